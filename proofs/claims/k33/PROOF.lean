import PyProof.Rows.All
import Wide.All
import OpenK.AllK
import Wide.FinOn
import HandS.ForMost
import HandS.ForExc
import HandS.IsInst
import PySem.Challenge.RW_overpasses_k33_answers_by_labels
set_option Elab.async false
set_option linter.all false
set_option maxRecDepth 100000
set_option maxHeartbeats 4000000
/-! A layer of values over the hand layer: data, owned trees, states of slots. -/
namespace OV
open PySem PySem.Spec PyProof.Rows L2

inductive D where
  | non
  | bl (b : Bool)
  | int (i : Int)
  | str (x : Str)
  | lst (ds : List D)
  | frl (K : PySem.W.Frag) (ds : List D)
  | tup (ds : List D)
  | dk (es : List (Key × D))
  | dt (es : List (List Key × D))
abbrev Sg := L2.St
mutual
inductive Dat (H : Hp) : V → D → Prop
  | non : Dat H .non .non
  | bl (b : Bool) : Dat H (.bl b) (.bl b)
  | int (i : Int) : Dat H (.int i) (.int i)
  | str (x : Str) : Dat H (.str x) (.str x)
  | lst {a : Addr} {xs : List V} {ds : List D} : H a = some (.lst xs) → Dats H xs ds → Dat H (.ref a) (.lst ds)
  | frl {a : Addr} {xs : List V} {ds : List D} {K : PySem.W.Frag} : SqL K H a xs → Dats H xs ds → Dat H (.ref a) (.frl K ds)
  | tup {a : Addr} {xs : List V} {ds : List D} : H a = some (.tup xs) → Dats H xs ds → Dat H (.ref a) (.tup ds)
  | dK {a : Addr} {kvs : List (Key × V)} {es : List (Key × D)} : Rd H a (.dK kvs) → DatK H kvs es → Dat H (.ref a) (.dk es)
  | dT {a : Addr} {kvs : List (List Key × V)} {es : List (List Key × D)} : Rd H a (.dT kvs) → DatT H kvs es → Dat H (.ref a) (.dt es)
inductive Dats (H : Hp) : List V → List D → Prop
  | nil : Dats H [] []
  | cons {v : V} {vs : List V} {d : D} {ds : List D} : Dat H v d → Dats H vs ds → Dats H (v :: vs) (d :: ds)
inductive DatK (H : Hp) : List (Key × V) → List (Key × D) → Prop
  | nil : DatK H [] []
  | cons {k : Key} {v : V} {kvs : List (Key × V)} {d : D} {es : List (Key × D)} : Dat H v d → DatK H kvs es → DatK H ((k, v) :: kvs) ((k, d) :: es)
inductive DatT (H : Hp) : List (List Key × V) → List (List Key × D) → Prop
  | nil : DatT H [] []
  | cons {k : List Key} {v : V} {kvs : List (List Key × V)} {d : D} {es : List (List Key × D)} : Dat H v d → DatT H kvs es → DatT H ((k, v) :: kvs) ((k, d) :: es)
end
theorem rd_mono {H H' : Hp} (s : Same H H') {a : Addr} {o : HO} (h : Rd H a o) : Rd H' a o := by
  rcases h with h | ⟨u, h⟩
  · exact .inl (s _ _ h)
  · exact .inr ⟨u, s _ _ h⟩
mutual
theorem Dat.mono {H H' : Hp} (s : Same H H') : ∀ {v : V} {d : D}, Dat H v d → Dat H' v d
  | _, _, .non => .non
  | _, _, .bl b => .bl b
  | _, _, .int i => .int i
  | _, _, .str x => .str x
  | _, _, .lst r h => .lst (s _ _ r) (Dats.mono s h)
  | _, _, .frl r h => .frl (s.seq r) (Dats.mono s h)
  | _, _, .tup r h => .tup (s _ _ r) (Dats.mono s h)
  | _, _, .dK r h => .dK (rd_mono s r) (DatK.mono s h)
  | _, _, .dT r h => .dT (rd_mono s r) (DatT.mono s h)
theorem Dats.mono {H H' : Hp} (s : Same H H') : ∀ {vs : List V} {ds : List D}, Dats H vs ds → Dats H' vs ds
  | _, _, .nil => .nil
  | _, _, .cons a b => .cons (Dat.mono s a) (Dats.mono s b)
theorem DatK.mono {H H' : Hp} (s : Same H H') : ∀ {vs : List (Key × V)} {ds : List (Key × D)}, DatK H vs ds → DatK H' vs ds
  | _, _, .nil => .nil
  | _, _, .cons a b => .cons (Dat.mono s a) (DatK.mono s b)
theorem DatT.mono {H H' : Hp} (s : Same H H') : ∀ {vs : List (List Key × V)} {ds : List (List Key × D)}, DatT H vs ds → DatT H' vs ds
  | _, _, .nil => .nil
  | _, _, .cons a b => .cons (Dat.mono s a) (DatT.mono s b)
end

/-- a tree of what is held: frozen data, borrowed data, owned nodes -/
inductive W where
  | fz (d : D)
  | bo (d : D)
  | lst (ws : List W)
  | tup (ws : List W)
  | dk (es : List (Key × W))
  | dt (es : List (List Key × W))
  | ins (C : Addr) (fs : List (Str × W))
mutual
inductive Own (F Z H : Hp) : V → W → List Addr → Prop
  | fz {v : V} {d : D} : Dat F v d → Own F Z H v (.fz d) []
  | bo {v : V} {d : D} : Dat Z v d → Own F Z H v (.bo d) []
  | lst {a : Addr} {vs : List V} {ws : List W} {fp : List Addr} : H a = some (.lst vs) → Owns F Z H vs ws fp → Own F Z H (.ref a) (.lst ws) (a :: fp)
  | tup {a : Addr} {vs : List V} {ws : List W} {fp : List Addr} : H a = some (.tup vs) → Owns F Z H vs ws fp → Own F Z H (.ref a) (.tup ws) (a :: fp)
  | dk {a : Addr} {kvs : List (Key × V)} {es : List (Key × W)} {fp : List Addr} : H a = some (.dK kvs) → OwnK F Z H kvs es fp → Own F Z H (.ref a) (.dk es) (a :: fp)
  | dt {a : Addr} {kvs : List (List Key × V)} {es : List (List Key × W)} {fp : List Addr} : H a = some (.dT kvs) → OwnT F Z H kvs es fp → Own F Z H (.ref a) (.dt es) (a :: fp)
  | ins {a C dx : Addr} {kvs : List (Str × V)} {es : List (Str × W)} {fp : List Addr} : H a = some (.ins C dx kvs) → OwnF F Z H kvs es fp → Own F Z H (.ref a) (.ins C es) (a :: fp)
inductive Owns (F Z H : Hp) : List V → List W → List Addr → Prop
  | nil : Owns F Z H [] [] []
  | cons {v : V} {vs : List V} {w : W} {ws : List W} {f g : List Addr} : Own F Z H v w f → Owns F Z H vs ws g → Owns F Z H (v :: vs) (w :: ws) (f ++ g)
inductive OwnK (F Z H : Hp) : List (Key × V) → List (Key × W) → List Addr → Prop
  | nil : OwnK F Z H [] [] []
  | cons {k : Key} {v : V} {vs : List (Key × V)} {w : W} {ws : List (Key × W)} {f g : List Addr} : Own F Z H v w f → OwnK F Z H vs ws g → OwnK F Z H ((k, v) :: vs) ((k, w) :: ws) (f ++ g)
inductive OwnT (F Z H : Hp) : List (List Key × V) → List (List Key × W) → List Addr → Prop
  | nil : OwnT F Z H [] [] []
  | cons {k : List Key} {v : V} {vs : List (List Key × V)} {w : W} {ws : List (List Key × W)} {f g : List Addr} : Own F Z H v w f → OwnT F Z H vs ws g → OwnT F Z H ((k, v) :: vs) ((k, w) :: ws) (f ++ g)
inductive OwnF (F Z H : Hp) : List (Str × V) → List (Str × W) → List Addr → Prop
  | nil : OwnF F Z H [] [] []
  | cons {k : Str} {v : V} {vs : List (Str × V)} {w : W} {ws : List (Str × W)} {f g : List Addr} : Own F Z H v w f → OwnF F Z H vs ws g → OwnF F Z H ((k, v) :: vs) ((k, w) :: ws) (f ++ g)
end
/-- H' keeps what H has at fp -/
def Kp (fp : List Addr) (H H' : Hp) : Prop := ∀ b ∈ fp, ∀ o, H b = some o → H' b = some o
theorem _root_.L2.Same.kp {H H' : Hp} (s : Same H H') (fp : List Addr) : Kp fp H H' := fun b _ o e => s b o e
theorem Kp.l {f g : List Addr} {H H' : Hp} (k : Kp (f ++ g) H H') : Kp f H H' := fun b hb => k b (List.mem_append_left _ hb)
theorem Kp.r {f g : List Addr} {H H' : Hp} (k : Kp (f ++ g) H H') : Kp g H H' := fun b hb => k b (List.mem_append_right _ hb)
theorem Kp.t {a : Addr} {g : List Addr} {H H' : Hp} (k : Kp (a :: g) H H') : Kp g H H' := fun b hb => k b (List.mem_cons_of_mem _ hb)
theorem Kp.h {a : Addr} {g : List Addr} {H H' : Hp} (k : Kp (a :: g) H H') {o : HO} (e : H a = some o) : H' a = some o := k a List.mem_cons_self o e
section
variable {F F' Z Z' H H' : Hp} (sf : Same F F') (sz : Same Z Z')
include sf sz
mutual
theorem Own.frame : ∀ {v : V} {w : W} {fp : List Addr}, Kp fp H H' → Own F Z H v w fp → Own F' Z' H' v w fp
  | _, _, _, _, .fz h => .fz (h.mono sf)
  | _, _, _, _, .bo h => .bo (h.mono sz)
  | _, _, _, k, .lst e h => .lst (k.h e) (Owns.frame k.t h)
  | _, _, _, k, .tup e h => .tup (k.h e) (Owns.frame k.t h)
  | _, _, _, k, .dk e h => .dk (k.h e) (OwnK.frame k.t h)
  | _, _, _, k, .dt e h => .dt (k.h e) (OwnT.frame k.t h)
  | _, _, _, k, .ins e h => .ins (k.h e) (OwnF.frame k.t h)
theorem Owns.frame : ∀ {v : List V} {w : List W} {fp : List Addr}, Kp fp H H' → Owns F Z H v w fp → Owns F' Z' H' v w fp
  | _, _, _, _, .nil => .nil
  | _, _, _, k, .cons a b => .cons (Own.frame k.l a) (Owns.frame k.r b)
theorem OwnK.frame : ∀ {v : List (Key × V)} {w : List (Key × W)} {fp : List Addr}, Kp fp H H' → OwnK F Z H v w fp → OwnK F' Z' H' v w fp
  | _, _, _, _, .nil => .nil
  | _, _, _, k, .cons a b => .cons (Own.frame k.l a) (OwnK.frame k.r b)
theorem OwnT.frame : ∀ {v : List (List Key × V)} {w : List (List Key × W)} {fp : List Addr}, Kp fp H H' → OwnT F Z H v w fp → OwnT F' Z' H' v w fp
  | _, _, _, _, .nil => .nil
  | _, _, _, k, .cons a b => .cons (Own.frame k.l a) (OwnT.frame k.r b)
theorem OwnF.frame : ∀ {v : List (Str × V)} {w : List (Str × W)} {fp : List Addr}, Kp fp H H' → OwnF F Z H v w fp → OwnF F' Z' H' v w fp
  | _, _, _, _, .nil => .nil
  | _, _, _, k, .cons a b => .cons (Own.frame k.l a) (OwnF.frame k.r b)
end
end
section
variable {F Z H : Hp}
mutual
theorem Own.there : ∀ {v : V} {w : W} {fp : List Addr}, Own F Z H v w fp → ∀ a ∈ fp, ∃ o, H a = some o
  | _, _, _, .fz _ => fun _ h => nomatch h
  | _, _, _, .bo _ => fun _ h => nomatch h
  | _, _, _, .lst e h => fun a m => (List.mem_cons.mp m).elim (fun z => z ▸ ⟨_, e⟩) (Owns.there h a)
  | _, _, _, .tup e h => fun a m => (List.mem_cons.mp m).elim (fun z => z ▸ ⟨_, e⟩) (Owns.there h a)
  | _, _, _, .dk e h => fun a m => (List.mem_cons.mp m).elim (fun z => z ▸ ⟨_, e⟩) (OwnK.there h a)
  | _, _, _, .dt e h => fun a m => (List.mem_cons.mp m).elim (fun z => z ▸ ⟨_, e⟩) (OwnT.there h a)
  | _, _, _, .ins e h => fun a m => (List.mem_cons.mp m).elim (fun z => z ▸ ⟨_, e⟩) (OwnF.there h a)
theorem Owns.there : ∀ {v : List V} {w : List W} {fp : List Addr}, Owns F Z H v w fp → ∀ a ∈ fp, ∃ o, H a = some o
  | _, _, _, .nil => fun _ h => nomatch h
  | _, _, _, .cons a b => fun c m => (List.mem_append.mp m).elim (Own.there a c) (Owns.there b c)
theorem OwnK.there : ∀ {v : List (Key × V)} {w : List (Key × W)} {fp : List Addr}, OwnK F Z H v w fp → ∀ a ∈ fp, ∃ o, H a = some o
  | _, _, _, .nil => fun _ h => nomatch h
  | _, _, _, .cons a b => fun c m => (List.mem_append.mp m).elim (Own.there a c) (OwnK.there b c)
theorem OwnT.there : ∀ {v : List (List Key × V)} {w : List (List Key × W)} {fp : List Addr}, OwnT F Z H v w fp → ∀ a ∈ fp, ∃ o, H a = some o
  | _, _, _, .nil => fun _ h => nomatch h
  | _, _, _, .cons a b => fun c m => (List.mem_append.mp m).elim (Own.there a c) (OwnT.there b c)
theorem OwnF.there : ∀ {v : List (Str × V)} {w : List (Str × W)} {fp : List Addr}, OwnF F Z H v w fp → ∀ a ∈ fp, ∃ o, H a = some o
  | _, _, _, .nil => fun _ h => nomatch h
  | _, _, _, .cons a b => fun c m => (List.mem_append.mp m).elim (Own.there a c) (OwnF.there b c)
end
end
/-! ### a tree as data -/
mutual
def W.er : W → D
  | .fz d => d
  | .bo d => d
  | .lst ws => .lst (W.ers ws)
  | .tup ws => .tup (W.ers ws)
  | .dk es => .dk (W.erk es)
  | .dt es => .dt (W.ert es)
  | .ins _ _ => .non
def W.ers : List W → List D
  | [] => []
  | w :: ws => w.er :: W.ers ws
def W.erk : List (Key × W) → List (Key × D)
  | [] => []
  | (k, w) :: ws => (k, w.er) :: W.erk ws
def W.ert : List (List Key × W) → List (List Key × D)
  | [] => []
  | (k, w) :: ws => (k, w.er) :: W.ert ws
end
/-! no instance in it -/
mutual
def W.pl : W → Bool
  | .fz _ => true
  | .bo _ => true
  | .lst ws => W.pls ws
  | .tup ws => W.pls ws
  | .dk es => W.plk es
  | .dt es => W.plt es
  | .ins _ _ => false
def W.pls : List W → Bool
  | [] => true
  | w :: ws => w.pl && W.pls ws
def W.plk : List (Key × W) → Bool
  | [] => true
  | (k, w) :: ws => w.pl && W.plk ws
def W.plt : List (List Key × W) → Bool
  | [] => true
  | (k, w) :: ws => w.pl && W.plt ws
end
/-! nothing borrowed in it -/
mutual
def W.nb : W → Bool
  | .fz _ => true
  | .bo _ => false
  | .lst ws => W.nbs ws
  | .tup ws => W.nbs ws
  | .dk es => W.nbk es
  | .dt es => W.nbt es
  | .ins _ es => W.nbf es
def W.nbs : List W → Bool
  | [] => true
  | w :: ws => w.nb && W.nbs ws
def W.nbk : List (Key × W) → Bool
  | [] => true
  | (k, w) :: ws => w.nb && W.nbk ws
def W.nbt : List (List Key × W) → Bool
  | [] => true
  | (k, w) :: ws => w.nb && W.nbt ws
def W.nbf : List (Str × W) → Bool
  | [] => true
  | (k, w) :: ws => w.nb && W.nbf ws
end
theorem ers_map {α : Type} (f : α → W) : ∀ xs : List α, W.ers (xs.map f) = xs.map fun x => (f x).er
  | [] => rfl
  | x :: xs => by rw [List.map_cons, List.map_cons, ← ers_map f xs]; rfl
theorem pls_map {α : Type} (f : α → W) (h : ∀ x, (f x).pl = true) : ∀ xs : List α, W.pls (xs.map f) = true
  | [] => rfl
  | x :: xs => by show ((f x).pl && W.pls (xs.map f)) = true; rw [h x, pls_map f h xs]; rfl
theorem nbs_map {α : Type} (f : α → W) (h : ∀ x, (f x).nb = true) : ∀ xs : List α, W.nbs (xs.map f) = true
  | [] => rfl
  | x :: xs => by show ((f x).nb && W.nbs (xs.map f)) = true; rw [h x, nbs_map f h xs]; rfl
section
variable {F Z H G : Hp} (fz : Same F G) (zh : Same Z G)
include fz zh
mutual
theorem Own.dat : ∀ {v : V} {w : W} {fp : List Addr}, Kp fp H G → w.pl = true → Own F Z H v w fp → Dat G v w.er
  | _, _, _, _, _, .fz h => h.mono fz
  | _, _, _, _, _, .bo h => h.mono zh
  | _, _, _, k, p, .lst e h => .lst (k.h e) (Owns.dat k.t p h)
  | _, _, _, k, p, .tup e h => .tup (k.h e) (Owns.dat k.t p h)
  | _, _, _, k, p, .dk e h => .dK (.inl (k.h e)) (OwnK.dat k.t p h)
  | _, _, _, k, p, .dt e h => .dT (.inl (k.h e)) (OwnT.dat k.t p h)
  | _, _, _, _, p, .ins _ _ => nomatch p
theorem Owns.dat : ∀ {v : List V} {w : List W} {fp : List Addr}, Kp fp H G → W.pls w = true → Owns F Z H v w fp → Dats G v (W.ers w)
  | _, _, _, _, _, .nil => .nil
  | _, _, _, k, p, .cons a b => .cons (Own.dat k.l (Bool.and_eq_true_iff.mp p).1 a) (Owns.dat k.r (Bool.and_eq_true_iff.mp p).2 b)
theorem OwnK.dat : ∀ {v : List (Key × V)} {w : List (Key × W)} {fp : List Addr}, Kp fp H G → W.plk w = true → OwnK F Z H v w fp → DatK G v (W.erk w)
  | _, _, _, _, _, .nil => .nil
  | _, _, _, k, p, .cons a b => .cons (Own.dat k.l (Bool.and_eq_true_iff.mp p).1 a) (OwnK.dat k.r (Bool.and_eq_true_iff.mp p).2 b)
theorem OwnT.dat : ∀ {v : List (List Key × V)} {w : List (List Key × W)} {fp : List Addr}, Kp fp H G → W.plt w = true → OwnT F Z H v w fp → DatT G v (W.ert w)
  | _, _, _, _, _, .nil => .nil
  | _, _, _, k, p, .cons a b => .cons (Own.dat k.l (Bool.and_eq_true_iff.mp p).1 a) (OwnT.dat k.r (Bool.and_eq_true_iff.mp p).2 b)
end
end
section
variable {F Z Z' H : Hp}
mutual
theorem Own.nbz : ∀ {v : V} {w : W} {fp : List Addr}, w.nb = true → Own F Z H v w fp → Own F Z' H v w fp
  | _, _, _, _, .fz h => .fz h
  | _, _, _, p, .bo h => nomatch p
  | _, _, _, p, .lst e h => .lst e (Owns.nbz p h)
  | _, _, _, p, .tup e h => .tup e (Owns.nbz p h)
  | _, _, _, p, .dk e h => .dk e (OwnK.nbz p h)
  | _, _, _, p, .dt e h => .dt e (OwnT.nbz p h)
  | _, _, _, p, .ins e h => .ins e (OwnF.nbz p h)
theorem Owns.nbz : ∀ {v : List V} {w : List W} {fp : List Addr}, W.nbs w = true → Owns F Z H v w fp → Owns F Z' H v w fp
  | _, _, _, _, .nil => .nil
  | _, _, _, p, .cons a b => .cons (Own.nbz (Bool.and_eq_true_iff.mp p).1 a) (Owns.nbz (Bool.and_eq_true_iff.mp p).2 b)
theorem OwnK.nbz : ∀ {v : List (Key × V)} {w : List (Key × W)} {fp : List Addr}, W.nbk w = true → OwnK F Z H v w fp → OwnK F Z' H v w fp
  | _, _, _, _, .nil => .nil
  | _, _, _, p, .cons a b => .cons (Own.nbz (Bool.and_eq_true_iff.mp p).1 a) (OwnK.nbz (Bool.and_eq_true_iff.mp p).2 b)
theorem OwnT.nbz : ∀ {v : List (List Key × V)} {w : List (List Key × W)} {fp : List Addr}, W.nbt w = true → OwnT F Z H v w fp → OwnT F Z' H v w fp
  | _, _, _, _, .nil => .nil
  | _, _, _, p, .cons a b => .cons (Own.nbz (Bool.and_eq_true_iff.mp p).1 a) (OwnT.nbz (Bool.and_eq_true_iff.mp p).2 b)
theorem OwnF.nbz : ∀ {v : List (Str × V)} {w : List (Str × W)} {fp : List Addr}, W.nbf w = true → OwnF F Z H v w fp → OwnF F Z' H v w fp
  | _, _, _, _, .nil => .nil
  | _, _, _, p, .cons a b => .cons (Own.nbz (Bool.and_eq_true_iff.mp p).1 a) (OwnF.nbz (Bool.and_eq_true_iff.mp p).2 b)
end
end
theorem Dats.len {H : Hp} : ∀ {vs : List V} {ds : List D}, Dats H vs ds → vs.length = ds.length
  | _, _, .nil => rfl
  | _, _, .cons _ t => congrArg (· + 1) t.len
theorem Dats.get {H : Hp} : ∀ {vs : List V} {ds : List D} {i : Nat} {d : D}, Dats H vs ds → ds[i]? = some d → ∃ v, vs[i]? = some v ∧ Dat H v d
  | _, _, _, _, .nil, e => by simp at e
  | _, _, 0, _, .cons h _, e => by simp at e; subst e; exact ⟨_, rfl, h⟩
  | _, _, i + 1, d, .cons _ t, e => by
    obtain ⟨v, h1, h2⟩ := Dats.get (i := i) (d := d) t (by simpa using e)
    exact ⟨v, by simpa using h1, h2⟩
theorem Owns.len {F Z H : Hp} : ∀ {vs : List V} {ds : List W} {fp : List Addr}, Owns F Z H vs ds fp → vs.length = ds.length
  | _, _, _, .nil => rfl
  | _, _, _, .cons _ t => congrArg (· + 1) t.len
theorem Owns.get {F Z H : Hp} : ∀ {vs : List V} {ds : List W} {fp : List Addr} {i : Nat} {d : W}, Owns F Z H vs ds fp → ds[i]? = some d → ∃ v g, vs[i]? = some v ∧ Own F Z H v d g ∧ ∀ a ∈ g, a ∈ fp
  | _, _, _, _, _, .nil, e => by simp at e
  | _, _, _, 0, _, .cons h _, e => by simp at e; subst e; exact ⟨_, _, rfl, h, fun a => List.mem_append_left _⟩
  | _, _, _, i + 1, d, .cons _ t, e => by
    obtain ⟨v, g, h1, h2, h3⟩ := Owns.get (i := i) (d := d) t (by simpa using e)
    exact ⟨v, g, by simpa using h1, h2, fun a m => List.mem_append_right _ (h3 a m)⟩

/-! ### a def's run: the entry, the state -/
structure Bs where
  F0 : Hp
  Z0 : Hp
  H0 : Hp
  P : Addr → Prop
  pn : List (Nat × V)
abbrev Dl := List (Option W)
structure RR (B : Bs) (σ : Sg) (δ : Dl) (H F Z : Hp) (φ : Nat → List Addr) : Prop where
  len : σ.length = δ.length
  own : ∀ i w, δ[i]? = some (some w) → ∃ v, σ[i]? = some (some v) ∧ Own F Z H v w (φ i)
  nd : ∀ i, (φ i).Nodup
  dj : ∀ i j a, a ∈ φ i → a ∈ φ j → i = j
  nz : ∀ i a, a ∈ φ i → Z a = none
  th : ∀ i a, a ∈ φ i → ∃ o, H a = some o
  new : ∀ i a, a ∈ φ i → B.H0 a = none ∨ B.P a
  fz : Same F Z
  zh : Same Z H
  f0 : Same B.F0 F
  z0 : Same B.Z0 Z
  keep : ∀ b o, B.H0 b = some o → ¬ B.P b → H b = some o
  pt : ∀ b, B.P b → ∃ o, H b = some o
  newF : ∀ b o, F b = some o → B.F0 b = some o ∨ B.H0 b = none ∨ B.P b
  pin : ∀ p ∈ B.pn, σ[p.1]? = some (some p.2)
  fin : ∃ n, ∀ i, n ≤ i → φ i = []
  gb : ∀ i, δ[i]? = some none → φ i = []
abbrev pks (B : Bs) : List Nat := B.pn.map (·.1)
section
variable {B : Bs} {σ : Sg} {δ : Dl} {H H' F F' Z Z' : Hp} {φ : Nat → List Addr} {p : Addr} {o : HO}
theorem RR.fh (R : RR B σ δ H F Z φ) : Same F H := R.fz.trans R.zh
theorem RR.new0 (R : RR B σ δ H F Z φ) (n : H p = none) : B.H0 p = none ∨ B.P p := by
  by_cases q : B.P p
  · exact .inr q
  · refine .inl ?_
    cases e : B.H0 p with
    | none => rfl
    | some o => have := R.keep p o e q; rw [n] at this; cases this
theorem same_upd {H : Hp} {p : Addr} {o : HO} (h : H p = none) : Same H (upd H p o) := fun b x e => by
  rw [upd_ne (ne_of_none e h)]
  exact e
theorem RR.grow (R : RR B σ δ H F Z φ) (s : Same H H') : RR B σ δ H' F Z φ where
  len := R.len
  own := fun i w e => let ⟨v, h1, h2⟩ := R.own i w e; ⟨v, h1, h2.frame (Same.refl _) (Same.refl _) (s.kp _)⟩
  nd := R.nd
  dj := R.dj
  nz := R.nz
  th := fun i a h => let ⟨o, e⟩ := R.th i a h; ⟨o, s _ _ e⟩
  new := R.new
  fz := R.fz
  zh := R.zh.trans s
  f0 := R.f0
  z0 := R.z0
  keep := fun b o e n => s _ _ (R.keep b o e n)
  pt := fun b e => let ⟨o, e⟩ := R.pt b e; ⟨o, s _ _ e⟩
  newF := R.newF
  pin := R.pin
  fin := R.fin
  gb := R.gb
theorem Z_none (R : RR B σ δ H F Z φ) (n : H p = none) : Z p = none := R.zh.free n
theorem F_none (R : RR B σ δ H F Z φ) (n : H p = none) : F p = none := R.fh.free n
/-- a new object, frozen at once -/
theorem RR.laid (R : RR B σ δ H F Z φ) (n : H p = none) : RR B σ δ (upd H p o) (upd F p o) (upd Z p o) φ where
  len := R.len
  own := fun i w e => let ⟨v, h1, h2⟩ := R.own i w e; ⟨v, h1, h2.frame (same_upd (F_none R n)) (same_upd (Z_none R n)) ((same_upd n).kp _)⟩
  nd := R.nd
  dj := R.dj
  nz := fun i a h => by
    obtain ⟨u, e⟩ := R.th i a h
    rw [upd_ne (ne_of_none e n)]
    exact R.nz i a h
  th := fun i a h => let ⟨o, e⟩ := R.th i a h; ⟨o, same_upd n _ _ e⟩
  new := R.new
  fz := fun b x e => by
    by_cases q : b = p
    · subst q; rw [upd_same] at e ⊢; exact e
    · rw [upd_ne q] at e ⊢; exact R.fz b x e
  zh := fun b x e => by
    by_cases q : b = p
    · subst q; rw [upd_same] at e ⊢; exact e
    · rw [upd_ne q] at e ⊢; exact R.zh b x e
  f0 := R.f0.trans (same_upd (F_none R n))
  z0 := R.z0.trans (same_upd (Z_none R n))
  keep := fun b o e q => same_upd n _ _ (R.keep b o e q)
  pt := fun b e => let ⟨o, e⟩ := R.pt b e; ⟨o, same_upd n _ _ e⟩
  newF := fun b x e => by
    by_cases q : b = p
    · subst q; exact .inr (R.new0 n)
    · rw [upd_ne q] at e; exact R.newF b x e
  pin := R.pin
  fin := R.fin
  gb := R.gb
end
end OV

namespace OV
open PySem PySem.Spec PyProof.Rows L2
/-! ### what a piece of syntax does, as its own reading -/
def SemE (X : Cx) (e : Expr) : TE := fun σ H Q => ∀ pins s, Inv X pins σ H s → wpAny (model X.prog X.w) X.A (eval e X.env) (EP X pins σ Q) X.xe s
def SemT (X : Cx) (e : Expr) : TT := fun σ H Q => ∀ pins s, Inv X pins σ H s → wpAny (model X.prog X.w) X.A (isTrue e X.env (eval e X.env)) (TP X pins σ Q) X.xe s
def SemA (X : Cx) (es : List Expr) : TA := fun σ H Q => ∀ pos pins s, Inv X pins σ H s → wpAny (model X.prog X.w) X.A (spliced (backTo pos (starEach es X.env))) (AP X pins σ Q) X.xe s
def SemS (X : Cx) (st : Stmt) : TS := fun D σ H => ∀ pins s, Inv X pins σ H s → wpAny (model X.prog X.w) X.A (exec st X.env) (SP X pins D) X.xe s
def SemSs (X : Cx) (st : List Stmt) : TS := fun D σ H => ∀ pins s, Inv X pins σ H s → wpAny (model X.prog X.w) X.A (execs st X.env) (SP X pins D) X.xe s
def SemG (X : Cx) (tg : Expr) : TG := fun v σ H Q => ∀ pins s u, Inv X pins σ H s → RelV v u →
  wpAny (model X.prog X.w) X.A (assign tg X.env u) (fun _ s' => ∃ σ' H', Inv X pins σ' H' s' ∧ Q σ' H') X.xe s
section
variable {X : Cx} {e : Expr} {es : List Expr} {st : Stmt} {sts : List Stmt}
theorem pe_sem : PE X e (SemE X e) := ⟨fun pins s _ _ _ I h => h pins s I⟩
theorem pt_sem : PT X e (SemT X e) := ⟨fun pins s _ _ _ I h => h pins s I⟩
theorem pa_sem : PA X es (SemA X es) := ⟨fun pos pins s _ _ _ I h => h pos pins s I⟩
theorem ps_sem : PS X st (SemS X st) := ⟨fun pins s _ _ _ I h => h pins s I⟩
theorem pss_sem : PSs X sts (SemSs X sts) := ⟨fun pins s _ _ _ I h => h pins s I⟩
theorem pg_sem : PG X e (SemG X e) := ⟨fun pins s _ _ _ u _ I r h => h pins s u I r⟩
theorem PE.sem {t : TE} {σ : Sg} {H : Hp} {Q : VK} (p : PE X e t) (h : t σ H Q) : SemE X e σ H Q := fun pins s I => p.run pins s σ H Q I h
theorem PT.sem {t : TT} {σ : Sg} {H : Hp} {Q : Bool → Hp → Prop} (p : PT X e t) (h : t σ H Q) : SemT X e σ H Q := fun pins s I => p.run pins s σ H Q I h
theorem PA.sem {t : TA} {σ : Sg} {H : Hp} {Q : List V → Hp → Prop} (p : PA X es t) (h : t σ H Q) : SemA X es σ H Q := fun pos pins s I => p.run pos pins s σ H Q I h
theorem PS.sem {t : TS} {σ : Sg} {H : Hp} {E : Ends} (p : PS X st t) (h : t E σ H) : SemS X st E σ H := fun pins s I => p.run pins s σ H E I h
theorem PSs.sem {t : TS} {σ : Sg} {H : Hp} {E : Ends} (p : PSs X sts t) (h : t E σ H) : SemSs X sts E σ H := fun pins s I => p.run pins s σ H E I h
theorem PG.sem {t : TG} {v : V} {σ : Sg} {H : Hp} {Q : Sg → Hp → Prop} (p : PG X e t) (h : t v σ H Q) : SemG X e v σ H Q := fun pins s u I r => p.run pins s σ H v u Q I r h
theorem SemE.mono {σ : Sg} {H : Hp} {Q Q' : VK} (h : SemE X e σ H Q) (k : ∀ v H', Q v H' → Q' v H') : SemE X e σ H Q' := fun pins s I =>
  thn (h pins s I) fun _ _ ⟨v, H', I', r, q⟩ => ⟨v, H', I', r, k v H' q⟩
/-- one list of ends is stronger than another -/
structure EndLe (E E' : Ends) : Prop where
  nx : ∀ σ H, E.nx σ H → E'.nx σ H
  rt : ∀ v H, E.rt v H → E'.rt v H
  bk : ∀ σ H, E.bk σ H → E'.bk σ H
  ct : ∀ σ H, E.ct σ H → E'.ct σ H
theorem sp_mono {pins : List (Addr × Obj)} {E E' : Ends} (l : EndLe E E') {f : Flow} {s : Shared} (h : SP X pins E f s) : SP X pins E' f s := by
  cases f with
  | next => obtain ⟨σ', H', I, q⟩ := h; exact ⟨σ', H', I, l.nx _ _ q⟩
  | brk => obtain ⟨σ', H', I, q⟩ := h; exact ⟨σ', H', I, l.bk _ _ q⟩
  | cont => obtain ⟨σ', H', I, q⟩ := h; exact ⟨σ', H', I, l.ct _ _ q⟩
  | ret u => obtain ⟨v, σ', H', I, r, q⟩ := h; exact ⟨v, σ', H', I, r, l.rt _ _ q⟩
theorem SemS.mono {σ : Sg} {H : Hp} {E E' : Ends} (h : SemS X st E σ H) (l : EndLe E E') : SemS X st E' σ H := fun pins s I => thn (h pins s I) fun _ _ q => sp_mono l q
theorem SemSs.mono {σ : Sg} {H : Hp} {E E' : Ends} (h : SemSs X sts E σ H) (l : EndLe E E') : SemSs X sts E' σ H := fun pins s I => thn (h pins s I) fun _ _ q => sp_mono l q
end

/-! ### expressions -/
structure Fresh (B : Bs) (Z : Hp) (φ : Nat → List Addr) (fp : List Addr) : Prop where
  nd : fp.Nodup
  z : ∀ a ∈ fp, Z a = none
  d : ∀ a ∈ fp, ∀ i, a ∉ φ i
  n : ∀ a ∈ fp, B.H0 a = none ∨ B.P a
theorem Fresh.nil {B : Bs} {Z : Hp} {φ : Nat → List Addr} : Fresh B Z φ [] := ⟨.nil, fun _ h => (nomatch h), fun _ h => (nomatch h), fun _ h => (nomatch h)⟩
/-- from a state to another: what is not the slots' is kept -/
structure Aft (H F Z : Hp) (φ : Nat → List Addr) (H' F' Z' : Hp) (φ' : Nat → List Addr) (fp : List Addr) : Prop where
  kp : ∀ c o, H c = some o → (∀ i, c ∉ φ i) → H' c = some o
  sf : Same F F'
  sz : Same Z Z'
  nfp : ∀ c ∈ fp, H c = none ∨ ∃ i, c ∈ φ i
  nph : ∀ i, ∀ c ∈ φ' i, H c = none ∨ ∃ j, c ∈ φ j
/-- e gives a value of the tree w, and the state stays (the heap may grow) -/
def EvV (X : Cx) (δ : Dl) (e : Expr) (w : W) : Prop := ∀ (B : Bs) σ H F Z φ (Q : VK), RR B σ δ H F Z φ →
  (∀ v H' F' Z' fp, RR B σ δ H' F' Z' φ → Same H H' → Same F F' → Same Z Z' → Own F' Z' H' v w fp → Q v H') → SemE X e σ H Q
/-- e gives a value of the tree w, which is nobody else's; behind it the slots hold δ' -/
def EvC (X : Cx) (δ : Dl) (e : Expr) (w : W) (δ' : Dl) : Prop := ∀ (B : Bs) σ H F Z φ (Q : VK), RR B σ δ H F Z φ →
  (∀ v H' F' Z' φ' fp, RR B σ δ' H' F' Z' φ' → Aft H F Z φ H' F' Z' φ' fp → Own F' Z' H' v w fp → Fresh B Z' φ' fp → Q v H') → SemE X e σ H Q
def EvT (X : Cx) (δ : Dl) (e : Expr) (b : Bool) : Prop := ∀ (B : Bs) σ H F Z φ (Q : Bool → Hp → Prop), RR B σ δ H F Z φ →
  (∀ H' F' Z', RR B σ δ H' F' Z' φ → Same H H' → Same F F' → Same Z Z' → Q b H') → SemT X e σ H Q
/-- no node of its own -/
def W.leaf : W → Bool
  | .fz _ => true
  | .bo _ => true
  | _ => false
theorem Own.leaf {F Z H : Hp} {v : V} {w : W} {fp : List Addr} (h : Own F Z H v w fp) (l : w.leaf = true) : fp = [] := by
  cases h <;> first | rfl | nomatch l
section
variable {X : Cx} {δ δ' : Dl} {e a b c : Expr} {w w1 w2 w3 : W} {d : D} {pos : Pos}
theorem RR.aft {B : Bs} {σ : Sg} {H F Z H' F' Z' : Hp} {φ : Nat → List Addr} (R : RR B σ δ H F Z φ) (s : Same H H') (sf : Same F F') (sz : Same Z Z') : Aft H F Z φ H' F' Z' φ [] :=
  ⟨fun c o e _ => s c o e, sf, sz, fun _ h => (nomatch h), fun i c h => .inr ⟨i, h⟩⟩
/-- a leaf that is read is a leaf that one has -/
theorem EvV.toC (h : EvV X δ e w) (l : w.leaf = true := by rfl) : EvC X δ e w δ := fun B σ H F Z φ Q R k =>
  h B σ H F Z φ Q R fun v H' F' Z' fp R' s sf sz o => by
    have e := o.leaf l
    subst e
    exact k v H' F' Z' φ [] R' (R.aft s sf sz) o .nil
/-- what is read may be borrowed -/
def Bor (X : Cx) (δ : Dl) (e : Expr) (d : D) : Prop := ∀ (B : Bs) σ H F Z φ (Q : VK), RR B σ δ H F Z φ →
  (∀ v H' F' Z', RR B σ δ H' F' Z' φ → Same H H' → Same F F' → Same Z Z' → Dat H' v d → Q v H') → SemE X e σ H Q
theorem EvV.bor (h : EvV X δ e w) (p : w.pl = true := by rfl) : Bor X δ e w.er := fun B σ H F Z φ Q R k =>
  h B σ H F Z φ Q R fun v H' F' Z' fp R' s sf sz o => k v H' F' Z' R' s sf sz (o.dat (G := H') R'.fh R'.zh ((Same.refl H').kp fp) p)
theorem ev_var (i : Nat) {x : Str} (hN : X.N[i]? = some x) (hv : Vis X.env.scope x) (hδ : δ[i]? = some (some w)) (hd : (x == ("__debug__" : Str)) = false := by decide) (hcd : (x == ("__classdict__" : Str)) = false := by decide) : EvV X δ (.Name x pos) w := by
  intro B σ H F Z φ Q R k
  obtain ⟨v, h1, h2⟩ := R.own i w hδ
  exact PE.sem (pe_var hN hv hd hcd) ⟨v, h1, k v H F Z _ R (Same.refl _) (Same.refl _) (Same.refl _) h2⟩
theorem ev_int {i : Int} {j} : EvV X δ (.Constant (.int i) j pos) (.fz (.int i)) := fun B σ H F Z φ Q R k => PE.sem pe_int (k _ H F Z [] R (Same.refl _) (Same.refl _) (Same.refl _) (.fz (.int i)))
theorem ev_bl {i : Bool} {j} : EvV X δ (.Constant (.bool i) j pos) (.fz (.bl i)) := fun B σ H F Z φ Q R k => PE.sem pe_bl (k _ H F Z [] R (Same.refl _) (Same.refl _) (Same.refl _) (.fz (.bl i)))
theorem ev_non {j} : EvV X δ (.Constant .none j pos) (.fz .non) := fun B σ H F Z φ Q R k => PE.sem pe_non (k _ H F Z [] R (Same.refl _) (Same.refl _) (Same.refl _) (.fz .non))
theorem ev_str {x : Str} {j} : EvV X δ (.Constant (.str x) j pos) (.fz (.str x)) := fun B σ H F Z φ Q R k => PE.sem pe_str (k _ H F Z [] R (Same.refl _) (Same.refl _) (Same.refl _) (.fz (.str x)))
theorem ev_globI {x : Str} {i : Int} {t : Tok} (hg : Gl X x) (hm : X.mg x = some (.int i t)) (hd : (x == ("__debug__" : Str)) = false := by decide) : EvV X δ (.Name x pos) (.fz (.int i)) := fun B σ H F Z φ Q R k =>
  PE.sem (pe_glob (v := .int i) hg hm ⟨t, rfl⟩ hd) (k _ H F Z [] R (Same.refl _) (Same.refl _) (Same.refl _) (.fz (.int i)))
theorem ev_globS {x : Str} {i : Str} {t : Tok} (hg : Gl X x) (hm : X.mg x = some (.str i t)) (hd : (x == ("__debug__" : Str)) = false := by decide) : EvV X δ (.Name x pos) (.fz (.str i)) := fun B σ H F Z φ Q R k =>
  PE.sem (pe_glob (v := .str i) hg hm ⟨t, rfl⟩ hd) (k _ H F Z [] R (Same.refl _) (Same.refl _) (Same.refl _) (.fz (.str i)))

/-! two things read one behind the other -/
theorem ev_two (ha : EvV X δ a w1) (hb : EvV X δ b w2) {B : Bs} {σ : Sg} {H F Z : Hp} {φ : Nat → List Addr} (R : RR B σ δ H F Z φ) {K : V → V → Hp → Prop}
    (k : ∀ v1 v2 H' F' Z' f1 f2, RR B σ δ H' F' Z' φ → Same H H' → Same F F' → Same Z Z' → Own F' Z' H' v1 w1 f1 → Own F' Z' H' v2 w2 f2 → K v1 v2 H') :
    SemE X a σ H fun x H1 => SemE X b σ H1 fun y H2 => K x y H2 :=
  ha B σ H F Z φ _ R fun v1 H1 F1 Z1 f1 R1 s1 sf1 sz1 o1 => hb B σ H1 F1 Z1 φ _ R1 fun v2 H2 F2 Z2 f2 R2 s2 sf2 sz2 o2 =>
    k v1 v2 H2 F2 Z2 f1 f2 R2 (s1.trans s2) (sf1.trans sf2) (sz1.trans sz2) (o1.frame sf2 sz2 (s2.kp _)) o2
/-- a two-place operation whose answer has no cell -/
def OpW (X : Cx) (f : Value → Value → Sem Value) (w1 w2 : W) (d : D) : Prop := ∃ r, OpR X f r ∧ ∀ v1 v2 H F Z f1 f2 (Q : VK), Same F Z → Same Z H → Own F Z H v1 w1 f1 → Own F Z H v2 w2 f2 →
  (∀ v3, (∀ G, Dat G v3 d) → Q v3 H) → r v1 v2 H Q
theorem ev_bin {op : Operator} (ha : EvV X δ a w1) (hb : EvV X δ b w2) (ho : OpW X (binaryOp op) w1 w2 d) : EvV X δ (.BinOp a op b pos) (.fz d) := by
  obtain ⟨r, hr, hq⟩ := ho
  intro B σ H F Z φ Q R k
  exact PE.sem (pe_op hr pe_sem pe_sem) (ev_two ha hb R fun v1 v2 H' F' Z' f1 f2 R' s sf sz o1 o2 => hq v1 v2 H' F' Z' f1 f2 Q R'.fz R'.zh o1 o2 fun v3 h => k v3 H' F' Z' [] R' s sf sz (.fz (h F')))
theorem ev_cmp {op : CmpOp} (ha : EvV X δ a w1) (hb : EvV X δ b w2) (ho : OpW X (compareOp op) w1 w2 d) (hm : behindInMarks op b = false) : EvV X δ (.Compare a [op] [b] pos) (.fz d) := by
  obtain ⟨r, hr, hq⟩ := ho
  intro B σ H F Z φ Q R k
  exact PE.sem (pe_cmpR hr pe_sem pe_sem hm) (ev_two ha hb R fun v1 v2 H' F' Z' f1 f2 R' s sf sz o1 o2 => hq v1 v2 H' F' Z' f1 f2 Q R'.fz R'.zh o1 o2 fun v3 h => k v3 H' F' Z' [] R' s sf sz (.fz (h F')))
theorem et_cmp {op : CmpOp} {k : Bool} (ha : EvV X δ a w1) (hb : EvV X δ b w2) (ho : OpW X (compareOp op) w1 w2 (.bl k)) (hm : behindInMarks op b = false) : EvT X δ (.Compare a [op] [b] pos) k := by
  obtain ⟨r, hr, hq⟩ := ho
  intro B σ H F Z φ Q R q
  refine PT.sem (pt_cmpR hr pe_sem pe_sem hm) (ev_two ha hb R fun v1 v2 H' F' Z' f1 f2 R' s sf sz o1 o2 => hq v1 v2 H' F' Z' f1 f2 _ R'.fz R'.zh o1 o2 fun v3 h => ?_)
  cases h H'
  exact ⟨k, rfl, q H' F' Z' R' s sf sz⟩
theorem fzInv {F Z H : Hp} {v : V} {d : D} {fp : List Addr} (h : Own F Z H v (.fz d) fp) : Dat F v d := by cases h; assumption
theorem fzInt {F Z H : Hp} {v : V} {i : Int} {fp : List Addr} (h : Own F Z H v (.fz (.int i)) fp) : v = .int i := by cases fzInv h; rfl
theorem fzBl {F Z H : Hp} {v : V} {i : Bool} {fp : List Addr} (h : Own F Z H v (.fz (.bl i)) fp) : v = .bl i := by cases fzInv h; rfl
theorem fzStr {F Z H : Hp} {v : V} {i : Str} {fp : List Addr} (h : Own F Z H v (.fz (.str i)) fp) : v = .str i := by cases fzInv h; rfl
/-- a leaf with this data -/
inductive Lf (d : D) : W → Prop
  | fz : Lf d (.fz d)
  | bo : Lf d (.bo d)
theorem Lf.dat {F Z H : Hp} {v : V} {d : D} {w : W} {fp : List Addr} (l : Lf d w) (s : Same F Z) (h : Own F Z H v w fp) : Dat Z v d := by
  cases l with
  | fz => exact (fzInv h).mono s
  | bo => cases h; assumption
theorem Lf.int {F Z H : Hp} {v : V} {i : Int} {w : W} {fp : List Addr} (l : Lf (.int i) w) (s : Same F Z) (h : Own F Z H v w fp) : v = .int i := by cases l.dat s h; rfl
theorem Lf.bl {F Z H : Hp} {v : V} {i : Bool} {w : W} {fp : List Addr} (l : Lf (.bl i) w) (s : Same F Z) (h : Own F Z H v w fp) : v = .bl i := by cases l.dat s h; rfl
theorem Lf.str {F Z H : Hp} {v : V} {i : Str} {w : W} {fp : List Addr} (l : Lf (.str i) w) (s : Same F Z) (h : Own F Z H v w fp) : v = .str i := by cases l.dat s h; rfl
theorem opI2 {f : Value → Value → Sem Value} {C : Int → Int → Prop} {g : Int → Int → Int} {i j : Int} (h : OpR X f (rI C fun i j => .int (g i j))) (l1 : Lf (.int i) w1) (l2 : Lf (.int j) w2) (hc : C i j) : OpW X f w1 w2 (.int (g i j)) :=
  ⟨_, h, fun v1 v2 H F Z f1 f2 Q s1 s2 o1 o2 k => ⟨i, j, l1.int s1 o1, l2.int s1 o2, hc, k _ fun _ => .int _⟩⟩
theorem opI20 {f : Value → Value → Sem Value} {g : Int → Int → Int} {i j : Int} (h : OpR X f (rI0 fun i j => .int (g i j))) (l1 : Lf (.int i) w1) (l2 : Lf (.int j) w2) : OpW X f w1 w2 (.int (g i j)) :=
  ⟨_, h, fun v1 v2 H F Z f1 f2 Q s1 s2 o1 o2 k => ⟨i, j, l1.int s1 o1, l2.int s1 o2, k _ fun _ => .int _⟩⟩
theorem opB20 {f : Value → Value → Sem Value} {g : Int → Int → Bool} {i j : Int} (h : OpR X f (rI0 fun i j => .bl (g i j))) (l1 : Lf (.int i) w1) (l2 : Lf (.int j) w2) : OpW X f w1 w2 (.bl (g i j)) :=
  ⟨_, h, fun v1 v2 H F Z f1 f2 Q s1 s2 o1 o2 k => ⟨i, j, l1.int s1 o1, l2.int s1 o2, k _ fun _ => .bl _⟩⟩
theorem ow_add {i j : Int} (l1 : Lf (.int i) w1) (l2 : Lf (.int j) w2) : OpW X (binaryOp .Add) w1 w2 (.int (i + j)) := opI20 op_add l1 l2
theorem ow_sub {i j : Int} (l1 : Lf (.int i) w1) (l2 : Lf (.int j) w2) : OpW X (binaryOp .Sub) w1 w2 (.int (i - j)) := opI20 op_sub l1 l2
theorem ow_mul {i j : Int} (l1 : Lf (.int i) w1) (l2 : Lf (.int j) w2) (h : CMul i j) : OpW X (binaryOp .Mult) w1 w2 (.int (i * j)) := opI2 op_mul l1 l2 h
theorem ow_mod {i j : Int} (l1 : Lf (.int i) w1) (l2 : Lf (.int j) w2) (h : 0 < j) : OpW X (binaryOp .Mod) w1 w2 (.int (i % j)) := opI2 op_mod l1 l2 h
theorem ow_fdiv {i j : Int} (l1 : Lf (.int i) w1) (l2 : Lf (.int j) w2) (h : CDiv i j) : OpW X (binaryOp .FloorDiv) w1 w2 (.int (i / j)) := opI2 op_fdiv l1 l2 h
theorem ow_pow {i j : Int} (l1 : Lf (.int i) w1) (l2 : Lf (.int j) w2) (h : CPow i j) : OpW X (binaryOp .Pow) w1 w2 (.int (i ^ j.toNat)) := opI2 op_pow l1 l2 h
theorem ow_and {i j : Int} (l1 : Lf (.int i) w1) (l2 : Lf (.int j) w2) : OpW X (binaryOp .BitAnd) w1 w2 (.int (Builtin.bitAnd i j)) := opI20 op_and l1 l2
theorem ow_lt {i j : Int} (l1 : Lf (.int i) w1) (l2 : Lf (.int j) w2) : OpW X (compareOp .Lt) w1 w2 (.bl (decide (i < j))) := opB20 op_lt l1 l2
theorem ow_le {i j : Int} (l1 : Lf (.int i) w1) (l2 : Lf (.int j) w2) : OpW X (compareOp .LtE) w1 w2 (.bl (decide (i ≤ j))) := opB20 op_le l1 l2
theorem ow_gt {i j : Int} (l1 : Lf (.int i) w1) (l2 : Lf (.int j) w2) : OpW X (compareOp .Gt) w1 w2 (.bl (decide (j < i))) := opB20 op_gt l1 l2
theorem ow_ge {i j : Int} (l1 : Lf (.int i) w1) (l2 : Lf (.int j) w2) : OpW X (compareOp .GtE) w1 w2 (.bl (decide (j ≤ i))) := opB20 op_ge l1 l2
def D.isN : D → Bool
  | .non => true
  | _ => false
theorem dat_isN {H : Hp} {v : V} {d : D} (h : Dat H v d) : decide (v = .non) = D.isN d := by
  cases h <;> first | rfl | exact decide_eq_false (fun z => nomatch z)
theorem own_isN {F Z H : Hp} {v : V} {w : W} {fp : List Addr} (s1 : Same F Z) (s2 : Same Z H) (h : Own F Z H v w fp) (p : w.pl = true) : decide (v = .non) = D.isN w.er :=
  dat_isN (h.dat (G := H) (s1.trans s2) s2 ((Same.refl H).kp fp) p)
theorem ow_isN (l2 : Lf .non w2) (p : w1.pl = true := by rfl) : OpW X (compareOp .Is) w1 w2 (.bl (D.isN w1.er)) :=
  ⟨_, op_isN, fun v1 v2 H F Z f1 f2 Q s1 s2 o1 o2 k => ⟨by cases l2.dat s1 o2; rfl, by rw [own_isN s1 s2 o1 p]; exact k _ fun _ => .bl _⟩⟩
theorem ow_notN (l2 : Lf .non w2) (p : w1.pl = true := by rfl) : OpW X (compareOp .IsNot) w1 w2 (.bl (!D.isN w1.er)) :=
  ⟨_, op_notN, fun v1 v2 H F Z f1 f2 Q s1 s2 o1 o2 k => ⟨by cases l2.dat s1 o2; rfl, by rw [own_isN s1 s2 o1 p]; exact k _ fun _ => .bl _⟩⟩
/-! equality of data -/
mutual
def D.nod : D → Bool
  | .frl _ _ => false
  | .dk _ => false
  | .dt _ => false
  | .lst ds => D.nods ds
  | .tup ds => D.nods ds
  | _ => true
def D.nods : List D → Bool
  | [] => true
  | d :: ds => d.nod && D.nods ds
end
mutual
def D.py : D → PyData
  | .non => .none
  | .bl b => .bool b
  | .int i => .int i
  | .str x => .str x
  | .lst ds => .list (D.pys ds)
  | .tup ds => .tuple (D.pys ds)
  | .dk _ => .none
  | .dt _ => .none
  | .frl _ _ => .none
def D.pys : List D → List PyData
  | [] => []
  | d :: ds => d.py :: D.pys ds
end
mutual
theorem Dat.dp {K : PySem.W.Frag} {H : Hp} : ∀ {v : V} {d : D}, d.nod = true → Dat H v d → Dp K H v d.py
  | _, _, _, .non => .non
  | _, _, _, .bl b => .bl b
  | _, _, _, .int i => .int i
  | _, _, _, .str x => .str x
  | _, _, p, .lst r h => .lst (.inl (.inl r)) (Dats.dp p h)
  | _, _, p, .frl _ _ => nomatch p
  | _, _, p, .tup r h => .tup (.inl (.inl r)) (Dats.dp p h)
  | _, _, p, .dK _ _ => nomatch p
  | _, _, p, .dT _ _ => nomatch p
theorem Dats.dp {K : PySem.W.Frag} {H : Hp} : ∀ {v : List V} {d : List D}, D.nods d = true → Dats H v d → DpAll K H v (D.pys d)
  | _, _, _, .nil => .nil
  | _, _, p, .cons a b => .cons (Dat.dp (Bool.and_eq_true_iff.mp p).1 a) (Dats.dp (Bool.and_eq_true_iff.mp p).2 b)
end
theorem own_dp {F Z H : Hp} {v : V} {w : W} {fp : List Addr} (s1 : Same F Z) (s2 : Same Z H) (h : Own F Z H v w fp) (p : w.pl = true) (n : w.er.nod = true) : Dp X.K H v w.er.py :=
  (h.dat (G := H) (s1.trans s2) s2 ((Same.refl H).kp fp) p).dp n
theorem ow_eq (hu : X.A.units + 64 < cLine) (p1 : w1.pl = true) (p2 : w2.pl = true) (n1 : w1.er.nod = true) (n2 : w2.er.nod = true) (h1 : SeqAt.shaped w1.er.py = true) (h2 : SeqAt.shaped w2.er.py = true) : OpW X (compareOp .Eq) w1 w2 (.bl (PyData.eqv w1.er.py w2.er.py)) :=
  ⟨_, op_eqD hu, fun v1 v2 H F Z f1 f2 Q s1 s2 o1 o2 k => ⟨_, _, own_dp s1 s2 o1 p1 n1, own_dp s1 s2 o2 p2 n2, h1, h2, k _ fun _ => .bl _⟩⟩
theorem ow_ne (hu : X.A.units + 64 < cLine) (p1 : w1.pl = true) (p2 : w2.pl = true) (n1 : w1.er.nod = true) (n2 : w2.er.nod = true) (h1 : SeqAt.shaped w1.er.py = true) (h2 : SeqAt.shaped w2.er.py = true) : OpW X (compareOp .NotEq) w1 w2 (.bl (!PyData.eqv w1.er.py w2.er.py)) :=
  ⟨_, op_neD hu, fun v1 v2 H F Z f1 f2 Q s1 s2 o1 o2 k => ⟨_, _, own_dp s1 s2 o1 p1 n1, own_dp s1 s2 o2 p2 n2, h1, h2, k _ fun _ => .bl _⟩⟩
/-! chains, and, or, not, if -/
theorem ev_chainT {op op' : CmpOp} (ha : EvV X δ a w1) (hb : EvV X δ b w2) (hc : EvV X δ c w3) {k1 k2 : Bool} (ho : OpW X (compareOp op) w1 w2 (.bl k1)) (ho' : OpW X (compareOp op') w2 w3 (.bl k2)) (hm : lastMarks [op, op'] [b, c] = false) : EvV X δ (.Compare a [op, op'] [b, c] pos) (.fz (.bl (k1 && k2))) := by
  obtain ⟨r, hr, hq⟩ := ho
  obtain ⟨r', hr', hq'⟩ := ho'
  intro B σ H F Z φ Q R k
  refine PE.sem (pe_chain hr hr' pe_sem pe_sem pe_sem hm) (ev_two ha hb R fun v1 v2 H' F' Z' f1 f2 R' s sf sz o1 o2 => hq v1 v2 H' F' Z' f1 f2 _ R'.fz R'.zh o1 o2 fun v3 h => ?_)
  cases h H'
  refine ⟨k1, rfl, ?_⟩
  cases k1 with
  | false => exact k _ H' F' Z' [] R' s sf sz (.fz (.bl _))
  | true =>
    refine hc B σ H' F' Z' φ _ R' fun v4 H4 F4 Z4 f4 R4 s4 sf4 sz4 o4 => hq' v2 v4 H4 F4 Z4 f2 f4 _ R4.fz R4.zh (o2.frame sf4 sz4 (s4.kp _)) o4 fun v5 h5 => ?_
    cases h5 H'
    exact k _ H4 F4 Z4 [] R4 (s.trans s4) (sf.trans sf4) (sz.trans sz4) (.fz (.bl _))
theorem et_chainT {op op' : CmpOp} (ha : EvV X δ a w1) (hb : EvV X δ b w2) (hc : EvV X δ c w3) {k1 k2 : Bool} (ho : OpW X (compareOp op) w1 w2 (.bl k1)) (ho' : OpW X (compareOp op') w2 w3 (.bl k2)) (hm : lastMarks [op, op'] [b, c] = false) : EvT X δ (.Compare a [op, op'] [b, c] pos) (k1 && k2) := by
  obtain ⟨r, hr, hq⟩ := ho
  obtain ⟨r', hr', hq'⟩ := ho'
  intro B σ H F Z φ Q R k
  refine PT.sem (pt_chain hr hr' pe_sem pe_sem pe_sem hm) (ev_two ha hb R fun v1 v2 H' F' Z' f1 f2 R' s sf sz o1 o2 => hq v1 v2 H' F' Z' f1 f2 _ R'.fz R'.zh o1 o2 fun v3 h => ?_)
  cases h H'
  refine ⟨k1, rfl, ?_⟩
  cases k1 with
  | false => exact ⟨_, rfl, k H' F' Z' R' s sf sz⟩
  | true =>
    refine hc B σ H' F' Z' φ _ R' fun v4 H4 F4 Z4 f4 R4 s4 sf4 sz4 o4 => hq' v2 v4 H4 F4 Z4 f2 f4 _ R4.fz R4.zh (o2.frame sf4 sz4 (s4.kp _)) o4 fun v5 h5 => ?_
    cases h5 H'
    exact ⟨_, rfl, k H4 F4 Z4 R4 (s.trans s4) (sf.trans sf4) (sz.trans sz4)⟩
theorem et_val {k : Bool} (h : EvV X δ e w) (l : Lf (.bl k) w) (he : ∀ whole, isTrue e X.env whole = (do let v ← whole; standAt e.pos; holding [v] (truthy v))) : EvT X δ e k := by
  intro B σ H F Z φ Q R q
  refine PT.sem (pt_val pe_sem he) (h B σ H F Z φ _ R fun v H' F' Z' fp R' s sf sz o => ?_)
  exact ⟨k, l.bl R'.fz o, q H' F' Z' R' s sf sz⟩
theorem et_not {k : Bool} (h : EvT X δ e k) : EvT X δ (.UnaryOp .Not e pos) (!k) := fun B σ H F Z φ Q R q =>
  PT.sem (pt_not pt_sem) (h B σ H F Z φ _ R fun H' F' Z' R' s sf sz => q H' F' Z' R' s sf sz)
def SemW (X : Cx) (e : Expr) : TT := fun σ H Q => ∀ whole pins s, Inv X pins σ H s → wpAny (model X.prog X.w) X.A (isTrue e X.env whole) (TP X pins σ Q) X.xe s
theorem pw_sem : PW X e (SemW X e) := ⟨fun wh pins s _ _ _ I h => h wh pins s I⟩
theorem PW.sem {t : TT} {σ : Sg} {H : Hp} {Q : Bool → Hp → Prop} (p : PW X e t) (h : t σ H Q) : SemW X e σ H Q := fun wh pins s I => p.run wh pins s σ H Q I h
def EvW (X : Cx) (δ : Dl) (e : Expr) (b : Bool) : Prop := ∀ (B : Bs) σ H F Z φ (Q : Bool → Hp → Prop), RR B σ δ H F Z φ →
  (∀ H' F' Z', RR B σ δ H' F' Z' φ → Same H H' → Same F F' → Same Z Z' → Q b H') → SemW X e σ H Q
variable {rest : List Expr} {k1 k2 : Bool}
theorem ew_and1 (h : EvT X δ a k1) : EvW X δ (.BoolOp .And [a] pos) k1 := fun B σ H F Z φ Q R q => PW.sem (pw_and1 pt_sem) (h B σ H F Z φ Q R q)
theorem ew_or1 (h : EvT X δ a k1) : EvW X δ (.BoolOp .Or [a] pos) k1 := fun B σ H F Z φ Q R q => PW.sem (pw_or1 pt_sem) (h B σ H F Z φ Q R q)
theorem ew_and (h : EvT X δ a k1) (h2 : k1 = true → EvW X δ (.BoolOp .And (b :: rest) pos) k2) : EvW X δ (.BoolOp .And (a :: b :: rest) pos) (k1 && k2) := by
  intro B σ H F Z φ Q R q
  refine PW.sem (pw_and pt_sem pw_sem) (h B σ H F Z φ _ R fun H' F' Z' R' s sf sz => ?_)
  cases k1 with
  | false => exact q H' F' Z' R' s sf sz
  | true => exact h2 rfl B σ H' F' Z' φ _ R' fun H4 F4 Z4 R4 s4 sf4 sz4 => q H4 F4 Z4 R4 (s.trans s4) (sf.trans sf4) (sz.trans sz4)
theorem ew_or (h : EvT X δ a k1) (h2 : k1 = false → EvW X δ (.BoolOp .Or (b :: rest) pos) k2) : EvW X δ (.BoolOp .Or (a :: b :: rest) pos) (k1 || k2) := by
  intro B σ H F Z φ Q R q
  refine PW.sem (pw_or pt_sem pw_sem) (h B σ H F Z φ _ R fun H' F' Z' R' s sf sz => ?_)
  cases k1 with
  | true => exact q H' F' Z' R' s sf sz
  | false => exact h2 rfl B σ H' F' Z' φ _ R' fun H4 F4 Z4 R4 s4 sf4 sz4 => q H4 F4 Z4 R4 (s.trans s4) (sf.trans sf4) (sz.trans sz4)
theorem EvW.t (h : EvW X δ e k1) : EvT X δ e k1 := fun B σ H F Z φ Q R q => PT.sem (pw_sem.pt) (h B σ H F Z φ Q R q)
theorem ev_one {op} (h : EvV X δ a w) : EvV X δ (.BoolOp op [a] pos) w := fun B σ H F Z φ Q R q => PE.sem (pe_one pe_sem) (h B σ H F Z φ Q R q)
theorem ev_and (h : EvV X δ a (.fz (.bl k1))) (h2 : k1 = true → EvV X δ (.BoolOp .And (b :: rest) pos) (.fz (.bl k2))) : EvV X δ (.BoolOp .And (a :: b :: rest) pos) (.fz (.bl (k1 && k2))) := by
  intro B σ H F Z φ Q R q
  refine PE.sem (pe_and pe_sem pe_sem) (h B σ H F Z φ _ R fun v H' F' Z' fp R' s sf sz o => ⟨k1, fzBl o, ?_⟩)
  cases k1 with
  | false => exact q _ H' F' Z' [] R' s sf sz (.fz (.bl _))
  | true => exact h2 rfl B σ H' F' Z' φ _ R' fun v4 H4 F4 Z4 f4 R4 s4 sf4 sz4 o4 => q v4 H4 F4 Z4 f4 R4 (s.trans s4) (sf.trans sf4) (sz.trans sz4) o4
theorem ev_or (h : EvV X δ a (.fz (.bl k1))) (h2 : k1 = false → EvV X δ (.BoolOp .Or (b :: rest) pos) (.fz (.bl k2))) : EvV X δ (.BoolOp .Or (a :: b :: rest) pos) (.fz (.bl (k1 || k2))) := by
  intro B σ H F Z φ Q R q
  refine PE.sem (pe_or pe_sem pe_sem) (h B σ H F Z φ _ R fun v H' F' Z' fp R' s sf sz o => ⟨k1, fzBl o, ?_⟩)
  cases k1 with
  | true => exact q _ H' F' Z' [] R' s sf sz (.fz (.bl _))
  | false => exact h2 rfl B σ H' F' Z' φ _ R' fun v4 H4 F4 Z4 f4 R4 s4 sf4 sz4 o4 => q v4 H4 F4 Z4 f4 R4 (s.trans s4) (sf.trans sf4) (sz.trans sz4) o4
theorem ev_not (h : EvV X δ a (.fz (.bl k1))) : EvV X δ (.UnaryOp .Not a pos) (.fz (.bl (!k1))) := by
  intro B σ H F Z φ Q R q
  exact PE.sem (pe_not pe_sem) (h B σ H F Z φ _ R fun v H' F' Z' fp R' s sf sz o => ⟨k1, fzBl o, q _ H' F' Z' [] R' s sf sz (.fz (.bl _))⟩)
theorem ev_neg {i : Int} (h : EvV X δ a w) (l : Lf (.int i) w) : EvV X δ (.UnaryOp .USub a pos) (.fz (.int (-i))) := by
  intro B σ H F Z φ Q R q
  exact PE.sem (pe_un un_neg pe_sem) (h B σ H F Z φ _ R fun v H' F' Z' fp R' s sf sz o => ⟨i, l.int R'.fz o, q _ H' F' Z' [] R' s sf sz (.fz (.int _))⟩)
theorem ev_if (h : EvT X δ c k1) (h1 : k1 = true → EvV X δ a w) (h2 : k1 = false → EvV X δ b w) : EvV X δ (.IfExp c a b pos) w := by
  intro B σ H F Z φ Q R q
  refine PE.sem (pe_ifExp pt_sem pe_sem pe_sem) (h B σ H F Z φ _ R fun H' F' Z' R' s sf sz => ?_)
  cases k1 with
  | true => exact h1 rfl B σ H' F' Z' φ _ R' fun v4 H4 F4 Z4 f4 R4 s4 sf4 sz4 o4 => q v4 H4 F4 Z4 f4 R4 (s.trans s4) (sf.trans sf4) (sz.trans sz4) o4
  | false => exact h2 rfl B σ H' F' Z' φ _ R' fun v4 H4 F4 Z4 f4 R4 s4 sf4 sz4 o4 => q v4 H4 F4 Z4 f4 R4 (s.trans s4) (sf.trans sf4) (sz.trans sz4) o4
end
end OV

namespace OV
open PySem PySem.Spec PyProof.Rows L2
def upF (φ : Nat → List Addr) (i : Nat) (fp : List Addr) : Nat → List Addr := fun j => if j = i then fp else φ j
theorem upF_same {φ : Nat → List Addr} {i : Nat} {fp : List Addr} : upF φ i fp i = fp := by unfold upF; rw [if_pos rfl]
theorem upF_ne {φ : Nat → List Addr} {i j : Nat} {fp : List Addr} (h : j ≠ i) : upF φ i fp j = φ j := by unfold upF; rw [if_neg h]
section
variable {B : Bs} {σ : Sg} {δ δ' : Dl} {H H' F F' Z Z' : Hp} {φ φ' : Nat → List Addr} {p : Addr} {o : HO} {v : V} {w : W} {fp : List Addr} {i : Nat}
/-- a slot is stored -/
theorem RR.store (R : RR B σ δ H F Z φ) (ow : Own F Z H v w fp) (fr : Fresh B Z φ fp) (hi : i < δ.length) (hp : i ∉ pks B) : RR B (σ.set i (some v)) (δ.set i (some w)) H F Z (upF φ i fp) where
  len := by rw [List.length_set, List.length_set]; exact R.len
  own := fun j u e => by
    by_cases q : j = i
    · subst q
      rw [List.getElem?_set_self hi] at e
      cases e
      rw [upF_same]
      exact ⟨v, by rw [List.getElem?_set_self (by rw [R.len]; exact hi)], ow⟩
    · rw [List.getElem?_set_ne (Ne.symm q)] at e
      rw [upF_ne q, List.getElem?_set_ne (Ne.symm q)]
      exact R.own j u e
  nd := fun j => by
    by_cases q : j = i
    · subst q; rw [upF_same]; exact fr.nd
    · rw [upF_ne q]; exact R.nd j
  dj := fun j k a h1 h2 => by
    by_cases q : j = i
    · subst q
      rw [upF_same] at h1
      by_cases r : k = j
      · exact r.symm
      · rw [upF_ne r] at h2; exact absurd h2 (fr.d a h1 k)
    · rw [upF_ne q] at h1
      by_cases r : k = i
      · subst r; rw [upF_same] at h2; exact absurd h1 (fr.d a h2 j)
      · rw [upF_ne r] at h2; exact R.dj j k a h1 h2
  nz := fun j a h => by
    by_cases q : j = i
    · subst q; rw [upF_same] at h; exact fr.z a h
    · rw [upF_ne q] at h; exact R.nz j a h
  th := fun j a h => by
    by_cases q : j = i
    · subst q; rw [upF_same] at h; exact ow.there a h
    · rw [upF_ne q] at h; exact R.th j a h
  new := fun j a h => by
    by_cases q : j = i
    · subst q; rw [upF_same] at h; exact fr.n a h
    · rw [upF_ne q] at h; exact R.new j a h
  fz := R.fz
  zh := R.zh
  f0 := R.f0
  z0 := R.z0
  keep := R.keep
  pt := R.pt
  newF := R.newF
  pin := fun q hq => by
    have ne : q.1 ≠ i := fun z => hp (z ▸ List.mem_map_of_mem hq)
    rw [List.getElem?_set_ne (Ne.symm ne)]
    exact R.pin q hq
  fin := let ⟨n, h⟩ := R.fin; ⟨max n (i + 1), fun j hj => by rw [upF_ne (by omega)]; exact h j (by omega)⟩
  gb := fun j e => by
    by_cases q : j = i
    · subst q; rw [List.getElem?_set_self hi] at e; cases e
    · rw [List.getElem?_set_ne (Ne.symm q)] at e; rw [upF_ne q]; exact R.gb j e
/-- some slots are forgotten -/
def Fg : Dl → Dl → Prop
  | [], [] => True
  | a :: as, b :: bs => (b = none ∨ a = b) ∧ Fg as bs
  | _, _ => False
theorem Fg.refl : ∀ δ : Dl, Fg δ δ
  | [] => trivial
  | a :: as => ⟨.inr rfl, Fg.refl as⟩
theorem Fg.len : ∀ {δ δ' : Dl}, Fg δ δ' → δ'.length = δ.length
  | [], [], _ => rfl
  | _ :: _, _ :: _, h => congrArg (· + 1) (Fg.len h.2)
  | [], _ :: _, h => h.elim
  | _ :: _, [], h => h.elim
theorem Fg.get : ∀ {δ δ' : Dl} {i : Nat} {w : W}, Fg δ δ' → δ'[i]? = some (some w) → δ[i]? = some (some w)
  | [], [], i, w, _, e => by simp at e
  | a :: as, b :: bs, 0, w, h, e => by
    simp at e
    subst e
    rcases h.1 with z | z
    · cases z
    · subst z; rfl
  | a :: as, b :: bs, i + 1, w, h, e => by
    have := Fg.get (i := i) (w := w) h.2 (by simpa using e)
    simpa using this
  | [], _ :: _, _, _, h, _ => h.elim
  | _ :: _, [], _, _, h, _ => h.elim
/-- claims of forgotten slots are let go -/
def clean (δ : Dl) (φ : Nat → List Addr) : Nat → List Addr := fun i => match δ[i]? with
  | some none => []
  | _ => φ i
theorem clean_mem {a : Addr} (h : a ∈ clean δ φ i) : a ∈ φ i ∧ clean δ φ i = φ i := by
  unfold clean at h ⊢
  split at h
  · cases h
  · exact ⟨h, rfl⟩
theorem RR.weak (R : RR B σ δ H F Z φ) (l : δ'.length = δ.length) (g : ∀ (i : Nat) (w : W), δ'[i]? = some (some w) → δ[i]? = some (some w)) : RR B σ δ' H F Z (clean δ' φ) where
  len := R.len.trans l.symm
  own := fun i w e => by
    have : clean δ' φ i = φ i := by unfold clean; rw [e]
    rw [this]
    exact R.own i w (g i w e)
  nd := fun i => by unfold clean; split; exact .nil; exact R.nd i
  dj := fun i j a h1 h2 => R.dj i j a (clean_mem h1).1 (clean_mem h2).1
  nz := fun i a h => R.nz i a (clean_mem h).1
  th := fun i a h => R.th i a (clean_mem h).1
  new := fun i a h => R.new i a (clean_mem h).1
  fz := R.fz
  zh := R.zh
  f0 := R.f0
  z0 := R.z0
  keep := R.keep
  pt := R.pt
  newF := R.newF
  pin := R.pin
  fin := let ⟨n, h⟩ := R.fin; ⟨n, fun i hi => by unfold clean; split; rfl; exact h i hi⟩
  gb := fun i e => by unfold clean; rw [e]
theorem RR.fg (R : RR B σ δ H F Z φ) (g : Fg δ δ') : RR B σ δ' H F Z (clean δ' φ) := R.weak g.len fun _ _ => g.get
/-- seen from a later start -/
theorem RR.base (R : RR B σ δ H F Z φ) : RR ⟨F, Z, B.H0, B.P, B.pn⟩ σ δ H F Z φ :=
  ⟨R.len, R.own, R.nd, R.dj, R.nz, R.th, R.new, R.fz, R.zh, Same.refl _, Same.refl _, R.keep, R.pt, fun b o e => .inl e, R.pin, R.fin, R.gb⟩
theorem RR.unbase {F1 Z1 : Hp} (R : RR ⟨F1, Z1, B.H0, B.P, B.pn⟩ σ δ H F Z φ) (sf : Same B.F0 F1) (sz : Same B.Z0 Z1) (n : ∀ b o, F1 b = some o → B.F0 b = some o ∨ B.H0 b = none ∨ B.P b) : RR B σ δ H F Z φ :=
  ⟨R.len, R.own, R.nd, R.dj, R.nz, R.th, R.new, R.fz, R.zh, sf.trans R.f0, sz.trans R.z0, R.keep, R.pt, fun b o e => (R.newF b o e).elim (fun h => n b o h) .inr, R.pin, R.fin, R.gb⟩
/-- a tree of one's own is frozen -/
def frozenAt (H F : Hp) (fp : List Addr) : Hp := fun b => if b ∈ fp then H b else F b
theorem RR.freeze (R : RR B σ δ H F Z φ) (ow : Own F Z H v w fp) (fr : Fresh B Z φ fp) : RR B σ δ H (frozenAt H F fp) (frozenAt H Z fp) φ where
  len := R.len
  own := fun i w e => let ⟨v, h1, h2⟩ := R.own i w e; ⟨v, h1, h2.frame (fun b o e => by
      unfold frozenAt; split
      · exact R.fh b o e
      · exact e) (fun b o e => by
      unfold frozenAt; split
      · exact R.zh b o e
      · exact e) ((Same.refl H).kp _)⟩
  nd := R.nd
  dj := R.dj
  nz := fun i a h => by
    unfold frozenAt
    rw [if_neg (fun z => fr.d a z i h)]
    exact R.nz i a h
  th := R.th
  new := R.new
  fz := fun b o e => by
    unfold frozenAt at e ⊢
    split at e
    · next h => rw [if_pos h]; exact e
    · next h => rw [if_neg h]; exact R.fz b o e
  zh := fun b o e => by
    unfold frozenAt at e
    split at e
    · exact e
    · exact R.zh b o e
  f0 := fun b o e => by
    unfold frozenAt; split
    · exact R.fh b o (R.f0 b o e)
    · exact R.f0 b o e
  z0 := fun b o e => by
    unfold frozenAt; split
    · exact R.zh b o (R.z0 b o e)
    · exact R.z0 b o e
  keep := R.keep
  pt := R.pt
  newF := fun b o e => by
    unfold frozenAt at e
    split at e
    · next h => exact .inr (fr.n b h)
    · exact R.newF b o e
  pin := R.pin
  fin := R.fin
  gb := R.gb
theorem frozen_fs (s : Same F H) : Same F (frozenAt H F fp) := fun b o e => by
  unfold frozenAt; split
  · exact s b o e
  · exact e
theorem frozen_kp : Kp fp H (frozenAt H F fp) := fun b m o e => by
  unfold frozenAt; rw [if_pos m]; exact e
mutual
theorem Own.datF {G : Hp} (sf : Same F G) : ∀ {v : V} {w : W} {fp : List Addr}, Kp fp H G → w.pl = true → w.nb = true → Own F Z H v w fp → Dat G v w.er
  | _, _, _, _, _, _, .fz h => h.mono sf
  | _, _, _, _, _, q, .bo h => nomatch q
  | _, _, _, k, p, q, .lst e h => .lst (k.h e) (Owns.datF sf k.t p q h)
  | _, _, _, k, p, q, .tup e h => .tup (k.h e) (Owns.datF sf k.t p q h)
  | _, _, _, k, p, q, .dk e h => .dK (.inl (k.h e)) (OwnK.datF sf k.t p q h)
  | _, _, _, k, p, q, .dt e h => .dT (.inl (k.h e)) (OwnT.datF sf k.t p q h)
  | _, _, _, _, p, _, .ins _ _ => nomatch p
theorem Owns.datF {G : Hp} (sf : Same F G) : ∀ {v : List V} {w : List W} {fp : List Addr}, Kp fp H G → W.pls w = true → W.nbs w = true → Owns F Z H v w fp → Dats G v (W.ers w)
  | _, _, _, _, _, _, .nil => .nil
  | _, _, _, k, p, q, .cons a b => .cons (Own.datF sf k.l (Bool.and_eq_true_iff.mp p).1 (Bool.and_eq_true_iff.mp q).1 a) (Owns.datF sf k.r (Bool.and_eq_true_iff.mp p).2 (Bool.and_eq_true_iff.mp q).2 b)
theorem OwnK.datF {G : Hp} (sf : Same F G) : ∀ {v : List (Key × V)} {w : List (Key × W)} {fp : List Addr}, Kp fp H G → W.plk w = true → W.nbk w = true → OwnK F Z H v w fp → DatK G v (W.erk w)
  | _, _, _, _, _, _, .nil => .nil
  | _, _, _, k, p, q, .cons a b => .cons (Own.datF sf k.l (Bool.and_eq_true_iff.mp p).1 (Bool.and_eq_true_iff.mp q).1 a) (OwnK.datF sf k.r (Bool.and_eq_true_iff.mp p).2 (Bool.and_eq_true_iff.mp q).2 b)
theorem OwnT.datF {G : Hp} (sf : Same F G) : ∀ {v : List (List Key × V)} {w : List (List Key × W)} {fp : List Addr}, Kp fp H G → W.plt w = true → W.nbt w = true → OwnT F Z H v w fp → DatT G v (W.ert w)
  | _, _, _, _, _, _, .nil => .nil
  | _, _, _, k, p, q, .cons a b => .cons (Own.datF sf k.l (Bool.and_eq_true_iff.mp p).1 (Bool.and_eq_true_iff.mp q).1 a) (OwnT.datF sf k.r (Bool.and_eq_true_iff.mp p).2 (Bool.and_eq_true_iff.mp q).2 b)
end
end
section
variable {X : Cx} {δ δ' δ1 : Dl} {e a b c : Expr} {w w1 w2 w3 : W} {d : D} {pos : Pos} {es : List Expr} {ws : List W}
/-- a new tree: e makes it, all else stays -/
def EvO (X : Cx) (δ : Dl) (e : Expr) (w : W) : Prop := ∀ (B : Bs) σ H F Z φ (Q : VK), RR B σ δ H F Z φ →
  (∀ v H' F' Z' fp, RR B σ δ H' F' Z' φ → Same H H' → Same F F' → Same Z Z' → Own F' Z' H' v w fp → fp.Nodup → (∀ a ∈ fp, Z' a = none ∧ H a = none) → Q v H') → SemE X e σ H Q
theorem own_fresh {B : Bs} {σ : Sg} {H F Z Z' : Hp} {φ : Nat → List Addr} {fp : List Addr} (R : RR B σ δ H F Z φ) (nd : fp.Nodup) (h : ∀ a ∈ fp, Z' a = none ∧ H a = none) : Fresh B Z' φ fp :=
  ⟨nd, fun a m => (h a m).1, fun a m i hi => (by obtain ⟨o, e⟩ := R.th i a hi; rw [(h a m).2] at e; cases e), fun a m => R.new0 (h a m).2⟩
theorem EvO.toC (h : EvO X δ e w) : EvC X δ e w δ := fun B σ H F Z φ Q R k => h B σ H F Z φ Q R fun v H' F' Z' fp R' s sf sz o nd n =>
  k v H' F' Z' φ fp R' ⟨fun c o e _ => s c o e, sf, sz, fun c m => .inl (n c m).2, fun i c m => .inr ⟨i, m⟩⟩ o (own_fresh R nd n)
theorem EvO.toV (h : EvO X δ e w) : EvV X δ e w := fun B σ H F Z φ Q R k => h B σ H F Z φ Q R fun v H' F' Z' fp R' s sf sz o _ _ => k v H' F' Z' fp R' s sf sz o
theorem EvO.fz (h : EvO X δ e w) (p : w.pl = true := by rfl) (q : w.nb = true := by rfl) : EvV X δ e (.fz w.er) := fun B σ H F Z φ Q R k => h B σ H F Z φ Q R fun v H' F' Z' fp R' s sf sz o nd n =>
  k v H' _ _ [] (R'.freeze o (own_fresh R nd n)) s (sf.trans (frozen_fs R'.fh)) (sz.trans (frozen_fs R'.zh)) (.fz (o.datF (frozen_fs R'.fh) frozen_kp p q))
theorem EvV.toO (h : EvV X δ e w) (l : w.leaf = true := by rfl) : EvO X δ e w := fun B σ H F Z φ Q R k => h B σ H F Z φ Q R fun v H' F' Z' fp R' s sf sz o => by
  have e := o.leaf l
  subst e
  exact k v H' F' Z' [] R' s sf sz o .nil fun _ h => (nomatch h)
/-- a slot's tree is taken out of it -/
theorem ec_move (i : Nat) {x : Str} (hN : X.N[i]? = some x) (hv : Vis X.env.scope x) (hδ : δ[i]? = some (some w)) (hd : (x == ("__debug__" : Str)) = false := by decide) (hcd : (x == ("__classdict__" : Str)) = false := by decide) : EvC X δ (.Name x pos) w (δ.set i none) := by
  intro B σ H F Z φ Q R k
  obtain ⟨v, h1, h2⟩ := R.own i w hδ
  have hi : i < δ.length := (List.getElem?_eq_some_iff.mp hδ).1
  refine PE.sem (pe_var hN hv hd hcd) ⟨v, h1, k v H F Z (upF φ i []) (φ i) ?_ ⟨fun c o e _ => e, Same.refl _, Same.refl _, fun c m => .inr ⟨i, m⟩, fun j c m => ?_⟩ h2 ⟨R.nd i, R.nz i, fun a m j hj => ?_, R.new i⟩⟩
  · have nin : ∀ j a, a ∈ upF φ i [] j → j ≠ i ∧ a ∈ φ j := fun j a m => by
      by_cases q : j = i
      · subst q; rw [upF_same] at m; cases m
      · rw [upF_ne q] at m; exact ⟨q, m⟩
    refine ⟨by rw [List.length_set]; exact R.len, fun j u e => ?_, fun j => ?_, fun j k a m1 m2 => R.dj j k a (nin j a m1).2 (nin k a m2).2, fun j a m => R.nz j a (nin j a m).2, fun j a m => R.th j a (nin j a m).2, fun j a m => R.new j a (nin j a m).2, R.fz, R.zh, R.f0, R.z0, R.keep, R.pt, R.newF, R.pin, (let ⟨n, h⟩ := R.fin; ⟨n, fun j hj => (by
      by_cases q : j = i
      · rw [q]; exact upF_same
      · rw [upF_ne q]; exact h j hj)⟩), fun j e => (by
      by_cases q : j = i
      · rw [q]; exact upF_same
      · rw [List.getElem?_set_ne (Ne.symm q)] at e; rw [upF_ne q]; exact R.gb j e)⟩
    · by_cases q : j = i
      · subst q; rw [List.getElem?_set_self hi] at e; cases e
      · rw [List.getElem?_set_ne (Ne.symm q)] at e; rw [upF_ne q]; exact R.own j u e
    · by_cases q : j = i
      · subst q; rw [upF_same]; exact .nil
      · rw [upF_ne q]; exact R.nd j
  · by_cases q : j = i
    · subst q; rw [upF_same] at m; cases m
    · rw [upF_ne q] at m; exact .inr ⟨j, m⟩
  · by_cases q : j = i
    · subst q; rw [upF_same] at hj; cases hj
    · rw [upF_ne q] at hj; exact q (R.dj j i a hj m)

/-! ### lists of expressions -/
def EvVs (X : Cx) (δ : Dl) (es : List Expr) (ws : List W) : Prop := ∀ (B : Bs) σ H F Z φ (Q : List V → Hp → Prop), RR B σ δ H F Z φ →
  (∀ vs H' F' Z' fp, RR B σ δ H' F' Z' φ → Same H H' → Same F F' → Same Z Z' → Owns F' Z' H' vs ws fp → Q vs H') → SemA X es σ H Q
theorem evs_nil : EvVs X δ [] [] := fun B σ H F Z φ Q R k => PA.sem pa_nil (k [] H F Z [] R (Same.refl _) (Same.refl _) (Same.refl _) .nil)
theorem evs_cons (h : EvV X δ e w) (t : EvVs X δ es ws) (hs : starEach (e :: es) X.env = (false, eval e X.env) :: starEach es X.env) : EvVs X δ (e :: es) (w :: ws) := fun B σ H F Z φ Q R k =>
  PA.sem (pa_cons pe_sem pa_sem hs) (h B σ H F Z φ _ R fun v1 H1 F1 Z1 f1 R1 s1 sf1 sz1 o1 => t B σ H1 F1 Z1 φ _ R1 fun vs H2 F2 Z2 f2 R2 s2 sf2 sz2 o2 =>
    k (v1 :: vs) H2 F2 Z2 (f1 ++ f2) R2 (s1.trans s2) (sf1.trans sf2) (sz1.trans sz2) (.cons (o1.frame sf2 sz2 (s2.kp _)) o2))
/-- new trees, one behind the other -/
def EvOs (X : Cx) (δ : Dl) (es : List Expr) (ws : List W) : Prop := ∀ (B : Bs) σ H F Z φ (Q : List V → Hp → Prop), RR B σ δ H F Z φ →
  (∀ vs H' F' Z' fp, RR B σ δ H' F' Z' φ → Same H H' → Same F F' → Same Z Z' → Owns F' Z' H' vs ws fp → fp.Nodup → (∀ a ∈ fp, Z' a = none ∧ H a = none) → Q vs H') → SemA X es σ H Q
theorem eos_nil : EvOs X δ [] [] := fun B σ H F Z φ Q R k => PA.sem pa_nil (k [] H F Z [] R (Same.refl _) (Same.refl _) (Same.refl _) .nil .nil fun _ h => (nomatch h))
/-- what is new and young stays no one else's when the frozen part grows: the cells of fp are kept apart -/
theorem eos_cons (h : EvV X δ e w) (l : w.leaf = true) (t : EvOs X δ es ws) (hs : starEach (e :: es) X.env = (false, eval e X.env) :: starEach es X.env) : EvOs X δ (e :: es) (w :: ws) := fun B σ H F Z φ Q R k =>
  PA.sem (pa_cons pe_sem pa_sem hs) (h B σ H F Z φ _ R fun v1 H1 F1 Z1 f1 R1 s1 sf1 sz1 o1 => t B σ H1 F1 Z1 φ _ R1 fun vs H2 F2 Z2 f2 R2 s2 sf2 sz2 o2 nd n => by
    have e1 := o1.leaf l
    subst e1
    exact k (v1 :: vs) H2 F2 Z2 f2 R2 (s1.trans s2) (sf1.trans sf2) (sz1.trans sz2) (.cons (o1.frame sf2 sz2 (s2.kp _)) o2) nd fun a m => ⟨(n a m).1, s1.free (n a m).2⟩)
theorem eo_lst (h : EvOs X δ es ws) (hl : ws.length ≤ sizeLine) : EvO X δ (.List es pos) (.lst ws) := fun B σ H F Z φ Q R k =>
  PE.sem (pe_lst pa_sem) (h B σ H F Z φ _ R fun vs H' F' Z' fp R' s sf sz o nd n => ⟨by rw [o.len]; exact hl, fun p np => by
    have sn := same_upd (o := .lst vs) np
    refine k (.ref p) _ F' Z' (p :: fp) (R'.grow sn) (s.trans sn) sf sz (.lst upd_same (o.frame (Same.refl _) (Same.refl _) (sn.kp _))) (List.nodup_cons.mpr ⟨fun m => ?_, nd⟩) fun a m => ?_
    · obtain ⟨u, e⟩ := o.there p m
      rw [np] at e; cases e
    · rcases List.mem_cons.mp m with rfl | m
      · exact ⟨Z_none R' np, s.free np⟩
      · exact n a m⟩)
theorem eo_tup {x1} (h : EvOs X δ es ws) (hl : ws.length ≤ sizeLine) : EvO X δ (.Tuple es x1 pos) (.tup ws) := fun B σ H F Z φ Q R k =>
  PE.sem (pe_tup pa_sem) (h B σ H F Z φ _ R fun vs H' F' Z' fp R' s sf sz o nd n => ⟨by rw [o.len]; exact hl, fun p np => by
    have sn := same_upd (o := .tup vs) np
    refine k (.ref p) _ F' Z' (p :: fp) (R'.grow sn) (s.trans sn) sf sz (.tup upd_same (o.frame (Same.refl _) (Same.refl _) (sn.kp _))) (List.nodup_cons.mpr ⟨fun m => ?_, nd⟩) fun a m => ?_
    · obtain ⟨u, e⟩ := o.there p m
      rw [np] at e; cases e
    · rcases List.mem_cons.mp m with rfl | m
      · exact ⟨Z_none R' np, s.free np⟩
      · exact n a m⟩)

/-! ### arguments of a def; its promise -/
inductive Args (F H : Hp) : List V → List W → Prop
  | nil : Args F H [] []
  | fz {v : V} {d : D} {vs : List V} {ws : List W} : Dat F v d → Args F H vs ws → Args F H (v :: vs) (.fz d :: ws)
  | bo {v : V} {d : D} {vs : List V} {ws : List W} : Dat H v d → Args F H vs ws → Args F H (v :: vs) (.bo d :: ws)
theorem Args.len {F H : Hp} : ∀ {vs : List V} {ws : List W}, Args F H vs ws → vs.length = ws.length
  | _, _, .nil => rfl
  | _, _, .fz _ t => congrArg (· + 1) t.len
  | _, _, .bo _ t => congrArg (· + 1) t.len
theorem Args.get {F H : Hp} : ∀ {vs : List V} {ws : List W} {i : Nat} {w : W}, Args F H vs ws → ws[i]? = some w → ∃ v, vs[i]? = some v ∧ Own F H H v w []
  | _, _, _, _, .nil, e => by simp at e
  | _, _, 0, _, .fz h _, e => by simp at e; subst e; exact ⟨_, rfl, .fz h⟩
  | _, _, 0, _, .bo h _, e => by simp at e; subst e; exact ⟨_, rfl, .bo h⟩
  | _, _, i + 1, w, .fz _ t, e => by
    obtain ⟨v, h1, h2⟩ := Args.get (i := i) (w := w) t (by simpa using e)
    exact ⟨v, by simpa using h1, h2⟩
  | _, _, i + 1, w, .bo _ t, e => by
    obtain ⟨v, h1, h2⟩ := Args.get (i := i) (w := w) t (by simpa using e)
    exact ⟨v, by simpa using h1, h2⟩
def EvL (X : Cx) (δ : Dl) (es : List Expr) (ws : List W) : Prop := ∀ (B : Bs) σ H F Z φ (Q : List V → Hp → Prop), RR B σ δ H F Z φ →
  (∀ vs H' F' Z', RR B σ δ H' F' Z' φ → Same H H' → Same F F' → Same Z Z' → Args F' H' vs ws → Q vs H') → SemA X es σ H Q
theorem Args.mono {F H F' H' : Hp} (sf : Same F F') (s : Same H H') : ∀ {vs : List V} {ws : List W}, Args F H vs ws → Args F' H' vs ws
  | _, _, .nil => .nil
  | _, _, .fz h t => .fz (h.mono sf) (t.mono sf s)
  | _, _, .bo h t => .bo (h.mono s) (t.mono sf s)
theorem el_nil : EvL X δ [] [] := fun B σ H F Z φ Q R k => PA.sem pa_nil (k [] H F Z R (Same.refl _) (Same.refl _) (Same.refl _) .nil)
theorem el_fz (h : EvV X δ e (.fz d)) (t : EvL X δ es ws) (hs : starEach (e :: es) X.env = (false, eval e X.env) :: starEach es X.env) : EvL X δ (e :: es) (.fz d :: ws) := fun B σ H F Z φ Q R k =>
  PA.sem (pa_cons pe_sem pa_sem hs) (h B σ H F Z φ _ R fun v1 H1 F1 Z1 f1 R1 s1 sf1 sz1 o1 => t B σ H1 F1 Z1 φ _ R1 fun vs H2 F2 Z2 R2 s2 sf2 sz2 o2 =>
    k (v1 :: vs) H2 F2 Z2 R2 (s1.trans s2) (sf1.trans sf2) (sz1.trans sz2) (.fz ((fzInv o1).mono sf2) o2))
theorem el_bo (h : EvV X δ e w) (p : w.pl = true) (hd : w.er = d) (t : EvL X δ es ws) (hs : starEach (e :: es) X.env = (false, eval e X.env) :: starEach es X.env) : EvL X δ (e :: es) (.bo d :: ws) := fun B σ H F Z φ Q R k =>
  PA.sem (pa_cons pe_sem pa_sem hs) (h B σ H F Z φ _ R fun v1 H1 F1 Z1 f1 R1 s1 sf1 sz1 o1 => t B σ H1 F1 Z1 φ _ R1 fun vs H2 F2 Z2 R2 s2 sf2 sz2 o2 =>
    k (v1 :: vs) H2 F2 Z2 R2 (s1.trans s2) (sf1.trans sf2) (sz1.trans sz2) (.bo (hd ▸ ((o1.dat (G := H1) R1.fh R1.zh ((Same.refl H1).kp f1) p).mono s2)) o2))
/-- a promise over trees: the arguments, the answer, the error (its class, its number) -/
inductive Out where
  | ok (w : W)
  | er (C : Addr) (n : Int)
abbrev SpW := List W → Out → Prop
structure Ret (F H F' H' : Hp) (v : V) (w : W) (fp : List Addr) : Prop where
  s : Same H H'
  sf : Same F F'
  fh : Same F' H'
  new : ∀ b o, F' b = some o → F b = some o ∨ H b = none
  own : Own F' F' H' v w fp
  nd : fp.Nodup
  fr : ∀ a ∈ fp, F' a = none ∧ H a = none
def spOf (S : SpW) : Sp := fun vs H Q E => ∃ ws F r, Same F H ∧ Args F H vs ws ∧ S ws r ∧ match r with
  | .ok w => ∀ v H' F' fp, Ret F H F' H' v w fp → Q v H'
  | .er C n => ∀ d H', Same H H' → H d = none → H' d = some (.xd [("at", .int n)]) → E (.ref C) (some d) H'
/-- behind a call -/
theorem RR.ret {B : Bs} {σ : Sg} {H F Z H' F' : Hp} {φ : Nat → List Addr} {v : V} {fp : List Addr} (R : RR B σ δ H F Z φ) (T : Ret F H F' H' v w fp) :
    ∃ Z', RR B σ δ H' F' Z' φ ∧ Same Z Z' ∧ Own F' Z' H' v w fp ∧ fp.Nodup ∧ ∀ a ∈ fp, Z' a = none ∧ H a = none := by
  refine ⟨fun b => match Z b with | some o => some o | none => F' b, ⟨R.len, fun i w e => ?_, R.nd, R.dj, fun i a h => ?_, fun i a h => ?_, R.new, fun b o e => ?_, fun b o e => ?_, R.f0.trans T.sf, fun b o e => ?_, fun b o e n => T.s _ _ (R.keep b o e n), fun b e => ?_, fun b o e => ?_, R.pin, R.fin, R.gb⟩, fun b o e => ?_, ?_, T.nd, fun a m => ?_⟩
  · obtain ⟨v, h1, h2⟩ := R.own i w e
    exact ⟨v, h1, h2.frame T.sf (fun b o e => by show (match Z b with | some o => some o | none => F' b) = some o; rw [e]) (T.s.kp _)⟩
  · show (match Z a with | some o => some o | none => F' a) = none
    rw [R.nz i a h]
    show F' a = none
    obtain ⟨o, ho⟩ := R.th i a h
    cases e : F' a with
    | none => rfl
    | some u =>
      rcases T.new a u e with z | z
      · have := R.fz a u z
        rw [R.nz i a h] at this; cases this
      · rw [z] at ho; cases ho
  · obtain ⟨o, e⟩ := R.th i a h
    exact ⟨o, T.s _ _ e⟩
  · show (match Z b with | some o => some o | none => F' b) = some o
    cases z : Z b with
    | none => exact e
    | some u =>
      have h1 := T.s _ _ (R.zh b u z)
      have h2 := T.fh b o e
      rw [h1] at h2
      exact h2
  · have e : (match Z b with | some o => some o | none => F' b) = some o := e
    cases z : Z b with
    | none => rw [z] at e; exact T.fh b o e
    | some u => rw [z] at e; cases e; exact T.s _ _ (R.zh b _ z)
  · show (match Z b with | some o => some o | none => F' b) = some o
    rw [R.z0 b o e]
  · obtain ⟨o, e⟩ := R.pt b e
    exact ⟨o, T.s _ _ e⟩
  · rcases T.new b o e with z | z
    · exact R.newF b o z
    · exact .inr (R.new0 z)
  · show (match Z b with | some o => some o | none => F' b) = some o
    rw [e]
  · refine T.own.frame (Same.refl _) (fun b o e => ?_) ((Same.refl _).kp _)
    show (match Z b with | some o => some o | none => F' b) = some o
    cases z : Z b with
    | none => exact e
    | some u =>
      have h1 := T.s _ _ (R.zh b u z)
      have h2 := T.fh b o e
      rw [h1] at h2
      exact h2
  · refine ⟨?_, (T.fr a m).2⟩
    show (match Z a with | some o => some o | none => F' a) = none
    rw [R.zh.free (T.fr a m).2]
    exact (T.fr a m).1
section
variable {CX : CXT} {k : Nat} {f : Addr} {fd : FuncData} {ps : List Str} {S : SpW} {E : XK} {x : Str} {p : Pos}
theorem eo_call (G : FnOk X.prog X.w X.K X.mg X.base CX k f fd ps (spOf S)) (hr : Room k X.A) (hg : Gl X x) (hm : X.mg x = some (.ref f)) (hk : PySem.W.keepIn X.K (.ref f) = true) (hb : Binds X.K fd ps []) (hx : Passes CX X E) (ha : EvL X δ (e :: es) ws)
    (hS : S ws (.ok w)) (hdb : (x == ("__debug__" : Str)) = false := by decide) (he : starEach (e :: es) X.env = (false, eval e X.env) :: starEach es X.env := by rfl) (hpl : (backTo pos (starEach es X.env)).any (·.1) = false := by rfl) : EvO X δ (.Call (.Name x p) (e :: es) [] pos) w := by
  intro B σ H F Z φ Q R q
  refine PE.sem (pe_call G hr hg hm hk hb .nil hx pa_sem hdb he hpl) (ha B σ H F Z φ _ R fun vs H1 F1 Z1 R1 s1 sf1 sz1 A => ?_)
  rw [List.append_nil]
  refine ⟨ws, F1, .ok w, R1.fh, A, hS, fun v H2 F2 fp T => ?_⟩
  obtain ⟨Z2, R2, sz2, o, nd, n⟩ := R1.ret T
  exact q v H2 F2 Z2 fp R2 (s1.trans T.s) (sf1.trans T.sf) (sz1.trans sz2) o nd fun a m => ⟨(n a m).1, s1.free (n a m).2⟩
end
end
end OV

namespace OV
open PySem PySem.Spec PyProof.Rows L2
/-! ### statements -/
structure KE where
  nx : Dl → Prop
  rt : W → Dl → Prop
  bk : Dl → Prop := fun _ => False
  ct : Dl → Prop := fun _ => False
def AtD (B : Bs) (K : Dl → Prop) (σ : Sg) (H : Hp) : Prop := ∃ δ F Z φ, RR B σ δ H F Z φ ∧ K δ
def AtR (B : Bs) (K : W → Dl → Prop) (v : V) (H : Hp) : Prop := ∃ w σ δ F Z φ fp, RR B σ δ H F Z φ ∧ Own F Z H v w fp ∧ Fresh B Z φ fp ∧ K w δ
def endsOf (B : Bs) (K : KE) : Ends := { nx := AtD B K.nx, rt := AtR B K.rt, bk := AtD B K.bk, ct := AtD B K.ct }
def WpS (X : Cx) (L : List Nat) (δ : Dl) (st : Stmt) (K : KE) : Prop := ∀ (B : Bs), pks B = L → ∀ σ H F Z φ, RR B σ δ H F Z φ → SemS X st (endsOf B K) σ H
def WpSs (X : Cx) (L : List Nat) (δ : Dl) (sts : List Stmt) (K : KE) : Prop := ∀ (B : Bs), pks B = L → ∀ σ H F Z φ, RR B σ δ H F Z φ → SemSs X sts (endsOf B K) σ H
/-- what follows, then K -/
def KE.th (K : KE) (X : Cx) (L : List Nat) (rest : List Stmt) : KE := { K with nx := fun δ => WpSs X L δ rest K }
structure KLe (K K' : KE) : Prop where
  nx : ∀ δ, K.nx δ → K'.nx δ
  rt : ∀ w δ, K.rt w δ → K'.rt w δ
  bk : ∀ δ, K.bk δ → K'.bk δ
  ct : ∀ δ, K.ct δ → K'.ct δ
theorem AtD.mono {B : Bs} {K K' : Dl → Prop} (l : ∀ δ, K δ → K' δ) {σ : Sg} {H : Hp} (h : AtD B K σ H) : AtD B K' σ H := let ⟨δ, F, Z, φ, R, k⟩ := h; ⟨δ, F, Z, φ, R, l δ k⟩
theorem AtR.mono {B : Bs} {K K' : W → Dl → Prop} (l : ∀ w δ, K w δ → K' w δ) {v : V} {H : Hp} (h : AtR B K v H) : AtR B K' v H := let ⟨w, σ, δ, F, Z, φ, fp, R, o, f, k⟩ := h; ⟨w, σ, δ, F, Z, φ, fp, R, o, f, l w δ k⟩
theorem KLe.ends {K K' : KE} (l : KLe K K') (B : Bs) : EndLe (endsOf B K) (endsOf B K') := ⟨fun _ _ => AtD.mono l.nx, fun _ _ => AtR.mono l.rt, fun _ _ => AtD.mono l.bk, fun _ _ => AtD.mono l.ct⟩
section
variable {X : Cx} {L : List Nat} {δ δ' δ1 δ2 : Dl} {e a b c : Expr} {st : Stmt} {sts rest : List Stmt} {K K' : KE} {w u : W} {ws : List W} {d : D} {pos : Pos}
theorem WpSs.mono (h : WpSs X L δ sts K) (l : KLe K K') : WpSs X L δ sts K' := fun B hB σ H F Z φ R => (h B hB σ H F Z φ R).mono (l.ends B)
theorem WpSs.fg (h : WpSs X L δ' sts K) (g : Fg δ δ') : WpSs X L δ sts K := fun B hB σ H F Z φ R => h B hB σ H F Z _ (R.fg g)
theorem wn (h : K.nx δ) : WpSs X L δ [] K := fun B hB σ H F Z φ R => PSs.sem pss_nil ⟨δ, F, Z, φ, R, h⟩
theorem wcons (h : WpS X L δ st (K.th X L rest)) : WpSs X L δ (st :: rest) K := fun B hB σ H F Z φ R => by
  refine PSs.sem (pss_cons ps_sem pss_sem) ((h B hB σ H F Z φ R).mono ⟨fun σ' H' q => ?_, fun _ _ q => q, fun _ _ q => q, fun _ _ q => q⟩)
  obtain ⟨δ', F', Z', φ', R', k⟩ := q
  exact k B hB σ' H' F' Z' φ' R'
/-- the same with the end's cut -/
theorem wcut (Mid : Dl → Prop) (h : WpS X L δ st { K with nx := Mid }) (h2 : ∀ δ', Mid δ' → WpSs X L δ' rest K) : WpSs X L δ (st :: rest) K :=
  wcons fun B hB σ H F Z φ R => (h B hB σ H F Z φ R).mono (KLe.ends (K := { K with nx := Mid }) (K' := K.th X L rest) ⟨h2, fun _ _ q => q, fun _ q => q, fun _ q => q⟩ B)
theorem wset {i : Nat} {x : Str} {pos' : Pos} (nd : X.N.Nodup) (hi : X.N[i]? = some x) (hx : Loc X.env.scope x) (he : EvC X δ e w δ1) (hs : swapsWith e (some (.Name x pos')) pos.line X.env = pure false) (hf : X.fn x = true ∨ X.env.scope.names.lookup x = some .local)
    (hL : i ∉ L) (hl : i < δ1.length) (h : WpSs X L (δ1.set i (some w)) rest K) : WpSs X L δ (.Assign [.Name x pos'] e pos :: rest) K :=
  wcons fun B hB σ H F Z φ R => PS.sem (ps_set nd hi hx pe_sem hs hf) (he B σ H F Z φ _ R fun v H' F' Z' φ' fp R' A o fr => ⟨_, F', Z', _, R'.store o fr hl (hB ▸ hL), h⟩)
theorem wret (he : EvC X δ e w δ1) (h : K.rt w δ1) : WpSs X L δ (.Return (some e) pos :: rest) K :=
  wcons fun B hB σ H F Z φ R => PS.sem (ps_ret pe_sem) (he B σ H F Z φ _ R fun v H' F' Z' φ' fp R' A o fr => ⟨w, σ, δ1, F', Z', φ', fp, R', o, fr, h⟩)
theorem wretN (h : K.rt (.fz .non) δ) : WpSs X L δ (.Return none pos :: rest) K :=
  wcons fun B hB σ H F Z φ R => PS.sem ps_retN ⟨_, σ, δ, F, Z, φ, [], R, .fz .non, .nil, h⟩
theorem wif {k : Bool} {sa sb : List Stmt} (hc : EvT X δ c k) (h1 : k = true → WpSs X L δ sa (K.th X L rest)) (h2 : k = false → WpSs X L δ sb (K.th X L rest)) : WpSs X L δ (.If c sa sb pos :: rest) K :=
  wcons fun B hB σ H F Z φ R => PS.sem (ps_if pt_sem pss_sem pss_sem) (hc B σ H F Z φ _ R fun H' F' Z' R' s sf sz => by
    cases k with
    | true => exact h1 rfl B hB σ H' F' Z' φ R'
    | false => exact h2 rfl B hB σ H' F' Z' φ R')
/-- an if whose two ways meet -/
theorem wif2 {k : Bool} {sa sb : List Stmt} (Mid : Dl → Prop) (hc : EvT X δ c k) (h1 : k = true → WpSs X L δ sa { K with nx := Mid }) (h2 : k = false → WpSs X L δ sb { K with nx := Mid }) (h : ∀ δ', Mid δ' → WpSs X L δ' rest K) : WpSs X L δ (.If c sa sb pos :: rest) K :=
  wif hc (fun e => (h1 e).mono ⟨h, fun _ _ q => q, fun _ q => q, fun _ q => q⟩) (fun e => (h2 e).mono ⟨h, fun _ _ q => q, fun _ q => q, fun _ q => q⟩)
theorem wexpr (he : EvC X δ e w δ1) (hs : swapsWith e none pos.line X.env = pure false) (h : WpSs X L δ1 rest K) : WpSs X L δ (.Expr e pos :: rest) K :=
  wcons fun B hB σ H F Z φ R => PS.sem (ps_expr pe_sem hs) (he B σ H F Z φ _ R fun v H' F' Z' φ' fp R' A o fr => ⟨δ1, F', Z', φ', R', h⟩)
theorem wpass (h : WpSs X L δ rest K) : WpSs X L δ (.Pass pos :: rest) K := wcons fun B hB σ H F Z φ R => PS.sem ps_pass ⟨δ, F, Z, φ, R, h⟩
theorem wcontinue (h : K.ct δ) : WpSs X L δ (.Continue pos :: rest) K := wcons fun B hB σ H F Z φ R => PS.sem ps_continue ⟨δ, F, Z, φ, R, h⟩
theorem wbreak (h : K.bk δ) : WpSs X L δ (.Break pos :: rest) K := wcons fun B hB σ H F Z φ R => PS.sem ps_break ⟨δ, F, Z, φ, R, h⟩
theorem wnever (h : False) : WpSs X L δ sts K := h.elim

/-! ### targets -/
inductive Tg where
  | one (i : Nat)
  | many (is : List Nat)
def gNs : List Nat → TGs
  | [] => gNil
  | i :: is => gCons (gName i) (gNs is)
def tgR (K : PySem.W.Frag) : Tg → TG
  | .one i => gName i
  | .many is => gTup K is.length (gNs is)
def Tg.is : Tg → List Nat
  | .one i => [i]
  | .many is => is
def W.tits : W → Option (List W)
  | .fz (.tup ds) => some (ds.map .fz)
  | .bo (.tup ds) => some (ds.map .bo)
  | _ => none
def setL : Dl → List Nat → List W → Dl
  | δ, i :: is, w :: ws => setL (δ.set i (some w)) is ws
  | δ, _, _ => δ
def tgD (δ : Dl) : Tg → W → Option Dl
  | .one i, w => if w.leaf then some (δ.set i (some w)) else none
  | .many is, w => match w.tits with
    | some ws => if ws.length = is.length then some (setL δ is ws) else none
    | none => none
theorem tgD_one {δ : Dl} {i : Nat} {w : W} : tgD δ (.one i) w = if w.leaf then some (δ.set i (some w)) else none := rfl
theorem tgD_many {δ : Dl} {is : List Nat} {w : W} : tgD δ (.many is) w = match w.tits with
    | some ws => if ws.length = is.length then some (setL δ is ws) else none
    | none => none := rfl
theorem setL_len : ∀ {δ : Dl} {is : List Nat} {ws : List W}, (setL δ is ws).length = δ.length
  | δ, i :: is, w :: ws => by unfold setL; rw [setL_len, List.length_set]
  | δ, [], _ => by unfold setL; rfl
  | δ, _ :: _, [] => by unfold setL; rfl
theorem wipe_set {σ : Sg} {i : Nat} {v : Option V} : ∀ {vs : List Nat}, i ∈ vs → wipe (σ.set i v) vs = wipe σ vs
  | j :: vs, h => by
    unfold wipe
    by_cases q : i ∈ vs
    · rw [wipe_set q]
    · have e : i = j := (List.mem_cons.mp h).elim id fun z => absurd z q
      subst e
      have : ∀ vs : List Nat, i ∉ vs → wipe (σ.set i v) vs = (wipe σ vs).set i v := by
        intro vs
        induction vs with
        | nil => intro _; rfl
        | cons k vs ih =>
          intro hn
          unfold wipe
          have h1 : i ∉ vs := fun z => hn (List.mem_cons_of_mem _ z)
          have h2 : k ≠ i := fun z => hn (z ▸ List.mem_cons_self)
          rw [ih h1, List.set_comm _ _ h2.symm]
      rw [this vs q, List.set_set]
theorem upF_nil {φ : Nat → List Addr} {i : Nat} (h : φ i = []) : upF φ i [] = φ := by
  funext j
  by_cases q : j = i
  · subst q; rw [upF_same, h]
  · rw [upF_ne q]
theorem gNs_ok {B : Bs} : ∀ {is : List Nat} {vs : List V} {ws : List W} {σ : Sg} {δ : Dl} {H F Z : Hp} {φ : Nat → List Addr} {Q : Sg → Hp → Prop}, RR B σ δ H F Z φ → is.length = ws.length → (∀ i ∈ is, i < δ.length ∧ i ∉ pks B) →
    vs.length = ws.length → (∀ (j : Nat) (v : V) (w : W), vs[j]? = some v → ws[j]? = some w → Own F Z H v w []) →
    (∀ σ' φ', RR B σ' (setL δ is ws) H F Z φ' → (∀ own : List Nat, (∀ i ∈ is, i ∈ own) → wipe σ' own = wipe σ own) → ((∀ i ∈ is, φ i = []) → φ' = φ) → Q σ' H) → gNs is vs σ H Q
  | [], [], [], σ, δ, H, F, Z, φ, Q, R, _, _, _, _, k => ⟨rfl, k σ φ R (fun _ _ => rfl) fun _ => rfl⟩
  | i :: is, v :: vs, w :: ws, σ, δ, H, F, Z, φ, Q, R, hl, hi, hv, ho, k => by
    have o := ho 0 v w rfl rfl
    have R1 := R.store o .nil (hi i List.mem_cons_self).1 (hi i List.mem_cons_self).2
    refine ⟨v, vs, rfl, ?_⟩
    refine gNs_ok (is := is) (vs := vs) (ws := ws) R1 (by simpa using hl) (fun j m => ?_) (by simpa using hv) (fun j v' w' h1 h2 => ho (j + 1) v' w' (by simpa using h1) (by simpa using h2)) fun σ' φ' R' hw hp => k σ' φ' R' (fun own ho => ?_) fun hz => ?_
    · rw [List.length_set]; exact hi j (List.mem_cons_of_mem _ m)
    · rw [hw own fun j m => ho j (List.mem_cons_of_mem _ m), wipe_set (ho i List.mem_cons_self)]
    · have e0 : upF φ i [] = φ := upF_nil (hz i List.mem_cons_self)
      rw [e0] at hp
      exact hp fun j m => hz j (List.mem_cons_of_mem _ m)
  | [], _ :: _, [], _, _, _, _, _, _, _, _, _, _, h, _, _ => by simp at h
  | [], _, _ :: _, _, _, _, _, _, _, _, _, h, _, _, _, _ => by simp at h
  | _ :: _, _, [], _, _, _, _, _, _, _, _, h, _, _, _, _ => by simp at h
  | _ :: _, [], _ :: _, _, _, _, _, _, _, _, _, _, _, h, _, _ => by simp at h
theorem Dats.own_fz {F Z H : Hp} : ∀ {vs : List V} {ds : List D}, Dats F vs ds → ∀ (j : Nat) (v : V) (w : W), vs[j]? = some v → (ds.map W.fz)[j]? = some w → Own F Z H v w []
  | _, _, .nil, j, v, w, h, _ => by simp at h
  | _, _, .cons h t, 0, v, w, h1, h2 => by simp at h1 h2; subst h1 h2; exact .fz h
  | _, _, .cons h t, j + 1, v, w, h1, h2 => Dats.own_fz t j v w (by simpa using h1) (by simpa using h2)
theorem Dats.own_bo {F Z H : Hp} : ∀ {vs : List V} {ds : List D}, Dats Z vs ds → ∀ (j : Nat) (v : V) (w : W), vs[j]? = some v → (ds.map W.bo)[j]? = some w → Own F Z H v w []
  | _, _, .nil, j, v, w, h, _ => by simp at h
  | _, _, .cons h t, 0, v, w, h1, h2 => by simp at h1 h2; subst h1 h2; exact .bo h
  | _, _, .cons h t, j + 1, v, w, h1, h2 => Dats.own_bo t j v w (by simpa using h1) (by simpa using h2)
theorem tg_ok {B : Bs} {T : Tg} {σ : Sg} {δ δ2 : Dl} {H F Z : Hp} {φ : Nat → List Addr} {v : V} {Q : Sg → Hp → Prop} (R : RR B σ δ H F Z φ) (o : Own F Z H v w []) (hd : tgD δ T w = some δ2) (hi : ∀ i ∈ T.is, i < δ.length ∧ i ∉ pks B)
    (k : ∀ σ' φ', RR B σ' δ2 H F Z φ' → (∀ own : List Nat, (∀ i ∈ T.is, i ∈ own) → wipe σ' own = wipe σ own) → ((∀ i ∈ T.is, φ i = []) → φ' = φ) → Q σ' H) : tgR X.K T v σ H Q := by
  cases T with
  | one i =>
    rw [tgD_one] at hd
    split at hd
    · next l =>
      cases hd
      exact k _ _ (R.store o .nil (hi i List.mem_cons_self).1 (hi i List.mem_cons_self).2) (fun own ho => wipe_set (ho i List.mem_cons_self)) fun hz => upF_nil (hz i List.mem_cons_self)
    · cases hd
  | many is =>
    rw [tgD_many] at hd
    split at hd
    · next ws he =>
      split at hd
      · next hl =>
        cases hd
        have fin : ∀ (a : Addr) (vs : List V), v = .ref a → SqT X.K H a vs → vs.length = ws.length → (∀ (j : Nat) (v : V) (w : W), vs[j]? = some v → ws[j]? = some w → Own F Z H v w []) → tgR X.K (.many is) v σ H Q := fun a vs e hq hvl ho =>
          ⟨a, vs, e, hq, hvl.trans hl, gNs_ok R hl.symm hi hvl ho k⟩
        cases w with
        | fz d =>
          cases d with
          | tup ds =>
            cases he
            cases fzInv o with
            | tup r hh => exact fin _ _ rfl (.inl (.inl (R.fh _ _ r))) (by rw [hh.len, List.length_map]) hh.own_fz
          | _ => cases he
        | bo d =>
          cases d with
          | tup ds =>
            cases he
            cases o with
            | bo h =>
              cases h with
              | tup r hh => exact fin _ _ rfl (.inl (.inl (R.zh _ _ r))) (by rw [hh.len, List.length_map]) hh.own_bo
          | _ => cases he
        | _ => cases he
      · cases hd
    · cases hd
def PTg (X : Cx) (tg : Expr) (T : Tg) : Prop := PG X tg (tgR X.K T)
theorem ptg_one {i : Nat} {x : Str} (nd : X.N.Nodup) (hi : X.N[i]? = some x) (hx : Loc X.env.scope x) (hf : X.fn x = true ∨ X.env.scope.names.lookup x = some .local) : PTg X (.Name x pos) (.one i) := pg_name nd hi hx hf
theorem ptg_many {es : List Expr} {k : Nat} {is : List Nat} (hc : X.calm = true) (h : PGs X es (gNs is)) (hn : (assignEach es X.env).length = is.length) (hst : (assignEach es X.env).findIdx? (·.1) = none) : PTg X (.Tuple es k pos) (.many is) := pg_tup hc h hn hst
theorem pgn_nil : PGs X [] (gNs []) := pgs_nil
theorem pgn_cons {es : List Expr} {i : Nat} {is : List Nat} {x : Str} (nd : X.N.Nodup) (hi : X.N[i]? = some x) (hx : Loc X.env.scope x) (hf : X.fn x = true ∨ X.env.scope.names.lookup x = some .local) (t : PGs X es (gNs is))
    (hs : (assignEach (.Name x pos :: es) X.env).map (·.2) = assign (.Name x pos) X.env :: (assignEach es X.env).map (·.2)) : PGs X (.Name x pos :: es) (gNs (i :: is)) := pgs_cons (pg_name nd hi hx hf) t hs
/-- a, b = e -/
theorem wunpack {es : List Expr} {k : Nat} {is : List Nat} {pos' : Pos} (hg : PTg X (.Tuple es k pos') (.many is)) (he : EvV X δ e w) (hw : w.leaf = true) (hd : tgD δ (.many is) w = some δ2) (hi : ∀ i ∈ is, i < δ.length ∧ i ∉ L)
    (hs : swapsWithSole [.Tuple es k pos'] e pos.line X.env = pure false) (hw2 : swappedStores [.Tuple es k pos'] e X.env = pure none) (h1 : (assignEach [.Tuple es k pos'] X.env).map (·.2) = [assign (.Tuple es k pos') X.env])
    (h : WpSs X L δ2 rest K) : WpSs X L δ (.Assign [.Tuple es k pos'] e pos :: rest) K :=
  wcons fun B hB σ H F Z φ R => PS.sem (ps_asg pe_sem hg hs hw2 h1) (he B σ H F Z φ _ R fun v H' F' Z' fp R' s sf sz o => by
    have e1 := o.leaf hw
    subst e1
    exact tg_ok R' o hd (fun i m => ⟨(hi i m).1, hB ▸ (hi i m).2⟩) fun σ' φ' R2 _ _ => ⟨δ2, F', Z', φ', R2, h⟩)

/-! ### what a loop walks -/
/-- the iterator J gives ws, whatever comes later -/
def ItOk (J : It) (F Z : Hp) (ws : List W) : Prop := ∀ (i : Nat) (H2 F2 Z2 : Hp), Same F F2 → Same Z Z2 → Same F2 Z2 → Same Z2 H2 → (∀ w, ws[i]? = some w → J.go i H2 ∧ ∀ x H3, J.yld i H2 x H3 →
    ∃ F3 Z3, Same H2 H3 ∧ Same F2 F3 ∧ Same Z2 Z3 ∧ (∀ B σ δ φ, RR B σ δ H2 F2 Z2 φ → RR B σ δ H3 F3 Z3 φ) ∧ Own F3 Z3 H3 x w []) ∧ (ws.length ≤ i → J.stop i H2)
def ItW (X : Cx) (δ : Dl) (tg iter : Expr) (ws : List W) : Prop := ∃ wi : TI, PI X tg iter wi ∧ ∀ (B : Bs) σ H F Z φ (Q : It → Hp → Prop), RR B σ δ H F Z φ →
  (∀ J H' F' Z', RR B σ δ H' F' Z' φ → Same H H' → Same F F' → Same Z Z' → ItOk J F' Z' ws → Q J H') → wi σ H Q
def W.lits : W → Option (List W)
  | .fz (.lst ds) => some (ds.map .fz)
  | .bo (.lst ds) => some (ds.map .bo)
  | _ => none
theorem itok_same {J : It} {F Z : Hp} {ws : List W} (h : ∀ (i : Nat) (H2 F2 Z2 : Hp), Same F F2 → Same Z Z2 → Same F2 Z2 → Same Z2 H2 → (∀ w, ws[i]? = some w → J.go i H2 ∧ ∀ x H3, J.yld i H2 x H3 → H3 = H2 ∧ Own F2 Z2 H2 x w []) ∧ (ws.length ≤ i → J.stop i H2)) : ItOk J F Z ws :=
  fun i H2 F2 Z2 s1 s2 s3 s4 => ⟨fun w e => ⟨((h i H2 F2 Z2 s1 s2 s3 s4).1 w e).1, fun x H3 y => by
    obtain ⟨e3, o⟩ := ((h i H2 F2 Z2 s1 s2 s3 s4).1 w e).2 x H3 y
    subst e3
    exact ⟨F2, Z2, Same.refl _, Same.refl _, Same.refl _, fun _ _ _ _ R => R, o⟩⟩, (h i H2 F2 Z2 s1 s2 s3 s4).2⟩
theorem itw_list {tg iter : Expr} (h : EvV X δ iter w) (hw : w.lits = some ws) : ItW X δ tg iter ws := by
  refine ⟨_, pi_list pe_sem, fun B σ H F Z φ Q R k => h B σ H F Z φ _ R fun v H' F' Z' fp R' s sf sz o => ?_⟩
  have fin : ∀ (a : Addr) (vs : List V), v = .ref a → Z' a = some (.lst vs) → vs.length = ws.length → (∀ (F2 Z2 H2 : Hp), Same F' F2 → Same Z' Z2 → ∀ (j : Nat) (v : V) (w : W), vs[j]? = some v → ws[j]? = some w → Own F2 Z2 H2 v w []) →
      ∃ a, v = .ref a ∧ (∃ xs, SqL X.K H' a xs) ∧ Q (Itl X.K a) H' := fun a vs e r hl ho => by
    refine ⟨a, e, ⟨vs, .inl (.inl (R'.zh _ _ r))⟩, k _ H' F' Z' R' s sf sz (itok_same fun i H2 F2 Z2 s1 s2 s3 s4 => ⟨fun w e => ?_, fun l => ⟨vs, .inl (.inl ((s2.trans s4) _ _ r)), by omega⟩⟩)⟩
    have hi : i < vs.length := by rw [hl]; exact (List.getElem?_eq_some_iff.mp e).1
    have hv : vs[i]? = some vs[i] := List.getElem?_eq_getElem hi
    refine ⟨⟨vs, _, .inl (.inl ((s2.trans s4) _ _ r)), hv⟩, fun x H3 y => ⟨y.1, ?_⟩⟩
    have := y.2 vs (.inl (.inl ((s2.trans s4) _ _ r)))
    rw [hv] at this
    cases this
    exact ho F2 Z2 H2 s1 s2 i _ w hv e
  cases w with
  | fz d =>
    cases d with
    | lst ds =>
      cases hw
      cases fzInv o with
      | lst r hh => exact fin _ _ rfl (R'.fz _ _ r) (by rw [hh.len, List.length_map]) fun F2 Z2 H2 s1 s2 => (hh.mono s1).own_fz
    | _ => cases hw
  | bo d =>
    cases d with
    | lst ds =>
      cases hw
      cases o with
      | bo h =>
        cases h with
        | lst r hh => exact fin _ _ rfl r (by rw [hh.len, List.length_map]) fun F2 Z2 H2 s1 s2 => (hh.mono s2).own_bo
    | _ => cases hw
  | _ => cases hw
theorem itw_tup {tg iter : Expr} (h : EvV X δ iter w) (hw : w.tits = some ws) : ItW X δ tg iter ws := by
  refine ⟨_, pi_tup pe_sem, fun B σ H F Z φ Q R k => h B σ H F Z φ _ R fun v H' F' Z' fp R' s sf sz o => ?_⟩
  have fin : ∀ (a : Addr) (vs : List V), v = .ref a → Z' a = some (.tup vs) → vs.length = ws.length → (∀ (F2 Z2 H2 : Hp), Same F' F2 → Same Z' Z2 → ∀ (j : Nat) (v : V) (w : W), vs[j]? = some v → ws[j]? = some w → Own F2 Z2 H2 v w []) →
      ∃ a, v = .ref a ∧ (∃ xs, SqT X.K H' a xs) ∧ Q (Itt X.K a) H' := fun a vs e r hl ho => by
    refine ⟨a, e, ⟨vs, .inl (.inl (R'.zh _ _ r))⟩, k _ H' F' Z' R' s sf sz (itok_same fun i H2 F2 Z2 s1 s2 s3 s4 => ⟨fun w e => ?_, fun l => ⟨vs, .inl (.inl ((s2.trans s4) _ _ r)), by omega⟩⟩)⟩
    have hi : i < vs.length := by rw [hl]; exact (List.getElem?_eq_some_iff.mp e).1
    have hv : vs[i]? = some vs[i] := List.getElem?_eq_getElem hi
    refine ⟨⟨vs, _, .inl (.inl ((s2.trans s4) _ _ r)), hv⟩, fun x H3 y => ⟨y.1, ?_⟩⟩
    have := y.2 vs (.inl (.inl ((s2.trans s4) _ _ r)))
    rw [hv] at this
    cases this
    exact ho F2 Z2 H2 s1 s2 i _ w hv e
  cases w with
  | fz d =>
    cases d with
    | tup ds =>
      cases hw
      cases fzInv o with
      | tup r hh => exact fin _ _ rfl (R'.fz _ _ r) (by rw [hh.len, List.length_map]) fun F2 Z2 H2 s1 s2 => (hh.mono s1).own_fz
    | _ => cases hw
  | bo d =>
    cases d with
    | tup ds =>
      cases hw
      cases o with
      | bo h =>
        cases h with
        | tup r hh => exact fin _ _ rfl r (by rw [hh.len, List.length_map]) fun F2 Z2 H2 s1 s2 => (hh.mono s2).own_bo
    | _ => cases hw
  | _ => cases hw
def rangeW (lo : Int) (n : Nat) : List W := (List.range n).map fun (k : Nat) => .fz (.int (lo + (k : Int)))
theorem itok_range {lo : Int} {n : Nat} {F Z : Hp} : ItOk (Itr lo n) F Z (rangeW lo n) := itok_same fun i H2 F2 Z2 _ _ _ _ => ⟨fun w e => by
    unfold rangeW at e
    rw [List.getElem?_map] at e
    cases q : (List.range n)[i]? with
    | none => rw [q] at e; cases e
    | some j =>
      rw [q] at e
      cases e
      have hi : i < n := by have := (List.getElem?_eq_some_iff.mp q).1; simpa using this
      have ej : j = i := by rw [List.getElem?_range hi] at q; exact (Option.some.inj q).symm
      subst ej
      exact ⟨hi, fun x H3 y => ⟨y.1, by rw [y.2]; exact .fz (.int _)⟩⟩, fun l => by
    unfold rangeW at l
    have l' : n ≤ i := by simpa using l
    exact l'⟩
theorem itw_range1 {tg : Expr} {p : Pos} {n : Int} (hg : Gl X "range") (hm : X.mg "range" = none) (h : EvV X δ a w) (l : Lf (.int n) w) (h1 : -(2 ^ 62) ≤ n) (h2 : n < 2 ^ 62) (hs : starEach [a] X.env = [(false, eval a X.env)]) :
    ItW X δ tg (.Call (.Name "range" p) [a] [] pos) (rangeW 0 n.toNat) :=
  ⟨_, pi_range1 hg hm (pa_cons pe_sem pa_nil (by rw [hs]; rfl)) hs, fun B σ H F Z φ Q R k => h B σ H F Z φ _ R fun v H' F' Z' fp R' s sf sz o => ⟨n, by rw [l.int R'.fz o], h1, h2, k _ H' F' Z' R' s sf sz itok_range⟩⟩
theorem itw_range2 {tg : Expr} {p : Pos} {m n : Int} (hg : Gl X "range") (hm : X.mg "range" = none) (h : EvV X δ a w) (l : Lf (.int m) w) (h' : EvV X δ b u) (l' : Lf (.int n) u) (h1 : -(2 ^ 62) ≤ m ∧ m < 2 ^ 62 ∧ -(2 ^ 62) ≤ n ∧ n < 2 ^ 62)
    (hs : starEach [a, b] X.env = [(false, eval a X.env), (false, eval b X.env)]) (hs2 : starEach [b] X.env = [(false, eval b X.env)]) :
    ItW X δ tg (.Call (.Name "range" p) [a, b] [] pos) (rangeW m (n - m).toNat) :=
  ⟨_, pi_range2 hg hm (pa_cons pe_sem (pa_cons pe_sem pa_nil (by rw [hs2]; rfl)) (by rw [hs, hs2])) hs hs2, fun B σ H F Z φ Q R k => ev_two h h' R fun v1 v2 H' F' Z' f1 f2 R' s sf sz o1 o2 =>
    ⟨m, n, by rw [l.int R'.fz o1, l'.int R'.fz o2], h1, k _ H' F' Z' R' s sf sz itok_range⟩⟩

/-! ### for -/
theorem wfor {tg iter : Expr} {body : List Stmt} {T : Tg} (hp : PassesOwn (model X.prog X.w) X.A X.env X.xe) (hc : X.calm = true) (hi : ItW X δ tg iter ws) (hg : PTg X tg T) (hl : ∀ (δ' : Dl), δ'.length = δ.length → ∀ i ∈ T.is, i < δ'.length ∧ i ∉ L)
    (I : Nat → Dl → Prop) (h0 : I 0 δ) (hlen : ∀ i δ', I i δ' → δ'.length = δ.length)
    (hb : ∀ i w δ', ws[i]? = some w → I i δ' → ∃ δ2, tgD δ' T w = some δ2 ∧ WpSs X L δ2 body { K with nx := I (i + 1), ct := I (i + 1), bk := fun δ' => WpSs X L δ' rest K })
    (hd : ∀ δ', I ws.length δ' → WpSs X L δ' rest K) (hs : ∀ x, foldedSetIterable iter X.env x = pure x) : WpSs X L δ (.For tg iter body [] pos :: rest) K := by
  refine wcons fun B hB σ H F Z φ R => ?_
  obtain ⟨wi, pi, hwi⟩ := hi
  refine PS.sem (ps_for hp hc pi hg pss_sem hs) (hwi B σ H F Z φ _ R fun J H1 F1 Z1 R1 s1 sf1 sz1 ok => ?_)
  refine ⟨fun i m σ' H' => m = ws.length - i ∧ i ≤ ws.length ∧ AtD ⟨F1, Z1, B.H0, B.P, B.pn⟩ (I i) σ' H', ⟨ws.length, by simp, Nat.zero_le _, δ, F1, Z1, φ, R1.base, h0⟩, ?_⟩
  rintro i m σ' H2 ⟨rfl, hi, δ', F2, Z2, φ2, R2, hI⟩
  have back : ∀ {K : Dl → Prop} {σ : Sg} {H : Hp}, AtD ⟨F1, Z1, B.H0, B.P, B.pn⟩ K σ H → AtD B K σ H := fun {K σ H} ⟨δ, F, Z, φ, R, k⟩ => ⟨δ, F, Z, φ, R.unbase R1.f0 R1.z0 R1.newF, k⟩
  obtain ⟨hgo, hstop⟩ := ok i H2 F2 Z2 R2.f0 R2.z0 R2.fz R2.zh
  by_cases hlt : i < ws.length
  · have hw : ws[i]? = some ws[i] := List.getElem?_eq_getElem hlt
    obtain ⟨go, hy⟩ := hgo _ hw
    refine .inr ⟨go, fun σ3 H3 => AtD ⟨F1, Z1, B.H0, B.P, B.pn⟩ (I (i + 1)) σ3 H3, fun σ3 H3 q => ⟨ws.length - (i + 1), by omega, rfl, hlt, q⟩, fun x H3 y => ?_⟩
    obtain ⟨F3, Z3, s3, sf3, sz3, R3, o3⟩ := hy x H3 y
    obtain ⟨δ2, hd2, hb2⟩ := hb i _ δ' hw hI
    refine tg_ok (R3 _ _ _ _ R2) o3 hd2 (fun j mj => ?_) fun σ4 φ4 R4 _ _ => ?_
    · have := hl δ' (hlen i δ' hI) j mj
      exact ⟨this.1, fun z => this.2 (hB ▸ z)⟩
    · refine (hb2 ⟨F1, Z1, B.H0, B.P, B.pn⟩ hB σ4 H3 F3 Z3 φ4 R4).mono ⟨fun _ _ q => q, fun v H5 q => ?_, fun _ _ q => ?_, fun _ _ q => q⟩
      · obtain ⟨w, σ, δ, F, Z, φ, fp, R, o, f, k⟩ := q
        exact ⟨w, σ, δ, F, Z, φ, fp, R.unbase R1.f0 R1.z0 R1.newF, o, ⟨f.nd, f.z, f.d, f.n⟩, k⟩
      · exact back q
  · have e : i = ws.length := by omega
    subst e
    exact .inl ⟨hstop (Nat.le_refl _), δ', F2, Z2, φ2, R2.unbase R1.f0 R1.z0 R1.newF, hd δ' hI⟩
/-- a loop that folds a state: A tells what the slots hold of it -/
theorem wfold {α S : Type} {tg iter : Expr} {body : List Stmt} {T : Tg} (xs : List α) (ea : α → W) (A : S → Dl) (f : S → α → S) (s0 : S) (hp : PassesOwn (model X.prog X.w) X.A X.env X.xe) (hc : X.calm = true) (hi : ItW X δ tg iter (xs.map ea)) (hg : PTg X tg T)
    (h0 : Fg δ (A s0)) (hl : ∀ s i, i ∈ T.is → i < (A s).length ∧ i ∉ L) (hlen : ∀ s, (A s).length = δ.length)
    (hb : ∀ pre x post, xs = pre ++ x :: post → ∃ δ2, tgD (A (pre.foldl f s0)) T (ea x) = some δ2 ∧
      WpSs X L δ2 body { K with nx := fun δ' => Fg δ' (A (f (pre.foldl f s0) x)), ct := fun δ' => Fg δ' (A (f (pre.foldl f s0) x)), bk := fun δ' => WpSs X L δ' rest K })
    (hd : WpSs X L (A (xs.foldl f s0)) rest K) (hs : ∀ x, foldedSetIterable iter X.env x = pure x) : WpSs X L δ (.For tg iter body [] pos :: rest) K := by
  have go : WpSs X L (A s0) (.For tg iter body [] pos :: rest) K → WpSs X L δ (.For tg iter body [] pos :: rest) K := fun h => h.fg h0
  refine wfor hp hc hi hg (fun δ' e i m => ?_) (fun i δ' => Fg δ' (A ((xs.take i).foldl f s0))) (by simpa using h0) (fun i δ' h => by rw [← h.len, hlen]) (fun i w δ' hw hI => ?_) (fun δ' hI => ?_) hs
  · have := hl s0 i m
    rw [hlen] at this
    rw [e]; exact this
  · rw [List.getElem?_map] at hw
    cases q : xs[i]? with
    | none => rw [q] at hw; cases hw
    | some x =>
      rw [q] at hw
      cases hw
      have hi := (List.getElem?_eq_some_iff.mp q).1
      have ex : xs = xs.take i ++ x :: xs.drop (i + 1) := by
        rw [← (List.getElem?_eq_some_iff.mp q).2, List.getElem_cons_drop, List.take_append_drop]
      have et : xs.take (i + 1) = xs.take i ++ [x] := by rw [List.take_add_one, q]; rfl
      obtain ⟨δ2, h1, h2⟩ := hb _ x _ ex
      rw [et, List.foldl_append]
      have key : ∀ (δ' δ'' δ2 : Dl) (T : Tg) (w : W), Fg δ' δ'' → tgD δ'' T w = some δ2 → ∃ δ3, tgD δ' T w = some δ3 ∧ Fg δ3 δ2 := by
        have hset : ∀ {δ δ' : Dl} (i : Nat) (w : Option W), Fg δ δ' → Fg (δ.set i w) (δ'.set i w) := by
          intro δ
          induction δ with
          | nil => intro δ' i w h; cases δ' with
            | nil => exact h
            | cons _ _ => exact h.elim
          | cons a as ih => intro δ' i w h; cases δ' with
            | nil => exact h.elim
            | cons b bs => cases i with
              | zero => exact ⟨.inr rfl, h.2⟩
              | succ i => exact ⟨h.1, ih i w h.2⟩
        have hsetL : ∀ {is : List Nat} {ws : List W} {δ δ' : Dl}, Fg δ δ' → Fg (setL δ is ws) (setL δ' is ws) := by
          intro is
          induction is with
          | nil => intro ws δ δ' h; unfold setL; exact h
          | cons i is ih => intro ws δ δ' h; cases ws with
            | nil => unfold setL; exact h
            | cons w ws => unfold setL; exact ih (hset i _ h)
        intro δ' δ'' δ2 T w g h
        cases T with
        | one i =>
          rw [tgD_one] at h ⊢
          split at h
          · next l => cases h; rw [if_pos l]; exact ⟨_, rfl, hset i _ g⟩
          · cases h
        | many is =>
          rw [tgD_many] at h ⊢
          cases he : w.tits with
          | none => rw [he] at h; cases h
          | some ws =>
            rw [he] at h
            simp only at h ⊢
            split at h
            · next hl => cases h; rw [if_pos hl]; exact ⟨_, rfl, hsetL g⟩
            · cases h
      obtain ⟨δ3, h3, h4⟩ := key δ' _ δ2 T (ea x) hI h1
      exact ⟨δ3, h3, h2.fg h4⟩
  · rw [List.length_map, List.take_length] at hI
    exact hd.fg hI

/-! ### the def itself -/
section
variable {P : Program} {w0 : World} {Kf : PySem.W.Frag} {mg : Str → Option Value} {base : Heap}
theorem fn_mk {x qual : Str} {st : Stmt} {f : Addr} {fd : FuncData} {N ps : List Str} {k : Nat} {S : SpW} (Fn : Fun Kf x qual st f fd) (sc : FnScope N ps (defScope st)) (hl : ∀ ws r, S ws r → ws.length = ps.length)
    (hN : ps.length ≤ N.length)
    (hb : ∀ (cdv : Value) (A : Around) (outer : List Env) (s : Shared) (H : Hp) (E : XK), Room k (A.deeper (envOfC qual (defScope st) s.heap.objs.size f cdv)) → ∀ ws r, S ws r →
      WpSs (cxOf CX0 P w0 Kf mg base N qual (defScope st) f cdv A outer s H E).nox [] (ws.map some ++ List.replicate (N.length - ws.length) none) (defBody st) { nx := fun _ => r = .ok (.fz .non), rt := fun w _ => w.nb = true ∧ r = .ok w }) :
    FnOk P w0 Kf mg base CX0 (k + 1) f fd ps (spOf S) := by
  refine Fn.ok sc (fun vs H Q E h => ?_) (fun cdv A outer s H vs Q E hr h => ?_)
  · obtain ⟨ws, F, r, _, ha, hs, _⟩ := h
    rw [ha.len]; exact hl ws r hs
  · obtain ⟨ws, F, r, hF, ha, hs, hq⟩ := h
    refine ⟨_, pss_sem, ?_⟩
    have hlw := hl ws r hs
    have R0 : RR ⟨F, H, H, fun _ => False, []⟩ (L2.start N vs) (ws.map some ++ List.replicate (N.length - ws.length) none) H F H (fun _ => []) := by
      refine ⟨?_, fun i w e => ?_, fun _ => .nil, fun _ _ _ h => (nomatch h), fun _ _ h => (nomatch h), fun _ _ h => (nomatch h), fun _ _ h => (nomatch h), hF, Same.refl _, Same.refl _, Same.refl _, fun _ _ e _ => e, fun _ h => h.elim, fun b o e => .inl e, fun _ h => (nomatch h), ⟨0, fun _ _ => rfl⟩, fun _ _ => rfl⟩
      · unfold L2.start; simp [ha.len]
      · have hi : i < ws.length := by
          by_cases q : i < ws.length
          · exact q
          · rw [List.getElem?_append_right (by simp; omega)] at e
            rw [List.getElem?_replicate] at e
            split at e <;> cases e
        rw [List.getElem?_append_left (by simp; exact hi), List.getElem?_map] at e
        have e2 : ws[i]? = some w := by
          cases q : ws[i]? with
          | none => rw [q] at e; cases e
          | some u => rw [q] at e; cases e; rfl
        obtain ⟨v, h1, h2⟩ := ha.get e2
        refine ⟨v, ?_, h2⟩
        unfold L2.start
        rw [List.getElem?_append_left (by simp; rw [ha.len]; exact hi), List.getElem?_map, h1]
        rfl
    have fin : ∀ {w : W} {v : V} {H' : Hp}, AtR ⟨F, H, H, fun _ => False, []⟩ (fun w _ => w.nb = true ∧ r = .ok w) v H' → Q v H' := fun {w v H'} q => by
      obtain ⟨w, σ, δ, F', Z', φ', fp, R, o, fr, nb, er⟩ := q
      subst er
      exact hq v H' F' fp ⟨fun b o e => R.keep b o e id, R.f0, R.fh, fun b o e => (R.newF b o e).elim .inl fun z => z.elim .inr fun z => z.elim, o.nbz nb, fr.nd, fun a m => ⟨R.fz.free (fr.z a m), (fr.n a m).elim id fun z => z.elim⟩⟩
    refine (hb cdv A outer s H E hr ws r hs _ rfl _ _ _ _ _ R0).mono ⟨fun σ' H' q => ?_, fun v H' q => fin (w := .fz .non) q, fun _ _ ⟨_, _, _, _, _, k⟩ => k.elim, fun _ _ ⟨_, _, _, _, _, k⟩ => k.elim⟩
    obtain ⟨δ, F', Z', φ, R, er⟩ := q
    exact fin (w := .fz .non) ⟨.fz .non, σ', δ, F', Z', φ, [], R, .fz .non, .nil, rfl, er⟩
end
end
end OV

namespace OV
open PySem PySem.Spec PyProof.Rows L2
/-! ### lists, tuples, dicts: what is in them -/
def W.itL : W → Option (List W)
  | .fz (.lst ds) => some (ds.map .fz)
  | .bo (.lst ds) => some (ds.map .bo)
  | .lst ws => some ws
  | _ => none
/-- .. a list that is not the law's own -/
def W.itS : W → Option (List W)
  | .fz (.lst ds) => some (ds.map .fz)
  | .bo (.lst ds) => some (ds.map .bo)
  | .lst ws => some ws
  | _ => none
def W.itT : W → Option (List W)
  | .fz (.tup ds) => some (ds.map .fz)
  | .bo (.tup ds) => some (ds.map .bo)
  | .tup ws => some ws
  | _ => none
theorem Dats.owns_fz {F Z H : Hp} : ∀ {vs : List V} {ds : List D}, Dats F vs ds → ∃ g, Owns F Z H vs (ds.map .fz) g
  | _, _, .nil => ⟨[], .nil⟩
  | _, _, .cons h t => let ⟨g, q⟩ := Dats.owns_fz t; ⟨[] ++ g, .cons (.fz h) q⟩
theorem Dats.owns_bo {F Z H : Hp} : ∀ {vs : List V} {ds : List D}, Dats Z vs ds → ∃ g, Owns F Z H vs (ds.map .bo) g
  | _, _, .nil => ⟨[], .nil⟩
  | _, _, .cons h t => let ⟨g, q⟩ := Dats.owns_bo t; ⟨[] ++ g, .cons (.bo h) q⟩
theorem own_itL {F Z H : Hp} {v : V} {w : W} {fp : List Addr} {us : List W} (s1 : Same F Z) (s2 : Same Z H) (h : Own F Z H v w fp) (e : w.itL = some us) : ∃ a vs g, v = .ref a ∧ Rd H a (.lst vs) ∧ Owns F Z H vs us g := by
  cases h with
  | fz h =>
    cases h with
    | lst r q => cases e; obtain ⟨g, o⟩ := q.owns_fz (Z := Z) (H := H); exact ⟨_, _, g, rfl, .inl ((s1.trans s2) _ _ r), o⟩
    | _ => cases e
  | bo h =>
    cases h with
    | lst r q => cases e; obtain ⟨g, o⟩ := q.owns_bo (F := F) (H := H); exact ⟨_, _, g, rfl, .inl (s2 _ _ r), o⟩
    | _ => cases e
  | lst r q => cases e; exact ⟨_, _, _, rfl, .inl r, q⟩
  | _ => cases e
theorem own_itS {F Z H : Hp} {v : V} {w : W} {fp : List Addr} {us : List W} (s1 : Same F Z) (s2 : Same Z H) (h : Own F Z H v w fp) (e : w.itS = some us) : ∃ a vs g, v = .ref a ∧ H a = some (.lst vs) ∧ Owns F Z H vs us g := by
  cases h with
  | fz h =>
    cases h with
    | lst r q => cases e; obtain ⟨g, o⟩ := q.owns_fz (Z := Z) (H := H); exact ⟨_, _, g, rfl, (s1.trans s2) _ _ r, o⟩
    | _ => cases e
  | bo h =>
    cases h with
    | lst r q => cases e; obtain ⟨g, o⟩ := q.owns_bo (F := F) (H := H); exact ⟨_, _, g, rfl, s2 _ _ r, o⟩
    | _ => cases e
  | lst r q => cases e; exact ⟨_, _, _, rfl, r, q⟩
  | _ => cases e
theorem own_itT {F Z H : Hp} {v : V} {w : W} {fp : List Addr} {us : List W} (s1 : Same F Z) (s2 : Same Z H) (h : Own F Z H v w fp) (e : w.itT = some us) : ∃ a vs g, v = .ref a ∧ H a = some (.tup vs) ∧ Owns F Z H vs us g := by
  cases h with
  | fz h =>
    cases h with
    | tup r q => cases e; obtain ⟨g, o⟩ := q.owns_fz (Z := Z) (H := H); exact ⟨_, _, g, rfl, (s1.trans s2) _ _ r, o⟩
    | _ => cases e
  | bo h =>
    cases h with
    | tup r q => cases e; obtain ⟨g, o⟩ := q.owns_bo (F := F) (H := H); exact ⟨_, _, g, rfl, s2 _ _ r, o⟩
    | _ => cases e
  | tup r q => cases e; exact ⟨_, _, _, rfl, r, q⟩
  | _ => cases e
theorem ixN_lt {n : Nat} {i : Int} {j : Nat} (h : ixN n i = some j) : j < n := (ixN_seq h).2.1
theorem owns_at {F Z H : Hp} {vs : List V} {us : List W} {g : List Addr} {i : Int} {u : W} (o : Owns F Z H vs us g) (e : atI us i = some u) : ∃ v h, atI vs i = some v ∧ Own F Z H v u h := by
  unfold atI at e ⊢
  rw [o.len]
  cases q : ixN us.length i with
  | none => rw [q] at e; cases e
  | some j =>
    rw [q] at e
    obtain ⟨v, h, h1, h2, _⟩ := o.get (show us[j]? = some u from e)
    exact ⟨v, h, h1, h2⟩
section
variable {X : Cx} {L : List Nat} {δ δ' δ1 δ2 : Dl} {e a b c o : Expr} {es : List Expr} {st : Stmt} {sts rest : List Stmt} {K K' : KE} {w u w1 w2 wi : W} {ws us : List W} {d : D} {pos p apos cpos : Pos} {i : Int}
theorem ev_ixL (ha : EvV X δ a w) (hw : w.itL = some us) (hb : EvV X δ b wi) (l : Lf (.int i) wi) (he : atI us i = some u) (hs : PlainIx b) : EvV X δ (.Subscript a b pos) u := fun B σ H F Z φ Q R k =>
  PE.sem (pe_ix ix_list pe_sem pe_sem hs) (ev_two ha hb R fun v1 v2 H' F' Z' f1 f2 R' s sf sz o1 o2 => by
    obtain ⟨q, vs, g, e1, r, ow⟩ := own_itL R'.fz R'.zh o1 hw
    obtain ⟨x, h, h1, h2⟩ := owns_at ow he
    exact ⟨q, vs, i, x, e1, l.int R'.fz o2, .inl r, h1, k x H' F' Z' h R' s sf sz h2⟩)
theorem ev_ixT (ha : EvV X δ a w) (hw : w.itT = some us) (hb : EvV X δ b wi) (l : Lf (.int i) wi) (he : atI us i = some u) (hs : PlainIx b) : EvV X δ (.Subscript a b pos) u := fun B σ H F Z φ Q R k =>
  PE.sem (pe_ix ix_tup pe_sem pe_sem hs) (ev_two ha hb R fun v1 v2 H' F' Z' f1 f2 R' s sf sz o1 o2 => by
    obtain ⟨q, vs, g, e1, r, ow⟩ := own_itT R'.fz R'.zh o1 hw
    obtain ⟨x, h, h1, h2⟩ := owns_at ow he
    exact ⟨q, vs, i, x, e1, l.int R'.fz o2, .inl (.inl r), h1, k x H' F' Z' h R' s sf sz h2⟩)
/-! ### calls of what is built in -/
/-- an answer without a cell -/
def CallW (X : Cx) (f : Value) (ws : List W) (d : D) : Prop := ∃ r, CallR X f r ∧ ∀ vs H F Z fp (Q : VK), Same F Z → Same Z H → Owns F Z H vs ws fp → (∀ v, (∀ G, Dat G v d) → Q v H) → r vs H Q
/-- a new cell -/
def CallO (X : Cx) (f : Value) (ws : List W) (w : W) : Prop := ∃ r, CallR X f r ∧ ∀ vs H F Z fp (Q : VK), Same F Z → Same Z H → Owns F Z H vs ws fp → (∀ q o, H q = none → Own F Z (upd H q o) (.ref q) w [q] → Q (.ref q) (upd H q o)) → r vs H Q
section
variable {x : Str} {id T : String}
theorem ev_callB (hc : CallW X (.builtin id) ws d) (hg : Gl X x) (hm : X.mg x = none) (hv : bootBuiltins x = some (.builtin id)) (ha : EvVs X δ (e :: es) ws) (hn : x ≠ "__name__") (hdb : (x == ("__debug__" : Str)) = false)
    (he : starEach (e :: es) X.env = (false, eval e X.env) :: starEach es X.env) (hpl : (backTo pos (starEach es X.env)).any (·.1) = false) : EvV X δ (.Call (.Name x p) (e :: es) [] pos) (.fz d) := fun B σ H F Z φ Q R k => by
  obtain ⟨r, hr, hq⟩ := hc
  exact PE.sem (pe_callB hr hg hm hv pa_sem hn hdb he hpl) (ha B σ H F Z φ _ R fun vs H' F' Z' fp R' s sf sz ow => hq vs H' F' Z' fp Q R'.fz R'.zh ow fun v h => k v H' F' Z' [] R' s sf sz (.fz (h F')))
theorem ev_callTy (hc : CallW X (.type T) ws d) (hg : Gl X x) (hm : X.mg x = none) (hv : bootBuiltins x = some (.type T)) (ha : EvVs X δ (e :: es) ws) (hn : x ≠ "__name__") (hdb : (x == ("__debug__" : Str)) = false)
    (he : starEach (e :: es) X.env = (false, eval e X.env) :: starEach es X.env) (hpl : (backTo pos (starEach es X.env)).any (·.1) = false) : EvV X δ (.Call (.Name x p) (e :: es) [] pos) (.fz d) := fun B σ H F Z φ Q R k => by
  obtain ⟨r, hr, hq⟩ := hc
  exact PE.sem (pe_callTy hr hg hm hv pa_sem hn hdb he hpl) (ha B σ H F Z φ _ R fun vs H' F' Z' fp R' s sf sz ow => hq vs H' F' Z' fp Q R'.fz R'.zh ow fun v h => k v H' F' Z' [] R' s sf sz (.fz (h F')))
theorem eo_callB (hc : CallO X (.builtin id) ws w) (hg : Gl X x) (hm : X.mg x = none) (hv : bootBuiltins x = some (.builtin id)) (ha : EvVs X δ (e :: es) ws) (hn : x ≠ "__name__") (hdb : (x == ("__debug__" : Str)) = false)
    (he : starEach (e :: es) X.env = (false, eval e X.env) :: starEach es X.env) (hpl : (backTo pos (starEach es X.env)).any (·.1) = false) : EvO X δ (.Call (.Name x p) (e :: es) [] pos) w := fun B σ H F Z φ Q R k => by
  obtain ⟨r, hr, hq⟩ := hc
  refine PE.sem (pe_callB hr hg hm hv pa_sem hn hdb he hpl) (ha B σ H F Z φ _ R fun vs H' F' Z' fp R' s sf sz ow => hq vs H' F' Z' fp Q R'.fz R'.zh ow fun q o nq oq => ?_)
  have sn := same_upd (o := o) nq
  exact k _ _ F' Z' [q] (R'.grow sn) (s.trans sn) sf sz oq (List.nodup_cons.mpr ⟨fun h => (nomatch h), .nil⟩) fun a m => by
    rcases List.mem_cons.mp m with rfl | m
    · exact ⟨Z_none R' nq, s.free nq⟩
    · cases m
theorem eo_callTy (hc : CallO X (.type T) ws w) (hg : Gl X x) (hm : X.mg x = none) (hv : bootBuiltins x = some (.type T)) (ha : EvVs X δ (e :: es) ws) (hn : x ≠ "__name__") (hdb : (x == ("__debug__" : Str)) = false)
    (he : starEach (e :: es) X.env = (false, eval e X.env) :: starEach es X.env) (hpl : (backTo pos (starEach es X.env)).any (·.1) = false) : EvO X δ (.Call (.Name x p) (e :: es) [] pos) w := fun B σ H F Z φ Q R k => by
  obtain ⟨r, hr, hq⟩ := hc
  refine PE.sem (pe_callTy hr hg hm hv pa_sem hn hdb he hpl) (ha B σ H F Z φ _ R fun vs H' F' Z' fp R' s sf sz ow => hq vs H' F' Z' fp Q R'.fz R'.zh ow fun q o nq oq => ?_)
  have sn := same_upd (o := o) nq
  exact k _ _ F' Z' [q] (R'.grow sn) (s.trans sn) sf sz oq (List.nodup_cons.mpr ⟨fun h => (nomatch h), .nil⟩) fun a m => by
    rcases List.mem_cons.mp m with rfl | m
    · exact ⟨Z_none R' nq, s.free nq⟩
    · cases m
end
theorem owns1 {F Z H : Hp} {vs : List V} {w : W} {fp : List Addr} (h : Owns F Z H vs [w] fp) : ∃ v g, vs = [v] ∧ Own F Z H v w g := by
  cases h with
  | cons a b => cases b; exact ⟨_, _, rfl, a⟩
theorem owns2 {F Z H : Hp} {vs : List V} {w u : W} {fp : List Addr} (h : Owns F Z H vs [w, u] fp) : ∃ v x g g', vs = [v, x] ∧ Own F Z H v w g ∧ Own F Z H x u g' := by
  cases h with
  | cons a b => obtain ⟨x, g', rfl, q⟩ := owns1 b; exact ⟨_, x, _, g', rfl, a, q⟩
def W.itLT (w : W) : Option (List W) := match w.itL with
  | some us => some us
  | none => w.itT
theorem own_itLT {Kf : PySem.W.Frag} {F Z H : Hp} {v : V} {w : W} {fp : List Addr} {us : List W} (s1 : Same F Z) (s2 : Same Z H) (h : Own F Z H v w fp) (e : w.itLT = some us) : ∃ a vs g, v = .ref a ∧ (SqL Kf H a vs ∨ SqT Kf H a vs) ∧ Owns F Z H vs us g := by
  unfold W.itLT at e
  cases q : w.itL with
  | some us' =>
    rw [q] at e
    cases e
    obtain ⟨a, vs, g, h1, h2, h3⟩ := own_itL s1 s2 h q
    exact ⟨a, vs, g, h1, .inl (.inl h2), h3⟩
  | none =>
    rw [q] at e
    obtain ⟨a, vs, g, h1, h2, h3⟩ := own_itT s1 s2 h e
    exact ⟨a, vs, g, h1, .inr (.inl (.inl h2)), h3⟩
theorem cw_len (hw : w.itLT = some us) : CallW X (.builtin "len") [w] (.int us.length) := ⟨_, call_len_seq, fun vs H F Z fp Q s1 s2 ow k => by
  obtain ⟨v, g, rfl, o⟩ := owns1 ow
  obtain ⟨a, xs, g', rfl, hq, oo⟩ := own_itLT (Kf := X.K) s1 s2 o hw
  exact ⟨a, xs, rfl, hq, by rw [oo.len]; exact k _ fun _ => .int _⟩⟩
theorem cw_int {n : Int} (l : Lf (.int n) w) : CallW X (.type "int") [w] (.int n) := ⟨_, call_int1, fun vs H F Z fp Q s1 s2 ow k => by
  obtain ⟨v, g, rfl, o⟩ := owns1 ow
  exact .inl ⟨n, by rw [l.int s1 o], k _ fun _ => .int _⟩⟩
theorem cw_intB {n : Bool} (l : Lf (.bl n) w) : CallW X (.type "int") [w] (.int (if n then 1 else 0)) := ⟨_, call_int1, fun vs H F Z fp Q s1 s2 ow k => by
  obtain ⟨v, g, rfl, o⟩ := owns1 ow
  exact .inr ⟨n, by rw [l.bl s1 o], k _ fun _ => .int _⟩⟩
theorem cw_abs {n : Int} (l : Lf (.int n) w) : CallW X (.builtin "abs") [w] (.int (if n < 0 then -n else n)) := ⟨_, call_abs, fun vs H F Z fp Q s1 s2 ow k => by
  obtain ⟨v, g, rfl, o⟩ := owns1 ow
  exact ⟨n, by rw [l.int s1 o], k _ fun _ => .int _⟩⟩
theorem cw_min2 (hc : X.calm = true) {m n : Int} (l : Lf (.int m) w) (l' : Lf (.int n) u) : CallW X (.builtin "min") [w, u] (.int (if n < m then n else m)) := ⟨_, call_min2 hc, fun vs H F Z fp Q s1 s2 ow k => by
  obtain ⟨v, x, g, g', rfl, o, o'⟩ := owns2 ow
  exact ⟨m, n, by rw [l.int s1 o, l'.int s1 o'], k _ fun _ => .int _⟩⟩
theorem cw_max2 (hc : X.calm = true) {m n : Int} (l : Lf (.int m) w) (l' : Lf (.int n) u) : CallW X (.builtin "max") [w, u] (.int (if n > m then n else m)) := ⟨_, call_max2 hc, fun vs H F Z fp Q s1 s2 ow k => by
  obtain ⟨v, x, g, g', rfl, o, o'⟩ := owns2 ow
  exact ⟨m, n, by rw [l.int s1 o, l'.int s1 o'], k _ fun _ => .int _⟩⟩
/-- a list of leaves with these ints -/
inductive Lfs : List D → List W → Prop
  | nil : Lfs [] []
  | cons {d : D} {w : W} {ds : List D} {ws : List W} : Lf d w → Lfs ds ws → Lfs (d :: ds) (w :: ws)
theorem Lfs.fz : ∀ ds : List D, Lfs ds (ds.map .fz)
  | [] => .nil
  | d :: ds => .cons .fz (Lfs.fz ds)
theorem Lfs.bo : ∀ ds : List D, Lfs ds (ds.map .bo)
  | [] => .nil
  | d :: ds => .cons .bo (Lfs.bo ds)
theorem Lfs.fzm {α : Type} (f : α → D) : ∀ ds : List α, Lfs (ds.map f) (ds.map fun x => .fz (f x))
  | [] => .nil
  | d :: ds => .cons .fz (Lfs.fzm f ds)
theorem Lfs.dats {F Z H : Hp} (s : Same F Z) : ∀ {vs : List V} {ds : List D} {ws : List W} {g : List Addr}, Lfs ds ws → Owns F Z H vs ws g → Dats Z vs ds
  | _, _, _, _, .nil, .nil => .nil
  | _, _, _, _, .cons l t, .cons a b => .cons (l.dat s a) (Lfs.dats s t b)
theorem dats_ints {H : Hp} : ∀ {vs : List V} {ns : List Int}, Dats H vs (ns.map .int) → vs = ns.map V.int
  | _, [], .nil => rfl
  | _, n :: ns, .cons h t => by cases h; rw [dats_ints t]; rfl
theorem cw_min1 (hc : X.calm = true) {ns : List Int} {m : Int} (hw : w.itL = some us) (l : Lfs (ns.map .int) us) (h0 : 0 < ns.length) (hm : m ∈ ns) (hle : ∀ y ∈ ns, m ≤ y) : CallW X (.builtin "min") [w] (.int m) := ⟨_, cr_min hc, fun vs H F Z fp Q s1 s2 ow k => by
  obtain ⟨v, g, rfl, o⟩ := owns1 ow
  obtain ⟨a, xs, g', rfl, r, oo⟩ := own_itL s1 s2 o hw
  have e := dats_ints (l.dats s1 oo)
  subst e
  exact ⟨a, ns, rfl, .inl r, h0, fun m' h1 h2 => by
    have : m' = m := by have a1 := h2 m hm; have a2 := hle m' h1; omega
    subst this
    exact k _ fun _ => .int _⟩⟩
theorem cw_sum (hc : X.calm = true) {ns : List Int} (hw : w.itL = some us) (l : Lfs (ns.map .int) us) : CallW X (.builtin "sum") [w] (.int ns.sum) := ⟨_, cr_sum hc, fun vs H F Z fp Q s1 s2 ow k => by
  obtain ⟨v, g, rfl, o⟩ := owns1 ow
  obtain ⟨a, xs, g', rfl, r, oo⟩ := own_itL s1 s2 o hw
  have e := dats_ints (l.dats s1 oo)
  subst e
  exact ⟨a, ns, rfl, .inl r, k _ fun _ => .int _⟩⟩
/-- leaves only: they may stand in another list -/
theorem owns_leaf {F Z H : Hp} : ∀ {vs : List V} {ws : List W} {g : List Addr}, (∀ w ∈ ws, w.leaf = true) → Owns F Z H vs ws g → g = []
  | _, _, _, _, .nil => rfl
  | _, _, _, h, .cons a b => by rw [a.leaf (h _ List.mem_cons_self), owns_leaf (fun w m => h w (List.mem_cons_of_mem _ m)) b]; rfl
theorem co_list (hw : w.itLT = some us) (hl : ∀ u ∈ us, u.leaf = true) : CallO X (.type "list") [w] (.lst us) := ⟨_, call_list_of, fun vs H F Z fp Q s1 s2 ow k => by
  obtain ⟨v, g, rfl, o⟩ := owns1 ow
  obtain ⟨a, xs, g', rfl, hq, oo⟩ := own_itLT (Kf := X.K) s1 s2 o hw
  have e := owns_leaf hl oo
  subst e
  exact ⟨a, xs, rfl, hq, fun l hl => k l _ hl (.lst upd_same (oo.frame (Same.refl _) (Same.refl _) ((same_upd hl).kp _)))⟩⟩
/-! the script -/
theorem own_frl {F Z H : Hp} {v : V} {Kf : PySem.W.Frag} {ds : List D} {fp : List Addr} (s1 : Same F Z) (s2 : Same Z H) (h : Own F Z H v (.fz (.frl Kf ds)) fp) : ∃ a vs g, v = .ref a ∧ SqL Kf H a vs ∧ Owns F Z H vs (ds.map .fz) g := by
  cases fzInv h with
  | frl r q => obtain ⟨g, o⟩ := q.owns_fz (Z := Z) (H := H); exact ⟨_, _, g, rfl, (s1.trans s2).seq r, o⟩
theorem ev_ixF {ds : List D} (ha : EvV X δ a (.fz (.frl X.K ds))) (hb : EvV X δ b wi) (l : Lf (.int i) wi) (he : atI (ds.map W.fz) i = some u) (hs : PlainIx b) : EvV X δ (.Subscript a b pos) u := fun B σ H F Z φ Q R k =>
  PE.sem (pe_ix ix_list pe_sem pe_sem hs) (ev_two ha hb R fun v1 v2 H' F' Z' f1 f2 R' s sf sz o1 o2 => by
    obtain ⟨q, vs, g, e1, r, ow⟩ := own_frl R'.fz R'.zh o1
    obtain ⟨x, h, h1, h2⟩ := owns_at ow he
    exact ⟨q, vs, i, x, e1, l.int R'.fz o2, r, h1, k x H' F' Z' h R' s sf sz h2⟩)
theorem cw_lenF {ds : List D} : CallW X (.builtin "len") [.fz (.frl X.K ds)] (.int ds.length) := ⟨_, call_len_seq, fun vs H F Z fp Q s1 s2 ow k => by
  obtain ⟨v, g, rfl, o⟩ := owns1 ow
  obtain ⟨a, xs, g', rfl, hq, oo⟩ := own_frl s1 s2 o
  exact ⟨a, xs, rfl, .inl hq, by rw [oo.len, List.length_map]; exact k _ fun _ => .int _⟩⟩
/-! isinstance -/
def D.ty : D → Option String
  | .non => some "NoneType"
  | .bl _ => some "bool"
  | .int _ => some "int"
  | .str _ => some "str"
  | .lst _ => some "list"
  | .tup _ => some "tuple"
  | _ => none
def EvTy (X : Cx) (δ : Dl) (e : Expr) (n : String) : Prop := PE X e (tC (.ty n))
end
end OV

namespace OV
open PySem PySem.Spec PyProof.Rows L2
/-! ### isinstance -/
theorem dat_ty {Kf : PySem.W.Frag} {H : Hp} {v : V} {d : D} {t : String} (h : Dat H v d) (e : d.ty = some t) : TyX Kf H v (.type t) := by
  cases h with
  | non => cases e; exact .base .non
  | bl b => cases e; exact .base (.bl b)
  | int i => cases e; exact .base (.int i)
  | str x => cases e; exact .base (.str x)
  | lst r _ => cases e; exact .base (.lst r)
  | tup r _ => cases e; exact .base (.tup r)
  | _ => cases e
def W.ty : W → Option String
  | .fz d => d.ty
  | .bo d => d.ty
  | .lst _ => some "list"
  | .tup _ => some "tuple"
  | .dk _ => some "dict"
  | .dt _ => some "dict"
  | .ins _ _ => none
theorem own_ty {Kf : PySem.W.Frag} {F Z H : Hp} {v : V} {w : W} {fp : List Addr} {t : String} (s1 : Same F Z) (s2 : Same Z H) (h : Own F Z H v w fp) (e : w.ty = some t) : TyX Kf H v (.type t) := by
  cases h with
  | fz h => exact dat_ty (h.mono (s1.trans s2)) e
  | bo h => exact dat_ty (h.mono s2) e
  | lst r _ => cases e; exact .base (.lst r)
  | tup r _ => cases e; exact .base (.tup r)
  | dk r _ => cases e; exact .base (.dK r)
  | dt r _ => cases e; exact .base (.dT r)
  | ins _ _ => cases e
section
variable {X : Cx} {L : List Nat} {δ δ' δ1 δ2 : Dl} {e a b c o : Expr} {es : List Expr} {st : Stmt} {sts rest : List Stmt} {K K' : KE} {w u w1 w2 wi : W} {ws us : List W} {d : D} {pos p apos cpos : Pos} {i : Int}
theorem ev_isi {t T : String} {k : Bool} {x : Str} {tp : Pos} (hg : Gl X "isinstance") (hm : X.mg "isinstance" = none) (ha : EvV X δ a w) (ht : w.ty = some t) (hT : PE X (.Name x tp) (tC (.ty T))) (hk : kitB t T = some k)
    (he : starEach [a, .Name x tp] X.env = (false, eval a X.env) :: starEach [.Name x tp] X.env) (he2 : starEach [.Name x tp] X.env = (false, eval (.Name x tp) X.env) :: starEach [] X.env) (hpl : (backTo pos (starEach [.Name x tp] X.env)).any (·.1) = false) :
    EvV X δ (.Call (.Name "isinstance" p) [a, .Name x tp] [] pos) (.fz (.bl k)) := fun B σ H F Z φ Q R q =>
  PE.sem (pe_callB call_isi hg hm (by decide +kernel) (pa_cons pe_sem (pa_cons hT pa_nil he2) he) (by decide) (by decide) he hpl) (ha B σ H F Z φ _ R fun v H' F' Z' fp R' s sf sz o =>
    ⟨v, .ty T, .type t, .type T, k, rfl, .ty T, own_ty R'.fz R'.zh o ht, kit_ty hk, q _ H' F' Z' [] R' s sf sz (.fz (.bl k))⟩)
/-! ### list + list, slices -/
theorem Owns.app {F Z H : Hp} : ∀ {vs xs : List V} {ws us : List W} {f g : List Addr}, Owns F Z H vs ws f → Owns F Z H xs us g → Owns F Z H (vs ++ xs) (ws ++ us) (f ++ g)
  | _, _, _, _, _, _, .nil, q => q
  | _, _, _, _, _, _, .cons a b, q => by rw [List.append_assoc]; exact .cons a (Owns.app b q)
theorem eo_new {F' Z' H H' : Hp} {B : Bs} {σ : Sg} {φ : Nat → List Addr} {q : Addr} {h : HO} {Q : VK} (R' : RR B σ δ H' F' Z' φ) (s : Same H H') (nq : H' q = none)
    (k : ∀ fp, RR B σ δ (upd H' q h) F' Z' φ → Same H (upd H' q h) → fp.Nodup → (∀ a ∈ fp, Z' a = none ∧ H a = none) → fp = [q] → Q (.ref q) (upd H' q h)) : Q (.ref q) (upd H' q h) :=
  k [q] (R'.grow (same_upd nq)) (s.trans (same_upd nq)) (List.nodup_cons.mpr ⟨fun h => (nomatch h), .nil⟩) (fun a m => by
    rcases List.mem_cons.mp m with rfl | m
    · exact ⟨Z_none R' nq, s.free nq⟩
    · cases m) rfl
theorem eo_cat (ha : EvV X δ a w) (hw : w.itS = some ws) (hb : EvV X δ b u) (hu : u.itS = some us) (l1 : ∀ x ∈ ws, x.leaf = true) (l2 : ∀ x ∈ us, x.leaf = true) (hz : ws.length + us.length ≤ sizeLine) : EvO X δ (.BinOp a .Add b pos) (.lst (ws ++ us)) := fun B σ H F Z φ Q R k =>
  PE.sem (pe_op op_cat pe_sem pe_sem) (ev_two ha hb R fun v1 v2 H' F' Z' f1 f2 R' s sf sz o1 o2 => by
    obtain ⟨p1, vs, g, e1, r1, ow1⟩ := own_itS R'.fz R'.zh o1 hw
    obtain ⟨p2, xs, g2, e2, r2, ow2⟩ := own_itS R'.fz R'.zh o2 hu
    have z1 := owns_leaf l1 ow1
    have z2 := owns_leaf l2 ow2
    subst z1 z2
    refine ⟨p1, p2, vs, xs, e1, e2, r1, r2, by rw [ow1.len, ow2.len]; exact hz, fun q nq => eo_new R' s nq fun fp R2 s2 nd n e => ?_⟩
    subst e
    exact k _ _ F' Z' [q] R2 s2 sf sz (.lst upd_same ((ow1.app ow2).frame (Same.refl _) (Same.refl _) ((same_upd nq).kp _))) nd n)
def cutW {α : Type} (xs : List α) (lo hi : Option Int) : List α := (xs.drop (HT.sIx xs.length 0 lo)).take (HT.sIx xs.length xs.length hi - HT.sIx xs.length 0 lo)
theorem Owns.drop {F Z H : Hp} : ∀ {vs : List V} {ws : List W} {f : List Addr} (n : Nat), Owns F Z H vs ws f → ∃ g, Owns F Z H (vs.drop n) (ws.drop n) g ∧ ∀ a ∈ g, a ∈ f
  | _, _, _, 0, h => ⟨_, h, fun _ m => m⟩
  | _, _, _, n + 1, .nil => ⟨_, .nil, fun _ m => m⟩
  | _, _, _, n + 1, .cons a b => let ⟨g, q, m⟩ := Owns.drop n b; ⟨g, q, fun a h => List.mem_append_right _ (m a h)⟩
theorem Owns.take {F Z H : Hp} : ∀ {vs : List V} {ws : List W} {f : List Addr} (n : Nat), Owns F Z H vs ws f → ∃ g, Owns F Z H (vs.take n) (ws.take n) g ∧ ∀ a ∈ g, a ∈ f
  | _, _, _, 0, h => ⟨_, .nil, fun _ m => (nomatch m)⟩
  | _, _, _, n + 1, .nil => ⟨_, .nil, fun _ m => m⟩
  | _, _, _, n + 1, .cons a b => let ⟨g, q, m⟩ := Owns.take n b; ⟨_, .cons a q, fun c h => (List.mem_append.mp h).elim (List.mem_append_left _) fun z => List.mem_append_right _ (m c z)⟩
theorem Owns.cut {F Z H : Hp} {vs : List V} {ws : List W} {f : List Addr} (h : Owns F Z H vs ws f) (lo hi : Option Int) : ∃ g, Owns F Z H (cutV vs lo hi) (cutW ws lo hi) g ∧ ∀ a ∈ g, a ∈ f := by
  unfold cutV cutW
  rw [h.len]
  obtain ⟨g, q, m⟩ := h.drop (HT.sIx ws.length 0 lo)
  obtain ⟨g', q', m'⟩ := q.take (HT.sIx ws.length ws.length hi - HT.sIx ws.length 0 lo)
  exact ⟨g', q', fun a h => m a (m' a h)⟩
/-- a part of a slice: written, or left out -/
inductive EvP (X : Cx) (δ : Dl) : Option Expr → Option Int → Prop where
  | no : EvP X δ none none
  | yes {e : Expr} {i : Int} {w : W} (h : EvV X δ e w) (l : Lf (.int i) w) : EvP X δ (some e) (some i)
def SemP (X : Cx) : Option Expr → TO
  | none => fun _ H Q => Q none H
  | some e => fun σ H Q => SemE X e σ H fun x H1 => ∃ i, x = .int i ∧ Q (some i) H1
theorem po_sem {x : Option Expr} : PO X x (SemP X x) := by
  cases x with
  | none => exact po_none
  | some e => exact po_some pe_sem
theorem EvP.run {x : Option Expr} {y : Option Int} (h : EvP X δ x y) {B : Bs} {σ : Sg} {H F Z : Hp} {φ : Nat → List Addr} {Q : Option Int → Hp → Prop} (R : RR B σ δ H F Z φ)
    (k : ∀ H' F' Z', RR B σ δ H' F' Z' φ → Same H H' → Same F F' → Same Z Z' → Q y H') : SemP X x σ H Q := by
  cases h with
  | no => exact k H F Z R (Same.refl _) (Same.refl _) (Same.refl _)
  | yes h l => exact h B σ H F Z φ _ R fun v H' F' Z' fp R' s sf sz o => ⟨_, l.int R'.fz o, k H' F' Z' R' s sf sz⟩
theorem eo_slL {lo hi : Option Expr} {x y : Option Int} {p2 : Pos} (ha : EvV X δ a w) (hw : w.itL = some ws) (hx : EvP X δ lo x) (hy : EvP X δ hi y) (l : ∀ x ∈ ws, x.leaf = true) : EvO X δ (.Subscript a (.Slice lo hi none p2) pos) (.lst (cutW ws x y)) := fun B σ H F Z φ Q R k =>
  PE.sem (pe_slice sl_list pe_sem po_sem po_sem) (ha B σ H F Z φ _ R fun v H1 F1 Z1 f1 R1 s1 sf1 sz1 o1 => hx.run R1 fun H2 F2 Z2 R2 s2 sf2 sz2 => hy.run R2 fun H3 F3 Z3 R3 s3 sf3 sz3 => by
    obtain ⟨q, vs, g, e1, r, ow⟩ := own_itL R3.fz R3.zh (o1.frame (sf2.trans sf3) (sz2.trans sz3) ((s2.trans s3).kp _)) hw
    obtain ⟨g', ow', m⟩ := ow.cut x y
    have z := owns_leaf l ow
    subst z
    have z2 : g' = [] := List.eq_nil_iff_forall_not_mem.mpr fun a h => (nomatch m a h)
    subst z2
    refine ⟨q, vs, e1, .inl r, fun q nq => eo_new R3 (s1.trans (s2.trans s3)) nq fun fp R4 s4 nd n e => ?_⟩
    subst e
    exact k _ _ F3 Z3 [q] R4 s4 (sf1.trans (sf2.trans sf3)) (sz1.trans (sz2.trans sz3)) (.lst upd_same (ow'.frame (Same.refl _) (Same.refl _) ((same_upd nq).kp _))) nd n)
/-! ### a slot's own list is changed -/
theorem RR.mut {B : Bs} {σ : Sg} {H F Z : Hp} {φ : Nat → List Addr} {j : Nat} {ad : Addr} {h : HO} {v : V} {w' : W} {fp : List Addr} (R : RR B σ δ H F Z φ) (ha : ad ∈ φ j) (hj : j < δ.length) (hσ : σ[j]? = some (some v))
    (ow : Own F Z (upd H ad h) v w' fp) (nd : fp.Nodup) (hin : ∀ b ∈ fp, b ∈ φ j ∨ (Z b = none ∧ (∀ i, b ∉ φ i) ∧ (B.H0 b = none ∨ B.P b))) : RR B σ (δ.set j (some w')) (upd H ad h) F Z (upF φ j fp) where
  len := by rw [List.length_set]; exact R.len
  own := fun i u e => by
    by_cases q : i = j
    · subst q
      rw [List.getElem?_set_self hj] at e
      cases e
      rw [upF_same]
      exact ⟨v, hσ, ow⟩
    · rw [List.getElem?_set_ne (Ne.symm q)] at e
      rw [upF_ne q]
      obtain ⟨x, h1, h2⟩ := R.own i u e
      refine ⟨x, h1, h2.frame (Same.refl _) (Same.refl _) fun b m o e => ?_⟩
      rw [upd_ne (fun (z : b = ad) => q (R.dj i j b m (by rw [z]; exact ha)))]
      exact e
  nd := fun i => by
    by_cases q : i = j
    · subst q; rw [upF_same]; exact nd
    · rw [upF_ne q]; exact R.nd i
  dj := fun i k b h1 h2 => by
    have key : ∀ b, b ∈ fp → ∀ k, k ≠ j → b ∉ φ k := fun b m k q z => (hin b m).elim (fun y => q (R.dj k j b z y)) fun y => y.2.1 k z
    by_cases q : i = j
    · subst q
      rw [upF_same] at h1
      by_cases r : k = i
      · exact r.symm
      · rw [upF_ne r] at h2; exact absurd h2 (key b h1 k r)
    · rw [upF_ne q] at h1
      by_cases r : k = j
      · subst r; rw [upF_same] at h2; exact absurd h1 (key b h2 i q)
      · rw [upF_ne r] at h2; exact R.dj i k b h1 h2
  nz := fun i b h => by
    by_cases q : i = j
    · subst q; rw [upF_same] at h; exact (hin b h).elim (R.nz i b) fun y => y.1
    · rw [upF_ne q] at h; exact R.nz i b h
  th := fun i b h => by
    by_cases q : i = j
    · subst q; rw [upF_same] at h; exact ow.there b h
    · rw [upF_ne q] at h
      obtain ⟨o, e⟩ := R.th i b h
      by_cases z : b = ad
      · subst z; exact ⟨_, upd_same⟩
      · exact ⟨o, by rw [upd_ne z]; exact e⟩
  new := fun i b h => by
    by_cases q : i = j
    · subst q; rw [upF_same] at h; exact (hin b h).elim (R.new i b) fun y => y.2.2
    · rw [upF_ne q] at h; exact R.new i b h
  fz := R.fz
  zh := fun b o e => by
    rw [upd_ne (fun z => by subst z; rw [R.nz j b ha] at e; cases e)]
    exact R.zh b o e
  f0 := R.f0
  z0 := R.z0
  keep := fun b o e n => by
    rw [upd_ne (fun z => by subst z; exact (R.new j b ha).elim (fun y => by rw [y] at e; cases e) n)]
    exact R.keep b o e n
  pt := fun b e => by
    obtain ⟨o, e⟩ := R.pt b e
    by_cases z : b = ad
    · subst z; exact ⟨_, upd_same⟩
    · exact ⟨o, by rw [upd_ne z]; exact e⟩
  newF := R.newF
  pin := R.pin
  fin := let ⟨n, h⟩ := R.fin; ⟨max n (j + 1), fun i hi => by rw [upF_ne (by omega)]; exact h i (by omega)⟩
  gb := fun i e => by
    by_cases q : i = j
    · subst q; rw [List.getElem?_set_self hj] at e; cases e
    · rw [List.getElem?_set_ne (Ne.symm q)] at e; rw [upF_ne q]; exact R.gb i e
theorem ownLst {F Z H : Hp} {v : V} {fp : List Addr} (h : Own F Z H v (.lst ws) fp) : ∃ a vs g, v = .ref a ∧ fp = a :: g ∧ H a = some (.lst vs) ∧ Owns F Z H vs ws g := by
  cases h with
  | lst r o => exact ⟨_, _, _, rfl, rfl, r, o⟩
theorem ownDk {F Z H : Hp} {v : V} {fp : List Addr} {es : List (Key × W)} (h : Own F Z H v (.dk es) fp) : ∃ a vs g, v = .ref a ∧ fp = a :: g ∧ H a = some (.dK vs) ∧ OwnK F Z H vs es g := by
  cases h with
  | dk r o => exact ⟨_, _, _, rfl, rfl, r, o⟩
theorem ownDt {F Z H : Hp} {v : V} {fp : List Addr} {es : List (List Key × W)} (h : Own F Z H v (.dt es) fp) : ∃ a vs g, v = .ref a ∧ fp = a :: g ∧ H a = some (.dT vs) ∧ OwnT F Z H vs es g := by
  cases h with
  | dt r o => exact ⟨_, _, _, rfl, rfl, r, o⟩
/-- x.append(e), x a slot with a list of its own -/
theorem wappend {j : Nat} {x : Str} {xp : Pos} (hN : X.N[j]? = some x) (hv : Vis X.env.scope x) (hδ : δ[j]? = some (some (.lst ws))) (he : EvC X δ e u δ1) (hδ1 : δ1[j]? = some (some (.lst ws))) (hz : ws.length < sizeLine)
    (h : WpSs X L (δ1.set j (some (.lst (ws ++ [u])))) rest K)
    (hbase : attributeBase (.Name x xp) "append" X.env (eval (.Name x xp) X.env) = eval (.Name x xp) X.env)
    (hfew : ((backTo cpos (starEach [e] X.env)).all (fun x => !x.1) && (backToKw cpos (keywordEach [] X.env)).all (fun x => x.1.isSome)
      && decide ([e].length + ([] : List Keyword).length + (if ([] : List Keyword).isEmpty then 0 else 1) < 30)) = true)
    (hline : (apos.endLine == cpos.line) = true) (hs : starEach [e] X.env = (false, eval e X.env) :: starEach [] X.env) (hplain : (backTo cpos (starEach [] X.env)).any (·.1) = false)
    (hsw : swapsWith (.Call (.Attribute (.Name x xp) "append" apos) [e] [] cpos) none pos.line X.env = pure false) (hd : (x == ("__debug__" : Str)) = false) (hcd : (x == ("__classdict__" : Str)) = false) :
    WpSs X L δ (.Expr (.Call (.Attribute (.Name x xp) "append" apos) [e] [] cpos) pos :: rest) K :=
  wcons fun B hB σ H F Z φ R => by
    refine PS.sem (ps_expr (pe_bm PySem.F.plainAttrs_list PySem.F.slot_list_append PySem.F.type_list_append mt_append (pe_var hN hv hd hcd) (pa_cons pe_sem pa_nil hs) hbase hfew hline hs hplain) hsw) ?_
    obtain ⟨v, h1, h2⟩ := R.own j _ hδ
    refine ⟨v, h1, ?_, he B σ H F Z φ _ R fun y H' F' Z' φ' fp R' A o fr => ?_⟩
    · obtain ⟨ad, vs, g, rfl, _, r, _⟩ := ownLst h2
      exact .inl ⟨rfl, _, .inl (.inl r)⟩
    · obtain ⟨v', h1', h2'⟩ := R'.own j _ hδ1
      have ev : v' = v := by rw [h1] at h1'; exact (Option.some.inj (Option.some.inj h1')).symm
      subst ev
      have hj : j < δ1.length := (List.getElem?_eq_some_iff.mp hδ1).1
      obtain ⟨ad, vs, g, rfl, hg, r, ow⟩ := ownLst h2'
      have nd0 := R'.nd j
      rw [hg] at nd0
      have hap : ad ∈ φ' j := by rw [hg]; exact List.mem_cons_self
      have kpg : Kp g H' (upd H' ad (.lst (vs ++ [y]))) := fun b m o e => by rw [upd_ne (fun (z : b = ad) => (List.nodup_cons.mp nd0).1 (by rw [← z]; exact m))]; exact e
      have kpf : Kp fp H' (upd H' ad (.lst (vs ++ [y]))) := fun b m o e => by rw [upd_ne (fun (z : b = ad) => fr.d b m j (by rw [z]; exact hap))]; exact e
      refine ⟨ad, vs, y, rfl, rfl, r, by rw [ow.len]; exact hz, ?_⟩
      refine ⟨_, F', Z', _, R'.mut (h := .lst (vs ++ [y])) (w' := .lst (ws ++ [u])) (fp := ad :: (g ++ (fp ++ []))) hap hj h1 (.lst upd_same ((ow.frame (Same.refl _) (Same.refl _) kpg).app (.cons (o.frame (Same.refl _) (Same.refl _) kpf) .nil))) ?_ fun b m => ?_, h⟩
      · rw [List.append_nil]
        refine List.nodup_cons.mpr ⟨fun m => ?_, List.nodup_append.mpr ⟨(List.nodup_cons.mp nd0).2, fr.nd, fun a1 m1 a2 m2 z => ?_⟩⟩
        · rcases List.mem_append.mp m with m | m
          · exact (List.nodup_cons.mp nd0).1 m
          · exact fr.d ad m j hap
        · subst z
          exact fr.d a1 m2 j (by rw [hg]; exact List.mem_cons_of_mem _ m1)
      · rw [List.append_nil] at m
        rcases List.mem_cons.mp m with rfl | m
        · exact .inl hap
        · rcases List.mem_append.mp m with m | m
          · exact .inl (by rw [hg]; exact List.mem_cons_of_mem _ m)
          · exact .inr ⟨fr.z b m, fr.d b m, fr.n b m⟩
end
end OV

namespace OV
open PySem PySem.Spec PyProof.Rows L2
/-! ### dicts -/
def kD : Key → D
  | .inl i => .int i
  | .inr x => .str x
def D.key : D → Option Key
  | .int i => some (.inl i)
  | .str x => some (.inr x)
  | _ => none
def D.keys : List D → Option (List Key)
  | [] => some []
  | d :: ds => match d.key, D.keys ds with
    | some k, some ks => some (k :: ks)
    | _, _ => none
def W.keyK : W → Option Key
  | .fz d => d.key
  | .bo d => d.key
  | _ => none
def W.keysW : List W → Option (List Key)
  | [] => some []
  | d :: ds => match d.keyK, W.keysW ds with
    | some k, some ks => some (k :: ks)
    | _, _ => none
def W.keyT : W → Option (List Key)
  | .fz (.tup ds) => D.keys ds
  | .bo (.tup ds) => D.keys ds
  | .tup ws => W.keysW ws
  | _ => none
theorem dat_key {H : Hp} {v : V} {d : D} {k : Key} (h : Dat H v d) (e : d.key = some k) : v = kV k := by
  cases h <;> cases e <;> rfl
theorem dats_keys {H : Hp} : ∀ {vs : List V} {ds : List D} {ks : List Key}, Dats H vs ds → D.keys ds = some ks → vs = ks.map kV
  | _, _, _, .nil, e => by cases e; rfl
  | _, _, _, .cons (d := d) (ds := ds) h t, e => by
    unfold D.keys at e
    cases h1 : d.key with
    | none => rw [h1] at e; cases e
    | some k =>
      cases h2 : D.keys ds with
      | none => rw [h1, h2] at e; cases e
      | some ks => rw [h1, h2] at e; cases e; rw [dat_key h h1, dats_keys t h2]; rfl
theorem own_keyK {F Z H : Hp} {v : V} {w : W} {fp : List Addr} {k : Key} (h : Own F Z H v w fp) (e : w.keyK = some k) : v = kV k := by
  cases h with
  | fz h => exact dat_key h e
  | bo h => exact dat_key h e
  | _ => cases e
theorem owns_keys {F Z H : Hp} : ∀ {vs : List V} {ds : List W} {ks : List Key} {g : List Addr}, Owns F Z H vs ds g → W.keysW ds = some ks → vs = ks.map kV
  | _, _, _, _, .nil, e => by cases e; rfl
  | _, _, _, _, .cons (w := d) (ws := ds) h t, e => by
    unfold W.keysW at e
    cases h1 : d.keyK with
    | none => rw [h1] at e; cases e
    | some k =>
      cases h2 : W.keysW ds with
      | none => rw [h1, h2] at e; cases e
      | some ks => rw [h1, h2] at e; cases e; rw [own_keyK h h1, owns_keys t h2]; rfl
theorem own_keyT {F Z H : Hp} {v : V} {w : W} {fp : List Addr} {ks : List Key} (s1 : Same F Z) (s2 : Same Z H) (h : Own F Z H v w fp) (e : w.keyT = some ks) : ∃ b, v = .ref b ∧ H b = some (.tup (ks.map kV)) := by
  cases h with
  | fz h =>
    cases h with
    | tup r q => exact ⟨_, rfl, by rw [← dats_keys q e]; exact (s1.trans s2) _ _ r⟩
    | _ => cases e
  | bo h =>
    cases h with
    | tup r q => exact ⟨_, rfl, by rw [← dats_keys q e]; exact s2 _ _ r⟩
    | _ => cases e
  | tup r q => exact ⟨_, rfl, by rw [← owns_keys q e]; exact r⟩
  | _ => cases e
section
variable {κ : Type} [DecidableEq κ] {α β : Type}
def klook (es : List (κ × α)) (k : κ) : Option α := (es.find? fun kv => decide (kv.1 = k)).map (·.2)
def kput (es : List (κ × α)) (k : κ) (a : α) : List (κ × α) :=
  if (es.any fun kv => decide (kv.1 = k)) = true then es.map (fun kv => if kv.1 = k then (kv.1, a) else kv) else es ++ [(k, a)]
theorem klook_nil (k : κ) : klook ([] : List (κ × α)) k = none := rfl
theorem klook_cons (p : κ × α) (es : List (κ × α)) (k : κ) : klook (p :: es) k = if p.1 = k then some p.2 else klook es k := by
  unfold klook
  rw [List.find?_cons]
  by_cases h : p.1 = k
  · rw [if_pos h, decide_eq_true h]; rfl
  · rw [if_neg h, decide_eq_false h]
theorem klook_map (f : α → β) (es : List (κ × α)) (k : κ) : klook (es.map fun p => (p.1, f p.2)) k = (klook es k).map f := by
  induction es with
  | nil => rfl
  | cons p es ih =>
    rw [List.map_cons, klook_cons, klook_cons, ih]
    split <;> rfl
theorem klook_any (es : List (κ × α)) (k : κ) : (es.any fun kv => decide (kv.1 = k)) = (klook es k).isSome := by
  induction es with
  | nil => rfl
  | cons p es ih =>
    rw [List.any_cons, klook_cons, ih]
    by_cases h : p.1 = k
    · rw [if_pos h, decide_eq_true h]; rfl
    · rw [if_neg h, decide_eq_false h]; rfl
theorem klook_put (es : List (κ × α)) (k j : κ) (a : α) : klook (kput es k a) j = if j = k then some a else klook es j := by
  unfold kput
  split
  · next h =>
    rw [klook_any] at h
    induction es with
    | nil => cases h
    | cons p es ih =>
      rw [List.map_cons, klook_cons, klook_cons]
      by_cases e : p.1 = k
      · rw [if_pos e]
        by_cases ej : j = k
        · subst ej; rw [if_pos e, if_pos rfl]
        · rw [if_neg ej, if_neg (fun (z : p.1 = j) => ej (z.symm.trans e)), if_neg (fun (z : p.1 = j) => ej (z.symm.trans e))]
          clear ih
          have : ∀ es : List (κ × α), klook (es.map fun kv => if kv.1 = k then (kv.1, a) else kv) j = klook es j := by
            intro es
            induction es with
            | nil => rfl
            | cons p es ih =>
              rw [List.map_cons, klook_cons, klook_cons, ih]
              by_cases e2 : p.1 = k
              · rw [if_pos e2, if_neg (fun (z : p.1 = j) => ej (z.symm.trans e2)), if_neg (fun (z : p.1 = j) => ej (z.symm.trans e2))]
              · rw [if_neg e2]
          exact this es
      · rw [if_neg e]
        rw [klook_cons, if_neg e] at h
        rw [ih h]
        by_cases ej : p.1 = j
        · subst ej; rw [if_pos rfl, if_pos rfl, if_neg e]
        · rw [if_neg ej, if_neg ej]
  · next h =>
    rw [klook_any] at h
    induction es with
    | nil => rw [List.nil_append, klook_cons]; split <;> (try split) <;> first | rfl | (rename_i h1 h2; exact absurd h1.symm h2) | (rename_i h1 h2; exact absurd h2.symm h1)
    | cons p es ih =>
      rw [List.cons_append, klook_cons, klook_cons]
      rw [klook_cons] at h
      by_cases e : p.1 = k
      · rw [if_pos e] at h; exact absurd rfl h
      · rw [if_neg e] at h
        rw [ih h]
        by_cases ej : p.1 = j
        · subst ej; rw [if_pos rfl, if_pos rfl, if_neg e]
        · rw [if_neg ej, if_neg ej]
end
theorem ownK_look {F Z H : Hp} : ∀ {vs : List (Key × V)} {es : List (Key × W)} {g : List Addr} (k : Key), OwnK F Z H vs es g → (klook es k = none → valV vs k = none) ∧ ∀ u, klook es k = some u → ∃ x f, valV vs k = some x ∧ Own F Z H x u f
  | _, _, _, k, .nil => ⟨fun _ => rfl, fun _ h => nomatch h⟩
  | _, _, _, k, .cons (k := j) h t => by
    obtain ⟨h1, h2⟩ := ownK_look k t
    rw [klook_cons]
    by_cases e : j = k
    · rw [if_pos e, valV_pos e]
      exact ⟨fun z => (nomatch z), fun u z => by cases z; exact ⟨_, _, rfl, h⟩⟩
    · rw [if_neg e, valV_neg e]
      exact ⟨h1, h2⟩
theorem ownT_look {F Z H : Hp} : ∀ {vs : List (List Key × V)} {es : List (List Key × W)} {g : List Addr} (k : List Key), OwnT F Z H vs es g → (klook es k = none → valV vs k = none) ∧ ∀ u, klook es k = some u → ∃ x f, valV vs k = some x ∧ Own F Z H x u f
  | _, _, _, k, .nil => ⟨fun _ => rfl, fun _ h => nomatch h⟩
  | _, _, _, k, .cons (k := j) h t => by
    obtain ⟨h1, h2⟩ := ownT_look k t
    rw [klook_cons]
    by_cases e : j = k
    · rw [if_pos e, valV_pos e]
      exact ⟨fun z => (nomatch z), fun u z => by cases z; exact ⟨_, _, rfl, h⟩⟩
    · rw [if_neg e, valV_neg e]
      exact ⟨h1, h2⟩
theorem datK_fz {F Z H : Hp} : ∀ {vs : List (Key × V)} {es : List (Key × D)}, DatK F vs es → ∃ g, OwnK F Z H vs (es.map fun p => (p.1, .fz p.2)) g
  | _, _, .nil => ⟨_, .nil⟩
  | _, _, .cons h t => let ⟨_, q⟩ := datK_fz t; ⟨_, .cons (.fz h) q⟩
theorem datK_bo {F Z H : Hp} : ∀ {vs : List (Key × V)} {es : List (Key × D)}, DatK Z vs es → ∃ g, OwnK F Z H vs (es.map fun p => (p.1, .bo p.2)) g
  | _, _, .nil => ⟨_, .nil⟩
  | _, _, .cons h t => let ⟨_, q⟩ := datK_bo t; ⟨_, .cons (.bo h) q⟩
theorem datT_fz {F Z H : Hp} : ∀ {vs : List (List Key × V)} {es : List (List Key × D)}, DatT F vs es → ∃ g, OwnT F Z H vs (es.map fun p => (p.1, .fz p.2)) g
  | _, _, .nil => ⟨_, .nil⟩
  | _, _, .cons h t => let ⟨_, q⟩ := datT_fz t; ⟨_, .cons (.fz h) q⟩
theorem datT_bo {F Z H : Hp} : ∀ {vs : List (List Key × V)} {es : List (List Key × D)}, DatT Z vs es → ∃ g, OwnT F Z H vs (es.map fun p => (p.1, .bo p.2)) g
  | _, _, .nil => ⟨_, .nil⟩
  | _, _, .cons h t => let ⟨_, q⟩ := datT_bo t; ⟨_, .cons (.bo h) q⟩
/-- what stands at a key -/
def W.dg (w k : W) : Option (Option W) := match w with
  | .fz (.dk es) => k.keyK.map fun k => (klook es k).map .fz
  | .bo (.dk es) => k.keyK.map fun k => (klook es k).map .bo
  | .dk es => k.keyK.map fun k => klook es k
  | .fz (.dt es) => k.keyT.map fun k => (klook es k).map .fz
  | .bo (.dt es) => k.keyT.map fun k => (klook es k).map .bo
  | .dt es => k.keyT.map fun k => klook es k
  | _ => none
theorem own_dg {F Z H : Hp} {v y : V} {w k : W} {fp fk : List Addr} {o : Option W} (s1 : Same F Z) (s2 : Same Z H) (h : Own F Z H v w fp) (hk : Own F Z H y k fk) (e : w.dg k = some o) :
    ∃ a ov, v = .ref a ∧ IsD H a ∧ DGet H a y ov ∧ (o = none → ov = none) ∧ ∀ u, o = some u → ∃ x f, ov = some x ∧ Own F Z H x u f := by
  have kk : ∀ {a : Addr} {vs : List (Key × V)} {es : List (Key × W)} {g : List Addr}, v = .ref a → Rd H a (.dK vs) → OwnK F Z H vs es g → (k.keyK.map fun k => klook es k) = some o → ∃ a ov, v = .ref a ∧ IsD H a ∧ DGet H a y ov ∧ (o = none → ov = none) ∧ ∀ u, o = some u → ∃ x f, ov = some x ∧ Own F Z H x u f := fun {a vs es g} ev r ow e => by
    cases q : k.keyK with
    | none => rw [q] at e; cases e
    | some j =>
      rw [q] at e
      cases e
      obtain ⟨h1, h2⟩ := ownK_look j ow
      exact ⟨a, valV vs j, ev, .inl ⟨vs, r⟩, .inl ⟨vs, j, r, own_keyK hk q, rfl⟩, h1, h2⟩
  have kt : ∀ {a : Addr} {vs : List (List Key × V)} {es : List (List Key × W)} {g : List Addr}, v = .ref a → Rd H a (.dT vs) → OwnT F Z H vs es g → (k.keyT.map fun k => klook es k) = some o → ∃ a ov, v = .ref a ∧ IsD H a ∧ DGet H a y ov ∧ (o = none → ov = none) ∧ ∀ u, o = some u → ∃ x f, ov = some x ∧ Own F Z H x u f := fun {a vs es g} ev r ow e => by
    cases q : k.keyT with
    | none => rw [q] at e; cases e
    | some j =>
      rw [q] at e
      cases e
      obtain ⟨h1, h2⟩ := ownT_look j ow
      obtain ⟨b, hb1, hb2⟩ := own_keyT s1 s2 hk q
      exact ⟨a, valV vs j, ev, .inr ⟨vs, r⟩, .inr ⟨vs, j, b, r, hb1, hb2, rfl⟩, h1, h2⟩
  cases h with
  | fz h =>
    cases h with
    | dK r q => obtain ⟨g, ow⟩ := datK_fz (Z := Z) (H := H) q; exact kk rfl (rd_mono (s1.trans s2) r) ow (by rw [← e]; exact congrArg (fun f => Option.map f k.keyK) (funext fun j => klook_map W.fz _ j))
    | dT r q => obtain ⟨g, ow⟩ := datT_fz (Z := Z) (H := H) q; exact kt rfl (rd_mono (s1.trans s2) r) ow (by rw [← e]; exact congrArg (fun f => Option.map f k.keyT) (funext fun j => klook_map W.fz _ j))
    | _ => cases e
  | bo h =>
    cases h with
    | dK r q => obtain ⟨g, ow⟩ := datK_bo (F := F) (H := H) q; exact kk rfl (rd_mono s2 r) ow (by rw [← e]; exact congrArg (fun f => Option.map f k.keyK) (funext fun j => klook_map W.bo _ j))
    | dT r q => obtain ⟨g, ow⟩ := datT_bo (F := F) (H := H) q; exact kt rfl (rd_mono s2 r) ow (by rw [← e]; exact congrArg (fun f => Option.map f k.keyT) (funext fun j => klook_map W.bo _ j))
    | _ => cases e
  | dk r q => exact kk rfl (.inl r) q e
  | dt r q => exact kt rfl (.inl r) q e
  | _ => cases e
section
variable {X : Cx} {L : List Nat} {δ δ' δ1 δ2 : Dl} {e a b c o : Expr} {es : List Expr} {st : Stmt} {sts rest : List Stmt} {K K' : KE} {w u w1 w2 wi wk wx : W} {ws us : List W} {d : D} {pos p apos cpos : Pos} {i : Int}
theorem ev_dget (hu : X.A.units + 1 < cLine) (ha : EvV X δ a w) (hb : EvV X δ b wk) (hg : w.dg wk = some (some u)) (hs : NoSl b) : EvV X δ (.Subscript a b pos) u := fun B σ H F Z φ Q R k =>
  PE.sem (pe_dget hu pe_sem pe_sem hs) (ev_two ha hb R fun v1 v2 H' F' Z' f1 f2 R' s sf sz o1 o2 => by
    obtain ⟨q, ov, e1, _, dg, _, h2⟩ := own_dg R'.fz R'.zh o1 o2 hg
    obtain ⟨x, f, e2, ow⟩ := h2 u rfl
    subst e2
    exact ⟨q, x, e1, dg, k x H' F' Z' f R' s sf sz ow⟩)
theorem dgs {F Z H : Hp} {ov : Option V} {o : Option W} (h1 : o = none → ov = none) (h2 : ∀ u, o = some u → ∃ x f, ov = some x ∧ Own F Z H x u f) : ov.isSome = o.isSome := by
  cases o with
  | none => rw [h1 rfl]; rfl
  | some u => obtain ⟨x, f, e, _⟩ := h2 u rfl; rw [e]; rfl
theorem ev_din (hu : X.A.units + 1 < cLine) {o' : Option W} (ha : EvV X δ a wk) (hb : EvV X δ b w) (hg : w.dg wk = some o') (hm : behindInMarks .In b = false) : EvV X δ (.Compare a [.In] [b] pos) (.fz (.bl o'.isSome)) := fun B σ H F Z φ Q R k =>
  PE.sem (pe_cmp (pc_din hu pe_sem pe_sem) hm) (ev_two ha hb R fun v1 v2 H' F' Z' f1 f2 R' s sf sz o1 o2 => by
    obtain ⟨q, ov, e1, _, dg, h1, h2⟩ := own_dg R'.fz R'.zh o2 o1 hg
    exact ⟨q, ov, e1, dg, by rw [dgs h1 h2]; exact k _ H' F' Z' [] R' s sf sz (.fz (.bl _))⟩)
theorem ev_dnotin (hu : X.A.units + 1 < cLine) {o' : Option W} (ha : EvV X δ a wk) (hb : EvV X δ b w) (hg : w.dg wk = some o') (hm : behindInMarks .NotIn b = false) : EvV X δ (.Compare a [.NotIn] [b] pos) (.fz (.bl (!o'.isSome))) := fun B σ H F Z φ Q R k =>
  PE.sem (pe_cmp (pc_dnotin hu pe_sem pe_sem) hm) (ev_two ha hb R fun v1 v2 H' F' Z' f1 f2 R' s sf sz o1 o2 => by
    obtain ⟨q, ov, e1, _, dg, h1, h2⟩ := own_dg R'.fz R'.zh o2 o1 hg
    exact ⟨q, ov, e1, dg, by rw [dgs h1 h2]; exact k _ H' F' Z' [] R' s sf sz (.fz (.bl _))⟩)
theorem et_din (hu : X.A.units + 1 < cLine) {o' : Option W} (ha : EvV X δ a wk) (hb : EvV X δ b w) (hg : w.dg wk = some o') (hm : behindInMarks .In b = false) : EvT X δ (.Compare a [.In] [b] pos) o'.isSome := fun B σ H F Z φ Q R k =>
  PT.sem (pt_cmp (pc_din hu pe_sem pe_sem) hm) (ev_two ha hb R fun v1 v2 H' F' Z' f1 f2 R' s sf sz o1 o2 => by
    obtain ⟨q, ov, e1, _, dg, h1, h2⟩ := own_dg R'.fz R'.zh o2 o1 hg
    exact ⟨q, ov, e1, dg, _, by rw [dgs h1 h2], k H' F' Z' R' s sf sz⟩)
theorem et_dnotin (hu : X.A.units + 1 < cLine) {o' : Option W} (ha : EvV X δ a wk) (hb : EvV X δ b w) (hg : w.dg wk = some o') (hm : behindInMarks .NotIn b = false) : EvT X δ (.Compare a [.NotIn] [b] pos) (!o'.isSome) := fun B σ H F Z φ Q R k =>
  PT.sem (pt_cmp (pc_dnotin hu pe_sem pe_sem) hm) (ev_two ha hb R fun v1 v2 H' F' Z' f1 f2 R' s sf sz o1 o2 => by
    obtain ⟨q, ov, e1, _, dg, h1, h2⟩ := own_dg R'.fz R'.zh o2 o1 hg
    exact ⟨q, ov, e1, dg, _, by rw [dgs h1 h2], k H' F' Z' R' s sf sz⟩)
theorem ev_get1 (hu : X.A.units + 1 < cLine) {o' : Option W} (ha : EvV X δ a w) (hb : EvV X δ b wk) (hg : w.dg wk = some o') (m : M1 X a "get" apos b cpos) : EvV X δ (.Call (.Attribute a "get" apos) [b] [] cpos) (o'.getD (.fz .non)) := fun B σ H F Z φ Q R k =>
  PE.sem (pe_dget1 hu pe_sem pe_sem m) (ha B σ H F Z φ _ R fun v1 H1 F1 Z1 f1 R1 s1 sf1 sz1 o1 => by
    have isd : ∃ a, v1 = .ref a ∧ IsD H1 a := by
      cases o1 with
      | fz h => cases h with
        | dK r _ => exact ⟨_, rfl, .inl ⟨_, rd_mono R1.fh r⟩⟩
        | dT r _ => exact ⟨_, rfl, .inr ⟨_, rd_mono R1.fh r⟩⟩
        | _ => cases hg
      | bo h => cases h with
        | dK r _ => exact ⟨_, rfl, .inl ⟨_, rd_mono R1.zh r⟩⟩
        | dT r _ => exact ⟨_, rfl, .inr ⟨_, rd_mono R1.zh r⟩⟩
        | _ => cases hg
      | dk r _ => exact ⟨_, rfl, .inl ⟨_, .inl r⟩⟩
      | dt r _ => exact ⟨_, rfl, .inr ⟨_, .inl r⟩⟩
      | _ => cases hg
    obtain ⟨ad, e0, i0⟩ := isd
    refine ⟨ad, e0, i0, hb B σ H1 F1 Z1 φ _ R1 fun v2 H2 F2 Z2 f2 R2 s2 sf2 sz2 o2 => ?_⟩
    obtain ⟨q, ov, e1, _, dg, h1, h2⟩ := own_dg R2.fz R2.zh (o1.frame sf2 sz2 (s2.kp _)) o2 hg
    rw [e0] at e1
    cases e1
    refine ⟨ov, dg, ?_⟩
    cases o' with
    | none => rw [h1 rfl]; exact k _ H2 F2 Z2 [] R2 (s1.trans s2) (sf1.trans sf2) (sz1.trans sz2) (.fz .non)
    | some u => obtain ⟨x, f, e2, ow⟩ := h2 u rfl; rw [e2]; exact k _ H2 F2 Z2 f R2 (s1.trans s2) (sf1.trans sf2) (sz1.trans sz2) ow)
theorem eo_dnewK : EvO X δ (.Dict [] [] pos) (.dk []) := fun B σ H F Z φ Q R k =>
  PE.sem pe_dnewK (fun q nq => eo_new R (Same.refl _) nq fun fp R2 s2 nd n e => by subst e; exact k _ _ F Z [q] R2 s2 (Same.refl _) (Same.refl _) (.dk upd_same .nil) nd n)
theorem eo_dnewT : EvO X δ (.Dict [] [] pos) (.dt []) := fun B σ H F Z φ Q R k =>
  PE.sem pe_dnewT (fun q nq => eo_new R (Same.refl _) nq fun fp R2 s2 nd n e => by subst e; exact k _ _ F Z [q] R2 s2 (Same.refl _) (Same.refl _) (.dt upd_same .nil) nd n)
/-- dict(xs), a list of pairs (k, v) -/
def kmerge {κ α : Type} [DecidableEq κ] (es more : List (κ × α)) : List (κ × α) := more.foldl (fun acc kv => kput acc kv.1 kv.2) es
theorem ownK_any {F Z H : Hp} {k : Key} : ∀ {vs : List (Key × V)} {es : List (Key × W)} {g : List Addr}, OwnK F Z H vs es g → (vs.any fun kv => decide (kv.1 = k)) = (es.any fun kv => decide (kv.1 = k))
  | _, _, _, .nil => rfl
  | _, _, _, .cons _ b => by rw [List.any_cons, List.any_cons, ownK_any b]
theorem ownK_map {F Z H : Hp} {k : Key} {x : V} {u : W} (ou : Own F Z H x u []) : ∀ {vs : List (Key × V)} {es : List (Key × W)} {g : List Addr}, OwnK F Z H vs es g →
    ∃ g', OwnK F Z H (vs.map fun kv => if kv.1 = k then (kv.1, x) else kv) (es.map fun kv => if kv.1 = k then (kv.1, u) else kv) g' ∧ g'.Sublist g
  | _, _, _, .nil => ⟨_, .nil, List.Sublist.refl _⟩
  | _, _, _, .cons (k := j) a b => by
    obtain ⟨g', q, m⟩ := ownK_map ou b
    by_cases e : j = k
    · rw [List.map_cons, List.map_cons, if_pos e, if_pos e]
      exact ⟨_, .cons ou q, by rw [List.nil_append]; exact m.trans (List.sublist_append_right _ _)⟩
    · rw [List.map_cons, List.map_cons, if_neg e, if_neg e]
      exact ⟨_, .cons a q, List.Sublist.append (List.Sublist.refl _) m⟩
theorem ownK_snoc {F Z H : Hp} {k : Key} {x : V} {u : W} {f : List Addr} (ou : Own F Z H x u f) : ∀ {vs : List (Key × V)} {es : List (Key × W)} {g : List Addr}, OwnK F Z H vs es g → OwnK F Z H (vs ++ [(k, x)]) (es ++ [(k, u)]) (g ++ f)
  | _, _, _, .nil => by have := OwnK.cons (k := k) ou .nil; rw [List.append_nil] at this; exact this
  | _, _, _, .cons a b => by rw [List.append_assoc]; exact .cons a (ownK_snoc ou b)
theorem ownK_put {F Z H : Hp} {vs : List (Key × V)} {es : List (Key × W)} {g : List Addr} {k : Key} {x : V} {u : W} (o : OwnK F Z H vs es g) (ou : Own F Z H x u []) : ∃ g', OwnK F Z H (putK vs k x) (kput es k u) g' ∧ g'.Sublist g := by
  unfold putK kput
  rw [ownK_any o]
  split
  · exact ownK_map ou o
  · exact ⟨_, ownK_snoc ou o, by rw [List.append_nil]; exact List.Sublist.refl _⟩
theorem ownT_any {F Z H : Hp} {k : List Key} : ∀ {vs : List (List Key × V)} {es : List (List Key × W)} {g : List Addr}, OwnT F Z H vs es g → (vs.any fun kv => decide (kv.1 = k)) = (es.any fun kv => decide (kv.1 = k))
  | _, _, _, .nil => rfl
  | _, _, _, .cons _ b => by rw [List.any_cons, List.any_cons, ownT_any b]
theorem ownT_map {F Z H : Hp} {k : List Key} {x : V} {u : W} (ou : Own F Z H x u []) : ∀ {vs : List (List Key × V)} {es : List (List Key × W)} {g : List Addr}, OwnT F Z H vs es g →
    ∃ g', OwnT F Z H (vs.map fun kv => if kv.1 = k then (kv.1, x) else kv) (es.map fun kv => if kv.1 = k then (kv.1, u) else kv) g' ∧ g'.Sublist g
  | _, _, _, .nil => ⟨_, .nil, List.Sublist.refl _⟩
  | _, _, _, .cons (k := j) a b => by
    obtain ⟨g', q, m⟩ := ownT_map ou b
    by_cases e : j = k
    · rw [List.map_cons, List.map_cons, if_pos e, if_pos e]
      exact ⟨_, .cons ou q, by rw [List.nil_append]; exact m.trans (List.sublist_append_right _ _)⟩
    · rw [List.map_cons, List.map_cons, if_neg e, if_neg e]
      exact ⟨_, .cons a q, List.Sublist.append (List.Sublist.refl _) m⟩
theorem ownT_snoc {F Z H : Hp} {k : List Key} {x : V} {u : W} {f : List Addr} (ou : Own F Z H x u f) : ∀ {vs : List (List Key × V)} {es : List (List Key × W)} {g : List Addr}, OwnT F Z H vs es g → OwnT F Z H (vs ++ [(k, x)]) (es ++ [(k, u)]) (g ++ f)
  | _, _, _, .nil => by have := OwnT.cons (k := k) ou .nil; rw [List.append_nil] at this; exact this
  | _, _, _, .cons a b => by rw [List.append_assoc]; exact .cons a (ownT_snoc ou b)
theorem ownT_put {F Z H : Hp} {vs : List (List Key × V)} {es : List (List Key × W)} {g : List Addr} {k : List Key} {x : V} {u : W} (o : OwnT F Z H vs es g) (ou : Own F Z H x u []) : ∃ g', OwnT F Z H (putK vs k x) (kput es k u) g' ∧ g'.Sublist g := by
  unfold putK kput
  rw [ownT_any o]
  split
  · exact ownT_map ou o
  · exact ⟨_, ownT_snoc ou o, by rw [List.append_nil]; exact List.Sublist.refl _⟩
theorem ownK_merge {F Z H : Hp} : ∀ {more : List (Key × V)} {ms : List (Key × W)} {vs : List (Key × V)} {es : List (Key × W)}, OwnK F Z H more ms [] → OwnK F Z H vs es [] → OwnK F Z H (mergeK vs more) (kmerge es ms) []
  | [], [], _, _, _, h => h
  | (k, v) :: more, (k', w) :: ms, vs, es, h, o => by
    generalize hg : ([] : List Addr) = z at h
    cases h with
    | @cons _ _ _ _ _ f g a b =>
      have hf : f = [] ∧ g = [] := List.append_eq_nil_iff.mp hg.symm
      obtain ⟨rfl, rfl⟩ := hf
      obtain ⟨g', q, m⟩ := ownK_put (k := k) o a
      have : g' = [] := List.sublist_nil.mp m
      subst this
      exact ownK_merge (more := more) (ms := ms) b q
  | [], _ :: _, _, _, h, _ => by cases h
  | _ :: _, [], _, _, h, _ => by cases h
theorem pair_fz {Kf : PySem.W.Frag} {F H : Hp} (s : Same F H) : ∀ {vs : List V} {ks : List (Key × D)}, Dats F vs (ks.map fun p => .tup [kD p.1, p.2]) → ∃ (ps : List Addr) (kvs : List (Key × V)), vs = ps.map V.ref ∧ Paired (fun p kv => SqT Kf H p [kV kv.1, kv.2]) ps kvs ∧ DatK F kvs ks
  | _, [], .nil => ⟨[], [], rfl, .nil, .nil⟩
  | _, (k, d) :: ks, .cons h t => by
    obtain ⟨ps, kvs, e, pp, dd⟩ := pair_fz (Kf := Kf) s t
    cases h with
    | tup r q =>
      cases q with
      | cons h1 q =>
        cases q with
        | cons h2 q =>
          cases q
          have ek : _ = kV k := dat_key h1 (by cases k <;> rfl)
          subst ek
          exact ⟨_ :: ps, (k, _) :: kvs, by rw [e]; rfl, .cons (.inl (.inl (s _ _ r))) pp, .cons h2 dd⟩
theorem datK_fz0 {F Z H : Hp} : ∀ {vs : List (Key × V)} {es : List (Key × D)}, DatK F vs es → OwnK F Z H vs (es.map fun p => (p.1, .fz p.2)) []
  | _, _, .nil => .nil
  | _, _, .cons h t => .cons (f := []) (g := []) (.fz h) (datK_fz0 t)
theorem datK_bo0 {F Z H : Hp} : ∀ {vs : List (Key × V)} {es : List (Key × D)}, DatK Z vs es → OwnK F Z H vs (es.map fun p => (p.1, .bo p.2)) []
  | _, _, .nil => .nil
  | _, _, .cons h t => .cons (f := []) (g := []) (.bo h) (datK_bo0 t)
/-- .. of frozen pairs -/
theorem co_dict (hc : X.calm = true) {ks : List (Key × D)} : CallO X (.type "dict") [.fz (.lst (ks.map fun p => .tup [kD p.1, p.2]))] (.dk (kmerge [] (ks.map fun p => (p.1, .fz p.2)))) := ⟨_, call_dictP hc, fun vs H F Z fp Q s1 s2 ow k => by
  obtain ⟨v, g, rfl, o⟩ := owns1 ow
  cases fzInv o with
  | lst r q =>
    obtain ⟨ps, kvs, e, pp, dd⟩ := pair_fz (Kf := X.K) (s1.trans s2) q
    subst e
    exact ⟨_, ps, kvs, rfl, .inl (.inl ((s1.trans s2) _ _ r)), pp, fun q nq => k q _ nq (.dk upd_same (ownK_merge (datK_fz0 dd) .nil))⟩⟩
theorem co_dictB (hc : X.calm = true) {ks : List (Key × D)} : CallO X (.type "dict") [.bo (.lst (ks.map fun p => .tup [kD p.1, p.2]))] (.dk (kmerge [] (ks.map fun p => (p.1, .bo p.2)))) := ⟨_, call_dictP hc, fun vs H F Z fp Q s1 s2 ow k => by
  obtain ⟨v, g, rfl, o⟩ := owns1 ow
  cases o with
  | bo h =>
    cases h with
    | lst r q =>
      obtain ⟨ps, kvs, e, pp, dd⟩ := pair_fz (Kf := X.K) s2 q
      subst e
      exact ⟨_, ps, kvs, rfl, .inl (.inl (s2 _ _ r)), pp, fun q nq => k q _ nq (.dk upd_same (ownK_merge (datK_bo0 dd) .nil))⟩⟩
end
end OV

namespace OV
open PySem PySem.Spec PyProof.Rows L2
/-! ### comprehensions -/
def EvOif (P : Sg → Hp → Prop) (X : Cx) (δ : Dl) (e : Expr) (w : W) : Prop := ∀ (B : Bs) σ H F Z φ (Q : VK), RR B σ δ H F Z φ → P σ Z →
  (∀ v H' F' Z' fp, RR B σ δ H' F' Z' φ → Same H H' → Same F F' → Same Z Z' → Own F' Z' H' v w fp → fp.Nodup → (∀ a ∈ fp, Z' a = none ∧ H a = none) → Q v H') → SemE X e σ H Q
theorem EvOif.o {X : Cx} {δ : Dl} {e : Expr} {w : W} (h : EvOif (fun _ _ => True) X δ e w) : EvO X δ e w := fun B σ H F Z φ Q R k => h B σ H F Z φ Q R trivial k
def ItWif (P : Sg → Hp → Prop) (X : Cx) (δ : Dl) (tg iter : Expr) (ws : List W) : Prop := ∃ wi : TI, PI X tg iter wi ∧ ∀ (B : Bs) σ H F Z φ (Q : It → Hp → Prop), RR B σ δ H F Z φ → P σ Z →
  (∀ J H' F' Z', RR B σ δ H' F' Z' φ → Same H H' → Same F F' → Same Z Z' → ItOk J F' Z' ws → Q J H') → wi σ H Q
theorem ItW.if_ {P : Sg → Hp → Prop} {X : Cx} {δ : Dl} {tg iter : Expr} {ws : List W} (h : ItW X δ tg iter ws) : ItWif P X δ tg iter ws := let ⟨wi, h1, h2⟩ := h; ⟨wi, h1, fun B σ H F Z φ Q R _ k => h2 B σ H F Z φ Q R k⟩
theorem wipe_idem {σ : Sg} {vs : List Nat} : wipe (wipe σ vs) vs = wipe σ vs := by
  apply List.ext_getElem?
  intro i
  by_cases q : i ∈ vs
  · have : ∀ τ : Sg, τ.length = σ.length → (wipe τ vs)[i]? = if i < σ.length then some none else none := by
      intro τ hl
      have hn : ∀ x, (wipe τ vs)[i]? ≠ some (some x) := fun x e => (wipe_some e).2 q
      by_cases l : i < σ.length
      · rw [if_pos l]
        have l2 : i < (wipe τ vs).length := by rw [wipe_length, hl]; exact l
        rw [List.getElem?_eq_getElem l2]
        cases h : (wipe τ vs)[i] with
        | none => rfl
        | some x => exact absurd (by rw [List.getElem?_eq_getElem l2, h]) (hn x)
      · rw [if_neg l]
        exact List.getElem?_eq_none_iff.mpr (by rw [wipe_length, hl]; omega)
    rw [this _ (wipe_length _ _), this _ rfl]
  · rw [wipe_out q]
section
variable {B : Bs} {σ : Sg} {δ δ' : Dl} {H H' F F' Z Z' : Hp} {φ φ' : Nat → List Addr}
theorem RR.ext (R : RR B σ δ H F Z φ) (s : Same H H') (sf : Same F F') (sz : Same Z Z') (fz : Same F' Z') (zh : Same Z' H') (nz : ∀ i a, a ∈ φ i → Z' a = none)
    (nf : ∀ b o, F' b = some o → F b = some o ∨ B.H0 b = none ∨ B.P b) : RR B σ δ H' F' Z' φ where
  len := R.len
  own := fun i w e => let ⟨v, h1, h2⟩ := R.own i w e; ⟨v, h1, h2.frame sf sz (s.kp _)⟩
  nd := R.nd
  dj := R.dj
  nz := nz
  th := fun i a h => let ⟨o, e⟩ := R.th i a h; ⟨o, s _ _ e⟩
  new := R.new
  fz := fz
  zh := zh
  f0 := R.f0.trans sf
  z0 := R.z0.trans sz
  keep := fun b o e n => s _ _ (R.keep b o e n)
  pt := fun b e => let ⟨o, e⟩ := R.pt b e; ⟨o, s _ _ e⟩
  newF := fun b o e => (nf b o e).elim (R.newF b o) .inr
  pin := R.pin
  fin := R.fin
  gb := R.gb
/-- cells that are no slot's are claimed -/
theorem RR.claim {k : Nat} {fp : List Addr} (R : RR B σ δ H F Z φ) (hk : δ.length ≤ k) (nd : fp.Nodup) (z : ∀ a ∈ fp, Z a = none) (d : ∀ a ∈ fp, ∀ i, i ≠ k → a ∉ φ i) (th : ∀ a ∈ fp, ∃ o, H a = some o) (n : ∀ a ∈ fp, B.H0 a = none ∨ B.P a) : RR B σ δ H F Z (upF φ k fp) where
  len := R.len
  own := fun i w e => by
    have : i ≠ k := fun q => by have := (List.getElem?_eq_some_iff.mp e).1; omega
    rw [upF_ne this]
    exact R.own i w e
  nd := fun i => by
    by_cases q : i = k
    · subst q; rw [upF_same]; exact nd
    · rw [upF_ne q]; exact R.nd i
  dj := fun i j a h1 h2 => by
    by_cases q : i = k
    · subst q
      rw [upF_same] at h1
      by_cases r : j = i
      · exact r.symm
      · rw [upF_ne r] at h2; exact absurd h2 (d a h1 j r)
    · rw [upF_ne q] at h1
      by_cases r : j = k
      · subst r; rw [upF_same] at h2; exact absurd h1 (d a h2 i q)
      · rw [upF_ne r] at h2; exact R.dj i j a h1 h2
  nz := fun i a h => by
    by_cases q : i = k
    · subst q; rw [upF_same] at h; exact z a h
    · rw [upF_ne q] at h; exact R.nz i a h
  th := fun i a h => by
    by_cases q : i = k
    · subst q; rw [upF_same] at h; exact th a h
    · rw [upF_ne q] at h; exact R.th i a h
  new := fun i a h => by
    by_cases q : i = k
    · subst q; rw [upF_same] at h; exact n a h
    · rw [upF_ne q] at h; exact R.new i a h
  fz := R.fz
  zh := R.zh
  f0 := R.f0
  z0 := R.z0
  keep := R.keep
  pt := R.pt
  newF := R.newF
  pin := R.pin
  fin := let ⟨m, h⟩ := R.fin; ⟨max m (k + 1), fun i hi => by rw [upF_ne (by omega)]; exact h i (by omega)⟩
  gb := fun i e => by
    have : i ≠ k := fun q => by have := (List.getElem?_eq_some_iff.mp e).1; omega
    rw [upF_ne this]
    exact R.gb i e
/-- the block's own slots are forgotten -/
theorem RR.wiped (R : RR B σ δ H F Z φ) (vs : List Nat) (hv : ∀ v ∈ vs, δ[v]? = some none) : RR ⟨F, Z, B.H0, B.P, []⟩ (wipe σ vs) δ H F Z φ where
  len := by rw [wipe_length]; exact R.len
  own := fun i w e => by
    have h2 : i ∉ vs := fun m => by rw [hv i m] at e; cases e
    rw [wipe_out h2]
    exact R.own i w e
  nd := R.nd
  dj := R.dj
  nz := R.nz
  th := R.th
  new := R.new
  fz := R.fz
  zh := R.zh
  f0 := Same.refl _
  z0 := Same.refl _
  keep := R.keep
  pt := R.pt
  newF := fun b o e => .inl e
  pin := fun _ h => (nomatch h)
  fin := R.fin
  gb := R.gb
/-- an object of a claimed place is written -/
theorem RR.put {k : Nat} {ad : Addr} {h : HO} (R : RR B σ δ H F Z φ) (hk : δ.length ≤ k) (ha : ad ∈ φ k) : RR B σ δ (upd H ad h) F Z φ where
  len := R.len
  own := fun i w e => by
    have : i ≠ k := fun q => by have := (List.getElem?_eq_some_iff.mp e).1; omega
    obtain ⟨v, h1, h2⟩ := R.own i w e
    exact ⟨v, h1, h2.frame (Same.refl _) (Same.refl _) fun b m o e => by rw [upd_ne (fun (z : b = ad) => this (R.dj i k b m (by rw [z]; exact ha)))]; exact e⟩
  nd := R.nd
  dj := R.dj
  nz := R.nz
  th := fun i a m => by
    obtain ⟨o, e⟩ := R.th i a m
    by_cases z : a = ad
    · subst z; exact ⟨_, upd_same⟩
    · exact ⟨o, by rw [upd_ne z]; exact e⟩
  new := R.new
  fz := R.fz
  zh := fun b o e => by
    rw [upd_ne (fun (z : b = ad) => by subst z; rw [R.nz k b ha] at e; cases e)]
    exact R.zh b o e
  f0 := R.f0
  z0 := R.z0
  keep := fun b o e n => by
    rw [upd_ne (fun (z : b = ad) => by subst z; exact (R.new k b ha).elim (fun y => by rw [y] at e; cases e) n)]
    exact R.keep b o e n
  pt := fun b e => by
    obtain ⟨o, e⟩ := R.pt b e
    by_cases z : b = ad
    · subst z; exact ⟨_, upd_same⟩
    · exact ⟨o, by rw [upd_ne z]; exact e⟩
  newF := R.newF
  pin := R.pin
  fin := R.fin
  gb := R.gb
end
section
variable {X : Cx} {δ : Dl} {tg iter elt : Expr} {ifs : List Expr} {scope : Scope} {own : List (Str × Nat)} {pos : Pos} {T : Tg}
/-- the block's context -/
abbrev BX (X : Cx) (scope : Scope) (s : Shared) (H : Hp) (C : Addr) (cl : List (Str × Addr)) (fp : List Addr) : Cx := X.blk s H scope (compEnvC scope cl C X.env) fp
def SemEB (X : Cx) (scope : Scope) (e : Expr) : TE := fun σ H Q => ∀ s H0 C cl fp, SemE (BX X scope s H0 C cl fp) e σ H Q
def SemTB (X : Cx) (scope : Scope) (e : Expr) : TT := fun σ H Q => ∀ s H0 C cl fp, SemT (BX X scope s H0 C cl fp) e σ H Q
theorem pe_semB {e : Expr} (s : Shared) (H : Hp) (C : Addr) (cl : List (Str × Addr)) (fp : List Addr) : PE (X.blk s H scope (compEnvC scope cl C X.env) fp) e (SemEB X scope e) := ⟨fun pins s' _ _ _ I h => h s H C cl fp pins s' I⟩
theorem pt_semB {e : Expr} (s : Shared) (H : Hp) (C : Addr) (cl : List (Str × Addr)) (fp : List Addr) : PT (X.blk s H scope (compEnvC scope cl C X.env) fp) e (SemTB X scope e) := ⟨fun pins s' _ _ _ I h => h s H C cl fp pins s' I⟩
def ifsT (X : Cx) (scope : Scope) : List Expr → TT
  | [] => tYes
  | [c] => SemTB X scope c
  | _ => fun _ _ _ => False
inductive Ifs {α : Type} (X : Cx) (scope : Scope) (xs : List α) (A : α → Dl) (p : α → Bool) : List Expr → Prop where
  | no (h : ∀ x ∈ xs, p x = true) : Ifs X scope xs A p []
  | one {c : Expr} (h : ∀ s H C cl fp, ∀ x ∈ xs, EvT (BX X scope s H C cl fp) (A x) c (p x)) : Ifs X scope xs A p [c]
theorem lc_run {P : Sg → Hp → Prop} {α : Type} (xs : List α) (ea : α → W) (A : α → Dl) (p : α → Bool) (f : α → W) (hi : ItWif P X δ tg iter (xs.map ea))
    (hv : ∀ v ∈ own.map (·.2), δ[v]? = some none) (hTs : ∀ i ∈ T.is, i ∈ own.map (·.2)) (hA : ∀ x ∈ xs, tgD δ T (ea x) = some (A x)) (ht : Ifs X scope xs A p ifs)
    (he : ∀ s H C cl fp, ∀ x ∈ xs, p x = true → EvO (BX X scope s H C cl fp) (A x) elt (f x)) (hz : xs.length ≤ sizeLine) :
    ∃ wi : TI, PI X tg iter wi ∧ ∀ (B : Bs) σ H F Z φ (Q : VK), RR B σ δ H F Z φ → P σ Z →
      (∀ v H' F' Z' fp, RR B σ δ H' F' Z' φ → Same H H' → Same F F' → Same Z Z' → Own F' Z' H' v (.lst ((xs.filter p).map f)) fp → fp.Nodup → (∀ a ∈ fp, Z' a = none ∧ H a = none) → Q v H') →
      tLc wi (tgR X.K T) (ifsT X scope ifs) (SemEB X scope elt) (own.map (·.2)) σ H Q := by
  obtain ⟨wi, pi, hwi⟩ := hi
  refine ⟨wi, pi, fun B σ H F Z φ Q R hP k => hwi B σ H F Z φ _ R hP fun J H1 F1 Z1 R1 s1 sf1 sz1 ok => ?_⟩
  intro Ad nD
  obtain ⟨n0, hn0⟩ := R1.fin
  generalize hkk : max n0 δ.length = kk
  have hkd : δ.length ≤ kk := by omega
  have hφk : φ kk = [] := hn0 kk (by omega)
  generalize hvs : own.map (·.2) = vs at *
  -- what holds at turn i
  let Inv' : Nat → Hp → Prop := fun i Hc => ∃ Fc Zc acc g, RR ⟨F1, Z1, B.H0, B.P, []⟩ (wipe σ vs) δ Hc Fc Zc (upF φ kk (Ad :: g)) ∧ Same H1 Hc ∧ Hc Ad = some (.lst acc) ∧ Owns Fc Zc Hc acc (((xs.take i).filter p).map f) g ∧ (∀ a ∈ g, H1 a = none) ∧ acc.length ≤ i
  have start0 : Inv' 0 (upd H1 Ad (.lst [])) := by
    have sn := same_upd (o := .lst []) nD
    refine ⟨F1, Z1, [], [], ((R1.wiped vs hv).grow sn).claim hkd (List.nodup_cons.mpr ⟨fun h => (nomatch h), .nil⟩) (fun a m => ?_) (fun a m i hi q => ?_) (fun a m => ?_) (fun a m => ?_), sn, upd_same, by simp; exact .nil, fun _ h => (nomatch h), Nat.le_refl _⟩
    all_goals
      rcases List.mem_cons.mp m with rfl | m
      rotate_left
      · cases m
    · exact Z_none R1 nD
    · obtain ⟨o, e⟩ := R1.th i _ q
      rw [nD] at e; cases e
    · exact ⟨_, upd_same⟩
    · exact R1.new0 nD
  refine ⟨fun i m Hc => m = xs.length - i ∧ i ≤ xs.length ∧ Inv' i Hc, ⟨xs.length, by simp, Nat.zero_le _, start0⟩, ?_⟩
  rintro i m Hc ⟨rfl, hi, Fc, Zc, acc, g, Rc, sc, hAd, ow, hg, hal⟩
  obtain ⟨hgo, hstop⟩ := ok i Hc Fc Zc Rc.f0 Rc.z0 Rc.fz Rc.zh
  by_cases hlt : i < xs.length
  · have hx : (xs.map ea)[i]? = some (ea xs[i]) := by rw [List.getElem?_map, List.getElem?_eq_getElem hlt]; rfl
    obtain ⟨go, hy⟩ := hgo _ hx
    have hmem : xs[i] ∈ xs := List.getElem_mem hlt
    have et : xs.take (i + 1) = xs.take i ++ [xs[i]] := by rw [List.take_add_one, List.getElem?_eq_getElem hlt]; rfl
    refine .inr ⟨go, fun H' => Inv' (i + 1) H', fun H' q => ⟨xs.length - (i + 1), by omega, rfl, hlt, q⟩, fun x H3 y => ?_⟩
    obtain ⟨F3, Z3, s3, sf3, sz3, R3, o3⟩ := hy x H3 y
    have Rb3 := R3 _ _ _ _ Rc
    have hzero : ∀ j ∈ T.is, upF φ kk (Ad :: g) j = [] := fun j mj => Rb3.gb j (hv j (hTs j mj))
    refine tg_ok Rb3 o3 (hA _ hmem) (fun j mj => ⟨(List.getElem?_eq_some_iff.mp (hv j (hTs j mj))).1, fun h => (nomatch h)⟩) fun σ4 φ4 R4 hw4 hφ4 => ?_
    have hwv : wipe σ4 vs = wipe σ vs := by rw [hw4 vs (fun j mj => hTs j mj), wipe_idem]
    have e4 := hφ4 hzero
    subst e4
    refine ⟨hwv, ?_⟩
    -- the test, then the element
    have main : ∀ (H5 F5 Z5 : Hp), RR ⟨F1, Z1, B.H0, B.P, []⟩ σ4 (A xs[i]) H5 F5 Z5 (upF φ kk (Ad :: g)) → Same H3 H5 → Same F3 F5 → Same Z3 Z5 → (if p xs[i] = true then SemEB X scope elt σ4 H5 fun y H4 => ∃ acc, H4 Ad = some (.lst acc) ∧ acc.length < sizeLine ∧ Inv' (i + 1) (upd H4 Ad (.lst (acc ++ [y]))) else Inv' (i + 1) H5) := by
      intro H5 F5 Z5 R5 s5 sf5 sz5
      have hA5 : H5 Ad = some (.lst acc) := s5 _ _ (s3 _ _ hAd)
      cases hp : p xs[i] with
      | false =>
        rw [if_neg (by decide)]
        refine ⟨F5, Z5, acc, g, Rb3.ext s5 sf5 sz5 R5.fz R5.zh R5.nz (fun b o e => (R5.newF b o e).elim (fun z => .inl (Rb3.f0 _ _ z)) .inr), sc.trans (s3.trans s5), hA5, ?_, hg, by omega⟩
        rw [et, List.filter_append, List.filter_cons_of_neg (by rw [hp]; decide), List.filter_nil, List.append_nil]
        exact ow.frame (sf3.trans sf5) (sz3.trans sz5) ((s3.trans s5).kp _)
      | true =>
        rw [if_pos rfl]
        intro s0 H0 C cl fp0
        refine he s0 H0 C cl fp0 _ hmem hp _ σ4 H5 F5 Z5 _ _ R5 fun y H6 F6 Z6 fp R6 s6 sf6 sz6 o6 nd6 n6 => ?_
        have hA6 : H6 Ad = some (.lst acc) := s6 _ _ hA5
        have hnd := R6.nd kk
        rw [upF_same] at hnd
        have hlen : (((xs.take i).filter p).map f).length ≤ i := by rw [← ow.len]; exact hal
        refine ⟨acc, hA6, by omega, F6, Z6, acc ++ [y], g ++ fp, ?_, ?_, upd_same, ?_, ?_, by rw [List.length_append]; simp; exact hal⟩
        · -- the state with the greater claim
          have Rn := Rb3.ext (s5.trans s6) (sf5.trans sf6) (sz5.trans sz6) R6.fz R6.zh R6.nz (fun b o e => (R6.newF b o e).elim (fun z => .inl (Rb3.f0 _ _ z)) .inr)
          have hap : ∀ a ∈ fp, ∀ j, a ∉ upF φ kk (Ad :: g) j := fun a m j hj => by
            obtain ⟨o, e⟩ := R5.th j a hj
            rw [(n6 a m).2] at e; cases e
          have Rn2 := (Rn.put (h := .lst (acc ++ [y])) hkd (ad := Ad) (by rw [upF_same]; exact List.mem_cons_self)).claim (k := kk) (fp := Ad :: (g ++ fp)) hkd ?_ ?_ ?_ ?_ ?_
          · have eu : upF (upF φ kk (Ad :: g)) kk (Ad :: (g ++ fp)) = upF φ kk (Ad :: (g ++ fp)) := by
              funext j
              by_cases q : j = kk
              · subst q; rw [upF_same, upF_same]
              · rw [upF_ne q, upF_ne q, upF_ne q]
            rw [eu] at Rn2
            exact Rn2
          · refine List.nodup_cons.mpr ⟨fun m => ?_, List.nodup_append.mpr ⟨(List.nodup_cons.mp hnd).2, nd6, fun a1 m1 a2 m2 z => ?_⟩⟩
            · rcases List.mem_append.mp m with m | m
              · exact (List.nodup_cons.mp hnd).1 m
              · exact hap Ad m kk (by rw [upF_same]; exact List.mem_cons_self)
            · subst z
              exact hap a1 m2 kk (by rw [upF_same]; exact List.mem_cons_of_mem _ m1)
          · intro a m
            rcases List.mem_cons.mp m with rfl | m
            · exact R6.nz kk _ (by rw [upF_same]; exact List.mem_cons_self)
            · rcases List.mem_append.mp m with m | m
              · exact R6.nz kk _ (by rw [upF_same]; exact List.mem_cons_of_mem _ m)
              · exact (n6 a m).1
          · intro a m j hj
            rw [upF_ne hj]
            rcases List.mem_cons.mp m with rfl | m
            · intro q; exact hj (R6.dj j kk _ (by rw [upF_ne hj]; exact q) (by rw [upF_same]; exact List.mem_cons_self))
            · rcases List.mem_append.mp m with m | m
              · intro q; exact hj (R6.dj j kk _ (by rw [upF_ne hj]; exact q) (by rw [upF_same]; exact List.mem_cons_of_mem _ m))
              · intro q; exact hap a m j (by rw [upF_ne hj]; exact q)
          · intro a m
            rcases List.mem_cons.mp m with rfl | m'
            · exact ⟨_, upd_same⟩
            · have hne : a ≠ Ad := fun z => by
                rcases List.mem_append.mp m' with q | q
                · exact (List.nodup_cons.mp hnd).1 (z ▸ q)
                · exact hap a q kk (by rw [z, upF_same]; exact List.mem_cons_self)
              rw [upd_ne hne]
              rcases List.mem_append.mp m' with q | q
              · exact R6.th kk a (by rw [upF_same]; exact List.mem_cons_of_mem _ q)
              · exact o6.there a q
          · intro a m
            rcases List.mem_cons.mp m with rfl | m
            · exact R6.new kk _ (by rw [upF_same]; exact List.mem_cons_self)
            · rcases List.mem_append.mp m with m | m
              · exact R6.new kk a (by rw [upF_same]; exact List.mem_cons_of_mem _ m)
              · exact R5.new0 (n6 a m).2
        · intro b o e
          rw [upd_ne (fun (z : b = Ad) => by rw [z, nD] at e; cases e)]
          exact (sc.trans (s3.trans (s5.trans s6))) b o e
        · rw [et, List.filter_append, List.filter_cons_of_pos (by rw [hp]), List.filter_nil, List.map_append]
          have kpg : Kp g H6 (upd H6 Ad (.lst (acc ++ [y]))) := fun b m o e => by
            rw [upd_ne (fun (z : b = Ad) => (List.nodup_cons.mp hnd).1 (by rw [← z]; exact m))]; exact e
          have kpf : Kp fp H6 (upd H6 Ad (.lst (acc ++ [y]))) := fun b m o e => by
            rw [upd_ne (fun (z : b = Ad) => by have := (n6 b m).2; rw [z, hA5] at this; cases this)]; exact e
          have := ((ow.frame (sf3.trans (sf5.trans sf6)) (sz3.trans (sz5.trans sz6)) ((s3.trans (s5.trans s6)).kp _)).frame (Same.refl _) (Same.refl _) kpg).app (Owns.cons (o6.frame (Same.refl _) (Same.refl _) kpf) .nil)
          rw [List.append_nil] at this
          exact this
        · intro a m
          rcases List.mem_append.mp m with m | m
          · exact hg a m
          · exact (sc.trans (s3.trans s5)).free (n6 a m).2
    cases ht with
    | no h =>
      have := main H3 F3 Z3 R4 (Same.refl _) (Same.refl _) (Same.refl _)
      rw [h _ hmem, if_pos rfl] at this
      have key : ∀ G : Bool → Hp → Prop, G true H3 → ifsT X scope [] σ4 H3 G := fun G g => g
      refine key _ ?_
      rw [if_pos rfl]
      exact this
    | one h =>
      intro s0 H0 C cl fp0
      exact h s0 H0 C cl fp0 _ hmem _ σ4 H3 F3 Z3 _ _ R4 fun H5 F5 Z5 R5 s5 sf5 sz5 => main H5 F5 Z5 R5 s5 sf5 sz5
  · have e : i = xs.length := by omega
    subst e
    rw [List.take_length] at ow
    refine .inl ⟨hstop (by simp), ?_⟩
    have hnd := Rc.nd kk
    rw [upF_same] at hnd
    refine k (.ref Ad) Hc Fc Zc (Ad :: g) (R1.ext sc Rc.f0 Rc.z0 Rc.fz Rc.zh (fun j a hj => ?_) (fun b o e => Rc.newF b o e)) (s1.trans sc) (sf1.trans Rc.f0) (sz1.trans Rc.z0) (.lst hAd ow) hnd fun a m => ⟨Rc.nz kk a (by rw [upF_same]; exact m), ?_⟩
    · by_cases q : j = kk
      · subst q; rw [hφk] at hj; cases hj
      · exact Rc.nz j a (by rw [upF_ne q]; exact hj)
    · rcases List.mem_cons.mp m with rfl | m
      · exact s1.free nD
      · exact s1.free (hg a m)
theorem pts_of {α : Type} {xs : List α} {A : α → Dl} {p : α → Bool} (ht : Ifs X scope xs A p ifs) (s : Shared) (H : Hp) (C : Addr) (cl : List (Str × Addr)) (fp : List Addr) : PTs (X.blk s H scope (compEnvC scope cl C X.env) fp) ifs (ifsT X scope ifs) := by
  cases ht with
  | no => exact pts_nil
  | one => exact pts_one (pt_semB s H C cl fp)
theorem eo_lcif {P : Sg → Hp → Prop} {α : Type} (xs : List α) (ea : α → W) (A : α → Dl) (p : α → Bool) (f : α → W) (hc : X.calm = true) (nd : X.N.Nodup) (ok : BlkOk X.N X.env.scope scope own)
    (hg : ∀ (s : Shared) (H : Hp) (C : Addr) (cl : List (Str × Addr)) (fp : List Addr), PG (X.blk s H scope (compEnvC scope cl C X.env) fp) tg (tgR X.K T)) (hs : ∀ x, foldedSetIterable iter X.env x = pure x)
    (hi : ItWif P X δ tg iter (xs.map ea)) (hv : ∀ v ∈ own.map (·.2), δ[v]? = some none) (hTs : ∀ i ∈ T.is, i ∈ own.map (·.2)) (hA : ∀ x ∈ xs, tgD δ T (ea x) = some (A x)) (ht : Ifs X scope xs A p ifs)
    (he : ∀ s H C cl fp, ∀ x ∈ xs, p x = true → EvO (BX X scope s H C cl fp) (A x) elt (f x)) (hz : xs.length ≤ sizeLine) : EvOif P X δ (.ListComp elt [⟨tg, iter, ifs, 0⟩] scope pos) (.lst ((xs.filter p).map f)) := by
  obtain ⟨wi, pi, run⟩ := lc_run xs ea A p f hi hv hTs hA ht he hz
  exact fun B σ H F Z φ Q R hP k => PE.sem (pe_lc hc nd pi ok hg (pts_of ht) pe_semB hs) (run B σ H F Z φ Q R hP k)
/-- y = [..] on one line -/
theorem wsetLc {α : Type} {L : List Nat} {K : KE} {rest : List Stmt} {i : Nat} {y : Str} {py spos : Pos} (xs : List α) (ea : α → W) (A : α → Dl) (p : α → Bool) (f : α → W) (hc : X.calm = true) (nd : X.N.Nodup) (hy : X.N[i]? = some y) (hyl : X.env.scope.names.lookup y = some .local)
    (hsw : swapsWith (.ListComp elt [⟨tg, iter, ifs, 0⟩] scope pos) (some (.Name y py)) spos.line X.env = pure true) (ok : BlkOk X.N X.env.scope scope own)
    (hg : ∀ (s : Shared) (H : Hp) (C : Addr) (cl : List (Str × Addr)) (fp : List Addr), PG (X.blk s H scope (compEnvC scope cl C X.env) fp) tg (tgR X.K T)) (hs : ∀ x, foldedSetIterable iter X.env x = pure x)
    (hi : ItW X δ tg iter (xs.map ea)) (hv : ∀ v ∈ own.map (·.2), δ[v]? = some none) (hTs : ∀ i ∈ T.is, i ∈ own.map (·.2)) (hA : ∀ x ∈ xs, tgD δ T (ea x) = some (A x)) (ht : Ifs X scope xs A p ifs)
    (he : ∀ s H C cl fp, ∀ x ∈ xs, p x = true → EvO (BX X scope s H C cl fp) (A x) elt (f x)) (hz : xs.length ≤ sizeLine) (hL : i ∉ L) (hl : i < δ.length)
    (h : WpSs X L (δ.set i (some (.lst ((xs.filter p).map f)))) rest K) : WpSs X L δ (.Assign [.Name y py] (.ListComp elt [⟨tg, iter, ifs, 0⟩] scope pos) spos :: rest) K := by
  obtain ⟨wi, pi, run⟩ := lc_run (P := fun _ _ => True) xs ea A p f hi.if_ hv hTs hA ht he hz
  exact wcons fun B hB σ H F Z φ R => PS.sem (ps_setLc hc nd hy hyl hsw pi ok hg (pts_of ht) pe_semB hs) (run B σ H F Z φ _ R trivial fun v H' F' Z' fp R' s sf sz o ndp n =>
    ⟨_, F', Z', _, R'.store o (own_fresh R ndp n) hl (hB ▸ hL), h⟩)
end
end OV

namespace OV
open PySem PySem.Spec PyProof.Rows L2
/-! ### a dict is locked while it is walked -/
/-- at ad a dict's lock may change, else nothing -/
structure Lw (ad : Addr) (M M' : Hp) : Prop where
  ne : ∀ b, b ≠ ad → ∀ o, M b = some o → M' b = some o
  rd : ∀ o, Rd M ad o → (∃ kvs, o = .dK kvs) ∨ (∃ kvs, o = .dT kvs) → Rd M' ad o
  is : ∀ o, M ad = some o → (∃ kvs, o = .dK kvs) ∨ (∃ kvs, o = .dT kvs) ∨ (∃ od kvs, o = .frz od (.dK kvs)) ∨ (∃ od kvs, o = .frz od (.dT kvs))
section
variable {ad : Addr} {M M' : Hp}
theorem Lw.lst (l : Lw ad M M') {b : Addr} {xs : List V} (e : M b = some (.lst xs)) : M' b = some (.lst xs) := l.ne b (fun z => by
  subst z; rcases l.is _ e with ⟨_, q⟩ | ⟨_, q⟩ | ⟨_, _, q⟩ | ⟨_, _, q⟩ <;> cases q) _ e
theorem Lw.tup (l : Lw ad M M') {b : Addr} {xs : List V} (e : M b = some (.tup xs)) : M' b = some (.tup xs) := l.ne b (fun z => by
  subst z; rcases l.is _ e with ⟨_, q⟩ | ⟨_, q⟩ | ⟨_, _, q⟩ | ⟨_, _, q⟩ <;> cases q) _ e
theorem Lw.frl (l : Lw ad M M') {b : Addr} {xs : List V} {K : PySem.W.Frag} (e : SqL K M b xs) : SqL K M' b xs := by
  rcases e with (e | ⟨o, e⟩) | e
  · exact .inl (.inl (l.lst e))
  · refine .inl (.inr ⟨o, l.ne b (fun z => ?_) _ e⟩)
    subst z
    rcases l.is _ e with ⟨_, q⟩ | ⟨_, q⟩ | ⟨_, _, q⟩ | ⟨_, _, q⟩ <;> cases q
  · exact .inr e
theorem Lw.rdd (l : Lw ad M M') {b : Addr} {o : HO} (h : (∃ kvs, o = .dK kvs) ∨ (∃ kvs, o = .dT kvs)) (e : Rd M b o) : Rd M' b o := by
  by_cases q : b = ad
  · subst q; exact l.rd o e h
  · rcases e with e | ⟨u, e⟩
    · exact .inl (l.ne b q _ e)
    · exact .inr ⟨u, l.ne b q _ e⟩
mutual
theorem Dat.lw (l : Lw ad M M') : ∀ {v : V} {d : D}, Dat M v d → Dat M' v d
  | _, _, .non => .non
  | _, _, .bl b => .bl b
  | _, _, .int i => .int i
  | _, _, .str x => .str x
  | _, _, .lst r h => .lst (l.lst r) (Dats.lw l h)
  | _, _, .frl r h => .frl (l.frl r) (Dats.lw l h)
  | _, _, .tup r h => .tup (l.tup r) (Dats.lw l h)
  | _, _, .dK r h => .dK (l.rdd (.inl ⟨_, rfl⟩) r) (DatK.lw l h)
  | _, _, .dT r h => .dT (l.rdd (.inr ⟨_, rfl⟩) r) (DatT.lw l h)
theorem Dats.lw (l : Lw ad M M') : ∀ {vs : List V} {ds : List D}, Dats M vs ds → Dats M' vs ds
  | _, _, .nil => .nil
  | _, _, .cons a b => .cons (Dat.lw l a) (Dats.lw l b)
theorem DatK.lw (l : Lw ad M M') : ∀ {vs : List (Key × V)} {ds : List (Key × D)}, DatK M vs ds → DatK M' vs ds
  | _, _, .nil => .nil
  | _, _, .cons a b => .cons (Dat.lw l a) (DatK.lw l b)
theorem DatT.lw (l : Lw ad M M') : ∀ {vs : List (List Key × V)} {ds : List (List Key × D)}, DatT M vs ds → DatT M' vs ds
  | _, _, .nil => .nil
  | _, _, .cons a b => .cons (Dat.lw l a) (DatT.lw l b)
end
end
section
variable {ad : Addr} {F F' Z Z' H H' : Hp} (lf : Lw ad F F') (lz : Lw ad Z Z') (k : ∀ b, b ≠ ad → ∀ o, H b = some o → H' b = some o)
include lf lz k
mutual
theorem Own.lw : ∀ {v : V} {w : W} {fp : List Addr}, ad ∉ fp → Own F Z H v w fp → Own F' Z' H' v w fp
  | _, _, _, _, .fz h => .fz (h.lw lf)
  | _, _, _, _, .bo h => .bo (h.lw lz)
  | _, _, _, n, .lst e h => .lst (k _ (fun z => n (z ▸ List.mem_cons_self)) _ e) (Owns.lw (fun z => n (List.mem_cons_of_mem _ z)) h)
  | _, _, _, n, .tup e h => .tup (k _ (fun z => n (z ▸ List.mem_cons_self)) _ e) (Owns.lw (fun z => n (List.mem_cons_of_mem _ z)) h)
  | _, _, _, n, .dk e h => .dk (k _ (fun z => n (z ▸ List.mem_cons_self)) _ e) (OwnK.lw (fun z => n (List.mem_cons_of_mem _ z)) h)
  | _, _, _, n, .dt e h => .dt (k _ (fun z => n (z ▸ List.mem_cons_self)) _ e) (OwnT.lw (fun z => n (List.mem_cons_of_mem _ z)) h)
  | _, _, _, n, .ins e h => .ins (k _ (fun z => n (z ▸ List.mem_cons_self)) _ e) (OwnF.lw (fun z => n (List.mem_cons_of_mem _ z)) h)
theorem Owns.lw : ∀ {v : List V} {w : List W} {fp : List Addr}, ad ∉ fp → Owns F Z H v w fp → Owns F' Z' H' v w fp
  | _, _, _, _, .nil => .nil
  | _, _, _, n, .cons a b => .cons (Own.lw (fun z => n (List.mem_append_left _ z)) a) (Owns.lw (fun z => n (List.mem_append_right _ z)) b)
theorem OwnK.lw : ∀ {v : List (Key × V)} {w : List (Key × W)} {fp : List Addr}, ad ∉ fp → OwnK F Z H v w fp → OwnK F' Z' H' v w fp
  | _, _, _, _, .nil => .nil
  | _, _, _, n, .cons a b => .cons (Own.lw (fun z => n (List.mem_append_left _ z)) a) (OwnK.lw (fun z => n (List.mem_append_right _ z)) b)
theorem OwnT.lw : ∀ {v : List (List Key × V)} {w : List (List Key × W)} {fp : List Addr}, ad ∉ fp → OwnT F Z H v w fp → OwnT F' Z' H' v w fp
  | _, _, _, _, .nil => .nil
  | _, _, _, n, .cons a b => .cons (Own.lw (fun z => n (List.mem_append_left _ z)) a) (OwnT.lw (fun z => n (List.mem_append_right _ z)) b)
theorem OwnF.lw : ∀ {v : List (Str × V)} {w : List (Str × W)} {fp : List Addr}, ad ∉ fp → OwnF F Z H v w fp → OwnF F' Z' H' v w fp
  | _, _, _, _, .nil => .nil
  | _, _, _, n, .cons a b => .cons (Own.lw (fun z => n (List.mem_append_left _ z)) a) (OwnF.lw (fun z => n (List.mem_append_right _ z)) b)
end
end
/-- at ad: what is u becomes u' -/
noncomputable def swp (ad : Addr) (u u' : HO) (M : Hp) : Hp := open Classical in fun b => if b = ad ∧ M b = some u then some u' else M b
section
variable {ad : Addr} {u u' : HO} {M N : Hp}
theorem swp_ne {b : Addr} (h : b ≠ ad) : swp ad u u' M b = M b := by unfold swp; rw [if_neg (fun (z : b = ad ∧ M b = some u) => h z.1)]
theorem swp_at (h : M ad = some u) : swp ad u u' M ad = some u' := by unfold swp; rw [if_pos ⟨rfl, h⟩]
theorem swp_off (h : M ad ≠ some u) : swp ad u u' M = M := by
  funext b
  by_cases q : b = ad
  · subst q; unfold swp; rw [if_neg (fun (z : b = b ∧ M b = some u) => h z.2)]
  · exact swp_ne q
theorem swp_mono (s : Same M N) (hN : N ad = some u) : Same (swp ad u u' M) (swp ad u u' N) := fun b o e => by
  by_cases q : b = ad
  · subst q
    rw [swp_at hN]
    cases z : M b with
    | none =>
      rw [swp_off (by rw [z]; exact fun y => nomatch y), z] at e; cases e
    | some x =>
      have := s b x z
      rw [hN] at this
      cases this
      rw [swp_at z] at e
      exact e
  · rw [swp_ne q] at e ⊢; exact s b o e
theorem swp_upd (h : M ad = some u) : swp ad u u' M = upd M ad u' := by
  funext b
  by_cases q : b = ad
  · subst q; rw [swp_at h, upd_same]
  · rw [swp_ne q, upd_ne q]
theorem swp_back (hM : M ad = some u ∨ M ad = none) (hne : u' ≠ u) : swp ad u' u (swp ad u u' M) = M := by
  funext b
  by_cases q : b = ad
  · subst q
    rcases hM with h | h
    · rw [swp_at (swp_at h), h]
    · rw [swp_off (u := u) (by rw [h]; exact fun y => nomatch y), swp_off (by rw [h]; exact fun y => nomatch y)]
  · rw [swp_ne q, swp_ne q]
theorem swp_none {b : Addr} : swp ad u u' M b = none ↔ M b = none := by
  unfold swp
  split
  · next h => rw [h.2]; exact ⟨fun z => (nomatch z), fun z => (nomatch z)⟩
  · exact Iff.rfl
theorem lw_lock {kvs : HO} {od : Obj} (hd : (∃ k, kvs = .dK k) ∨ (∃ k, kvs = .dT k)) (h : M ad = some kvs ∨ M ad = none) : Lw ad M (swp ad kvs (.frz od kvs) M) where
  ne := fun b q o e => by rw [swp_ne q]; exact e
  rd := fun o e _ => by
    rcases h with h | h
    · rcases e with e | ⟨x, e⟩
      · rw [h] at e; cases e; exact .inr ⟨od, swp_at h⟩
      · rw [h] at e; rcases hd with ⟨_, rfl⟩ | ⟨_, rfl⟩ <;> cases e
    · rcases e with e | ⟨x, e⟩ <;> (rw [h] at e; cases e)
  is := fun o e => by
    rcases h with h | h
    · rw [h] at e; cases e
      rcases hd with ⟨k, rfl⟩ | ⟨k, rfl⟩
      · exact .inl ⟨_, rfl⟩
      · exact .inr (.inl ⟨_, rfl⟩)
    · rw [h] at e; cases e
theorem lw_unlock {kvs : HO} {od : Obj} (hd : (∃ k, kvs = .dK k) ∨ (∃ k, kvs = .dT k)) (h : M ad = some (.frz od kvs) ∨ M ad = none) : Lw ad M (swp ad (.frz od kvs) kvs M) where
  ne := fun b q o e => by rw [swp_ne q]; exact e
  rd := fun o e hk => by
    rcases h with h | h
    · rcases e with e | ⟨x, e⟩
      · rw [h] at e; cases e; rcases hk with ⟨_, q⟩ | ⟨_, q⟩ <;> cases q
      · rw [h] at e; cases e; exact .inl (swp_at h)
    · rcases e with e | ⟨x, e⟩ <;> (rw [h] at e; cases e)
  is := fun o e => by
    rcases h with h | h
    · rw [h] at e; cases e
      rcases hd with ⟨k, rfl⟩ | ⟨k, rfl⟩
      · exact .inr (.inr (.inl ⟨_, _, rfl⟩))
      · exact .inr (.inr (.inr ⟨_, _, rfl⟩))
    · rw [h] at e; cases e
end
/-- a state seen with the lock changed -/
theorem RR.swp {B : Bs} {σ : Sg} {δ : Dl} {H F Z : Hp} {φ : Nat → List Addr} {ad : Addr} {u u' : HO} (R : RR B σ δ H F Z φ) (hz : Z ad = some u) (lf : Lw ad F (swp ad u u' F)) (lz : Lw ad Z (swp ad u u' Z)) :
    RR ⟨OV.swp ad u u' B.F0, OV.swp ad u u' B.Z0, OV.swp ad u u' B.H0, B.P, B.pn⟩ σ δ (OV.swp ad u u' H) (OV.swp ad u u' F) (OV.swp ad u u' Z) φ := by
  have hH : H ad = some u := R.zh ad u hz
  have nφ : ∀ i, ad ∉ φ i := fun i h => by rw [R.nz i ad h] at hz; cases hz
  refine ⟨R.len, fun i w e => ?_, R.nd, R.dj, fun i a h => swp_none.mpr (R.nz i a h), fun i a h => ?_, fun i a h => (R.new i a h).imp (fun z => swp_none.mpr z) id, ?_, swp_mono R.zh hH, ?_, ?_, fun b o e n => ?_, fun b e => ?_, fun b o e => ?_, R.pin, R.fin, R.gb⟩
  · obtain ⟨v, h1, h2⟩ := R.own i w e
    exact ⟨v, h1, h2.lw lf lz (fun b q o e => by rw [swp_ne q]; exact e) (nφ i)⟩
  · obtain ⟨o, e⟩ := R.th i a h
    exact ⟨o, by rw [swp_ne (fun (z : a = ad) => nφ i (z ▸ h))]; exact e⟩
  · exact swp_mono R.fz hz
  · show Same (OV.swp ad u u' B.F0) (OV.swp ad u u' F)
    by_cases q : F ad = some u
    · exact swp_mono R.f0 q
    · have hF : F ad = none := by
        cases e : F ad with
        | none => rfl
        | some x => have := R.fz ad x e; rw [hz] at this; cases this; exact absurd e q
      have h0 : B.F0 ad ≠ some u := fun z => by rw [R.f0 ad u z] at hF; cases hF
      rw [swp_off h0, swp_off q]
      exact R.f0
  · show Same (OV.swp ad u u' B.Z0) (OV.swp ad u u' Z)
    exact swp_mono R.z0 hz
  · show OV.swp ad u u' H b = some o
    by_cases q : b = ad
    · subst q
      have e : OV.swp b u u' B.H0 b = some o := e
      by_cases h0 : B.H0 b = some u
      · rw [swp_at h0] at e; cases e; exact swp_at hH
      · rw [swp_off h0] at e
        have := R.keep b o e n
        rw [hH] at this
        cases this
        exact absurd e h0
    · have e : OV.swp ad u u' B.H0 b = some o := e
      rw [swp_ne q] at e ⊢
      exact R.keep b o e n
  · obtain ⟨o, e⟩ := R.pt b e
    cases z : OV.swp ad u u' H b with
    | none => rw [swp_none.mp z] at e; cases e
    | some x => exact ⟨x, rfl⟩
  · have e : OV.swp ad u u' F b = some o := e
    show OV.swp ad u u' B.F0 b = some o ∨ OV.swp ad u u' B.H0 b = none ∨ B.P b
    by_cases q : b = ad
    · subst q
      have hF : F b = some u := by
        cases z : F b with
        | none => rw [swp_none.mpr z] at e; cases e
        | some x => have := R.fz b x z; rw [hz] at this; cases this; rfl
      rw [swp_at hF] at e
      cases e
      rcases R.newF b u hF with z | z | z
      · exact .inl (swp_at z)
      · exact .inr (.inl (swp_none.mpr z))
      · exact .inr (.inr z)
    · rw [swp_ne q] at e
      rcases R.newF b o e with z | z | z
      · exact .inl (by rw [swp_ne q]; exact z)
      · exact .inr (.inl (swp_none.mpr z))
      · exact .inr (.inr z)
/-- slot i holds a locked dict -/
def Locked (i : Nat) : Sg → Hp → Prop := fun σ Z => ∃ a od kvs, σ[i]? = some (some (.ref a)) ∧ Z a = some (.frz od kvs) ∧ ((∃ k, kvs = HO.dK k) ∨ ∃ k, kvs = HO.dT k)
section
variable {X : Cx} {δ : Dl} {e : Expr} {w : W} {i : Nat} {w0 : W}
def W.isDict : W → Bool
  | .fz (.dk _) => true
  | .fz (.dt _) => true
  | .bo (.dk _) => true
  | .bo (.dt _) => true
  | _ => false
theorem own_isDict {F Z H : Hp} {v : V} {w : W} {fp : List Addr} (s : Same F Z) (h : Own F Z H v w fp) (hd : w.isDict = true) : ∃ a kvs, v = .ref a ∧ Rd Z a kvs ∧ ((∃ k, kvs = HO.dK k) ∨ ∃ k, kvs = HO.dT k) := by
  cases h with
  | fz h => cases h with
    | dK r _ => exact ⟨_, _, rfl, rd_mono s r, .inl ⟨_, rfl⟩⟩
    | dT r _ => exact ⟨_, _, rfl, rd_mono s r, .inr ⟨_, rfl⟩⟩
    | _ => cases hd
  | bo h => cases h with
    | dK r _ => exact ⟨_, _, rfl, r, .inl ⟨_, rfl⟩⟩
    | dT r _ => exact ⟨_, _, rfl, r, .inr ⟨_, rfl⟩⟩
    | _ => cases hd
  | _ => cases hd
theorem eo_lock (hδ : δ[i]? = some (some w0)) (hd : w0.isDict = true) (h : EvOif (Locked i) X δ e w) : EvO X δ e w := by
  intro B σ H F Z φ Q R k
  obtain ⟨v, h1, h2⟩ := R.own i w0 hδ
  obtain ⟨a, kvs, rfl, r, hk⟩ := own_isDict R.fz h2 hd
  rcases r with r | ⟨od, r⟩
  · -- to be locked
    have hH : H a = some kvs := R.zh a _ r
    have mu : Mut (some kvs) := by rcases hk with ⟨_, rfl⟩ | ⟨_, rfl⟩ <;> trivial
    refine PE.sem (pe_lock pe_sem) ⟨a, kvs, hH, mu, fun od => ?_⟩
    have hF : F a = some kvs ∨ F a = none := by
      cases e : F a with
      | none => exact .inr rfl
      | some x => have := R.fz a x e; rw [r] at this; cases this; exact .inl rfl
    have hne : HO.frz od kvs ≠ kvs := by rcases hk with ⟨_, rfl⟩ | ⟨_, rfl⟩ <;> exact fun z => nomatch z
    have R1 := R.swp (u' := .frz od kvs) r (lw_lock hk hF) (lw_lock hk (.inl r))
    rw [← swp_upd hH]
    refine h _ σ _ _ _ φ _ R1 ⟨a, od, kvs, h1, swp_at r, hk⟩ fun v H' F' Z' fp R2 s sf sz o nd n => ?_
    have hZ' : Z' a = some (.frz od kvs) := sz _ _ (swp_at r)
    have hH' : H' a = some (.frz od kvs) := R2.zh _ _ hZ'
    refine ⟨hH', ?_⟩
    rw [← swp_upd hH']
    have hF' : F' a = some (.frz od kvs) ∨ F' a = none := by
      cases e : F' a with
      | none => exact .inr rfl
      | some x => have := R2.fz a x e; rw [hZ'] at this; cases this; exact .inl rfl
    have R3 := R2.swp (u' := kvs) hZ' (lw_unlock hk hF') (lw_unlock hk (.inl hZ'))
    have b0 : ∀ {M : Hp}, (M a = some kvs ∨ M a = none) → swp a (.frz od kvs) kvs (swp a kvs (.frz od kvs) M) = M := fun hM => swp_back hM hne
    have B3 : (⟨swp a (.frz od kvs) kvs (swp a kvs (.frz od kvs) B.F0), swp a (.frz od kvs) kvs (swp a kvs (.frz od kvs) B.Z0), swp a (.frz od kvs) kvs (swp a kvs (.frz od kvs) B.H0), B.P, B.pn⟩ : Bs) = ⟨B.F0, B.Z0, swp a (.frz od kvs) kvs (swp a kvs (.frz od kvs) B.H0), B.P, B.pn⟩ := by
      rw [b0, b0]
      · cases e : B.Z0 a with
        | none => exact .inr rfl
        | some x => have := R.z0 a x e; rw [r] at this; cases this; exact .inl rfl
      · cases e : B.F0 a with
        | none => exact .inr rfl
        | some x => have := R.fz a x (R.f0 a x e); rw [r] at this; cases this; exact .inl rfl
    have R4 : RR ⟨B.F0, B.Z0, swp a (.frz od kvs) kvs (swp a kvs (.frz od kvs) B.H0), B.P, B.pn⟩ σ δ (swp a (.frz od kvs) kvs H') (swp a (.frz od kvs) kvs F') (swp a (.frz od kvs) kvs Z') φ := B3 ▸ R3
    have sH : Same H (swp a (.frz od kvs) kvs H') := fun b x e => by
      by_cases q : b = a
      · subst q; rw [hH] at e; cases e; exact swp_at hH'
      · rw [swp_ne q]; exact s b x (by rw [swp_ne q]; exact e)
    have sF : Same F (swp a (.frz od kvs) kvs F') := fun b x e => by
      by_cases q : b = a
      · subst q
        have ex : x = kvs := by have := R.fz b x e; rw [r] at this; exact (Option.some.inj this).symm
        subst ex
        exact swp_at (sf _ _ (swp_at e))
      · rw [swp_ne q]; exact sf b x (by rw [swp_ne q]; exact e)
    have sZ : Same Z (swp a (.frz od kvs) kvs Z') := fun b x e => by
      by_cases q : b = a
      · subst q; rw [r] at e; cases e; exact swp_at hZ'
      · rw [swp_ne q]; exact sz b x (by rw [swp_ne q]; exact e)
    have nfp : a ∉ fp := fun m => by rw [(n a m).1] at hZ'; cases hZ'
    have R5 : RR B σ δ (swp a (.frz od kvs) kvs H') (swp a (.frz od kvs) kvs F') (swp a (.frz od kvs) kvs Z') φ := by
      refine R.ext sH sF sZ R4.fz R4.zh R4.nz fun b x e => ?_
      rcases R4.newF b x e with z | z | z
      · exact .inl (R.f0 _ _ z)
      · exact .inr (.inl (swp_none.mp (swp_none.mp z)))
      · exact .inr (.inr z)
    exact k v _ _ _ fp R5 sH sF sZ (o.lw (lw_unlock hk hF') (lw_unlock hk (.inl hZ')) (fun b q o e => by rw [swp_ne q]; exact e) nfp) nd fun b m => ⟨swp_none.mpr (n b m).1, swp_none.mp (n b m).2⟩
  · exact h B σ H F Z φ Q R ⟨a, od, kvs, h1, r, hk⟩ k
/-- the keys of a locked dict in slot i -/
theorem itw_keys {tg : Expr} {x : Str} {pos : Pos} {es : List (Key × D)} (hN : X.N[i]? = some x) (hv : Vis X.env.scope x) (hδ : δ[i]? = some (some w0)) (hw : Lf (.dk es) w0) (hd : (x == ("__debug__" : Str)) = false) (hcd : (x == ("__classdict__" : Str)) = false) :
    ItWif (Locked i) X δ tg (.Name x pos) (es.map fun p => .fz (kD p.1)) := by
  refine ⟨_, pi_keys (pe_var hN hv hd hcd), fun B σ H F Z φ Q R hP k => ?_⟩
  obtain ⟨v, h1, h2⟩ := R.own i w0 hδ
  obtain ⟨a, od, kvs, e1, hZ, hk⟩ := hP
  rw [h1] at e1
  cases e1
  have hdat := hw.dat R.fz h2
  have hkv : ∃ kv, kvs = .dK kv ∧ DatK Z kv es := by
    cases hdat with
    | dK r q =>
      rcases r with r | ⟨u, r⟩
      · rw [hZ] at r; cases r
      · rw [hZ] at r; cases r; exact ⟨_, rfl, q⟩
  obtain ⟨kv, rfl, hq⟩ := hkv
  have hlen : ∀ {M : Hp} {kv : List (Key × V)} {es : List (Key × D)}, DatK M kv es → kv.length = es.length := by
    intro M kv
    induction kv with
    | nil => intro es h; cases h; rfl
    | cons p r ih => intro es h; cases h with
      | cons a b => rw [List.length_cons, List.length_cons, ih b]
  have hget : ∀ {M : Hp} {kv : List (Key × V)} {es : List (Key × D)} (j : Nat) (k : Key) (v : V), DatK M kv es → kv[j]? = some (k, v) → (es.map fun p => W.fz (kD p.1))[j]? = some (.fz (kD k)) := by
    intro M kv
    induction kv with
    | nil => intro es j k v h e; simp at e
    | cons p r ih => intro es j k v h e; cases h with
      | cons a b => cases j with
        | zero => simp at e; obtain ⟨rfl, rfl⟩ := e; rfl
        | succ j => simpa using ih j k v b (by simpa using e)
  refine ⟨_, h1, a, od, rfl, .inl ⟨kv, R.zh _ _ hZ, k _ H F Z R (Same.refl _) (Same.refl _) (Same.refl _) (itok_same fun j H2 F2 Z2 s1 s2 s3 s4 => ⟨fun w e => ?_, fun l => ⟨(s2.trans s4) _ _ hZ, by rw [List.length_map] at l; rw [hlen hq]; exact l⟩⟩)⟩⟩
  have hj : j < kv.length := by
    have := (List.getElem?_eq_some_iff.mp e).1
    rw [List.length_map] at this
    rw [hlen hq]; exact this
  refine ⟨⟨(s2.trans s4) _ _ hZ, hj⟩, fun y H3 q => ⟨q.1, ?_⟩⟩
  obtain ⟨_, k', v', e2, rfl⟩ := q
  have := hget j k' v' hq e2
  rw [e] at this
  cases this
  cases k' with
  | inl n => exact .fz (.int n)
  | inr n => exact .fz (.str n)
end
end OV

namespace OV
open PySem PySem.Spec PyProof.Rows L2
section
variable {X : Cx} {L : List Nat} {δ δ' δ1 δ2 : Dl} {e a b c o : Expr} {es : List Expr} {st : Stmt} {sts rest : List Stmt} {K K' : KE} {w u w1 w2 wi wk wx : W} {ws us : List W} {d : D} {ds : List D} {pos p apos cpos : Pos} {i : Int}
theorem lt_of_some {α : Type} {l : List α} {i : Nat} (h : (l[i]?).isSome = true) : i < l.length := by
  by_cases q : i < l.length
  · exact q
  · rw [List.getElem?_eq_none_iff.mpr (by omega)] at h; cases h
/-- an own tree in a slot is frozen for good -/
theorem wfreeze (i : Nat) (hδ : δ[i]? = some (some w)) (p : w.pl = true) (q : w.nb = true) (h : WpSs X L (δ.set i (some (.fz w.er))) sts K) : WpSs X L δ sts K := fun B hB σ H F Z φ R => by
  obtain ⟨v, h1, h2⟩ := R.own i w hδ
  have hi : i < δ.length := (List.getElem?_eq_some_iff.mp hδ).1
  -- the claim is let go
  have R1 : RR B σ (δ.set i none) H F Z (clean (δ.set i none) φ) := R.weak (by rw [List.length_set]) fun j u e => by
    by_cases q : j = i
    · subst q; rw [List.getElem?_set_self hi] at e; cases e
    · rw [List.getElem?_set_ne (Ne.symm q)] at e; exact e
  have fr : Fresh B Z (clean (δ.set i none) φ) (φ i) := ⟨R.nd i, R.nz i, fun a m j hj => by
    (have h1 := (clean_mem hj).1
     have := R.dj i j a m h1
     subst this
     unfold clean at hj
     rw [List.getElem?_set_self hi] at hj
     cases hj), R.new i⟩
  have R2 := R1.freeze h2 fr
  refine h B hB σ H _ _ (clean (δ.set i none) φ) ⟨by rw [List.length_set]; exact R.len, fun j u e => ?_, R2.nd, R2.dj, R2.nz, R2.th, R2.new, R2.fz, R2.zh, R2.f0, R2.z0, R2.keep, R2.pt, R2.newF, R2.pin, R2.fin, fun j e => ?_⟩
  · by_cases q' : j = i
    · subst q'
      rw [List.getElem?_set_self hi] at e
      cases e
      have ec : clean (δ.set j none) φ j = [] := by unfold clean; rw [List.getElem?_set_self hi]
      rw [ec]
      exact ⟨v, h1, .fz (h2.datF (frozen_fs R.fh) frozen_kp p q)⟩
    · rw [List.getElem?_set_ne (Ne.symm q')] at e
      exact R2.own j u (by rw [List.getElem?_set_ne (Ne.symm q')]; exact e)
  · by_cases q' : j = i
    · subst q'; unfold clean; rw [List.getElem?_set_self hi]
    · rw [List.getElem?_set_ne (Ne.symm q')] at e
      exact R2.gb j (by rw [List.getElem?_set_ne (Ne.symm q')]; exact e)
/-! ### written lists and tuples of data -/
def EvDs (X : Cx) (δ : Dl) (es : List Expr) (ds : List D) : Prop := EvOs X δ es (ds.map .fz)
theorem ed_nil : EvDs X δ [] [] := eos_nil
theorem ed_cons (h : EvV X δ e (.fz d)) (t : EvDs X δ es ds) (hs : starEach (e :: es) X.env = (false, eval e X.env) :: starEach es X.env := by rfl) : EvDs X δ (e :: es) (d :: ds) := eos_cons h rfl t hs
theorem ers_fz (ds : List D) : W.ers (ds.map .fz) = ds := by
  induction ds with
  | nil => rfl
  | cons d ds ih => show d :: W.ers (ds.map .fz) = d :: ds; rw [ih]
theorem pls_fz (ds : List D) : W.pls (ds.map .fz) = true := pls_map _ (fun _ => rfl) ds
theorem nbs_fz (ds : List D) : W.nbs (ds.map .fz) = true := nbs_map _ (fun _ => rfl) ds
theorem ev_tup {x1} (h : EvDs X δ es ds) (hl : Nat.ble ds.length sizeLine = true := by rfl) : EvV X δ (.Tuple es x1 pos) (.fz (.tup ds)) := by
  have := (eo_tup (x1 := x1) (pos := pos) h (by rw [List.length_map]; exact Nat.le_of_ble_eq_true hl)).fz (pls_fz ds) (nbs_fz ds)
  rw [show (W.tup (ds.map .fz)).er = D.tup (W.ers (ds.map .fz)) from rfl, ers_fz] at this
  exact this
theorem ev_lst (h : EvDs X δ es ds) (hl : Nat.ble ds.length sizeLine = true := by rfl) : EvV X δ (.List es pos) (.fz (.lst ds)) := by
  have := (eo_lst (pos := pos) h (by rw [List.length_map]; exact Nat.le_of_ble_eq_true hl)).fz (pls_fz ds) (nbs_fz ds)
  rw [show (W.lst (ds.map .fz)).er = D.lst (W.ers (ds.map .fz)) from rfl, ers_fz] at this
  exact this
theorem eo_lstD (h : EvDs X δ es ds) (hl : Nat.ble ds.length sizeLine = true := by rfl) : EvO X δ (.List es pos) (.lst (ds.map .fz)) := eo_lst h (by rw [List.length_map]; exact Nat.le_of_ble_eq_true hl)
/-! ### short forms: what is found by computing -/
theorem vl (i : Nat) {x : Str} (hδ : δ[i]? = some (some w) := by rfl) (hN : X.N[i]? = some x := by rfl) (hv : Vis X.env.scope x := by first | exact Or.inl rfl | exact Or.inr (Or.inl rfl) | exact Or.inr (Or.inr rfl))
    (hd : (x == ("__debug__" : Str)) = false := by decide) (hcd : (x == ("__classdict__" : Str)) = false := by decide) : EvV X δ (.Name x pos) w := ev_var i hN hv hδ hd hcd
theorem es_cons (h : EvV X δ e w) (t : EvVs X δ es ws) (hs : starEach (e :: es) X.env = (false, eval e X.env) :: starEach es X.env := by rfl) : EvVs X δ (e :: es) (w :: ws) := evs_cons h t hs
theorem cb {x : Str} {id : String} (hc : CallW X (.builtin id) ws d) (hm : X.mg x = none) (ha : EvVs X δ (e :: es) ws) (hg : Gl X x := by rfl) (hv : bootBuiltins x = some (.builtin id) := by decide +kernel) (hn : x ≠ "__name__" := by decide) (hdb : (x == ("__debug__" : Str)) = false := by decide)
    (he : starEach (e :: es) X.env = (false, eval e X.env) :: starEach es X.env := by rfl) (hpl : (backTo pos (starEach es X.env)).any (·.1) = false := by rfl) : EvV X δ (.Call (.Name x p) (e :: es) [] pos) (.fz d) := ev_callB hc hg hm hv ha hn hdb he hpl
theorem ct {x : Str} {T : String} (hc : CallW X (.type T) ws d) (hm : X.mg x = none) (ha : EvVs X δ (e :: es) ws) (hg : Gl X x := by rfl) (hv : bootBuiltins x = some (.type T) := by decide +kernel) (hn : x ≠ "__name__" := by decide) (hdb : (x == ("__debug__" : Str)) = false := by decide)
    (he : starEach (e :: es) X.env = (false, eval e X.env) :: starEach es X.env := by rfl) (hpl : (backTo pos (starEach es X.env)).any (·.1) = false := by rfl) : EvV X δ (.Call (.Name x p) (e :: es) [] pos) (.fz d) := ev_callTy hc hg hm hv ha hn hdb he hpl
theorem cbO {x : Str} {id : String} (hc : CallO X (.builtin id) ws w) (hm : X.mg x = none) (ha : EvVs X δ (e :: es) ws) (hg : Gl X x := by rfl) (hv : bootBuiltins x = some (.builtin id) := by decide +kernel) (hn : x ≠ "__name__" := by decide) (hdb : (x == ("__debug__" : Str)) = false := by decide)
    (he : starEach (e :: es) X.env = (false, eval e X.env) :: starEach es X.env := by rfl) (hpl : (backTo pos (starEach es X.env)).any (·.1) = false := by rfl) : EvO X δ (.Call (.Name x p) (e :: es) [] pos) w := eo_callB hc hg hm hv ha hn hdb he hpl
theorem ctO {x : Str} {T : String} (hc : CallO X (.type T) ws w) (hm : X.mg x = none) (ha : EvVs X δ (e :: es) ws) (hg : Gl X x := by rfl) (hv : bootBuiltins x = some (.type T) := by decide +kernel) (hn : x ≠ "__name__" := by decide) (hdb : (x == ("__debug__" : Str)) = false := by decide)
    (he : starEach (e :: es) X.env = (false, eval e X.env) :: starEach es X.env := by rfl) (hpl : (backTo pos (starEach es X.env)).any (·.1) = false := by rfl) : EvO X δ (.Call (.Name x p) (e :: es) [] pos) w := eo_callTy hc hg hm hv ha hn hdb he hpl
theorem cmp {op : CmpOp} (ha : EvV X δ a w1) (hb : EvV X δ b w2) (ho : OpW X (compareOp op) w1 w2 d) (hm : behindInMarks op b = false := by first | exact nomark _ | rfl) : EvV X δ (.Compare a [op] [b] pos) (.fz d) := ev_cmp ha hb ho hm
theorem tcmp {op : CmpOp} {k : Bool} (ha : EvV X δ a w1) (hb : EvV X δ b w2) (ho : OpW X (compareOp op) w1 w2 (.bl k)) (hm : behindInMarks op b = false := by first | exact nomark _ | rfl) : EvT X δ (.Compare a [op] [b] pos) k := et_cmp ha hb ho hm
theorem tval {k : Bool} (h : EvV X δ e (.fz (.bl k))) (he : ∀ whole, isTrue e X.env whole = (do let v ← whole; standAt e.pos; holding [v] (truthy v)) := by intro _; rfl) : EvT X δ e k := et_val h .fz he
theorem rng1 {tg : Expr} {n : Nat} (h : EvV X δ a w) (l : Lf (.int i) w) (hn : i.toNat = n) (h2 : i < 2 ^ 62) (h1 : -(2 ^ 62) ≤ i) (hm : X.mg "range" = none) (hg : Gl X "range" := by rfl) (hs : starEach [a] X.env = [(false, eval a X.env)] := by rfl) :
    ItW X δ tg (.Call (.Name "range" p) [a] [] pos) ((List.range n).map fun k => .fz (.int ((k : Nat) : Int))) := by
  have := itw_range1 (tg := tg) (p := p) (pos := pos) hg hm h l h1 h2 hs
  rw [hn] at this
  have e : rangeW 0 n = (List.range n).map fun k => .fz (.int ((k : Nat) : Int)) := by
    unfold rangeW
    exact congrArg (fun f => List.map f (List.range n)) (funext fun k => by rw [Int.zero_add])
  rw [e] at this
  exact this
theorem rng2 {tg : Expr} {j : Int} {n : Nat} (h : EvV X δ a w) (l : Lf (.int i) w) (h' : EvV X δ b u) (l' : Lf (.int j) u) (hn : (j - i).toNat = n) (hb : -(2 ^ 62) ≤ i ∧ i < 2 ^ 62 ∧ -(2 ^ 62) ≤ j ∧ j < 2 ^ 62) (hm : X.mg "range" = none) (hg : Gl X "range" := by rfl)
    (hs : starEach [a, b] X.env = [(false, eval a X.env), (false, eval b X.env)] := by rfl) (hs2 : starEach [b] X.env = [(false, eval b X.env)] := by rfl) :
    ItW X δ tg (.Call (.Name "range" p) [a, b] [] pos) ((List.range n).map fun k => .fz (.int (i + ((k : Nat) : Int)))) := by
  have := itw_range2 (tg := tg) (p := p) (pos := pos) hg hm h l h' l' hb hs hs2
  rw [hn] at this
  exact this
theorem append_ {x : Str} {xp : Pos} (j : Nat) (hδ : δ[j]? = some (some (.lst ws))) (he : EvC X δ e u δ) (h : WpSs X L (δ.set j (some (.lst (ws ++ [u])))) rest K) (hz : ws.length < sizeLine) (hN : X.N[j]? = some x := by rfl) (hv : Vis X.env.scope x := by first | exact Or.inl rfl | exact Or.inr (Or.inl rfl))
    (hbase : attributeBase (.Name x xp) "append" X.env (eval (.Name x xp) X.env) = eval (.Name x xp) X.env := by rfl)
    (hfew : ((backTo cpos (starEach [e] X.env)).all (fun x => !x.1) && (backToKw cpos (keywordEach [] X.env)).all (fun x => x.1.isSome)
      && decide ([e].length + ([] : List Keyword).length + (if ([] : List Keyword).isEmpty then 0 else 1) < 30)) = true := by rfl)
    (hline : (apos.endLine == cpos.line) = true := by rfl) (hs : starEach [e] X.env = (false, eval e X.env) :: starEach [] X.env := by rfl) (hplain : (backTo cpos (starEach [] X.env)).any (·.1) = false := by rfl)
    (hsw : swapsWith (.Call (.Attribute (.Name x xp) "append" apos) [e] [] cpos) none pos.line X.env = pure false := by rfl) (hd : (x == ("__debug__" : Str)) = false := by decide) (hcd : (x == ("__classdict__" : Str)) = false := by decide) :
    WpSs X L δ (.Expr (.Call (.Attribute (.Name x xp) "append" apos) [e] [] cpos) pos :: rest) K := wappend hN hv hδ he hδ hz h hbase hfew hline hs hplain hsw hd hcd
theorem fold_ {α S : Type} {tg iter : Expr} {body : List Stmt} {T : Tg} (xs : List α) (ea : α → W) (A : S → Dl) (f : S → α → S) (s0 : S) (hg : PTg X tg T) (hi : ItW X δ tg iter (xs.map ea)) (h0 : Fg δ (A s0)) (hl : ∀ s, (A s).length = δ.length)
    (hT : ∀ i ∈ T.is, (δ[i]?).isSome = true ∧ i ∉ L)
    (hb : ∀ pre x post, xs = pre ++ x :: post → ∃ δ2, tgD (A (pre.foldl f s0)) T (ea x) = some δ2 ∧
      WpSs X L δ2 body { K with nx := fun δ' => Fg δ' (A (f (pre.foldl f s0) x)), ct := fun δ' => Fg δ' (A (f (pre.foldl f s0) x)), bk := fun δ' => WpSs X L δ' rest K })
    (hd : WpSs X L (A (xs.foldl f s0)) rest K) (hp : PassesOwn (model X.prog X.w) X.A X.env X.xe := by exact PassesOwn.never) (hc : X.calm = true := by rfl) (hs : ∀ x, foldedSetIterable iter X.env x = pure x := by intro _; rfl) : WpSs X L δ (.For tg iter body [] pos :: rest) K :=
  wfold xs ea A f s0 hp hc hi hg h0 (fun s i m => ⟨by rw [hl]; exact lt_of_some (hT i m).1, (hT i m).2⟩) hl hb hd hs
theorem set_ {x : Str} {pos' : Pos} (i : Nat) (nd : X.N.Nodup) (he : EvC X δ e w δ1) (h : WpSs X L (δ1.set i (some w)) rest K) (hi : X.N[i]? = some x := by rfl) (hx : Loc X.env.scope x := by first | exact .inl rfl | exact .inr rfl)
    (hs : swapsWith e (some (.Name x pos')) pos.line X.env = pure false := by rfl) (hf : X.fn x = true ∨ X.env.scope.names.lookup x = some .local := by first | exact .inl rfl | exact .inr rfl) (hL : i ∉ L := by decide) (hl : (δ1[i]?).isSome = true := by rfl) : WpSs X L δ (.Assign [.Name x pos'] e pos :: rest) K := wset nd hi hx he hs hf hL (lt_of_some hl) h
end
end OV

namespace OV
open PySem PySem.Spec PyProof.Rows L2
/-! ### a statement while a dict is locked -/
def WpSif (P : Sg → Hp → Prop) (X : Cx) (L : List Nat) (δ : Dl) (st : Stmt) (K : KE) : Prop := ∀ (B : Bs), pks B = L → ∀ σ H F Z φ, RR B σ δ H F Z φ → P σ Z → SemS X st (endsOf B K) σ H
theorem RR.h0 {F0 Z0 H0 H0' : Hp} {P : Addr → Prop} {pn : List (Nat × V)} {σ : Sg} {δ : Dl} {H F Z : Hp} {φ : Nat → List Addr} (R : RR ⟨F0, Z0, H0', P, pn⟩ σ δ H F Z φ) (h1 : ∀ b, H0' b = none ↔ H0 b = none) (h2 : ∀ b, ¬ P b → H0' b = H0 b) : RR ⟨F0, Z0, H0, P, pn⟩ σ δ H F Z φ :=
  ⟨R.len, R.own, R.nd, R.dj, R.nz, R.th, fun i a h => (R.new i a h).imp (h1 a).mp id, R.fz, R.zh, R.f0, R.z0, fun b o e n => R.keep b o ((h2 b n).trans e) n, R.pt, fun b o e => (R.newF b o e).imp id fun z => z.imp (h1 b).mp id, R.pin, R.fin, R.gb⟩
theorem ws_lock {X : Cx} {L : List Nat} {δ : Dl} {st : Stmt} {K : KE} {i : Nat} {w0 : W} (hδ : δ[i]? = some (some w0)) (hd : w0.isDict = true) (h : WpSif (Locked i) X L δ st K) : WpS X L δ st K := by
  intro B hB σ H F Z φ R
  obtain ⟨v, h1, h2⟩ := R.own i w0 hδ
  obtain ⟨a, kvs, rfl, r, hk⟩ := own_isDict R.fz h2 hd
  rcases r with r | ⟨od, r⟩
  · have hH : H a = some kvs := R.zh a _ r
    have mu : Mut (some kvs) := by rcases hk with ⟨_, rfl⟩ | ⟨_, rfl⟩ <;> trivial
    refine PS.sem (ps_lock ps_sem) ⟨a, kvs, hH, mu, fun od => ?_⟩
    have hF : F a = some kvs ∨ F a = none := by
      cases e : F a with
      | none => exact .inr rfl
      | some x => have := R.fz a x e; rw [r] at this; cases this; exact .inl rfl
    have hne : HO.frz od kvs ≠ kvs := by rcases hk with ⟨_, rfl⟩ | ⟨_, rfl⟩ <;> exact fun z => nomatch z
    have R1 := R.base.swp (u' := .frz od kvs) r (lw_lock hk hF) (lw_lock hk (.inl r))
    have back : ∀ {σ' : Sg} {δ' : Dl} {H' F' Z' : Hp} {φ' : Nat → List Addr}, RR ⟨swp a kvs (.frz od kvs) F, swp a kvs (.frz od kvs) Z, swp a kvs (.frz od kvs) B.H0, B.P, B.pn⟩ σ' δ' H' F' Z' φ' →
        H' a = some (.frz od kvs) ∧ RR B σ' δ' (upd H' a kvs) (swp a (.frz od kvs) kvs F') (swp a (.frz od kvs) kvs Z') φ' ∧ Lw a F' (swp a (.frz od kvs) kvs F') ∧ Lw a Z' (swp a (.frz od kvs) kvs Z') ∧ Z' a = some (.frz od kvs) := fun {σ' δ' H' F' Z' φ'} R2 => by
      have hZ' : Z' a = some (.frz od kvs) := R2.z0 _ _ (swp_at r)
      have hH' := R2.zh _ _ hZ'
      have hF' : F' a = some (.frz od kvs) ∨ F' a = none := by
        cases e : F' a with
        | none => exact .inr rfl
        | some x => have := R2.fz a x e; rw [hZ'] at this; cases this; exact .inl rfl
      have R3 := R2.swp (u' := kvs) hZ' (lw_unlock hk hF') (lw_unlock hk (.inl hZ'))
      refine ⟨hH', ?_, lw_unlock hk hF', lw_unlock hk (.inl hZ'), hZ'⟩
      rw [← swp_upd hH']
      have e1 : swp a (.frz od kvs) kvs (swp a kvs (.frz od kvs) F) = F := swp_back hF hne
      have e2 : swp a (.frz od kvs) kvs (swp a kvs (.frz od kvs) Z) = Z := swp_back (.inl r) hne
      have R4 : RR ⟨F, Z, swp a (.frz od kvs) kvs (swp a kvs (.frz od kvs) B.H0), B.P, B.pn⟩ σ' δ' (swp a (.frz od kvs) kvs H') (swp a (.frz od kvs) kvs F') (swp a (.frz od kvs) kvs Z') φ' := by
        have R3' : RR ⟨swp a (.frz od kvs) kvs (swp a kvs (.frz od kvs) F), swp a (.frz od kvs) kvs (swp a kvs (.frz od kvs) Z), swp a (.frz od kvs) kvs (swp a kvs (.frz od kvs) B.H0), B.P, B.pn⟩ σ' δ' (swp a (.frz od kvs) kvs H') (swp a (.frz od kvs) kvs F') (swp a (.frz od kvs) kvs Z') φ' := R3
        rw [e1, e2] at R3'
        exact R3'
      refine (R4.h0 (H0 := B.H0) (fun b => swp_none.trans swp_none) fun b n => ?_).unbase R.f0 R.z0 R.newF
      by_cases q : b = a
      · subst q
        refine congrFun (swp_back ?_ hne) b
        cases e : B.H0 b with
        | none => exact .inr rfl
        | some x => have := R.keep b x e n; rw [hH] at this; cases this; exact .inl rfl
      · rw [swp_ne q, swp_ne q]
    rw [← swp_upd hH]
    refine (h ⟨swp a kvs (.frz od kvs) F, swp a kvs (.frz od kvs) Z, swp a kvs (.frz od kvs) B.H0, B.P, B.pn⟩ hB σ _ _ _ φ R1 ⟨a, od, kvs, h1, swp_at r, hk⟩).mono ⟨fun σ' H' q => ?_, fun v H' q => ?_, fun σ' H' q => ?_, fun σ' H' q => ?_⟩
    · obtain ⟨δ', F', Z', φ', R2, k⟩ := q
      obtain ⟨b1, b2, _⟩ := back R2
      exact ⟨b1, δ', _, _, φ', b2, k⟩
    · obtain ⟨w, σ', δ', F', Z', φ', fp, R2, o, fr, k⟩ := q
      obtain ⟨b1, b2, b3, b4, b5⟩ := back R2
      have nfp : a ∉ fp := fun m => by rw [fr.z a m] at b5; cases b5
      exact ⟨b1, w, σ', δ', _, _, φ', fp, b2, o.lw b3 b4 (fun b q o e => by rw [upd_ne q]; exact e) nfp, ⟨fr.nd, fun b m => swp_none.mpr (fr.z b m), fr.d, fun b m => (fr.n b m).imp swp_none.mp id⟩, k⟩
    · obtain ⟨δ', F', Z', φ', R2, k⟩ := q
      obtain ⟨b1, b2, _⟩ := back R2
      exact ⟨b1, δ', _, _, φ', b2, k⟩
    · obtain ⟨δ', F', Z', φ', R2, k⟩ := q
      obtain ⟨b1, b2, _⟩ := back R2
      exact ⟨b1, δ', _, _, φ', b2, k⟩
  · exact h B hB σ H F Z φ R ⟨a, od, kvs, h1, r, hk⟩
section
variable {X : Cx} {L : List Nat} {δ : Dl} {tg iter elt : Expr} {ifs : List Expr} {scope : Scope} {own : List (Str × Nat)} {pos : Pos} {T : Tg} {K : KE} {rest : List Stmt}
/-- y = [.. for k in d ..] on one line, d a dict in slot j -/
theorem setLcL_ {α : Type} {i j : Nat} {w0 : W} {y : Str} {py spos : Pos} (xs : List α) (ea : α → W) (A : α → Dl) (p : α → Bool) (f : α → W) (hδ : δ[j]? = some (some w0)) (hd : w0.isDict = true) (hc : X.calm = true) (nd : X.N.Nodup) (hy : X.N[i]? = some y) (hyl : X.env.scope.names.lookup y = some .local)
    (hsw : swapsWith (.ListComp elt [⟨tg, iter, ifs, 0⟩] scope pos) (some (.Name y py)) spos.line X.env = pure true) (ok : BlkOk X.N X.env.scope scope own)
    (hg : ∀ (s : Shared) (H : Hp) (C : Addr) (cl : List (Str × Addr)) (fp : List Addr), PG (X.blk s H scope (compEnvC scope cl C X.env) fp) tg (tgR X.K T)) (hs : ∀ x, foldedSetIterable iter X.env x = pure x)
    (hi : ItWif (Locked j) X δ tg iter (xs.map ea)) (hv : ∀ v ∈ own.map (·.2), δ[v]? = some none) (hTs : ∀ i ∈ T.is, i ∈ own.map (·.2)) (hA : ∀ x ∈ xs, tgD δ T (ea x) = some (A x)) (ht : Ifs X scope xs A p ifs)
    (he : ∀ s H C cl fp, ∀ x ∈ xs, p x = true → EvO (BX X scope s H C cl fp) (A x) elt (f x)) (hz : xs.length ≤ sizeLine) (hL : i ∉ L) (hl : (δ[i]?).isSome = true)
    (h : WpSs X L (δ.set i (some (.lst ((xs.filter p).map f)))) rest K) : WpSs X L δ (.Assign [.Name y py] (.ListComp elt [⟨tg, iter, ifs, 0⟩] scope pos) spos :: rest) K := by
  obtain ⟨wi, pi, run⟩ := lc_run (P := Locked j) xs ea A p f hi hv hTs hA ht he hz
  exact wcons (ws_lock hδ hd fun B hB σ H F Z φ R hP => PS.sem (ps_setLc hc nd hy hyl hsw pi ok hg (pts_of ht) pe_semB hs) (run B σ H F Z φ _ R hP fun v H' F' Z' fp R' s sf sz o ndp n =>
    ⟨_, F', Z', _, R'.store o (own_fresh R ndp n) (lt_of_some hl) (hB ▸ hL), h⟩))
end
end OV

namespace OV
open PySem PySem.Spec PyProof.Rows L2
/-! ### data of a shape that can be compared -/
mutual
def D.sh : Nat → D → Bool
  | _, .non => true
  | _, .bl _ => true
  | _, .int _ => true
  | _, .str x => PyData.strOk x
  | n + 1, .lst ds => D.shs n ds
  | n + 1, .tup ds => D.shs n ds
  | _, _ => false
def D.shs : Nat → List D → Bool
  | _, [] => true
  | n, d :: ds => D.sh n d && D.shs n ds
end
mutual
theorem sh_ok : ∀ (n : Nat) (d : D), D.sh n d = true → d.nod = true ∧ d.py.canLay0 = true ∧ d.py.depth ≤ n
  | n, .non, _ => ⟨rfl, rfl, Nat.zero_le _⟩
  | n, .bl _, _ => ⟨rfl, rfl, Nat.zero_le _⟩
  | n, .int _, _ => ⟨rfl, rfl, Nat.zero_le _⟩
  | n, .str x, h => ⟨rfl, by cases n <;> exact h, Nat.zero_le _⟩
  | n + 1, .lst ds, h => by
    obtain ⟨h1, h2, h3⟩ := shs_ok n ds h
    exact ⟨h1, h2, by show _ + 1 ≤ n + 1; omega⟩
  | n + 1, .tup ds, h => by
    obtain ⟨h1, h2, h3⟩ := shs_ok n ds h
    exact ⟨h1, h2, by show _ + 1 ≤ n + 1; omega⟩
  | 0, .lst _, h => nomatch h
  | 0, .tup _, h => nomatch h
  | 0, .dk _, h => nomatch h
  | 0, .dt _, h => nomatch h
  | 0, .frl _ _, h => nomatch h
  | n + 1, .dk _, h => nomatch h
  | n + 1, .dt _, h => nomatch h
  | n + 1, .frl _ _, h => nomatch h
theorem shs_ok : ∀ (n : Nat) (ds : List D), D.shs n ds = true → D.nods ds = true ∧ PyData.canLayAll0 (D.pys ds) = true ∧ PyData.depthAll (D.pys ds) ≤ n
  | n, [], _ => ⟨rfl, rfl, Nat.zero_le _⟩
  | n, d :: ds, h => by
    obtain ⟨a, b⟩ := Bool.and_eq_true_iff.mp h
    obtain ⟨h1, h2, h3⟩ := sh_ok n d a
    obtain ⟨g1, g2, g3⟩ := shs_ok n ds b
    exact ⟨Bool.and_eq_true_iff.mpr ⟨h1, g1⟩, Bool.and_eq_true_iff.mpr ⟨h2, g2⟩, by show max _ _ ≤ n; omega⟩
end
theorem shaped_of {n : Nat} {d : D} (h : D.sh n d = true) (hn : n ≤ 64) : SeqAt.shaped d.py = true := by
  obtain ⟨_, h2, h3⟩ := sh_ok n d h
  exact Bool.and_eq_true_iff.mpr ⟨h2, decide_eq_true (by omega)⟩
theorem shs_map {α : Type} {f : α → D} {n : Nat} : ∀ {xs : List α}, (∀ x ∈ xs, D.sh n (f x) = true) → D.shs n (xs.map f) = true
  | [], _ => rfl
  | x :: xs, h => Bool.and_eq_true_iff.mpr ⟨h x List.mem_cons_self, shs_map fun y m => h y (List.mem_cons_of_mem _ m)⟩
theorem sh_lst {α : Type} {f : α → D} {n : Nat} {xs : List α} (h : ∀ x ∈ xs, D.sh n (f x) = true) : D.sh (n + 1) (.lst (xs.map f)) = true := shs_map h
mutual
theorem sh_mono : ∀ {n m : Nat} {d : D}, n ≤ m → D.sh n d = true → D.sh m d = true
  | n, m, .non, _, _ => by cases m <;> rfl
  | n, m, .bl _, _, _ => by cases m <;> rfl
  | n, m, .int _, _, _ => by cases m <;> rfl
  | n, m, .str x, _, h => by cases m <;> cases n <;> exact h
  | n + 1, m + 1, .lst ds, l, h => shs_mono (Nat.le_of_succ_le_succ l) h
  | n + 1, m + 1, .tup ds, l, h => shs_mono (Nat.le_of_succ_le_succ l) h
  | 0, _, .lst _, _, h => nomatch h
  | 0, _, .tup _, _, h => nomatch h
  | n + 1, 0, .lst _, l, _ => nomatch l
  | n + 1, 0, .tup _, l, _ => nomatch l
  | 0, _, .dk _, _, h => nomatch h
  | 0, _, .dt _, _, h => nomatch h
  | 0, _, .frl _ _, _, h => nomatch h
  | n + 1, _, .dk _, _, h => nomatch h
  | n + 1, _, .dt _, _, h => nomatch h
  | n + 1, _, .frl _ _, _, h => nomatch h
theorem shs_mono : ∀ {n m : Nat} {ds : List D}, n ≤ m → D.shs n ds = true → D.shs m ds = true
  | _, _, [], _, _ => rfl
  | _, _, _ :: _, l, h => Bool.and_eq_true_iff.mpr ⟨sh_mono l (Bool.and_eq_true_iff.mp h).1, shs_mono l (Bool.and_eq_true_iff.mp h).2⟩
end
/-- what == says of two data -/
def D.eq (d e : D) : Bool := PyData.eqv d.py e.py
theorem eq_refl {n : Nat} {d : D} (h : D.sh n d = true) : D.eq d d = true := SeqAt.eqv_refl _ (sh_ok n d h).2.1
/-- an encoding that == tells apart -/
def EqE {α : Type} [DecidableEq α] (f : α → D) : Prop := ∀ a b, D.eq (f a) (f b) = decide (a = b)
theorem eqe_int : EqE D.int := fun a b => by show (a == b) = _; exact Bool.beq_eq_decide_eq a b
def dOpt : Option Int → D
  | none => .non
  | some n => .int n
theorem eqe_opt : EqE dOpt := fun a b => by
  cases a <;> cases b
  · rfl
  · rfl
  · rfl
  · rename_i a b
    show (a == b) = _
    rw [Bool.beq_eq_decide_eq]
    by_cases h : a = b
    · subst h; simp
    · rw [decide_eq_false h, decide_eq_false (fun z => h (Option.some.inj z))]
theorem sh_opt (n : Nat) (a : Option Int) : D.sh n (dOpt a) = true := by cases a <;> cases n <;> rfl
theorem eqe_lst {α : Type} [DecidableEq α] {f : α → D} (h : EqE f) : EqE fun xs : List α => .lst (xs.map f) := by
  intro a b
  show PyData.eqvAll (D.pys (a.map f)) (D.pys (b.map f)) = _
  induction a generalizing b with
  | nil => cases b with
    | nil => rfl
    | cons y b => rfl
  | cons x a ih => cases b with
    | nil => rfl
    | cons y b =>
      show (PyData.eqv (f x).py (f y).py && PyData.eqvAll (D.pys (a.map f)) (D.pys (b.map f))) = _
      rw [ih b, show PyData.eqv (f x).py (f y).py = decide (x = y) from h x y]
      by_cases h1 : x = y
      · subst h1
        by_cases h2 : a = b
        · subst h2; simp
        · rw [decide_eq_false h2, decide_eq_false (fun z => h2 (List.cons.inj z).2), Bool.and_false]
      · rw [decide_eq_false h1, decide_eq_false (fun z => h1 (List.cons.inj z).1), Bool.false_and]
theorem eqe_pair {α β : Type} [DecidableEq α] [DecidableEq β] {f : α → D} {g : β → D} (hf : EqE f) (hg : EqE g) : EqE fun p : α × β => .tup [f p.1, g p.2] := by
  intro a b
  show (PyData.eqv (f a.1).py (f b.1).py && (PyData.eqv (g a.2).py (g b.2).py && true)) = _
  rw [show PyData.eqv (f a.1).py (f b.1).py = decide (a.1 = b.1) from hf _ _, show PyData.eqv (g a.2).py (g b.2).py = decide (a.2 = b.2) from hg _ _, Bool.and_true]
  obtain ⟨a1, a2⟩ := a
  obtain ⟨b1, b2⟩ := b
  by_cases h1 : a1 = b1
  · by_cases h2 : a2 = b2
    · subst h1 h2; simp
    · rw [decide_eq_false h2, decide_eq_false (fun z => h2 (Prod.mk.inj z).2), Bool.and_false]
  · rw [decide_eq_false h1, decide_eq_false (fun z => h1 (Prod.mk.inj z).1), Bool.false_and]
section
variable {X : Cx} {w1 w2 : W} {d1 d2 : D} {n m : Nat}
theorem oeq (hu : X.A.units + 64 < cLine) (n : Nat) (p1 : w1.pl = true) (p2 : w2.pl = true) (s1 : D.sh n w1.er = true) (s2 : D.sh n w2.er = true) (hn : n ≤ 64) : OpW X (compareOp .Eq) w1 w2 (.bl (D.eq w1.er w2.er)) :=
  ow_eq hu p1 p2 (sh_ok n _ s1).1 (sh_ok n _ s2).1 (shaped_of s1 hn) (shaped_of s2 hn)
theorem one_ (hu : X.A.units + 64 < cLine) (n : Nat) (p1 : w1.pl = true) (p2 : w2.pl = true) (s1 : D.sh n w1.er = true) (s2 : D.sh n w2.er = true) (hn : n ≤ 64) : OpW X (compareOp .NotEq) w1 w2 (.bl (!D.eq w1.er w2.er)) :=
  ow_ne hu p1 p2 (sh_ok n _ s1).1 (sh_ok n _ s2).1 (shaped_of s1 hn) (shaped_of s2 hn)
variable {L : List Nat} {δ : Dl} {a b : Expr} {pos : Pos} {w wk : W} {o' : Option W} {k : Bool}
theorem tdin (hu : X.A.units + 1 < cLine) (ha : EvV X δ a wk) (hb : EvV X δ b w) (hg : w.dg wk = some o') (hk : o'.isSome = k) (hm : behindInMarks .In b = false := by rfl) : EvT X δ (.Compare a [.In] [b] pos) k := hk ▸ et_din hu ha hb hg hm
theorem tdnotin (hu : X.A.units + 1 < cLine) (ha : EvV X δ a wk) (hb : EvV X δ b w) (hg : w.dg wk = some o') (hk : (!o'.isSome) = k) (hm : behindInMarks .NotIn b = false := by rfl) : EvT X δ (.Compare a [.NotIn] [b] pos) k := hk ▸ et_dnotin hu ha hb hg hm
theorem vdin (hu : X.A.units + 1 < cLine) (ha : EvV X δ a wk) (hb : EvV X δ b w) (hg : w.dg wk = some o') (hk : o'.isSome = k) (hm : behindInMarks .In b = false := by rfl) : EvV X δ (.Compare a [.In] [b] pos) (.fz (.bl k)) := hk ▸ ev_din hu ha hb hg hm
theorem vdnotin (hu : X.A.units + 1 < cLine) (ha : EvV X δ a wk) (hb : EvV X δ b w) (hg : w.dg wk = some o') (hk : (!o'.isSome) = k) (hm : behindInMarks .NotIn b = false := by rfl) : EvV X δ (.Compare a [.NotIn] [b] pos) (.fz (.bl k)) := hk ▸ ev_dnotin hu ha hb hg hm
theorem keysW {α : Type} {tg : Expr} {x : Str} {es : List (Key × D)} {xs : List α} {ea : α → W} (i : Nat) (hδ : δ[i]? = some (some w)) (hw : Lf (.dk es) w) (he : (es.map fun p => W.fz (kD p.1)) = xs.map ea) (hN : X.N[i]? = some x := by rfl) (hv : Vis X.env.scope x := by first | exact Or.inl rfl | exact Or.inr (Or.inl rfl) | exact Or.inr (Or.inr rfl))
    (hd : (x == ("__debug__" : Str)) = false := by decide) (hcd : (x == ("__classdict__" : Str)) = false := by decide) : ItWif (Locked i) X δ tg (.Name x pos) (xs.map ea) := he ▸ itw_keys hN hv hδ hw hd hcd
theorem cwm1 (hc : X.calm = true) {us : List W} {ns : List Int} {m : Int} (hw : w.itL = some us) (l : Lfs (ns.map .int) us) (hm : ns.min? = some m) : CallW X (.builtin "min") [w] (.int m) := by
  have h := List.min?_eq_some_iff.mp hm
  refine cw_min1 hc hw l ?_ h.1 (fun y hy => h.2 y hy)
  cases ns with
  | nil => cases hm
  | cons => simp
theorem isi {t T : String} {x : Str} {tp p : Pos} (hm : X.mg "isinstance" = none) (hmT : X.mg x = none) (ha : EvV X δ a w) (ht : w.ty = some t) (hk : kitB t T = some k) (hbT : bootBuiltins x = some (.type T) := by decide +kernel) (hg : Gl X "isinstance" := by rfl) (hgT : Gl X x := by rfl)
    (hn : x ≠ "__name__" := by decide) (hd : (x == ("__debug__" : Str)) = false := by decide)
    (he : starEach [a, .Name x tp] X.env = (false, eval a X.env) :: starEach [.Name x tp] X.env := by rfl) (he2 : starEach [.Name x tp] X.env = (false, eval (.Name x tp) X.env) :: starEach [] X.env := by rfl) (hpl : (backTo pos (starEach [.Name x tp] X.env)).any (·.1) = false := by rfl) :
    EvV X δ (.Call (.Name "isinstance" p) [a, .Name x tp] [] pos) (.fz (.bl k)) := ev_isi hg hm ha ht (pe_bltn hgT hmT hbT rfl hn hd) hk he he2 hpl
theorem _root_.OV.EvO.fzm {α : Type} {e : Expr} {xs : List α} {f : α → D} (h : EvO X δ e (.lst (xs.map fun x => .fz (f x)))) : EvV X δ e (.fz (.lst (xs.map f))) := by
  have := h.fz (pls_map _ (fun _ => rfl) _) (nbs_map _ (fun _ => rfl) _)
  rw [show (W.lst (xs.map fun x => W.fz (f x))).er = D.lst (W.ers (xs.map fun x => W.fz (f x))) from rfl, ers_map] at this
  exact this
theorem ptg2 {x y : Str} {p1 p2 : Pos} {k i j : Nat} (nd : X.N.Nodup) (hi : X.N[i]? = some x) (hj : X.N[j]? = some y) (hx : Loc X.env.scope x := by first | exact .inl rfl | exact .inr rfl) (hy : Loc X.env.scope y := by first | exact .inl rfl | exact .inr rfl)
    (hfx : X.fn x = true ∨ X.env.scope.names.lookup x = some .local := by first | exact .inl rfl | exact .inr rfl) (hfy : X.fn y = true ∨ X.env.scope.names.lookup y = some .local := by first | exact .inl rfl | exact .inr rfl) (hc : X.calm = true := by rfl)
    (hs1 : (assignEach [.Name x p1, .Name y p2] X.env).map (·.2) = assign (.Name x p1) X.env :: (assignEach [.Name y p2] X.env).map (·.2) := by rfl) (hs2 : (assignEach [.Name y p2] X.env).map (·.2) = assign (.Name y p2) X.env :: (assignEach [] X.env).map (·.2) := by rfl)
    (hn : (assignEach [.Name x p1, .Name y p2] X.env).length = 2 := by rfl) (hst : (assignEach [.Name x p1, .Name y p2] X.env).findIdx? (·.1) = none := by rfl) : PTg X (.Tuple [.Name x p1, .Name y p2] k pos) (.many [i, j]) :=
  ptg_many hc (pgn_cons nd hi hx hfx (pgn_cons nd hj hy hfy pgn_nil hs2) hs1) hn hst
theorem isN_ {d : D} : OpW X (compareOp .Is) (.fz d) (.fz .non) (.bl (D.isN d)) := ow_isN .fz rfl
theorem notN_ {d : D} : OpW X (compareOp .IsNot) (.fz d) (.fz .non) (.bl (!D.isN d)) := ow_notN .fz rfl
theorem co_listm {α : Type} (xs : List α) (f : α → D) : CallO X (.type "list") [.fz (.lst (xs.map f))] (.lst (xs.map fun x => .fz (f x))) := by
  have := co_list (X := X) (w := .fz (.lst (xs.map f))) rfl (fun u hu => by obtain ⟨_, _, rfl⟩ := List.mem_map.mp hu; rfl)
  rw [List.map_map] at this
  exact this
theorem eqq {d1 d2 : D} (hu : X.A.units + 64 < cLine) (n : Nat) (s1 : D.sh n d1 = true) (s2 : D.sh n d2 = true) (hk : D.eq d1 d2 = k) (hn : n ≤ 64 := by decide) : OpW X (compareOp .Eq) (.fz d1) (.fz d2) (.bl k) := hk ▸ oeq hu n rfl rfl s1 s2 hn
theorem neq {d1 d2 : D} (hu : X.A.units + 64 < cLine) (n : Nat) (s1 : D.sh n d1 = true) (s2 : D.sh n d2 = true) (hk : (!D.eq d1 d2) = k) (hn : n ≤ 64 := by decide) : OpW X (compareOp .NotEq) (.fz d1) (.fz d2) (.bl k) := hk ▸ one_ hu n rfl rfl s1 s2 hn
end
end OV

namespace OV
open PySem PySem.Spec PyProof.Rows L2
def topS (i : Nat) : Stmt := PySem.Challenge.pw_overpasses_k33_answers_by_labels.main.body.getD i (.Pass ⟨0, 0, 0, 0⟩)
abbrev sBest : Stmt := topS 1
abbrev sLabelAnswer : Stmt := topS 2
abbrev sDraws : Stmt := topS 4
abbrev sAt : Stmt := topS 5
theorem scDraws : FnScope ["_law_script", "_law_draws_here", "_law_k", "_law_rest", "_law_turn", "_law_mixed"] ["_law_script"] (defScope sDraws) := ⟨rfl, rfl, rfl, by decide +kernel, rfl, by decide +kernel, by decide +kernel⟩
theorem scAt : FnScope ["_law_draws_here", "_law_k", "_law_many"] ["_law_draws_here", "_law_k", "_law_many"] (defScope sAt) := ⟨rfl, rfl, rfl, by decide +kernel, rfl, by decide +kernel, by decide +kernel⟩
def dInts (ns : List Int) : D := .lst (ns.map .int)
def atF (ns : List Int) (k m : Int) : Int := if k < ns.length then ns.getD k.toNat 0 % m else 0
def spAt : SpW := fun ws r => ∃ ns k m, ws = [.fz (dInts ns), .fz (.int k), .fz (.int m)] ∧ 0 ≤ k ∧ 0 < m ∧ r = .ok (.fz (.int (atF ns k m)))
theorem at_ints {ns : List Int} {k : Int} (h0 : 0 ≤ k) (h : k < ns.length) : atI ((ns.map D.int).map W.fz) k = some (.fz (.int (ns.getD k.toNat 0))) := by
  obtain ⟨j, rfl⟩ := Int.eq_ofNat_of_zero_le h0
  have hj : j < ns.length := by omega
  refine atI_nat ?_
  rw [List.getElem?_map, List.getElem?_map, List.getElem?_eq_getElem hj]
  show some (W.fz (D.int ns[j])) = _
  rw [show ((j : Int)).toNat = j from rfl, List.getD_eq_getElem?_getD, List.getElem?_eq_getElem hj]
  rfl
/-! _law_draws -/
def drawIn (s : List Int × Int) : List Int × Int := if 0 < s.2 then (s.1 ++ [s.2 % 65536], s.2 / 65536) else s
def mixA (r : Int) (k : Nat) : Int := (r * 48271 + (0 + (k : Int) + 1) * 69621) % 2147483647
def mixB (m : Int) (k : Nat) : Int := (m * 16807 + 11 * (0 + (k : Int)) + 5) % 2147483629
def drawRow (acc : List Int) (k : Nat) (r : Int) : List Int :=
  if 1000000000000000000 ≤ r then ((List.range 60).foldl (fun s _ => drawIn s) (acc, r)).1
  else acc ++ [mixB (mixA r k) k % 65536] ++ [mixB (mixA r k) k / 65536 % 32768]
def drawStep (ns : List Int) (acc : List Int) (k : Nat) : List Int :=
  drawRow acc k (if ns.getD k 0 < 0 then - ns.getD k 0 else ns.getD k 0)
def drawsF (ns : List Int) : List Int := (List.range (min 63 ns.length)).foldl (drawStep ns) []
def spDraws (Kf : PySem.W.Frag) : SpW := fun ws r => ∃ ns, ws = [.fz (.frl Kf (ns.map .int))] ∧ ns.length ≤ 63 ∧ r = .ok (.lst ((drawsF ns).map fun n => .fz (.int n)))
theorem drawIn_len : ∀ (xs : List Nat) (s : List Int × Int), (xs.foldl (fun s _ => drawIn s) s).1.length ≤ s.1.length + xs.length
  | [], s => Nat.le_refl _
  | x :: xs, s => by
    rw [List.foldl_cons]
    refine Nat.le_trans (drawIn_len xs _) ?_
    unfold drawIn
    split <;> simp <;> omega
theorem drawStep_len (ns acc : List Int) (k : Nat) : (drawStep ns acc k).length ≤ acc.length + 60 := by
  unfold drawStep
  generalize (if ns.getD k 0 < 0 then -ns.getD k 0 else ns.getD k 0) = r
  unfold drawRow
  split
  · refine Nat.le_trans (drawIn_len _ _) ?_
    simp
  · simp
theorem draws_len (ns : List Int) : ∀ (xs : List Nat) (acc : List Int), (xs.foldl (drawStep ns) acc).length ≤ acc.length + 60 * xs.length
  | [], acc => by simp
  | x :: xs, acc => by
    rw [List.foldl_cons]
    have h1 := draws_len ns xs (drawStep ns acc x)
    have h2 := drawStep_len ns acc x
    rw [List.length_cons]
    omega
abbrev sIsInt : Stmt := topS 6
abbrev sCommon : Stmt := topS 8
abbrev sLabel : Stmt := topS 9
abbrev sLaw : Stmt := topS 10
theorem scBest : FnScope ["one", "two", "sums", "place"] ["one", "two"] (defScope sBest) := ⟨rfl, rfl, rfl, by decide +kernel, rfl, by decide +kernel, by decide +kernel⟩
theorem scLabelAnswer : FnScope ["forward", "backward"] ["forward", "backward"] (defScope sLabelAnswer) := ⟨rfl, rfl, rfl, by decide +kernel, rfl, by decide +kernel, by decide +kernel⟩
theorem scIsInt : FnScope ["_law_actual"] ["_law_actual"] (defScope sIsInt) := ⟨rfl, rfl, rfl, by decide +kernel, rfl, by decide +kernel, by decide +kernel⟩
/-! best_sum -/
def dkI (es : List (Int × Int)) : D := .dk (es.map fun p => (Sum.inl p.1, .int p.2))
def bestF (one two : List (Int × Int)) : Option Int := ((one.filter fun p => (klook two p.1).isSome).map fun p => (klook one p.1).getD 0 + (klook two p.1).getD 0).min?
def spBest : SpW := fun ws r => ∃ one two, ws = [.bo (dkI one), .bo (dkI two)] ∧ one.length ≤ 1000 ∧ r = .ok (.fz (dOpt (bestF one two)))
theorem klook_dkI (es : List (Int × Int)) (k : Int) : klook (es.map fun p => ((Sum.inl p.1 : Key), D.int p.2)) (Sum.inl k) = (klook es k).map D.int := by
  induction es with
  | nil => rfl
  | cons p es ih =>
    rw [List.map_cons, klook_cons, klook_cons, ih]
    by_cases h : p.1 = k
    · rw [if_pos h, if_pos (by rw [h])]; rfl
    · rw [if_neg h, if_neg (fun z => h (Sum.inl.inj z))]
theorem dg_dkI {w wk : W} {es : List (Int × Int)} {k : Int} (hw : w = .bo (dkI es)) (hk : wk.keyK = some (Sum.inl k)) : w.dg wk = some ((klook es k).map fun n => .bo (.int n)) := by
  subst hw
  show wk.keyK.map (fun k => (klook (es.map fun p => ((Sum.inl p.1 : Key), D.int p.2)) k).map W.bo) = _
  rw [hk]
  show some ((klook (es.map fun p => ((Sum.inl p.1 : Key), D.int p.2)) (Sum.inl k)).map W.bo) = _
  rw [klook_dkI]
  cases klook es k <;> rfl
theorem klook_mem {es : List (Int × Int)} {p : Int × Int} (h : p ∈ es) : (klook es p.1).isSome = true := by
  induction es with
  | nil => cases h
  | cons q es ih =>
    rw [klook_cons]
    split
    · rfl
    · rcases List.mem_cons.mp h with rfl | h
      · rename_i n; exact absurd rfl n
      · exact ih h
section
variable {P : Program} {w0 : World} {Kf : PySem.W.Frag} {mg : Str → Option Value} {base : Heap}
theorem ok_at {k : Nat} {f : Addr} {fd : FuncData} (F : Fun Kf "_law_at" "_law_at" sAt f fd) (mLen : mg "len" = none) (mInt : mg "int" = none) : FnOk P w0 Kf mg base CX0 (k + 1) f fd ["_law_draws_here", "_law_k", "_law_many"] (spOf spAt) := by
  refine fn_mk F scAt (fun ws r h => by obtain ⟨_, _, _, rfl, _⟩ := h; rfl) (by decide) fun cdv A outer s H E hr ws r hS => ?_
  obtain ⟨ns, k, m, rfl, hk, hm, rfl⟩ := hS
  refine wif (tcmp (vl 1) (cb (cw_len rfl) mLen (es_cons (vl 0) evs_nil)) (ow_lt .fz .fz)) (fun e => ?_) (fun e => ?_)
  · have e' : k < ns.length := by simpa using e
    refine wret (ev_bin (ct (cw_int .fz) mInt (es_cons (ev_ixL (vl 0) rfl (vl 1) .fz (at_ints hk e') fun _ _ => rfl) evs_nil)) (vl 2) (ow_mod .fz .fz hm)).toC ⟨rfl, ?_⟩
    unfold atF; rw [if_pos e']
  · have e' : ¬ k < ns.length := by simpa using e
    refine wn (wret ev_int.toC ⟨rfl, ?_⟩)
    unfold atF; rw [if_neg e']
theorem rangePre {n : Nat} {pre post : List Nat} {x : Nat} (e : List.range n = pre ++ x :: post) : x = pre.length ∧ x < n := by
  have h1 : (List.range n)[pre.length]? = some x := by rw [e]; simp
  have h2 : pre.length < n := by
    have := congrArg List.length e
    simp at this
    omega
  rw [List.getElem?_range h2] at h1
  have := Option.some.inj h1
  omega
theorem ok_draws {k : Nat} {f : Addr} {fd : FuncData} (F : Fun Kf "_law_draws" "_law_draws" sDraws f fd) (mRange : mg "range" = none) (mMin : mg "min" = none) (mLen : mg "len" = none) (mAbs : mg "abs" = none) (mInt : mg "int" = none) : FnOk P w0 Kf mg base CX0 (k + 1) f fd ["_law_script"] (spOf (spDraws Kf)) := by
  refine fn_mk F scDraws (fun ws r h => by obtain ⟨_, rfl, _⟩ := h; rfl) (by decide) fun cdv A outer s H E hr ws r hS => ?_
  obtain ⟨ns, rfl, hl, rfl⟩ := hS
  change WpSs _ _ [some _, none, none, none, none, none] _ _
  refine set_ 1 scDraws.nd (eo_lstD ed_nil).toC ?_
  change WpSs _ _ [some _, some (.lst ([].map fun n => .fz (.int n))), none, none, none, none] _ _
  refine fold_ (T := .one 2) (List.range (min 63 ns.length)) (fun k => .fz (.int (k : Int))) (fun acc => [some (.fz (.frl Kf (ns.map .int))), some (.lst (acc.map fun n => .fz (.int n))), none, none, none, none]) (drawStep ns) []
    (ptg_one scDraws.nd rfl (.inl rfl) (.inl rfl)) (rng1 (cb (cw_min2 rfl .fz .fz) mMin (es_cons ev_int (es_cons (cb cw_lenF mLen (es_cons (vl 0) evs_nil)) evs_nil))) .fz ?_ ?_ ?_ mRange) (Fg.refl _) (fun _ => rfl) (fun i m => by cases List.mem_singleton.mp m; exact ⟨rfl, by decide⟩) ?_ ?_
  · simp only [List.length_map]; split <;> omega
  · simp only [List.length_map]; split <;> omega
  · simp only [List.length_map]; split <;> omega
  · intro pre x post hx
    obtain ⟨hx1, hx2⟩ := rangePre hx
    have hx3 : x < ns.length := by omega
    refine ⟨_, rfl, ?_⟩
    generalize hacc : pre.foldl (drawStep ns) [] = acc
    have hal : acc.length ≤ 3780 := by
      have := draws_len ns pre []
      have e := congrArg List.length hx
      rw [hacc] at this
      simp at e
      simp at this
      omega
    have hs : ∀ {n : Nat}, n ≤ 10000 → n < sizeLine := fun h => Nat.lt_of_le_of_lt h (by decide)
    refine set_ 3 scDraws.nd (cb (cw_abs .fz) mAbs (es_cons (ev_ixF (vl 0) (vl 2) .fz (at_ints (ns := ns) (by omega) (by omega)) fun _ _ => rfl) evs_nil)).toC ?_
    unfold drawStep
    rw [show ((x : Int)).toNat = x from rfl]
    generalize (if ns.getD x 0 < 0 then -ns.getD x 0 else ns.getD x 0) = r
    unfold drawRow
    refine wif (tcmp (vl 3) (ev_bin ev_int ev_int (ow_pow .fz .fz ⟨by decide, by decide, by decide⟩)) (ow_ge .fz .fz)) (fun e => ?_) (fun e => ?_)
    · have e' : 1000000000000000000 ≤ r := by simpa using e
      rw [if_pos e']
      refine fold_ (S := List Int × Int) (T := .one 4) (List.range 60) (fun k => .fz (.int (k : Int))) (fun s => [some (.fz (.frl Kf (ns.map .int))), some (.lst (s.1.map fun n => .fz (.int n))), some (.fz (.int x)), some (.fz (.int s.2)), none, none]) (fun s _ => drawIn s) (acc, r)
        (ptg_one scDraws.nd rfl (.inl rfl) (.inl rfl)) (rng1 ev_int .fz rfl (by decide) (by decide) mRange) (Fg.refl _) (fun _ => rfl) (fun i m => by cases List.mem_singleton.mp m; exact ⟨rfl, by decide⟩) ?_ (wn ?_)
      · intro pre y post hy
        refine ⟨_, rfl, ?_⟩
        generalize ht : pre.foldl (fun s _ => drawIn s) (acc, r) = t
        have htl : t.1.length ≤ 3900 := by
          have := drawIn_len pre (acc, r)
          have e := congrArg List.length hy
          rw [ht] at this
          simp at e
          simp at this
          omega
        unfold drawIn
        refine wif (tcmp (vl 3) ev_int (ow_gt .fz .fz)) (fun e => ?_) (fun e => ?_)
        · have e' : 0 < t.2 := by simpa using e
          rw [if_pos e']
          refine append_ 1 rfl (ev_bin (ct (cw_int .fz) mInt (es_cons (vl 3) evs_nil)) ev_int (ow_mod .fz .fz (by decide))).toC ?_ (by rw [List.length_map]; exact hs (by omega))
          refine set_ 3 scDraws.nd (ev_bin (vl 3) ev_int (ow_fdiv .fz .fz ⟨by decide, by decide⟩)).toC (wn (wn ?_))
          refine ⟨.inr rfl, .inr ?_, .inr rfl, .inr rfl, .inl rfl, .inl rfl, trivial⟩
          simp
        · have e' : ¬ 0 < t.2 := by simpa using e
          rw [if_neg e']
          exact wn (wn ⟨.inr rfl, .inr rfl, .inr rfl, .inr rfl, .inl rfl, .inl rfl, trivial⟩)
      · exact wn ⟨.inr rfl, .inr rfl, .inl rfl, .inl rfl, .inl rfl, .inl rfl, trivial⟩
    · have e' : ¬ 1000000000000000000 ≤ r := by simpa using e
      rw [if_neg e']
      refine set_ 5 scDraws.nd (ev_bin (ct (cw_int .fz) mInt (es_cons (ev_bin (ev_bin (vl 3) ev_int (ow_mul .fz .fz (.inr ⟨by decide, by decide⟩))) (ev_bin (ev_bin (vl 2) ev_int (ow_add .fz .fz)) ev_int (ow_mul .fz .fz (.inr ⟨by decide, by decide⟩))) (ow_add .fz .fz)) evs_nil)) ev_int (ow_mod .fz .fz (by decide))).toC ?_
      refine set_ 5 scDraws.nd (ev_bin (ct (cw_int .fz) mInt (es_cons (ev_bin (ev_bin (ev_bin (vl 5) ev_int (ow_mul .fz .fz (.inr ⟨by decide, by decide⟩))) (ev_bin ev_int (vl 2) (ow_mul .fz .fz (.inl ⟨by decide, by decide⟩))) (ow_add .fz .fz)) ev_int (ow_add .fz .fz)) evs_nil)) ev_int (ow_mod .fz .fz (by decide))).toC ?_
      refine append_ 1 rfl (ev_bin (ct (cw_int .fz) mInt (es_cons (vl 5) evs_nil)) ev_int (ow_mod .fz .fz (by decide))).toC ?_ (by rw [List.length_map]; exact hs (by omega))
      refine append_ 1 rfl (ev_bin (ct (cw_int .fz) mInt (es_cons (ev_bin (vl 5) ev_int (ow_fdiv .fz .fz ⟨by decide, by decide⟩)) evs_nil)) ev_int (ow_mod .fz .fz (by decide))).toC (wn (wn ?_)) (by simp; exact hs (by omega))
      refine ⟨.inr rfl, .inr ?_, .inl rfl, .inl rfl, .inl rfl, .inl rfl, trivial⟩
      simp [mixA, mixB]
  · refine wret (ec_move 1 rfl (.inl rfl) rfl) ⟨?_, rfl⟩
    exact nbs_map _ (fun _ => rfl) _

theorem ok_best {k : Nat} {f : Addr} {fd : FuncData} (F : Fun Kf "best_sum" "best_sum" sBest f fd) (mLen : mg "len" = none) (mMin : mg "min" = none) : FnOk P w0 Kf mg base CX0 (k + 1) f fd ["one", "two"] (spOf spBest) := by
  refine fn_mk F scBest (fun ws r h => by obtain ⟨_, _, rfl, _⟩ := h; rfl) (by decide) fun cdv A outer s H E hr ws r hS => ?_
  obtain ⟨one, two, rfl, hl, rfl⟩ := hS
  have hu := hu_of hr
  change WpSs _ _ [some _, some _, none, none] _ _
  refine setLcL_ (T := .one 3) (own := [("place", 3)]) (i := 2) (j := 0) one (fun p => .fz (.int p.1)) (fun p => [some (.bo (dkI one)), some (.bo (dkI two)), none, some (.fz (.int p.1))]) (fun p => (klook two p.1).isSome)
    (fun p => .fz (.int ((klook one p.1).getD 0 + (klook two p.1).getD 0))) rfl rfl rfl scBest.nd rfl rfl (sw_true rfl rfl rfl (by decide +kernel)) (blkOk_by (N := ["one", "two", "sums", "place"]) (sc := defScope sBest) (by decide +kernel))
    (fun _ _ _ _ _ => pg_name (i := 3) scBest.nd rfl (Or.inl rfl)) (fun _ => rfl) ?_ ?_ ?_ (fun _ _ => rfl) (.one fun _ _ _ _ _ p hp => ?_) (fun _ _ _ _ _ p hp h => ?_) (Nat.le_of_lt (Nat.lt_of_le_of_lt hl (by decide))) (by decide) rfl ?_
  · exact keysW 0 rfl .bo (by rw [List.map_map]; rfl)
  · intro v hv; cases List.mem_singleton.mp hv; rfl
  · intro v hv; cases List.mem_singleton.mp hv; exact List.mem_singleton.mpr rfl
  · exact tdin hu (vl 3) (vl 1) (dg_dkI (k := p.1) rfl rfl) Option.isSome_map
  · obtain ⟨n, hn⟩ := Option.isSome_iff_exists.mp (klook_mem hp)
    obtain ⟨m, hm⟩ := Option.isSome_iff_exists.mp h
    rw [hn, hm]
    refine (ev_bin (ev_dget hu (vl 0) (vl 3) ?_ fun _ _ => rfl) (ev_dget hu (vl 1) (vl 3) ?_ fun _ _ => rfl) (ow_add .bo .bo)).toO
    · rw [dg_dkI (k := p.1) rfl rfl, hn]; rfl
    · rw [dg_dkI (k := p.1) rfl rfl, hm]; rfl
  · generalize hns : (one.filter fun p => (klook two p.1).isSome).map (fun p => (klook one p.1).getD 0 + (klook two p.1).getD 0) = ns
    have e1 : ((one.filter fun p => (klook two p.1).isSome).map fun p => W.fz (.int ((klook one p.1).getD 0 + (klook two p.1).getD 0))) = ns.map fun n => .fz (.int n) := by rw [← hns, List.map_map]; rfl
    have e2 : bestF one two = ns.min? := by unfold bestF; rw [hns]
    rw [e1, e2]
    refine wif (tcmp (cb (cw_len rfl) mLen (es_cons (vl 2) evs_nil)) ev_int (oeq hr.units 1 rfl rfl rfl rfl (by decide))) (fun e => ?_) (fun e => ?_)
    · have e' : ns = [] := by
        have := (eqe_int _ _).symm.trans e
        have := of_decide_eq_true this
        rw [List.length_map] at this
        exact List.eq_nil_of_length_eq_zero (by omega)
      subst e'
      exact wret ev_non.toC ⟨rfl, rfl⟩
    · have e' : ns ≠ [] := fun z => by subst z; exact absurd e (by decide)
      obtain ⟨m, hm⟩ : ∃ m, ns.min? = some m := by
        cases h : ns.min? with
        | none => exact absurd (List.min?_eq_none_iff.mp h) e'
        | some m => exact ⟨m, rfl⟩
      rw [hm]
      exact wn (wret (cb (cwm1 (ns := ns) rfl rfl (Lfs.fzm D.int ns) hm) mMin (es_cons (vl 2) evs_nil)).toC ⟨rfl, rfl⟩)
end
end OV

namespace OV
open PySem PySem.Spec PyProof.Rows L2
/-! label_answer -/
def dLab (xs : List (Int × Int)) : D := .lst (xs.map fun p => .tup [.int p.1, .int p.2])
def labF (f b : List (Int × Int)) : Option Int := bestF (kmerge [] f) (kmerge [] b)
def spLab : SpW := fun ws r => ∃ f b, ws = [.bo (dLab f), .bo (dLab b)] ∧ f.length ≤ 1000 ∧ r = .ok (.fz (dOpt (labF f b)))
theorem kput_dkI (es : List (Int × Int)) (k n : Int) : kput (es.map fun p => ((Sum.inl p.1 : Key), W.bo (.int p.2))) (Sum.inl k) (.bo (.int n)) = (kput es k n).map fun p => ((Sum.inl p.1 : Key), W.bo (.int p.2)) := by
  unfold kput
  have e : ((es.map fun p => ((Sum.inl p.1 : Key), W.bo (D.int p.2))).any fun kv => decide (kv.1 = Sum.inl k)) = (es.any fun kv => decide (kv.1 = k)) := by
    rw [List.any_map]
    congr 1
    funext p
    show decide ((Sum.inl p.1 : Key) = Sum.inl k) = decide (p.1 = k)
    by_cases h : p.1 = k
    · rw [decide_eq_true h, decide_eq_true (by rw [h])]
    · rw [decide_eq_false h, decide_eq_false (fun z => h (Sum.inl.inj z))]
  rw [e]
  split
  · rw [List.map_map, List.map_map]
    apply List.map_congr_left
    intro p _
    show (if (Sum.inl p.1 : Key) = Sum.inl k then _ else _) = _
    by_cases h : p.1 = k
    · simp [h]
    · rw [if_neg (fun z => h (Sum.inl.inj z))]; simp [h]
  · rw [List.map_append]; rfl
theorem kmerge_dkI : ∀ (more es : List (Int × Int)), kmerge (es.map fun p => ((Sum.inl p.1 : Key), W.bo (.int p.2))) (more.map fun p => ((Sum.inl p.1 : Key), W.bo (.int p.2))) = (kmerge es more).map fun p => ((Sum.inl p.1 : Key), W.bo (.int p.2))
  | [], es => rfl
  | p :: more, es => by
    show kmerge (kput _ _ _) (more.map _) = _
    rw [kput_dkI, kmerge_dkI more]
    rfl
theorem kput_len {κ α : Type} [DecidableEq κ] (es : List (κ × α)) (k : κ) (a : α) : (kput es k a).length ≤ es.length + 1 := by
  unfold kput; split <;> simp
theorem kmerge_len {κ α : Type} [DecidableEq κ] : ∀ (more es : List (κ × α)), (kmerge es more).length ≤ es.length + more.length
  | [], es => Nat.le_refl _
  | p :: more, es => by
    have h1 := kmerge_len more (kput es p.1 p.2)
    have h2 := kput_len es p.1 p.2
    show (kmerge (kput es p.1 p.2) more).length ≤ _
    rw [List.length_cons]; omega
/-! _law_is_integer -/
def isIntF : D → Bool
  | .int _ => true
  | _ => false
def spIsInt : SpW := fun ws r => ∃ d t, ws = [.bo d] ∧ d.ty = some t ∧ r = .ok (.fz (.bl (isIntF d)))
section
variable {P : Program} {w0 : World} {Kf : PySem.W.Frag} {mg : Str → Option Value} {base : Heap}
theorem ok_lab {k : Nat} {f fB : Addr} {fd fdB : FuncData} (F : Fun Kf "label_answer" "label_answer" sLabelAnswer f fd) (FB : Fun Kf "best_sum" "best_sum" sBest fB fdB) (bB : Binds Kf fdB ["one", "two"] []) (gB : mg "best_sum" = some (.ref fB))
    (G : FnOk P w0 Kf mg base CX0 k fB fdB ["one", "two"] (spOf spBest)) (mDict : mg "dict" = none) : FnOk P w0 Kf mg base CX0 (k + 1) f fd ["forward", "backward"] (spOf spLab) := by
  refine fn_mk F scLabelAnswer (fun ws r h => by obtain ⟨_, _, rfl, _⟩ := h; rfl) (by decide) fun cdv A outer s H E hr ws r hS => ?_
  obtain ⟨ff, bb, rfl, hl, rfl⟩ := hS
  change WpSs _ _ [some _, some _] _ _
  have hd : ∀ (x : List (Int × Int)), CallO (cxOf CX0 P w0 Kf mg base ["forward", "backward"] "label_answer" (defScope sLabelAnswer) f cdv A outer s H E).nox (.type "dict") [.bo (dLab x)] (.dk ((kmerge [] x).map fun p => ((Sum.inl p.1 : Key), W.bo (.int p.2)))) := fun x => by
    have := co_dictB (X := (cxOf CX0 P w0 Kf mg base ["forward", "backward"] "label_answer" (defScope sLabelAnswer) f cdv A outer s H E).nox) rfl (ks := x.map fun p => ((Sum.inl p.1 : Key), D.int p.2))
    rw [List.map_map, List.map_map] at this
    rw [← kmerge_dkI]
    exact this
  have er : ∀ x : List (Int × Int), (W.dk (x.map fun p => ((Sum.inl p.1 : Key), W.bo (.int p.2)))).er = dkI x := fun x => by
    show D.dk (W.erk _) = D.dk _
    congr 1
    induction x with
    | nil => rfl
    | cons p x ih => show (_, _) :: W.erk _ = (_, _) :: _; rw [ih]; rfl
  have pl : ∀ x : List (Int × Int), (W.dk (x.map fun p => ((Sum.inl p.1 : Key), W.bo (.int p.2)))).pl = true := fun x => by
    show W.plk _ = true
    induction x with
    | nil => rfl
    | cons p x ih => exact ih
  refine wret (eo_call G hr (by rfl) gB FB.kp bB pass0 (el_bo ((ctO (hd ff) mDict (es_cons (vl 0) evs_nil)).toV) (pl _) (er _) (el_bo ((ctO (hd bb) mDict (es_cons (vl 1) evs_nil)).toV) (pl _) (er _) el_nil rfl) rfl) ⟨kmerge [] ff, kmerge [] bb, rfl, ?_, rfl⟩).toC ⟨rfl, rfl⟩
  have := kmerge_len ff ([] : List (Int × Int))
  simp at this
  omega
theorem ok_isInt {k : Nat} {f : Addr} {fd : FuncData} (F : Fun Kf "_law_is_integer" "_law_is_integer" sIsInt f fd) (mIs : mg "isinstance" = none) (mInt : mg "int" = none) (mBool : mg "bool" = none) : FnOk P w0 Kf mg base CX0 (k + 1) f fd ["_law_actual"] (spOf spIsInt) := by
  refine fn_mk F scIsInt (fun ws r h => by obtain ⟨_, _, rfl, _⟩ := h; rfl) (by decide) fun cdv A outer s H E hr ws r hS => ?_
  obtain ⟨d, t, rfl, ht, rfl⟩ := hS
  change WpSs _ _ [some _] _ _
  have key : ∀ k1 k2, kitB t "int" = some k1 → kitB t "bool" = some k2 → (k1 && !k2) = isIntF d → WpSs (cxOf CX0 P w0 Kf mg base ["_law_actual"] "_law_is_integer" (defScope sIsInt) f cdv A outer s H E).nox [] [some (.bo d)] (defBody sIsInt) { nx := fun _ => Out.ok (.fz (.bl (isIntF d))) = .ok (.fz .non), rt := fun w _ => w.nb = true ∧ Out.ok (.fz (.bl (isIntF d))) = .ok w } := fun k1 k2 h1 h2 e => by
    rw [← e]
    exact wret (ev_and (isi (w := .bo d) mIs mInt (vl 0) ht h1) fun _ => ev_one (ev_not (isi (w := .bo d) mIs mBool (vl 0) ht h2))).toC ⟨rfl, rfl⟩
  cases d <;> cases ht
  · exact key false false (by decide +kernel) (by decide +kernel) rfl
  · exact key true true (by decide +kernel) (by decide +kernel) rfl
  · exact key true false (by decide +kernel) (by decide +kernel) rfl
  · exact key false false (by decide +kernel) (by decide +kernel) rfl
  · exact key false false (by decide +kernel) (by decide +kernel) rfl
  · exact key false false (by decide +kernel) (by decide +kernel) rfl
end
end OV

namespace OV
open PySem PySem.Spec PyProof.Rows L2
theorem scCommon : FnScope ["_law_forward", "_law_backward", "_law_best", "_law_x", "_law_there", "_law_y", "_law_back"] ["_law_forward", "_law_backward"] (defScope sCommon) := ⟨rfl, rfl, rfl, by decide +kernel, rfl, by decide +kernel, by decide +kernel⟩
theorem scLabel : FnScope ["_law_draws_here", "_law_first", "_law_label_here", "_law_place", "_law_k"] ["_law_draws_here", "_law_first"] (defScope sLabel) := ⟨rfl, rfl, rfl, by decide +kernel, rfl, by decide +kernel, by decide +kernel⟩
def better (best : Option Int) (v : Int) : Option Int := match best with
  | none => some v
  | some b => if v < b then some v else some b
def commIn (p : Int × Int) (best : Option Int) (q : Int × Int) : Option Int := if p.1 = q.1 then better best (p.2 + q.2) else best
def commF (f b : List (Int × Int)) : Option Int := f.foldl (fun best p => b.foldl (commIn p) best) none
def spComm : SpW := fun ws r => ∃ f b, ws = [.fz (dLab f), .fz (dLab b)] ∧ r = .ok (.fz (dOpt (commF f b)))
def labelStep (ns : List Int) (first : Int) (s : List (Int × Int) × Int) (k : Nat) : List (Int × Int) × Int :=
  let pl := s.2 + atF ns (first + 1 + 2 * k) 3 + (if 0 < (k : Int) then 1 else 0)
  (s.1 ++ [(pl, atF ns (first + 2 + 2 * k) (if atF ns first 2 = 0 then 5 else 2000000))], pl)
def labelF (ns : List Int) (first : Int) : List (Int × Int) := ((List.range (atF ns first 9).toNat).foldl (labelStep ns first) ([], 0)).1
def spLabel : SpW := fun ws r => ∃ ns first, ws = [.fz (dInts ns), .fz (.int first)] ∧ 0 ≤ first ∧ r = .ok (.lst ((labelF ns first).map fun p => .fz (.tup [.int p.1, .int p.2])))
theorem atF_lt {ns : List Int} {k m : Int} (hm : 0 < m) : 0 ≤ atF ns k m ∧ atF ns k m < m := by
  unfold atF
  split
  · exact ⟨Int.emod_nonneg _ (by omega), Int.emod_lt_of_pos _ hm⟩
  · omega
section
variable {P : Program} {w0 : World} {Kf : PySem.W.Frag} {mg : Str → Option Value} {base : Heap}
theorem ok_comm {k : Nat} {f : Addr} {fd : FuncData} (F : Fun Kf "_law_common" "_law_common" sCommon f fd) : FnOk P w0 Kf mg base CX0 (k + 1) f fd ["_law_forward", "_law_backward"] (spOf spComm) := by
  refine fn_mk F scCommon (fun ws r h => by obtain ⟨_, _, rfl, _⟩ := h; rfl) (by decide) fun cdv A outer s H E hr ws r hS => ?_
  obtain ⟨ff, bb, rfl, rfl⟩ := hS
  change WpSs _ _ [some _, some _, none, none, none, none, none] _ _
  have nd := scCommon.nd
  refine set_ 2 nd ev_non.toC ?_
  refine fold_ (T := .many [3, 4]) ff (fun p => .fz (.tup [.int p.1, .int p.2])) (fun best => [some (.fz (dLab ff)), some (.fz (dLab bb)), some (.fz (dOpt best)), none, none, none, none]) (fun best p => bb.foldl (commIn p) best) none
    (ptg2 nd rfl rfl) (itw_list (vl 0) (by show some (List.map _ (List.map _ _)) = _; rw [List.map_map]; rfl)) (Fg.refl _) (fun _ => rfl) (fun i m => by simp [Tg.is] at m; rcases m with rfl | rfl <;> exact ⟨rfl, by decide⟩) ?_ ?_
  · intro pre p post hp
    refine ⟨_, rfl, ?_⟩
    generalize pre.foldl (fun best p => bb.foldl (commIn p) best) none = best0
    refine fold_ (T := .many [5, 6]) bb (fun q => .fz (.tup [.int q.1, .int q.2])) (fun best => [some (.fz (dLab ff)), some (.fz (dLab bb)), some (.fz (dOpt best)), some (.fz (.int p.1)), some (.fz (.int p.2)), none, none]) (commIn p) best0
      (ptg2 nd rfl rfl) (itw_list (vl 1) (by show some (List.map _ (List.map _ _)) = _; rw [List.map_map]; rfl)) (Fg.refl _) (fun _ => rfl) (fun i m => by simp [Tg.is] at m; rcases m with rfl | rfl <;> exact ⟨rfl, by decide⟩) ?_ (wn ?_)
    · intro pre q post hq
      refine ⟨_, rfl, ?_⟩
      generalize pre.foldl (commIn p) best0 = best
      have fin : ∀ v, commIn p best q = v → Fg [some (.fz (dLab ff)), some (.fz (dLab bb)), some (.fz (dOpt v)), some (.fz (.int p.1)), some (.fz (.int p.2)), some (.fz (.int q.1)), some (.fz (.int q.2))] [some (.fz (dLab ff)), some (.fz (dLab bb)), some (.fz (dOpt (commIn p best q))), some (.fz (.int p.1)), some (.fz (.int p.2)), none, none] := fun v e => by
        rw [e]; exact ⟨.inr rfl, .inr rfl, .inr rfl, .inr rfl, .inr rfl, .inl rfl, .inl rfl, trivial⟩
      refine wif (k := decide (p.1 = q.1) && (D.isN (dOpt best) || decide (p.2 + q.2 < best.getD 0))) (EvW.t (ew_and ((eqe_int p.1 q.1) ▸ tcmp (vl 3) (vl 5) (oeq hr.units 1 rfl rfl rfl rfl (by decide))) fun _ => ew_and1 (EvW.t (ew_or (tcmp (vl 2) ev_non isN_) fun h => ew_or1 ?_)))) (fun e => ?_) (fun e => ?_)
      · cases best with
        | none => cases h
        | some b => exact tcmp (ev_bin (vl 4) (vl 6) (ow_add .fz .fz)) (vl 2) (ow_lt .fz .fz)
      · have e1 : commIn p best q = some (p.2 + q.2) := by
          unfold commIn better
          cases best with
          | none =>
            have : p.1 = q.1 := by simpa [dOpt, D.isN] using e
            rw [if_pos this]
          | some b =>
            have : p.1 = q.1 ∧ p.2 + q.2 < b := by simpa [dOpt, D.isN] using e
            rw [if_pos this.1]; exact if_pos this.2
        exact set_ 2 nd (ev_bin (vl 4) (vl 6) (ow_add .fz .fz)).toC (wn (wn (fin _ e1)))
      · have e1 : commIn p best q = best := by
          unfold commIn better
          cases best with
          | none =>
            have : ¬ p.1 = q.1 := by simpa [dOpt, D.isN] using e
            rw [if_neg this]
          | some b =>
            have : p.1 = q.1 → ¬ p.2 + q.2 < b := by simpa [dOpt, D.isN] using e
            by_cases h : p.1 = q.1
            · rw [if_pos h]; exact if_neg (this h)
            · rw [if_neg h]
        exact wn (wn (fin _ e1))
    · exact ⟨.inr rfl, .inr rfl, .inr rfl, .inl rfl, .inl rfl, .inl rfl, .inl rfl, trivial⟩
  · exact wret (vl 2).toC ⟨rfl, rfl⟩
theorem ok_label {k : Nat} {f fA : Addr} {fd fdA : FuncData} (F : Fun Kf "_law_label" "_law_label" sLabel f fd) (FA : Fun Kf "_law_at" "_law_at" sAt fA fdA) (bA : Binds Kf fdA ["_law_draws_here", "_law_k", "_law_many"] []) (gA : mg "_law_at" = some (.ref fA))
    (G : FnOk P w0 Kf mg base CX0 k fA fdA ["_law_draws_here", "_law_k", "_law_many"] (spOf spAt)) (mRange : mg "range" = none) (mInt : mg "int" = none) : FnOk P w0 Kf mg base CX0 (k + 1) f fd ["_law_draws_here", "_law_first"] (spOf spLabel) := by
  refine fn_mk F scLabel (fun ws r h => by obtain ⟨_, _, rfl, _⟩ := h; rfl) (by decide) fun cdv A outer s H E hr ws r hS => ?_
  obtain ⟨ns, first, rfl, h0, rfl⟩ := hS
  change WpSs _ _ [some _, some _, none, none, none] _ _
  have nd := scLabel.nd
  refine set_ 2 nd (eo_lstD ed_nil).toC (set_ 3 nd ev_int.toC ?_)
  have b9 := atF_lt (ns := ns) (k := first) (m := 9) (by decide)
  have b2 := atF_lt (ns := ns) (k := first) (m := 2) (by decide)
  refine fold_ (S := List (Int × Int) × Int) (T := .one 4) (List.range (atF ns first 9).toNat) (fun k => .fz (.int (k : Int))) (fun s => [some (.fz (dInts ns)), some (.fz (.int first)), some (.lst (s.1.map fun p => .fz (.tup [.int p.1, .int p.2]))), some (.fz (.int s.2)), none]) (labelStep ns first) ([], 0)
    (ptg_one nd rfl (.inl rfl) (.inl rfl)) (rng1 (eo_call G hr (by rfl) gA FA.kp bA pass0 (el_fz (vl 0) (el_fz (vl 1) (el_fz ev_int el_nil rfl) rfl) rfl) ⟨ns, first, 9, rfl, h0, by decide, rfl⟩).toV .fz rfl (by omega) (by omega) mRange) (Fg.refl _) (fun _ => rfl) (fun i m => by cases List.mem_singleton.mp m; exact ⟨rfl, by decide⟩) ?_ ?_
  · intro pre x post hx
    obtain ⟨hx1, hx2⟩ := rangePre hx
    refine ⟨_, rfl, ?_⟩
    have hlen : ∀ (xs : List Nat) (s : List (Int × Int) × Int), (xs.foldl (labelStep ns first) s).1.length = s.1.length + xs.length := by
      intro xs
      induction xs with
      | nil => intro s; rfl
      | cons x xs ih => intro s; rw [List.foldl_cons, ih]; simp [labelStep]; omega
    have hl := hlen pre ([], 0)
    generalize pre.foldl (labelStep ns first) ([], 0) = t at hl ⊢
    refine set_ 3 nd (ev_bin (ev_bin (vl 3) (eo_call G hr (by rfl) gA FA.kp bA pass0 (el_fz (vl 0) (el_fz (ev_bin (ev_bin (vl 1) ev_int (ow_add .fz .fz)) (ev_bin ev_int (vl 4) (ow_mul .fz .fz (.inl ⟨by decide, by decide⟩))) (ow_add .fz .fz)) (el_fz ev_int el_nil rfl) rfl) rfl) ⟨ns, _, 3, rfl, by omega, by decide, rfl⟩).toV (ow_add .fz .fz))
      (ct (cw_intB (n := decide (0 < (x : Int))) .fz) mInt (es_cons (cmp (vl 4) ev_int (ow_gt .fz .fz)) evs_nil)) (ow_add .fz .fz)).toC ?_
    refine append_ 2 rfl (ev_tup (ed_cons (vl 3) (ed_cons (eo_call G hr (by rfl) gA FA.kp bA pass0 (el_fz (vl 0) (el_fz (ev_bin (ev_bin (vl 1) ev_int (ow_add .fz .fz)) (ev_bin ev_int (vl 4) (ow_mul .fz .fz (.inl ⟨by decide, by decide⟩))) (ow_add .fz .fz))
      (el_fz (ev_ixL (u := .fz (.int (if atF ns first 2 = 0 then 5 else 2000000))) (ev_lst (ed_cons ev_int (ed_cons ev_int ed_nil))) rfl (eo_call G hr (by rfl) gA FA.kp bA pass0 (el_fz (vl 0) (el_fz (vl 1) (el_fz ev_int el_nil rfl) rfl) rfl) ⟨ns, first, 2, rfl, h0, by decide, rfl⟩).toV .fz ?ix fun _ _ => rfl) el_nil rfl) rfl) rfl) ⟨ns, _, _, rfl, by omega, ?po, rfl⟩).toV ed_nil))).toC (wn ?fi) ?le
    case ix =>
      have : atF ns first 2 = 0 ∨ atF ns first 2 = 1 := by omega
      rcases this with e | e <;> rw [e] <;> rfl
    case po => split <;> decide
    case fi =>
      refine ⟨.inr rfl, .inr rfl, .inr ?_, .inr ?_, .inl rfl, trivial⟩
      · simp [labelStep]
      · simp [labelStep]
    case le =>
      rw [List.length_map]
      exact Nat.lt_of_le_of_lt (show t.1.length ≤ 100 by simp at hl; omega) (by decide)
  · refine wret (ec_move 2 rfl (.inl rfl) rfl) ⟨nbs_map _ (fun _ => rfl) _, rfl⟩
end
end OV

namespace OV
/-! ### the two answers agree -/
theorem better_min (best : Option Int) : ∀ vs : List Int, vs.foldl better best = (best.toList ++ vs).min? := by
  intro vs
  induction vs generalizing best with
  | nil => cases best <;> rfl
  | cons v vs ih =>
    rw [List.foldl_cons, ih]
    cases best with
    | none => rfl
    | some b =>
      have e : better (some b) v = some (min b v) := by
        show (if v < b then some v else some b) = _
        split
        · rw [show min b v = v by omega]
        · rw [show min b v = b by omega]
      rw [e]
      show ((min b v) :: vs).min? = (b :: v :: vs).min?
      rw [List.min?_cons', List.min?_cons']
      rfl
theorem klook_none {α : Type} {es : List (Int × α)} {k : Int} (h : k ∉ es.map (·.1)) : klook es k = none := by
  induction es with
  | nil => rfl
  | cons p es ih =>
    rw [klook_cons, if_neg (fun z => h (by rw [List.map_cons, z]; exact List.mem_cons_self)), ih (fun z => h (by rw [List.map_cons]; exact List.mem_cons_of_mem _ z))]
theorem comm_row {b : List (Int × Int)} (nd : (b.map (·.1)).Nodup) (p : Int × Int) (best : Option Int) : b.foldl (commIn p) best = match klook b p.1 with
    | some n => better best (p.2 + n)
    | none => best := by
  induction b generalizing best with
  | nil => rfl
  | cons q b ih =>
    rw [List.map_cons, List.nodup_cons] at nd
    rw [List.foldl_cons, ih nd.2, klook_cons]
    by_cases h : q.1 = p.1
    · rw [if_pos h]
      have : klook b p.1 = none := klook_none (by rw [← h]; exact nd.1)
      rw [this]
      show commIn p best q = better best (p.2 + q.2)
      unfold commIn
      rw [if_pos h.symm]
    · rw [if_neg h]
      have : commIn p best q = best := by unfold commIn; rw [if_neg (fun z => h z.symm)]
      rw [this]
theorem kmerge_nodup : ∀ (more es : List (Int × Int)), ((es ++ more).map (·.1)).Nodup → kmerge es more = es ++ more
  | [], es, _ => by rw [List.append_nil]; rfl
  | p :: more, es, nd => by
    have hp : p.1 ∉ es.map (·.1) := fun m => by
      rw [List.map_append, List.map_cons] at nd
      exact (List.nodup_append.mp nd).2.2 _ m _ List.mem_cons_self rfl
    have e : kput es p.1 p.2 = es ++ [p] := by
      unfold kput
      rw [klook_any, klook_none hp]
      rfl
    show kmerge (kput es p.1 p.2) more = _
    rw [e, kmerge_nodup more (es ++ [p]) (by rw [List.append_assoc]; exact nd), List.append_assoc]
    rfl
theorem lab_comm {f b : List (Int × Int)} (nf : (f.map (·.1)).Nodup) (nb : (b.map (·.1)).Nodup) : labF f b = commF f b := by
  unfold labF
  rw [kmerge_nodup f [] nf, kmerge_nodup b [] nb, List.nil_append, List.nil_append]
  unfold bestF commF
  have key : ∀ (g : List (Int × Int)) (best : Option Int), g.foldl (fun best p => b.foldl (commIn p) best) best = ((g.filter fun p => (klook b p.1).isSome).map fun p => p.2 + (klook b p.1).getD 0).foldl better best := by
    intro g
    induction g with
    | nil => intro best; rfl
    | cons p g ih =>
      intro best
      rw [List.foldl_cons, ih, comm_row nb]
      cases e : klook b p.1 with
      | none => rw [List.filter_cons_of_neg (by rw [e]; decide)]
      | some n =>
        rw [List.filter_cons_of_pos (by rw [e]; rfl), List.map_cons, List.foldl_cons, e]
        rfl
  rw [key, better_min]
  show _ = (_ : List Int).min?
  congr 1
  apply List.map_congr_left
  intro p hp
  have hpf := (List.mem_filter.mp hp).1
  clear hp
  have : klook f p.1 = some p.2 := by
    clear key
    induction f with
    | nil => cases hpf
    | cons q f ih =>
      rw [List.map_cons, List.nodup_cons] at nf
      rw [klook_cons]
      rcases List.mem_cons.mp hpf with rfl | hp
      · rw [if_pos rfl]
      · rw [if_neg (fun z => nf.1 (by rw [z]; exact List.mem_map_of_mem hp)), ih nf.2 hp]
  rw [this]
  rfl
theorem label_ok (ns : List Int) (first : Int) : ((labelF ns first).map (·.1)).Nodup ∧ (labelF ns first).length ≤ 9 := by
  have key : ∀ (n : Nat), let s := (List.range n).foldl (labelStep ns first) ([], 0)
      (s.1.map (·.1)).Nodup ∧ (∀ x ∈ s.1.map (·.1), x ≤ s.2) ∧ s.1.length = n := by
    intro n
    induction n with
    | zero => exact ⟨List.nodup_nil, fun _ h => (nomatch h), rfl⟩
    | succ n ih =>
      rw [List.range_succ, List.foldl_append]
      simp only at ih ⊢
      generalize (List.range n).foldl (labelStep ns first) ([], 0) = s at ih ⊢
      obtain ⟨h1, h2, h3⟩ := ih
      rw [List.foldl_cons, List.foldl_nil]
      have b := atF_lt (ns := ns) (k := first + 1 + 2 * n) (m := 3) (by decide)
      unfold labelStep
      refine ⟨?_, ?_, by simp [h3]⟩
      · rw [List.map_append]
        refine List.nodup_append.mpr ⟨h1, List.nodup_cons.mpr ⟨fun h => (nomatch h), .nil⟩, fun a ha c hc => ?_⟩
        have e := List.mem_singleton.mp hc
        have hb := h2 a ha
        subst e
        show a ≠ s.2 + atF ns (first + 1 + 2 * n) 3 + _
        by_cases hn : 0 < (n : Int)
        · rw [if_pos hn]; omega
        · have : n = 0 := by omega
          subst this
          have : s.1 = [] := List.eq_nil_of_length_eq_zero h3
          rw [this] at ha; cases ha
      · intro x hx
        rw [List.map_append] at hx
        have hs : (0 : Int) ≤ (if 0 < (n : Int) then 1 else 0) := by split <;> decide
        rcases List.mem_append.mp hx with hx | hx
        · have := h2 x hx
          show x ≤ s.2 + _ + _
          omega
        · have e := List.mem_singleton.mp hx
          subst e
          exact Int.le_refl _
  have b := atF_lt (ns := ns) (k := first) (m := 9) (by decide)
  have h := key (atF ns first 9).toNat
  simp only at h
  refine ⟨h.1, ?_⟩
  unfold labelF
  rw [h.2.2]
  omega
end OV

namespace OV
open PySem PySem.Spec PyProof.Rows L2
theorem scLaw : FnScope ["_law_script", "_law_draws_here", "_law_turn", "_law_forward", "_law_backward", "_law_kept", "_law_told", "_law_due"] ["_law_script"] (defScope sLaw) := ⟨rfl, rfl, rfl, by decide +kernel, rfl, by decide +kernel, by decide +kernel⟩
def spLaw (Kf : PySem.W.Frag) : SpW := fun ws r => ∃ ns : List Int, ws = [.fz (.frl Kf (ns.map .int))] ∧ ns.length ≤ 63 ∧ r = .ok (.fz (.bl true))
theorem sh_lab (n : Nat) (f : List (Int × Int)) : D.sh (n + 2) (dLab f) = true := sh_lst fun p _ => rfl
section
variable {P : Program} {w0 : World} {Kf : PySem.W.Frag} {mg : Str → Option Value} {base : Heap}
theorem ok_law {k : Nat} {f fD fL fA fI fC : Addr} {fd fdD fdL fdA fdI fdC : FuncData} (F : Fun Kf "law" "law" sLaw f fd)
    (FD : Fun Kf "_law_draws" "_law_draws" sDraws fD fdD) (bD : Binds Kf fdD ["_law_script"] []) (gD : mg "_law_draws" = some (.ref fD)) (GD : FnOk P w0 Kf mg base CX0 k fD fdD ["_law_script"] (spOf (spDraws Kf)))
    (FL : Fun Kf "_law_label" "_law_label" sLabel fL fdL) (bL : Binds Kf fdL ["_law_draws_here", "_law_first"] []) (gL : mg "_law_label" = some (.ref fL)) (GL : FnOk P w0 Kf mg base CX0 k fL fdL ["_law_draws_here", "_law_first"] (spOf spLabel))
    (FA : Fun Kf "label_answer" "label_answer" sLabelAnswer fA fdA) (bA : Binds Kf fdA ["forward", "backward"] []) (gA : mg "label_answer" = some (.ref fA)) (GA : FnOk P w0 Kf mg base CX0 k fA fdA ["forward", "backward"] (spOf spLab))
    (FI : Fun Kf "_law_is_integer" "_law_is_integer" sIsInt fI fdI) (bI : Binds Kf fdI ["_law_actual"] []) (gI : mg "_law_is_integer" = some (.ref fI)) (GI : FnOk P w0 Kf mg base CX0 k fI fdI ["_law_actual"] (spOf spIsInt))
    (FC : Fun Kf "_law_common" "_law_common" sCommon fC fdC) (bC : Binds Kf fdC ["_law_forward", "_law_backward"] []) (gC : mg "_law_common" = some (.ref fC)) (GC : FnOk P w0 Kf mg base CX0 k fC fdC ["_law_forward", "_law_backward"] (spOf spComm))
    (mRange : mg "range" = none) (mList : mg "list" = none) : FnOk P w0 Kf mg base CX0 (k + 1) f fd ["_law_script"] (spOf (spLaw Kf)) := by
  refine fn_mk F scLaw (fun ws r h => by obtain ⟨_, rfl, _⟩ := h; rfl) (by decide) fun cdv A outer s H E hr ws r hS => ?_
  obtain ⟨ns, rfl, hl, rfl⟩ := hS
  change WpSs _ _ [some _, none, none, none, none, none, none, none] _ _
  have nd := scLaw.nd
  refine set_ 1 nd (eo_call GD hr (by rfl) gD FD.kp bD pass0 (el_fz (vl 0) el_nil rfl) ⟨ns, rfl, hl, rfl⟩).fzm.toC ?_
  generalize hds : drawsF ns = ds
  refine fold_ (S := Unit) (T := .one 2) (List.range 3) (fun k => .fz (.int (k : Int))) (fun _ => [some (.fz (.frl Kf (ns.map .int))), some (.fz (dInts ds)), none, none, none, none, none, none]) (fun s _ => s) ()
    (ptg_one nd rfl (.inl rfl) (.inl rfl)) (rng1 ev_int .fz rfl (by decide) (by decide) mRange) (Fg.refl _) (fun _ => rfl) (fun i m => by cases List.mem_singleton.mp m; exact ⟨rfl, by decide⟩) ?_ ?_
  · intro pre x post hx
    obtain ⟨hx1, hx2⟩ := rangePre hx
    refine ⟨_, rfl, ?_⟩
    have l1 := label_ok ds (20 * x)
    have l2 := label_ok ds (20 * x + 18)
    refine set_ 3 nd (eo_call GL hr (by rfl) gL FL.kp bL pass0 (el_fz (vl 1) (el_fz (ev_bin ev_int (vl 2) (ow_mul .fz .fz (.inl ⟨by decide, by decide⟩))) el_nil rfl) rfl) ⟨ds, _, rfl, by omega, rfl⟩).fzm.toC ?_
    refine set_ 4 nd (eo_call GL hr (by rfl) gL FL.kp bL pass0 (el_fz (vl 1) (el_fz (ev_bin (ev_bin ev_int (vl 2) (ow_mul .fz .fz (.inl ⟨by decide, by decide⟩))) ev_int (ow_add .fz .fz)) el_nil rfl) rfl) ⟨ds, _, rfl, by omega, rfl⟩).fzm.toC ?_
    generalize labelF ds (20 * x) = ff at l1 ⊢
    generalize labelF ds (20 * x + 18) = bb at l2 ⊢
    refine set_ 5 nd (ev_tup (ed_cons (ctO (co_listm ff _) mList (es_cons (vl 3) evs_nil)).fzm (ed_cons (ctO (co_listm bb _) mList (es_cons (vl 4) evs_nil)).fzm ed_nil))).toC ?_
    refine set_ 6 nd (eo_call GA hr (by rfl) gA FA.kp bA pass0 (el_bo (vl 3) rfl rfl (el_bo (vl 4) rfl rfl el_nil rfl) rfl) ⟨ff, bb, rfl, by omega, rfl⟩).toC ?_
    refine set_ 7 nd (eo_call GC hr (by rfl) gC FC.kp bC pass0 (el_fz (vl 3) (el_fz (vl 4) el_nil rfl) rfl) ⟨ff, bb, rfl, rfl⟩).toC ?_
    rw [lab_comm l1.1 l2.1]
    generalize commF ff bb = o
    have e1 : D.eq (dOpt o) (dOpt o) = true := eq_refl (sh_opt 1 o)
    have e2 : D.eq (.tup [dLab ff, dLab bb]) (.tup [dLab ff, dLab bb]) = true := eq_refl (n := 3) (by show (D.sh 2 (dLab ff) && (D.sh 2 (dLab bb) && true)) = true; rw [sh_lab 0, sh_lab 0]; rfl)
    have s2 : D.sh 3 (.tup [dLab ff, dLab bb]) = true := by show (D.sh 2 (dLab ff) && (D.sh 2 (dLab bb) && true)) = true; rw [sh_lab 0, sh_lab 0]; rfl
    refine wif (EvW.t (ew_or (tcmp (vl 6) (vl 7) (neq (k := false) hr.units 1 (sh_opt 1 o) (sh_opt 1 o) (by rw [e1]; rfl))) fun _ => ew_or (EvW.t (ew_and (tcmp (vl 7) ev_non notN_) fun h => ew_and1 (et_not (tval
      (eo_call GI hr (by rfl) gI FI.kp bI pass0 (el_bo (vl 6) rfl rfl el_nil rfl) ⟨dOpt o, if o.isSome then "int" else "NoneType", rfl, by cases o <;> rfl, rfl⟩).toV)))) fun _ => ew_or1
      (tcmp (ev_tup (ed_cons (vl 3) (ed_cons (vl 4) ed_nil))) (vl 5) (neq (k := false) hr.units 3 s2 s2 (by rw [e2]; rfl)))))
      (fun e => by cases o <;> exact Bool.noConfusion e) (fun _ => wn (wn ⟨.inr rfl, .inr rfl, .inl rfl, .inl rfl, .inl rfl, .inl rfl, .inl rfl, .inl rfl, trivial⟩))
  · exact wret (cmp (eo_call GA hr (by rfl) gA FA.kp bA pass0 (el_bo (ev_lst ed_nil) rfl rfl (el_bo (ev_lst ed_nil) rfl rfl el_nil rfl) rfl) ⟨[], [], rfl, by decide, rfl⟩).toV ev_non isN_).toC ⟨rfl, rfl⟩
end
end OV

namespace OV
open PySem PySem.Spec PyProof.Rows L2
theorem all_mk {l : PySem.W.OpenLaw} {w : World} {K : PySem.W.Frag} {h : Heap} {mg : Str → Option Value} {fa f1 f2 f3 f4 f5 f6 f7 f8 : Addr} (X : K.In h) (G : h.Ns mainGlobals mg) (hfa : mg "law" = some (.ref fa))
    {od1 an1 od2 an2 od3 an3 od4 an4 od5 an5 od6 an6 od7 an7 od8 an8 : Option Addr} {sl1 sl2 sl3 sl4 sl5 sl6 sl7 sl8 : Array (Option Value)}
    {oc1 kV1 dc1 pm1 cd1 ct1 oc2 kV2 dc2 pm2 cd2 ct2 oc3 kV3 dc3 pm3 cd3 ct3 oc4 kV4 dc4 pm4 cd4 ct4 oc5 kV5 dc5 pm5 cd5 ct5 oc6 kV6 dc6 pm6 cd6 ct6 oc7 kV7 dc7 pm7 cd7 ct7 oc8 kV8 dc8 pm8 cd8 ct8 : Value}
    (a1 : PySem.W.nsIn K mainGlobals "best_sum" = some (some (.ref f1))) (l1 : K.lookup f1 = some ⟨oc1, od1, .func (PySem.W.fnOf "best_sum" "best_sum" (defArgs sBest) (defBody sBest) (defScope sBest) .none kV1 dc1 pm1 an1 cd1 ct1), sl1⟩) (c1 : PySem.W.codeIn K cd1 "best_sum" = true) (k1 : PySem.W.keepIn K (.ref f1) = true)
    (a2 : PySem.W.nsIn K mainGlobals "label_answer" = some (some (.ref f2))) (l2 : K.lookup f2 = some ⟨oc2, od2, .func (PySem.W.fnOf "label_answer" "label_answer" (defArgs sLabelAnswer) (defBody sLabelAnswer) (defScope sLabelAnswer) .none kV2 dc2 pm2 an2 cd2 ct2), sl2⟩) (c2 : PySem.W.codeIn K cd2 "label_answer" = true) (k2 : PySem.W.keepIn K (.ref f2) = true)
    (a3 : PySem.W.nsIn K mainGlobals "_law_draws" = some (some (.ref f3))) (l3 : K.lookup f3 = some ⟨oc3, od3, .func (PySem.W.fnOf "_law_draws" "_law_draws" (defArgs sDraws) (defBody sDraws) (defScope sDraws) .none kV3 dc3 pm3 an3 cd3 ct3), sl3⟩) (c3 : PySem.W.codeIn K cd3 "_law_draws" = true) (k3 : PySem.W.keepIn K (.ref f3) = true)
    (a4 : PySem.W.nsIn K mainGlobals "_law_at" = some (some (.ref f4))) (l4 : K.lookup f4 = some ⟨oc4, od4, .func (PySem.W.fnOf "_law_at" "_law_at" (defArgs sAt) (defBody sAt) (defScope sAt) .none kV4 dc4 pm4 an4 cd4 ct4), sl4⟩) (c4 : PySem.W.codeIn K cd4 "_law_at" = true) (k4 : PySem.W.keepIn K (.ref f4) = true)
    (a5 : PySem.W.nsIn K mainGlobals "_law_is_integer" = some (some (.ref f5))) (l5 : K.lookup f5 = some ⟨oc5, od5, .func (PySem.W.fnOf "_law_is_integer" "_law_is_integer" (defArgs sIsInt) (defBody sIsInt) (defScope sIsInt) .none kV5 dc5 pm5 an5 cd5 ct5), sl5⟩) (c5 : PySem.W.codeIn K cd5 "_law_is_integer" = true) (k5 : PySem.W.keepIn K (.ref f5) = true)
    (a6 : PySem.W.nsIn K mainGlobals "_law_common" = some (some (.ref f6))) (l6 : K.lookup f6 = some ⟨oc6, od6, .func (PySem.W.fnOf "_law_common" "_law_common" (defArgs sCommon) (defBody sCommon) (defScope sCommon) .none kV6 dc6 pm6 an6 cd6 ct6), sl6⟩) (c6 : PySem.W.codeIn K cd6 "_law_common" = true) (k6 : PySem.W.keepIn K (.ref f6) = true)
    (a7 : PySem.W.nsIn K mainGlobals "_law_label" = some (some (.ref f7))) (l7 : K.lookup f7 = some ⟨oc7, od7, .func (PySem.W.fnOf "_law_label" "_law_label" (defArgs sLabel) (defBody sLabel) (defScope sLabel) .none kV7 dc7 pm7 an7 cd7 ct7), sl7⟩) (c7 : PySem.W.codeIn K cd7 "_law_label" = true) (k7 : PySem.W.keepIn K (.ref f7) = true)
    (a8 : PySem.W.nsIn K mainGlobals "law" = some (some (.ref f8))) (l8 : K.lookup f8 = some ⟨oc8, od8, .func (PySem.W.fnOf "law" "law" (defArgs sLaw) (defBody sLaw) (defScope sLaw) .none kV8 dc8 pm8 an8 cd8 ct8), sl8⟩) (c8 : PySem.W.codeIn K cd8 "law" = true) (k8 : PySem.W.keepIn K (.ref f8) = true)
    (z1 : PySem.W.nsIn K mainGlobals "len" = some none) (z2 : PySem.W.nsIn K mainGlobals "min" = some none) (z3 : PySem.W.nsIn K mainGlobals "range" = some none) (z4 : PySem.W.nsIn K mainGlobals "abs" = some none) (z5 : PySem.W.nsIn K mainGlobals "int" = some none)
    (z6 : PySem.W.nsIn K mainGlobals "dict" = some none) (z7 : PySem.W.nsIn K mainGlobals "isinstance" = some none) (z8 : PySem.W.nsIn K mainGlobals "bool" = some none) (z9 : PySem.W.nsIn K mainGlobals "list" = some none) :
    ∃ fd : FuncData, (∀ (s : Shared) (v : Value), BindsTo s fd ⟨[v], []⟩ [("_law_script", v)]) ∧ ∀ base : Heap, K.In base → base.Ns mainGlobals mg → FnOk l.prog w K mg base CX0 9 fa fd ["_law_script"] (spOf (spLaw K)) := by
  have e := hfa.symm.trans (PySem.W.mg_of X G a8)
  cases e
  have F1 := fun_mk (st := sBest) l1 c1 k1
  have F2 := fun_mk (st := sLabelAnswer) l2 c2 k2
  have F3 := fun_mk (st := sDraws) l3 c3 k3
  have F4 := fun_mk (st := sAt) l4 c4 k4
  have F5 := fun_mk (st := sIsInt) l5 c5 k5
  have F6 := fun_mk (st := sCommon) l6 c6 k6
  have F7 := fun_mk (st := sLabel) l7 c7 k7
  have F8 := fun_mk (st := sLaw) l8 c8 k8
  have b1 := F1.binds (ps := ["one", "two"]) fun _ _ _ _ _ _ us hl => match us, hl with | [_, _], _ => rfl
  have b2 := F2.binds (ps := ["forward", "backward"]) fun _ _ _ _ _ _ us hl => match us, hl with | [_, _], _ => rfl
  have b3 := F3.binds (ps := ["_law_script"]) fun _ _ _ _ _ _ us hl => match us, hl with | [_], _ => rfl
  have b4 := F4.binds (ps := ["_law_draws_here", "_law_k", "_law_many"]) fun _ _ _ _ _ _ us hl => match us, hl with | [_, _, _], _ => rfl
  have b5 := F5.binds (ps := ["_law_actual"]) fun _ _ _ _ _ _ us hl => match us, hl with | [_], _ => rfl
  have b6 := F6.binds (ps := ["_law_forward", "_law_backward"]) fun _ _ _ _ _ _ us hl => match us, hl with | [_, _], _ => rfl
  have b7 := F7.binds (ps := ["_law_draws_here", "_law_first"]) fun _ _ _ _ _ _ us hl => match us, hl with | [_, _], _ => rfl
  have mn : ∀ {x : Str}, PySem.W.nsIn K mainGlobals x = some none → mg x = none := fun z => PySem.W.mg_none_of X G z
  have g := fun {x : Str} {u : Value} (a : PySem.W.nsIn K mainGlobals x = some (some u)) => PySem.W.mg_of X G a
  refine ⟨PySem.W.fnOf "law" "law" (defArgs sLaw) (defBody sLaw) (defScope sLaw) .none kV8 dc8 pm8 an8 cd8 ct8, fun s v => .of_eq rfl, fun base _ _ => ?_⟩
  have G1 : FnOk l.prog w K mg base CX0 1 f1 _ _ _ := ok_best F1 (mn z1) (mn z2)
  have G2 : FnOk l.prog w K mg base CX0 8 f2 _ _ _ := ok_lab F2 F1 b1 (g a1) (G1.mono (by decide)) (mn z6)
  have G3 : FnOk l.prog w K mg base CX0 8 f3 _ _ _ := ok_draws F3 (mn z3) (mn z2) (mn z1) (mn z4) (mn z5)
  have G4 : FnOk l.prog w K mg base CX0 1 f4 _ _ _ := ok_at F4 (mn z1) (mn z5)
  have G5 : FnOk l.prog w K mg base CX0 8 f5 _ _ _ := ok_isInt F5 (mn z7) (mn z5) (mn z8)
  have G6 : FnOk l.prog w K mg base CX0 8 f6 _ _ _ := ok_comm F6
  have G7 : FnOk l.prog w K mg base CX0 8 f7 _ _ _ := ok_label F7 F4 b4 (g a4) (G4.mono (by decide)) (mn z3) (mn z5)
  exact ok_law F8 F3 b3 (g a3) G3 F7 b7 (g a7) G7 F2 b2 (g a2) G2 F5 b5 (g a5) G5 F6 b6 (g a6) G6 (mn z3) (mn z9)
theorem dats_mk (H : Hp) : ∀ ns : List Int, Dats H (ns.map V.int) (ns.map D.int)
  | [] => .nil
  | n :: ns => .cons (.int n) (dats_mk H ns)
theorem law_hsp (K : PySem.W.Frag) (H : Hp) (a : Addr) (ns : List Int) (h1 : ns.length ≤ 63) (h2 : Only H) (h3 : SqL K H a (ns.map V.int)) : spOf (spLaw K) [.ref a] H (fun v _ => v = .bl true) fun _ _ _ => False :=
  ⟨[.fz (.frl K (ns.map .int))], H, .ok (.fz (.bl true)), Same.refl _, .fz (.frl h3 (dats_mk H ns)) .nil, ⟨ns, rfl, h1, rfl⟩, fun v H' F' fp R => fzBl R.own⟩
end OV
open PySem PySem.W PyProof.Rows
set_option maxHeartbeats 0 in
theorem PySem.Challenge.cw_overpasses_k33_answers_by_labels_holds : PySem.Challenge.rw_overpasses_k33_answers_by_labels.Holds := by
  w_on; o_law; k_head; (case hw => w_witness2)
  k_fill
  refine L2.walk_ofK (l := PySem.Challenge.rw_overpasses_k33_answers_by_labels) (n := 63) (k := 9) (x := "_law_script") (CX := L2.CX0) (sp := fun K => OV.spOf (OV.spLaw K)) rfl (by decide) rfl ⟨rfl, by decide, by decide⟩ (fun w h Y => PySem.W.kIn_of Y) ?F (fun K H a ns h1 h2 h3 => OV.law_hsp K H a ns h1 h2 h3) (fun _ _ _ _ h => h)
  case F =>
    intro w mg fa h KX G hmg
    refine' OV.all_mk KX G hmg ?a1 ?l1 ?c1 ?k1 ?a2 ?l2 ?c2 ?k2 ?a3 ?l3 ?c3 ?k3 ?a4 ?l4 ?c4 ?k4 ?a5 ?l5 ?c5 ?k5 ?a6 ?l6 ?c6 ?k6 ?a7 ?l7 ?c7 ?k7 ?a8 ?l8 ?c8 ?k8 ?z1 ?z2 ?z3 ?z4 ?z5 ?z6 ?z7 ?z8 ?z9
    (case a1 => k_is); (case l1 => k_is); (case c1 => k_is); (case k1 => k_is); (case a2 => k_is); (case l2 => k_is); (case c2 => k_is); (case k2 => k_is); (case a3 => k_is); (case l3 => k_is); (case c3 => k_is); (case k3 => k_is); (case a4 => k_is); (case l4 => k_is); (case c4 => k_is); (case k4 => k_is); (case a5 => k_is); (case l5 => k_is); (case c5 => k_is); (case k5 => k_is); (case a6 => k_is); (case l6 => k_is); (case c6 => k_is); (case k6 => k_is); (case a7 => k_is); (case l7 => k_is); (case c7 => k_is); (case k7 => k_is); (case a8 => k_is); (case l8 => k_is); (case c8 => k_is); (case k8 => k_is)
    (case z1 => k_is); (case z2 => k_is); (case z3 => k_is); (case z4 => k_is); (case z5 => k_is); (case z6 => k_is); (case z7 => k_is); (case z8 => k_is); (case z9 => k_is)

