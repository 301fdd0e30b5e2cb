import PyProof.Rows.All
import Wide.All
import OpenK.AllK
import Wide.FinOn
import HandS.ForMost
import HandS.ForExc
import HandS.CallSlots
import HandS.IsInst
import HandS.Wide
import HandS.Flow
import HandS.Property
import HandS.OwnEq
import KE.KOpsOwn
import HandS.Zip
import HandS.Style
import PySem.Challenge.RW_areawalks_k45_powers_in_unlike_direction
set_option Elab.async false
set_option maxRecDepth 100000
set_option maxHeartbeats 4000000
set_option autoImplicit false
namespace DL
open PySem PySem.Spec PyProof.Rows L2

/-! ### data -/
/-- a name or a text by its code points -/
abbrev Nm := List Nat
def nm (l : Nm) : Str := ⟨l.toArray⟩
theorem nm_inj {a b : Nm} (h : nm a = nm b) : a = b := by
  have := congrArg (fun s : Str => s.cps.toList) h
  simpa [nm] using this
inductive DK where
  | i (n : Int)
  | s (l : List Nat)
  deriving DecidableEq
inductive D where
  | non | bl (b : Bool) | int (i : Int) | str (l : List Nat)
  | tup (xs : List D) | lst (xs : List D) | scr (xs : List D)
  | dic (kvs : List (DK × D))
  | ins (c : String) (fs : List (Nm × D))
  | cell (n : Nat) | cls (c : String) | ty (n : String) | fn (f : String)
instance : Inhabited D := ⟨.non⟩
/-- a thing of the store, by reference -/
inductive Cell where
  | dic (kvs : List (DK × D))
  | lst (xs : List D)
  | obj (c : String) (fs : List (Nm × D))
instance : Inhabited Cell := ⟨.lst []⟩
/-- a slot: no value known, a value, a list / dict / instance of this frame's own -/
inductive Sl where
  | un | val (d : D) | ol (xs : List D) | od (kvs : List (DK × D)) | oi (c : String) (fs : List (Nm × D))
instance : Inhabited Sl := ⟨.un⟩
def Sl.own : Sl → Bool
  | .un => false
  | .val _ => false
  | _ => true
structure Xc where
  cls : String
  fs : List (Nm × D)
structure DS where
  sl : List Sl
  st : List Cell
inductive Res (σ α : Type) where
  | ok (a : α) (t : σ) | exc (x : Xc) (t : σ) | stuck
def Res.bind {σ α β : Type} (r : Res σ α) (k : α → σ → Res σ β) : Res σ β := match r with
  | .ok a t => k a t
  | .exc x t => .exc x t
  | .stuck => .stuck
@[simp] theorem Res.bind_ok {σ α β : Type} (a : α) (t : σ) (k : α → σ → Res σ β) : (Res.ok a t).bind k = k a t := rfl
@[simp] theorem Res.bind_exc {σ α β : Type} (x : Xc) (t : σ) (k : α → σ → Res σ β) : (Res.exc x t).bind k = .exc x t := rfl
@[simp] theorem Res.bind_stuck {σ α β : Type} (k : α → σ → Res σ β) : (Res.stuck).bind k = .stuck := rfl
inductive Out where
  | nx | rt (d : D) | bk | ct
abbrev DE := DS → Res DS D
abbrev DA := DS → Res DS (List D)
abbrev DT := DS → Res DS Bool
abbrev DStm := DS → Res DS Out
abbrev DFn := List D → List Cell → Res (List Cell) D

/-! ### how data lie in the heap -/
structure Gam where
  K : PySem.W.Frag
  ct : String → Option Addr
  ft : String → Option Addr
structure Wd where
  F : Hp
  ρ : List Addr
structure Wd.le (w w' : Wd) : Prop where
  f : ∀ a o, w.F a = some o → w'.F a = some o
  r : w.ρ <+: w'.ρ
theorem Wd.le.refl (w : Wd) : w.le w := ⟨fun _ _ h => h, List.prefix_refl _⟩
theorem Wd.le.trans {a b c : Wd} (h : a.le b) (k : b.le c) : a.le c := ⟨fun x o e => k.f x o (h.f x o e), h.r.trans k.r⟩
def dkey : DK → Key
  | .i n => .inl n
  | .s l => .inr (nm l)
mutual
inductive Rep (G : Gam) (w : Wd) : V → D → Prop
  | non : Rep G w .non .non
  | bl (b : Bool) : Rep G w (.bl b) (.bl b)
  | int (i : Int) : Rep G w (.int i) (.int i)
  | str (l : List Nat) : Rep G w (.str (nm l)) (.str l)
  | tup {a : Addr} {vs : List V} {ds : List D} : SqT G.K w.F a vs → Reps G w vs ds → Rep G w (.ref a) (.tup ds)
  | lst {a : Addr} {vs : List V} {ds : List D} : w.F a = some (.lst vs) → Reps G w vs ds → Rep G w (.ref a) (.lst ds)
  | scr {a : Addr} {vs : List V} {ds : List D} : SqL G.K w.F a vs → Reps G w vs ds → Rep G w (.ref a) (.scr ds)
  | dic {a : Addr} {vs : List (Key × V)} {ds : List (DK × D)} : w.F a = some (.dK vs) → RepK G w vs ds → Rep G w (.ref a) (.dic ds)
  | ins {a C dx : Addr} {c : String} {vs : List (Str × V)} {ds : List (Nm × D)} : G.ct c = some C → w.F a = some (.ins C dx vs) → RepF G w vs ds → Rep G w (.ref a) (.ins c ds)
  | cell {a : Addr} {n : Nat} : w.ρ[n]? = some a → Rep G w (.ref a) (.cell n)
  | cls {C : Addr} {c : String} : G.ct c = some C → Rep G w (.ref C) (.cls c)
  | ty (n : String) : Rep G w (.ty n) (.ty n)
  | fn {a : Addr} {f : String} : G.ft f = some a → Rep G w (.ref a) (.fn f)
inductive Reps (G : Gam) (w : Wd) : List V → List D → Prop
  | nil : Reps G w [] []
  | cons {v : V} {d : D} {vs : List V} {ds : List D} : Rep G w v d → Reps G w vs ds → Reps G w (v :: vs) (d :: ds)
inductive RepF (G : Gam) (w : Wd) : List (Str × V) → List (Nm × D) → Prop
  | nil : RepF G w [] []
  | cons {f : Nm} {v : V} {d : D} {vs : List (Str × V)} {ds : List (Nm × D)} : Rep G w v d → RepF G w vs ds → RepF G w ((nm f, v) :: vs) ((f, d) :: ds)
inductive RepK (G : Gam) (w : Wd) : List (Key × V) → List (DK × D) → Prop
  | nil : RepK G w [] []
  | cons {k : DK} {v : V} {d : D} {vs : List (Key × V)} {ds : List (DK × D)} : Rep G w v d → RepK G w vs ds → RepK G w ((dkey k, v) :: vs) ((k, d) :: ds)
end
theorem SqT.le {K : PySem.W.Frag} {F F' : Hp} {a : Addr} {xs : List V} (h : SqT K F a xs) (e : ∀ a o, F a = some o → F' a = some o) : SqT K F' a xs := by
  rcases h with (h | ⟨o, h⟩) | h
  · exact .inl (.inl (e _ _ h))
  · exact .inl (.inr ⟨o, e _ _ h⟩)
  · exact .inr h
theorem SqL.le {K : PySem.W.Frag} {F F' : Hp} {a : Addr} {xs : List V} (h : SqL K F a xs) (e : ∀ a o, F a = some o → F' a = some o) : SqL K F' a xs := by
  rcases h with (h | ⟨o, h⟩) | h
  · exact .inl (.inl (e _ _ h))
  · exact .inl (.inr ⟨o, e _ _ h⟩)
  · exact .inr h
theorem pre_get {α : Type} {l l' : List α} {n : Nat} {x : α} (h : l <+: l') (e : l[n]? = some x) : l'[n]? = some x := by
  obtain ⟨r, rfl⟩ := h
  rw [List.getElem?_append_left (by exact (List.getElem?_eq_some_iff.mp e).1)]
  exact e
mutual
theorem Rep.mono {G : Gam} {w w' : Wd} (h : w.le w') : ∀ {v : V} {d : D}, Rep G w v d → Rep G w' v d
  | _, _, .non => .non
  | _, _, .bl b => .bl b
  | _, _, .int i => .int i
  | _, _, .str l => .str l
  | _, _, .tup a b => .tup (SqT.le a h.f) (Reps.mono h b)
  | _, _, .lst a b => .lst (h.f _ _ a) (Reps.mono h b)
  | _, _, .scr a b => .scr (SqL.le a h.f) (Reps.mono h b)
  | _, _, .dic a b => .dic (h.f _ _ a) (RepK.mono h b)
  | _, _, .ins c a b => .ins c (h.f _ _ a) (RepF.mono h b)
  | _, _, .cell a => .cell (pre_get h.r a)
  | _, _, .cls a => .cls a
  | _, _, .ty n => .ty n
  | _, _, .fn a => .fn a
theorem Reps.mono {G : Gam} {w w' : Wd} (h : w.le w') : ∀ {v : List V} {d : List D}, Reps G w v d → Reps G w' v d
  | _, _, .nil => .nil
  | _, _, .cons a b => .cons (Rep.mono h a) (Reps.mono h b)
theorem RepF.mono {G : Gam} {w w' : Wd} (h : w.le w') : ∀ {v : List (Str × V)} {d : List (Nm × D)}, RepF G w v d → RepF G w' v d
  | _, _, .nil => .nil
  | _, _, .cons a b => .cons (Rep.mono h a) (RepF.mono h b)
theorem RepK.mono {G : Gam} {w w' : Wd} (h : w.le w') : ∀ {v : List (Key × V)} {d : List (DK × D)}, RepK G w v d → RepK G w' v d
  | _, _, .nil => .nil
  | _, _, .cons a b => .cons (Rep.mono h a) (RepK.mono h b)
end
theorem Reps.length {G : Gam} {w : Wd} : ∀ {v : List V} {d : List D}, Reps G w v d → v.length = d.length
  | _, _, .nil => rfl
  | _, _, .cons _ b => by rw [List.length_cons, List.length_cons, Reps.length b]
theorem Reps.get {G : Gam} {w : Wd} : ∀ {v : List V} {d : List D} {i : Nat} {x : D}, Reps G w v d → d[i]? = some x → ∃ y, v[i]? = some y ∧ Rep G w y x
  | _, _, _, _, .nil, e => by simp at e
  | _, _, 0, _, .cons a _, e => by simp at e; subst e; exact ⟨_, rfl, a⟩
  | _, _, i + 1, x, .cons _ b, e => by
    obtain ⟨y, h1, h2⟩ := Reps.get (i := i) (x := x) b (by simpa using e)
    exact ⟨y, by simpa using h1, h2⟩
theorem Reps.append {G : Gam} {w : Wd} : ∀ {v v' : List V} {d d' : List D}, Reps G w v d → Reps G w v' d' → Reps G w (v ++ v') (d ++ d')
  | _, _, _, _, .nil, h => h
  | _, _, _, _, .cons a b, h => .cons a (Reps.append b h)
theorem Reps.set {G : Gam} {w : Wd} {x : V} {y : D} (r : Rep G w x y) : ∀ {v : List V} {d : List D} (i : Nat), Reps G w v d → Reps G w (v.set i x) (d.set i y)
  | _, _, _, .nil => .nil
  | _, _, 0, .cons _ b => .cons r b
  | _, _, i + 1, .cons a b => .cons a (Reps.set r i b)
theorem Reps.drop {G : Gam} {w : Wd} : ∀ {v : List V} {d : List D} (n : Nat), Reps G w v d → Reps G w (v.drop n) (d.drop n)
  | _, _, 0, r => r
  | _, _, _ + 1, .nil => .nil
  | _, _, n + 1, .cons _ t => Reps.drop n t
theorem Reps.take {G : Gam} {w : Wd} : ∀ {v : List V} {d : List D} (n : Nat), Reps G w v d → Reps G w (v.take n) (d.take n)
  | _, _, 0, _ => .nil
  | _, _, _ + 1, .nil => .nil
  | _, _, n + 1, .cons r t => .cons r (Reps.take n t)
theorem Reps.ints {G : Gam} {w : Wd} : ∀ {v : List V} {ns : List Int}, Reps G w v (ns.map D.int) → v = ns.map V.int
  | _, [], h => by cases h; rfl
  | _, n :: ns, h => by
    cases h with
    | cons a b => cases a; rw [Reps.ints b]; rfl
theorem Reps.of_ints {G : Gam} {w : Wd} : ∀ ns : List Int, Reps G w (ns.map V.int) (ns.map D.int)
  | [] => .nil
  | n :: ns => .cons (.int n) (Reps.of_ints ns)
theorem RepF.look {G : Gam} {w : Wd} : ∀ {v : List (Str × V)} {d : List (Nm × D)} {f : Nm} {x : D}, RepF G w v d → d.lookup f = some x → ∃ y, v.lookup (nm f) = some y ∧ Rep G w y x
  | _, _, _, _, .nil, e => by simp at e
  | _, _, f, x, .cons (f := g) a b, e => by
    by_cases h : f = g
    · subst h
      rw [List.lookup_cons_self] at e
      cases e
      exact ⟨_, List.lookup_cons_self, a⟩
    · have h1 : (f == g) = false := beq_eq_false_iff_ne.mpr h
      have h2 : (nm f == nm g) = false := beq_eq_false_iff_ne.mpr fun q => h (nm_inj q)
      simp only [List.lookup_cons, h1] at e
      obtain ⟨y, q1, q2⟩ := RepF.look b e
      exact ⟨y, by simp only [List.lookup_cons, h2]; exact q1, q2⟩
theorem RepF.none {G : Gam} {w : Wd} : ∀ {v : List (Str × V)} {d : List (Nm × D)} {f : Nm}, RepF G w v d → d.lookup f = none → v.lookup (nm f) = none
  | _, _, _, .nil, e => rfl
  | _, _, f, .cons (f := g) a b, e => by
    by_cases h : f = g
    · subst h
      rw [List.lookup_cons_self] at e
      cases e
    · have h1 : (f == g) = false := beq_eq_false_iff_ne.mpr h
      have h2 : (nm f == nm g) = false := beq_eq_false_iff_ne.mpr fun q => h (nm_inj q)
      simp only [List.lookup_cons, h1] at e
      simp only [List.lookup_cons, h2]
      exact RepF.none b e
theorem RepF.length {G : Gam} {w : Wd} : ∀ {v : List (Str × V)} {d : List (Nm × D)}, RepF G w v d → v.length = d.length
  | _, _, .nil => rfl
  | _, _, .cons _ b => by rw [List.length_cons, List.length_cons, RepF.length b]
def putN (f : Nm) (x : D) : List (Nm × D) → List (Nm × D)
  | [] => [(f, x)]
  | (g, y) :: r => if g = f then (f, x) :: r else (g, y) :: putN f x r
/-! ### the store, the slots -/
def CellOk (G : Gam) (w : Wd) (H : Hp) (a : Addr) : Cell → Prop
  | .dic kvs => ∃ vs, H a = some (.dK vs) ∧ RepK G w vs kvs
  | .lst xs => ∃ vs, H a = some (.lst vs) ∧ Reps G w vs xs
  | .obj c fs => ∃ C dx vs, G.ct c = some C ∧ H a = some (.ins C dx vs) ∧ RepF G w vs fs
structure FOk (G : Gam) (w : Wd) (S : List Cell) (H : Hp) : Prop where
  sub : ∀ a o, w.F a = some o → H a = some o
  len : w.ρ.length = S.length
  cel : ∀ (n : Nat) (a : Addr) (c : Cell), w.ρ[n]? = some a → S[n]? = some c → CellOk G w H a c
  nd : w.ρ.Nodup
  nf : ∀ a, a ∈ w.ρ → w.F a = none
theorem CellOk.there {G : Gam} {w : Wd} {H : Hp} {a : Addr} {c : Cell} (h : CellOk G w H a c) : ∃ o, H a = some o := by
  cases c with
  | dic kvs => obtain ⟨_, h, _⟩ := h; exact ⟨_, h⟩
  | lst xs => obtain ⟨_, h, _⟩ := h; exact ⟨_, h⟩
  | obj c fs => obtain ⟨_, _, _, _, h, _⟩ := h; exact ⟨_, h⟩
theorem CellOk.mono {G : Gam} {w w' : Wd} {H H' : Hp} {a : Addr} {c : Cell} (h : CellOk G w H a c) (le : w.le w') (e : H' a = H a) : CellOk G w' H' a c := by
  cases c with
  | dic kvs => obtain ⟨_, h, r⟩ := h; exact ⟨_, e.trans h, r.mono le⟩
  | lst xs => obtain ⟨_, h, r⟩ := h; exact ⟨_, e.trans h, r.mono le⟩
  | obj c fs => obtain ⟨_, _, _, q, h, r⟩ := h; exact ⟨_, _, _, q, e.trans h, r.mono le⟩
theorem FOk.rho {G : Gam} {w : Wd} {S : List Cell} {H : Hp} (h : FOk G w S H) {a : Addr} (ha : a ∈ w.ρ) : ∃ o, H a = some o := by
  obtain ⟨n, hn, e⟩ := List.getElem_of_mem ha
  have h1 : w.ρ[n]? = some a := by rw [List.getElem?_eq_getElem hn, e]
  have h2 : n < S.length := by rw [← h.len]; exact hn
  exact (h.cel n a _ h1 (List.getElem?_eq_getElem h2)).there
/-- from one state to a later one: what may have changed -/
structure Nx (w : Wd) (H : Hp) (w' : Wd) (H' : Hp) : Prop where
  le : w.le w'
  keep : ∀ a o, H a = some o → a ∉ w.ρ → H' a = some o
  newF : ∀ a, w'.F a ≠ none → w.F a ≠ none ∨ H a = none
  newR : ∀ a, a ∈ w'.ρ → a ∈ w.ρ ∨ H a = none
theorem Nx.refl (w : Wd) (H : Hp) : Nx w H w H := ⟨.refl w, fun _ _ h _ => h, fun _ h => .inl h, fun _ h => .inl h⟩
theorem Nx.trans {G : Gam} {w w1 w2 : Wd} {H H1 H2 : Hp} {S1 : List Cell} (a : Nx w H w1 H1) (f : FOk G w1 S1 H1) (b : Nx w1 H1 w2 H2) : Nx w H w2 H2 := by
  have back : ∀ x, H1 x = none → H x = none := fun x h => by
    cases e : H x with
    | none => rfl
    | some o =>
      by_cases hx : x ∈ w.ρ
      · obtain ⟨o', q⟩ := f.rho (a.le.r.subset hx)
        rw [q] at h; cases h
      · rw [a.keep x o e hx] at h; cases h
  refine ⟨a.le.trans b.le, fun x o e n => ?_, fun x h => ?_, fun x h => ?_⟩
  · refine b.keep x o (a.keep x o e n) fun q => ?_
    rcases a.newR x q with z | z
    · exact n z
    · rw [z] at e; cases e
  · rcases b.newF x h with z | z
    · exact a.newF x z
    · exact .inr (back x z)
  · rcases b.newR x h with z | z
    · exact a.newR x z
    · exact .inr (back x z)
def OwnOk (G : Gam) (w : Wd) (H : Hp) (a : Addr) : Sl → Prop
  | .ol xs => ∃ vs, H a = some (.lst vs) ∧ Reps G w vs xs
  | .od kvs => ∃ vs, H a = some (.dK vs) ∧ RepK G w vs kvs
  | .oi c fs => ∃ C dx vs, G.ct c = some C ∧ H a = some (.ins C dx vs) ∧ RepF G w vs fs
  | _ => False
/-- a frame's base: the world and the heap at its entry; objects that are set apart -/
structure Bs where
  B : Wd
  H : Hp
  γ : List (Addr × HO)
  me : Option Addr
/-- the state of a frame -/
structure Ok (G : Gam) (κ : Bs) (w : Wd) (s : DS) (σ : L2.St) (H : Hp) : Prop where
  fok : FOk G w s.st H
  nx : Nx κ.B κ.H w H
  len : s.sl.length = σ.length
  val : ∀ (i : Nat) (d : D), s.sl[i]? = some (.val d) → ∃ v, σ[i]? = some (some v) ∧ Rep G w v d
  own : ∀ (i : Nat) (x : Sl), s.sl[i]? = some x → x.own = true → ∃ a, σ[i]? = some (some (.ref a)) ∧ OwnOk G w H a x ∧ w.F a = none ∧ a ∉ w.ρ ∧ κ.H a = none
  ne : ∀ (i j : Nat) (x y : Sl) (a : Addr), s.sl[i]? = some x → s.sl[j]? = some y → x.own = true → y.own = true → σ[i]? = some (some (.ref a)) → σ[j]? = some (some (.ref a)) → i = j
  gam : ∀ p ∈ κ.γ, H p.1 = some p.2 ∧ w.F p.1 = none ∧ p.1 ∉ w.ρ ∧ κ.H p.1 = none ∧ ∀ (i : Nat) (x : Sl), s.sl[i]? = some x → x.own = true → σ[i]? ≠ some (some (.ref p.1))
  me : ∀ a, κ.me = some a → ∀ c fs, s.sl[0]? = some (.oi c fs) → σ[0]? = some (some (.ref a))
theorem OwnOk.there {G : Gam} {w : Wd} {H : Hp} {a : Addr} {c : Sl} (h : OwnOk G w H a c) : ∃ o, H a = some o := by
  cases c with
  | ol xs => obtain ⟨_, h, _⟩ := h; exact ⟨_, h⟩
  | od xs => obtain ⟨_, h, _⟩ := h; exact ⟨_, h⟩
  | oi c fs => obtain ⟨_, _, _, _, h, _⟩ := h; exact ⟨_, h⟩
  | un => exact h.elim
  | val _ => exact h.elim
theorem OwnOk.mono {G : Gam} {w w' : Wd} {H H' : Hp} {a : Addr} {c : Sl} (h : OwnOk G w H a c) (le : w.le w') (e : H' a = H a) : OwnOk G w' H' a c := by
  cases c with
  | ol xs => obtain ⟨_, h, r⟩ := h; exact ⟨_, e.trans h, r.mono le⟩
  | od xs => obtain ⟨_, h, r⟩ := h; exact ⟨_, e.trans h, r.mono le⟩
  | oi c fs => obtain ⟨_, _, _, q, h, r⟩ := h; exact ⟨_, _, _, q, e.trans h, r.mono le⟩
  | un => exact h.elim
  | val _ => exact h.elim
section
variable {G : Gam} {κ : Bs} {w w' : Wd} {s : DS} {σ : L2.St} {H H' : Hp} {S' : List Cell}
/-- a step that leaves the slots as they are -/
theorem Ok.step (h : Ok G κ w s σ H) (n : Nx w H w' H') (f : FOk G w' S' H') : Ok G κ w' ⟨s.sl, S'⟩ σ H' := by
  have nF : ∀ a o, H a = some o → w.F a = none → w'.F a = none := fun a ob he h3 => by
    cases q : w'.F a with
    | none => rfl
    | some o =>
      rcases n.newF a (by rw [q]; exact fun z => nomatch z) with z | z
      · exact absurd h3 z
      · rw [he] at z; cases z
  have nR : ∀ a o, H a = some o → a ∉ w.ρ → a ∉ w'.ρ := fun a ob he h4 q => by
    rcases n.newR a q with z | z
    · exact h4 z
    · rw [he] at z; cases z
  refine ⟨f, h.nx.trans h.fok n, h.len, fun i d e => ?_, fun i x e o => ?_, h.ne, fun p hp => ?_, h.me⟩
  · obtain ⟨v, h1, h2⟩ := h.val i d e
    exact ⟨v, h1, h2.mono n.le⟩
  · obtain ⟨a, h1, h2, h3, h4, h5⟩ := h.own i x e o
    obtain ⟨ob, he⟩ := h2.there
    exact ⟨a, h1, h2.mono n.le ((n.keep a ob he h4).trans he.symm), nF a ob he h3, nR a ob he h4, h5⟩
  · obtain ⟨h1, h2, h3, h4, h5⟩ := h.gam p hp
    exact ⟨n.keep _ _ h1 h3, nF _ _ h1 h2, nR _ _ h1 h3, h4, h5⟩
/-- a new frozen object -/
theorem FOk.alloc {S : List Cell} (h : FOk G w S H) {p : Addr} (hp : H p = none) (o : HO) : FOk G ⟨upd w.F p o, w.ρ⟩ S (upd H p o) ∧ Nx w H ⟨upd w.F p o, w.ρ⟩ (upd H p o) := by
  have le : w.le ⟨upd w.F p o, w.ρ⟩ := ⟨fun a u e => by
    show upd w.F p o a = some u
    rw [upd_ne (ne_of_none (h.sub a u e) hp)]
    exact e, List.prefix_refl _⟩
  have np : p ∉ w.ρ := fun q => by
    obtain ⟨o, e⟩ := h.rho q
    rw [hp] at e; cases e
  refine ⟨⟨fun a u e => ?_, h.len, fun n a c e1 e2 => ?_, h.nd, fun a ha => ?_⟩, ⟨le, fun a u e _ => ?_, fun a q => ?_, fun a q => .inl q⟩⟩
  · by_cases z : a = p
    · subst z
      have e : upd w.F a o a = some u := e
      rw [upd_same] at e ⊢
      exact e
    · have e : upd w.F p o a = some u := e
      rw [upd_ne z] at e ⊢
      exact h.sub a u e
  · refine (h.cel n a c e1 e2).mono le (upd_ne fun z => ?_)
    subst z
    exact np (List.mem_of_getElem? e1)
  · show upd w.F p o a = none
    rw [upd_ne (show a ≠ p from fun z => np (by rw [← z]; exact ha))]
    exact h.nf a ha
  · rw [upd_ne (ne_of_none e hp)]
    exact e
  · by_cases z : a = p
    · subst z; exact .inr hp
    · have q : upd w.F p o a ≠ none := q
      rw [upd_ne z] at q
      exact .inl q
theorem Ok.alloc (h : Ok G κ w s σ H) {p : Addr} (hp : H p = none) (o : HO) : w.le ⟨upd w.F p o, w.ρ⟩ ∧ Ok G κ ⟨upd w.F p o, w.ρ⟩ s σ (upd H p o) := by
  obtain ⟨f, n⟩ := h.fok.alloc hp o
  exact ⟨n.le, h.step n f⟩
end
end DL
set_option maxRecDepth 100000
set_option maxHeartbeats 4000000
set_option autoImplicit false
namespace DL
open PySem PySem.Spec PyProof.Rows L2
/-! ### what is wanted behind a piece of code -/
def RepX (G : Gam) (w : Wd) (c : Value) (dd : Option Addr) (x : Xc) : Prop :=
  ∃ C, G.ct x.cls = some C ∧ c = .ref C ∧ ((x.fs = [] ∧ dd = none) ∨ ∃ a vs, dd = some a ∧ w.F a = some (.xd vs) ∧ RepF G w vs x.fs)
section
variable (G : Gam) (W : WX)
def PostG {α β : Type} (rep : Wd → β → α → Prop) (κ : Bs) (w : Wd) (σ : L2.St) (r : Res DS α) (Q : β → Hp → Prop) : Prop := match r with
  | .ok d s' => ∀ w' v H', w.le w' → Ok G κ w' s' σ H' → rep w' v d → Q v H'
  | .exc x s' => ∀ w' c dd H', w.le w' → Ok G κ w' s' σ H' → RepX G w' c dd x → W c dd σ H'
  | .stuck => False
def tD (f : DE) : TE := fun σ H Q => ∃ κ w s, Ok G κ w s σ H ∧ PostG G W (Rep G) κ w σ (f s) Q
def tDT (f : DT) : TT := fun σ H Q => ∃ κ w s, Ok G κ w s σ H ∧ PostG G W (fun _ (v : Bool) d => v = d) κ w σ (f s) Q
def tDA (f : DA) : TA := fun σ H Q => ∃ κ w s, Ok G κ w s σ H ∧ PostG G W (Reps G) κ w σ (f s) Q
def PostS (κ : Bs) (w : Wd) (r : Res DS Out) (N : Ends) : Prop := match r with
  | .ok .nx s' => ∀ w' σ' H', w.le w' → Ok G κ w' s' σ' H' → N.nx σ' H'
  | .ok .bk s' => ∀ w' σ' H', w.le w' → Ok G κ w' s' σ' H' → N.bk σ' H'
  | .ok .ct s' => ∀ w' σ' H', w.le w' → Ok G κ w' s' σ' H' → N.ct σ' H'
  | .ok (.rt d) s' => ∀ w' σ' v H', w.le w' → Ok G κ w' s' σ' H' → Rep G w' v d → N.rt v H'
  | .exc x s' => ∀ w' σ' c dd H', w.le w' → Ok G κ w' s' σ' H' → RepX G w' c dd x → W c dd σ' H'
  | .stuck => False
def tDS (f : DStm) : TS := fun N σ H => ∃ κ w s, Ok G κ w s σ H ∧ PostS G W κ w (f s) N
end
section
variable {G : Gam} {W : WX} {α β γ δ : Type} {rep : Wd → β → α → Prop} {rep' : Wd → δ → γ → Prop} {κ : Bs} {w w1 : Wd} {σ : L2.St}
theorem PostG.mono {r : Res DS α} {Q : β → Hp → Prop} (le : w.le w1) (h : PostG G W rep κ w σ r Q) : PostG G W rep κ w1 σ r Q := by
  cases r with
  | ok d s' => exact fun w' v H' l o r => h w' v H' (le.trans l) o r
  | exc x s' => exact fun w' c dd H' l o r => h w' c dd H' (le.trans l) o r
  | stuck => exact h
theorem PostG.imp {r : Res DS α} {Q Q' : β → Hp → Prop} (h : PostG G W rep κ w σ r Q) (k : ∀ v H, Q v H → Q' v H) : PostG G W rep κ w σ r Q' := by
  cases r with
  | ok d s' => exact fun w' v H' l o r => k _ _ (h w' v H' l o r)
  | exc x s' => exact h
  | stuck => exact h
/-- behind the first of two -/
theorem PostG.bind {r : Res DS α} {k : α → DS → Res DS γ} {Q : δ → Hp → Prop} (h : PostG G W rep' κ w σ (r.bind k) Q) :
    PostG G W rep κ w σ r (fun v H1 => ∃ d s1 w1, w.le w1 ∧ Ok G κ w1 s1 σ H1 ∧ rep w1 v d ∧ PostG G W rep' κ w1 σ (k d s1) Q) := by
  cases r with
  | ok d s' => exact fun w' v H' l o r => ⟨d, s', w', l, o, r, PostG.mono l h⟩
  | exc x s' => exact h
  | stuck => exact h
theorem PostS.mono {r : Res DS Out} {N : Ends} (le : w.le w1) (h : PostS G W κ w r N) : PostS G W κ w1 r N := by
  cases r with
  | ok o s' =>
    cases o with
    | nx => exact fun w' σ' H' l o => h w' σ' H' (le.trans l) o
    | bk => exact fun w' σ' H' l o => h w' σ' H' (le.trans l) o
    | ct => exact fun w' σ' H' l o => h w' σ' H' (le.trans l) o
    | rt d => exact fun w' σ' v H' l o r => h w' σ' v H' (le.trans l) o r
  | exc x s' => exact fun w' σ' c dd H' l o r => h w' σ' c dd H' (le.trans l) o r
  | stuck => exact h
/-- an expression, then a statement's end -/
theorem PostG.bindS {r : Res DS α} {k : α → DS → Res DS Out} {N : Ends} (h : PostS G W κ w (r.bind k) N) :
    PostG G W rep κ w σ r (fun v H1 => ∃ d s1 w1, w.le w1 ∧ Ok G κ w1 s1 σ H1 ∧ rep w1 v d ∧ PostS G W κ w1 (k d s1) N) := by
  cases r with
  | ok d s' => exact fun w' v H' l o r => ⟨d, s', w', l, o, r, PostS.mono l h⟩
  | exc x s' => exact fun w' c dd H' l o r => h w' σ c dd H' l o r
  | stuck => exact h
end
theorem _root_.L2.PE.imp {X : Cx} {e : Expr} {t t' : TE} (h : PE X e t) (k : ∀ σ H Q, t' σ H Q → t σ H Q) : PE X e t' := ⟨fun pins s σ H Q I q => h.run pins s σ H Q I (k σ H Q q)⟩
theorem _root_.L2.PT.imp {X : Cx} {e : Expr} {t t' : TT} (h : PT X e t) (k : ∀ σ H Q, t' σ H Q → t σ H Q) : PT X e t' := ⟨fun pins s σ H Q I q => h.run pins s σ H Q I (k σ H Q q)⟩
theorem _root_.L2.PA.imp {X : Cx} {e : List Expr} {t t' : TA} (h : PA X e t) (k : ∀ σ H Q, t' σ H Q → t σ H Q) : PA X e t' := ⟨fun pos pins s σ H Q I q => h.run pos pins s σ H Q I (k σ H Q q)⟩
theorem _root_.L2.PS.imp {X : Cx} {e : Stmt} {t t' : TS} (h : PS X e t) (k : ∀ D σ H, t' D σ H → t D σ H) : PS X e t' := ⟨fun pins s σ H D I q => h.run pins s σ H D I (k D σ H q)⟩
theorem _root_.L2.PSs.imp {X : Cx} {e : List Stmt} {t t' : TS} (h : PSs X e t) (k : ∀ D σ H, t' D σ H → t D σ H) : PSs X e t' := ⟨fun pins s σ H D I q => h.run pins s σ H D I (k D σ H q)⟩
abbrev PD (G : Gam) (W : WX) (X : Cx) (e : Expr) (f : DE) : Prop := PE X e (tD G W f)
abbrev PDT (G : Gam) (W : WX) (X : Cx) (e : Expr) (f : DT) : Prop := PT X e (tDT G W f)
abbrev PDA (G : Gam) (W : WX) (X : Cx) (es : List Expr) (f : DA) : Prop := PA X es (tDA G W f)
abbrev PDS (G : Gam) (W : WX) (X : Cx) (st : Stmt) (f : DStm) : Prop := PS X st (tDS G W f)
abbrev PDSs (G : Gam) (W : WX) (X : Cx) (st : List Stmt) (f : DStm) : Prop := PSs X st (tDS G W f)
section
variable {G : Gam} {W : WX} {X : Cx}
/-! ### constants, names -/
def eC (d : D) : DE := fun s => .ok d s
theorem pd_c {e : Expr} {v : V} {d : D} (h : PE X e (tC v)) (r : ∀ w, Rep G w v d) : PD G W X e (eC d) :=
  h.imp fun σ H Q ⟨κ, w, s, ok, q⟩ => q w v H (.refl w) ok (r w)
theorem pd_int {i : Int} {j : Nat} {pos : Pos} : PD G W X (.Constant (.int i) j pos) (eC (.int i)) := pd_c pe_int fun _ => .int i
theorem pd_bl {b : Bool} {j : Nat} {pos : Pos} : PD G W X (.Constant (.bool b) j pos) (eC (.bl b)) := pd_c pe_bl fun _ => .bl b
theorem pd_non {j : Nat} {pos : Pos} : PD G W X (.Constant .none j pos) (eC .non) := pd_c pe_non fun _ => .non
theorem pd_str {x : Str} {l : Nm} {j : Nat} {pos : Pos} (h : x = nm l) : PD G W X (.Constant (.str x) j pos) (eC (.str l)) := pd_c pe_str fun _ => by rw [h]; exact .str l
theorem pd_glob {x : Str} {v : V} {u : Value} {d : D} {pos : Pos} (hg : Gl X x) (hm : X.mg x = some u) (r : RelV v u) (rd : ∀ w, Rep G w v d) (hd : (x == ("__debug__" : Str)) = false := by decide) : PD G W X (.Name x pos) (eC d) :=
  pd_c (pe_glob hg hm r hd) rd
def eVar (i : Nat) : DE := fun s => match s.sl[i]? with
  | some (.val d) => .ok d s
  | some (.ol xs) => .ok (.lst xs) ⟨s.sl.set i (.val (.lst xs)), s.st⟩
  | some (.od kvs) => .ok (.dic kvs) ⟨s.sl.set i (.val (.dic kvs)), s.st⟩
  | some (.oi c fs) => .ok (.ins c fs) ⟨s.sl.set i (.val (.ins c fs)), s.st⟩
  | _ => .stuck
theorem Ok.freeze {κ : Bs} {w : Wd} {s : DS} {σ : L2.St} {H : Hp} (h : Ok G κ w s σ H) {i : Nat} {x : Sl} {a : Addr} {o : HO} {d : D} (hx : s.sl[i]? = some x) (own : x.own = true) (ha : σ[i]? = some (some (.ref a)))
    (ho : H a = some o) (hd : ∀ w' : Wd, w.le w' → w'.F a = some o → Rep G w' (.ref a) d) :
    w.le ⟨upd w.F a o, w.ρ⟩ ∧ Ok G κ ⟨upd w.F a o, w.ρ⟩ ⟨s.sl.set i (.val d), s.st⟩ σ H := by
  obtain ⟨a', h1, h2, h3, h4, h5⟩ := h.own i x hx own
  rw [ha] at h1
  cases h1
  have le : w.le ⟨upd w.F a o, w.ρ⟩ := ⟨fun b u e => by
    show upd w.F a o b = some u
    rw [upd_ne (ne_of_none e h3)]
    exact e, List.prefix_refl _⟩
  have hil : i < s.sl.length := (List.getElem?_eq_some_iff.mp hx).1
  have sub : ∀ (b : Addr) (u : HO), upd w.F a o b = some u → H b = some u := fun b u e => by
    by_cases z : b = a
    · subst z
      rw [upd_same] at e
      cases e
      exact ho
    · rw [upd_ne z] at e
      exact h.fok.sub b u e
  have fok : FOk G ⟨upd w.F a o, w.ρ⟩ s.st H := ⟨sub, h.fok.len, fun n b c e1 e2 => (h.fok.cel n b c e1 e2).mono le rfl, h.fok.nd, fun b hb => by
    show upd w.F a o b = none
    rw [upd_ne (show b ≠ a from fun z => h4 (by rw [← z]; exact hb))]
    exact h.fok.nf b hb⟩
  refine ⟨le, ⟨fok, ⟨h.nx.le.trans le, h.nx.keep, fun b q => ?_, h.nx.newR⟩, by rw [List.length_set]; exact h.len, fun j e hj => ?_, fun j y hj oy => ?_, fun j k y z b hj hk oy oz e1 e2 => ?_, fun p hp => ?_, fun b hb c fs e => ?_⟩⟩
  · by_cases z : b = a
    · subst z; exact .inr h5
    · have q : upd w.F a o b ≠ none := q
      rw [upd_ne z] at q
      exact h.nx.newF b q
  · by_cases z : j = i
    · subst z
      rw [List.getElem?_set_self hil] at hj
      cases hj
      exact ⟨_, ha, hd _ le upd_same⟩
    · rw [List.getElem?_set_ne (Ne.symm z)] at hj
      obtain ⟨v, q1, q2⟩ := h.val j e hj
      exact ⟨v, q1, q2.mono le⟩
  · by_cases z : j = i
    · subst z
      rw [List.getElem?_set_self hil] at hj
      cases hj
      cases oy
    · rw [List.getElem?_set_ne (Ne.symm z)] at hj
      obtain ⟨b, q1, q2, q3, q4, q5⟩ := h.own j y hj oy
      refine ⟨b, q1, q2.mono le rfl, ?_, q4, q5⟩
      show upd w.F a o b = none
      rw [upd_ne (show b ≠ a from fun e => z (h.ne j i y x b hj hx oy own q1 (by rw [e]; exact ha)))]
      exact q3
  · have nj : j ≠ i := fun z => by
      subst z
      rw [List.getElem?_set_self hil] at hj
      cases hj
      cases oy
    have nk : k ≠ i := fun z => by
      subst z
      rw [List.getElem?_set_self hil] at hk
      cases hk
      cases oz
    rw [List.getElem?_set_ne (Ne.symm nj)] at hj
    rw [List.getElem?_set_ne (Ne.symm nk)] at hk
    exact h.ne j k y z b hj hk oy oz e1 e2
  · obtain ⟨q1, q2, q3, q4, q5⟩ := h.gam p hp
    refine ⟨q1, ?_, q3, q4, fun j y hj oy => ?_⟩
    · show upd w.F a o p.1 = none
      rw [upd_ne (show p.1 ≠ a from fun e => q5 i x hx own (by rw [ha, e]))]
      exact q2
    · have nj : j ≠ i := fun z => by
        subst z
        rw [List.getElem?_set_self hil] at hj
        cases hj
        cases oy
      rw [List.getElem?_set_ne (Ne.symm nj)] at hj
      exact q5 j y hj oy
  · by_cases z : i = 0
    · subst z
      rw [List.getElem?_set_self hil] at e
      cases e
    · rw [List.getElem?_set_ne z] at e
      exact h.me b hb c fs e
theorem pd_var {i : Nat} {x : Str} {pos : Pos} (h : PE X (.Name x pos) (tVar i)) : PD G W X (.Name x pos) (eVar i) := h.imp fun σ H Q ⟨κ, w, s, ok, q⟩ => by
  unfold eVar at q
  cases e : s.sl[i]? with
  | none => rw [e] at q; exact q.elim
  | some x =>
    rw [e] at q
    cases x with
    | un => exact q.elim
    | val d =>
      obtain ⟨v, h1, h2⟩ := ok.val i d e
      exact ⟨v, h1, q w v H (.refl w) ok h2⟩
    | ol xs =>
      obtain ⟨a, h1, ⟨vs, h2, h3⟩, _⟩ := ok.own i _ e rfl
      obtain ⟨le, ok'⟩ := ok.freeze (d := .lst xs) e rfl h1 h2 fun w' l f => .lst f (h3.mono l)
      exact ⟨_, h1, q _ _ H le ok' (.lst upd_same (h3.mono le))⟩
    | od xs =>
      obtain ⟨a, h1, ⟨vs, h2, h3⟩, _⟩ := ok.own i _ e rfl
      obtain ⟨le, ok'⟩ := ok.freeze (d := .dic xs) e rfl h1 h2 fun w' l f => .dic f (h3.mono l)
      exact ⟨_, h1, q _ _ H le ok' (.dic upd_same (h3.mono le))⟩
    | oi c fs =>
      obtain ⟨a, h1, ⟨C, dx, vs, hC, h2, h3⟩, _⟩ := ok.own i _ e rfl
      obtain ⟨le, ok'⟩ := ok.freeze (d := .ins c fs) e rfl h1 h2 fun w' l f => .ins hC f (h3.mono l)
      exact ⟨_, h1, q _ _ H le ok' (.ins hC upd_same (h3.mono le))⟩
/-! ### operators -/
def eOp2 (o : D → D → Option D) (fa fb : DE) : DE := fun s => (fa s).bind fun x s1 => (fb s1).bind fun y s2 => match o x y with
  | some d => .ok d s2
  | none => .stuck
/-- an operator by data -/
def OpD (G : Gam) (X : Cx) (f : Value → Value → Sem Value) (o : D → D → Option D) : Prop := ∃ r, OpR X f r ∧ ∀ (κ : Bs) (w : Wd) (s : DS) (σ : L2.St) (H : Hp) (x y : V) (dx dy d : D) (Q : VK),
  Ok G κ w s σ H → Rep G w x dx → Rep G w y dy → o dx dy = some d → (∀ w' v H', w.le w' → Ok G κ w' s σ H' → Rep G w' v d → Q v H') → r x y H Q
theorem op2 {r : R2} {o : D → D → Option D} {fa fb : DE} {σ : L2.St} {H : Hp} {Q : VK}
    (hr : ∀ (κ : Bs) (w : Wd) (s : DS) (σ : L2.St) (H : Hp) (x y : V) (dx dy d : D) (Q : VK), Ok G κ w s σ H → Rep G w x dx → Rep G w y dy → o dx dy = some d → (∀ w' v H', w.le w' → Ok G κ w' s σ H' → Rep G w' v d → Q v H') → r x y H Q)
    (h : tD G W (eOp2 o fa fb) σ H Q) : tOp r (tD G W fa) (tD G W fb) σ H Q := by
  obtain ⟨κ, w, s, ok, q⟩ := h
  refine ⟨κ, w, s, ok, (PostG.bind q).imp fun v H1 ⟨d, s1, w1, le, ok1, r1, q1⟩ => ?_⟩
  refine ⟨κ, w1, s1, ok1, (PostG.bind q1).imp fun v2 H2 ⟨d2, s2, w2, le2, ok2, r2, q2⟩ => ?_⟩
  cases e : o d d2 with
  | none => rw [e] at q2; exact q2.elim
  | some z => rw [e] at q2; exact hr κ w2 s2 σ H2 v v2 d d2 z Q ok2 (r1.mono le2) r2 e q2
theorem pd_op {op : Operator} {o : D → D → Option D} {a b : Expr} {fa fb : DE} {pos : Pos} (ho : OpD G X (binaryOp op) o) (ha : PD G W X a fa) (hb : PD G W X b fb) : PD G W X (.BinOp a op b pos) (eOp2 o fa fb) := by
  obtain ⟨r, h1, h2⟩ := ho
  exact (pe_op h1 ha hb).imp fun σ H Q h => op2 h2 h
theorem pd_cmp {op : CmpOp} {o : D → D → Option D} {a b : Expr} {fa fb : DE} {pos : Pos} (ho : OpD G X (compareOp op) o) (ha : PD G W X a fa) (hb : PD G W X b fb) (hm : behindInMarks op b = false) : PD G W X (.Compare a [op] [b] pos) (eOp2 o fa fb) := by
  obtain ⟨r, h1, h2⟩ := ho
  exact (pe_cmpR h1 ha hb hm).imp fun σ H Q h => op2 h2 h
/-- a value that is a bool, as a test -/
def eB (f : DE) : DT := fun s => (f s).bind fun d s1 => match d with
  | .bl b => .ok b s1
  | _ => .stuck
theorem tB_of {f : DE} {σ : L2.St} {H : Hp} {Q : Bool → Hp → Prop} (h : tDT G W (eB f) σ H Q) : tD G W f σ H fun x H1 => ∃ c, x = .bl c ∧ Q c H1 := by
  obtain ⟨κ, w, s, ok, q⟩ := h
  refine ⟨κ, w, s, ok, (PostG.bind q).imp fun v H1 ⟨d, s1, w1, le, ok1, r1, q1⟩ => ?_⟩
  cases r1 with
  | bl b => exact ⟨b, rfl, q1 w1 b H1 (.refl _) ok1 rfl⟩
  | _ => exact q1.elim
theorem ptd_val {e : Expr} {f : DE} (h : PD G W X e f) (he : ∀ whole, isTrue e X.env whole = (do let v ← whole; standAt e.pos; holding [v] (truthy v)) := by intro _; rfl) : PDT G W X e (eB f) :=
  (pt_val h he).imp fun σ H Q q => tB_of q
theorem ptd_cmp {op : CmpOp} {o : D → D → Option D} {a b : Expr} {fa fb : DE} {pos : Pos} (ho : OpD G X (compareOp op) o) (ha : PD G W X a fa) (hb : PD G W X b fb) (hm : behindInMarks op b = false) : PDT G W X (.Compare a [op] [b] pos) (eB (eOp2 o fa fb)) := by
  obtain ⟨r, h1, h2⟩ := ho
  exact (pt_cmpR h1 ha hb hm).imp fun σ H Q h => op2 h2 (tB_of h)
/-! ### and, or, not, if -/
def bAnd (f g : DT) : DT := fun s => (f s).bind fun b s1 => if b = true then g s1 else .ok false s1
def bOr (f g : DT) : DT := fun s => (f s).bind fun b s1 => if b = true then .ok true s1 else g s1
def bNot (f : DT) : DT := fun s => (f s).bind fun b s1 => .ok (!b) s1
abbrev PDW (G : Gam) (W : WX) (X : Cx) (e : Expr) (f : DT) : Prop := PW X e (tDT G W f)
theorem _root_.L2.PW.imp {X : Cx} {e : Expr} {t t' : TT} (h : PW X e t) (k : ∀ σ H Q, t' σ H Q → t σ H Q) : PW X e t' := ⟨fun wh pins s σ H Q I q => h.run wh pins s σ H Q I (k σ H Q q)⟩
theorem pwd_and1 {a : Expr} {f : DT} {pos : Pos} (h : PDT G W X a f) : PDW G W X (.BoolOp .And [a] pos) f := pw_and1 h
theorem pwd_or1 {a : Expr} {f : DT} {pos : Pos} (h : PDT G W X a f) : PDW G W X (.BoolOp .Or [a] pos) f := pw_or1 h
theorem pwd_and {a b : Expr} {r : List Expr} {f g : DT} {pos : Pos} (h : PDT G W X a f) (k : PDW G W X (.BoolOp .And (b :: r) pos) g) : PDW G W X (.BoolOp .And (a :: b :: r) pos) (bAnd f g) :=
  (pw_and h k).imp fun σ H Q ⟨κ, w, s, ok, q⟩ => ⟨κ, w, s, ok, (PostG.bind q).imp fun v H1 ⟨d, s1, w1, le, ok1, r1, q1⟩ => by
    subst r1
    cases v with
    | true => exact ⟨κ, w1, s1, ok1, q1⟩
    | false => exact q1 w1 false H1 (.refl _) ok1 rfl⟩
theorem pwd_or {a b : Expr} {r : List Expr} {f g : DT} {pos : Pos} (h : PDT G W X a f) (k : PDW G W X (.BoolOp .Or (b :: r) pos) g) : PDW G W X (.BoolOp .Or (a :: b :: r) pos) (bOr f g) :=
  (pw_or h k).imp fun σ H Q ⟨κ, w, s, ok, q⟩ => ⟨κ, w, s, ok, (PostG.bind q).imp fun v H1 ⟨d, s1, w1, le, ok1, r1, q1⟩ => by
    subst r1
    cases v with
    | false => exact ⟨κ, w1, s1, ok1, q1⟩
    | true => exact q1 w1 true H1 (.refl _) ok1 rfl⟩
theorem ptd_not {a : Expr} {f : DT} {pos : Pos} (h : PDT G W X a f) : PDT G W X (.UnaryOp .Not a pos) (bNot f) :=
  (pt_not h).imp fun σ H Q ⟨κ, w, s, ok, q⟩ => ⟨κ, w, s, ok, (PostG.bind q).imp fun v H1 ⟨d, s1, w1, le, ok1, r1, q1⟩ => by
    subst r1
    exact q1 w1 _ H1 (.refl _) ok1 rfl⟩
/-- as values -/
def eAnd (f g : DE) : DE := fun s => (f s).bind fun d s1 => match d with
  | .bl b => if b = true then g s1 else .ok (.bl false) s1
  | _ => .stuck
def eOr (f g : DE) : DE := fun s => (f s).bind fun d s1 => match d with
  | .bl b => if b = true then .ok (.bl true) s1 else g s1
  | _ => .stuck
def eNot (f : DE) : DE := fun s => (f s).bind fun d s1 => match d with
  | .bl b => .ok (.bl (!b)) s1
  | _ => .stuck
theorem pd_one {op : PySem.BoolOp} {a : Expr} {f : DE} {pos : Pos} (h : PD G W X a f) : PD G W X (.BoolOp op [a] pos) f := pe_one h
theorem pd_and {a b : Expr} {r : List Expr} {f g : DE} {pos : Pos} (h : PD G W X a f) (k : PD G W X (.BoolOp .And (b :: r) pos) g) : PD G W X (.BoolOp .And (a :: b :: r) pos) (eAnd f g) :=
  (pe_and h k).imp fun σ H Q ⟨κ, w, s, ok, q⟩ => ⟨κ, w, s, ok, (PostG.bind q).imp fun v H1 ⟨d, s1, w1, le, ok1, r1, q1⟩ => by
    cases r1 with
    | bl b =>
      refine ⟨b, rfl, ?_⟩
      cases b with
      | true => exact ⟨κ, w1, s1, ok1, q1⟩
      | false => exact q1 w1 _ H1 (.refl _) ok1 (.bl false)
    | _ => exact q1.elim⟩
theorem pd_or {a b : Expr} {r : List Expr} {f g : DE} {pos : Pos} (h : PD G W X a f) (k : PD G W X (.BoolOp .Or (b :: r) pos) g) : PD G W X (.BoolOp .Or (a :: b :: r) pos) (eOr f g) :=
  (pe_or h k).imp fun σ H Q ⟨κ, w, s, ok, q⟩ => ⟨κ, w, s, ok, (PostG.bind q).imp fun v H1 ⟨d, s1, w1, le, ok1, r1, q1⟩ => by
    cases r1 with
    | bl b =>
      refine ⟨b, rfl, ?_⟩
      cases b with
      | false => exact ⟨κ, w1, s1, ok1, q1⟩
      | true => exact q1 w1 _ H1 (.refl _) ok1 (.bl true)
    | _ => exact q1.elim⟩
theorem pd_not {a : Expr} {f : DE} {pos : Pos} (h : PD G W X a f) : PD G W X (.UnaryOp .Not a pos) (eNot f) :=
  (pe_not h).imp fun σ H Q ⟨κ, w, s, ok, q⟩ => ⟨κ, w, s, ok, (PostG.bind q).imp fun v H1 ⟨d, s1, w1, le, ok1, r1, q1⟩ => by
    cases r1 with
    | bl b => exact ⟨b, rfl, q1 w1 _ H1 (.refl _) ok1 (.bl _)⟩
    | _ => exact q1.elim⟩
def eIf (c : DT) (f g : DE) : DE := fun s => (c s).bind fun b s1 => if b = true then f s1 else g s1
theorem pd_ifExp {c a b : Expr} {fc : DT} {f g : DE} {pos : Pos} (hc : PDT G W X c fc) (h : PD G W X a f) (k : PD G W X b g) : PD G W X (.IfExp c a b pos) (eIf fc f g) :=
  (pe_ifExp hc h k).imp fun σ H Q ⟨κ, w, s, ok, q⟩ => ⟨κ, w, s, ok, (PostG.bind q).imp fun v H1 ⟨d, s1, w1, le, ok1, r1, q1⟩ => by
    subst r1
    cases v with
    | true => exact ⟨κ, w1, s1, ok1, q1⟩
    | false => exact ⟨κ, w1, s1, ok1, q1⟩⟩
/-! ### argument lists -/
def aNil : DA := fun s => .ok [] s
def aCons (f : DE) (g : DA) : DA := fun s => (f s).bind fun d s1 => (g s1).bind fun ds s2 => .ok (d :: ds) s2
theorem pda_nil : PDA G W X [] aNil := pa_nil.imp fun σ H Q ⟨κ, w, s, ok, q⟩ => q w [] H (.refl _) ok .nil
theorem pda_cons {e : Expr} {es : List Expr} {f : DE} {g : DA} (h : PD G W X e f) (k : PDA G W X es g) (hs : starEach (e :: es) X.env = (false, eval e X.env) :: starEach es X.env := by rfl) : PDA G W X (e :: es) (aCons f g) :=
  (pa_cons h k hs).imp fun σ H Q ⟨κ, w, s, ok, q⟩ => ⟨κ, w, s, ok, (PostG.bind q).imp fun v H1 ⟨d, s1, w1, le, ok1, r1, q1⟩ =>
    ⟨κ, w1, s1, ok1, (PostG.bind q1).imp fun v2 H2 ⟨d2, s2, w2, le2, ok2, r2, q2⟩ => q2 w2 _ H2 (.refl _) ok2 (.cons (r1.mono le2) r2)⟩⟩
/-! ### tuples, lists -/
def eTup (g : DA) : DE := fun s => (g s).bind fun ds s1 => if ds.length ≤ 1000 then .ok (.tup ds) s1 else .stuck
theorem sz1000 {n : Nat} (h : n ≤ 1000) : n ≤ sizeLine := Nat.le_of_lt (small1000 h)
theorem pd_tup {es : List Expr} {k : Nat} {g : DA} {pos : Pos} (h : PDA G W X es g) : PD G W X (.Tuple es k pos) (eTup g) :=
  (pe_tup h).imp fun σ H Q ⟨κ, w, s, ok, q⟩ => ⟨κ, w, s, ok, (PostG.bind q).imp fun v H1 ⟨d, s1, w1, le, ok1, r1, q1⟩ => by
    by_cases c : d.length ≤ 1000
    · rw [if_pos c] at q1
      refine ⟨by rw [r1.length]; exact sz1000 c, fun p hp => ?_⟩
      obtain ⟨le2, ok2⟩ := ok1.alloc hp (.tup v)
      exact q1 _ _ _ le2 ok2 (.tup (.inl (.inl upd_same)) (r1.mono le2))
    · rw [if_neg c] at q1
      exact q1.elim⟩
end
end DL
set_option maxRecDepth 100000
set_option maxHeartbeats 4000000
set_option autoImplicit false
namespace DL
open PySem PySem.Spec PyProof.Rows L2
section
variable {G : Gam} {W : WX} {X : Cx} {κ : Bs} {w : Wd} {s : DS} {σ : L2.St} {H : Hp}
/-- an object set apart -/
abbrev Bs.plus (κ : Bs) (a : Addr) (o : HO) : Bs := ⟨κ.B, κ.H, (a, o) :: κ.γ, κ.me⟩
theorem Ok.back (h : Ok G κ w s σ H) {p : Addr} (hp : H p = none) : κ.H p = none := by
  cases e : κ.H p with
  | none => rfl
  | some o =>
    by_cases hx : p ∈ κ.B.ρ
    · obtain ⟨o', q⟩ := h.fok.rho (h.nx.le.r.subset hx)
      rw [q] at hp; cases hp
    · rw [h.nx.keep p o e hx] at hp; cases hp
/-- a new object, set apart -/
theorem Ok.fresh (h : Ok G κ w s σ H) {p : Addr} (hp : H p = none) (o : HO) : Ok G (κ.plus p o) w s σ (upd H p o) := by
  have ne : ∀ {a : Addr} {u : HO}, H a = some u → a ≠ p := fun e => ne_of_none e hp
  have nF : w.F p = none := by
    cases e : w.F p with
    | none => rfl
    | some u => rw [h.fok.sub p u e] at hp; cases hp
  have nR : p ∉ w.ρ := fun q => by
    obtain ⟨u, e⟩ := h.fok.rho q
    rw [e] at hp; cases hp
  refine ⟨⟨fun a u e => ?_, h.fok.len, fun n a c e1 e2 => ?_, h.fok.nd, h.fok.nf⟩, ⟨h.nx.le, fun a u e n => ?_, h.nx.newF, h.nx.newR⟩, h.len, h.val, fun i x e o' => ?_, h.ne, fun q hq => ?_, h.me⟩
  · rw [upd_ne (ne (h.fok.sub a u e))]
    exact h.fok.sub a u e
  · obtain ⟨u, q⟩ := (h.fok.cel n a c e1 e2).there
    exact (h.fok.cel n a c e1 e2).mono (.refl _) (upd_ne (ne q))
  · rw [upd_ne (ne (h.nx.keep a u e n))]
    exact h.nx.keep a u e n
  · obtain ⟨a, h1, h2, h3, h4, h5⟩ := h.own i x e o'
    obtain ⟨u, q⟩ := h2.there
    exact ⟨a, h1, h2.mono (.refl _) (upd_ne (ne q)), h3, h4, h5⟩
  · rcases List.mem_cons.mp hq with rfl | hq
    · refine ⟨upd_same, nF, nR, h.back hp, fun i x e o' z => ?_⟩
      obtain ⟨a, h1, h2, _⟩ := h.own i x e o'
      rw [h1] at z
      cases z
      obtain ⟨u, q⟩ := h2.there
      exact ne q rfl
    · obtain ⟨h1, h2⟩ := h.gam q hq
      exact ⟨by rw [upd_ne (ne h1)]; exact h1, h2⟩
theorem Ok.unplus {a : Addr} {o : HO} (h : Ok G (κ.plus a o) w s σ H) : Ok G κ w s σ H := ⟨h.fok, h.nx, h.len, h.val, h.own, h.ne, fun p hp => h.gam p (List.mem_cons_of_mem _ hp), h.me⟩
/-- what was set apart is frozen (its address is not set apart twice) -/
theorem Ok.frz {a : Addr} {o : HO} (h : Ok G (κ.plus a o) w s σ H) (hγ : ∀ p ∈ κ.γ, p.1 ≠ a) : w.le ⟨upd w.F a o, w.ρ⟩ ∧ Ok G κ ⟨upd w.F a o, w.ρ⟩ s σ H := by
  obtain ⟨ho, h3, h4, h5, h6⟩ := h.gam (a, o) List.mem_cons_self
  have le : w.le ⟨upd w.F a o, w.ρ⟩ := ⟨fun b u e => by
    show upd w.F a o b = some u
    rw [upd_ne (ne_of_none e h3)]
    exact e, List.prefix_refl _⟩
  have sub : ∀ (b : Addr) (u : HO), upd w.F a o b = some u → H b = some u := fun b u e => by
    by_cases z : b = a
    · subst z
      rw [upd_same] at e
      cases e
      exact ho
    · rw [upd_ne z] at e
      exact h.fok.sub b u e
  refine ⟨le, ⟨⟨sub, h.fok.len, fun n b c e1 e2 => (h.fok.cel n b c e1 e2).mono le rfl, h.fok.nd, fun b hb => ?_⟩, ⟨h.nx.le.trans le, h.nx.keep, fun b q => ?_, h.nx.newR⟩, h.len, fun i d e => ?_, fun i x e o' => ?_, h.ne, fun p hp => ?_, h.me⟩⟩
  · show upd w.F a o b = none
    rw [upd_ne (show b ≠ a from fun z => h4 (by rw [← z]; exact hb))]
    exact h.fok.nf b hb
  · by_cases z : b = a
    · subst z; exact .inr h5
    · have q : upd w.F a o b ≠ none := q
      rw [upd_ne z] at q
      exact h.nx.newF b q
  · obtain ⟨v, h1, h2⟩ := h.val i d e
    exact ⟨v, h1, h2.mono le⟩
  · obtain ⟨b, q1, q2, q3, q4, q5⟩ := h.own i x e o'
    refine ⟨b, q1, q2.mono le rfl, ?_, q4, q5⟩
    show upd w.F a o b = none
    rw [upd_ne (show b ≠ a from fun z => h6 i x e o' (by rw [q1, z]))]
    exact q3
  · obtain ⟨q1, q2, q3⟩ := h.gam p (List.mem_cons_of_mem _ hp)
    refine ⟨q1, ?_, q3⟩
    show upd w.F a o p.1 = none
    rw [upd_ne (hγ p hp)]
    exact q2
/-- a slot is set -/
theorem Ok.setVal (h : Ok G κ w s σ H) {v : V} {d : D} (r : Rep G w v d) (i : Nat) : Ok G κ w ⟨s.sl.set i (.val d), s.st⟩ (σ.set i (some v)) H := by
  have back : ∀ (j : Nat) (x : Sl), (s.sl.set i (.val d))[j]? = some x → (j = i ∧ x = .val d ∧ i < s.sl.length) ∨ (j ≠ i ∧ s.sl[j]? = some x) := fun j x e => by
    by_cases z : j = i
    · subst z
      have hl : j < s.sl.length := by
        have := (List.getElem?_eq_some_iff.mp e).1
        rwa [List.length_set] at this
      rw [List.getElem?_set_self hl] at e
      exact .inl ⟨rfl, (Option.some.inj e).symm, hl⟩
    · rw [List.getElem?_set_ne (Ne.symm z)] at e
      exact .inr ⟨z, e⟩
  refine ⟨h.fok, h.nx, by rw [List.length_set, List.length_set]; exact h.len, fun j e hj => ?_, fun j x hj o => ?_, fun j k x y a hj hk ox oy e1 e2 => ?_, fun p hp => ?_, fun b hb c fs e => ?_⟩
  · rcases back j _ hj with ⟨rfl, q, hl⟩ | ⟨z, hj⟩
    · cases q
      exact ⟨v, List.getElem?_set_self (by rw [← h.len]; exact hl), r⟩
    · rw [List.getElem?_set_ne (Ne.symm z)]
      exact h.val j e hj
  · rcases back j _ hj with ⟨rfl, q, hl⟩ | ⟨z, hj⟩
    · subst q; cases o
    · rw [List.getElem?_set_ne (Ne.symm z)]
      exact h.own j x hj o
  · rcases back j _ hj with ⟨rfl, q, hl⟩ | ⟨z, hj⟩
    · subst q; cases ox
    · rcases back k _ hk with ⟨rfl, q, hl⟩ | ⟨z', hk⟩
      · subst q; cases oy
      · rw [List.getElem?_set_ne (Ne.symm z)] at e1
        rw [List.getElem?_set_ne (Ne.symm z')] at e2
        exact h.ne j k x y a hj hk ox oy e1 e2
  · obtain ⟨q1, q2, q3, q4, q5⟩ := h.gam p hp
    refine ⟨q1, q2, q3, q4, fun j x hj o => ?_⟩
    rcases back j _ hj with ⟨rfl, q, hl⟩ | ⟨z, hj⟩
    · subst q; cases o
    · rw [List.getElem?_set_ne (Ne.symm z)]
      exact q5 j x hj o
  · rcases back 0 _ e with ⟨z, q, hl⟩ | ⟨z, e⟩
    · cases q
    · rw [List.getElem?_set_ne (Ne.symm z)]
      exact h.me b hb c fs e
/-- a slot gets what was set apart -/
theorem Ok.setOwn {a : Addr} {o : HO} (h : Ok G (κ.plus a o) w s σ H) (hγ : ∀ p ∈ κ.γ, p.1 ≠ a) {y : Sl} (hy : OwnOk G w H a y) (oy : y.own = true) (hy0 : ∀ c fs, y ≠ .oi c fs) (i : Nat) : Ok G κ w ⟨s.sl.set i y, s.st⟩ (σ.set i (some (.ref a))) H := by
  obtain ⟨ho, h3, h4, h5, h6⟩ := h.gam (a, o) List.mem_cons_self
  have back : ∀ (j : Nat) (x : Sl), (s.sl.set i y)[j]? = some x → (j = i ∧ x = y ∧ i < s.sl.length) ∨ (j ≠ i ∧ s.sl[j]? = some x) := fun j x e => by
    by_cases z : j = i
    · subst z
      have hl : j < s.sl.length := by
        have := (List.getElem?_eq_some_iff.mp e).1
        rwa [List.length_set] at this
      rw [List.getElem?_set_self hl] at e
      exact .inl ⟨rfl, (Option.some.inj e).symm, hl⟩
    · rw [List.getElem?_set_ne (Ne.symm z)] at e
      exact .inr ⟨z, e⟩
  refine ⟨h.fok, h.nx, by rw [List.length_set, List.length_set]; exact h.len, fun j e hj => ?_, fun j x hj o' => ?_, fun j k x z b hj hk ox oz e1 e2 => ?_, fun p hp => ?_, fun b hb c fs e => ?_⟩
  · rcases back j _ hj with ⟨rfl, q, hl⟩ | ⟨z, hj⟩
    · subst q; cases oy
    · rw [List.getElem?_set_ne (Ne.symm z)]
      exact h.val j e hj
  · rcases back j _ hj with ⟨rfl, q, hl⟩ | ⟨z, hj⟩
    · subst q
      exact ⟨a, List.getElem?_set_self (by rw [← h.len]; exact hl), hy, h3, h4, h5⟩
    · rw [List.getElem?_set_ne (Ne.symm z)]
      exact h.own j x hj o'
  · rcases back j _ hj with ⟨ej, q, hl⟩ | ⟨zj, hj⟩
    · rcases back k _ hk with ⟨ek, q', hl'⟩ | ⟨zk, hk⟩
      · rw [ej, ek]
      · rw [ej, List.getElem?_set_self (by rw [← h.len]; exact hl)] at e1
        cases e1
        rw [List.getElem?_set_ne (Ne.symm zk)] at e2
        exact absurd e2 (h6 k z hk oz)
    · rcases back k _ hk with ⟨ek, q', hl'⟩ | ⟨zk, hk⟩
      · rw [ek, List.getElem?_set_self (by rw [← h.len]; exact hl')] at e2
        cases e2
        rw [List.getElem?_set_ne (Ne.symm zj)] at e1
        exact absurd e1 (h6 j x hj ox)
      · rw [List.getElem?_set_ne (Ne.symm zj)] at e1
        rw [List.getElem?_set_ne (Ne.symm zk)] at e2
        exact h.ne j k x z b hj hk ox oz e1 e2
  · obtain ⟨q1, q2, q3, q4, q5⟩ := h.gam p (List.mem_cons_of_mem _ hp)
    refine ⟨q1, q2, q3, q4, fun j x hj o' => ?_⟩
    rcases back j _ hj with ⟨ej, q, hl⟩ | ⟨z, hj⟩
    · rw [ej, List.getElem?_set_self (by rw [← h.len]; exact hl)]
      exact fun e => hγ p hp (by cases e; rfl)
    · rw [List.getElem?_set_ne (Ne.symm z)]
      exact q5 j x hj o'
  · rcases back 0 _ e with ⟨z, q, hl⟩ | ⟨z, e⟩
    · exact absurd q.symm (hy0 c fs)
    · rw [List.getElem?_set_ne (Ne.symm z)]
      exact h.me b hb c fs e
/-- the thing of an own slot is changed -/
theorem Ok.mut (h : Ok G κ w s σ H) {i : Nat} {x y : Sl} {a : Addr} {o : HO} (hx : s.sl[i]? = some x) (ox : x.own = true) (oy : y.own = true) (ha : σ[i]? = some (some (.ref a))) (hy : OwnOk G w (upd H a o) a y) (hxy : ∀ c fs, y = .oi c fs → ∃ c' fs', x = .oi c' fs') :
    Ok G κ w ⟨s.sl.set i y, s.st⟩ σ (upd H a o) := by
  obtain ⟨a', h1, h2, h3, h4, h5⟩ := h.own i x hx ox
  rw [ha] at h1
  cases h1
  have hil : i < s.sl.length := (List.getElem?_eq_some_iff.mp hx).1
  have back : ∀ (j : Nat) (z : Sl), (s.sl.set i y)[j]? = some z → (j = i ∧ z = y) ∨ (j ≠ i ∧ s.sl[j]? = some z) := fun j z e => by
    by_cases q : j = i
    · subst q
      rw [List.getElem?_set_self hil] at e
      exact .inl ⟨rfl, (Option.some.inj e).symm⟩
    · rw [List.getElem?_set_ne (Ne.symm q)] at e
      exact .inr ⟨q, e⟩
  refine ⟨⟨fun b u e => ?_, h.fok.len, fun n b c e1 e2 => ?_, h.fok.nd, h.fok.nf⟩, ⟨h.nx.le, fun b u e n => ?_, h.nx.newF, h.nx.newR⟩, by rw [List.length_set]; exact h.len, fun j d hj => ?_, fun j z hj oz => ?_, fun j k z z' b hj hk oz oz' e1 e2 => ?_, fun p hp => ?_, fun b hb c fs e => ?_⟩
  · rw [upd_ne (ne_of_none e h3)]
    exact h.fok.sub b u e
  · exact (h.fok.cel n b c e1 e2).mono (.refl _) (upd_ne fun z => h4 (by rw [← z]; exact List.mem_of_getElem? e1))
  · rw [upd_ne (ne_of_none e h5)]
    exact h.nx.keep b u e n
  · rcases back j _ hj with ⟨rfl, q⟩ | ⟨_, hj⟩
    · subst q; cases oy
    · exact h.val j d hj
  · rcases back j _ hj with ⟨rfl, q⟩ | ⟨nj, hj⟩
    · subst q
      exact ⟨a, ha, hy, h3, h4, h5⟩
    · obtain ⟨b, q1, q2, q3, q4, q5⟩ := h.own j z hj oz
      exact ⟨b, q1, q2.mono (.refl _) (upd_ne fun e => nj (h.ne j i z x b hj hx oz ox q1 (by rw [e]; exact ha))), q3, q4, q5⟩
  · rcases back j _ hj with ⟨ej, q⟩ | ⟨nj, hj⟩
    · rcases back k _ hk with ⟨ek, q'⟩ | ⟨nk, hk⟩
      · rw [ej, ek]
      · rw [ej] at e1 ⊢
        exact h.ne i k x z' b hx hk ox oz' e1 e2
    · rcases back k _ hk with ⟨ek, q'⟩ | ⟨nk, hk⟩
      · rw [ek] at e2 ⊢
        exact h.ne j i z x b hj hx oz ox e1 e2
      · exact h.ne j k z z' b hj hk oz oz' e1 e2
  · obtain ⟨q1, q2, q3, q4, q5⟩ := h.gam p hp
    have np : p.1 ≠ a := fun e => q5 i x hx ox (by rw [ha, e])
    refine ⟨by rw [upd_ne np]; exact q1, q2, q3, q4, fun j z hj oz => ?_⟩
    rcases back j _ hj with ⟨ej, q⟩ | ⟨nj, hj⟩
    · rw [ej, ha]
      exact fun e => np (by cases e; rfl)
    · exact q5 j z hj oz
  · rcases back 0 _ e with ⟨z, q⟩ | ⟨z, e⟩
    · obtain ⟨c', fs', q'⟩ := hxy c fs q.symm
      subst q'
      subst z
      exact h.me b hb c' fs' hx
    · exact h.me b hb c fs e
/-- a cell of the store is changed -/
theorem Ok.cell (h : Ok G κ w s σ H) {n : Nat} {a : Addr} {c : Cell} {o : HO} (ha : w.ρ[n]? = some a) (hc : CellOk G w (upd H a o) a c) : Ok G κ w ⟨s.sl, s.st.set n c⟩ σ (upd H a o) := by
  have hm : a ∈ w.ρ := List.mem_of_getElem? ha
  have hn : n < w.ρ.length := (List.getElem?_eq_some_iff.mp ha).1
  refine ⟨⟨fun b u e => ?_, by rw [List.length_set]; exact h.fok.len, fun k b c' e1 e2 => ?_, h.fok.nd, h.fok.nf⟩, ⟨h.nx.le, fun b u e q => ?_, h.nx.newF, h.nx.newR⟩, h.len, h.val, fun j z hj oz => ?_, h.ne, fun p hp => ?_, h.me⟩
  · rw [upd_ne (ne_of_none e (h.fok.nf a hm))]
    exact h.fok.sub b u e
  · by_cases z : k = n
    · subst z
      rw [ha] at e1
      cases e1
      rw [List.getElem?_set_self (by rw [← h.fok.len]; exact hn)] at e2
      cases e2
      exact hc
    · rw [List.getElem?_set_ne (Ne.symm z)] at e2
      refine (h.fok.cel k b c' e1 e2).mono (.refl _) (upd_ne fun e => z ?_)
      subst e
      exact nodup_ix_any h.fok.nd e1 ha
  · have hbne : b ≠ a := fun e' => by
      subst e'
      rcases h.nx.newR b hm with z | z
      · exact q z
      · rw [e] at z; cases z
    rw [upd_ne hbne]
    exact h.nx.keep b u e q
  · obtain ⟨b, q1, q2, q3, q4, q5⟩ := h.own j z hj oz
    exact ⟨b, q1, q2.mono (.refl _) (upd_ne fun e => q4 (by rw [e]; exact hm)), q3, q4, q5⟩
  · obtain ⟨q1, q2, q3, q4⟩ := h.gam p hp
    exact ⟨by rw [upd_ne fun e => q3 (by rw [e]; exact hm)]; exact q1, q2, q3, q4⟩
where
  nodup_ix_any {l : List Addr} (hN : l.Nodup) {i j : Nat} {x : Addr} (a : l[i]? = some x) (b : l[j]? = some x) : i = j := by
    obtain ⟨h1, e1⟩ := List.getElem?_eq_some_iff.mp a
    obtain ⟨h2, e2⟩ := List.getElem?_eq_some_iff.mp b
    exact (List.getElem_inj hN).mp (e1.trans e2.symm)
end
end DL
set_option maxRecDepth 100000
set_option maxHeartbeats 4000000
set_option autoImplicit false
namespace DL
open PySem PySem.Spec PyProof.Rows L2
section
variable (G : Gam) (W : WX)
/-- a new list of one's own -/
def PostO (κ : Bs) (w : Wd) (σ : L2.St) (r : Res DS (List D)) (Q : VK) : Prop := match r with
  | .ok xs s' => ∀ w' a vs H', w.le w' → Ok G (κ.plus a (.lst vs)) w' s' σ H' → (∀ p ∈ κ.γ, p.1 ≠ a) → Reps G w' vs xs → Q (.ref a) H'
  | .exc x s' => ∀ w' c dd H', w.le w' → Ok G κ w' s' σ H' → RepX G w' c dd x → W c dd σ H'
  | .stuck => False
def tDo (f : DA) : TE := fun σ H Q => ∃ κ w s, Ok G κ w s σ H ∧ PostO G W κ w σ (f s) Q
end
abbrev PDo (G : Gam) (W : WX) (X : Cx) (e : Expr) (f : DA) : Prop := PE X e (tDo G W f)
section
variable {G : Gam} {W : WX} {X : Cx}
theorem PostO.mono {κ : Bs} {w w1 : Wd} {σ : L2.St} {r : Res DS (List D)} {Q : VK} (le : w.le w1) (h : PostO G W κ w σ r Q) : PostO G W κ w1 σ r Q := by
  cases r with
  | ok d s' => exact fun w' a vs H' l o g r => h w' a vs H' (le.trans l) o g r
  | exc x s' => exact fun w' c dd H' l o r => h w' c dd H' (le.trans l) o r
  | stuck => exact h
theorem Ok.apart {κ : Bs} {w : Wd} {s : DS} {σ : L2.St} {H : Hp} (h : Ok G κ w s σ H) {p : Addr} (hp : H p = none) : ∀ q ∈ κ.γ, q.1 ≠ p := fun q hq => ne_of_none (h.gam q hq).1 hp
/-- an expression, then a new list -/
theorem PostG.bindO {α β : Type} {rep : Wd → β → α → Prop} {κ : Bs} {w : Wd} {σ : L2.St} {r : Res DS α} {k : α → DS → Res DS (List D)} {Q : VK} (h : PostO G W κ w σ (r.bind k) Q) :
    PostG G W rep κ w σ r (fun v H1 => ∃ d s1 w1, w.le w1 ∧ Ok G κ w1 s1 σ H1 ∧ rep w1 v d ∧ PostO G W κ w1 σ (k d s1) Q) := by
  cases r with
  | ok d s' => exact fun w' v H' l o r => ⟨d, s', w', l, o, r, PostO.mono l h⟩
  | exc x s' => exact h
  | stuck => exact h
def aMax (g : DA) : DA := fun s => (g s).bind fun ds s1 => if ds.length ≤ 1000 then .ok ds s1 else .stuck
theorem pdo_lst {es : List Expr} {g : DA} {pos : Pos} (h : PDA G W X es g) : PDo G W X (.List es pos) (aMax g) :=
  (pe_lst h).imp fun σ H Q ⟨κ, w, s, ok, q⟩ => ⟨κ, w, s, ok, (PostG.bindO q).imp fun v H1 ⟨d, s1, w1, le, ok1, r1, q1⟩ => by
    by_cases c : d.length ≤ 1000
    · rw [if_pos c] at q1
      refine ⟨by rw [r1.length]; exact sz1000 c, fun p hp => ?_⟩
      exact q1 w1 p v _ (.refl _) (ok1.fresh hp _) (ok1.apart hp) r1
    · rw [if_neg c] at q1
      exact q1.elim⟩
def eFrz (f : DA) : DE := fun s => (f s).bind fun xs s1 => .ok (.lst xs) s1
theorem pdo_frz {e : Expr} {f : DA} (h : PDo G W X e f) : PD G W X e (eFrz f) := h.imp fun σ H Q ⟨κ, w, s, ok, q⟩ => ⟨κ, w, s, ok, by
  unfold eFrz at q
  cases e : f s with
  | stuck => rw [e] at q; exact q.elim
  | exc x s' => rw [e] at q; exact q
  | ok xs s' =>
    rw [e] at q
    intro w' a vs H' l o g r
    obtain ⟨le, ok'⟩ := o.frz g
    exact q _ _ H' (l.trans le) ok' (.lst upd_same (r.mono le))⟩
/-! ### statements -/
def sPass : DStm := fun s => .ok .nx s
def sSeq (f g : DStm) : DStm := fun s => (f s).bind fun o s1 => match o with
  | .nx => g s1
  | o => .ok o s1
theorem pdss_nil : PDSs G W X [] sPass := pss_nil.imp fun N σ H ⟨κ, w, s, ok, q⟩ => q w σ H (.refl _) ok
theorem PostS.seq {κ : Bs} {w : Wd} {r : Res DS Out} {g : DStm} {N : Ends} (h : PostS G W κ w (r.bind fun o s1 => match o with | .nx => g s1 | o => .ok o s1) N) : PostS G W κ w r { N with nx := tDS G W g N } := by
  cases r with
  | stuck => exact h
  | exc x s' => exact h
  | ok o s' =>
    cases o with
    | nx => exact fun w' σ' H' l o => ⟨κ, w', s', o, PostS.mono l h⟩
    | bk => exact h
    | ct => exact h
    | rt d => exact h
theorem pdss_cons {st : Stmt} {r : List Stmt} {f g : DStm} (h : PDS G W X st f) (k : PDSs G W X r g) : PDSs G W X (st :: r) (sSeq f g) :=
  (pss_cons h k).imp fun N σ H ⟨κ, w, s, ok, q⟩ => ⟨κ, w, s, ok, PostS.seq q⟩
theorem pdss_one {st : Stmt} {f : DStm} (h : PDS G W X st f) : PDSs G W X [st] f := pss_one h
def sNever : DStm := fun _ => .stuck
theorem pds_never {st : Stmt} : PDS G W X st sNever := ps_never.imp fun N σ H ⟨κ, w, s, ok, q⟩ => q.elim
theorem pdss_never {st : List Stmt} : PDSs G W X st sNever := pss_never.imp fun N σ H ⟨κ, w, s, ok, q⟩ => q.elim
theorem pds_pass {pos : Pos} : PDS G W X (.Pass pos) sPass := ps_pass.imp fun N σ H ⟨κ, w, s, ok, q⟩ => q w σ H (.refl _) ok
def sBreak : DStm := fun s => .ok .bk s
def sCont : DStm := fun s => .ok .ct s
theorem pds_break {pos : Pos} : PDS G W X (.Break pos) sBreak := ps_break.imp fun N σ H ⟨κ, w, s, ok, q⟩ => q w σ H (.refl _) ok
theorem pds_continue {pos : Pos} : PDS G W X (.Continue pos) sCont := ps_continue.imp fun N σ H ⟨κ, w, s, ok, q⟩ => q w σ H (.refl _) ok
def sExpr (f : DE) : DStm := fun s => (f s).bind fun _ s1 => .ok .nx s1
theorem pds_expr {e : Expr} {f : DE} {pos : Pos} (h : PD G W X e f) (hs : swapsWith e none pos.line X.env = pure false := by rfl) : PDS G W X (.Expr e pos) (sExpr f) :=
  (ps_expr h hs).imp fun N σ H ⟨κ, w, s, ok, q⟩ => ⟨κ, w, s, ok, (PostG.bindS q).imp fun v H1 ⟨d, s1, w1, le, ok1, r1, q1⟩ => q1 w1 σ H1 (.refl _) ok1⟩
def sRet (f : DE) : DStm := fun s => (f s).bind fun d s1 => .ok (.rt d) s1
theorem pds_ret {e : Expr} {f : DE} {pos : Pos} (h : PD G W X e f) : PDS G W X (.Return (some e) pos) (sRet f) :=
  (ps_ret h).imp fun N σ H ⟨κ, w, s, ok, q⟩ => ⟨κ, w, s, ok, (PostG.bindS q).imp fun v H1 ⟨d, s1, w1, le, ok1, r1, q1⟩ => q1 w1 σ v H1 (.refl _) ok1 r1⟩
theorem pds_retN {pos : Pos} : PDS G W X (.Return none pos) (sRet (eC .non)) := ps_retN.imp fun N σ H ⟨κ, w, s, ok, q⟩ => q w σ .non H (.refl _) ok .non
def sIf (c : DT) (f g : DStm) : DStm := fun s => (c s).bind fun b s1 => if b = true then f s1 else g s1
theorem pds_if {c : Expr} {a b : List Stmt} {fc : DT} {f g : DStm} {pos : Pos} (hc : PDT G W X c fc) (h : PDSs G W X a f) (k : PDSs G W X b g) : PDS G W X (.If c a b pos) (sIf fc f g) :=
  (ps_if hc h k).imp fun N σ H ⟨κ, w, s, ok, q⟩ => ⟨κ, w, s, ok, (PostG.bindS q).imp fun v H1 ⟨d, s1, w1, le, ok1, r1, q1⟩ => by
    subst r1
    cases v with
    | true => exact ⟨κ, w1, s1, ok1, q1⟩
    | false => exact ⟨κ, w1, s1, ok1, q1⟩⟩
def sSet (i : Nat) (f : DE) : DStm := fun s => (f s).bind fun d s1 => .ok .nx ⟨s1.sl.set i (.val d), s1.st⟩
theorem pds_set {i : Nat} {x : Str} {e : Expr} {f : DE} {pos pos' : Pos} (hN : X.N.Nodup) (hi : X.N[i]? = some x) (hx : Loc X.env.scope x) (he : PD G W X e f) (hs : swapsWith e (some (.Name x pos')) pos.line X.env = pure false := by rfl)
    (hf : X.fn x = true ∨ X.env.scope.names.lookup x = some .local := by first | exact .inl rfl | exact .inr rfl | assumption) : PDS G W X (.Assign [.Name x pos'] e pos) (sSet i f) :=
  (ps_set hN hi hx he hs hf).imp fun N σ H ⟨κ, w, s, ok, q⟩ => ⟨κ, w, s, ok, (PostG.bindS q).imp fun v H1 ⟨d, s1, w1, le, ok1, r1, q1⟩ => q1 w1 _ H1 (.refl _) (ok1.setVal r1 i)⟩
/-- name = a new list -/
def sSetO (i : Nat) (f : DA) : DStm := fun s => (f s).bind fun xs s1 => .ok .nx ⟨s1.sl.set i (.ol xs), s1.st⟩
theorem setO_of {i : Nat} {f : DA} {N : Ends} {σ : L2.St} {H : Hp} (h : tDS G W (sSetO i f) N σ H) : tAsg (tDo G W f) (gName i) N σ H := by
  obtain ⟨κ, w, s, ok, q⟩ := h
  refine ⟨κ, w, s, ok, ?_⟩
  unfold sSetO at q
  cases e : f s with
  | stuck => rw [e] at q; exact q.elim
  | exc x s' =>
    rw [e] at q
    exact fun w' c dd H' l o r => q w' σ c dd H' l o r
  | ok xs s' =>
    rw [e] at q
    intro w' a vs H' l o g r
    exact q w' _ H' l (o.setOwn (y := .ol xs) g ⟨vs, (o.gam (a, .lst vs) List.mem_cons_self).1, r⟩ rfl (fun _ _ z => nomatch z) i)
theorem pds_setO {i : Nat} {x : Str} {e : Expr} {f : DA} {pos pos' : Pos} (hN : X.N.Nodup) (hi : X.N[i]? = some x) (hx : Loc X.env.scope x) (he : PDo G W X e f) (hs : swapsWith e (some (.Name x pos')) pos.line X.env = pure false := by rfl)
    (hf : X.fn x = true ∨ X.env.scope.names.lookup x = some .local := by first | exact .inl rfl | exact .inr rfl | assumption) : PDS G W X (.Assign [.Name x pos'] e pos) (sSetO i f) :=
  (ps_set hN hi hx he hs hf).imp fun N σ H q => setO_of q
/-! ### targets -/
abbrev DG := D → DS → Res DS Unit
section
variable (G : Gam) (W : WX)
def PostT (is : List Nat) (σ : L2.St) (κ : Bs) (w : Wd) (r : Res DS Unit) (Q : L2.St → Hp → Prop) : Prop := match r with
  | .ok _ s' => ∀ w' σ' H', w.le w' → Ok G κ w' s' σ' H' → (σ'.length = σ.length ∧ ∀ i : Nat, i ∉ is → σ'[i]? = σ[i]?) → Q σ' H'
  | .exc x s' => False
  | .stuck => False
def tDG (is : List Nat) (g : DG) : TG := fun v σ H Q => ∃ κ w s d, Ok G κ w s σ H ∧ Rep G w v d ∧ PostT G is σ κ w (g d s) Q
def tDGs (is : List Nat) (g : List D → DS → Res DS Unit) : TGs := fun v σ H Q => ∃ κ w s d, Ok G κ w s σ H ∧ Reps G w v d ∧ PostT G is σ κ w (g d s) Q
end
theorem _root_.L2.PG.imp {X : Cx} {e : Expr} {t t' : TG} (h : PG X e t) (k : ∀ v σ H Q, t' v σ H Q → t v σ H Q) : PG X e t' := ⟨fun pins s σ H v u Q I r q => h.run pins s σ H v u Q I r (k v σ H Q q)⟩
theorem _root_.L2.PGs.imp {X : Cx} {e : List Expr} {t t' : TGs} (h : PGs X e t) (k : ∀ v σ H Q, t' v σ H Q → t v σ H Q) : PGs X e t' := ⟨fun pins s σ H v u Q I r q => h.run pins s σ H v u Q I r (k v σ H Q q)⟩
abbrev PDG (G : Gam) (X : Cx) (e : Expr) (is : List Nat) (g : DG) : Prop := PG X e (tDG G is g)
abbrev PDGs (G : Gam) (X : Cx) (e : List Expr) (is : List Nat) (g : List D → DS → Res DS Unit) : Prop := PGs X e (tDGs G is g)
def gN (i : Nat) : DG := fun d s => .ok () ⟨s.sl.set i (.val d), s.st⟩
theorem pdg_name {i : Nat} {x : Str} {pos : Pos} (hN : X.N.Nodup) (hi : X.N[i]? = some x) (hx : Loc X.env.scope x) (hf : X.fn x = true ∨ X.env.scope.names.lookup x = some .local := by first | exact .inl rfl | exact .inr rfl | assumption) : PDG G X (.Name x pos) [i] (gN i) :=
  (pg_name hN hi hx hf).imp fun v σ H Q ⟨κ, w, s, d, ok, r, q⟩ => q w _ H (.refl _) (ok.setVal r i) ⟨by rw [List.length_set], fun j hj => List.getElem?_set_ne fun z => hj (by rw [z]; exact List.mem_singleton.mpr rfl)⟩
def gsNil : List D → DS → Res DS Unit := fun ds s => match ds with
  | [] => .ok () s
  | _ => .stuck
def gsCons (g : DG) (k : List D → DS → Res DS Unit) : List D → DS → Res DS Unit := fun ds s => match ds with
  | d :: r => (g d s).bind fun _ s1 => k r s1
  | _ => .stuck
theorem pdgs_nil : PDGs G X [] [] gsNil := pgs_nil.imp fun v σ H Q ⟨κ, w, s, d, ok, r, q⟩ => by
  cases r with
  | nil => exact ⟨rfl, q w σ H (.refl _) ok ⟨rfl, fun _ _ => rfl⟩⟩
  | cons a b => exact q.elim
theorem pdgs_cons {e : Expr} {es : List Expr} {is is' : List Nat} {g : DG} {k : List D → DS → Res DS Unit} (h1 : PDG G X e is g) (h2 : PDGs G X es is' k)
    (hs : (assignEach (e :: es) X.env).map (·.2) = assign e X.env :: (assignEach es X.env).map (·.2) := by rfl) : PDGs G X (e :: es) (is ++ is') (gsCons g k) :=
  (pgs_cons h1 h2 hs).imp fun v σ H Q ⟨κ, w, s, d, ok, r, q⟩ => by
    cases r with
    | nil => exact q.elim
    | @cons v d vs ds a b =>
      refine ⟨v, vs, rfl, κ, w, s, d, ok, a, ?_⟩
      have q : PostT G (is ++ is') σ κ w ((g d s).bind fun _ s1 => k ds s1) Q := q
      cases e : g d s with
      | stuck => rw [e] at q; exact q.elim
      | exc x s' => rw [e] at q; exact q.elim
      | ok u s' =>
        rw [e] at q
        intro w' σ' H' l o hσ
        refine ⟨κ, w', s', ds, o, b.mono l, ?_⟩
        have q : PostT G (is ++ is') σ κ w (k ds s') Q := q
        cases e2 : k ds s' with
        | stuck => rw [e2] at q; exact q.elim
        | exc x s' => rw [e2] at q; exact q.elim
        | ok u s2 =>
          rw [e2] at q
          exact fun w2 σ2 H2 l2 o2 h2 => q w2 σ2 H2 (l.trans l2) o2 ⟨h2.1.trans hσ.1, fun i hi => (h2.2 i fun z => hi (List.mem_append_right _ z)).trans (hσ.2 i fun z => hi (List.mem_append_left _ z))⟩
def gT (n : Nat) (g : List D → DS → Res DS Unit) : DG := fun d s => match d with
  | .tup ds => if ds.length = n then g ds s else .stuck
  | _ => .stuck
theorem pdg_tup (hK : G.K = X.K) {es : List Expr} {is : List Nat} {k : Nat} {g : List D → DS → Res DS Unit} {n : Nat} {pos : Pos} (hc : X.calm = true) (h : PDGs G X es is g)
    (hn : (assignEach es X.env).length = n := by rfl) (hst : (assignEach es X.env).findIdx? (·.1) = none := by rfl) : PDG G X (.Tuple es k pos) is (gT n g) :=
  (pg_tup hc h hn hst).imp fun v σ H Q ⟨κ, w, s, d, ok, r, q⟩ => by
    cases r with
    | @tup a vs ds e r =>
      by_cases c : ds.length = n
      · have q : PostT G is σ κ w (if ds.length = n then g ds s else .stuck) Q := q
        rw [if_pos c] at q
        refine ⟨a, vs, rfl, hK ▸ SqT.le e ok.fok.sub, by rw [r.length]; exact c, κ, w, s, ds, ok, r, q⟩
      · have q : PostT G is σ κ w (if ds.length = n then g ds s else .stuck) Q := q
        rw [if_neg c] at q
        exact q.elim
    | _ => exact q.elim
def sAsg (f : DE) (g : DG) : DStm := fun s => (f s).bind fun d s1 => (g d s1).bind fun _ s2 => .ok .nx s2
theorem PostT.toS {is : List Nat} {σ : L2.St} {κ : Bs} {w : Wd} {r : Res DS Unit} {N : Ends} {Wx : WX} (h : PostS G Wx κ w (r.bind fun _ s2 => .ok .nx s2) N) (hx : ∀ x s, r ≠ .exc x s) : PostT G is σ κ w r N.nx := by
  cases r with
  | stuck => exact h
  | exc x s' => exact absurd rfl (hx x s')
  | ok u s' => exact fun w' σ' H' l o _ => h w' σ' H' l o
def noX {σ α : Type} (r : Res σ α) : Res σ α := match r with
  | .exc _ _ => .stuck
  | r => r
theorem noX_exc {σ α : Type} (r : Res σ α) : ∀ x s, noX r ≠ .exc x s := fun x s h => by cases r <;> cases h
def sAsgT (f : DE) (g : DG) : DStm := fun s => (f s).bind fun d s1 => (noX (g d s1)).bind fun _ s2 => .ok .nx s2
theorem PostT.ofNoX {is : List Nat} {σ : L2.St} {κ : Bs} {w : Wd} {r : Res DS Unit} {Q : L2.St → Hp → Prop} (h : PostT G is σ κ w (noX r) Q) : PostT G is σ κ w r Q := by
  cases r with
  | stuck => exact h
  | exc x s' => exact h
  | ok u s' => exact h
theorem pds_asg {tg e : Expr} {f : DE} {is : List Nat} {g : DG} {pos : Pos} (he : PD G W X e f) (hg : PDG G X tg is g) (hs : swapsWithSole [tg] e pos.line X.env = pure false := by rfl) (hw : swappedStores [tg] e X.env = pure none := by rfl)
    (h1 : (assignEach [tg] X.env).map (·.2) = [assign tg X.env] := by rfl) : PDS G W X (.Assign [tg] e pos) (sAsgT f g) :=
  (ps_asg he hg hs hw h1).imp fun N σ H ⟨κ, w, s, ok, q⟩ => ⟨κ, w, s, ok, (PostG.bindS q).imp fun v H1 ⟨d, s1, w1, le, ok1, r1, q1⟩ =>
    ⟨κ, w1, s1, d, ok1, r1, PostT.ofNoX (PostT.toS q1 (noX_exc _))⟩⟩
/-- a, b = x, y with plain locals -/
def sPar (i j : Nat) (f : DA) : DStm := fun s => (f s).bind fun ds s1 => match ds with
  | [x, y] => .ok .nx ⟨(s1.sl.set i (.val x)).set j (.val y), s1.st⟩
  | _ => .stuck
theorem pds_par {i j : Nat} {x y : Str} {a b : Expr} {f : DA} {px py pt pos : Pos} {kt k2 : Nat} {pt2 : Pos} (hc : X.calm = true) (hN : X.N.Nodup) (hi : X.N[i]? = some x) (hj : X.N[j]? = some y) (hij : i ≠ j)
    (hx : X.env.scope.names.lookup x = some .local) (hy : X.env.scope.names.lookup y = some .local) (ha : PDA G W X [a, b] f)
    (hw : swappedStores [.Tuple [.Name x px, .Name y py] kt pt] (.Tuple [a, b] k2 pt2) X.env = pure (some [x, y]))
    (hs : swapsWithSole [.Tuple [.Name x px, .Name y py] kt pt] (.Tuple [a, b] k2 pt2) pos.line X.env = pure false := by rfl) :
    PDS G W X (.Assign [.Tuple [.Name x px, .Name y py] kt pt] (.Tuple [a, b] k2 pt2) pos) (sPar i j f) :=
  (ps_par hc hN hi hj hij hx hy ha hw hs).imp fun N σ H ⟨κ, w, s, ok, q⟩ => ⟨κ, w, s, ok, (PostG.bindS q).imp fun v H1 ⟨d, s1, w1, le, ok1, r1, q1⟩ => by
    cases r1 with
    | nil => exact q1.elim
    | cons a b =>
      cases b with
      | nil => exact q1.elim
      | cons a2 b2 =>
        cases b2 with
        | nil => exact ⟨_, _, rfl, q1 w1 _ H1 (.refl _) ((ok1.setVal a i).setVal a2 j)⟩
        | cons _ _ => exact q1.elim⟩
/-! ### loops -/
def loopOut (r : Res DS Out) (k : DS → Res DS Out) : Res DS Out := match r with
  | .ok .nx s2 => k s2
  | .ok .ct s2 => k s2
  | .ok .bk s2 => .ok .nx s2
  | r => r
def runW (c : DT) (b : DStm) : Nat → DS → Res DS Out
  | 0, _ => .stuck
  | n + 1, s => (c s).bind fun t s1 => if t = true then loopOut (b s1) (runW c b n) else .ok .nx s1
theorem runW_mono (c : DT) (b : DStm) : ∀ (n : Nat) (s : DS), runW c b n s ≠ .stuck → runW c b (n + 1) s = runW c b n s
  | 0, s, h => absurd rfl h
  | n + 1, s, h => by
    show (c s).bind (fun t s1 => if t = true then loopOut (b s1) (runW c b (n + 1)) else .ok .nx s1) = (c s).bind fun t s1 => if t = true then loopOut (b s1) (runW c b n) else .ok .nx s1
    have h : (c s).bind (fun t s1 => if t = true then loopOut (b s1) (runW c b n) else .ok .nx s1) ≠ .stuck := h
    cases e : c s with
    | stuck => rfl
    | exc x s' => rfl
    | ok t s1 =>
      rw [e] at h
      rw [Res.bind_ok] at h ⊢
      rw [Res.bind_ok]
      cases t with
      | false => rfl
      | true =>
        rw [if_pos rfl] at h ⊢
        rw [if_pos rfl]
        cases e2 : b s1 with
        | stuck => rfl
        | exc x s' => rfl
        | ok o s2 =>
          rw [e2] at h
          cases o with
          | nx => exact runW_mono c b n s2 h
          | ct => exact runW_mono c b n s2 h
          | bk => rfl
          | rt d => rfl
theorem runW_le (c : DT) (b : DStm) {n m : Nat} {s : DS} (hnm : n ≤ m) (h : runW c b n s ≠ .stuck) : runW c b m s = runW c b n s := by
  induction hnm with
  | refl => rfl
  | step hk ih => rw [runW_mono c b _ s (by rw [ih]; exact h), ih]
open Classical in
noncomputable def sWhile (c : DT) (b : DStm) : DStm := fun s => if h : ∃ n, runW c b n s ≠ .stuck then runW c b h.choose s else .stuck
theorem sWhile_of {c : DT} {b : DStm} {s : DS} (n : Nat) (h : runW c b n s ≠ .stuck) : sWhile c b s = runW c b n s := by
  have ex : ∃ n, runW c b n s ≠ .stuck := ⟨n, h⟩
  unfold sWhile
  rw [dif_pos ex]
  rcases Nat.le_total n ex.choose with z | z
  · exact runW_le c b z h
  · exact (runW_le c b z ex.choose_spec).symm
theorem sWhile_eq (c : DT) (b : DStm) (s : DS) : sWhile c b s = (c s).bind fun t s1 => if t = true then loopOut (b s1) (sWhile c b) else .ok .nx s1 := by
  have key : ∀ n, runW c b (n + 1) s ≠ .stuck → sWhile c b s = (c s).bind fun t s1 => if t = true then loopOut (b s1) (sWhile c b) else .ok .nx s1 := fun n h => by
    rw [sWhile_of (n + 1) h]
    have h : (c s).bind (fun t s1 => if t = true then loopOut (b s1) (runW c b n) else .ok .nx s1) ≠ .stuck := h
    show (c s).bind (fun t s1 => if t = true then loopOut (b s1) (runW c b n) else .ok .nx s1) = _
    cases e : c s with
    | stuck => rfl
    | exc x s' => rfl
    | ok t s1 =>
      rw [e] at h
      rw [Res.bind_ok] at h ⊢
      rw [Res.bind_ok]
      cases t with
      | false => rfl
      | true =>
        rw [if_pos rfl] at h ⊢
        rw [if_pos rfl]
        cases e2 : b s1 with
        | stuck => rfl
        | exc x s' => rfl
        | ok o s2 =>
          rw [e2] at h
          cases o with
          | nx => exact (sWhile_of n h).symm
          | ct => exact (sWhile_of n h).symm
          | bk => rfl
          | rt d => rfl
  by_cases ex : ∃ n, runW c b n s ≠ .stuck
  · obtain ⟨n, h⟩ := ex
    cases n with
    | zero => exact absurd rfl h
    | succ n => exact key n h
  · have all : ∀ n, runW c b n s = .stuck := fun n => Classical.byContradiction fun h => ex ⟨n, h⟩
    have l : sWhile c b s = .stuck := by
      unfold sWhile
      rw [dif_neg ex]
    rw [l]
    have a1 := all 1
    cases e : c s with
    | stuck => rfl
    | exc x s' =>
      have a1 : (c s).bind (fun t s1 => if t = true then loopOut (b s1) (runW c b 0) else .ok .nx s1) = .stuck := a1
      rw [e] at a1
      cases a1
    | ok t s1 =>
      rw [Res.bind_ok]
      cases t with
      | false =>
        have a1 : (c s).bind (fun t s1 => if t = true then loopOut (b s1) (runW c b 0) else .ok .nx s1) = .stuck := a1
        rw [e] at a1
        cases a1
      | true =>
        rw [if_pos rfl]
        have an : ∀ n, loopOut (b s1) (runW c b n) = .stuck := fun n => by
          have := all (n + 1)
          have a1 : (c s).bind (fun t s1 => if t = true then loopOut (b s1) (runW c b n) else .ok .nx s1) = .stuck := this
          rw [e] at a1
          exact a1
        cases e2 : b s1 with
        | stuck => rfl
        | exc x s' => have := an 0; rw [e2] at this; cases this
        | ok o s2 =>
          have nn : ∀ n, loopOut (.ok o s2) (runW c b n) = .stuck := fun n => by rw [← e2]; exact an n
          have un : (∀ n, runW c b n s2 = .stuck) → sWhile c b s2 = .stuck := fun q => by
            unfold sWhile
            rw [dif_neg fun ⟨n, h⟩ => h (q n)]
          cases o with
          | nx => exact (un nn).symm
          | ct => exact (un nn).symm
          | bk => cases nn 0
          | rt d => cases nn 0
theorem pds_while {c : Expr} {body : List Stmt} {fc : DT} {fb : DStm} {pos : Pos} (hp : PassesOwn (model X.prog X.w) X.A X.env X.xe) (hc : PDT G W X c fc) (hb : PDSs G W X body fb) : PDS G W X (.While c body [] pos) (sWhile fc fb) :=
  (ps_while hp hc hb).imp fun N σ H ⟨κ, w, s, ok, q⟩ => by
    by_cases ex : ∃ n, runW fc fb n s ≠ .stuck
    · obtain ⟨n, hn⟩ := ex
      rw [sWhile_of n hn] at q
      refine ⟨fun m σ H => ∃ w' s', w.le w' ∧ Ok G κ w' s' σ H ∧ PostS G W κ w' (runW fc fb m s') N, ⟨n, w, s, .refl _, ok, q⟩, fun m σ' H' ⟨w', s', le, ok', q'⟩ => ?_⟩
      cases m with
      | zero => exact q'.elim
      | succ m =>
        refine ⟨κ, w', s', ok', (PostG.bindS q').imp fun v H1 ⟨d, s1, w1, le1, ok1, r1, q1⟩ => ?_⟩
        subst r1
        cases v with
        | false => exact q1 w1 σ' H1 (.refl _) ok1
        | true =>
          refine ⟨fun σ2 H2 => ∃ w2 s2, w.le w2 ∧ Ok G κ w2 s2 σ2 H2 ∧ PostS G W κ w2 (runW fc fb m s2) N, fun σ2 H2 z => ⟨m, Nat.lt_succ_self _, z⟩, κ, w1, s1, ok1, ?_⟩
          have q1 : PostS G W κ w1 (loopOut (fb s1) (runW fc fb m)) N := q1
          cases e : fb s1 with
          | stuck => rw [e] at q1; exact q1.elim
          | exc x s' => rw [e] at q1; exact q1
          | ok o s2 =>
            rw [e] at q1
            cases o with
            | nx => exact fun w2 σ2 H2 l o => ⟨w2, s2, (le.trans le1).trans l, o, PostS.mono l q1⟩
            | ct => exact fun w2 σ2 H2 l o => ⟨w2, s2, (le.trans le1).trans l, o, PostS.mono l q1⟩
            | bk => exact q1
            | rt d => exact q1
    · unfold sWhile at q
      rw [dif_neg ex] at q
      exact q.elim
/-! ### what a for walks -/
section
variable (G : Gam) (W : WX)
def ItOk (w : Wd) (J : It) (items : List D) : Prop := ∀ (w1 : Wd) (S : List Cell) (H : Hp), w.le w1 → FOk G w1 S H → ∀ i : Nat,
  (∀ d, items[i]? = some d → J.go i H ∧ ∀ x H', J.yld i H x H' → ∃ w2, Nx w1 H w2 H' ∧ FOk G w2 S H' ∧ Rep G w2 x d) ∧ (items[i]? = none → J.stop i H)
def PostI (κ : Bs) (w : Wd) (σ : L2.St) (r : Res DS (List D)) (R : It → Hp → Prop) : Prop := match r with
  | .ok ds s' => ∀ w' J H', w.le w' → Ok G κ w' s' σ H' → ItOk G w' J ds → R J H'
  | .exc x s' => ∀ w' c dd H', w.le w' → Ok G κ w' s' σ H' → RepX G w' c dd x → W c dd σ H'
  | .stuck => False
def tDI (f : DA) : TI := fun σ H R => ∃ κ w s, Ok G κ w s σ H ∧ PostI G W κ w σ (f s) R
end
theorem _root_.L2.PI.imp {X : Cx} {tg e : Expr} {t t' : TI} (h : PI X tg e t) (k : ∀ σ H R, t' σ H R → t σ H R) : PI X tg e t' := ⟨fun pins s σ H R I q => h.run pins s σ H R I (k σ H R q)⟩
abbrev PDI (G : Gam) (W : WX) (X : Cx) (tg e : Expr) (f : DA) : Prop := PI X tg e (tDI G W f)
theorem PostI.mono {κ : Bs} {w w1 : Wd} {σ : L2.St} {r : Res DS (List D)} {R : It → Hp → Prop} (le : w.le w1) (h : PostI G W κ w σ r R) : PostI G W κ w1 σ r R := by
  cases r with
  | ok d s' => exact fun w' J H' l o g => h w' J H' (le.trans l) o g
  | exc x s' => exact fun w' c dd H' l o r => h w' c dd H' (le.trans l) o r
  | stuck => exact h
theorem PostG.bindI {α β : Type} {rep : Wd → β → α → Prop} {κ : Bs} {w : Wd} {σ : L2.St} {r : Res DS α} {k : α → DS → Res DS (List D)} {Q : It → Hp → Prop} (h : PostI G W κ w σ (r.bind k) Q) :
    PostG G W rep κ w σ r (fun v H1 => ∃ d s1 w1, w.le w1 ∧ Ok G κ w1 s1 σ H1 ∧ rep w1 v d ∧ PostI G W κ w1 σ (k d s1) Q) := by
  cases r with
  | ok d s' => exact fun w' v H' l o r => ⟨d, s', w', l, o, r, PostI.mono l h⟩
  | exc x s' => exact h
  | stuck => exact h
/-- the items of a list; of a tuple -/
def itL (f : DE) : DA := fun s => (f s).bind fun d s1 => match d with
  | .lst xs => .ok xs s1
  | .scr xs => .ok xs s1
  | _ => .stuck
def itT (f : DE) : DA := fun s => (f s).bind fun d s1 => match d with
  | .tup xs => .ok xs s1
  | _ => .stuck
theorem itOk_list (hK : G.K = X.K) {w : Wd} {a : Addr} {vs : List V} {ds : List D} (e : SqL G.K w.F a vs) (un : ∀ (H : Hp) ys, SqL X.K H a vs → SqL X.K H a ys → vs = ys → True) (r : Reps G w vs ds) (inj : ∀ (H : Hp), SqL X.K H a vs → True) : ItOk G w (Itl X.K a) ds := by
  intro w1 S H le fok i
  have q : SqL X.K H a vs := hK ▸ SqL.le (SqL.le e le.f) fok.sub
  refine ⟨fun d hd => ?_, fun hn => ?_⟩
  · obtain ⟨y, h1, h2⟩ := r.get hd
    refine ⟨⟨vs, y, q, h1⟩, fun x H' ⟨hH, hx⟩ => ⟨w1, ?_, ?_, ?_⟩⟩
    · rw [hH]; exact .refl _ _
    · rw [hH]; exact fok
    · have := hx vs q
      rw [h1] at this
      cases this
      exact h2.mono le
  · refine ⟨vs, q, ?_⟩
    rw [r.length]
    exact List.getElem?_eq_none_iff.mp hn
theorem itOk_tup (hK : G.K = X.K) {w : Wd} {a : Addr} {vs : List V} {ds : List D} (e : SqT G.K w.F a vs) (r : Reps G w vs ds) : ItOk G w (Itt X.K a) ds := by
  intro w1 S H le fok i
  have q : SqT X.K H a vs := hK ▸ SqT.le (SqT.le e le.f) fok.sub
  refine ⟨fun d hd => ?_, fun hn => ?_⟩
  · obtain ⟨y, h1, h2⟩ := r.get hd
    refine ⟨⟨vs, y, q, h1⟩, fun x H' ⟨hH, hx⟩ => ⟨w1, ?_, ?_, ?_⟩⟩
    · rw [hH]; exact .refl _ _
    · rw [hH]; exact fok
    · have := hx vs q
      rw [h1] at this
      cases this
      exact h2.mono le
  · refine ⟨vs, q, ?_⟩
    rw [r.length]
    exact List.getElem?_eq_none_iff.mp hn
theorem pdi_list (hK : G.K = X.K) {tg e : Expr} {f : DE} (h : PD G W X e f) : PDI G W X tg e (itL f) :=
  (pi_list h).imp fun σ H R ⟨κ, w, s, ok, q⟩ => ⟨κ, w, s, ok, (PostG.bindI q).imp fun v H1 ⟨d, s1, w1, le, ok1, r1, q1⟩ => by
    cases r1 with
    | @lst a vs ds e r =>
      have e' : SqL G.K w1.F a vs := .inl (.inl e)
      exact ⟨a, rfl, ⟨vs, hK ▸ SqL.le e' ok1.fok.sub⟩, q1 w1 _ H1 (.refl _) ok1 (itOk_list hK e' (fun _ _ _ _ _ => trivial) r fun _ _ => trivial)⟩
    | @scr a vs ds e r =>
      exact ⟨a, rfl, ⟨vs, hK ▸ SqL.le e ok1.fok.sub⟩, q1 w1 _ H1 (.refl _) ok1 (itOk_list hK e (fun _ _ _ _ _ => trivial) r fun _ _ => trivial)⟩
    | _ => exact q1.elim⟩
theorem pdi_tup (hK : G.K = X.K) {tg e : Expr} {f : DE} (h : PD G W X e f) : PDI G W X tg e (itT f) :=
  (pi_tup h).imp fun σ H R ⟨κ, w, s, ok, q⟩ => ⟨κ, w, s, ok, (PostG.bindI q).imp fun v H1 ⟨d, s1, w1, le, ok1, r1, q1⟩ => by
    cases r1 with
    | @tup a vs ds e r => exact ⟨a, rfl, ⟨vs, hK ▸ SqT.le e ok1.fok.sub⟩, q1 w1 _ H1 (.refl _) ok1 (itOk_tup hK e r)⟩
    | _ => exact q1.elim⟩
/-- range -/
def rngL (lo : Int) (n : Nat) : List D := (List.range n).map fun (i : Nat) => D.int (lo + (i : Int))
theorem itOk_rng {w : Wd} (lo : Int) (n : Nat) : ItOk G w (Itr lo n) (rngL lo n) := by
  intro w1 S H le fok i
  refine ⟨fun d hd => ?_, fun hn => ?_⟩
  · unfold rngL at hd
    rw [List.getElem?_map] at hd
    by_cases c : i < n
    · rw [List.getElem?_range c] at hd
      cases hd
      refine ⟨c, fun x H' ⟨hH, hx⟩ => ⟨w1, ?_, ?_, ?_⟩⟩
      · rw [hH]; exact .refl _ _
      · rw [hH]; exact fok
      · rw [hx]; exact .int _
    · rw [List.getElem?_eq_none (by rw [List.length_range]; omega)] at hd
      cases hd
  · have := List.getElem?_eq_none_iff.mp hn
    unfold rngL at this
    rw [List.length_map, List.length_range] at this
    exact this
def itR1 (f : DA) : DA := fun s => (f s).bind fun ds s1 => match ds with
  | [.int j] => if -(2 ^ 62) ≤ j ∧ j < 2 ^ 62 then .ok (rngL 0 j.toNat) s1 else .stuck
  | _ => .stuck
def itR2 (f : DA) : DA := fun s => (f s).bind fun ds s1 => match ds with
  | [.int i, .int j] => if -(2 ^ 62) ≤ i ∧ i < 2 ^ 62 ∧ -(2 ^ 62) ≤ j ∧ j < 2 ^ 62 then .ok (rngL i (j - i).toNat) s1 else .stuck
  | _ => .stuck
theorem pdi_range1 {tg a : Expr} {f : DA} {p pos : Pos} (hg : Gl X "range") (hm : X.mg "range" = none) (ha : PDA G W X [a] f) (hs : starEach [a] X.env = [(false, eval a X.env)] := by rfl) : PDI G W X tg (.Call (.Name "range" p) [a] [] pos) (itR1 f) :=
  (pi_range1 hg hm ha hs).imp fun σ H R ⟨κ, w, s, ok, q⟩ => ⟨κ, w, s, ok, (PostG.bindI q).imp fun v H1 ⟨d, s1, w1, le, ok1, r1, q1⟩ => by
    cases r1 with
    | nil => exact q1.elim
    | cons a b =>
      cases b with
      | cons _ _ => cases a <;> exact q1.elim
      | nil =>
        cases a with
        | int j =>
          have q1 : PostI G W κ w1 σ (if -(2 ^ 62) ≤ j ∧ j < 2 ^ 62 then .ok (rngL 0 j.toNat) s1 else .stuck) R := q1
          by_cases c : -(2 ^ 62) ≤ j ∧ j < 2 ^ 62
          · rw [if_pos c] at q1
            exact ⟨j, rfl, c.1, c.2, q1 w1 _ H1 (.refl _) ok1 (itOk_rng 0 _)⟩
          · rw [if_neg c] at q1
            exact q1.elim
        | _ => exact q1.elim⟩
theorem pdi_range2 {tg a b : Expr} {f : DA} {p pos : Pos} (hg : Gl X "range") (hm : X.mg "range" = none) (ha : PDA G W X [a, b] f) (hs : starEach [a, b] X.env = [(false, eval a X.env), (false, eval b X.env)] := by rfl) (hs2 : starEach [b] X.env = [(false, eval b X.env)] := by rfl) :
    PDI G W X tg (.Call (.Name "range" p) [a, b] [] pos) (itR2 f) :=
  (pi_range2 hg hm ha hs hs2).imp fun σ H R ⟨κ, w, s, ok, q⟩ => ⟨κ, w, s, ok, (PostG.bindI q).imp fun v H1 ⟨d, s1, w1, le, ok1, r1, q1⟩ => by
    cases r1 with
    | nil => exact q1.elim
    | cons a b =>
      cases b with
      | nil => cases a <;> exact q1.elim
      | cons a2 b2 =>
        cases b2 with
        | cons _ _ => cases a <;> first | exact q1.elim | (cases a2 <;> exact q1.elim)
        | nil =>
          cases a with
          | int i =>
            cases a2 with
            | int j =>
              have q1 : PostI G W κ w1 σ (if -(2 ^ 62) ≤ i ∧ i < 2 ^ 62 ∧ -(2 ^ 62) ≤ j ∧ j < 2 ^ 62 then .ok (rngL i (j - i).toNat) s1 else .stuck) R := q1
              by_cases c : -(2 ^ 62) ≤ i ∧ i < 2 ^ 62 ∧ -(2 ^ 62) ≤ j ∧ j < 2 ^ 62
              · rw [if_pos c] at q1
                exact ⟨i, j, rfl, c, q1 w1 _ H1 (.refl _) ok1 (itOk_rng i _)⟩
              · rw [if_neg c] at q1
                exact q1.elim
            | _ => exact q1.elim
          | _ => exact q1.elim⟩
/-! ### for -/
def forL (g : DG) (b : DStm) : List D → DS → Res DS Out
  | [], s => .ok .nx s
  | d :: r, s => (noX (g d s)).bind fun _ s1 => loopOut (b s1) (forL g b r)
def sFor (it : DA) (g : DG) (b : DStm) : DStm := fun s => (it s).bind fun ds s1 => forL g b ds s1
theorem drop_get {α : Type} {l : List α} {i : Nat} {d : α} {r : List α} (h : l.drop i = d :: r) : l[i]? = some d ∧ l.drop (i + 1) = r := by
  refine ⟨?_, ?_⟩
  · have := congrArg (fun l => l[0]?) h
    simpa using this
  · have := congrArg List.tail h
    simpa using this
theorem for_of {is : List Nat} {κ : Bs} {w : Wd} {J : It} {g : DG} {b : DStm} {N : Ends} {items : List D} (hJ : ItOk G w J items) {w0 : Wd} {s : DS} {σ : L2.St} {H : Hp} (le : w.le w0) (ok : Ok G κ w0 s σ H) (q : PostS G W κ w0 (forL g b items s) N) :
    ∃ Wv : Nat → Nat → L2.St → Hp → Prop, (∃ m, Wv 0 m σ H) ∧ ∀ i m σ H, Wv i m σ H →
      (J.stop i H ∧ N.nx σ H) ∨ (J.go i H ∧ ∃ N' : L2.St → Hp → Prop, (∀ σ' H', N' σ' H' → ∃ m', m' < m ∧ Wv (i + 1) m' σ' H') ∧ ∀ x H', J.yld i H x H' → tDG G is g x σ H' fun σ2 H2 => tDS G W b { N with nx := N', ct := N', bk := N.nx } σ2 H2) := by
  refine ⟨fun i m σ H => ∃ w' s', w.le w' ∧ Ok G κ w' s' σ H ∧ (items.drop i).length = m ∧ PostS G W κ w' (forL g b (items.drop i) s') N, ⟨items.length, w0, s, le, ok, by simp, by simpa using q⟩, ?_⟩
  rintro i m σ H ⟨w', s', le', ok', hm, q'⟩
  cases e : items.drop i with
  | nil =>
    rw [e] at q'
    have hn : items[i]? = none := by
      have := congrArg (fun l => l[0]?) e
      simpa using this
    exact .inl ⟨(hJ w' _ H le' ok'.fok i).2 hn, q' w' σ H (.refl _) ok'⟩
  | cons d r =>
    rw [e] at q' hm
    obtain ⟨h1, h2⟩ := drop_get e
    obtain ⟨go, yl⟩ := (hJ w' _ H le' ok'.fok i).1 d h1
    refine .inr ⟨go, fun σ2 H2 => ∃ w2 s2, w.le w2 ∧ Ok G κ w2 s2 σ2 H2 ∧ PostS G W κ w2 (forL g b r s2) N, fun σ2 H2 ⟨w2, s2, l2, o2, q2⟩ => ?_, fun x H' hy => ?_⟩
    · refine ⟨r.length, by rw [← hm]; exact Nat.lt_succ_self _, w2, s2, l2, o2, by rw [h2], by rw [h2]; exact q2⟩
    · obtain ⟨w2, nx, fok, rx⟩ := yl x H' hy
      have ok2 := ok'.step nx fok
      refine ⟨κ, w2, s', d, ok2, rx, ?_⟩
      have q' : PostS G W κ w' ((noX (g d s')).bind fun _ s1 => loopOut (b s1) (forL g b r)) N := q'
      refine PostT.ofNoX ?_
      cases e3 : noX (g d s') with
      | stuck => rw [e3] at q'; exact q'.elim
      | exc x s' => exact absurd e3 (noX_exc _ _ _)
      | ok u s3 =>
        rw [e3] at q'
        intro w3 σ3 H3 l3 o3 _
        refine ⟨κ, w3, s3, o3, ?_⟩
        have q' : PostS G W κ w' (loopOut (b s3) (forL g b r)) N := q'
        have lw : w'.le w3 := nx.le.trans l3
        cases e4 : b s3 with
        | stuck => rw [e4] at q'; exact q'.elim
        | exc x s4 => rw [e4] at q'; exact PostS.mono (r := .exc x s4) lw q'
        | ok o s4 =>
          rw [e4] at q'
          cases o with
          | nx => exact fun w4 σ4 H4 l4 o4 => ⟨w4, s4, (le'.trans lw).trans l4, o4, PostS.mono (lw.trans l4) q'⟩
          | ct => exact fun w4 σ4 H4 l4 o4 => ⟨w4, s4, (le'.trans lw).trans l4, o4, PostS.mono (lw.trans l4) q'⟩
          | bk => exact PostS.mono (r := .ok .nx s4) lw q'
          | rt d => exact PostS.mono (r := .ok (.rt d) s4) lw q'
theorem pds_for {tg iter : Expr} {body : List Stmt} {it : DA} {is : List Nat} {g : DG} {b : DStm} {pos : Pos} (hp : PassesOwn (model X.prog X.w) X.A X.env X.xe) (hc : X.calm = true) (hi : PDI G W X tg iter it) (hg : PDG G X tg is g) (hb : PDSs G W X body b)
    (hs : ∀ x, foldedSetIterable iter X.env x = pure x := by intro _; rfl) : PDS G W X (.For tg iter body [] pos) (sFor it g b) :=
  (ps_for hp hc hi hg hb hs).imp fun N σ H ⟨κ, w, s, ok, q⟩ => ⟨κ, w, s, ok, by
    unfold sFor at q
    cases e : it s with
    | stuck => rw [e] at q; exact q.elim
    | exc x s' =>
      rw [e] at q
      exact fun w' c dd H' l o r => q w' σ c dd H' l o r
    | ok ds s' =>
      rw [e] at q
      intro w' J H' l o hJ
      exact for_of hJ (.refl _) o (PostS.mono l q)⟩
end
end DL
set_option maxRecDepth 100000
set_option maxHeartbeats 4000000
set_option autoImplicit false
namespace DL
open PySem PySem.Spec PyProof.Rows L2
/-! ### what a def promises -/
section
variable (G : Gam)
def PostF {α : Type} (rep : Wd → V → α → Prop) (w : Wd) (H : Hp) (r : Res (List Cell) α) (Q : VK) (E : XK) : Prop := match r with
  | .ok d S' => ∀ w' v H', Nx w H w' H' → FOk G w' S' H' → rep w' v d → Q v H'
  | .exc x S' => ∀ w' c dd H', Nx w H w' H' → FOk G w' S' H' → RepX G w' c dd x → E c dd H'
  | .stuck => False
def spG (n : Nat) (g : DFn) : Sp := fun vs H Q E => vs.length = n ∧ ∃ w S ds, FOk G w S H ∧ Reps G w vs ds ∧ PostF G (Rep G) w H (g ds S) Q E
end
def lift {α : Type} (s : DS) (r : Res (List Cell) α) : Res DS α := match r with
  | .ok d S' => .ok d ⟨s.sl, S'⟩
  | .exc x S' => .exc x ⟨s.sl, S'⟩
  | .stuck => .stuck
section
variable {G : Gam} {W : WX} {X : Cx}
theorem postF_of {κ : Bs} {w : Wd} {s : DS} {σ : L2.St} {H : Hp} {r : Res (List Cell) D} {Q : VK} (ok : Ok G κ w s σ H) (q : PostG G W (Rep G) κ w σ (lift s r) Q) : PostF G (Rep G) w H r Q (WE W σ) := by
  cases r with
  | ok d S' => exact fun w' v H' n f r => q w' v H' n.le (ok.step n f) r
  | exc x S' => exact fun w' c dd H' n f r => q w' c dd H' n.le (ok.step n f) r
  | stuck => exact q
theorem callD {k : Nat} {f : Addr} {fd : FuncData} {ps : List Str} {n : Nat} {g : DFn} {pins : List (Addr × Obj)} {sh : Shared} {κ : Bs} {w : Wd} {s : DS} {σ : L2.St} {H : Hp} {vs : List V} {ds : List D} {us : List Value} {Q : VK}
    (F : FnOk X.prog X.w X.K X.mg X.base (L2.CX X.prog X.w) k f fd ps (spG G n g)) (hr : Room k X.A) (hb : Binds X.K fd ps []) (tk : Takes X W) (I : Inv X pins σ H sh) (ok : Ok G κ w s σ H) (rs : Reps G w vs ds) (r : Vals vs us) (hn : ds.length = n)
    (q : PostG G W (Rep G) κ w σ (lift s (g ds s.st)) Q) : wpAny (model X.prog X.w) X.A (call (.ref f) us) (EP X pins σ Q) X.xe sh := by
  refine run_fnSD (E := WE W) (dvs := []) (ds := []) F hr hb .nil (passAt tk σ) I r ?_
  rw [List.append_nil]
  exact ⟨by rw [rs.length]; exact hn, w, s.st, ds, ok.fok, rs, postF_of ok q⟩
/-! ### f(..) -/
def eCall (n : Nat) (g : DFn) (fa : DA) : DE := fun s => (fa s).bind fun ds s1 => if ds.length = n then lift s1 (g ds s1.st) else .stuck
theorem pd_call {k : Nat} {f : Addr} {fd : FuncData} {ps : List Str} {n : Nat} {g : DFn} {x : Str} {p pos : Pos} {e : Expr} {es : List Expr} {fa : DA} (F : FnOk X.prog X.w X.K X.mg X.base (L2.CX X.prog X.w) k f fd ps (spG G n g)) (hr : Room k X.A) (hg : Gl X x) (hm : X.mg x = some (.ref f))
    (hk : PySem.W.keepIn X.K (.ref f) = true) (hb : Binds X.K fd ps []) (tk : Takes X W) (ha : PDA G W X (e :: es) fa) (hdb : (x == ("__debug__" : Str)) = false := by decide) (he : starEach (e :: es) X.env = (false, eval e X.env) :: starEach es X.env := by rfl)
    (hpl : (backTo pos (starEach es X.env)).any (·.1) = false := by rfl) : PD G W X (.Call (.Name x p) (e :: es) [] pos) (eCall n g fa) := by
  refine ⟨fun pins s σ H Q I h => ?_⟩
  obtain ⟨κ, w, ds, ok, q⟩ := h
  refine wpAny_Call_Name_kw (ld_glob I hg hm ?_ hdb)
  have hh : tDA G W fa σ H fun vs H1 => ∃ d s1 w1, w.le w1 ∧ Ok G κ w1 s1 σ H1 ∧ Reps G w1 vs d ∧ PostG G W (Rep G) κ w1 σ (if d.length = n then lift s1 (g d s1.st) else .stuck) Q := ⟨κ, w, ds, ok, PostG.bind q⟩
  refine PySem.W.callWith_K (h₀ := X.base) I.ok.mod.kin hk (thn (ha.run pos pins s σ H _ I hh) fun us s1 ⟨vs, H1, I1, r, d, s2, w1, le, ok1, rs, q1⟩ => ⟨I1.kIn, ?_⟩) he hpl
  by_cases c : d.length = n
  · rw [if_pos c] at q1
    exact callD F hr hb tk I1 ok1 rs r c q1
  · rw [if_neg c] at q1
    exact q1.elim
theorem pd_call0 {k : Nat} {f : Addr} {fd : FuncData} {ps : List Str} {g : DFn} {x : Str} {p pos : Pos} (F : FnOk X.prog X.w X.K X.mg X.base (L2.CX X.prog X.w) k f fd ps (spG G 0 g)) (hr : Room k X.A) (hg : Gl X x) (hm : X.mg x = some (.ref f))
    (hk : PySem.W.keepIn X.K (.ref f) = true) (hb : Binds X.K fd ps []) (tk : Takes X W) (hdb : (x == ("__debug__" : Str)) = false := by decide) : PD G W X (.Call (.Name x p) [] [] pos) (eCall 0 g aNil) := by
  refine ⟨fun pins s σ H Q I h => ?_⟩
  obtain ⟨κ, w, ds, ok, q⟩ := h
  refine wpAny_Call_Name_kw (ld_glob I hg hm ?_ hdb)
  exact PySem.W.callWith_K0 I.kIn hk (callD (us := []) F hr hb tk I ok .nil .nil rfl q)
/-! ### the body of a def -/
def fnD (n : Nat) (body : DStm) (m : Nat) : DFn := fun ds S => if ds.length = n then match body ⟨ds.map Sl.val ++ List.replicate m .un, S⟩ with
  | .ok (.rt d) s => .ok d s.st
  | .ok .nx s => .ok .non s.st
  | .exc x s => .exc x s.st
  | _ => .stuck
  else .stuck
theorem Ok.start {w : Wd} {S : List Cell} {H : Hp} {vs : List V} {ds : List D} (f : FOk G w S H) (r : Reps G w vs ds) (m : Nat) : Ok G ⟨w, H, [], none⟩ w ⟨ds.map Sl.val ++ List.replicate m .un, S⟩ (vs.map some ++ List.replicate m none) H := by
  have no : ∀ (i : Nat) (x : Sl), (ds.map Sl.val ++ List.replicate m Sl.un)[i]? = some x → x.own = false := fun i x e => by
    have hx := List.mem_of_getElem? e
    rcases List.mem_append.mp hx with h | h
    · obtain ⟨d, _, rfl⟩ := List.mem_map.mp h
      rfl
    · rw [(List.mem_replicate.mp h).2]
      rfl
  refine ⟨f, .refl _ _, by simp [r.length], fun i d e => ?_, fun i x e o => ?_, fun i j x y a e1 e2 o1 o2 _ _ => ?_, fun p hp => by simp at hp, fun a z => nomatch z⟩
  · by_cases c : i < ds.length
    · have e1 : (ds.map Sl.val ++ List.replicate m Sl.un)[i]? = some (.val d) := e
      rw [List.getElem?_append_left (by rw [List.length_map]; exact c), List.getElem?_map] at e1
      cases q : ds[i]? with
      | none => rw [q] at e1; cases e1
      | some d' =>
        rw [q] at e1
        cases e1
        obtain ⟨v, h1, h2⟩ := r.get q
        refine ⟨v, ?_, h2⟩
        rw [List.getElem?_append_left (by rw [List.length_map, r.length]; exact c), List.getElem?_map, h1]
        rfl
    · have e1 : (ds.map Sl.val ++ List.replicate m Sl.un)[i]? = some (.val d) := e
      rw [List.getElem?_append_right (by rw [List.length_map]; omega), List.getElem?_replicate] at e1
      split at e1 <;> cases e1
  · rw [no i x e] at o; cases o
  · rw [no i x e1] at o1; cases o1
theorem start_eq {N : List Str} {vs : List V} {m : Nat} (h : N.length - vs.length = m) : L2.start N vs = vs.map some ++ List.replicate m none := by
  unfold L2.start
  rw [h]
theorem fn_okD {P : Program} {w0 : World} {mg : Str → Option Value} {base : Heap} {x qual : Str} {st : Stmt} {f : Addr} {fd : FuncData} {N ps : List Str} {k n m : Nat} {body : DStm} (F : Fun G.K x qual st f fd) (S : FnScope N ps (defScope st)) (hn : ps.length = n) (hm : N.length - n = m)
    (hbody : ∀ (cdv : Value) (A : Around) (outer : List Env) (s : Shared) (H : Hp) (E : XK), Room k (A.deeper (envOfC qual (defScope st) s.heap.objs.size f cdv)) →
      Takes (cxOf (L2.CX P w0) P w0 G.K mg base N qual (defScope st) f cdv A outer s H E) (fun c d _ H => E c d H) → PassesOwn (model P w0) (A.deeper (envOfC qual (defScope st) s.heap.objs.size f cdv)) (envOfC qual (defScope st) s.heap.objs.size f cdv) (cxOf (L2.CX P w0) P w0 G.K mg base N qual (defScope st) f cdv A outer s H E).xe →
      PDSs G (fun c d _ H => E c d H) (cxOf (L2.CX P w0) P w0 G.K mg base N qual (defScope st) f cdv A outer s H E) (defBody st) body) : FnOk P w0 G.K mg base (L2.CX P w0) (k + 1) f fd ps (spG G n (fnD n body m)) := by
  refine F.okX S (fun vs H Q E h => by rw [h.1, hn]) fun cdv A outer s H vs Q E hr h => ?_
  refine ⟨_, hbody cdv A outer s H E hr (takes_of rfl rfl rfl rfl) (passes_of rfl), ?_⟩
  obtain ⟨hl, w, S', ds, fok, rs, q⟩ := h
  have hd : ds.length = n := by rw [← rs.length]; exact hl
  unfold fnD at q
  rw [if_pos hd] at q
  rw [start_eq (m := m) (by rw [hl]; exact hm)]
  refine ⟨⟨w, H, [], none⟩, w, _, Ok.start fok rs m, ?_⟩
  cases e : body ⟨ds.map Sl.val ++ List.replicate m .un, S'⟩ with
  | stuck => rw [e] at q; exact q.elim
  | exc x s' =>
    rw [e] at q
    exact fun w' σ' c dd H' l o r => q w' c dd H' o.nx o.fok r
  | ok o s' =>
    rw [e] at q
    cases o with
    | nx => exact fun w' σ' H' l o => q w' .non H' o.nx o.fok .non
    | bk => exact q.elim
    | ct => exact q.elim
    | rt d => exact fun w' σ' v H' l o r => q w' v H' o.nx o.fok r
/-! ### attributes -/
def insOf (d : D) (s : DS) : Option (String × List (Nm × D)) := match d with
  | .ins c fs => some (c, fs)
  | .cell n => match s.st[n]? with
    | some (.obj c fs) => some (c, fs)
    | _ => none
  | _ => none
theorem Rep.ins_of {κ : Bs} {w : Wd} {s : DS} {σ : L2.St} {H : Hp} {v : V} {d : D} {c : String} {fs : List (Nm × D)} (r : Rep G w v d) (ok : Ok G κ w s σ H) (h : insOf d s = some (c, fs)) : ∃ a C dx vs, v = .ref a ∧ G.ct c = some C ∧ H a = some (.ins C dx vs) ∧ RepF G w vs fs := by
  cases r with
  | @ins a C dx c' vs ds e1 e2 e3 =>
    have h : some (c', ds) = some (c, fs) := h
    cases h
    exact ⟨a, C, dx, vs, rfl, e1, ok.fok.sub _ _ e2, e3⟩
  | @cell a n e =>
    unfold insOf at h
    cases q : s.st[n]? with
    | none => simp [q] at h
    | some c' =>
      cases c' with
      | obj cc ff =>
        simp only [q] at h
        cases h
        obtain ⟨C, dx, vs, h1, h2, h3⟩ := ok.fok.cel n a _ e q
        exact ⟨a, C, dx, vs, rfl, h1, h2, h3⟩
      | _ => simp [q] at h
  | _ => exact nomatch h
def eFld (cs : List String) (fn : Nm) (f : DE) : DE := fun s => (f s).bind fun d s1 => match insOf d s1 with
  | some (c, fs) => if c ∈ cs then match fs.lookup fn with
    | some x => .ok x s1
    | none => .stuck
    else .stuck
  | none => .stuck
/-- what of the text the classes must have for an attribute -/
def FldOk (G : Gam) (cs : List String) (fn : Nm) : Prop := ∀ c ∈ cs, ∀ C, G.ct c = some C → Cls G.K C ∧ NoAttr G.K C (nm fn)
theorem pd_fld (hK : G.K = X.K) {cs : List String} {fn : Nm} {f : DE} {e : Expr} {x : Str} {pos : Pos} (hx : x = nm fn) (ho : FldOk G cs fn) (h : PD G W X e f) (hb : attributeBase e x X.env (eval e X.env) = eval e X.env := by rfl) : PD G W X (.Attribute e x pos) (eFld cs fn f) :=
  (pe_fld h hb).imp fun σ H Q ⟨κ, w, s, ok, q⟩ => ⟨κ, w, s, ok, (PostG.bind q).imp fun v H1 ⟨d, s1, w1, le, ok1, r1, q1⟩ => by
    cases e1 : insOf d s1 with
    | none => rw [e1] at q1; exact q1.elim
    | some p =>
      obtain ⟨c, fs⟩ := p
      rw [e1] at q1
      obtain ⟨a, C, dx, vs, ev, hC, hH, rf⟩ := r1.ins_of ok1 e1
      have q1 : PostG G W (Rep G) κ w1 σ (if c ∈ cs then match fs.lookup fn with | some x => .ok x s1 | none => .stuck else .stuck) Q := q1
      by_cases hc : c ∈ cs
      · rw [if_pos hc] at q1
        cases e2 : fs.lookup fn with
        | none => rw [e2] at q1; exact q1.elim
        | some z =>
          rw [e2] at q1
          obtain ⟨y, h1, h2⟩ := rf.look e2
          obtain ⟨cl, na⟩ := ho c hc C hC
          refine ⟨a, C, dx, vs, y, ev, hH, hK ▸ cl, by rw [hx]; exact hK ▸ na, by rw [hx]; exact h1, q1 w1 y H1 (.refl _) ok1 h2⟩
      · rw [if_neg hc] at q1
        exact q1.elim⟩
/-! ### o.m(..) -/
def eMeth (c : String) (m : Nm) (n : Nat) (g : DFn) (fo : DE) (fa : DA) : DE := fun s => (fo s).bind fun d s1 => match insOf d s1 with
  | some (c', fs) => if c' = c ∧ fs.lookup m = none then (fa s1).bind fun ds s2 => if ds.length + 1 = n then lift s2 (g (d :: ds) s2.st) else .stuck
    else .stuck
  | none => .stuck
theorem pd_meth (hK : G.K = X.K) {c : String} {mn : Nm} {n : Nat} {g : DFn} {fo : DE} {fa : DA} {C f : Addr} {m : Str} {k : Nat} {fd : FuncData} {ps : List Str} {o e : Expr} {es : List Expr} {apos pos : Pos} {pl : Sem Bool} (he : PD G W X o fo) (hC : G.ct c = some C) (cl : Cls X.K C) (hmn : m = nm mn) (hm : Meth X.K C m f)
    (F : FnOk X.prog X.w X.K X.mg X.base (L2.CX X.prog X.w) k f fd ps (spG G n g)) (hr : Room k X.A) (hb : Binds X.K fd ps []) (tk : Takes X W) (ha : PDA G W X (e :: es) fa)
    (hst : starEach (e :: es) X.env = (false, eval e X.env) :: starEach es X.env := by rfl) (hpl : (backTo pos (starEach es X.env)).any (·.1) = false := by rfl)
    (ht : eval (.Call (.Attribute o m apos) (e :: es) [] pos) X.env = (do
      let ov ← eval o X.env
      standAt apos.atName
      let (f, first) ← holding [ov] (getMethod ov m pl)
      callWith pos f first (backTo pos (starEach (e :: es) X.env)) (backToKw pos (keywordEach [] X.env))) := by rfl) :
    PD G W X (.Call (.Attribute o m apos) (e :: es) [] pos) (eMeth c mn n g fo fa) := by
  refine ⟨fun pins sh σ H Q I h => ?_⟩
  obtain ⟨κ, w, s, ok, q⟩ := h
  have hh : tD G W fo σ H fun v H1 => ∃ d s1 w1, w.le w1 ∧ Ok G κ w1 s1 σ H1 ∧ Rep G w1 v d ∧ PostG G W (Rep G) κ w1 σ (match insOf d s1 with
    | some (c', fs) => if c' = c ∧ fs.lookup mn = none then (fa s1).bind fun ds s2 => if ds.length + 1 = n then lift s2 (g (d :: ds) s2.st) else .stuck else .stuck
    | none => .stuck) Q := ⟨κ, w, s, ok, PostG.bind q⟩
  refine PySem.W.methodCall_KW (pl := pl) (thn (he.run pins sh σ H _ I hh) fun u s1 ⟨x, H1, I1, rx, d, t1, w1, le, ok1, r1, q1⟩ => ?_) ht
  cases e1 : insOf d t1 with
  | none => rw [e1] at q1; exact q1.elim
  | some p =>
    obtain ⟨c', fs⟩ := p
    rw [e1] at q1
    replace q1 : PostG G W (Rep G) κ w1 σ (if c' = c ∧ fs.lookup mn = none then (fa t1).bind fun ds s2 => if ds.length + 1 = n then lift s2 (g (d :: ds) s2.st) else .stuck else .stuck) Q := q1
    by_cases hc : c' = c ∧ fs.lookup mn = none
    · rw [if_pos hc] at q1
      obtain ⟨rfl, hl⟩ := hc
      obtain ⟨a, C', dx, vs, ev, hC', hH, rf⟩ := r1.ins_of ok1 e1
      rw [hC] at hC'
      cases hC'
      subst ev
      obtain rfl : u = Value.ref a := rx
      have hl2 : vs.lookup m = none := by rw [hmn]; exact rf.none hl
      refine getmeth_ok I1 hH cl hm hl2 ?_
      have hh2 : tDA G W fa σ H1 fun vs H2 => ∃ ds s2 w2, w1.le w2 ∧ Ok G κ w2 s2 σ H2 ∧ Reps G w2 vs ds ∧ PostG G W (Rep G) κ w2 σ (if ds.length + 1 = n then lift s2 (g (d :: ds) s2.st) else .stuck) Q := ⟨κ, w1, t1, ok1, PostG.bind q1⟩
      refine PySem.W.callWith_K (first := [.ref a]) (h₀ := X.base) I.ok.mod.kin hm.kp (thn (ha.run pos pins s1 σ H1 _ I1 hh2) fun us s2 ⟨vs2, H2, I2, r2, ds, t2, w2, le2, ok2, rs2, q2⟩ => ⟨I2.kIn, ?_⟩) hst hpl
      by_cases c3 : ds.length + 1 = n
      · rw [if_pos c3] at q2
        exact callD (us := .ref a :: us) (vs := .ref a :: vs2) (ds := d :: ds) F hr hb tk I2 ok2 (.cons (r1.mono le2) rs2) (.cons rfl r2) c3 q2
      · rw [if_neg c3] at q2
        exact q2.elim
    · rw [if_neg hc] at q1
      exact q1.elim
theorem pd_meth0 (hK : G.K = X.K) {c : String} {mn : Nm} {n : Nat} {g : DFn} {fo : DE} {C f : Addr} {m : Str} {k : Nat} {fd : FuncData} {ps : List Str} {o : Expr} {apos pos : Pos} {pl : Sem Bool} (he : PD G W X o fo) (hC : G.ct c = some C) (cl : Cls X.K C) (hmn : m = nm mn) (hm : Meth X.K C m f)
    (F : FnOk X.prog X.w X.K X.mg X.base (L2.CX X.prog X.w) k f fd ps (spG G n g)) (hr : Room k X.A) (hb : Binds X.K fd ps []) (tk : Takes X W)
    (ht : eval (.Call (.Attribute o m apos) [] [] pos) X.env = (do
      let ov ← eval o X.env
      standAt apos.atName
      let (f, first) ← holding [ov] (getMethod ov m pl)
      callWith pos f first (backTo pos (starEach [] X.env)) (backToKw pos (keywordEach [] X.env))) := by rfl) :
    PD G W X (.Call (.Attribute o m apos) [] [] pos) (eMeth c mn n g fo aNil) := by
  refine ⟨fun pins sh σ H Q I h => ?_⟩
  obtain ⟨κ, w, s, ok, q⟩ := h
  have hh : tD G W fo σ H fun v H1 => ∃ d s1 w1, w.le w1 ∧ Ok G κ w1 s1 σ H1 ∧ Rep G w1 v d ∧ PostG G W (Rep G) κ w1 σ (match insOf d s1 with
    | some (c', fs) => if c' = c ∧ fs.lookup mn = none then (aNil s1).bind fun ds s2 => if ds.length + 1 = n then lift s2 (g (d :: ds) s2.st) else .stuck else .stuck
    | none => .stuck) Q := ⟨κ, w, s, ok, PostG.bind q⟩
  refine PySem.W.methodCall_KW (pl := pl) (thn (he.run pins sh σ H _ I hh) fun u s1 ⟨x, H1, I1, rx, d, t1, w1, le, ok1, r1, q1⟩ => ?_) ht
  cases e1 : insOf d t1 with
  | none => rw [e1] at q1; exact q1.elim
  | some p =>
    obtain ⟨c', fs⟩ := p
    rw [e1] at q1
    replace q1 : PostG G W (Rep G) κ w1 σ (if c' = c ∧ fs.lookup mn = none then (if 0 + 1 = n then lift t1 (g [d] t1.st) else .stuck) else .stuck) Q := q1
    by_cases hc : c' = c ∧ fs.lookup mn = none
    · rw [if_pos hc] at q1
      obtain ⟨rfl, hl⟩ := hc
      obtain ⟨a, C', dx, vs, ev, hC', hH, rf⟩ := r1.ins_of ok1 e1
      rw [hC] at hC'
      cases hC'
      subst ev
      obtain rfl : u = Value.ref a := rx
      have hl2 : vs.lookup m = none := by rw [hmn]; exact rf.none hl
      refine getmeth_ok I1 hH cl hm hl2 ?_
      by_cases c3 : 0 + 1 = n
      · rw [if_pos c3] at q1
        exact PySem.W.callWith_K0 (first := [.ref a]) I1.kIn hm.kp (callD (us := [.ref a]) (vs := [.ref a]) (ds := [d]) F hr hb tk I1 ok1 (.cons r1 .nil) (.cons rfl .nil) c3 q1)
      · rw [if_neg c3] at q1
        exact q1.elim
    · rw [if_neg hc] at q1
      exact q1.elim
/-! ### C(..): an instance of one's own class is made -/
abbrev DIn := List D → List Cell → Res (List Cell) (List (Nm × D))
def erase (H : Hp) (x : Addr) : Hp := fun a => if a = x then none else H a
def spI (G : Gam) (c : String) (n : Nat) (g : DIn) : Sp := fun vs H Q E => vs.length = n + 1 ∧ ∃ w S ds x vs' C dx, vs = .ref x :: vs' ∧ G.ct c = some C ∧ H x = some (.ins C dx []) ∧ FOk G w S H ∧ w.F x = none ∧ x ∉ w.ρ ∧ Reps G w vs' ds ∧
  match g ds S with
  | .ok fs S' => ∀ w' H' vfs dx', Nx w (erase H x) w' H' → FOk G w' S' H' → H' x = some (.ins C dx' vfs) → RepF G w' vfs fs → w'.F x = none → x ∉ w'.ρ → Q .non H'
  | .exc x' S' => ∀ w' cc dd H', Nx w (erase H x) w' H' → FOk G w' S' H' → RepX G w' cc dd x' → E cc dd H'
  | .stuck => False
def inFin (c : String) (s : DS) : Res (List Cell) (List (Nm × D)) := match (s.sl[0]? : Option Sl) with
  | some (.oi c' fs) => if c' = c then .ok fs s.st else .stuck
  | _ => .stuck
def inD (c : String) (n : Nat) (body : DStm) (m : Nat) : DIn := fun ds S => if ds.length = n then
  match body ⟨.oi c [] :: ds.map Sl.val ++ List.replicate m .un, S⟩ with
  | .ok (.rt .non) s => inFin c s
  | .ok .nx s => inFin c s
  | .exc x s => .exc x s.st
  | _ => .stuck
  else .stuck
theorem Ok.startI {w : Wd} {S : List Cell} {H : Hp} {vs : List V} {ds : List D} {x C dx : Addr} {c : String} (f : FOk G w S H) (r : Reps G w vs ds) (m : Nat) (hC : G.ct c = some C) (hx : H x = some (.ins C dx [])) (nF : w.F x = none) (nR : x ∉ w.ρ) :
    Ok G ⟨w, erase H x, [], some x⟩ w ⟨.oi c [] :: ds.map Sl.val ++ List.replicate m .un, S⟩ (some (.ref x) :: vs.map some ++ List.replicate m none) H := by
  have base := Ok.start f r m
  have no : ∀ (i : Nat) (y : Sl), (ds.map Sl.val ++ List.replicate m Sl.un)[i]? = some y → y.own = false := fun i y e => by
    have hx := List.mem_of_getElem? e
    rcases List.mem_append.mp hx with h | h
    · obtain ⟨d, _, rfl⟩ := List.mem_map.mp h
      rfl
    · rw [(List.mem_replicate.mp h).2]
      rfl
  refine ⟨f, ⟨.refl _, fun a o e _ => ?_, fun a h => .inl h, fun a h => .inl h⟩, by simp [r.length], fun i d e => ?_, fun i y e o => ?_, fun i j y z a e1 e2 o1 o2 _ _ => ?_, fun p hp => by simp at hp, fun a z c' fs' _ => by cases z; rfl⟩
  · have e : (if a = x then none else H a) = some o := e
    split at e
    · cases e
    · exact e
  · cases i with
    | zero => cases e
    | succ i => exact base.val i d e
  · cases i with
    | zero =>
      cases e
      exact ⟨x, rfl, ⟨C, dx, [], hC, hx, .nil⟩, nF, nR, by show (if x = x then none else H x) = none; rw [if_pos rfl]⟩
    | succ i =>
      rw [no i y e] at o
      cases o
  · cases i with
    | zero =>
      cases j with
      | zero => rfl
      | succ j => rw [no j z e2] at o2; cases o2
    | succ i => rw [no i y e1] at o1; cases o1
theorem in_okD {P : Program} {w0 : World} {mg : Str → Option Value} {base : Heap} {x qual : Str} {st : Stmt} {f : Addr} {fd : FuncData} {N ps : List Str} {c : String} {k n m : Nat} {body : DStm} (F : Fun G.K x qual st f fd) (S : FnScope N ps (defScope st)) (hn : ps.length = n + 1) (hm : N.length - (n + 1) = m)
    (hbody : ∀ (cdv : Value) (A : Around) (outer : List Env) (s : Shared) (H : Hp) (E : XK), Room k (A.deeper (envOfC qual (defScope st) s.heap.objs.size f cdv)) →
      Takes (cxOf (L2.CX P w0) P w0 G.K mg base N qual (defScope st) f cdv A outer s H E) (fun c d _ H => E c d H) → PassesOwn (model P w0) (A.deeper (envOfC qual (defScope st) s.heap.objs.size f cdv)) (envOfC qual (defScope st) s.heap.objs.size f cdv) (cxOf (L2.CX P w0) P w0 G.K mg base N qual (defScope st) f cdv A outer s H E).xe →
      PDSs G (fun c d _ H => E c d H) (cxOf (L2.CX P w0) P w0 G.K mg base N qual (defScope st) f cdv A outer s H E) (defBody st) body) : FnOk P w0 G.K mg base (L2.CX P w0) (k + 1) f fd ps (spI G c n (inD c n body m)) := by
  refine F.okX S (fun vs H Q E h => by rw [h.1, hn]) fun cdv A outer s H vs Q E hr h => ?_
  refine ⟨_, hbody cdv A outer s H E hr (takes_of rfl rfl rfl rfl) (passes_of rfl), ?_⟩
  obtain ⟨hl, w, S', ds, xa, vs', C, dx, ev, hC, hx, fok, nF, nR, rs, q⟩ := h
  subst ev
  have hl' : vs'.length = n := by simpa using hl
  have hd : ds.length = n := by rw [← rs.length]; exact hl'
  unfold inD at q
  rw [if_pos hd] at q
  rw [start_eq (m := m) (by rw [List.length_cons, hl']; exact hm)]
  refine ⟨⟨w, erase H xa, [], some xa⟩, w, _, Ok.startI fok rs m hC hx nF nR, ?_⟩
  have fin : ∀ (w' : Wd) (σ' : L2.St) (H' : Hp) (s' : DS), Ok G ⟨w, erase H xa, [], some xa⟩ w' s' σ' H' →
      (match inFin c s' with
        | .ok fs S' => ∀ w' H' vfs dx', Nx w (erase H xa) w' H' → FOk G w' S' H' → H' xa = some (.ins C dx' vfs) → RepF G w' vfs fs → w'.F xa = none → xa ∉ w'.ρ → Q .non H'
        | .exc x' S' => ∀ w' cc dd H', Nx w (erase H xa) w' H' → FOk G w' S' H' → RepX G w' cc dd x' → E cc dd H'
        | .stuck => False) → Q .non H' := fun w' σ' H' s' o q => by
    unfold inFin at q
    cases e0 : s'.sl[0]? with
    | none => rw [e0] at q; exact q.elim
    | some y =>
      rw [e0] at q
      cases y with
      | oi c' fs =>
        by_cases hc : c' = c
        · subst hc
          simp only [if_true] at q
          have h0 := o.me xa rfl _ _ e0
          obtain ⟨a, h1, ⟨C', dx', vfs, hC', hH, rf⟩, h3, h4, _⟩ := o.own 0 _ e0 rfl
          rw [h0] at h1
          cases h1
          rw [hC] at hC'
          cases hC'
          exact q w' H' vfs dx' o.nx o.fok hH rf h3 h4
        · simp only [if_neg hc] at q
      | _ => exact q.elim
  cases e : body ⟨.oi c [] :: ds.map Sl.val ++ List.replicate m .un, S'⟩ with
  | stuck => rw [e] at q; exact q.elim
  | exc x s' =>
    rw [e] at q
    exact fun w' σ' c dd H' l o r => q w' c dd H' o.nx o.fok r
  | ok o s' =>
    rw [e] at q
    cases o with
    | nx => exact fun w' σ' H' l o => fin w' σ' H' s' o q
    | bk => exact q.elim
    | ct => exact q.elim
    | rt d =>
      intro w' σ' v H' l o r
      cases r with
      | non => exact fin w' σ' H' s' o q
      | _ => exact q.elim
/-- what of the text a class must have to be made -/
theorem makeD {c : String} {n k : Nat} {g : DIn} {C f : Addr} {fd : FuncData} {ps : List Str} {pins : List (Addr × Obj)} {sh : Shared} {κ : Bs} {w : Wd} {s : DS} {σ : L2.St} {H : Hp} {vs : List V} {ds : List D} {us : List Value} {Q : VK} (M : Mk X.K C f) (hC : G.ct c = some C)
    (F : FnOk X.prog X.w X.K X.mg X.base (L2.CX X.prog X.w) k f fd ps (spI G c n g)) (hr : Room (k + 1) X.A) (hb : Binds X.K fd ps []) (tk : Takes X W) (I : Inv X pins σ H sh) (ok : Ok G κ w s σ H) (rs : Reps G w vs ds) (r : Vals vs us) (hn : ds.length = n)
    (q : PostG G W (Rep G) κ w σ ((lift s (g ds s.st)).bind fun fs s1 => .ok (.ins c fs) s1) Q) : wpAny (model X.prog X.w) X.A (call (.ref C) us) (EP X pins σ Q) X.xe sh := by
  have key : ∀ x dx, H x = none → H dx = none → dx ≠ x → spI G c n g (.ref x :: (vs ++ [])) (upd (upd H dx (.own x)) x (.ins C dx [])) (fun v H2 => v = .non ∧ Q (.ref x) H2) (WE W σ) := fun x dx nx ndx ne => by
    have o1 := ok.fresh ndx (.own x)
    have nx1 : upd H dx (.own x) x = none := by rw [upd_ne (Ne.symm ne)]; exact nx
    have o2 := o1.fresh nx1 (.ins C dx [])
    obtain ⟨g1, g2, g3, g4, g5⟩ := o2.gam (x, .ins C dx []) List.mem_cons_self
    have kx : ∀ a o, H a = some o → erase (upd (upd H dx (.own x)) x (.ins C dx [])) x a = some o := fun a o e => by
      have h1 : a ≠ x := ne_of_none e nx
      have h2 : a ≠ dx := ne_of_none e ndx
      show (if a = x then none else _) = some o
      rw [if_neg h1, upd_ne h1, upd_ne h2]
      exact e
    have bk : ∀ a, erase (upd (upd H dx (.own x)) x (.ins C dx [])) x a = none → H a = none := fun a e => by
      cases e2 : H a with
      | none => rfl
      | some o => rw [kx a o e2] at e; cases e
    refine ⟨by rw [List.append_nil, List.length_cons, rs.length, hn], w, s.st, ds, x, vs, C, dx, by rw [List.append_nil], hC, g1, o2.fok, g2, g3, rs, ?_⟩
    cases e : g ds s.st with
    | stuck => rw [e] at q; exact q.elim
    | exc x' S' =>
      rw [e] at q
      exact fun w' cc dd H' nn f' r => q w' cc dd H' nn.le (ok.step ⟨nn.le, fun a o e1 e2 => nn.keep a o (kx a o e1) e2, fun a h => (nn.newF a h).imp_right (bk a), fun a h => (nn.newR a h).imp_right (bk a)⟩ f') r
    | ok fs S' =>
      rw [e] at q
      intro w' H' vfs dx' nn f' hx rf hF hR
      refine ⟨rfl, ?_⟩
      have N1 : Nx w H w' H' := ⟨nn.le, fun a o e1 e2 => nn.keep a o (kx a o e1) e2, fun a h => (nn.newF a h).imp_right (bk a), fun a h => (nn.newR a h).imp_right (bk a)⟩
      have o3 : Ok G (κ.plus x (.ins C dx' vfs)) w' ⟨s.sl, S'⟩ σ H' := by
        have o3 := ok.step N1 f'
        refine ⟨o3.fok, o3.nx, o3.len, o3.val, o3.own, o3.ne, fun p hp => ?_, o3.me⟩
        rcases List.mem_cons.mp hp with rfl | hp
        · exact ⟨hx, hF, hR, g4, g5⟩
        · exact o3.gam p hp
      obtain ⟨le, o4⟩ := o3.frz fun p hp => ne_of_none (ok.gam p hp).1 nx
      exact q _ _ _ (nn.le.trans le) o4 (.ins hC upd_same (rf.mono le))
  have hx : PassesAt (L2.CX X.prog X.w) X σ (WE W σ) := passAt tk σ
  have hq := key (sh.heap.objs.size + 1) sh.heap.objs.size (I.hok.fresh (Nat.le_succ _)) (I.hok.fresh (Nat.le_refl _)) (Nat.ne_of_lt (Nat.lt_succ_self _))
  have I2 := Inv.made (C := C) I
  have r2 : Vals (V.ref (sh.heap.objs.size + 1) :: (vs ++ [])) (Value.ref (sh.heap.objs.size + 1) :: (us ++ [])) := .cons rfl (r.append .nil)
  have hl : (Value.ref (sh.heap.objs.size + 1) :: us ++ []).length = ps.length := by
    have e := r2.length
    rw [F.len _ _ _ _ hq] at e
    exact e.symm
  refine wpAny_call (make_map (f := f) I.kIn M.makes M.init (beq_iff_eq.mp M.fn) (codeAny_mono (F.run _ X.stack _ _ ⟨Value.ref (sh.heap.objs.size + 1) :: us, []⟩ (Value.ref (sh.heap.objs.size + 1) :: (us ++ [])) _ _ (WE W σ) (hr.make C us [])
    (I2.env0.make C us []) (by
      have hbb := hb _ (Value.ref (sh.heap.objs.size + 1) :: us) I2.kIn hl
      rw [List.cons_append] at hbb
      exact hbb) r2 hq) fun r s' hq' => ?_))
  cases r with
  | error e => exact hx pins _ _ e s' I2 hq'
  | ok fl =>
    cases fl with
    | ret u =>
      obtain ⟨v, H', I3, rv, ev, q3⟩ := I2.after hq'
      subst ev
      exact ⟨rv, ⟨V.ref (sh.heap.objs.size + 1), H', I3, rfl, q3⟩⟩
    | next => exact False.elim hq'
    | brk => exact False.elim hq'
    | cont => exact False.elim hq'
def eMake (c : String) (n : Nat) (g : DIn) (fa : DA) : DE := fun s => (fa s).bind fun ds s1 => if ds.length = n then (lift s1 (g ds s1.st)).bind fun fs s2 => .ok (.ins c fs) s2 else .stuck
theorem pd_make {c : String} {n k : Nat} {g : DIn} {C f : Addr} {fd : FuncData} {ps : List Str} {x : Str} {p pos : Pos} {e : Expr} {es : List Expr} {fa : DA} (M : Mk X.K C f) (hC : G.ct c = some C) (F : FnOk X.prog X.w X.K X.mg X.base (L2.CX X.prog X.w) k f fd ps (spI G c n g)) (hr : Room (k + 1) X.A) (hg : Gl X x)
    (hm : X.mg x = some (.ref C)) (hb : Binds X.K fd ps []) (tk : Takes X W) (ha : PDA G W X (e :: es) fa) (hdb : (x == ("__debug__" : Str)) = false := by decide) (he : starEach (e :: es) X.env = (false, eval e X.env) :: starEach es X.env := by rfl)
    (hpl : (backTo pos (starEach es X.env)).any (·.1) = false := by rfl) : PD G W X (.Call (.Name x p) (e :: es) [] pos) (eMake c n g fa) := by
  refine ⟨fun pins s σ H Q I h => ?_⟩
  obtain ⟨κ, w, ds, ok, q⟩ := h
  refine wpAny_Call_Name_kw (ld_glob I hg hm ?_ hdb)
  have hh : tDA G W fa σ H fun vs H1 => ∃ d s1 w1, w.le w1 ∧ Ok G κ w1 s1 σ H1 ∧ Reps G w1 vs d ∧ PostG G W (Rep G) κ w1 σ (if d.length = n then (lift s1 (g d s1.st)).bind fun fs s2 => .ok (.ins c fs) s2 else .stuck) Q := ⟨κ, w, ds, ok, PostG.bind q⟩
  refine PySem.W.callWith_K (h₀ := X.base) I.ok.mod.kin M.kp (thn (ha.run pos pins s σ H _ I hh) fun us s1 ⟨vs, H1, I1, r, d, s2, w1, le, ok1, rs, q1⟩ => ⟨I1.kIn, ?_⟩) he hpl
  by_cases c : d.length = n
  · rw [if_pos c] at q1
    exact makeD M hC F hr hb tk I1 ok1 rs r c q1
  · rw [if_neg c] at q1
    exact q1.elim
/-! ### self.f = e -/
def sFldO (c : String) (i : Nat) (fn : Nm) (f : DE) : DStm := fun s => (f s).bind fun d s1 => match s1.sl[i]? with
  | some (.oi c' fs) => if c' = c ∧ fs.length < 1000 then .ok .nx ⟨s1.sl.set i (.oi c (putN fn d fs)), s1.st⟩ else .stuck
  | _ => .stuck
theorem RepF.put {w : Wd} {y : V} {d : D} {fn : Nm} (r : Rep G w y d) : ∀ {v : List (Str × V)} {ds : List (Nm × D)}, RepF G w v ds → RepF G w (putF (nm fn) y v) (putN fn d ds)
  | _, _, .nil => .cons r .nil
  | _, _, .cons (f := g) a b => by
    unfold putF putN
    by_cases h : g = fn
    · subst h
      rw [if_pos rfl]
      simp only [if_true]
      first
        | exact .cons r b
        | (split <;> first | exact .cons r b | (rename_i q; exact absurd rfl q))
    · have h2 : nm g ≠ nm fn := fun q => h (nm_inj q)
      rw [if_neg h]
      split
      · rename_i q; exact absurd q h2
      · exact .cons a (RepF.put r b)
theorem pds_fld (hK : G.K = X.K) {c : String} {C : Addr} {i : Nat} {fn : Nm} {f : DE} {x y : Str} {p pos' pos : Pos} {value : Expr} (ho : PE X (.Name y p) (tVar i)) (hx : x = nm fn) (hC : G.ct c = some C) (cl : Cls X.K C) (na : NoAttr X.K C x) (hv : PD G W X value f)
    (hs : swapsWith value (some (.Attribute (.Name y p) x pos')) pos.line X.env = pure false := by rfl) : PDS G W X (.Assign [.Attribute (.Name y p) x pos'] value pos) (sFldO c i fn f) :=
  (ps_fld ho hv hs).imp fun N σ H ⟨κ, w, s, ok, q⟩ => ⟨κ, w, s, ok, (PostG.bindS q).imp fun v H1 ⟨d, s1, w1, le, ok1, r1, q1⟩ => by
    cases e : s1.sl[i]? with
    | none => rw [e] at q1; exact q1.elim
    | some z =>
      rw [e] at q1
      cases z with
      | oi c' fs =>
        replace q1 : PostS G W κ w1 (if c' = c ∧ fs.length < 1000 then .ok .nx ⟨s1.sl.set i (.oi c (putN fn d fs)), s1.st⟩ else .stuck) N := q1
        by_cases hc : c' = c ∧ fs.length < 1000
        · rw [if_pos hc] at q1
          obtain ⟨rfl, hl⟩ := hc
          obtain ⟨a, h1, ⟨C', dx, vs, hC', hH, rf⟩, _⟩ := ok1.own i _ e rfl
          rw [hC] at hC'
          cases hC'
          refine ⟨_, h1, a, C, dx, vs, rfl, hH, cl, na, by rw [rf.length]; exact hl, ?_⟩
          refine q1 w1 σ _ (.refl _) (ok1.mut e rfl rfl h1 ⟨C, dx, _, hC, upd_same, ?_⟩ fun _ _ _ => ⟨_, _, rfl⟩)
          rw [hx]
          exact RepF.put r1 rf
        · rw [if_neg hc] at q1
          exact q1.elim
      | _ => exact q1.elim⟩
end
end DL
set_option maxRecDepth 100000
set_option maxHeartbeats 4000000
set_option autoImplicit false
namespace DL
open PySem PySem.Spec PyProof.Rows L2
section
variable {G : Gam} {W : WX} {X : Cx}
/-! ### operators that may call -/
abbrev DO2 := D → D → DS → Res DS D
def OpX (G : Gam) (W : WX) (X : Cx) (f : Value → Value → Sem Value) (o : DO2) : Prop := ∀ (pins : List (Addr × Obj)) (sh : Shared) (σ : L2.St) (H : Hp) (x y : V) (v u : Value) (κ : Bs) (w : Wd) (s : DS) (dx dy : D) (Q : VK),
  Inv X pins σ H sh → RelV x v → RelV y u → Ok G κ w s σ H → Rep G w x dx → Rep G w y dy → PostG G W (Rep G) κ w σ (o dx dy s) Q → wpAny (model X.prog X.w) X.A (f v u) (EP X pins σ Q) X.xe sh
def eOpX (o : DO2) (fa fb : DE) : DE := fun s => (fa s).bind fun x s1 => (fb s1).bind fun y s2 => o x y s2
def liftO (o : D → D → Option D) : DO2 := fun x y s => match o x y with
  | some d => .ok d s
  | none => .stuck
theorem OpD.x {f : Value → Value → Sem Value} {o : D → D → Option D} (h : OpD G X f o) : OpX G W X f (liftO o) := by
  obtain ⟨r, h1, h2⟩ := h
  intro pins sh σ H x y v u κ w s dx dy Q I rx ry ok dx' dy' q
  unfold liftO at q
  cases e : o dx dy with
  | none => rw [e] at q; exact q.elim
  | some z => rw [e] at q; exact h1 pins sh σ H x y v u Q I rx ry (h2 κ w s σ H x y dx dy z Q ok dx' dy' e q)
def orO (o o' : DO2) : DO2 := fun x y s => match o x y s with
  | .stuck => o' x y s
  | r => r
theorem OpX.or {f : Value → Value → Sem Value} {o o' : DO2} (h : OpX G W X f o) (h' : OpX G W X f o') : OpX G W X f (orO o o') := by
  intro pins sh σ H x y v u κ w s dx dy Q I rx ry ok dx' dy' q
  unfold orO at q
  cases e : o dx dy s with
  | stuck => rw [e] at q; exact h' pins sh σ H x y v u κ w s dx dy Q I rx ry ok dx' dy' q
  | exc a b => rw [e] at q; exact h pins sh σ H x y v u κ w s dx dy Q I rx ry ok dx' dy' (by rw [e]; exact q)
  | ok a b => rw [e] at q; exact h pins sh σ H x y v u κ w s dx dy Q I rx ry ok dx' dy' (by rw [e]; exact q)
theorem opX_run {o : DO2} {fa fb : DE} {a b : Expr} (ha : PD G W X a fa) (hb : PD G W X b fb) {f : Value → Value → Sem Value} (ho : OpX G W X f o) {pins : List (Addr × Obj)} {sh : Shared} {σ : L2.St} {H : Hp} {Q : VK} (I : Inv X pins σ H sh) (h : tD G W (eOpX o fa fb) σ H Q) :
    wpAny (model X.prog X.w) X.A (eval a X.env) (fun v s₁ => wpAny (model X.prog X.w) X.A (eval b X.env) (fun u s₂ => wpAny (model X.prog X.w) X.A (f v u) (EP X pins σ Q) X.xe s₂) X.xe s₁) X.xe sh := by
  obtain ⟨κ, w, s, ok, q⟩ := h
  have hh : tD G W fa σ H fun v H1 => tD G W fb σ H1 fun u H2 => ∃ d s1 w1, Ok G κ w1 s1 σ H2 ∧ ∃ d1, Rep G w1 v d1 ∧ Rep G w1 u d ∧ PostG G W (Rep G) κ w1 σ (o d1 d s1) Q :=
    ⟨κ, w, s, ok, (PostG.bind q).imp fun v H1 ⟨d, s1, w1, le, ok1, r1, q1⟩ => ⟨κ, w1, s1, ok1, (PostG.bind q1).imp fun u H2 ⟨d2, s2, w2, le2, ok2, r2, q2⟩ => ⟨d2, s2, w2, ok2, d, r1.mono le2, r2, q2⟩⟩⟩
  refine bin ha hb I (R := fun x y H2 => ∃ d s1 w1, Ok G κ w1 s1 σ H2 ∧ ∃ d1, Rep G w1 x d1 ∧ Rep G w1 y d ∧ PostG G W (Rep G) κ w1 σ (o d1 d s1) Q) hh fun v u s2 x y H2 I2 rx ry ⟨d, s1, w1, ok1, d1, r1, r2, q2⟩ => ?_
  exact ho pins s2 σ H2 x y v u κ w1 s1 d1 d Q I2 rx ry ok1 r1 r2 q2
theorem pd_opX {op : Operator} {o : DO2} {a b : Expr} {fa fb : DE} {pos : Pos} (ho : OpX G W X (binaryOp op) o) (ha : PD G W X a fa) (hb : PD G W X b fb) : PD G W X (.BinOp a op b pos) (eOpX o fa fb) :=
  ⟨fun pins s σ H Q I h => wpAny_BinOp (opX_run ha hb ho I h)⟩
theorem pd_cmpX {op : CmpOp} {o : DO2} {a b : Expr} {fa fb : DE} {pos : Pos} (ho : OpX G W X (compareOp op) o) (ha : PD G W X a fa) (hb : PD G W X b fb) (hm : behindInMarks op b = false) : PD G W X (.Compare a [op] [b] pos) (eOpX o fa fb) :=
  ⟨fun pins s σ H Q I h => wpAny_Compare1 (opX_run ha hb ho I h) hm⟩
/-! ### truth -/
def truD (d : D) : Option Bool := match d with
  | .non => some false
  | .bl b => some b
  | .int i => some (i != 0)
  | .str l => if l.length ≤ 16777216 then some ((l.length : Int) != 0) else none
  | .tup xs => some (!xs.isEmpty)
  | .lst xs => some (!xs.isEmpty)
  | .scr xs => some (!xs.isEmpty)
  | .dic xs => some (!xs.isEmpty)
  | _ => none
theorem Reps.isEmpty {w : Wd} {vs : List V} {ds : List D} (r : Reps G w vs ds) : vs.isEmpty = ds.isEmpty := by cases r <;> rfl
theorem RepK.isEmpty {w : Wd} {vs : List (Key × V)} {ds : List (DK × D)} (r : RepK G w vs ds) : vs.isEmpty = ds.isEmpty := by cases r <;> rfl
theorem nm_len (l : Nm) : (nm l).length = l.length := by simp [nm, Str.length]
theorem truV_of (hK : G.K = X.K) {κ : Bs} {w : Wd} {s : DS} {σ : L2.St} {H : Hp} {v : V} {d : D} {k : Bool} (ok : Ok G κ w s σ H) (r : Rep G w v d) (h : truD d = some k) : TruV X.K v H k := by
  cases r with
  | non => cases h; rfl
  | bl b => cases h; rfl
  | int i => cases h; rfl
  | str l =>
    have h : (if l.length ≤ 16777216 then some ((l.length : Int) != 0) else none) = some k := h
    split at h
    · rename_i c
      cases h
      exact ⟨by rw [nm_len, sizeLine_eq]; exact c, by rw [nm_len]⟩
    · cases h
  | @tup a vs ds e r => cases h; exact .inr (.inl ⟨vs, hK ▸ SqT.le e ok.fok.sub, by rw [r.isEmpty]⟩)
  | @lst a vs ds e r => cases h; exact .inl ⟨vs, .inl (.inl (ok.fok.sub _ _ e)), by rw [r.isEmpty]⟩
  | @scr a vs ds e r => cases h; exact .inl ⟨vs, hK ▸ SqL.le e ok.fok.sub, by rw [r.isEmpty]⟩
  | @dic a vs ds e r => cases h; exact .inr (.inr ⟨vs, ok.fok.sub _ _ e, by rw [r.isEmpty]⟩)
  | _ => cases h
def eTru (f : DE) : DT := fun s => (f s).bind fun d s1 => match truD d with
  | some b => .ok b s1
  | none => .stuck
theorem ptd_truth (hK : G.K = X.K) {e : Expr} {f : DE} (h : PD G W X e f) (he : ∀ whole, isTrue e X.env whole = (do let v ← whole; standAt e.pos; holding [v] (truthy v)) := by intro _; rfl) : PDT G W X e (eTru f) :=
  (pt_truth h he).imp fun σ H Q ⟨κ, w, s, ok, q⟩ => ⟨κ, w, s, ok, (PostG.bind q).imp fun v H1 ⟨d, s1, w1, le, ok1, r1, q1⟩ => by
    cases e1 : truD d with
    | none => rw [e1] at q1; exact q1.elim
    | some k => rw [e1] at q1; exact ⟨k, truV_of hK ok1 r1 e1, q1 w1 k H1 (.refl _) ok1 rfl⟩⟩
theorem ptd_cmpX {op : CmpOp} {o : DO2} {a b : Expr} {fa fb : DE} {pos : Pos} (ho : OpX G W X (compareOp op) o) (ha : PD G W X a fa) (hb : PD G W X b fb) (hm : behindInMarks op b = false) : PDT G W X (.Compare a [op] [b] pos) (eB (eOpX o fa fb)) :=
  ⟨fun pins s σ H Q I h => by
    have hh := tB_of h
    refine wpAny_isTrue_Compare1 (thn (opX_run ha hb ho I hh) fun v s1 h1 => thn h1 fun u s2 h2 => thn h2 fun c s3 ⟨x, H1, I1, r1, q1⟩ => ?_) hm
    obtain ⟨d, rfl, q⟩ := q1
    cases r1
    exact wpAny_truthy_bool ⟨H1, I1, q⟩⟩
/-- x or y, x and y by truth, as values -/
def eOrT (f g : DE) : DE := fun s => (f s).bind fun d s1 => match truD d with
  | some b => if b = true then .ok d s1 else g s1
  | none => .stuck
def eAndT (f g : DE) : DE := fun s => (f s).bind fun d s1 => match truD d with
  | some b => if b = true then g s1 else .ok d s1
  | none => .stuck
def eNotT (f : DE) : DE := fun s => (f s).bind fun d s1 => match truD d with
  | some b => .ok (.bl (!b)) s1
  | none => .stuck
theorem pd_orT (hK : G.K = X.K) {a b : Expr} {r : List Expr} {f g : DE} {pos : Pos} (h : PD G W X a f) (k : PD G W X (.BoolOp .Or (b :: r) pos) g) : PD G W X (.BoolOp .Or (a :: b :: r) pos) (eOrT f g) :=
  (pe_orT h k).imp fun σ H Q ⟨κ, w, s, ok, q⟩ => ⟨κ, w, s, ok, (PostG.bind q).imp fun v H1 ⟨d, s1, w1, le, ok1, r1, q1⟩ => by
    cases e1 : truD d with
    | none => rw [e1] at q1; exact q1.elim
    | some k =>
      rw [e1] at q1
      refine ⟨k, truV_of hK ok1 r1 e1, ?_⟩
      cases k with
      | true => exact q1 w1 v H1 (.refl _) ok1 r1
      | false => exact ⟨κ, w1, s1, ok1, q1⟩⟩
theorem pd_andT (hK : G.K = X.K) {a b : Expr} {r : List Expr} {f g : DE} {pos : Pos} (h : PD G W X a f) (k : PD G W X (.BoolOp .And (b :: r) pos) g) : PD G W X (.BoolOp .And (a :: b :: r) pos) (eAndT f g) :=
  (pe_andT h k).imp fun σ H Q ⟨κ, w, s, ok, q⟩ => ⟨κ, w, s, ok, (PostG.bind q).imp fun v H1 ⟨d, s1, w1, le, ok1, r1, q1⟩ => by
    cases e1 : truD d with
    | none => rw [e1] at q1; exact q1.elim
    | some k =>
      rw [e1] at q1
      refine ⟨k, truV_of hK ok1 r1 e1, ?_⟩
      cases k with
      | false => exact q1 w1 v H1 (.refl _) ok1 r1
      | true => exact ⟨κ, w1, s1, ok1, q1⟩⟩
theorem pd_notT (hK : G.K = X.K) {a : Expr} {f : DE} {pos : Pos} (h : PD G W X a f) : PD G W X (.UnaryOp .Not a pos) (eNotT f) :=
  (pe_notT h).imp fun σ H Q ⟨κ, w, s, ok, q⟩ => ⟨κ, w, s, ok, (PostG.bind q).imp fun v H1 ⟨d, s1, w1, le, ok1, r1, q1⟩ => by
    cases e1 : truD d with
    | none => rw [e1] at q1; exact q1.elim
    | some k => rw [e1] at q1; exact ⟨k, truV_of hK ok1 r1 e1, q1 w1 _ H1 (.refl _) ok1 (.bl _)⟩⟩
/-! ### ints -/
def dI (g : Int → Int → Option D) : D → D → Option D := fun x y => match x, y with
  | .int i, .int j => g i j
  | _, _ => none
theorem opd_I {f : Value → Value → Sem Value} {C : Int → Int → Prop} {gv : Int → Int → V} {g : Int → Int → Option D} (h : OpR X f (rI C gv)) (hg : ∀ i j d, g i j = some d → C i j ∧ ∀ w, Rep G w (gv i j) d) : OpD G X f (dI g) :=
  ⟨_, h, fun κ w s σ H x y dx dy d Q ok rx ry e q => by
    cases rx with
    | int i =>
      cases ry with
      | int j =>
        obtain ⟨c, r⟩ := hg _ _ _ e
        exact ⟨_, _, rfl, rfl, c, q w _ H (.refl _) ok (r w)⟩
      | _ => exact nomatch e
    | _ => exact nomatch e⟩
theorem opd_I0 {f : Value → Value → Sem Value} {gv : Int → Int → V} {g : Int → Int → Option D} (h : OpR X f (rI0 gv)) (hg : ∀ i j d, g i j = some d → ∀ w, Rep G w (gv i j) d) : OpD G X f (dI g) :=
  ⟨_, h, fun κ w s σ H x y dx dy d Q ok rx ry e q => by
    cases rx with
    | int i =>
      cases ry with
      | int j => exact ⟨_, _, rfl, rfl, q w _ H (.refl _) ok (hg _ _ _ e w)⟩
      | _ => exact nomatch e
    | _ => exact nomatch e⟩
/-- a bound on the bits that products may have -/
def mulOk (i j : Int) : Bool := decide (i.natAbs.log2 + j.natAbs.log2 < 100000000)
def divOk (j : Int) : Bool := decide (j ≠ 0 ∧ j.natAbs.log2 < 9000)
def iAdd : D → D → Option D := dI fun i j => some (.int (i + j))
def iSub : D → D → Option D := dI fun i j => some (.int (i - j))
def iMul : D → D → Option D := dI fun i j => if mulOk i j then some (.int (i * j)) else none
def iDiv : D → D → Option D := dI fun i j => if divOk j then some (.int (i.fdiv j)) else none
def iMod : D → D → Option D := dI fun i j => if j ≠ 0 then some (.int (i.fmod j)) else none
def iPow : D → D → Option D := dI fun i j => if 0 ≤ j ∧ j ≤ 1000000 ∧ i.natAbs < 2 ^ 64 then some (.int (i ^ j.toNat)) else none
def iShl : D → D → Option D := dI fun i j => if 0 ≤ j ∧ j ≤ 1000000 ∧ i.natAbs < 2 ^ 64 then some (.int (i * 2 ^ j.toNat)) else none
def iLt : D → D → Option D := dI fun i j => some (.bl (decide (i < j)))
def iLe : D → D → Option D := dI fun i j => some (.bl (decide (i ≤ j)))
def iGt : D → D → Option D := dI fun i j => some (.bl (decide (j < i)))
def iGe : D → D → Option D := dI fun i j => some (.bl (decide (j ≤ i)))
theorem opd_add : OpD G X (binaryOp .Add) iAdd := opd_I0 op_add fun i j d e w => by cases e; exact .int _
theorem opd_sub : OpD G X (binaryOp .Sub) iSub := opd_I0 op_sub fun i j d e w => by cases e; exact .int _
def CMulX (i j : Int) : Prop := i.natAbs.log2 + j.natAbs.log2 < 100000000
theorem CMulX.ok {i j : Int} (h : CMulX i j) : IntMulOk i j := by
  have b : ∀ x : Int, Builtin.Int.intBits x ≤ x.natAbs.log2 + 1 := fun x => by
    unfold Builtin.Int.intBits
    split <;> omega
  have h1 := b i
  have h2 := b j
  have h3 : i.natAbs.log2 + j.natAbs.log2 < 100000000 := h
  have e : bitsLine = 134217728 := by decide
  unfold IntMulOk
  intro z
  rw [Bool.and_eq_true] at z
  have z2 := z.2
  unfold Builtin.Int.intTooBig at z2
  have z3 := of_decide_eq_true z2
  rw [e] at z3
  omega
theorem op_mulX : OpR X (binaryOp .Mult) (rI CMulX fun i j => .int (i * j)) := opI fun _ _ _ _ _ _ _ hc q => mul_int q hc.ok
theorem opd_mul : OpD G X (binaryOp .Mult) iMul := opd_I op_mulX fun i j d e => by
  split at e
  · rename_i h
    cases e
    have h : decide (i.natAbs.log2 + j.natAbs.log2 < 100000000) = true := h
    exact ⟨(of_decide_eq_true h : i.natAbs.log2 + j.natAbs.log2 < 100000000), fun w => .int _⟩
  · cases e
theorem op_fdivX : OpR X (binaryOp .FloorDiv) (rI (fun _ j => j ≠ 0 ∧ j.natAbs.log2 < 9000) fun i j => .int (i.fdiv j)) := opI fun _ _ _ _ _ _ _ hc q => floordiv_int hc.1 q (.inl (PyProof.noPylong_of_log2 hc.2))
theorem opd_div : OpD G X (binaryOp .FloorDiv) iDiv := opd_I op_fdivX fun i j d e => by
  split at e
  · rename_i h
    cases e
    exact ⟨of_decide_eq_true h, fun w => .int _⟩
  · cases e
theorem opd_mod : OpD G X (binaryOp .Mod) iMod := opd_I op_modN fun i j d e => by
  split at e
  · rename_i h
    cases e
    exact ⟨h, fun w => .int _⟩
  · cases e
theorem opd_pow : OpD G X (binaryOp .Pow) iPow := opd_I op_pow fun i j d e => by
  split at e
  · rename_i h
    cases e
    exact ⟨h, fun w => .int _⟩
  · cases e
theorem opd_shl : OpD G X (binaryOp .LShift) iShl := opd_I op_shl fun i j d e => by
  split at e
  · rename_i h
    cases e
    exact ⟨h, fun w => .int _⟩
  · cases e
theorem opd_lt : OpD G X (compareOp .Lt) iLt := opd_I0 op_lt fun i j d e w => by cases e; exact .bl _
theorem opd_le : OpD G X (compareOp .LtE) iLe := opd_I0 op_le fun i j d e w => by cases e; exact .bl _
theorem opd_gt : OpD G X (compareOp .Gt) iGt := opd_I0 op_gt fun i j d e w => by cases e; exact .bl _
theorem opd_ge : OpD G X (compareOp .GtE) iGe := opd_I0 op_ge fun i j d e w => by cases e; exact .bl _
def eNeg (f : DE) : DE := fun s => (f s).bind fun d s1 => match d with
  | .int i => .ok (.int (-i)) s1
  | _ => .stuck
theorem pd_neg {a : Expr} {f : DE} {pos : Pos} (h : PD G W X a f) : PD G W X (.UnaryOp .USub a pos) (eNeg f) :=
  (pe_un un_neg h).imp fun σ H Q ⟨κ, w, s, ok, q⟩ => ⟨κ, w, s, ok, (PostG.bind q).imp fun v H1 ⟨d, s1, w1, le, ok1, r1, q1⟩ => by
    cases r1 with
    | int i => exact ⟨i, rfl, q1 w1 _ H1 (.refl _) ok1 (.int _)⟩
    | _ => exact q1.elim⟩
/-! ### sequences: +, * -/
def sAdd : D → D → Option D := fun x y => match x, y with
  | .str a, .str b => if a.length + b.length ≤ 1000000 then some (.str (a ++ b)) else none
  | .tup a, .tup b => if a ≠ [] ∧ b ≠ [] ∧ a.length + b.length ≤ 1000000 then some (.tup (a ++ b)) else none
  | _, _ => none
theorem nm_append (a b : Nm) : nm a ++ nm b = nm (a ++ b) := by
  show Str.mk _ = _
  simp [nm]
theorem opd_sadd (hK : G.K = X.K) : OpD G X (binaryOp .Add) sAdd := ⟨_, op_add_str.or op_catT, fun κ w s σ H x y dx dy d Q ok rx ry e q => by
  cases rx with
  | str a =>
    cases ry with
    | str b =>
      left
      have e : (if a.length + b.length ≤ 1000000 then some (D.str (a ++ b)) else none) = some d := e
      split at e
      · rename_i c
        cases e
        refine ⟨nm a, nm b, rfl, rfl, by rw [nm_len, nm_len, sizeLine_eq]; omega, ?_⟩
        rw [nm_append]
        exact q w _ H (.refl _) ok (.str _)
      · cases e
    | _ => exact nomatch e
  | @tup a vs ds e1 r1 =>
    cases ry with
    | @tup a2 vs2 ds2 e2 r2 =>
      right
      have e : (if ds ≠ [] ∧ ds2 ≠ [] ∧ ds.length + ds2.length ≤ 1000000 then some (D.tup (ds ++ ds2)) else none) = some d := e
      split at e
      · rename_i c
        cases e
        have n1 : vs ≠ [] := fun z => c.1 (by subst z; cases r1; rfl)
        have n2 : vs2 ≠ [] := fun z => c.2.1 (by subst z; cases r2; rfl)
        refine ⟨a, a2, vs, vs2, rfl, rfl, hK ▸ SqT.le e1 ok.fok.sub, hK ▸ SqT.le e2 ok.fok.sub, n1, by rw [r1.length, r2.length, sizeLine_eq]; omega, ?_⟩
        first
          | exact ⟨fun z => absurd z n2, fun p hp => by
              obtain ⟨le2, ok2⟩ := ok.alloc hp (.tup (vs ++ vs2))
              exact q _ _ _ le2 ok2 (.tup (.inl (.inl upd_same)) ((r1.append r2).mono le2))⟩
          | exact ⟨fun z => absurd z n2, fun _ p hp => by
              obtain ⟨le2, ok2⟩ := ok.alloc hp (.tup (vs ++ vs2))
              exact q _ _ _ le2 ok2 (.tup (.inl (.inl upd_same)) ((r1.append r2).mono le2))⟩
      · cases e
    | _ => exact nomatch e
  | _ => exact nomatch e⟩
/-- a + b of lists: a new list -/
def aCat (fa fb : DE) : DA := fun s => (fa s).bind fun x s1 => (fb s1).bind fun y s2 => match x, y with
  | .lst a, .lst b => if a.length + b.length ≤ 1000000 then .ok (a ++ b) s2 else .stuck
  | _, _ => .stuck
theorem pdo_cat {a b : Expr} {fa fb : DE} {pos : Pos} (ha : PD G W X a fa) (hb : PD G W X b fb) : PDo G W X (.BinOp a .Add b pos) (aCat fa fb) :=
  (pe_op op_cat ha hb).imp fun σ H Q ⟨κ, w, s, ok, q⟩ => ⟨κ, w, s, ok, (PostG.bindO q).imp fun v H1 ⟨d, s1, w1, le, ok1, r1, q1⟩ => ⟨κ, w1, s1, ok1, (PostG.bindO q1).imp fun v2 H2 ⟨d2, s2, w2, le2, ok2, r2, q2⟩ => by
    cases r1 with
    | @lst p vs ds e1 r1 =>
      cases r2 with
      | @lst p2 vs2 ds2 e2 r2 =>
        replace q2 : PostO G W κ w2 σ (if ds.length + ds2.length ≤ 1000000 then .ok (ds ++ ds2) s2 else .stuck) Q := q2
        split at q2
        · refine ⟨p, p2, vs, vs2, rfl, rfl, ok2.fok.sub _ _ (le2.f _ _ e1), ok2.fok.sub _ _ e2, by rw [r1.length, r2.length, sizeLine_eq]; omega, fun p hp => ?_⟩
          exact q2 w2 p _ _ (.refl _) (ok2.fresh hp _) (ok2.apart hp) ((r1.mono le2).append r2)
        · exact q2.elim
      | _ => exact q2.elim
    | _ => exact q2.elim⟩⟩
/-- list * int: a new list -/
def aRep (fa fb : DE) : DA := fun s => (fa s).bind fun x s1 => (fb s1).bind fun y s2 => match x, y with
  | .lst a, .int k => if -(2 ^ 63) ≤ k ∧ k < 2 ^ 63 ∧ a.length * k.toNat ≤ 1000000 then .ok (List.replicate k.toNat a).flatten s2 else .stuck
  | _, _ => .stuck
theorem Reps.rep {w : Wd} {vs : List V} {ds : List D} (r : Reps G w vs ds) : ∀ k : Nat, Reps G w (List.replicate k vs).flatten (List.replicate k ds).flatten
  | 0 => .nil
  | k + 1 => by
    rw [List.replicate_succ, List.replicate_succ, List.flatten_cons, List.flatten_cons]
    exact r.append (Reps.rep r k)
/-! ### subscripts -/
def ixD (d : D) (i : Int) : Option D := match d with
  | .tup xs => atI xs i
  | .lst xs => atI xs i
  | .scr xs => atI xs i
  | .str l => if l.length ≤ 16777216 then (atI l i).map fun c => .str [c] else none
  | _ => none
def eIx (fa fb : DE) : DE := fun s => (fa s).bind fun x s1 => (fb s1).bind fun y s2 => match y with
  | .int i => match ixD x i with
    | some d => .ok d s2
    | none => .stuck
  | _ => .stuck
theorem Reps.atI {w : Wd} {vs : List V} {ds : List D} {i : Int} {d : D} (r : Reps G w vs ds) (h : L2.atI ds i = some d) : ∃ v, L2.atI vs i = some v ∧ Rep G w v d := by
  unfold L2.atI at h ⊢
  rw [r.length]
  cases e : ixN ds.length i with
  | none => rw [e] at h; cases h
  | some j =>
    rw [e] at h
    obtain ⟨v, h1, h2⟩ := r.get (i := j) h
    exact ⟨v, h1, h2⟩
theorem pd_ix (hK : G.K = X.K) {a b : Expr} {fa fb : DE} {pos : Pos} (ha : PD G W X a fa) (hb : PD G W X b fb) (hs : PlainIx b) : PD G W X (.Subscript a b pos) (eIx fa fb) :=
  (pe_ix ix_seq ha hb hs).imp fun σ H Q ⟨κ, w, s, ok, q⟩ => ⟨κ, w, s, ok, (PostG.bind q).imp fun v H1 ⟨d, s1, w1, le, ok1, r1, q1⟩ => ⟨κ, w1, s1, ok1, (PostG.bind q1).imp fun v2 H2 ⟨d2, s2, w2, le2, ok2, r2, q2⟩ => by
    cases r2 with
    | int i =>
      replace q2 : PostG G W (Rep G) κ w2 σ (match ixD d i with | some d => .ok d s2 | none => .stuck) Q := q2
      cases e : ixD d i with
      | none => rw [e] at q2; exact q2.elim
      | some z =>
        rw [e] at q2
        cases r1 with
        | @tup p vs ds e1 r1 =>
          obtain ⟨y, h1, h2⟩ := Reps.atI r1 e
          exact .inr (.inl ⟨p, vs, i, y, rfl, rfl, hK ▸ SqT.le (SqT.le e1 le2.f) ok2.fok.sub, h1, q2 w2 y H2 (.refl _) ok2 (h2.mono le2)⟩)
        | @lst p vs ds e1 r1 =>
          obtain ⟨y, h1, h2⟩ := Reps.atI r1 e
          exact .inl ⟨p, vs, i, y, rfl, rfl, .inl (.inl (ok2.fok.sub _ _ (le2.f _ _ e1))), h1, q2 w2 y H2 (.refl _) ok2 (h2.mono le2)⟩
        | @scr p vs ds e1 r1 =>
          obtain ⟨y, h1, h2⟩ := Reps.atI r1 e
          exact .inl ⟨p, vs, i, y, rfl, rfl, hK ▸ SqL.le (SqL.le e1 le2.f) ok2.fok.sub, h1, q2 w2 y H2 (.refl _) ok2 (h2.mono le2)⟩
        | str l =>
          have e : (if l.length ≤ 16777216 then (L2.atI l i).map fun c => D.str [c] else none) = some z := e
          split at e
          · rename_i hl
            cases e3 : L2.atI l i with
            | none => simp [e3] at e
            | some c =>
              simp only [e3, Option.map_some, Option.some.injEq] at e
              subst e
              refine .inr (.inr ⟨nm l, i, c, rfl, rfl, by rw [nm_len, sizeLine_eq]; exact hl, by simpa [nm] using e3, ?_⟩)
              exact q2 w2 _ H2 (.refl _) ok2 (.str [c])
          · cases e
        | _ => exact nomatch e
    | _ => exact q2.elim⟩⟩
end
end DL
set_option maxRecDepth 100000
set_option maxHeartbeats 4000000
set_option autoImplicit false
namespace DL
open PySem PySem.Spec PyProof.Rows L2
section
variable {G : Gam} {W : WX} {X : Cx}
/-! ### built-ins by name -/
def CallD (G : Gam) (X : Cx) (f : Value) (o : List D → Option D) : Prop := ∃ r, CallR X f r ∧ ∀ (κ : Bs) (w : Wd) (s : DS) (σ : L2.St) (H : Hp) (vs : List V) (ds : List D) (d : D) (Q : VK),
  Ok G κ w s σ H → Reps G w vs ds → o ds = some d → (∀ w' v H', w.le w' → Ok G κ w' s σ H' → Rep G w' v d → Q v H') → r vs H Q
def eCB (o : List D → Option D) (fa : DA) : DE := fun s => (fa s).bind fun ds s1 => match o ds with
  | some d => .ok d s1
  | none => .stuck
theorem cb_of {o : List D → Option D} {r : List V → Hp → VK → Prop} {fa : DA} {σ : L2.St} {H : Hp} {Q : VK} (h2 : ∀ (κ : Bs) (w : Wd) (s : DS) (σ : L2.St) (H : Hp) (vs : List V) (ds : List D) (d : D) (Q : VK),
    Ok G κ w s σ H → Reps G w vs ds → o ds = some d → (∀ w' v H', w.le w' → Ok G κ w' s σ H' → Rep G w' v d → Q v H') → r vs H Q) (h : tD G W (eCB o fa) σ H Q) : tCB r (tDA G W fa) σ H Q := by
  obtain ⟨κ, w, s, ok, q⟩ := h
  refine ⟨κ, w, s, ok, (PostG.bind q).imp fun v H1 ⟨d, s1, w1, le, ok1, r1, q1⟩ => ?_⟩
  cases e : o d with
  | none => rw [e] at q1; exact q1.elim
  | some z => rw [e] at q1; exact h2 κ w1 s1 σ H1 v d z Q ok1 r1 e q1
theorem pd_callB {x : Str} {id : String} {p pos : Pos} {e : Expr} {es : List Expr} {fa : DA} {o : List D → Option D} (hc : CallD G X (.builtin id) o) (hg : Gl X x) (hm : X.mg x = none) (hv : bootBuiltins x = some (.builtin id)) (ha : PDA G W X (e :: es) fa) (hn : x ≠ "__name__" := by decide)
    (hdb : (x == ("__debug__" : Str)) = false := by decide) (he : starEach (e :: es) X.env = (false, eval e X.env) :: starEach es X.env := by rfl) (hpl : (backTo pos (starEach es X.env)).any (·.1) = false := by rfl) : PD G W X (.Call (.Name x p) (e :: es) [] pos) (eCB o fa) := by
  obtain ⟨r, h1, h2⟩ := hc
  exact (pe_callB h1 hg hm hv ha hn hdb he hpl).imp fun σ H Q h => cb_of h2 h
theorem pd_callTy {x : Str} {T : String} {p pos : Pos} {e : Expr} {es : List Expr} {fa : DA} {o : List D → Option D} (hc : CallD G X (.type T) o) (hg : Gl X x) (hm : X.mg x = none) (hv : bootBuiltins x = some (.type T)) (ha : PDA G W X (e :: es) fa) (hn : x ≠ "__name__" := by decide)
    (hdb : (x == ("__debug__" : Str)) = false := by decide) (he : starEach (e :: es) X.env = (false, eval e X.env) :: starEach es X.env := by rfl) (hpl : (backTo pos (starEach es X.env)).any (·.1) = false := by rfl) : PD G W X (.Call (.Name x p) (e :: es) [] pos) (eCB o fa) := by
  obtain ⟨r, h1, h2⟩ := hc
  exact (pe_callTy h1 hg hm hv ha hn hdb he hpl).imp fun σ H Q h => cb_of h2 h
theorem Reps.one {w : Wd} {vs : List V} {d : D} (r : Reps G w vs [d]) : ∃ v, vs = [v] ∧ Rep G w v d := by
  cases r with
  | cons a b => cases b; exact ⟨_, rfl, a⟩
theorem Reps.two {w : Wd} {vs : List V} {d d' : D} (r : Reps G w vs [d, d']) : ∃ v v', vs = [v, v'] ∧ Rep G w v d ∧ Rep G w v' d' := by
  cases r with
  | cons a b =>
    cases b with
    | cons a2 b2 => cases b2; exact ⟨_, _, rfl, a, a2⟩
def bLen : List D → Option D
  | [.tup xs] => some (.int xs.length)
  | [.lst xs] => some (.int xs.length)
  | [.scr xs] => some (.int xs.length)
  | [.str l] => if l.length ≤ 16777216 then some (.int l.length) else none
  | _ => none
theorem cd_len (hK : G.K = X.K) : CallD G X (.builtin "len") bLen := ⟨_, call_len, fun κ w s σ H vs ds d Q ok rs e q => by
  match ds, e with
  | [.tup xs], e =>
    cases e
    obtain ⟨v, rfl, r⟩ := rs.one
    cases r with
    | @tup a vs ds e r => exact ⟨_, _, rfl, .inr ⟨vs, hK ▸ SqT.le e ok.fok.sub, rfl⟩, by rw [r.length]; exact q w _ H (.refl _) ok (.int _)⟩
  | [.lst xs], e =>
    cases e
    obtain ⟨v, rfl, r⟩ := rs.one
    cases r with
    | @lst a vs ds e r => exact ⟨_, _, rfl, .inl ⟨vs, .inl (.inl (ok.fok.sub _ _ e)), rfl⟩, by rw [r.length]; exact q w _ H (.refl _) ok (.int _)⟩
  | [.scr xs], e =>
    cases e
    obtain ⟨v, rfl, r⟩ := rs.one
    cases r with
    | @scr a vs ds e r => exact ⟨_, _, rfl, .inl ⟨vs, hK ▸ SqL.le e ok.fok.sub, rfl⟩, by rw [r.length]; exact q w _ H (.refl _) ok (.int _)⟩
  | [.str l], e =>
    have e : (if l.length ≤ 16777216 then some (D.int l.length) else none) = some d := e
    split at e
    · rename_i c
      cases e
      obtain ⟨v, rfl, r⟩ := rs.one
      cases r
      exact ⟨_, _, rfl, ⟨by rw [nm_len, sizeLine_eq]; exact c, rfl⟩, by rw [nm_len]; exact q w _ H (.refl _) ok (.int _)⟩
    · cases e⟩
def bInt : List D → Option D
  | [.int i] => some (.int i)
  | [.bl b] => some (.int (if b then 1 else 0))
  | _ => none
theorem cd_int : CallD G X (.type "int") bInt := ⟨_, call_int1, fun κ w s σ H vs ds d Q ok rs e q => by
  match ds, e with
  | [.int i], e =>
    cases e
    obtain ⟨v, rfl, r⟩ := rs.one
    cases r
    exact .inl ⟨i, rfl, q w _ H (.refl _) ok (.int _)⟩
  | [.bl b], e =>
    cases e
    obtain ⟨v, rfl, r⟩ := rs.one
    cases r
    exact .inr ⟨b, rfl, q w _ H (.refl _) ok (.int _)⟩⟩
def bAbs : List D → Option D
  | [.int i] => some (.int (if i < 0 then -i else i))
  | _ => none
theorem cd_abs : CallD G X (.builtin "abs") bAbs := ⟨_, call_abs, fun κ w s σ H vs ds d Q ok rs e q => by
  match ds, e with
  | [.int i], e =>
    cases e
    obtain ⟨v, rfl, r⟩ := rs.one
    cases r
    exact ⟨i, rfl, q w _ H (.refl _) ok (.int _)⟩⟩
def bMax2 : List D → Option D
  | [.int i, .int j] => some (.int (if j > i then j else i))
  | _ => none
def bMin2 : List D → Option D
  | [.int i, .int j] => some (.int (if j < i then j else i))
  | _ => none
theorem cd_max2 (hc : X.calm = true) : CallD G X (.builtin "max") bMax2 := ⟨_, call_max2 hc, fun κ w s σ H vs ds d Q ok rs e q => by
  match ds, e with
  | [.int i, .int j], e =>
    cases e
    obtain ⟨v, v', rfl, r, r'⟩ := rs.two
    cases r
    cases r'
    exact ⟨i, j, rfl, q w _ H (.refl _) ok (.int _)⟩⟩
theorem cd_min2 (hc : X.calm = true) : CallD G X (.builtin "min") bMin2 := ⟨_, call_min2 hc, fun κ w s σ H vs ds d Q ok rs e q => by
  match ds, e with
  | [.int i, .int j], e =>
    cases e
    obtain ⟨v, v', rfl, r, r'⟩ := rs.two
    cases r
    cases r'
    exact ⟨i, j, rfl, q w _ H (.refl _) ok (.int _)⟩⟩
def intsOf : List D → Option (List Int)
  | [] => some []
  | .int i :: r => (intsOf r).map (i :: ·)
  | _ => none
theorem intsOf_eq : ∀ {ds : List D} {ns : List Int}, intsOf ds = some ns → ds = ns.map D.int
  | [], ns, e => by cases e; rfl
  | .int i :: r, ns, e => by
    unfold intsOf at e
    cases q : intsOf r with
    | none => rw [q] at e; cases e
    | some ms =>
      rw [q] at e
      cases e
      rw [intsOf_eq q]
      rfl
  | .non :: _, _, e => nomatch e
  | .bl _ :: _, _, e => nomatch e
  | .str _ :: _, _, e => nomatch e
  | .tup _ :: _, _, e => nomatch e
  | .lst _ :: _, _, e => nomatch e
  | .scr _ :: _, _, e => nomatch e
  | .dic _ :: _, _, e => nomatch e
  | .ins _ _ :: _, _, e => nomatch e
  | .cell _ :: _, _, e => nomatch e
  | .cls _ :: _, _, e => nomatch e
  | .ty _ :: _, _, e => nomatch e
  | .fn _ :: _, _, e => nomatch e
def blsOf : List D → Option (List Bool)
  | [] => some []
  | .bl i :: r => (blsOf r).map (i :: ·)
  | _ => none
theorem blsOf_eq : ∀ {ds : List D} {ns : List Bool}, blsOf ds = some ns → ds = ns.map D.bl
  | [], ns, e => by cases e; rfl
  | .bl i :: r, ns, e => by
    unfold blsOf at e
    cases q : blsOf r with
    | none => rw [q] at e; cases e
    | some ms =>
      rw [q] at e
      cases e
      rw [blsOf_eq q]
      rfl
  | .non :: _, _, e => nomatch e
  | .int _ :: _, _, e => nomatch e
  | .str _ :: _, _, e => nomatch e
  | .tup _ :: _, _, e => nomatch e
  | .lst _ :: _, _, e => nomatch e
  | .scr _ :: _, _, e => nomatch e
  | .dic _ :: _, _, e => nomatch e
  | .ins _ _ :: _, _, e => nomatch e
  | .cell _ :: _, _, e => nomatch e
  | .cls _ :: _, _, e => nomatch e
  | .ty _ :: _, _, e => nomatch e
  | .fn _ :: _, _, e => nomatch e
theorem Reps.bls {w : Wd} : ∀ {v : List V} {ns : List Bool}, Reps G w v (ns.map D.bl) → v = ns.map V.bl
  | _, [], h => by cases h; rfl
  | _, n :: ns, h => by
    cases h with
    | cons a b => cases a; rw [Reps.bls b]; rfl
def bSum : List D → Option D
  | [.lst xs] => (intsOf xs).map fun ns => .int ns.sum
  | _ => none
theorem cd_sum (hc : X.calm = true) : CallD G X (.builtin "sum") bSum := ⟨_, cr_sum hc, fun κ w s σ H vs ds d Q ok rs e q => by
  match ds, e with
  | [.lst xs], e =>
    have e : (intsOf xs).map (fun ns => D.int ns.sum) = some d := e
    cases e1 : intsOf xs with
    | none => rw [e1] at e; cases e
    | some ns =>
      rw [e1] at e
      cases e
      obtain ⟨v, rfl, r⟩ := rs.one
      cases r with
      | @lst a vs ds e r =>
        rw [intsOf_eq e1] at r
        rw [r.ints] at e
        exact ⟨a, ns, rfl, .inl (.inl (ok.fok.sub _ _ e)), q w _ H (.refl _) ok (.int _)⟩⟩
def bAll : List D → Option D
  | [.lst xs] => (blsOf xs).map fun ns => .bl (ns.all id)
  | _ => none
def bAny : List D → Option D
  | [.lst xs] => (blsOf xs).map fun ns => .bl (ns.any id)
  | _ => none
theorem cd_all (hc : X.calm = true) : CallD G X (.builtin "all") bAll := ⟨_, cr_all hc, fun κ w s σ H vs ds d Q ok rs e q => by
  match ds, e with
  | [.lst xs], e =>
    have e : (blsOf xs).map (fun ns => D.bl (ns.all id)) = some d := e
    cases e1 : blsOf xs with
    | none => rw [e1] at e; cases e
    | some ns =>
      rw [e1] at e
      cases e
      obtain ⟨v, rfl, r⟩ := rs.one
      cases r with
      | @lst a vs ds e r =>
        rw [blsOf_eq e1] at r
        rw [r.bls] at e
        exact ⟨a, ns, rfl, .inl (.inl (ok.fok.sub _ _ e)), q w _ H (.refl _) ok (.bl _)⟩⟩
theorem cd_any (hc : X.calm = true) : CallD G X (.builtin "any") bAny := ⟨_, cr_any hc, fun κ w s σ H vs ds d Q ok rs e q => by
  match ds, e with
  | [.lst xs], e =>
    have e : (blsOf xs).map (fun ns => D.bl (ns.any id)) = some d := e
    cases e1 : blsOf xs with
    | none => rw [e1] at e; cases e
    | some ns =>
      rw [e1] at e
      cases e
      obtain ⟨v, rfl, r⟩ := rs.one
      cases r with
      | @lst a vs ds e r =>
        rw [blsOf_eq e1] at r
        rw [r.bls] at e
        exact ⟨a, ns, rfl, .inl (.inl (ok.fok.sub _ _ e)), q w _ H (.refl _) ok (.bl _)⟩⟩
/-- tuple(x) -/
def bTup : List D → Option D
  | [.tup xs] => some (.tup xs)
  | [.lst xs] => some (.tup xs)
  | _ => none
theorem cd_tup (hK : G.K = X.K) : CallD G X (.type "tuple") bTup := ⟨_, call_tuple_of, fun κ w s σ H vs ds d Q ok rs e q => by
  match ds, e with
  | [.tup xs], e =>
    cases e
    obtain ⟨v, rfl, r⟩ := rs.one
    cases r with
    | @tup a vs ds e r => exact ⟨a, vs, rfl, .inr ⟨hK ▸ SqT.le e ok.fok.sub, q w _ H (.refl _) ok (.tup e r)⟩⟩
  | [.lst xs], e =>
    cases e
    obtain ⟨v, rfl, r⟩ := rs.one
    cases r with
    | @lst a vs ds e r => exact ⟨a, vs, rfl, .inl ⟨.inl (.inl (ok.fok.sub _ _ e)), fun l hl => by
        obtain ⟨le2, ok2⟩ := ok.alloc hl (.tup vs)
        exact q _ _ _ le2 ok2 (.tup (.inl (.inl upd_same)) (r.mono le2))⟩⟩⟩
/-- list(x): a new list -/
def seqD (d : D) : Option (List D) := match d with
  | .tup xs => some xs
  | .lst xs => some xs
  | .scr xs => some xs
  | _ => none
def aList (fa : DA) : DA := fun s => (fa s).bind fun ds s1 => match ds with
  | [d] => match seqD d with
    | some xs => .ok xs s1
    | none => .stuck
  | _ => .stuck
theorem Rep.seq (hK : G.K = X.K) {κ : Bs} {w : Wd} {s : DS} {σ : L2.St} {H : Hp} {v : V} {d : D} {xs : List D} (ok : Ok G κ w s σ H) (r : Rep G w v d) (h : seqD d = some xs) : ∃ a vs, v = .ref a ∧ (SqL X.K H a vs ∨ SqT X.K H a vs) ∧ Reps G w vs xs := by
  cases r with
  | @tup a vs ds e r => cases h; exact ⟨a, vs, rfl, .inr (hK ▸ SqT.le e ok.fok.sub), r⟩
  | @lst a vs ds e r => cases h; exact ⟨a, vs, rfl, .inl (.inl (.inl (ok.fok.sub _ _ e))), r⟩
  | @scr a vs ds e r => cases h; exact ⟨a, vs, rfl, .inl (hK ▸ SqL.le e ok.fok.sub), r⟩
  | _ => exact nomatch h
theorem pdo_list (hK : G.K = X.K) {x : Str} {p pos : Pos} {e : Expr} {fa : DA} (hg : Gl X x) (hm : X.mg x = none) (hv : bootBuiltins x = some (.type "list")) (ha : PDA G W X [e] fa) (hn : x ≠ "__name__" := by decide) (hdb : (x == ("__debug__" : Str)) = false := by decide)
    (he : starEach [e] X.env = (false, eval e X.env) :: starEach [] X.env := by rfl) (hpl : (backTo pos (starEach [] X.env)).any (·.1) = false := by rfl) : PDo G W X (.Call (.Name x p) [e] [] pos) (aList fa) :=
  (pe_callTy call_list_of hg hm hv ha hn hdb he hpl).imp fun σ H Q ⟨κ, w, s, ok, q⟩ => ⟨κ, w, s, ok, (PostG.bindO q).imp fun v H1 ⟨d, s1, w1, le, ok1, r1, q1⟩ => by
    match d, q1 with
    | [d], q1 =>
      replace q1 : PostO G W κ w1 σ (match seqD d with | some xs => .ok xs s1 | none => .stuck) Q := q1
      cases e1 : seqD d with
      | none => rw [e1] at q1; exact q1.elim
      | some xs =>
        rw [e1] at q1
        obtain ⟨v, rfl, r⟩ := r1.one
        obtain ⟨a, vs, rfl, h1, h2⟩ := r.seq hK ok1 e1
        exact ⟨a, vs, rfl, h1, fun l hl => q1 w1 l vs _ (.refl _) (ok1.fresh hl _) (ok1.apart hl) h2⟩⟩
/-! ### slices -/
abbrev DOp := DS → Res DS (Option Int)
def oNone : DOp := fun s => .ok none s
def oSome (f : DE) : DOp := fun s => (f s).bind fun d s1 => match d with
  | .int i => .ok (some i) s1
  | _ => .stuck
def tDO (G : Gam) (W : WX) (f : DOp) : TO := fun σ H Q => ∃ κ w s, Ok G κ w s σ H ∧ PostG G W (fun _ (v : Option Int) d => v = d) κ w σ (f s) Q
theorem _root_.L2.PO.imp {X : Cx} {e : Option Expr} {t t' : TO} (h : PO X e t) (k : ∀ σ H Q, t' σ H Q → t σ H Q) : PO X e t' := ⟨by
  first
    | exact fun pins s σ H Q I q => h.run pins s σ H Q I (k σ H Q q)
    | exact fun a pins s σ H Q I q => h.run a pins s σ H Q I (k σ H Q q)⟩
theorem pdo_none : PO X none (tDO G W oNone) := po_none.imp fun σ H Q ⟨κ, w, s, ok, q⟩ => q w none H (.refl _) ok rfl
theorem pdo_some {e : Expr} {f : DE} (h : PD G W X e f) : PO X (some e) (tDO G W (oSome f)) := (po_some h).imp fun σ H Q ⟨κ, w, s, ok, q⟩ => ⟨κ, w, s, ok, (PostG.bind q).imp fun v H1 ⟨d, s1, w1, le, ok1, r1, q1⟩ => by
  cases r1 with
  | int i => exact ⟨i, rfl, q1 w1 _ H1 (.refl _) ok1 rfl⟩
  | _ => exact q1.elim⟩
def cutD {α : Type} (xs : List α) (lo hi : Option Int) : List α := (xs.drop (HT.sIx xs.length 0 lo)).take (HT.sIx xs.length xs.length hi - HT.sIx xs.length 0 lo)
theorem Reps.cut {w : Wd} {vs : List V} {ds : List D} (r : Reps G w vs ds) (lo hi : Option Int) : Reps G w (cutV vs lo hi) (cutD ds lo hi) := by
  unfold cutV cutD
  rw [r.length]
  exact (r.drop _).take _
/-- a slice of a list: a new list -/
def aSl (f : DE) (l h : DOp) : DA := fun s => (f s).bind fun d s1 => (l s1).bind fun lo s2 => (h s2).bind fun hi s3 => match d with
  | .lst xs => .ok (cutD xs lo hi) s3
  | .scr xs => .ok (cutD xs lo hi) s3
  | _ => .stuck
theorem pdo_slice (hK : G.K = X.K) {e : Expr} {lo hi : Option Expr} {f : DE} {l h : DOp} {p2 pos : Pos} (he : PD G W X e f) (hl : PO X lo (tDO G W l)) (hh : PO X hi (tDO G W h)) : PDo G W X (.Subscript e (.Slice lo hi none p2) pos) (aSl f l h) :=
  (pe_slice sl_list he hl hh).imp fun σ H Q ⟨κ, w, s, ok, q⟩ => ⟨κ, w, s, ok, (PostG.bindO q).imp fun v H1 ⟨d, s1, w1, le, ok1, r1, q1⟩ => ⟨κ, w1, s1, ok1, (PostG.bindO q1).imp fun v2 H2 ⟨d2, s2, w2, le2, ok2, r2, q2⟩ =>
    ⟨κ, w2, s2, ok2, (PostG.bindO q2).imp fun v3 H3 ⟨d3, s3, w3, le3, ok3, r3, q3⟩ => by
      subst r2
      subst r3
      cases r1 with
      | @lst a vs ds e r =>
        have e := le3.f _ _ (le2.f _ _ e)
        exact ⟨a, vs, rfl, .inl (.inl (ok3.fok.sub _ _ e)), fun p hp => q3 w3 p _ _ (.refl _) (ok3.fresh hp _) (ok3.apart hp) (((r.mono le2).mono le3).cut _ _)⟩
      | @scr a vs ds e r =>
        exact ⟨a, vs, rfl, hK ▸ SqL.le (SqL.le (SqL.le e le2.f) le3.f) ok3.fok.sub, fun p hp => q3 w3 p _ _ (.refl _) (ok3.fresh hp _) (ok3.apart hp) (((r.mono le2).mono le3).cut _ _)⟩
      | _ => exact q3.elim⟩⟩⟩
/-! ### isinstance -/
def tyD (d : D) : Option String := match d with
  | .non => some "NoneType"
  | .bl _ => some "bool"
  | .int _ => some "int"
  | .str _ => some "str"
  | .tup _ => some "tuple"
  | .lst _ => some "list"
  | .scr _ => some "list"
  | .dic _ => some "dict"
  | _ => none
def tyNames : List String := ["NoneType", "bool", "int", "str", "tuple", "list", "dict"]
def isTy (a b : String) : Bool := a == b || (a == "bool" && b == "int")
theorem isTy_ok : ∀ a ∈ tyNames, ∀ b ∈ tyNames, kitB a b = some (isTy a b) := by decide +kernel
/-- what of the text isinstance asks of the own classes -/
structure IsOk (G : Gam) (cs : List String) : Prop where
  cl : ∀ c ∈ cs, ∀ C, G.ct c = some C → Cls G.K C ∧ PySem.W.findIn G.K (.ref C) "__class__" = some (some (.builtin "object.__class__")) ∧ PySem.W.specialIn G.K (.builtin "object.__class__") "__get__" = some (some (.builtin "getset_descriptor.__get__")) ∧
    PySem.W.takesIn G.K (.builtin "object.__class__") = some true ∧ PySem.W.mroIn G.K C (.type "object") = some true
  bo : ∀ c ∈ cs, ∀ C, G.ct c = some C → ∀ b ∈ tyNames, PySem.W.kitOne G.K (.ref C) (.type b) = some false ∧ PySem.W.kitOne G.K (.type b) (.ref C) = some false
  oo : ∀ c ∈ cs, ∀ c' ∈ cs, ∀ C C', G.ct c = some C → G.ct c' = some C' → PySem.W.kitOne G.K (.ref C) (.ref C') = some (c == c')
/-- the type of data: built-in or own -/
def tyOfD (cs : List String) (d : D) : Option (String ⊕ String) := match d with
  | .ins c _ => if c ∈ cs then some (.inr c) else none
  | d => (tyD d).map .inl
def isOne (cs : List String) (t : String ⊕ String) (c : D) : Option Bool := match t, c with
  | .inl a, .ty b => if a ∈ tyNames ∧ b ∈ tyNames then some (isTy a b) else none
  | .inl a, .cls b => if a ∈ tyNames ∧ b ∈ cs then some false else none
  | .inr a, .ty b => if b ∈ tyNames then some false else none
  | .inr a, .cls b => if b ∈ cs then some (a == b) else none
  | _, _ => none
def bIsi (cs : List String) : List D → Option D
  | [d, c] => (tyOfD cs d).bind fun t => (isOne cs t c).map .bl
  | _ => none
theorem tyX_of (hK : G.K = X.K) {cs : List String} (I : IsOk G cs) {κ : Bs} {w : Wd} {s : DS} {σ : L2.St} {H : Hp} {v : V} {d : D} {t : String ⊕ String} (ok : Ok G κ w s σ H) (r : Rep G w v d) (h : tyOfD cs d = some t) :
    ∃ tv, TyX X.K H v tv ∧ (match t with | .inl a => tv = .type a ∧ a ∈ tyNames | .inr c => c ∈ cs ∧ ∃ C, G.ct c = some C ∧ tv = .ref C) := by
  cases r with
  | non => cases h; exact ⟨_, .base .non, rfl, by decide⟩
  | bl b => cases h; exact ⟨_, .base (.bl b), rfl, by decide⟩
  | int i => cases h; exact ⟨_, .base (.int i), rfl, by decide⟩
  | str l => cases h; exact ⟨_, .base (.str _), rfl, by decide⟩
  | @tup a vs ds e r =>
    cases h
    rcases SqT.le e ok.fok.sub with (z | ⟨o, z⟩) | ⟨o, its, n, z1, z2, _⟩
    · exact ⟨_, .base (.tup z), rfl, by decide⟩
    · exact ⟨_, .fTuple z, rfl, by decide⟩
    · exact ⟨_, .kTuple (hK ▸ z1) z2, rfl, by decide⟩
  | @lst a vs ds e r => cases h; exact ⟨_, .base (.lst (ok.fok.sub _ _ e)), rfl, by decide⟩
  | @scr a vs ds e r =>
    cases h
    rcases SqL.le e ok.fok.sub with (z | ⟨o, z⟩) | ⟨o, its, n, z1, z2, _⟩
    · exact ⟨_, .base (.lst z), rfl, by decide⟩
    · exact ⟨_, .base (.frz z), rfl, by decide⟩
    · exact ⟨_, .kList (hK ▸ z1) z2, rfl, by decide⟩
  | @dic a vs ds e r => cases h; exact ⟨_, .base (.dK (ok.fok.sub _ _ e)), rfl, by decide⟩
  | @ins a C dx c vs ds hC e r =>
    have h : (if c ∈ cs then some (Sum.inr c) else none) = some t := h
    split at h
    · rename_i hc
      cases h
      obtain ⟨cl, h1, h2, h3, h4⟩ := I.cl c hc C hC
      exact ⟨_, .base (.ins (ok.fok.sub _ _ e) (hK ▸ cl) (hK ▸ h1) (hK ▸ h2) (hK ▸ h3) (hK ▸ h4)), hc, C, hC, rfl⟩
    · cases h
  | _ => exact nomatch h
theorem cd_isi (hK : G.K = X.K) {cs : List String} (I : IsOk G cs) : CallD G X (.builtin "isinstance") (bIsi cs) := ⟨_, call_isi, fun κ w s σ H vs ds d Q ok rs e q => by
  match ds, e with
  | [x, c], e =>
    have e : ((tyOfD cs x).bind fun t => (isOne cs t c).map D.bl) = some d := e
    cases e1 : tyOfD cs x with
    | none => rw [e1] at e; cases e
    | some t =>
      rw [e1] at e
      obtain ⟨v, v', rfl, r, r'⟩ := rs.two
      obtain ⟨tv, ty, ht⟩ := tyX_of hK I ok r e1
      have e : (isOne cs t c).map D.bl = some d := e
      cases e2 : isOne cs t c with
      | none => rw [e2] at e; cases e
      | some b =>
        rw [e2] at e
        cases e
        cases t with
        | inl a =>
          obtain ⟨rfl, ha⟩ := ht
          cases r' with
          | ty n =>
            have e2 : (if a ∈ tyNames ∧ n ∈ tyNames then some (isTy a n) else none) = some b := e2
            split at e2
            · rename_i h
              cases e2
              exact ⟨v, _, _, .type n, _, rfl, .ty n, ty, kit_ty (isTy_ok a h.1 n h.2), q w _ H (.refl _) ok (.bl _)⟩
            · cases e2
          | @cls C n hC =>
            have e2 : (if a ∈ tyNames ∧ n ∈ cs then some false else none) = some b := e2
            split at e2
            · rename_i h
              cases e2
              exact ⟨v, _, _, .ref C, _, rfl, .own C, ty, hK ▸ (I.bo n h.2 C hC a h.1).2, q w _ H (.refl _) ok (.bl _)⟩
            · cases e2
          | _ => exact nomatch e2
        | inr a =>
          obtain ⟨ha, C', hC', rfl⟩ := ht
          cases r' with
          | ty n =>
            have e2 : (if n ∈ tyNames then some false else none) = some b := e2
            split at e2
            · rename_i h
              cases e2
              exact ⟨v, _, _, .type n, _, rfl, .ty n, ty, hK ▸ (I.bo a ha C' hC' n h).1, q w _ H (.refl _) ok (.bl _)⟩
            · cases e2
          | @cls C n hC =>
            have e2 : (if n ∈ cs then some (a == n) else none) = some b := e2
            split at e2
            · rename_i h
              cases e2
              exact ⟨v, _, _, .ref C, _, rfl, .own C, ty, hK ▸ I.oo a ha n h C' C hC' hC, q w _ H (.refl _) ok (.bl _)⟩
            · cases e2
          | _ => exact nomatch e2⟩
end
end DL
set_option maxRecDepth 100000
set_option maxHeartbeats 4000000
set_option autoImplicit false
namespace DL
open PySem PySem.Spec PyProof.Rows L2
section
variable {G : Gam} {W : WX} {X : Cx}
/-! ### dicts -/
theorem dkey_inj {a b : DK} (h : dkey a = dkey b) : a = b := by
  cases a <;> cases b <;> simp [dkey] at h <;> first | (subst h; rfl) | (rw [nm_inj h])
def kOf (d : D) : Option DK := match d with
  | .int i => some (.i i)
  | .str l => some (.s l)
  | _ => none
theorem Rep.key {w : Wd} {v : V} {d : D} {k : DK} (r : Rep G w v d) (h : kOf d = some k) : v = kV (dkey k) := by
  cases r with
  | int i => cases h; rfl
  | str l => cases h; rfl
  | _ => exact nomatch h
def dLook (kvs : List (DK × D)) (k : DK) : Option D := match kvs with
  | [] => none
  | (k', d) :: r => if k' = k then some d else dLook r k
def dPut (kvs : List (DK × D)) (k : DK) (x : D) : List (DK × D) := match kvs with
  | [] => [(k, x)]
  | (k', d) :: r => if k' = k then (k, x) :: r else (k', d) :: dPut r k x
theorem RepK.look {w : Wd} : ∀ {v : List (Key × V)} {d : List (DK × D)} {k : DK}, RepK G w v d → (∀ x, dLook d k = some x → ∃ y, valV v (dkey k) = some y ∧ Rep G w y x) ∧ (dLook d k = none → valV v (dkey k) = none)
  | _, _, _, .nil => ⟨fun x e => (nomatch e), fun _ => rfl⟩
  | _, _, k, .cons (k := k') (v := v) (d := d) (vs := vs) (ds := ds) a b => by
    by_cases h : k' = k
    · subst h
      refine ⟨fun x e => ?_, fun e => ?_⟩
      · unfold dLook at e
        rw [if_pos rfl] at e
        cases e
        exact ⟨v, valV_pos rfl, a⟩
      · unfold dLook at e
        rw [if_pos rfl] at e
        cases e
    · have h2 : ¬ dkey k' = dkey k := fun q => h (dkey_inj q)
      obtain ⟨i1, i2⟩ := RepK.look (k := k) b
      refine ⟨fun x e => ?_, fun e => ?_⟩
      · unfold dLook at e
        rw [if_neg h] at e
        obtain ⟨y, q1, q2⟩ := i1 x e
        exact ⟨y, (valV_neg h2).trans q1, q2⟩
      · unfold dLook at e
        rw [if_neg h] at e
        exact (valV_neg h2).trans (i2 e)
theorem RepK.length {w : Wd} : ∀ {v : List (Key × V)} {d : List (DK × D)}, RepK G w v d → v.length = d.length
  | _, _, .nil => rfl
  | _, _, .cons _ b => by rw [List.length_cons, List.length_cons, RepK.length b]
/-- what of a dict is told (Nodup keys are not known here: the store at the first place and at the last agree by this) -/
def keysNd : List (DK × D) → Bool
  | [] => true
  | (k, _) :: r => !(r.any fun p => decide (p.1 = k)) && keysNd r
theorem RepK.any {w : Wd} {k : DK} : ∀ {v : List (Key × V)} {d : List (DK × D)}, RepK G w v d → (v.any fun kv => decide (kv.1 = dkey k)) = d.any fun kv => decide (kv.1 = k)
  | _, _, .nil => rfl
  | _, _, .cons (k := k') a b => by
    rw [List.any_cons, List.any_cons, RepK.any b]
    congr 1
    by_cases h : k' = k
    · subst h; simp
    · simp [h, show ¬ dkey k' = dkey k from fun q => h (dkey_inj q)]
theorem RepK.keepMap {w : Wd} {k : DK} {y : V} : ∀ {v : List (Key × V)} {d : List (DK × D)}, RepK G w v d → (d.any fun kv => decide (kv.1 = k)) = false → v.map (fun kv => if kv.1 = dkey k then (kv.1, y) else kv) = v
  | _, _, .nil, _ => rfl
  | _, _, .cons (k := k') a b, h => by
    rw [List.any_cons, Bool.or_eq_false_iff] at h
    have h1 : ¬ k' = k := of_decide_eq_false h.1
    rw [List.map_cons, if_neg (show ¬ dkey k' = dkey k from fun q => h1 (dkey_inj q)), RepK.keepMap b h.2]
theorem dPut_new : ∀ {d : List (DK × D)} {k : DK} {x : D}, (d.any fun kv => decide (kv.1 = k)) = false → dPut d k x = d ++ [(k, x)]
  | [], _, _, _ => rfl
  | (k', z) :: r, k, x, h => by
    rw [List.any_cons, Bool.or_eq_false_iff] at h
    have h1 : ¬ k' = k := of_decide_eq_false h.1
    unfold dPut
    rw [if_neg h1, dPut_new h.2]
    rfl
theorem RepK.append {w : Wd} : ∀ {v v' : List (Key × V)} {d d' : List (DK × D)}, RepK G w v d → RepK G w v' d' → RepK G w (v ++ v') (d ++ d')
  | _, _, _, _, .nil, h => h
  | _, _, _, _, .cons a b, h => .cons a (RepK.append b h)
theorem RepK.putMap {w : Wd} {k : DK} {y : V} {x : D} (r : Rep G w y x) : ∀ {v : List (Key × V)} {d : List (DK × D)}, RepK G w v d → keysNd d = true → (d.any fun kv => decide (kv.1 = k)) = true → RepK G w (v.map fun kv => if kv.1 = dkey k then (kv.1, y) else kv) (dPut d k x)
  | _, _, .nil, _, h => nomatch h
  | _, _, .cons (k := k') a b, nd, h => by
    unfold keysNd at nd
    rw [Bool.and_eq_true, Bool.not_eq_true'] at nd
    unfold dPut
    by_cases e : k' = k
    · subst e
      rw [if_pos rfl, List.map_cons, if_pos rfl, RepK.keepMap b nd.1]
      exact .cons r b
    · rw [if_neg e, List.map_cons, if_neg (show ¬ dkey k' = dkey k from fun q => e (dkey_inj q))]
      refine .cons a (RepK.putMap r b nd.2 ?_)
      rw [List.any_cons, Bool.or_eq_true] at h
      rcases h with h | h
      · exact absurd (of_decide_eq_true h) e
      · exact h
theorem RepK.put {w : Wd} {k : DK} {y : V} {x : D} (r : Rep G w y x) {v : List (Key × V)} {d : List (DK × D)} (h : RepK G w v d) (nd : keysNd d = true) : RepK G w (putK v (dkey k) y) (dPut d k x) := by
  unfold putK
  rw [h.any]
  cases e : d.any fun kv => decide (kv.1 = k) with
  | true => rw [if_pos rfl]; exact h.putMap r nd e
  | false =>
    rw [if_neg (fun z => nomatch z), dPut_new e]
    exact h.append (.cons r .nil)
def dictOf (d : D) (s : DS) : Option (List (DK × D)) := match d with
  | .dic kvs => some kvs
  | .cell n => match s.st[n]? with
    | some (.dic kvs) => some kvs
    | _ => none
  | _ => none
theorem Rep.dict {κ : Bs} {w : Wd} {s : DS} {σ : L2.St} {H : Hp} {v : V} {d : D} {kvs : List (DK × D)} (ok : Ok G κ w s σ H) (r : Rep G w v d) (h : dictOf d s = some kvs) : ∃ a vs, v = .ref a ∧ H a = some (.dK vs) ∧ RepK G w vs kvs := by
  cases r with
  | @dic a vs ds e r => cases h; exact ⟨a, vs, rfl, ok.fok.sub _ _ e, r⟩
  | @cell a n e =>
    have h : (match s.st[n]? with | some (.dic kvs) => some kvs | _ => none) = some kvs := h
    cases q : s.st[n]? with
    | none => rw [q] at h; cases h
    | some c =>
      rw [q] at h
      cases c with
      | dic kvs' =>
        cases h
        obtain ⟨vs, h1, h2⟩ := ok.fok.cel n a _ e q
        exact ⟨a, vs, rfl, h1, h2⟩
      | _ => cases h
  | _ => exact nomatch h
def eDGet (fo fi : DE) : DE := fun s => (fo s).bind fun d s1 => (fi s1).bind fun k s2 => match dictOf d s2, kOf k with
  | some kvs, some k => match dLook kvs k with
    | some x => .ok x s2
    | none => .stuck
  | _, _ => .stuck
theorem pd_dget {o i : Expr} {fo fi : DE} {pos : Pos} (hu : X.A.units + 1 < cLine) (ho : PD G W X o fo) (hi : PD G W X i fi) (hs : NoSl i) : PD G W X (.Subscript o i pos) (eDGet fo fi) :=
  (pe_dget hu ho hi hs).imp fun σ H Q ⟨κ, w, s, ok, q⟩ => ⟨κ, w, s, ok, (PostG.bind q).imp fun v H1 ⟨d, s1, w1, le, ok1, r1, q1⟩ => ⟨κ, w1, s1, ok1, (PostG.bind q1).imp fun v2 H2 ⟨d2, s2, w2, le2, ok2, r2, q2⟩ => by
    cases e1 : dictOf d s2 with
    | none => rw [e1] at q2; exact q2.elim
    | some kvs =>
      cases e2 : kOf d2 with
      | none => rw [e1, e2] at q2; exact q2.elim
      | some k =>
        rw [e1, e2] at q2
        replace q2 : PostG G W (Rep G) κ w2 σ (match dLook kvs k with | some x => .ok x s2 | none => .stuck) Q := q2
        cases e3 : dLook kvs k with
        | none => rw [e3] at q2; exact q2.elim
        | some x =>
          rw [e3] at q2
          obtain ⟨a, vs, rfl, hH, rk⟩ := (r1.mono le2).dict ok2 e1
          obtain ⟨y, h1, h2⟩ := (rk.look (k := k)).1 x e3
          refine ⟨a, y, rfl, ?_, q2 w2 y H2 (.refl _) ok2 h2⟩
          rw [r2.key e2, ← h1]
          exact DGet.k hH⟩⟩
/-- d[k] = v of a dict in the store -/
def sDPutC (fo fi fv : DE) : DStm := fun s => (fv s).bind fun x s1 => (fo s1).bind fun d s2 => (fi s2).bind fun k s3 => match d, kOf k with
  | .cell n, some k => match s3.st[n]? with
    | some (.dic kvs) => if kvs.length < 1000000 ∧ keysNd kvs = true then .ok .nx ⟨s3.sl, s3.st.set n (.dic (dPut kvs k x))⟩ else .stuck
    | _ => .stuck
  | _, _ => .stuck
theorem pds_dputC {o i value : Expr} {fo fi fv : DE} {pos pos' : Pos} (hu : X.A.units + 1 < cLine) (ho : PD G W X o fo) (hi : PD G W X i fi) (hv : PD G W X value fv) (hs : swapsWith value (some (.Subscript o i pos')) pos.line X.env = pure false := by rfl) :
    PDS G W X (.Assign [.Subscript o i pos'] value pos) (sDPutC fo fi fv) :=
  (ps_dput hu ho hi hv hs).imp fun N σ H ⟨κ, w, s, ok, q⟩ => ⟨κ, w, s, ok, (PostG.bindS q).imp fun v H1 ⟨d, s1, w1, le, ok1, r1, q1⟩ => ⟨κ, w1, s1, ok1, (PostG.bindS q1).imp fun v2 H2 ⟨d2, s2, w2, le2, ok2, r2, q2⟩ =>
    ⟨κ, w2, s2, ok2, (PostG.bindS q2).imp fun v3 H3 ⟨d3, s3, w3, le3, ok3, r3, q3⟩ => by
      cases r2 with
      | @cell a n e =>
        cases e2 : kOf d3 with
        | none => rw [e2] at q3; exact q3.elim
        | some k =>
          rw [e2] at q3
          replace q3 : PostS G W κ w3 (match s3.st[n]? with | some (.dic kvs) => if kvs.length < 1000000 ∧ keysNd kvs = true then .ok .nx ⟨s3.sl, s3.st.set n (.dic (dPut kvs k d))⟩ else .stuck | _ => .stuck) N := q3
          cases e3 : s3.st[n]? with
          | none => rw [e3] at q3; exact q3.elim
          | some c =>
            rw [e3] at q3
            cases c with
            | dic kvs =>
              replace q3 : PostS G W κ w3 (if kvs.length < 1000000 ∧ keysNd kvs = true then .ok .nx ⟨s3.sl, s3.st.set n (.dic (dPut kvs k d))⟩ else .stuck) N := q3
              split at q3
              · rename_i c
                have e' := pre_get le3.r e
                obtain ⟨vs, h1, h2⟩ := ok3.fok.cel n a _ e' e3
                refine ⟨a, _, rfl, ?_, q3 w3 σ _ (.refl _) (ok3.cell e' (c := .dic (dPut kvs k d)) ⟨_, upd_same, h2.put ((r1.mono le2).mono le3) c.2⟩)⟩
                rw [r3.key e2]
                exact DPut.k h1 (by rw [h2.length, sizeLine_eq]; omega)
              · exact q3.elim
            | _ => exact q3.elim
      | _ => exact q3.elim⟩⟩⟩
/-! ### a dict is displayed -/
def pairsD : List (DE × DE) → DS → Res DS (List (D × D))
  | [], s => .ok [] s
  | (fk, fv) :: r, s => (fk s).bind fun k s1 => (fv s1).bind fun x s2 => (pairsD r s2).bind fun ps s3 => .ok ((k, x) :: ps) s3
inductive RepP (G : Gam) (w : Wd) : List (V × V) → List (D × D) → Prop
  | nil : RepP G w [] []
  | cons {v v' : V} {d d' : D} {vs : List (V × V)} {ds : List (D × D)} : Rep G w v d → Rep G w v' d' → RepP G w vs ds → RepP G w ((v, v') :: vs) ((d, d') :: ds)
theorem pairs_of : ∀ (fs : List (DE × DE)) {κ : Bs} {w : Wd} {s : DS} {σ : L2.St} {H : Hp} {Q : List (V × V) → Hp → Prop}, Ok G κ w s σ H → PostG G W (RepP G) κ w σ (pairsD fs s) Q → tPairs (fs.map fun p => (tD G W p.1, tD G W p.2)) σ H Q
  | [], κ, w, s, σ, H, Q, ok, q => q w [] H (.refl _) ok .nil
  | (fk, fv) :: r, κ, w, s, σ, H, Q, ok, q => by
    refine ⟨κ, w, s, ok, (PostG.bind q).imp fun v H1 ⟨d, s1, w1, le, ok1, r1, q1⟩ => ⟨κ, w1, s1, ok1, (PostG.bind q1).imp fun v2 H2 ⟨d2, s2, w2, le2, ok2, r2, q2⟩ => ?_⟩⟩
    refine pairs_of r ok2 ((PostG.bind (rep := RepP G) q2).imp fun ps H3 ⟨ds, s3, w3, le3, ok3, r3, q3⟩ => ?_)
    exact q3 w3 _ H3 (.refl _) ok3 (.cons ((r1.mono le2).mono le3) (r2.mono le3) r3)
def keyed : List (D × D) → Option (List (DK × D))
  | [] => some []
  | (k, x) :: r => match kOf k, keyed r with
    | some k, some r => some ((k, x) :: r)
    | _, _ => none
theorem keyed_of {w : Wd} : ∀ {ps : List (V × V)} {ds : List (D × D)} {kvs : List (DK × D)}, RepP G w ps ds → keyed ds = some kvs → ∃ vs : List (Key × V), ps = vs.map (fun kv => (kV kv.1, kv.2)) ∧ RepK G w vs kvs
  | _, _, _, .nil, e => by cases e; exact ⟨[], rfl, .nil⟩
  | _, _, kvs, .cons (d := d) (ds := ds) a b c, e => by
    unfold keyed at e
    cases e1 : kOf d with
    | none => rw [e1] at e; cases e
    | some k =>
      cases e2 : keyed ds with
      | none => rw [e1, e2] at e; cases e
      | some r =>
        rw [e1, e2] at e
        cases e
        obtain ⟨vs, h1, h2⟩ := keyed_of c e2
        refine ⟨(dkey k, _) :: vs, ?_, .cons b h2⟩
        rw [h1, a.key e1]
        rfl
theorem keys_merge {w : Wd} : ∀ {more : List (Key × V)} {kvs : List (DK × D)} {v : List (Key × V)} {d : List (DK × D)}, RepK G w more kvs → RepK G w v d → (keysNd (d ++ kvs) = true) → RepK G w (mergeK v more) (d ++ kvs)
  | _, _, v, d, .nil, h, _ => by rw [List.append_nil]; exact h
  | _, _, v, d, .cons (k := k) (v := y) (d := x) (vs := vs) (ds := ds) a b, h, nd => by
    have new : (d.any fun kv => decide (kv.1 = k)) = false := by
      clear h a b
      induction d with
      | nil => rfl
      | cons p r ih =>
        rw [List.cons_append] at nd
        unfold keysNd at nd
        rw [Bool.and_eq_true, Bool.not_eq_true', List.any_append, Bool.or_eq_false_iff, List.any_cons, Bool.or_eq_false_iff] at nd
        rw [List.any_cons, ih nd.2, Bool.or_false]
        have := of_decide_eq_false nd.1.2.1
        exact decide_eq_false fun q => this q.symm
    have e : mergeK v ((dkey k, y) :: vs) = mergeK (v ++ [(dkey k, y)]) vs := by
      unfold mergeK
      rw [List.foldl_cons]
      congr 1
      unfold putK
      rw [h.any, new]
      rfl
    rw [e]
    have := keys_merge b (h.append (.cons a .nil)) (d := d ++ [(k, x)]) (by rw [List.append_assoc]; exact nd)
    rw [List.append_assoc] at this
    exact this
/-- a new dict of one's own -/
def PostOd (G : Gam) (W : WX) (κ : Bs) (w : Wd) (σ : L2.St) (r : Res DS (List (DK × D))) (Q : VK) : Prop := match r with
  | .ok xs s' => ∀ w' a vs H', w.le w' → Ok G (κ.plus a (.dK vs)) w' s' σ H' → (∀ p ∈ κ.γ, p.1 ≠ a) → RepK G w' vs xs → Q (.ref a) H'
  | .exc x s' => ∀ w' c dd H', w.le w' → Ok G κ w' s' σ H' → RepX G w' c dd x → W c dd σ H'
  | .stuck => False
abbrev DD := DS → Res DS (List (DK × D))
def tDod (G : Gam) (W : WX) (f : DD) : TE := fun σ H Q => ∃ κ w s, Ok G κ w s σ H ∧ PostOd G W κ w σ (f s) Q
abbrev PDod (G : Gam) (W : WX) (X : Cx) (e : Expr) (f : DD) : Prop := PE X e (tDod G W f)
/-- behind what was set apart a new value -/
theorem Ok.swap {κ : Bs} {w : Wd} {s : DS} {σ : L2.St} {H : Hp} {a : Addr} {o o' : HO} (h : Ok G (κ.plus a o) w s σ H) (hγ : ∀ p ∈ κ.γ, p.1 ≠ a) : Ok G (κ.plus a o') w s σ (upd H a o') := by
  obtain ⟨ho, h3, h4, h5, h6⟩ := h.gam (a, o) List.mem_cons_self
  refine ⟨⟨fun b u e => ?_, h.fok.len, fun n b c e1 e2 => ?_, h.fok.nd, h.fok.nf⟩, ⟨h.nx.le, fun b u e n => ?_, h.nx.newF, h.nx.newR⟩, h.len, h.val, fun j z hj oz => ?_, h.ne, fun p hp => ?_, h.me⟩
  · rw [upd_ne (ne_of_none e h3)]
    exact h.fok.sub b u e
  · exact (h.fok.cel n b c e1 e2).mono (.refl _) (upd_ne fun z => h4 (by rw [← z]; exact List.mem_of_getElem? e1))
  · rw [upd_ne (ne_of_none e h5)]
    exact h.nx.keep b u e n
  · obtain ⟨b, q1, q2, q3, q4, q5⟩ := h.own j z hj oz
    exact ⟨b, q1, q2.mono (.refl _) (upd_ne fun e => h6 j z hj oz (by rw [q1, e])), q3, q4, q5⟩
  · rcases List.mem_cons.mp hp with rfl | hp
    · exact ⟨upd_same, h3, h4, h5, h6⟩
    · obtain ⟨q1, q2⟩ := h.gam p (List.mem_cons_of_mem _ hp)
      exact ⟨by rw [upd_ne (hγ p hp)]; exact q1, q2⟩
def dDisp (fs : List (DE × DE)) : DD := fun s => (pairsD fs s).bind fun ps s1 => match keyed ps with
  | some kvs => if kvs.length ≤ 15 ∧ keysNd kvs = true then .ok kvs s1 else .stuck
  | none => .stuck
theorem pdod_disp {pos : Pos} {keys : List (Option Expr)} {values : List Expr} {fs : List (DE × DE)} (h : PPs X pos keys values (fs.map fun p => (tD G W p.1, tD G W p.2))) (hall : keys.all (·.isSome) = true) (hl : keys.length = values.length) (h0 : keys ≠ []) (h15 : keys.length ≤ 15) :
    PDod G W X (.Dict keys values pos) (dDisp fs) :=
  (pe_disp h hall hl h0 h15).imp fun σ H Q ⟨κ, w, s, ok, q⟩ => by
    intro p hp
    have ok1 := ok.fresh hp (.dK [])
    have hγ := ok.apart hp
    unfold dDisp at q
    refine pairs_of fs (κ := κ.plus p (.dK [])) (w := w) (s := s) ok1 ?_
    cases e : pairsD fs s with
    | stuck => rw [e] at q; exact q.elim
    | exc x s' =>
      rw [e] at q
      exact fun w' c dd H' l o r => q w' c dd H' l o.unplus r
    | ok ps s' =>
      rw [e] at q
      intro w' vps H' l o r
      replace q : PostOd G W κ w σ (match keyed ps with | some kvs => if kvs.length ≤ 15 ∧ keysNd kvs = true then .ok kvs s' else .stuck | none => .stuck) Q := q
      cases e2 : keyed ps with
      | none => rw [e2] at q; exact q.elim
      | some kvs =>
        rw [e2] at q
        replace q : PostOd G W κ w σ (if kvs.length ≤ 15 ∧ keysNd kvs = true then .ok kvs s' else .stuck) Q := q
        split at q
        · rename_i c
          obtain ⟨vs, h1, h2⟩ := keyed_of r e2
          refine ⟨(o.gam (p, .dK []) List.mem_cons_self).1, vs, h1, by rw [h2.length]; exact c.1, ?_⟩
          exact q w' p _ _ l (o.swap hγ) hγ (keys_merge h2 .nil (d := []) c.2)
        · exact q.elim
def eFrzD (f : DD) : DE := fun s => (f s).bind fun xs s1 => .ok (.dic xs) s1
theorem pdod_frz {e : Expr} {f : DD} (h : PDod G W X e f) : PD G W X e (eFrzD f) := h.imp fun σ H Q ⟨κ, w, s, ok, q⟩ => ⟨κ, w, s, ok, by
  unfold eFrzD at q
  cases e : f s with
  | stuck => rw [e] at q; exact q.elim
  | exc x s' => rw [e] at q; exact q
  | ok xs s' =>
    rw [e] at q
    intro w' a vs H' l o g r
    obtain ⟨le, ok'⟩ := o.frz g
    exact q _ _ H' (l.trans le) ok' (.dic upd_same (r.mono le))⟩
/-- what was set apart goes into the store -/
theorem Ok.store {κ : Bs} {w : Wd} {s : DS} {σ : L2.St} {H : Hp} {a : Addr} {o : HO} {c : Cell} (h : Ok G (κ.plus a o) w s σ H) (hγ : ∀ p ∈ κ.γ, p.1 ≠ a) (hc : CellOk G w H a c) : w.le ⟨w.F, w.ρ ++ [a]⟩ ∧ Ok G κ ⟨w.F, w.ρ ++ [a]⟩ ⟨s.sl, s.st ++ [c]⟩ σ H := by
  obtain ⟨ho, h3, h4, h5, h6⟩ := h.gam (a, o) List.mem_cons_self
  have le : w.le ⟨w.F, w.ρ ++ [a]⟩ := ⟨fun _ _ e => e, List.prefix_append _ _⟩
  refine ⟨le, ⟨⟨h.fok.sub, ?_, fun n b c' e1 e2 => ?_, ?_, fun b hb => ?_⟩, ⟨h.nx.le.trans le, h.nx.keep, h.nx.newF, fun b hb => ?_⟩, h.len, fun i d e => ?_, fun i x e o' => ?_, h.ne, fun p hp => ?_, h.me⟩⟩
  · show (w.ρ ++ [a]).length = (s.st ++ [c]).length
    rw [List.length_append, List.length_append, h.fok.len]
    rfl
  · have e1 : (w.ρ ++ [a])[n]? = some b := e1
    have e2 : (s.st ++ [c])[n]? = some c' := e2
    by_cases hn : n < w.ρ.length
    · rw [List.getElem?_append_left hn] at e1
      rw [List.getElem?_append_left (by rw [← h.fok.len]; exact hn)] at e2
      exact (h.fok.cel n b c' e1 e2).mono le rfl
    · rw [List.getElem?_append_right (by omega)] at e1
      rw [List.getElem?_append_right (by rw [← h.fok.len]; omega), ← h.fok.len] at e2
      cases z : n - w.ρ.length with
      | zero =>
        rw [z] at e1 e2
        cases e1
        cases e2
        exact hc.mono le rfl
      | succ k => rw [z] at e1; cases e1
  · show (w.ρ ++ [a]).Nodup
    rw [List.nodup_append]
    exact ⟨h.fok.nd, by simp, fun x hx y hy e => by
      rw [List.mem_singleton] at hy
      subst hy
      subst e
      exact h4 hx⟩
  · rcases List.mem_append.mp hb with hb | hb
    · exact h.fok.nf b hb
    · rw [List.mem_singleton.mp hb]
      exact h3
  · rcases List.mem_append.mp hb with hb | hb
    · exact h.nx.newR b hb
    · rw [List.mem_singleton.mp hb]
      exact .inr h5
  · obtain ⟨v, h1, h2⟩ := h.val i d e
    exact ⟨v, h1, h2.mono le⟩
  · obtain ⟨b, q1, q2, q3, q4, q5⟩ := h.own i x e o'
    refine ⟨b, q1, q2.mono le rfl, q3, fun hb => ?_, q5⟩
    rcases List.mem_append.mp hb with hb | hb
    · exact q4 hb
    · exact h6 i x e o' (by rw [q1, List.mem_singleton.mp hb])
  · obtain ⟨q1, q2, q3, q4⟩ := h.gam p (List.mem_cons_of_mem _ hp)
    refine ⟨q1, q2, fun hb => ?_, q4⟩
    rcases List.mem_append.mp hb with hb | hb
    · exact q3 hb
    · exact hγ p hp (List.mem_singleton.mp hb)
def eCellD (f : DD) : DE := fun s => (f s).bind fun xs s1 => .ok (.cell s1.st.length) ⟨s1.sl, s1.st ++ [.dic xs]⟩
theorem pdod_cell {e : Expr} {f : DD} (h : PDod G W X e f) : PD G W X e (eCellD f) := h.imp fun σ H Q ⟨κ, w, s, ok, q⟩ => ⟨κ, w, s, ok, by
  unfold eCellD at q
  cases e : f s with
  | stuck => rw [e] at q; exact q.elim
  | exc x s' => rw [e] at q; exact q
  | ok xs s' =>
    rw [e] at q
    intro w' a vs H' l o g r
    obtain ⟨le, ok'⟩ := o.store (c := .dic xs) g ⟨vs, (o.gam (a, .dK vs) List.mem_cons_self).1, r⟩
    refine q _ _ H' (l.trans le) ok' (.cell ?_)
    show (w'.ρ ++ [a])[s'.st.length]? = some a
    rw [← o.fok.len]
    simp⟩
/-! ### == and != of data -/
mutual
def toPy : D → Option PyData
  | .non => some .none
  | .bl b => some (.bool b)
  | .int i => some (.int i)
  | .str l => some (.str (nm l))
  | .tup xs => (toPys xs).map .tuple
  | .lst xs => (toPys xs).map .list
  | .scr xs => (toPys xs).map .list
  | _ => none
def toPys : List D → Option (List PyData)
  | [] => some []
  | d :: r => (toPy d).bind fun p => (toPys r).map fun q => p :: q
end
mutual
theorem Rep.py (hK : G.K = X.K) {κ : Bs} {w : Wd} {s : DS} {σ : L2.St} {H : Hp} (ok : Ok G κ w s σ H) : ∀ {v : V} {d : D} {p : PyData}, Rep G w v d → toPy d = some p → Dp X.K H v p
  | _, _, _, .non, e => by cases e; exact .non
  | _, _, _, .bl b, e => by cases e; exact .bl b
  | _, _, _, .int b, e => by cases e; exact .int b
  | _, _, _, .str b, e => by cases e; exact .str _
  | _, _, _, .tup (ds := ds) a r, e => by
    cases q : toPys ds with
    | none => simp [toPy, q] at e
    | some ps =>
      simp only [toPy, q, Option.map_some, Option.some.injEq] at e
      subst e
      exact .tup (hK ▸ SqT.le a ok.fok.sub) (Reps.py hK ok r q)
  | _, _, _, .lst (ds := ds) a r, e => by
    cases q : toPys ds with
    | none => simp [toPy, q] at e
    | some ps =>
      simp only [toPy, q, Option.map_some, Option.some.injEq] at e
      subst e
      exact .lst (.inl (.inl (ok.fok.sub _ _ a))) (Reps.py hK ok r q)
  | _, _, _, .scr (ds := ds) a r, e => by
    cases q : toPys ds with
    | none => simp [toPy, q] at e
    | some ps =>
      simp only [toPy, q, Option.map_some, Option.some.injEq] at e
      subst e
      exact .lst (hK ▸ SqL.le a ok.fok.sub) (Reps.py hK ok r q)
  | _, _, _, .dic _ _, e => by simp [toPy] at e
  | _, _, _, .ins _ _ _, e => by simp [toPy] at e
  | _, _, _, .cell _, e => by simp [toPy] at e
  | _, _, _, .cls _, e => by simp [toPy] at e
  | _, _, _, .ty _, e => by simp [toPy] at e
  | _, _, _, .fn _, e => by simp [toPy] at e
theorem Reps.py (hK : G.K = X.K) {κ : Bs} {w : Wd} {s : DS} {σ : L2.St} {H : Hp} (ok : Ok G κ w s σ H) : ∀ {v : List V} {d : List D} {p : List PyData}, Reps G w v d → toPys d = some p → DpAll X.K H v p
  | _, _, _, .nil, e => by simp [toPys] at e; subst e; exact .nil
  | _, _, _, .cons (d := d) (ds := ds) a r, e => by
    cases q1 : toPy d with
    | none => simp [toPys, q1] at e
    | some p =>
      cases q2 : toPys ds with
      | none => simp [toPys, q1, q2] at e
      | some ps =>
        simp only [toPys, q1, q2, Option.bind_some, Option.map_some, Option.some.injEq] at e
        subst e
        exact .cons (Rep.py hK ok a q1) (Reps.py hK ok r q2)
end
def dEq : D → D → Option D := fun x y => match toPy x, toPy y with
  | some p, some q => if SeqAt.shaped p && SeqAt.shaped q then some (.bl (PyData.eqv p q)) else none
  | _, _ => none
def dNe : D → D → Option D := fun x y => match toPy x, toPy y with
  | some p, some q => if SeqAt.shaped p && SeqAt.shaped q then some (.bl (!PyData.eqv p q)) else none
  | _, _ => none
theorem opd_eq (hK : G.K = X.K) (hu : X.A.units + 64 < cLine) : OpD G X (compareOp .Eq) dEq := ⟨_, op_eqD hu, fun κ w s σ H x y dx dy d Q ok rx ry e q => by
  unfold dEq at e
  cases e1 : toPy dx with
  | none => simp [e1] at e
  | some p =>
    cases e2 : toPy dy with
    | none => simp [e1, e2] at e
    | some p' =>
      simp only [e1, e2] at e
      split at e
      · rename_i c
        cases e
        rw [Bool.and_eq_true] at c
        exact ⟨p, p', rx.py hK ok e1, ry.py hK ok e2, c.1, c.2, q w _ H (.refl _) ok (.bl _)⟩
      · cases e⟩
theorem opd_ne (hK : G.K = X.K) (hu : X.A.units + 64 < cLine) : OpD G X (compareOp .NotEq) dNe := ⟨_, op_neD hu, fun κ w s σ H x y dx dy d Q ok rx ry e q => by
  unfold dNe at e
  cases e1 : toPy dx with
  | none => simp [e1] at e
  | some p =>
    cases e2 : toPy dy with
    | none => simp [e1, e2] at e
    | some p' =>
      simp only [e1, e2] at e
      split at e
      · rename_i c
        cases e
        rw [Bool.and_eq_true] at c
        exact ⟨p, p', rx.py hK ok e1, ry.py hK ok e2, c.1, c.2, q w _ H (.refl _) ok (.bl _)⟩
      · cases e⟩
/-- is None -/
def isNonD : D → Bool
  | .non => true
  | _ => false
def dIsN : D → D → Option D := fun x y => match y with
  | .non => some (.bl (isNonD x))
  | _ => none
def dNotN : D → D → Option D := fun x y => match y with
  | .non => some (.bl (!isNonD x))
  | _ => none
theorem Rep.non_iff {w : Wd} {v : V} {d : D} (r : Rep G w v d) : decide (v = .non) = isNonD d := by
  cases r <;> simp [isNonD]
theorem opd_isN : OpD G X (compareOp .Is) dIsN := ⟨_, op_isN, fun κ w s σ H x y dx dy d Q ok rx ry e q => by
  cases ry with
  | non =>
    cases e
    refine ⟨rfl, ?_⟩
    rw [rx.non_iff]
    exact q w _ H (.refl _) ok (.bl _)
  | _ => exact nomatch e⟩
theorem opd_notN : OpD G X (compareOp .IsNot) dNotN := ⟨_, op_notN, fun κ w s σ H x y dx dy d Q ok rx ry e q => by
  cases ry with
  | non =>
    cases e
    refine ⟨rfl, ?_⟩
    rw [rx.non_iff]
    exact q w _ H (.refl _) ok (.bl _)
  | _ => exact nomatch e⟩
/-! ### operators of own classes -/
def ownO (c : String) (g : DFn) : DO2 := fun x y s => match insOf x s, insOf y s with
  | some (c1, _), some (c2, _) => if c1 = c ∧ c2 = c then lift s (g [x, y] s.st) else .stuck
  | _, _ => .stuck
theorem ep_back {pins : List (Addr × Obj)} {σ : L2.St} {Q : VK} {v : Value} {s' : Shared} (h : EP X pins σ Q v s') : PySem.W.CmpBack (EP X pins σ Q) v s' := by
  obtain ⟨x, H, I, r, q⟩ := id h
  cases v <;> first
    | exact h
    | (have := r.abs; cases this)
theorem ownO_of {c : String} {g : DFn} {κ : Bs} {w : Wd} {s : DS} {σ : L2.St} {H : Hp} {x y : V} {dx dy : D} {Q : VK} (ok : Ok G κ w s σ H) (rx : Rep G w x dx) (ry : Rep G w y dy) (q : PostG G W (Rep G) κ w σ (ownO c g dx dy s) Q) :
    ∃ a b C dxa dxb fa fb, x = .ref a ∧ y = .ref b ∧ G.ct c = some C ∧ H a = some (.ins C dxa fa) ∧ H b = some (.ins C dxb fb) ∧ PostG G W (Rep G) κ w σ (lift s (g [dx, dy] s.st)) Q := by
  unfold ownO at q
  cases e1 : insOf dx s with
  | none => rw [e1] at q; exact q.elim
  | some p =>
    cases e2 : insOf dy s with
    | none => rw [e1, e2] at q; exact q.elim
    | some p' =>
      obtain ⟨c1, f1⟩ := p
      obtain ⟨c2, f2⟩ := p'
      rw [e1, e2] at q
      replace q : PostG G W (Rep G) κ w σ (if c1 = c ∧ c2 = c then lift s (g [dx, dy] s.st) else .stuck) Q := q
      split at q
      · rename_i h
        obtain ⟨rfl, rfl⟩ := h
        obtain ⟨a, C, dxa, vs, ev, hC, hH, _⟩ := rx.ins_of ok e1
        obtain ⟨b, C', dxb, vs', ev', hC', hH', _⟩ := ry.ins_of ok e2
        rw [hC] at hC'
        cases hC'
        exact ⟨a, b, C, dxa, dxb, vs, vs', ev, ev', hC, hH, hH', q⟩
      · exact q.elim
theorem opx_own {op : Operator} {mname : Str} {c : String} {C f : Addr} {k : Nat} {fd : FuncData} {ps : List Str} {g : DFn} (hm' : PySem.dunder op.info.2 = mname) (hC : G.ct c = some C) (hs : PySem.W.findIn X.K (.ref C) mname = some (some (.ref f))) (hf : PySem.W.isFn X.K (.ref f) = true) (hc : PySem.W.selfFirst X.K C = true)
    (F : FnOk X.prog X.w X.K X.mg X.base (L2.CX X.prog X.w) k f fd ps (spG G 2 g)) (hr : Room k X.A) (hb : Binds X.K fd ps []) (tk : Takes X W) : OpX G W X (binaryOp op) (ownO c g) := by
  subst hm'
  intro pins sh σ H x y v u κ w s dx dy Q I rx ry ok rdx rdy q
  obtain ⟨a, b, C', dxa, dxb, fa, fb, rfl, rfl, hC', hH, hH', q⟩ := ownO_of ok rdx rdy q
  rw [hC] at hC'
  cases hC'
  cases rx
  cases ry
  obtain ⟨mA, J, _⟩ := ins_get I.hok hH
  obtain ⟨mB, J', _⟩ := ins_get I.hok hH'
  obtain ⟨od, J, _⟩ := J.look
  obtain ⟨od', J', _⟩ := J'.look
  obtain ⟨m, hF⟩ := I.fr
  refine PySem.W.binop_K hF I.ok.mod.kin J J'.type hc hs hf ?_
  exact thn (callD (us := [.ref a, .ref b]) (vs := [.ref a, .ref b]) (ds := [dx, dy]) F hr hb tk I ok (.cons rdx (.cons rdy .nil)) (.cons rfl (.cons rfl .nil)) rfl q) fun v s' h => ep_back h
theorem opx_ownEq {c : String} {C f : Addr} {k : Nat} {fd : FuncData} {ps : List Str} {g : DFn} (hC : G.ct c = some C) (hs : PySem.W.findIn X.K (.ref C) "__eq__" = some (some (.ref f))) (hf : PySem.W.isFn X.K (.ref f) = true)
    (F : FnOk X.prog X.w X.K X.mg X.base (L2.CX X.prog X.w) k f fd ps (spG G 2 g)) (hr : Room k X.A) (hb : Binds X.K fd ps []) (tk : Takes X W) : OpX G W X (compareOp .Eq) (ownO c g) := by
  intro pins sh σ H x y v u κ w s dx dy Q I rx ry ok rdx rdy q
  obtain ⟨a, b, C', dxa, dxb, fa, fb, rfl, rfl, hC', hH, hH', q⟩ := ownO_of ok rdx rdy q
  rw [hC] at hC'
  cases hC'
  cases rx
  cases ry
  obtain ⟨mA, J, _⟩ := ins_get I.hok hH
  obtain ⟨mB, J', _⟩ := ins_get I.hok hH'
  obtain ⟨od, J, _⟩ := J.look
  obtain ⟨od', J', _⟩ := J'.look
  obtain ⟨m, hF⟩ := I.fr
  show wpAny (model X.prog X.w) X.A (richCompare .Eq (.ref a) (.ref b)) _ _ _
  refine PySem.W.cmp_K (op := .Eq) (tb := .ref C) hr.units0 hF I.ok.mod.kin J J'.type (by simp [PySem.W.notFirst]) hs hf ?_
  exact thn (callD (us := [.ref a, .ref b]) (vs := [.ref a, .ref b]) (ds := [dx, dy]) F hr hb tk I ok (.cons rdx (.cons rdy .nil)) (.cons rfl (.cons rfl .nil)) rfl q) fun v s' h => ep_back h
/-- ~x of an own class -/
def eInv (c : String) (g : DFn) (f : DE) : DE := fun s => (f s).bind fun d s1 => match insOf d s1 with
  | some (c1, _) => if c1 = c then lift s1 (g [d] s1.st) else .stuck
  | none => .stuck
theorem pd_inv {c : String} {C f : Addr} {k : Nat} {fd : FuncData} {ps : List Str} {g : DFn} {e : Expr} {fe : DE} {pos : Pos} (hC : G.ct c = some C) (hs : PySem.W.findIn X.K (.ref C) "__invert__" = some (some (.ref f))) (hf : PySem.W.isFn X.K (.ref f) = true)
    (F : FnOk X.prog X.w X.K X.mg X.base (L2.CX X.prog X.w) k f fd ps (spG G 1 g)) (hr : Room k X.A) (hb : Binds X.K fd ps []) (tk : Takes X W) (he : PD G W X e fe) : PD G W X (.UnaryOp .Invert e pos) (eInv c g fe) := by
  refine ⟨fun pins sh σ H Q I h => ?_⟩
  obtain ⟨κ, w, s, ok, q⟩ := h
  have hh : tD G W fe σ H fun v H1 => ∃ d s1 w1, w.le w1 ∧ Ok G κ w1 s1 σ H1 ∧ Rep G w1 v d ∧ PostG G W (Rep G) κ w1 σ (match insOf d s1 with
    | some (c1, _) => if c1 = c then lift s1 (g [d] s1.st) else .stuck
    | none => .stuck) Q := ⟨κ, w, s, ok, PostG.bind q⟩
  refine UnaryOp_ (thn (he.run pins sh σ H _ I hh) fun u s1 ⟨x, H1, I1, rx, d, t1, w1, le, ok1, r1, q1⟩ => ?_)
  cases e1 : insOf d t1 with
  | none => rw [e1] at q1; exact q1.elim
  | some p =>
    obtain ⟨c1, fs⟩ := p
    rw [e1] at q1
    replace q1 : PostG G W (Rep G) κ w1 σ (if c1 = c then lift t1 (g [d] t1.st) else .stuck) Q := q1
    split at q1
    · rename_i hc
      subst hc
      obtain ⟨a, C', dx, vs, ev, hC', hH, rf⟩ := r1.ins_of ok1 e1
      rw [hC] at hC'
      cases hC'
      subst ev
      obtain rfl : u = Value.ref a := rx
      obtain ⟨mA, J, _⟩ := ins_get I1.hok hH
      obtain ⟨od, J, _⟩ := J.look
      obtain ⟨m, hF⟩ := I1.fr
      exact PySem.W.ksp_inv hF I1.ok.mod.kin J hs hf (callD (us := [.ref a]) (vs := [.ref a]) (ds := [d]) F hr hb tk I1 ok1 (.cons r1 .nil) (.cons rfl .nil) rfl q1)
    · exact q1.elim
end
end DL
set_option maxRecDepth 100000
set_option maxHeartbeats 4000000
set_option autoImplicit false
namespace DL
open PySem PySem.Spec PyProof.Rows L2 RZ
section
variable {G : Gam} {W : WX} {X : Cx}
/-! ### list comprehensions -/
abbrev WF : WX := fun _ _ _ _ => False
def wipeD (vs : List Nat) (l : List Sl) : List Sl := match vs with
  | [] => l
  | v :: vs => (wipeD vs l).set v .un
def wipeS (vs : List Nat) (s : DS) : DS := ⟨wipeD vs s.sl, s.st⟩
theorem wipeD_length (l : List Sl) : ∀ vs : List Nat, (wipeD vs l).length = l.length
  | [] => rfl
  | v :: vs => by unfold wipeD; rw [List.length_set, wipeD_length l vs]
theorem wipeD_in {l : List Sl} {i : Nat} {x : Sl} : ∀ {vs : List Nat}, (wipeD vs l)[i]? = some x → (i ∈ vs ∧ x = .un) ∨ (i ∉ vs ∧ l[i]? = some x)
  | [], h => .inr ⟨by simp, h⟩
  | v :: vs, h => by
    unfold wipeD at h
    by_cases hi : v = i
    · subst hi
      by_cases hv : v < (wipeD vs l).length
      · rw [List.getElem?_set_self hv] at h
        cases h
        exact .inl ⟨List.mem_cons_self, rfl⟩
      · rw [List.getElem?_eq_none (by simpa using hv)] at h; cases h
    · rw [List.getElem?_set_ne hi] at h
      rcases wipeD_in h with ⟨h1, h2⟩ | ⟨h1, h2⟩
      · exact .inl ⟨List.mem_cons_of_mem _ h1, h2⟩
      · exact .inr ⟨by simp only [List.mem_cons, not_or]; exact ⟨fun e => hi e.symm, h1⟩, h2⟩
theorem wipe_out' {σ : L2.St} {i : Nat} : ∀ {vs : List Nat}, i ∉ vs → (L2.wipe σ vs)[i]? = σ[i]?
  | [], _ => rfl
  | v :: vs, h => by
    unfold L2.wipe
    rw [List.getElem?_set_ne (fun e => h (by rw [e]; exact List.mem_cons_self)), wipe_out' fun z => h (List.mem_cons_of_mem _ z)]
theorem Ok.wipe {κ : Bs} {w : Wd} {s : DS} {σ : L2.St} {H : Hp} (h : Ok G κ w s σ H) (vs : List Nat) : Ok G κ w (wipeS vs s) (L2.wipe σ vs) H := by
  refine ⟨h.fok, h.nx, by rw [wipe_length]; exact (wipeD_length _ _).trans h.len, fun i d e => ?_, fun i x e o => ?_, fun i j x y a e1 e2 o1 o2 h1 h2 => ?_, fun p hp => ?_, fun a ha c fs e => ?_⟩
  · rcases wipeD_in e with ⟨_, z⟩ | ⟨z, e⟩
    · cases z
    · rw [wipe_out' z]; exact h.val i d e
  · rcases wipeD_in e with ⟨_, z⟩ | ⟨z, e⟩
    · subst z; cases o
    · rw [wipe_out' z]; exact h.own i x e o
  · rcases wipeD_in e1 with ⟨_, z⟩ | ⟨z, e1⟩
    · subst z; cases o1
    · rcases wipeD_in e2 with ⟨_, z'⟩ | ⟨z', e2⟩
      · subst z'; cases o2
      · rw [wipe_out' z] at h1
        rw [wipe_out' z'] at h2
        exact h.ne i j x y a e1 e2 o1 o2 h1 h2
  · obtain ⟨q1, q2, q3, q4, q5⟩ := h.gam p hp
    refine ⟨q1, q2, q3, q4, fun i x e o => ?_⟩
    rcases wipeD_in e with ⟨_, z⟩ | ⟨z, e⟩
    · subst z; cases o
    · rw [wipe_out' z]; exact q5 i x e o
  · rcases wipeD_in e with ⟨_, z⟩ | ⟨z, e⟩
    · cases z
    · rw [wipe_out' z]; exact h.me a ha c fs e
/-- the slots behind the block: the block's own names as they were -/
def unwipe (vs : List Nat) (old new : List Sl) : List Sl := match vs with
  | [] => new
  | v :: vs => (unwipe vs old new).set v (match old[v]? with | some (.val d) => .val d | _ => .un)
theorem unwipe_length (l l' : List Sl) : ∀ vs : List Nat, (unwipe vs l l').length = l'.length
  | [] => rfl
  | v :: vs => by unfold unwipe; rw [List.length_set, unwipe_length l l' vs]
theorem unwipe_in {l l' : List Sl} {i : Nat} {x : Sl} : ∀ {vs : List Nat}, (unwipe vs l l')[i]? = some x → (i ∈ vs ∧ (x = .un ∨ ∃ d, x = .val d ∧ l[i]? = some x)) ∨ (i ∉ vs ∧ l'[i]? = some x)
  | [], h => .inr ⟨by simp, h⟩
  | v :: vs, h => by
    unfold unwipe at h
    by_cases hi : v = i
    · subst hi
      by_cases hv : v < (unwipe vs l l').length
      · rw [List.getElem?_set_self hv] at h
        refine .inl ⟨List.mem_cons_self, ?_⟩
        cases e : l[v]? with
        | none => rw [e] at h; cases h; exact .inl rfl
        | some y =>
          rw [e] at h
          cases y with
          | val d => cases h; exact .inr ⟨d, rfl, rfl⟩
          | _ => cases h; exact .inl rfl
      · rw [List.getElem?_eq_none (by simpa using hv)] at h; cases h
    · rw [List.getElem?_set_ne hi] at h
      rcases unwipe_in h with ⟨h1, h2⟩ | ⟨h1, h2⟩
      · exact .inl ⟨List.mem_cons_of_mem _ h1, h2⟩
      · exact .inr ⟨by simp only [List.mem_cons, not_or]; exact ⟨fun e => hi e.symm, h1⟩, h2⟩
theorem Ok.unwipe {κ κ' : Bs} {w w1 : Wd} {s s1 : DS} {σ : L2.St} {H H1 : Hp} {vs : List Nat} (h1 : Ok G κ' w1 s1 σ H1) (le : w1.le w) (h : Ok G κ w s (L2.wipe σ vs) H) (hme : κ.me = κ'.me) : Ok G κ w ⟨DL.unwipe vs s1.sl s.sl, s.st⟩ σ H := by
  refine ⟨h.fok, h.nx, ?_, fun i d e => ?_, fun i x e o => ?_, fun i j x y a e1 e2 o1 o2 q1 q2 => ?_, fun p hp => ?_, fun a ha c fs e => ?_⟩
  · show (DL.unwipe vs s1.sl s.sl).length = σ.length
    rw [unwipe_length, h.len, wipe_length]
  · rcases unwipe_in e with ⟨_, z | ⟨d', z, e⟩⟩ | ⟨z, e⟩
    · cases z
    · obtain ⟨v, q1, q2⟩ := h1.val i d e
      exact ⟨v, q1, q2.mono le⟩
    · obtain ⟨v, q1, q2⟩ := h.val i d e
      exact ⟨v, by rw [wipe_out' z] at q1; exact q1, q2⟩
  · rcases unwipe_in e with ⟨_, z | ⟨d', z, e⟩⟩ | ⟨z, e⟩
    · subst z; cases o
    · subst z; cases o
    · have := h.own i x e o
      rwa [wipe_out' z] at this
  · rcases unwipe_in e1 with ⟨_, z | ⟨d', z, e1⟩⟩ | ⟨z, e1⟩
    · subst z; cases o1
    · subst z; cases o1
    · rcases unwipe_in e2 with ⟨_, z' | ⟨d', z', e2⟩⟩ | ⟨z', e2⟩
      · subst z'; cases o2
      · subst z'; cases o2
      · exact h.ne i j x y a e1 e2 o1 o2 (by rw [wipe_out' z]; exact q1) (by rw [wipe_out' z']; exact q2)
  · obtain ⟨q1, q2, q3, q4, q5⟩ := h.gam p hp
    refine ⟨q1, q2, q3, q4, fun i x e o => ?_⟩
    rcases unwipe_in e with ⟨_, z | ⟨d', z, e⟩⟩ | ⟨z, e⟩
    · subst z; cases o
    · subst z; cases o
    · have := q5 i x e o
      rwa [wipe_out' z] at this
  · rcases unwipe_in e with ⟨_, z | ⟨d', z, e⟩⟩ | ⟨z, e⟩
    · cases z
    · cases z
    · have := h.me a ha c fs e
      rwa [wipe_out' z] at this
def lcL (vs : List Nat) (g : DG) (t : DT) (e : DE) : List D → List D → DS → Res DS (List D)
  | [], acc, s => .ok acc s
  | d :: r, acc, s => (noX (g d (wipeS vs s))).bind fun _ s1 => (noX (t s1)).bind fun b s2 => if b = true then (noX (e s2)).bind fun y s3 => if acc.length < 1000000 then lcL vs g t e r (acc ++ [y]) s3 else .stuck
    else lcL vs g t e r acc s2
def aLc (vs : List Nat) (it : DA) (g : DG) (t : DT) (e : DE) : DA := fun s => (it s).bind fun items s1 => (noX (lcL vs g t e items [] s1)).bind fun ys s2 => .ok ys ⟨unwipe vs s1.sl (wipeD vs s2.sl), s2.st⟩
def bYes : DT := fun s => .ok true s
theorem ptds_nil : PTs X [] (tDT G W bYes) := ⟨fun pins s σ H Q I ⟨κ, w, d, ok, q⟩ => pts_nil.run pins s σ H Q I (q w true H (.refl _) ok rfl)⟩
theorem ptds_one {c : Expr} {t : DT} (h : PDT G W X c t) : PTs X [c] (tDT G W t) := pts_one h
theorem wipe_same {σ σ2 : L2.St} {vs is : List Nat} (hl : σ2.length = (L2.wipe σ vs).length) (h : ∀ i : Nat, i ∉ is → σ2[i]? = (L2.wipe σ vs)[i]?) (hs : ∀ i ∈ is, i ∈ vs) : L2.wipe σ2 vs = L2.wipe σ vs := by
  have at_ : ∀ (τ : L2.St) (i : Nat), i ∈ vs → (L2.wipe τ vs)[i]? = if i < τ.length then some none else none := by
    intro τ i hi
    clear h hs hl
    induction vs with
    | nil => simp at hi
    | cons v r ih =>
      unfold L2.wipe
      by_cases e : v = i
      · subst e
        by_cases c : v < τ.length
        · rw [List.getElem?_set_self (by rw [wipe_length]; exact c), if_pos c]
        · rw [if_neg c, List.getElem?_eq_none (by rw [List.length_set, wipe_length]; omega)]
      · rw [List.getElem?_set_ne e]
        exact ih (by rcases List.mem_cons.mp hi with z | z; exact absurd z.symm e; exact z)
  have hl2 : σ2.length = σ.length := by rw [hl, wipe_length]
  apply List.ext_getElem?
  intro i
  by_cases hi : i ∈ vs
  · rw [at_ σ2 i hi, at_ σ i hi, hl2]
  · rw [wipe_out' hi]
    exact h i fun z => hi (hs i z)
theorem lc_of {vs is : List Nat} (hs : ∀ i ∈ is, i ∈ vs) {κ : Bs} {w : Wd} {J : It} {g : DG} {t : DT} {e : DE} {items : List D} (hJ : ItOk G w J items) {s0 : DS} {σ : L2.St} {H1 : Hp} {Q : VK} (ok : Ok G κ w s0 σ H1) {Dp : Addr} (hD : H1 Dp = none)
    (q : match noX (lcL vs g t e items [] s0) with
      | .ok ys s2 => ∀ w2 acc H2, w.le w2 → Ok G (κ.plus Dp (.lst acc)) w2 (wipeS vs s2) (L2.wipe σ vs) H2 → Reps G w2 acc ys → Q (.ref Dp) H2
      | _ => False) :
    ∃ Wv : Nat → Nat → Hp → Prop, (∃ m, Wv 0 m (upd H1 Dp (.lst []))) ∧ ∀ i m H, Wv i m H →
      (J.stop i H ∧ Q (.ref Dp) H) ∨ (J.go i H ∧ ∃ Nx : Hp → Prop, (∀ H', Nx H' → ∃ m', m' < m ∧ Wv (i + 1) m' H') ∧ ∀ x H', J.yld i H x H' → tDG G is g x (L2.wipe σ vs) H' fun σ2 H2 => L2.wipe σ2 vs = L2.wipe σ vs ∧ tDT G WF t σ2 H2 fun b H3 =>
        if b = true then tD G WF e σ2 H3 fun y H4 => ∃ acc, H4 Dp = some (.lst acc) ∧ acc.length < sizeLine ∧ Nx (upd H4 Dp (.lst (acc ++ [y]))) else Nx H3) := by
  have hγ := ok.apart hD
  -- a state of the loop: slots wiped
  refine ⟨fun i m H => ∃ w' s' acc accD, w.le w' ∧ Ok G (κ.plus Dp (.lst acc)) w' (wipeS vs s') (L2.wipe σ vs) H ∧ Reps G w' acc accD ∧ (items.drop i).length = m ∧
    (match noX (lcL vs g t e (items.drop i) accD s') with
      | .ok ys s2 => ∀ w2 acc H2, w'.le w2 → Ok G (κ.plus Dp (.lst acc)) w2 (wipeS vs s2) (L2.wipe σ vs) H2 → Reps G w2 acc ys → Q (.ref Dp) H2
      | _ => False), ⟨items.length, w, s0, [], [], .refl _, (ok.fresh hD _).wipe vs, .nil, by simp, ?_⟩, ?_⟩
  · rw [List.drop_zero]
    exact q
  · rintro i m H ⟨w', s', acc, accD, le', ok', ra, hm, q'⟩
    cases ed : items.drop i with
    | nil =>
      rw [ed] at q'
      have hn : items[i]? = none := by
        have := congrArg (fun l => l[0]?) ed
        simpa using this
      exact .inl ⟨(hJ w' _ H le' ok'.fok i).2 hn, q' w' acc H (.refl _) ok' ra⟩
    | cons d r =>
      rw [ed] at q' hm
      obtain ⟨h1, h2⟩ := drop_get ed
      obtain ⟨go, yl⟩ := (hJ w' _ H le' ok'.fok i).1 d h1
      refine .inr ⟨go, fun H2 => ∃ w2 s2 acc accD, w.le w2 ∧ Ok G (κ.plus Dp (.lst acc)) w2 (wipeS vs s2) (L2.wipe σ vs) H2 ∧ Reps G w2 acc accD ∧
        (match noX (lcL vs g t e r accD s2) with
          | .ok ys s3 => ∀ w3 acc H3, w2.le w3 → Ok G (κ.plus Dp (.lst acc)) w3 (wipeS vs s3) (L2.wipe σ vs) H3 → Reps G w3 acc ys → Q (.ref Dp) H3
          | _ => False), fun H2 ⟨w2, s2, acc2, accD2, l2, o2, r2, q2⟩ => ?_, fun x H' hy => ?_⟩
      · exact ⟨r.length, by rw [← hm]; exact Nat.lt_succ_self _, w2, s2, acc2, accD2, l2, o2, r2, by rw [h2], by rw [h2]; exact q2⟩
      · obtain ⟨w2, nx, fok, rx⟩ := yl x H' hy
        have ok2 : Ok G (κ.plus Dp (.lst acc)) w2 (wipeS vs s') (L2.wipe σ vs) H' := ok'.step nx fok
        refine ⟨κ.plus Dp (.lst acc), w2, wipeS vs s', d, ok2, rx, PostT.ofNoX ?_⟩
        unfold lcL at q'
        cases e1 : noX (g d (wipeS vs s')) with
        | stuck => rw [e1] at q'; exact q'.elim
        | exc x s => exact absurd e1 (noX_exc _ _ _)
        | ok u s1 =>
          rw [e1] at q'
          rw [Res.bind_ok] at q'
          intro w3 σ3 H3 l3 o3 hσ
          have hw : L2.wipe σ3 vs = L2.wipe σ vs := wipe_same hσ.1 hσ.2 hs
          refine ⟨hw, κ.plus Dp (.lst acc), w3, s1, o3, ?_⟩
          cases e2 : t s1 with
          | stuck => rw [e2] at q'; exact q'.elim
          | exc x s => rw [e2] at q'; exact q'.elim
          | ok b s2 =>
            rw [e2] at q'
            intro w4 b' H4 l4 o4 eb
            subst eb
            have lw : w'.le w4 := (nx.le.trans l3).trans l4
            cases b' with
            | false =>
              rw [if_neg (fun z => nomatch z)]
              refine ⟨w4, s2, acc, accD, le'.trans lw, by rw [← hw]; exact o4.wipe vs, ra.mono lw, ?_⟩
              replace q' : (match noX (lcL vs g t e r accD s2) with
                | .ok ys s3 => ∀ w3 acc H3, w'.le w3 → Ok G (κ.plus Dp (.lst acc)) w3 (wipeS vs s3) (L2.wipe σ vs) H3 → Reps G w3 acc ys → Q (.ref Dp) H3
                | _ => False) := q'
              cases e3 : noX (lcL vs g t e r accD s2) with
              | stuck => rw [e3] at q'; exact q'.elim
              | exc x s => rw [e3] at q'; exact q'.elim
              | ok ys s3 => rw [e3] at q'; exact fun w5 acc5 H5 l5 o5 r5 => q' w5 acc5 H5 (lw.trans l5) o5 r5
            | true =>
              rw [if_pos rfl]
              refine ⟨κ.plus Dp (.lst acc), w4, s2, o4, ?_⟩
              replace q' : (match noX ((noX (e s2)).bind fun y s3 => if accD.length < 1000000 then lcL vs g t e r (accD ++ [y]) s3 else .stuck) with
                | .ok ys s3 => ∀ w3 acc H3, w'.le w3 → Ok G (κ.plus Dp (.lst acc)) w3 (wipeS vs s3) (L2.wipe σ vs) H3 → Reps G w3 acc ys → Q (.ref Dp) H3
                | _ => False) := q'
              cases e3 : e s2 with
              | stuck => rw [e3] at q'; exact q'.elim
              | exc x s => rw [e3] at q'; exact q'.elim
              | ok y s3 =>
                rw [e3] at q'
                intro w5 v5 H5 l5 o5 r5
                replace q' : (match noX (if accD.length < 1000000 then lcL vs g t e r (accD ++ [y]) s3 else .stuck) with
                  | .ok ys s3 => ∀ w3 acc H3, w'.le w3 → Ok G (κ.plus Dp (.lst acc)) w3 (wipeS vs s3) (L2.wipe σ vs) H3 → Reps G w3 acc ys → Q (.ref Dp) H3
                  | _ => False) := q'
                by_cases c : accD.length < 1000000
                · rw [if_pos c] at q'
                  refine ⟨acc, (o5.gam (Dp, .lst acc) List.mem_cons_self).1, by rw [ra.length, sizeLine_eq]; omega, w5, s3, acc ++ [v5], accD ++ [y], le'.trans (lw.trans l5), ?_, ((ra.mono lw).mono l5).append (.cons r5 .nil), ?_⟩
                  · rw [← hw]
                    exact (o5.swap hγ).wipe vs
                  · cases e4 : noX (lcL vs g t e r (accD ++ [y]) s3) with
                    | stuck => rw [e4] at q'; exact q'.elim
                    | exc x s => rw [e4] at q'; exact q'.elim
                    | ok ys s4 => rw [e4] at q'; exact fun w6 acc6 H6 l6 o6 r6 => q' w6 acc6 H6 ((lw.trans l5).trans l6) o6 r6
                · rw [if_neg c] at q'
                  exact q'.elim
theorem pdo_lc {elt tg iter : Expr} {ifs : List Expr} {scope : Scope} {own : List (Str × Nat)} {is : List Nat} {pos : Pos} {it : DA} {g : DG} {t : DT} {e : DE} (hc : X.calm = true) (hN : X.N.Nodup) (hi : PDI G W X tg iter it) (ok : BlkOk X.N X.env.scope scope own) (hs' : ∀ i ∈ is, i ∈ own.map (·.2))
    (hg : ∀ (s : Shared) (H : Hp) (C : Addr) (cl : List (Str × Addr)) (fp : List Addr), PDG G (X.blk s H scope (compEnvC scope cl C X.env) fp) tg is g) (ht : ∀ (s : Shared) (H : Hp) (C : Addr) (cl : List (Str × Addr)) (fp : List Addr), PTs (X.blk s H scope (compEnvC scope cl C X.env) fp) ifs (tDT G WF t))
    (he : ∀ (s : Shared) (H : Hp) (C : Addr) (cl : List (Str × Addr)) (fp : List Addr), PD G WF (X.blk s H scope (compEnvC scope cl C X.env) fp) elt e) (hs : ∀ x, foldedSetIterable iter X.env x = pure x := by intro _; rfl) :
    PDo G W X (.ListComp elt [⟨tg, iter, ifs, 0⟩] scope pos) (aLc (own.map (·.2)) it g t e) :=
  (pe_lc hc hN hi ok hg ht he hs).imp fun σ H Q h => lc_fin hs' h
where
  lc_fin {vs is : List Nat} (hs : ∀ i ∈ is, i ∈ vs) {it : DA} {g : DG} {t : DT} {e : DE} {σ : L2.St} {H : Hp} {Q : VK} (h : tDo G W (aLc vs it g t e) σ H Q) : tLc (tDI G W it) (tDG G is g) (tDT G WF t) (tD G WF e) vs σ H Q := by
    obtain ⟨κ, w, s, ok, q⟩ := h
    refine ⟨κ, w, s, ok, ?_⟩
    unfold aLc at q
    cases e1 : it s with
    | stuck => rw [e1] at q; exact q.elim
    | exc x s' => rw [e1] at q; exact q
    | ok items s1 =>
      rw [e1] at q
      rw [Res.bind_ok] at q
      intro w1 J H1 l1 o1 hJ D hD
      refine lc_of hs hJ o1 hD ?_
      cases e2 : noX (lcL vs g t e items [] s1) with
      | stuck => rw [e2] at q; exact q.elim
      | exc x s' => exact absurd e2 (noX_exc _ _ _)
      | ok ys s2 =>
        rw [e2] at q
        intro w2 acc H2 l2 o2 r2
        exact q w2 D acc H2 (l1.trans l2) (Ok.unwipe o1 l2 o2 rfl) (o1.apart hD) r2
/-- name = [..] on one line, the name a plain local -/
theorem pds_setLc {i : Nat} {y : Str} {py : Pos} {elt tg iter : Expr} {ifs : List Expr} {scope : Scope} {own : List (Str × Nat)} {is : List Nat} {pos spos : Pos} {it : DA} {g : DG} {t : DT} {e : DE} (hc : X.calm = true) (hN : X.N.Nodup) (hy : X.N[i]? = some y) (hyl : X.env.scope.names.lookup y = some .local)
    (hsw : swapsWith (.ListComp elt [⟨tg, iter, ifs, 0⟩] scope pos) (some (.Name y py)) spos.line X.env = pure true) (hi : PDI G W X tg iter it) (ok : BlkOk X.N X.env.scope scope own) (hs' : ∀ i ∈ is, i ∈ own.map (·.2))
    (hg : ∀ (s : Shared) (H : Hp) (C : Addr) (cl : List (Str × Addr)) (fp : List Addr), PDG G (X.blk s H scope (compEnvC scope cl C X.env) fp) tg is g) (ht : ∀ (s : Shared) (H : Hp) (C : Addr) (cl : List (Str × Addr)) (fp : List Addr), PTs (X.blk s H scope (compEnvC scope cl C X.env) fp) ifs (tDT G WF t))
    (he : ∀ (s : Shared) (H : Hp) (C : Addr) (cl : List (Str × Addr)) (fp : List Addr), PD G WF (X.blk s H scope (compEnvC scope cl C X.env) fp) elt e) (hs : ∀ x, foldedSetIterable iter X.env x = pure x := by intro _; rfl) :
    PDS G W X (.Assign [.Name y py] (.ListComp elt [⟨tg, iter, ifs, 0⟩] scope pos) spos) (sSetO i (aLc (own.map (·.2)) it g t e)) :=
  (ps_setLc hc hN hy hyl hsw hi ok hg ht he hs).imp fun N σ H q => by
    have q := setO_of q
    exact pdo_lc.lc_fin hs' q
/-! ### enumerate, zip -/
def enumL (xs : List D) : List D := (List.range xs.length).zipWith (fun (i : Nat) x => .tup [.int (i : Int), x]) xs
def zipL (xs ys : List D) : List D := xs.zipWith (fun x y => .tup [x, y]) ys
theorem zipL_get {xs ys : List D} {i : Nat} {d : D} (h : (zipL xs ys)[i]? = some d) : ∃ x y, xs[i]? = some x ∧ ys[i]? = some y ∧ d = .tup [x, y] := by
  unfold zipL at h
  rw [List.getElem?_zipWith] at h
  cases e1 : xs[i]? with
  | none => simp [e1] at h
  | some x =>
    cases e2 : ys[i]? with
    | none => simp [e1, e2] at h
    | some y => simp [e1, e2] at h; exact ⟨x, y, rfl, rfl, h.symm⟩
theorem enumL_get {xs : List D} {i : Nat} {d : D} (h : (enumL xs)[i]? = some d) : ∃ x, xs[i]? = some x ∧ d = .tup [.int (i : Int), x] := by
  unfold enumL at h
  rw [List.getElem?_zipWith] at h
  cases e2 : xs[i]? with
  | none => simp [e2] at h
  | some y =>
    have hi : i < xs.length := (List.getElem?_eq_some_iff.mp e2).1
    rw [List.getElem?_range hi, e2] at h
    cases h
    exact ⟨y, rfl, rfl⟩
theorem itOk_enum (hK : G.K = X.K) {w : Wd} {a : Addr} {vs : List V} {ds : List D} (e : SqL G.K w.F a vs) (r : Reps G w vs ds) : ItOk G w (Ite X.K a) (enumL ds) := by
  intro w1 S H le fok i
  have q : SqL X.K H a vs := hK ▸ SqL.le (SqL.le e le.f) fok.sub
  refine ⟨fun d hd => ?_, fun hn => ?_⟩
  · obtain ⟨x, h1, rfl⟩ := enumL_get hd
    obtain ⟨y, h2, h3⟩ := r.get h1
    refine ⟨⟨vs, y, q, h2⟩, fun v H' ⟨T, x', hv, hT, hH, hx⟩ => ?_⟩
    have := hx vs q
    rw [h2] at this
    cases this
    obtain ⟨f2, n2⟩ := fok.alloc hT (.tup [.int (i : Nat), y])
    subst hH
    subst hv
    exact ⟨_, n2, f2, .tup (.inl (.inl upd_same)) (.cons (.int _) (.cons ((h3.mono le).mono n2.le) .nil))⟩
  · refine ⟨vs, q, ?_⟩
    have := List.getElem?_eq_none_iff.mp hn
    unfold enumL at this
    rw [List.length_zipWith, List.length_range] at this
    rw [r.length]
    omega
def itEnum (f : DA) : DA := fun s => (f s).bind fun ds s1 => match ds with
  | [.lst xs] => .ok (enumL xs) s1
  | [.scr xs] => .ok (enumL xs) s1
  | _ => .stuck
theorem pdi_enum (hK : G.K = X.K) {e : Expr} {fa : DA} {p pos tpos : Pos} {elts : List Expr} {kk : Nat} (hg : Gl X "enumerate") (hm : X.mg "enumerate" = none) (ha : PDA G W X [e] fa) (hs : starEach [e] X.env = [(false, eval e X.env)] := by rfl) :
    PDI G W X (.Tuple elts kk tpos) (.Call (.Name "enumerate" p) [e] [] pos) (itEnum fa) :=
  (pi_enum hg hm ha hs).imp fun σ H R ⟨κ, w, s, ok, q⟩ => ⟨κ, w, s, ok, (PostG.bindI q).imp fun v H1 ⟨d, s1, w1, le, ok1, r1, q1⟩ => by
    match d, q1 with
    | [.lst xs], q1 =>
      obtain ⟨v, rfl, r⟩ := r1.one
      cases r with
      | @lst a vs ds e r =>
        have e' : SqL G.K w1.F a vs := .inl (.inl e)
        exact ⟨a, vs, rfl, hK ▸ SqL.le e' ok1.fok.sub, q1 w1 _ H1 (.refl _) ok1 (itOk_enum hK e' r)⟩
    | [.scr xs], q1 =>
      obtain ⟨v, rfl, r⟩ := r1.one
      cases r with
      | @scr a vs ds e r => exact ⟨a, vs, rfl, hK ▸ SqL.le e ok1.fok.sub, q1 w1 _ H1 (.refl _) ok1 (itOk_enum hK e r)⟩⟩
theorem zip_none {vs ws : List V} {ds es : List D} {w : Wd} {i : Nat} (r : Reps G w vs ds) (r' : Reps G w ws es) (hn : (zipL ds es)[i]? = none) : vs.length ≤ i ∨ ws.length ≤ i := by
  have := List.getElem?_eq_none_iff.mp hn
  unfold zipL at this
  rw [List.length_zipWith] at this
  rw [r.length, r'.length]
  omega
theorem itOk_zip (hK : G.K = X.K) {w : Wd} {a b : Addr} {vs ws : List V} {ds es : List D} (e : SqL G.K w.F a vs) (e' : SqL G.K w.F b ws) (r : Reps G w vs ds) (r' : Reps G w ws es) : ItOk G w (Itz X.K a b) (zipL ds es) := by
  intro w1 S H le fok i
  have q : SqL X.K H a vs := hK ▸ SqL.le (SqL.le e le.f) fok.sub
  have q' : SqL X.K H b ws := hK ▸ SqL.le (SqL.le e' le.f) fok.sub
  refine ⟨fun d hd => ?_, fun hn => ⟨vs, ws, q, q', zip_none r r' hn⟩⟩
  obtain ⟨x, y, h1, h1', rfl⟩ := zipL_get hd
  obtain ⟨x', h2, h3⟩ := r.get h1
  obtain ⟨y', h2', h3'⟩ := r'.get h1'
  refine ⟨⟨vs, ws, x', y', q, q', h2, h2'⟩, fun v H' ⟨T, x2, y2, hv, hT, hH, hx, hy⟩ => ?_⟩
  have := hx vs q
  rw [h2] at this
  cases this
  have := hy ws q'
  rw [h2'] at this
  cases this
  obtain ⟨f2, n2⟩ := fok.alloc hT (.tup [x', y'])
  subst hH
  subst hv
  exact ⟨_, n2, f2, .tup (.inl (.inl upd_same)) (.cons ((h3.mono le).mono n2.le) (.cons ((h3'.mono le).mono n2.le) .nil))⟩
theorem itOk_zipT (hK : G.K = X.K) {w : Wd} {a b : Addr} {vs ws : List V} {ds es : List D} (e : SqT G.K w.F a vs) (e' : SqT G.K w.F b ws) (r : Reps G w vs ds) (r' : Reps G w ws es) : ItOk G w (ItzT X.K a b) (zipL ds es) := by
  intro w1 S H le fok i
  have q : SqT X.K H a vs := hK ▸ SqT.le (SqT.le e le.f) fok.sub
  have q' : SqT X.K H b ws := hK ▸ SqT.le (SqT.le e' le.f) fok.sub
  refine ⟨fun d hd => ?_, fun hn => ⟨vs, ws, q, q', zip_none r r' hn⟩⟩
  obtain ⟨x, y, h1, h1', rfl⟩ := zipL_get hd
  obtain ⟨x', h2, h3⟩ := r.get h1
  obtain ⟨y', h2', h3'⟩ := r'.get h1'
  refine ⟨⟨vs, ws, x', y', q, q', h2, h2'⟩, fun v H' ⟨T, x2, y2, hv, hT, hH, hx, hy⟩ => ?_⟩
  have := hx vs q
  rw [h2] at this
  cases this
  have := hy ws q'
  rw [h2'] at this
  cases this
  obtain ⟨f2, n2⟩ := fok.alloc hT (.tup [x', y'])
  subst hH
  subst hv
  exact ⟨_, n2, f2, .tup (.inl (.inl upd_same)) (.cons ((h3.mono le).mono n2.le) (.cons ((h3'.mono le).mono n2.le) .nil))⟩
def itZip (f : DA) : DA := fun s => (f s).bind fun ds s1 => match ds with
  | [.lst xs, .lst ys] => .ok (zipL xs ys) s1
  | [.tup xs, .tup ys] => .ok (zipL xs ys) s1
  | _ => .stuck
theorem pdi_zip (hK : G.K = X.K) {e e2 : Expr} {fa : DA} {p pos tpos : Pos} {elts : List Expr} {kk : Nat} (hg : Gl X "zip") (hm : X.mg "zip" = none) (ha : PDA G W X [e, e2] fa)
    (hs : starEach [e, e2] X.env = (false, eval e X.env) :: starEach [e2] X.env := by rfl) (hpl : (backTo pos (starEach [e2] X.env)).any (·.1) = false := by rfl) :
    PDI G W X (.Tuple elts kk tpos) (.Call (.Name "zip" p) [e, e2] [] pos) (itZip fa) :=
  (pi_zipA hg hm ha hs hpl).imp fun σ H R ⟨κ, w, s, ok, q⟩ => ⟨κ, w, s, ok, (PostG.bindI q).imp fun v H1 ⟨d, s1, w1, le, ok1, r1, q1⟩ => by
    match d, q1 with
    | [.lst xs, .lst ys], q1 =>
      obtain ⟨v, v', rfl, r, r'⟩ := r1.two
      cases r with
      | @lst a vs ds e r =>
        cases r' with
        | @lst b ws es e' r' =>
          have e1 : SqL G.K w1.F a vs := .inl (.inl e)
          have e2 : SqL G.K w1.F b ws := .inl (.inl e')
          exact ⟨a, b, vs, ws, rfl, .inl ⟨hK ▸ SqL.le e1 ok1.fok.sub, hK ▸ SqL.le e2 ok1.fok.sub, q1 w1 _ H1 (.refl _) ok1 (itOk_zip hK e1 e2 r r')⟩⟩
    | [.tup xs, .tup ys], q1 =>
      obtain ⟨v, v', rfl, r, r'⟩ := r1.two
      cases r with
      | @tup a vs ds e r =>
        cases r' with
        | @tup b ws es e' r' =>
          exact ⟨a, b, vs, ws, rfl, .inr ⟨hK ▸ SqT.le e ok1.fok.sub, hK ▸ SqT.le e' ok1.fok.sub, q1 w1 _ H1 (.refl _) ok1 (itOk_zipT hK e e' r r')⟩⟩⟩
/-! ### x.append(e) of an own list; x += e -/
/-- the list at an own slot -/
theorem own_list {κ : Bs} {w : Wd} {s : DS} {σ : L2.St} {H : Hp} {i : Nat} {xs : List D} (ok : Ok G κ w s σ H) (e : s.sl[i]? = some (.ol xs)) : ∃ a vs, σ[i]? = some (some (.ref a)) ∧ H a = some (.lst vs) ∧ Reps G w vs xs := by
  obtain ⟨a, h1, ⟨vs, h2, h3⟩, _⟩ := ok.own i _ e rfl
  exact ⟨a, vs, h1, h2, h3⟩
def sApp (i : Nat) (fa : DA) : DStm := fun s => match s.sl[i]? with
  | some (.ol _) => (fa s).bind fun ds s1 => match ds, s1.sl[i]? with
    | [d], some (.ol xs) => if xs.length < 1000000 then .ok .nx ⟨s1.sl.set i (.ol (xs ++ [d])), s1.st⟩ else .stuck
    | _, _ => .stuck
  | _ => .stuck
theorem app_of {i : Nat} {fa : DA} {N : Ends} {σ : L2.St} {H : Hp} (h : tDS G W (sApp i fa) N σ H) : tDrop (tBM X.K "list" rAppend (tVar i) (tDA G W fa)) N σ H := by
  obtain ⟨κ, w, s, ok, q⟩ := h
  unfold sApp at q
  cases e : s.sl[i]? with
  | none => rw [e] at q; exact q.elim
  | some y =>
    rw [e] at q
    cases y with
    | ol xs0 =>
      obtain ⟨a, vs, h1, h2, h3⟩ := own_list ok e
      refine ⟨.ref a, h1, .inl ⟨rfl, vs, .inl (.inl h2)⟩, κ, w, s, ok, (PostG.bindS q).imp fun v H1 ⟨d, s1, w1, le, ok1, r1, q1⟩ => ?_⟩
      match d, q1 with
      | [d], q1 =>
        cases e1 : s1.sl[i]? with
        | none => rw [e1] at q1; exact q1.elim
        | some z =>
          rw [e1] at q1
          cases z with
          | ol xs =>
            replace q1 : PostS G W κ w1 (if xs.length < 1000000 then .ok .nx ⟨s1.sl.set i (.ol (xs ++ [d])), s1.st⟩ else .stuck) N := q1
            split at q1
            · rename_i c
              obtain ⟨a', vs', g1, g2, g3⟩ := own_list ok1 e1
              rw [h1] at g1
              cases g1
              obtain ⟨y, rfl, ry⟩ := r1.one
              refine ⟨a, vs', y, rfl, rfl, g2, by rw [g3.length, sizeLine_eq]; omega, ?_⟩
              exact q1 w1 σ _ (.refl _) (ok1.mut e1 rfl rfl h1 ⟨_, upd_same, g3.append (.cons ry .nil)⟩ fun _ _ z => nomatch z)
            · exact q1.elim
          | _ => exact q1.elim
      | [], q1 => cases e1 : s1.sl[i]? <;> exact q1.elim
      | _ :: _ :: _, q1 => cases e1 : s1.sl[i]? <;> exact q1.elim
    | _ => exact q.elim
theorem pds_append {i : Nat} {x : Str} {p apos cpos pos : Pos} {e : Expr} {fa : DA} (ho : PE X (.Name x p) (tVar i)) (ha : PDA G W X [e] fa)
    (hbase : attributeBase (.Name x p) "append" X.env (eval (.Name x p) X.env) = eval (.Name x p) X.env := by rfl)
    (hfew : ((backTo cpos (starEach [e] X.env)).all (fun x => !x.1) && (backToKw cpos (keywordEach [] X.env)).all (fun x => x.1.isSome)
      && decide ([e].length + ([] : List Keyword).length + (if ([] : List Keyword).isEmpty then 0 else 1) < 30)) = true := by rfl)
    (hline : (apos.endLine == cpos.line) = true := by rfl) (hs : starEach [e] X.env = (false, eval e X.env) :: starEach [] X.env := by rfl) (hplain : (backTo cpos (starEach [] X.env)).any (·.1) = false := by rfl)
    (hsw : swapsWith (.Call (.Attribute (.Name x p) "append" apos) [e] [] cpos) none pos.line X.env = pure false := by rfl) : PDS G W X (.Expr (.Call (.Attribute (.Name x p) "append" apos) [e] [] cpos) pos) (sApp i fa) :=
  (ps_expr (pe_bm PySem.F.plainAttrs_list PySem.F.slot_list_append PySem.F.type_list_append mt_append ho ha hbase hfew hline hs hplain) hsw).imp fun N σ H q => app_of q
/-- x += e of ints -/
def sAug (i : Nat) (o : Int → Int → Int) (f : DE) : DStm := fun s => match s.sl[i]? with
  | some (.val (.int a)) => (f s).bind fun d s1 => match d with
    | .int b => .ok .nx ⟨s1.sl.set i (.val (.int (o a b))), s1.st⟩
    | _ => .stuck
  | _ => .stuck
theorem pds_aug {i : Nat} {x : Str} {e : Expr} {f : DE} {op : Operator} {o : Int → Int → Int} {pos pos' : Pos} (hN : X.N.Nodup) (hi : X.N[i]? = some x) (hx : Loc X.env.scope x) (he : PD G W X e f) (ho : PIp X op (ipI o))
    (hf : X.fn x = true ∨ X.env.scope.names.lookup x = some .local := by first | exact .inl rfl | exact .inr rfl | assumption) : PDS G W X (.AugAssign (.Name x pos') op e pos) (sAug i o f) :=
  (ps_aug hN hi hx he ho hf).imp fun N σ H ⟨κ, w, s, ok, q⟩ => by
    unfold sAug at q
    cases e : s.sl[i]? with
    | none => rw [e] at q; exact q.elim
    | some y =>
      rw [e] at q
      cases y with
      | val d =>
        cases d with
        | int a =>
          obtain ⟨v, h1, h2⟩ := ok.val i _ e
          cases h2
          refine ⟨.int a, h1, κ, w, s, ok, (PostG.bindS q).imp fun v H1 ⟨d, s1, w1, le, ok1, r1, q1⟩ => ?_⟩
          cases r1 with
          | int b => exact ⟨a, b, rfl, rfl, q1 w1 _ H1 (.refl _) (ok1.setVal (.int _) i)⟩
          | _ => exact q1.elim
        | _ => exact q.elim
      | _ => exact q.elim
/-- a < b < c -/
def eChain (o o' : D → D → Option D) (fa fb fc : DE) : DE := fun s => (fa s).bind fun x s1 => (fb s1).bind fun y s2 => match o x y with
  | some (.bl true) => (fc s2).bind fun z s3 => match o' y z with
    | some d => .ok d s3
    | none => .stuck
  | some (.bl false) => .ok (.bl false) s2
  | _ => .stuck
theorem op2b {r : R2} {o : D → D → Option D} (hr : ∀ (κ : Bs) (w : Wd) (s : DS) (σ : L2.St) (H : Hp) (x y : V) (dx dy d : D) (Q : VK), Ok G κ w s σ H → Rep G w x dx → Rep G w y dy → o dx dy = some d → (∀ w' v H', w.le w' → Ok G κ w' s σ H' → Rep G w' v d → Q v H') → r x y H Q) :
    ∀ (κ : Bs) (w : Wd) (s : DS) (σ : L2.St) (H : Hp) (x y : V) (dx dy d : D) (Q : VK), Ok G κ w s σ H → Rep G w x dx → Rep G w y dy → o dx dy = some d → (∀ w' v H', w.le w' → Ok G κ w' s σ H' → Rep G w' v d → Q v H') → r x y H Q := hr
theorem pd_chain {op op' : CmpOp} {o o' : D → D → Option D} {a b c : Expr} {fa fb fc : DE} {pos : Pos} (ho : OpD G X (compareOp op) o) (ho' : OpD G X (compareOp op') o') (ha : PD G W X a fa) (hb : PD G W X b fb) (hc : PD G W X c fc)
    (hp : ∀ {r r' : R2} {ta tb tc : TE}, OpR X (compareOp op) r → OpR X (compareOp op') r' → PE X a ta → PE X b tb → PE X c tc → PE X (.Compare a [op, op'] [b, c] pos) (tChain r r' ta tb tc)) : PD G W X (.Compare a [op, op'] [b, c] pos) (eChain o o' fa fb fc) := by
  obtain ⟨r, h1, h2⟩ := ho
  obtain ⟨r', h1', h2'⟩ := ho'
  refine (hp h1 h1' ha hb hc).imp fun σ H Q ⟨κ, w, s, ok, q⟩ => ⟨κ, w, s, ok, (PostG.bind q).imp fun v H1 ⟨d, s1, w1, le, ok1, r1, q1⟩ => ⟨κ, w1, s1, ok1, (PostG.bind q1).imp fun v2 H2 ⟨d2, s2, w2, le2, ok2, r2, q2⟩ => ?_⟩⟩
  cases e : o d d2 with
  | none => rw [e] at q2; exact q2.elim
  | some z =>
    rw [e] at q2
    refine h2 κ w2 s2 σ H2 v v2 d d2 z _ ok2 (r1.mono le2) r2 e fun w3 v3 H3 l3 o3 r3 => ?_
    cases r3 with
    | bl k =>
      refine ⟨k, rfl, ?_⟩
      cases k with
      | false => exact q2 w3 _ H3 l3 o3 (.bl false)
      | true =>
        refine ⟨κ, w3, s2, o3, (PostG.bind (PostG.mono l3 q2)).imp fun v4 H4 ⟨d4, s4, w4, le4, ok4, r4, q4⟩ => ?_⟩
        cases e' : o' d2 d4 with
        | none => rw [e'] at q4; exact q4.elim
        | some z' => rw [e'] at q4; exact h2' κ w4 s4 σ H4 v2 v4 d2 d4 z' Q ok4 ((r2.mono l3).mono le4) r4 e' q4
    | _ => exact q2.elim
end
end DL
set_option maxRecDepth 100000
set_option maxHeartbeats 4000000
set_option autoImplicit false
namespace DL
open PySem PySem.Spec PyProof.Rows L2
section
variable {G : Gam} {W : WX} {X : Cx}
/-! ### a for over a list, a tuple, a text -/
theorem pi_any {tg l : Expr} {tl : TE} (hl : PE X l tl) : PI X tg l (fun σ H R => tl σ H fun x H1 => (∃ a, x = .ref a ∧ (∃ xs, SqL X.K H1 a xs) ∧ R (Itl X.K a) H1) ∨ (∃ a, x = .ref a ∧ (∃ xs, SqT X.K H1 a xs) ∧ R (Itt X.K a) H1) ∨ ∃ y, x = .str y ∧ R (Its y) H1) := by
  refine ⟨fun pins s σ H R I h => ?_⟩
  refine thn (hl.run pins s σ H _ I h) fun v s1 ⟨x, H1, I1, r1, q1⟩ => ?_
  rcases q1 with ⟨a, e, ⟨xs, hq⟩, q⟩ | ⟨a, e, ⟨xs, hq⟩, q⟩ | ⟨y, e, q⟩
  · subst e
    cases r1
    obtain ⟨its, rv, p, hz⟩ := I1.list hq
    refine wpAny_pyIter_list p.isList ?_
    refine ⟨s1.heap.objs.size, [s1.heap.objs.size], _, _, H1, rfl, I1.kept (t' := s1.toks) fun b o e => Heap.get?_push_of_some _ e, turn_list a _, ⟨_, Heap.get?_push_size _ rfl, rfl, rfl⟩, fun b hb => ?_, q⟩
    have e : b = s1.heap.objs.size := by simpa using hb
    subst e
    exact I1.fpOk (Nat.le_refl _) (I1.hok.fresh (Nat.le_refl _))
  · subst e
    cases r1
    obtain ⟨its, rv, p, hz⟩ := I1.tuple hq
    refine wpAny_pyIter_tuple (show s1.heap.IsTuple a its.toArray from p) ?_
    refine ⟨s1.heap.objs.size, [s1.heap.objs.size], _, _, H1, rfl, I1.kept (t' := s1.toks) fun b o e => Heap.get?_push_of_some _ e, turn_tuple a _, ⟨_, Heap.get?_push_size _ rfl, rfl, rfl⟩, fun b hb => ?_, q⟩
    have e : b = s1.heap.objs.size := by simpa using hb
    subst e
    exact I1.fpOk (Nat.le_refl _) (I1.hok.fresh (Nat.le_refl _))
  · subst e
    obtain ⟨t, rfl⟩ := r1
    cases ha : y.cps.all (· < 128)
    · exact wpAny_pyIter_wide ha (pi_one (tk := s1.toks) I1 _ (turn_str _ y t "str_iterator" (.inr rfl)) ⟨_, Heap.get?_push_size _ rfl, rfl, rfl⟩ q)
    · exact wpAny_pyIter_ascii ha (pi_one (tk := s1.toks) I1 _ (turn_str _ y t "str_ascii_iterator" (.inl rfl)) ⟨_, Heap.get?_push_size _ rfl, rfl, rfl⟩ q)
theorem itOk_str {w : Wd} (l : Nm) : ItOk G w (Its (nm l)) (l.map fun c => D.str [c]) := by
  intro w1 S H le fok i
  refine ⟨fun d hd => ?_, fun hn => ?_⟩
  · rw [List.getElem?_map] at hd
    cases e : l[i]? with
    | none => rw [e] at hd; cases hd
    | some c =>
      rw [e] at hd
      cases hd
      have hc : (nm l).cps[i]? = some c := by simpa [nm] using e
      refine ⟨?_, fun x H' hy => ?_⟩
      · show i < (nm l).cps.size
        exact (Array.getElem?_eq_some_iff.mp hc).1
      · obtain ⟨hH, c', hc', hx⟩ := hy
        rw [hc] at hc'
        cases hc'
        subst hH
        subst hx
        exact ⟨w1, .refl _ _, fok, .str [c]⟩
  · show (nm l).cps.size ≤ i
    rw [List.getElem?_map] at hn
    cases e : l[i]? with
    | some c => rw [e] at hn; cases hn
    | none =>
      have := List.getElem?_eq_none_iff.mp e
      simpa [nm] using this
def itemsD (d : D) : Option (List D) := match d with
  | .lst xs => some xs
  | .scr xs => some xs
  | .tup xs => some xs
  | .str l => some (l.map fun c => .str [c])
  | _ => none
def itSeq (f : DE) : DA := fun s => (f s).bind fun d s1 => match itemsD d with
  | some xs => .ok xs s1
  | none => .stuck
theorem pdi_seq (hK : G.K = X.K) {tg e : Expr} {f : DE} (h : PD G W X e f) : PDI G W X tg e (itSeq f) :=
  (pi_any h).imp fun σ H R ⟨κ, w, s, ok, q⟩ => ⟨κ, w, s, ok, (PostG.bindI q).imp fun v H1 ⟨d, s1, w1, le, ok1, r1, q1⟩ => by
    cases r1 with
    | @lst a vs ds e r =>
      have e' : SqL G.K w1.F a vs := .inl (.inl e)
      exact .inl ⟨a, rfl, ⟨vs, hK ▸ SqL.le e' ok1.fok.sub⟩, q1 w1 _ H1 (.refl _) ok1 (itOk_list hK e' (fun _ _ _ _ _ => trivial) r fun _ _ => trivial)⟩
    | @scr a vs ds e r =>
      exact .inl ⟨a, rfl, ⟨vs, hK ▸ SqL.le e ok1.fok.sub⟩, q1 w1 _ H1 (.refl _) ok1 (itOk_list hK e (fun _ _ _ _ _ => trivial) r fun _ _ => trivial)⟩
    | @tup a vs ds e r => exact .inr (.inl ⟨a, rfl, ⟨vs, hK ▸ SqT.le e ok1.fok.sub⟩, q1 w1 _ H1 (.refl _) ok1 (itOk_tup hK e r)⟩)
    | str l => exact .inr (.inr ⟨nm l, rfl, q1 w1 _ H1 (.refl _) ok1 (itOk_str l)⟩)
    | _ => exact q1.elim⟩
/-! ### + and * in all -/
def lAdd : D → D → Option D := fun x y => match x, y with
  | .lst a, .lst b => if a.length + b.length ≤ 1000000 then some (.lst (a ++ b)) else none
  | _, _ => none
theorem opd_ladd : OpD G X (binaryOp .Add) lAdd := ⟨_, op_cat, fun κ w s σ H x y dx dy d Q ok rx ry e q => by
  cases rx with
  | @lst a vs ds e1 r1 =>
    cases ry with
    | @lst a2 vs2 ds2 e2 r2 =>
      have e : (if ds.length + ds2.length ≤ 1000000 then some (D.lst (ds ++ ds2)) else none) = some d := e
      split at e
      · cases e
        refine ⟨a, a2, vs, vs2, rfl, rfl, ok.fok.sub _ _ e1, ok.fok.sub _ _ e2, by rw [r1.length, r2.length, sizeLine_eq]; omega, fun p hp => ?_⟩
        obtain ⟨le2, ok2⟩ := ok.alloc hp (.lst (vs ++ vs2))
        exact q _ _ _ le2 ok2 (.lst upd_same ((r1.append r2).mono le2))
      · cases e
    | _ => exact nomatch e
  | _ => exact nomatch e⟩
def lMul : D → D → Option D := fun x y => match x, y with
  | .lst a, .int k => if -(2 ^ 63) ≤ k ∧ k < 2 ^ 63 ∧ a.length * k.toNat ≤ 1000000 then some (.lst (List.replicate k.toNat a).flatten) else none
  | _, _ => none
theorem opd_lmul : OpD G X (binaryOp .Mult) lMul := ⟨_, op_rep, fun κ w s σ H x y dx dy d Q ok rx ry e q => by
  cases rx with
  | @lst a vs ds e1 r1 =>
    cases ry with
    | int k =>
      have e : (if -(2 ^ 63) ≤ k ∧ k < 2 ^ 63 ∧ ds.length * k.toNat ≤ 1000000 then some (D.lst (List.replicate k.toNat ds).flatten) else none) = some d := e
      split at e
      · rename_i c
        cases e
        refine ⟨a, k, vs, rfl, rfl, ok.fok.sub _ _ e1, c.1, c.2.1, by rw [r1.length, sizeLine_eq]; omega, fun p hp => ?_⟩
        obtain ⟨le2, ok2⟩ := ok.alloc hp (.lst (List.replicate k.toNat vs).flatten)
        exact q _ _ _ le2 ok2 (.lst upd_same ((r1.rep _).mono le2))
      · cases e
    | _ => exact nomatch e
  | _ => exact nomatch e⟩
theorem OpD.or {f : Value → Value → Sem Value} {o o' : D → D → Option D} (h : OpD G X f o) (h' : OpD G X f o') : OpD G X f (fun x y => (o x y).orElse fun _ => o' x y) := by
  obtain ⟨r, h1, h2⟩ := h
  obtain ⟨r', h1', h2'⟩ := h'
  refine ⟨_, h1.or h1', fun κ w s σ H x y dx dy d Q ok rx ry e q => ?_⟩
  have e : ((o dx dy).orElse fun _ => o' dx dy) = some d := e
  cases e1 : o dx dy with
  | some z => rw [e1] at e; cases e; exact .inl (h2 κ w s σ H x y dx dy _ Q ok rx ry e1 q)
  | none => rw [e1] at e; exact .inr (h2' κ w s σ H x y dx dy d Q ok rx ry e q)
def dAdd : D → D → Option D := fun x y => match x, y with
  | .int i, .int j => some (.int (i + j))
  | x, y => (sAdd x y).orElse fun _ => lAdd x y
theorem OpD.congr {f : Value → Value → Sem Value} {o o' : D → D → Option D} (h : OpD G X f o) (e : ∀ x y, o' x y = o x y) : OpD G X f o' := by
  have : o' = o := by funext x y; exact e x y
  rw [this]; exact h
theorem opd_addA (hK : G.K = X.K) : OpD G X (binaryOp .Add) dAdd := (opd_add.or ((opd_sadd hK).or opd_ladd)).congr fun x y => by
  cases x <;> cases y <;> rfl
def dMul : D → D → Option D := fun x y => match x, y with
  | .int i, .int j => if mulOk i j then some (.int (i * j)) else none
  | x, y => lMul x y
theorem opd_mulA : OpD G X (binaryOp .Mult) dMul := (opd_mul.or opd_lmul).congr fun x y => by
  cases x <;> cases y <;> first
    | rfl
    | (rename_i i j
       show (if mulOk i j then some (D.int (i * j)) else none) = ((if mulOk i j then some (D.int (i * j)) else none).orElse fun _ => lMul (.int i) (.int j))
       split <;> rfl)
/-! ### a, b, c = x, y, z -/
def sPar3 (i j l : Nat) (f : DA) : DStm := fun s => (f s).bind fun ds s1 => match ds with
  | [x, y, z] => .ok .nx ⟨((s1.sl.set i (.val x)).set j (.val y)).set l (.val z), s1.st⟩
  | _ => .stuck
theorem pds_par3 {i j l : Nat} {x y z : Str} {a b c : Expr} {f : DA} {px py pz pt pos : Pos} {kt k2 : Nat} {pt2 : Pos} (hc : X.calm = true) (hN : X.N.Nodup) (hi : X.N[i]? = some x) (hj : X.N[j]? = some y) (hl : X.N[l]? = some z) (hij : i ≠ j) (hil : i ≠ l) (hjl : j ≠ l)
    (hx : X.env.scope.names.lookup x = some .local) (hy : X.env.scope.names.lookup y = some .local) (hz : X.env.scope.names.lookup z = some .local) (ha : PDA G W X [a, b, c] f)
    (hw : swappedStores [.Tuple [.Name x px, .Name y py, .Name z pz] kt pt] (.Tuple [a, b, c] k2 pt2) X.env = pure (some [x, y, z]))
    (hs : swapsWithSole [.Tuple [.Name x px, .Name y py, .Name z pz] kt pt] (.Tuple [a, b, c] k2 pt2) pos.line X.env = pure false := by rfl) :
    PDS G W X (.Assign [.Tuple [.Name x px, .Name y py, .Name z pz] kt pt] (.Tuple [a, b, c] k2 pt2) pos) (sPar3 i j l f) :=
  (ps_par3 hc hN hi hj hl hij hil hjl hx hy hz ha hw hs).imp fun N σ H ⟨κ, w, s, ok, q⟩ => ⟨κ, w, s, ok, (PostG.bindS q).imp fun v H1 ⟨d, s1, w1, le, ok1, r1, q1⟩ => by
    match d, q1, r1 with
    | [x, y, z], q1, .cons a (.cons b (.cons c .nil)) => exact ⟨_, _, _, rfl, q1 w1 _ H1 (.refl _) (((ok1.setVal a i).setVal b j).setVal c l)⟩
    | [], q1, _ => exact q1.elim
    | [_], q1, _ => exact q1.elim
    | [_, _], q1, _ => exact q1.elim
    | _ :: _ :: _ :: _ :: _, q1, _ => exact q1.elim⟩
/-! ### types as values -/
theorem pd_bltn {x : Str} {n : String} {pos : Pos} (hg : Gl X x) (hm : X.mg x = none) (hv : bootBuiltins x = some (.type n)) (hn : x ≠ "__name__" := by decide) (hd : (x == ("__debug__" : Str)) = false := by decide) : PD G W X (.Name x pos) (eC (.ty n)) :=
  pd_c (pe_bltn (v := .ty n) hg hm hv rfl hn hd) fun _ => .ty n
theorem pd_cls {x : Str} {c : String} {C : Addr} {pos : Pos} (hg : Gl X x) (hm : X.mg x = some (.ref C)) (hC : G.ct c = some C) (hd : (x == ("__debug__" : Str)) = false := by decide) : PD G W X (.Name x pos) (eC (.cls c)) :=
  pd_c (pe_glob (v := .ref C) hg hm rfl hd) fun _ => .cls hC
/-! ### slices of tuples and texts, xs[::-1] -/
def eSlT (f : DE) (l h : DOp) : DE := fun s => (f s).bind fun d s1 => (l s1).bind fun lo s2 => (h s2).bind fun hi s3 => match d with
  | .tup xs => if (cutD xs lo hi).length ≠ xs.length then .ok (.tup (cutD xs lo hi)) s3 else .stuck
  | _ => .stuck
theorem cut_len {w : Wd} {vs : List V} {ds : List D} (r : Reps G w vs ds) (lo hi : Option Int) : (cutV vs lo hi).length = (cutD ds lo hi).length := (r.cut lo hi).length
theorem pd_slT (hK : G.K = X.K) {e : Expr} {lo hi : Option Expr} {f : DE} {l h : DOp} {p2 pos : Pos} (he : PD G W X e f) (hl : PO X lo (tDO G W l)) (hh : PO X hi (tDO G W h)) : PD G W X (.Subscript e (.Slice lo hi none p2) pos) (eSlT f l h) :=
  (pe_slice sl_tup he hl hh).imp fun σ H Q ⟨κ, w, s, ok, q⟩ => ⟨κ, w, s, ok, (PostG.bind q).imp fun v H1 ⟨d, s1, w1, le, ok1, r1, q1⟩ => ⟨κ, w1, s1, ok1, (PostG.bind q1).imp fun v2 H2 ⟨d2, s2, w2, le2, ok2, r2, q2⟩ =>
    ⟨κ, w2, s2, ok2, (PostG.bind q2).imp fun v3 H3 ⟨d3, s3, w3, le3, ok3, r3, q3⟩ => by
      subst r2
      subst r3
      cases r1 with
      | @tup a vs ds e r =>
        replace q3 : PostG G W (Rep G) κ w3 σ (if (cutD ds v2 v3).length ≠ ds.length then .ok (.tup (cutD ds v2 v3)) s3 else .stuck) Q := q3
        split at q3
        · rename_i c
          have rr := (r.mono le2).mono le3
          refine ⟨a, vs, rfl, hK ▸ SqT.le (SqT.le (SqT.le e le2.f) le3.f) ok3.fok.sub, ?_, fun p hp => ?_⟩
          · intro z
            apply c
            rw [← cut_len rr, ← rr.length]
            unfold cutV
            rw [z.1, z.2]
            simp
          · obtain ⟨le4, ok4⟩ := ok3.alloc hp (.tup (cutV vs v2 v3))
            exact q3 _ _ _ le4 ok4 (.tup (.inl (.inl upd_same)) ((rr.cut v2 v3).mono le4))
        · exact q3.elim
      | _ => exact q3.elim⟩⟩⟩
/-- a slice of a list or of a tuple -/
def slD (d : D) (lo hi : Option Int) : Option D := match d with
  | .lst xs => some (.lst (cutD xs lo hi))
  | .scr xs => some (.lst (cutD xs lo hi))
  | .tup xs => if (cutD xs lo hi).length ≠ xs.length then some (.tup (cutD xs lo hi)) else none
  | _ => none
def eSlA (f : DE) (l h : DOp) : DE := fun s => (f s).bind fun d s1 => (l s1).bind fun lo s2 => (h s2).bind fun hi s3 => match slD d lo hi with
  | some x => .ok x s3
  | none => .stuck
theorem pd_slA (hK : G.K = X.K) {e : Expr} {lo hi : Option Expr} {f : DE} {l h : DOp} {p2 pos : Pos} (he : PD G W X e f) (hl : PO X lo (tDO G W l)) (hh : PO X hi (tDO G W h)) : PD G W X (.Subscript e (.Slice lo hi none p2) pos) (eSlA f l h) :=
  (pe_slice (sl_list.or sl_tup) he hl hh).imp fun σ H Q ⟨κ, w, s, ok, q⟩ => ⟨κ, w, s, ok, (PostG.bind q).imp fun v H1 ⟨d, s1, w1, le, ok1, r1, q1⟩ => ⟨κ, w1, s1, ok1, (PostG.bind q1).imp fun v2 H2 ⟨d2, s2, w2, le2, ok2, r2, q2⟩ =>
    ⟨κ, w2, s2, ok2, (PostG.bind q2).imp fun v3 H3 ⟨d3, s3, w3, le3, ok3, r3, q3⟩ => by
      subst r2
      subst r3
      cases r1 with
      | @lst a vs ds e r =>
        have e := le3.f _ _ (le2.f _ _ e)
        refine .inl ⟨a, vs, rfl, .inl (.inl (ok3.fok.sub _ _ e)), fun p hp => ?_⟩
        obtain ⟨le4, ok4⟩ := ok3.alloc hp (.lst (cutV vs v2 v3))
        exact q3 _ _ _ le4 ok4 (.lst upd_same ((((r.mono le2).mono le3).cut v2 v3).mono le4))
      | @scr a vs ds e r =>
        refine .inl ⟨a, vs, rfl, hK ▸ SqL.le (SqL.le (SqL.le e le2.f) le3.f) ok3.fok.sub, fun p hp => ?_⟩
        obtain ⟨le4, ok4⟩ := ok3.alloc hp (.lst (cutV vs v2 v3))
        exact q3 _ _ _ le4 ok4 (.lst upd_same ((((r.mono le2).mono le3).cut v2 v3).mono le4))
      | @tup a vs ds e r =>
        right
        have rr := (r.mono le2).mono le3
        cases e4 : slD (.tup ds) v2 v3 with
        | none => rw [e4] at q3; exact q3.elim
        | some x =>
          rw [e4] at q3
          have e4 : (if (cutD ds v2 v3).length ≠ ds.length then some (D.tup (cutD ds v2 v3)) else none) = some x := e4
          split at e4
          · rename_i c
            cases e4
            refine ⟨a, vs, rfl, hK ▸ SqT.le (SqT.le (SqT.le e le2.f) le3.f) ok3.fok.sub, ?_, fun p hp => ?_⟩
            · intro z
              apply c
              rw [← cut_len rr, ← rr.length]
              unfold cutV
              rw [z.1, z.2]
              simp
            · obtain ⟨le4, ok4⟩ := ok3.alloc hp (.tup (cutV vs v2 v3))
              exact q3 _ _ _ le4 ok4 (.tup (.inl (.inl upd_same)) ((rr.cut v2 v3).mono le4))
          · cases e4
      | _ => exact q3.elim⟩⟩⟩
/-- xs[::-1] of a list: a new list -/
def aRev (f : DE) : DA := fun s => (f s).bind fun d s1 => match d with
  | .lst xs => .ok xs.reverse s1
  | .scr xs => .ok xs.reverse s1
  | _ => .stuck
theorem Reps.reverse {w : Wd} : ∀ {vs : List V} {ds : List D}, Reps G w vs ds → Reps G w vs.reverse ds.reverse
  | _, _, .nil => .nil
  | _, _, .cons a b => by
    rw [List.reverse_cons, List.reverse_cons]
    exact (Reps.reverse b).append (.cons a .nil)
theorem pdo_rev (hK : G.K = X.K) {e : Expr} {f : DE} {k : Nat} {p1 p2 p3 pos : Pos} (he : PD G W X e f) : PDo G W X (.Subscript e (.Slice none none (some (.UnaryOp .USub (.Constant (.int 1) k p1) p2)) p3) pos) (aRev f) :=
  (pe_revL he).imp fun σ H Q ⟨κ, w, s, ok, q⟩ => ⟨κ, w, s, ok, (PostG.bindO q).imp fun v H1 ⟨d, s1, w1, le, ok1, r1, q1⟩ => by
    cases r1 with
    | @lst a vs ds e r => exact ⟨a, vs, rfl, .inl (.inl (ok1.fok.sub _ _ e)), fun p hp => q1 w1 p _ _ (.refl _) (ok1.fresh hp _) (ok1.apart hp) r.reverse⟩
    | @scr a vs ds e r => exact ⟨a, vs, rfl, hK ▸ SqL.le e ok1.fok.sub, fun p hp => q1 w1 p _ _ (.refl _) (ok1.fresh hp _) (ok1.apart hp) r.reverse⟩
    | _ => exact q1.elim⟩
/-! ### the law's end -/
def spLaw (K : PySem.W.Frag) : Sp := fun vs H Q _ => ∃ (a : Addr) (ns : List Int), vs = [.ref a] ∧ SqL K H a (ns.map V.int) ∧ ns.length ≤ 63 ∧ ∀ H', Q (.bl true) H'
theorem law_end {P : Program} {w0 : World} {mg : Str → Option Value} {base : Heap} {k : Nat} {f : Addr} {fd : FuncData} {ps : List Str} {g : DFn} (F : FnOk P w0 G.K mg base (L2.CX P w0) k f fd ps (spG G 1 g))
    (h : ∀ ns : List Int, ns.length ≤ 63 → ∃ S, g [.scr (ns.map D.int)] [] = .ok (.bl true) S) : FnOk P w0 G.K mg base (L2.CX P w0) k f fd ps (spLaw G.K) :=
  F.imp fun vs H Q E ⟨a, ns, e, hS, hl, q⟩ => by
    obtain ⟨S, hg⟩ := h ns hl
    subst e
    refine ⟨rfl, ⟨H, []⟩, [], [.scr (ns.map D.int)], ⟨fun _ _ e => e, rfl, fun n a c e => by simp at e, List.nodup_nil, fun a ha => by simp at ha⟩, .cons (.scr hS (Reps.of_ints ns)) .nil, ?_⟩
    rw [hg]
    intro w' v H' nx f r
    cases r
    exact q H'
theorem noCX {P : Program} {w : World} : ∀ (H : Hp) (s : Shared) (e : Value) (s' : Shared), L2.CX P w [] H s (fun _ _ _ => False) e s' → False := fun H s e s' h => by
  obtain ⟨_, _, _, _, _, _, _, _, _, _, _, _, z⟩ := h
  exact z
end
end DL
set_option maxRecDepth 100000
set_option maxHeartbeats 4000000
set_option autoImplicit false
namespace DL
open PySem PySem.Spec PyProof.Rows L2
section
variable {G : Gam} {W : WX} {X : Cx}
theorem callD1 {k : Nat} {f : Addr} {fd : FuncData} {ps : List Str} {n : Nat} {g : DFn} {pins : List (Addr × Obj)} {sh : Shared} {κ : Bs} {w : Wd} {s : DS} {σ : L2.St} {H : Hp} {vs : List V} {ds : List D} {us : List Value} {Q : VK}
    (F : FnOk X.prog X.w X.K X.mg X.base (L2.CX X.prog X.w) k f fd ps (spG G n g)) (hr : Room (k + 1) X.A) (hb : Binds X.K fd ps []) (tk : Takes X W) (I : Inv X pins σ H sh) (ok : Ok G κ w s σ H) (rs : Reps G w vs ds) (r : Vals vs us) (hn : ds.length = n)
    (q : PostG G W (Rep G) κ w σ (lift s (g ds s.st)) Q) : wpAny (model X.prog X.w) X.A.in1 (call (.ref f) us) (EP X pins σ Q) X.xe sh := by
  have h : spG G n g vs H Q (WE W σ) := ⟨by rw [rs.length]; exact hn, w, s.st, ds, ok.fok, rs, postF_of ok q⟩
  have hl : us.length = ps.length := by rw [← r.length]; exact F.len _ _ _ _ h
  have hbb := hb sh us I.kIn (by rw [List.append_nil]; exact hl)
  rw [List.append_nil] at hbb
  refine wpAny_call (codeAny_mono (F.run X.A.in1 X.stack sh H ⟨us, []⟩ us vs Q (WE W σ) hr.in1 I.env0.in1 hbb r h) fun r s' hq => ?_)
  cases r with
  | error e => exact passAt tk σ pins H sh e s' I hq
  | ok fl =>
    cases fl with
    | ret u => exact I.after hq
    | next => exact False.elim hq
    | brk => exact False.elim hq
    | cont => exact False.elim hq
/-- a built-in special method of an instance of an own class -/
theorem ifBound_B {M : Model} {A : Around} {E : Value → Shared → Prop} {s : Shared} {K : PySem.W.Frag} {x C : Addr} {ox : Obj} {od : Option Obj} {name : Str} {id : String} {args : List Value} {Q : Option Value → Shared → Prop} (Xk : K.In s.heap) (I : PySem.W.InstAt s.heap x ox C od)
    (hs : PySem.W.findIn K (.ref C) name = some (some (.builtin id))) (hb : ∀ self, bindSpecial (.builtin id) self = pure (.builtin id, [self]))
    (h : wpAny M A (call (.builtin id) (.ref x :: args)) (fun v => Q (some v)) E s) : wpAny M A (callSpecialIfBound? (.ref x) name args) Q E s := by
  simp only [callSpecialIfBound?, bindSpecialIfBound?]
  refine wpAny_holding (wpAny_bind (wpAny_bind (wpAny_bind (I.type.here ((PySem.W.looks_findIn Xk hs).here ?_)))))
  refine wpAny_bind (wpAny_askSetting (wpAny_ite ?_))
  have fin : wpAny M A (call (.builtin id) ([.ref x] ++ args) >>= fun v => pure (some v)) Q E s := wpAny_bind (wpAny_mono h (fun v s' h' => wpAny_pure h') fun _ _ h' => h')
  simp only [hb]
  split
  · exact wpAny_bind (wpAny_pure (wpAny_pure (by exact fin)))
  · exact wpAny_tryCatch (wpAny_bind (wpAny_pure (wpAny_pure (by exact fin))))
theorem ne_call {prog : Program} {w : World} {A : Around} {E : Value → Shared → Prop} {s : Shared} {K : PySem.W.Frag} {a C b : Addr} {ox : Obj} {od : Option Obj} {Q : Value → Shared → Prop} (Xk : K.In s.heap) (I : PySem.W.InstAt s.heap a ox C od) (hm : PySem.W.mroIn K C (.type "object") = some true)
    (h : wpAny (model prog w) A.in1 (callSpecialIfBound? (.ref a) "__eq__" [.ref b]) (fun r s' => ∃ b, r = some (.bool b) ∧ Q (.bool (!b)) s') E s) (hu : A.in1.units < cLine) : wpAny (model prog w) A (call (.builtin "object.__ne__") [.ref a, .ref b]) Q E s := by
  have L0 := I.type (M := model prog w)
  have L1 := PySem.W.looks_mroIn (M := model prog w) Xk hm
  refine wpAny_call (codeAny_call_builtin PySem.F.cmp_object.ne.plain PySem.F.cmpEntry_ne ?_)
  obtain ⟨hh, g, dr, t, os⟩ := s
  have hk := PySem.F.cmpKind_ne
  have hs := PySem.F.cmpSplit_ne
  have ha := PySem.F.cmpArgs_ne (.ref a) (.ref b)
  have fin : wpAny (model prog w) A.in1 (Builtin.«object.__ne__» ⟨[.ref a, .ref b], []⟩) (fun fin s' => match fin with | .done f => (match (.ok f : Result) with | .ok (.ret v) => Q v s' | .ok _ => False | .error e => E e s') | .again c' => c'.quiet = true ∧ codeAny (model prog w) A c' (fun r s' => match r with | .ok (.ret v) => Q v s' | .ok _ => False | .error e => E e s') s') (fun e s' => E e s') ⟨hh, g, dr, t, os⟩ := by
    unfold Builtin.«object.__ne__»
    rw [show slotArgs "__ne__" 1 ⟨[.ref a, .ref b], []⟩ = pure (.ref a, [.ref b]) from rfl]
    refine wpAny_bind (wpAny_pure (wpAny_bind (wpAny_cRoomFor hu (wpAny_bind (wpAny_mono h (fun r s' hr => ?_) fun _ _ e => e)))))
    obtain ⟨b, rfl, q⟩ := hr
    exact wpAny_bind (wpAny_truthy_bool (wpAny_pure q))
  simp only [checkBuiltinCall, hk, hs]
  refine wpAny_bind ?_
  unfold isInstance
  repeat (first | exact fin | lk)
def negD (r : Res DS D) : Res DS D := match r with
  | .ok (.bl b) s => .ok (.bl (!b)) s
  | .exc x s => .exc x s
  | _ => .stuck
def ownNe (c : String) (g : DFn) : DO2 := fun x y s => negD (ownO c g x y s)
theorem negD_post {κ : Bs} {w : Wd} {σ : L2.St} {r : Res DS D} {Q : VK} (h : PostG G W (Rep G) κ w σ (negD r) Q) : PostG G W (Rep G) κ w σ r (fun v H => ∃ b, v = .bl b ∧ Q (.bl (!b)) H) := by
  cases r with
  | stuck => exact h
  | exc x s => exact h
  | ok d s =>
    cases d with
    | bl b =>
      intro w' v H' l o r
      cases r
      exact ⟨b, rfl, h w' _ H' l o (.bl _)⟩
    | _ => exact h.elim
theorem opx_ownNe {c : String} {C f : Addr} {k : Nat} {fd : FuncData} {ps : List Str} {g : DFn} (hC : G.ct c = some C) (hs : PySem.W.findIn X.K (.ref C) "__eq__" = some (some (.ref f))) (hf : PySem.W.isFn X.K (.ref f) = true)
    (hne : PySem.W.findIn X.K (.ref C) "__ne__" = some (some (.builtin "object.__ne__"))) (hob : PySem.W.mroIn X.K C (.type "object") = some true)
    (F : FnOk X.prog X.w X.K X.mg X.base (L2.CX X.prog X.w) k f fd ps (spG G 2 g)) (hr : Room (k + 1) X.A) (hb : Binds X.K fd ps []) (tk : Takes X W) : OpX G W X (compareOp .NotEq) (ownNe c g) := by
  intro pins sh σ H x y v u κ w s dx dy Q I rx ry ok rdx rdy q
  obtain ⟨a, b, C', dxa, dxb, fa, fb, rfl, rfl, hC', hH, hH', q⟩ := ownO_of ok rdx rdy (negD_post q)
  rw [hC] at hC'
  cases hC'
  cases rx
  cases ry
  obtain ⟨mA, J, _⟩ := ins_get I.hok hH
  obtain ⟨mB, J', _⟩ := ins_get I.hok hH'
  obtain ⟨od, J, _⟩ := J.look
  obtain ⟨od', J', _⟩ := J'.look
  have KX := I.kIn
  show wpAny (model X.prog X.w) X.A (richCompare .NotEq (.ref a) (.ref b)) _ _ _
  -- object.__ne__: __eq__, turned
  have one : wpAny (model X.prog X.w) X.A (tryCompare (.ref a) "__ne__" (.ref b)) (fun r s' => ∃ v, r = some v ∧ EP X pins σ Q v s') X.xe sh := by
    unfold tryCompare
    refine wpAny_bind (ifBound_B KX J hne PySem.F.cmp_object.ne.bind ?_)
    refine wpAny_mono (ne_call (Q := fun v s' => ∃ b, v = .bool b ∧ EP X pins σ Q v s') KX J hob ?_ hr.in1.units0) (fun v s' h => ?_) fun _ _ e => e
    case refine_1 =>
      have hc := callD1 (us := [.ref a, .ref b]) (vs := [.ref a, .ref b]) (ds := [dx, dy]) F hr hb tk I ok (.cons rdx (.cons rdy .nil)) (.cons rfl (.cons rfl .nil)) rfl q
      refine PySem.W.ifBound_K KX J hs hf (wpAny_mono hc (fun v s' h => ?_) fun _ _ e => e)
      obtain ⟨x, H', I', r, b, rfl, q'⟩ := h
      cases r
      exact ⟨b, rfl, !b, rfl, .bl (!b), H', I', rfl, q'⟩
    case refine_2 =>
      obtain ⟨b, rfl, h⟩ := h
      exact wpAny_pure ⟨_, rfl, h⟩
  unfold richCompare
  simp only [oneThing_ref]
  refine wpAny_holding (wpAny_bind (wpAny_cRoomFor hr.units0 ?_))
  refine wpAny_bind (J.type.here (wpAny_bind (J'.type.here ?_)))
  rw [if_neg (by simp)]
  refine wpAny_bind (wpAny_pure ?_)
  simp only [Bool.false_eq_true, if_false]
  refine wpAny_bind (wpAny_mono one (fun r s' z => ?_) fun _ _ e => e)
  obtain ⟨v, rfl, hq⟩ := z
  exact wpAny_pure hq
end
end DL
set_option maxRecDepth 100000
set_option maxHeartbeats 4000000
set_option autoImplicit false
namespace DL
open PySem PySem.Spec PyProof.Rows L2
/-- all that is asked of a class, in one -/
def clsB (K : PySem.W.Frag) (C : Addr) (fs : List Str) : Bool :=
  PySem.W.plainGet K C Str.empty && (PySem.W.hasDictIn K C && (PySem.W.plainOver K C && (PySem.W.makesIn K C && (PySem.W.keepIn K (.ref C) && (PySem.W.selfFirst K C &&
    ((PySem.W.findIn K (.ref C) "__setattr__" == some (some (.builtin "object.__setattr__"))) && ((PySem.W.findIn K (.ref C) "__ne__" == some (some (.builtin "object.__ne__"))) && ((PySem.W.mroIn K C (.type "object") == some true) &&
    ((PySem.W.findIn K (.ref C) "__class__" == some (some (.builtin "object.__class__"))) && ((PySem.W.specialIn K (.builtin "object.__class__") "__get__" == some (some (.builtin "getset_descriptor.__get__"))) && ((PySem.W.takesIn K (.builtin "object.__class__") == some true) &&
    (fs.all (fun f => PySem.W.findIn K (.ref C) f == some none) && tyNames.all fun b => (PySem.W.kitOne K (.ref C) (.type b) == some false) && (PySem.W.kitOne K (.type b) (.ref C) == some false)))))))))))))
structure ClsF (K : PySem.W.Frag) (C : Addr) (fs : List Str) : Prop where
  cl : Cls K C
  makes : PySem.W.makesIn K C = true
  kp : PySem.W.keepIn K (.ref C) = true
  sf : PySem.W.selfFirst K C = true
  ne : PySem.W.findIn K (.ref C) "__ne__" = some (some (.builtin "object.__ne__"))
  mo : PySem.W.mroIn K C (.type "object") = some true
  i1 : PySem.W.findIn K (.ref C) "__class__" = some (some (.builtin "object.__class__"))
  i2 : PySem.W.specialIn K (.builtin "object.__class__") "__get__" = some (some (.builtin "getset_descriptor.__get__"))
  i3 : PySem.W.takesIn K (.builtin "object.__class__") = some true
  na : ∀ f ∈ fs, NoAttr K C f
  bo : ∀ b ∈ tyNames, PySem.W.kitOne K (.ref C) (.type b) = some false ∧ PySem.W.kitOne K (.type b) (.ref C) = some false
theorem clsF {K : PySem.W.Frag} {C : Addr} {fs : List Str} (h : clsB K C fs = true) : ClsF K C fs := by
  unfold clsB at h
  simp only [Bool.and_eq_true, beq_iff_eq, List.all_eq_true] at h
  obtain ⟨h1, h2, h3, h4, h5, h6, h7, h8, h9, h10, h11, h12, h13, h14⟩ := h
  exact ⟨⟨h1, h2, h3, h7⟩, h4, h5, h6, h8, h9, h10, h11, h12, fun f hf => h13 f hf, fun b hb => h14 b hb⟩
/-- the own classes apart from one another -/
theorem isOk_of {G : Gam} {cs : List String} (h1 : ∀ c ∈ cs, ∃ C fs, G.ct c = some C ∧ ClsF G.K C fs) (h2 : ∀ c ∈ cs, ∀ c' ∈ cs, ∀ C C', G.ct c = some C → G.ct c' = some C' → PySem.W.kitOne G.K (.ref C) (.ref C') = some (c == c')) : IsOk G cs := by
  refine ⟨fun c hc C hC => ?_, fun c hc C hC => ?_, h2⟩
  · obtain ⟨C', fs, e, f⟩ := h1 c hc
    rw [hC] at e
    cases e
    exact ⟨f.cl, f.i1, f.i2, f.i3, f.mo⟩
  · obtain ⟨C', fs, e, f⟩ := h1 c hc
    rw [hC] at e
    cases e
    exact f.bo
theorem kit_self {K : PySem.W.Frag} {C : Addr} : PySem.W.kitOne K (.ref C) (.ref C) = some true := by
  unfold PySem.W.kitOne
  rw [if_pos (by simp)]
end DL
set_option maxRecDepth 100000
set_option maxHeartbeats 4000000
namespace W_k45
open PySem PySem.Spec PyProof.Rows L2 DL
noncomputable section
def topS (i : Nat) : Stmt := PySem.Challenge.pw_areawalks_k45_powers_in_unlike_direction.main.body.getD i (.Pass ⟨0, 0, 0, 0⟩)
theorem s_0 : ("left" : Str) = nm [108, 101, 102, 116] := by decide +kernel
theorem s_1 : ("count" : Str) = nm [99, 111, 117, 110, 116] := by decide +kernel
theorem s_2 : ("cells" : Str) = nm [99, 101, 108, 108, 115] := by decide +kernel
theorem s_3 : ("x" : Str) = nm [120] := by decide +kernel
theorem s_4 : ("y" : Str) = nm [121] := by decide +kernel
theorem s_5 : ("area" : Str) = nm [97, 114, 101, 97] := by decide +kernel
theorem s_6 : ("twist" : Str) = nm [116, 119, 105, 115, 116] := by decide +kernel
theorem s_7 : ("power" : Str) = nm [112, 111, 119, 101, 114] := by decide +kernel
/-! _law_begin -/
abbrev st__law_begin : Stmt := topS 27
theorem sc__law_begin : FnScope ["_law_script"] ["_law_script"] (defScope st__law_begin) := ⟨rfl, rfl, rfl, by decide +kernel, rfl, by decide +kernel, by decide +kernel⟩
/-! _law_draw -/
abbrev st__law_draw : Stmt := topS 28
theorem sc__law_draw : FnScope ["_law_pen", "_law_span", "_law_digit", "_law_count", "_law_cell", "_law_first", "_law_blend"] ["_law_pen", "_law_span"] (defScope st__law_draw) := ⟨rfl, rfl, rfl, by decide +kernel, rfl, by decide +kernel, by decide +kernel⟩
/-! _law_join -/
abbrev st__law_join : Stmt := topS 31
theorem sc__law_join : FnScope ["_law_one", "_law_other", "_law_x", "_law_y", "_law_area", "_law_s", "_law_t", "_law_more"] ["_law_one", "_law_other"] (defScope st__law_join) := ⟨rfl, rfl, rfl, by decide +kernel, rfl, by decide +kernel, by decide +kernel⟩
/-! _law_times -/
abbrev st__law_times : Stmt := topS 32
theorem sc__law_times : FnScope ["_law_one", "_law_number", "_law_x", "_law_y", "_law_area", "_law_half"] ["_law_one", "_law_number"] (defScope st__law_times) := ⟨rfl, rfl, rfl, by decide +kernel, rfl, by decide +kernel, by decide +kernel⟩
/-! _law_twist -/
abbrev st__law_twist : Stmt := topS 34
theorem sc__law_twist : FnScope ["_law_one", "_law_other"] ["_law_one", "_law_other"] (defScope st__law_twist) := ⟨rfl, rfl, rfl, by decide +kernel, rfl, by decide +kernel, by decide +kernel⟩
/-! _law_due -/
abbrev st__law_due : Stmt := topS 37
theorem sc__law_due : FnScope ["_law_one", "_law_other", "_law_goal", "_law_area", "_law_m", "_law_n"] ["_law_one", "_law_other", "_law_goal"] (defScope st__law_due) := ⟨rfl, rfl, rfl, by decide +kernel, rfl, by decide +kernel, by decide +kernel⟩
/-! _law_pick -/
abbrev st__law_pick : Stmt := topS 29
theorem sc__law_pick : FnScope ["_law_pen", "_law_some"] ["_law_pen", "_law_some"] (defScope st__law_pick) := ⟨rfl, rfl, rfl, by decide +kernel, rfl, by decide +kernel, by decide +kernel⟩
/-! _law_mid -/
abbrev st__law_mid : Stmt := topS 35
theorem sc__law_mid : FnScope ["_law_pen", "_law_small_here"] ["_law_pen"] (defScope st__law_mid) := ⟨rfl, rfl, rfl, by decide +kernel, rfl, by decide +kernel, by decide +kernel⟩
/-! _law_mid_drawn -/
abbrev st__law_mid_drawn : Stmt := topS 36
theorem sc__law_mid_drawn : FnScope ["_law_pen", "_law_row", "_law_way"] ["_law_pen"] (defScope st__law_mid_drawn) := ⟨rfl, rfl, rfl, by decide +kernel, rfl, by decide +kernel, by decide +kernel⟩
/-! is_integer -/
abbrev st_is_integer : Stmt := topS 2
theorem sc_is_integer : FnScope ["value"] ["value"] (defScope st_is_integer) := ⟨rfl, rfl, rfl, by decide +kernel, rfl, by decide +kernel, by decide +kernel⟩
/-! Place.__init__ -/
abbrev st_PlaceX_initX : Stmt := inClass (topS 18) 0
theorem sc_PlaceX_initX : FnScope ["self", "x", "y", "area", "value"] ["self", "x", "y", "area"] (defScope st_PlaceX_initX) := ⟨rfl, rfl, rfl, by decide +kernel, rfl, by decide +kernel, by decide +kernel⟩
/-! _law_place -/
abbrev st__law_place : Stmt := topS 33
theorem sc__law_place : FnScope ["_law_row"] ["_law_row"] (defScope st__law_place) := ⟨rfl, rfl, rfl, by decide +kernel, rfl, by decide +kernel, by decide +kernel⟩
/-! _law_small -/
abbrev st__law_small : Stmt := topS 30
theorem sc__law_small : FnScope ["_law_pen"] ["_law_pen"] (defScope st__law_small) := ⟨rfl, rfl, rfl, by decide +kernel, rfl, by decide +kernel, by decide +kernel⟩
/-! need_place -/
abbrev st_need_place : Stmt := topS 19
theorem sc_need_place : FnScope ["value"] ["value"] (defScope st_need_place) := ⟨rfl, rfl, rfl, by decide +kernel, rfl, by decide +kernel, by decide +kernel⟩
/-! Place.twist -/
abbrev st_Place_twist : Stmt := inClass (topS 18) 7
theorem sc_Place_twist : FnScope ["self", "other"] ["self", "other"] (defScope st_Place_twist) := ⟨rfl, rfl, rfl, by decide +kernel, rfl, by decide +kernel, by decide +kernel⟩
/-! pairs_below -/
abbrev st_pairs_below : Stmt := topS 5
theorem sc_pairs_below : FnScope ["number"] ["number"] (defScope st_pairs_below) := ⟨rfl, rfl, rfl, by decide +kernel, rfl, by decide +kernel, by decide +kernel⟩
/-! Place.power -/
abbrev st_Place_power : Stmt := inClass (topS 18) 4
theorem sc_Place_power : FnScope ["self", "number"] ["self", "number"] (defScope st_Place_power) := ⟨rfl, rfl, rfl, by decide +kernel, rfl, by decide +kernel, by decide +kernel⟩
/-! divisor_of -/
abbrev st_divisor_of : Stmt := topS 4
theorem sc_divisor_of : FnScope ["one", "other"] ["one", "other"] (defScope st_divisor_of) := ⟨rfl, rfl, rfl, by decide +kernel, rfl, by decide +kernel, by decide +kernel⟩
/-! along -/
abbrev st_along : Stmt := topS 21
theorem sc_along : FnScope ["place", "side"] ["place"] (defScope st_along) := ⟨rfl, rfl, rfl, by decide +kernel, rfl, by decide +kernel, by decide +kernel⟩
/-! figures_along -/
abbrev st_figures_along : Stmt := topS 22
theorem sc_figures_along : FnScope ["place", "other", "base", "times"] ["place", "other"] (defScope st_figures_along) := ⟨rfl, rfl, rfl, by decide +kernel, rfl, by decide +kernel, by decide +kernel⟩
/-! Place.__eq__ -/
abbrev st_PlaceX_eqX : Stmt := inClass (topS 18) 1
theorem sc_PlaceX_eqX : FnScope ["self", "other"] ["self", "other"] (defScope st_PlaceX_eqX) := ⟨rfl, rfl, rfl, by decide +kernel, rfl, by decide +kernel, by decide +kernel⟩
/-! Place.__mul__ -/
abbrev st_PlaceX_mulX : Stmt := inClass (topS 18) 2
theorem sc_PlaceX_mulX : FnScope ["self", "other"] ["self", "other"] (defScope st_PlaceX_mulX) := ⟨rfl, rfl, rfl, by decide +kernel, rfl, by decide +kernel, by decide +kernel⟩
/-! row_less -/
abbrev st_row_less : Stmt := topS 7
theorem sc_row_less : FnScope ["row", "other", "times", "entry", "entry_there"] ["row", "other", "times"] (defScope st_row_less) := ⟨rfl, rfl, rfl, by decide +kernel, rfl, by decide +kernel, by decide +kernel⟩
/-! head_row -/
abbrev st_head_row : Stmt := topS 8
theorem sc_head_row : FnScope ["rows", "column", "head", "left", "row"] ["rows", "column"] (defScope st_head_row) := ⟨rfl, rfl, rfl, by decide +kernel, rfl, by decide +kernel, by decide +kernel⟩
/-! bezout_of -/
abbrev st_bezout_of : Stmt := topS 3
theorem sc_bezout_of : FnScope ["one", "other", "row", "below", "times"] ["one", "other"] (defScope st_bezout_of) := ⟨rfl, rfl, rfl, by decide +kernel, rfl, by decide +kernel, by decide +kernel⟩
/-! one_row -/
abbrev st_one_row : Stmt := topS 9
theorem sc_one_row : FnScope ["row", "side", "first", "second", "times"] ["row"] (defScope st_one_row) := ⟨rfl, rfl, rfl, by decide +kernel, rfl, by decide +kernel, by decide +kernel⟩
/-! two_rows -/
abbrev st_two_rows : Stmt := topS 10
theorem sc_two_rows : FnScope ["first", "second", "low", "down", "left", "numbers", "one", "other"] ["first", "second"] (defScope st_two_rows) := ⟨rfl, rfl, rfl, by decide +kernel, rfl, by decide +kernel, by decide +kernel⟩
/-! solved -/
abbrev st_solved : Stmt := topS 11
theorem sc_solved : FnScope ["rows", "goals", "many", "table", "at", "row", "first", "left", "second", "place"] ["rows", "goals"] (defScope st_solved) := ⟨rfl, rfl, rfl, by decide +kernel, rfl, by decide +kernel, by decide +kernel⟩
/-! powers_crossing -/
abbrev st_powers_crossing : Stmt := topS 23
theorem sc_powers_crossing : FnScope ["one", "other", "goal", "pair"] ["one", "other", "goal"] (defScope st_powers_crossing) := ⟨rfl, rfl, rfl, by decide +kernel, rfl, by decide +kernel, by decide +kernel⟩
/-! settled_pair -/
abbrev st_settled_pair : Stmt := topS 24
theorem sc_settled_pair : FnScope ["pair", "kernel", "i", "j", "times"] ["pair", "kernel"] (defScope st_settled_pair) := ⟨rfl, rfl, rfl, by decide +kernel, rfl, by decide +kernel, by decide +kernel⟩
/-! powers_to -/
abbrev st_powers_to : Stmt := topS 25
theorem sc_powers_to : FnScope ["one", "other", "goal", "moving", "pair", "kernel", "bar", "told", "rows", "place", "at"] ["one", "other", "goal"] (defScope st_powers_to) := ⟨rfl, rfl, rfl, by decide +kernel, rfl, by decide +kernel, by decide +kernel⟩
/-! law -/
abbrev st_law : Stmt := topS 38
theorem sc_law : FnScope ["_law_script", "_law_pen", "_law_again", "_law_one", "_law_other", "_law_m", "_law_n", "_law_goal", "_law_beside", "_law_places", "_law_row"] ["_law_script"] (defScope st_law) := ⟨rfl, rfl, rfl, by decide +kernel, rfl, by decide +kernel, by decide +kernel⟩
def b__law_begin : DStm := sRet (eCellD (dDisp [(eC (.str [99, 101, 108, 108, 115]), eFrz (aList (aCons (eSlA (eVar 0) (oNone) (oSome (eC (.int 63)))) (aNil)))), (eC (.str [99, 111, 117, 110, 116]), eC (.int 0)), (eC (.str [108, 101, 102, 116]), eC (.int 0))]))
def g__law_begin : DFn := fnD 1 b__law_begin 0
def b__law_draw : DStm := sSeq (sIf (eB (eOp2 iGe (eDGet (eVar 0) (eC (.str [108, 101, 102, 116]))) (eVar 1))) (sSeq (sSet 2 (eOp2 iMod (eCB (bInt) (aCons (eDGet (eVar 0) (eC (.str [108, 101, 102, 116]))) (aNil))) (eVar 1)))
    (sSeq (sDPutC (eVar 0) (eC (.str [108, 101, 102, 116])) (eOp2 iDiv (eDGet (eVar 0) (eC (.str [108, 101, 102, 116]))) (eVar 1)))
    (sRet (eVar 2)))) (sPass))
    (sSeq (sSet 3 (eDGet (eVar 0) (eC (.str [99, 111, 117, 110, 116]))))
    (sSeq (sDPutC (eVar 0) (eC (.str [99, 111, 117, 110, 116])) (eOp2 dAdd (eVar 3) (eC (.int 1))))
    (sSeq (sSet 4 (eOp2 dAdd (eOp2 dMul (eC (.int 83)) (eVar 3)) (eC (.int 29))))
    (sSeq (sIf (eB (eOp2 dNe (eDGet (eVar 0) (eC (.str [99, 101, 108, 108, 115]))) (eFrz (aMax (aNil))))) (sSet 4 (eIx (eDGet (eVar 0) (eC (.str [99, 101, 108, 108, 115]))) (eOp2 iMod (eCB (bInt) (aCons (eVar 3) (aNil))) (eCB (bLen) (aCons (eDGet (eVar 0) (eC (.str [99, 101, 108, 108, 115]))) (aNil)))))) (sPass))
    (sSeq (sIf (bAnd (eB (eOp2 iLt (eVar 3) (eCB (bLen) (aCons (eDGet (eVar 0) (eC (.str [99, 101, 108, 108, 115]))) (aNil))))) (eB (eOp2 iGe (eVar 4) (eOp2 iPow (eC (.int 10)) (eC (.int 18)))))) (sSeq (sDPutC (eVar 0) (eC (.str [108, 101, 102, 116])) (eOp2 iDiv (eOp2 iSub (eVar 4) (eOp2 iPow (eC (.int 10)) (eC (.int 18)))) (eVar 1)))
    (sRet (eOp2 iMod (eCB (bInt) (aCons (eOp2 iSub (eVar 4) (eOp2 iPow (eC (.int 10)) (eC (.int 18)))) (aNil))) (eVar 1)))) (sPass))
    (sSeq (sSet 5 (eOp2 dAdd (eOp2 dMul (eOp2 iMod (eCB (bInt) (aCons (eVar 4) (aNil))) (eC (.int 2147482811))) (eC (.int 60013))) (eOp2 dMul (eOp2 dMul (eC (.int 35023)) (eVar 3)) (eVar 3))))
    (sSeq (sSet 6 (eOp2 iMod (eCB (bInt) (aCons (eOp2 dAdd (eOp2 dAdd (eVar 5) (eOp2 dMul (eC (.int 151)) (eVar 3))) (eC (.int 23))) (aNil))) (eC (.int 2147482873))))
    (sSeq (sSet 6 (eOp2 iMod (eCB (bInt) (aCons (eOp2 dMul (eVar 6) (eOp2 dAdd (eVar 6) (eC (.int 90007)))) (aNil))) (eC (.int 2147482951))))
    (sRet (eOp2 iMod (eCB (bInt) (aCons (eOp2 iDiv (eOp2 iMod (eCB (bInt) (aCons (eOp2 dAdd (eOp2 dMul (eVar 6) (eVar 6)) (eOp2 dMul (eC (.int 41)) (eVar 6))) (aNil))) (eC (.int 2147483033))) (eC (.int 64))) (aNil))) (eVar 1)))))))))))
def g__law_draw : DFn := fnD 2 b__law_draw 5
def b__law_join : DStm := sSeq (sAsgT (eVar 0) (gT 3 (gsCons (gN 2) (gsCons (gN 3) (gsCons (gN 4) (gsNil))))))
    (sSeq (sAsgT (eVar 1) (gT 3 (gsCons (gN 5) (gsCons (gN 6) (gsCons (gN 7) (gsNil))))))
    (sRet (eTup (aCons (eOp2 dAdd (eVar 2) (eVar 5)) (aCons (eOp2 dAdd (eVar 3) (eVar 6)) (aCons (eOp2 dAdd (eOp2 dAdd (eVar 4) (eVar 7)) (eOp2 dMul (eVar 2) (eVar 6))) (aNil)))))))
def g__law_join : DFn := fnD 2 b__law_join 6
def b__law_times : DStm := sSeq (sAsgT (eVar 0) (gT 3 (gsCons (gN 2) (gsCons (gN 3) (gsCons (gN 4) (gsNil))))))
    (sSeq (sSet 5 (eOp2 iDiv (eOp2 dMul (eVar 1) (eOp2 iSub (eVar 1) (eC (.int 1)))) (eC (.int 2))))
    (sRet (eTup (aCons (eOp2 dMul (eVar 1) (eVar 2)) (aCons (eOp2 dMul (eVar 1) (eVar 3)) (aCons (eOp2 dAdd (eOp2 dMul (eVar 1) (eVar 4)) (eOp2 dMul (eOp2 dMul (eVar 5) (eVar 2)) (eVar 3))) (aNil)))))))
def g__law_times : DFn := fnD 2 b__law_times 4
def b__law_twist : DStm := sRet (eOp2 iSub (eOp2 dMul (eIx (eVar 0) (eC (.int 0))) (eIx (eVar 1) (eC (.int 1)))) (eOp2 dMul (eIx (eVar 1) (eC (.int 0))) (eIx (eVar 0) (eC (.int 1)))))
def g__law_twist : DFn := fnD 2 b__law_twist 0
def b__law_due : DStm := sSeq (sSet 3 (eCall 2 g__law_twist (aCons (eVar 0) (aCons (eVar 1) (aNil)))))
    (sSeq (sPar 4 5 (aCons (eCall 2 g__law_twist (aCons (eVar 2) (aCons (eVar 1) (aNil)))) (aCons (eCall 2 g__law_twist (aCons (eVar 0) (aCons (eVar 2) (aNil)))) (aNil))))
    (sSeq (sIf (bOr (eB (eOp2 dNe (eOp2 iMod (eCB (bInt) (aCons (eVar 4) (aNil))) (eVar 3)) (eC (.int 0)))) (eB (eOp2 dNe (eOp2 iMod (eCB (bInt) (aCons (eVar 5) (aNil))) (eVar 3)) (eC (.int 0))))) (sRet (eC .non)) (sPass))
    (sSeq (sPar 4 5 (aCons (eOp2 iDiv (eVar 4) (eVar 3)) (aCons (eOp2 iDiv (eVar 5) (eVar 3)) (aNil))))
    (sSeq (sIf (eB (eOp2 dNe (eCall 2 g__law_join (aCons (eCall 2 g__law_times (aCons (eVar 0) (aCons (eVar 4) (aNil)))) (aCons (eCall 2 g__law_times (aCons (eVar 1) (aCons (eVar 5) (aNil)))) (aNil)))) (eVar 2))) (sRet (eC .non)) (sPass))
    (sRet (eTup (aCons (eTup (aCons (eVar 4) (aCons (eVar 5) (aNil)))) (aCons (eFrz (aMax (aNil))) (aNil)))))))))
def g__law_due : DFn := fnD 3 b__law_due 3
def b__law_pick : DStm := sRet (eIx (eVar 1) (eCall 2 g__law_draw (aCons (eVar 0) (aCons (eCB (bLen) (aCons (eVar 1) (aNil))) (aNil)))))
def g__law_pick : DFn := fnD 2 b__law_pick 0
def b__law_mid : DStm := sSeq (sSet 1 (eOp2 iSub (eCall 2 g__law_draw (aCons (eVar 0) (aCons (eC (.int 13)) (aNil)))) (eC (.int 6))))
    (sRet (eOp2 dAdd (eVar 1) (eCall 2 g__law_pick (aCons (eVar 0) (aCons (eFrz (aMax (aCons (eC (.int 0)) (aCons (eC (.int 0)) (aCons (eC (.int 0)) (aCons (eOp2 iPow (eC (.int 10)) (eC (.int 6))) (aCons (eNeg (eOp2 iPow (eC (.int 10)) (eC (.int 15)))) (aNil)))))))) (aNil))))))
def g__law_mid : DFn := fnD 1 b__law_mid 1
def b__law_mid_drawn : DStm := sSeq (sSet 1 (eTup (aCons (eCall 1 g__law_mid (aCons (eVar 0) (aNil))) (aCons (eCall 1 g__law_mid (aCons (eVar 0) (aNil))) (aCons (eOp2 dMul (eCall 1 g__law_mid (aCons (eVar 0) (aNil))) (eCall 2 g__law_pick (aCons (eVar 0) (aCons (eFrz (aMax (aCons (eC (.int 1)) (aCons (eC (.int 1)) (aCons (eOp2 dAdd (eOp2 iPow (eC (.int 10)) (eC (.int 15))) (eC (.int 1))) (aNil)))))) (aNil))))) (aNil))))))
    (sSeq (sSet 2 (eCall 2 g__law_draw (aCons (eVar 0) (aCons (eC (.int 6)) (aNil)))))
    (sSeq (sIf (eB (eOp2 dEq (eVar 2) (eC (.int 0)))) (sSet 1 (eTup (aCons (eC (.int 0)) (aCons (eC (.int 0)) (aCons (eIx (eVar 1) (eC (.int 2))) (aNil)))))) (sPass))
    (sSeq (sIf (eB (eOp2 dEq (eVar 2) (eC (.int 1)))) (sSet 1 (eCall 2 g__law_pick (aCons (eVar 0) (aCons (eFrz (aMax (aCons (eTup (aCons (eIx (eVar 1) (eC (.int 0))) (aCons (eC (.int 0)) (aCons (eIx (eVar 1) (eC (.int 2))) (aNil))))) (aCons (eTup (aCons (eC (.int 0)) (aCons (eIx (eVar 1) (eC (.int 1))) (aCons (eIx (eVar 1) (eC (.int 2))) (aNil))))) (aNil))))) (aNil))))) (sPass))
    (sRet (eVar 1)))))
def g__law_mid_drawn : DFn := fnD 1 b__law_mid_drawn 2
def b_is_integer : DStm := sRet (eAndT (eCB (bIsi ["Place"]) (aCons (eVar 0) (aCons (eC (.ty "int")) (aNil)))) (eNotT (eCB (bIsi ["Place"]) (aCons (eVar 0) (aCons (eC (.ty "bool")) (aNil))))))
def g_is_integer : DFn := fnD 1 b_is_integer 0
def b_PlaceX_initX : DStm := sSeq (sFor (itSeq (eTup (aCons (eVar 1) (aCons (eVar 2) (aCons (eVar 3) (aNil)))))) (gN 4) (sIf (bNot (eTru (eCall 1 g_is_integer (aCons (eVar 4) (aNil))))) (sNever) (sPass)))
    (sSeq (sFldO "Place" 0 [120] (eVar 1))
    (sSeq (sFldO "Place" 0 [121] (eVar 2))
    (sFldO "Place" 0 [97, 114, 101, 97] (eVar 3))))
def g_PlaceX_initX : DIn := inD "Place" 3 b_PlaceX_initX 1
def b__law_place : DStm := sRet (eMake "Place" 3 g_PlaceX_initX (aCons (eIx (eVar 0) (eC (.int 0))) (aCons (eIx (eVar 0) (eC (.int 1))) (aCons (eIx (eVar 0) (eC (.int 2))) (aNil)))))
def g__law_place : DFn := fnD 1 b__law_place 0
def b__law_small : DStm := sRet (eOp2 iSub (eCall 2 g__law_draw (aCons (eVar 0) (aCons (eC (.int 9)) (aNil)))) (eC (.int 4)))
def g__law_small : DFn := fnD 1 b__law_small 0
def b_need_place : DStm := sIf (bNot (eTru (eCB (bIsi ["Place"]) (aCons (eVar 0) (aCons (eC (.cls "Place")) (aNil)))))) (sNever) (sPass)
def g_need_place : DFn := fnD 1 b_need_place 0
def b_Place_twist : DStm := sSeq (sExpr (eCall 1 g_need_place (aCons (eVar 1) (aNil))))
    (sRet (eOp2 iSub (eOp2 dMul (eFld ["Place"] [120] (eVar 0)) (eFld ["Place"] [121] (eVar 1))) (eOp2 dMul (eFld ["Place"] [120] (eVar 1)) (eFld ["Place"] [121] (eVar 0)))))
def g_Place_twist : DFn := fnD 2 b_Place_twist 0
def b_pairs_below : DStm := sRet (eOp2 iDiv (eOp2 dMul (eVar 0) (eOp2 iSub (eVar 0) (eC (.int 1)))) (eC (.int 2)))
def g_pairs_below : DFn := fnD 1 b_pairs_below 0
def b_Place_power : DStm := sSeq (sIf (bNot (eTru (eCall 1 g_is_integer (aCons (eVar 1) (aNil))))) (sNever) (sPass))
    (sRet (eMake "Place" 3 g_PlaceX_initX (aCons (eOp2 dMul (eVar 1) (eFld ["Place"] [120] (eVar 0))) (aCons (eOp2 dMul (eVar 1) (eFld ["Place"] [121] (eVar 0))) (aCons (eOp2 dAdd (eOp2 dMul (eVar 1) (eFld ["Place"] [97, 114, 101, 97] (eVar 0))) (eOp2 dMul (eOp2 dMul (eCall 1 g_pairs_below (aCons (eVar 1) (aNil))) (eFld ["Place"] [120] (eVar 0))) (eFld ["Place"] [121] (eVar 0)))) (aNil))))))
def g_Place_power : DFn := fnD 2 b_Place_power 0
def b_divisor_of : DStm := sSeq (sPar 0 1 (aCons (eCB (bAbs) (aCons (eVar 0) (aNil))) (aCons (eCB (bAbs) (aCons (eVar 1) (aNil))) (aNil))))
    (sSeq (sWhile (eB (eOp2 iGt (eVar 1) (eC (.int 0)))) (sPar 0 1 (aCons (eVar 1) (aCons (eOp2 iMod (eVar 0) (eVar 1)) (aNil)))))
    (sRet (eVar 0)))
def g_divisor_of : DFn := fnD 2 b_divisor_of 0
def b_along : DStm := sSeq (sExpr (eCall 1 g_need_place (aCons (eVar 0) (aNil))))
    (sSeq (sSet 1 (eCall 2 g_divisor_of (aCons (eFld ["Place"] [120] (eVar 0)) (aCons (eFld ["Place"] [121] (eVar 0)) (aNil)))))
    (sSeq (sIf (eB (eOp2 dEq (eVar 1) (eC (.int 0)))) (sNever) (sPass))
    (sRet (eMake "Place" 3 g_PlaceX_initX (aCons (eOp2 iDiv (eFld ["Place"] [120] (eVar 0)) (eVar 1)) (aCons (eOp2 iDiv (eFld ["Place"] [121] (eVar 0)) (eVar 1)) (aCons (eC (.int 0)) (aNil))))))))
def g_along : DFn := fnD 1 b_along 1
def b_figures_along : DStm := sSeq (sExpr (eCall 1 g_need_place (aCons (eVar 0) (aNil))))
    (sSeq (sExpr (eCall 1 g_need_place (aCons (eVar 1) (aNil))))
    (sSeq (sSet 2 (eCall 1 g_along (aCons (eVar 0) (aNil))))
    (sSeq (sIf (eB (eOp2 dNe (eMeth "Place" [116, 119, 105, 115, 116] 2 g_Place_twist (eVar 2) (aCons (eVar 1) (aNil))) (eC (.int 0)))) (sRet (eC .non)) (sPass))
    (sSeq (sSet 3 (eIf (eB (eOp2 dNe (eFld ["Place"] [120] (eVar 2)) (eC (.int 0)))) (eOp2 iDiv (eFld ["Place"] [120] (eVar 1)) (eFld ["Place"] [120] (eVar 2))) (eOp2 iDiv (eFld ["Place"] [121] (eVar 1)) (eFld ["Place"] [121] (eVar 2)))))
    (sRet (eTup (aCons (eVar 3) (aCons (eOp2 iSub (eFld ["Place"] [97, 114, 101, 97] (eVar 1)) (eFld ["Place"] [97, 114, 101, 97] (eMeth "Place" [112, 111, 119, 101, 114] 2 g_Place_power (eVar 2) (aCons (eVar 3) (aNil))))) (aNil)))))))))
def g_figures_along : DFn := fnD 2 b_figures_along 2
def b_PlaceX_eqX : DStm := sSeq (sIf (bNot (eTru (eCB (bIsi ["Place"]) (aCons (eVar 1) (aCons (eC (.cls "Place")) (aNil)))))) (sRet (eC (.bl false))) (sPass))
    (sRet (eOp2 dEq (eTup (aCons (eFld ["Place"] [120] (eVar 0)) (aCons (eFld ["Place"] [121] (eVar 0)) (aCons (eFld ["Place"] [97, 114, 101, 97] (eVar 0)) (aNil))))) (eTup (aCons (eFld ["Place"] [120] (eVar 1)) (aCons (eFld ["Place"] [121] (eVar 1)) (aCons (eFld ["Place"] [97, 114, 101, 97] (eVar 1)) (aNil)))))))
def g_PlaceX_eqX : DFn := fnD 2 b_PlaceX_eqX 0
def b_PlaceX_mulX : DStm := sSeq (sIf (bNot (eTru (eCB (bIsi ["Place"]) (aCons (eVar 1) (aCons (eC (.cls "Place")) (aNil)))))) (sNever) (sPass))
    (sRet (eMake "Place" 3 g_PlaceX_initX (aCons (eOp2 dAdd (eFld ["Place"] [120] (eVar 0)) (eFld ["Place"] [120] (eVar 1))) (aCons (eOp2 dAdd (eFld ["Place"] [121] (eVar 0)) (eFld ["Place"] [121] (eVar 1))) (aCons (eOp2 dAdd (eOp2 dAdd (eFld ["Place"] [97, 114, 101, 97] (eVar 0)) (eFld ["Place"] [97, 114, 101, 97] (eVar 1))) (eOp2 dMul (eFld ["Place"] [120] (eVar 0)) (eFld ["Place"] [121] (eVar 1)))) (aNil))))))
def g_PlaceX_mulX : DFn := fnD 2 b_PlaceX_mulX 0
def b_row_less : DStm := sRet (eCB (bTup) (aCons (eFrz (aLc [3, 4] (itZip (aCons (eVar 0) (aCons (eVar 1) (aNil)))) (gT 2 (gsCons (gN 3) (gsCons (gN 4) (gsNil)))) (bYes) (eOp2 iSub (eVar 3) (eOp2 dMul (eVar 2) (eVar 4))))) (aNil)))
def g_row_less : DFn := fnD 3 b_row_less 2
def b_head_row : DStm := sSeq (sSet 2 (eC .non))
    (sSeq (sSetO 3 (aMax (aNil)))
    (sSeq (sFor (itSeq (eVar 0)) (gN 4) (sIf (eB (eOp2 dEq (eIx (eVar 4) (eVar 1)) (eC (.int 0)))) (sApp 3 (aCons (eVar 4) (aNil))) (sIf (eB (eOp2 dIsN (eVar 2) (eC .non))) (sSet 2 (eVar 4)) (sSeq (sWhile (eB (eOp2 dNe (eIx (eVar 4) (eVar 1)) (eC (.int 0)))) (sPar 2 4 (aCons (eVar 4) (aCons (eCall 3 g_row_less (aCons (eVar 2) (aCons (eVar 4) (aCons (eOp2 iDiv (eIx (eVar 2) (eVar 1)) (eIx (eVar 4) (eVar 1))) (aNil))))) (aNil)))))
    (sApp 3 (aCons (eVar 4) (aNil)))))))
    (sRet (eTup (aCons (eVar 2) (aCons (eVar 3) (aNil)))))))
def g_head_row : DFn := fnD 2 b_head_row 3
def b_bezout_of : DStm := sSeq (sPar 2 3 (aCons (eTup (aCons (eCB (bAbs) (aCons (eVar 0) (aNil))) (aCons (eIf (eB (eOp2 iGe (eVar 0) (eC (.int 0)))) (eC (.int 1)) (eNeg (eC (.int 1)))) (aCons (eC (.int 0)) (aNil))))) (aCons (eTup (aCons (eCB (bAbs) (aCons (eVar 1) (aNil))) (aCons (eC (.int 0)) (aCons (eIf (eB (eOp2 iGe (eVar 1) (eC (.int 0)))) (eC (.int 1)) (eNeg (eC (.int 1)))) (aNil))))) (aNil))))
    (sSeq (sWhile (eB (eOp2 iGt (eIx (eVar 3) (eC (.int 0))) (eC (.int 0)))) (sSeq (sSet 4 (eOp2 iDiv (eIx (eVar 2) (eC (.int 0))) (eIx (eVar 3) (eC (.int 0)))))
    (sPar 2 3 (aCons (eVar 3) (aCons (eTup (aCons (eOp2 iSub (eIx (eVar 2) (eC (.int 0))) (eOp2 dMul (eVar 4) (eIx (eVar 3) (eC (.int 0))))) (aCons (eOp2 iSub (eIx (eVar 2) (eC (.int 1))) (eOp2 dMul (eVar 4) (eIx (eVar 3) (eC (.int 1))))) (aCons (eOp2 iSub (eIx (eVar 2) (eC (.int 2))) (eOp2 dMul (eVar 4) (eIx (eVar 3) (eC (.int 2))))) (aNil))))) (aNil))))))
    (sRet (eVar 2)))
def g_bezout_of : DFn := fnD 2 b_bezout_of 3
def b_one_row : DStm := sSeq (sAsgT (eCall 2 g_bezout_of (aCons (eIx (eVar 0) (eC (.int 0))) (aCons (eIx (eVar 0) (eC (.int 1))) (aNil)))) (gT 3 (gsCons (gN 1) (gsCons (gN 2) (gsCons (gN 3) (gsNil))))))
    (sSeq (sIf (eB (eOp2 dNe (eOp2 iMod (eIx (eVar 0) (eC (.int 2))) (eVar 1)) (eC (.int 0)))) (sRet (eTup (aCons (eC .non) (aCons (eFrz (aMax (aNil))) (aCons (eTup (aCons (eSlA (eVar 0) (oSome (eC (.int 3))) (oNone)) (aCons (eVar 1) (aNil)))) (aNil)))))) (sPass))
    (sSeq (sSet 4 (eOp2 iDiv (eIx (eVar 0) (eC (.int 2))) (eVar 1)))
    (sRet (eTup (aCons (eTup (aCons (eOp2 dMul (eVar 2) (eVar 4)) (aCons (eOp2 dMul (eVar 3) (eVar 4)) (aNil)))) (aCons (eFrz (aMax (aCons (eTup (aCons (eOp2 iDiv (eIx (eVar 0) (eC (.int 1))) (eVar 1)) (aCons (eOp2 iDiv (eNeg (eIx (eVar 0) (eC (.int 0)))) (eVar 1)) (aNil)))) (aNil)))) (aCons (eC .non) (aNil))))))))
def g_one_row : DFn := fnD 1 b_one_row 4
def b_two_rows : DStm := sSeq (sSet 2 (eCB (bAbs) (aCons (eIx (eVar 1) (eC (.int 1))) (aNil))))
    (sSeq (sIf (eB (eOp2 dNe (eOp2 iMod (eIx (eVar 1) (eC (.int 2))) (eVar 2)) (eC (.int 0)))) (sRet (eTup (aCons (eC .non) (aCons (eFrz (aMax (aNil))) (aCons (eTup (aCons (eSlA (eVar 1) (oSome (eC (.int 3))) (oNone)) (aCons (eVar 2) (aNil)))) (aNil)))))) (sPass))
    (sSeq (sSet 3 (eOp2 iDiv (eIx (eVar 1) (eC (.int 2))) (eIx (eVar 1) (eC (.int 1)))))
    (sSeq (sSet 4 (eOp2 iSub (eIx (eVar 0) (eC (.int 2))) (eOp2 dMul (eIx (eVar 0) (eC (.int 1))) (eVar 3))))
    (sSeq (sIf (eB (eOp2 dNe (eOp2 iMod (eVar 4) (eIx (eVar 0) (eC (.int 0)))) (eC (.int 0)))) (sSeq (sSetO 5 (aLc [6, 7] (itZip (aCons (eSlA (eVar 0) (oSome (eC (.int 3))) (oNone)) (aCons (eSlA (eVar 1) (oSome (eC (.int 3))) (oNone)) (aNil)))) (gT 2 (gsCons (gN 6) (gsCons (gN 7) (gsNil)))) (bYes) (eOp2 iSub (eOp2 dMul (eIx (eVar 1) (eC (.int 1))) (eVar 6)) (eOp2 dMul (eIx (eVar 0) (eC (.int 1))) (eVar 7)))))
    (sRet (eTup (aCons (eC .non) (aCons (eFrz (aMax (aNil))) (aCons (eTup (aCons (eVar 5) (aCons (eOp2 dMul (eCB (bAbs) (aCons (eIx (eVar 0) (eC (.int 0))) (aNil))) (eVar 2)) (aNil)))) (aNil))))))) (sPass))
    (sRet (eTup (aCons (eTup (aCons (eOp2 iDiv (eVar 4) (eIx (eVar 0) (eC (.int 0)))) (aCons (eVar 3) (aNil)))) (aCons (eFrz (aMax (aNil))) (aCons (eC .non) (aNil))))))))))
def g_two_rows : DFn := fnD 2 b_two_rows 6
def b_solved : DStm := sSeq (sSet 2 (eCB (bLen) (aCons (eVar 0) (aNil))))
    (sSeq (sSetO 3 (aMax (aNil)))
    (sSeq (sFor (itEnum (aCons (eVar 0) (aNil))) (gT 2 (gsCons (gN 4) (gsCons (gN 5) (gsNil)))) (sApp 3 (aCons (eOp2 dAdd (eOp2 dAdd (eCB (bTup) (aCons (eVar 5) (aNil))) (eTup (aCons (eIx (eVar 1) (eVar 4)) (aNil)))) (eCB (bTup) (aCons (eFrz (aLc [9] (itR1 (aCons (eVar 2) (aNil))) (gN 9) (bYes) (eCB (bInt) (aCons (eOp2 dEq (eVar 4) (eVar 9)) (aNil))))) (aNil)))) (aNil))))
    (sSeq (sAsgT (eCall 2 g_head_row (aCons (eVar 3) (aCons (eC (.int 0)) (aNil)))) (gT 2 (gsCons (gN 6) (gsCons (gN 7) (gsNil)))))
    (sSeq (sAsgT (eCall 2 g_head_row (aCons (eVar 7) (aCons (eC (.int 1)) (aNil)))) (gT 2 (gsCons (gN 8) (gsCons (gN 7) (gsNil)))))
    (sSeq (sFor (itSeq (eVar 7)) (gN 5) (sIf (eB (eOp2 dNe (eIx (eVar 5) (eC (.int 2))) (eC (.int 0)))) (sRet (eTup (aCons (eC .non) (aCons (eFrz (aMax (aNil))) (aCons (eTup (aCons (eSlA (eVar 5) (oSome (eC (.int 3))) (oNone)) (aCons (eC (.int 0)) (aNil)))) (aNil)))))) (sPass)))
    (sSeq (sIf (bAnd (eB (eOp2 dIsN (eVar 6) (eC .non))) (eB (eOp2 dIsN (eVar 8) (eC .non)))) (sRet (eTup (aCons (eTup (aCons (eC (.int 0)) (aCons (eC (.int 0)) (aNil)))) (aCons (eFrz (aMax (aCons (eTup (aCons (eC (.int 1)) (aCons (eC (.int 0)) (aNil)))) (aCons (eTup (aCons (eC (.int 0)) (aCons (eC (.int 1)) (aNil)))) (aNil))))) (aCons (eC .non) (aNil)))))) (sPass))
    (sSeq (sIf (bOr (eB (eOp2 dIsN (eVar 6) (eC .non))) (eB (eOp2 dIsN (eVar 8) (eC .non)))) (sRet (eCall 1 g_one_row (aCons (eOrT (eVar 6) (eVar 8)) (aNil)))) (sPass))
    (sRet (eCall 2 g_two_rows (aCons (eVar 6) (aCons (eVar 8) (aNil))))))))))))
def g_solved : DFn := fnD 2 b_solved 8
def b_powers_crossing : DStm := sSeq (sSet 3 (eIx (eCall 2 g_solved (aCons (eFrz (aMax (aCons (eTup (aCons (eFld ["Place"] [120] (eVar 0)) (aCons (eFld ["Place"] [120] (eVar 1)) (aNil)))) (aCons (eTup (aCons (eFld ["Place"] [121] (eVar 0)) (aCons (eFld ["Place"] [121] (eVar 1)) (aNil)))) (aNil))))) (aCons (eFrz (aMax (aCons (eFld ["Place"] [120] (eVar 2)) (aCons (eFld ["Place"] [121] (eVar 2)) (aNil))))) (aNil)))) (eC (.int 0))))
    (sSeq (sIf (bOr (eB (eOp2 dIsN (eVar 3) (eC .non))) (eB (eOpX (ownNe "Place" g_PlaceX_eqX) (eOpX (ownO "Place" g_PlaceX_mulX) (eMeth "Place" [112, 111, 119, 101, 114] 2 g_Place_power (eVar 0) (aCons (eIx (eVar 3) (eC (.int 0))) (aNil))) (eMeth "Place" [112, 111, 119, 101, 114] 2 g_Place_power (eVar 1) (aCons (eIx (eVar 3) (eC (.int 1))) (aNil)))) (eVar 2)))) (sRet (eC .non)) (sPass))
    (sRet (eTup (aCons (eVar 3) (aCons (eFrz (aMax (aNil))) (aNil))))))
def g_powers_crossing : DFn := fnD 3 b_powers_crossing 1
def b_settled_pair : DStm := sSeq (sIf (eB (eOp2 dNe (eCB (bLen) (aCons (eVar 1) (aNil))) (eC (.int 1)))) (sRet (eTup (aCons (eVar 0) (aCons (eVar 1) (aNil))))) (sPass))
    (sSeq (sAsgT (eIx (eVar 1) (eC (.int 0))) (gT 2 (gsCons (gN 2) (gsCons (gN 3) (gsNil)))))
    (sSeq (sIf (bOr (eB (eOp2 iLt (eVar 2) (eC (.int 0)))) (bAnd (eB (eOp2 dEq (eVar 2) (eC (.int 0)))) (eB (eOp2 iLt (eVar 3) (eC (.int 0)))))) (sPar 2 3 (aCons (eNeg (eVar 2)) (aCons (eNeg (eVar 3)) (aNil)))) (sPass))
    (sSeq (sSet 4 (eIf (eB (eOp2 iGt (eVar 2) (eC (.int 0)))) (eOp2 iDiv (eIx (eVar 0) (eC (.int 0))) (eVar 2)) (eOp2 iDiv (eIx (eVar 0) (eC (.int 1))) (eVar 3))))
    (sRet (eTup (aCons (eTup (aCons (eOp2 iSub (eIx (eVar 0) (eC (.int 0))) (eOp2 dMul (eVar 4) (eVar 2))) (aCons (eOp2 iSub (eIx (eVar 0) (eC (.int 1))) (eOp2 dMul (eVar 4) (eVar 3))) (aNil)))) (aCons (eFrz (aMax (aCons (eTup (aCons (eVar 2) (aCons (eVar 3) (aNil)))) (aNil)))) (aNil))))))))
def g_settled_pair : DFn := fnD 2 b_settled_pair 3
def b_powers_to : DStm := sSeq (sExpr (eCall 1 g_need_place (aCons (eVar 0) (aNil))))
    (sSeq (sExpr (eCall 1 g_need_place (aCons (eVar 1) (aNil))))
    (sSeq (sExpr (eCall 1 g_need_place (aCons (eVar 2) (aNil))))
    (sSeq (sIf (eB (eOp2 dNe (eMeth "Place" [116, 119, 105, 115, 116] 2 g_Place_twist (eVar 0) (aCons (eVar 1) (aNil))) (eC (.int 0)))) (sRet (eCall 3 g_powers_crossing (aCons (eVar 0) (aCons (eVar 1) (aCons (eVar 2) (aNil)))))) (sPass))
    (sSeq (sSet 3 (eFrz (aLc [9] (itSeq (eTup (aCons (eVar 0) (aCons (eVar 1) (aNil))))) (gN 9) (bOr (eB (eOp2 dNe (eFld ["Place"] [120] (eVar 9)) (eC (.int 0)))) (eB (eOp2 dNe (eFld ["Place"] [121] (eVar 9)) (eC (.int 0))))) (eVar 9))))
    (sSeq (sIf (bNot (eTru (eVar 3))) (sSeq (sIf (bOr (eB (eOp2 dNe (eFld ["Place"] [120] (eVar 2)) (eC (.int 0)))) (eB (eOp2 dNe (eFld ["Place"] [121] (eVar 2)) (eC (.int 0))))) (sRet (eC .non)) (sPass))
    (sAsgT (eCall 2 g_solved (aCons (eFrz (aMax (aCons (eTup (aCons (eFld ["Place"] [97, 114, 101, 97] (eVar 0)) (aCons (eFld ["Place"] [97, 114, 101, 97] (eVar 1)) (aNil)))) (aNil)))) (aCons (eFrz (aMax (aCons (eFld ["Place"] [97, 114, 101, 97] (eVar 2)) (aNil)))) (aNil)))) (gT 3 (gsCons (gN 4) (gsCons (gN 5) (gsCons (gN 6) (gsNil))))))) (sSeq (sSet 7 (eFrz (aLc [9] (itSeq (eTup (aCons (eVar 0) (aCons (eVar 1) (aCons (eVar 2) (aNil)))))) (gN 9) (bYes) (eCall 2 g_figures_along (aCons (eIx (eVar 3) (eC (.int 0))) (aCons (eVar 9) (aNil)))))))
    (sSeq (sIf (eB (eOp2 dIsN (eIx (eVar 7) (eC (.int 2))) (eC .non))) (sRet (eC .non)) (sPass))
    (sSeq (sSetO 8 (aLc [10] (itSeq (eTup (aCons (eC (.int 0)) (aCons (eC (.int 1)) (aNil))))) (gN 10) (bYes) (eTup (aCons (eIx (eIx (eVar 7) (eC (.int 0))) (eVar 10)) (aCons (eIx (eIx (eVar 7) (eC (.int 1))) (eVar 10)) (aNil))))))
    (sAsgT (eCall 2 g_solved (aCons (eVar 8) (aCons (eFrz (aMax (aCons (eIx (eIx (eVar 7) (eC (.int 2))) (eC (.int 0))) (aCons (eIx (eIx (eVar 7) (eC (.int 2))) (eC (.int 1))) (aNil))))) (aNil)))) (gT 3 (gsCons (gN 4) (gsCons (gN 5) (gsCons (gN 6) (gsNil))))))))))
    (sRet (eIf (eB (eOp2 dIsN (eVar 4) (eC .non))) (eC .non) (eCall 2 g_settled_pair (aCons (eVar 4) (aCons (eVar 5) (aNil)))))))))))
def g_powers_to : DFn := fnD 3 b_powers_to 8
def b_law : DStm := sSeq (sSet 1 (eCall 1 g__law_begin (aCons (eVar 0) (aNil))))
    (sSeq (sFor (itR1 (aCons (eC (.int 5)) (aNil))) (gN 2) (sSeq (sPar 3 4 (aCons (eCall 1 g__law_mid_drawn (aCons (eVar 1) (aNil))) (aCons (eCall 1 g__law_mid_drawn (aCons (eVar 1) (aNil))) (aNil))))
    (sSeq (sIf (eB (eOp2 dEq (eCall 2 g__law_twist (aCons (eVar 3) (aCons (eVar 4) (aNil)))) (eC (.int 0)))) (sPar 3 4 (aCons (eTup (aCons (eOp2 dAdd (eC (.int 2)) (eOp2 dMul (eIx (eVar 3) (eC (.int 0))) (eIx (eVar 3) (eC (.int 0))))) (aCons (eIx (eVar 3) (eC (.int 1))) (aCons (eIx (eVar 3) (eC (.int 2))) (aNil))))) (aCons (eTup (aCons (eC (.int 0)) (aCons (eC (.int 3)) (aCons (eIx (eVar 4) (eC (.int 2))) (aNil))))) (aNil)))) (sPass))
    (sSeq (sPar 5 6 (aCons (eOp2 iSub (eCall 2 g__law_draw (aCons (eVar 1) (aCons (eC (.int 2000001)) (aNil)))) (eC (.int 1000000))) (aCons (eCall 1 g__law_small (aCons (eVar 1) (aNil))) (aNil))))
    (sSeq (sSet 7 (eCall 2 g__law_join (aCons (eCall 2 g__law_times (aCons (eVar 3) (aCons (eVar 5) (aNil)))) (aCons (eCall 2 g__law_times (aCons (eVar 4) (aCons (eVar 6) (aNil)))) (aNil)))))
    (sSeq (sSet 8 (eCall 2 g__law_pick (aCons (eVar 1) (aCons (eFrz (aMax (aCons (eTup (aCons (eC (.int 0)) (aCons (eC (.int 0)) (aCons (eC (.int 0)) (aNil))))) (aCons (eTup (aCons (eC (.int 0)) (aCons (eC (.int 0)) (aCons (eC (.int 0)) (aNil))))) (aCons (eTup (aCons (eC (.int 0)) (aCons (eC (.int 0)) (aCons (eC (.int 1)) (aNil))))) (aCons (eTup (aCons (eC (.int 1)) (aCons (eC (.int 0)) (aCons (eC (.int 0)) (aNil))))) (aCons (eTup (aCons (eIx (eVar 3) (eC (.int 0))) (aCons (eIx (eVar 3) (eC (.int 1))) (aCons (eC (.int 0)) (aNil))))) (aNil)))))))) (aNil)))))
    (sSeq (sSet 7 (eTup (aCons (eOp2 dAdd (eIx (eVar 7) (eC (.int 0))) (eIx (eVar 8) (eC (.int 0)))) (aCons (eOp2 dAdd (eIx (eVar 7) (eC (.int 1))) (eIx (eVar 8) (eC (.int 1)))) (aCons (eOp2 dAdd (eIx (eVar 7) (eC (.int 2))) (eIx (eVar 8) (eC (.int 2)))) (aNil))))))
    (sSeq (sIf (eB (eOp2 dEq (eCall 2 g__law_draw (aCons (eVar 1) (aCons (eC (.int 6)) (aNil)))) (eC (.int 0)))) (sSet 7 (eCall 1 g__law_mid_drawn (aCons (eVar 1) (aNil)))) (sPass))
    (sSeq (sSetO 9 (aLc [10] (itSeq (eTup (aCons (eVar 3) (aCons (eVar 4) (aCons (eVar 7) (aNil)))))) (gN 10) (bYes) (eCall 1 g__law_place (aCons (eVar 10) (aNil)))))
    (sSeq (sIf (eB (eOp2 dNe (eCall 3 g_powers_to (aCons (eIx (eVar 9) (eC (.int 0))) (aCons (eIx (eVar 9) (eC (.int 1))) (aCons (eIx (eVar 9) (eC (.int 2))) (aNil))))) (eCall 3 g__law_due (aCons (eVar 3) (aCons (eVar 4) (aCons (eVar 7) (aNil))))))) (sRet (eC (.bl false))) (sPass))
    (sIf (eB (eOp2 dNe (eCall 3 g_powers_to (aCons (eIx (eVar 9) (eC (.int 1))) (aCons (eIx (eVar 9) (eC (.int 0))) (aCons (eIx (eVar 9) (eC (.int 2))) (aNil))))) (eCall 3 g__law_due (aCons (eVar 4) (aCons (eVar 3) (aCons (eVar 7) (aNil))))))) (sRet (eC (.bl false))) (sPass))))))))))))
    (sRet (eC (.bl true))))
def g_law : DFn := fnD 1 b_law 10
structure Ev (G : Gam) (mg : Str → Option Value) where
  C_Place : Addr
  ct_Place : G.ct "Place" = some C_Place
  cl_Place : Cls G.K C_Place
  m_Place : mg "Place" = some (.ref C_Place)
  sf_Place : PySem.W.selfFirst G.K C_Place = true
  ne_Place : PySem.W.findIn G.K (.ref C_Place) "__ne__" = some (some (.builtin "object.__ne__"))
  mo_Place : PySem.W.mroIn G.K C_Place (.type "object") = some true
  na_Place_x : NoAttr G.K C_Place "x"
  na_Place_y : NoAttr G.K C_Place "y"
  na_Place_area : NoAttr G.K C_Place "area"
  a__law_begin : Addr
  fd__law_begin : FuncData
  F__law_begin : Fun G.K "_law_begin" "_law_begin" st__law_begin a__law_begin fd__law_begin
  b__law_begin : L2.Binds G.K fd__law_begin ["_law_script"] []
  m__law_begin : mg "_law_begin" = some (.ref a__law_begin)
  a__law_draw : Addr
  fd__law_draw : FuncData
  F__law_draw : Fun G.K "_law_draw" "_law_draw" st__law_draw a__law_draw fd__law_draw
  b__law_draw : L2.Binds G.K fd__law_draw ["_law_pen", "_law_span"] []
  m__law_draw : mg "_law_draw" = some (.ref a__law_draw)
  a__law_join : Addr
  fd__law_join : FuncData
  F__law_join : Fun G.K "_law_join" "_law_join" st__law_join a__law_join fd__law_join
  b__law_join : L2.Binds G.K fd__law_join ["_law_one", "_law_other"] []
  m__law_join : mg "_law_join" = some (.ref a__law_join)
  a__law_times : Addr
  fd__law_times : FuncData
  F__law_times : Fun G.K "_law_times" "_law_times" st__law_times a__law_times fd__law_times
  b__law_times : L2.Binds G.K fd__law_times ["_law_one", "_law_number"] []
  m__law_times : mg "_law_times" = some (.ref a__law_times)
  a__law_twist : Addr
  fd__law_twist : FuncData
  F__law_twist : Fun G.K "_law_twist" "_law_twist" st__law_twist a__law_twist fd__law_twist
  b__law_twist : L2.Binds G.K fd__law_twist ["_law_one", "_law_other"] []
  m__law_twist : mg "_law_twist" = some (.ref a__law_twist)
  a__law_due : Addr
  fd__law_due : FuncData
  F__law_due : Fun G.K "_law_due" "_law_due" st__law_due a__law_due fd__law_due
  b__law_due : L2.Binds G.K fd__law_due ["_law_one", "_law_other", "_law_goal"] []
  m__law_due : mg "_law_due" = some (.ref a__law_due)
  a__law_pick : Addr
  fd__law_pick : FuncData
  F__law_pick : Fun G.K "_law_pick" "_law_pick" st__law_pick a__law_pick fd__law_pick
  b__law_pick : L2.Binds G.K fd__law_pick ["_law_pen", "_law_some"] []
  m__law_pick : mg "_law_pick" = some (.ref a__law_pick)
  a__law_mid : Addr
  fd__law_mid : FuncData
  F__law_mid : Fun G.K "_law_mid" "_law_mid" st__law_mid a__law_mid fd__law_mid
  b__law_mid : L2.Binds G.K fd__law_mid ["_law_pen"] []
  m__law_mid : mg "_law_mid" = some (.ref a__law_mid)
  a__law_mid_drawn : Addr
  fd__law_mid_drawn : FuncData
  F__law_mid_drawn : Fun G.K "_law_mid_drawn" "_law_mid_drawn" st__law_mid_drawn a__law_mid_drawn fd__law_mid_drawn
  b__law_mid_drawn : L2.Binds G.K fd__law_mid_drawn ["_law_pen"] []
  m__law_mid_drawn : mg "_law_mid_drawn" = some (.ref a__law_mid_drawn)
  a_is_integer : Addr
  fd_is_integer : FuncData
  F_is_integer : Fun G.K "is_integer" "is_integer" st_is_integer a_is_integer fd_is_integer
  b_is_integer : L2.Binds G.K fd_is_integer ["value"] []
  m_is_integer : mg "is_integer" = some (.ref a_is_integer)
  a_PlaceX_initX : Addr
  fd_PlaceX_initX : FuncData
  F_PlaceX_initX : Fun G.K "__init__" "Place.__init__" st_PlaceX_initX a_PlaceX_initX fd_PlaceX_initX
  b_PlaceX_initX : L2.Binds G.K fd_PlaceX_initX ["self", "x", "y", "area"] []
  M_PlaceX_initX : Meth G.K C_Place "__init__" a_PlaceX_initX
  a__law_place : Addr
  fd__law_place : FuncData
  F__law_place : Fun G.K "_law_place" "_law_place" st__law_place a__law_place fd__law_place
  b__law_place : L2.Binds G.K fd__law_place ["_law_row"] []
  m__law_place : mg "_law_place" = some (.ref a__law_place)
  a__law_small : Addr
  fd__law_small : FuncData
  F__law_small : Fun G.K "_law_small" "_law_small" st__law_small a__law_small fd__law_small
  b__law_small : L2.Binds G.K fd__law_small ["_law_pen"] []
  m__law_small : mg "_law_small" = some (.ref a__law_small)
  a_need_place : Addr
  fd_need_place : FuncData
  F_need_place : Fun G.K "need_place" "need_place" st_need_place a_need_place fd_need_place
  b_need_place : L2.Binds G.K fd_need_place ["value"] []
  m_need_place : mg "need_place" = some (.ref a_need_place)
  a_Place_twist : Addr
  fd_Place_twist : FuncData
  F_Place_twist : Fun G.K "twist" "Place.twist" st_Place_twist a_Place_twist fd_Place_twist
  b_Place_twist : L2.Binds G.K fd_Place_twist ["self", "other"] []
  M_Place_twist : Meth G.K C_Place "twist" a_Place_twist
  a_pairs_below : Addr
  fd_pairs_below : FuncData
  F_pairs_below : Fun G.K "pairs_below" "pairs_below" st_pairs_below a_pairs_below fd_pairs_below
  b_pairs_below : L2.Binds G.K fd_pairs_below ["number"] []
  m_pairs_below : mg "pairs_below" = some (.ref a_pairs_below)
  a_Place_power : Addr
  fd_Place_power : FuncData
  F_Place_power : Fun G.K "power" "Place.power" st_Place_power a_Place_power fd_Place_power
  b_Place_power : L2.Binds G.K fd_Place_power ["self", "number"] []
  M_Place_power : Meth G.K C_Place "power" a_Place_power
  a_divisor_of : Addr
  fd_divisor_of : FuncData
  F_divisor_of : Fun G.K "divisor_of" "divisor_of" st_divisor_of a_divisor_of fd_divisor_of
  b_divisor_of : L2.Binds G.K fd_divisor_of ["one", "other"] []
  m_divisor_of : mg "divisor_of" = some (.ref a_divisor_of)
  a_along : Addr
  fd_along : FuncData
  F_along : Fun G.K "along" "along" st_along a_along fd_along
  b_along : L2.Binds G.K fd_along ["place"] []
  m_along : mg "along" = some (.ref a_along)
  a_figures_along : Addr
  fd_figures_along : FuncData
  F_figures_along : Fun G.K "figures_along" "figures_along" st_figures_along a_figures_along fd_figures_along
  b_figures_along : L2.Binds G.K fd_figures_along ["place", "other"] []
  m_figures_along : mg "figures_along" = some (.ref a_figures_along)
  a_PlaceX_eqX : Addr
  fd_PlaceX_eqX : FuncData
  F_PlaceX_eqX : Fun G.K "__eq__" "Place.__eq__" st_PlaceX_eqX a_PlaceX_eqX fd_PlaceX_eqX
  b_PlaceX_eqX : L2.Binds G.K fd_PlaceX_eqX ["self", "other"] []
  M_PlaceX_eqX : Meth G.K C_Place "__eq__" a_PlaceX_eqX
  a_PlaceX_mulX : Addr
  fd_PlaceX_mulX : FuncData
  F_PlaceX_mulX : Fun G.K "__mul__" "Place.__mul__" st_PlaceX_mulX a_PlaceX_mulX fd_PlaceX_mulX
  b_PlaceX_mulX : L2.Binds G.K fd_PlaceX_mulX ["self", "other"] []
  M_PlaceX_mulX : Meth G.K C_Place "__mul__" a_PlaceX_mulX
  a_row_less : Addr
  fd_row_less : FuncData
  F_row_less : Fun G.K "row_less" "row_less" st_row_less a_row_less fd_row_less
  b_row_less : L2.Binds G.K fd_row_less ["row", "other", "times"] []
  m_row_less : mg "row_less" = some (.ref a_row_less)
  a_head_row : Addr
  fd_head_row : FuncData
  F_head_row : Fun G.K "head_row" "head_row" st_head_row a_head_row fd_head_row
  b_head_row : L2.Binds G.K fd_head_row ["rows", "column"] []
  m_head_row : mg "head_row" = some (.ref a_head_row)
  a_bezout_of : Addr
  fd_bezout_of : FuncData
  F_bezout_of : Fun G.K "bezout_of" "bezout_of" st_bezout_of a_bezout_of fd_bezout_of
  b_bezout_of : L2.Binds G.K fd_bezout_of ["one", "other"] []
  m_bezout_of : mg "bezout_of" = some (.ref a_bezout_of)
  a_one_row : Addr
  fd_one_row : FuncData
  F_one_row : Fun G.K "one_row" "one_row" st_one_row a_one_row fd_one_row
  b_one_row : L2.Binds G.K fd_one_row ["row"] []
  m_one_row : mg "one_row" = some (.ref a_one_row)
  a_two_rows : Addr
  fd_two_rows : FuncData
  F_two_rows : Fun G.K "two_rows" "two_rows" st_two_rows a_two_rows fd_two_rows
  b_two_rows : L2.Binds G.K fd_two_rows ["first", "second"] []
  m_two_rows : mg "two_rows" = some (.ref a_two_rows)
  a_solved : Addr
  fd_solved : FuncData
  F_solved : Fun G.K "solved" "solved" st_solved a_solved fd_solved
  b_solved : L2.Binds G.K fd_solved ["rows", "goals"] []
  m_solved : mg "solved" = some (.ref a_solved)
  a_powers_crossing : Addr
  fd_powers_crossing : FuncData
  F_powers_crossing : Fun G.K "powers_crossing" "powers_crossing" st_powers_crossing a_powers_crossing fd_powers_crossing
  b_powers_crossing : L2.Binds G.K fd_powers_crossing ["one", "other", "goal"] []
  m_powers_crossing : mg "powers_crossing" = some (.ref a_powers_crossing)
  a_settled_pair : Addr
  fd_settled_pair : FuncData
  F_settled_pair : Fun G.K "settled_pair" "settled_pair" st_settled_pair a_settled_pair fd_settled_pair
  b_settled_pair : L2.Binds G.K fd_settled_pair ["pair", "kernel"] []
  m_settled_pair : mg "settled_pair" = some (.ref a_settled_pair)
  a_powers_to : Addr
  fd_powers_to : FuncData
  F_powers_to : Fun G.K "powers_to" "powers_to" st_powers_to a_powers_to fd_powers_to
  b_powers_to : L2.Binds G.K fd_powers_to ["one", "other", "goal"] []
  m_powers_to : mg "powers_to" = some (.ref a_powers_to)
  a_law : Addr
  fd_law : FuncData
  F_law : Fun G.K "law" "law" st_law a_law fd_law
  b_law : L2.Binds G.K fd_law ["_law_script"] []
  m_law : mg "law" = some (.ref a_law)
  mk_Place : Mk G.K C_Place a_PlaceX_initX
  f_area : FldOk G ["Place"] [97, 114, 101, 97]
  f_x : FldOk G ["Place"] [120]
  f_y : FldOk G ["Place"] [121]
  z_abs : mg "abs" = none
  z_bool : mg "bool" = none
  z_enumerate : mg "enumerate" = none
  z_int : mg "int" = none
  z_isinstance : mg "isinstance" = none
  z_len : mg "len" = none
  z_list : mg "list" = none
  z_range : mg "range" = none
  z_tuple : mg "tuple" = none
  z_zip : mg "zip" = none
  iso : IsOk G ["Place"]
section
variable {P : Program} {w0 : World} {G : Gam} {mg : Str → Option Value} {base : Heap}
theorem ok__law_begin (e : Ev G mg) : FnOk P w0 G.K mg base (L2.CX P w0) 1 e.a__law_begin e.fd__law_begin ["_law_script"] (spG G 1 g__law_begin) :=
  fn_okD e.F__law_begin sc__law_begin rfl rfl fun cdv A outer s H E hr tk ps => pdss_one (pds_ret (pdod_cell (pdod_disp (fs := [(eC (.str [99, 101, 108, 108, 115]), eFrz (aList (aCons (eSlA (eVar 0) (oNone) (oSome (eC (.int 63)))) (aNil)))), (eC (.str [99, 111, 117, 110, 116]), eC (.int 0)), (eC (.str [108, 101, 102, 116]), eC (.int 0))]) (pps_cons (pd_str s_2) (pdo_frz (pdo_list rfl (by rfl) e.z_list boot_list (pda_cons (pd_slA rfl (pd_var (pv 0)) (pdo_none) (pdo_some (pd_int))) (pda_nil)))) (pps_cons (pd_str s_1) (pd_int) (pps_cons (pd_str s_0) (pd_int) (pps_nil)))) (by rfl) (by rfl) (fun z => by cases z) (by decide))))
theorem ok__law_draw (e : Ev G mg) : FnOk P w0 G.K mg base (L2.CX P w0) 1 e.a__law_draw e.fd__law_draw ["_law_pen", "_law_span"] (spG G 2 g__law_draw) :=
  fn_okD e.F__law_draw sc__law_draw rfl rfl fun cdv A outer s H E hr tk ps => pdss_cons (pds_if (ptd_cmp (opd_ge) (pd_dget (hu_of hr) (pd_var (pv 0)) (pd_str s_0) (fun _ _ => rfl)) (pd_var (pv 1)) (nomark _)) (pdss_cons (pds_set (i := 2) sc__law_draw.nd rfl (.inl rfl) (pd_op (opd_mod) (pd_callTy cd_int (by rfl) e.z_int (by decide +kernel) (pda_cons (pd_dget (hu_of hr) (pd_var (pv 0)) (pd_str s_0) (fun _ _ => rfl)) (pda_nil))) (pd_var (pv 1))))
    (pdss_cons (pds_dputC (hu_of hr) (pd_var (pv 0)) (pd_str s_0) (pd_op (opd_div) (pd_dget (hu_of hr) (pd_var (pv 0)) (pd_str s_0) (fun _ _ => rfl)) (pd_var (pv 1))))
    (pdss_one (pds_ret (pd_var (pv 2)))))) (pdss_nil))
    (pdss_cons (pds_set (i := 3) sc__law_draw.nd rfl (.inl rfl) (pd_dget (hu_of hr) (pd_var (pv 0)) (pd_str s_1) (fun _ _ => rfl)))
    (pdss_cons (pds_dputC (hu_of hr) (pd_var (pv 0)) (pd_str s_1) (pd_op (opd_addA rfl) (pd_var (pv 3)) (pd_int)))
    (pdss_cons (pds_set (i := 4) sc__law_draw.nd rfl (.inl rfl) (pd_op (opd_addA rfl) (pd_op (opd_mulA) (pd_int) (pd_var (pv 3))) (pd_int)))
    (pdss_cons (pds_if (ptd_cmp (opd_ne rfl hr.units) (pd_dget (hu_of hr) (pd_var (pv 0)) (pd_str s_2) (fun _ _ => rfl)) (pdo_frz (pdo_lst (pda_nil))) (nomark _)) (pdss_one (pds_set (i := 4) sc__law_draw.nd rfl (.inl rfl) (pd_ix rfl (pd_dget (hu_of hr) (pd_var (pv 0)) (pd_str s_2) (fun _ _ => rfl)) (pd_op (opd_mod) (pd_callTy cd_int (by rfl) e.z_int (by decide +kernel) (pda_cons (pd_var (pv 3)) (pda_nil))) (pd_callB (cd_len rfl) (by rfl) e.z_len (by decide +kernel) (pda_cons (pd_dget (hu_of hr) (pd_var (pv 0)) (pd_str s_2) (fun _ _ => rfl)) (pda_nil)))) (fun _ _ => rfl)))) (pdss_nil))
    (pdss_cons (pds_if ((pwd_and (ptd_cmp (opd_lt) (pd_var (pv 3)) (pd_callB (cd_len rfl) (by rfl) e.z_len (by decide +kernel) (pda_cons (pd_dget (hu_of hr) (pd_var (pv 0)) (pd_str s_2) (fun _ _ => rfl)) (pda_nil))) (nomark _)) (pwd_and1 (ptd_cmp (opd_ge) (pd_var (pv 4)) (pd_op (opd_pow) (pd_int) (pd_int)) (nomark _)))).pt) (pdss_cons (pds_dputC (hu_of hr) (pd_var (pv 0)) (pd_str s_0) (pd_op (opd_div) (pd_op (opd_sub) (pd_var (pv 4)) (pd_op (opd_pow) (pd_int) (pd_int))) (pd_var (pv 1))))
    (pdss_one (pds_ret (pd_op (opd_mod) (pd_callTy cd_int (by rfl) e.z_int (by decide +kernel) (pda_cons (pd_op (opd_sub) (pd_var (pv 4)) (pd_op (opd_pow) (pd_int) (pd_int))) (pda_nil))) (pd_var (pv 1)))))) (pdss_nil))
    (pdss_cons (pds_set (i := 5) sc__law_draw.nd rfl (.inl rfl) (pd_op (opd_addA rfl) (pd_op (opd_mulA) (pd_op (opd_mod) (pd_callTy cd_int (by rfl) e.z_int (by decide +kernel) (pda_cons (pd_var (pv 4)) (pda_nil))) (pd_int)) (pd_int)) (pd_op (opd_mulA) (pd_op (opd_mulA) (pd_int) (pd_var (pv 3))) (pd_var (pv 3)))))
    (pdss_cons (pds_set (i := 6) sc__law_draw.nd rfl (.inl rfl) (pd_op (opd_mod) (pd_callTy cd_int (by rfl) e.z_int (by decide +kernel) (pda_cons (pd_op (opd_addA rfl) (pd_op (opd_addA rfl) (pd_var (pv 5)) (pd_op (opd_mulA) (pd_int) (pd_var (pv 3)))) (pd_int)) (pda_nil))) (pd_int)))
    (pdss_cons (pds_set (i := 6) sc__law_draw.nd rfl (.inl rfl) (pd_op (opd_mod) (pd_callTy cd_int (by rfl) e.z_int (by decide +kernel) (pda_cons (pd_op (opd_mulA) (pd_var (pv 6)) (pd_op (opd_addA rfl) (pd_var (pv 6)) (pd_int))) (pda_nil))) (pd_int)))
    (pdss_one (pds_ret (pd_op (opd_mod) (pd_callTy cd_int (by rfl) e.z_int (by decide +kernel) (pda_cons (pd_op (opd_div) (pd_op (opd_mod) (pd_callTy cd_int (by rfl) e.z_int (by decide +kernel) (pda_cons (pd_op (opd_addA rfl) (pd_op (opd_mulA) (pd_var (pv 6)) (pd_var (pv 6))) (pd_op (opd_mulA) (pd_int) (pd_var (pv 6)))) (pda_nil))) (pd_int)) (pd_int)) (pda_nil))) (pd_var (pv 1)))))))))))))
theorem ok__law_join (e : Ev G mg) : FnOk P w0 G.K mg base (L2.CX P w0) 1 e.a__law_join e.fd__law_join ["_law_one", "_law_other"] (spG G 2 g__law_join) :=
  fn_okD e.F__law_join sc__law_join rfl rfl fun cdv A outer s H E hr tk ps => pdss_cons (pds_asg (pd_var (pv 0)) (pdg_tup rfl rfl (pdgs_cons (pdg_name (i := 2) sc__law_join.nd rfl (.inl rfl)) (pdgs_cons (pdg_name (i := 3) sc__law_join.nd rfl (.inl rfl)) (pdgs_cons (pdg_name (i := 4) sc__law_join.nd rfl (.inl rfl)) (pdgs_nil))))))
    (pdss_cons (pds_asg (pd_var (pv 1)) (pdg_tup rfl rfl (pdgs_cons (pdg_name (i := 5) sc__law_join.nd rfl (.inl rfl)) (pdgs_cons (pdg_name (i := 6) sc__law_join.nd rfl (.inl rfl)) (pdgs_cons (pdg_name (i := 7) sc__law_join.nd rfl (.inl rfl)) (pdgs_nil))))))
    (pdss_one (pds_ret (pd_tup (pda_cons (pd_op (opd_addA rfl) (pd_var (pv 2)) (pd_var (pv 5))) (pda_cons (pd_op (opd_addA rfl) (pd_var (pv 3)) (pd_var (pv 6))) (pda_cons (pd_op (opd_addA rfl) (pd_op (opd_addA rfl) (pd_var (pv 4)) (pd_var (pv 7))) (pd_op (opd_mulA) (pd_var (pv 2)) (pd_var (pv 6)))) (pda_nil))))))))
theorem ok__law_times (e : Ev G mg) : FnOk P w0 G.K mg base (L2.CX P w0) 1 e.a__law_times e.fd__law_times ["_law_one", "_law_number"] (spG G 2 g__law_times) :=
  fn_okD e.F__law_times sc__law_times rfl rfl fun cdv A outer s H E hr tk ps => pdss_cons (pds_asg (pd_var (pv 0)) (pdg_tup rfl rfl (pdgs_cons (pdg_name (i := 2) sc__law_times.nd rfl (.inl rfl)) (pdgs_cons (pdg_name (i := 3) sc__law_times.nd rfl (.inl rfl)) (pdgs_cons (pdg_name (i := 4) sc__law_times.nd rfl (.inl rfl)) (pdgs_nil))))))
    (pdss_cons (pds_set (i := 5) sc__law_times.nd rfl (.inl rfl) (pd_op (opd_div) (pd_op (opd_mulA) (pd_var (pv 1)) (pd_op (opd_sub) (pd_var (pv 1)) (pd_int))) (pd_int)))
    (pdss_one (pds_ret (pd_tup (pda_cons (pd_op (opd_mulA) (pd_var (pv 1)) (pd_var (pv 2))) (pda_cons (pd_op (opd_mulA) (pd_var (pv 1)) (pd_var (pv 3))) (pda_cons (pd_op (opd_addA rfl) (pd_op (opd_mulA) (pd_var (pv 1)) (pd_var (pv 4))) (pd_op (opd_mulA) (pd_op (opd_mulA) (pd_var (pv 5)) (pd_var (pv 2))) (pd_var (pv 3)))) (pda_nil))))))))
theorem ok__law_twist (e : Ev G mg) : FnOk P w0 G.K mg base (L2.CX P w0) 1 e.a__law_twist e.fd__law_twist ["_law_one", "_law_other"] (spG G 2 g__law_twist) :=
  fn_okD e.F__law_twist sc__law_twist rfl rfl fun cdv A outer s H E hr tk ps => pdss_one (pds_ret (pd_op (opd_sub) (pd_op (opd_mulA) (pd_ix rfl (pd_var (pv 0)) (pd_int) (fun _ _ => rfl)) (pd_ix rfl (pd_var (pv 1)) (pd_int) (fun _ _ => rfl))) (pd_op (opd_mulA) (pd_ix rfl (pd_var (pv 1)) (pd_int) (fun _ _ => rfl)) (pd_ix rfl (pd_var (pv 0)) (pd_int) (fun _ _ => rfl)))))
theorem ok__law_due (e : Ev G mg) : FnOk P w0 G.K mg base (L2.CX P w0) 3 e.a__law_due e.fd__law_due ["_law_one", "_law_other", "_law_goal"] (spG G 3 g__law_due) :=
  fn_okD e.F__law_due sc__law_due rfl rfl fun cdv A outer s H E hr tk ps => pdss_cons (pds_set (i := 3) sc__law_due.nd rfl (.inl rfl) (pd_call (ok__law_twist e) (hr.mono (by decide)) (by rfl) e.m__law_twist e.F__law_twist.kp e.b__law_twist tk (pda_cons (pd_var (pv 0)) (pda_cons (pd_var (pv 1)) (pda_nil)))))
    (pdss_cons (pds_par (i := 4) (j := 5) rfl sc__law_due.nd rfl rfl (by decide) rfl rfl (pda_cons (pd_call (ok__law_twist e) (hr.mono (by decide)) (by rfl) e.m__law_twist e.F__law_twist.kp e.b__law_twist tk (pda_cons (pd_var (pv 2)) (pda_cons (pd_var (pv 1)) (pda_nil)))) (pda_cons (pd_call (ok__law_twist e) (hr.mono (by decide)) (by rfl) e.m__law_twist e.F__law_twist.kp e.b__law_twist tk (pda_cons (pd_var (pv 0)) (pda_cons (pd_var (pv 2)) (pda_nil)))) (pda_nil))) (by rfl))
    (pdss_cons (pds_if ((pwd_or (ptd_cmp (opd_ne rfl hr.units) (pd_op (opd_mod) (pd_callTy cd_int (by rfl) e.z_int (by decide +kernel) (pda_cons (pd_var (pv 4)) (pda_nil))) (pd_var (pv 3))) (pd_int) (nomark _)) (pwd_or1 (ptd_cmp (opd_ne rfl hr.units) (pd_op (opd_mod) (pd_callTy cd_int (by rfl) e.z_int (by decide +kernel) (pda_cons (pd_var (pv 5)) (pda_nil))) (pd_var (pv 3))) (pd_int) (nomark _)))).pt) (pdss_one (pds_ret (pd_non))) (pdss_nil))
    (pdss_cons (pds_par (i := 4) (j := 5) rfl sc__law_due.nd rfl rfl (by decide) rfl rfl (pda_cons (pd_op (opd_div) (pd_var (pv 4)) (pd_var (pv 3))) (pda_cons (pd_op (opd_div) (pd_var (pv 5)) (pd_var (pv 3))) (pda_nil))) (by rfl))
    (pdss_cons (pds_if (ptd_cmp (opd_ne rfl hr.units) (pd_call (ok__law_join e) (hr.mono (by decide)) (by rfl) e.m__law_join e.F__law_join.kp e.b__law_join tk (pda_cons (pd_call (ok__law_times e) (hr.mono (by decide)) (by rfl) e.m__law_times e.F__law_times.kp e.b__law_times tk (pda_cons (pd_var (pv 0)) (pda_cons (pd_var (pv 4)) (pda_nil)))) (pda_cons (pd_call (ok__law_times e) (hr.mono (by decide)) (by rfl) e.m__law_times e.F__law_times.kp e.b__law_times tk (pda_cons (pd_var (pv 1)) (pda_cons (pd_var (pv 5)) (pda_nil)))) (pda_nil)))) (pd_var (pv 2)) (nomark _)) (pdss_one (pds_ret (pd_non))) (pdss_nil))
    (pdss_one (pds_ret (pd_tup (pda_cons (pd_tup (pda_cons (pd_var (pv 4)) (pda_cons (pd_var (pv 5)) (pda_nil)))) (pda_cons (pdo_frz (pdo_lst (pda_nil))) (pda_nil))))))))))
theorem ok__law_pick (e : Ev G mg) : FnOk P w0 G.K mg base (L2.CX P w0) 3 e.a__law_pick e.fd__law_pick ["_law_pen", "_law_some"] (spG G 2 g__law_pick) :=
  fn_okD e.F__law_pick sc__law_pick rfl rfl fun cdv A outer s H E hr tk ps => pdss_one (pds_ret (pd_ix rfl (pd_var (pv 1)) (pd_call (ok__law_draw e) (hr.mono (by decide)) (by rfl) e.m__law_draw e.F__law_draw.kp e.b__law_draw tk (pda_cons (pd_var (pv 0)) (pda_cons (pd_callB (cd_len rfl) (by rfl) e.z_len (by decide +kernel) (pda_cons (pd_var (pv 1)) (pda_nil))) (pda_nil)))) (fun _ _ => rfl)))
theorem ok__law_mid (e : Ev G mg) : FnOk P w0 G.K mg base (L2.CX P w0) 5 e.a__law_mid e.fd__law_mid ["_law_pen"] (spG G 1 g__law_mid) :=
  fn_okD e.F__law_mid sc__law_mid rfl rfl fun cdv A outer s H E hr tk ps => pdss_cons (pds_set (i := 1) sc__law_mid.nd rfl (.inl rfl) (pd_op (opd_sub) (pd_call (ok__law_draw e) (hr.mono (by decide)) (by rfl) e.m__law_draw e.F__law_draw.kp e.b__law_draw tk (pda_cons (pd_var (pv 0)) (pda_cons (pd_int) (pda_nil)))) (pd_int)))
    (pdss_one (pds_ret (pd_op (opd_addA rfl) (pd_var (pv 1)) (pd_call (ok__law_pick e) (hr.mono (by decide)) (by rfl) e.m__law_pick e.F__law_pick.kp e.b__law_pick tk (pda_cons (pd_var (pv 0)) (pda_cons (pdo_frz (pdo_lst (pda_cons (pd_int) (pda_cons (pd_int) (pda_cons (pd_int) (pda_cons (pd_op (opd_pow) (pd_int) (pd_int)) (pda_cons (pd_neg (pd_op (opd_pow) (pd_int) (pd_int))) (pda_nil)))))))) (pda_nil)))))))
theorem ok__law_mid_drawn (e : Ev G mg) : FnOk P w0 G.K mg base (L2.CX P w0) 7 e.a__law_mid_drawn e.fd__law_mid_drawn ["_law_pen"] (spG G 1 g__law_mid_drawn) :=
  fn_okD e.F__law_mid_drawn sc__law_mid_drawn rfl rfl fun cdv A outer s H E hr tk ps => pdss_cons (pds_set (i := 1) sc__law_mid_drawn.nd rfl (.inl rfl) (pd_tup (pda_cons (pd_call (ok__law_mid e) (hr.mono (by decide)) (by rfl) e.m__law_mid e.F__law_mid.kp e.b__law_mid tk (pda_cons (pd_var (pv 0)) (pda_nil))) (pda_cons (pd_call (ok__law_mid e) (hr.mono (by decide)) (by rfl) e.m__law_mid e.F__law_mid.kp e.b__law_mid tk (pda_cons (pd_var (pv 0)) (pda_nil))) (pda_cons (pd_op (opd_mulA) (pd_call (ok__law_mid e) (hr.mono (by decide)) (by rfl) e.m__law_mid e.F__law_mid.kp e.b__law_mid tk (pda_cons (pd_var (pv 0)) (pda_nil))) (pd_call (ok__law_pick e) (hr.mono (by decide)) (by rfl) e.m__law_pick e.F__law_pick.kp e.b__law_pick tk (pda_cons (pd_var (pv 0)) (pda_cons (pdo_frz (pdo_lst (pda_cons (pd_int) (pda_cons (pd_int) (pda_cons (pd_op (opd_addA rfl) (pd_op (opd_pow) (pd_int) (pd_int)) (pd_int)) (pda_nil)))))) (pda_nil))))) (pda_nil))))))
    (pdss_cons (pds_set (i := 2) sc__law_mid_drawn.nd rfl (.inl rfl) (pd_call (ok__law_draw e) (hr.mono (by decide)) (by rfl) e.m__law_draw e.F__law_draw.kp e.b__law_draw tk (pda_cons (pd_var (pv 0)) (pda_cons (pd_int) (pda_nil)))))
    (pdss_cons (pds_if (ptd_cmp (opd_eq rfl hr.units) (pd_var (pv 2)) (pd_int) (nomark _)) (pdss_one (pds_set (i := 1) sc__law_mid_drawn.nd rfl (.inl rfl) (pd_tup (pda_cons (pd_int) (pda_cons (pd_int) (pda_cons (pd_ix rfl (pd_var (pv 1)) (pd_int) (fun _ _ => rfl)) (pda_nil))))))) (pdss_nil))
    (pdss_cons (pds_if (ptd_cmp (opd_eq rfl hr.units) (pd_var (pv 2)) (pd_int) (nomark _)) (pdss_one (pds_set (i := 1) sc__law_mid_drawn.nd rfl (.inl rfl) (pd_call (ok__law_pick e) (hr.mono (by decide)) (by rfl) e.m__law_pick e.F__law_pick.kp e.b__law_pick tk (pda_cons (pd_var (pv 0)) (pda_cons (pdo_frz (pdo_lst (pda_cons (pd_tup (pda_cons (pd_ix rfl (pd_var (pv 1)) (pd_int) (fun _ _ => rfl)) (pda_cons (pd_int) (pda_cons (pd_ix rfl (pd_var (pv 1)) (pd_int) (fun _ _ => rfl)) (pda_nil))))) (pda_cons (pd_tup (pda_cons (pd_int) (pda_cons (pd_ix rfl (pd_var (pv 1)) (pd_int) (fun _ _ => rfl)) (pda_cons (pd_ix rfl (pd_var (pv 1)) (pd_int) (fun _ _ => rfl)) (pda_nil))))) (pda_nil))))) (pda_nil)))))) (pdss_nil))
    (pdss_one (pds_ret (pd_var (pv 1)))))))
theorem ok_is_integer (e : Ev G mg) : FnOk P w0 G.K mg base (L2.CX P w0) 1 e.a_is_integer e.fd_is_integer ["value"] (spG G 1 g_is_integer) :=
  fn_okD e.F_is_integer sc_is_integer rfl rfl fun cdv A outer s H E hr tk ps => pdss_one (pds_ret (pd_andT rfl (pd_callB (cd_isi rfl e.iso) (by rfl) e.z_isinstance (by decide +kernel) (pda_cons (pd_var (pv 0)) (pda_cons (pd_bltn (by rfl) e.z_int boot_int) (pda_nil)))) (pd_one (pd_notT rfl (pd_callB (cd_isi rfl e.iso) (by rfl) e.z_isinstance (by decide +kernel) (pda_cons (pd_var (pv 0)) (pda_cons (pd_bltn (by rfl) e.z_bool boot_bool) (pda_nil))))))))
theorem ok_PlaceX_initX (e : Ev G mg) : FnOk P w0 G.K mg base (L2.CX P w0) 3 e.a_PlaceX_initX e.fd_PlaceX_initX ["self", "x", "y", "area"] (spI G "Place" 3 g_PlaceX_initX) :=
  in_okD e.F_PlaceX_initX sc_PlaceX_initX rfl rfl fun cdv A outer s H E hr tk ps => pdss_cons (pds_for ps rfl (pdi_seq rfl (pd_tup (pda_cons (pd_var (pv 1)) (pda_cons (pd_var (pv 2)) (pda_cons (pd_var (pv 3)) (pda_nil)))))) (pdg_name (i := 4) sc_PlaceX_initX.nd rfl (.inl rfl)) (pdss_one (pds_if (ptd_not (ptd_truth rfl (pd_call (ok_is_integer e) (hr.mono (by decide)) (by rfl) e.m_is_integer e.F_is_integer.kp e.b_is_integer tk (pda_cons (pd_var (pv 4)) (pda_nil))))) (pdss_one (pds_never)) (pdss_nil))))
    (pdss_cons (pds_fld rfl (pv 0) s_3 e.ct_Place e.cl_Place (e.na_Place_x) (pd_var (pv 1)))
    (pdss_cons (pds_fld rfl (pv 0) s_4 e.ct_Place e.cl_Place (e.na_Place_y) (pd_var (pv 2)))
    (pdss_one (pds_fld rfl (pv 0) s_5 e.ct_Place e.cl_Place (e.na_Place_area) (pd_var (pv 3))))))
theorem ok__law_place (e : Ev G mg) : FnOk P w0 G.K mg base (L2.CX P w0) 5 e.a__law_place e.fd__law_place ["_law_row"] (spG G 1 g__law_place) :=
  fn_okD e.F__law_place sc__law_place rfl rfl fun cdv A outer s H E hr tk ps => pdss_one (pds_ret (pd_make e.mk_Place e.ct_Place (ok_PlaceX_initX e) (hr.mono (by decide)) (by rfl) e.m_Place e.b_PlaceX_initX tk (pda_cons (pd_ix rfl (pd_var (pv 0)) (pd_int) (fun _ _ => rfl)) (pda_cons (pd_ix rfl (pd_var (pv 0)) (pd_int) (fun _ _ => rfl)) (pda_cons (pd_ix rfl (pd_var (pv 0)) (pd_int) (fun _ _ => rfl)) (pda_nil))))))
theorem ok__law_small (e : Ev G mg) : FnOk P w0 G.K mg base (L2.CX P w0) 3 e.a__law_small e.fd__law_small ["_law_pen"] (spG G 1 g__law_small) :=
  fn_okD e.F__law_small sc__law_small rfl rfl fun cdv A outer s H E hr tk ps => pdss_one (pds_ret (pd_op (opd_sub) (pd_call (ok__law_draw e) (hr.mono (by decide)) (by rfl) e.m__law_draw e.F__law_draw.kp e.b__law_draw tk (pda_cons (pd_var (pv 0)) (pda_cons (pd_int) (pda_nil)))) (pd_int)))
theorem ok_need_place (e : Ev G mg) : FnOk P w0 G.K mg base (L2.CX P w0) 1 e.a_need_place e.fd_need_place ["value"] (spG G 1 g_need_place) :=
  fn_okD e.F_need_place sc_need_place rfl rfl fun cdv A outer s H E hr tk ps => pdss_one (pds_if (ptd_not (ptd_truth rfl (pd_callB (cd_isi rfl e.iso) (by rfl) e.z_isinstance (by decide +kernel) (pda_cons (pd_var (pv 0)) (pda_cons (pd_cls (by rfl) e.m_Place e.ct_Place) (pda_nil)))))) (pdss_one (pds_never)) (pdss_nil))
theorem ok_Place_twist (e : Ev G mg) : FnOk P w0 G.K mg base (L2.CX P w0) 3 e.a_Place_twist e.fd_Place_twist ["self", "other"] (spG G 2 g_Place_twist) :=
  fn_okD e.F_Place_twist sc_Place_twist rfl rfl fun cdv A outer s H E hr tk ps => pdss_cons (pds_expr (pd_call (ok_need_place e) (hr.mono (by decide)) (by rfl) e.m_need_place e.F_need_place.kp e.b_need_place tk (pda_cons (pd_var (pv 1)) (pda_nil))))
    (pdss_one (pds_ret (pd_op (opd_sub) (pd_op (opd_mulA) (pd_fld rfl s_3 e.f_x (pd_var (pv 0))) (pd_fld rfl s_4 e.f_y (pd_var (pv 1)))) (pd_op (opd_mulA) (pd_fld rfl s_3 e.f_x (pd_var (pv 1))) (pd_fld rfl s_4 e.f_y (pd_var (pv 0)))))))
theorem ok_pairs_below (e : Ev G mg) : FnOk P w0 G.K mg base (L2.CX P w0) 1 e.a_pairs_below e.fd_pairs_below ["number"] (spG G 1 g_pairs_below) :=
  fn_okD e.F_pairs_below sc_pairs_below rfl rfl fun cdv A outer s H E hr tk ps => pdss_one (pds_ret (pd_op (opd_div) (pd_op (opd_mulA) (pd_var (pv 0)) (pd_op (opd_sub) (pd_var (pv 0)) (pd_int))) (pd_int)))
theorem ok_Place_power (e : Ev G mg) : FnOk P w0 G.K mg base (L2.CX P w0) 5 e.a_Place_power e.fd_Place_power ["self", "number"] (spG G 2 g_Place_power) :=
  fn_okD e.F_Place_power sc_Place_power rfl rfl fun cdv A outer s H E hr tk ps => pdss_cons (pds_if (ptd_not (ptd_truth rfl (pd_call (ok_is_integer e) (hr.mono (by decide)) (by rfl) e.m_is_integer e.F_is_integer.kp e.b_is_integer tk (pda_cons (pd_var (pv 1)) (pda_nil))))) (pdss_one (pds_never)) (pdss_nil))
    (pdss_one (pds_ret (pd_make e.mk_Place e.ct_Place (ok_PlaceX_initX e) (hr.mono (by decide)) (by rfl) e.m_Place e.b_PlaceX_initX tk (pda_cons (pd_op (opd_mulA) (pd_var (pv 1)) (pd_fld rfl s_3 e.f_x (pd_var (pv 0)))) (pda_cons (pd_op (opd_mulA) (pd_var (pv 1)) (pd_fld rfl s_4 e.f_y (pd_var (pv 0)))) (pda_cons (pd_op (opd_addA rfl) (pd_op (opd_mulA) (pd_var (pv 1)) (pd_fld rfl s_5 e.f_area (pd_var (pv 0)))) (pd_op (opd_mulA) (pd_op (opd_mulA) (pd_call (ok_pairs_below e) (hr.mono (by decide)) (by rfl) e.m_pairs_below e.F_pairs_below.kp e.b_pairs_below tk (pda_cons (pd_var (pv 1)) (pda_nil))) (pd_fld rfl s_3 e.f_x (pd_var (pv 0)))) (pd_fld rfl s_4 e.f_y (pd_var (pv 0))))) (pda_nil)))))))
theorem ok_divisor_of (e : Ev G mg) : FnOk P w0 G.K mg base (L2.CX P w0) 1 e.a_divisor_of e.fd_divisor_of ["one", "other"] (spG G 2 g_divisor_of) :=
  fn_okD e.F_divisor_of sc_divisor_of rfl rfl fun cdv A outer s H E hr tk ps => pdss_cons (pds_par (i := 0) (j := 1) rfl sc_divisor_of.nd rfl rfl (by decide) rfl rfl (pda_cons (pd_callB cd_abs (by rfl) e.z_abs (by decide +kernel) (pda_cons (pd_var (pv 0)) (pda_nil))) (pda_cons (pd_callB cd_abs (by rfl) e.z_abs (by decide +kernel) (pda_cons (pd_var (pv 1)) (pda_nil))) (pda_nil))) (by rfl))
    (pdss_cons (pds_while ps (ptd_cmp (opd_gt) (pd_var (pv 1)) (pd_int) (nomark _)) (pdss_one (pds_par (i := 0) (j := 1) rfl sc_divisor_of.nd rfl rfl (by decide) rfl rfl (pda_cons (pd_var (pv 1)) (pda_cons (pd_op (opd_mod) (pd_var (pv 0)) (pd_var (pv 1))) (pda_nil))) (by rfl))))
    (pdss_one (pds_ret (pd_var (pv 0)))))
theorem ok_along (e : Ev G mg) : FnOk P w0 G.K mg base (L2.CX P w0) 5 e.a_along e.fd_along ["place"] (spG G 1 g_along) :=
  fn_okD e.F_along sc_along rfl rfl fun cdv A outer s H E hr tk ps => pdss_cons (pds_expr (pd_call (ok_need_place e) (hr.mono (by decide)) (by rfl) e.m_need_place e.F_need_place.kp e.b_need_place tk (pda_cons (pd_var (pv 0)) (pda_nil))))
    (pdss_cons (pds_set (i := 1) sc_along.nd rfl (.inl rfl) (pd_call (ok_divisor_of e) (hr.mono (by decide)) (by rfl) e.m_divisor_of e.F_divisor_of.kp e.b_divisor_of tk (pda_cons (pd_fld rfl s_3 e.f_x (pd_var (pv 0))) (pda_cons (pd_fld rfl s_4 e.f_y (pd_var (pv 0))) (pda_nil)))))
    (pdss_cons (pds_if (ptd_cmp (opd_eq rfl hr.units) (pd_var (pv 1)) (pd_int) (nomark _)) (pdss_one (pds_never)) (pdss_nil))
    (pdss_one (pds_ret (pd_make e.mk_Place e.ct_Place (ok_PlaceX_initX e) (hr.mono (by decide)) (by rfl) e.m_Place e.b_PlaceX_initX tk (pda_cons (pd_op (opd_div) (pd_fld rfl s_3 e.f_x (pd_var (pv 0))) (pd_var (pv 1))) (pda_cons (pd_op (opd_div) (pd_fld rfl s_4 e.f_y (pd_var (pv 0))) (pd_var (pv 1))) (pda_cons (pd_int) (pda_nil)))))))))
theorem ok_figures_along (e : Ev G mg) : FnOk P w0 G.K mg base (L2.CX P w0) 7 e.a_figures_along e.fd_figures_along ["place", "other"] (spG G 2 g_figures_along) :=
  fn_okD e.F_figures_along sc_figures_along rfl rfl fun cdv A outer s H E hr tk ps => pdss_cons (pds_expr (pd_call (ok_need_place e) (hr.mono (by decide)) (by rfl) e.m_need_place e.F_need_place.kp e.b_need_place tk (pda_cons (pd_var (pv 0)) (pda_nil))))
    (pdss_cons (pds_expr (pd_call (ok_need_place e) (hr.mono (by decide)) (by rfl) e.m_need_place e.F_need_place.kp e.b_need_place tk (pda_cons (pd_var (pv 1)) (pda_nil))))
    (pdss_cons (pds_set (i := 2) sc_figures_along.nd rfl (.inl rfl) (pd_call (ok_along e) (hr.mono (by decide)) (by rfl) e.m_along e.F_along.kp e.b_along tk (pda_cons (pd_var (pv 0)) (pda_nil))))
    (pdss_cons (pds_if (ptd_cmp (opd_ne rfl hr.units) (pd_meth rfl (pd_var (pv 2)) e.ct_Place e.cl_Place s_6 e.M_Place_twist (ok_Place_twist e) (hr.mono (by decide)) e.b_Place_twist tk (pda_cons (pd_var (pv 1)) (pda_nil))) (pd_int) (nomark _)) (pdss_one (pds_ret (pd_non))) (pdss_nil))
    (pdss_cons (pds_set (i := 3) sc_figures_along.nd rfl (.inl rfl) (pd_ifExp (ptd_cmp (opd_ne rfl hr.units) (pd_fld rfl s_3 e.f_x (pd_var (pv 2))) (pd_int) (nomark _)) (pd_op (opd_div) (pd_fld rfl s_3 e.f_x (pd_var (pv 1))) (pd_fld rfl s_3 e.f_x (pd_var (pv 2)))) (pd_op (opd_div) (pd_fld rfl s_4 e.f_y (pd_var (pv 1))) (pd_fld rfl s_4 e.f_y (pd_var (pv 2))))))
    (pdss_one (pds_ret (pd_tup (pda_cons (pd_var (pv 3)) (pda_cons (pd_op (opd_sub) (pd_fld rfl s_5 e.f_area (pd_var (pv 1))) (pd_fld rfl s_5 e.f_area (pd_meth rfl (pd_var (pv 2)) e.ct_Place e.cl_Place s_7 e.M_Place_power (ok_Place_power e) (hr.mono (by decide)) e.b_Place_power tk (pda_cons (pd_var (pv 3)) (pda_nil))))) (pda_nil))))))))))
theorem ok_PlaceX_eqX (e : Ev G mg) : FnOk P w0 G.K mg base (L2.CX P w0) 1 e.a_PlaceX_eqX e.fd_PlaceX_eqX ["self", "other"] (spG G 2 g_PlaceX_eqX) :=
  fn_okD e.F_PlaceX_eqX sc_PlaceX_eqX rfl rfl fun cdv A outer s H E hr tk ps => pdss_cons (pds_if (ptd_not (ptd_truth rfl (pd_callB (cd_isi rfl e.iso) (by rfl) e.z_isinstance (by decide +kernel) (pda_cons (pd_var (pv 1)) (pda_cons (pd_cls (by rfl) e.m_Place e.ct_Place) (pda_nil)))))) (pdss_one (pds_ret (pd_bl))) (pdss_nil))
    (pdss_one (pds_ret (pd_cmp (opd_eq rfl hr.units) (pd_tup (pda_cons (pd_fld rfl s_3 e.f_x (pd_var (pv 0))) (pda_cons (pd_fld rfl s_4 e.f_y (pd_var (pv 0))) (pda_cons (pd_fld rfl s_5 e.f_area (pd_var (pv 0))) (pda_nil))))) (pd_tup (pda_cons (pd_fld rfl s_3 e.f_x (pd_var (pv 1))) (pda_cons (pd_fld rfl s_4 e.f_y (pd_var (pv 1))) (pda_cons (pd_fld rfl s_5 e.f_area (pd_var (pv 1))) (pda_nil))))) (nomark _))))
theorem ok_PlaceX_mulX (e : Ev G mg) : FnOk P w0 G.K mg base (L2.CX P w0) 5 e.a_PlaceX_mulX e.fd_PlaceX_mulX ["self", "other"] (spG G 2 g_PlaceX_mulX) :=
  fn_okD e.F_PlaceX_mulX sc_PlaceX_mulX rfl rfl fun cdv A outer s H E hr tk ps => pdss_cons (pds_if (ptd_not (ptd_truth rfl (pd_callB (cd_isi rfl e.iso) (by rfl) e.z_isinstance (by decide +kernel) (pda_cons (pd_var (pv 1)) (pda_cons (pd_cls (by rfl) e.m_Place e.ct_Place) (pda_nil)))))) (pdss_one (pds_never)) (pdss_nil))
    (pdss_one (pds_ret (pd_make e.mk_Place e.ct_Place (ok_PlaceX_initX e) (hr.mono (by decide)) (by rfl) e.m_Place e.b_PlaceX_initX tk (pda_cons (pd_op (opd_addA rfl) (pd_fld rfl s_3 e.f_x (pd_var (pv 0))) (pd_fld rfl s_3 e.f_x (pd_var (pv 1)))) (pda_cons (pd_op (opd_addA rfl) (pd_fld rfl s_4 e.f_y (pd_var (pv 0))) (pd_fld rfl s_4 e.f_y (pd_var (pv 1)))) (pda_cons (pd_op (opd_addA rfl) (pd_op (opd_addA rfl) (pd_fld rfl s_5 e.f_area (pd_var (pv 0))) (pd_fld rfl s_5 e.f_area (pd_var (pv 1)))) (pd_op (opd_mulA) (pd_fld rfl s_3 e.f_x (pd_var (pv 0))) (pd_fld rfl s_4 e.f_y (pd_var (pv 1))))) (pda_nil)))))))
theorem ok_row_less (e : Ev G mg) : FnOk P w0 G.K mg base (L2.CX P w0) 1 e.a_row_less e.fd_row_less ["row", "other", "times"] (spG G 3 g_row_less) :=
  fn_okD e.F_row_less sc_row_less rfl rfl fun cdv A outer s H E hr tk ps => pdss_one (pds_ret (pd_callTy (cd_tup rfl) (by rfl) e.z_tuple (by decide +kernel) (pda_cons (pdo_frz (pdo_lc (own := [("entry", 3), ("entry_there", 4)]) rfl sc_row_less.nd (pdi_zip rfl (by rfl) e.z_zip (pda_cons (pd_var (pv 0)) (pda_cons (pd_var (pv 1)) (pda_nil)))) (by exact blkOk_by (N := ["row", "other", "times", "entry", "entry_there"]) (sc := defScope st_row_less) (own := [("entry", 3), ("entry_there", 4)]) (by decide +kernel)) (by decide) (fun _ _ _ _ _ => pdg_tup rfl rfl (pdgs_cons (pdg_name (i := 3) sc_row_less.nd rfl (.inl rfl)) (pdgs_cons (pdg_name (i := 4) sc_row_less.nd rfl (.inl rfl)) (pdgs_nil)))) (fun _ _ _ _ _ => ptds_nil) (fun _ _ _ _ _ => pd_op (opd_sub) (pd_var (pv 3)) (pd_op (opd_mulA) (pd_var (pv 2)) (pd_var (pv 4)))))) (pda_nil))))
theorem ok_head_row (e : Ev G mg) : FnOk P w0 G.K mg base (L2.CX P w0) 3 e.a_head_row e.fd_head_row ["rows", "column"] (spG G 2 g_head_row) :=
  fn_okD e.F_head_row sc_head_row rfl rfl fun cdv A outer s H E hr tk ps => pdss_cons (pds_set (i := 2) sc_head_row.nd rfl (.inl rfl) (pd_non))
    (pdss_cons (pds_setO (i := 3) sc_head_row.nd rfl (.inl rfl) (pdo_lst (pda_nil)))
    (pdss_cons (pds_for ps rfl (pdi_seq rfl (pd_var (pv 0))) (pdg_name (i := 4) sc_head_row.nd rfl (.inl rfl)) (pdss_one (pds_if (ptd_cmp (opd_eq rfl hr.units) (pd_ix rfl (pd_var (pv 4)) (pd_var (pv 1)) (fun _ _ => rfl)) (pd_int) (nomark _)) (pdss_one (pds_append (pv 3) (pda_cons (pd_var (pv 4)) (pda_nil)))) (pdss_one (pds_if (ptd_cmp (opd_isN) (pd_var (pv 2)) (pd_non) (nomark _)) (pdss_one (pds_set (i := 2) sc_head_row.nd rfl (.inl rfl) (pd_var (pv 4)))) (pdss_cons (pds_while ps (ptd_cmp (opd_ne rfl hr.units) (pd_ix rfl (pd_var (pv 4)) (pd_var (pv 1)) (fun _ _ => rfl)) (pd_int) (nomark _)) (pdss_one (pds_par (i := 2) (j := 4) rfl sc_head_row.nd rfl rfl (by decide) rfl rfl (pda_cons (pd_var (pv 4)) (pda_cons (pd_call (ok_row_less e) (hr.mono (by decide)) (by rfl) e.m_row_less e.F_row_less.kp e.b_row_less tk (pda_cons (pd_var (pv 2)) (pda_cons (pd_var (pv 4)) (pda_cons (pd_op (opd_div) (pd_ix rfl (pd_var (pv 2)) (pd_var (pv 1)) (fun _ _ => rfl)) (pd_ix rfl (pd_var (pv 4)) (pd_var (pv 1)) (fun _ _ => rfl))) (pda_nil))))) (pda_nil))) (by rfl))))
    (pdss_one (pds_append (pv 3) (pda_cons (pd_var (pv 4)) (pda_nil))))))))))
    (pdss_one (pds_ret (pd_tup (pda_cons (pd_var (pv 2)) (pda_cons (pd_var (pv 3)) (pda_nil))))))))
theorem ok_bezout_of (e : Ev G mg) : FnOk P w0 G.K mg base (L2.CX P w0) 1 e.a_bezout_of e.fd_bezout_of ["one", "other"] (spG G 2 g_bezout_of) :=
  fn_okD e.F_bezout_of sc_bezout_of rfl rfl fun cdv A outer s H E hr tk ps => pdss_cons (pds_par (i := 2) (j := 3) rfl sc_bezout_of.nd rfl rfl (by decide) rfl rfl (pda_cons (pd_tup (pda_cons (pd_callB cd_abs (by rfl) e.z_abs (by decide +kernel) (pda_cons (pd_var (pv 0)) (pda_nil))) (pda_cons (pd_ifExp (ptd_cmp (opd_ge) (pd_var (pv 0)) (pd_int) (nomark _)) (pd_int) (pd_neg (pd_int))) (pda_cons (pd_int) (pda_nil))))) (pda_cons (pd_tup (pda_cons (pd_callB cd_abs (by rfl) e.z_abs (by decide +kernel) (pda_cons (pd_var (pv 1)) (pda_nil))) (pda_cons (pd_int) (pda_cons (pd_ifExp (ptd_cmp (opd_ge) (pd_var (pv 1)) (pd_int) (nomark _)) (pd_int) (pd_neg (pd_int))) (pda_nil))))) (pda_nil))) (by rfl))
    (pdss_cons (pds_while ps (ptd_cmp (opd_gt) (pd_ix rfl (pd_var (pv 3)) (pd_int) (fun _ _ => rfl)) (pd_int) (nomark _)) (pdss_cons (pds_set (i := 4) sc_bezout_of.nd rfl (.inl rfl) (pd_op (opd_div) (pd_ix rfl (pd_var (pv 2)) (pd_int) (fun _ _ => rfl)) (pd_ix rfl (pd_var (pv 3)) (pd_int) (fun _ _ => rfl))))
    (pdss_one (pds_par (i := 2) (j := 3) rfl sc_bezout_of.nd rfl rfl (by decide) rfl rfl (pda_cons (pd_var (pv 3)) (pda_cons (pd_tup (pda_cons (pd_op (opd_sub) (pd_ix rfl (pd_var (pv 2)) (pd_int) (fun _ _ => rfl)) (pd_op (opd_mulA) (pd_var (pv 4)) (pd_ix rfl (pd_var (pv 3)) (pd_int) (fun _ _ => rfl)))) (pda_cons (pd_op (opd_sub) (pd_ix rfl (pd_var (pv 2)) (pd_int) (fun _ _ => rfl)) (pd_op (opd_mulA) (pd_var (pv 4)) (pd_ix rfl (pd_var (pv 3)) (pd_int) (fun _ _ => rfl)))) (pda_cons (pd_op (opd_sub) (pd_ix rfl (pd_var (pv 2)) (pd_int) (fun _ _ => rfl)) (pd_op (opd_mulA) (pd_var (pv 4)) (pd_ix rfl (pd_var (pv 3)) (pd_int) (fun _ _ => rfl)))) (pda_nil))))) (pda_nil))) (by rfl)))))
    (pdss_one (pds_ret (pd_var (pv 2)))))
theorem ok_one_row (e : Ev G mg) : FnOk P w0 G.K mg base (L2.CX P w0) 3 e.a_one_row e.fd_one_row ["row"] (spG G 1 g_one_row) :=
  fn_okD e.F_one_row sc_one_row rfl rfl fun cdv A outer s H E hr tk ps => pdss_cons (pds_asg (pd_call (ok_bezout_of e) (hr.mono (by decide)) (by rfl) e.m_bezout_of e.F_bezout_of.kp e.b_bezout_of tk (pda_cons (pd_ix rfl (pd_var (pv 0)) (pd_int) (fun _ _ => rfl)) (pda_cons (pd_ix rfl (pd_var (pv 0)) (pd_int) (fun _ _ => rfl)) (pda_nil)))) (pdg_tup rfl rfl (pdgs_cons (pdg_name (i := 1) sc_one_row.nd rfl (.inl rfl)) (pdgs_cons (pdg_name (i := 2) sc_one_row.nd rfl (.inl rfl)) (pdgs_cons (pdg_name (i := 3) sc_one_row.nd rfl (.inl rfl)) (pdgs_nil))))))
    (pdss_cons (pds_if (ptd_cmp (opd_ne rfl hr.units) (pd_op (opd_mod) (pd_ix rfl (pd_var (pv 0)) (pd_int) (fun _ _ => rfl)) (pd_var (pv 1))) (pd_int) (nomark _)) (pdss_one (pds_ret (pd_tup (pda_cons (pd_non) (pda_cons (pdo_frz (pdo_lst (pda_nil))) (pda_cons (pd_tup (pda_cons (pd_slA rfl (pd_var (pv 0)) (pdo_some (pd_int)) (pdo_none)) (pda_cons (pd_var (pv 1)) (pda_nil)))) (pda_nil))))))) (pdss_nil))
    (pdss_cons (pds_set (i := 4) sc_one_row.nd rfl (.inl rfl) (pd_op (opd_div) (pd_ix rfl (pd_var (pv 0)) (pd_int) (fun _ _ => rfl)) (pd_var (pv 1))))
    (pdss_one (pds_ret (pd_tup (pda_cons (pd_tup (pda_cons (pd_op (opd_mulA) (pd_var (pv 2)) (pd_var (pv 4))) (pda_cons (pd_op (opd_mulA) (pd_var (pv 3)) (pd_var (pv 4))) (pda_nil)))) (pda_cons (pdo_frz (pdo_lst (pda_cons (pd_tup (pda_cons (pd_op (opd_div) (pd_ix rfl (pd_var (pv 0)) (pd_int) (fun _ _ => rfl)) (pd_var (pv 1))) (pda_cons (pd_op (opd_div) (pd_neg (pd_ix rfl (pd_var (pv 0)) (pd_int) (fun _ _ => rfl))) (pd_var (pv 1))) (pda_nil)))) (pda_nil)))) (pda_cons (pd_non) (pda_nil)))))))))
theorem ok_two_rows (e : Ev G mg) : FnOk P w0 G.K mg base (L2.CX P w0) 1 e.a_two_rows e.fd_two_rows ["first", "second"] (spG G 2 g_two_rows) :=
  fn_okD e.F_two_rows sc_two_rows rfl rfl fun cdv A outer s H E hr tk ps => pdss_cons (pds_set (i := 2) sc_two_rows.nd rfl (.inl rfl) (pd_callB cd_abs (by rfl) e.z_abs (by decide +kernel) (pda_cons (pd_ix rfl (pd_var (pv 1)) (pd_int) (fun _ _ => rfl)) (pda_nil))))
    (pdss_cons (pds_if (ptd_cmp (opd_ne rfl hr.units) (pd_op (opd_mod) (pd_ix rfl (pd_var (pv 1)) (pd_int) (fun _ _ => rfl)) (pd_var (pv 2))) (pd_int) (nomark _)) (pdss_one (pds_ret (pd_tup (pda_cons (pd_non) (pda_cons (pdo_frz (pdo_lst (pda_nil))) (pda_cons (pd_tup (pda_cons (pd_slA rfl (pd_var (pv 1)) (pdo_some (pd_int)) (pdo_none)) (pda_cons (pd_var (pv 2)) (pda_nil)))) (pda_nil))))))) (pdss_nil))
    (pdss_cons (pds_set (i := 3) sc_two_rows.nd rfl (.inl rfl) (pd_op (opd_div) (pd_ix rfl (pd_var (pv 1)) (pd_int) (fun _ _ => rfl)) (pd_ix rfl (pd_var (pv 1)) (pd_int) (fun _ _ => rfl))))
    (pdss_cons (pds_set (i := 4) sc_two_rows.nd rfl (.inl rfl) (pd_op (opd_sub) (pd_ix rfl (pd_var (pv 0)) (pd_int) (fun _ _ => rfl)) (pd_op (opd_mulA) (pd_ix rfl (pd_var (pv 0)) (pd_int) (fun _ _ => rfl)) (pd_var (pv 3)))))
    (pdss_cons (pds_if (ptd_cmp (opd_ne rfl hr.units) (pd_op (opd_mod) (pd_var (pv 4)) (pd_ix rfl (pd_var (pv 0)) (pd_int) (fun _ _ => rfl))) (pd_int) (nomark _)) (pdss_cons (pds_setLc (i := 5) (own := [("one", 6), ("other", 7)]) rfl sc_two_rows.nd rfl rfl (sw_true rfl rfl rfl (by decide +kernel)) (pdi_zip rfl (by rfl) e.z_zip (pda_cons (pd_slA rfl (pd_var (pv 0)) (pdo_some (pd_int)) (pdo_none)) (pda_cons (pd_slA rfl (pd_var (pv 1)) (pdo_some (pd_int)) (pdo_none)) (pda_nil)))) (by exact blkOk_by (N := ["first", "second", "low", "down", "left", "numbers", "one", "other"]) (sc := defScope st_two_rows) (own := [("one", 6), ("other", 7)]) (by decide +kernel)) (by decide) (fun _ _ _ _ _ => pdg_tup rfl rfl (pdgs_cons (pdg_name (i := 6) sc_two_rows.nd rfl (.inl rfl)) (pdgs_cons (pdg_name (i := 7) sc_two_rows.nd rfl (.inl rfl)) (pdgs_nil)))) (fun _ _ _ _ _ => ptds_nil) (fun _ _ _ _ _ => pd_op (opd_sub) (pd_op (opd_mulA) (pd_ix rfl (pd_var (pv 1)) (pd_int) (fun _ _ => rfl)) (pd_var (pv 6))) (pd_op (opd_mulA) (pd_ix rfl (pd_var (pv 0)) (pd_int) (fun _ _ => rfl)) (pd_var (pv 7)))))
    (pdss_one (pds_ret (pd_tup (pda_cons (pd_non) (pda_cons (pdo_frz (pdo_lst (pda_nil))) (pda_cons (pd_tup (pda_cons (pd_var (pv 5)) (pda_cons (pd_op (opd_mulA) (pd_callB cd_abs (by rfl) e.z_abs (by decide +kernel) (pda_cons (pd_ix rfl (pd_var (pv 0)) (pd_int) (fun _ _ => rfl)) (pda_nil))) (pd_var (pv 2))) (pda_nil)))) (pda_nil)))))))) (pdss_nil))
    (pdss_one (pds_ret (pd_tup (pda_cons (pd_tup (pda_cons (pd_op (opd_div) (pd_var (pv 4)) (pd_ix rfl (pd_var (pv 0)) (pd_int) (fun _ _ => rfl))) (pda_cons (pd_var (pv 3)) (pda_nil)))) (pda_cons (pdo_frz (pdo_lst (pda_nil))) (pda_cons (pd_non) (pda_nil)))))))))))
theorem ok_solved (e : Ev G mg) : FnOk P w0 G.K mg base (L2.CX P w0) 5 e.a_solved e.fd_solved ["rows", "goals"] (spG G 2 g_solved) :=
  fn_okD e.F_solved sc_solved rfl rfl fun cdv A outer s H E hr tk ps => pdss_cons (pds_set (i := 2) sc_solved.nd rfl (.inl rfl) (pd_callB (cd_len rfl) (by rfl) e.z_len (by decide +kernel) (pda_cons (pd_var (pv 0)) (pda_nil))))
    (pdss_cons (pds_setO (i := 3) sc_solved.nd rfl (.inl rfl) (pdo_lst (pda_nil)))
    (pdss_cons (pds_for ps rfl (pdi_enum rfl (by rfl) e.z_enumerate (pda_cons (pd_var (pv 0)) (pda_nil))) (pdg_tup rfl rfl (pdgs_cons (pdg_name (i := 4) sc_solved.nd rfl (.inr rfl)) (pdgs_cons (pdg_name (i := 5) sc_solved.nd rfl (.inl rfl)) (pdgs_nil)))) (pdss_one (pds_append (pv 3) (pda_cons (pd_op (opd_addA rfl) (pd_op (opd_addA rfl) (pd_callTy (cd_tup rfl) (by rfl) e.z_tuple (by decide +kernel) (pda_cons (pd_var (pv 5)) (pda_nil))) (pd_tup (pda_cons (pd_ix rfl (pd_var (pv 1)) (pd_var (pv 4)) (fun _ _ => rfl)) (pda_nil)))) (pd_callTy (cd_tup rfl) (by rfl) e.z_tuple (by decide +kernel) (pda_cons (pdo_frz (pdo_lc (own := [("place", 9)]) rfl sc_solved.nd (pdi_range1 (by rfl) e.z_range (pda_cons (pd_var (pv 2)) (pda_nil))) (by exact blkOk_by (N := ["rows", "goals", "many", "table", "at", "row", "first", "left", "second", "place"]) (sc := defScope st_solved) (own := [("place", 9)]) (by decide +kernel)) (by decide) (fun _ _ _ _ _ => pdg_name (i := 9) sc_solved.nd rfl (.inl rfl)) (fun _ _ _ _ _ => ptds_nil) (fun _ _ _ _ _ => pd_callTy cd_int (by rfl) e.z_int (by decide +kernel) (pda_cons (pd_cmp (opd_eq rfl hr.units) (pd_var (pv 4)) (pd_var (pv 9)) (nomark _)) (pda_nil))))) (pda_nil)))) (pda_nil)))))
    (pdss_cons (pds_asg (pd_call (ok_head_row e) (hr.mono (by decide)) (by rfl) e.m_head_row e.F_head_row.kp e.b_head_row tk (pda_cons (pd_var (pv 3)) (pda_cons (pd_int) (pda_nil)))) (pdg_tup rfl rfl (pdgs_cons (pdg_name (i := 6) sc_solved.nd rfl (.inl rfl)) (pdgs_cons (pdg_name (i := 7) sc_solved.nd rfl (.inl rfl)) (pdgs_nil)))))
    (pdss_cons (pds_asg (pd_call (ok_head_row e) (hr.mono (by decide)) (by rfl) e.m_head_row e.F_head_row.kp e.b_head_row tk (pda_cons (pd_var (pv 7)) (pda_cons (pd_int) (pda_nil)))) (pdg_tup rfl rfl (pdgs_cons (pdg_name (i := 8) sc_solved.nd rfl (.inl rfl)) (pdgs_cons (pdg_name (i := 7) sc_solved.nd rfl (.inl rfl)) (pdgs_nil)))))
    (pdss_cons (pds_for ps rfl (pdi_seq rfl (pd_var (pv 7))) (pdg_name (i := 5) sc_solved.nd rfl (.inl rfl)) (pdss_one (pds_if (ptd_cmp (opd_ne rfl hr.units) (pd_ix rfl (pd_var (pv 5)) (pd_int) (fun _ _ => rfl)) (pd_int) (nomark _)) (pdss_one (pds_ret (pd_tup (pda_cons (pd_non) (pda_cons (pdo_frz (pdo_lst (pda_nil))) (pda_cons (pd_tup (pda_cons (pd_slA rfl (pd_var (pv 5)) (pdo_some (pd_int)) (pdo_none)) (pda_cons (pd_int) (pda_nil)))) (pda_nil))))))) (pdss_nil))))
    (pdss_cons (pds_if ((pwd_and (ptd_cmp (opd_isN) (pd_var (pv 6)) (pd_non) (nomark _)) (pwd_and1 (ptd_cmp (opd_isN) (pd_var (pv 8)) (pd_non) (nomark _)))).pt) (pdss_one (pds_ret (pd_tup (pda_cons (pd_tup (pda_cons (pd_int) (pda_cons (pd_int) (pda_nil)))) (pda_cons (pdo_frz (pdo_lst (pda_cons (pd_tup (pda_cons (pd_int) (pda_cons (pd_int) (pda_nil)))) (pda_cons (pd_tup (pda_cons (pd_int) (pda_cons (pd_int) (pda_nil)))) (pda_nil))))) (pda_cons (pd_non) (pda_nil))))))) (pdss_nil))
    (pdss_cons (pds_if ((pwd_or (ptd_cmp (opd_isN) (pd_var (pv 6)) (pd_non) (nomark _)) (pwd_or1 (ptd_cmp (opd_isN) (pd_var (pv 8)) (pd_non) (nomark _)))).pt) (pdss_one (pds_ret (pd_call (ok_one_row e) (hr.mono (by decide)) (by rfl) e.m_one_row e.F_one_row.kp e.b_one_row tk (pda_cons (pd_orT rfl (pd_var (pv 6)) (pd_one (pd_var (pv 8)))) (pda_nil))))) (pdss_nil))
    (pdss_one (pds_ret (pd_call (ok_two_rows e) (hr.mono (by decide)) (by rfl) e.m_two_rows e.F_two_rows.kp e.b_two_rows tk (pda_cons (pd_var (pv 6)) (pda_cons (pd_var (pv 8)) (pda_nil)))))))))))))
theorem ok_powers_crossing (e : Ev G mg) : FnOk P w0 G.K mg base (L2.CX P w0) 7 e.a_powers_crossing e.fd_powers_crossing ["one", "other", "goal"] (spG G 3 g_powers_crossing) :=
  fn_okD e.F_powers_crossing sc_powers_crossing rfl rfl fun cdv A outer s H E hr tk ps => pdss_cons (pds_set (i := 3) sc_powers_crossing.nd rfl (.inl rfl) (pd_ix rfl (pd_call (ok_solved e) (hr.mono (by decide)) (by rfl) e.m_solved e.F_solved.kp e.b_solved tk (pda_cons (pdo_frz (pdo_lst (pda_cons (pd_tup (pda_cons (pd_fld rfl s_3 e.f_x (pd_var (pv 0))) (pda_cons (pd_fld rfl s_3 e.f_x (pd_var (pv 1))) (pda_nil)))) (pda_cons (pd_tup (pda_cons (pd_fld rfl s_4 e.f_y (pd_var (pv 0))) (pda_cons (pd_fld rfl s_4 e.f_y (pd_var (pv 1))) (pda_nil)))) (pda_nil))))) (pda_cons (pdo_frz (pdo_lst (pda_cons (pd_fld rfl s_3 e.f_x (pd_var (pv 2))) (pda_cons (pd_fld rfl s_4 e.f_y (pd_var (pv 2))) (pda_nil))))) (pda_nil)))) (pd_int) (fun _ _ => rfl)))
    (pdss_cons (pds_if ((pwd_or (ptd_cmp (opd_isN) (pd_var (pv 3)) (pd_non) (nomark _)) (pwd_or1 (ptd_cmpX (opx_ownNe e.ct_Place e.M_PlaceX_eqX.at_ e.M_PlaceX_eqX.fn e.ne_Place e.mo_Place (ok_PlaceX_eqX e) (hr.mono (by decide)) e.b_PlaceX_eqX tk) (pd_opX (opx_own (op := .Mult) (by decide +kernel) e.ct_Place e.M_PlaceX_mulX.at_ e.M_PlaceX_mulX.fn e.sf_Place (ok_PlaceX_mulX e) (hr.mono (by decide)) e.b_PlaceX_mulX tk) (pd_meth rfl (pd_var (pv 0)) e.ct_Place e.cl_Place s_7 e.M_Place_power (ok_Place_power e) (hr.mono (by decide)) e.b_Place_power tk (pda_cons (pd_ix rfl (pd_var (pv 3)) (pd_int) (fun _ _ => rfl)) (pda_nil))) (pd_meth rfl (pd_var (pv 1)) e.ct_Place e.cl_Place s_7 e.M_Place_power (ok_Place_power e) (hr.mono (by decide)) e.b_Place_power tk (pda_cons (pd_ix rfl (pd_var (pv 3)) (pd_int) (fun _ _ => rfl)) (pda_nil)))) (pd_var (pv 2)) (nomark _)))).pt) (pdss_one (pds_ret (pd_non))) (pdss_nil))
    (pdss_one (pds_ret (pd_tup (pda_cons (pd_var (pv 3)) (pda_cons (pdo_frz (pdo_lst (pda_nil))) (pda_nil)))))))
theorem ok_settled_pair (e : Ev G mg) : FnOk P w0 G.K mg base (L2.CX P w0) 1 e.a_settled_pair e.fd_settled_pair ["pair", "kernel"] (spG G 2 g_settled_pair) :=
  fn_okD e.F_settled_pair sc_settled_pair rfl rfl fun cdv A outer s H E hr tk ps => pdss_cons (pds_if (ptd_cmp (opd_ne rfl hr.units) (pd_callB (cd_len rfl) (by rfl) e.z_len (by decide +kernel) (pda_cons (pd_var (pv 1)) (pda_nil))) (pd_int) (nomark _)) (pdss_one (pds_ret (pd_tup (pda_cons (pd_var (pv 0)) (pda_cons (pd_var (pv 1)) (pda_nil)))))) (pdss_nil))
    (pdss_cons (pds_asg (pd_ix rfl (pd_var (pv 1)) (pd_int) (fun _ _ => rfl)) (pdg_tup rfl rfl (pdgs_cons (pdg_name (i := 2) sc_settled_pair.nd rfl (.inl rfl)) (pdgs_cons (pdg_name (i := 3) sc_settled_pair.nd rfl (.inl rfl)) (pdgs_nil)))))
    (pdss_cons (pds_if ((pwd_or (ptd_cmp (opd_lt) (pd_var (pv 2)) (pd_int) (nomark _)) (pwd_or1 ((pwd_and (ptd_cmp (opd_eq rfl hr.units) (pd_var (pv 2)) (pd_int) (nomark _)) (pwd_and1 (ptd_cmp (opd_lt) (pd_var (pv 3)) (pd_int) (nomark _)))).pt))).pt) (pdss_one (pds_par (i := 2) (j := 3) rfl sc_settled_pair.nd rfl rfl (by decide) rfl rfl (pda_cons (pd_neg (pd_var (pv 2))) (pda_cons (pd_neg (pd_var (pv 3))) (pda_nil))) (by rfl))) (pdss_nil))
    (pdss_cons (pds_set (i := 4) sc_settled_pair.nd rfl (.inl rfl) (pd_ifExp (ptd_cmp (opd_gt) (pd_var (pv 2)) (pd_int) (nomark _)) (pd_op (opd_div) (pd_ix rfl (pd_var (pv 0)) (pd_int) (fun _ _ => rfl)) (pd_var (pv 2))) (pd_op (opd_div) (pd_ix rfl (pd_var (pv 0)) (pd_int) (fun _ _ => rfl)) (pd_var (pv 3)))))
    (pdss_one (pds_ret (pd_tup (pda_cons (pd_tup (pda_cons (pd_op (opd_sub) (pd_ix rfl (pd_var (pv 0)) (pd_int) (fun _ _ => rfl)) (pd_op (opd_mulA) (pd_var (pv 4)) (pd_var (pv 2)))) (pda_cons (pd_op (opd_sub) (pd_ix rfl (pd_var (pv 0)) (pd_int) (fun _ _ => rfl)) (pd_op (opd_mulA) (pd_var (pv 4)) (pd_var (pv 3)))) (pda_nil)))) (pda_cons (pdo_frz (pdo_lst (pda_cons (pd_tup (pda_cons (pd_var (pv 2)) (pda_cons (pd_var (pv 3)) (pda_nil)))) (pda_nil)))) (pda_nil)))))))))
theorem ok_powers_to (e : Ev G mg) : FnOk P w0 G.K mg base (L2.CX P w0) 9 e.a_powers_to e.fd_powers_to ["one", "other", "goal"] (spG G 3 g_powers_to) :=
  fn_okD e.F_powers_to sc_powers_to rfl rfl fun cdv A outer s H E hr tk ps => pdss_cons (pds_expr (pd_call (ok_need_place e) (hr.mono (by decide)) (by rfl) e.m_need_place e.F_need_place.kp e.b_need_place tk (pda_cons (pd_var (pv 0)) (pda_nil))))
    (pdss_cons (pds_expr (pd_call (ok_need_place e) (hr.mono (by decide)) (by rfl) e.m_need_place e.F_need_place.kp e.b_need_place tk (pda_cons (pd_var (pv 1)) (pda_nil))))
    (pdss_cons (pds_expr (pd_call (ok_need_place e) (hr.mono (by decide)) (by rfl) e.m_need_place e.F_need_place.kp e.b_need_place tk (pda_cons (pd_var (pv 2)) (pda_nil))))
    (pdss_cons (pds_if (ptd_cmp (opd_ne rfl hr.units) (pd_meth rfl (pd_var (pv 0)) e.ct_Place e.cl_Place s_6 e.M_Place_twist (ok_Place_twist e) (hr.mono (by decide)) e.b_Place_twist tk (pda_cons (pd_var (pv 1)) (pda_nil))) (pd_int) (nomark _)) (pdss_one (pds_ret (pd_call (ok_powers_crossing e) (hr.mono (by decide)) (by rfl) e.m_powers_crossing e.F_powers_crossing.kp e.b_powers_crossing tk (pda_cons (pd_var (pv 0)) (pda_cons (pd_var (pv 1)) (pda_cons (pd_var (pv 2)) (pda_nil))))))) (pdss_nil))
    (pdss_cons (pds_set (i := 3) sc_powers_to.nd rfl (.inr rfl) (pdo_frz (pdo_lc (own := [("place", 9)]) rfl sc_powers_to.nd (pdi_seq rfl (pd_tup (pda_cons (pd_var (pv 0)) (pda_cons (pd_var (pv 1)) (pda_nil))))) (by exact blkOk_by (N := ["one", "other", "goal", "moving", "pair", "kernel", "bar", "told", "rows", "place", "at"]) (sc := defScope st_powers_to) (own := [("place", 9)]) (by decide +kernel)) (by decide) (fun _ _ _ _ _ => pdg_name (i := 9) sc_powers_to.nd rfl (.inl rfl)) (fun _ _ _ _ _ => ptds_one ((pwd_or (ptd_cmp (opd_ne rfl hr.units) (pd_fld rfl s_3 e.f_x (pd_var (pv 9))) (pd_int) (nomark _)) (pwd_or1 (ptd_cmp (opd_ne rfl hr.units) (pd_fld rfl s_4 e.f_y (pd_var (pv 9))) (pd_int) (nomark _)))).pt)) (fun _ _ _ _ _ => pd_var (pv 9)))))
    (pdss_cons (pds_if (ptd_not (ptd_truth rfl (pd_var (pv 3)))) (pdss_cons (pds_if ((pwd_or (ptd_cmp (opd_ne rfl hr.units) (pd_fld rfl s_3 e.f_x (pd_var (pv 2))) (pd_int) (nomark _)) (pwd_or1 (ptd_cmp (opd_ne rfl hr.units) (pd_fld rfl s_4 e.f_y (pd_var (pv 2))) (pd_int) (nomark _)))).pt) (pdss_one (pds_ret (pd_non))) (pdss_nil))
    (pdss_one (pds_asg (pd_call (ok_solved e) (hr.mono (by decide)) (by rfl) e.m_solved e.F_solved.kp e.b_solved tk (pda_cons (pdo_frz (pdo_lst (pda_cons (pd_tup (pda_cons (pd_fld rfl s_5 e.f_area (pd_var (pv 0))) (pda_cons (pd_fld rfl s_5 e.f_area (pd_var (pv 1))) (pda_nil)))) (pda_nil)))) (pda_cons (pdo_frz (pdo_lst (pda_cons (pd_fld rfl s_5 e.f_area (pd_var (pv 2))) (pda_nil)))) (pda_nil)))) (pdg_tup rfl rfl (pdgs_cons (pdg_name (i := 4) sc_powers_to.nd rfl (.inl rfl)) (pdgs_cons (pdg_name (i := 5) sc_powers_to.nd rfl (.inl rfl)) (pdgs_cons (pdg_name (i := 6) sc_powers_to.nd rfl (.inl rfl)) (pdgs_nil)))))))) (pdss_cons (pds_set (i := 7) sc_powers_to.nd rfl (.inr rfl) (pdo_frz (pdo_lc (own := [("place", 9)]) rfl sc_powers_to.nd (pdi_seq rfl (pd_tup (pda_cons (pd_var (pv 0)) (pda_cons (pd_var (pv 1)) (pda_cons (pd_var (pv 2)) (pda_nil)))))) (by exact blkOk_by (N := ["one", "other", "goal", "moving", "pair", "kernel", "bar", "told", "rows", "place", "at"]) (sc := defScope st_powers_to) (own := [("place", 9)]) (by decide +kernel)) (by decide) (fun _ _ _ _ _ => pdg_name (i := 9) sc_powers_to.nd rfl (.inl rfl)) (fun _ _ _ _ _ => ptds_nil) (fun _ _ _ _ _ => pd_call (ok_figures_along e) (hr.mono (by decide)) (by rfl) e.m_figures_along e.F_figures_along.kp e.b_figures_along takes0 (pda_cons (pd_ix rfl (pd_var (pv 3)) (pd_int) (fun _ _ => rfl)) (pda_cons (pd_var (pv 9)) (pda_nil)))))))
    (pdss_cons (pds_if (ptd_cmp (opd_isN) (pd_ix rfl (pd_var (pv 7)) (pd_int) (fun _ _ => rfl)) (pd_non) (nomark _)) (pdss_one (pds_ret (pd_non))) (pdss_nil))
    (pdss_cons (pds_setLc (i := 8) (own := [("at", 10)]) rfl sc_powers_to.nd rfl rfl (sw_true rfl rfl rfl (by decide +kernel)) (pdi_seq rfl (pd_tup (pda_cons (pd_int) (pda_cons (pd_int) (pda_nil))))) (by exact blkOk_by (N := ["one", "other", "goal", "moving", "pair", "kernel", "bar", "told", "rows", "place", "at"]) (sc := defScope st_powers_to) (own := [("at", 10)]) (by decide +kernel)) (by decide) (fun _ _ _ _ _ => pdg_name (i := 10) sc_powers_to.nd rfl (.inl rfl)) (fun _ _ _ _ _ => ptds_nil) (fun _ _ _ _ _ => pd_tup (pda_cons (pd_ix rfl (pd_ix rfl (pd_var (pv 7)) (pd_int) (fun _ _ => rfl)) (pd_var (pv 10)) (fun _ _ => rfl)) (pda_cons (pd_ix rfl (pd_ix rfl (pd_var (pv 7)) (pd_int) (fun _ _ => rfl)) (pd_var (pv 10)) (fun _ _ => rfl)) (pda_nil)))))
    (pdss_one (pds_asg (pd_call (ok_solved e) (hr.mono (by decide)) (by rfl) e.m_solved e.F_solved.kp e.b_solved tk (pda_cons (pd_var (pv 8)) (pda_cons (pdo_frz (pdo_lst (pda_cons (pd_ix rfl (pd_ix rfl (pd_var (pv 7)) (pd_int) (fun _ _ => rfl)) (pd_int) (fun _ _ => rfl)) (pda_cons (pd_ix rfl (pd_ix rfl (pd_var (pv 7)) (pd_int) (fun _ _ => rfl)) (pd_int) (fun _ _ => rfl)) (pda_nil))))) (pda_nil)))) (pdg_tup rfl rfl (pdgs_cons (pdg_name (i := 4) sc_powers_to.nd rfl (.inl rfl)) (pdgs_cons (pdg_name (i := 5) sc_powers_to.nd rfl (.inl rfl)) (pdgs_cons (pdg_name (i := 6) sc_powers_to.nd rfl (.inl rfl)) (pdgs_nil)))))))))))
    (pdss_one (pds_ret (pd_ifExp (ptd_cmp (opd_isN) (pd_var (pv 4)) (pd_non) (nomark _)) (pd_non) (pd_call (ok_settled_pair e) (hr.mono (by decide)) (by rfl) e.m_settled_pair e.F_settled_pair.kp e.b_settled_pair tk (pda_cons (pd_var (pv 4)) (pda_cons (pd_var (pv 5)) (pda_nil))))))))))))
theorem ok_law (e : Ev G mg) : FnOk P w0 G.K mg base (L2.CX P w0) 11 e.a_law e.fd_law ["_law_script"] (spG G 1 g_law) :=
  fn_okD e.F_law sc_law rfl rfl fun cdv A outer s H E hr tk ps => pdss_cons (pds_set (i := 1) sc_law.nd rfl (.inl rfl) (pd_call (ok__law_begin e) (hr.mono (by decide)) (by rfl) e.m__law_begin e.F__law_begin.kp e.b__law_begin tk (pda_cons (pd_var (pv 0)) (pda_nil))))
    (pdss_cons (pds_for ps rfl (pdi_range1 (by rfl) e.z_range (pda_cons (pd_int) (pda_nil))) (pdg_name (i := 2) sc_law.nd rfl (.inl rfl)) (pdss_cons (pds_par (i := 3) (j := 4) rfl sc_law.nd rfl rfl (by decide) rfl rfl (pda_cons (pd_call (ok__law_mid_drawn e) (hr.mono (by decide)) (by rfl) e.m__law_mid_drawn e.F__law_mid_drawn.kp e.b__law_mid_drawn tk (pda_cons (pd_var (pv 1)) (pda_nil))) (pda_cons (pd_call (ok__law_mid_drawn e) (hr.mono (by decide)) (by rfl) e.m__law_mid_drawn e.F__law_mid_drawn.kp e.b__law_mid_drawn tk (pda_cons (pd_var (pv 1)) (pda_nil))) (pda_nil))) (by rfl))
    (pdss_cons (pds_if (ptd_cmp (opd_eq rfl hr.units) (pd_call (ok__law_twist e) (hr.mono (by decide)) (by rfl) e.m__law_twist e.F__law_twist.kp e.b__law_twist tk (pda_cons (pd_var (pv 3)) (pda_cons (pd_var (pv 4)) (pda_nil)))) (pd_int) (nomark _)) (pdss_one (pds_par (i := 3) (j := 4) rfl sc_law.nd rfl rfl (by decide) rfl rfl (pda_cons (pd_tup (pda_cons (pd_op (opd_addA rfl) (pd_int) (pd_op (opd_mulA) (pd_ix rfl (pd_var (pv 3)) (pd_int) (fun _ _ => rfl)) (pd_ix rfl (pd_var (pv 3)) (pd_int) (fun _ _ => rfl)))) (pda_cons (pd_ix rfl (pd_var (pv 3)) (pd_int) (fun _ _ => rfl)) (pda_cons (pd_ix rfl (pd_var (pv 3)) (pd_int) (fun _ _ => rfl)) (pda_nil))))) (pda_cons (pd_tup (pda_cons (pd_int) (pda_cons (pd_int) (pda_cons (pd_ix rfl (pd_var (pv 4)) (pd_int) (fun _ _ => rfl)) (pda_nil))))) (pda_nil))) (by rfl))) (pdss_nil))
    (pdss_cons (pds_par (i := 5) (j := 6) rfl sc_law.nd rfl rfl (by decide) rfl rfl (pda_cons (pd_op (opd_sub) (pd_call (ok__law_draw e) (hr.mono (by decide)) (by rfl) e.m__law_draw e.F__law_draw.kp e.b__law_draw tk (pda_cons (pd_var (pv 1)) (pda_cons (pd_int) (pda_nil)))) (pd_int)) (pda_cons (pd_call (ok__law_small e) (hr.mono (by decide)) (by rfl) e.m__law_small e.F__law_small.kp e.b__law_small tk (pda_cons (pd_var (pv 1)) (pda_nil))) (pda_nil))) (by rfl))
    (pdss_cons (pds_set (i := 7) sc_law.nd rfl (.inl rfl) (pd_call (ok__law_join e) (hr.mono (by decide)) (by rfl) e.m__law_join e.F__law_join.kp e.b__law_join tk (pda_cons (pd_call (ok__law_times e) (hr.mono (by decide)) (by rfl) e.m__law_times e.F__law_times.kp e.b__law_times tk (pda_cons (pd_var (pv 3)) (pda_cons (pd_var (pv 5)) (pda_nil)))) (pda_cons (pd_call (ok__law_times e) (hr.mono (by decide)) (by rfl) e.m__law_times e.F__law_times.kp e.b__law_times tk (pda_cons (pd_var (pv 4)) (pda_cons (pd_var (pv 6)) (pda_nil)))) (pda_nil)))))
    (pdss_cons (pds_set (i := 8) sc_law.nd rfl (.inl rfl) (pd_call (ok__law_pick e) (hr.mono (by decide)) (by rfl) e.m__law_pick e.F__law_pick.kp e.b__law_pick tk (pda_cons (pd_var (pv 1)) (pda_cons (pdo_frz (pdo_lst (pda_cons (pd_tup (pda_cons (pd_int) (pda_cons (pd_int) (pda_cons (pd_int) (pda_nil))))) (pda_cons (pd_tup (pda_cons (pd_int) (pda_cons (pd_int) (pda_cons (pd_int) (pda_nil))))) (pda_cons (pd_tup (pda_cons (pd_int) (pda_cons (pd_int) (pda_cons (pd_int) (pda_nil))))) (pda_cons (pd_tup (pda_cons (pd_int) (pda_cons (pd_int) (pda_cons (pd_int) (pda_nil))))) (pda_cons (pd_tup (pda_cons (pd_ix rfl (pd_var (pv 3)) (pd_int) (fun _ _ => rfl)) (pda_cons (pd_ix rfl (pd_var (pv 3)) (pd_int) (fun _ _ => rfl)) (pda_cons (pd_int) (pda_nil))))) (pda_nil)))))))) (pda_nil)))))
    (pdss_cons (pds_set (i := 7) sc_law.nd rfl (.inl rfl) (pd_tup (pda_cons (pd_op (opd_addA rfl) (pd_ix rfl (pd_var (pv 7)) (pd_int) (fun _ _ => rfl)) (pd_ix rfl (pd_var (pv 8)) (pd_int) (fun _ _ => rfl))) (pda_cons (pd_op (opd_addA rfl) (pd_ix rfl (pd_var (pv 7)) (pd_int) (fun _ _ => rfl)) (pd_ix rfl (pd_var (pv 8)) (pd_int) (fun _ _ => rfl))) (pda_cons (pd_op (opd_addA rfl) (pd_ix rfl (pd_var (pv 7)) (pd_int) (fun _ _ => rfl)) (pd_ix rfl (pd_var (pv 8)) (pd_int) (fun _ _ => rfl))) (pda_nil))))))
    (pdss_cons (pds_if (ptd_cmp (opd_eq rfl hr.units) (pd_call (ok__law_draw e) (hr.mono (by decide)) (by rfl) e.m__law_draw e.F__law_draw.kp e.b__law_draw tk (pda_cons (pd_var (pv 1)) (pda_cons (pd_int) (pda_nil)))) (pd_int) (nomark _)) (pdss_one (pds_set (i := 7) sc_law.nd rfl (.inl rfl) (pd_call (ok__law_mid_drawn e) (hr.mono (by decide)) (by rfl) e.m__law_mid_drawn e.F__law_mid_drawn.kp e.b__law_mid_drawn tk (pda_cons (pd_var (pv 1)) (pda_nil))))) (pdss_nil))
    (pdss_cons (pds_setLc (i := 9) (own := [("_law_row", 10)]) rfl sc_law.nd rfl rfl (sw_true rfl rfl rfl (by decide +kernel)) (pdi_seq rfl (pd_tup (pda_cons (pd_var (pv 3)) (pda_cons (pd_var (pv 4)) (pda_cons (pd_var (pv 7)) (pda_nil)))))) (by exact blkOk_by (N := ["_law_script", "_law_pen", "_law_again", "_law_one", "_law_other", "_law_m", "_law_n", "_law_goal", "_law_beside", "_law_places", "_law_row"]) (sc := defScope st_law) (own := [("_law_row", 10)]) (by decide +kernel)) (by decide) (fun _ _ _ _ _ => pdg_name (i := 10) sc_law.nd rfl (.inl rfl)) (fun _ _ _ _ _ => ptds_nil) (fun _ _ _ _ _ => pd_call (ok__law_place e) (hr.mono (by decide)) (by rfl) e.m__law_place e.F__law_place.kp e.b__law_place takes0 (pda_cons (pd_var (pv 10)) (pda_nil))))
    (pdss_cons (pds_if (ptd_cmp (opd_ne rfl hr.units) (pd_call (ok_powers_to e) (hr.mono (by decide)) (by rfl) e.m_powers_to e.F_powers_to.kp e.b_powers_to tk (pda_cons (pd_ix rfl (pd_var (pv 9)) (pd_int) (fun _ _ => rfl)) (pda_cons (pd_ix rfl (pd_var (pv 9)) (pd_int) (fun _ _ => rfl)) (pda_cons (pd_ix rfl (pd_var (pv 9)) (pd_int) (fun _ _ => rfl)) (pda_nil))))) (pd_call (ok__law_due e) (hr.mono (by decide)) (by rfl) e.m__law_due e.F__law_due.kp e.b__law_due tk (pda_cons (pd_var (pv 3)) (pda_cons (pd_var (pv 4)) (pda_cons (pd_var (pv 7)) (pda_nil))))) (nomark _)) (pdss_one (pds_ret (pd_bl))) (pdss_nil))
    (pdss_one (pds_if (ptd_cmp (opd_ne rfl hr.units) (pd_call (ok_powers_to e) (hr.mono (by decide)) (by rfl) e.m_powers_to e.F_powers_to.kp e.b_powers_to tk (pda_cons (pd_ix rfl (pd_var (pv 9)) (pd_int) (fun _ _ => rfl)) (pda_cons (pd_ix rfl (pd_var (pv 9)) (pd_int) (fun _ _ => rfl)) (pda_cons (pd_ix rfl (pd_var (pv 9)) (pd_int) (fun _ _ => rfl)) (pda_nil))))) (pd_call (ok__law_due e) (hr.mono (by decide)) (by rfl) e.m__law_due e.F__law_due.kp e.b__law_due tk (pda_cons (pd_var (pv 4)) (pda_cons (pd_var (pv 3)) (pda_cons (pd_var (pv 7)) (pda_nil))))) (nomark _)) (pdss_one (pds_ret (pd_bl))) (pdss_nil)))))))))))))
    (pdss_one (pds_ret (pd_bl))))
end
theorem all_mk {l : PySem.W.OpenLaw} {w : World} {K : PySem.W.Frag} {h : Heap} {mg : Str → Option Value} {fa : Addr} {C_Place : Addr} {a__law_begin : Addr} {od__law_begin an__law_begin : Option Addr} {sl__law_begin : Array (Option Value)} {oc__law_begin kV__law_begin dc__law_begin pm__law_begin cd__law_begin ct__law_begin : Value} {a__law_draw : Addr} {od__law_draw an__law_draw : Option Addr} {sl__law_draw : Array (Option Value)} {oc__law_draw kV__law_draw dc__law_draw pm__law_draw cd__law_draw ct__law_draw : Value} {a__law_join : Addr} {od__law_join an__law_join : Option Addr} {sl__law_join : Array (Option Value)} {oc__law_join kV__law_join dc__law_join pm__law_join cd__law_join ct__law_join : Value} {a__law_times : Addr} {od__law_times an__law_times : Option Addr} {sl__law_times : Array (Option Value)} {oc__law_times kV__law_times dc__law_times pm__law_times cd__law_times ct__law_times : Value} {a__law_twist : Addr} {od__law_twist an__law_twist : Option Addr} {sl__law_twist : Array (Option Value)} {oc__law_twist kV__law_twist dc__law_twist pm__law_twist cd__law_twist ct__law_twist : Value} {a__law_due : Addr} {od__law_due an__law_due : Option Addr} {sl__law_due : Array (Option Value)} {oc__law_due kV__law_due dc__law_due pm__law_due cd__law_due ct__law_due : Value} {a__law_pick : Addr} {od__law_pick an__law_pick : Option Addr} {sl__law_pick : Array (Option Value)} {oc__law_pick kV__law_pick dc__law_pick pm__law_pick cd__law_pick ct__law_pick : Value} {a__law_mid : Addr} {od__law_mid an__law_mid : Option Addr} {sl__law_mid : Array (Option Value)} {oc__law_mid kV__law_mid dc__law_mid pm__law_mid cd__law_mid ct__law_mid : Value} {a__law_mid_drawn : Addr} {od__law_mid_drawn an__law_mid_drawn : Option Addr} {sl__law_mid_drawn : Array (Option Value)} {oc__law_mid_drawn kV__law_mid_drawn dc__law_mid_drawn pm__law_mid_drawn cd__law_mid_drawn ct__law_mid_drawn : Value} {a_is_integer : Addr} {od_is_integer an_is_integer : Option Addr} {sl_is_integer : Array (Option Value)} {oc_is_integer kV_is_integer dc_is_integer pm_is_integer cd_is_integer ct_is_integer : Value} {a_PlaceX_initX : Addr} {od_PlaceX_initX an_PlaceX_initX : Option Addr} {sl_PlaceX_initX : Array (Option Value)} {oc_PlaceX_initX kV_PlaceX_initX dc_PlaceX_initX pm_PlaceX_initX cd_PlaceX_initX ct_PlaceX_initX : Value} {a__law_place : Addr} {od__law_place an__law_place : Option Addr} {sl__law_place : Array (Option Value)} {oc__law_place kV__law_place dc__law_place pm__law_place cd__law_place ct__law_place : Value} {a__law_small : Addr} {od__law_small an__law_small : Option Addr} {sl__law_small : Array (Option Value)} {oc__law_small kV__law_small dc__law_small pm__law_small cd__law_small ct__law_small : Value} {a_need_place : Addr} {od_need_place an_need_place : Option Addr} {sl_need_place : Array (Option Value)} {oc_need_place kV_need_place dc_need_place pm_need_place cd_need_place ct_need_place : Value} {a_Place_twist : Addr} {od_Place_twist an_Place_twist : Option Addr} {sl_Place_twist : Array (Option Value)} {oc_Place_twist kV_Place_twist dc_Place_twist pm_Place_twist cd_Place_twist ct_Place_twist : Value} {a_pairs_below : Addr} {od_pairs_below an_pairs_below : Option Addr} {sl_pairs_below : Array (Option Value)} {oc_pairs_below kV_pairs_below dc_pairs_below pm_pairs_below cd_pairs_below ct_pairs_below : Value} {a_Place_power : Addr} {od_Place_power an_Place_power : Option Addr} {sl_Place_power : Array (Option Value)} {oc_Place_power kV_Place_power dc_Place_power pm_Place_power cd_Place_power ct_Place_power : Value} {a_divisor_of : Addr} {od_divisor_of an_divisor_of : Option Addr} {sl_divisor_of : Array (Option Value)} {oc_divisor_of kV_divisor_of dc_divisor_of pm_divisor_of cd_divisor_of ct_divisor_of : Value} {a_along : Addr} {od_along an_along : Option Addr} {sl_along : Array (Option Value)} {oc_along kV_along dc_along pm_along cd_along ct_along : Value} {a_figures_along : Addr} {od_figures_along an_figures_along : Option Addr} {sl_figures_along : Array (Option Value)} {oc_figures_along kV_figures_along dc_figures_along pm_figures_along cd_figures_along ct_figures_along : Value} {a_PlaceX_eqX : Addr} {od_PlaceX_eqX an_PlaceX_eqX : Option Addr} {sl_PlaceX_eqX : Array (Option Value)} {oc_PlaceX_eqX kV_PlaceX_eqX dc_PlaceX_eqX pm_PlaceX_eqX cd_PlaceX_eqX ct_PlaceX_eqX : Value} {a_PlaceX_mulX : Addr} {od_PlaceX_mulX an_PlaceX_mulX : Option Addr} {sl_PlaceX_mulX : Array (Option Value)} {oc_PlaceX_mulX kV_PlaceX_mulX dc_PlaceX_mulX pm_PlaceX_mulX cd_PlaceX_mulX ct_PlaceX_mulX : Value} {a_row_less : Addr} {od_row_less an_row_less : Option Addr} {sl_row_less : Array (Option Value)} {oc_row_less kV_row_less dc_row_less pm_row_less cd_row_less ct_row_less : Value} {a_head_row : Addr} {od_head_row an_head_row : Option Addr} {sl_head_row : Array (Option Value)} {oc_head_row kV_head_row dc_head_row pm_head_row cd_head_row ct_head_row : Value} {a_bezout_of : Addr} {od_bezout_of an_bezout_of : Option Addr} {sl_bezout_of : Array (Option Value)} {oc_bezout_of kV_bezout_of dc_bezout_of pm_bezout_of cd_bezout_of ct_bezout_of : Value} {a_one_row : Addr} {od_one_row an_one_row : Option Addr} {sl_one_row : Array (Option Value)} {oc_one_row kV_one_row dc_one_row pm_one_row cd_one_row ct_one_row : Value} {a_two_rows : Addr} {od_two_rows an_two_rows : Option Addr} {sl_two_rows : Array (Option Value)} {oc_two_rows kV_two_rows dc_two_rows pm_two_rows cd_two_rows ct_two_rows : Value} {a_solved : Addr} {od_solved an_solved : Option Addr} {sl_solved : Array (Option Value)} {oc_solved kV_solved dc_solved pm_solved cd_solved ct_solved : Value} {a_powers_crossing : Addr} {od_powers_crossing an_powers_crossing : Option Addr} {sl_powers_crossing : Array (Option Value)} {oc_powers_crossing kV_powers_crossing dc_powers_crossing pm_powers_crossing cd_powers_crossing ct_powers_crossing : Value} {a_settled_pair : Addr} {od_settled_pair an_settled_pair : Option Addr} {sl_settled_pair : Array (Option Value)} {oc_settled_pair kV_settled_pair dc_settled_pair pm_settled_pair cd_settled_pair ct_settled_pair : Value} {a_powers_to : Addr} {od_powers_to an_powers_to : Option Addr} {sl_powers_to : Array (Option Value)} {oc_powers_to kV_powers_to dc_powers_to pm_powers_to cd_powers_to ct_powers_to : Value} {a_law : Addr} {od_law an_law : Option Addr} {sl_law : Array (Option Value)} {oc_law kV_law dc_law pm_law cd_law ct_law : Value} (X : K.In h) (G0 : h.Ns mainGlobals mg) (hfa : mg "law" = some (.ref fa))
    (aC_Place : PySem.W.nsIn K mainGlobals "Place" = some (some (.ref C_Place)))
    (cB_Place : clsB K C_Place ["x", "y", "area"] = true)
    (a1__law_begin : PySem.W.nsIn K mainGlobals "_law_begin" = some (some (.ref a__law_begin)))
    (l1__law_begin : K.lookup a__law_begin = some ⟨oc__law_begin, od__law_begin, .func (PySem.W.fnOf "_law_begin" "_law_begin" (defArgs st__law_begin) (defBody st__law_begin) (defScope st__law_begin) .none kV__law_begin dc__law_begin pm__law_begin an__law_begin cd__law_begin ct__law_begin), sl__law_begin⟩)
    (c1__law_begin : PySem.W.codeIn K cd__law_begin "_law_begin" = true)
    (k1__law_begin : PySem.W.keepIn K (.ref a__law_begin) = true)
    (a1__law_draw : PySem.W.nsIn K mainGlobals "_law_draw" = some (some (.ref a__law_draw)))
    (l1__law_draw : K.lookup a__law_draw = some ⟨oc__law_draw, od__law_draw, .func (PySem.W.fnOf "_law_draw" "_law_draw" (defArgs st__law_draw) (defBody st__law_draw) (defScope st__law_draw) .none kV__law_draw dc__law_draw pm__law_draw an__law_draw cd__law_draw ct__law_draw), sl__law_draw⟩)
    (c1__law_draw : PySem.W.codeIn K cd__law_draw "_law_draw" = true)
    (k1__law_draw : PySem.W.keepIn K (.ref a__law_draw) = true)
    (a1__law_join : PySem.W.nsIn K mainGlobals "_law_join" = some (some (.ref a__law_join)))
    (l1__law_join : K.lookup a__law_join = some ⟨oc__law_join, od__law_join, .func (PySem.W.fnOf "_law_join" "_law_join" (defArgs st__law_join) (defBody st__law_join) (defScope st__law_join) .none kV__law_join dc__law_join pm__law_join an__law_join cd__law_join ct__law_join), sl__law_join⟩)
    (c1__law_join : PySem.W.codeIn K cd__law_join "_law_join" = true)
    (k1__law_join : PySem.W.keepIn K (.ref a__law_join) = true)
    (a1__law_times : PySem.W.nsIn K mainGlobals "_law_times" = some (some (.ref a__law_times)))
    (l1__law_times : K.lookup a__law_times = some ⟨oc__law_times, od__law_times, .func (PySem.W.fnOf "_law_times" "_law_times" (defArgs st__law_times) (defBody st__law_times) (defScope st__law_times) .none kV__law_times dc__law_times pm__law_times an__law_times cd__law_times ct__law_times), sl__law_times⟩)
    (c1__law_times : PySem.W.codeIn K cd__law_times "_law_times" = true)
    (k1__law_times : PySem.W.keepIn K (.ref a__law_times) = true)
    (a1__law_twist : PySem.W.nsIn K mainGlobals "_law_twist" = some (some (.ref a__law_twist)))
    (l1__law_twist : K.lookup a__law_twist = some ⟨oc__law_twist, od__law_twist, .func (PySem.W.fnOf "_law_twist" "_law_twist" (defArgs st__law_twist) (defBody st__law_twist) (defScope st__law_twist) .none kV__law_twist dc__law_twist pm__law_twist an__law_twist cd__law_twist ct__law_twist), sl__law_twist⟩)
    (c1__law_twist : PySem.W.codeIn K cd__law_twist "_law_twist" = true)
    (k1__law_twist : PySem.W.keepIn K (.ref a__law_twist) = true)
    (a1__law_due : PySem.W.nsIn K mainGlobals "_law_due" = some (some (.ref a__law_due)))
    (l1__law_due : K.lookup a__law_due = some ⟨oc__law_due, od__law_due, .func (PySem.W.fnOf "_law_due" "_law_due" (defArgs st__law_due) (defBody st__law_due) (defScope st__law_due) .none kV__law_due dc__law_due pm__law_due an__law_due cd__law_due ct__law_due), sl__law_due⟩)
    (c1__law_due : PySem.W.codeIn K cd__law_due "_law_due" = true)
    (k1__law_due : PySem.W.keepIn K (.ref a__law_due) = true)
    (a1__law_pick : PySem.W.nsIn K mainGlobals "_law_pick" = some (some (.ref a__law_pick)))
    (l1__law_pick : K.lookup a__law_pick = some ⟨oc__law_pick, od__law_pick, .func (PySem.W.fnOf "_law_pick" "_law_pick" (defArgs st__law_pick) (defBody st__law_pick) (defScope st__law_pick) .none kV__law_pick dc__law_pick pm__law_pick an__law_pick cd__law_pick ct__law_pick), sl__law_pick⟩)
    (c1__law_pick : PySem.W.codeIn K cd__law_pick "_law_pick" = true)
    (k1__law_pick : PySem.W.keepIn K (.ref a__law_pick) = true)
    (a1__law_mid : PySem.W.nsIn K mainGlobals "_law_mid" = some (some (.ref a__law_mid)))
    (l1__law_mid : K.lookup a__law_mid = some ⟨oc__law_mid, od__law_mid, .func (PySem.W.fnOf "_law_mid" "_law_mid" (defArgs st__law_mid) (defBody st__law_mid) (defScope st__law_mid) .none kV__law_mid dc__law_mid pm__law_mid an__law_mid cd__law_mid ct__law_mid), sl__law_mid⟩)
    (c1__law_mid : PySem.W.codeIn K cd__law_mid "_law_mid" = true)
    (k1__law_mid : PySem.W.keepIn K (.ref a__law_mid) = true)
    (a1__law_mid_drawn : PySem.W.nsIn K mainGlobals "_law_mid_drawn" = some (some (.ref a__law_mid_drawn)))
    (l1__law_mid_drawn : K.lookup a__law_mid_drawn = some ⟨oc__law_mid_drawn, od__law_mid_drawn, .func (PySem.W.fnOf "_law_mid_drawn" "_law_mid_drawn" (defArgs st__law_mid_drawn) (defBody st__law_mid_drawn) (defScope st__law_mid_drawn) .none kV__law_mid_drawn dc__law_mid_drawn pm__law_mid_drawn an__law_mid_drawn cd__law_mid_drawn ct__law_mid_drawn), sl__law_mid_drawn⟩)
    (c1__law_mid_drawn : PySem.W.codeIn K cd__law_mid_drawn "_law_mid_drawn" = true)
    (k1__law_mid_drawn : PySem.W.keepIn K (.ref a__law_mid_drawn) = true)
    (a1_is_integer : PySem.W.nsIn K mainGlobals "is_integer" = some (some (.ref a_is_integer)))
    (l1_is_integer : K.lookup a_is_integer = some ⟨oc_is_integer, od_is_integer, .func (PySem.W.fnOf "is_integer" "is_integer" (defArgs st_is_integer) (defBody st_is_integer) (defScope st_is_integer) .none kV_is_integer dc_is_integer pm_is_integer an_is_integer cd_is_integer ct_is_integer), sl_is_integer⟩)
    (c1_is_integer : PySem.W.codeIn K cd_is_integer "is_integer" = true)
    (k1_is_integer : PySem.W.keepIn K (.ref a_is_integer) = true)
    (a1_PlaceX_initX : PySem.W.findIn K (.ref C_Place) "__init__" = some (some (.ref a_PlaceX_initX)))
    (i1_PlaceX_initX : PySem.W.isFn K (.ref a_PlaceX_initX) = true)
    (l1_PlaceX_initX : K.lookup a_PlaceX_initX = some ⟨oc_PlaceX_initX, od_PlaceX_initX, .func (PySem.W.fnOf "__init__" "Place.__init__" (defArgs st_PlaceX_initX) (defBody st_PlaceX_initX) (defScope st_PlaceX_initX) .none kV_PlaceX_initX dc_PlaceX_initX pm_PlaceX_initX an_PlaceX_initX cd_PlaceX_initX ct_PlaceX_initX), sl_PlaceX_initX⟩)
    (c1_PlaceX_initX : PySem.W.codeIn K cd_PlaceX_initX "Place.__init__" = true)
    (k1_PlaceX_initX : PySem.W.keepIn K (.ref a_PlaceX_initX) = true)
    (a1__law_place : PySem.W.nsIn K mainGlobals "_law_place" = some (some (.ref a__law_place)))
    (l1__law_place : K.lookup a__law_place = some ⟨oc__law_place, od__law_place, .func (PySem.W.fnOf "_law_place" "_law_place" (defArgs st__law_place) (defBody st__law_place) (defScope st__law_place) .none kV__law_place dc__law_place pm__law_place an__law_place cd__law_place ct__law_place), sl__law_place⟩)
    (c1__law_place : PySem.W.codeIn K cd__law_place "_law_place" = true)
    (k1__law_place : PySem.W.keepIn K (.ref a__law_place) = true)
    (a1__law_small : PySem.W.nsIn K mainGlobals "_law_small" = some (some (.ref a__law_small)))
    (l1__law_small : K.lookup a__law_small = some ⟨oc__law_small, od__law_small, .func (PySem.W.fnOf "_law_small" "_law_small" (defArgs st__law_small) (defBody st__law_small) (defScope st__law_small) .none kV__law_small dc__law_small pm__law_small an__law_small cd__law_small ct__law_small), sl__law_small⟩)
    (c1__law_small : PySem.W.codeIn K cd__law_small "_law_small" = true)
    (k1__law_small : PySem.W.keepIn K (.ref a__law_small) = true)
    (a1_need_place : PySem.W.nsIn K mainGlobals "need_place" = some (some (.ref a_need_place)))
    (l1_need_place : K.lookup a_need_place = some ⟨oc_need_place, od_need_place, .func (PySem.W.fnOf "need_place" "need_place" (defArgs st_need_place) (defBody st_need_place) (defScope st_need_place) .none kV_need_place dc_need_place pm_need_place an_need_place cd_need_place ct_need_place), sl_need_place⟩)
    (c1_need_place : PySem.W.codeIn K cd_need_place "need_place" = true)
    (k1_need_place : PySem.W.keepIn K (.ref a_need_place) = true)
    (a1_Place_twist : PySem.W.findIn K (.ref C_Place) "twist" = some (some (.ref a_Place_twist)))
    (i1_Place_twist : PySem.W.isFn K (.ref a_Place_twist) = true)
    (l1_Place_twist : K.lookup a_Place_twist = some ⟨oc_Place_twist, od_Place_twist, .func (PySem.W.fnOf "twist" "Place.twist" (defArgs st_Place_twist) (defBody st_Place_twist) (defScope st_Place_twist) .none kV_Place_twist dc_Place_twist pm_Place_twist an_Place_twist cd_Place_twist ct_Place_twist), sl_Place_twist⟩)
    (c1_Place_twist : PySem.W.codeIn K cd_Place_twist "Place.twist" = true)
    (k1_Place_twist : PySem.W.keepIn K (.ref a_Place_twist) = true)
    (a1_pairs_below : PySem.W.nsIn K mainGlobals "pairs_below" = some (some (.ref a_pairs_below)))
    (l1_pairs_below : K.lookup a_pairs_below = some ⟨oc_pairs_below, od_pairs_below, .func (PySem.W.fnOf "pairs_below" "pairs_below" (defArgs st_pairs_below) (defBody st_pairs_below) (defScope st_pairs_below) .none kV_pairs_below dc_pairs_below pm_pairs_below an_pairs_below cd_pairs_below ct_pairs_below), sl_pairs_below⟩)
    (c1_pairs_below : PySem.W.codeIn K cd_pairs_below "pairs_below" = true)
    (k1_pairs_below : PySem.W.keepIn K (.ref a_pairs_below) = true)
    (a1_Place_power : PySem.W.findIn K (.ref C_Place) "power" = some (some (.ref a_Place_power)))
    (i1_Place_power : PySem.W.isFn K (.ref a_Place_power) = true)
    (l1_Place_power : K.lookup a_Place_power = some ⟨oc_Place_power, od_Place_power, .func (PySem.W.fnOf "power" "Place.power" (defArgs st_Place_power) (defBody st_Place_power) (defScope st_Place_power) .none kV_Place_power dc_Place_power pm_Place_power an_Place_power cd_Place_power ct_Place_power), sl_Place_power⟩)
    (c1_Place_power : PySem.W.codeIn K cd_Place_power "Place.power" = true)
    (k1_Place_power : PySem.W.keepIn K (.ref a_Place_power) = true)
    (a1_divisor_of : PySem.W.nsIn K mainGlobals "divisor_of" = some (some (.ref a_divisor_of)))
    (l1_divisor_of : K.lookup a_divisor_of = some ⟨oc_divisor_of, od_divisor_of, .func (PySem.W.fnOf "divisor_of" "divisor_of" (defArgs st_divisor_of) (defBody st_divisor_of) (defScope st_divisor_of) .none kV_divisor_of dc_divisor_of pm_divisor_of an_divisor_of cd_divisor_of ct_divisor_of), sl_divisor_of⟩)
    (c1_divisor_of : PySem.W.codeIn K cd_divisor_of "divisor_of" = true)
    (k1_divisor_of : PySem.W.keepIn K (.ref a_divisor_of) = true)
    (a1_along : PySem.W.nsIn K mainGlobals "along" = some (some (.ref a_along)))
    (l1_along : K.lookup a_along = some ⟨oc_along, od_along, .func (PySem.W.fnOf "along" "along" (defArgs st_along) (defBody st_along) (defScope st_along) .none kV_along dc_along pm_along an_along cd_along ct_along), sl_along⟩)
    (c1_along : PySem.W.codeIn K cd_along "along" = true)
    (k1_along : PySem.W.keepIn K (.ref a_along) = true)
    (a1_figures_along : PySem.W.nsIn K mainGlobals "figures_along" = some (some (.ref a_figures_along)))
    (l1_figures_along : K.lookup a_figures_along = some ⟨oc_figures_along, od_figures_along, .func (PySem.W.fnOf "figures_along" "figures_along" (defArgs st_figures_along) (defBody st_figures_along) (defScope st_figures_along) .none kV_figures_along dc_figures_along pm_figures_along an_figures_along cd_figures_along ct_figures_along), sl_figures_along⟩)
    (c1_figures_along : PySem.W.codeIn K cd_figures_along "figures_along" = true)
    (k1_figures_along : PySem.W.keepIn K (.ref a_figures_along) = true)
    (a1_PlaceX_eqX : PySem.W.findIn K (.ref C_Place) "__eq__" = some (some (.ref a_PlaceX_eqX)))
    (i1_PlaceX_eqX : PySem.W.isFn K (.ref a_PlaceX_eqX) = true)
    (l1_PlaceX_eqX : K.lookup a_PlaceX_eqX = some ⟨oc_PlaceX_eqX, od_PlaceX_eqX, .func (PySem.W.fnOf "__eq__" "Place.__eq__" (defArgs st_PlaceX_eqX) (defBody st_PlaceX_eqX) (defScope st_PlaceX_eqX) .none kV_PlaceX_eqX dc_PlaceX_eqX pm_PlaceX_eqX an_PlaceX_eqX cd_PlaceX_eqX ct_PlaceX_eqX), sl_PlaceX_eqX⟩)
    (c1_PlaceX_eqX : PySem.W.codeIn K cd_PlaceX_eqX "Place.__eq__" = true)
    (k1_PlaceX_eqX : PySem.W.keepIn K (.ref a_PlaceX_eqX) = true)
    (a1_PlaceX_mulX : PySem.W.findIn K (.ref C_Place) "__mul__" = some (some (.ref a_PlaceX_mulX)))
    (i1_PlaceX_mulX : PySem.W.isFn K (.ref a_PlaceX_mulX) = true)
    (l1_PlaceX_mulX : K.lookup a_PlaceX_mulX = some ⟨oc_PlaceX_mulX, od_PlaceX_mulX, .func (PySem.W.fnOf "__mul__" "Place.__mul__" (defArgs st_PlaceX_mulX) (defBody st_PlaceX_mulX) (defScope st_PlaceX_mulX) .none kV_PlaceX_mulX dc_PlaceX_mulX pm_PlaceX_mulX an_PlaceX_mulX cd_PlaceX_mulX ct_PlaceX_mulX), sl_PlaceX_mulX⟩)
    (c1_PlaceX_mulX : PySem.W.codeIn K cd_PlaceX_mulX "Place.__mul__" = true)
    (k1_PlaceX_mulX : PySem.W.keepIn K (.ref a_PlaceX_mulX) = true)
    (a1_row_less : PySem.W.nsIn K mainGlobals "row_less" = some (some (.ref a_row_less)))
    (l1_row_less : K.lookup a_row_less = some ⟨oc_row_less, od_row_less, .func (PySem.W.fnOf "row_less" "row_less" (defArgs st_row_less) (defBody st_row_less) (defScope st_row_less) .none kV_row_less dc_row_less pm_row_less an_row_less cd_row_less ct_row_less), sl_row_less⟩)
    (c1_row_less : PySem.W.codeIn K cd_row_less "row_less" = true)
    (k1_row_less : PySem.W.keepIn K (.ref a_row_less) = true)
    (a1_head_row : PySem.W.nsIn K mainGlobals "head_row" = some (some (.ref a_head_row)))
    (l1_head_row : K.lookup a_head_row = some ⟨oc_head_row, od_head_row, .func (PySem.W.fnOf "head_row" "head_row" (defArgs st_head_row) (defBody st_head_row) (defScope st_head_row) .none kV_head_row dc_head_row pm_head_row an_head_row cd_head_row ct_head_row), sl_head_row⟩)
    (c1_head_row : PySem.W.codeIn K cd_head_row "head_row" = true)
    (k1_head_row : PySem.W.keepIn K (.ref a_head_row) = true)
    (a1_bezout_of : PySem.W.nsIn K mainGlobals "bezout_of" = some (some (.ref a_bezout_of)))
    (l1_bezout_of : K.lookup a_bezout_of = some ⟨oc_bezout_of, od_bezout_of, .func (PySem.W.fnOf "bezout_of" "bezout_of" (defArgs st_bezout_of) (defBody st_bezout_of) (defScope st_bezout_of) .none kV_bezout_of dc_bezout_of pm_bezout_of an_bezout_of cd_bezout_of ct_bezout_of), sl_bezout_of⟩)
    (c1_bezout_of : PySem.W.codeIn K cd_bezout_of "bezout_of" = true)
    (k1_bezout_of : PySem.W.keepIn K (.ref a_bezout_of) = true)
    (a1_one_row : PySem.W.nsIn K mainGlobals "one_row" = some (some (.ref a_one_row)))
    (l1_one_row : K.lookup a_one_row = some ⟨oc_one_row, od_one_row, .func (PySem.W.fnOf "one_row" "one_row" (defArgs st_one_row) (defBody st_one_row) (defScope st_one_row) .none kV_one_row dc_one_row pm_one_row an_one_row cd_one_row ct_one_row), sl_one_row⟩)
    (c1_one_row : PySem.W.codeIn K cd_one_row "one_row" = true)
    (k1_one_row : PySem.W.keepIn K (.ref a_one_row) = true)
    (a1_two_rows : PySem.W.nsIn K mainGlobals "two_rows" = some (some (.ref a_two_rows)))
    (l1_two_rows : K.lookup a_two_rows = some ⟨oc_two_rows, od_two_rows, .func (PySem.W.fnOf "two_rows" "two_rows" (defArgs st_two_rows) (defBody st_two_rows) (defScope st_two_rows) .none kV_two_rows dc_two_rows pm_two_rows an_two_rows cd_two_rows ct_two_rows), sl_two_rows⟩)
    (c1_two_rows : PySem.W.codeIn K cd_two_rows "two_rows" = true)
    (k1_two_rows : PySem.W.keepIn K (.ref a_two_rows) = true)
    (a1_solved : PySem.W.nsIn K mainGlobals "solved" = some (some (.ref a_solved)))
    (l1_solved : K.lookup a_solved = some ⟨oc_solved, od_solved, .func (PySem.W.fnOf "solved" "solved" (defArgs st_solved) (defBody st_solved) (defScope st_solved) .none kV_solved dc_solved pm_solved an_solved cd_solved ct_solved), sl_solved⟩)
    (c1_solved : PySem.W.codeIn K cd_solved "solved" = true)
    (k1_solved : PySem.W.keepIn K (.ref a_solved) = true)
    (a1_powers_crossing : PySem.W.nsIn K mainGlobals "powers_crossing" = some (some (.ref a_powers_crossing)))
    (l1_powers_crossing : K.lookup a_powers_crossing = some ⟨oc_powers_crossing, od_powers_crossing, .func (PySem.W.fnOf "powers_crossing" "powers_crossing" (defArgs st_powers_crossing) (defBody st_powers_crossing) (defScope st_powers_crossing) .none kV_powers_crossing dc_powers_crossing pm_powers_crossing an_powers_crossing cd_powers_crossing ct_powers_crossing), sl_powers_crossing⟩)
    (c1_powers_crossing : PySem.W.codeIn K cd_powers_crossing "powers_crossing" = true)
    (k1_powers_crossing : PySem.W.keepIn K (.ref a_powers_crossing) = true)
    (a1_settled_pair : PySem.W.nsIn K mainGlobals "settled_pair" = some (some (.ref a_settled_pair)))
    (l1_settled_pair : K.lookup a_settled_pair = some ⟨oc_settled_pair, od_settled_pair, .func (PySem.W.fnOf "settled_pair" "settled_pair" (defArgs st_settled_pair) (defBody st_settled_pair) (defScope st_settled_pair) .none kV_settled_pair dc_settled_pair pm_settled_pair an_settled_pair cd_settled_pair ct_settled_pair), sl_settled_pair⟩)
    (c1_settled_pair : PySem.W.codeIn K cd_settled_pair "settled_pair" = true)
    (k1_settled_pair : PySem.W.keepIn K (.ref a_settled_pair) = true)
    (a1_powers_to : PySem.W.nsIn K mainGlobals "powers_to" = some (some (.ref a_powers_to)))
    (l1_powers_to : K.lookup a_powers_to = some ⟨oc_powers_to, od_powers_to, .func (PySem.W.fnOf "powers_to" "powers_to" (defArgs st_powers_to) (defBody st_powers_to) (defScope st_powers_to) .none kV_powers_to dc_powers_to pm_powers_to an_powers_to cd_powers_to ct_powers_to), sl_powers_to⟩)
    (c1_powers_to : PySem.W.codeIn K cd_powers_to "powers_to" = true)
    (k1_powers_to : PySem.W.keepIn K (.ref a_powers_to) = true)
    (a1_law : PySem.W.nsIn K mainGlobals "law" = some (some (.ref a_law)))
    (l1_law : K.lookup a_law = some ⟨oc_law, od_law, .func (PySem.W.fnOf "law" "law" (defArgs st_law) (defBody st_law) (defScope st_law) .none kV_law dc_law pm_law an_law cd_law ct_law), sl_law⟩)
    (c1_law : PySem.W.codeIn K cd_law "law" = true)
    (k1_law : PySem.W.keepIn K (.ref a_law) = true)
    (z1_abs : PySem.W.nsIn K mainGlobals "abs" = some none)
    (z1_bool : PySem.W.nsIn K mainGlobals "bool" = some none)
    (z1_enumerate : PySem.W.nsIn K mainGlobals "enumerate" = some none)
    (z1_int : PySem.W.nsIn K mainGlobals "int" = some none)
    (z1_isinstance : PySem.W.nsIn K mainGlobals "isinstance" = some none)
    (z1_len : PySem.W.nsIn K mainGlobals "len" = some none)
    (z1_list : PySem.W.nsIn K mainGlobals "list" = some none)
    (z1_range : PySem.W.nsIn K mainGlobals "range" = some none)
    (z1_tuple : PySem.W.nsIn K mainGlobals "tuple" = some none)
    (z1_zip : PySem.W.nsIn K mainGlobals "zip" = some none)
    (hl : ∀ ns : List Int, ns.length ≤ 63 → ∃ S, g_law [.scr (ns.map D.int)] [] = .ok (.bl true) S) :
    ∃ fd : FuncData, (∀ (s : Shared) (v : Value), BindsTo s fd ⟨[v], []⟩ [("_law_script", v)]) ∧ ∀ base : Heap, K.In base → base.Ns mainGlobals mg → FnOk l.prog w K mg base (L2.CX l.prog w) 11 fa fd ["_law_script"] (spLaw K) := by
  have e := hfa.symm.trans (PySem.W.mg_of X G0 a1_law)
  cases e
  let G : Gam := ⟨K, fun c => if c = "Place" then some C_Place else none, fun _ => none⟩
  have cF_Place := clsF cB_Place
  have ct_Place : G.ct "Place" = some C_Place := by simp [G]
  have F__law_begin := fun_mk (st := st__law_begin) l1__law_begin c1__law_begin k1__law_begin
  have F__law_draw := fun_mk (st := st__law_draw) l1__law_draw c1__law_draw k1__law_draw
  have F__law_join := fun_mk (st := st__law_join) l1__law_join c1__law_join k1__law_join
  have F__law_times := fun_mk (st := st__law_times) l1__law_times c1__law_times k1__law_times
  have F__law_twist := fun_mk (st := st__law_twist) l1__law_twist c1__law_twist k1__law_twist
  have F__law_due := fun_mk (st := st__law_due) l1__law_due c1__law_due k1__law_due
  have F__law_pick := fun_mk (st := st__law_pick) l1__law_pick c1__law_pick k1__law_pick
  have F__law_mid := fun_mk (st := st__law_mid) l1__law_mid c1__law_mid k1__law_mid
  have F__law_mid_drawn := fun_mk (st := st__law_mid_drawn) l1__law_mid_drawn c1__law_mid_drawn k1__law_mid_drawn
  have F_is_integer := fun_mk (st := st_is_integer) l1_is_integer c1_is_integer k1_is_integer
  have F_PlaceX_initX := fun_mk (st := st_PlaceX_initX) l1_PlaceX_initX c1_PlaceX_initX k1_PlaceX_initX
  have F__law_place := fun_mk (st := st__law_place) l1__law_place c1__law_place k1__law_place
  have F__law_small := fun_mk (st := st__law_small) l1__law_small c1__law_small k1__law_small
  have F_need_place := fun_mk (st := st_need_place) l1_need_place c1_need_place k1_need_place
  have F_Place_twist := fun_mk (st := st_Place_twist) l1_Place_twist c1_Place_twist k1_Place_twist
  have F_pairs_below := fun_mk (st := st_pairs_below) l1_pairs_below c1_pairs_below k1_pairs_below
  have F_Place_power := fun_mk (st := st_Place_power) l1_Place_power c1_Place_power k1_Place_power
  have F_divisor_of := fun_mk (st := st_divisor_of) l1_divisor_of c1_divisor_of k1_divisor_of
  have F_along := fun_mk (st := st_along) l1_along c1_along k1_along
  have F_figures_along := fun_mk (st := st_figures_along) l1_figures_along c1_figures_along k1_figures_along
  have F_PlaceX_eqX := fun_mk (st := st_PlaceX_eqX) l1_PlaceX_eqX c1_PlaceX_eqX k1_PlaceX_eqX
  have F_PlaceX_mulX := fun_mk (st := st_PlaceX_mulX) l1_PlaceX_mulX c1_PlaceX_mulX k1_PlaceX_mulX
  have F_row_less := fun_mk (st := st_row_less) l1_row_less c1_row_less k1_row_less
  have F_head_row := fun_mk (st := st_head_row) l1_head_row c1_head_row k1_head_row
  have F_bezout_of := fun_mk (st := st_bezout_of) l1_bezout_of c1_bezout_of k1_bezout_of
  have F_one_row := fun_mk (st := st_one_row) l1_one_row c1_one_row k1_one_row
  have F_two_rows := fun_mk (st := st_two_rows) l1_two_rows c1_two_rows k1_two_rows
  have F_solved := fun_mk (st := st_solved) l1_solved c1_solved k1_solved
  have F_powers_crossing := fun_mk (st := st_powers_crossing) l1_powers_crossing c1_powers_crossing k1_powers_crossing
  have F_settled_pair := fun_mk (st := st_settled_pair) l1_settled_pair c1_settled_pair k1_settled_pair
  have F_powers_to := fun_mk (st := st_powers_to) l1_powers_to c1_powers_to k1_powers_to
  have F_law := fun_mk (st := st_law) l1_law c1_law k1_law
  let e : Ev G mg := {
    C_Place := C_Place
    ct_Place := ct_Place
    cl_Place := cF_Place.cl
    m_Place := PySem.W.mg_of X G0 aC_Place
    sf_Place := cF_Place.sf
    ne_Place := cF_Place.ne
    mo_Place := cF_Place.mo
    na_Place_x := cF_Place.na _ (by simp)
    na_Place_y := cF_Place.na _ (by simp)
    na_Place_area := cF_Place.na _ (by simp)
    a__law_begin := a__law_begin
    fd__law_begin := _
    F__law_begin := F__law_begin
    b__law_begin := F__law_begin.binds (ps := ["_law_script"]) fun _ _ _ _ _ _ us hl => match us, hl with | [_], _ => rfl
    m__law_begin := PySem.W.mg_of X G0 a1__law_begin
    a__law_draw := a__law_draw
    fd__law_draw := _
    F__law_draw := F__law_draw
    b__law_draw := F__law_draw.binds (ps := ["_law_pen", "_law_span"]) fun _ _ _ _ _ _ us hl => match us, hl with | [_, _], _ => rfl
    m__law_draw := PySem.W.mg_of X G0 a1__law_draw
    a__law_join := a__law_join
    fd__law_join := _
    F__law_join := F__law_join
    b__law_join := F__law_join.binds (ps := ["_law_one", "_law_other"]) fun _ _ _ _ _ _ us hl => match us, hl with | [_, _], _ => rfl
    m__law_join := PySem.W.mg_of X G0 a1__law_join
    a__law_times := a__law_times
    fd__law_times := _
    F__law_times := F__law_times
    b__law_times := F__law_times.binds (ps := ["_law_one", "_law_number"]) fun _ _ _ _ _ _ us hl => match us, hl with | [_, _], _ => rfl
    m__law_times := PySem.W.mg_of X G0 a1__law_times
    a__law_twist := a__law_twist
    fd__law_twist := _
    F__law_twist := F__law_twist
    b__law_twist := F__law_twist.binds (ps := ["_law_one", "_law_other"]) fun _ _ _ _ _ _ us hl => match us, hl with | [_, _], _ => rfl
    m__law_twist := PySem.W.mg_of X G0 a1__law_twist
    a__law_due := a__law_due
    fd__law_due := _
    F__law_due := F__law_due
    b__law_due := F__law_due.binds (ps := ["_law_one", "_law_other", "_law_goal"]) fun _ _ _ _ _ _ us hl => match us, hl with | [_, _, _], _ => rfl
    m__law_due := PySem.W.mg_of X G0 a1__law_due
    a__law_pick := a__law_pick
    fd__law_pick := _
    F__law_pick := F__law_pick
    b__law_pick := F__law_pick.binds (ps := ["_law_pen", "_law_some"]) fun _ _ _ _ _ _ us hl => match us, hl with | [_, _], _ => rfl
    m__law_pick := PySem.W.mg_of X G0 a1__law_pick
    a__law_mid := a__law_mid
    fd__law_mid := _
    F__law_mid := F__law_mid
    b__law_mid := F__law_mid.binds (ps := ["_law_pen"]) fun _ _ _ _ _ _ us hl => match us, hl with | [_], _ => rfl
    m__law_mid := PySem.W.mg_of X G0 a1__law_mid
    a__law_mid_drawn := a__law_mid_drawn
    fd__law_mid_drawn := _
    F__law_mid_drawn := F__law_mid_drawn
    b__law_mid_drawn := F__law_mid_drawn.binds (ps := ["_law_pen"]) fun _ _ _ _ _ _ us hl => match us, hl with | [_], _ => rfl
    m__law_mid_drawn := PySem.W.mg_of X G0 a1__law_mid_drawn
    a_is_integer := a_is_integer
    fd_is_integer := _
    F_is_integer := F_is_integer
    b_is_integer := F_is_integer.binds (ps := ["value"]) fun _ _ _ _ _ _ us hl => match us, hl with | [_], _ => rfl
    m_is_integer := PySem.W.mg_of X G0 a1_is_integer
    a_PlaceX_initX := a_PlaceX_initX
    fd_PlaceX_initX := _
    F_PlaceX_initX := F_PlaceX_initX
    b_PlaceX_initX := F_PlaceX_initX.binds (ps := ["self", "x", "y", "area"]) fun _ _ _ _ _ _ us hl => match us, hl with | [_, _, _, _], _ => rfl
    M_PlaceX_initX := ⟨a1_PlaceX_initX, i1_PlaceX_initX, k1_PlaceX_initX⟩
    a__law_place := a__law_place
    fd__law_place := _
    F__law_place := F__law_place
    b__law_place := F__law_place.binds (ps := ["_law_row"]) fun _ _ _ _ _ _ us hl => match us, hl with | [_], _ => rfl
    m__law_place := PySem.W.mg_of X G0 a1__law_place
    a__law_small := a__law_small
    fd__law_small := _
    F__law_small := F__law_small
    b__law_small := F__law_small.binds (ps := ["_law_pen"]) fun _ _ _ _ _ _ us hl => match us, hl with | [_], _ => rfl
    m__law_small := PySem.W.mg_of X G0 a1__law_small
    a_need_place := a_need_place
    fd_need_place := _
    F_need_place := F_need_place
    b_need_place := F_need_place.binds (ps := ["value"]) fun _ _ _ _ _ _ us hl => match us, hl with | [_], _ => rfl
    m_need_place := PySem.W.mg_of X G0 a1_need_place
    a_Place_twist := a_Place_twist
    fd_Place_twist := _
    F_Place_twist := F_Place_twist
    b_Place_twist := F_Place_twist.binds (ps := ["self", "other"]) fun _ _ _ _ _ _ us hl => match us, hl with | [_, _], _ => rfl
    M_Place_twist := ⟨a1_Place_twist, i1_Place_twist, k1_Place_twist⟩
    a_pairs_below := a_pairs_below
    fd_pairs_below := _
    F_pairs_below := F_pairs_below
    b_pairs_below := F_pairs_below.binds (ps := ["number"]) fun _ _ _ _ _ _ us hl => match us, hl with | [_], _ => rfl
    m_pairs_below := PySem.W.mg_of X G0 a1_pairs_below
    a_Place_power := a_Place_power
    fd_Place_power := _
    F_Place_power := F_Place_power
    b_Place_power := F_Place_power.binds (ps := ["self", "number"]) fun _ _ _ _ _ _ us hl => match us, hl with | [_, _], _ => rfl
    M_Place_power := ⟨a1_Place_power, i1_Place_power, k1_Place_power⟩
    a_divisor_of := a_divisor_of
    fd_divisor_of := _
    F_divisor_of := F_divisor_of
    b_divisor_of := F_divisor_of.binds (ps := ["one", "other"]) fun _ _ _ _ _ _ us hl => match us, hl with | [_, _], _ => rfl
    m_divisor_of := PySem.W.mg_of X G0 a1_divisor_of
    a_along := a_along
    fd_along := _
    F_along := F_along
    b_along := F_along.binds (ps := ["place"]) fun _ _ _ _ _ _ us hl => match us, hl with | [_], _ => rfl
    m_along := PySem.W.mg_of X G0 a1_along
    a_figures_along := a_figures_along
    fd_figures_along := _
    F_figures_along := F_figures_along
    b_figures_along := F_figures_along.binds (ps := ["place", "other"]) fun _ _ _ _ _ _ us hl => match us, hl with | [_, _], _ => rfl
    m_figures_along := PySem.W.mg_of X G0 a1_figures_along
    a_PlaceX_eqX := a_PlaceX_eqX
    fd_PlaceX_eqX := _
    F_PlaceX_eqX := F_PlaceX_eqX
    b_PlaceX_eqX := F_PlaceX_eqX.binds (ps := ["self", "other"]) fun _ _ _ _ _ _ us hl => match us, hl with | [_, _], _ => rfl
    M_PlaceX_eqX := ⟨a1_PlaceX_eqX, i1_PlaceX_eqX, k1_PlaceX_eqX⟩
    a_PlaceX_mulX := a_PlaceX_mulX
    fd_PlaceX_mulX := _
    F_PlaceX_mulX := F_PlaceX_mulX
    b_PlaceX_mulX := F_PlaceX_mulX.binds (ps := ["self", "other"]) fun _ _ _ _ _ _ us hl => match us, hl with | [_, _], _ => rfl
    M_PlaceX_mulX := ⟨a1_PlaceX_mulX, i1_PlaceX_mulX, k1_PlaceX_mulX⟩
    a_row_less := a_row_less
    fd_row_less := _
    F_row_less := F_row_less
    b_row_less := F_row_less.binds (ps := ["row", "other", "times"]) fun _ _ _ _ _ _ us hl => match us, hl with | [_, _, _], _ => rfl
    m_row_less := PySem.W.mg_of X G0 a1_row_less
    a_head_row := a_head_row
    fd_head_row := _
    F_head_row := F_head_row
    b_head_row := F_head_row.binds (ps := ["rows", "column"]) fun _ _ _ _ _ _ us hl => match us, hl with | [_, _], _ => rfl
    m_head_row := PySem.W.mg_of X G0 a1_head_row
    a_bezout_of := a_bezout_of
    fd_bezout_of := _
    F_bezout_of := F_bezout_of
    b_bezout_of := F_bezout_of.binds (ps := ["one", "other"]) fun _ _ _ _ _ _ us hl => match us, hl with | [_, _], _ => rfl
    m_bezout_of := PySem.W.mg_of X G0 a1_bezout_of
    a_one_row := a_one_row
    fd_one_row := _
    F_one_row := F_one_row
    b_one_row := F_one_row.binds (ps := ["row"]) fun _ _ _ _ _ _ us hl => match us, hl with | [_], _ => rfl
    m_one_row := PySem.W.mg_of X G0 a1_one_row
    a_two_rows := a_two_rows
    fd_two_rows := _
    F_two_rows := F_two_rows
    b_two_rows := F_two_rows.binds (ps := ["first", "second"]) fun _ _ _ _ _ _ us hl => match us, hl with | [_, _], _ => rfl
    m_two_rows := PySem.W.mg_of X G0 a1_two_rows
    a_solved := a_solved
    fd_solved := _
    F_solved := F_solved
    b_solved := F_solved.binds (ps := ["rows", "goals"]) fun _ _ _ _ _ _ us hl => match us, hl with | [_, _], _ => rfl
    m_solved := PySem.W.mg_of X G0 a1_solved
    a_powers_crossing := a_powers_crossing
    fd_powers_crossing := _
    F_powers_crossing := F_powers_crossing
    b_powers_crossing := F_powers_crossing.binds (ps := ["one", "other", "goal"]) fun _ _ _ _ _ _ us hl => match us, hl with | [_, _, _], _ => rfl
    m_powers_crossing := PySem.W.mg_of X G0 a1_powers_crossing
    a_settled_pair := a_settled_pair
    fd_settled_pair := _
    F_settled_pair := F_settled_pair
    b_settled_pair := F_settled_pair.binds (ps := ["pair", "kernel"]) fun _ _ _ _ _ _ us hl => match us, hl with | [_, _], _ => rfl
    m_settled_pair := PySem.W.mg_of X G0 a1_settled_pair
    a_powers_to := a_powers_to
    fd_powers_to := _
    F_powers_to := F_powers_to
    b_powers_to := F_powers_to.binds (ps := ["one", "other", "goal"]) fun _ _ _ _ _ _ us hl => match us, hl with | [_, _, _], _ => rfl
    m_powers_to := PySem.W.mg_of X G0 a1_powers_to
    a_law := fa
    fd_law := _
    F_law := F_law
    b_law := F_law.binds (ps := ["_law_script"]) fun _ _ _ _ _ _ us hl => match us, hl with | [_], _ => rfl
    m_law := PySem.W.mg_of X G0 a1_law
    mk_Place := ⟨cF_Place.makes, a1_PlaceX_initX, i1_PlaceX_initX, cF_Place.kp⟩
    f_area := fun c hc C hC => by
      simp only [List.mem_cons, List.not_mem_nil, or_false] at hc
      (subst hc; rw [ct_Place] at hC; cases hC; exact ⟨cF_Place.cl, by rw [← s_5]; exact cF_Place.na _ (by simp)⟩)
    f_x := fun c hc C hC => by
      simp only [List.mem_cons, List.not_mem_nil, or_false] at hc
      (subst hc; rw [ct_Place] at hC; cases hC; exact ⟨cF_Place.cl, by rw [← s_3]; exact cF_Place.na _ (by simp)⟩)
    f_y := fun c hc C hC => by
      simp only [List.mem_cons, List.not_mem_nil, or_false] at hc
      (subst hc; rw [ct_Place] at hC; cases hC; exact ⟨cF_Place.cl, by rw [← s_4]; exact cF_Place.na _ (by simp)⟩)
    z_abs := PySem.W.mg_none_of X G0 z1_abs
    z_bool := PySem.W.mg_none_of X G0 z1_bool
    z_enumerate := PySem.W.mg_none_of X G0 z1_enumerate
    z_int := PySem.W.mg_none_of X G0 z1_int
    z_isinstance := PySem.W.mg_none_of X G0 z1_isinstance
    z_len := PySem.W.mg_none_of X G0 z1_len
    z_list := PySem.W.mg_none_of X G0 z1_list
    z_range := PySem.W.mg_none_of X G0 z1_range
    z_tuple := PySem.W.mg_none_of X G0 z1_tuple
    z_zip := PySem.W.mg_none_of X G0 z1_zip
    iso := isOk_of (fun c hc => by
      simp only [List.mem_cons, List.not_mem_nil, or_false] at hc
      (subst hc; exact ⟨C_Place, _, ct_Place, cF_Place⟩)) fun c hc c2 hc2 C1 C2 h1 h2 => by
      simp only [List.mem_cons, List.not_mem_nil, or_false] at hc hc2
      (subst hc; rw [ct_Place] at h1; cases h1; (subst hc2; rw [ct_Place] at h2; cases h2; exact kit_self)) }
  exact ⟨_, fun s v => .of_eq rfl, fun base _ _ => law_end (G := G) (ok_law e) hl⟩
end
end W_k45
set_option maxRecDepth 100000
set_option maxHeartbeats 4000000
set_option autoImplicit false
namespace DL
/-! ### readings, by simp -/
section
variable {s : DS} {st : List Cell} {sl : List Sl}
@[simp] theorem r_eC (d : D) (s : DS) : eC d s = .ok d s := rfl
@[simp] theorem r_eVar (i : Nat) (sl : List Sl) (st : List Cell) : eVar i ⟨sl, st⟩ = match sl[i]? with
  | some (.val d) => .ok d ⟨sl, st⟩
  | some (.ol xs) => .ok (.lst xs) ⟨sl.set i (.val (.lst xs)), st⟩
  | some (.od kvs) => .ok (.dic kvs) ⟨sl.set i (.val (.dic kvs)), st⟩
  | some (.oi c fs) => .ok (.ins c fs) ⟨sl.set i (.val (.ins c fs)), st⟩
  | _ => .stuck := rfl
@[simp] theorem r_eOp2 (o : D → D → Option D) (fa fb : DE) (s : DS) : eOp2 o fa fb s = (fa s).bind fun x s1 => (fb s1).bind fun y s2 => match o x y with | some d => .ok d s2 | none => .stuck := rfl
@[simp] theorem r_eOpX (o : DO2) (fa fb : DE) (s : DS) : eOpX o fa fb s = (fa s).bind fun x s1 => (fb s1).bind fun y s2 => o x y s2 := rfl
@[simp] theorem r_eB (f : DE) (s : DS) : eB f s = (f s).bind fun d s1 => match d with | .bl b => .ok b s1 | _ => .stuck := rfl
@[simp] theorem r_eTru (f : DE) (s : DS) : eTru f s = (f s).bind fun d s1 => match truD d with | some b => .ok b s1 | none => .stuck := rfl
@[simp] theorem r_bAnd (f g : DT) (s : DS) : bAnd f g s = (f s).bind fun b s1 => if b = true then g s1 else .ok false s1 := rfl
@[simp] theorem r_bOr (f g : DT) (s : DS) : bOr f g s = (f s).bind fun b s1 => if b = true then .ok true s1 else g s1 := rfl
@[simp] theorem r_bNot (f : DT) (s : DS) : bNot f s = (f s).bind fun b s1 => .ok (!b) s1 := rfl
@[simp] theorem r_bYes (s : DS) : bYes s = .ok true s := rfl
@[simp] theorem r_eAndT (f g : DE) (s : DS) : eAndT f g s = (f s).bind fun d s1 => match truD d with | some b => if b = true then g s1 else .ok d s1 | none => .stuck := rfl
@[simp] theorem r_eOrT (f g : DE) (s : DS) : eOrT f g s = (f s).bind fun d s1 => match truD d with | some b => if b = true then .ok d s1 else g s1 | none => .stuck := rfl
@[simp] theorem r_eNotT (f : DE) (s : DS) : eNotT f s = (f s).bind fun d s1 => match truD d with | some b => .ok (.bl (!b)) s1 | none => .stuck := rfl
@[simp] theorem r_eIf (c : DT) (f g : DE) (s : DS) : eIf c f g s = (c s).bind fun b s1 => if b = true then f s1 else g s1 := rfl
@[simp] theorem r_aNil (s : DS) : aNil s = .ok [] s := rfl
@[simp] theorem r_aCons (f : DE) (g : DA) (s : DS) : aCons f g s = (f s).bind fun d s1 => (g s1).bind fun ds s2 => .ok (d :: ds) s2 := rfl
@[simp] theorem r_eTup (g : DA) (s : DS) : eTup g s = (g s).bind fun ds s1 => if ds.length ≤ 1000 then .ok (.tup ds) s1 else .stuck := rfl
@[simp] theorem r_aMax (g : DA) (s : DS) : aMax g s = (g s).bind fun ds s1 => if ds.length ≤ 1000 then .ok ds s1 else .stuck := rfl
@[simp] theorem r_eFrz (f : DA) (s : DS) : eFrz f s = (f s).bind fun xs s1 => .ok (.lst xs) s1 := rfl
@[simp] theorem r_eFrzD (f : DD) (s : DS) : eFrzD f s = (f s).bind fun xs s1 => .ok (.dic xs) s1 := rfl
@[simp] theorem r_sPass (s : DS) : sPass s = .ok .nx s := rfl
@[simp] theorem r_sNever (s : DS) : sNever s = .stuck := rfl
@[simp] theorem r_sBreak (s : DS) : sBreak s = .ok .bk s := rfl
@[simp] theorem r_sCont (s : DS) : sCont s = .ok .ct s := rfl
@[simp] theorem r_sSeq (f g : DStm) (s : DS) : sSeq f g s = (f s).bind fun o s1 => match o with | .nx => g s1 | o => .ok o s1 := rfl
@[simp] theorem r_sExpr (f : DE) (s : DS) : sExpr f s = (f s).bind fun _ s1 => .ok .nx s1 := rfl
@[simp] theorem r_sRet (f : DE) (s : DS) : sRet f s = (f s).bind fun d s1 => .ok (.rt d) s1 := rfl
@[simp] theorem r_sIf (c : DT) (f g : DStm) (s : DS) : sIf c f g s = (c s).bind fun b s1 => if b = true then f s1 else g s1 := rfl
@[simp] theorem r_sSet (i : Nat) (f : DE) (s : DS) : sSet i f s = (f s).bind fun d s1 => .ok .nx ⟨s1.sl.set i (.val d), s1.st⟩ := rfl
@[simp] theorem r_sSetO (i : Nat) (f : DA) (s : DS) : sSetO i f s = (f s).bind fun xs s1 => .ok .nx ⟨s1.sl.set i (.ol xs), s1.st⟩ := rfl
@[simp] theorem r_gN (i : Nat) (d : D) (s : DS) : gN i d s = .ok () ⟨s.sl.set i (.val d), s.st⟩ := rfl
@[simp] theorem r_gsNil (s : DS) : gsNil [] s = .ok () s := rfl
@[simp] theorem r_gsCons (g : DG) (k : List D → DS → Res DS Unit) (d : D) (r : List D) (s : DS) : gsCons g k (d :: r) s = (g d s).bind fun _ s1 => k r s1 := rfl
@[simp] theorem r_gT (n : Nat) (g : List D → DS → Res DS Unit) (ds : List D) (s : DS) : gT n g (.tup ds) s = if ds.length = n then g ds s else .stuck := rfl
@[simp] theorem r_noX_ok {σ α : Type} (a : α) (t : σ) : noX (Res.ok a t) = .ok a t := rfl
@[simp] theorem r_noX_stuck {σ α : Type} : noX (Res.stuck : Res σ α) = .stuck := rfl
@[simp] theorem r_noX_exc {σ α : Type} (x : Xc) (t : σ) : noX (Res.exc x t : Res σ α) = .stuck := rfl
@[simp] theorem r_sAsgT (f : DE) (g : DG) (s : DS) : sAsgT f g s = (f s).bind fun d s1 => (noX (g d s1)).bind fun _ s2 => .ok .nx s2 := rfl
@[simp] theorem r_sPar (i j : Nat) (f : DA) (s : DS) : sPar i j f s = (f s).bind fun ds s1 => match ds with | [x, y] => .ok .nx ⟨(s1.sl.set i (.val x)).set j (.val y), s1.st⟩ | _ => .stuck := rfl
@[simp] theorem r_sPar3 (i j l : Nat) (f : DA) (s : DS) : sPar3 i j l f s = (f s).bind fun ds s1 => match ds with | [x, y, z] => .ok .nx ⟨((s1.sl.set i (.val x)).set j (.val y)).set l (.val z), s1.st⟩ | _ => .stuck := rfl
@[simp] theorem r_lo_nx (s : DS) (k : DS → Res DS Out) : loopOut (.ok .nx s) k = k s := rfl
@[simp] theorem r_lo_ct (s : DS) (k : DS → Res DS Out) : loopOut (.ok .ct s) k = k s := rfl
@[simp] theorem r_lo_bk (s : DS) (k : DS → Res DS Out) : loopOut (.ok .bk s) k = .ok .nx s := rfl
@[simp] theorem r_lo_rt (d : D) (s : DS) (k : DS → Res DS Out) : loopOut (.ok (.rt d) s) k = .ok (.rt d) s := rfl
@[simp] theorem r_lo_stuck (k : DS → Res DS Out) : loopOut .stuck k = .stuck := rfl
@[simp] theorem r_for_nil (g : DG) (b : DStm) (s : DS) : forL g b [] s = .ok .nx s := rfl
@[simp] theorem r_for_cons (g : DG) (b : DStm) (d : D) (r : List D) (s : DS) : forL g b (d :: r) s = (noX (g d s)).bind fun _ s1 => loopOut (b s1) (forL g b r) := rfl
@[simp] theorem r_sFor (it : DA) (g : DG) (b : DStm) (s : DS) : sFor it g b s = (it s).bind fun ds s1 => forL g b ds s1 := rfl
@[simp] theorem r_itSeq (f : DE) (s : DS) : itSeq f s = (f s).bind fun d s1 => match itemsD d with | some xs => .ok xs s1 | none => .stuck := rfl
@[simp] theorem r_itemsD_l (xs : List D) : itemsD (.lst xs) = some xs := rfl
@[simp] theorem r_itemsD_s (xs : List D) : itemsD (.scr xs) = some xs := rfl
@[simp] theorem r_itemsD_t (xs : List D) : itemsD (.tup xs) = some xs := rfl
@[simp] theorem r_itemsD_str (xs : Nm) : itemsD (.str xs) = some (xs.map fun c => .str [c]) := rfl
@[simp] theorem r_eCall (n : Nat) (g : DFn) (fa : DA) (s : DS) : eCall n g fa s = (fa s).bind fun ds s1 => if ds.length = n then lift s1 (g ds s1.st) else .stuck := rfl
@[simp] theorem r_lift_ok {α : Type} (s : DS) (d : α) (S : List Cell) : lift s (.ok d S) = .ok d ⟨s.sl, S⟩ := rfl
@[simp] theorem r_lift_exc {α : Type} (s : DS) (x : Xc) (S : List Cell) : lift s (.exc x S : Res (List Cell) α) = .exc x ⟨s.sl, S⟩ := rfl
@[simp] theorem r_lift_stuck {α : Type} (s : DS) : lift s (.stuck : Res (List Cell) α) = .stuck := rfl
@[simp] theorem r_eMake (c : String) (n : Nat) (g : DIn) (fa : DA) (s : DS) : eMake c n g fa s = (fa s).bind fun ds s1 => if ds.length = n then (lift s1 (g ds s1.st)).bind fun fs s2 => .ok (.ins c fs) s2 else .stuck := rfl
@[simp] theorem r_eMeth (c : String) (m : Nm) (n : Nat) (g : DFn) (fo : DE) (fa : DA) (s : DS) : eMeth c m n g fo fa s = (fo s).bind fun d s1 => match insOf d s1 with
  | some (c', fs) => if c' = c ∧ fs.lookup m = none then (fa s1).bind fun ds s2 => if ds.length + 1 = n then lift s2 (g (d :: ds) s2.st) else .stuck else .stuck
  | none => .stuck := rfl
@[simp] theorem r_eFld (cs : List String) (fn : Nm) (f : DE) (s : DS) : eFld cs fn f s = (f s).bind fun d s1 => match insOf d s1 with
  | some (c, fs) => if c ∈ cs then match fs.lookup fn with | some x => .ok x s1 | none => .stuck else .stuck
  | none => .stuck := rfl
@[simp] theorem r_insOf (c : String) (fs : List (Nm × D)) (s : DS) : insOf (.ins c fs) s = some (c, fs) := rfl
@[simp] theorem r_eInv (c : String) (g : DFn) (f : DE) (s : DS) : eInv c g f s = (f s).bind fun d s1 => match insOf d s1 with | some (c1, _) => if c1 = c then lift s1 (g [d] s1.st) else .stuck | none => .stuck := rfl
@[simp] theorem r_ownO (c c1 c2 : String) (f1 f2 : List (Nm × D)) (g : DFn) (s : DS) : ownO c g (.ins c1 f1) (.ins c2 f2) s = if c1 = c ∧ c2 = c then lift s (g [.ins c1 f1, .ins c2 f2] s.st) else .stuck := rfl
@[simp] theorem r_ownNe (c : String) (g : DFn) (x y : D) (s : DS) : ownNe c g x y s = negD (ownO c g x y s) := rfl
@[simp] theorem r_negD (b : Bool) (s : DS) : negD (.ok (.bl b) s) = .ok (.bl (!b)) s := rfl
@[simp] theorem r_eCB (o : List D → Option D) (fa : DA) (s : DS) : eCB o fa s = (fa s).bind fun ds s1 => match o ds with | some d => .ok d s1 | none => .stuck := rfl
@[simp] theorem r_eNeg (f : DE) (s : DS) : eNeg f s = (f s).bind fun d s1 => match d with | .int i => .ok (.int (-i)) s1 | _ => .stuck := rfl
@[simp] theorem r_eIx (fa fb : DE) (s : DS) : eIx fa fb s = (fa s).bind fun x s1 => (fb s1).bind fun y s2 => match y with | .int i => (match ixD x i with | some d => .ok d s2 | none => .stuck) | _ => .stuck := rfl
@[simp] theorem r_sFldO (c : String) (i : Nat) (fn : Nm) (f : DE) (s : DS) : sFldO c i fn f s = (f s).bind fun d s1 => match s1.sl[i]? with
  | some (.oi c' fs) => if c' = c ∧ fs.length < 1000 then .ok .nx ⟨s1.sl.set i (.oi c (putN fn d fs)), s1.st⟩ else .stuck
  | _ => .stuck := rfl
@[simp] theorem r_aList (fa : DA) (s : DS) : aList fa s = (fa s).bind fun ds s1 => match ds with | [d] => (match seqD d with | some xs => .ok xs s1 | none => .stuck) | _ => .stuck := rfl
@[simp] theorem r_seqD_l (xs : List D) : seqD (.lst xs) = some xs := rfl
@[simp] theorem r_seqD_s (xs : List D) : seqD (.scr xs) = some xs := rfl
@[simp] theorem r_seqD_t (xs : List D) : seqD (.tup xs) = some xs := rfl
@[simp] theorem r_oNone (s : DS) : oNone s = .ok none s := rfl
@[simp] theorem r_oSome (f : DE) (s : DS) : oSome f s = (f s).bind fun d s1 => match d with | .int i => .ok (some i) s1 | _ => .stuck := rfl
@[simp] theorem r_aSl (f : DE) (l h : DOp) (s : DS) : aSl f l h s = (f s).bind fun d s1 => (l s1).bind fun lo s2 => (h s2).bind fun hi s3 => match d with | .lst xs => .ok (cutD xs lo hi) s3 | .scr xs => .ok (cutD xs lo hi) s3 | _ => .stuck := rfl
@[simp] theorem r_eSlT (f : DE) (l h : DOp) (s : DS) : eSlT f l h s = (f s).bind fun d s1 => (l s1).bind fun lo s2 => (h s2).bind fun hi s3 => match d with | .tup xs => if (cutD xs lo hi).length ≠ xs.length then .ok (.tup (cutD xs lo hi)) s3 else .stuck | _ => .stuck := rfl
@[simp] theorem r_eSlA (f : DE) (l h : DOp) (s : DS) : eSlA f l h s = (f s).bind fun d s1 => (l s1).bind fun lo s2 => (h s2).bind fun hi s3 => match slD d lo hi with | some x => .ok x s3 | none => .stuck := rfl
@[simp] theorem r_slD_l (xs : List D) (lo hi : Option Int) : slD (.lst xs) lo hi = some (.lst (cutD xs lo hi)) := rfl
@[simp] theorem r_slD_s (xs : List D) (lo hi : Option Int) : slD (.scr xs) lo hi = some (.lst (cutD xs lo hi)) := rfl
@[simp] theorem r_slD_t (xs : List D) (lo hi : Option Int) : slD (.tup xs) lo hi = if (cutD xs lo hi).length ≠ xs.length then some (.tup (cutD xs lo hi)) else none := rfl
/-! data -/
@[simp] theorem r_iAdd (i j : Int) : iAdd (.int i) (.int j) = some (.int (i + j)) := rfl
@[simp] theorem r_dAdd (i j : Int) : dAdd (.int i) (.int j) = some (.int (i + j)) := rfl
@[simp] theorem r_iSub (i j : Int) : iSub (.int i) (.int j) = some (.int (i - j)) := rfl
@[simp] theorem r_dMul (i j : Int) : dMul (.int i) (.int j) = if mulOk i j = true then some (.int (i * j)) else none := rfl
@[simp] theorem r_iDiv (i j : Int) : iDiv (.int i) (.int j) = if divOk j = true then some (.int (i.fdiv j)) else none := rfl
@[simp] theorem r_iMod (i j : Int) : iMod (.int i) (.int j) = if j ≠ 0 then some (.int (i.fmod j)) else none := rfl
@[simp] theorem r_iPow (i j : Int) : iPow (.int i) (.int j) = if 0 ≤ j ∧ j ≤ 1000000 ∧ i.natAbs < 2 ^ 64 then some (.int (i ^ j.toNat)) else none := rfl
@[simp] theorem r_iLt (i j : Int) : iLt (.int i) (.int j) = some (.bl (decide (i < j))) := rfl
@[simp] theorem r_iLe (i j : Int) : iLe (.int i) (.int j) = some (.bl (decide (i ≤ j))) := rfl
@[simp] theorem r_iGt (i j : Int) : iGt (.int i) (.int j) = some (.bl (decide (j < i))) := rfl
@[simp] theorem r_iGe (i j : Int) : iGe (.int i) (.int j) = some (.bl (decide (j ≤ i))) := rfl
@[simp] theorem r_dEq_int (i j : Int) : dEq (.int i) (.int j) = some (.bl (decide (i = j))) := by
  show (if (true && true) = true then some (D.bl (i == j)) else none) = _
  simp [Bool.beq_eq_decide_eq]
@[simp] theorem r_dNe_int (i j : Int) : dNe (.int i) (.int j) = some (.bl (!decide (i = j))) := by
  show (if (true && true) = true then some (D.bl (!(i == j))) else none) = _
  simp [Bool.beq_eq_decide_eq]
@[simp] theorem r_dIsN (x : D) : dIsN x .non = some (.bl (isNonD x)) := rfl
@[simp] theorem r_dNotN (x : D) : dNotN x .non = some (.bl (!isNonD x)) := rfl
@[simp] theorem r_isNon : isNonD .non = true := rfl
@[simp] theorem r_isNon_t (xs : List D) : isNonD (.tup xs) = false := rfl
@[simp] theorem r_isNon_i (i : Int) : isNonD (.int i) = false := rfl
@[simp] theorem r_isNon_n (c : String) (fs : List (Nm × D)) : isNonD (.ins c fs) = false := rfl
@[simp] theorem r_isNon_l (xs : List D) : isNonD (.lst xs) = false := rfl
@[simp] theorem r_tru_bl (b : Bool) : truD (.bl b) = some b := rfl
@[simp] theorem r_tru_non : truD .non = some false := rfl
@[simp] theorem r_tru_int (i : Int) : truD (.int i) = some (i != 0) := rfl
@[simp] theorem r_tru_lst (xs : List D) : truD (.lst xs) = some (!xs.isEmpty) := rfl
@[simp] theorem r_tru_tup (xs : List D) : truD (.tup xs) = some (!xs.isEmpty) := rfl
@[simp] theorem r_bInt (i : Int) : bInt [.int i] = some (.int i) := rfl
@[simp] theorem r_bInt_b (b : Bool) : bInt [.bl b] = some (.int (if b then 1 else 0)) := rfl
@[simp] theorem r_bLen_l (xs : List D) : bLen [.lst xs] = some (.int xs.length) := rfl
@[simp] theorem r_bLen_s (xs : List D) : bLen [.scr xs] = some (.int xs.length) := rfl
@[simp] theorem r_bLen_t (xs : List D) : bLen [.tup xs] = some (.int xs.length) := rfl
@[simp] theorem r_bAbs (i : Int) : bAbs [.int i] = some (.int (if i < 0 then -i else i)) := rfl
@[simp] theorem r_bTup_l (xs : List D) : bTup [.lst xs] = some (.tup xs) := rfl
@[simp] theorem r_bTup_t (xs : List D) : bTup [.tup xs] = some (.tup xs) := rfl
@[simp] theorem r_bMax (i j : Int) : bMax2 [.int i, .int j] = some (.int (if j > i then j else i)) := rfl
@[simp] theorem r_bMin (i j : Int) : bMin2 [.int i, .int j] = some (.int (if j < i then j else i)) := rfl
@[simp] theorem r_ix_t (xs : List D) (i : Int) : ixD (.tup xs) i = L2.atI xs i := rfl
@[simp] theorem r_ix_l (xs : List D) (i : Int) : ixD (.lst xs) i = L2.atI xs i := rfl
@[simp] theorem r_ix_s (xs : List D) (i : Int) : ixD (.scr xs) i = L2.atI xs i := rfl
@[simp] theorem r_at0 {α : Type} (x : α) (r : List α) : L2.atI (x :: r) 0 = some x := L2.atI_nat (j := 0) rfl
@[simp] theorem r_at1 {α : Type} (x y : α) (r : List α) : L2.atI (x :: y :: r) 1 = some y := L2.atI_nat (j := 1) rfl
@[simp] theorem r_at2 {α : Type} (x y z : α) (r : List α) : L2.atI (x :: y :: z :: r) 2 = some z := L2.atI_nat (j := 2) rfl
@[simp] theorem r_at3 {α : Type} (x y z u : α) (r : List α) : L2.atI (x :: y :: z :: u :: r) 3 = some u := L2.atI_nat (j := 3) rfl
/-! isinstance -/
theorem mem_ty : ("int" ∈ tyNames) = True ∧ ("bool" ∈ tyNames) = True ∧ ("str" ∈ tyNames) = True ∧ ("list" ∈ tyNames) = True ∧ ("tuple" ∈ tyNames) = True ∧ ("dict" ∈ tyNames) = True ∧ ("NoneType" ∈ tyNames) = True := by simp [tyNames]
@[simp] theorem r_isi_int_int (cs : List String) (i : Int) : bIsi cs [.int i, .ty "int"] = some (.bl true) := by simp [bIsi, tyOfD, tyD, isOne, mem_ty, isTy]
@[simp] theorem r_isi_int_bool (cs : List String) (i : Int) : bIsi cs [.int i, .ty "bool"] = some (.bl false) := by simp [bIsi, tyOfD, tyD, isOne, mem_ty, isTy]
@[simp] theorem r_isi_ins_cls (cs : List String) (c : String) (fs : List (Nm × D)) (c' : String) (h : c ∈ cs := by simp) (h' : c' ∈ cs := by simp) : bIsi cs [.ins c fs, .cls c'] = some (.bl (c == c')) := by simp [bIsi, tyOfD, isOne, h, h']
@[simp] theorem r_isi_int_cls (cs : List String) (i : Int) (c' : String) (h' : c' ∈ cs := by simp) : bIsi cs [.int i, .cls c'] = some (.bl false) := by simp [bIsi, tyOfD, tyD, isOne, h', mem_ty]
@[simp] theorem r_isi_non_cls (cs : List String) (c' : String) (h' : c' ∈ cs := by simp) : bIsi cs [.non, .cls c'] = some (.bl false) := by simp [bIsi, tyOfD, tyD, isOne, h', mem_ty]
end
/-! ### bits -/
class Bd (x : Int) (n : outParam Nat) : Prop where
  lt : x.natAbs < 2 ^ n
theorem Bd.le {x : Int} {n m : Nat} (h : Bd x n) (hnm : n ≤ m) : Bd x m := ⟨Nat.lt_of_lt_of_le h.lt (Nat.pow_le_pow_right (by decide) hnm)⟩
instance bd_add {x y : Int} {m n : Nat} [h : Bd x m] [k : Bd y n] : Bd (x + y) (m + n + 1) := ⟨by
  have h1 := h.lt
  have h2 := k.lt
  have h3 : (2 : Nat) ^ m ≤ 2 ^ (m + n) := Nat.pow_le_pow_right (by decide) (by omega)
  have h4 : (2 : Nat) ^ n ≤ 2 ^ (m + n) := Nat.pow_le_pow_right (by decide) (by omega)
  have h5 : (2 : Nat) ^ (m + n + 1) = 2 ^ (m + n) * 2 := Nat.pow_succ ..
  omega⟩
instance bd_neg {x : Int} {m : Nat} [h : Bd x m] : Bd (-x) m := ⟨by rw [Int.natAbs_neg]; exact h.lt⟩
instance bd_sub {x y : Int} {m n : Nat} [h : Bd x m] [k : Bd y n] : Bd (x - y) (m + n + 1) := by
  rw [Int.sub_eq_add_neg]; exact bd_add
instance bd_mul {x y : Int} {m n : Nat} [h : Bd x m] [k : Bd y n] : Bd (x * y) (m + n) := ⟨by
  rw [Int.natAbs_mul, Nat.pow_add]
  exact Nat.mul_lt_mul'' h.lt k.lt⟩
instance bd_0 : Bd 0 0 := ⟨by decide⟩
instance bd_1 : Bd 1 1 := ⟨by decide⟩
theorem log2_lt {x : Int} {n : Nat} (h : Bd x n) : x.natAbs.log2 ≤ n := by
  have := h.lt
  by_cases e : x.natAbs = 0
  · rw [e]; simp
  · exact Nat.le_of_lt ((Nat.log2_lt e).mpr this)
theorem mulOk_of {x y : Int} {m n : Nat} (h : Bd x m) (k : Bd y n) (hl : m + n < 100000000) : mulOk x y = true := by
  unfold mulOk
  have h1 := log2_lt h
  have h2 := log2_lt k
  exact decide_eq_true (by omega)
@[simp] theorem mulOk_bd {x y : Int} {m n : Nat} [h : Bd x m] [k : Bd y n] (hl : m + n < 100000000) : mulOk x y = true := mulOk_of h k hl
theorem divOk_of {y : Int} {n : Nat} (k : Bd y n) (h0 : y ≠ 0) (hl : n < 9000) : divOk y = true := by
  unfold divOk
  exact decide_eq_true ⟨h0, Nat.lt_of_le_of_lt (log2_lt k) hl⟩
@[simp] theorem divOk_bd {y : Int} {n : Nat} [k : Bd y n] (h0 : y ≠ 0) (hl : n < 9000) : divOk y = true := divOk_of k h0 hl
@[simp] theorem divOk_2 : divOk 2 = true := by decide
end DL
set_option maxRecDepth 100000
set_option maxHeartbeats 4000000
set_option autoImplicit false
namespace DL
@[simp] theorem r_eDGet (fo fi : DE) (s : DS) : eDGet fo fi s = (fo s).bind fun d s1 => (fi s1).bind fun k s2 => match dictOf d s2, kOf k with
  | some kvs, some k => match dLook kvs k with
    | some x => .ok x s2
    | none => .stuck
  | _, _ => .stuck := rfl
@[simp] theorem r_dictOf_c (n : Nat) (sl : List Sl) (st : List Cell) : dictOf (.cell n) ⟨sl, st⟩ = match st[n]? with | some (.dic kvs) => some kvs | _ => none := rfl
@[simp] theorem r_dictOf_d (kvs : List (DK × D)) (s : DS) : dictOf (.dic kvs) s = some kvs := rfl
@[simp] theorem r_kOf_s (l : List Nat) : kOf (.str l) = some (.s l) := rfl
@[simp] theorem r_kOf_i (l : Int) : kOf (.int l) = some (.i l) := rfl
@[simp] theorem r_sDPutC (fo fi fv : DE) (s : DS) : sDPutC fo fi fv s = (fv s).bind fun x s1 => (fo s1).bind fun d s2 => (fi s2).bind fun k s3 => match d, kOf k with
  | .cell n, some k => match s3.st[n]? with
    | some (.dic kvs) => if kvs.length < 1000000 ∧ keysNd kvs = true then .ok .nx ⟨s3.sl, s3.st.set n (.dic (dPut kvs k x))⟩ else .stuck
    | _ => .stuck
  | _, _ => .stuck := rfl
@[simp] theorem r_eCellD (f : DD) (s : DS) : eCellD f s = (f s).bind fun xs s1 => .ok (.cell s1.st.length) ⟨s1.sl, s1.st ++ [.dic xs]⟩ := rfl
@[simp] theorem r_dDisp (fs : List (DE × DE)) (s : DS) : dDisp fs s = (pairsD fs s).bind fun ps s1 => match keyed ps with
  | some kvs => if kvs.length ≤ 15 ∧ keysNd kvs = true then .ok kvs s1 else .stuck
  | none => .stuck := rfl
@[simp] theorem r_pairs_nil (s : DS) : pairsD [] s = .ok [] s := rfl
@[simp] theorem r_pairs_cons (fk fv : DE) (r : List (DE × DE)) (s : DS) : pairsD ((fk, fv) :: r) s = (fk s).bind fun k s1 => (fv s1).bind fun x s2 => (pairsD r s2).bind fun ps s3 => .ok ((k, x) :: ps) s3 := rfl
@[simp] theorem r_keyed_nil : keyed [] = some [] := rfl
@[simp] theorem r_keyed_cons (k x : D) (r : List (D × D)) : keyed ((k, x) :: r) = match kOf k, keyed r with
    | some k, some r => some ((k, x) :: r)
    | _, _ => none := rfl
@[simp] theorem r_itR1 (f : DA) (s : DS) : itR1 f s = (f s).bind fun ds s1 => match ds with
  | [.int j] => if -(2 ^ 62) ≤ j ∧ j < 2 ^ 62 then .ok (rngL 0 j.toNat) s1 else .stuck
  | _ => .stuck := rfl
@[simp] theorem r_itEnum_l (f : DA) (s : DS) : itEnum f s = (f s).bind fun ds s1 => match ds with
  | [.lst xs] => .ok (enumL xs) s1
  | [.scr xs] => .ok (enumL xs) s1
  | _ => .stuck := rfl
@[simp] theorem r_itZip (f : DA) (s : DS) : itZip f s = (f s).bind fun ds s1 => match ds with
  | [.lst xs, .lst ys] => .ok (zipL xs ys) s1
  | [.tup xs, .tup ys] => .ok (zipL xs ys) s1
  | _ => .stuck := rfl
@[simp] theorem r_aLc (vs : List Nat) (it : DA) (g : DG) (t : DT) (e : DE) (s : DS) : aLc vs it g t e s = (it s).bind fun items s1 => (noX (lcL vs g t e items [] s1)).bind fun ys s2 => .ok ys ⟨unwipe vs s1.sl (wipeD vs s2.sl), s2.st⟩ := rfl
@[simp] theorem r_lc_nil (vs : List Nat) (g : DG) (t : DT) (e : DE) (acc : List D) (s : DS) : lcL vs g t e [] acc s = .ok acc s := rfl
@[simp] theorem r_lc_cons (vs : List Nat) (g : DG) (t : DT) (e : DE) (d : D) (r acc : List D) (s : DS) : lcL vs g t e (d :: r) acc s = (noX (g d (wipeS vs s))).bind fun _ s1 => (noX (t s1)).bind fun b s2 => if b = true then (noX (e s2)).bind fun y s3 => if acc.length < 1000000 then lcL vs g t e r (acc ++ [y]) s3 else .stuck
    else lcL vs g t e r acc s2 := rfl
@[simp] theorem r_wipe_nil (l : List Sl) : wipeD [] l = l := rfl
@[simp] theorem r_wipe_cons (v : Nat) (vs : List Nat) (l : List Sl) : wipeD (v :: vs) l = (wipeD vs l).set v .un := rfl
@[simp] theorem r_wipeS (vs : List Nat) (s : DS) : wipeS vs s = ⟨wipeD vs s.sl, s.st⟩ := rfl
@[simp] theorem r_unw_nil (o l : List Sl) : unwipe [] o l = l := rfl
@[simp] theorem r_unw_cons (v : Nat) (vs : List Nat) (o l : List Sl) : unwipe (v :: vs) o l = (unwipe vs o l).set v (match o[v]? with | some (.val d) => .val d | _ => .un) := rfl
@[simp] theorem r_sApp (i : Nat) (fa : DA) (s : DS) : sApp i fa s = match s.sl[i]? with
  | some (.ol _) => (fa s).bind fun ds s1 => match ds, s1.sl[i]? with
    | [d], some (.ol xs) => if xs.length < 1000000 then .ok .nx ⟨s1.sl.set i (.ol (xs ++ [d])), s1.st⟩ else .stuck
    | _, _ => .stuck
  | _ => .stuck := rfl
/-! data equality -/
open PySem in
theorem pys_ints (ns : List Int) : toPys (ns.map D.int) = some (ns.map PyData.int) := by
  induction ns with
  | nil => rfl
  | cons a r ih => simp [toPys, toPy, ih]
open PySem in
theorem can_ints (ns : List Int) : PyData.canLayAll0 (ns.map PyData.int) = true := by
  induction ns with
  | nil => rfl
  | cons a r ih => simp [PyData.canLayAll0, PyData.canLay0, ih]
open PySem in
theorem dep_ints (ns : List Int) : PyData.depthAll (ns.map PyData.int) = 0 := by
  induction ns with
  | nil => rfl
  | cons a r ih => simp [PyData.depthAll, PyData.depth, ih]
open PySem in
@[simp] theorem r_ne_nil (ns : List Int) : dNe (.lst (ns.map D.int)) (.lst []) = some (.bl (!ns.isEmpty)) := by
  cases ns with
  | nil => simp [dNe, toPy, toPys, SeqAt.shaped, PyData.canLay0, PyData.depth, PyData.depthAll, PyData.eqv, PyData.eqvAll, PyData.canLayAll0]
  | cons a r => simp [dNe, toPy, toPys, pys_ints, can_ints, dep_ints, SeqAt.shaped, PyData.canLay0, PyData.depth, PyData.depthAll, PyData.eqv, PyData.eqvAll, PyData.canLayAll0]
@[simp] theorem r_ne_nil0 : dNe (.lst []) (.lst []) = some (.bl false) := r_ne_nil []
/-! the draw pen -/
abbrev penD (cs : List Int) (c l : Int) : List (DK × D) := [(.s [99, 101, 108, 108, 115], .lst (cs.map D.int)), (.s [99, 111, 117, 110, 116], .int c), (.s [108, 101, 102, 116], .int l)]
def Pen (n : Nat) (S : List Cell) : Prop := ∃ cs c l, S = [.dic (penD cs c l)] ∧ 0 ≤ c ∧ c ≤ n ∧ 0 ≤ l
theorem Pen.mono {n m : Nat} {S : List Cell} (h : Pen n S) (hm : n ≤ m) : Pen m S := by
  obtain ⟨cs, c, l, h1, h2, h3, h4⟩ := h
  exact ⟨cs, c, l, h1, h2, by omega, h4⟩
theorem ix_mod (cs : List Int) (c : Int) (h : cs ≠ []) : ∃ x : Int, L2.atI (cs.map D.int) (c.fmod cs.length) = some (.int x) := by
  have hp : (0 : Int) < cs.length := by
    cases cs with
    | nil => exact absurd rfl h
    | cons a r => simp
  have h1 : 0 ≤ c.fmod cs.length := Int.fmod_nonneg_of_pos _ hp
  have h2 : c.fmod cs.length < cs.length := Int.fmod_lt_of_pos _ hp
  obtain ⟨k, hk⟩ := Int.eq_ofNat_of_zero_le h1
  rw [hk] at h2 ⊢
  have h3 : k < cs.length := by omega
  refine ⟨cs[k], ?_⟩
  have : (cs.map D.int)[k]? = some (D.int cs[k]) := by simp [h3]
  exact L2.atI_nat this
theorem Bd.of_range {x : Int} {m n : Nat} (h0 : 0 ≤ x) (h1 : x < m) (h : m ≤ 2 ^ n) : Bd x n := ⟨by omega⟩
end DL
set_option maxRecDepth 100000
set_option maxHeartbeats 4000000
namespace W_k45
open DL
instance : Bd (2 : Int) 2 := ⟨by decide⟩
instance : Bd (3 : Int) 2 := ⟨by decide⟩
instance : Bd (4 : Int) 3 := ⟨by decide⟩
instance : Bd (5 : Int) 3 := ⟨by decide⟩
instance : Bd (6 : Int) 3 := ⟨by decide⟩
instance : Bd (9 : Int) 4 := ⟨by decide⟩
instance : Bd (10 : Int) 4 := ⟨by decide⟩
instance : Bd (13 : Int) 4 := ⟨by decide⟩
instance : Bd (15 : Int) 4 := ⟨by decide⟩
instance : Bd (18 : Int) 5 := ⟨by decide⟩
instance : Bd (23 : Int) 5 := ⟨by decide⟩
instance : Bd (29 : Int) 5 := ⟨by decide⟩
instance : Bd (41 : Int) 6 := ⟨by decide⟩
instance : Bd (63 : Int) 6 := ⟨by decide⟩
instance : Bd (64 : Int) 7 := ⟨by decide⟩
instance : Bd (83 : Int) 7 := ⟨by decide⟩
instance : Bd (151 : Int) 8 := ⟨by decide⟩
instance : Bd (35023 : Int) 16 := ⟨by decide⟩
instance : Bd (60013 : Int) 16 := ⟨by decide⟩
instance : Bd (90007 : Int) 17 := ⟨by decide⟩
instance : Bd (1000000 : Int) 20 := ⟨by decide⟩
instance : Bd (2000001 : Int) 21 := ⟨by decide⟩
instance : Bd (2147482811 : Int) 31 := ⟨by decide⟩
instance : Bd (2147482873 : Int) 31 := ⟨by decide⟩
instance : Bd (2147482951 : Int) 31 := ⟨by decide⟩
instance : Bd (2147483033 : Int) 31 := ⟨by decide⟩
instance : Bd (1000000000000000 : Int) 50 := ⟨by decide⟩
instance : Bd (1000000000000001 : Int) 50 := ⟨by decide⟩
instance : Bd (1000000000000000000 : Int) 60 := ⟨by decide⟩
theorem draw_ok {n : Nat} {S : List Cell} {p : Int} (hS : Pen n S) (hn : n < 2 ^ 20) (hp : 0 < p) (hp2 : p < 2 ^ 60) : ∃ d S', g__law_draw [.cell 0, .int p] S = .ok (.int d) S' ∧ 0 ≤ d ∧ d < p ∧ Pen (n + 1) S' := by
  obtain ⟨cs, c, l, rfl, c0, c1, l0⟩ := hS
  have bp : Bd p 60 := ⟨by omega⟩
  have bc : Bd c 20 := ⟨by omega⟩
  have dp : divOk p = true := divOk_of bp (by omega) (by omega)
  have hp' : p ≠ 0 := by omega
  have m1 := fun x : Int => Int.fmod_nonneg_of_pos x hp
  have m2 := fun x : Int => Int.fmod_lt_of_pos x hp
  have ndk : ∀ (a b c : D), keysNd [(.s [99, 101, 108, 108, 115], a), (.s [99, 111, 117, 110, 116], b), (.s [108, 101, 102, 116], c)] = true := fun a b c => rfl
  have mc (x : Int) : mulOk (x.fmod 2147482811) 60013 = true := by
    have : Bd (x.fmod 2147482811) 31 := .of_range (m := 2147482811) (Int.fmod_nonneg_of_pos _ (by decide)) (Int.fmod_lt_of_pos _ (by decide)) (by decide)
    exact mulOk_bd (by decide)
  have mb (x : Int) : mulOk (x.fmod 2147482873) (x.fmod 2147482873 + 90007) = true := by
    have : Bd (x.fmod 2147482873) 31 := .of_range (m := 2147482873) (Int.fmod_nonneg_of_pos _ (by decide)) (Int.fmod_lt_of_pos _ (by decide)) (by decide)
    exact mulOk_bd (by decide)
  have me (x : Int) : mulOk (x.fmod 2147482951) (x.fmod 2147482951) = true := by
    have : Bd (x.fmod 2147482951) 31 := .of_range (m := 2147482951) (Int.fmod_nonneg_of_pos _ (by decide)) (Int.fmod_lt_of_pos _ (by decide)) (by decide)
    exact mulOk_bd (by decide)
  have mf (x : Int) : mulOk 41 (x.fmod 2147482951) = true := by
    have : Bd (x.fmod 2147482951) 31 := .of_range (m := 2147482951) (Int.fmod_nonneg_of_pos _ (by decide)) (Int.fmod_lt_of_pos _ (by decide)) (by decide)
    exact mulOk_bd (by decide)
  have q1 : mulOk 83 c = true := mulOk_bd (by decide)
  have q2 : mulOk 35023 c = true := mulOk_bd (by decide)
  have q3 : mulOk (35023 * c) c = true := mulOk_bd (by decide)
  have q4 : mulOk 151 c = true := mulOk_bd (by decide)
  have q5 : divOk 64 = true := by decide
  by_cases a1 : p ≤ l
  · simp [g__law_draw, b__law_draw, fnD, dLook, dPut, dp, hp', ndk, a1]
    exact ⟨_, _, ⟨rfl, rfl⟩, m1 _, m2 _, cs, c, _, rfl, c0, by omega, Int.fdiv_nonneg l0 (by omega)⟩
  · by_cases a2 : cs = []
    · subst a2
      have a3 : ¬ c < 0 := by omega
      simp [g__law_draw, b__law_draw, fnD, dLook, dPut, dp, hp', ndk, a1, q1, a3, q2, q3, q4, q5, mc, mb, me, mf]
      exact ⟨_, _, ⟨rfl, rfl⟩, m1 _, m2 _, [], c + 1, l, rfl, by omega, by omega, l0⟩
    · obtain ⟨x, hx⟩ := ix_mod cs c a2
      by_cases a3 : c < cs.length ∧ 1000000000000000000 ≤ x
      · simp [g__law_draw, b__law_draw, fnD, dLook, dPut, dp, hp', ndk, a1, a2, hx, a3, q1, q2, q3, q4, q5, mc, mb, me, mf]
        exact ⟨_, _, ⟨rfl, rfl⟩, m1 _, m2 _, cs, c + 1, _, rfl, by omega, by omega, Int.fdiv_nonneg (by omega) (by omega)⟩
      · by_cases a4 : c < cs.length
        · have a5 : ¬ 1000000000000000000 ≤ x := fun h => a3 ⟨a4, h⟩
          simp [g__law_draw, b__law_draw, fnD, dLook, dPut, dp, hp', ndk, a1, a2, hx, a4, a5, q1, q2, q3, q4, q5, mc, mb, me, mf]
          exact ⟨_, _, ⟨rfl, rfl⟩, m1 _, m2 _, cs, c + 1, l, rfl, by omega, by omega, l0⟩
        · simp [g__law_draw, b__law_draw, fnD, dLook, dPut, dp, hp', ndk, a1, a2, hx, a4, q1, q2, q3, q4, q5, mc, mb, me, mf]
          exact ⟨_, _, ⟨rfl, rfl⟩, m1 _, m2 _, cs, c + 1, l, rfl, by omega, by omega, l0⟩
theorem begin_ok (ns : List Int) : ∃ S, g__law_begin [.scr (ns.map D.int)] [] = .ok (.cell 0) S ∧ Pen 0 S := by
  have e : cutD (ns.map D.int) none (some 63) = (cutD ns none (some 63)).map D.int := by
    simp [cutD, List.map_drop, List.map_take]
  have k : ∀ a b c : D, keysNd [(.s [99, 101, 108, 108, 115], a), (.s [99, 111, 117, 110, 116], b), (.s [108, 101, 102, 116], c)] = true := fun a b c => rfl
  simp [g__law_begin, b__law_begin, fnD, e, k]
  exact ⟨_, 0, 0, rfl, by decide, by decide, by decide⟩
theorem pick_ok {n : Nat} {S : List Cell} {xs : List D} (hS : Pen n S) (hn : n < 2 ^ 20) (h0 : xs ≠ []) (h1 : xs.length < 1000) : ∃ d S', g__law_pick [.cell 0, .lst xs] S = .ok d S' ∧ d ∈ xs ∧ Pen (n + 1) S' := by
  have hl : (0 : Int) < xs.length := by
    cases xs with
    | nil => exact absurd rfl h0
    | cons a r => simp
  obtain ⟨d, S', e, d0, d1, hP⟩ := draw_ok hS hn hl (by omega)
  obtain ⟨k, rfl⟩ := Int.eq_ofNat_of_zero_le d0
  have hk : k < xs.length := by omega
  have : L2.atI xs (k : Int) = some xs[k] := L2.atI_nat (by simp [hk])
  refine ⟨xs[k], S', ?_, List.getElem_mem _, hP⟩
  simp [g__law_pick, b__law_pick, fnD, e, this]
theorem mid_ok {n : Nat} {S : List Cell} (hS : Pen n S) (hn : n + 2 < 2 ^ 20) : ∃ d S', g__law_mid [.cell 0] S = .ok (.int d) S' ∧ Bd d 60 ∧ Pen (n + 2) S' := by
  obtain ⟨d, S1, e, d0, d1, hP⟩ := draw_ok hS (by omega) (p := 13) (by decide) (by decide)
  obtain ⟨k, S2, e2, hk, hP2⟩ := pick_ok (xs := [.int 0, .int 0, .int 0, .int 1000000, .int (-1000000000000000)]) hP (by omega) (by simp) (by simp)
  have : ∃ z, k = .int z ∧ Bd (d - 6 + z) 60 := by
    simp at hk
    rcases hk with rfl | rfl | rfl
    all_goals exact ⟨_, rfl, ⟨by omega⟩⟩
  obtain ⟨z, rfl, hz⟩ := this
  refine ⟨d - 6 + z, S2, ?_, hz, hP2⟩
  simp [g__law_mid, b__law_mid, fnD, e, e2]
abbrev tr (x y a : Int) : D := .tup [.int x, .int y, .int a]
theorem mid_drawn_ok {n : Nat} {S : List Cell} (hS : Pen n S) (hn : n + 9 < 2 ^ 20) : ∃ x y a S', g__law_mid_drawn [.cell 0] S = .ok (tr x y a) S' ∧ Bd x 60 ∧ Bd y 60 ∧ Bd a 110 ∧ Pen (n + 9) S' := by
  obtain ⟨x, S1, e1, b1, P1⟩ := mid_ok hS (by omega)
  obtain ⟨y, S2, e2, b2, P2⟩ := mid_ok P1 (by omega)
  obtain ⟨a, S3, e3, b3, P3⟩ := mid_ok P2 (by omega)
  obtain ⟨k, S4, e4, hk, P4⟩ := pick_ok (xs := [.int 1, .int 1, .int 1000000000000001]) P3 (by omega) (by simp) (by simp)
  have : ∃ z, k = .int z ∧ Bd z 50 := by
    simp at hk
    rcases hk with rfl | rfl
    all_goals exact ⟨_, rfl, ⟨by omega⟩⟩
  obtain ⟨z, rfl, hz⟩ := this
  have mz : mulOk a z = true := mulOk_bd (by decide)
  have baz : Bd (a * z) 110 := (bd_mul (m := 60) (n := 50) : Bd (a * z) (60 + 50))
  have bx : Bd x 60 := b1
  have bY : Bd y 60 := b2
  have b0 : Bd 0 60 := bd_0.le (by decide)
  obtain ⟨w, S5, e5, w0, w1, P5⟩ := draw_ok P4 (by omega) (p := 6) (by decide) (by decide)
  by_cases h0 : w = 0
  · refine ⟨0, 0, a * z, S5, ?_, b0, b0, baz, P5.mono (by omega)⟩
    simp [g__law_mid_drawn, b__law_mid_drawn, fnD, e1, e2, e3, e4, e5, mz, h0]
  · by_cases h1 : w = 1
    · obtain ⟨k, S6, e6, hk, P6⟩ := pick_ok (xs := [tr x 0 (a * z), tr 0 y (a * z)]) P5 (by omega) (by simp) (by simp)
      have : ∃ x y, k = tr x y (a * z) ∧ Bd x 60 ∧ Bd y 60 := by
        simp only [List.mem_cons, List.not_mem_nil, or_false] at hk
        rcases hk with rfl | rfl
        · exact ⟨_, _, rfl, bx, b0⟩
        · exact ⟨_, _, rfl, b0, bY⟩
      obtain ⟨x', y', rfl, c1, c2⟩ := this
      refine ⟨x', y', a * z, S6, ?_, c1, c2, baz, P6.mono (by omega)⟩
      simp [g__law_mid_drawn, b__law_mid_drawn, fnD, e1, e2, e3, e4, e5, mz, h1, e6]
    · refine ⟨x, y, a * z, S5, ?_, bx, bY, baz, P5.mono (by omega)⟩
      simp [g__law_mid_drawn, b__law_mid_drawn, fnD, e1, e2, e3, e4, e5, mz, h0, h1]
theorem small_ok {n : Nat} {S : List Cell} (hS : Pen n S) (hn : n < 2 ^ 20) : ∃ d S', g__law_small [.cell 0] S = .ok (.int d) S' ∧ Bd d 22 ∧ Pen (n + 1) S' := by
  obtain ⟨d, S1, e, d0, d1, hP⟩ := draw_ok hS (by omega) (p := 9) (by decide) (by decide)
  refine ⟨d - 4, S1, ?_, ⟨by omega⟩, hP⟩
  simp [g__law_small, b__law_small, fnD, e]
abbrev plc (x y a : Int) : D := .ins "Place" [([120], .int x), ([121], .int y), ([97, 114, 101, 97], .int a)]
@[simp] theorem is_integer_ok (i : Int) (S : List Cell) : g_is_integer [.int i] S = .ok (.bl true) S := by
  simp [g_is_integer, b_is_integer, fnD]
@[simp] theorem init_ok (x y a : Int) (S : List Cell) : g_PlaceX_initX [.int x, .int y, .int a] S = .ok [([120], .int x), ([121], .int y), ([97, 114, 101, 97], .int a)] S := by
  simp [g_PlaceX_initX, b_PlaceX_initX, inD, inFin, putN]
@[simp] theorem place_ok (x y a : Int) (S : List Cell) : g__law_place [tr x y a] S = .ok (plc x y a) S := by
  simp [g__law_place, b__law_place, fnD]
@[simp] theorem need_ok (x y a : Int) (S : List Cell) : g_need_place [plc x y a] S = .ok .non S := by
  simp [g_need_place, b_need_place, fnD]
instance bd_half {x : Int} {n : Nat} [h : Bd x n] : Bd (x.fdiv 2) n := ⟨by
  have := h.lt
  rw [Int.fdiv_eq_ediv_of_nonneg _ (by decide)]
  omega⟩
abbrev tw (x y u v : Int) : Int := x * v - u * y
theorem twist_ok (x y a u v b : Int) (S : List Cell) (h1 : mulOk x v = true) (h2 : mulOk u y = true) : g_Place_twist [plc x y a, plc u v b] S = .ok (.int (tw x y u v)) S := by
  simp [g_Place_twist, b_Place_twist, fnD, *, List.lookup]
theorem ltwist_ok (x y a u v b : Int) (S : List Cell) (h1 : mulOk x v = true) (h2 : mulOk u y = true) : g__law_twist [tr x y a, tr u v b] S = .ok (.int (tw x y u v)) S := by
  simp [g__law_twist, b__law_twist, fnD, *]
abbrev hlf (k : Int) : Int := (k * (k - 1)).fdiv 2
/-- all the products of a power are small -/
structure PwOk (x y a k : Int) : Prop where
  m1 : mulOk k (k - 1) = true
  m2 : mulOk k x = true
  m3 : mulOk k y = true
  m4 : mulOk k a = true
  m5 : mulOk (hlf k) x = true
  m6 : mulOk (hlf k * x) y = true
theorem PwOk.of {x y a k : Int} {n m : Nat} (hx : Bd x n) (hy : Bd y n) (ha : Bd a n) (hk : Bd k m) (h : 2 * n + 4 * m < 90000000) : PwOk x y a k := by
  refine ⟨mulOk_bd (by omega), mulOk_bd (by omega), mulOk_bd (by omega), mulOk_bd (by omega), ?_, ?_⟩
  · exact mulOk_bd (by omega)
  · exact mulOk_bd (by omega)
theorem power_ok (x y a k : Int) (S : List Cell) (h : PwOk x y a k) : g_Place_power [plc x y a, .int k] S = .ok (plc (k * x) (k * y) (k * a + hlf k * x * y)) S := by
  obtain ⟨m1, m2, m3, m4, m5, m6⟩ := h
  have q : g_pairs_below [.int k] S = .ok (.int (hlf k)) S := by simp [g_pairs_below, b_pairs_below, fnD, m1]
  simp [g_Place_power, b_Place_power, fnD, m2, m3, m4, m5, m6, q, List.lookup]
theorem times_ok (x y a k : Int) (S : List Cell) (h : PwOk x y a k) : g__law_times [tr x y a, .int k] S = .ok (tr (k * x) (k * y) (k * a + hlf k * x * y)) S := by
  obtain ⟨m1, m2, m3, m4, m5, m6⟩ := h
  simp [g__law_times, b__law_times, fnD, m1, m2, m3, m4, m5, m6]
theorem join_ok (x y a u v b : Int) (S : List Cell) (h : mulOk x v = true) : g__law_join [tr x y a, tr u v b] S = .ok (tr (x + u) (y + v) (a + b + x * v)) S := by
  simp [g__law_join, b__law_join, fnD, h]
theorem mul_ok (x y a u v b : Int) (S : List Cell) (h : mulOk x v = true) : g_PlaceX_mulX [plc x y a, plc u v b] S = .ok (plc (x + u) (y + v) (a + b + x * v)) S := by
  simp [g_PlaceX_mulX, b_PlaceX_mulX, fnD, h, List.lookup]
theorem eq3 (x y a u v b : Int) : dEq (tr x y a) (tr u v b) = some (.bl (decide (x = u ∧ y = v ∧ a = b))) := by
  simp [dEq, toPy, toPys, PySem.SeqAt.shaped, PySem.PyData.canLay0, PySem.PyData.canLayAll0, PySem.PyData.depth, PySem.PyData.depthAll, PySem.PyData.eqv, PySem.PyData.eqvAll, Bool.beq_eq_decide_eq]
theorem ne3 (x y a u v b : Int) : dNe (tr x y a) (tr u v b) = some (.bl (!decide (x = u ∧ y = v ∧ a = b))) := by
  simp [dNe, toPy, toPys, PySem.SeqAt.shaped, PySem.PyData.canLay0, PySem.PyData.canLayAll0, PySem.PyData.depth, PySem.PyData.depthAll, PySem.PyData.eqv, PySem.PyData.eqvAll, Bool.beq_eq_decide_eq]
theorem peq_ok (x y a u v b : Int) (S : List Cell) : g_PlaceX_eqX [plc x y a, plc u v b] S = .ok (.bl (decide (x = u ∧ y = v ∧ a = b))) S := by
  simp [g_PlaceX_eqX, b_PlaceX_eqX, fnD, List.lookup, eq3]
/-! what both sides answer -/
structure Q3 where
  x : Int
  y : Int
  a : Int
def Q3.t (p : Q3) : D := tr p.x p.y p.a
def Q3.p (p : Q3) : D := plc p.x p.y p.a
def pw (p : Q3) (k : Int) : Q3 := ⟨k * p.x, k * p.y, k * p.a + hlf k * p.x * p.y⟩
def jn (p q : Q3) : Q3 := ⟨p.x + q.x, p.y + q.y, p.a + q.a + p.x * q.y⟩
def Hit (p q g : Q3) (m n : Int) : Prop := (jn (pw p m) (pw q n)).x = g.x ∧ (jn (pw p m) (pw q n)).y = g.y ∧ (jn (pw p m) (pw q n)).a = g.a
instance (p q g : Q3) (m n : Int) : Decidable (Hit p q g m n) := by unfold Hit; infer_instance
abbrev det (p q : Q3) : Int := tw p.x p.y q.x q.y
open Classical in
noncomputable def dueD (p q g : Q3) : D := if (tw g.x g.y q.x q.y).fmod (det p q) = 0 ∧ (tw p.x p.y g.x g.y).fmod (det p q) = 0 ∧ Hit p q g ((tw g.x g.y q.x q.y).fdiv (det p q)) ((tw p.x p.y g.x g.y).fdiv (det p q)) then
  .tup [.tup [.int ((tw g.x g.y q.x q.y).fdiv (det p q)), .int ((tw p.x p.y g.x g.y).fdiv (det p q))], .lst []] else .non
structure Q3.B (p : Q3) (n : Nat) : Prop where
  bx : Bd p.x n
  byy : Bd p.y n
  ba : Bd p.a n
theorem fdiv_abs {a b : Int} (h : a.fmod b = 0) : (a.fdiv b).natAbs ≤ a.natAbs := by
  have e : b * a.fdiv b + a.fmod b = a := Int.mul_fdiv_add_fmod a b
  rw [h, Int.add_zero] at e
  by_cases hb : b = 0
  · subst hb; simp
  · rw [← e, Int.natAbs_mul]
    have : 1 ≤ b.natAbs := by omega
    rw [e]
    exact Nat.le_mul_of_pos_left _ (by omega)
theorem due_ok (p q g : Q3) (S : List Cell) (hd : det p q ≠ 0) (hp : p.B 200) (hq : q.B 200) (hg : g.B 1000) : g__law_due [p.t, q.t, g.t] S = .ok (dueD p q g) S := by
  obtain ⟨px, py, pa⟩ := p
  obtain ⟨qx, qy, qa⟩ := q
  obtain ⟨gx, gy, ga⟩ := g
  obtain ⟨b1, b2, b3⟩ := hp
  obtain ⟨b4, b5, b6⟩ := hq
  obtain ⟨b7, b8, b9⟩ := hg
  dsimp only at b1 b2 b3 b4 b5 b6 b7 b8 b9 hd
  have t1 := ltwist_ok px py pa qx qy qa S (mulOk_bd (by decide)) (mulOk_bd (by decide))
  have t2 := ltwist_ok gx gy ga qx qy qa S (mulOk_bd (by decide)) (mulOk_bd (by decide))
  have t3 := ltwist_ok px py pa gx gy ga S (mulOk_bd (by decide)) (mulOk_bd (by decide))
  have dv : divOk (tw px py qx qy) = true := divOk_bd hd (by decide)
  have bm : Bd (tw gx gy qx qy) 2401 := bd_sub (m := 1200) (n := 1200) (h := bd_mul (m := 1000) (n := 200)) (k := bd_mul (m := 200) (n := 1000))
  have bn : Bd (tw px py gx gy) 2401 := bd_sub (m := 1200) (n := 1200) (h := bd_mul (m := 200) (n := 1000)) (k := bd_mul (m := 1000) (n := 200))
  unfold dueD Q3.t
  by_cases h1 : (tw gx gy qx qy).fmod (tw px py qx qy) = 0
  · by_cases h2 : (tw px py gx gy).fmod (tw px py qx qy) = 0
    · have bM : Bd ((tw gx gy qx qy).fdiv (tw px py qx qy)) 2401 := ⟨Nat.lt_of_le_of_lt (fdiv_abs h1) bm.lt⟩
      have bN : Bd ((tw px py gx gy).fdiv (tw px py qx qy)) 2401 := ⟨Nat.lt_of_le_of_lt (fdiv_abs h2) bn.lt⟩
      generalize hm : (tw gx gy qx qy).fdiv (tw px py qx qy) = m at *
      generalize hn : (tw px py gx gy).fdiv (tw px py qx qy) = n at *
      have e1 := times_ok px py pa m S (.of b1 b2 b3 bM (by decide))
      have e2 := times_ok qx qy qa n S (.of b4 b5 b6 bN (by decide))
      have e3 := join_ok (m * px) (m * py) (m * pa + hlf m * px * py) (n * qx) (n * qy) (n * qa + hlf n * qx * qy) S (mulOk_bd (by decide))
      by_cases h3 : Hit ⟨px, py, pa⟩ ⟨qx, qy, qa⟩ ⟨gx, gy, ga⟩ m n
      · have h4 := h3
        simp only [Hit, jn, pw] at h4
        simp [g__law_due, b__law_due, fnD, t1, t2, t3, h1, h2, hm, hn, dv, hd, e1, e2, e3, ne3, h3, h4]
      · have h4 := h3
        simp only [Hit, jn, pw] at h4
        simp [g__law_due, b__law_due, fnD, t1, t2, t3, h1, h2, hm, hn, dv, hd, e1, e2, e3, ne3, h3, h4]
    · simp [g__law_due, b__law_due, fnD, t1, t2, t3, h1, h2, hd]
  · simp [g__law_due, b__law_due, fnD, t1, t2, t3, h1, hd]
/-! ### the rows -/
structure Rw where
  a : Int
  b : Int
  g : Int
  p : Int
  q : Int
def Rw.d (r : Rw) : D := .tup [.int r.a, .int r.b, .int r.g, .int r.p, .int r.q]
def Rw.less (h r : Rw) (t : Int) : Rw := ⟨h.a - t * r.a, h.b - t * r.b, h.g - t * r.g, h.p - t * r.p, h.q - t * r.q⟩
structure Rw.B (r : Rw) (n : Nat) : Prop where
  a : Bd r.a n
  b : Bd r.b n
  g : Bd r.g n
  p : Bd r.p n
  q : Bd r.q n
theorem zip5 (a b c d e f g h i j : D) : zipL [a, b, c, d, e] [f, g, h, i, j] = [.tup [a, f], .tup [b, g], .tup [c, h], .tup [d, i], .tup [e, j]] := rfl
theorem less_ok (h r : Rw) (t : Int) {n : Nat} (S : List Cell) (hr : r.B n) (ht : Bd t n) (hn : n < 10000) : g_row_less [h.d, r.d, .int t] S = .ok (h.less r t).d S := by
  obtain ⟨b1, b2, b3, b4, b5⟩ := hr
  have m1 : mulOk t r.a = true := mulOk_bd (by omega)
  have m2 : mulOk t r.b = true := mulOk_bd (by omega)
  have m3 : mulOk t r.g = true := mulOk_bd (by omega)
  have m4 : mulOk t r.p = true := mulOk_bd (by omega)
  have m5 : mulOk t r.q = true := mulOk_bd (by omega)
  simp [g_row_less, b_row_less, fnD, Rw.d, zip5, m1, m2, m3, m4, m5, Rw.less]
/-- one step of the pair (u, v) beside (A, C) -/
def Pot (P : Nat) (A C u v : Int) : Prop := u.natAbs * C.natAbs + v.natAbs * A.natAbs ≤ P ∧ u.natAbs ≤ P ∧ v.natAbs ≤ P
def Sg (A C : Int) : Prop := (0 ≤ A ∧ 0 ≤ C) ∨ (A ≤ 0 ∧ C ≤ 0)
theorem fmod_facts {A C : Int} (hC : C ≠ 0) : A - A.fdiv C * C = A.fmod C ∧ (A.fmod C).natAbs < C.natAbs ∧ Sg C (A.fmod C) ∧ (Sg A C → (A - A.fmod C).natAbs + (A.fmod C).natAbs = A.natAbs) := by
  have e : C * A.fdiv C + A.fmod C = A := Int.mul_fdiv_add_fmod A C
  refine ⟨by rw [Int.mul_comm]; omega, ?_⟩
  rcases Int.lt_or_gt_of_ne hC with h | h
  · have h1 : A.fmod C ≤ 0 := by
      have := Int.fmod_nonneg_of_pos (-A) (b := -C) (by omega)
      rw [Int.neg_fmod_neg] at this
      omega
    have h2 : C < A.fmod C := by
      have := Int.fmod_lt_of_pos (-A) (b := -C) (by omega)
      rw [Int.neg_fmod_neg] at this
      omega
    refine ⟨by omega, .inr ⟨by omega, h1⟩, fun s => ?_⟩
    rcases s with ⟨_, s⟩ | ⟨s, _⟩
    · omega
    · have : A ≤ A.fmod C := by
        by_cases hA : C < A
        · have : A.fmod C = A := by
            have := Int.fmod_eq_of_lt (a := -A) (b := -C) (by omega) (by omega)
            rw [Int.neg_fmod_neg] at this
            omega
          omega
        · omega
      omega
  · have h1 : 0 ≤ A.fmod C := Int.fmod_nonneg_of_pos A h
    have h2 : A.fmod C < C := Int.fmod_lt_of_pos A h
    refine ⟨by omega, .inl ⟨by omega, h1⟩, fun s => ?_⟩
    rcases s with ⟨s, _⟩ | ⟨_, s⟩
    · have : A.fmod C ≤ A := by
        by_cases hA : A < C
        · rw [Int.fmod_eq_of_lt s hA]; omega
        · omega
      omega
    · omega
theorem pot_step {P : Nat} {A C u v : Int} (hC : C ≠ 0) (hs : Sg A C) (h : Pot P A C u v) : Pot P C (A.fmod C) v (u - A.fdiv C * v) := by
  obtain ⟨e, lt, sg, sm⟩ := fmod_facts (A := A) hC
  have sm := sm hs
  obtain ⟨h1, h2, h3⟩ := h
  have k : (u - A.fdiv C * v).natAbs * C.natAbs ≤ u.natAbs * C.natAbs + (A - A.fmod C).natAbs * v.natAbs := by
    rw [← Int.natAbs_mul, ← Int.natAbs_mul, ← Int.natAbs_mul]
    have : (u - A.fdiv C * v) * C = u * C - (A - A.fmod C) * v := by
      rw [← e, Int.sub_mul, Int.sub_sub_self]
      congr 1
      rw [Int.mul_right_comm]
    rw [this]
    exact Int.natAbs_sub_le _ _
  have k2 : (A - A.fmod C).natAbs * v.natAbs + (A.fmod C).natAbs * v.natAbs = v.natAbs * A.natAbs := by
    rw [← Nat.add_mul, sm, Nat.mul_comm]
  have k3 : v.natAbs * (A.fmod C).natAbs = (A.fmod C).natAbs * v.natAbs := Nat.mul_comm _ _
  have k4 : (u - A.fdiv C * v).natAbs ≤ (u - A.fdiv C * v).natAbs * C.natAbs := Nat.le_mul_of_pos_right _ (by omega)
  refine ⟨?_, h3, ?_⟩
  · omega
  · omega
theorem pot_first {n : Nat} {A C u v : Int} (hC : C ≠ 0) (hA : Bd A n) (hc : Bd C n) (hu : Bd u n) (hv : Bd v n) : Pot (2 ^ (2 * n + 2)) C (A.fmod C) v (u - A.fdiv C * v) := by
  obtain ⟨e, lt, sg, sm⟩ := fmod_facts (A := A) hC
  have a1 := hA.lt
  have a2 := hc.lt
  have a3 := hu.lt
  have a4 := hv.lt
  have k : (u - A.fdiv C * v).natAbs * C.natAbs ≤ u.natAbs * C.natAbs + (A - A.fmod C).natAbs * v.natAbs := by
    rw [← Int.natAbs_mul, ← Int.natAbs_mul, ← Int.natAbs_mul]
    have : (u - A.fdiv C * v) * C = u * C - (A - A.fmod C) * v := by
      rw [← e, Int.sub_mul, Int.sub_sub_self]
      congr 1
      rw [Int.mul_right_comm]
    rw [this]
    exact Int.natAbs_sub_le _ _
  have e2 : (2 : Nat) ^ (2 * n + 2) = 2 ^ n * 2 ^ n * 4 := by
    rw [Nat.pow_add, Nat.two_mul, Nat.pow_add]
  have hp : 0 < (2 : Nat) ^ n := Nat.pow_pos (by decide)
  have c1 : u.natAbs * C.natAbs ≤ 2 ^ n * 2 ^ n := Nat.mul_le_mul (by omega) (by omega)
  have c2 : (A - A.fmod C).natAbs * v.natAbs ≤ (2 ^ n * 2) * 2 ^ n := Nat.mul_le_mul (by omega) (by omega)
  have c3 : v.natAbs * (A.fmod C).natAbs ≤ 2 ^ n * 2 ^ n := Nat.mul_le_mul (by omega) (by omega)
  have c4 : (2 ^ n * 2) * 2 ^ n = 2 ^ n * 2 ^ n * 2 := by rw [Nat.mul_right_comm]
  have c5 : (2 : Nat) ^ n * 1 ≤ 2 ^ n * 2 ^ n := Nat.mul_le_mul_left _ hp
  have k4 : (u - A.fdiv C * v).natAbs ≤ (u - A.fdiv C * v).natAbs * C.natAbs := Nat.le_mul_of_pos_right _ (by omega)
  refine ⟨?_, ?_, ?_⟩ <;> omega
theorem fdiv_bd {A C : Int} {n : Nat} (hC : C ≠ 0) (hA : Bd A n) (hc : Bd C n) : Bd (A.fdiv C) (n + 1) := by
  obtain ⟨e, lt, sg, sm⟩ := fmod_facts (A := A) hC
  have a1 := hA.lt
  have a2 := hc.lt
  have k4 : (A.fdiv C).natAbs ≤ (A.fdiv C).natAbs * C.natAbs := Nat.le_mul_of_pos_right _ (by omega)
  rw [← Int.natAbs_mul] at k4
  refine ⟨?_⟩
  rw [Nat.pow_succ]
  omega
def Sol (h r : Rw) (m n : Int) : Prop := h.a * m + h.b * n = h.g ∧ r.a * m + r.b * n = r.g
def dt (h r : Rw) : Int := h.a * r.b - h.b * r.a
theorem sol_less (h r : Rw) (t m n : Int) : Sol r (h.less r t) m n ↔ Sol h r m n := by
  unfold Sol Rw.less
  constructor
  · rintro ⟨h1, h2⟩
    exact ⟨by grind, h1⟩
  · rintro ⟨h1, h2⟩
    exact ⟨h2, by grind⟩
theorem dt_less (h r : Rw) (t : Int) : dt r (h.less r t) = - dt h r := by
  unfold dt Rw.less
  grind
abbrev NN : Nat := 2002
structure Good (h r : Rw) : Prop where
  sg : Sg h.a r.a
  ha : h.a.natAbs ≤ 2 ^ NN
  ra : r.a.natAbs ≤ 2 ^ NN
  b : Pot (2 ^ NN) h.a r.a h.b r.b
  g : Pot (2 ^ NN) h.a r.a h.g r.g
  p : Pot (2 ^ NN) h.a r.a h.p r.p
  q : Pot (2 ^ NN) h.a r.a h.q r.q
theorem le_bd {x : Int} {n : Nat} (h : x.natAbs ≤ 2 ^ n) : Bd x (n + 1) := ⟨by
  rw [Nat.pow_succ]
  have : 0 < (2 : Nat) ^ n := Nat.pow_pos (by decide)
  omega⟩
theorem Good.rB {h r : Rw} (k : Good h r) : r.B (NN + 1) := ⟨le_bd k.ra, le_bd k.b.2.2, le_bd k.g.2.2, le_bd k.p.2.2, le_bd k.q.2.2⟩
theorem Good.hB {h r : Rw} (k : Good h r) : h.B (NN + 1) := ⟨le_bd k.ha, le_bd k.b.2.1, le_bd k.g.2.1, le_bd k.p.2.1, le_bd k.q.2.1⟩
theorem less_a (h r : Rw) (hr : r.a ≠ 0) : (h.less r (h.a.fdiv r.a)).a = h.a.fmod r.a := (fmod_facts hr).1
theorem Good.step {h r : Rw} (k : Good h r) (hr : r.a ≠ 0) : Good r (h.less r (h.a.fdiv r.a)) := by
  obtain ⟨e, lt, sg, sm⟩ := fmod_facts (A := h.a) hr
  have ea := less_a h r hr
  refine ⟨ea ▸ sg, k.ra, by rw [ea]; exact Nat.le_trans (Nat.le_of_lt lt) k.ra, ?_, ?_, ?_, ?_⟩ <;> rw [ea]
  · exact pot_step hr k.sg k.b
  · exact pot_step hr k.sg k.g
  · exact pot_step hr k.sg k.p
  · exact pot_step hr k.sg k.q
theorem Good.first {h r : Rw} (kh : h.B 1000) (kr : r.B 1000) (hr : r.a ≠ 0) : Good r (h.less r (h.a.fdiv r.a)) := by
  obtain ⟨e, lt, sg, sm⟩ := fmod_facts (A := h.a) hr
  have ea := less_a h r hr
  have l1 : (2 : Nat) ^ 1000 ≤ 2 ^ NN := Nat.pow_le_pow_right (by decide) (by decide)
  have l2 := kr.a.lt
  refine ⟨ea ▸ sg, by omega, by rw [ea]; omega, ?_, ?_, ?_, ?_⟩ <;> rw [ea]
  · exact pot_first hr kh.a kr.a kh.b kr.b
  · exact pot_first hr kh.a kr.a kh.g kr.g
  · exact pot_first hr kh.a kr.a kh.p kr.p
  · exact pot_first hr kh.a kr.a kh.q kr.q
def cW : DT := eB (eOp2 dNe (eIx (eVar 4) (eVar 1)) (eC (.int 0)))
def bW : DStm := sPar 2 4 (aCons (eVar 4) (aCons (eCall 3 g_row_less (aCons (eVar 2) (aCons (eVar 4) (aCons (eOp2 iDiv (eIx (eVar 2) (eVar 1)) (eIx (eVar 4) (eVar 1))) (aNil))))) (aNil)))
abbrev fr (rows : D) (L : List D) (h r : Rw) (S : List Cell) : DS := ⟨[.val rows, .val (.int 0), .val h.d, .ol L, .val r.d], S⟩
theorem cW_ok (rows : D) (L : List D) (h r : Rw) (S : List Cell) : cW (fr rows L h r S) = .ok (!decide (r.a = 0)) (fr rows L h r S) := by
  simp [cW, Rw.d]
theorem bW_ok (rows : D) (L : List D) (h r : Rw) (S : List Cell) (kr : r.B 2004) (kh : Bd (h.a.fdiv r.a) 2004) (hr : r.a ≠ 0) : bW (fr rows L h r S) = .ok .nx (fr rows L r (h.less r (h.a.fdiv r.a)) S) := by
  have d : divOk r.a = true := divOk_of kr.a hr (by decide)
  have q := less_ok h r (h.a.fdiv r.a) S kr kh (by decide)
  have q1 : ∀ r : Rw, ixD r.d 0 = some (.int r.a) := fun r => by simp [Rw.d]
  simp [bW, q1, d, q]
theorem Rw.B.le {r : Rw} {n m : Nat} (k : r.B n) (h : n ≤ m) : r.B m := ⟨k.a.le h, k.b.le h, k.g.le h, k.p.le h, k.q.le h⟩
theorem while_ok (rows : D) (L : List D) (S : List Cell) : ∀ (n : Nat) (h r : Rw), r.a.natAbs ≤ n → Good h r → ∃ h' r', sWhile cW bW (fr rows L h r S) = .ok .nx (fr rows L h' r' S) ∧ r'.a = 0 ∧ h'.B (NN + 1) ∧ r'.B (NN + 1) ∧ (∀ m n, Sol h' r' m n ↔ Sol h r m n) ∧ (dt h' r').natAbs = (dt h r).natAbs
  | n, h, r, hn, k => by
    by_cases e : r.a = 0
    · refine ⟨h, r, ?_, e, k.hB, k.rB, fun _ _ => Iff.rfl, rfl⟩
      rw [sWhile_eq, cW_ok]
      simp [e]
    · obtain ⟨_, lt, _, _⟩ := fmod_facts (A := h.a) e
      have ea := less_a h r e
      match n with
      | 0 => omega
      | n + 1 =>
        obtain ⟨h', r', q1, q2, q3, q4, q5, q6⟩ := while_ok rows L S n r (h.less r (h.a.fdiv r.a)) (by omega) (k.step e)
        refine ⟨h', r', ?_, q2, q3, q4, fun m n => (q5 m n).trans (sol_less h r _ m n), by rw [q6, dt_less, Int.natAbs_neg]⟩
        rw [sWhile_eq, cW_ok]
        simp [e, -r_sPar]
        rw [bW_ok rows L h r S (k.rB.le (by decide)) ((fdiv_bd e k.hB.a k.rB.a).le (by decide)) e]
        exact q1
theorem while_first (rows : D) (L : List D) (S : List Cell) (h r : Rw) (kh : h.B 1000) (kr : r.B 1000) (e : r.a ≠ 0) : ∃ h' r', sWhile cW bW (fr rows L h r S) = .ok .nx (fr rows L h' r' S) ∧ r'.a = 0 ∧ h'.B (NN + 1) ∧ r'.B (NN + 1) ∧ (∀ m n, Sol h' r' m n ↔ Sol h r m n) ∧ (dt h' r').natAbs = (dt h r).natAbs := by
  obtain ⟨h', r', q1, q2, q3, q4, q5, q6⟩ := while_ok rows L S _ r (h.less r (h.a.fdiv r.a)) (Nat.le_refl _) (Good.first kh kr e)
  refine ⟨h', r', ?_, q2, q3, q4, fun m n => (q5 m n).trans (sol_less h r _ m n), by rw [q6, dt_less, Int.natAbs_neg]⟩
  rw [sWhile_eq, cW_ok]
  simp [e, -r_sPar]
  rw [bW_ok rows L h r S (kr.le (by decide)) ((fdiv_bd e kh.a kr.a).le (by decide)) e]
  exact q1
theorem isN_rw (r : Rw) : isNonD r.d = false := rfl
theorem ix0_rw (r : Rw) : ixD r.d 0 = some (.int r.a) := by simp [Rw.d]
theorem ix1_rw (r : Rw) : ixD r.d 1 = some (.int r.b) := by simp [Rw.d]
theorem ix2_rw (r : Rw) : ixD r.d 2 = some (.int r.g) := by simp [Rw.d]
/-- the first column: a head and one row whose first entry is 0 -/
theorem head0_ok (r1 r2 : Rw) (S : List Cell) (k1 : r1.B 1000) (k2 : r2.B 1000) (hd : dt r1 r2 ≠ 0) : ∃ h r : Rw, g_head_row [.lst [r1.d, r2.d], .int 0] S = .ok (.tup [h.d, .lst [r.d]]) S ∧ r.a = 0 ∧ h.a ≠ 0 ∧ r.b ≠ 0 ∧ h.B (NN + 1) ∧ r.B (NN + 1) ∧ (∀ m n, Sol h r m n ↔ Sol r1 r2 m n) := by
  have fin : ∀ h r : Rw, r.a = 0 → dt h r ≠ 0 → h.a ≠ 0 ∧ r.b ≠ 0 := fun h r e d => by
    unfold dt at d
    rw [e, Int.mul_zero, Int.sub_zero] at d
    exact ⟨fun z => d (by rw [z, Int.zero_mul]), fun z => d (by rw [z, Int.mul_zero])⟩
  by_cases e1 : r1.a = 0
  · have e2 : r2.a ≠ 0 := fun z => hd (by unfold dt; rw [e1, z]; simp)
    obtain ⟨f1, f2⟩ := fin r2 r1 e1 (by unfold dt at hd ⊢; grind)
    refine ⟨r2, r1, ?_, e1, f1, f2, k2.le (by decide), k1.le (by decide), fun m n => ⟨fun ⟨a, b⟩ => ⟨b, a⟩, fun ⟨a, b⟩ => ⟨b, a⟩⟩⟩
    simp [g_head_row, b_head_row, fnD, ix0_rw, e1, e2]
  · by_cases e2 : r2.a = 0
    · obtain ⟨f1, f2⟩ := fin r1 r2 e2 hd
      refine ⟨r1, r2, ?_, e2, f1, f2, k1.le (by decide), k2.le (by decide), fun m n => Iff.rfl⟩
      simp [g_head_row, b_head_row, fnD, ix0_rw, e1, e2]
    · obtain ⟨h, r, q1, q2, q3, q4, q5, q6⟩ := while_first (.lst [r1.d, r2.d]) [] S r1 r2 k1 k2 e2
      obtain ⟨f1, f2⟩ := fin h r q2 (by omega)
      refine ⟨h, r, ?_, q2, f1, f2, q3, q4, q5⟩
      unfold cW bW fr at q1
      simp [g_head_row, b_head_row, fnD, ix0_rw, e1, e2, isN_rw, q1, -r_sPar]
theorem head1_ok (r : Rw) (S : List Cell) (h : r.b ≠ 0) : g_head_row [.lst [r.d], .int 1] S = .ok (.tup [r.d, .lst []]) S := by
  simp [g_head_row, b_head_row, fnD, ix1_rw, h]
end W_k45
set_option maxRecDepth 100000
set_option maxHeartbeats 4000000
namespace W_k45
open DL
def Ans (h r : Rw) (w : D) : Prop := (∃ m n : Int, w = .tup [.int m, .int n] ∧ Sol h r m n) ∨ (w = .non ∧ ¬ ∃ m n : Int, Sol h r m n)
theorem sl3_rw (r : Rw) : slD r.d (some 3) none = some (.tup [.int r.p, .int r.q]) := rfl
theorem zip2 (a b c d : D) : zipL [a, b] [c, d] = [.tup [a, c], .tup [b, d]] := rfl
theorem bd_abs {x : Int} {n : Nat} (h : Bd x n) : Bd (if x < 0 then -x else x) n := by
  split
  · exact bd_neg
  · exact h
theorem two_ok (h r : Rw) (S : List Cell) (kh : h.B 2003) (kr : r.B 2003) (h0 : r.a = 0) (h1 : h.a ≠ 0) (h2 : r.b ≠ 0) : ∃ w e, g_two_rows [h.d, r.d] S = .ok (.tup [w, .lst [], e]) S ∧ Ans h r w := by
  have low : ∀ x : Int, x.fmod (if r.b < 0 then -r.b else r.b) = 0 ↔ r.b ∣ x := fun x => by
    rw [← Int.dvd_iff_fmod_eq_zero]
    split
    · exact Int.neg_dvd
    · exact Iff.rfl
  have low0 : (if r.b < 0 then -r.b else r.b) ≠ 0 := by split <;> omega
  have d1 : divOk r.b = true := divOk_of kr.b h2 (by decide)
  have d2 : divOk h.a = true := divOk_of kh.a h1 (by decide)
  have mm : mulOk (if h.a < 0 then -h.a else h.a) (if r.b < 0 then -r.b else r.b) = true := mulOk_of (bd_abs kh.a) (bd_abs kr.b) (by decide)
  have mp : mulOk r.b h.p = true := mulOk_of kr.b kh.p (by decide)
  have mq : mulOk r.b h.q = true := mulOk_of kr.b kh.q (by decide)
  have mp' : mulOk h.b r.p = true := mulOk_of kh.b kr.p (by decide)
  have mq' : mulOk h.b r.q = true := mulOk_of kh.b kr.q (by decide)
  by_cases e1 : r.b ∣ r.g
  · have e1' := (low r.g).mpr e1
    have ee : r.b * r.g.fdiv r.b = r.g := Int.mul_fdiv_cancel' e1
    have bn : Bd (r.g.fdiv r.b) 2003 := ⟨Nat.lt_of_le_of_lt (fdiv_abs (Int.fmod_eq_zero_of_dvd e1)) kr.g.lt⟩
    generalize hn : r.g.fdiv r.b = n at *
    have mo : mulOk h.b n = true := mulOk_of kh.b bn (by decide)
    by_cases e2 : (h.g - h.b * n).fmod h.a = 0
    · refine ⟨.tup [.int ((h.g - h.b * n).fdiv h.a), .int n], .non, ?_, .inl ⟨_, _, rfl, ?_, ?_⟩⟩
      · simp [g_two_rows, b_two_rows, fnD, ix0_rw, ix1_rw, ix2_rw, low, e1, e1', low0, d1, d2, mo, e2, h1, hn]
      · have := Int.mul_fdiv_cancel' (Int.dvd_of_fmod_eq_zero e2)
        omega
      · rw [h0, ee]; simp
    · refine ⟨.non, .tup [.lst [.int (r.b * h.p - h.b * r.p), .int (r.b * h.q - h.b * r.q)], .int ((if h.a < 0 then -h.a else h.a) * (if r.b < 0 then -r.b else r.b))], ?_, .inr ⟨rfl, ?_⟩⟩
      · simp [g_two_rows, b_two_rows, fnD, ix0_rw, ix1_rw, ix2_rw, low, e1, e1', low0, d1, d2, mo, e2, h1, hn, mm, mp, mq, mp', mq', sl3_rw, zip2]
      · rintro ⟨m, k, s1, s2⟩
        rw [h0, Int.zero_mul, Int.zero_add] at s2
        have : k = n := Int.eq_of_mul_eq_mul_left h2 (by rw [s2, ee])
        subst this
        exact e2 (Int.fmod_eq_zero_of_dvd ⟨m, by omega⟩)
  · refine ⟨.non, .tup [.tup [.int r.p, .int r.q], .int (if r.b < 0 then -r.b else r.b)], ?_, .inr ⟨rfl, ?_⟩⟩
    · simp [g_two_rows, b_two_rows, fnD, ix0_rw, ix1_rw, ix2_rw, low, e1, low0, sl3_rw]
    · rintro ⟨m, k, s1, s2⟩
      rw [h0, Int.zero_mul, Int.zero_add] at s2
      exact e1 ⟨k, s2.symm⟩
theorem enum2 (a b : D) : enumL [a, b] = [.tup [.int 0, a], .tup [.int 1, b]] := rfl
theorem rng2 : rngL 0 2 = [.int 0, .int 1] := rfl
theorem tupAdd (xs ys : List D) : dAdd (.tup xs) (.tup ys) = sAdd (.tup xs) (.tup ys) := by
  show (sAdd (.tup xs) (.tup ys)).orElse (fun _ => lAdd (.tup xs) (.tup ys)) = _
  cases sAdd (.tup xs) (.tup ys) <;> rfl
theorem solved_ok (x1 x2 y1 y2 g1 g2 : Int) (S : List Cell) (b1 : Bd x1 200) (b2 : Bd x2 200) (b3 : Bd y1 200) (b4 : Bd y2 200) (b5 : Bd g1 1000) (b6 : Bd g2 1000) (hd : x1 * y2 - x2 * y1 ≠ 0) :
    ∃ w e, g_solved [.lst [.tup [.int x1, .int x2], .tup [.int y1, .int y2]], .lst [.int g1, .int g2]] S = .ok (.tup [w, .lst [], e]) S ∧ Ans ⟨x1, x2, g1, 1, 0⟩ ⟨y1, y2, g2, 0, 1⟩ w := by
  obtain ⟨h, r, q1, q2, q3, q4, q5, q6, q7⟩ := head0_ok ⟨x1, x2, g1, 1, 0⟩ ⟨y1, y2, g2, 0, 1⟩ S ⟨b1.le (by decide), b2.le (by decide), b5, bd_1.le (by decide), bd_0.le (by decide)⟩ ⟨b3.le (by decide), b4.le (by decide), b6, bd_0.le (by decide), bd_1.le (by decide)⟩ hd
  obtain ⟨w, e, q8, q9⟩ := two_ok h r S q5 q6 q2 q3 q4
  refine ⟨w, e, ?_, ?_⟩
  · have hh := head1_ok r S q4
    replace q1 : g_head_row [.lst [.tup [.int x1, .int x2, .int g1, .int 1, .int 0], .tup [.int y1, .int y2, .int g2, .int 0, .int 1]], .int 0] S = .ok (.tup [h.d, .lst [r.d]]) S := q1
    simp [g_solved, b_solved, fnD, enum2, rng2, tupAdd, sAdd, q1, hh, isN_rw, q8]
  · rcases q9 with ⟨m, n, e, s⟩ | ⟨e, s⟩
    · exact .inl ⟨m, n, e, (q7 m n).mp s⟩
    · exact .inr ⟨e, fun ⟨m, n, z⟩ => s ⟨m, n, (q7 m n).mpr z⟩⟩
theorem cramer {x1 x2 y1 y2 g1 g2 m n : Int} (hd : x1 * y2 - x2 * y1 ≠ 0) (h1 : x1 * m + x2 * n = g1) (h2 : y1 * m + y2 * n = g2) : (g1 * y2 - x2 * g2).fmod (x1 * y2 - x2 * y1) = 0 ∧ (x1 * g2 - g1 * y1).fmod (x1 * y2 - x2 * y1) = 0 ∧ (g1 * y2 - x2 * g2).fdiv (x1 * y2 - x2 * y1) = m ∧ (x1 * g2 - g1 * y1).fdiv (x1 * y2 - x2 * y1) = n := by
  have e1 : g1 * y2 - x2 * g2 = (x1 * y2 - x2 * y1) * m := by grind
  have e2 : x1 * g2 - g1 * y1 = (x1 * y2 - x2 * y1) * n := by grind
  rw [e1, e2]
  exact ⟨Int.fmod_eq_zero_of_dvd ⟨m, rfl⟩, Int.fmod_eq_zero_of_dvd ⟨n, rfl⟩, Int.mul_fdiv_cancel_left m hd, Int.mul_fdiv_cancel_left n hd⟩
theorem uncramer {x1 x2 y1 y2 g1 g2 : Int} (hd : x1 * y2 - x2 * y1 ≠ 0) (h1 : (g1 * y2 - x2 * g2).fmod (x1 * y2 - x2 * y1) = 0) (h2 : (x1 * g2 - g1 * y1).fmod (x1 * y2 - x2 * y1) = 0) : ∃ m n, x1 * m + x2 * n = g1 ∧ y1 * m + y2 * n = g2 := by
  obtain ⟨m, e1⟩ := Int.dvd_of_fmod_eq_zero h1
  obtain ⟨n, e2⟩ := Int.dvd_of_fmod_eq_zero h2
  refine ⟨m, n, Int.eq_of_mul_eq_mul_left hd ?_, Int.eq_of_mul_eq_mul_left hd ?_⟩
  · have : (x1 * y2 - x2 * y1) * (x1 * m + x2 * n) = x1 * ((x1 * y2 - x2 * y1) * m) + x2 * ((x1 * y2 - x2 * y1) * n) := by grind
    rw [this, ← e1, ← e2]
    grind
  · have : (x1 * y2 - x2 * y1) * (y1 * m + y2 * n) = y1 * ((x1 * y2 - x2 * y1) * m) + y2 * ((x1 * y2 - x2 * y1) * n) := by grind
    rw [this, ← e1, ← e2]
    grind
theorem cross_ok (p q g : Q3) (S : List Cell) (hd : det p q ≠ 0) (hp : p.B 200) (hq : q.B 200) (hg : g.B 1000) : g_powers_crossing [p.p, q.p, g.p] S = .ok (dueD p q g) S := by
  obtain ⟨px, py, pa⟩ := p
  obtain ⟨qx, qy, qa⟩ := q
  obtain ⟨gx, gy, ga⟩ := g
  obtain ⟨b1, b2, b3⟩ := hp
  obtain ⟨b4, b5, b6⟩ := hq
  obtain ⟨b7, b8, b9⟩ := hg
  dsimp only at b1 b2 b3 b4 b5 b6 b7 b8 b9 hd
  obtain ⟨w, e, q1, q2⟩ := solved_ok px qx py qy gx gy S b1 b4 b2 b5 b7 b8 hd
  have bm : Bd (tw gx gy qx qy) 2401 := bd_sub (m := 1200) (n := 1200) (h := bd_mul (m := 1000) (n := 200)) (k := bd_mul (m := 200) (n := 1000))
  have bn : Bd (tw px py gx gy) 2401 := bd_sub (m := 1200) (n := 1200) (h := bd_mul (m := 200) (n := 1000)) (k := bd_mul (m := 1000) (n := 200))
  unfold dueD Q3.p
  rcases q2 with ⟨m, n, rfl, s1, s2⟩ | ⟨rfl, s⟩
  · obtain ⟨c1, c2, c3, c4⟩ := cramer hd s1 s2
    have bM : Bd m 2401 := c3 ▸ ⟨Nat.lt_of_le_of_lt (fdiv_abs c1) bm.lt⟩
    have bN : Bd n 2401 := c4 ▸ ⟨Nat.lt_of_le_of_lt (fdiv_abs c2) bn.lt⟩
    have e1 := power_ok px py pa m S (.of b1 b2 b3 bM (by decide))
    have e2 := power_ok qx qy qa n S (.of b4 b5 b6 bN (by decide))
    have e3 := mul_ok (m * px) (m * py) (m * pa + hlf m * px * py) (n * qx) (n * qy) (n * qa + hlf n * qx * qy) S (mulOk_bd (by decide))
    by_cases h3 : Hit ⟨px, py, pa⟩ ⟨qx, qy, qa⟩ ⟨gx, gy, ga⟩ m n
    · have h4 := h3
      simp only [Hit, jn, pw] at h4
      simp [g_powers_crossing, b_powers_crossing, fnD, q1, List.lookup, e1, e2, e3, peq_ok, c1, c2, c3, c4, h3, h4]
    · have h4 := h3
      simp only [Hit, jn, pw] at h4
      simp [g_powers_crossing, b_powers_crossing, fnD, q1, List.lookup, e1, e2, e3, peq_ok, c1, c2, c3, c4, h3, h4]
  · rw [if_neg (fun z => by
      obtain ⟨m, n, z1, z2⟩ := uncramer hd z.1 z.2.1
      exact s ⟨m, n, z1, z2⟩)]
    simp [g_powers_crossing, b_powers_crossing, fnD, q1, List.lookup]
theorem powers_ok (p q g : Q3) (S : List Cell) (hd : det p q ≠ 0) (hp : p.B 200) (hq : q.B 200) (hg : g.B 1000) : g_powers_to [p.p, q.p, g.p] S = .ok (dueD p q g) S := by
  have h1 := cross_ok p q g S hd hp hq hg
  have h2 := twist_ok p.x p.y p.a q.x q.y q.a S (mulOk_of hp.bx hq.byy (by decide)) (mulOk_of hq.bx hp.byy (by decide))
  unfold Q3.p at *
  simp [g_powers_to, b_powers_to, fnD, List.lookup, h2, hd, h1]
theorem due_ne (p q g : Q3) : dNe (dueD p q g) (dueD p q g) = some (.bl false) := by
  unfold dueD
  split
  · simp [dNe, toPy, toPys, PySem.SeqAt.shaped, PySem.PyData.canLay0, PySem.PyData.canLayAll0, PySem.PyData.depth, PySem.PyData.depthAll, PySem.PyData.eqv, PySem.PyData.eqvAll]
  · simp [dNe, toPy, toPys, PySem.SeqAt.shaped, PySem.PyData.canLay0, PySem.PyData.canLayAll0, PySem.PyData.depth, PySem.PyData.depthAll, PySem.PyData.eqv, PySem.PyData.eqvAll]
end W_k45
set_option maxRecDepth 100000
set_option maxHeartbeats 4000000
namespace W_k45
open DL
noncomputable section
def rF : DStm := (sSeq (sSetO 9 (aLc [10] (itSeq (eTup (aCons (eVar 3) (aCons (eVar 4) (aCons (eVar 7) (aNil)))))) (gN 10) (bYes) (eCall 1 g__law_place (aCons (eVar 10) (aNil))))) (sSeq (sIf (eB (eOp2 dNe (eCall 3 g_powers_to (aCons (eIx (eVar 9) (eC (.int 0))) (aCons (eIx (eVar 9) (eC (.int 1))) (aCons (eIx (eVar 9) (eC (.int 2))) (aNil))))) (eCall 3 g__law_due (aCons (eVar 3) (aCons (eVar 4) (aCons (eVar 7) (aNil))))))) (sRet (eC (.bl false))) (sPass)) (sIf (eB (eOp2 dNe (eCall 3 g_powers_to (aCons (eIx (eVar 9) (eC (.int 1))) (aCons (eIx (eVar 9) (eC (.int 0))) (aCons (eIx (eVar 9) (eC (.int 2))) (aNil))))) (eCall 3 g__law_due (aCons (eVar 4) (aCons (eVar 3) (aCons (eVar 7) (aNil))))))) (sRet (eC (.bl false))) (sPass))))
def rG : DStm := (sIf (eB (eOp2 dEq (eCall 2 g__law_draw (aCons (eVar 1) (aCons (eC (.int 6)) (aNil)))) (eC (.int 0)))) (sSet 7 (eCall 1 g__law_mid_drawn (aCons (eVar 1) (aNil)))) (sPass))
def rE : DStm := (sSeq (sPar 5 6 (aCons (eOp2 iSub (eCall 2 g__law_draw (aCons (eVar 1) (aCons (eC (.int 2000001)) (aNil)))) (eC (.int 1000000))) (aCons (eCall 1 g__law_small (aCons (eVar 1) (aNil))) (aNil)))) (sSeq (sSet 7 (eCall 2 g__law_join (aCons (eCall 2 g__law_times (aCons (eVar 3) (aCons (eVar 5) (aNil)))) (aCons (eCall 2 g__law_times (aCons (eVar 4) (aCons (eVar 6) (aNil)))) (aNil))))) (sSeq (sSet 8 (eCall 2 g__law_pick (aCons (eVar 1) (aCons (eFrz (aMax (aCons (eTup (aCons (eC (.int 0)) (aCons (eC (.int 0)) (aCons (eC (.int 0)) (aNil))))) (aCons (eTup (aCons (eC (.int 0)) (aCons (eC (.int 0)) (aCons (eC (.int 0)) (aNil))))) (aCons (eTup (aCons (eC (.int 0)) (aCons (eC (.int 0)) (aCons (eC (.int 1)) (aNil))))) (aCons (eTup (aCons (eC (.int 1)) (aCons (eC (.int 0)) (aCons (eC (.int 0)) (aNil))))) (aCons (eTup (aCons (eIx (eVar 3) (eC (.int 0))) (aCons (eIx (eVar 3) (eC (.int 1))) (aCons (eC (.int 0)) (aNil))))) (aNil)))))))) (aNil))))) (sSeq (sSet 7 (eTup (aCons (eOp2 dAdd (eIx (eVar 7) (eC (.int 0))) (eIx (eVar 8) (eC (.int 0)))) (aCons (eOp2 dAdd (eIx (eVar 7) (eC (.int 1))) (eIx (eVar 8) (eC (.int 1)))) (aCons (eOp2 dAdd (eIx (eVar 7) (eC (.int 2))) (eIx (eVar 8) (eC (.int 2)))) (aNil)))))) (sSeq rG rF)))))
def rA : DStm := (sPar 3 4 (aCons (eCall 1 g__law_mid_drawn (aCons (eVar 1) (aNil))) (aCons (eCall 1 g__law_mid_drawn (aCons (eVar 1) (aNil))) (aNil))))
def rB : DStm := (sIf (eB (eOp2 dEq (eCall 2 g__law_twist (aCons (eVar 3) (aCons (eVar 4) (aNil)))) (eC (.int 0)))) (sPar 3 4 (aCons (eTup (aCons (eOp2 dAdd (eC (.int 2)) (eOp2 dMul (eIx (eVar 3) (eC (.int 0))) (eIx (eVar 3) (eC (.int 0))))) (aCons (eIx (eVar 3) (eC (.int 1))) (aCons (eIx (eVar 3) (eC (.int 2))) (aNil))))) (aCons (eTup (aCons (eC (.int 0)) (aCons (eC (.int 3)) (aCons (eIx (eVar 4) (eC (.int 2))) (aNil))))) (aNil)))) (sPass))
def rb : DStm := (sSeq rA (sSeq rB rE))
end
theorem b_law_eq : b_law = sSeq (sSet 1 (eCall 1 g__law_begin (aCons (eVar 0) (aNil)))) (sSeq (sFor (itR1 (aCons (eC (.int 5)) (aNil))) (gN 2) rb) (sRet (eC (.bl true)))) := rfl
def St (z : D) (n : Nat) (s : DS) : Prop := ∃ a2 a3 a4 a5 a6 a7 a8 a9 a10 S, s = ⟨[.val z, .val (.cell 0), a2, a3, a4, a5, a6, a7, a8, a9, a10], S⟩ ∧ Pen n S
theorem tw_swap (x y u v : Int) : tw u v x y = - tw x y u v := by unfold tw; grind
theorem Q3.B.le {p : Q3} {n m : Nat} (k : p.B n) (h : n ≤ m) : p.B m := ⟨k.bx.le h, k.byy.le h, k.ba.le h⟩
theorem goal_bd {p q : Q3} {m n : Int} (hp : p.B 200) (hq : q.B 200) (hm : Bd m 22) (hn : Bd n 22) : (jn (pw p m) (pw q n)).B 990 := by
  obtain ⟨b1, b2, b3⟩ := hp
  obtain ⟨b4, b5, b6⟩ := hq
  have c1 : Bd (m * p.x) 222 := bd_mul (m := 22) (n := 200)
  have c2 : Bd (m * p.y) 222 := bd_mul (m := 22) (n := 200)
  have c3 : Bd (m * p.a) 222 := bd_mul (m := 22) (n := 200)
  have c4 : Bd (n * q.x) 222 := bd_mul (m := 22) (n := 200)
  have c5 : Bd (n * q.y) 222 := bd_mul (m := 22) (n := 200)
  have c6 : Bd (n * q.a) 222 := bd_mul (m := 22) (n := 200)
  have c7 : Bd (hlf m * p.x * p.y) (22 + (22 + 1 + 1) + 200 + 200) := inferInstance
  have c8 : Bd (hlf n * q.x * q.y) (22 + (22 + 1 + 1) + 200 + 200) := inferInstance
  have c9 : Bd (m * p.x * (n * q.y)) (222 + 222) := inferInstance
  refine ⟨?_, ?_, ?_⟩
  · exact (inferInstance : Bd (m * p.x + n * q.x) (222 + 222 + 1)).le (by decide)
  · exact (inferInstance : Bd (m * p.y + n * q.y) (222 + 222 + 1)).le (by decide)
  · show Bd (m * p.a + hlf m * p.x * p.y + (n * q.a + hlf n * q.x * q.y) + m * p.x * (n * q.y)) 990
    refine ⟨?_⟩
    have l1 : (2 : Nat) ^ 222 ≤ 2 ^ 446 := Nat.pow_le_pow_right (by decide) (by decide)
    have l2 : (2 : Nat) ^ 444 ≤ 2 ^ 446 := Nat.pow_le_pow_right (by decide) (by decide)
    have l3 : (2 : Nat) ^ 446 * 8 ≤ 2 ^ 990 := by
      have : (2 : Nat) ^ 446 * 2 ^ 3 ≤ 2 ^ 990 := by rw [← Nat.pow_add]; exact Nat.pow_le_pow_right (by decide) (by decide)
      exact this
    have d3 := c3.lt
    have d6 := c6.lt
    have d7 : _ < 2 ^ 446 := c7.lt
    have d8 : _ < 2 ^ 446 := c8.lt
    have d9 : _ < 2 ^ 444 := c9.lt
    generalize m * p.a = z1 at *
    generalize n * q.a = z2 at *
    generalize hlf m * p.x * p.y = z3 at *
    generalize hlf n * q.x * q.y = z4 at *
    generalize m * p.x * (n * q.y) = z5 at *
    generalize (2 : Nat) ^ 222 = y1 at *
    generalize (2 : Nat) ^ 444 = y2 at *
    generalize (2 : Nat) ^ 446 = y3 at *
    generalize (2 : Nat) ^ 990 = y4 at *
    omega
theorem bd_add' {x y : Int} {n : Nat} (h : Bd x n) (k : Bd y n) : Bd (x + y) (n + 1) := ⟨by
  have h1 := h.lt
  have h2 := k.lt
  rw [Nat.pow_succ]
  omega⟩
theorem rF_ok (z a5 a6 : D) (a2 a8 a9 a10 : Sl) (p q g : Q3) (S : List Cell) (hd : det p q ≠ 0) (hp : p.B 200) (hq : q.B 200) (hg : g.B 1000) :
    ∃ b9 b10, rF ⟨[.val z, .val (.cell 0), a2, .val p.t, .val q.t, .val a5, .val a6, .val g.t, a8, a9, a10], S⟩ = .ok .nx ⟨[.val z, .val (.cell 0), a2, .val p.t, .val q.t, .val a5, .val a6, .val g.t, a8, b9, b10], S⟩ := by
  have hd' : det q p ≠ 0 := by
    have := tw_swap p.x p.y q.x q.y
    unfold det at hd ⊢
    omega
  have e1 := powers_ok p q g S hd hp hq hg
  have e2 := powers_ok q p g S hd' hq hp hg
  have e3 := due_ok p q g S hd hp hq hg
  have e4 := due_ok q p g S hd' hq hp hg
  have e5 : ∀ r : Q3, g__law_place [r.t] S = .ok r.p S := fun r => place_ok r.x r.y r.a S
  simp [rF, e1, e2, e3, e4, e5, due_ne]
end W_k45
set_option maxRecDepth 100000
set_option maxHeartbeats 4000000
namespace W_k45
open DL
theorem rG_ok (z a5 a6 : D) (a2 a3 a4 a8 a9 a10 : Sl) (g : Q3) {n : Nat} {S : List Cell} (hS : Pen n S) (hn : n + 10 < 2 ^ 20) (hg : g.B 1000) :
    ∃ g' S', rG ⟨[.val z, .val (.cell 0), a2, a3, a4, .val a5, .val a6, .val g.t, a8, a9, a10], S⟩ = .ok .nx ⟨[.val z, .val (.cell 0), a2, a3, a4, .val a5, .val a6, .val (Q3.t g'), a8, a9, a10], S'⟩ ∧ g'.B 1000 ∧ Pen (n + 10) S' := by
  obtain ⟨d, S1, e1, d0, d1, P1⟩ := draw_ok hS (by omega) (p := 6) (by decide) (by decide)
  by_cases h : d = 0
  · obtain ⟨x, y, a, S2, e2, b1, b2, b3, P2⟩ := mid_drawn_ok P1 (by omega)
    refine ⟨⟨x, y, a⟩, S2, ?_, ⟨b1.le (by decide), b2.le (by decide), b3.le (by decide)⟩, P2.mono (by omega)⟩
    simp [rG, e1, e2, h, Q3.t]
  · refine ⟨g, S1, ?_, hg, P1.mono (by omega)⟩
    simp [rG, e1, h]
theorem rE_ok (z : D) (a2 a5 a6 a7 a8 a9 a10 : Sl) (p q : Q3) {n : Nat} {S : List Cell} (hS : Pen n S) (hn : n + 13 < 2 ^ 20) (hd : det p q ≠ 0) (hp : p.B 200) (hq : q.B 200) :
    ∃ s, rE ⟨[.val z, .val (.cell 0), a2, .val p.t, .val q.t, a5, a6, a7, a8, a9, a10], S⟩ = .ok .nx s ∧ St z (n + 13) s := by
  obtain ⟨d, S1, e1, d0, d1, P1⟩ := draw_ok hS (by omega) (p := 2000001) (by decide) (by decide)
  obtain ⟨k, S2, e2, bk, P2⟩ := small_ok P1 (by omega)
  have bm : Bd (d - 1000000) 22 := ⟨by omega⟩
  have t1 := times_ok p.x p.y p.a (d - 1000000) S2 (.of hp.bx hp.byy hp.ba bm (by decide))
  have t2 := times_ok q.x q.y q.a k S2 (.of hq.bx hq.byy hq.ba bk (by decide))
  have gb := goal_bd hp hq bm bk
  have b1 := hp.bx
  have b2 := hp.byy
  have b3 := hq.byy
  have t3 := join_ok ((d - 1000000) * p.x) ((d - 1000000) * p.y) ((d - 1000000) * p.a + hlf (d - 1000000) * p.x * p.y) (k * q.x) (k * q.y) (k * q.a + hlf k * q.x * q.y) S2 (mulOk_bd (by decide))
  generalize hm : d - 1000000 = m at *
  obtain ⟨w, S3, e3, hw, P3⟩ := pick_ok (xs := [tr 0 0 0, tr 0 0 0, tr 0 0 1, tr 1 0 0, tr p.x p.y 0]) P2 (by omega) (by simp) (by simp)
  have : ∃ x y a, w = tr x y a ∧ Bd x 990 ∧ Bd y 990 ∧ Bd a 990 := by
    simp only [List.mem_cons, List.not_mem_nil, or_false] at hw
    have z0 : Bd 0 990 := bd_0.le (by decide)
    have z1 : Bd 1 990 := bd_1.le (by decide)
    rcases hw with rfl | rfl | rfl | rfl | rfl
    · exact ⟨_, _, _, rfl, z0, z0, z0⟩
    · exact ⟨_, _, _, rfl, z0, z0, z0⟩
    · exact ⟨_, _, _, rfl, z0, z0, z1⟩
    · exact ⟨_, _, _, rfl, z1, z0, z0⟩
    · exact ⟨_, _, _, rfl, b1.le (by decide), b2.le (by decide), z0⟩
  obtain ⟨x, y, a, rfl, c1, c2, c3⟩ := this
  have gB : Q3.B ⟨(jn (pw p m) (pw q k)).x + x, (jn (pw p m) (pw q k)).y + y, (jn (pw p m) (pw q k)).a + a⟩ 1000 := ⟨(bd_add' gb.bx c1).le (by decide), (bd_add' gb.byy c2).le (by decide), (bd_add' gb.ba c3).le (by decide)⟩
  obtain ⟨g, S4, e4, bg, P4⟩ := rG_ok z (.int m) (.int k) a2 (.val p.t) (.val q.t) (.val (tr x y a)) a9 a10 _ P3 (by omega) gB
  obtain ⟨b9, b10, e5⟩ := rF_ok z (.int m) (.int k) a2 (.val (tr x y a)) a9 a10 p q g S4 hd hp hq bg
  refine ⟨⟨[.val z, .val (.cell 0), a2, .val p.t, .val q.t, .val (.int m), .val (.int k), .val g.t, .val (tr x y a), b9, b10], S4⟩, ?_, _, _, _, _, _, _, _, _, _, _, rfl, P4.mono (by omega)⟩
  dsimp only [Q3.t, jn, pw] at e4 e5 ⊢
  simp [rE, hm, e1, e2, t1, t2, t3, e3, e4, e5]
theorem rAB_ok (z : D) (a2 a3 a4 a5 a6 a7 a8 a9 a10 : Sl) {n : Nat} {S : List Cell} (hS : Pen n S) (hn : n + 18 < 2 ^ 20) :
    ∃ p q S', sSeq rA rB ⟨[.val z, .val (.cell 0), a2, a3, a4, a5, a6, a7, a8, a9, a10], S⟩ = .ok .nx ⟨[.val z, .val (.cell 0), a2, .val (Q3.t p), .val (Q3.t q), a5, a6, a7, a8, a9, a10], S'⟩ ∧ Pen (n + 18) S' ∧ det p q ≠ 0 ∧ p.B 200 ∧ q.B 200 := by
  obtain ⟨x, y, a, S1, e1, b1, b2, b3, P1⟩ := mid_drawn_ok hS (by omega)
  obtain ⟨u, v, b, S2, e2, b4, b5, b6, P2⟩ := mid_drawn_ok P1 (by omega)
  have t := ltwist_ok x y a u v b S2 (mulOk_bd (by decide)) (mulOk_bd (by decide))
  have mx : mulOk x x = true := mulOk_bd (by decide)
  by_cases h : tw x y u v = 0
  · refine ⟨⟨2 + x * x, y, a⟩, ⟨0, 3, b⟩, S2, ?_, P2, ?_, ?_, ?_⟩
    · simp [rA, rB, e1, e2, t, h, mx, Q3.t]
    · have : 0 ≤ x * x := by
        rcases Int.le_total 0 x with q | q
        · exact Int.mul_nonneg q q
        · exact Int.mul_nonneg_of_nonpos_of_nonpos q q
      show (2 + x * x) * 3 - 0 * y ≠ 0
      omega
    · exact ⟨(inferInstance : Bd (2 + x * x) (2 + (60 + 60) + 1)).le (by decide), b2.le (by decide), b3.le (by decide)⟩
    · exact ⟨bd_0.le (by decide), (inferInstance : Bd 3 2).le (by decide), b6.le (by decide)⟩
  · refine ⟨⟨x, y, a⟩, ⟨u, v, b⟩, S2, ?_, P2, h, ?_, ?_⟩
    · simp [rA, rB, e1, e2, t, h, Q3.t]
    · exact ⟨b1.le (by decide), b2.le (by decide), b3.le (by decide)⟩
    · exact ⟨b4.le (by decide), b5.le (by decide), b6.le (by decide)⟩
theorem round_ok {z i : D} {n : Nat} {s : DS} (h : St z n s) (hn : n + 31 < 2 ^ 20) : ∃ s', (noX (gN 2 i s)).bind (fun _ s1 => rb s1) = .ok .nx s' ∧ St z (n + 31) s' := by
  obtain ⟨a2, a3, a4, a5, a6, a7, a8, a9, a10, S, rfl, hS⟩ := h
  obtain ⟨p, q, S1, e1, P1, hd, hp, hq⟩ := rAB_ok z (.val i) a3 a4 a5 a6 a7 a8 a9 a10 hS (by omega)
  obtain ⟨s, e2, h2⟩ := rE_ok z (.val i) a5 a6 a7 a8 a9 a10 p q P1 (by omega) hd hp hq
  refine ⟨s, ?_, ?_⟩
  · show rb ⟨[.val z, .val (.cell 0), .val i, a3, a4, a5, a6, a7, a8, a9, a10], S⟩ = .ok .nx s
    have k : ∀ t, rb t = sSeq (sSeq rA rB) rE t := fun t => by
      simp only [rb, r_sSeq]
      cases rA t with
      | ok o s1 => cases o <;> rfl
      | _ => rfl
    rw [k, r_sSeq, e1]
    exact e2
  · obtain ⟨a2, a3, a4, a5, a6, a7, a8, a9, a10, S, rfl, hS⟩ := h2
    exact ⟨_, _, _, _, _, _, _, _, _, _, rfl, hS.mono (by omega)⟩
theorem loop_ok {z : D} : ∀ (is : List D) (n : Nat) (s : DS), St z n s → n + 31 * is.length < 2 ^ 20 → ∃ s', forL (gN 2) rb is s = .ok .nx s'
  | [], n, s, _, _ => ⟨s, rfl⟩
  | i :: r, n, s, h, hn => by
    rw [List.length_cons] at hn
    obtain ⟨s1, e1, h1⟩ := round_ok (i := i) h (by omega)
    obtain ⟨s2, e2⟩ := loop_ok r (n + 31) s1 h1 (by omega)
    refine ⟨s2, ?_⟩
    rw [r_for_cons]
    replace e1 : rb ⟨s.sl.set 2 (.val i), s.st⟩ = .ok .nx s1 := e1
    show loopOut (rb ⟨s.sl.set 2 (.val i), s.st⟩) (forL (gN 2) rb r) = _
    rw [e1]
    exact e2
theorem law_ok (ns : List Int) (hl : ns.length ≤ 63) : ∃ S, g_law [.scr (ns.map DL.D.int)] [] = .ok (.bl true) S := by
  obtain ⟨S, e, hP⟩ := begin_ok ns
  obtain ⟨s, e2⟩ := loop_ok (rngL 0 5) 0 ⟨[.val (.scr (ns.map D.int)), .val (.cell 0), .un, .un, .un, .un, .un, .un, .un, .un, .un], S⟩ ⟨_, _, _, _, _, _, _, _, _, _, rfl, hP⟩ (by decide)
  refine ⟨s.st, ?_⟩
  unfold g_law
  rw [b_law_eq]
  simp [fnD, e, -r_for_cons]
  rw [e2]
  rfl
end W_k45
open PySem PySem.W PyProof.Rows
set_option maxRecDepth 100000 in
set_option maxHeartbeats 0 in
theorem PySem.Challenge.cw_areawalks_k45_powers_in_unlike_direction_holds : PySem.Challenge.rw_areawalks_k45_powers_in_unlike_direction.Holds := by
  w_on; o_law; k_head; (case hw => w_witness2)
  k_fill
  refine L2.walk_of (l := PySem.Challenge.rw_areawalks_k45_powers_in_unlike_direction) (n := 63) (k := 11) (x := "_law_script") (CX := fun w => L2.CX PySem.Challenge.rw_areawalks_k45_powers_in_unlike_direction.prog w) (sp := fun w => DL.spLaw _) rfl (by decide) rfl ⟨rfl, by decide, by decide⟩ (fun w h Y => PySem.W.kIn_of Y) ?F (fun _ _ a ns hl _ hS => ⟨a, ns, rfl, hS, hl, fun _ => rfl⟩) (fun w => DL.noCX)
  case F =>
    intro w mg fa h KX G hmg
    refine' W_k45.all_mk KX G hmg ?aC_Place ?cB_Place ?a1__law_begin ?l1__law_begin ?c1__law_begin ?k1__law_begin ?a1__law_draw ?l1__law_draw ?c1__law_draw ?k1__law_draw ?a1__law_join ?l1__law_join ?c1__law_join ?k1__law_join ?a1__law_times ?l1__law_times ?c1__law_times ?k1__law_times ?a1__law_twist ?l1__law_twist ?c1__law_twist ?k1__law_twist ?a1__law_due ?l1__law_due ?c1__law_due ?k1__law_due ?a1__law_pick ?l1__law_pick ?c1__law_pick ?k1__law_pick ?a1__law_mid ?l1__law_mid ?c1__law_mid ?k1__law_mid ?a1__law_mid_drawn ?l1__law_mid_drawn ?c1__law_mid_drawn ?k1__law_mid_drawn ?a1_is_integer ?l1_is_integer ?c1_is_integer ?k1_is_integer ?a1_PlaceX_initX ?i1_PlaceX_initX ?l1_PlaceX_initX ?c1_PlaceX_initX ?k1_PlaceX_initX ?a1__law_place ?l1__law_place ?c1__law_place ?k1__law_place ?a1__law_small ?l1__law_small ?c1__law_small ?k1__law_small ?a1_need_place ?l1_need_place ?c1_need_place ?k1_need_place ?a1_Place_twist ?i1_Place_twist ?l1_Place_twist ?c1_Place_twist ?k1_Place_twist ?a1_pairs_below ?l1_pairs_below ?c1_pairs_below ?k1_pairs_below ?a1_Place_power ?i1_Place_power ?l1_Place_power ?c1_Place_power ?k1_Place_power ?a1_divisor_of ?l1_divisor_of ?c1_divisor_of ?k1_divisor_of ?a1_along ?l1_along ?c1_along ?k1_along ?a1_figures_along ?l1_figures_along ?c1_figures_along ?k1_figures_along ?a1_PlaceX_eqX ?i1_PlaceX_eqX ?l1_PlaceX_eqX ?c1_PlaceX_eqX ?k1_PlaceX_eqX ?a1_PlaceX_mulX ?i1_PlaceX_mulX ?l1_PlaceX_mulX ?c1_PlaceX_mulX ?k1_PlaceX_mulX ?a1_row_less ?l1_row_less ?c1_row_less ?k1_row_less ?a1_head_row ?l1_head_row ?c1_head_row ?k1_head_row ?a1_bezout_of ?l1_bezout_of ?c1_bezout_of ?k1_bezout_of ?a1_one_row ?l1_one_row ?c1_one_row ?k1_one_row ?a1_two_rows ?l1_two_rows ?c1_two_rows ?k1_two_rows ?a1_solved ?l1_solved ?c1_solved ?k1_solved ?a1_powers_crossing ?l1_powers_crossing ?c1_powers_crossing ?k1_powers_crossing ?a1_settled_pair ?l1_settled_pair ?c1_settled_pair ?k1_settled_pair ?a1_powers_to ?l1_powers_to ?c1_powers_to ?k1_powers_to ?a1_law ?l1_law ?c1_law ?k1_law ?z1_abs ?z1_bool ?z1_enumerate ?z1_int ?z1_isinstance ?z1_len ?z1_list ?z1_range ?z1_tuple ?z1_zip W_k45.law_ok
    (case aC_Place => k_is)
    (case cB_Place => kernel_rfl)
    (case a1__law_begin => k_is)
    (case l1__law_begin => k_is)
    (case c1__law_begin => k_is)
    (case k1__law_begin => k_is)
    (case a1__law_draw => k_is)
    (case l1__law_draw => k_is)
    (case c1__law_draw => k_is)
    (case k1__law_draw => k_is)
    (case a1__law_join => k_is)
    (case l1__law_join => k_is)
    (case c1__law_join => k_is)
    (case k1__law_join => k_is)
    (case a1__law_times => k_is)
    (case l1__law_times => k_is)
    (case c1__law_times => k_is)
    (case k1__law_times => k_is)
    (case a1__law_twist => k_is)
    (case l1__law_twist => k_is)
    (case c1__law_twist => k_is)
    (case k1__law_twist => k_is)
    (case a1__law_due => k_is)
    (case l1__law_due => k_is)
    (case c1__law_due => k_is)
    (case k1__law_due => k_is)
    (case a1__law_pick => k_is)
    (case l1__law_pick => k_is)
    (case c1__law_pick => k_is)
    (case k1__law_pick => k_is)
    (case a1__law_mid => k_is)
    (case l1__law_mid => k_is)
    (case c1__law_mid => k_is)
    (case k1__law_mid => k_is)
    (case a1__law_mid_drawn => k_is)
    (case l1__law_mid_drawn => k_is)
    (case c1__law_mid_drawn => k_is)
    (case k1__law_mid_drawn => k_is)
    (case a1_is_integer => k_is)
    (case l1_is_integer => k_is)
    (case c1_is_integer => k_is)
    (case k1_is_integer => k_is)
    (case a1_PlaceX_initX => k_is)
    (case i1_PlaceX_initX => k_is)
    (case l1_PlaceX_initX => k_is)
    (case c1_PlaceX_initX => k_is)
    (case k1_PlaceX_initX => k_is)
    (case a1__law_place => k_is)
    (case l1__law_place => k_is)
    (case c1__law_place => k_is)
    (case k1__law_place => k_is)
    (case a1__law_small => k_is)
    (case l1__law_small => k_is)
    (case c1__law_small => k_is)
    (case k1__law_small => k_is)
    (case a1_need_place => k_is)
    (case l1_need_place => k_is)
    (case c1_need_place => k_is)
    (case k1_need_place => k_is)
    (case a1_Place_twist => k_is)
    (case i1_Place_twist => k_is)
    (case l1_Place_twist => k_is)
    (case c1_Place_twist => k_is)
    (case k1_Place_twist => k_is)
    (case a1_pairs_below => k_is)
    (case l1_pairs_below => k_is)
    (case c1_pairs_below => k_is)
    (case k1_pairs_below => k_is)
    (case a1_Place_power => k_is)
    (case i1_Place_power => k_is)
    (case l1_Place_power => k_is)
    (case c1_Place_power => k_is)
    (case k1_Place_power => k_is)
    (case a1_divisor_of => k_is)
    (case l1_divisor_of => k_is)
    (case c1_divisor_of => k_is)
    (case k1_divisor_of => k_is)
    (case a1_along => k_is)
    (case l1_along => k_is)
    (case c1_along => k_is)
    (case k1_along => k_is)
    (case a1_figures_along => k_is)
    (case l1_figures_along => k_is)
    (case c1_figures_along => k_is)
    (case k1_figures_along => k_is)
    (case a1_PlaceX_eqX => k_is)
    (case i1_PlaceX_eqX => k_is)
    (case l1_PlaceX_eqX => k_is)
    (case c1_PlaceX_eqX => k_is)
    (case k1_PlaceX_eqX => k_is)
    (case a1_PlaceX_mulX => k_is)
    (case i1_PlaceX_mulX => k_is)
    (case l1_PlaceX_mulX => k_is)
    (case c1_PlaceX_mulX => k_is)
    (case k1_PlaceX_mulX => k_is)
    (case a1_row_less => k_is)
    (case l1_row_less => k_is)
    (case c1_row_less => k_is)
    (case k1_row_less => k_is)
    (case a1_head_row => k_is)
    (case l1_head_row => k_is)
    (case c1_head_row => k_is)
    (case k1_head_row => k_is)
    (case a1_bezout_of => k_is)
    (case l1_bezout_of => k_is)
    (case c1_bezout_of => k_is)
    (case k1_bezout_of => k_is)
    (case a1_one_row => k_is)
    (case l1_one_row => k_is)
    (case c1_one_row => k_is)
    (case k1_one_row => k_is)
    (case a1_two_rows => k_is)
    (case l1_two_rows => k_is)
    (case c1_two_rows => k_is)
    (case k1_two_rows => k_is)
    (case a1_solved => k_is)
    (case l1_solved => k_is)
    (case c1_solved => k_is)
    (case k1_solved => k_is)
    (case a1_powers_crossing => k_is)
    (case l1_powers_crossing => k_is)
    (case c1_powers_crossing => k_is)
    (case k1_powers_crossing => k_is)
    (case a1_settled_pair => k_is)
    (case l1_settled_pair => k_is)
    (case c1_settled_pair => k_is)
    (case k1_settled_pair => k_is)
    (case a1_powers_to => k_is)
    (case l1_powers_to => k_is)
    (case c1_powers_to => k_is)
    (case k1_powers_to => k_is)
    (case a1_law => k_is)
    (case l1_law => k_is)
    (case c1_law => k_is)
    (case k1_law => k_is)
    (case z1_abs => k_is)
    (case z1_bool => k_is)
    (case z1_enumerate => k_is)
    (case z1_int => k_is)
    (case z1_isinstance => k_is)
    (case z1_len => k_is)
    (case z1_list => k_is)
    (case z1_range => k_is)
    (case z1_tuple => k_is)
    (case z1_zip => k_is)
