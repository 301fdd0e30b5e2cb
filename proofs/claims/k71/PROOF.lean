import PyProof.Rows.All
import Wide.All
import OpenK.AllK
import Wide.FinOn
import HandS.ForMost
import HandS.ForExc
import HandS.CallSlots
import HandS.IsInst
import HandS.Wide
import HandS.Flow
import HandS.Property
import HandS.OwnEq
import KE.KOpsOwn
import HandS.Zip
import HandS.Style
import HandS.Exc
import HandS.ExcInit
import HandS.TryMany
import KE.KExcSuper
import HandS.ExcField
import HandS.Lambda
import HandS.EndTab
import HandS.WideBits
import HandS.Deep
import HandS.StrMore
import HandS.NoneIn
import PyProof.StrBlock2
import HandS.TupAny
import PySem.Challenge.RW_areawalks_k71_whole_fewest_steps_told_in
set_option Elab.async false
set_option linter.all false
set_option maxRecDepth 100000
set_option maxHeartbeats 4000000
set_option autoImplicit false
namespace DL
open PySem PySem.Spec PyProof.Rows L2

/-! ### data -/
/-- a name or a text by its code points -/
abbrev Nm := List Nat
def nm (l : Nm) : Str := ⟨l.toArray⟩
theorem nm_inj {a b : Nm} (h : nm a = nm b) : a = b := by
  have := congrArg (fun s : Str => s.cps.toList) h
  simpa [nm] using this
inductive DK where
  | i (n : Int)
  | s (l : List Nat)
  deriving DecidableEq
inductive D where
  | non | bl (b : Bool) | int (i : Int) | str (l : List Nat)
  | tup (xs : List D) | lst (xs : List D) | scr (xs : List D)
  | dic (kvs : List (DK × D))
  | ins (c : String) (fs : List (Nm × D))
  | cell (n : Nat) | cls (c : String) | ty (n : String) | fn (f : String) | lam (k : String)
instance : Inhabited D := ⟨.non⟩
/-- a thing of the store, by reference -/
inductive Cell where
  | dic (kvs : List (DK × D))
  | lst (xs : List D)
  | obj (c : String) (fs : List (Nm × D))
  | tab (k : String)
instance : Inhabited Cell := ⟨.lst []⟩
/-- a slot: no value known, a value, a list / dict / instance of this frame's own -/
inductive Sl where
  | un | val (d : D) | ol (xs : List D) | od (kvs : List (DK × D)) | oi (c : String) (fs : List (Nm × D))
instance : Inhabited Sl := ⟨.un⟩
def Sl.own : Sl → Bool
  | .un => false
  | .val _ => false
  | _ => true
structure Xc where
  cls : String
  fs : List (Nm × D)
structure DS where
  sl : List Sl
  st : List Cell
inductive Res (σ α : Type) where
  | ok (a : α) (t : σ) | exc (x : Xc) (t : σ) | stuck
def Res.bind {σ α β : Type} (r : Res σ α) (k : α → σ → Res σ β) : Res σ β := match r with
  | .ok a t => k a t
  | .exc x t => .exc x t
  | .stuck => .stuck
@[simp] theorem Res.bind_ok {σ α β : Type} (a : α) (t : σ) (k : α → σ → Res σ β) : (Res.ok a t).bind k = k a t := rfl
@[simp] theorem Res.bind_exc {σ α β : Type} (x : Xc) (t : σ) (k : α → σ → Res σ β) : (Res.exc x t).bind k = .exc x t := rfl
@[simp] theorem Res.bind_stuck {σ α β : Type} (k : α → σ → Res σ β) : (Res.stuck).bind k = .stuck := rfl
inductive Out where
  | nx | rt (d : D) | bk | ct
abbrev DE := DS → Res DS D
abbrev DA := DS → Res DS (List D)
abbrev DT := DS → Res DS Bool
abbrev DStm := DS → Res DS Out
abbrev DFn := List D → List Cell → Res (List Cell) D

/-! ### how data lie in the heap -/
structure Wd where
  F : Hp
  ρ : List Addr
structure Wd.le (w w' : Wd) : Prop where
  f : ∀ a o, w.F a = some o → w'.F a = some o
  r : w.ρ <+: w'.ρ
theorem Wd.le.refl (w : Wd) : w.le w := ⟨fun _ _ h => h, List.prefix_refl _⟩
theorem Wd.le.trans {a b c : Wd} (h : a.le b) (k : b.le c) : a.le c := ⟨fun x o e => k.f x o (h.f x o e), h.r.trans k.r⟩
structure Gam where
  K : PySem.W.Frag
  ct : String → Option Addr
  ft : String → Option Addr
  lam : String → Addr → Wd → Prop := fun _ _ _ => False
  lamM : ∀ (k : String) (f : Addr) (w w' : Wd), w.le w' → lam k f w → lam k f w' := by (intros; assumption)
  tab : String → Addr → Hp → HO → Prop := fun _ _ _ _ => False
  tabM : ∀ (k : String) (a : Addr) (F F' : Hp) (o : HO), (∀ a o, F a = some o → F' a = some o) → tab k a F o → tab k a F' o := by (intros; assumption)
def dkey : DK → Key
  | .i n => .inl n
  | .s l => .inr (nm l)
mutual
inductive Rep (G : Gam) (w : Wd) : V → D → Prop
  | non : Rep G w .non .non
  | bl (b : Bool) : Rep G w (.bl b) (.bl b)
  | int (i : Int) : Rep G w (.int i) (.int i)
  | str (l : List Nat) : Rep G w (.str (nm l)) (.str l)
  | tup {a : Addr} {vs : List V} {ds : List D} : SqT G.K w.F a vs → Reps G w vs ds → Rep G w (.ref a) (.tup ds)
  | lst {a : Addr} {vs : List V} {ds : List D} : w.F a = some (.lst vs) → Reps G w vs ds → Rep G w (.ref a) (.lst ds)
  | scr {a : Addr} {vs : List V} {ds : List D} : SqL G.K w.F a vs → Reps G w vs ds → Rep G w (.ref a) (.scr ds)
  | dic {a : Addr} {vs : List (Key × V)} {ds : List (DK × D)} : w.F a = some (.dK vs) → RepK G w vs ds → Rep G w (.ref a) (.dic ds)
  | ins {a C dx : Addr} {c : String} {vs : List (Str × V)} {ds : List (Nm × D)} : G.ct c = some C → w.F a = some (.ins C dx vs) → RepF G w vs ds → Rep G w (.ref a) (.ins c ds)
  | cell {a : Addr} {n : Nat} : w.ρ[n]? = some a → Rep G w (.ref a) (.cell n)
  | cls {C : Addr} {c : String} : G.ct c = some C → Rep G w (.ref C) (.cls c)
  | ty (n : String) : Rep G w (.ty n) (.ty n)
  | fn {a : Addr} {f : String} : G.ft f = some a → Rep G w (.ref a) (.fn f)
  | lam {f : Addr} {k : String} : G.lam k f w → Rep G w (.ref f) (.lam k)
inductive Reps (G : Gam) (w : Wd) : List V → List D → Prop
  | nil : Reps G w [] []
  | cons {v : V} {d : D} {vs : List V} {ds : List D} : Rep G w v d → Reps G w vs ds → Reps G w (v :: vs) (d :: ds)
inductive RepF (G : Gam) (w : Wd) : List (Str × V) → List (Nm × D) → Prop
  | nil : RepF G w [] []
  | cons {f : Nm} {v : V} {d : D} {vs : List (Str × V)} {ds : List (Nm × D)} : Rep G w v d → RepF G w vs ds → RepF G w ((nm f, v) :: vs) ((f, d) :: ds)
inductive RepK (G : Gam) (w : Wd) : List (Key × V) → List (DK × D) → Prop
  | nil : RepK G w [] []
  | cons {k : DK} {v : V} {d : D} {vs : List (Key × V)} {ds : List (DK × D)} : Rep G w v d → RepK G w vs ds → RepK G w ((dkey k, v) :: vs) ((k, d) :: ds)
end
theorem SqT.le {K : PySem.W.Frag} {F F' : Hp} {a : Addr} {xs : List V} (h : SqT K F a xs) (e : ∀ a o, F a = some o → F' a = some o) : SqT K F' a xs := by
  rcases h with (h | ⟨o, h⟩) | h
  · exact .inl (.inl (e _ _ h))
  · exact .inl (.inr ⟨o, e _ _ h⟩)
  · exact .inr h
theorem SqL.le {K : PySem.W.Frag} {F F' : Hp} {a : Addr} {xs : List V} (h : SqL K F a xs) (e : ∀ a o, F a = some o → F' a = some o) : SqL K F' a xs := by
  rcases h with (h | ⟨o, h⟩) | h
  · exact .inl (.inl (e _ _ h))
  · exact .inl (.inr ⟨o, e _ _ h⟩)
  · exact .inr h
theorem pre_get {α : Type} {l l' : List α} {n : Nat} {x : α} (h : l <+: l') (e : l[n]? = some x) : l'[n]? = some x := by
  obtain ⟨r, rfl⟩ := h
  rw [List.getElem?_append_left (by exact (List.getElem?_eq_some_iff.mp e).1)]
  exact e
mutual
theorem Rep.mono {G : Gam} {w w' : Wd} (h : w.le w') : ∀ {v : V} {d : D}, Rep G w v d → Rep G w' v d
  | _, _, .non => .non
  | _, _, .bl b => .bl b
  | _, _, .int i => .int i
  | _, _, .str l => .str l
  | _, _, .tup a b => .tup (SqT.le a h.f) (Reps.mono h b)
  | _, _, .lst a b => .lst (h.f _ _ a) (Reps.mono h b)
  | _, _, .scr a b => .scr (SqL.le a h.f) (Reps.mono h b)
  | _, _, .dic a b => .dic (h.f _ _ a) (RepK.mono h b)
  | _, _, .ins c a b => .ins c (h.f _ _ a) (RepF.mono h b)
  | _, _, .cell a => .cell (pre_get h.r a)
  | _, _, .cls a => .cls a
  | _, _, .ty n => .ty n
  | _, _, .fn a => .fn a
  | _, _, .lam a => .lam (G.lamM _ _ _ _ h a)
theorem Reps.mono {G : Gam} {w w' : Wd} (h : w.le w') : ∀ {v : List V} {d : List D}, Reps G w v d → Reps G w' v d
  | _, _, .nil => .nil
  | _, _, .cons a b => .cons (Rep.mono h a) (Reps.mono h b)
theorem RepF.mono {G : Gam} {w w' : Wd} (h : w.le w') : ∀ {v : List (Str × V)} {d : List (Nm × D)}, RepF G w v d → RepF G w' v d
  | _, _, .nil => .nil
  | _, _, .cons a b => .cons (Rep.mono h a) (RepF.mono h b)
theorem RepK.mono {G : Gam} {w w' : Wd} (h : w.le w') : ∀ {v : List (Key × V)} {d : List (DK × D)}, RepK G w v d → RepK G w' v d
  | _, _, .nil => .nil
  | _, _, .cons a b => .cons (Rep.mono h a) (RepK.mono h b)
end
theorem Reps.length {G : Gam} {w : Wd} : ∀ {v : List V} {d : List D}, Reps G w v d → v.length = d.length
  | _, _, .nil => rfl
  | _, _, .cons _ b => by rw [List.length_cons, List.length_cons, Reps.length b]
theorem Reps.get {G : Gam} {w : Wd} : ∀ {v : List V} {d : List D} {i : Nat} {x : D}, Reps G w v d → d[i]? = some x → ∃ y, v[i]? = some y ∧ Rep G w y x
  | _, _, _, _, .nil, e => by simp at e
  | _, _, 0, _, .cons a _, e => by simp at e; subst e; exact ⟨_, rfl, a⟩
  | _, _, i + 1, x, .cons _ b, e => by
    obtain ⟨y, h1, h2⟩ := Reps.get (i := i) (x := x) b (by simpa using e)
    exact ⟨y, by simpa using h1, h2⟩
theorem Reps.append {G : Gam} {w : Wd} : ∀ {v v' : List V} {d d' : List D}, Reps G w v d → Reps G w v' d' → Reps G w (v ++ v') (d ++ d')
  | _, _, _, _, .nil, h => h
  | _, _, _, _, .cons a b, h => .cons a (Reps.append b h)
theorem Reps.set {G : Gam} {w : Wd} {x : V} {y : D} (r : Rep G w x y) : ∀ {v : List V} {d : List D} (i : Nat), Reps G w v d → Reps G w (v.set i x) (d.set i y)
  | _, _, _, .nil => .nil
  | _, _, 0, .cons _ b => .cons r b
  | _, _, i + 1, .cons a b => .cons a (Reps.set r i b)
theorem Reps.drop {G : Gam} {w : Wd} : ∀ {v : List V} {d : List D} (n : Nat), Reps G w v d → Reps G w (v.drop n) (d.drop n)
  | _, _, 0, r => r
  | _, _, _ + 1, .nil => .nil
  | _, _, n + 1, .cons _ t => Reps.drop n t
theorem Reps.take {G : Gam} {w : Wd} : ∀ {v : List V} {d : List D} (n : Nat), Reps G w v d → Reps G w (v.take n) (d.take n)
  | _, _, 0, _ => .nil
  | _, _, _ + 1, .nil => .nil
  | _, _, n + 1, .cons r t => .cons r (Reps.take n t)
theorem Reps.ints {G : Gam} {w : Wd} : ∀ {v : List V} {ns : List Int}, Reps G w v (ns.map D.int) → v = ns.map V.int
  | _, [], h => by cases h; rfl
  | _, n :: ns, h => by
    cases h with
    | cons a b => cases a; rw [Reps.ints b]; rfl
theorem Reps.of_ints {G : Gam} {w : Wd} : ∀ ns : List Int, Reps G w (ns.map V.int) (ns.map D.int)
  | [] => .nil
  | n :: ns => .cons (.int n) (Reps.of_ints ns)
theorem RepF.look {G : Gam} {w : Wd} : ∀ {v : List (Str × V)} {d : List (Nm × D)} {f : Nm} {x : D}, RepF G w v d → d.lookup f = some x → ∃ y, v.lookup (nm f) = some y ∧ Rep G w y x
  | _, _, _, _, .nil, e => by simp at e
  | _, _, f, x, .cons (f := g) a b, e => by
    by_cases h : f = g
    · subst h
      rw [List.lookup_cons_self] at e
      cases e
      exact ⟨_, List.lookup_cons_self, a⟩
    · have h1 : (f == g) = false := beq_eq_false_iff_ne.mpr h
      have h2 : (nm f == nm g) = false := beq_eq_false_iff_ne.mpr fun q => h (nm_inj q)
      simp only [List.lookup_cons, h1] at e
      obtain ⟨y, q1, q2⟩ := RepF.look b e
      exact ⟨y, by simp only [List.lookup_cons, h2]; exact q1, q2⟩
theorem RepF.none {G : Gam} {w : Wd} : ∀ {v : List (Str × V)} {d : List (Nm × D)} {f : Nm}, RepF G w v d → d.lookup f = none → v.lookup (nm f) = none
  | _, _, _, .nil, e => rfl
  | _, _, f, .cons (f := g) a b, e => by
    by_cases h : f = g
    · subst h
      rw [List.lookup_cons_self] at e
      cases e
    · have h1 : (f == g) = false := beq_eq_false_iff_ne.mpr h
      have h2 : (nm f == nm g) = false := beq_eq_false_iff_ne.mpr fun q => h (nm_inj q)
      simp only [List.lookup_cons, h1] at e
      simp only [List.lookup_cons, h2]
      exact RepF.none b e
theorem RepF.length {G : Gam} {w : Wd} : ∀ {v : List (Str × V)} {d : List (Nm × D)}, RepF G w v d → v.length = d.length
  | _, _, .nil => rfl
  | _, _, .cons _ b => by rw [List.length_cons, List.length_cons, RepF.length b]
def putN (f : Nm) (x : D) : List (Nm × D) → List (Nm × D)
  | [] => [(f, x)]
  | (g, y) :: r => if g = f then (f, x) :: r else (g, y) :: putN f x r
/-! ### the store, the slots -/
def CellOk (G : Gam) (w : Wd) (H : Hp) (a : Addr) : Cell → Prop
  | .dic kvs => ∃ vs, H a = some (.dK vs) ∧ RepK G w vs kvs
  | .lst xs => ∃ vs, H a = some (.lst vs) ∧ Reps G w vs xs
  | .obj c fs => ∃ C dx vs, G.ct c = some C ∧ H a = some (.ins C dx vs) ∧ RepF G w vs fs
  | .tab k => ∃ o, H a = some o ∧ G.tab k a w.F o
structure FOk (G : Gam) (w : Wd) (S : List Cell) (H : Hp) : Prop where
  sub : ∀ a o, w.F a = some o → H a = some o
  len : w.ρ.length = S.length
  cel : ∀ (n : Nat) (a : Addr) (c : Cell), w.ρ[n]? = some a → S[n]? = some c → CellOk G w H a c
  nd : w.ρ.Nodup
  nf : ∀ a, a ∈ w.ρ → w.F a = none
theorem CellOk.there {G : Gam} {w : Wd} {H : Hp} {a : Addr} {c : Cell} (h : CellOk G w H a c) : ∃ o, H a = some o := by
  cases c with
  | dic kvs => obtain ⟨_, h, _⟩ := h; exact ⟨_, h⟩
  | lst xs => obtain ⟨_, h, _⟩ := h; exact ⟨_, h⟩
  | obj c fs => obtain ⟨_, _, _, _, h, _⟩ := h; exact ⟨_, h⟩
  | tab k => obtain ⟨_, h, _⟩ := h; exact ⟨_, h⟩
theorem CellOk.mono {G : Gam} {w w' : Wd} {H H' : Hp} {a : Addr} {c : Cell} (h : CellOk G w H a c) (le : w.le w') (e : H' a = H a) : CellOk G w' H' a c := by
  cases c with
  | dic kvs => obtain ⟨_, h, r⟩ := h; exact ⟨_, e.trans h, r.mono le⟩
  | lst xs => obtain ⟨_, h, r⟩ := h; exact ⟨_, e.trans h, r.mono le⟩
  | obj c fs => obtain ⟨_, _, _, q, h, r⟩ := h; exact ⟨_, _, _, q, e.trans h, r.mono le⟩
  | tab k => obtain ⟨_, h, r⟩ := h; exact ⟨_, e.trans h, G.tabM _ _ _ _ _ le.f r⟩
theorem FOk.rho {G : Gam} {w : Wd} {S : List Cell} {H : Hp} (h : FOk G w S H) {a : Addr} (ha : a ∈ w.ρ) : ∃ o, H a = some o := by
  obtain ⟨n, hn, e⟩ := List.getElem_of_mem ha
  have h1 : w.ρ[n]? = some a := by rw [List.getElem?_eq_getElem hn, e]
  have h2 : n < S.length := by rw [← h.len]; exact hn
  exact (h.cel n a _ h1 (List.getElem?_eq_getElem h2)).there
/-- from one state to a later one: what may have changed -/
structure Nx (w : Wd) (H : Hp) (w' : Wd) (H' : Hp) : Prop where
  le : w.le w'
  keep : ∀ a o, H a = some o → a ∉ w.ρ → H' a = some o
  newF : ∀ a, w'.F a ≠ none → w.F a ≠ none ∨ H a = none
  newR : ∀ a, a ∈ w'.ρ → a ∈ w.ρ ∨ H a = none
theorem Nx.refl (w : Wd) (H : Hp) : Nx w H w H := ⟨.refl w, fun _ _ h _ => h, fun _ h => .inl h, fun _ h => .inl h⟩
theorem Nx.trans {G : Gam} {w w1 w2 : Wd} {H H1 H2 : Hp} {S1 : List Cell} (a : Nx w H w1 H1) (f : FOk G w1 S1 H1) (b : Nx w1 H1 w2 H2) : Nx w H w2 H2 := by
  have back : ∀ x, H1 x = none → H x = none := fun x h => by
    cases e : H x with
    | none => rfl
    | some o =>
      by_cases hx : x ∈ w.ρ
      · obtain ⟨o', q⟩ := f.rho (a.le.r.subset hx)
        rw [q] at h; cases h
      · rw [a.keep x o e hx] at h; cases h
  refine ⟨a.le.trans b.le, fun x o e n => ?_, fun x h => ?_, fun x h => ?_⟩
  · refine b.keep x o (a.keep x o e n) fun q => ?_
    rcases a.newR x q with z | z
    · exact n z
    · rw [z] at e; cases e
  · rcases b.newF x h with z | z
    · exact a.newF x z
    · exact .inr (back x z)
  · rcases b.newR x h with z | z
    · exact a.newR x z
    · exact .inr (back x z)
def OwnOk (G : Gam) (w : Wd) (H : Hp) (a : Addr) : Sl → Prop
  | .ol xs => ∃ vs, H a = some (.lst vs) ∧ Reps G w vs xs
  | .od kvs => ∃ vs, H a = some (.dK vs) ∧ RepK G w vs kvs
  | .oi c fs => ∃ C dx vs, G.ct c = some C ∧ H a = some (.ins C dx vs) ∧ RepF G w vs fs
  | _ => False
/-- a frame's base: the world and the heap at its entry; objects that are set apart -/
structure Bs where
  B : Wd
  H : Hp
  γ : List (Addr × HO)
  me : Option Addr
/-- the state of a frame -/
structure Ok (G : Gam) (κ : Bs) (w : Wd) (s : DS) (σ : L2.St) (H : Hp) : Prop where
  fok : FOk G w s.st H
  nx : Nx κ.B κ.H w H
  len : s.sl.length = σ.length
  val : ∀ (i : Nat) (d : D), s.sl[i]? = some (.val d) → ∃ v, σ[i]? = some (some v) ∧ Rep G w v d
  own : ∀ (i : Nat) (x : Sl), s.sl[i]? = some x → x.own = true → ∃ a, σ[i]? = some (some (.ref a)) ∧ OwnOk G w H a x ∧ w.F a = none ∧ a ∉ w.ρ ∧ κ.H a = none
  ne : ∀ (i j : Nat) (x y : Sl) (a : Addr), s.sl[i]? = some x → s.sl[j]? = some y → x.own = true → y.own = true → σ[i]? = some (some (.ref a)) → σ[j]? = some (some (.ref a)) → i = j
  gam : ∀ p ∈ κ.γ, H p.1 = some p.2 ∧ w.F p.1 = none ∧ p.1 ∉ w.ρ ∧ κ.H p.1 = none ∧ ∀ (i : Nat) (x : Sl), s.sl[i]? = some x → x.own = true → σ[i]? ≠ some (some (.ref p.1))
  me : ∀ a, κ.me = some a → ∀ c fs, s.sl[0]? = some (.oi c fs) → σ[0]? = some (some (.ref a))
theorem OwnOk.there {G : Gam} {w : Wd} {H : Hp} {a : Addr} {c : Sl} (h : OwnOk G w H a c) : ∃ o, H a = some o := by
  cases c with
  | ol xs => obtain ⟨_, h, _⟩ := h; exact ⟨_, h⟩
  | od xs => obtain ⟨_, h, _⟩ := h; exact ⟨_, h⟩
  | oi c fs => obtain ⟨_, _, _, _, h, _⟩ := h; exact ⟨_, h⟩
  | un => exact h.elim
  | val _ => exact h.elim
theorem OwnOk.mono {G : Gam} {w w' : Wd} {H H' : Hp} {a : Addr} {c : Sl} (h : OwnOk G w H a c) (le : w.le w') (e : H' a = H a) : OwnOk G w' H' a c := by
  cases c with
  | ol xs => obtain ⟨_, h, r⟩ := h; exact ⟨_, e.trans h, r.mono le⟩
  | od xs => obtain ⟨_, h, r⟩ := h; exact ⟨_, e.trans h, r.mono le⟩
  | oi c fs => obtain ⟨_, _, _, q, h, r⟩ := h; exact ⟨_, _, _, q, e.trans h, r.mono le⟩
  | un => exact h.elim
  | val _ => exact h.elim
section
variable {G : Gam} {κ : Bs} {w w' : Wd} {s : DS} {σ : L2.St} {H H' : Hp} {S' : List Cell}
/-- a step that leaves the slots as they are -/
theorem Ok.step (h : Ok G κ w s σ H) (n : Nx w H w' H') (f : FOk G w' S' H') : Ok G κ w' ⟨s.sl, S'⟩ σ H' := by
  have nF : ∀ a o, H a = some o → w.F a = none → w'.F a = none := fun a ob he h3 => by
    cases q : w'.F a with
    | none => rfl
    | some o =>
      rcases n.newF a (by rw [q]; exact fun z => nomatch z) with z | z
      · exact absurd h3 z
      · rw [he] at z; cases z
  have nR : ∀ a o, H a = some o → a ∉ w.ρ → a ∉ w'.ρ := fun a ob he h4 q => by
    rcases n.newR a q with z | z
    · exact h4 z
    · rw [he] at z; cases z
  refine ⟨f, h.nx.trans h.fok n, h.len, fun i d e => ?_, fun i x e o => ?_, h.ne, fun p hp => ?_, h.me⟩
  · obtain ⟨v, h1, h2⟩ := h.val i d e
    exact ⟨v, h1, h2.mono n.le⟩
  · obtain ⟨a, h1, h2, h3, h4, h5⟩ := h.own i x e o
    obtain ⟨ob, he⟩ := h2.there
    exact ⟨a, h1, h2.mono n.le ((n.keep a ob he h4).trans he.symm), nF a ob he h3, nR a ob he h4, h5⟩
  · obtain ⟨h1, h2, h3, h4, h5⟩ := h.gam p hp
    exact ⟨n.keep _ _ h1 h3, nF _ _ h1 h2, nR _ _ h1 h3, h4, h5⟩
/-- a new frozen object -/
theorem FOk.alloc {S : List Cell} (h : FOk G w S H) {p : Addr} (hp : H p = none) (o : HO) : FOk G ⟨upd w.F p o, w.ρ⟩ S (upd H p o) ∧ Nx w H ⟨upd w.F p o, w.ρ⟩ (upd H p o) := by
  have le : w.le ⟨upd w.F p o, w.ρ⟩ := ⟨fun a u e => by
    show upd w.F p o a = some u
    rw [upd_ne (ne_of_none (h.sub a u e) hp)]
    exact e, List.prefix_refl _⟩
  have np : p ∉ w.ρ := fun q => by
    obtain ⟨o, e⟩ := h.rho q
    rw [hp] at e; cases e
  refine ⟨⟨fun a u e => ?_, h.len, fun n a c e1 e2 => ?_, h.nd, fun a ha => ?_⟩, ⟨le, fun a u e _ => ?_, fun a q => ?_, fun a q => .inl q⟩⟩
  · by_cases z : a = p
    · subst z
      have e : upd w.F a o a = some u := e
      rw [upd_same] at e ⊢
      exact e
    · have e : upd w.F p o a = some u := e
      rw [upd_ne z] at e ⊢
      exact h.sub a u e
  · refine (h.cel n a c e1 e2).mono le (upd_ne fun z => ?_)
    subst z
    exact np (List.mem_of_getElem? e1)
  · show upd w.F p o a = none
    rw [upd_ne (show a ≠ p from fun z => np (by rw [← z]; exact ha))]
    exact h.nf a ha
  · rw [upd_ne (ne_of_none e hp)]
    exact e
  · by_cases z : a = p
    · subst z; exact .inr hp
    · have q : upd w.F p o a ≠ none := q
      rw [upd_ne z] at q
      exact .inl q
theorem Ok.alloc (h : Ok G κ w s σ H) {p : Addr} (hp : H p = none) (o : HO) : w.le ⟨upd w.F p o, w.ρ⟩ ∧ Ok G κ ⟨upd w.F p o, w.ρ⟩ s σ (upd H p o) := by
  obtain ⟨f, n⟩ := h.fok.alloc hp o
  exact ⟨n.le, h.step n f⟩
end
end DL
set_option maxRecDepth 100000
set_option maxHeartbeats 4000000
set_option autoImplicit false
namespace DL
open PySem PySem.Spec PyProof.Rows L2
/-! ### what is wanted behind a piece of code -/
def RepX (G : Gam) (w : Wd) (c : Value) (dd : Option Addr) (x : Xc) : Prop :=
  ∃ C, G.ct x.cls = some C ∧ c = .ref C ∧ ((x.fs = [] ∧ dd = none) ∨ ∃ a vs, dd = some a ∧ w.F a = some (.xd vs) ∧ RepF G w vs x.fs)
section
variable (G : Gam) (W : WX)
def PostG {α β : Type} (rep : Wd → β → α → Prop) (κ : Bs) (w : Wd) (σ : L2.St) (r : Res DS α) (Q : β → Hp → Prop) : Prop := match r with
  | .ok d s' => ∀ w' v H', w.le w' → Ok G κ w' s' σ H' → rep w' v d → Q v H'
  | .exc x s' => ∀ w' c dd H', w.le w' → Ok G κ w' s' σ H' → RepX G w' c dd x → W c dd σ H'
  | .stuck => False
def tD (f : DE) : TE := fun σ H Q => ∃ κ w s, Ok G κ w s σ H ∧ PostG G W (Rep G) κ w σ (f s) Q
def tDT (f : DT) : TT := fun σ H Q => ∃ κ w s, Ok G κ w s σ H ∧ PostG G W (fun _ (v : Bool) d => v = d) κ w σ (f s) Q
def tDA (f : DA) : TA := fun σ H Q => ∃ κ w s, Ok G κ w s σ H ∧ PostG G W (Reps G) κ w σ (f s) Q
def PostS (κ : Bs) (w : Wd) (r : Res DS Out) (N : Ends) : Prop := match r with
  | .ok .nx s' => ∀ w' σ' H', w.le w' → Ok G κ w' s' σ' H' → N.nx σ' H'
  | .ok .bk s' => ∀ w' σ' H', w.le w' → Ok G κ w' s' σ' H' → N.bk σ' H'
  | .ok .ct s' => ∀ w' σ' H', w.le w' → Ok G κ w' s' σ' H' → N.ct σ' H'
  | .ok (.rt d) s' => ∀ w' σ' v H', w.le w' → Ok G κ w' s' σ' H' → Rep G w' v d → N.rt v H'
  | .exc x s' => ∀ w' σ' c dd H', w.le w' → Ok G κ w' s' σ' H' → RepX G w' c dd x → W c dd σ' H'
  | .stuck => False
def tDS (f : DStm) : TS := fun N σ H => ∃ κ w s, Ok G κ w s σ H ∧ PostS G W κ w (f s) N
end
section
variable {G : Gam} {W : WX} {α β γ δ : Type} {rep : Wd → β → α → Prop} {rep' : Wd → δ → γ → Prop} {κ : Bs} {w w1 : Wd} {σ : L2.St}
theorem PostG.mono {r : Res DS α} {Q : β → Hp → Prop} (le : w.le w1) (h : PostG G W rep κ w σ r Q) : PostG G W rep κ w1 σ r Q := by
  cases r with
  | ok d s' => exact fun w' v H' l o r => h w' v H' (le.trans l) o r
  | exc x s' => exact fun w' c dd H' l o r => h w' c dd H' (le.trans l) o r
  | stuck => exact h
theorem PostG.imp {r : Res DS α} {Q Q' : β → Hp → Prop} (h : PostG G W rep κ w σ r Q) (k : ∀ v H, Q v H → Q' v H) : PostG G W rep κ w σ r Q' := by
  cases r with
  | ok d s' => exact fun w' v H' l o r => k _ _ (h w' v H' l o r)
  | exc x s' => exact h
  | stuck => exact h
/-- behind the first of two -/
theorem PostG.bind {r : Res DS α} {k : α → DS → Res DS γ} {Q : δ → Hp → Prop} (h : PostG G W rep' κ w σ (r.bind k) Q) :
    PostG G W rep κ w σ r (fun v H1 => ∃ d s1 w1, w.le w1 ∧ Ok G κ w1 s1 σ H1 ∧ rep w1 v d ∧ PostG G W rep' κ w1 σ (k d s1) Q) := by
  cases r with
  | ok d s' => exact fun w' v H' l o r => ⟨d, s', w', l, o, r, PostG.mono l h⟩
  | exc x s' => exact h
  | stuck => exact h
theorem PostS.mono {r : Res DS Out} {N : Ends} (le : w.le w1) (h : PostS G W κ w r N) : PostS G W κ w1 r N := by
  cases r with
  | ok o s' =>
    cases o with
    | nx => exact fun w' σ' H' l o => h w' σ' H' (le.trans l) o
    | bk => exact fun w' σ' H' l o => h w' σ' H' (le.trans l) o
    | ct => exact fun w' σ' H' l o => h w' σ' H' (le.trans l) o
    | rt d => exact fun w' σ' v H' l o r => h w' σ' v H' (le.trans l) o r
  | exc x s' => exact fun w' σ' c dd H' l o r => h w' σ' c dd H' (le.trans l) o r
  | stuck => exact h
/-- an expression, then a statement's end -/
theorem PostG.bindS {r : Res DS α} {k : α → DS → Res DS Out} {N : Ends} (h : PostS G W κ w (r.bind k) N) :
    PostG G W rep κ w σ r (fun v H1 => ∃ d s1 w1, w.le w1 ∧ Ok G κ w1 s1 σ H1 ∧ rep w1 v d ∧ PostS G W κ w1 (k d s1) N) := by
  cases r with
  | ok d s' => exact fun w' v H' l o r => ⟨d, s', w', l, o, r, PostS.mono l h⟩
  | exc x s' => exact fun w' c dd H' l o r => h w' σ c dd H' l o r
  | stuck => exact h
end
theorem _root_.L2.PE.imp {X : Cx} {e : Expr} {t t' : TE} (h : PE X e t) (k : ∀ σ H Q, t' σ H Q → t σ H Q) : PE X e t' := ⟨fun pins s σ H Q I q => h.run pins s σ H Q I (k σ H Q q)⟩
theorem _root_.L2.PT.imp {X : Cx} {e : Expr} {t t' : TT} (h : PT X e t) (k : ∀ σ H Q, t' σ H Q → t σ H Q) : PT X e t' := ⟨fun pins s σ H Q I q => h.run pins s σ H Q I (k σ H Q q)⟩
theorem _root_.L2.PA.imp {X : Cx} {e : List Expr} {t t' : TA} (h : PA X e t) (k : ∀ σ H Q, t' σ H Q → t σ H Q) : PA X e t' := ⟨fun pos pins s σ H Q I q => h.run pos pins s σ H Q I (k σ H Q q)⟩
theorem _root_.L2.PS.imp {X : Cx} {e : Stmt} {t t' : TS} (h : PS X e t) (k : ∀ D σ H, t' D σ H → t D σ H) : PS X e t' := ⟨fun pins s σ H D I q => h.run pins s σ H D I (k D σ H q)⟩
theorem _root_.L2.PSs.imp {X : Cx} {e : List Stmt} {t t' : TS} (h : PSs X e t) (k : ∀ D σ H, t' D σ H → t D σ H) : PSs X e t' := ⟨fun pins s σ H D I q => h.run pins s σ H D I (k D σ H q)⟩
abbrev PD (G : Gam) (W : WX) (X : Cx) (e : Expr) (f : DE) : Prop := PE X e (tD G W f)
abbrev PDT (G : Gam) (W : WX) (X : Cx) (e : Expr) (f : DT) : Prop := PT X e (tDT G W f)
abbrev PDA (G : Gam) (W : WX) (X : Cx) (es : List Expr) (f : DA) : Prop := PA X es (tDA G W f)
abbrev PDS (G : Gam) (W : WX) (X : Cx) (st : Stmt) (f : DStm) : Prop := PS X st (tDS G W f)
abbrev PDSs (G : Gam) (W : WX) (X : Cx) (st : List Stmt) (f : DStm) : Prop := PSs X st (tDS G W f)
section
variable {G : Gam} {W : WX} {X : Cx}
/-! ### constants, names -/
def eC (d : D) : DE := fun s => .ok d s
theorem pd_c {e : Expr} {v : V} {d : D} (h : PE X e (tC v)) (r : ∀ w, Rep G w v d) : PD G W X e (eC d) :=
  h.imp fun σ H Q ⟨κ, w, s, ok, q⟩ => q w v H (.refl w) ok (r w)
theorem pd_int {i : Int} {j : Nat} {pos : Pos} : PD G W X (.Constant (.int i) j pos) (eC (.int i)) := pd_c pe_int fun _ => .int i
theorem pd_bl {b : Bool} {j : Nat} {pos : Pos} : PD G W X (.Constant (.bool b) j pos) (eC (.bl b)) := pd_c pe_bl fun _ => .bl b
theorem pd_non {j : Nat} {pos : Pos} : PD G W X (.Constant .none j pos) (eC .non) := pd_c pe_non fun _ => .non
theorem pd_str {x : Str} {l : Nm} {j : Nat} {pos : Pos} (h : x = nm l) : PD G W X (.Constant (.str x) j pos) (eC (.str l)) := pd_c pe_str fun _ => by rw [h]; exact .str l
theorem pd_glob {x : Str} {v : V} {u : Value} {d : D} {pos : Pos} (hg : Gl X x) (hm : X.mg x = some u) (r : RelV v u) (rd : ∀ w, Rep G w v d) (hd : (x == ("__debug__" : Str)) = false := by decide) : PD G W X (.Name x pos) (eC d) :=
  pd_c (pe_glob hg hm r hd) rd
def eVar (i : Nat) : DE := fun s => match s.sl[i]? with
  | some (.val d) => .ok d s
  | some (.ol xs) => .ok (.lst xs) ⟨s.sl.set i (.val (.lst xs)), s.st⟩
  | some (.od kvs) => .ok (.dic kvs) ⟨s.sl.set i (.val (.dic kvs)), s.st⟩
  | some (.oi c fs) => .ok (.ins c fs) ⟨s.sl.set i (.val (.ins c fs)), s.st⟩
  | _ => .stuck
theorem Ok.freeze {κ : Bs} {w : Wd} {s : DS} {σ : L2.St} {H : Hp} (h : Ok G κ w s σ H) {i : Nat} {x : Sl} {a : Addr} {o : HO} {d : D} (hx : s.sl[i]? = some x) (own : x.own = true) (ha : σ[i]? = some (some (.ref a)))
    (ho : H a = some o) (hd : ∀ w' : Wd, w.le w' → w'.F a = some o → Rep G w' (.ref a) d) :
    w.le ⟨upd w.F a o, w.ρ⟩ ∧ Ok G κ ⟨upd w.F a o, w.ρ⟩ ⟨s.sl.set i (.val d), s.st⟩ σ H := by
  obtain ⟨a', h1, h2, h3, h4, h5⟩ := h.own i x hx own
  rw [ha] at h1
  cases h1
  have le : w.le ⟨upd w.F a o, w.ρ⟩ := ⟨fun b u e => by
    show upd w.F a o b = some u
    rw [upd_ne (ne_of_none e h3)]
    exact e, List.prefix_refl _⟩
  have hil : i < s.sl.length := (List.getElem?_eq_some_iff.mp hx).1
  have sub : ∀ (b : Addr) (u : HO), upd w.F a o b = some u → H b = some u := fun b u e => by
    by_cases z : b = a
    · subst z
      rw [upd_same] at e
      cases e
      exact ho
    · rw [upd_ne z] at e
      exact h.fok.sub b u e
  have fok : FOk G ⟨upd w.F a o, w.ρ⟩ s.st H := ⟨sub, h.fok.len, fun n b c e1 e2 => (h.fok.cel n b c e1 e2).mono le rfl, h.fok.nd, fun b hb => by
    show upd w.F a o b = none
    rw [upd_ne (show b ≠ a from fun z => h4 (by rw [← z]; exact hb))]
    exact h.fok.nf b hb⟩
  refine ⟨le, ⟨fok, ⟨h.nx.le.trans le, h.nx.keep, fun b q => ?_, h.nx.newR⟩, by rw [List.length_set]; exact h.len, fun j e hj => ?_, fun j y hj oy => ?_, fun j k y z b hj hk oy oz e1 e2 => ?_, fun p hp => ?_, fun b hb c fs e => ?_⟩⟩
  · by_cases z : b = a
    · subst z; exact .inr h5
    · have q : upd w.F a o b ≠ none := q
      rw [upd_ne z] at q
      exact h.nx.newF b q
  · by_cases z : j = i
    · subst z
      rw [List.getElem?_set_self hil] at hj
      cases hj
      exact ⟨_, ha, hd _ le upd_same⟩
    · rw [List.getElem?_set_ne (Ne.symm z)] at hj
      obtain ⟨v, q1, q2⟩ := h.val j e hj
      exact ⟨v, q1, q2.mono le⟩
  · by_cases z : j = i
    · subst z
      rw [List.getElem?_set_self hil] at hj
      cases hj
      cases oy
    · rw [List.getElem?_set_ne (Ne.symm z)] at hj
      obtain ⟨b, q1, q2, q3, q4, q5⟩ := h.own j y hj oy
      refine ⟨b, q1, q2.mono le rfl, ?_, q4, q5⟩
      show upd w.F a o b = none
      rw [upd_ne (show b ≠ a from fun e => z (h.ne j i y x b hj hx oy own q1 (by rw [e]; exact ha)))]
      exact q3
  · have nj : j ≠ i := fun z => by
      subst z
      rw [List.getElem?_set_self hil] at hj
      cases hj
      cases oy
    have nk : k ≠ i := fun z => by
      subst z
      rw [List.getElem?_set_self hil] at hk
      cases hk
      cases oz
    rw [List.getElem?_set_ne (Ne.symm nj)] at hj
    rw [List.getElem?_set_ne (Ne.symm nk)] at hk
    exact h.ne j k y z b hj hk oy oz e1 e2
  · obtain ⟨q1, q2, q3, q4, q5⟩ := h.gam p hp
    refine ⟨q1, ?_, q3, q4, fun j y hj oy => ?_⟩
    · show upd w.F a o p.1 = none
      rw [upd_ne (show p.1 ≠ a from fun e => q5 i x hx own (by rw [ha, e]))]
      exact q2
    · have nj : j ≠ i := fun z => by
        subst z
        rw [List.getElem?_set_self hil] at hj
        cases hj
        cases oy
      rw [List.getElem?_set_ne (Ne.symm nj)] at hj
      exact q5 j y hj oy
  · by_cases z : i = 0
    · subst z
      rw [List.getElem?_set_self hil] at e
      cases e
    · rw [List.getElem?_set_ne z] at e
      exact h.me b hb c fs e
theorem pd_var {i : Nat} {x : Str} {pos : Pos} (h : PE X (.Name x pos) (tVar i)) : PD G W X (.Name x pos) (eVar i) := h.imp fun σ H Q ⟨κ, w, s, ok, q⟩ => by
  unfold eVar at q
  cases e : s.sl[i]? with
  | none => rw [e] at q; exact q.elim
  | some x =>
    rw [e] at q
    cases x with
    | un => exact q.elim
    | val d =>
      obtain ⟨v, h1, h2⟩ := ok.val i d e
      exact ⟨v, h1, q w v H (.refl w) ok h2⟩
    | ol xs =>
      obtain ⟨a, h1, ⟨vs, h2, h3⟩, _⟩ := ok.own i _ e rfl
      obtain ⟨le, ok'⟩ := ok.freeze (d := .lst xs) e rfl h1 h2 fun w' l f => .lst f (h3.mono l)
      exact ⟨_, h1, q _ _ H le ok' (.lst upd_same (h3.mono le))⟩
    | od xs =>
      obtain ⟨a, h1, ⟨vs, h2, h3⟩, _⟩ := ok.own i _ e rfl
      obtain ⟨le, ok'⟩ := ok.freeze (d := .dic xs) e rfl h1 h2 fun w' l f => .dic f (h3.mono l)
      exact ⟨_, h1, q _ _ H le ok' (.dic upd_same (h3.mono le))⟩
    | oi c fs =>
      obtain ⟨a, h1, ⟨C, dx, vs, hC, h2, h3⟩, _⟩ := ok.own i _ e rfl
      obtain ⟨le, ok'⟩ := ok.freeze (d := .ins c fs) e rfl h1 h2 fun w' l f => .ins hC f (h3.mono l)
      exact ⟨_, h1, q _ _ H le ok' (.ins hC upd_same (h3.mono le))⟩
/-! ### operators -/
def eOp2 (o : D → D → Option D) (fa fb : DE) : DE := fun s => (fa s).bind fun x s1 => (fb s1).bind fun y s2 => match o x y with
  | some d => .ok d s2
  | none => .stuck
/-- an operator by data -/
def OpD (G : Gam) (X : Cx) (f : Value → Value → Sem Value) (o : D → D → Option D) : Prop := ∃ r, OpR X f r ∧ ∀ (κ : Bs) (w : Wd) (s : DS) (σ : L2.St) (H : Hp) (x y : V) (dx dy d : D) (Q : VK),
  Ok G κ w s σ H → Rep G w x dx → Rep G w y dy → o dx dy = some d → (∀ w' v H', w.le w' → Ok G κ w' s σ H' → Rep G w' v d → Q v H') → r x y H Q
theorem op2 {r : R2} {o : D → D → Option D} {fa fb : DE} {σ : L2.St} {H : Hp} {Q : VK}
    (hr : ∀ (κ : Bs) (w : Wd) (s : DS) (σ : L2.St) (H : Hp) (x y : V) (dx dy d : D) (Q : VK), Ok G κ w s σ H → Rep G w x dx → Rep G w y dy → o dx dy = some d → (∀ w' v H', w.le w' → Ok G κ w' s σ H' → Rep G w' v d → Q v H') → r x y H Q)
    (h : tD G W (eOp2 o fa fb) σ H Q) : tOp r (tD G W fa) (tD G W fb) σ H Q := by
  obtain ⟨κ, w, s, ok, q⟩ := h
  refine ⟨κ, w, s, ok, (PostG.bind q).imp fun v H1 ⟨d, s1, w1, le, ok1, r1, q1⟩ => ?_⟩
  refine ⟨κ, w1, s1, ok1, (PostG.bind q1).imp fun v2 H2 ⟨d2, s2, w2, le2, ok2, r2, q2⟩ => ?_⟩
  cases e : o d d2 with
  | none => rw [e] at q2; exact q2.elim
  | some z => rw [e] at q2; exact hr κ w2 s2 σ H2 v v2 d d2 z Q ok2 (r1.mono le2) r2 e q2
theorem pd_op {op : Operator} {o : D → D → Option D} {a b : Expr} {fa fb : DE} {pos : Pos} (ho : OpD G X (binaryOp op) o) (ha : PD G W X a fa) (hb : PD G W X b fb) : PD G W X (.BinOp a op b pos) (eOp2 o fa fb) := by
  obtain ⟨r, h1, h2⟩ := ho
  exact (pe_op h1 ha hb).imp fun σ H Q h => op2 h2 h
theorem pd_cmp {op : CmpOp} {o : D → D → Option D} {a b : Expr} {fa fb : DE} {pos : Pos} (ho : OpD G X (compareOp op) o) (ha : PD G W X a fa) (hb : PD G W X b fb) (hm : behindInMarks op b = false) : PD G W X (.Compare a [op] [b] pos) (eOp2 o fa fb) := by
  obtain ⟨r, h1, h2⟩ := ho
  exact (pe_cmpR h1 ha hb hm).imp fun σ H Q h => op2 h2 h
/-- a value that is a bool, as a test -/
def eB (f : DE) : DT := fun s => (f s).bind fun d s1 => match d with
  | .bl b => .ok b s1
  | _ => .stuck
theorem tB_of {f : DE} {σ : L2.St} {H : Hp} {Q : Bool → Hp → Prop} (h : tDT G W (eB f) σ H Q) : tD G W f σ H fun x H1 => ∃ c, x = .bl c ∧ Q c H1 := by
  obtain ⟨κ, w, s, ok, q⟩ := h
  refine ⟨κ, w, s, ok, (PostG.bind q).imp fun v H1 ⟨d, s1, w1, le, ok1, r1, q1⟩ => ?_⟩
  cases r1 with
  | bl b => exact ⟨b, rfl, q1 w1 b H1 (.refl _) ok1 rfl⟩
  | _ => exact q1.elim
theorem ptd_cmp {op : CmpOp} {o : D → D → Option D} {a b : Expr} {fa fb : DE} {pos : Pos} (ho : OpD G X (compareOp op) o) (ha : PD G W X a fa) (hb : PD G W X b fb) (hm : behindInMarks op b = false) : PDT G W X (.Compare a [op] [b] pos) (eB (eOp2 o fa fb)) := by
  obtain ⟨r, h1, h2⟩ := ho
  exact (pt_cmpR h1 ha hb hm).imp fun σ H Q h => op2 h2 (tB_of h)
/-! ### and, or, not, if -/
def bAnd (f g : DT) : DT := fun s => (f s).bind fun b s1 => if b = true then g s1 else .ok false s1
def bOr (f g : DT) : DT := fun s => (f s).bind fun b s1 => if b = true then .ok true s1 else g s1
def bNot (f : DT) : DT := fun s => (f s).bind fun b s1 => .ok (!b) s1
abbrev PDW (G : Gam) (W : WX) (X : Cx) (e : Expr) (f : DT) : Prop := PW X e (tDT G W f)
theorem _root_.L2.PW.imp {X : Cx} {e : Expr} {t t' : TT} (h : PW X e t) (k : ∀ σ H Q, t' σ H Q → t σ H Q) : PW X e t' := ⟨fun wh pins s σ H Q I q => h.run wh pins s σ H Q I (k σ H Q q)⟩
theorem pwd_and1 {a : Expr} {f : DT} {pos : Pos} (h : PDT G W X a f) : PDW G W X (.BoolOp .And [a] pos) f := pw_and1 h
theorem pwd_or1 {a : Expr} {f : DT} {pos : Pos} (h : PDT G W X a f) : PDW G W X (.BoolOp .Or [a] pos) f := pw_or1 h
theorem pwd_and {a b : Expr} {r : List Expr} {f g : DT} {pos : Pos} (h : PDT G W X a f) (k : PDW G W X (.BoolOp .And (b :: r) pos) g) : PDW G W X (.BoolOp .And (a :: b :: r) pos) (bAnd f g) :=
  (pw_and h k).imp fun σ H Q ⟨κ, w, s, ok, q⟩ => ⟨κ, w, s, ok, (PostG.bind q).imp fun v H1 ⟨d, s1, w1, le, ok1, r1, q1⟩ => by
    subst r1
    cases v with
    | true => exact ⟨κ, w1, s1, ok1, q1⟩
    | false => exact q1 w1 false H1 (.refl _) ok1 rfl⟩
theorem pwd_or {a b : Expr} {r : List Expr} {f g : DT} {pos : Pos} (h : PDT G W X a f) (k : PDW G W X (.BoolOp .Or (b :: r) pos) g) : PDW G W X (.BoolOp .Or (a :: b :: r) pos) (bOr f g) :=
  (pw_or h k).imp fun σ H Q ⟨κ, w, s, ok, q⟩ => ⟨κ, w, s, ok, (PostG.bind q).imp fun v H1 ⟨d, s1, w1, le, ok1, r1, q1⟩ => by
    subst r1
    cases v with
    | false => exact ⟨κ, w1, s1, ok1, q1⟩
    | true => exact q1 w1 true H1 (.refl _) ok1 rfl⟩
theorem ptd_not {a : Expr} {f : DT} {pos : Pos} (h : PDT G W X a f) : PDT G W X (.UnaryOp .Not a pos) (bNot f) :=
  (pt_not h).imp fun σ H Q ⟨κ, w, s, ok, q⟩ => ⟨κ, w, s, ok, (PostG.bind q).imp fun v H1 ⟨d, s1, w1, le, ok1, r1, q1⟩ => by
    subst r1
    exact q1 w1 _ H1 (.refl _) ok1 rfl⟩
/-- as values -/
def eAnd (f g : DE) : DE := fun s => (f s).bind fun d s1 => match d with
  | .bl b => if b = true then g s1 else .ok (.bl false) s1
  | _ => .stuck
def eOr (f g : DE) : DE := fun s => (f s).bind fun d s1 => match d with
  | .bl b => if b = true then .ok (.bl true) s1 else g s1
  | _ => .stuck
def eNot (f : DE) : DE := fun s => (f s).bind fun d s1 => match d with
  | .bl b => .ok (.bl (!b)) s1
  | _ => .stuck
theorem pd_one {op : PySem.BoolOp} {a : Expr} {f : DE} {pos : Pos} (h : PD G W X a f) : PD G W X (.BoolOp op [a] pos) f := pe_one h
def eIf (c : DT) (f g : DE) : DE := fun s => (c s).bind fun b s1 => if b = true then f s1 else g s1
theorem pd_ifExp {c a b : Expr} {fc : DT} {f g : DE} {pos : Pos} (hc : PDT G W X c fc) (h : PD G W X a f) (k : PD G W X b g) : PD G W X (.IfExp c a b pos) (eIf fc f g) :=
  (pe_ifExp hc h k).imp fun σ H Q ⟨κ, w, s, ok, q⟩ => ⟨κ, w, s, ok, (PostG.bind q).imp fun v H1 ⟨d, s1, w1, le, ok1, r1, q1⟩ => by
    subst r1
    cases v with
    | true => exact ⟨κ, w1, s1, ok1, q1⟩
    | false => exact ⟨κ, w1, s1, ok1, q1⟩⟩
/-! ### argument lists -/
def aNil : DA := fun s => .ok [] s
def aCons (f : DE) (g : DA) : DA := fun s => (f s).bind fun d s1 => (g s1).bind fun ds s2 => .ok (d :: ds) s2
theorem pda_nil : PDA G W X [] aNil := pa_nil.imp fun σ H Q ⟨κ, w, s, ok, q⟩ => q w [] H (.refl _) ok .nil
theorem pda_cons {e : Expr} {es : List Expr} {f : DE} {g : DA} (h : PD G W X e f) (k : PDA G W X es g) (hs : starEach (e :: es) X.env = (false, eval e X.env) :: starEach es X.env := by rfl) : PDA G W X (e :: es) (aCons f g) :=
  (pa_cons h k hs).imp fun σ H Q ⟨κ, w, s, ok, q⟩ => ⟨κ, w, s, ok, (PostG.bind q).imp fun v H1 ⟨d, s1, w1, le, ok1, r1, q1⟩ =>
    ⟨κ, w1, s1, ok1, (PostG.bind q1).imp fun v2 H2 ⟨d2, s2, w2, le2, ok2, r2, q2⟩ => q2 w2 _ H2 (.refl _) ok2 (.cons (r1.mono le2) r2)⟩⟩
/-! ### tuples, lists -/
def eTup (g : DA) : DE := fun s => (g s).bind fun ds s1 => if ds.length ≤ 1000 then .ok (.tup ds) s1 else .stuck
theorem sz1000 {n : Nat} (h : n ≤ 1000) : n ≤ sizeLine := Nat.le_of_lt (small1000 h)
theorem pd_tup {es : List Expr} {k : Nat} {g : DA} {pos : Pos} (h : PDA G W X es g) : PD G W X (.Tuple es k pos) (eTup g) :=
  (pe_tup h).imp fun σ H Q ⟨κ, w, s, ok, q⟩ => ⟨κ, w, s, ok, (PostG.bind q).imp fun v H1 ⟨d, s1, w1, le, ok1, r1, q1⟩ => by
    by_cases c : d.length ≤ 1000
    · rw [if_pos c] at q1
      refine ⟨by rw [r1.length]; exact sz1000 c, fun p hp => ?_⟩
      obtain ⟨le2, ok2⟩ := ok1.alloc hp (.tup v)
      exact q1 _ _ _ le2 ok2 (.tup (.inl (.inl upd_same)) (r1.mono le2))
    · rw [if_neg c] at q1
      exact q1.elim⟩
end
end DL
set_option maxRecDepth 100000
set_option maxHeartbeats 4000000
set_option autoImplicit false
namespace DL
open PySem PySem.Spec PyProof.Rows L2
section
variable {G : Gam} {W : WX} {X : Cx} {κ : Bs} {w : Wd} {s : DS} {σ : L2.St} {H : Hp}
/-- an object set apart -/
abbrev Bs.plus (κ : Bs) (a : Addr) (o : HO) : Bs := ⟨κ.B, κ.H, (a, o) :: κ.γ, κ.me⟩
theorem Ok.back (h : Ok G κ w s σ H) {p : Addr} (hp : H p = none) : κ.H p = none := by
  cases e : κ.H p with
  | none => rfl
  | some o =>
    by_cases hx : p ∈ κ.B.ρ
    · obtain ⟨o', q⟩ := h.fok.rho (h.nx.le.r.subset hx)
      rw [q] at hp; cases hp
    · rw [h.nx.keep p o e hx] at hp; cases hp
/-- a new object, set apart -/
theorem Ok.fresh (h : Ok G κ w s σ H) {p : Addr} (hp : H p = none) (o : HO) : Ok G (κ.plus p o) w s σ (upd H p o) := by
  have ne : ∀ {a : Addr} {u : HO}, H a = some u → a ≠ p := fun e => ne_of_none e hp
  have nF : w.F p = none := by
    cases e : w.F p with
    | none => rfl
    | some u => rw [h.fok.sub p u e] at hp; cases hp
  have nR : p ∉ w.ρ := fun q => by
    obtain ⟨u, e⟩ := h.fok.rho q
    rw [e] at hp; cases hp
  refine ⟨⟨fun a u e => ?_, h.fok.len, fun n a c e1 e2 => ?_, h.fok.nd, h.fok.nf⟩, ⟨h.nx.le, fun a u e n => ?_, h.nx.newF, h.nx.newR⟩, h.len, h.val, fun i x e o' => ?_, h.ne, fun q hq => ?_, h.me⟩
  · rw [upd_ne (ne (h.fok.sub a u e))]
    exact h.fok.sub a u e
  · obtain ⟨u, q⟩ := (h.fok.cel n a c e1 e2).there
    exact (h.fok.cel n a c e1 e2).mono (.refl _) (upd_ne (ne q))
  · rw [upd_ne (ne (h.nx.keep a u e n))]
    exact h.nx.keep a u e n
  · obtain ⟨a, h1, h2, h3, h4, h5⟩ := h.own i x e o'
    obtain ⟨u, q⟩ := h2.there
    exact ⟨a, h1, h2.mono (.refl _) (upd_ne (ne q)), h3, h4, h5⟩
  · rcases List.mem_cons.mp hq with rfl | hq
    · refine ⟨upd_same, nF, nR, h.back hp, fun i x e o' z => ?_⟩
      obtain ⟨a, h1, h2, _⟩ := h.own i x e o'
      rw [h1] at z
      cases z
      obtain ⟨u, q⟩ := h2.there
      exact ne q rfl
    · obtain ⟨h1, h2⟩ := h.gam q hq
      exact ⟨by rw [upd_ne (ne h1)]; exact h1, h2⟩
theorem Ok.unplus {a : Addr} {o : HO} (h : Ok G (κ.plus a o) w s σ H) : Ok G κ w s σ H := ⟨h.fok, h.nx, h.len, h.val, h.own, h.ne, fun p hp => h.gam p (List.mem_cons_of_mem _ hp), h.me⟩
/-- what was set apart is frozen (its address is not set apart twice) -/
theorem Ok.frz {a : Addr} {o : HO} (h : Ok G (κ.plus a o) w s σ H) (hγ : ∀ p ∈ κ.γ, p.1 ≠ a) : w.le ⟨upd w.F a o, w.ρ⟩ ∧ Ok G κ ⟨upd w.F a o, w.ρ⟩ s σ H := by
  obtain ⟨ho, h3, h4, h5, h6⟩ := h.gam (a, o) List.mem_cons_self
  have le : w.le ⟨upd w.F a o, w.ρ⟩ := ⟨fun b u e => by
    show upd w.F a o b = some u
    rw [upd_ne (ne_of_none e h3)]
    exact e, List.prefix_refl _⟩
  have sub : ∀ (b : Addr) (u : HO), upd w.F a o b = some u → H b = some u := fun b u e => by
    by_cases z : b = a
    · subst z
      rw [upd_same] at e
      cases e
      exact ho
    · rw [upd_ne z] at e
      exact h.fok.sub b u e
  refine ⟨le, ⟨⟨sub, h.fok.len, fun n b c e1 e2 => (h.fok.cel n b c e1 e2).mono le rfl, h.fok.nd, fun b hb => ?_⟩, ⟨h.nx.le.trans le, h.nx.keep, fun b q => ?_, h.nx.newR⟩, h.len, fun i d e => ?_, fun i x e o' => ?_, h.ne, fun p hp => ?_, h.me⟩⟩
  · show upd w.F a o b = none
    rw [upd_ne (show b ≠ a from fun z => h4 (by rw [← z]; exact hb))]
    exact h.fok.nf b hb
  · by_cases z : b = a
    · subst z; exact .inr h5
    · have q : upd w.F a o b ≠ none := q
      rw [upd_ne z] at q
      exact h.nx.newF b q
  · obtain ⟨v, h1, h2⟩ := h.val i d e
    exact ⟨v, h1, h2.mono le⟩
  · obtain ⟨b, q1, q2, q3, q4, q5⟩ := h.own i x e o'
    refine ⟨b, q1, q2.mono le rfl, ?_, q4, q5⟩
    show upd w.F a o b = none
    rw [upd_ne (show b ≠ a from fun z => h6 i x e o' (by rw [q1, z]))]
    exact q3
  · obtain ⟨q1, q2, q3⟩ := h.gam p (List.mem_cons_of_mem _ hp)
    refine ⟨q1, ?_, q3⟩
    show upd w.F a o p.1 = none
    rw [upd_ne (hγ p hp)]
    exact q2
/-- a slot is set -/
theorem Ok.setVal (h : Ok G κ w s σ H) {v : V} {d : D} (r : Rep G w v d) (i : Nat) : Ok G κ w ⟨s.sl.set i (.val d), s.st⟩ (σ.set i (some v)) H := by
  have back : ∀ (j : Nat) (x : Sl), (s.sl.set i (.val d))[j]? = some x → (j = i ∧ x = .val d ∧ i < s.sl.length) ∨ (j ≠ i ∧ s.sl[j]? = some x) := fun j x e => by
    by_cases z : j = i
    · subst z
      have hl : j < s.sl.length := by
        have := (List.getElem?_eq_some_iff.mp e).1
        rwa [List.length_set] at this
      rw [List.getElem?_set_self hl] at e
      exact .inl ⟨rfl, (Option.some.inj e).symm, hl⟩
    · rw [List.getElem?_set_ne (Ne.symm z)] at e
      exact .inr ⟨z, e⟩
  refine ⟨h.fok, h.nx, by rw [List.length_set, List.length_set]; exact h.len, fun j e hj => ?_, fun j x hj o => ?_, fun j k x y a hj hk ox oy e1 e2 => ?_, fun p hp => ?_, fun b hb c fs e => ?_⟩
  · rcases back j _ hj with ⟨rfl, q, hl⟩ | ⟨z, hj⟩
    · cases q
      exact ⟨v, List.getElem?_set_self (by rw [← h.len]; exact hl), r⟩
    · rw [List.getElem?_set_ne (Ne.symm z)]
      exact h.val j e hj
  · rcases back j _ hj with ⟨rfl, q, hl⟩ | ⟨z, hj⟩
    · subst q; cases o
    · rw [List.getElem?_set_ne (Ne.symm z)]
      exact h.own j x hj o
  · rcases back j _ hj with ⟨rfl, q, hl⟩ | ⟨z, hj⟩
    · subst q; cases ox
    · rcases back k _ hk with ⟨rfl, q, hl⟩ | ⟨z', hk⟩
      · subst q; cases oy
      · rw [List.getElem?_set_ne (Ne.symm z)] at e1
        rw [List.getElem?_set_ne (Ne.symm z')] at e2
        exact h.ne j k x y a hj hk ox oy e1 e2
  · obtain ⟨q1, q2, q3, q4, q5⟩ := h.gam p hp
    refine ⟨q1, q2, q3, q4, fun j x hj o => ?_⟩
    rcases back j _ hj with ⟨rfl, q, hl⟩ | ⟨z, hj⟩
    · subst q; cases o
    · rw [List.getElem?_set_ne (Ne.symm z)]
      exact q5 j x hj o
  · rcases back 0 _ e with ⟨z, q, hl⟩ | ⟨z, e⟩
    · cases q
    · rw [List.getElem?_set_ne (Ne.symm z)]
      exact h.me b hb c fs e
/-- a slot gets what was set apart -/
theorem Ok.setOwn {a : Addr} {o : HO} (h : Ok G (κ.plus a o) w s σ H) (hγ : ∀ p ∈ κ.γ, p.1 ≠ a) {y : Sl} (hy : OwnOk G w H a y) (oy : y.own = true) (hy0 : ∀ c fs, y ≠ .oi c fs) (i : Nat) : Ok G κ w ⟨s.sl.set i y, s.st⟩ (σ.set i (some (.ref a))) H := by
  obtain ⟨ho, h3, h4, h5, h6⟩ := h.gam (a, o) List.mem_cons_self
  have back : ∀ (j : Nat) (x : Sl), (s.sl.set i y)[j]? = some x → (j = i ∧ x = y ∧ i < s.sl.length) ∨ (j ≠ i ∧ s.sl[j]? = some x) := fun j x e => by
    by_cases z : j = i
    · subst z
      have hl : j < s.sl.length := by
        have := (List.getElem?_eq_some_iff.mp e).1
        rwa [List.length_set] at this
      rw [List.getElem?_set_self hl] at e
      exact .inl ⟨rfl, (Option.some.inj e).symm, hl⟩
    · rw [List.getElem?_set_ne (Ne.symm z)] at e
      exact .inr ⟨z, e⟩
  refine ⟨h.fok, h.nx, by rw [List.length_set, List.length_set]; exact h.len, fun j e hj => ?_, fun j x hj o' => ?_, fun j k x z b hj hk ox oz e1 e2 => ?_, fun p hp => ?_, fun b hb c fs e => ?_⟩
  · rcases back j _ hj with ⟨rfl, q, hl⟩ | ⟨z, hj⟩
    · subst q; cases oy
    · rw [List.getElem?_set_ne (Ne.symm z)]
      exact h.val j e hj
  · rcases back j _ hj with ⟨rfl, q, hl⟩ | ⟨z, hj⟩
    · subst q
      exact ⟨a, List.getElem?_set_self (by rw [← h.len]; exact hl), hy, h3, h4, h5⟩
    · rw [List.getElem?_set_ne (Ne.symm z)]
      exact h.own j x hj o'
  · rcases back j _ hj with ⟨ej, q, hl⟩ | ⟨zj, hj⟩
    · rcases back k _ hk with ⟨ek, q', hl'⟩ | ⟨zk, hk⟩
      · rw [ej, ek]
      · rw [ej, List.getElem?_set_self (by rw [← h.len]; exact hl)] at e1
        cases e1
        rw [List.getElem?_set_ne (Ne.symm zk)] at e2
        exact absurd e2 (h6 k z hk oz)
    · rcases back k _ hk with ⟨ek, q', hl'⟩ | ⟨zk, hk⟩
      · rw [ek, List.getElem?_set_self (by rw [← h.len]; exact hl')] at e2
        cases e2
        rw [List.getElem?_set_ne (Ne.symm zj)] at e1
        exact absurd e1 (h6 j x hj ox)
      · rw [List.getElem?_set_ne (Ne.symm zj)] at e1
        rw [List.getElem?_set_ne (Ne.symm zk)] at e2
        exact h.ne j k x z b hj hk ox oz e1 e2
  · obtain ⟨q1, q2, q3, q4, q5⟩ := h.gam p (List.mem_cons_of_mem _ hp)
    refine ⟨q1, q2, q3, q4, fun j x hj o' => ?_⟩
    rcases back j _ hj with ⟨ej, q, hl⟩ | ⟨z, hj⟩
    · rw [ej, List.getElem?_set_self (by rw [← h.len]; exact hl)]
      exact fun e => hγ p hp (by cases e; rfl)
    · rw [List.getElem?_set_ne (Ne.symm z)]
      exact q5 j x hj o'
  · rcases back 0 _ e with ⟨z, q, hl⟩ | ⟨z, e⟩
    · exact absurd q.symm (hy0 c fs)
    · rw [List.getElem?_set_ne (Ne.symm z)]
      exact h.me b hb c fs e
/-- the thing of an own slot is changed -/
theorem Ok.mut (h : Ok G κ w s σ H) {i : Nat} {x y : Sl} {a : Addr} {o : HO} (hx : s.sl[i]? = some x) (ox : x.own = true) (oy : y.own = true) (ha : σ[i]? = some (some (.ref a))) (hy : OwnOk G w (upd H a o) a y) (hxy : ∀ c fs, y = .oi c fs → ∃ c' fs', x = .oi c' fs') :
    Ok G κ w ⟨s.sl.set i y, s.st⟩ σ (upd H a o) := by
  obtain ⟨a', h1, h2, h3, h4, h5⟩ := h.own i x hx ox
  rw [ha] at h1
  cases h1
  have hil : i < s.sl.length := (List.getElem?_eq_some_iff.mp hx).1
  have back : ∀ (j : Nat) (z : Sl), (s.sl.set i y)[j]? = some z → (j = i ∧ z = y) ∨ (j ≠ i ∧ s.sl[j]? = some z) := fun j z e => by
    by_cases q : j = i
    · subst q
      rw [List.getElem?_set_self hil] at e
      exact .inl ⟨rfl, (Option.some.inj e).symm⟩
    · rw [List.getElem?_set_ne (Ne.symm q)] at e
      exact .inr ⟨q, e⟩
  refine ⟨⟨fun b u e => ?_, h.fok.len, fun n b c e1 e2 => ?_, h.fok.nd, h.fok.nf⟩, ⟨h.nx.le, fun b u e n => ?_, h.nx.newF, h.nx.newR⟩, by rw [List.length_set]; exact h.len, fun j d hj => ?_, fun j z hj oz => ?_, fun j k z z' b hj hk oz oz' e1 e2 => ?_, fun p hp => ?_, fun b hb c fs e => ?_⟩
  · rw [upd_ne (ne_of_none e h3)]
    exact h.fok.sub b u e
  · exact (h.fok.cel n b c e1 e2).mono (.refl _) (upd_ne fun z => h4 (by rw [← z]; exact List.mem_of_getElem? e1))
  · rw [upd_ne (ne_of_none e h5)]
    exact h.nx.keep b u e n
  · rcases back j _ hj with ⟨rfl, q⟩ | ⟨_, hj⟩
    · subst q; cases oy
    · exact h.val j d hj
  · rcases back j _ hj with ⟨rfl, q⟩ | ⟨nj, hj⟩
    · subst q
      exact ⟨a, ha, hy, h3, h4, h5⟩
    · obtain ⟨b, q1, q2, q3, q4, q5⟩ := h.own j z hj oz
      exact ⟨b, q1, q2.mono (.refl _) (upd_ne fun e => nj (h.ne j i z x b hj hx oz ox q1 (by rw [e]; exact ha))), q3, q4, q5⟩
  · rcases back j _ hj with ⟨ej, q⟩ | ⟨nj, hj⟩
    · rcases back k _ hk with ⟨ek, q'⟩ | ⟨nk, hk⟩
      · rw [ej, ek]
      · rw [ej] at e1 ⊢
        exact h.ne i k x z' b hx hk ox oz' e1 e2
    · rcases back k _ hk with ⟨ek, q'⟩ | ⟨nk, hk⟩
      · rw [ek] at e2 ⊢
        exact h.ne j i z x b hj hx oz ox e1 e2
      · exact h.ne j k z z' b hj hk oz oz' e1 e2
  · obtain ⟨q1, q2, q3, q4, q5⟩ := h.gam p hp
    have np : p.1 ≠ a := fun e => q5 i x hx ox (by rw [ha, e])
    refine ⟨by rw [upd_ne np]; exact q1, q2, q3, q4, fun j z hj oz => ?_⟩
    rcases back j _ hj with ⟨ej, q⟩ | ⟨nj, hj⟩
    · rw [ej, ha]
      exact fun e => np (by cases e; rfl)
    · exact q5 j z hj oz
  · rcases back 0 _ e with ⟨z, q⟩ | ⟨z, e⟩
    · obtain ⟨c', fs', q'⟩ := hxy c fs q.symm
      subst q'
      subst z
      exact h.me b hb c' fs' hx
    · exact h.me b hb c fs e
/-- a cell of the store is changed -/
theorem Ok.cell (h : Ok G κ w s σ H) {n : Nat} {a : Addr} {c : Cell} {o : HO} (ha : w.ρ[n]? = some a) (hc : CellOk G w (upd H a o) a c) : Ok G κ w ⟨s.sl, s.st.set n c⟩ σ (upd H a o) := by
  have hm : a ∈ w.ρ := List.mem_of_getElem? ha
  have hn : n < w.ρ.length := (List.getElem?_eq_some_iff.mp ha).1
  refine ⟨⟨fun b u e => ?_, by rw [List.length_set]; exact h.fok.len, fun k b c' e1 e2 => ?_, h.fok.nd, h.fok.nf⟩, ⟨h.nx.le, fun b u e q => ?_, h.nx.newF, h.nx.newR⟩, h.len, h.val, fun j z hj oz => ?_, h.ne, fun p hp => ?_, h.me⟩
  · rw [upd_ne (ne_of_none e (h.fok.nf a hm))]
    exact h.fok.sub b u e
  · by_cases z : k = n
    · subst z
      rw [ha] at e1
      cases e1
      rw [List.getElem?_set_self (by rw [← h.fok.len]; exact hn)] at e2
      cases e2
      exact hc
    · rw [List.getElem?_set_ne (Ne.symm z)] at e2
      refine (h.fok.cel k b c' e1 e2).mono (.refl _) (upd_ne fun e => z ?_)
      subst e
      exact nodup_ix_any h.fok.nd e1 ha
  · have hbne : b ≠ a := fun e' => by
      subst e'
      rcases h.nx.newR b hm with z | z
      · exact q z
      · rw [e] at z; cases z
    rw [upd_ne hbne]
    exact h.nx.keep b u e q
  · obtain ⟨b, q1, q2, q3, q4, q5⟩ := h.own j z hj oz
    exact ⟨b, q1, q2.mono (.refl _) (upd_ne fun e => q4 (by rw [e]; exact hm)), q3, q4, q5⟩
  · obtain ⟨q1, q2, q3, q4⟩ := h.gam p hp
    exact ⟨by rw [upd_ne fun e => q3 (by rw [e]; exact hm)]; exact q1, q2, q3, q4⟩
where
  nodup_ix_any {l : List Addr} (hN : l.Nodup) {i j : Nat} {x : Addr} (a : l[i]? = some x) (b : l[j]? = some x) : i = j := by
    obtain ⟨h1, e1⟩ := List.getElem?_eq_some_iff.mp a
    obtain ⟨h2, e2⟩ := List.getElem?_eq_some_iff.mp b
    exact (List.getElem_inj hN).mp (e1.trans e2.symm)
end
end DL
set_option maxRecDepth 100000
set_option maxHeartbeats 4000000
set_option autoImplicit false
namespace DL
open PySem PySem.Spec PyProof.Rows L2
section
variable (G : Gam) (W : WX)
/-- a new list of one's own -/
def PostO (κ : Bs) (w : Wd) (σ : L2.St) (r : Res DS (List D)) (Q : VK) : Prop := match r with
  | .ok xs s' => ∀ w' a vs H', w.le w' → Ok G (κ.plus a (.lst vs)) w' s' σ H' → (∀ p ∈ κ.γ, p.1 ≠ a) → Reps G w' vs xs → Q (.ref a) H'
  | .exc x s' => ∀ w' c dd H', w.le w' → Ok G κ w' s' σ H' → RepX G w' c dd x → W c dd σ H'
  | .stuck => False
def tDo (f : DA) : TE := fun σ H Q => ∃ κ w s, Ok G κ w s σ H ∧ PostO G W κ w σ (f s) Q
end
abbrev PDo (G : Gam) (W : WX) (X : Cx) (e : Expr) (f : DA) : Prop := PE X e (tDo G W f)
section
variable {G : Gam} {W : WX} {X : Cx}
theorem PostO.mono {κ : Bs} {w w1 : Wd} {σ : L2.St} {r : Res DS (List D)} {Q : VK} (le : w.le w1) (h : PostO G W κ w σ r Q) : PostO G W κ w1 σ r Q := by
  cases r with
  | ok d s' => exact fun w' a vs H' l o g r => h w' a vs H' (le.trans l) o g r
  | exc x s' => exact fun w' c dd H' l o r => h w' c dd H' (le.trans l) o r
  | stuck => exact h
theorem Ok.apart {κ : Bs} {w : Wd} {s : DS} {σ : L2.St} {H : Hp} (h : Ok G κ w s σ H) {p : Addr} (hp : H p = none) : ∀ q ∈ κ.γ, q.1 ≠ p := fun q hq => ne_of_none (h.gam q hq).1 hp
/-- an expression, then a new list -/
theorem PostG.bindO {α β : Type} {rep : Wd → β → α → Prop} {κ : Bs} {w : Wd} {σ : L2.St} {r : Res DS α} {k : α → DS → Res DS (List D)} {Q : VK} (h : PostO G W κ w σ (r.bind k) Q) :
    PostG G W rep κ w σ r (fun v H1 => ∃ d s1 w1, w.le w1 ∧ Ok G κ w1 s1 σ H1 ∧ rep w1 v d ∧ PostO G W κ w1 σ (k d s1) Q) := by
  cases r with
  | ok d s' => exact fun w' v H' l o r => ⟨d, s', w', l, o, r, PostO.mono l h⟩
  | exc x s' => exact h
  | stuck => exact h
def aMax (g : DA) : DA := fun s => (g s).bind fun ds s1 => if ds.length ≤ 1000 then .ok ds s1 else .stuck
theorem pdo_lst {es : List Expr} {g : DA} {pos : Pos} (h : PDA G W X es g) : PDo G W X (.List es pos) (aMax g) :=
  (pe_lst h).imp fun σ H Q ⟨κ, w, s, ok, q⟩ => ⟨κ, w, s, ok, (PostG.bindO q).imp fun v H1 ⟨d, s1, w1, le, ok1, r1, q1⟩ => by
    by_cases c : d.length ≤ 1000
    · rw [if_pos c] at q1
      refine ⟨by rw [r1.length]; exact sz1000 c, fun p hp => ?_⟩
      exact q1 w1 p v _ (.refl _) (ok1.fresh hp _) (ok1.apart hp) r1
    · rw [if_neg c] at q1
      exact q1.elim⟩
def eFrz (f : DA) : DE := fun s => (f s).bind fun xs s1 => .ok (.lst xs) s1
theorem pdo_frz {e : Expr} {f : DA} (h : PDo G W X e f) : PD G W X e (eFrz f) := h.imp fun σ H Q ⟨κ, w, s, ok, q⟩ => ⟨κ, w, s, ok, by
  unfold eFrz at q
  cases e : f s with
  | stuck => rw [e] at q; exact q.elim
  | exc x s' => rw [e] at q; exact q
  | ok xs s' =>
    rw [e] at q
    intro w' a vs H' l o g r
    obtain ⟨le, ok'⟩ := o.frz g
    exact q _ _ H' (l.trans le) ok' (.lst upd_same (r.mono le))⟩
/-! ### statements -/
def sPass : DStm := fun s => .ok .nx s
def sSeq (f g : DStm) : DStm := fun s => (f s).bind fun o s1 => match o with
  | .nx => g s1
  | o => .ok o s1
theorem pdss_nil : PDSs G W X [] sPass := pss_nil.imp fun N σ H ⟨κ, w, s, ok, q⟩ => q w σ H (.refl _) ok
theorem PostS.seq {κ : Bs} {w : Wd} {r : Res DS Out} {g : DStm} {N : Ends} (h : PostS G W κ w (r.bind fun o s1 => match o with | .nx => g s1 | o => .ok o s1) N) : PostS G W κ w r { N with nx := tDS G W g N } := by
  cases r with
  | stuck => exact h
  | exc x s' => exact h
  | ok o s' =>
    cases o with
    | nx => exact fun w' σ' H' l o => ⟨κ, w', s', o, PostS.mono l h⟩
    | bk => exact h
    | ct => exact h
    | rt d => exact h
theorem pdss_cons {st : Stmt} {r : List Stmt} {f g : DStm} (h : PDS G W X st f) (k : PDSs G W X r g) : PDSs G W X (st :: r) (sSeq f g) :=
  (pss_cons h k).imp fun N σ H ⟨κ, w, s, ok, q⟩ => ⟨κ, w, s, ok, PostS.seq q⟩
theorem pdss_one {st : Stmt} {f : DStm} (h : PDS G W X st f) : PDSs G W X [st] f := pss_one h
def sNever : DStm := fun _ => .stuck
def sBreak : DStm := fun s => .ok .bk s
def sCont : DStm := fun s => .ok .ct s
theorem pds_continue {pos : Pos} : PDS G W X (.Continue pos) sCont := ps_continue.imp fun N σ H ⟨κ, w, s, ok, q⟩ => q w σ H (.refl _) ok
def sExpr (f : DE) : DStm := fun s => (f s).bind fun _ s1 => .ok .nx s1
theorem pds_expr {e : Expr} {f : DE} {pos : Pos} (h : PD G W X e f) (hs : swapsWith e none pos.line X.env = pure false := by rfl) : PDS G W X (.Expr e pos) (sExpr f) :=
  (ps_expr h hs).imp fun N σ H ⟨κ, w, s, ok, q⟩ => ⟨κ, w, s, ok, (PostG.bindS q).imp fun v H1 ⟨d, s1, w1, le, ok1, r1, q1⟩ => q1 w1 σ H1 (.refl _) ok1⟩
def sRet (f : DE) : DStm := fun s => (f s).bind fun d s1 => .ok (.rt d) s1
theorem pds_ret {e : Expr} {f : DE} {pos : Pos} (h : PD G W X e f) : PDS G W X (.Return (some e) pos) (sRet f) :=
  (ps_ret h).imp fun N σ H ⟨κ, w, s, ok, q⟩ => ⟨κ, w, s, ok, (PostG.bindS q).imp fun v H1 ⟨d, s1, w1, le, ok1, r1, q1⟩ => q1 w1 σ v H1 (.refl _) ok1 r1⟩
def sIf (c : DT) (f g : DStm) : DStm := fun s => (c s).bind fun b s1 => if b = true then f s1 else g s1
theorem pds_if {c : Expr} {a b : List Stmt} {fc : DT} {f g : DStm} {pos : Pos} (hc : PDT G W X c fc) (h : PDSs G W X a f) (k : PDSs G W X b g) : PDS G W X (.If c a b pos) (sIf fc f g) :=
  (ps_if hc h k).imp fun N σ H ⟨κ, w, s, ok, q⟩ => ⟨κ, w, s, ok, (PostG.bindS q).imp fun v H1 ⟨d, s1, w1, le, ok1, r1, q1⟩ => by
    subst r1
    cases v with
    | true => exact ⟨κ, w1, s1, ok1, q1⟩
    | false => exact ⟨κ, w1, s1, ok1, q1⟩⟩
def sSet (i : Nat) (f : DE) : DStm := fun s => (f s).bind fun d s1 => .ok .nx ⟨s1.sl.set i (.val d), s1.st⟩
theorem pds_set {i : Nat} {x : Str} {e : Expr} {f : DE} {pos pos' : Pos} (hN : X.N.Nodup) (hi : X.N[i]? = some x) (hx : Loc X.env.scope x) (he : PD G W X e f) (hs : swapsWith e (some (.Name x pos')) pos.line X.env = pure false := by rfl)
    (hf : X.fn x = true ∨ X.env.scope.names.lookup x = some .local := by first | exact .inl rfl | exact .inr rfl | assumption) : PDS G W X (.Assign [.Name x pos'] e pos) (sSet i f) :=
  (ps_set hN hi hx he hs hf).imp fun N σ H ⟨κ, w, s, ok, q⟩ => ⟨κ, w, s, ok, (PostG.bindS q).imp fun v H1 ⟨d, s1, w1, le, ok1, r1, q1⟩ => q1 w1 _ H1 (.refl _) (ok1.setVal r1 i)⟩
/-- name = a new list -/
def sSetO (i : Nat) (f : DA) : DStm := fun s => (f s).bind fun xs s1 => .ok .nx ⟨s1.sl.set i (.ol xs), s1.st⟩
theorem setO_of {i : Nat} {f : DA} {N : Ends} {σ : L2.St} {H : Hp} (h : tDS G W (sSetO i f) N σ H) : tAsg (tDo G W f) (gName i) N σ H := by
  obtain ⟨κ, w, s, ok, q⟩ := h
  refine ⟨κ, w, s, ok, ?_⟩
  unfold sSetO at q
  cases e : f s with
  | stuck => rw [e] at q; exact q.elim
  | exc x s' =>
    rw [e] at q
    exact fun w' c dd H' l o r => q w' σ c dd H' l o r
  | ok xs s' =>
    rw [e] at q
    intro w' a vs H' l o g r
    exact q w' _ H' l (o.setOwn (y := .ol xs) g ⟨vs, (o.gam (a, .lst vs) List.mem_cons_self).1, r⟩ rfl (fun _ _ z => nomatch z) i)
theorem pds_setO {i : Nat} {x : Str} {e : Expr} {f : DA} {pos pos' : Pos} (hN : X.N.Nodup) (hi : X.N[i]? = some x) (hx : Loc X.env.scope x) (he : PDo G W X e f) (hs : swapsWith e (some (.Name x pos')) pos.line X.env = pure false := by rfl)
    (hf : X.fn x = true ∨ X.env.scope.names.lookup x = some .local := by first | exact .inl rfl | exact .inr rfl | assumption) : PDS G W X (.Assign [.Name x pos'] e pos) (sSetO i f) :=
  (ps_set hN hi hx he hs hf).imp fun N σ H q => setO_of q
/-! ### targets -/
abbrev DG := D → DS → Res DS Unit
section
variable (G : Gam) (W : WX)
def PostT (is : List Nat) (σ : L2.St) (κ : Bs) (w : Wd) (r : Res DS Unit) (Q : L2.St → Hp → Prop) : Prop := match r with
  | .ok _ s' => ∀ w' σ' H', w.le w' → Ok G κ w' s' σ' H' → (σ'.length = σ.length ∧ ∀ i : Nat, i ∉ is → σ'[i]? = σ[i]?) → Q σ' H'
  | .exc x s' => False
  | .stuck => False
def tDG (is : List Nat) (g : DG) : TG := fun v σ H Q => ∃ κ w s d, Ok G κ w s σ H ∧ Rep G w v d ∧ PostT G is σ κ w (g d s) Q
def tDGs (is : List Nat) (g : List D → DS → Res DS Unit) : TGs := fun v σ H Q => ∃ κ w s d, Ok G κ w s σ H ∧ Reps G w v d ∧ PostT G is σ κ w (g d s) Q
end
theorem _root_.L2.PG.imp {X : Cx} {e : Expr} {t t' : TG} (h : PG X e t) (k : ∀ v σ H Q, t' v σ H Q → t v σ H Q) : PG X e t' := ⟨fun pins s σ H v u Q I r q => h.run pins s σ H v u Q I r (k v σ H Q q)⟩
theorem _root_.L2.PGs.imp {X : Cx} {e : List Expr} {t t' : TGs} (h : PGs X e t) (k : ∀ v σ H Q, t' v σ H Q → t v σ H Q) : PGs X e t' := ⟨fun pins s σ H v u Q I r q => h.run pins s σ H v u Q I r (k v σ H Q q)⟩
abbrev PDG (G : Gam) (X : Cx) (e : Expr) (is : List Nat) (g : DG) : Prop := PG X e (tDG G is g)
abbrev PDGs (G : Gam) (X : Cx) (e : List Expr) (is : List Nat) (g : List D → DS → Res DS Unit) : Prop := PGs X e (tDGs G is g)
def gN (i : Nat) : DG := fun d s => .ok () ⟨s.sl.set i (.val d), s.st⟩
theorem pdg_name {i : Nat} {x : Str} {pos : Pos} (hN : X.N.Nodup) (hi : X.N[i]? = some x) (hx : Loc X.env.scope x) (hf : X.fn x = true ∨ X.env.scope.names.lookup x = some .local := by first | exact .inl rfl | exact .inr rfl | assumption) : PDG G X (.Name x pos) [i] (gN i) :=
  (pg_name hN hi hx hf).imp fun v σ H Q ⟨κ, w, s, d, ok, r, q⟩ => q w _ H (.refl _) (ok.setVal r i) ⟨by rw [List.length_set], fun j hj => List.getElem?_set_ne fun z => hj (by rw [z]; exact List.mem_singleton.mpr rfl)⟩
def gsNil : List D → DS → Res DS Unit := fun ds s => match ds with
  | [] => .ok () s
  | _ => .stuck
def gsCons (g : DG) (k : List D → DS → Res DS Unit) : List D → DS → Res DS Unit := fun ds s => match ds with
  | d :: r => (g d s).bind fun _ s1 => k r s1
  | _ => .stuck
theorem pdgs_nil : PDGs G X [] [] gsNil := pgs_nil.imp fun v σ H Q ⟨κ, w, s, d, ok, r, q⟩ => by
  cases r with
  | nil => exact ⟨rfl, q w σ H (.refl _) ok ⟨rfl, fun _ _ => rfl⟩⟩
  | cons a b => exact q.elim
theorem pdgs_cons {e : Expr} {es : List Expr} {is is' : List Nat} {g : DG} {k : List D → DS → Res DS Unit} (h1 : PDG G X e is g) (h2 : PDGs G X es is' k)
    (hs : (assignEach (e :: es) X.env).map (·.2) = assign e X.env :: (assignEach es X.env).map (·.2) := by rfl) : PDGs G X (e :: es) (is ++ is') (gsCons g k) :=
  (pgs_cons h1 h2 hs).imp fun v σ H Q ⟨κ, w, s, d, ok, r, q⟩ => by
    cases r with
    | nil => exact q.elim
    | @cons v d vs ds a b =>
      refine ⟨v, vs, rfl, κ, w, s, d, ok, a, ?_⟩
      have q : PostT G (is ++ is') σ κ w ((g d s).bind fun _ s1 => k ds s1) Q := q
      cases e : g d s with
      | stuck => rw [e] at q; exact q.elim
      | exc x s' => rw [e] at q; exact q.elim
      | ok u s' =>
        rw [e] at q
        intro w' σ' H' l o hσ
        refine ⟨κ, w', s', ds, o, b.mono l, ?_⟩
        have q : PostT G (is ++ is') σ κ w (k ds s') Q := q
        cases e2 : k ds s' with
        | stuck => rw [e2] at q; exact q.elim
        | exc x s' => rw [e2] at q; exact q.elim
        | ok u s2 =>
          rw [e2] at q
          exact fun w2 σ2 H2 l2 o2 h2 => q w2 σ2 H2 (l.trans l2) o2 ⟨h2.1.trans hσ.1, fun i hi => (h2.2 i fun z => hi (List.mem_append_right _ z)).trans (hσ.2 i fun z => hi (List.mem_append_left _ z))⟩
def gT (n : Nat) (g : List D → DS → Res DS Unit) : DG := fun d s => match d with
  | .tup ds => if ds.length = n then g ds s else .stuck
  | _ => .stuck
theorem pdg_tup (hK : G.K = X.K) {es : List Expr} {is : List Nat} {k : Nat} {g : List D → DS → Res DS Unit} {n : Nat} {pos : Pos} (hc : X.calm = true) (h : PDGs G X es is g)
    (hn : (assignEach es X.env).length = n := by rfl) (hst : (assignEach es X.env).findIdx? (·.1) = none := by rfl) : PDG G X (.Tuple es k pos) is (gT n g) :=
  (pg_tup hc h hn hst).imp fun v σ H Q ⟨κ, w, s, d, ok, r, q⟩ => by
    cases r with
    | @tup a vs ds e r =>
      by_cases c : ds.length = n
      · have q : PostT G is σ κ w (if ds.length = n then g ds s else .stuck) Q := q
        rw [if_pos c] at q
        refine ⟨a, vs, rfl, hK ▸ SqT.le e ok.fok.sub, by rw [r.length]; exact c, κ, w, s, ds, ok, r, q⟩
      · have q : PostT G is σ κ w (if ds.length = n then g ds s else .stuck) Q := q
        rw [if_neg c] at q
        exact q.elim
    | _ => exact q.elim
def sAsg (f : DE) (g : DG) : DStm := fun s => (f s).bind fun d s1 => (g d s1).bind fun _ s2 => .ok .nx s2
theorem PostT.toS {is : List Nat} {σ : L2.St} {κ : Bs} {w : Wd} {r : Res DS Unit} {N : Ends} {Wx : WX} (h : PostS G Wx κ w (r.bind fun _ s2 => .ok .nx s2) N) (hx : ∀ x s, r ≠ .exc x s) : PostT G is σ κ w r N.nx := by
  cases r with
  | stuck => exact h
  | exc x s' => exact absurd rfl (hx x s')
  | ok u s' => exact fun w' σ' H' l o _ => h w' σ' H' l o
def noX {σ α : Type} (r : Res σ α) : Res σ α := match r with
  | .exc _ _ => .stuck
  | r => r
theorem noX_exc {σ α : Type} (r : Res σ α) : ∀ x s, noX r ≠ .exc x s := fun x s h => by cases r <;> cases h
def sAsgT (f : DE) (g : DG) : DStm := fun s => (f s).bind fun d s1 => (noX (g d s1)).bind fun _ s2 => .ok .nx s2
theorem PostT.ofNoX {is : List Nat} {σ : L2.St} {κ : Bs} {w : Wd} {r : Res DS Unit} {Q : L2.St → Hp → Prop} (h : PostT G is σ κ w (noX r) Q) : PostT G is σ κ w r Q := by
  cases r with
  | stuck => exact h
  | exc x s' => exact h
  | ok u s' => exact h
theorem pds_asg {tg e : Expr} {f : DE} {is : List Nat} {g : DG} {pos : Pos} (he : PD G W X e f) (hg : PDG G X tg is g) (hs : swapsWithSole [tg] e pos.line X.env = pure false := by rfl) (hw : swappedStores [tg] e X.env = pure none := by rfl)
    (h1 : (assignEach [tg] X.env).map (·.2) = [assign tg X.env] := by rfl) : PDS G W X (.Assign [tg] e pos) (sAsgT f g) :=
  (ps_asg he hg hs hw h1).imp fun N σ H ⟨κ, w, s, ok, q⟩ => ⟨κ, w, s, ok, (PostG.bindS q).imp fun v H1 ⟨d, s1, w1, le, ok1, r1, q1⟩ =>
    ⟨κ, w1, s1, d, ok1, r1, PostT.ofNoX (PostT.toS q1 (noX_exc _))⟩⟩
/-- a, b = x, y with plain locals -/
def sPar (i j : Nat) (f : DA) : DStm := fun s => (f s).bind fun ds s1 => match ds with
  | [x, y] => .ok .nx ⟨(s1.sl.set i (.val x)).set j (.val y), s1.st⟩
  | _ => .stuck
theorem pds_par {i j : Nat} {x y : Str} {a b : Expr} {f : DA} {px py pt pos : Pos} {kt k2 : Nat} {pt2 : Pos} (hc : X.calm = true) (hN : X.N.Nodup) (hi : X.N[i]? = some x) (hj : X.N[j]? = some y) (hij : i ≠ j)
    (hx : X.env.scope.names.lookup x = some .local) (hy : X.env.scope.names.lookup y = some .local) (ha : PDA G W X [a, b] f)
    (hw : swappedStores [.Tuple [.Name x px, .Name y py] kt pt] (.Tuple [a, b] k2 pt2) X.env = pure (some [x, y]))
    (hs : swapsWithSole [.Tuple [.Name x px, .Name y py] kt pt] (.Tuple [a, b] k2 pt2) pos.line X.env = pure false := by rfl) :
    PDS G W X (.Assign [.Tuple [.Name x px, .Name y py] kt pt] (.Tuple [a, b] k2 pt2) pos) (sPar i j f) :=
  (ps_par hc hN hi hj hij hx hy ha hw hs).imp fun N σ H ⟨κ, w, s, ok, q⟩ => ⟨κ, w, s, ok, (PostG.bindS q).imp fun v H1 ⟨d, s1, w1, le, ok1, r1, q1⟩ => by
    cases r1 with
    | nil => exact q1.elim
    | cons a b =>
      cases b with
      | nil => exact q1.elim
      | cons a2 b2 =>
        cases b2 with
        | nil => exact ⟨_, _, rfl, q1 w1 _ H1 (.refl _) ((ok1.setVal a i).setVal a2 j)⟩
        | cons _ _ => exact q1.elim⟩
/-! ### loops -/
def loopOut (r : Res DS Out) (k : DS → Res DS Out) : Res DS Out := match r with
  | .ok .nx s2 => k s2
  | .ok .ct s2 => k s2
  | .ok .bk s2 => .ok .nx s2
  | r => r
def runW (c : DT) (b : DStm) : Nat → DS → Res DS Out
  | 0, _ => .stuck
  | n + 1, s => (c s).bind fun t s1 => if t = true then loopOut (b s1) (runW c b n) else .ok .nx s1
theorem runW_mono (c : DT) (b : DStm) : ∀ (n : Nat) (s : DS), runW c b n s ≠ .stuck → runW c b (n + 1) s = runW c b n s
  | 0, s, h => absurd rfl h
  | n + 1, s, h => by
    show (c s).bind (fun t s1 => if t = true then loopOut (b s1) (runW c b (n + 1)) else .ok .nx s1) = (c s).bind fun t s1 => if t = true then loopOut (b s1) (runW c b n) else .ok .nx s1
    have h : (c s).bind (fun t s1 => if t = true then loopOut (b s1) (runW c b n) else .ok .nx s1) ≠ .stuck := h
    cases e : c s with
    | stuck => rfl
    | exc x s' => rfl
    | ok t s1 =>
      rw [e] at h
      rw [Res.bind_ok] at h ⊢
      rw [Res.bind_ok]
      cases t with
      | false => rfl
      | true =>
        rw [if_pos rfl] at h ⊢
        rw [if_pos rfl]
        cases e2 : b s1 with
        | stuck => rfl
        | exc x s' => rfl
        | ok o s2 =>
          rw [e2] at h
          cases o with
          | nx => exact runW_mono c b n s2 h
          | ct => exact runW_mono c b n s2 h
          | bk => rfl
          | rt d => rfl
theorem runW_le (c : DT) (b : DStm) {n m : Nat} {s : DS} (hnm : n ≤ m) (h : runW c b n s ≠ .stuck) : runW c b m s = runW c b n s := by
  induction hnm with
  | refl => rfl
  | step hk ih => rw [runW_mono c b _ s (by rw [ih]; exact h), ih]
open Classical in
noncomputable def sWhile (c : DT) (b : DStm) : DStm := fun s => if h : ∃ n, runW c b n s ≠ .stuck then runW c b h.choose s else .stuck
theorem sWhile_of {c : DT} {b : DStm} {s : DS} (n : Nat) (h : runW c b n s ≠ .stuck) : sWhile c b s = runW c b n s := by
  have ex : ∃ n, runW c b n s ≠ .stuck := ⟨n, h⟩
  unfold sWhile
  rw [dif_pos ex]
  rcases Nat.le_total n ex.choose with z | z
  · exact runW_le c b z h
  · exact (runW_le c b z ex.choose_spec).symm
theorem sWhile_eq (c : DT) (b : DStm) (s : DS) : sWhile c b s = (c s).bind fun t s1 => if t = true then loopOut (b s1) (sWhile c b) else .ok .nx s1 := by
  have key : ∀ n, runW c b (n + 1) s ≠ .stuck → sWhile c b s = (c s).bind fun t s1 => if t = true then loopOut (b s1) (sWhile c b) else .ok .nx s1 := fun n h => by
    rw [sWhile_of (n + 1) h]
    have h : (c s).bind (fun t s1 => if t = true then loopOut (b s1) (runW c b n) else .ok .nx s1) ≠ .stuck := h
    show (c s).bind (fun t s1 => if t = true then loopOut (b s1) (runW c b n) else .ok .nx s1) = _
    cases e : c s with
    | stuck => rfl
    | exc x s' => rfl
    | ok t s1 =>
      rw [e] at h
      rw [Res.bind_ok] at h ⊢
      rw [Res.bind_ok]
      cases t with
      | false => rfl
      | true =>
        rw [if_pos rfl] at h ⊢
        rw [if_pos rfl]
        cases e2 : b s1 with
        | stuck => rfl
        | exc x s' => rfl
        | ok o s2 =>
          rw [e2] at h
          cases o with
          | nx => exact (sWhile_of n h).symm
          | ct => exact (sWhile_of n h).symm
          | bk => rfl
          | rt d => rfl
  by_cases ex : ∃ n, runW c b n s ≠ .stuck
  · obtain ⟨n, h⟩ := ex
    cases n with
    | zero => exact absurd rfl h
    | succ n => exact key n h
  · have all : ∀ n, runW c b n s = .stuck := fun n => Classical.byContradiction fun h => ex ⟨n, h⟩
    have l : sWhile c b s = .stuck := by
      unfold sWhile
      rw [dif_neg ex]
    rw [l]
    have a1 := all 1
    cases e : c s with
    | stuck => rfl
    | exc x s' =>
      have a1 : (c s).bind (fun t s1 => if t = true then loopOut (b s1) (runW c b 0) else .ok .nx s1) = .stuck := a1
      rw [e] at a1
      cases a1
    | ok t s1 =>
      rw [Res.bind_ok]
      cases t with
      | false =>
        have a1 : (c s).bind (fun t s1 => if t = true then loopOut (b s1) (runW c b 0) else .ok .nx s1) = .stuck := a1
        rw [e] at a1
        cases a1
      | true =>
        rw [if_pos rfl]
        have an : ∀ n, loopOut (b s1) (runW c b n) = .stuck := fun n => by
          have := all (n + 1)
          have a1 : (c s).bind (fun t s1 => if t = true then loopOut (b s1) (runW c b n) else .ok .nx s1) = .stuck := this
          rw [e] at a1
          exact a1
        cases e2 : b s1 with
        | stuck => rfl
        | exc x s' => have := an 0; rw [e2] at this; cases this
        | ok o s2 =>
          have nn : ∀ n, loopOut (.ok o s2) (runW c b n) = .stuck := fun n => by rw [← e2]; exact an n
          have un : (∀ n, runW c b n s2 = .stuck) → sWhile c b s2 = .stuck := fun q => by
            unfold sWhile
            rw [dif_neg fun ⟨n, h⟩ => h (q n)]
          cases o with
          | nx => exact (un nn).symm
          | ct => exact (un nn).symm
          | bk => cases nn 0
          | rt d => cases nn 0
theorem pds_while {c : Expr} {body : List Stmt} {fc : DT} {fb : DStm} {pos : Pos} (hp : PassesOwn (model X.prog X.w) X.A X.env X.xe) (hc : PDT G W X c fc) (hb : PDSs G W X body fb) : PDS G W X (.While c body [] pos) (sWhile fc fb) :=
  (ps_while hp hc hb).imp fun N σ H ⟨κ, w, s, ok, q⟩ => by
    by_cases ex : ∃ n, runW fc fb n s ≠ .stuck
    · obtain ⟨n, hn⟩ := ex
      rw [sWhile_of n hn] at q
      refine ⟨fun m σ H => ∃ w' s', w.le w' ∧ Ok G κ w' s' σ H ∧ PostS G W κ w' (runW fc fb m s') N, ⟨n, w, s, .refl _, ok, q⟩, fun m σ' H' ⟨w', s', le, ok', q'⟩ => ?_⟩
      cases m with
      | zero => exact q'.elim
      | succ m =>
        refine ⟨κ, w', s', ok', (PostG.bindS q').imp fun v H1 ⟨d, s1, w1, le1, ok1, r1, q1⟩ => ?_⟩
        subst r1
        cases v with
        | false => exact q1 w1 σ' H1 (.refl _) ok1
        | true =>
          refine ⟨fun σ2 H2 => ∃ w2 s2, w.le w2 ∧ Ok G κ w2 s2 σ2 H2 ∧ PostS G W κ w2 (runW fc fb m s2) N, fun σ2 H2 z => ⟨m, Nat.lt_succ_self _, z⟩, κ, w1, s1, ok1, ?_⟩
          have q1 : PostS G W κ w1 (loopOut (fb s1) (runW fc fb m)) N := q1
          cases e : fb s1 with
          | stuck => rw [e] at q1; exact q1.elim
          | exc x s' => rw [e] at q1; exact q1
          | ok o s2 =>
            rw [e] at q1
            cases o with
            | nx => exact fun w2 σ2 H2 l o => ⟨w2, s2, (le.trans le1).trans l, o, PostS.mono l q1⟩
            | ct => exact fun w2 σ2 H2 l o => ⟨w2, s2, (le.trans le1).trans l, o, PostS.mono l q1⟩
            | bk => exact q1
            | rt d => exact q1
    · unfold sWhile at q
      rw [dif_neg ex] at q
      exact q.elim
/-! ### what a for walks -/
section
variable (G : Gam) (W : WX)
def ItOk (w : Wd) (J : It) (items : List D) : Prop := ∀ (w1 : Wd) (S : List Cell) (H : Hp), w.le w1 → FOk G w1 S H → ∀ i : Nat,
  (∀ d, items[i]? = some d → J.go i H ∧ ∀ x H', J.yld i H x H' → ∃ w2, Nx w1 H w2 H' ∧ FOk G w2 S H' ∧ Rep G w2 x d) ∧ (items[i]? = none → J.stop i H)
def PostI (κ : Bs) (w : Wd) (σ : L2.St) (r : Res DS (List D)) (R : It → Hp → Prop) : Prop := match r with
  | .ok ds s' => ∀ w' J H', w.le w' → Ok G κ w' s' σ H' → ItOk G w' J ds → R J H'
  | .exc x s' => ∀ w' c dd H', w.le w' → Ok G κ w' s' σ H' → RepX G w' c dd x → W c dd σ H'
  | .stuck => False
def tDI (f : DA) : TI := fun σ H R => ∃ κ w s, Ok G κ w s σ H ∧ PostI G W κ w σ (f s) R
end
theorem _root_.L2.PI.imp {X : Cx} {tg e : Expr} {t t' : TI} (h : PI X tg e t) (k : ∀ σ H R, t' σ H R → t σ H R) : PI X tg e t' := ⟨fun pins s σ H R I q => h.run pins s σ H R I (k σ H R q)⟩
abbrev PDI (G : Gam) (W : WX) (X : Cx) (tg e : Expr) (f : DA) : Prop := PI X tg e (tDI G W f)
theorem PostI.mono {κ : Bs} {w w1 : Wd} {σ : L2.St} {r : Res DS (List D)} {R : It → Hp → Prop} (le : w.le w1) (h : PostI G W κ w σ r R) : PostI G W κ w1 σ r R := by
  cases r with
  | ok d s' => exact fun w' J H' l o g => h w' J H' (le.trans l) o g
  | exc x s' => exact fun w' c dd H' l o r => h w' c dd H' (le.trans l) o r
  | stuck => exact h
theorem PostG.bindI {α β : Type} {rep : Wd → β → α → Prop} {κ : Bs} {w : Wd} {σ : L2.St} {r : Res DS α} {k : α → DS → Res DS (List D)} {Q : It → Hp → Prop} (h : PostI G W κ w σ (r.bind k) Q) :
    PostG G W rep κ w σ r (fun v H1 => ∃ d s1 w1, w.le w1 ∧ Ok G κ w1 s1 σ H1 ∧ rep w1 v d ∧ PostI G W κ w1 σ (k d s1) Q) := by
  cases r with
  | ok d s' => exact fun w' v H' l o r => ⟨d, s', w', l, o, r, PostI.mono l h⟩
  | exc x s' => exact h
  | stuck => exact h
/-- the items of a list; of a tuple -/
def itL (f : DE) : DA := fun s => (f s).bind fun d s1 => match d with
  | .lst xs => .ok xs s1
  | .scr xs => .ok xs s1
  | _ => .stuck
def itT (f : DE) : DA := fun s => (f s).bind fun d s1 => match d with
  | .tup xs => .ok xs s1
  | _ => .stuck
theorem itOk_list (hK : G.K = X.K) {w : Wd} {a : Addr} {vs : List V} {ds : List D} (e : SqL G.K w.F a vs) (un : ∀ (H : Hp) ys, SqL X.K H a vs → SqL X.K H a ys → vs = ys → True) (r : Reps G w vs ds) (inj : ∀ (H : Hp), SqL X.K H a vs → True) : ItOk G w (Itl X.K a) ds := by
  intro w1 S H le fok i
  have q : SqL X.K H a vs := hK ▸ SqL.le (SqL.le e le.f) fok.sub
  refine ⟨fun d hd => ?_, fun hn => ?_⟩
  · obtain ⟨y, h1, h2⟩ := r.get hd
    refine ⟨⟨vs, y, q, h1⟩, fun x H' ⟨hH, hx⟩ => ⟨w1, ?_, ?_, ?_⟩⟩
    · rw [hH]; exact .refl _ _
    · rw [hH]; exact fok
    · have := hx vs q
      rw [h1] at this
      cases this
      exact h2.mono le
  · refine ⟨vs, q, ?_⟩
    rw [r.length]
    exact List.getElem?_eq_none_iff.mp hn
theorem itOk_tup (hK : G.K = X.K) {w : Wd} {a : Addr} {vs : List V} {ds : List D} (e : SqT G.K w.F a vs) (r : Reps G w vs ds) : ItOk G w (Itt X.K a) ds := by
  intro w1 S H le fok i
  have q : SqT X.K H a vs := hK ▸ SqT.le (SqT.le e le.f) fok.sub
  refine ⟨fun d hd => ?_, fun hn => ?_⟩
  · obtain ⟨y, h1, h2⟩ := r.get hd
    refine ⟨⟨vs, y, q, h1⟩, fun x H' ⟨hH, hx⟩ => ⟨w1, ?_, ?_, ?_⟩⟩
    · rw [hH]; exact .refl _ _
    · rw [hH]; exact fok
    · have := hx vs q
      rw [h1] at this
      cases this
      exact h2.mono le
  · refine ⟨vs, q, ?_⟩
    rw [r.length]
    exact List.getElem?_eq_none_iff.mp hn
/-- range -/
def rngL (lo : Int) (n : Nat) : List D := (List.range n).map fun (i : Nat) => D.int (lo + (i : Int))
theorem itOk_rng {w : Wd} (lo : Int) (n : Nat) : ItOk G w (Itr lo n) (rngL lo n) := by
  intro w1 S H le fok i
  refine ⟨fun d hd => ?_, fun hn => ?_⟩
  · unfold rngL at hd
    rw [List.getElem?_map] at hd
    by_cases c : i < n
    · rw [List.getElem?_range c] at hd
      cases hd
      refine ⟨c, fun x H' ⟨hH, hx⟩ => ⟨w1, ?_, ?_, ?_⟩⟩
      · rw [hH]; exact .refl _ _
      · rw [hH]; exact fok
      · rw [hx]; exact .int _
    · rw [List.getElem?_eq_none (by rw [List.length_range]; omega)] at hd
      cases hd
  · have := List.getElem?_eq_none_iff.mp hn
    unfold rngL at this
    rw [List.length_map, List.length_range] at this
    exact this
def itR1 (f : DA) : DA := fun s => (f s).bind fun ds s1 => match ds with
  | [.int j] => if -(2 ^ 62) ≤ j ∧ j < 2 ^ 62 then .ok (rngL 0 j.toNat) s1 else .stuck
  | _ => .stuck
def itR2 (f : DA) : DA := fun s => (f s).bind fun ds s1 => match ds with
  | [.int i, .int j] => if -(2 ^ 62) ≤ i ∧ i < 2 ^ 62 ∧ -(2 ^ 62) ≤ j ∧ j < 2 ^ 62 then .ok (rngL i (j - i).toNat) s1 else .stuck
  | _ => .stuck
theorem pdi_range1 {tg a : Expr} {f : DA} {p pos : Pos} (hg : Gl X "range") (hm : X.mg "range" = none) (ha : PDA G W X [a] f) (hs : starEach [a] X.env = [(false, eval a X.env)] := by rfl) : PDI G W X tg (.Call (.Name "range" p) [a] [] pos) (itR1 f) :=
  (pi_range1 hg hm ha hs).imp fun σ H R ⟨κ, w, s, ok, q⟩ => ⟨κ, w, s, ok, (PostG.bindI q).imp fun v H1 ⟨d, s1, w1, le, ok1, r1, q1⟩ => by
    cases r1 with
    | nil => exact q1.elim
    | cons a b =>
      cases b with
      | cons _ _ => cases a <;> exact q1.elim
      | nil =>
        cases a with
        | int j =>
          have q1 : PostI G W κ w1 σ (if -(2 ^ 62) ≤ j ∧ j < 2 ^ 62 then .ok (rngL 0 j.toNat) s1 else .stuck) R := q1
          by_cases c : -(2 ^ 62) ≤ j ∧ j < 2 ^ 62
          · rw [if_pos c] at q1
            exact ⟨j, rfl, c.1, c.2, q1 w1 _ H1 (.refl _) ok1 (itOk_rng 0 _)⟩
          · rw [if_neg c] at q1
            exact q1.elim
        | _ => exact q1.elim⟩
/-! ### for -/
def forL (g : DG) (b : DStm) : List D → DS → Res DS Out
  | [], s => .ok .nx s
  | d :: r, s => (noX (g d s)).bind fun _ s1 => loopOut (b s1) (forL g b r)
def sFor (it : DA) (g : DG) (b : DStm) : DStm := fun s => (it s).bind fun ds s1 => forL g b ds s1
theorem drop_get {α : Type} {l : List α} {i : Nat} {d : α} {r : List α} (h : l.drop i = d :: r) : l[i]? = some d ∧ l.drop (i + 1) = r := by
  refine ⟨?_, ?_⟩
  · have := congrArg (fun l => l[0]?) h
    simpa using this
  · have := congrArg List.tail h
    simpa using this
theorem for_of {is : List Nat} {κ : Bs} {w : Wd} {J : It} {g : DG} {b : DStm} {N : Ends} {items : List D} (hJ : ItOk G w J items) {w0 : Wd} {s : DS} {σ : L2.St} {H : Hp} (le : w.le w0) (ok : Ok G κ w0 s σ H) (q : PostS G W κ w0 (forL g b items s) N) :
    ∃ Wv : Nat → Nat → L2.St → Hp → Prop, (∃ m, Wv 0 m σ H) ∧ ∀ i m σ H, Wv i m σ H →
      (J.stop i H ∧ N.nx σ H) ∨ (J.go i H ∧ ∃ N' : L2.St → Hp → Prop, (∀ σ' H', N' σ' H' → ∃ m', m' < m ∧ Wv (i + 1) m' σ' H') ∧ ∀ x H', J.yld i H x H' → tDG G is g x σ H' fun σ2 H2 => tDS G W b { N with nx := N', ct := N', bk := N.nx } σ2 H2) := by
  refine ⟨fun i m σ H => ∃ w' s', w.le w' ∧ Ok G κ w' s' σ H ∧ (items.drop i).length = m ∧ PostS G W κ w' (forL g b (items.drop i) s') N, ⟨items.length, w0, s, le, ok, by simp, by simpa using q⟩, ?_⟩
  rintro i m σ H ⟨w', s', le', ok', hm, q'⟩
  cases e : items.drop i with
  | nil =>
    rw [e] at q'
    have hn : items[i]? = none := by
      have := congrArg (fun l => l[0]?) e
      simpa using this
    exact .inl ⟨(hJ w' _ H le' ok'.fok i).2 hn, q' w' σ H (.refl _) ok'⟩
  | cons d r =>
    rw [e] at q' hm
    obtain ⟨h1, h2⟩ := drop_get e
    obtain ⟨go, yl⟩ := (hJ w' _ H le' ok'.fok i).1 d h1
    refine .inr ⟨go, fun σ2 H2 => ∃ w2 s2, w.le w2 ∧ Ok G κ w2 s2 σ2 H2 ∧ PostS G W κ w2 (forL g b r s2) N, fun σ2 H2 ⟨w2, s2, l2, o2, q2⟩ => ?_, fun x H' hy => ?_⟩
    · refine ⟨r.length, by rw [← hm]; exact Nat.lt_succ_self _, w2, s2, l2, o2, by rw [h2], by rw [h2]; exact q2⟩
    · obtain ⟨w2, nx, fok, rx⟩ := yl x H' hy
      have ok2 := ok'.step nx fok
      refine ⟨κ, w2, s', d, ok2, rx, ?_⟩
      have q' : PostS G W κ w' ((noX (g d s')).bind fun _ s1 => loopOut (b s1) (forL g b r)) N := q'
      refine PostT.ofNoX ?_
      cases e3 : noX (g d s') with
      | stuck => rw [e3] at q'; exact q'.elim
      | exc x s' => exact absurd e3 (noX_exc _ _ _)
      | ok u s3 =>
        rw [e3] at q'
        intro w3 σ3 H3 l3 o3 _
        refine ⟨κ, w3, s3, o3, ?_⟩
        have q' : PostS G W κ w' (loopOut (b s3) (forL g b r)) N := q'
        have lw : w'.le w3 := nx.le.trans l3
        cases e4 : b s3 with
        | stuck => rw [e4] at q'; exact q'.elim
        | exc x s4 => rw [e4] at q'; exact PostS.mono (r := .exc x s4) lw q'
        | ok o s4 =>
          rw [e4] at q'
          cases o with
          | nx => exact fun w4 σ4 H4 l4 o4 => ⟨w4, s4, (le'.trans lw).trans l4, o4, PostS.mono (lw.trans l4) q'⟩
          | ct => exact fun w4 σ4 H4 l4 o4 => ⟨w4, s4, (le'.trans lw).trans l4, o4, PostS.mono (lw.trans l4) q'⟩
          | bk => exact PostS.mono (r := .ok .nx s4) lw q'
          | rt d => exact PostS.mono (r := .ok (.rt d) s4) lw q'
theorem pds_for {tg iter : Expr} {body : List Stmt} {it : DA} {is : List Nat} {g : DG} {b : DStm} {pos : Pos} (hp : PassesOwn (model X.prog X.w) X.A X.env X.xe) (hc : X.calm = true) (hi : PDI G W X tg iter it) (hg : PDG G X tg is g) (hb : PDSs G W X body b)
    (hs : ∀ x, foldedSetIterable iter X.env x = pure x := by intro _; rfl) : PDS G W X (.For tg iter body [] pos) (sFor it g b) :=
  (ps_for hp hc hi hg hb hs).imp fun N σ H ⟨κ, w, s, ok, q⟩ => ⟨κ, w, s, ok, by
    unfold sFor at q
    cases e : it s with
    | stuck => rw [e] at q; exact q.elim
    | exc x s' =>
      rw [e] at q
      exact fun w' c dd H' l o r => q w' σ c dd H' l o r
    | ok ds s' =>
      rw [e] at q
      intro w' J H' l o hJ
      exact for_of hJ (.refl _) o (PostS.mono l q)⟩
end
end DL
set_option maxRecDepth 100000
set_option maxHeartbeats 4000000
set_option autoImplicit false
namespace DL
open PySem PySem.Spec PyProof.Rows L2
/-! ### what a def promises -/
section
variable (G : Gam)
def PostF {α : Type} (rep : Wd → V → α → Prop) (w : Wd) (H : Hp) (r : Res (List Cell) α) (Q : VK) (E : XK) : Prop := match r with
  | .ok d S' => ∀ w' v H', Nx w H w' H' → FOk G w' S' H' → rep w' v d → Q v H'
  | .exc x S' => ∀ w' c dd H', Nx w H w' H' → FOk G w' S' H' → RepX G w' c dd x → E c dd H'
  | .stuck => False
def spG (n : Nat) (g : DFn) : Sp := fun vs H Q E => vs.length = n ∧ ∃ w S ds, FOk G w S H ∧ Reps G w vs ds ∧ PostF G (Rep G) w H (g ds S) Q E
end
def lift {α : Type} (s : DS) (r : Res (List Cell) α) : Res DS α := match r with
  | .ok d S' => .ok d ⟨s.sl, S'⟩
  | .exc x S' => .exc x ⟨s.sl, S'⟩
  | .stuck => .stuck
section
variable {G : Gam} {W : WX} {X : Cx}
theorem postF_of {κ : Bs} {w : Wd} {s : DS} {σ : L2.St} {H : Hp} {r : Res (List Cell) D} {Q : VK} (ok : Ok G κ w s σ H) (q : PostG G W (Rep G) κ w σ (lift s r) Q) : PostF G (Rep G) w H r Q (WE W σ) := by
  cases r with
  | ok d S' => exact fun w' v H' n f r => q w' v H' n.le (ok.step n f) r
  | exc x S' => exact fun w' c dd H' n f r => q w' c dd H' n.le (ok.step n f) r
  | stuck => exact q
theorem callD {k : Nat} {f : Addr} {fd : FuncData} {ps : List Str} {n : Nat} {g : DFn} {pins : List (Addr × Obj)} {sh : Shared} {κ : Bs} {w : Wd} {s : DS} {σ : L2.St} {H : Hp} {vs : List V} {ds : List D} {us : List Value} {Q : VK}
    (F : FnOk X.prog X.w X.K X.mg X.base (L2.CX X.prog X.w) k f fd ps (spG G n g)) (hr : Room k X.A) (hb : Binds X.K fd ps []) (tk : Takes X W) (I : Inv X pins σ H sh) (ok : Ok G κ w s σ H) (rs : Reps G w vs ds) (r : Vals vs us) (hn : ds.length = n)
    (q : PostG G W (Rep G) κ w σ (lift s (g ds s.st)) Q) : wpAny (model X.prog X.w) X.A (call (.ref f) us) (EP X pins σ Q) X.xe sh := by
  refine run_fnSD (E := WE W) (dvs := []) (ds := []) F hr hb .nil (passAt tk σ) I r ?_
  rw [List.append_nil]
  exact ⟨by rw [rs.length]; exact hn, w, s.st, ds, ok.fok, rs, postF_of ok q⟩
/-! ### f(..) -/
def eCall (n : Nat) (g : DFn) (fa : DA) : DE := fun s => (fa s).bind fun ds s1 => if ds.length = n then lift s1 (g ds s1.st) else .stuck
theorem pd_call {k : Nat} {f : Addr} {fd : FuncData} {ps : List Str} {n : Nat} {g : DFn} {x : Str} {p pos : Pos} {e : Expr} {es : List Expr} {fa : DA} (F : FnOk X.prog X.w X.K X.mg X.base (L2.CX X.prog X.w) k f fd ps (spG G n g)) (hr : Room k X.A) (hg : Gl X x) (hm : X.mg x = some (.ref f))
    (hk : PySem.W.keepIn X.K (.ref f) = true) (hb : Binds X.K fd ps []) (tk : Takes X W) (ha : PDA G W X (e :: es) fa) (hdb : (x == ("__debug__" : Str)) = false := by decide) (he : starEach (e :: es) X.env = (false, eval e X.env) :: starEach es X.env := by rfl)
    (hpl : (backTo pos (starEach es X.env)).any (·.1) = false := by rfl) : PD G W X (.Call (.Name x p) (e :: es) [] pos) (eCall n g fa) := by
  refine ⟨fun pins s σ H Q I h => ?_⟩
  obtain ⟨κ, w, ds, ok, q⟩ := h
  refine wpAny_Call_Name_kw (ld_glob I hg hm ?_ hdb)
  have hh : tDA G W fa σ H fun vs H1 => ∃ d s1 w1, w.le w1 ∧ Ok G κ w1 s1 σ H1 ∧ Reps G w1 vs d ∧ PostG G W (Rep G) κ w1 σ (if d.length = n then lift s1 (g d s1.st) else .stuck) Q := ⟨κ, w, ds, ok, PostG.bind q⟩
  refine PySem.W.callWith_K (h₀ := X.base) I.ok.mod.kin hk (thn (ha.run pos pins s σ H _ I hh) fun us s1 ⟨vs, H1, I1, r, d, s2, w1, le, ok1, rs, q1⟩ => ⟨I1.kIn, ?_⟩) he hpl
  by_cases c : d.length = n
  · rw [if_pos c] at q1
    exact callD F hr hb tk I1 ok1 rs r c q1
  · rw [if_neg c] at q1
    exact q1.elim
theorem pd_call0 {k : Nat} {f : Addr} {fd : FuncData} {ps : List Str} {g : DFn} {x : Str} {p pos : Pos} (F : FnOk X.prog X.w X.K X.mg X.base (L2.CX X.prog X.w) k f fd ps (spG G 0 g)) (hr : Room k X.A) (hg : Gl X x) (hm : X.mg x = some (.ref f))
    (hk : PySem.W.keepIn X.K (.ref f) = true) (hb : Binds X.K fd ps []) (tk : Takes X W) (hdb : (x == ("__debug__" : Str)) = false := by decide) : PD G W X (.Call (.Name x p) [] [] pos) (eCall 0 g aNil) := by
  refine ⟨fun pins s σ H Q I h => ?_⟩
  obtain ⟨κ, w, ds, ok, q⟩ := h
  refine wpAny_Call_Name_kw (ld_glob I hg hm ?_ hdb)
  exact PySem.W.callWith_K0 I.kIn hk (callD (us := []) F hr hb tk I ok .nil .nil rfl q)
/-! ### the body of a def -/
def fnD (n : Nat) (body : DStm) (m : Nat) : DFn := fun ds S => if ds.length = n then match body ⟨ds.map Sl.val ++ List.replicate m .un, S⟩ with
  | .ok (.rt d) s => .ok d s.st
  | .ok .nx s => .ok .non s.st
  | .exc x s => .exc x s.st
  | _ => .stuck
  else .stuck
theorem Ok.start {w : Wd} {S : List Cell} {H : Hp} {vs : List V} {ds : List D} (f : FOk G w S H) (r : Reps G w vs ds) (m : Nat) : Ok G ⟨w, H, [], none⟩ w ⟨ds.map Sl.val ++ List.replicate m .un, S⟩ (vs.map some ++ List.replicate m none) H := by
  have no : ∀ (i : Nat) (x : Sl), (ds.map Sl.val ++ List.replicate m Sl.un)[i]? = some x → x.own = false := fun i x e => by
    have hx := List.mem_of_getElem? e
    rcases List.mem_append.mp hx with h | h
    · obtain ⟨d, _, rfl⟩ := List.mem_map.mp h
      rfl
    · rw [(List.mem_replicate.mp h).2]
      rfl
  refine ⟨f, .refl _ _, by simp [r.length], fun i d e => ?_, fun i x e o => ?_, fun i j x y a e1 e2 o1 o2 _ _ => ?_, fun p hp => by simp at hp, fun a z => nomatch z⟩
  · by_cases c : i < ds.length
    · have e1 : (ds.map Sl.val ++ List.replicate m Sl.un)[i]? = some (.val d) := e
      rw [List.getElem?_append_left (by rw [List.length_map]; exact c), List.getElem?_map] at e1
      cases q : ds[i]? with
      | none => rw [q] at e1; cases e1
      | some d' =>
        rw [q] at e1
        cases e1
        obtain ⟨v, h1, h2⟩ := r.get q
        refine ⟨v, ?_, h2⟩
        rw [List.getElem?_append_left (by rw [List.length_map, r.length]; exact c), List.getElem?_map, h1]
        rfl
    · have e1 : (ds.map Sl.val ++ List.replicate m Sl.un)[i]? = some (.val d) := e
      rw [List.getElem?_append_right (by rw [List.length_map]; omega), List.getElem?_replicate] at e1
      split at e1 <;> cases e1
  · rw [no i x e] at o; cases o
  · rw [no i x e1] at o1; cases o1
theorem start_eq {N : List Str} {vs : List V} {m : Nat} (h : N.length - vs.length = m) : L2.start N vs = vs.map some ++ List.replicate m none := by
  unfold L2.start
  rw [h]
theorem fn_okD {P : Program} {w0 : World} {mg : Str → Option Value} {base : Heap} {x qual : Str} {st : Stmt} {f : Addr} {fd : FuncData} {N ps : List Str} {k n m : Nat} {body : DStm} (F : Fun G.K x qual st f fd) (S : FnScope N ps (defScope st)) (hn : ps.length = n) (hm : N.length - n = m)
    (hbody : ∀ (cdv : Value) (A : Around) (outer : List Env) (s : Shared) (H : Hp) (E : XK), Room k (A.deeper (envOfC qual (defScope st) s.heap.objs.size f cdv)) →
      Takes (cxOf (L2.CX P w0) P w0 G.K mg base N qual (defScope st) f cdv A outer s H E) (fun c d _ H => E c d H) → PassesOwn (model P w0) (A.deeper (envOfC qual (defScope st) s.heap.objs.size f cdv)) (envOfC qual (defScope st) s.heap.objs.size f cdv) (cxOf (L2.CX P w0) P w0 G.K mg base N qual (defScope st) f cdv A outer s H E).xe →
      PDSs G (fun c d _ H => E c d H) (cxOf (L2.CX P w0) P w0 G.K mg base N qual (defScope st) f cdv A outer s H E) (defBody st) body) : FnOk P w0 G.K mg base (L2.CX P w0) (k + 1) f fd ps (spG G n (fnD n body m)) := by
  refine F.okX S (fun vs H Q E h => by rw [h.1, hn]) fun cdv A outer s H vs Q E hr h => ?_
  refine ⟨_, hbody cdv A outer s H E hr (takes_of rfl rfl rfl rfl) (passes_of rfl), ?_⟩
  obtain ⟨hl, w, S', ds, fok, rs, q⟩ := h
  have hd : ds.length = n := by rw [← rs.length]; exact hl
  unfold fnD at q
  rw [if_pos hd] at q
  rw [start_eq (m := m) (by rw [hl]; exact hm)]
  refine ⟨⟨w, H, [], none⟩, w, _, Ok.start fok rs m, ?_⟩
  cases e : body ⟨ds.map Sl.val ++ List.replicate m .un, S'⟩ with
  | stuck => rw [e] at q; exact q.elim
  | exc x s' =>
    rw [e] at q
    exact fun w' σ' c dd H' l o r => q w' c dd H' o.nx o.fok r
  | ok o s' =>
    rw [e] at q
    cases o with
    | nx => exact fun w' σ' H' l o => q w' .non H' o.nx o.fok .non
    | bk => exact q.elim
    | ct => exact q.elim
    | rt d => exact fun w' σ' v H' l o r => q w' v H' o.nx o.fok r
/-! ### attributes -/
def insOf (d : D) (s : DS) : Option (String × List (Nm × D)) := match d with
  | .ins c fs => some (c, fs)
  | .cell n => match s.st[n]? with
    | some (.obj c fs) => some (c, fs)
    | _ => none
  | _ => none
theorem Rep.ins_of {κ : Bs} {w : Wd} {s : DS} {σ : L2.St} {H : Hp} {v : V} {d : D} {c : String} {fs : List (Nm × D)} (r : Rep G w v d) (ok : Ok G κ w s σ H) (h : insOf d s = some (c, fs)) : ∃ a C dx vs, v = .ref a ∧ G.ct c = some C ∧ H a = some (.ins C dx vs) ∧ RepF G w vs fs := by
  cases r with
  | @ins a C dx c' vs ds e1 e2 e3 =>
    have h : some (c', ds) = some (c, fs) := h
    cases h
    exact ⟨a, C, dx, vs, rfl, e1, ok.fok.sub _ _ e2, e3⟩
  | @cell a n e =>
    unfold insOf at h
    cases q : s.st[n]? with
    | none => simp [q] at h
    | some c' =>
      cases c' with
      | obj cc ff =>
        simp only [q] at h
        cases h
        obtain ⟨C, dx, vs, h1, h2, h3⟩ := ok.fok.cel n a _ e q
        exact ⟨a, C, dx, vs, rfl, h1, h2, h3⟩
      | _ => simp [q] at h
  | _ => exact nomatch h
def eFld (cs : List String) (fn : Nm) (f : DE) : DE := fun s => (f s).bind fun d s1 => match insOf d s1 with
  | some (c, fs) => if c ∈ cs then match fs.lookup fn with
    | some x => .ok x s1
    | none => .stuck
    else .stuck
  | none => .stuck
/-- what of the text the classes must have for an attribute -/
def FldOk (G : Gam) (cs : List String) (fn : Nm) : Prop := ∀ c ∈ cs, ∀ C, G.ct c = some C → Cls G.K C ∧ NoAttr G.K C (nm fn)
theorem pd_fld (hK : G.K = X.K) {cs : List String} {fn : Nm} {f : DE} {e : Expr} {x : Str} {pos : Pos} (hx : x = nm fn) (ho : FldOk G cs fn) (h : PD G W X e f) (hb : attributeBase e x X.env (eval e X.env) = eval e X.env := by rfl) : PD G W X (.Attribute e x pos) (eFld cs fn f) :=
  (pe_fld h hb).imp fun σ H Q ⟨κ, w, s, ok, q⟩ => ⟨κ, w, s, ok, (PostG.bind q).imp fun v H1 ⟨d, s1, w1, le, ok1, r1, q1⟩ => by
    cases e1 : insOf d s1 with
    | none => rw [e1] at q1; exact q1.elim
    | some p =>
      obtain ⟨c, fs⟩ := p
      rw [e1] at q1
      obtain ⟨a, C, dx, vs, ev, hC, hH, rf⟩ := r1.ins_of ok1 e1
      have q1 : PostG G W (Rep G) κ w1 σ (if c ∈ cs then match fs.lookup fn with | some x => .ok x s1 | none => .stuck else .stuck) Q := q1
      by_cases hc : c ∈ cs
      · rw [if_pos hc] at q1
        cases e2 : fs.lookup fn with
        | none => rw [e2] at q1; exact q1.elim
        | some z =>
          rw [e2] at q1
          obtain ⟨y, h1, h2⟩ := rf.look e2
          obtain ⟨cl, na⟩ := ho c hc C hC
          refine ⟨a, C, dx, vs, y, ev, hH, hK ▸ cl, by rw [hx]; exact hK ▸ na, by rw [hx]; exact h1, q1 w1 y H1 (.refl _) ok1 h2⟩
      · rw [if_neg hc] at q1
        exact q1.elim⟩
/-! ### o.m(..) -/
def eMeth (c : String) (m : Nm) (n : Nat) (g : DFn) (fo : DE) (fa : DA) : DE := fun s => (fo s).bind fun d s1 => match insOf d s1 with
  | some (c', fs) => if c' = c ∧ fs.lookup m = none then (fa s1).bind fun ds s2 => if ds.length + 1 = n then lift s2 (g (d :: ds) s2.st) else .stuck
    else .stuck
  | none => .stuck
theorem pd_meth (hK : G.K = X.K) {c : String} {mn : Nm} {n : Nat} {g : DFn} {fo : DE} {fa : DA} {C f : Addr} {m : Str} {k : Nat} {fd : FuncData} {ps : List Str} {o e : Expr} {es : List Expr} {apos pos : Pos} {pl : Sem Bool} (he : PD G W X o fo) (hC : G.ct c = some C) (cl : Cls X.K C) (hmn : m = nm mn) (hm : Meth X.K C m f)
    (F : FnOk X.prog X.w X.K X.mg X.base (L2.CX X.prog X.w) k f fd ps (spG G n g)) (hr : Room k X.A) (hb : Binds X.K fd ps []) (tk : Takes X W) (ha : PDA G W X (e :: es) fa)
    (hst : starEach (e :: es) X.env = (false, eval e X.env) :: starEach es X.env := by rfl) (hpl : (backTo pos (starEach es X.env)).any (·.1) = false := by rfl)
    (ht : eval (.Call (.Attribute o m apos) (e :: es) [] pos) X.env = (do
      let ov ← eval o X.env
      standAt apos.atName
      let (f, first) ← holding [ov] (getMethod ov m pl)
      callWith pos f first (backTo pos (starEach (e :: es) X.env)) (backToKw pos (keywordEach [] X.env))) := by rfl) :
    PD G W X (.Call (.Attribute o m apos) (e :: es) [] pos) (eMeth c mn n g fo fa) := by
  refine ⟨fun pins sh σ H Q I h => ?_⟩
  obtain ⟨κ, w, s, ok, q⟩ := h
  have hh : tD G W fo σ H fun v H1 => ∃ d s1 w1, w.le w1 ∧ Ok G κ w1 s1 σ H1 ∧ Rep G w1 v d ∧ PostG G W (Rep G) κ w1 σ (match insOf d s1 with
    | some (c', fs) => if c' = c ∧ fs.lookup mn = none then (fa s1).bind fun ds s2 => if ds.length + 1 = n then lift s2 (g (d :: ds) s2.st) else .stuck else .stuck
    | none => .stuck) Q := ⟨κ, w, s, ok, PostG.bind q⟩
  refine PySem.W.methodCall_KW (pl := pl) (thn (he.run pins sh σ H _ I hh) fun u s1 ⟨x, H1, I1, rx, d, t1, w1, le, ok1, r1, q1⟩ => ?_) ht
  cases e1 : insOf d t1 with
  | none => rw [e1] at q1; exact q1.elim
  | some p =>
    obtain ⟨c', fs⟩ := p
    rw [e1] at q1
    replace q1 : PostG G W (Rep G) κ w1 σ (if c' = c ∧ fs.lookup mn = none then (fa t1).bind fun ds s2 => if ds.length + 1 = n then lift s2 (g (d :: ds) s2.st) else .stuck else .stuck) Q := q1
    by_cases hc : c' = c ∧ fs.lookup mn = none
    · rw [if_pos hc] at q1
      obtain ⟨rfl, hl⟩ := hc
      obtain ⟨a, C', dx, vs, ev, hC', hH, rf⟩ := r1.ins_of ok1 e1
      rw [hC] at hC'
      cases hC'
      subst ev
      obtain rfl : u = Value.ref a := rx
      have hl2 : vs.lookup m = none := by rw [hmn]; exact rf.none hl
      refine getmeth_ok I1 hH cl hm hl2 ?_
      have hh2 : tDA G W fa σ H1 fun vs H2 => ∃ ds s2 w2, w1.le w2 ∧ Ok G κ w2 s2 σ H2 ∧ Reps G w2 vs ds ∧ PostG G W (Rep G) κ w2 σ (if ds.length + 1 = n then lift s2 (g (d :: ds) s2.st) else .stuck) Q := ⟨κ, w1, t1, ok1, PostG.bind q1⟩
      refine PySem.W.callWith_K (first := [.ref a]) (h₀ := X.base) I.ok.mod.kin hm.kp (thn (ha.run pos pins s1 σ H1 _ I1 hh2) fun us s2 ⟨vs2, H2, I2, r2, ds, t2, w2, le2, ok2, rs2, q2⟩ => ⟨I2.kIn, ?_⟩) hst hpl
      by_cases c3 : ds.length + 1 = n
      · rw [if_pos c3] at q2
        exact callD (us := .ref a :: us) (vs := .ref a :: vs2) (ds := d :: ds) F hr hb tk I2 ok2 (.cons (r1.mono le2) rs2) (.cons rfl r2) c3 q2
      · rw [if_neg c3] at q2
        exact q2.elim
    · rw [if_neg hc] at q1
      exact q1.elim
theorem pd_meth0 (hK : G.K = X.K) {c : String} {mn : Nm} {n : Nat} {g : DFn} {fo : DE} {C f : Addr} {m : Str} {k : Nat} {fd : FuncData} {ps : List Str} {o : Expr} {apos pos : Pos} {pl : Sem Bool} (he : PD G W X o fo) (hC : G.ct c = some C) (cl : Cls X.K C) (hmn : m = nm mn) (hm : Meth X.K C m f)
    (F : FnOk X.prog X.w X.K X.mg X.base (L2.CX X.prog X.w) k f fd ps (spG G n g)) (hr : Room k X.A) (hb : Binds X.K fd ps []) (tk : Takes X W)
    (ht : eval (.Call (.Attribute o m apos) [] [] pos) X.env = (do
      let ov ← eval o X.env
      standAt apos.atName
      let (f, first) ← holding [ov] (getMethod ov m pl)
      callWith pos f first (backTo pos (starEach [] X.env)) (backToKw pos (keywordEach [] X.env))) := by rfl) :
    PD G W X (.Call (.Attribute o m apos) [] [] pos) (eMeth c mn n g fo aNil) := by
  refine ⟨fun pins sh σ H Q I h => ?_⟩
  obtain ⟨κ, w, s, ok, q⟩ := h
  have hh : tD G W fo σ H fun v H1 => ∃ d s1 w1, w.le w1 ∧ Ok G κ w1 s1 σ H1 ∧ Rep G w1 v d ∧ PostG G W (Rep G) κ w1 σ (match insOf d s1 with
    | some (c', fs) => if c' = c ∧ fs.lookup mn = none then (aNil s1).bind fun ds s2 => if ds.length + 1 = n then lift s2 (g (d :: ds) s2.st) else .stuck else .stuck
    | none => .stuck) Q := ⟨κ, w, s, ok, PostG.bind q⟩
  refine PySem.W.methodCall_KW (pl := pl) (thn (he.run pins sh σ H _ I hh) fun u s1 ⟨x, H1, I1, rx, d, t1, w1, le, ok1, r1, q1⟩ => ?_) ht
  cases e1 : insOf d t1 with
  | none => rw [e1] at q1; exact q1.elim
  | some p =>
    obtain ⟨c', fs⟩ := p
    rw [e1] at q1
    replace q1 : PostG G W (Rep G) κ w1 σ (if c' = c ∧ fs.lookup mn = none then (if 0 + 1 = n then lift t1 (g [d] t1.st) else .stuck) else .stuck) Q := q1
    by_cases hc : c' = c ∧ fs.lookup mn = none
    · rw [if_pos hc] at q1
      obtain ⟨rfl, hl⟩ := hc
      obtain ⟨a, C', dx, vs, ev, hC', hH, rf⟩ := r1.ins_of ok1 e1
      rw [hC] at hC'
      cases hC'
      subst ev
      obtain rfl : u = Value.ref a := rx
      have hl2 : vs.lookup m = none := by rw [hmn]; exact rf.none hl
      refine getmeth_ok I1 hH cl hm hl2 ?_
      by_cases c3 : 0 + 1 = n
      · rw [if_pos c3] at q1
        exact PySem.W.callWith_K0 (first := [.ref a]) I1.kIn hm.kp (callD (us := [.ref a]) (vs := [.ref a]) (ds := [d]) F hr hb tk I1 ok1 (.cons r1 .nil) (.cons rfl .nil) c3 q1)
      · rw [if_neg c3] at q1
        exact q1.elim
    · rw [if_neg hc] at q1
      exact q1.elim
/-! ### C(..): an instance of one's own class is made -/
abbrev DIn := List D → List Cell → Res (List Cell) (List (Nm × D))
def erase (H : Hp) (x : Addr) : Hp := fun a => if a = x then none else H a
def spI (G : Gam) (c : String) (n : Nat) (g : DIn) : Sp := fun vs H Q E => vs.length = n + 1 ∧ ∃ w S ds x vs' C dx, vs = .ref x :: vs' ∧ G.ct c = some C ∧ H x = some (.ins C dx []) ∧ FOk G w S H ∧ w.F x = none ∧ x ∉ w.ρ ∧ Reps G w vs' ds ∧
  match g ds S with
  | .ok fs S' => ∀ w' H' vfs dx', Nx w (erase H x) w' H' → FOk G w' S' H' → H' x = some (.ins C dx' vfs) → RepF G w' vfs fs → w'.F x = none → x ∉ w'.ρ → Q .non H'
  | .exc x' S' => ∀ w' cc dd H', Nx w (erase H x) w' H' → FOk G w' S' H' → RepX G w' cc dd x' → E cc dd H'
  | .stuck => False
def inFin (c : String) (s : DS) : Res (List Cell) (List (Nm × D)) := match (s.sl[0]? : Option Sl) with
  | some (.oi c' fs) => if c' = c then .ok fs s.st else .stuck
  | _ => .stuck
def inD (c : String) (n : Nat) (body : DStm) (m : Nat) : DIn := fun ds S => if ds.length = n then
  match body ⟨.oi c [] :: ds.map Sl.val ++ List.replicate m .un, S⟩ with
  | .ok (.rt .non) s => inFin c s
  | .ok .nx s => inFin c s
  | .exc x s => .exc x s.st
  | _ => .stuck
  else .stuck
theorem Ok.startI {w : Wd} {S : List Cell} {H : Hp} {vs : List V} {ds : List D} {x C dx : Addr} {c : String} (f : FOk G w S H) (r : Reps G w vs ds) (m : Nat) (hC : G.ct c = some C) (hx : H x = some (.ins C dx [])) (nF : w.F x = none) (nR : x ∉ w.ρ) :
    Ok G ⟨w, erase H x, [], some x⟩ w ⟨.oi c [] :: ds.map Sl.val ++ List.replicate m .un, S⟩ (some (.ref x) :: vs.map some ++ List.replicate m none) H := by
  have base := Ok.start f r m
  have no : ∀ (i : Nat) (y : Sl), (ds.map Sl.val ++ List.replicate m Sl.un)[i]? = some y → y.own = false := fun i y e => by
    have hx := List.mem_of_getElem? e
    rcases List.mem_append.mp hx with h | h
    · obtain ⟨d, _, rfl⟩ := List.mem_map.mp h
      rfl
    · rw [(List.mem_replicate.mp h).2]
      rfl
  refine ⟨f, ⟨.refl _, fun a o e _ => ?_, fun a h => .inl h, fun a h => .inl h⟩, by simp [r.length], fun i d e => ?_, fun i y e o => ?_, fun i j y z a e1 e2 o1 o2 _ _ => ?_, fun p hp => by simp at hp, fun a z c' fs' _ => by cases z; rfl⟩
  · have e : (if a = x then none else H a) = some o := e
    split at e
    · cases e
    · exact e
  · cases i with
    | zero => cases e
    | succ i => exact base.val i d e
  · cases i with
    | zero =>
      cases e
      exact ⟨x, rfl, ⟨C, dx, [], hC, hx, .nil⟩, nF, nR, by show (if x = x then none else H x) = none; rw [if_pos rfl]⟩
    | succ i =>
      rw [no i y e] at o
      cases o
  · cases i with
    | zero =>
      cases j with
      | zero => rfl
      | succ j => rw [no j z e2] at o2; cases o2
    | succ i => rw [no i y e1] at o1; cases o1
theorem in_okD {P : Program} {w0 : World} {mg : Str → Option Value} {base : Heap} {x qual : Str} {st : Stmt} {f : Addr} {fd : FuncData} {N ps : List Str} {c : String} {k n m : Nat} {body : DStm} (F : Fun G.K x qual st f fd) (S : FnScope N ps (defScope st)) (hn : ps.length = n + 1) (hm : N.length - (n + 1) = m)
    (hbody : ∀ (cdv : Value) (A : Around) (outer : List Env) (s : Shared) (H : Hp) (E : XK), Room k (A.deeper (envOfC qual (defScope st) s.heap.objs.size f cdv)) →
      Takes (cxOf (L2.CX P w0) P w0 G.K mg base N qual (defScope st) f cdv A outer s H E) (fun c d _ H => E c d H) → PassesOwn (model P w0) (A.deeper (envOfC qual (defScope st) s.heap.objs.size f cdv)) (envOfC qual (defScope st) s.heap.objs.size f cdv) (cxOf (L2.CX P w0) P w0 G.K mg base N qual (defScope st) f cdv A outer s H E).xe →
      PDSs G (fun c d _ H => E c d H) (cxOf (L2.CX P w0) P w0 G.K mg base N qual (defScope st) f cdv A outer s H E) (defBody st) body) : FnOk P w0 G.K mg base (L2.CX P w0) (k + 1) f fd ps (spI G c n (inD c n body m)) := by
  refine F.okX S (fun vs H Q E h => by rw [h.1, hn]) fun cdv A outer s H vs Q E hr h => ?_
  refine ⟨_, hbody cdv A outer s H E hr (takes_of rfl rfl rfl rfl) (passes_of rfl), ?_⟩
  obtain ⟨hl, w, S', ds, xa, vs', C, dx, ev, hC, hx, fok, nF, nR, rs, q⟩ := h
  subst ev
  have hl' : vs'.length = n := by simpa using hl
  have hd : ds.length = n := by rw [← rs.length]; exact hl'
  unfold inD at q
  rw [if_pos hd] at q
  rw [start_eq (m := m) (by rw [List.length_cons, hl']; exact hm)]
  refine ⟨⟨w, erase H xa, [], some xa⟩, w, _, Ok.startI fok rs m hC hx nF nR, ?_⟩
  have fin : ∀ (w' : Wd) (σ' : L2.St) (H' : Hp) (s' : DS), Ok G ⟨w, erase H xa, [], some xa⟩ w' s' σ' H' →
      (match inFin c s' with
        | .ok fs S' => ∀ w' H' vfs dx', Nx w (erase H xa) w' H' → FOk G w' S' H' → H' xa = some (.ins C dx' vfs) → RepF G w' vfs fs → w'.F xa = none → xa ∉ w'.ρ → Q .non H'
        | .exc x' S' => ∀ w' cc dd H', Nx w (erase H xa) w' H' → FOk G w' S' H' → RepX G w' cc dd x' → E cc dd H'
        | .stuck => False) → Q .non H' := fun w' σ' H' s' o q => by
    unfold inFin at q
    cases e0 : s'.sl[0]? with
    | none => rw [e0] at q; exact q.elim
    | some y =>
      rw [e0] at q
      cases y with
      | oi c' fs =>
        by_cases hc : c' = c
        · subst hc
          simp only [if_true] at q
          have h0 := o.me xa rfl _ _ e0
          obtain ⟨a, h1, ⟨C', dx', vfs, hC', hH, rf⟩, h3, h4, _⟩ := o.own 0 _ e0 rfl
          rw [h0] at h1
          cases h1
          rw [hC] at hC'
          cases hC'
          exact q w' H' vfs dx' o.nx o.fok hH rf h3 h4
        · simp only [if_neg hc] at q
      | _ => exact q.elim
  cases e : body ⟨.oi c [] :: ds.map Sl.val ++ List.replicate m .un, S'⟩ with
  | stuck => rw [e] at q; exact q.elim
  | exc x s' =>
    rw [e] at q
    exact fun w' σ' c dd H' l o r => q w' c dd H' o.nx o.fok r
  | ok o s' =>
    rw [e] at q
    cases o with
    | nx => exact fun w' σ' H' l o => fin w' σ' H' s' o q
    | bk => exact q.elim
    | ct => exact q.elim
    | rt d =>
      intro w' σ' v H' l o r
      cases r with
      | non => exact fin w' σ' H' s' o q
      | _ => exact q.elim
/-- what of the text a class must have to be made -/
theorem makeD {c : String} {n k : Nat} {g : DIn} {C f : Addr} {fd : FuncData} {ps : List Str} {pins : List (Addr × Obj)} {sh : Shared} {κ : Bs} {w : Wd} {s : DS} {σ : L2.St} {H : Hp} {vs : List V} {ds : List D} {us : List Value} {Q : VK} (M : Mk X.K C f) (hC : G.ct c = some C)
    (F : FnOk X.prog X.w X.K X.mg X.base (L2.CX X.prog X.w) k f fd ps (spI G c n g)) (hr : Room (k + 1) X.A) (hb : Binds X.K fd ps []) (tk : Takes X W) (I : Inv X pins σ H sh) (ok : Ok G κ w s σ H) (rs : Reps G w vs ds) (r : Vals vs us) (hn : ds.length = n)
    (q : PostG G W (Rep G) κ w σ ((lift s (g ds s.st)).bind fun fs s1 => .ok (.ins c fs) s1) Q) : wpAny (model X.prog X.w) X.A (call (.ref C) us) (EP X pins σ Q) X.xe sh := by
  have key : ∀ x dx, H x = none → H dx = none → dx ≠ x → spI G c n g (.ref x :: (vs ++ [])) (upd (upd H dx (.own x)) x (.ins C dx [])) (fun v H2 => v = .non ∧ Q (.ref x) H2) (WE W σ) := fun x dx nx ndx ne => by
    have o1 := ok.fresh ndx (.own x)
    have nx1 : upd H dx (.own x) x = none := by rw [upd_ne (Ne.symm ne)]; exact nx
    have o2 := o1.fresh nx1 (.ins C dx [])
    obtain ⟨g1, g2, g3, g4, g5⟩ := o2.gam (x, .ins C dx []) List.mem_cons_self
    have kx : ∀ a o, H a = some o → erase (upd (upd H dx (.own x)) x (.ins C dx [])) x a = some o := fun a o e => by
      have h1 : a ≠ x := ne_of_none e nx
      have h2 : a ≠ dx := ne_of_none e ndx
      show (if a = x then none else _) = some o
      rw [if_neg h1, upd_ne h1, upd_ne h2]
      exact e
    have bk : ∀ a, erase (upd (upd H dx (.own x)) x (.ins C dx [])) x a = none → H a = none := fun a e => by
      cases e2 : H a with
      | none => rfl
      | some o => rw [kx a o e2] at e; cases e
    refine ⟨by rw [List.append_nil, List.length_cons, rs.length, hn], w, s.st, ds, x, vs, C, dx, by rw [List.append_nil], hC, g1, o2.fok, g2, g3, rs, ?_⟩
    cases e : g ds s.st with
    | stuck => rw [e] at q; exact q.elim
    | exc x' S' =>
      rw [e] at q
      exact fun w' cc dd H' nn f' r => q w' cc dd H' nn.le (ok.step ⟨nn.le, fun a o e1 e2 => nn.keep a o (kx a o e1) e2, fun a h => (nn.newF a h).imp_right (bk a), fun a h => (nn.newR a h).imp_right (bk a)⟩ f') r
    | ok fs S' =>
      rw [e] at q
      intro w' H' vfs dx' nn f' hx rf hF hR
      refine ⟨rfl, ?_⟩
      have N1 : Nx w H w' H' := ⟨nn.le, fun a o e1 e2 => nn.keep a o (kx a o e1) e2, fun a h => (nn.newF a h).imp_right (bk a), fun a h => (nn.newR a h).imp_right (bk a)⟩
      have o3 : Ok G (κ.plus x (.ins C dx' vfs)) w' ⟨s.sl, S'⟩ σ H' := by
        have o3 := ok.step N1 f'
        refine ⟨o3.fok, o3.nx, o3.len, o3.val, o3.own, o3.ne, fun p hp => ?_, o3.me⟩
        rcases List.mem_cons.mp hp with rfl | hp
        · exact ⟨hx, hF, hR, g4, g5⟩
        · exact o3.gam p hp
      obtain ⟨le, o4⟩ := o3.frz fun p hp => ne_of_none (ok.gam p hp).1 nx
      exact q _ _ _ (nn.le.trans le) o4 (.ins hC upd_same (rf.mono le))
  have hx : PassesAt (L2.CX X.prog X.w) X σ (WE W σ) := passAt tk σ
  have hq := key (sh.heap.objs.size + 1) sh.heap.objs.size (I.hok.fresh (Nat.le_succ _)) (I.hok.fresh (Nat.le_refl _)) (Nat.ne_of_lt (Nat.lt_succ_self _))
  have I2 := Inv.made (C := C) I
  have r2 : Vals (V.ref (sh.heap.objs.size + 1) :: (vs ++ [])) (Value.ref (sh.heap.objs.size + 1) :: (us ++ [])) := .cons rfl (r.append .nil)
  have hl : (Value.ref (sh.heap.objs.size + 1) :: us ++ []).length = ps.length := by
    have e := r2.length
    rw [F.len _ _ _ _ hq] at e
    exact e.symm
  refine wpAny_call (make_map (f := f) I.kIn M.makes M.init (beq_iff_eq.mp M.fn) (codeAny_mono (F.run _ X.stack _ _ ⟨Value.ref (sh.heap.objs.size + 1) :: us, []⟩ (Value.ref (sh.heap.objs.size + 1) :: (us ++ [])) _ _ (WE W σ) (hr.make C us [])
    (I2.env0.make C us []) (by
      have hbb := hb _ (Value.ref (sh.heap.objs.size + 1) :: us) I2.kIn hl
      rw [List.cons_append] at hbb
      exact hbb) r2 hq) fun r s' hq' => ?_))
  cases r with
  | error e => exact hx pins _ _ e s' I2 hq'
  | ok fl =>
    cases fl with
    | ret u =>
      obtain ⟨v, H', I3, rv, ev, q3⟩ := I2.after hq'
      subst ev
      exact ⟨rv, ⟨V.ref (sh.heap.objs.size + 1), H', I3, rfl, q3⟩⟩
    | next => exact False.elim hq'
    | brk => exact False.elim hq'
    | cont => exact False.elim hq'
def eMake (c : String) (n : Nat) (g : DIn) (fa : DA) : DE := fun s => (fa s).bind fun ds s1 => if ds.length = n then (lift s1 (g ds s1.st)).bind fun fs s2 => .ok (.ins c fs) s2 else .stuck
theorem pd_make {c : String} {n k : Nat} {g : DIn} {C f : Addr} {fd : FuncData} {ps : List Str} {x : Str} {p pos : Pos} {e : Expr} {es : List Expr} {fa : DA} (M : Mk X.K C f) (hC : G.ct c = some C) (F : FnOk X.prog X.w X.K X.mg X.base (L2.CX X.prog X.w) k f fd ps (spI G c n g)) (hr : Room (k + 1) X.A) (hg : Gl X x)
    (hm : X.mg x = some (.ref C)) (hb : Binds X.K fd ps []) (tk : Takes X W) (ha : PDA G W X (e :: es) fa) (hdb : (x == ("__debug__" : Str)) = false := by decide) (he : starEach (e :: es) X.env = (false, eval e X.env) :: starEach es X.env := by rfl)
    (hpl : (backTo pos (starEach es X.env)).any (·.1) = false := by rfl) : PD G W X (.Call (.Name x p) (e :: es) [] pos) (eMake c n g fa) := by
  refine ⟨fun pins s σ H Q I h => ?_⟩
  obtain ⟨κ, w, ds, ok, q⟩ := h
  refine wpAny_Call_Name_kw (ld_glob I hg hm ?_ hdb)
  have hh : tDA G W fa σ H fun vs H1 => ∃ d s1 w1, w.le w1 ∧ Ok G κ w1 s1 σ H1 ∧ Reps G w1 vs d ∧ PostG G W (Rep G) κ w1 σ (if d.length = n then (lift s1 (g d s1.st)).bind fun fs s2 => .ok (.ins c fs) s2 else .stuck) Q := ⟨κ, w, ds, ok, PostG.bind q⟩
  refine PySem.W.callWith_K (h₀ := X.base) I.ok.mod.kin M.kp (thn (ha.run pos pins s σ H _ I hh) fun us s1 ⟨vs, H1, I1, r, d, s2, w1, le, ok1, rs, q1⟩ => ⟨I1.kIn, ?_⟩) he hpl
  by_cases c : d.length = n
  · rw [if_pos c] at q1
    exact makeD M hC F hr hb tk I1 ok1 rs r c q1
  · rw [if_neg c] at q1
    exact q1.elim
/-! ### self.f = e -/
def sFldO (c : String) (i : Nat) (fn : Nm) (f : DE) : DStm := fun s => (f s).bind fun d s1 => match s1.sl[i]? with
  | some (.oi c' fs) => if c' = c ∧ fs.length < 1000 then .ok .nx ⟨s1.sl.set i (.oi c (putN fn d fs)), s1.st⟩ else .stuck
  | _ => .stuck
theorem RepF.put {w : Wd} {y : V} {d : D} {fn : Nm} (r : Rep G w y d) : ∀ {v : List (Str × V)} {ds : List (Nm × D)}, RepF G w v ds → RepF G w (putF (nm fn) y v) (putN fn d ds)
  | _, _, .nil => .cons r .nil
  | _, _, .cons (f := g) a b => by
    unfold putF putN
    by_cases h : g = fn
    · subst h
      rw [if_pos rfl]
      simp only [if_true]
      first
        | exact .cons r b
        | (split <;> first | exact .cons r b | (rename_i q; exact absurd rfl q))
    · have h2 : nm g ≠ nm fn := fun q => h (nm_inj q)
      rw [if_neg h]
      split
      · rename_i q; exact absurd q h2
      · exact .cons a (RepF.put r b)
theorem pds_fld (hK : G.K = X.K) {c : String} {C : Addr} {i : Nat} {fn : Nm} {f : DE} {x y : Str} {p pos' pos : Pos} {value : Expr} (ho : PE X (.Name y p) (tVar i)) (hx : x = nm fn) (hC : G.ct c = some C) (cl : Cls X.K C) (na : NoAttr X.K C x) (hv : PD G W X value f)
    (hs : swapsWith value (some (.Attribute (.Name y p) x pos')) pos.line X.env = pure false := by rfl) : PDS G W X (.Assign [.Attribute (.Name y p) x pos'] value pos) (sFldO c i fn f) :=
  (ps_fld ho hv hs).imp fun N σ H ⟨κ, w, s, ok, q⟩ => ⟨κ, w, s, ok, (PostG.bindS q).imp fun v H1 ⟨d, s1, w1, le, ok1, r1, q1⟩ => by
    cases e : s1.sl[i]? with
    | none => rw [e] at q1; exact q1.elim
    | some z =>
      rw [e] at q1
      cases z with
      | oi c' fs =>
        replace q1 : PostS G W κ w1 (if c' = c ∧ fs.length < 1000 then .ok .nx ⟨s1.sl.set i (.oi c (putN fn d fs)), s1.st⟩ else .stuck) N := q1
        by_cases hc : c' = c ∧ fs.length < 1000
        · rw [if_pos hc] at q1
          obtain ⟨rfl, hl⟩ := hc
          obtain ⟨a, h1, ⟨C', dx, vs, hC', hH, rf⟩, _⟩ := ok1.own i _ e rfl
          rw [hC] at hC'
          cases hC'
          refine ⟨_, h1, a, C, dx, vs, rfl, hH, cl, na, by rw [rf.length]; exact hl, ?_⟩
          refine q1 w1 σ _ (.refl _) (ok1.mut e rfl rfl h1 ⟨C, dx, _, hC, upd_same, ?_⟩ fun _ _ _ => ⟨_, _, rfl⟩)
          rw [hx]
          exact RepF.put r1 rf
        · rw [if_neg hc] at q1
          exact q1.elim
      | _ => exact q1.elim⟩
end
end DL
set_option maxRecDepth 100000
set_option maxHeartbeats 4000000
set_option autoImplicit false
namespace DL
open PySem PySem.Spec PyProof.Rows L2
section
variable {G : Gam} {W : WX} {X : Cx}
/-! ### operators that may call -/
abbrev DO2 := D → D → DS → Res DS D
def OpX (G : Gam) (W : WX) (X : Cx) (f : Value → Value → Sem Value) (o : DO2) : Prop := ∀ (pins : List (Addr × Obj)) (sh : Shared) (σ : L2.St) (H : Hp) (x y : V) (v u : Value) (κ : Bs) (w : Wd) (s : DS) (dx dy : D) (Q : VK),
  Inv X pins σ H sh → RelV x v → RelV y u → Ok G κ w s σ H → Rep G w x dx → Rep G w y dy → PostG G W (Rep G) κ w σ (o dx dy s) Q → wpAny (model X.prog X.w) X.A (f v u) (EP X pins σ Q) X.xe sh
def eOpX (o : DO2) (fa fb : DE) : DE := fun s => (fa s).bind fun x s1 => (fb s1).bind fun y s2 => o x y s2
def liftO (o : D → D → Option D) : DO2 := fun x y s => match o x y with
  | some d => .ok d s
  | none => .stuck
theorem OpD.x {f : Value → Value → Sem Value} {o : D → D → Option D} (h : OpD G X f o) : OpX G W X f (liftO o) := by
  obtain ⟨r, h1, h2⟩ := h
  intro pins sh σ H x y v u κ w s dx dy Q I rx ry ok dx' dy' q
  unfold liftO at q
  cases e : o dx dy with
  | none => rw [e] at q; exact q.elim
  | some z => rw [e] at q; exact h1 pins sh σ H x y v u Q I rx ry (h2 κ w s σ H x y dx dy z Q ok dx' dy' e q)
def orO (o o' : DO2) : DO2 := fun x y s => match o x y s with
  | .stuck => o' x y s
  | r => r
theorem OpX.or {f : Value → Value → Sem Value} {o o' : DO2} (h : OpX G W X f o) (h' : OpX G W X f o') : OpX G W X f (orO o o') := by
  intro pins sh σ H x y v u κ w s dx dy Q I rx ry ok dx' dy' q
  unfold orO at q
  cases e : o dx dy s with
  | stuck => rw [e] at q; exact h' pins sh σ H x y v u κ w s dx dy Q I rx ry ok dx' dy' q
  | exc a b => rw [e] at q; exact h pins sh σ H x y v u κ w s dx dy Q I rx ry ok dx' dy' (by rw [e]; exact q)
  | ok a b => rw [e] at q; exact h pins sh σ H x y v u κ w s dx dy Q I rx ry ok dx' dy' (by rw [e]; exact q)
theorem opX_run {o : DO2} {fa fb : DE} {a b : Expr} (ha : PD G W X a fa) (hb : PD G W X b fb) {f : Value → Value → Sem Value} (ho : OpX G W X f o) {pins : List (Addr × Obj)} {sh : Shared} {σ : L2.St} {H : Hp} {Q : VK} (I : Inv X pins σ H sh) (h : tD G W (eOpX o fa fb) σ H Q) :
    wpAny (model X.prog X.w) X.A (eval a X.env) (fun v s₁ => wpAny (model X.prog X.w) X.A (eval b X.env) (fun u s₂ => wpAny (model X.prog X.w) X.A (f v u) (EP X pins σ Q) X.xe s₂) X.xe s₁) X.xe sh := by
  obtain ⟨κ, w, s, ok, q⟩ := h
  have hh : tD G W fa σ H fun v H1 => tD G W fb σ H1 fun u H2 => ∃ d s1 w1, Ok G κ w1 s1 σ H2 ∧ ∃ d1, Rep G w1 v d1 ∧ Rep G w1 u d ∧ PostG G W (Rep G) κ w1 σ (o d1 d s1) Q :=
    ⟨κ, w, s, ok, (PostG.bind q).imp fun v H1 ⟨d, s1, w1, le, ok1, r1, q1⟩ => ⟨κ, w1, s1, ok1, (PostG.bind q1).imp fun u H2 ⟨d2, s2, w2, le2, ok2, r2, q2⟩ => ⟨d2, s2, w2, ok2, d, r1.mono le2, r2, q2⟩⟩⟩
  refine bin ha hb I (R := fun x y H2 => ∃ d s1 w1, Ok G κ w1 s1 σ H2 ∧ ∃ d1, Rep G w1 x d1 ∧ Rep G w1 y d ∧ PostG G W (Rep G) κ w1 σ (o d1 d s1) Q) hh fun v u s2 x y H2 I2 rx ry ⟨d, s1, w1, ok1, d1, r1, r2, q2⟩ => ?_
  exact ho pins s2 σ H2 x y v u κ w1 s1 d1 d Q I2 rx ry ok1 r1 r2 q2
theorem pd_opX {op : Operator} {o : DO2} {a b : Expr} {fa fb : DE} {pos : Pos} (ho : OpX G W X (binaryOp op) o) (ha : PD G W X a fa) (hb : PD G W X b fb) : PD G W X (.BinOp a op b pos) (eOpX o fa fb) :=
  ⟨fun pins s σ H Q I h => wpAny_BinOp (opX_run ha hb ho I h)⟩
/-! ### truth -/
def truD (d : D) : Option Bool := match d with
  | .non => some false
  | .bl b => some b
  | .int i => some (i != 0)
  | .str l => if l.length ≤ 16777216 then some ((l.length : Int) != 0) else none
  | .tup xs => some (!xs.isEmpty)
  | .lst xs => some (!xs.isEmpty)
  | .scr xs => some (!xs.isEmpty)
  | .dic xs => some (!xs.isEmpty)
  | _ => none
theorem Reps.isEmpty {w : Wd} {vs : List V} {ds : List D} (r : Reps G w vs ds) : vs.isEmpty = ds.isEmpty := by cases r <;> rfl
theorem RepK.isEmpty {w : Wd} {vs : List (Key × V)} {ds : List (DK × D)} (r : RepK G w vs ds) : vs.isEmpty = ds.isEmpty := by cases r <;> rfl
theorem nm_len (l : Nm) : (nm l).length = l.length := by simp [nm, Str.length]
theorem truV_of (hK : G.K = X.K) {κ : Bs} {w : Wd} {s : DS} {σ : L2.St} {H : Hp} {v : V} {d : D} {k : Bool} (ok : Ok G κ w s σ H) (r : Rep G w v d) (h : truD d = some k) : TruV X.K v H k := by
  cases r with
  | non => cases h; rfl
  | bl b => cases h; rfl
  | int i => cases h; rfl
  | str l =>
    have h : (if l.length ≤ 16777216 then some ((l.length : Int) != 0) else none) = some k := h
    split at h
    · rename_i c
      cases h
      exact ⟨by rw [nm_len, sizeLine_eq]; exact c, by rw [nm_len]⟩
    · cases h
  | @tup a vs ds e r => cases h; exact .inr (.inl ⟨vs, hK ▸ SqT.le e ok.fok.sub, by rw [r.isEmpty]⟩)
  | @lst a vs ds e r => cases h; exact .inl ⟨vs, .inl (.inl (ok.fok.sub _ _ e)), by rw [r.isEmpty]⟩
  | @scr a vs ds e r => cases h; exact .inl ⟨vs, hK ▸ SqL.le e ok.fok.sub, by rw [r.isEmpty]⟩
  | @dic a vs ds e r => cases h; exact .inr (.inr ⟨vs, ok.fok.sub _ _ e, by rw [r.isEmpty]⟩)
  | _ => cases h
def eTru (f : DE) : DT := fun s => (f s).bind fun d s1 => match truD d with
  | some b => .ok b s1
  | none => .stuck
theorem ptd_truth (hK : G.K = X.K) {e : Expr} {f : DE} (h : PD G W X e f) (he : ∀ whole, isTrue e X.env whole = (do let v ← whole; standAt e.pos; holding [v] (truthy v)) := by intro _; rfl) : PDT G W X e (eTru f) :=
  (pt_truth h he).imp fun σ H Q ⟨κ, w, s, ok, q⟩ => ⟨κ, w, s, ok, (PostG.bind q).imp fun v H1 ⟨d, s1, w1, le, ok1, r1, q1⟩ => by
    cases e1 : truD d with
    | none => rw [e1] at q1; exact q1.elim
    | some k => rw [e1] at q1; exact ⟨k, truV_of hK ok1 r1 e1, q1 w1 k H1 (.refl _) ok1 rfl⟩⟩
theorem ptd_cmpX {op : CmpOp} {o : DO2} {a b : Expr} {fa fb : DE} {pos : Pos} (ho : OpX G W X (compareOp op) o) (ha : PD G W X a fa) (hb : PD G W X b fb) (hm : behindInMarks op b = false) : PDT G W X (.Compare a [op] [b] pos) (eB (eOpX o fa fb)) :=
  ⟨fun pins s σ H Q I h => by
    have hh := tB_of h
    refine wpAny_isTrue_Compare1 (thn (opX_run ha hb ho I hh) fun v s1 h1 => thn h1 fun u s2 h2 => thn h2 fun c s3 ⟨x, H1, I1, r1, q1⟩ => ?_) hm
    obtain ⟨d, rfl, q⟩ := q1
    cases r1
    exact wpAny_truthy_bool ⟨H1, I1, q⟩⟩
/-- x or y, x and y by truth, as values -/
def eOrT (f g : DE) : DE := fun s => (f s).bind fun d s1 => match truD d with
  | some b => if b = true then .ok d s1 else g s1
  | none => .stuck
def eAndT (f g : DE) : DE := fun s => (f s).bind fun d s1 => match truD d with
  | some b => if b = true then g s1 else .ok d s1
  | none => .stuck
def eNotT (f : DE) : DE := fun s => (f s).bind fun d s1 => match truD d with
  | some b => .ok (.bl (!b)) s1
  | none => .stuck
theorem pd_andT (hK : G.K = X.K) {a b : Expr} {r : List Expr} {f g : DE} {pos : Pos} (h : PD G W X a f) (k : PD G W X (.BoolOp .And (b :: r) pos) g) : PD G W X (.BoolOp .And (a :: b :: r) pos) (eAndT f g) :=
  (pe_andT h k).imp fun σ H Q ⟨κ, w, s, ok, q⟩ => ⟨κ, w, s, ok, (PostG.bind q).imp fun v H1 ⟨d, s1, w1, le, ok1, r1, q1⟩ => by
    cases e1 : truD d with
    | none => rw [e1] at q1; exact q1.elim
    | some k =>
      rw [e1] at q1
      refine ⟨k, truV_of hK ok1 r1 e1, ?_⟩
      cases k with
      | false => exact q1 w1 v H1 (.refl _) ok1 r1
      | true => exact ⟨κ, w1, s1, ok1, q1⟩⟩
theorem pd_notT (hK : G.K = X.K) {a : Expr} {f : DE} {pos : Pos} (h : PD G W X a f) : PD G W X (.UnaryOp .Not a pos) (eNotT f) :=
  (pe_notT h).imp fun σ H Q ⟨κ, w, s, ok, q⟩ => ⟨κ, w, s, ok, (PostG.bind q).imp fun v H1 ⟨d, s1, w1, le, ok1, r1, q1⟩ => by
    cases e1 : truD d with
    | none => rw [e1] at q1; exact q1.elim
    | some k => rw [e1] at q1; exact ⟨k, truV_of hK ok1 r1 e1, q1 w1 _ H1 (.refl _) ok1 (.bl _)⟩⟩
/-! ### ints -/
def dI (g : Int → Int → Option D) : D → D → Option D := fun x y => match x, y with
  | .int i, .int j => g i j
  | _, _ => none
theorem opd_I {f : Value → Value → Sem Value} {C : Int → Int → Prop} {gv : Int → Int → V} {g : Int → Int → Option D} (h : OpR X f (rI C gv)) (hg : ∀ i j d, g i j = some d → C i j ∧ ∀ w, Rep G w (gv i j) d) : OpD G X f (dI g) :=
  ⟨_, h, fun κ w s σ H x y dx dy d Q ok rx ry e q => by
    cases rx with
    | int i =>
      cases ry with
      | int j =>
        obtain ⟨c, r⟩ := hg _ _ _ e
        exact ⟨_, _, rfl, rfl, c, q w _ H (.refl _) ok (r w)⟩
      | _ => exact nomatch e
    | _ => exact nomatch e⟩
theorem opd_I0 {f : Value → Value → Sem Value} {gv : Int → Int → V} {g : Int → Int → Option D} (h : OpR X f (rI0 gv)) (hg : ∀ i j d, g i j = some d → ∀ w, Rep G w (gv i j) d) : OpD G X f (dI g) :=
  ⟨_, h, fun κ w s σ H x y dx dy d Q ok rx ry e q => by
    cases rx with
    | int i =>
      cases ry with
      | int j => exact ⟨_, _, rfl, rfl, q w _ H (.refl _) ok (hg _ _ _ e w)⟩
      | _ => exact nomatch e
    | _ => exact nomatch e⟩
/-- a bound on the bits that products may have -/
def mulOk (i j : Int) : Bool := decide (i.natAbs.log2 + j.natAbs.log2 < 100000000)
def divOk (j : Int) : Bool := decide (j ≠ 0 ∧ j.natAbs.log2 < 9000)
def iAdd : D → D → Option D := dI fun i j => some (.int (i + j))
def iSub : D → D → Option D := dI fun i j => some (.int (i - j))
def iMul : D → D → Option D := dI fun i j => if mulOk i j then some (.int (i * j)) else none
def iDiv : D → D → Option D := dI fun i j => if divOk j then some (.int (i.fdiv j)) else none
def iMod : D → D → Option D := dI fun i j => if j ≠ 0 then some (.int (i.fmod j)) else none
def iPow : D → D → Option D := dI fun i j => if 0 ≤ j ∧ j ≤ 1000000 ∧ i.natAbs < 2 ^ 64 then some (.int (i ^ j.toNat)) else none
def iShl : D → D → Option D := dI fun i j => if 0 ≤ j ∧ j ≤ 1000000 ∧ i.natAbs < 2 ^ 64 then some (.int (i * 2 ^ j.toNat)) else none
def iLt : D → D → Option D := dI fun i j => some (.bl (decide (i < j)))
def iLe : D → D → Option D := dI fun i j => some (.bl (decide (i ≤ j)))
def iGt : D → D → Option D := dI fun i j => some (.bl (decide (j < i)))
def iGe : D → D → Option D := dI fun i j => some (.bl (decide (j ≤ i)))
theorem opd_add : OpD G X (binaryOp .Add) iAdd := opd_I0 op_add fun i j d e w => by cases e; exact .int _
theorem opd_sub : OpD G X (binaryOp .Sub) iSub := opd_I0 op_sub fun i j d e w => by cases e; exact .int _
def CMulX (i j : Int) : Prop := i.natAbs.log2 + j.natAbs.log2 < 100000000
theorem CMulX.ok {i j : Int} (h : CMulX i j) : IntMulOk i j := by
  have b : ∀ x : Int, Builtin.Int.intBits x ≤ x.natAbs.log2 + 1 := fun x => by
    unfold Builtin.Int.intBits
    split <;> omega
  have h1 := b i
  have h2 := b j
  have h3 : i.natAbs.log2 + j.natAbs.log2 < 100000000 := h
  have e : bitsLine = 134217728 := by decide
  unfold IntMulOk
  intro z
  rw [Bool.and_eq_true] at z
  have z2 := z.2
  unfold Builtin.Int.intTooBig at z2
  have z3 := of_decide_eq_true z2
  rw [e] at z3
  omega
theorem op_mulX : OpR X (binaryOp .Mult) (rI CMulX fun i j => .int (i * j)) := opI fun _ _ _ _ _ _ _ hc q => mul_int q hc.ok
theorem opd_mul : OpD G X (binaryOp .Mult) iMul := opd_I op_mulX fun i j d e => by
  split at e
  · rename_i h
    cases e
    have h : decide (i.natAbs.log2 + j.natAbs.log2 < 100000000) = true := h
    exact ⟨(of_decide_eq_true h : i.natAbs.log2 + j.natAbs.log2 < 100000000), fun w => .int _⟩
  · cases e
theorem op_fdivX : OpR X (binaryOp .FloorDiv) (rI (fun _ j => j ≠ 0 ∧ j.natAbs.log2 < 9000) fun i j => .int (i.fdiv j)) := opI fun _ _ _ _ _ _ _ hc q => floordiv_int hc.1 q (.inl (PyProof.noPylong_of_log2 hc.2))
theorem opd_div : OpD G X (binaryOp .FloorDiv) iDiv := opd_I op_fdivX fun i j d e => by
  split at e
  · rename_i h
    cases e
    exact ⟨of_decide_eq_true h, fun w => .int _⟩
  · cases e
theorem opd_mod : OpD G X (binaryOp .Mod) iMod := opd_I op_modN fun i j d e => by
  split at e
  · rename_i h
    cases e
    exact ⟨h, fun w => .int _⟩
  · cases e
theorem opd_pow : OpD G X (binaryOp .Pow) iPow := opd_I op_pow fun i j d e => by
  split at e
  · rename_i h
    cases e
    exact ⟨h, fun w => .int _⟩
  · cases e
theorem opd_shl : OpD G X (binaryOp .LShift) iShl := opd_I op_shl fun i j d e => by
  split at e
  · rename_i h
    cases e
    exact ⟨h, fun w => .int _⟩
  · cases e
theorem opd_lt : OpD G X (compareOp .Lt) iLt := opd_I0 op_lt fun i j d e w => by cases e; exact .bl _
theorem opd_le : OpD G X (compareOp .LtE) iLe := opd_I0 op_le fun i j d e w => by cases e; exact .bl _
theorem opd_gt : OpD G X (compareOp .Gt) iGt := opd_I0 op_gt fun i j d e w => by cases e; exact .bl _
theorem opd_ge : OpD G X (compareOp .GtE) iGe := opd_I0 op_ge fun i j d e w => by cases e; exact .bl _
def eNeg (f : DE) : DE := fun s => (f s).bind fun d s1 => match d with
  | .int i => .ok (.int (-i)) s1
  | _ => .stuck
theorem pd_neg {a : Expr} {f : DE} {pos : Pos} (h : PD G W X a f) : PD G W X (.UnaryOp .USub a pos) (eNeg f) :=
  (pe_un un_neg h).imp fun σ H Q ⟨κ, w, s, ok, q⟩ => ⟨κ, w, s, ok, (PostG.bind q).imp fun v H1 ⟨d, s1, w1, le, ok1, r1, q1⟩ => by
    cases r1 with
    | int i => exact ⟨i, rfl, q1 w1 _ H1 (.refl _) ok1 (.int _)⟩
    | _ => exact q1.elim⟩
/-! ### sequences: +, * -/
def sAdd : D → D → Option D := fun x y => match x, y with
  | .str a, .str b => if a.length + b.length ≤ 1000000 then some (.str (a ++ b)) else none
  | .tup a, .tup b => if a ≠ [] ∧ b ≠ [] ∧ a.length + b.length ≤ 1000000 then some (.tup (a ++ b)) else none
  | _, _ => none
theorem nm_append (a b : Nm) : nm a ++ nm b = nm (a ++ b) := by
  show Str.mk _ = _
  simp [nm]
theorem opd_sadd (hK : G.K = X.K) : OpD G X (binaryOp .Add) sAdd := ⟨_, op_add_str.or op_catT, fun κ w s σ H x y dx dy d Q ok rx ry e q => by
  cases rx with
  | str a =>
    cases ry with
    | str b =>
      left
      have e : (if a.length + b.length ≤ 1000000 then some (D.str (a ++ b)) else none) = some d := e
      split at e
      · rename_i c
        cases e
        refine ⟨nm a, nm b, rfl, rfl, by rw [nm_len, nm_len, sizeLine_eq]; omega, ?_⟩
        rw [nm_append]
        exact q w _ H (.refl _) ok (.str _)
      · cases e
    | _ => exact nomatch e
  | @tup a vs ds e1 r1 =>
    cases ry with
    | @tup a2 vs2 ds2 e2 r2 =>
      right
      have e : (if ds ≠ [] ∧ ds2 ≠ [] ∧ ds.length + ds2.length ≤ 1000000 then some (D.tup (ds ++ ds2)) else none) = some d := e
      split at e
      · rename_i c
        cases e
        have n1 : vs ≠ [] := fun z => c.1 (by subst z; cases r1; rfl)
        have n2 : vs2 ≠ [] := fun z => c.2.1 (by subst z; cases r2; rfl)
        refine ⟨a, a2, vs, vs2, rfl, rfl, hK ▸ SqT.le e1 ok.fok.sub, hK ▸ SqT.le e2 ok.fok.sub, n1, by rw [r1.length, r2.length, sizeLine_eq]; omega, ?_⟩
        first
          | exact ⟨fun z => absurd z n2, fun p hp => by
              obtain ⟨le2, ok2⟩ := ok.alloc hp (.tup (vs ++ vs2))
              exact q _ _ _ le2 ok2 (.tup (.inl (.inl upd_same)) ((r1.append r2).mono le2))⟩
          | exact ⟨fun z => absurd z n2, fun _ p hp => by
              obtain ⟨le2, ok2⟩ := ok.alloc hp (.tup (vs ++ vs2))
              exact q _ _ _ le2 ok2 (.tup (.inl (.inl upd_same)) ((r1.append r2).mono le2))⟩
      · cases e
    | _ => exact nomatch e
  | _ => exact nomatch e⟩
/-- a + b of lists: a new list -/
def aCat (fa fb : DE) : DA := fun s => (fa s).bind fun x s1 => (fb s1).bind fun y s2 => match x, y with
  | .lst a, .lst b => if a.length + b.length ≤ 1000000 then .ok (a ++ b) s2 else .stuck
  | _, _ => .stuck
/-- list * int: a new list -/
def aRep (fa fb : DE) : DA := fun s => (fa s).bind fun x s1 => (fb s1).bind fun y s2 => match x, y with
  | .lst a, .int k => if -(2 ^ 63) ≤ k ∧ k < 2 ^ 63 ∧ a.length * k.toNat ≤ 1000000 then .ok (List.replicate k.toNat a).flatten s2 else .stuck
  | _, _ => .stuck
theorem Reps.rep {w : Wd} {vs : List V} {ds : List D} (r : Reps G w vs ds) : ∀ k : Nat, Reps G w (List.replicate k vs).flatten (List.replicate k ds).flatten
  | 0 => .nil
  | k + 1 => by
    rw [List.replicate_succ, List.replicate_succ, List.flatten_cons, List.flatten_cons]
    exact r.append (Reps.rep r k)
/-! ### subscripts -/
def ixD (d : D) (i : Int) : Option D := match d with
  | .tup xs => atI xs i
  | .lst xs => atI xs i
  | .scr xs => atI xs i
  | .str l => if l.length ≤ 16777216 then (atI l i).map fun c => .str [c] else none
  | _ => none
def eIx (fa fb : DE) : DE := fun s => (fa s).bind fun x s1 => (fb s1).bind fun y s2 => match y with
  | .int i => match ixD x i with
    | some d => .ok d s2
    | none => .stuck
  | _ => .stuck
theorem Reps.atI {w : Wd} {vs : List V} {ds : List D} {i : Int} {d : D} (r : Reps G w vs ds) (h : L2.atI ds i = some d) : ∃ v, L2.atI vs i = some v ∧ Rep G w v d := by
  unfold L2.atI at h ⊢
  rw [r.length]
  cases e : ixN ds.length i with
  | none => rw [e] at h; cases h
  | some j =>
    rw [e] at h
    obtain ⟨v, h1, h2⟩ := r.get (i := j) h
    exact ⟨v, h1, h2⟩
theorem pd_ix (hK : G.K = X.K) {a b : Expr} {fa fb : DE} {pos : Pos} (ha : PD G W X a fa) (hb : PD G W X b fb) (hs : PlainIx b) : PD G W X (.Subscript a b pos) (eIx fa fb) :=
  (pe_ix ix_seq ha hb hs).imp fun σ H Q ⟨κ, w, s, ok, q⟩ => ⟨κ, w, s, ok, (PostG.bind q).imp fun v H1 ⟨d, s1, w1, le, ok1, r1, q1⟩ => ⟨κ, w1, s1, ok1, (PostG.bind q1).imp fun v2 H2 ⟨d2, s2, w2, le2, ok2, r2, q2⟩ => by
    cases r2 with
    | int i =>
      replace q2 : PostG G W (Rep G) κ w2 σ (match ixD d i with | some d => .ok d s2 | none => .stuck) Q := q2
      cases e : ixD d i with
      | none => rw [e] at q2; exact q2.elim
      | some z =>
        rw [e] at q2
        cases r1 with
        | @tup p vs ds e1 r1 =>
          obtain ⟨y, h1, h2⟩ := Reps.atI r1 e
          exact .inr (.inl ⟨p, vs, i, y, rfl, rfl, hK ▸ SqT.le (SqT.le e1 le2.f) ok2.fok.sub, h1, q2 w2 y H2 (.refl _) ok2 (h2.mono le2)⟩)
        | @lst p vs ds e1 r1 =>
          obtain ⟨y, h1, h2⟩ := Reps.atI r1 e
          exact .inl ⟨p, vs, i, y, rfl, rfl, .inl (.inl (ok2.fok.sub _ _ (le2.f _ _ e1))), h1, q2 w2 y H2 (.refl _) ok2 (h2.mono le2)⟩
        | @scr p vs ds e1 r1 =>
          obtain ⟨y, h1, h2⟩ := Reps.atI r1 e
          exact .inl ⟨p, vs, i, y, rfl, rfl, hK ▸ SqL.le (SqL.le e1 le2.f) ok2.fok.sub, h1, q2 w2 y H2 (.refl _) ok2 (h2.mono le2)⟩
        | str l =>
          have e : (if l.length ≤ 16777216 then (L2.atI l i).map fun c => D.str [c] else none) = some z := e
          split at e
          · rename_i hl
            cases e3 : L2.atI l i with
            | none => simp [e3] at e
            | some c =>
              simp only [e3, Option.map_some, Option.some.injEq] at e
              subst e
              refine .inr (.inr ⟨nm l, i, c, rfl, rfl, by rw [nm_len, sizeLine_eq]; exact hl, by simpa [nm] using e3, ?_⟩)
              exact q2 w2 _ H2 (.refl _) ok2 (.str [c])
          · cases e
        | _ => exact nomatch e
    | _ => exact q2.elim⟩⟩
end
end DL
set_option maxRecDepth 100000
set_option maxHeartbeats 4000000
set_option autoImplicit false
namespace DL
open PySem PySem.Spec PyProof.Rows L2
section
variable {G : Gam} {W : WX} {X : Cx}
/-! ### built-ins by name -/
def CallD (G : Gam) (X : Cx) (f : Value) (o : List D → Option D) : Prop := ∃ r, CallR X f r ∧ ∀ (κ : Bs) (w : Wd) (s : DS) (σ : L2.St) (H : Hp) (vs : List V) (ds : List D) (d : D) (Q : VK),
  Ok G κ w s σ H → Reps G w vs ds → o ds = some d → (∀ w' v H', w.le w' → Ok G κ w' s σ H' → Rep G w' v d → Q v H') → r vs H Q
def eCB (o : List D → Option D) (fa : DA) : DE := fun s => (fa s).bind fun ds s1 => match o ds with
  | some d => .ok d s1
  | none => .stuck
theorem cb_of {o : List D → Option D} {r : List V → Hp → VK → Prop} {fa : DA} {σ : L2.St} {H : Hp} {Q : VK} (h2 : ∀ (κ : Bs) (w : Wd) (s : DS) (σ : L2.St) (H : Hp) (vs : List V) (ds : List D) (d : D) (Q : VK),
    Ok G κ w s σ H → Reps G w vs ds → o ds = some d → (∀ w' v H', w.le w' → Ok G κ w' s σ H' → Rep G w' v d → Q v H') → r vs H Q) (h : tD G W (eCB o fa) σ H Q) : tCB r (tDA G W fa) σ H Q := by
  obtain ⟨κ, w, s, ok, q⟩ := h
  refine ⟨κ, w, s, ok, (PostG.bind q).imp fun v H1 ⟨d, s1, w1, le, ok1, r1, q1⟩ => ?_⟩
  cases e : o d with
  | none => rw [e] at q1; exact q1.elim
  | some z => rw [e] at q1; exact h2 κ w1 s1 σ H1 v d z Q ok1 r1 e q1
theorem pd_callB {x : Str} {id : String} {p pos : Pos} {e : Expr} {es : List Expr} {fa : DA} {o : List D → Option D} (hc : CallD G X (.builtin id) o) (hg : Gl X x) (hm : X.mg x = none) (hv : bootBuiltins x = some (.builtin id)) (ha : PDA G W X (e :: es) fa) (hn : x ≠ "__name__" := by decide)
    (hdb : (x == ("__debug__" : Str)) = false := by decide) (he : starEach (e :: es) X.env = (false, eval e X.env) :: starEach es X.env := by rfl) (hpl : (backTo pos (starEach es X.env)).any (·.1) = false := by rfl) : PD G W X (.Call (.Name x p) (e :: es) [] pos) (eCB o fa) := by
  obtain ⟨r, h1, h2⟩ := hc
  exact (pe_callB h1 hg hm hv ha hn hdb he hpl).imp fun σ H Q h => cb_of h2 h
theorem pd_callTy {x : Str} {T : String} {p pos : Pos} {e : Expr} {es : List Expr} {fa : DA} {o : List D → Option D} (hc : CallD G X (.type T) o) (hg : Gl X x) (hm : X.mg x = none) (hv : bootBuiltins x = some (.type T)) (ha : PDA G W X (e :: es) fa) (hn : x ≠ "__name__" := by decide)
    (hdb : (x == ("__debug__" : Str)) = false := by decide) (he : starEach (e :: es) X.env = (false, eval e X.env) :: starEach es X.env := by rfl) (hpl : (backTo pos (starEach es X.env)).any (·.1) = false := by rfl) : PD G W X (.Call (.Name x p) (e :: es) [] pos) (eCB o fa) := by
  obtain ⟨r, h1, h2⟩ := hc
  exact (pe_callTy h1 hg hm hv ha hn hdb he hpl).imp fun σ H Q h => cb_of h2 h
theorem Reps.one {w : Wd} {vs : List V} {d : D} (r : Reps G w vs [d]) : ∃ v, vs = [v] ∧ Rep G w v d := by
  cases r with
  | cons a b => cases b; exact ⟨_, rfl, a⟩
theorem Reps.two {w : Wd} {vs : List V} {d d' : D} (r : Reps G w vs [d, d']) : ∃ v v', vs = [v, v'] ∧ Rep G w v d ∧ Rep G w v' d' := by
  cases r with
  | cons a b =>
    cases b with
    | cons a2 b2 => cases b2; exact ⟨_, _, rfl, a, a2⟩
def bLen : List D → Option D
  | [.tup xs] => some (.int xs.length)
  | [.lst xs] => some (.int xs.length)
  | [.scr xs] => some (.int xs.length)
  | [.str l] => if l.length ≤ 16777216 then some (.int l.length) else none
  | _ => none
theorem cd_len (hK : G.K = X.K) : CallD G X (.builtin "len") bLen := ⟨_, call_len, fun κ w s σ H vs ds d Q ok rs e q => by
  match ds, e with
  | [.tup xs], e =>
    cases e
    obtain ⟨v, rfl, r⟩ := rs.one
    cases r with
    | @tup a vs ds e r => exact ⟨_, _, rfl, .inr ⟨vs, hK ▸ SqT.le e ok.fok.sub, rfl⟩, by rw [r.length]; exact q w _ H (.refl _) ok (.int _)⟩
  | [.lst xs], e =>
    cases e
    obtain ⟨v, rfl, r⟩ := rs.one
    cases r with
    | @lst a vs ds e r => exact ⟨_, _, rfl, .inl ⟨vs, .inl (.inl (ok.fok.sub _ _ e)), rfl⟩, by rw [r.length]; exact q w _ H (.refl _) ok (.int _)⟩
  | [.scr xs], e =>
    cases e
    obtain ⟨v, rfl, r⟩ := rs.one
    cases r with
    | @scr a vs ds e r => exact ⟨_, _, rfl, .inl ⟨vs, hK ▸ SqL.le e ok.fok.sub, rfl⟩, by rw [r.length]; exact q w _ H (.refl _) ok (.int _)⟩
  | [.str l], e =>
    have e : (if l.length ≤ 16777216 then some (D.int l.length) else none) = some d := e
    split at e
    · rename_i c
      cases e
      obtain ⟨v, rfl, r⟩ := rs.one
      cases r
      exact ⟨_, _, rfl, ⟨by rw [nm_len, sizeLine_eq]; exact c, rfl⟩, by rw [nm_len]; exact q w _ H (.refl _) ok (.int _)⟩
    · cases e⟩
def bInt : List D → Option D
  | [.int i] => some (.int i)
  | [.bl b] => some (.int (if b then 1 else 0))
  | _ => none
theorem cd_int : CallD G X (.type "int") bInt := ⟨_, call_int1, fun κ w s σ H vs ds d Q ok rs e q => by
  match ds, e with
  | [.int i], e =>
    cases e
    obtain ⟨v, rfl, r⟩ := rs.one
    cases r
    exact .inl ⟨i, rfl, q w _ H (.refl _) ok (.int _)⟩
  | [.bl b], e =>
    cases e
    obtain ⟨v, rfl, r⟩ := rs.one
    cases r
    exact .inr ⟨b, rfl, q w _ H (.refl _) ok (.int _)⟩⟩
def bAbs : List D → Option D
  | [.int i] => some (.int (if i < 0 then -i else i))
  | _ => none
theorem cd_abs : CallD G X (.builtin "abs") bAbs := ⟨_, call_abs, fun κ w s σ H vs ds d Q ok rs e q => by
  match ds, e with
  | [.int i], e =>
    cases e
    obtain ⟨v, rfl, r⟩ := rs.one
    cases r
    exact ⟨i, rfl, q w _ H (.refl _) ok (.int _)⟩⟩
def bMax2 : List D → Option D
  | [.int i, .int j] => some (.int (if j > i then j else i))
  | _ => none
def bMin2 : List D → Option D
  | [.int i, .int j] => some (.int (if j < i then j else i))
  | _ => none
theorem cd_max2 (hc : X.calm = true) : CallD G X (.builtin "max") bMax2 := ⟨_, call_max2 hc, fun κ w s σ H vs ds d Q ok rs e q => by
  match ds, e with
  | [.int i, .int j], e =>
    cases e
    obtain ⟨v, v', rfl, r, r'⟩ := rs.two
    cases r
    cases r'
    exact ⟨i, j, rfl, q w _ H (.refl _) ok (.int _)⟩⟩
theorem cd_min2 (hc : X.calm = true) : CallD G X (.builtin "min") bMin2 := ⟨_, call_min2 hc, fun κ w s σ H vs ds d Q ok rs e q => by
  match ds, e with
  | [.int i, .int j], e =>
    cases e
    obtain ⟨v, v', rfl, r, r'⟩ := rs.two
    cases r
    cases r'
    exact ⟨i, j, rfl, q w _ H (.refl _) ok (.int _)⟩⟩
def intsOf : List D → Option (List Int)
  | [] => some []
  | .int i :: r => (intsOf r).map (i :: ·)
  | _ => none
theorem intsOf_eq : ∀ {ds : List D} {ns : List Int}, intsOf ds = some ns → ds = ns.map D.int
  | [], ns, e => by cases e; rfl
  | .int i :: r, ns, e => by
    unfold intsOf at e
    cases q : intsOf r with
    | none => rw [q] at e; cases e
    | some ms =>
      rw [q] at e
      cases e
      rw [intsOf_eq q]
      rfl
  | .non :: _, _, e => nomatch e
  | .bl _ :: _, _, e => nomatch e
  | .str _ :: _, _, e => nomatch e
  | .tup _ :: _, _, e => nomatch e
  | .lst _ :: _, _, e => nomatch e
  | .scr _ :: _, _, e => nomatch e
  | .dic _ :: _, _, e => nomatch e
  | .ins _ _ :: _, _, e => nomatch e
  | .cell _ :: _, _, e => nomatch e
  | .cls _ :: _, _, e => nomatch e
  | .ty _ :: _, _, e => nomatch e
  | .fn _ :: _, _, e => nomatch e
def blsOf : List D → Option (List Bool)
  | [] => some []
  | .bl i :: r => (blsOf r).map (i :: ·)
  | _ => none
theorem blsOf_eq : ∀ {ds : List D} {ns : List Bool}, blsOf ds = some ns → ds = ns.map D.bl
  | [], ns, e => by cases e; rfl
  | .bl i :: r, ns, e => by
    unfold blsOf at e
    cases q : blsOf r with
    | none => rw [q] at e; cases e
    | some ms =>
      rw [q] at e
      cases e
      rw [blsOf_eq q]
      rfl
  | .non :: _, _, e => nomatch e
  | .int _ :: _, _, e => nomatch e
  | .str _ :: _, _, e => nomatch e
  | .tup _ :: _, _, e => nomatch e
  | .lst _ :: _, _, e => nomatch e
  | .scr _ :: _, _, e => nomatch e
  | .dic _ :: _, _, e => nomatch e
  | .ins _ _ :: _, _, e => nomatch e
  | .cell _ :: _, _, e => nomatch e
  | .cls _ :: _, _, e => nomatch e
  | .ty _ :: _, _, e => nomatch e
  | .fn _ :: _, _, e => nomatch e
theorem Reps.bls {w : Wd} : ∀ {v : List V} {ns : List Bool}, Reps G w v (ns.map D.bl) → v = ns.map V.bl
  | _, [], h => by cases h; rfl
  | _, n :: ns, h => by
    cases h with
    | cons a b => cases a; rw [Reps.bls b]; rfl
def bSum : List D → Option D
  | [.lst xs] => (intsOf xs).map fun ns => .int ns.sum
  | _ => none
theorem cd_sum (hc : X.calm = true) : CallD G X (.builtin "sum") bSum := ⟨_, cr_sum hc, fun κ w s σ H vs ds d Q ok rs e q => by
  match ds, e with
  | [.lst xs], e =>
    have e : (intsOf xs).map (fun ns => D.int ns.sum) = some d := e
    cases e1 : intsOf xs with
    | none => rw [e1] at e; cases e
    | some ns =>
      rw [e1] at e
      cases e
      obtain ⟨v, rfl, r⟩ := rs.one
      cases r with
      | @lst a vs ds e r =>
        rw [intsOf_eq e1] at r
        rw [r.ints] at e
        exact ⟨a, ns, rfl, .inl (.inl (ok.fok.sub _ _ e)), q w _ H (.refl _) ok (.int _)⟩⟩
def bAll : List D → Option D
  | [.lst xs] => (blsOf xs).map fun ns => .bl (ns.all id)
  | _ => none
def bAny : List D → Option D
  | [.lst xs] => (blsOf xs).map fun ns => .bl (ns.any id)
  | _ => none
theorem cd_all (hc : X.calm = true) : CallD G X (.builtin "all") bAll := ⟨_, cr_all hc, fun κ w s σ H vs ds d Q ok rs e q => by
  match ds, e with
  | [.lst xs], e =>
    have e : (blsOf xs).map (fun ns => D.bl (ns.all id)) = some d := e
    cases e1 : blsOf xs with
    | none => rw [e1] at e; cases e
    | some ns =>
      rw [e1] at e
      cases e
      obtain ⟨v, rfl, r⟩ := rs.one
      cases r with
      | @lst a vs ds e r =>
        rw [blsOf_eq e1] at r
        rw [r.bls] at e
        exact ⟨a, ns, rfl, .inl (.inl (ok.fok.sub _ _ e)), q w _ H (.refl _) ok (.bl _)⟩⟩
/-- tuple(x) -/
def bTup : List D → Option D
  | [.tup xs] => some (.tup xs)
  | [.lst xs] => some (.tup xs)
  | _ => none
theorem cd_tup (hK : G.K = X.K) : CallD G X (.type "tuple") bTup := ⟨_, call_tuple_of, fun κ w s σ H vs ds d Q ok rs e q => by
  match ds, e with
  | [.tup xs], e =>
    cases e
    obtain ⟨v, rfl, r⟩ := rs.one
    cases r with
    | @tup a vs ds e r => exact ⟨a, vs, rfl, .inr ⟨hK ▸ SqT.le e ok.fok.sub, q w _ H (.refl _) ok (.tup e r)⟩⟩
  | [.lst xs], e =>
    cases e
    obtain ⟨v, rfl, r⟩ := rs.one
    cases r with
    | @lst a vs ds e r => exact ⟨a, vs, rfl, .inl ⟨.inl (.inl (ok.fok.sub _ _ e)), fun l hl => by
        obtain ⟨le2, ok2⟩ := ok.alloc hl (.tup vs)
        exact q _ _ _ le2 ok2 (.tup (.inl (.inl upd_same)) (r.mono le2))⟩⟩⟩
/-- list(x): a new list -/
def seqD (d : D) : Option (List D) := match d with
  | .tup xs => some xs
  | .lst xs => some xs
  | .scr xs => some xs
  | _ => none
def aList (fa : DA) : DA := fun s => (fa s).bind fun ds s1 => match ds with
  | [d] => match seqD d with
    | some xs => .ok xs s1
    | none => .stuck
  | _ => .stuck
theorem Rep.seq (hK : G.K = X.K) {κ : Bs} {w : Wd} {s : DS} {σ : L2.St} {H : Hp} {v : V} {d : D} {xs : List D} (ok : Ok G κ w s σ H) (r : Rep G w v d) (h : seqD d = some xs) : ∃ a vs, v = .ref a ∧ (SqL X.K H a vs ∨ SqT X.K H a vs) ∧ Reps G w vs xs := by
  cases r with
  | @tup a vs ds e r => cases h; exact ⟨a, vs, rfl, .inr (hK ▸ SqT.le e ok.fok.sub), r⟩
  | @lst a vs ds e r => cases h; exact ⟨a, vs, rfl, .inl (.inl (.inl (ok.fok.sub _ _ e))), r⟩
  | @scr a vs ds e r => cases h; exact ⟨a, vs, rfl, .inl (hK ▸ SqL.le e ok.fok.sub), r⟩
  | _ => exact nomatch h
theorem pdo_list (hK : G.K = X.K) {x : Str} {p pos : Pos} {e : Expr} {fa : DA} (hg : Gl X x) (hm : X.mg x = none) (hv : bootBuiltins x = some (.type "list")) (ha : PDA G W X [e] fa) (hn : x ≠ "__name__" := by decide) (hdb : (x == ("__debug__" : Str)) = false := by decide)
    (he : starEach [e] X.env = (false, eval e X.env) :: starEach [] X.env := by rfl) (hpl : (backTo pos (starEach [] X.env)).any (·.1) = false := by rfl) : PDo G W X (.Call (.Name x p) [e] [] pos) (aList fa) :=
  (pe_callTy call_list_of hg hm hv ha hn hdb he hpl).imp fun σ H Q ⟨κ, w, s, ok, q⟩ => ⟨κ, w, s, ok, (PostG.bindO q).imp fun v H1 ⟨d, s1, w1, le, ok1, r1, q1⟩ => by
    match d, q1 with
    | [d], q1 =>
      replace q1 : PostO G W κ w1 σ (match seqD d with | some xs => .ok xs s1 | none => .stuck) Q := q1
      cases e1 : seqD d with
      | none => rw [e1] at q1; exact q1.elim
      | some xs =>
        rw [e1] at q1
        obtain ⟨v, rfl, r⟩ := r1.one
        obtain ⟨a, vs, rfl, h1, h2⟩ := r.seq hK ok1 e1
        exact ⟨a, vs, rfl, h1, fun l hl => q1 w1 l vs _ (.refl _) (ok1.fresh hl _) (ok1.apart hl) h2⟩⟩
/-! ### slices -/
abbrev DOp := DS → Res DS (Option Int)
def oNone : DOp := fun s => .ok none s
def oSome (f : DE) : DOp := fun s => (f s).bind fun d s1 => match d with
  | .int i => .ok (some i) s1
  | _ => .stuck
def tDO (G : Gam) (W : WX) (f : DOp) : TO := fun σ H Q => ∃ κ w s, Ok G κ w s σ H ∧ PostG G W (fun _ (v : Option Int) d => v = d) κ w σ (f s) Q
theorem _root_.L2.PO.imp {X : Cx} {e : Option Expr} {t t' : TO} (h : PO X e t) (k : ∀ σ H Q, t' σ H Q → t σ H Q) : PO X e t' := ⟨by
  first
    | exact fun pins s σ H Q I q => h.run pins s σ H Q I (k σ H Q q)
    | exact fun a pins s σ H Q I q => h.run a pins s σ H Q I (k σ H Q q)⟩
theorem pdo_none : PO X none (tDO G W oNone) := po_none.imp fun σ H Q ⟨κ, w, s, ok, q⟩ => q w none H (.refl _) ok rfl
theorem pdo_some {e : Expr} {f : DE} (h : PD G W X e f) : PO X (some e) (tDO G W (oSome f)) := (po_some h).imp fun σ H Q ⟨κ, w, s, ok, q⟩ => ⟨κ, w, s, ok, (PostG.bind q).imp fun v H1 ⟨d, s1, w1, le, ok1, r1, q1⟩ => by
  cases r1 with
  | int i => exact ⟨i, rfl, q1 w1 _ H1 (.refl _) ok1 rfl⟩
  | _ => exact q1.elim⟩
def cutD {α : Type} (xs : List α) (lo hi : Option Int) : List α := (xs.drop (HT.sIx xs.length 0 lo)).take (HT.sIx xs.length xs.length hi - HT.sIx xs.length 0 lo)
theorem Reps.cut {w : Wd} {vs : List V} {ds : List D} (r : Reps G w vs ds) (lo hi : Option Int) : Reps G w (cutV vs lo hi) (cutD ds lo hi) := by
  unfold cutV cutD
  rw [r.length]
  exact (r.drop _).take _
/-- a slice of a list: a new list -/
def aSl (f : DE) (l h : DOp) : DA := fun s => (f s).bind fun d s1 => (l s1).bind fun lo s2 => (h s2).bind fun hi s3 => match d with
  | .lst xs => .ok (cutD xs lo hi) s3
  | .scr xs => .ok (cutD xs lo hi) s3
  | _ => .stuck
/-! ### isinstance -/
def tyD (d : D) : Option String := match d with
  | .non => some "NoneType"
  | .bl _ => some "bool"
  | .int _ => some "int"
  | .str _ => some "str"
  | .tup _ => some "tuple"
  | .lst _ => some "list"
  | .scr _ => some "list"
  | .dic _ => some "dict"
  | _ => none
def tyNames : List String := ["NoneType", "bool", "int", "str", "tuple", "list", "dict"]
def isTy (a b : String) : Bool := a == b || (a == "bool" && b == "int")
theorem isTy_ok : ∀ a ∈ tyNames, ∀ b ∈ tyNames, kitB a b = some (isTy a b) := by decide +kernel
/-- what of the text isinstance asks of the own classes -/
structure IsOk (G : Gam) (cs : List String) : Prop where
  cl : ∀ c ∈ cs, ∀ C, G.ct c = some C → Cls G.K C ∧ PySem.W.findIn G.K (.ref C) "__class__" = some (some (.builtin "object.__class__")) ∧ PySem.W.specialIn G.K (.builtin "object.__class__") "__get__" = some (some (.builtin "getset_descriptor.__get__")) ∧
    PySem.W.takesIn G.K (.builtin "object.__class__") = some true ∧ PySem.W.mroIn G.K C (.type "object") = some true
  bo : ∀ c ∈ cs, ∀ C, G.ct c = some C → ∀ b ∈ tyNames, PySem.W.kitOne G.K (.ref C) (.type b) = some false ∧ PySem.W.kitOne G.K (.type b) (.ref C) = some false
  oo : ∀ c ∈ cs, ∀ c' ∈ cs, ∀ C C', G.ct c = some C → G.ct c' = some C' → PySem.W.kitOne G.K (.ref C) (.ref C') = some (c == c')
/-- the type of data: built-in or own -/
def tyOfD (cs : List String) (d : D) : Option (String ⊕ String) := match d with
  | .ins c _ => if c ∈ cs then some (.inr c) else none
  | d => (tyD d).map .inl
def isOne (cs : List String) (t : String ⊕ String) (c : D) : Option Bool := match t, c with
  | .inl a, .ty b => if a ∈ tyNames ∧ b ∈ tyNames then some (isTy a b) else none
  | .inl a, .cls b => if a ∈ tyNames ∧ b ∈ cs then some false else none
  | .inr a, .ty b => if b ∈ tyNames then some false else none
  | .inr a, .cls b => if b ∈ cs then some (a == b) else none
  | _, _ => none
def bIsi (cs : List String) : List D → Option D
  | [d, c] => (tyOfD cs d).bind fun t => (isOne cs t c).map .bl
  | _ => none
theorem tyX_of (hK : G.K = X.K) {cs : List String} (I : IsOk G cs) {κ : Bs} {w : Wd} {s : DS} {σ : L2.St} {H : Hp} {v : V} {d : D} {t : String ⊕ String} (ok : Ok G κ w s σ H) (r : Rep G w v d) (h : tyOfD cs d = some t) :
    ∃ tv, TyX X.K H v tv ∧ (match t with | .inl a => tv = .type a ∧ a ∈ tyNames | .inr c => c ∈ cs ∧ ∃ C, G.ct c = some C ∧ tv = .ref C) := by
  cases r with
  | non => cases h; exact ⟨_, .base .non, rfl, by decide⟩
  | bl b => cases h; exact ⟨_, .base (.bl b), rfl, by decide⟩
  | int i => cases h; exact ⟨_, .base (.int i), rfl, by decide⟩
  | str l => cases h; exact ⟨_, .base (.str _), rfl, by decide⟩
  | @tup a vs ds e r =>
    cases h
    rcases SqT.le e ok.fok.sub with (z | ⟨o, z⟩) | ⟨o, its, n, z1, z2, _⟩
    · exact ⟨_, .base (.tup z), rfl, by decide⟩
    · exact ⟨_, .fTuple z, rfl, by decide⟩
    · exact ⟨_, .kTuple (hK ▸ z1) z2, rfl, by decide⟩
  | @lst a vs ds e r => cases h; exact ⟨_, .base (.lst (ok.fok.sub _ _ e)), rfl, by decide⟩
  | @scr a vs ds e r =>
    cases h
    rcases SqL.le e ok.fok.sub with (z | ⟨o, z⟩) | ⟨o, its, n, z1, z2, _⟩
    · exact ⟨_, .base (.lst z), rfl, by decide⟩
    · exact ⟨_, .base (.frz z), rfl, by decide⟩
    · exact ⟨_, .kList (hK ▸ z1) z2, rfl, by decide⟩
  | @dic a vs ds e r => cases h; exact ⟨_, .base (.dK (ok.fok.sub _ _ e)), rfl, by decide⟩
  | @ins a C dx c vs ds hC e r =>
    have h : (if c ∈ cs then some (Sum.inr c) else none) = some t := h
    split at h
    · rename_i hc
      cases h
      obtain ⟨cl, h1, h2, h3, h4⟩ := I.cl c hc C hC
      exact ⟨_, .base (.ins (ok.fok.sub _ _ e) (hK ▸ cl) (hK ▸ h1) (hK ▸ h2) (hK ▸ h3) (hK ▸ h4)), hc, C, hC, rfl⟩
    · cases h
  | _ => exact nomatch h
theorem cd_isi (hK : G.K = X.K) {cs : List String} (I : IsOk G cs) : CallD G X (.builtin "isinstance") (bIsi cs) := ⟨_, call_isi, fun κ w s σ H vs ds d Q ok rs e q => by
  match ds, e with
  | [x, c], e =>
    have e : ((tyOfD cs x).bind fun t => (isOne cs t c).map D.bl) = some d := e
    cases e1 : tyOfD cs x with
    | none => rw [e1] at e; cases e
    | some t =>
      rw [e1] at e
      obtain ⟨v, v', rfl, r, r'⟩ := rs.two
      obtain ⟨tv, ty, ht⟩ := tyX_of hK I ok r e1
      have e : (isOne cs t c).map D.bl = some d := e
      cases e2 : isOne cs t c with
      | none => rw [e2] at e; cases e
      | some b =>
        rw [e2] at e
        cases e
        cases t with
        | inl a =>
          obtain ⟨rfl, ha⟩ := ht
          cases r' with
          | ty n =>
            have e2 : (if a ∈ tyNames ∧ n ∈ tyNames then some (isTy a n) else none) = some b := e2
            split at e2
            · rename_i h
              cases e2
              exact ⟨v, _, _, .type n, _, rfl, .ty n, ty, kit_ty (isTy_ok a h.1 n h.2), q w _ H (.refl _) ok (.bl _)⟩
            · cases e2
          | @cls C n hC =>
            have e2 : (if a ∈ tyNames ∧ n ∈ cs then some false else none) = some b := e2
            split at e2
            · rename_i h
              cases e2
              exact ⟨v, _, _, .ref C, _, rfl, .own C, ty, hK ▸ (I.bo n h.2 C hC a h.1).2, q w _ H (.refl _) ok (.bl _)⟩
            · cases e2
          | _ => exact nomatch e2
        | inr a =>
          obtain ⟨ha, C', hC', rfl⟩ := ht
          cases r' with
          | ty n =>
            have e2 : (if n ∈ tyNames then some false else none) = some b := e2
            split at e2
            · rename_i h
              cases e2
              exact ⟨v, _, _, .type n, _, rfl, .ty n, ty, hK ▸ (I.bo a ha C' hC' n h).1, q w _ H (.refl _) ok (.bl _)⟩
            · cases e2
          | @cls C n hC =>
            have e2 : (if n ∈ cs then some (a == n) else none) = some b := e2
            split at e2
            · rename_i h
              cases e2
              exact ⟨v, _, _, .ref C, _, rfl, .own C, ty, hK ▸ I.oo a ha n h C' C hC' hC, q w _ H (.refl _) ok (.bl _)⟩
            · cases e2
          | _ => exact nomatch e2⟩
end
end DL
set_option maxRecDepth 100000
set_option maxHeartbeats 4000000
set_option autoImplicit false
namespace DL
open PySem PySem.Spec PyProof.Rows L2
section
variable {G : Gam} {W : WX} {X : Cx}
/-! ### dicts -/
theorem dkey_inj {a b : DK} (h : dkey a = dkey b) : a = b := by
  cases a <;> cases b <;> simp [dkey] at h <;> first | (subst h; rfl) | (rw [nm_inj h])
def kOf (d : D) : Option DK := match d with
  | .int i => some (.i i)
  | .str l => some (.s l)
  | _ => none
theorem Rep.key {w : Wd} {v : V} {d : D} {k : DK} (r : Rep G w v d) (h : kOf d = some k) : v = kV (dkey k) := by
  cases r with
  | int i => cases h; rfl
  | str l => cases h; rfl
  | _ => exact nomatch h
def dLook (kvs : List (DK × D)) (k : DK) : Option D := match kvs with
  | [] => none
  | (k', d) :: r => if k' = k then some d else dLook r k
def dPut (kvs : List (DK × D)) (k : DK) (x : D) : List (DK × D) := match kvs with
  | [] => [(k, x)]
  | (k', d) :: r => if k' = k then (k, x) :: r else (k', d) :: dPut r k x
theorem RepK.look {w : Wd} : ∀ {v : List (Key × V)} {d : List (DK × D)} {k : DK}, RepK G w v d → (∀ x, dLook d k = some x → ∃ y, valV v (dkey k) = some y ∧ Rep G w y x) ∧ (dLook d k = none → valV v (dkey k) = none)
  | _, _, _, .nil => ⟨fun x e => (nomatch e), fun _ => rfl⟩
  | _, _, k, .cons (k := k') (v := v) (d := d) (vs := vs) (ds := ds) a b => by
    by_cases h : k' = k
    · subst h
      refine ⟨fun x e => ?_, fun e => ?_⟩
      · unfold dLook at e
        rw [if_pos rfl] at e
        cases e
        exact ⟨v, valV_pos rfl, a⟩
      · unfold dLook at e
        rw [if_pos rfl] at e
        cases e
    · have h2 : ¬ dkey k' = dkey k := fun q => h (dkey_inj q)
      obtain ⟨i1, i2⟩ := RepK.look (k := k) b
      refine ⟨fun x e => ?_, fun e => ?_⟩
      · unfold dLook at e
        rw [if_neg h] at e
        obtain ⟨y, q1, q2⟩ := i1 x e
        exact ⟨y, (valV_neg h2).trans q1, q2⟩
      · unfold dLook at e
        rw [if_neg h] at e
        exact (valV_neg h2).trans (i2 e)
theorem RepK.length {w : Wd} : ∀ {v : List (Key × V)} {d : List (DK × D)}, RepK G w v d → v.length = d.length
  | _, _, .nil => rfl
  | _, _, .cons _ b => by rw [List.length_cons, List.length_cons, RepK.length b]
/-- what of a dict is told (Nodup keys are not known here: the store at the first place and at the last agree by this) -/
def keysNd : List (DK × D) → Bool
  | [] => true
  | (k, _) :: r => !(r.any fun p => decide (p.1 = k)) && keysNd r
theorem RepK.any {w : Wd} {k : DK} : ∀ {v : List (Key × V)} {d : List (DK × D)}, RepK G w v d → (v.any fun kv => decide (kv.1 = dkey k)) = d.any fun kv => decide (kv.1 = k)
  | _, _, .nil => rfl
  | _, _, .cons (k := k') a b => by
    rw [List.any_cons, List.any_cons, RepK.any b]
    congr 1
    by_cases h : k' = k
    · subst h; simp
    · simp [h, show ¬ dkey k' = dkey k from fun q => h (dkey_inj q)]
theorem RepK.keepMap {w : Wd} {k : DK} {y : V} : ∀ {v : List (Key × V)} {d : List (DK × D)}, RepK G w v d → (d.any fun kv => decide (kv.1 = k)) = false → v.map (fun kv => if kv.1 = dkey k then (kv.1, y) else kv) = v
  | _, _, .nil, _ => rfl
  | _, _, .cons (k := k') a b, h => by
    rw [List.any_cons, Bool.or_eq_false_iff] at h
    have h1 : ¬ k' = k := of_decide_eq_false h.1
    rw [List.map_cons, if_neg (show ¬ dkey k' = dkey k from fun q => h1 (dkey_inj q)), RepK.keepMap b h.2]
theorem dPut_new : ∀ {d : List (DK × D)} {k : DK} {x : D}, (d.any fun kv => decide (kv.1 = k)) = false → dPut d k x = d ++ [(k, x)]
  | [], _, _, _ => rfl
  | (k', z) :: r, k, x, h => by
    rw [List.any_cons, Bool.or_eq_false_iff] at h
    have h1 : ¬ k' = k := of_decide_eq_false h.1
    unfold dPut
    rw [if_neg h1, dPut_new h.2]
    rfl
theorem RepK.append {w : Wd} : ∀ {v v' : List (Key × V)} {d d' : List (DK × D)}, RepK G w v d → RepK G w v' d' → RepK G w (v ++ v') (d ++ d')
  | _, _, _, _, .nil, h => h
  | _, _, _, _, .cons a b, h => .cons a (RepK.append b h)
theorem RepK.putMap {w : Wd} {k : DK} {y : V} {x : D} (r : Rep G w y x) : ∀ {v : List (Key × V)} {d : List (DK × D)}, RepK G w v d → keysNd d = true → (d.any fun kv => decide (kv.1 = k)) = true → RepK G w (v.map fun kv => if kv.1 = dkey k then (kv.1, y) else kv) (dPut d k x)
  | _, _, .nil, _, h => nomatch h
  | _, _, .cons (k := k') a b, nd, h => by
    unfold keysNd at nd
    rw [Bool.and_eq_true, Bool.not_eq_true'] at nd
    unfold dPut
    by_cases e : k' = k
    · subst e
      rw [if_pos rfl, List.map_cons, if_pos rfl, RepK.keepMap b nd.1]
      exact .cons r b
    · rw [if_neg e, List.map_cons, if_neg (show ¬ dkey k' = dkey k from fun q => e (dkey_inj q))]
      refine .cons a (RepK.putMap r b nd.2 ?_)
      rw [List.any_cons, Bool.or_eq_true] at h
      rcases h with h | h
      · exact absurd (of_decide_eq_true h) e
      · exact h
theorem RepK.put {w : Wd} {k : DK} {y : V} {x : D} (r : Rep G w y x) {v : List (Key × V)} {d : List (DK × D)} (h : RepK G w v d) (nd : keysNd d = true) : RepK G w (putK v (dkey k) y) (dPut d k x) := by
  unfold putK
  rw [h.any]
  cases e : d.any fun kv => decide (kv.1 = k) with
  | true => rw [if_pos rfl]; exact h.putMap r nd e
  | false =>
    rw [if_neg (fun z => nomatch z), dPut_new e]
    exact h.append (.cons r .nil)
def dictOf (d : D) (s : DS) : Option (List (DK × D)) := match d with
  | .dic kvs => some kvs
  | .cell n => match s.st[n]? with
    | some (.dic kvs) => some kvs
    | _ => none
  | _ => none
theorem Rep.dict {κ : Bs} {w : Wd} {s : DS} {σ : L2.St} {H : Hp} {v : V} {d : D} {kvs : List (DK × D)} (ok : Ok G κ w s σ H) (r : Rep G w v d) (h : dictOf d s = some kvs) : ∃ a vs, v = .ref a ∧ H a = some (.dK vs) ∧ RepK G w vs kvs := by
  cases r with
  | @dic a vs ds e r => cases h; exact ⟨a, vs, rfl, ok.fok.sub _ _ e, r⟩
  | @cell a n e =>
    have h : (match s.st[n]? with | some (.dic kvs) => some kvs | _ => none) = some kvs := h
    cases q : s.st[n]? with
    | none => rw [q] at h; cases h
    | some c =>
      rw [q] at h
      cases c with
      | dic kvs' =>
        cases h
        obtain ⟨vs, h1, h2⟩ := ok.fok.cel n a _ e q
        exact ⟨a, vs, rfl, h1, h2⟩
      | _ => cases h
  | _ => exact nomatch h
def eDGet (fo fi : DE) : DE := fun s => (fo s).bind fun d s1 => (fi s1).bind fun k s2 => match dictOf d s2, kOf k with
  | some kvs, some k => match dLook kvs k with
    | some x => .ok x s2
    | none => .stuck
  | _, _ => .stuck
theorem pd_dget {o i : Expr} {fo fi : DE} {pos : Pos} (hu : X.A.units + 1 < cLine) (ho : PD G W X o fo) (hi : PD G W X i fi) (hs : NoSl i) : PD G W X (.Subscript o i pos) (eDGet fo fi) :=
  (pe_dget hu ho hi hs).imp fun σ H Q ⟨κ, w, s, ok, q⟩ => ⟨κ, w, s, ok, (PostG.bind q).imp fun v H1 ⟨d, s1, w1, le, ok1, r1, q1⟩ => ⟨κ, w1, s1, ok1, (PostG.bind q1).imp fun v2 H2 ⟨d2, s2, w2, le2, ok2, r2, q2⟩ => by
    cases e1 : dictOf d s2 with
    | none => rw [e1] at q2; exact q2.elim
    | some kvs =>
      cases e2 : kOf d2 with
      | none => rw [e1, e2] at q2; exact q2.elim
      | some k =>
        rw [e1, e2] at q2
        replace q2 : PostG G W (Rep G) κ w2 σ (match dLook kvs k with | some x => .ok x s2 | none => .stuck) Q := q2
        cases e3 : dLook kvs k with
        | none => rw [e3] at q2; exact q2.elim
        | some x =>
          rw [e3] at q2
          obtain ⟨a, vs, rfl, hH, rk⟩ := (r1.mono le2).dict ok2 e1
          obtain ⟨y, h1, h2⟩ := (rk.look (k := k)).1 x e3
          refine ⟨a, y, rfl, ?_, q2 w2 y H2 (.refl _) ok2 h2⟩
          rw [r2.key e2, ← h1]
          exact DGet.k hH⟩⟩
/-- d[k] = v of a dict in the store -/
def sDPutC (fo fi fv : DE) : DStm := fun s => (fv s).bind fun x s1 => (fo s1).bind fun d s2 => (fi s2).bind fun k s3 => match d, kOf k with
  | .cell n, some k => match s3.st[n]? with
    | some (.dic kvs) => if kvs.length < 1000000 ∧ keysNd kvs = true then .ok .nx ⟨s3.sl, s3.st.set n (.dic (dPut kvs k x))⟩ else .stuck
    | _ => .stuck
  | _, _ => .stuck
theorem pds_dputC {o i value : Expr} {fo fi fv : DE} {pos pos' : Pos} (hu : X.A.units + 1 < cLine) (ho : PD G W X o fo) (hi : PD G W X i fi) (hv : PD G W X value fv) (hs : swapsWith value (some (.Subscript o i pos')) pos.line X.env = pure false := by rfl) :
    PDS G W X (.Assign [.Subscript o i pos'] value pos) (sDPutC fo fi fv) :=
  (ps_dput hu ho hi hv hs).imp fun N σ H ⟨κ, w, s, ok, q⟩ => ⟨κ, w, s, ok, (PostG.bindS q).imp fun v H1 ⟨d, s1, w1, le, ok1, r1, q1⟩ => ⟨κ, w1, s1, ok1, (PostG.bindS q1).imp fun v2 H2 ⟨d2, s2, w2, le2, ok2, r2, q2⟩ =>
    ⟨κ, w2, s2, ok2, (PostG.bindS q2).imp fun v3 H3 ⟨d3, s3, w3, le3, ok3, r3, q3⟩ => by
      cases r2 with
      | @cell a n e =>
        cases e2 : kOf d3 with
        | none => rw [e2] at q3; exact q3.elim
        | some k =>
          rw [e2] at q3
          replace q3 : PostS G W κ w3 (match s3.st[n]? with | some (.dic kvs) => if kvs.length < 1000000 ∧ keysNd kvs = true then .ok .nx ⟨s3.sl, s3.st.set n (.dic (dPut kvs k d))⟩ else .stuck | _ => .stuck) N := q3
          cases e3 : s3.st[n]? with
          | none => rw [e3] at q3; exact q3.elim
          | some c =>
            rw [e3] at q3
            cases c with
            | dic kvs =>
              replace q3 : PostS G W κ w3 (if kvs.length < 1000000 ∧ keysNd kvs = true then .ok .nx ⟨s3.sl, s3.st.set n (.dic (dPut kvs k d))⟩ else .stuck) N := q3
              split at q3
              · rename_i c
                have e' := pre_get le3.r e
                obtain ⟨vs, h1, h2⟩ := ok3.fok.cel n a _ e' e3
                refine ⟨a, _, rfl, ?_, q3 w3 σ _ (.refl _) (ok3.cell e' (c := .dic (dPut kvs k d)) ⟨_, upd_same, h2.put ((r1.mono le2).mono le3) c.2⟩)⟩
                rw [r3.key e2]
                exact DPut.k h1 (by rw [h2.length, sizeLine_eq]; omega)
              · exact q3.elim
            | _ => exact q3.elim
      | _ => exact q3.elim⟩⟩⟩
/-! ### a dict is displayed -/
def pairsD : List (DE × DE) → DS → Res DS (List (D × D))
  | [], s => .ok [] s
  | (fk, fv) :: r, s => (fk s).bind fun k s1 => (fv s1).bind fun x s2 => (pairsD r s2).bind fun ps s3 => .ok ((k, x) :: ps) s3
inductive RepP (G : Gam) (w : Wd) : List (V × V) → List (D × D) → Prop
  | nil : RepP G w [] []
  | cons {v v' : V} {d d' : D} {vs : List (V × V)} {ds : List (D × D)} : Rep G w v d → Rep G w v' d' → RepP G w vs ds → RepP G w ((v, v') :: vs) ((d, d') :: ds)
theorem pairs_of : ∀ (fs : List (DE × DE)) {κ : Bs} {w : Wd} {s : DS} {σ : L2.St} {H : Hp} {Q : List (V × V) → Hp → Prop}, Ok G κ w s σ H → PostG G W (RepP G) κ w σ (pairsD fs s) Q → tPairs (fs.map fun p => (tD G W p.1, tD G W p.2)) σ H Q
  | [], κ, w, s, σ, H, Q, ok, q => q w [] H (.refl _) ok .nil
  | (fk, fv) :: r, κ, w, s, σ, H, Q, ok, q => by
    refine ⟨κ, w, s, ok, (PostG.bind q).imp fun v H1 ⟨d, s1, w1, le, ok1, r1, q1⟩ => ⟨κ, w1, s1, ok1, (PostG.bind q1).imp fun v2 H2 ⟨d2, s2, w2, le2, ok2, r2, q2⟩ => ?_⟩⟩
    refine pairs_of r ok2 ((PostG.bind (rep := RepP G) q2).imp fun ps H3 ⟨ds, s3, w3, le3, ok3, r3, q3⟩ => ?_)
    exact q3 w3 _ H3 (.refl _) ok3 (.cons ((r1.mono le2).mono le3) (r2.mono le3) r3)
def keyed : List (D × D) → Option (List (DK × D))
  | [] => some []
  | (k, x) :: r => match kOf k, keyed r with
    | some k, some r => some ((k, x) :: r)
    | _, _ => none
theorem keyed_of {w : Wd} : ∀ {ps : List (V × V)} {ds : List (D × D)} {kvs : List (DK × D)}, RepP G w ps ds → keyed ds = some kvs → ∃ vs : List (Key × V), ps = vs.map (fun kv => (kV kv.1, kv.2)) ∧ RepK G w vs kvs
  | _, _, _, .nil, e => by cases e; exact ⟨[], rfl, .nil⟩
  | _, _, kvs, .cons (d := d) (ds := ds) a b c, e => by
    unfold keyed at e
    cases e1 : kOf d with
    | none => rw [e1] at e; cases e
    | some k =>
      cases e2 : keyed ds with
      | none => rw [e1, e2] at e; cases e
      | some r =>
        rw [e1, e2] at e
        cases e
        obtain ⟨vs, h1, h2⟩ := keyed_of c e2
        refine ⟨(dkey k, _) :: vs, ?_, .cons b h2⟩
        rw [h1, a.key e1]
        rfl
theorem keys_merge {w : Wd} : ∀ {more : List (Key × V)} {kvs : List (DK × D)} {v : List (Key × V)} {d : List (DK × D)}, RepK G w more kvs → RepK G w v d → (keysNd (d ++ kvs) = true) → RepK G w (mergeK v more) (d ++ kvs)
  | _, _, v, d, .nil, h, _ => by rw [List.append_nil]; exact h
  | _, _, v, d, .cons (k := k) (v := y) (d := x) (vs := vs) (ds := ds) a b, h, nd => by
    have new : (d.any fun kv => decide (kv.1 = k)) = false := by
      clear h a b
      induction d with
      | nil => rfl
      | cons p r ih =>
        rw [List.cons_append] at nd
        unfold keysNd at nd
        rw [Bool.and_eq_true, Bool.not_eq_true', List.any_append, Bool.or_eq_false_iff, List.any_cons, Bool.or_eq_false_iff] at nd
        rw [List.any_cons, ih nd.2, Bool.or_false]
        have := of_decide_eq_false nd.1.2.1
        exact decide_eq_false fun q => this q.symm
    have e : mergeK v ((dkey k, y) :: vs) = mergeK (v ++ [(dkey k, y)]) vs := by
      unfold mergeK
      rw [List.foldl_cons]
      congr 1
      unfold putK
      rw [h.any, new]
      rfl
    rw [e]
    have := keys_merge b (h.append (.cons a .nil)) (d := d ++ [(k, x)]) (by rw [List.append_assoc]; exact nd)
    rw [List.append_assoc] at this
    exact this
/-- a new dict of one's own -/
def PostOd (G : Gam) (W : WX) (κ : Bs) (w : Wd) (σ : L2.St) (r : Res DS (List (DK × D))) (Q : VK) : Prop := match r with
  | .ok xs s' => ∀ w' a vs H', w.le w' → Ok G (κ.plus a (.dK vs)) w' s' σ H' → (∀ p ∈ κ.γ, p.1 ≠ a) → RepK G w' vs xs → Q (.ref a) H'
  | .exc x s' => ∀ w' c dd H', w.le w' → Ok G κ w' s' σ H' → RepX G w' c dd x → W c dd σ H'
  | .stuck => False
abbrev DD := DS → Res DS (List (DK × D))
def tDod (G : Gam) (W : WX) (f : DD) : TE := fun σ H Q => ∃ κ w s, Ok G κ w s σ H ∧ PostOd G W κ w σ (f s) Q
abbrev PDod (G : Gam) (W : WX) (X : Cx) (e : Expr) (f : DD) : Prop := PE X e (tDod G W f)
/-- behind what was set apart a new value -/
theorem Ok.swap {κ : Bs} {w : Wd} {s : DS} {σ : L2.St} {H : Hp} {a : Addr} {o o' : HO} (h : Ok G (κ.plus a o) w s σ H) (hγ : ∀ p ∈ κ.γ, p.1 ≠ a) : Ok G (κ.plus a o') w s σ (upd H a o') := by
  obtain ⟨ho, h3, h4, h5, h6⟩ := h.gam (a, o) List.mem_cons_self
  refine ⟨⟨fun b u e => ?_, h.fok.len, fun n b c e1 e2 => ?_, h.fok.nd, h.fok.nf⟩, ⟨h.nx.le, fun b u e n => ?_, h.nx.newF, h.nx.newR⟩, h.len, h.val, fun j z hj oz => ?_, h.ne, fun p hp => ?_, h.me⟩
  · rw [upd_ne (ne_of_none e h3)]
    exact h.fok.sub b u e
  · exact (h.fok.cel n b c e1 e2).mono (.refl _) (upd_ne fun z => h4 (by rw [← z]; exact List.mem_of_getElem? e1))
  · rw [upd_ne (ne_of_none e h5)]
    exact h.nx.keep b u e n
  · obtain ⟨b, q1, q2, q3, q4, q5⟩ := h.own j z hj oz
    exact ⟨b, q1, q2.mono (.refl _) (upd_ne fun e => h6 j z hj oz (by rw [q1, e])), q3, q4, q5⟩
  · rcases List.mem_cons.mp hp with rfl | hp
    · exact ⟨upd_same, h3, h4, h5, h6⟩
    · obtain ⟨q1, q2⟩ := h.gam p (List.mem_cons_of_mem _ hp)
      exact ⟨by rw [upd_ne (hγ p hp)]; exact q1, q2⟩
def dDisp (fs : List (DE × DE)) : DD := fun s => (pairsD fs s).bind fun ps s1 => match keyed ps with
  | some kvs => if kvs.length ≤ 15 ∧ keysNd kvs = true then .ok kvs s1 else .stuck
  | none => .stuck
theorem pdod_disp {pos : Pos} {keys : List (Option Expr)} {values : List Expr} {fs : List (DE × DE)} (h : PPs X pos keys values (fs.map fun p => (tD G W p.1, tD G W p.2))) (hall : keys.all (·.isSome) = true) (hl : keys.length = values.length) (h0 : keys ≠ []) (h15 : keys.length ≤ 15) :
    PDod G W X (.Dict keys values pos) (dDisp fs) :=
  (pe_disp h hall hl h0 h15).imp fun σ H Q ⟨κ, w, s, ok, q⟩ => by
    intro p hp
    have ok1 := ok.fresh hp (.dK [])
    have hγ := ok.apart hp
    unfold dDisp at q
    refine pairs_of fs (κ := κ.plus p (.dK [])) (w := w) (s := s) ok1 ?_
    cases e : pairsD fs s with
    | stuck => rw [e] at q; exact q.elim
    | exc x s' =>
      rw [e] at q
      exact fun w' c dd H' l o r => q w' c dd H' l o.unplus r
    | ok ps s' =>
      rw [e] at q
      intro w' vps H' l o r
      replace q : PostOd G W κ w σ (match keyed ps with | some kvs => if kvs.length ≤ 15 ∧ keysNd kvs = true then .ok kvs s' else .stuck | none => .stuck) Q := q
      cases e2 : keyed ps with
      | none => rw [e2] at q; exact q.elim
      | some kvs =>
        rw [e2] at q
        replace q : PostOd G W κ w σ (if kvs.length ≤ 15 ∧ keysNd kvs = true then .ok kvs s' else .stuck) Q := q
        split at q
        · rename_i c
          obtain ⟨vs, h1, h2⟩ := keyed_of r e2
          refine ⟨(o.gam (p, .dK []) List.mem_cons_self).1, vs, h1, by rw [h2.length]; exact c.1, ?_⟩
          exact q w' p _ _ l (o.swap hγ) hγ (keys_merge h2 .nil (d := []) c.2)
        · exact q.elim
def eFrzD (f : DD) : DE := fun s => (f s).bind fun xs s1 => .ok (.dic xs) s1
theorem pdod_frz {e : Expr} {f : DD} (h : PDod G W X e f) : PD G W X e (eFrzD f) := h.imp fun σ H Q ⟨κ, w, s, ok, q⟩ => ⟨κ, w, s, ok, by
  unfold eFrzD at q
  cases e : f s with
  | stuck => rw [e] at q; exact q.elim
  | exc x s' => rw [e] at q; exact q
  | ok xs s' =>
    rw [e] at q
    intro w' a vs H' l o g r
    obtain ⟨le, ok'⟩ := o.frz g
    exact q _ _ H' (l.trans le) ok' (.dic upd_same (r.mono le))⟩
/-- what was set apart goes into the store -/
theorem Ok.store {κ : Bs} {w : Wd} {s : DS} {σ : L2.St} {H : Hp} {a : Addr} {o : HO} {c : Cell} (h : Ok G (κ.plus a o) w s σ H) (hγ : ∀ p ∈ κ.γ, p.1 ≠ a) (hc : CellOk G w H a c) : w.le ⟨w.F, w.ρ ++ [a]⟩ ∧ Ok G κ ⟨w.F, w.ρ ++ [a]⟩ ⟨s.sl, s.st ++ [c]⟩ σ H := by
  obtain ⟨ho, h3, h4, h5, h6⟩ := h.gam (a, o) List.mem_cons_self
  have le : w.le ⟨w.F, w.ρ ++ [a]⟩ := ⟨fun _ _ e => e, List.prefix_append _ _⟩
  refine ⟨le, ⟨⟨h.fok.sub, ?_, fun n b c' e1 e2 => ?_, ?_, fun b hb => ?_⟩, ⟨h.nx.le.trans le, h.nx.keep, h.nx.newF, fun b hb => ?_⟩, h.len, fun i d e => ?_, fun i x e o' => ?_, h.ne, fun p hp => ?_, h.me⟩⟩
  · show (w.ρ ++ [a]).length = (s.st ++ [c]).length
    rw [List.length_append, List.length_append, h.fok.len]
    rfl
  · have e1 : (w.ρ ++ [a])[n]? = some b := e1
    have e2 : (s.st ++ [c])[n]? = some c' := e2
    by_cases hn : n < w.ρ.length
    · rw [List.getElem?_append_left hn] at e1
      rw [List.getElem?_append_left (by rw [← h.fok.len]; exact hn)] at e2
      exact (h.fok.cel n b c' e1 e2).mono le rfl
    · rw [List.getElem?_append_right (by omega)] at e1
      rw [List.getElem?_append_right (by rw [← h.fok.len]; omega), ← h.fok.len] at e2
      cases z : n - w.ρ.length with
      | zero =>
        rw [z] at e1 e2
        cases e1
        cases e2
        exact hc.mono le rfl
      | succ k => rw [z] at e1; cases e1
  · show (w.ρ ++ [a]).Nodup
    rw [List.nodup_append]
    exact ⟨h.fok.nd, by simp, fun x hx y hy e => by
      rw [List.mem_singleton] at hy
      subst hy
      subst e
      exact h4 hx⟩
  · rcases List.mem_append.mp hb with hb | hb
    · exact h.fok.nf b hb
    · rw [List.mem_singleton.mp hb]
      exact h3
  · rcases List.mem_append.mp hb with hb | hb
    · exact h.nx.newR b hb
    · rw [List.mem_singleton.mp hb]
      exact .inr h5
  · obtain ⟨v, h1, h2⟩ := h.val i d e
    exact ⟨v, h1, h2.mono le⟩
  · obtain ⟨b, q1, q2, q3, q4, q5⟩ := h.own i x e o'
    refine ⟨b, q1, q2.mono le rfl, q3, fun hb => ?_, q5⟩
    rcases List.mem_append.mp hb with hb | hb
    · exact q4 hb
    · exact h6 i x e o' (by rw [q1, List.mem_singleton.mp hb])
  · obtain ⟨q1, q2, q3, q4⟩ := h.gam p (List.mem_cons_of_mem _ hp)
    refine ⟨q1, q2, fun hb => ?_, q4⟩
    rcases List.mem_append.mp hb with hb | hb
    · exact q3 hb
    · exact hγ p hp (List.mem_singleton.mp hb)
def eCellD (f : DD) : DE := fun s => (f s).bind fun xs s1 => .ok (.cell s1.st.length) ⟨s1.sl, s1.st ++ [.dic xs]⟩
theorem pdod_cell {e : Expr} {f : DD} (h : PDod G W X e f) : PD G W X e (eCellD f) := h.imp fun σ H Q ⟨κ, w, s, ok, q⟩ => ⟨κ, w, s, ok, by
  unfold eCellD at q
  cases e : f s with
  | stuck => rw [e] at q; exact q.elim
  | exc x s' => rw [e] at q; exact q
  | ok xs s' =>
    rw [e] at q
    intro w' a vs H' l o g r
    obtain ⟨le, ok'⟩ := o.store (c := .dic xs) g ⟨vs, (o.gam (a, .dK vs) List.mem_cons_self).1, r⟩
    refine q _ _ H' (l.trans le) ok' (.cell ?_)
    show (w'.ρ ++ [a])[s'.st.length]? = some a
    rw [← o.fok.len]
    simp⟩
/-! ### == and != of data -/
mutual
def toPy : D → Option PyData
  | .non => some .none
  | .bl b => some (.bool b)
  | .int i => some (.int i)
  | .str l => some (.str (nm l))
  | .tup xs => (toPys xs).map .tuple
  | .lst xs => (toPys xs).map .list
  | .scr xs => (toPys xs).map .list
  | _ => none
def toPys : List D → Option (List PyData)
  | [] => some []
  | d :: r => (toPy d).bind fun p => (toPys r).map fun q => p :: q
end
mutual
theorem Rep.py (hK : G.K = X.K) {κ : Bs} {w : Wd} {s : DS} {σ : L2.St} {H : Hp} (ok : Ok G κ w s σ H) : ∀ {v : V} {d : D} {p : PyData}, Rep G w v d → toPy d = some p → Dp X.K H v p
  | _, _, _, .non, e => by cases e; exact .non
  | _, _, _, .bl b, e => by cases e; exact .bl b
  | _, _, _, .int b, e => by cases e; exact .int b
  | _, _, _, .str b, e => by cases e; exact .str _
  | _, _, _, .tup (ds := ds) a r, e => by
    cases q : toPys ds with
    | none => simp [toPy, q] at e
    | some ps =>
      simp only [toPy, q, Option.map_some, Option.some.injEq] at e
      subst e
      exact .tup (hK ▸ SqT.le a ok.fok.sub) (Reps.py hK ok r q)
  | _, _, _, .lst (ds := ds) a r, e => by
    cases q : toPys ds with
    | none => simp [toPy, q] at e
    | some ps =>
      simp only [toPy, q, Option.map_some, Option.some.injEq] at e
      subst e
      exact .lst (.inl (.inl (ok.fok.sub _ _ a))) (Reps.py hK ok r q)
  | _, _, _, .scr (ds := ds) a r, e => by
    cases q : toPys ds with
    | none => simp [toPy, q] at e
    | some ps =>
      simp only [toPy, q, Option.map_some, Option.some.injEq] at e
      subst e
      exact .lst (hK ▸ SqL.le a ok.fok.sub) (Reps.py hK ok r q)
  | _, _, _, .dic _ _, e => by simp [toPy] at e
  | _, _, _, .ins _ _ _, e => by simp [toPy] at e
  | _, _, _, .cell _, e => by simp [toPy] at e
  | _, _, _, .cls _, e => by simp [toPy] at e
  | _, _, _, .ty _, e => by simp [toPy] at e
  | _, _, _, .fn _, e => by simp [toPy] at e
theorem Reps.py (hK : G.K = X.K) {κ : Bs} {w : Wd} {s : DS} {σ : L2.St} {H : Hp} (ok : Ok G κ w s σ H) : ∀ {v : List V} {d : List D} {p : List PyData}, Reps G w v d → toPys d = some p → DpAll X.K H v p
  | _, _, _, .nil, e => by simp [toPys] at e; subst e; exact .nil
  | _, _, _, .cons (d := d) (ds := ds) a r, e => by
    cases q1 : toPy d with
    | none => simp [toPys, q1] at e
    | some p =>
      cases q2 : toPys ds with
      | none => simp [toPys, q1, q2] at e
      | some ps =>
        simp only [toPys, q1, q2, Option.bind_some, Option.map_some, Option.some.injEq] at e
        subst e
        exact .cons (Rep.py hK ok a q1) (Reps.py hK ok r q2)
end
def dEq : D → D → Option D := fun x y => match toPy x, toPy y with
  | some p, some q => if SeqAt.shaped p && SeqAt.shaped q then some (.bl (PyData.eqv p q)) else none
  | _, _ => none
def dNe : D → D → Option D := fun x y => match toPy x, toPy y with
  | some p, some q => if SeqAt.shaped p && SeqAt.shaped q then some (.bl (!PyData.eqv p q)) else none
  | _, _ => none
theorem opd_eq (hK : G.K = X.K) (hu : X.A.units + 64 < cLine) : OpD G X (compareOp .Eq) dEq := ⟨_, op_eqD hu, fun κ w s σ H x y dx dy d Q ok rx ry e q => by
  unfold dEq at e
  cases e1 : toPy dx with
  | none => simp [e1] at e
  | some p =>
    cases e2 : toPy dy with
    | none => simp [e1, e2] at e
    | some p' =>
      simp only [e1, e2] at e
      split at e
      · rename_i c
        cases e
        rw [Bool.and_eq_true] at c
        exact ⟨p, p', rx.py hK ok e1, ry.py hK ok e2, c.1, c.2, q w _ H (.refl _) ok (.bl _)⟩
      · cases e⟩
theorem opd_ne (hK : G.K = X.K) (hu : X.A.units + 64 < cLine) : OpD G X (compareOp .NotEq) dNe := ⟨_, op_neD hu, fun κ w s σ H x y dx dy d Q ok rx ry e q => by
  unfold dNe at e
  cases e1 : toPy dx with
  | none => simp [e1] at e
  | some p =>
    cases e2 : toPy dy with
    | none => simp [e1, e2] at e
    | some p' =>
      simp only [e1, e2] at e
      split at e
      · rename_i c
        cases e
        rw [Bool.and_eq_true] at c
        exact ⟨p, p', rx.py hK ok e1, ry.py hK ok e2, c.1, c.2, q w _ H (.refl _) ok (.bl _)⟩
      · cases e⟩
/-- is None -/
def isNonD : D → Bool
  | .non => true
  | _ => false
def dIsN : D → D → Option D := fun x y => match y with
  | .non => some (.bl (isNonD x))
  | _ => none
def dNotN : D → D → Option D := fun x y => match y with
  | .non => some (.bl (!isNonD x))
  | _ => none
theorem Rep.non_iff {w : Wd} {v : V} {d : D} (r : Rep G w v d) : decide (v = .non) = isNonD d := by
  cases r <;> simp [isNonD]
theorem opd_isN : OpD G X (compareOp .Is) dIsN := ⟨_, op_isN, fun κ w s σ H x y dx dy d Q ok rx ry e q => by
  cases ry with
  | non =>
    cases e
    refine ⟨rfl, ?_⟩
    rw [rx.non_iff]
    exact q w _ H (.refl _) ok (.bl _)
  | _ => exact nomatch e⟩
theorem opd_notN : OpD G X (compareOp .IsNot) dNotN := ⟨_, op_notN, fun κ w s σ H x y dx dy d Q ok rx ry e q => by
  cases ry with
  | non =>
    cases e
    refine ⟨rfl, ?_⟩
    rw [rx.non_iff]
    exact q w _ H (.refl _) ok (.bl _)
  | _ => exact nomatch e⟩
/-! ### operators of own classes -/
def ownO (c : String) (g : DFn) : DO2 := fun x y s => match insOf x s, insOf y s with
  | some (c1, _), some (c2, _) => if c1 = c ∧ c2 = c then lift s (g [x, y] s.st) else .stuck
  | _, _ => .stuck
theorem ep_back {pins : List (Addr × Obj)} {σ : L2.St} {Q : VK} {v : Value} {s' : Shared} (h : EP X pins σ Q v s') : PySem.W.CmpBack (EP X pins σ Q) v s' := by
  obtain ⟨x, H, I, r, q⟩ := id h
  cases v <;> first
    | exact h
    | (have := r.abs; cases this)
theorem ownO_of {c : String} {g : DFn} {κ : Bs} {w : Wd} {s : DS} {σ : L2.St} {H : Hp} {x y : V} {dx dy : D} {Q : VK} (ok : Ok G κ w s σ H) (rx : Rep G w x dx) (ry : Rep G w y dy) (q : PostG G W (Rep G) κ w σ (ownO c g dx dy s) Q) :
    ∃ a b C dxa dxb fa fb, x = .ref a ∧ y = .ref b ∧ G.ct c = some C ∧ H a = some (.ins C dxa fa) ∧ H b = some (.ins C dxb fb) ∧ PostG G W (Rep G) κ w σ (lift s (g [dx, dy] s.st)) Q := by
  unfold ownO at q
  cases e1 : insOf dx s with
  | none => rw [e1] at q; exact q.elim
  | some p =>
    cases e2 : insOf dy s with
    | none => rw [e1, e2] at q; exact q.elim
    | some p' =>
      obtain ⟨c1, f1⟩ := p
      obtain ⟨c2, f2⟩ := p'
      rw [e1, e2] at q
      replace q : PostG G W (Rep G) κ w σ (if c1 = c ∧ c2 = c then lift s (g [dx, dy] s.st) else .stuck) Q := q
      split at q
      · rename_i h
        obtain ⟨rfl, rfl⟩ := h
        obtain ⟨a, C, dxa, vs, ev, hC, hH, _⟩ := rx.ins_of ok e1
        obtain ⟨b, C', dxb, vs', ev', hC', hH', _⟩ := ry.ins_of ok e2
        rw [hC] at hC'
        cases hC'
        exact ⟨a, b, C, dxa, dxb, vs, vs', ev, ev', hC, hH, hH', q⟩
      · exact q.elim
theorem opx_own {op : Operator} {mname : Str} {c : String} {C f : Addr} {k : Nat} {fd : FuncData} {ps : List Str} {g : DFn} (hm' : PySem.dunder op.info.2 = mname) (hC : G.ct c = some C) (hs : PySem.W.findIn X.K (.ref C) mname = some (some (.ref f))) (hf : PySem.W.isFn X.K (.ref f) = true) (hc : PySem.W.selfFirst X.K C = true)
    (F : FnOk X.prog X.w X.K X.mg X.base (L2.CX X.prog X.w) k f fd ps (spG G 2 g)) (hr : Room k X.A) (hb : Binds X.K fd ps []) (tk : Takes X W) : OpX G W X (binaryOp op) (ownO c g) := by
  subst hm'
  intro pins sh σ H x y v u κ w s dx dy Q I rx ry ok rdx rdy q
  obtain ⟨a, b, C', dxa, dxb, fa, fb, rfl, rfl, hC', hH, hH', q⟩ := ownO_of ok rdx rdy q
  rw [hC] at hC'
  cases hC'
  cases rx
  cases ry
  obtain ⟨mA, J, _⟩ := ins_get I.hok hH
  obtain ⟨mB, J', _⟩ := ins_get I.hok hH'
  obtain ⟨od, J, _⟩ := J.look
  obtain ⟨od', J', _⟩ := J'.look
  obtain ⟨m, hF⟩ := I.fr
  refine PySem.W.binop_K hF I.ok.mod.kin J J'.type hc hs hf ?_
  exact thn (callD (us := [.ref a, .ref b]) (vs := [.ref a, .ref b]) (ds := [dx, dy]) F hr hb tk I ok (.cons rdx (.cons rdy .nil)) (.cons rfl (.cons rfl .nil)) rfl q) fun v s' h => ep_back h
/-- ~x of an own class -/
def eInv (c : String) (g : DFn) (f : DE) : DE := fun s => (f s).bind fun d s1 => match insOf d s1 with
  | some (c1, _) => if c1 = c then lift s1 (g [d] s1.st) else .stuck
  | none => .stuck
theorem pd_inv {c : String} {C f : Addr} {k : Nat} {fd : FuncData} {ps : List Str} {g : DFn} {e : Expr} {fe : DE} {pos : Pos} (hC : G.ct c = some C) (hs : PySem.W.findIn X.K (.ref C) "__invert__" = some (some (.ref f))) (hf : PySem.W.isFn X.K (.ref f) = true)
    (F : FnOk X.prog X.w X.K X.mg X.base (L2.CX X.prog X.w) k f fd ps (spG G 1 g)) (hr : Room k X.A) (hb : Binds X.K fd ps []) (tk : Takes X W) (he : PD G W X e fe) : PD G W X (.UnaryOp .Invert e pos) (eInv c g fe) := by
  refine ⟨fun pins sh σ H Q I h => ?_⟩
  obtain ⟨κ, w, s, ok, q⟩ := h
  have hh : tD G W fe σ H fun v H1 => ∃ d s1 w1, w.le w1 ∧ Ok G κ w1 s1 σ H1 ∧ Rep G w1 v d ∧ PostG G W (Rep G) κ w1 σ (match insOf d s1 with
    | some (c1, _) => if c1 = c then lift s1 (g [d] s1.st) else .stuck
    | none => .stuck) Q := ⟨κ, w, s, ok, PostG.bind q⟩
  refine UnaryOp_ (thn (he.run pins sh σ H _ I hh) fun u s1 ⟨x, H1, I1, rx, d, t1, w1, le, ok1, r1, q1⟩ => ?_)
  cases e1 : insOf d t1 with
  | none => rw [e1] at q1; exact q1.elim
  | some p =>
    obtain ⟨c1, fs⟩ := p
    rw [e1] at q1
    replace q1 : PostG G W (Rep G) κ w1 σ (if c1 = c then lift t1 (g [d] t1.st) else .stuck) Q := q1
    split at q1
    · rename_i hc
      subst hc
      obtain ⟨a, C', dx, vs, ev, hC', hH, rf⟩ := r1.ins_of ok1 e1
      rw [hC] at hC'
      cases hC'
      subst ev
      obtain rfl : u = Value.ref a := rx
      obtain ⟨mA, J, _⟩ := ins_get I1.hok hH
      obtain ⟨od, J, _⟩ := J.look
      obtain ⟨m, hF⟩ := I1.fr
      exact PySem.W.ksp_inv hF I1.ok.mod.kin J hs hf (callD (us := [.ref a]) (vs := [.ref a]) (ds := [d]) F hr hb tk I1 ok1 (.cons r1 .nil) (.cons rfl .nil) rfl q1)
    · exact q1.elim
end
end DL
set_option maxRecDepth 100000
set_option maxHeartbeats 4000000
set_option autoImplicit false
namespace DL
open PySem PySem.Spec PyProof.Rows L2 RZ
section
variable {G : Gam} {W : WX} {X : Cx}
/-! ### list comprehensions -/
abbrev WF : WX := fun _ _ _ _ => False
def wipeD (vs : List Nat) (l : List Sl) : List Sl := match vs with
  | [] => l
  | v :: vs => (wipeD vs l).set v .un
def wipeS (vs : List Nat) (s : DS) : DS := ⟨wipeD vs s.sl, s.st⟩
theorem wipeD_length (l : List Sl) : ∀ vs : List Nat, (wipeD vs l).length = l.length
  | [] => rfl
  | v :: vs => by unfold wipeD; rw [List.length_set, wipeD_length l vs]
theorem wipeD_in {l : List Sl} {i : Nat} {x : Sl} : ∀ {vs : List Nat}, (wipeD vs l)[i]? = some x → (i ∈ vs ∧ x = .un) ∨ (i ∉ vs ∧ l[i]? = some x)
  | [], h => .inr ⟨by simp, h⟩
  | v :: vs, h => by
    unfold wipeD at h
    by_cases hi : v = i
    · subst hi
      by_cases hv : v < (wipeD vs l).length
      · rw [List.getElem?_set_self hv] at h
        cases h
        exact .inl ⟨List.mem_cons_self, rfl⟩
      · rw [List.getElem?_eq_none (by simpa using hv)] at h; cases h
    · rw [List.getElem?_set_ne hi] at h
      rcases wipeD_in h with ⟨h1, h2⟩ | ⟨h1, h2⟩
      · exact .inl ⟨List.mem_cons_of_mem _ h1, h2⟩
      · exact .inr ⟨by simp only [List.mem_cons, not_or]; exact ⟨fun e => hi e.symm, h1⟩, h2⟩
theorem wipe_out' {σ : L2.St} {i : Nat} : ∀ {vs : List Nat}, i ∉ vs → (L2.wipe σ vs)[i]? = σ[i]?
  | [], _ => rfl
  | v :: vs, h => by
    unfold L2.wipe
    rw [List.getElem?_set_ne (fun e => h (by rw [e]; exact List.mem_cons_self)), wipe_out' fun z => h (List.mem_cons_of_mem _ z)]
theorem Ok.wipe {κ : Bs} {w : Wd} {s : DS} {σ : L2.St} {H : Hp} (h : Ok G κ w s σ H) (vs : List Nat) : Ok G κ w (wipeS vs s) (L2.wipe σ vs) H := by
  refine ⟨h.fok, h.nx, by rw [wipe_length]; exact (wipeD_length _ _).trans h.len, fun i d e => ?_, fun i x e o => ?_, fun i j x y a e1 e2 o1 o2 h1 h2 => ?_, fun p hp => ?_, fun a ha c fs e => ?_⟩
  · rcases wipeD_in e with ⟨_, z⟩ | ⟨z, e⟩
    · cases z
    · rw [wipe_out' z]; exact h.val i d e
  · rcases wipeD_in e with ⟨_, z⟩ | ⟨z, e⟩
    · subst z; cases o
    · rw [wipe_out' z]; exact h.own i x e o
  · rcases wipeD_in e1 with ⟨_, z⟩ | ⟨z, e1⟩
    · subst z; cases o1
    · rcases wipeD_in e2 with ⟨_, z'⟩ | ⟨z', e2⟩
      · subst z'; cases o2
      · rw [wipe_out' z] at h1
        rw [wipe_out' z'] at h2
        exact h.ne i j x y a e1 e2 o1 o2 h1 h2
  · obtain ⟨q1, q2, q3, q4, q5⟩ := h.gam p hp
    refine ⟨q1, q2, q3, q4, fun i x e o => ?_⟩
    rcases wipeD_in e with ⟨_, z⟩ | ⟨z, e⟩
    · subst z; cases o
    · rw [wipe_out' z]; exact q5 i x e o
  · rcases wipeD_in e with ⟨_, z⟩ | ⟨z, e⟩
    · cases z
    · rw [wipe_out' z]; exact h.me a ha c fs e
/-- the slots behind the block: the block's own names as they were -/
def unwipe (vs : List Nat) (old new : List Sl) : List Sl := match vs with
  | [] => new
  | v :: vs => (unwipe vs old new).set v (match old[v]? with | some (.val d) => .val d | _ => .un)
theorem unwipe_length (l l' : List Sl) : ∀ vs : List Nat, (unwipe vs l l').length = l'.length
  | [] => rfl
  | v :: vs => by unfold unwipe; rw [List.length_set, unwipe_length l l' vs]
theorem unwipe_in {l l' : List Sl} {i : Nat} {x : Sl} : ∀ {vs : List Nat}, (unwipe vs l l')[i]? = some x → (i ∈ vs ∧ (x = .un ∨ ∃ d, x = .val d ∧ l[i]? = some x)) ∨ (i ∉ vs ∧ l'[i]? = some x)
  | [], h => .inr ⟨by simp, h⟩
  | v :: vs, h => by
    unfold unwipe at h
    by_cases hi : v = i
    · subst hi
      by_cases hv : v < (unwipe vs l l').length
      · rw [List.getElem?_set_self hv] at h
        refine .inl ⟨List.mem_cons_self, ?_⟩
        cases e : l[v]? with
        | none => rw [e] at h; cases h; exact .inl rfl
        | some y =>
          rw [e] at h
          cases y with
          | val d => cases h; exact .inr ⟨d, rfl, rfl⟩
          | _ => cases h; exact .inl rfl
      · rw [List.getElem?_eq_none (by simpa using hv)] at h; cases h
    · rw [List.getElem?_set_ne hi] at h
      rcases unwipe_in h with ⟨h1, h2⟩ | ⟨h1, h2⟩
      · exact .inl ⟨List.mem_cons_of_mem _ h1, h2⟩
      · exact .inr ⟨by simp only [List.mem_cons, not_or]; exact ⟨fun e => hi e.symm, h1⟩, h2⟩
theorem Ok.unwipe {κ κ' : Bs} {w w1 : Wd} {s s1 : DS} {σ : L2.St} {H H1 : Hp} {vs : List Nat} (h1 : Ok G κ' w1 s1 σ H1) (le : w1.le w) (h : Ok G κ w s (L2.wipe σ vs) H) (hme : κ.me = κ'.me) : Ok G κ w ⟨DL.unwipe vs s1.sl s.sl, s.st⟩ σ H := by
  refine ⟨h.fok, h.nx, ?_, fun i d e => ?_, fun i x e o => ?_, fun i j x y a e1 e2 o1 o2 q1 q2 => ?_, fun p hp => ?_, fun a ha c fs e => ?_⟩
  · show (DL.unwipe vs s1.sl s.sl).length = σ.length
    rw [unwipe_length, h.len, wipe_length]
  · rcases unwipe_in e with ⟨_, z | ⟨d', z, e⟩⟩ | ⟨z, e⟩
    · cases z
    · obtain ⟨v, q1, q2⟩ := h1.val i d e
      exact ⟨v, q1, q2.mono le⟩
    · obtain ⟨v, q1, q2⟩ := h.val i d e
      exact ⟨v, by rw [wipe_out' z] at q1; exact q1, q2⟩
  · rcases unwipe_in e with ⟨_, z | ⟨d', z, e⟩⟩ | ⟨z, e⟩
    · subst z; cases o
    · subst z; cases o
    · have := h.own i x e o
      rwa [wipe_out' z] at this
  · rcases unwipe_in e1 with ⟨_, z | ⟨d', z, e1⟩⟩ | ⟨z, e1⟩
    · subst z; cases o1
    · subst z; cases o1
    · rcases unwipe_in e2 with ⟨_, z' | ⟨d', z', e2⟩⟩ | ⟨z', e2⟩
      · subst z'; cases o2
      · subst z'; cases o2
      · exact h.ne i j x y a e1 e2 o1 o2 (by rw [wipe_out' z]; exact q1) (by rw [wipe_out' z']; exact q2)
  · obtain ⟨q1, q2, q3, q4, q5⟩ := h.gam p hp
    refine ⟨q1, q2, q3, q4, fun i x e o => ?_⟩
    rcases unwipe_in e with ⟨_, z | ⟨d', z, e⟩⟩ | ⟨z, e⟩
    · subst z; cases o
    · subst z; cases o
    · have := q5 i x e o
      rwa [wipe_out' z] at this
  · rcases unwipe_in e with ⟨_, z | ⟨d', z, e⟩⟩ | ⟨z, e⟩
    · cases z
    · cases z
    · have := h.me a ha c fs e
      rwa [wipe_out' z] at this
def lcL (vs : List Nat) (g : DG) (t : DT) (e : DE) : List D → List D → DS → Res DS (List D)
  | [], acc, s => .ok acc s
  | d :: r, acc, s => (noX (g d (wipeS vs s))).bind fun _ s1 => (noX (t s1)).bind fun b s2 => if b = true then (noX (e s2)).bind fun y s3 => if acc.length < 1000000 then lcL vs g t e r (acc ++ [y]) s3 else .stuck
    else lcL vs g t e r acc s2
def aLc (vs : List Nat) (it : DA) (g : DG) (t : DT) (e : DE) : DA := fun s => (it s).bind fun items s1 => (noX (lcL vs g t e items [] s1)).bind fun ys s2 => .ok ys ⟨unwipe vs s1.sl (wipeD vs s2.sl), s2.st⟩
def bYes : DT := fun s => .ok true s
theorem ptds_nil : PTs X [] (tDT G W bYes) := ⟨fun pins s σ H Q I ⟨κ, w, d, ok, q⟩ => pts_nil.run pins s σ H Q I (q w true H (.refl _) ok rfl)⟩
theorem ptds_one {c : Expr} {t : DT} (h : PDT G W X c t) : PTs X [c] (tDT G W t) := pts_one h
theorem wipe_same {σ σ2 : L2.St} {vs is : List Nat} (hl : σ2.length = (L2.wipe σ vs).length) (h : ∀ i : Nat, i ∉ is → σ2[i]? = (L2.wipe σ vs)[i]?) (hs : ∀ i ∈ is, i ∈ vs) : L2.wipe σ2 vs = L2.wipe σ vs := by
  have at_ : ∀ (τ : L2.St) (i : Nat), i ∈ vs → (L2.wipe τ vs)[i]? = if i < τ.length then some none else none := by
    intro τ i hi
    clear h hs hl
    induction vs with
    | nil => simp at hi
    | cons v r ih =>
      unfold L2.wipe
      by_cases e : v = i
      · subst e
        by_cases c : v < τ.length
        · rw [List.getElem?_set_self (by rw [wipe_length]; exact c), if_pos c]
        · rw [if_neg c, List.getElem?_eq_none (by rw [List.length_set, wipe_length]; omega)]
      · rw [List.getElem?_set_ne e]
        exact ih (by rcases List.mem_cons.mp hi with z | z; exact absurd z.symm e; exact z)
  have hl2 : σ2.length = σ.length := by rw [hl, wipe_length]
  apply List.ext_getElem?
  intro i
  by_cases hi : i ∈ vs
  · rw [at_ σ2 i hi, at_ σ i hi, hl2]
  · rw [wipe_out' hi]
    exact h i fun z => hi (hs i z)
theorem lc_of {vs is : List Nat} (hs : ∀ i ∈ is, i ∈ vs) {κ : Bs} {w : Wd} {J : It} {g : DG} {t : DT} {e : DE} {items : List D} (hJ : ItOk G w J items) {s0 : DS} {σ : L2.St} {H1 : Hp} {Q : VK} (ok : Ok G κ w s0 σ H1) {Dp : Addr} (hD : H1 Dp = none)
    (q : match noX (lcL vs g t e items [] s0) with
      | .ok ys s2 => ∀ w2 acc H2, w.le w2 → Ok G (κ.plus Dp (.lst acc)) w2 (wipeS vs s2) (L2.wipe σ vs) H2 → Reps G w2 acc ys → Q (.ref Dp) H2
      | _ => False) :
    ∃ Wv : Nat → Nat → Hp → Prop, (∃ m, Wv 0 m (upd H1 Dp (.lst []))) ∧ ∀ i m H, Wv i m H →
      (J.stop i H ∧ Q (.ref Dp) H) ∨ (J.go i H ∧ ∃ Nx : Hp → Prop, (∀ H', Nx H' → ∃ m', m' < m ∧ Wv (i + 1) m' H') ∧ ∀ x H', J.yld i H x H' → tDG G is g x (L2.wipe σ vs) H' fun σ2 H2 => L2.wipe σ2 vs = L2.wipe σ vs ∧ tDT G WF t σ2 H2 fun b H3 =>
        if b = true then tD G WF e σ2 H3 fun y H4 => ∃ acc, H4 Dp = some (.lst acc) ∧ acc.length < sizeLine ∧ Nx (upd H4 Dp (.lst (acc ++ [y]))) else Nx H3) := by
  have hγ := ok.apart hD
  -- a state of the loop: slots wiped
  refine ⟨fun i m H => ∃ w' s' acc accD, w.le w' ∧ Ok G (κ.plus Dp (.lst acc)) w' (wipeS vs s') (L2.wipe σ vs) H ∧ Reps G w' acc accD ∧ (items.drop i).length = m ∧
    (match noX (lcL vs g t e (items.drop i) accD s') with
      | .ok ys s2 => ∀ w2 acc H2, w'.le w2 → Ok G (κ.plus Dp (.lst acc)) w2 (wipeS vs s2) (L2.wipe σ vs) H2 → Reps G w2 acc ys → Q (.ref Dp) H2
      | _ => False), ⟨items.length, w, s0, [], [], .refl _, (ok.fresh hD _).wipe vs, .nil, by simp, ?_⟩, ?_⟩
  · rw [List.drop_zero]
    exact q
  · rintro i m H ⟨w', s', acc, accD, le', ok', ra, hm, q'⟩
    cases ed : items.drop i with
    | nil =>
      rw [ed] at q'
      have hn : items[i]? = none := by
        have := congrArg (fun l => l[0]?) ed
        simpa using this
      exact .inl ⟨(hJ w' _ H le' ok'.fok i).2 hn, q' w' acc H (.refl _) ok' ra⟩
    | cons d r =>
      rw [ed] at q' hm
      obtain ⟨h1, h2⟩ := drop_get ed
      obtain ⟨go, yl⟩ := (hJ w' _ H le' ok'.fok i).1 d h1
      refine .inr ⟨go, fun H2 => ∃ w2 s2 acc accD, w.le w2 ∧ Ok G (κ.plus Dp (.lst acc)) w2 (wipeS vs s2) (L2.wipe σ vs) H2 ∧ Reps G w2 acc accD ∧
        (match noX (lcL vs g t e r accD s2) with
          | .ok ys s3 => ∀ w3 acc H3, w2.le w3 → Ok G (κ.plus Dp (.lst acc)) w3 (wipeS vs s3) (L2.wipe σ vs) H3 → Reps G w3 acc ys → Q (.ref Dp) H3
          | _ => False), fun H2 ⟨w2, s2, acc2, accD2, l2, o2, r2, q2⟩ => ?_, fun x H' hy => ?_⟩
      · exact ⟨r.length, by rw [← hm]; exact Nat.lt_succ_self _, w2, s2, acc2, accD2, l2, o2, r2, by rw [h2], by rw [h2]; exact q2⟩
      · obtain ⟨w2, nx, fok, rx⟩ := yl x H' hy
        have ok2 : Ok G (κ.plus Dp (.lst acc)) w2 (wipeS vs s') (L2.wipe σ vs) H' := ok'.step nx fok
        refine ⟨κ.plus Dp (.lst acc), w2, wipeS vs s', d, ok2, rx, PostT.ofNoX ?_⟩
        unfold lcL at q'
        cases e1 : noX (g d (wipeS vs s')) with
        | stuck => rw [e1] at q'; exact q'.elim
        | exc x s => exact absurd e1 (noX_exc _ _ _)
        | ok u s1 =>
          rw [e1] at q'
          rw [Res.bind_ok] at q'
          intro w3 σ3 H3 l3 o3 hσ
          have hw : L2.wipe σ3 vs = L2.wipe σ vs := wipe_same hσ.1 hσ.2 hs
          refine ⟨hw, κ.plus Dp (.lst acc), w3, s1, o3, ?_⟩
          cases e2 : t s1 with
          | stuck => rw [e2] at q'; exact q'.elim
          | exc x s => rw [e2] at q'; exact q'.elim
          | ok b s2 =>
            rw [e2] at q'
            intro w4 b' H4 l4 o4 eb
            subst eb
            have lw : w'.le w4 := (nx.le.trans l3).trans l4
            cases b' with
            | false =>
              rw [if_neg (fun z => nomatch z)]
              refine ⟨w4, s2, acc, accD, le'.trans lw, by rw [← hw]; exact o4.wipe vs, ra.mono lw, ?_⟩
              replace q' : (match noX (lcL vs g t e r accD s2) with
                | .ok ys s3 => ∀ w3 acc H3, w'.le w3 → Ok G (κ.plus Dp (.lst acc)) w3 (wipeS vs s3) (L2.wipe σ vs) H3 → Reps G w3 acc ys → Q (.ref Dp) H3
                | _ => False) := q'
              cases e3 : noX (lcL vs g t e r accD s2) with
              | stuck => rw [e3] at q'; exact q'.elim
              | exc x s => rw [e3] at q'; exact q'.elim
              | ok ys s3 => rw [e3] at q'; exact fun w5 acc5 H5 l5 o5 r5 => q' w5 acc5 H5 (lw.trans l5) o5 r5
            | true =>
              rw [if_pos rfl]
              refine ⟨κ.plus Dp (.lst acc), w4, s2, o4, ?_⟩
              replace q' : (match noX ((noX (e s2)).bind fun y s3 => if accD.length < 1000000 then lcL vs g t e r (accD ++ [y]) s3 else .stuck) with
                | .ok ys s3 => ∀ w3 acc H3, w'.le w3 → Ok G (κ.plus Dp (.lst acc)) w3 (wipeS vs s3) (L2.wipe σ vs) H3 → Reps G w3 acc ys → Q (.ref Dp) H3
                | _ => False) := q'
              cases e3 : e s2 with
              | stuck => rw [e3] at q'; exact q'.elim
              | exc x s => rw [e3] at q'; exact q'.elim
              | ok y s3 =>
                rw [e3] at q'
                intro w5 v5 H5 l5 o5 r5
                replace q' : (match noX (if accD.length < 1000000 then lcL vs g t e r (accD ++ [y]) s3 else .stuck) with
                  | .ok ys s3 => ∀ w3 acc H3, w'.le w3 → Ok G (κ.plus Dp (.lst acc)) w3 (wipeS vs s3) (L2.wipe σ vs) H3 → Reps G w3 acc ys → Q (.ref Dp) H3
                  | _ => False) := q'
                by_cases c : accD.length < 1000000
                · rw [if_pos c] at q'
                  refine ⟨acc, (o5.gam (Dp, .lst acc) List.mem_cons_self).1, by rw [ra.length, sizeLine_eq]; omega, w5, s3, acc ++ [v5], accD ++ [y], le'.trans (lw.trans l5), ?_, ((ra.mono lw).mono l5).append (.cons r5 .nil), ?_⟩
                  · rw [← hw]
                    exact (o5.swap hγ).wipe vs
                  · cases e4 : noX (lcL vs g t e r (accD ++ [y]) s3) with
                    | stuck => rw [e4] at q'; exact q'.elim
                    | exc x s => rw [e4] at q'; exact q'.elim
                    | ok ys s4 => rw [e4] at q'; exact fun w6 acc6 H6 l6 o6 r6 => q' w6 acc6 H6 ((lw.trans l5).trans l6) o6 r6
                · rw [if_neg c] at q'
                  exact q'.elim
theorem pdo_lc {elt tg iter : Expr} {ifs : List Expr} {scope : Scope} {own : List (Str × Nat)} {is : List Nat} {pos : Pos} {it : DA} {g : DG} {t : DT} {e : DE} (hc : X.calm = true) (hN : X.N.Nodup) (hi : PDI G W X tg iter it) (ok : BlkOk X.N X.env.scope scope own) (hs' : ∀ i ∈ is, i ∈ own.map (·.2))
    (hg : ∀ (s : Shared) (H : Hp) (C : Addr) (cl : List (Str × Addr)) (fp : List Addr), PDG G (X.blk s H scope (compEnvC scope cl C X.env) fp) tg is g) (ht : ∀ (s : Shared) (H : Hp) (C : Addr) (cl : List (Str × Addr)) (fp : List Addr), PTs (X.blk s H scope (compEnvC scope cl C X.env) fp) ifs (tDT G WF t))
    (he : ∀ (s : Shared) (H : Hp) (C : Addr) (cl : List (Str × Addr)) (fp : List Addr), PD G WF (X.blk s H scope (compEnvC scope cl C X.env) fp) elt e) (hs : ∀ x, foldedSetIterable iter X.env x = pure x := by intro _; rfl) :
    PDo G W X (.ListComp elt [⟨tg, iter, ifs, 0⟩] scope pos) (aLc (own.map (·.2)) it g t e) :=
  (pe_lc hc hN hi ok hg ht he hs).imp fun σ H Q h => lc_fin hs' h
where
  lc_fin {vs is : List Nat} (hs : ∀ i ∈ is, i ∈ vs) {it : DA} {g : DG} {t : DT} {e : DE} {σ : L2.St} {H : Hp} {Q : VK} (h : tDo G W (aLc vs it g t e) σ H Q) : tLc (tDI G W it) (tDG G is g) (tDT G WF t) (tD G WF e) vs σ H Q := by
    obtain ⟨κ, w, s, ok, q⟩ := h
    refine ⟨κ, w, s, ok, ?_⟩
    unfold aLc at q
    cases e1 : it s with
    | stuck => rw [e1] at q; exact q.elim
    | exc x s' => rw [e1] at q; exact q
    | ok items s1 =>
      rw [e1] at q
      rw [Res.bind_ok] at q
      intro w1 J H1 l1 o1 hJ D hD
      refine lc_of hs hJ o1 hD ?_
      cases e2 : noX (lcL vs g t e items [] s1) with
      | stuck => rw [e2] at q; exact q.elim
      | exc x s' => exact absurd e2 (noX_exc _ _ _)
      | ok ys s2 =>
        rw [e2] at q
        intro w2 acc H2 l2 o2 r2
        exact q w2 D acc H2 (l1.trans l2) (Ok.unwipe o1 l2 o2 rfl) (o1.apart hD) r2
/-! ### enumerate, zip -/
def enumL (xs : List D) : List D := (List.range xs.length).zipWith (fun (i : Nat) x => .tup [.int (i : Int), x]) xs
def zipL (xs ys : List D) : List D := xs.zipWith (fun x y => .tup [x, y]) ys
def itEnum (f : DA) : DA := fun s => (f s).bind fun ds s1 => match ds with
  | [.lst xs] => .ok (enumL xs) s1
  | [.scr xs] => .ok (enumL xs) s1
  | _ => .stuck
def itZip (f : DA) : DA := fun s => (f s).bind fun ds s1 => match ds with
  | [.lst xs, .lst ys] => .ok (zipL xs ys) s1
  | [.tup xs, .tup ys] => .ok (zipL xs ys) s1
  | _ => .stuck
/-! ### x.append(e) of an own list; x += e -/
/-- the list at an own slot -/
theorem own_list {κ : Bs} {w : Wd} {s : DS} {σ : L2.St} {H : Hp} {i : Nat} {xs : List D} (ok : Ok G κ w s σ H) (e : s.sl[i]? = some (.ol xs)) : ∃ a vs, σ[i]? = some (some (.ref a)) ∧ H a = some (.lst vs) ∧ Reps G w vs xs := by
  obtain ⟨a, h1, ⟨vs, h2, h3⟩, _⟩ := ok.own i _ e rfl
  exact ⟨a, vs, h1, h2, h3⟩
def sApp (i : Nat) (fa : DA) : DStm := fun s => match s.sl[i]? with
  | some (.ol _) => (fa s).bind fun ds s1 => match ds, s1.sl[i]? with
    | [d], some (.ol xs) => if xs.length < 1000000 then .ok .nx ⟨s1.sl.set i (.ol (xs ++ [d])), s1.st⟩ else .stuck
    | _, _ => .stuck
  | _ => .stuck
theorem app_of {i : Nat} {fa : DA} {N : Ends} {σ : L2.St} {H : Hp} (h : tDS G W (sApp i fa) N σ H) : tDrop (tBM X.K "list" rAppend (tVar i) (tDA G W fa)) N σ H := by
  obtain ⟨κ, w, s, ok, q⟩ := h
  unfold sApp at q
  cases e : s.sl[i]? with
  | none => rw [e] at q; exact q.elim
  | some y =>
    rw [e] at q
    cases y with
    | ol xs0 =>
      obtain ⟨a, vs, h1, h2, h3⟩ := own_list ok e
      refine ⟨.ref a, h1, .inl ⟨rfl, vs, .inl (.inl h2)⟩, κ, w, s, ok, (PostG.bindS q).imp fun v H1 ⟨d, s1, w1, le, ok1, r1, q1⟩ => ?_⟩
      match d, q1 with
      | [d], q1 =>
        cases e1 : s1.sl[i]? with
        | none => rw [e1] at q1; exact q1.elim
        | some z =>
          rw [e1] at q1
          cases z with
          | ol xs =>
            replace q1 : PostS G W κ w1 (if xs.length < 1000000 then .ok .nx ⟨s1.sl.set i (.ol (xs ++ [d])), s1.st⟩ else .stuck) N := q1
            split at q1
            · rename_i c
              obtain ⟨a', vs', g1, g2, g3⟩ := own_list ok1 e1
              rw [h1] at g1
              cases g1
              obtain ⟨y, rfl, ry⟩ := r1.one
              refine ⟨a, vs', y, rfl, rfl, g2, by rw [g3.length, sizeLine_eq]; omega, ?_⟩
              exact q1 w1 σ _ (.refl _) (ok1.mut e1 rfl rfl h1 ⟨_, upd_same, g3.append (.cons ry .nil)⟩ fun _ _ z => nomatch z)
            · exact q1.elim
          | _ => exact q1.elim
      | [], q1 => cases e1 : s1.sl[i]? <;> exact q1.elim
      | _ :: _ :: _, q1 => cases e1 : s1.sl[i]? <;> exact q1.elim
    | _ => exact q.elim
theorem pds_append {i : Nat} {x : Str} {p apos cpos pos : Pos} {e : Expr} {fa : DA} (ho : PE X (.Name x p) (tVar i)) (ha : PDA G W X [e] fa)
    (hbase : attributeBase (.Name x p) "append" X.env (eval (.Name x p) X.env) = eval (.Name x p) X.env := by rfl)
    (hfew : ((backTo cpos (starEach [e] X.env)).all (fun x => !x.1) && (backToKw cpos (keywordEach [] X.env)).all (fun x => x.1.isSome)
      && decide ([e].length + ([] : List Keyword).length + (if ([] : List Keyword).isEmpty then 0 else 1) < 30)) = true := by rfl)
    (hline : (apos.endLine == cpos.line) = true := by rfl) (hs : starEach [e] X.env = (false, eval e X.env) :: starEach [] X.env := by rfl) (hplain : (backTo cpos (starEach [] X.env)).any (·.1) = false := by rfl)
    (hsw : swapsWith (.Call (.Attribute (.Name x p) "append" apos) [e] [] cpos) none pos.line X.env = pure false := by rfl) : PDS G W X (.Expr (.Call (.Attribute (.Name x p) "append" apos) [e] [] cpos) pos) (sApp i fa) :=
  (ps_expr (pe_bm PySem.F.plainAttrs_list PySem.F.slot_list_append PySem.F.type_list_append mt_append ho ha hbase hfew hline hs hplain) hsw).imp fun N σ H q => app_of q
/-- x += e of ints -/
def sAug (i : Nat) (o : Int → Int → Int) (f : DE) : DStm := fun s => match s.sl[i]? with
  | some (.val (.int a)) => (f s).bind fun d s1 => match d with
    | .int b => .ok .nx ⟨s1.sl.set i (.val (.int (o a b))), s1.st⟩
    | _ => .stuck
  | _ => .stuck
theorem pds_aug {i : Nat} {x : Str} {e : Expr} {f : DE} {op : Operator} {o : Int → Int → Int} {pos pos' : Pos} (hN : X.N.Nodup) (hi : X.N[i]? = some x) (hx : Loc X.env.scope x) (he : PD G W X e f) (ho : PIp X op (ipI o))
    (hf : X.fn x = true ∨ X.env.scope.names.lookup x = some .local := by first | exact .inl rfl | exact .inr rfl | assumption) : PDS G W X (.AugAssign (.Name x pos') op e pos) (sAug i o f) :=
  (ps_aug hN hi hx he ho hf).imp fun N σ H ⟨κ, w, s, ok, q⟩ => by
    unfold sAug at q
    cases e : s.sl[i]? with
    | none => rw [e] at q; exact q.elim
    | some y =>
      rw [e] at q
      cases y with
      | val d =>
        cases d with
        | int a =>
          obtain ⟨v, h1, h2⟩ := ok.val i _ e
          cases h2
          refine ⟨.int a, h1, κ, w, s, ok, (PostG.bindS q).imp fun v H1 ⟨d, s1, w1, le, ok1, r1, q1⟩ => ?_⟩
          cases r1 with
          | int b => exact ⟨a, b, rfl, rfl, q1 w1 _ H1 (.refl _) (ok1.setVal (.int _) i)⟩
          | _ => exact q1.elim
        | _ => exact q.elim
      | _ => exact q.elim
/-- a < b < c -/
def eChain (o o' : D → D → Option D) (fa fb fc : DE) : DE := fun s => (fa s).bind fun x s1 => (fb s1).bind fun y s2 => match o x y with
  | some (.bl true) => (fc s2).bind fun z s3 => match o' y z with
    | some d => .ok d s3
    | none => .stuck
  | some (.bl false) => .ok (.bl false) s2
  | _ => .stuck
theorem pd_chain {op op' : CmpOp} {o o' : D → D → Option D} {a b c : Expr} {fa fb fc : DE} {pos : Pos} (ho : OpD G X (compareOp op) o) (ho' : OpD G X (compareOp op') o') (ha : PD G W X a fa) (hb : PD G W X b fb) (hc : PD G W X c fc)
    (hp : ∀ {r r' : R2} {ta tb tc : TE}, OpR X (compareOp op) r → OpR X (compareOp op') r' → PE X a ta → PE X b tb → PE X c tc → PE X (.Compare a [op, op'] [b, c] pos) (tChain r r' ta tb tc)) : PD G W X (.Compare a [op, op'] [b, c] pos) (eChain o o' fa fb fc) := by
  obtain ⟨r, h1, h2⟩ := ho
  obtain ⟨r', h1', h2'⟩ := ho'
  refine (hp h1 h1' ha hb hc).imp fun σ H Q ⟨κ, w, s, ok, q⟩ => ⟨κ, w, s, ok, (PostG.bind q).imp fun v H1 ⟨d, s1, w1, le, ok1, r1, q1⟩ => ⟨κ, w1, s1, ok1, (PostG.bind q1).imp fun v2 H2 ⟨d2, s2, w2, le2, ok2, r2, q2⟩ => ?_⟩⟩
  cases e : o d d2 with
  | none => rw [e] at q2; exact q2.elim
  | some z =>
    rw [e] at q2
    refine h2 κ w2 s2 σ H2 v v2 d d2 z _ ok2 (r1.mono le2) r2 e fun w3 v3 H3 l3 o3 r3 => ?_
    cases r3 with
    | bl k =>
      refine ⟨k, rfl, ?_⟩
      cases k with
      | false => exact q2 w3 _ H3 l3 o3 (.bl false)
      | true =>
        refine ⟨κ, w3, s2, o3, (PostG.bind (PostG.mono l3 q2)).imp fun v4 H4 ⟨d4, s4, w4, le4, ok4, r4, q4⟩ => ?_⟩
        cases e' : o' d2 d4 with
        | none => rw [e'] at q4; exact q4.elim
        | some z' => rw [e'] at q4; exact h2' κ w4 s4 σ H4 v2 v4 d2 d4 z' Q ok4 ((r2.mono l3).mono le4) r4 e' q4
    | _ => exact q2.elim
end
end DL
set_option maxRecDepth 100000
set_option maxHeartbeats 4000000
set_option autoImplicit false
namespace DL
open PySem PySem.Spec PyProof.Rows L2
section
variable {G : Gam} {W : WX} {X : Cx}
/-! ### a for over a list, a tuple, a text -/
theorem pi_any {tg l : Expr} {tl : TE} (hl : PE X l tl) : PI X tg l (fun σ H R => tl σ H fun x H1 => (∃ a, x = .ref a ∧ (∃ xs, SqL X.K H1 a xs) ∧ R (Itl X.K a) H1) ∨ (∃ a, x = .ref a ∧ (∃ xs, SqT X.K H1 a xs) ∧ R (Itt X.K a) H1) ∨ ∃ y, x = .str y ∧ R (Its y) H1) := by
  refine ⟨fun pins s σ H R I h => ?_⟩
  refine thn (hl.run pins s σ H _ I h) fun v s1 ⟨x, H1, I1, r1, q1⟩ => ?_
  rcases q1 with ⟨a, e, ⟨xs, hq⟩, q⟩ | ⟨a, e, ⟨xs, hq⟩, q⟩ | ⟨y, e, q⟩
  · subst e
    cases r1
    obtain ⟨its, rv, p, hz⟩ := I1.list hq
    refine wpAny_pyIter_list p.isList ?_
    refine ⟨s1.heap.objs.size, [s1.heap.objs.size], _, _, H1, rfl, I1.kept (t' := s1.toks) fun b o e => Heap.get?_push_of_some _ e, turn_list a _, ⟨_, Heap.get?_push_size _ rfl, rfl, rfl⟩, fun b hb => ?_, q⟩
    have e : b = s1.heap.objs.size := by simpa using hb
    subst e
    exact I1.fpOk (Nat.le_refl _) (I1.hok.fresh (Nat.le_refl _))
  · subst e
    cases r1
    obtain ⟨its, rv, p, hz⟩ := I1.tuple hq
    refine wpAny_pyIter_tuple (show s1.heap.IsTuple a its.toArray from p) ?_
    refine ⟨s1.heap.objs.size, [s1.heap.objs.size], _, _, H1, rfl, I1.kept (t' := s1.toks) fun b o e => Heap.get?_push_of_some _ e, turn_tuple a _, ⟨_, Heap.get?_push_size _ rfl, rfl, rfl⟩, fun b hb => ?_, q⟩
    have e : b = s1.heap.objs.size := by simpa using hb
    subst e
    exact I1.fpOk (Nat.le_refl _) (I1.hok.fresh (Nat.le_refl _))
  · subst e
    obtain ⟨t, rfl⟩ := r1
    cases ha : y.cps.all (· < 128)
    · exact wpAny_pyIter_wide ha (pi_one (tk := s1.toks) I1 _ (turn_str _ y t "str_iterator" (.inr rfl)) ⟨_, Heap.get?_push_size _ rfl, rfl, rfl⟩ q)
    · exact wpAny_pyIter_ascii ha (pi_one (tk := s1.toks) I1 _ (turn_str _ y t "str_ascii_iterator" (.inl rfl)) ⟨_, Heap.get?_push_size _ rfl, rfl, rfl⟩ q)
theorem itOk_str {w : Wd} (l : Nm) : ItOk G w (Its (nm l)) (l.map fun c => D.str [c]) := by
  intro w1 S H le fok i
  refine ⟨fun d hd => ?_, fun hn => ?_⟩
  · rw [List.getElem?_map] at hd
    cases e : l[i]? with
    | none => rw [e] at hd; cases hd
    | some c =>
      rw [e] at hd
      cases hd
      have hc : (nm l).cps[i]? = some c := by simpa [nm] using e
      refine ⟨?_, fun x H' hy => ?_⟩
      · show i < (nm l).cps.size
        exact (Array.getElem?_eq_some_iff.mp hc).1
      · obtain ⟨hH, c', hc', hx⟩ := hy
        rw [hc] at hc'
        cases hc'
        subst hH
        subst hx
        exact ⟨w1, .refl _ _, fok, .str [c]⟩
  · show (nm l).cps.size ≤ i
    rw [List.getElem?_map] at hn
    cases e : l[i]? with
    | some c => rw [e] at hn; cases hn
    | none =>
      have := List.getElem?_eq_none_iff.mp e
      simpa [nm] using this
def itemsD (d : D) : Option (List D) := match d with
  | .lst xs => some xs
  | .scr xs => some xs
  | .tup xs => some xs
  | .str l => some (l.map fun c => .str [c])
  | _ => none
def itSeq (f : DE) : DA := fun s => (f s).bind fun d s1 => match itemsD d with
  | some xs => .ok xs s1
  | none => .stuck
theorem pdi_seq (hK : G.K = X.K) {tg e : Expr} {f : DE} (h : PD G W X e f) : PDI G W X tg e (itSeq f) :=
  (pi_any h).imp fun σ H R ⟨κ, w, s, ok, q⟩ => ⟨κ, w, s, ok, (PostG.bindI q).imp fun v H1 ⟨d, s1, w1, le, ok1, r1, q1⟩ => by
    cases r1 with
    | @lst a vs ds e r =>
      have e' : SqL G.K w1.F a vs := .inl (.inl e)
      exact .inl ⟨a, rfl, ⟨vs, hK ▸ SqL.le e' ok1.fok.sub⟩, q1 w1 _ H1 (.refl _) ok1 (itOk_list hK e' (fun _ _ _ _ _ => trivial) r fun _ _ => trivial)⟩
    | @scr a vs ds e r =>
      exact .inl ⟨a, rfl, ⟨vs, hK ▸ SqL.le e ok1.fok.sub⟩, q1 w1 _ H1 (.refl _) ok1 (itOk_list hK e (fun _ _ _ _ _ => trivial) r fun _ _ => trivial)⟩
    | @tup a vs ds e r => exact .inr (.inl ⟨a, rfl, ⟨vs, hK ▸ SqT.le e ok1.fok.sub⟩, q1 w1 _ H1 (.refl _) ok1 (itOk_tup hK e r)⟩)
    | str l => exact .inr (.inr ⟨nm l, rfl, q1 w1 _ H1 (.refl _) ok1 (itOk_str l)⟩)
    | _ => exact q1.elim⟩
/-! ### + and * in all -/
def lAdd : D → D → Option D := fun x y => match x, y with
  | .lst a, .lst b => if a.length + b.length ≤ 1000000 then some (.lst (a ++ b)) else none
  | _, _ => none
theorem opd_ladd : OpD G X (binaryOp .Add) lAdd := ⟨_, op_cat, fun κ w s σ H x y dx dy d Q ok rx ry e q => by
  cases rx with
  | @lst a vs ds e1 r1 =>
    cases ry with
    | @lst a2 vs2 ds2 e2 r2 =>
      have e : (if ds.length + ds2.length ≤ 1000000 then some (D.lst (ds ++ ds2)) else none) = some d := e
      split at e
      · cases e
        refine ⟨a, a2, vs, vs2, rfl, rfl, ok.fok.sub _ _ e1, ok.fok.sub _ _ e2, by rw [r1.length, r2.length, sizeLine_eq]; omega, fun p hp => ?_⟩
        obtain ⟨le2, ok2⟩ := ok.alloc hp (.lst (vs ++ vs2))
        exact q _ _ _ le2 ok2 (.lst upd_same ((r1.append r2).mono le2))
      · cases e
    | _ => exact nomatch e
  | _ => exact nomatch e⟩
def lMul : D → D → Option D := fun x y => match x, y with
  | .lst a, .int k => if -(2 ^ 63) ≤ k ∧ k < 2 ^ 63 ∧ a.length * k.toNat ≤ 1000000 then some (.lst (List.replicate k.toNat a).flatten) else none
  | _, _ => none
theorem opd_lmul : OpD G X (binaryOp .Mult) lMul := ⟨_, op_rep, fun κ w s σ H x y dx dy d Q ok rx ry e q => by
  cases rx with
  | @lst a vs ds e1 r1 =>
    cases ry with
    | int k =>
      have e : (if -(2 ^ 63) ≤ k ∧ k < 2 ^ 63 ∧ ds.length * k.toNat ≤ 1000000 then some (D.lst (List.replicate k.toNat ds).flatten) else none) = some d := e
      split at e
      · rename_i c
        cases e
        refine ⟨a, k, vs, rfl, rfl, ok.fok.sub _ _ e1, c.1, c.2.1, by rw [r1.length, sizeLine_eq]; omega, fun p hp => ?_⟩
        obtain ⟨le2, ok2⟩ := ok.alloc hp (.lst (List.replicate k.toNat vs).flatten)
        exact q _ _ _ le2 ok2 (.lst upd_same ((r1.rep _).mono le2))
      · cases e
    | _ => exact nomatch e
  | _ => exact nomatch e⟩
theorem OpD.or {f : Value → Value → Sem Value} {o o' : D → D → Option D} (h : OpD G X f o) (h' : OpD G X f o') : OpD G X f (fun x y => (o x y).orElse fun _ => o' x y) := by
  obtain ⟨r, h1, h2⟩ := h
  obtain ⟨r', h1', h2'⟩ := h'
  refine ⟨_, h1.or h1', fun κ w s σ H x y dx dy d Q ok rx ry e q => ?_⟩
  have e : ((o dx dy).orElse fun _ => o' dx dy) = some d := e
  cases e1 : o dx dy with
  | some z => rw [e1] at e; cases e; exact .inl (h2 κ w s σ H x y dx dy _ Q ok rx ry e1 q)
  | none => rw [e1] at e; exact .inr (h2' κ w s σ H x y dx dy d Q ok rx ry e q)
def dAdd : D → D → Option D := fun x y => match x, y with
  | .int i, .int j => some (.int (i + j))
  | x, y => (sAdd x y).orElse fun _ => lAdd x y
theorem OpD.congr {f : Value → Value → Sem Value} {o o' : D → D → Option D} (h : OpD G X f o) (e : ∀ x y, o' x y = o x y) : OpD G X f o' := by
  have : o' = o := by funext x y; exact e x y
  rw [this]; exact h
theorem opd_addA (hK : G.K = X.K) : OpD G X (binaryOp .Add) dAdd := (opd_add.or ((opd_sadd hK).or opd_ladd)).congr fun x y => by
  cases x <;> cases y <;> rfl
def dMul : D → D → Option D := fun x y => match x, y with
  | .int i, .int j => if mulOk i j then some (.int (i * j)) else none
  | x, y => lMul x y
theorem opd_mulA : OpD G X (binaryOp .Mult) dMul := (opd_mul.or opd_lmul).congr fun x y => by
  cases x <;> cases y <;> first
    | rfl
    | (rename_i i j
       show (if mulOk i j then some (D.int (i * j)) else none) = ((if mulOk i j then some (D.int (i * j)) else none).orElse fun _ => lMul (.int i) (.int j))
       split <;> rfl)
/-! ### a, b, c = x, y, z -/
def sPar3 (i j l : Nat) (f : DA) : DStm := fun s => (f s).bind fun ds s1 => match ds with
  | [x, y, z] => .ok .nx ⟨((s1.sl.set i (.val x)).set j (.val y)).set l (.val z), s1.st⟩
  | _ => .stuck
theorem pds_par3 {i j l : Nat} {x y z : Str} {a b c : Expr} {f : DA} {px py pz pt pos : Pos} {kt k2 : Nat} {pt2 : Pos} (hc : X.calm = true) (hN : X.N.Nodup) (hi : X.N[i]? = some x) (hj : X.N[j]? = some y) (hl : X.N[l]? = some z) (hij : i ≠ j) (hil : i ≠ l) (hjl : j ≠ l)
    (hx : X.env.scope.names.lookup x = some .local) (hy : X.env.scope.names.lookup y = some .local) (hz : X.env.scope.names.lookup z = some .local) (ha : PDA G W X [a, b, c] f)
    (hw : swappedStores [.Tuple [.Name x px, .Name y py, .Name z pz] kt pt] (.Tuple [a, b, c] k2 pt2) X.env = pure (some [x, y, z]))
    (hs : swapsWithSole [.Tuple [.Name x px, .Name y py, .Name z pz] kt pt] (.Tuple [a, b, c] k2 pt2) pos.line X.env = pure false := by rfl) :
    PDS G W X (.Assign [.Tuple [.Name x px, .Name y py, .Name z pz] kt pt] (.Tuple [a, b, c] k2 pt2) pos) (sPar3 i j l f) :=
  (ps_par3 hc hN hi hj hl hij hil hjl hx hy hz ha hw hs).imp fun N σ H ⟨κ, w, s, ok, q⟩ => ⟨κ, w, s, ok, (PostG.bindS q).imp fun v H1 ⟨d, s1, w1, le, ok1, r1, q1⟩ => by
    match d, q1, r1 with
    | [x, y, z], q1, .cons a (.cons b (.cons c .nil)) => exact ⟨_, _, _, rfl, q1 w1 _ H1 (.refl _) (((ok1.setVal a i).setVal b j).setVal c l)⟩
    | [], q1, _ => exact q1.elim
    | [_], q1, _ => exact q1.elim
    | [_, _], q1, _ => exact q1.elim
    | _ :: _ :: _ :: _ :: _, q1, _ => exact q1.elim⟩
/-! ### types as values -/
theorem pd_bltn {x : Str} {n : String} {pos : Pos} (hg : Gl X x) (hm : X.mg x = none) (hv : bootBuiltins x = some (.type n)) (hn : x ≠ "__name__" := by decide) (hd : (x == ("__debug__" : Str)) = false := by decide) : PD G W X (.Name x pos) (eC (.ty n)) :=
  pd_c (pe_bltn (v := .ty n) hg hm hv rfl hn hd) fun _ => .ty n
theorem pd_cls {x : Str} {c : String} {C : Addr} {pos : Pos} (hg : Gl X x) (hm : X.mg x = some (.ref C)) (hC : G.ct c = some C) (hd : (x == ("__debug__" : Str)) = false := by decide) : PD G W X (.Name x pos) (eC (.cls c)) :=
  pd_c (pe_glob (v := .ref C) hg hm rfl hd) fun _ => .cls hC
/-! ### slices of tuples and texts, xs[::-1] -/
def eSlT (f : DE) (l h : DOp) : DE := fun s => (f s).bind fun d s1 => (l s1).bind fun lo s2 => (h s2).bind fun hi s3 => match d with
  | .tup xs => if (cutD xs lo hi).length ≠ xs.length then .ok (.tup (cutD xs lo hi)) s3 else .stuck
  | _ => .stuck
theorem cut_len {w : Wd} {vs : List V} {ds : List D} (r : Reps G w vs ds) (lo hi : Option Int) : (cutV vs lo hi).length = (cutD ds lo hi).length := (r.cut lo hi).length
/-- a slice of a list or of a tuple -/
def slD (d : D) (lo hi : Option Int) : Option D := match d with
  | .lst xs => some (.lst (cutD xs lo hi))
  | .scr xs => some (.lst (cutD xs lo hi))
  | .tup xs => if (cutD xs lo hi).length ≠ xs.length then some (.tup (cutD xs lo hi)) else none
  | _ => none
def eSlA (f : DE) (l h : DOp) : DE := fun s => (f s).bind fun d s1 => (l s1).bind fun lo s2 => (h s2).bind fun hi s3 => match slD d lo hi with
  | some x => .ok x s3
  | none => .stuck
theorem pd_slA (hK : G.K = X.K) {e : Expr} {lo hi : Option Expr} {f : DE} {l h : DOp} {p2 pos : Pos} (he : PD G W X e f) (hl : PO X lo (tDO G W l)) (hh : PO X hi (tDO G W h)) : PD G W X (.Subscript e (.Slice lo hi none p2) pos) (eSlA f l h) :=
  (pe_slice (sl_list.or sl_tup) he hl hh).imp fun σ H Q ⟨κ, w, s, ok, q⟩ => ⟨κ, w, s, ok, (PostG.bind q).imp fun v H1 ⟨d, s1, w1, le, ok1, r1, q1⟩ => ⟨κ, w1, s1, ok1, (PostG.bind q1).imp fun v2 H2 ⟨d2, s2, w2, le2, ok2, r2, q2⟩ =>
    ⟨κ, w2, s2, ok2, (PostG.bind q2).imp fun v3 H3 ⟨d3, s3, w3, le3, ok3, r3, q3⟩ => by
      subst r2
      subst r3
      cases r1 with
      | @lst a vs ds e r =>
        have e := le3.f _ _ (le2.f _ _ e)
        refine .inl ⟨a, vs, rfl, .inl (.inl (ok3.fok.sub _ _ e)), fun p hp => ?_⟩
        obtain ⟨le4, ok4⟩ := ok3.alloc hp (.lst (cutV vs v2 v3))
        exact q3 _ _ _ le4 ok4 (.lst upd_same ((((r.mono le2).mono le3).cut v2 v3).mono le4))
      | @scr a vs ds e r =>
        refine .inl ⟨a, vs, rfl, hK ▸ SqL.le (SqL.le (SqL.le e le2.f) le3.f) ok3.fok.sub, fun p hp => ?_⟩
        obtain ⟨le4, ok4⟩ := ok3.alloc hp (.lst (cutV vs v2 v3))
        exact q3 _ _ _ le4 ok4 (.lst upd_same ((((r.mono le2).mono le3).cut v2 v3).mono le4))
      | @tup a vs ds e r =>
        right
        have rr := (r.mono le2).mono le3
        cases e4 : slD (.tup ds) v2 v3 with
        | none => rw [e4] at q3; exact q3.elim
        | some x =>
          rw [e4] at q3
          have e4 : (if (cutD ds v2 v3).length ≠ ds.length then some (D.tup (cutD ds v2 v3)) else none) = some x := e4
          split at e4
          · rename_i c
            cases e4
            refine ⟨a, vs, rfl, hK ▸ SqT.le (SqT.le (SqT.le e le2.f) le3.f) ok3.fok.sub, ?_, fun p hp => ?_⟩
            · intro z
              apply c
              rw [← cut_len rr, ← rr.length]
              unfold cutV
              rw [z.1, z.2]
              simp
            · obtain ⟨le4, ok4⟩ := ok3.alloc hp (.tup (cutV vs v2 v3))
              exact q3 _ _ _ le4 ok4 (.tup (.inl (.inl upd_same)) ((rr.cut v2 v3).mono le4))
          · cases e4
      | _ => exact q3.elim⟩⟩⟩
/-- xs[::-1] of a list: a new list -/
def aRev (f : DE) : DA := fun s => (f s).bind fun d s1 => match d with
  | .lst xs => .ok xs.reverse s1
  | .scr xs => .ok xs.reverse s1
  | _ => .stuck
theorem Reps.reverse {w : Wd} : ∀ {vs : List V} {ds : List D}, Reps G w vs ds → Reps G w vs.reverse ds.reverse
  | _, _, .nil => .nil
  | _, _, .cons a b => by
    rw [List.reverse_cons, List.reverse_cons]
    exact (Reps.reverse b).append (.cons a .nil)
/-! ### the law's end -/
def spLaw (K : PySem.W.Frag) : Sp := fun vs H Q _ => ∃ (a : Addr) (ns : List Int), vs = [.ref a] ∧ SqL K H a (ns.map V.int) ∧ ns.length ≤ 63 ∧ ∀ H', Q (.bl true) H'
theorem noCX {P : Program} {w : World} : ∀ (H : Hp) (s : Shared) (e : Value) (s' : Shared), L2.CX P w [] H s (fun _ _ _ => False) e s' → False := fun H s e s' h => by
  obtain ⟨_, _, _, _, _, _, _, _, _, _, _, _, z⟩ := h
  exact z
end
end DL
set_option maxRecDepth 100000
set_option maxHeartbeats 4000000
set_option autoImplicit false
namespace DL
open PySem PySem.Spec PyProof.Rows L2
section
variable {G : Gam} {W : WX} {X : Cx}
theorem callD1 {k : Nat} {f : Addr} {fd : FuncData} {ps : List Str} {n : Nat} {g : DFn} {pins : List (Addr × Obj)} {sh : Shared} {κ : Bs} {w : Wd} {s : DS} {σ : L2.St} {H : Hp} {vs : List V} {ds : List D} {us : List Value} {Q : VK}
    (F : FnOk X.prog X.w X.K X.mg X.base (L2.CX X.prog X.w) k f fd ps (spG G n g)) (hr : Room (k + 1) X.A) (hb : Binds X.K fd ps []) (tk : Takes X W) (I : Inv X pins σ H sh) (ok : Ok G κ w s σ H) (rs : Reps G w vs ds) (r : Vals vs us) (hn : ds.length = n)
    (q : PostG G W (Rep G) κ w σ (lift s (g ds s.st)) Q) : wpAny (model X.prog X.w) X.A.in1 (call (.ref f) us) (EP X pins σ Q) X.xe sh := by
  have h : spG G n g vs H Q (WE W σ) := ⟨by rw [rs.length]; exact hn, w, s.st, ds, ok.fok, rs, postF_of ok q⟩
  have hl : us.length = ps.length := by rw [← r.length]; exact F.len _ _ _ _ h
  have hbb := hb sh us I.kIn (by rw [List.append_nil]; exact hl)
  rw [List.append_nil] at hbb
  refine wpAny_call (codeAny_mono (F.run X.A.in1 X.stack sh H ⟨us, []⟩ us vs Q (WE W σ) hr.in1 I.env0.in1 hbb r h) fun r s' hq => ?_)
  cases r with
  | error e => exact passAt tk σ pins H sh e s' I hq
  | ok fl =>
    cases fl with
    | ret u => exact I.after hq
    | next => exact False.elim hq
    | brk => exact False.elim hq
    | cont => exact False.elim hq
/-- a built-in special method of an instance of an own class -/
theorem ifBound_B {M : Model} {A : Around} {E : Value → Shared → Prop} {s : Shared} {K : PySem.W.Frag} {x C : Addr} {ox : Obj} {od : Option Obj} {name : Str} {id : String} {args : List Value} {Q : Option Value → Shared → Prop} (Xk : K.In s.heap) (I : PySem.W.InstAt s.heap x ox C od)
    (hs : PySem.W.findIn K (.ref C) name = some (some (.builtin id))) (hb : ∀ self, bindSpecial (.builtin id) self = pure (.builtin id, [self]))
    (h : wpAny M A (call (.builtin id) (.ref x :: args)) (fun v => Q (some v)) E s) : wpAny M A (callSpecialIfBound? (.ref x) name args) Q E s := by
  simp only [callSpecialIfBound?, bindSpecialIfBound?]
  refine wpAny_holding (wpAny_bind (wpAny_bind (wpAny_bind (I.type.here ((PySem.W.looks_findIn Xk hs).here ?_)))))
  refine wpAny_bind (wpAny_askSetting (wpAny_ite ?_))
  have fin : wpAny M A (call (.builtin id) ([.ref x] ++ args) >>= fun v => pure (some v)) Q E s := wpAny_bind (wpAny_mono h (fun v s' h' => wpAny_pure h') fun _ _ h' => h')
  simp only [hb]
  split
  · exact wpAny_bind (wpAny_pure (wpAny_pure (by exact fin)))
  · exact wpAny_tryCatch (wpAny_bind (wpAny_pure (wpAny_pure (by exact fin))))
theorem ne_call {prog : Program} {w : World} {A : Around} {E : Value → Shared → Prop} {s : Shared} {K : PySem.W.Frag} {a C b : Addr} {ox : Obj} {od : Option Obj} {Q : Value → Shared → Prop} (Xk : K.In s.heap) (I : PySem.W.InstAt s.heap a ox C od) (hm : PySem.W.mroIn K C (.type "object") = some true)
    (h : wpAny (model prog w) A.in1 (callSpecialIfBound? (.ref a) "__eq__" [.ref b]) (fun r s' => ∃ b, r = some (.bool b) ∧ Q (.bool (!b)) s') E s) (hu : A.in1.units < cLine) : wpAny (model prog w) A (call (.builtin "object.__ne__") [.ref a, .ref b]) Q E s := by
  have L0 := I.type (M := model prog w)
  have L1 := PySem.W.looks_mroIn (M := model prog w) Xk hm
  refine wpAny_call (codeAny_call_builtin PySem.F.cmp_object.ne.plain PySem.F.cmpEntry_ne ?_)
  obtain ⟨hh, g, dr, t, os⟩ := s
  have hk := PySem.F.cmpKind_ne
  have hs := PySem.F.cmpSplit_ne
  have ha := PySem.F.cmpArgs_ne (.ref a) (.ref b)
  have fin : wpAny (model prog w) A.in1 (Builtin.«object.__ne__» ⟨[.ref a, .ref b], []⟩) (fun fin s' => match fin with | .done f => (match (.ok f : Result) with | .ok (.ret v) => Q v s' | .ok _ => False | .error e => E e s') | .again c' => c'.quiet = true ∧ codeAny (model prog w) A c' (fun r s' => match r with | .ok (.ret v) => Q v s' | .ok _ => False | .error e => E e s') s') (fun e s' => E e s') ⟨hh, g, dr, t, os⟩ := by
    unfold Builtin.«object.__ne__»
    rw [show slotArgs "__ne__" 1 ⟨[.ref a, .ref b], []⟩ = pure (.ref a, [.ref b]) from rfl]
    refine wpAny_bind (wpAny_pure (wpAny_bind (wpAny_cRoomFor hu (wpAny_bind (wpAny_mono h (fun r s' hr => ?_) fun _ _ e => e)))))
    obtain ⟨b, rfl, q⟩ := hr
    exact wpAny_bind (wpAny_truthy_bool (wpAny_pure q))
  simp only [checkBuiltinCall, hk, hs]
  refine wpAny_bind ?_
  unfold isInstance
  repeat (first | exact fin | lk)
def negD (r : Res DS D) : Res DS D := match r with
  | .ok (.bl b) s => .ok (.bl (!b)) s
  | .exc x s => .exc x s
  | _ => .stuck
def ownNe (c : String) (g : DFn) : DO2 := fun x y s => negD (ownO c g x y s)
theorem negD_post {κ : Bs} {w : Wd} {σ : L2.St} {r : Res DS D} {Q : VK} (h : PostG G W (Rep G) κ w σ (negD r) Q) : PostG G W (Rep G) κ w σ r (fun v H => ∃ b, v = .bl b ∧ Q (.bl (!b)) H) := by
  cases r with
  | stuck => exact h
  | exc x s => exact h
  | ok d s =>
    cases d with
    | bl b =>
      intro w' v H' l o r
      cases r
      exact ⟨b, rfl, h w' _ H' l o (.bl _)⟩
    | _ => exact h.elim
theorem opx_ownNe {c : String} {C f : Addr} {k : Nat} {fd : FuncData} {ps : List Str} {g : DFn} (hC : G.ct c = some C) (hs : PySem.W.findIn X.K (.ref C) "__eq__" = some (some (.ref f))) (hf : PySem.W.isFn X.K (.ref f) = true)
    (hne : PySem.W.findIn X.K (.ref C) "__ne__" = some (some (.builtin "object.__ne__"))) (hob : PySem.W.mroIn X.K C (.type "object") = some true)
    (F : FnOk X.prog X.w X.K X.mg X.base (L2.CX X.prog X.w) k f fd ps (spG G 2 g)) (hr : Room (k + 1) X.A) (hb : Binds X.K fd ps []) (tk : Takes X W) : OpX G W X (compareOp .NotEq) (ownNe c g) := by
  intro pins sh σ H x y v u κ w s dx dy Q I rx ry ok rdx rdy q
  obtain ⟨a, b, C', dxa, dxb, fa, fb, rfl, rfl, hC', hH, hH', q⟩ := ownO_of ok rdx rdy (negD_post q)
  rw [hC] at hC'
  cases hC'
  cases rx
  cases ry
  obtain ⟨mA, J, _⟩ := ins_get I.hok hH
  obtain ⟨mB, J', _⟩ := ins_get I.hok hH'
  obtain ⟨od, J, _⟩ := J.look
  obtain ⟨od', J', _⟩ := J'.look
  have KX := I.kIn
  show wpAny (model X.prog X.w) X.A (richCompare .NotEq (.ref a) (.ref b)) _ _ _
  -- object.__ne__: __eq__, turned
  have one : wpAny (model X.prog X.w) X.A (tryCompare (.ref a) "__ne__" (.ref b)) (fun r s' => ∃ v, r = some v ∧ EP X pins σ Q v s') X.xe sh := by
    unfold tryCompare
    refine wpAny_bind (ifBound_B KX J hne PySem.F.cmp_object.ne.bind ?_)
    refine wpAny_mono (ne_call (Q := fun v s' => ∃ b, v = .bool b ∧ EP X pins σ Q v s') KX J hob ?_ hr.in1.units0) (fun v s' h => ?_) fun _ _ e => e
    case refine_1 =>
      have hc := callD1 (us := [.ref a, .ref b]) (vs := [.ref a, .ref b]) (ds := [dx, dy]) F hr hb tk I ok (.cons rdx (.cons rdy .nil)) (.cons rfl (.cons rfl .nil)) rfl q
      refine PySem.W.ifBound_K KX J hs hf (wpAny_mono hc (fun v s' h => ?_) fun _ _ e => e)
      obtain ⟨x, H', I', r, b, rfl, q'⟩ := h
      cases r
      exact ⟨b, rfl, !b, rfl, .bl (!b), H', I', rfl, q'⟩
    case refine_2 =>
      obtain ⟨b, rfl, h⟩ := h
      exact wpAny_pure ⟨_, rfl, h⟩
  unfold richCompare
  simp only [oneThing_ref]
  refine wpAny_holding (wpAny_bind (wpAny_cRoomFor hr.units0 ?_))
  refine wpAny_bind (J.type.here (wpAny_bind (J'.type.here ?_)))
  rw [if_neg (by simp)]
  refine wpAny_bind (wpAny_pure ?_)
  simp only [Bool.false_eq_true, if_false]
  refine wpAny_bind (wpAny_mono one (fun r s' z => ?_) fun _ _ e => e)
  obtain ⟨v, rfl, hq⟩ := z
  exact wpAny_pure hq
end
end DL
set_option maxRecDepth 100000
set_option maxHeartbeats 4000000
set_option autoImplicit false
namespace DL
open PySem PySem.Spec PyProof.Rows L2
/-- all that is asked of a class, in one -/
def clsB (K : PySem.W.Frag) (C : Addr) (fs : List Str) : Bool :=
  PySem.W.plainGet K C Str.empty && (PySem.W.hasDictIn K C && (PySem.W.plainOver K C && (PySem.W.makesIn K C && (PySem.W.keepIn K (.ref C) && (PySem.W.selfFirst K C &&
    ((PySem.W.findIn K (.ref C) "__setattr__" == some (some (.builtin "object.__setattr__"))) && ((PySem.W.findIn K (.ref C) "__ne__" == some (some (.builtin "object.__ne__"))) && ((PySem.W.mroIn K C (.type "object") == some true) &&
    ((PySem.W.findIn K (.ref C) "__class__" == some (some (.builtin "object.__class__"))) && ((PySem.W.specialIn K (.builtin "object.__class__") "__get__" == some (some (.builtin "getset_descriptor.__get__"))) && ((PySem.W.takesIn K (.builtin "object.__class__") == some true) &&
    (fs.all (fun f => PySem.W.findIn K (.ref C) f == some none) && tyNames.all fun b => (PySem.W.kitOne K (.ref C) (.type b) == some false) && (PySem.W.kitOne K (.type b) (.ref C) == some false)))))))))))))
structure ClsF (K : PySem.W.Frag) (C : Addr) (fs : List Str) : Prop where
  cl : Cls K C
  makes : PySem.W.makesIn K C = true
  kp : PySem.W.keepIn K (.ref C) = true
  sf : PySem.W.selfFirst K C = true
  ne : PySem.W.findIn K (.ref C) "__ne__" = some (some (.builtin "object.__ne__"))
  mo : PySem.W.mroIn K C (.type "object") = some true
  i1 : PySem.W.findIn K (.ref C) "__class__" = some (some (.builtin "object.__class__"))
  i2 : PySem.W.specialIn K (.builtin "object.__class__") "__get__" = some (some (.builtin "getset_descriptor.__get__"))
  i3 : PySem.W.takesIn K (.builtin "object.__class__") = some true
  na : ∀ f ∈ fs, NoAttr K C f
  bo : ∀ b ∈ tyNames, PySem.W.kitOne K (.ref C) (.type b) = some false ∧ PySem.W.kitOne K (.type b) (.ref C) = some false
theorem clsF {K : PySem.W.Frag} {C : Addr} {fs : List Str} (h : clsB K C fs = true) : ClsF K C fs := by
  unfold clsB at h
  simp only [Bool.and_eq_true, beq_iff_eq, List.all_eq_true] at h
  obtain ⟨h1, h2, h3, h4, h5, h6, h7, h8, h9, h10, h11, h12, h13, h14⟩ := h
  exact ⟨⟨h1, h2, h3, h7⟩, h4, h5, h6, h8, h9, h10, h11, h12, fun f hf => h13 f hf, fun b hb => h14 b hb⟩
/-- the own classes apart from one another -/
theorem isOk_of {G : Gam} {cs : List String} (h1 : ∀ c ∈ cs, ∃ C fs, G.ct c = some C ∧ ClsF G.K C fs) (h2 : ∀ c ∈ cs, ∀ c' ∈ cs, ∀ C C', G.ct c = some C → G.ct c' = some C' → PySem.W.kitOne G.K (.ref C) (.ref C') = some (c == c')) : IsOk G cs := by
  refine ⟨fun c hc C hC => ?_, fun c hc C hC => ?_, h2⟩
  · obtain ⟨C', fs, e, f⟩ := h1 c hc
    rw [hC] at e
    cases e
    exact ⟨f.cl, f.i1, f.i2, f.i3, f.mo⟩
  · obtain ⟨C', fs, e, f⟩ := h1 c hc
    rw [hC] at e
    cases e
    exact f.bo
theorem kit_self {K : PySem.W.Frag} {C : Addr} : PySem.W.kitOne K (.ref C) (.ref C) = some true := by
  unfold PySem.W.kitOne
  rw [if_pos (by simp)]
end DL
set_option maxRecDepth 100000
set_option maxHeartbeats 4000000
set_option autoImplicit false
namespace DL
open PySem PySem.Spec PyProof.Rows L2
/-! ### an own error whose __init__ says super().__init__(x); self.f = x -/
section
variable {P : Program} {W0 : World} {Ar : Around} {Er : Value → Shared → Prop} {hp : Heap} {gs : Array GenState} {dr : Drawn} {tk : Nat} {osS : OsState}
theorem call_mwV {cn cq : Str} {C NN u e t0 : Addr} {b1 b2 sbs : List Value} {hdc abs : Bool} {sns : List Str} {cl : Option Bool} {dd : Option Addr} {j0 j1 j2 j3 j5 : Option Value} {rest : List Value} {Q : Value → Shared → Prop}
    (hC : hp.get? C = some (excClassObj cn cq C NN b1 b2 hdc sns sbs abs cl dd j0 j1 j2 j3 j5 "ValueError.__new__")) (he : hp.get? e = some (HandSPX.excO C t0)) (hu : hp.get? u = some (PySem.W.kxs_mw "ValueError.__init__" e)) (hrest : rest.length ≤ sizeLine)
    (hq : ∀ h' t1, (∀ b o, b ≠ e → hp.get? b = some o → h'.get? b = some o) → h'.get? e = some (HandSPX.excO C t1) → Q .none ⟨h', gs, dr, tk, osS⟩) :
    wpAny (model P W0) Ar (call (.ref u) rest) Q Er ⟨hp, gs, dr, tk, osS⟩ := by
  refine wpAny_call (codeAny_of_tree ?_)
  show wpAny _ Ar.in1 (callAny (.ref u) ⟨rest, []⟩) _ _ _
  simp only [callAny]
  refine wpAny_bind (wpAny_load hu ?_)
  simp only [PySem.W.kxs_mw, show (Value.type "method-wrapper" == Value.type "method" || Value.type "method-wrapper" == Value.type "builtin_function_or_method" || Value.type "method-wrapper" == Value.type "method-wrapper") = true by decide, if_true]
  refine PySem.W.KFB.if_so (by decide) ?_
  refine wpAny_bind (PySem.W.check_bound_init F.excBase_ValueError.toExcCallFacts hC he rfl ?_)
  refine wpAny_bind (wpAny_pure (wpAny_pure ?_))
  refine ⟨Code.quiet_builtin _ (by decide +kernel), codeAny_builtin F.excBase_ValueError.initEntry ?_⟩
  rw [Around.under_plainId F.excBase_ValueError.init.plain _]
  wp_walk
  refine hq _ hp.objs.size (fun b o hb ho => ?_) ?_
  · rw [Heap.get?_update_other _ _ (Ne.symm hb)]
    exact Heap.get?_push_of_some _ ho
  · rw [Heap.get?_update_self _ (Heap.get?_push_of_some _ he) rfl]
    rfl
end
theorem eval_si (x : Str) (env : Env) (p0 p1 p2 p3 p4 : Pos) (hp : (p2.endLine == p4.line) = true) : eval (.Call (.Attribute (.Call (.Name "super" p0) [] [] p1) "__init__" p2) [.Name x p3] [] p4) env = (do
      let ov ← attributeBase (.Call (.Name "super" p0) [] [] p1) "__init__" env (eval (.Call (.Name "super" p0) [] [] p1) env)
      standAt p2.atName
      let (f, first) ← holding [ov] (getMethod ov "__init__" (do return (← importBound (.Call (.Name "super" p0) [] [] p1) env).getD true))
      callWith p4 f first (backTo p4 (starEach [.Name x p3] env)) []) := by
  have h : ∀ fm, methodCallPos fm (.Call (.Name "super" p0) [] [] p1) env p2 p4 = pure p4 := fun fm => by
    unfold methodCallPos
    rw [hp]
    simp
  show (do
      let ov ← attributeBase (.Call (.Name "super" p0) [] [] p1) "__init__" env (eval (.Call (.Name "super" p0) [] [] p1) env)
      standAt p2.atName
      let (f, first) ← holding [ov] (calleeOf true (.Call (.Name "super" p0) [] [] p1) env ov "__init__")
      let callPos ← methodCallPos true (.Call (.Name "super" p0) [] [] p1) env p2 p4
      callWith callPos f first (backTo p4 (starEach [.Name x p3] env)) []) = _
  rw [h]
  rfl
def spX (C : Addr) (f : Str) : Sp := fun vs H Q _ => ∃ (a : Addr) (y : V), vs = [.ref a, y] ∧ H a = some (exo a C none) ∧ ∀ dx, H dx = none → dx ≠ a → Q .non (upd (upd H dx (exd dx [(f, y)])) a (exo a C (some dx)))
/-- what the text and the linked part say of such a def -/
structure XIn (P : Program) (K : PySem.W.Frag) (mg : Str → Option Value) (C fI : Addr) (fd : FuncData) (slf x f : Str) : Prop where
  ex : ∃ (oc doc pm dV kV ct ccl cl : Value) (od an cdd cld : Option Addr) (osl ccs csl : Array (Option Value)) (cda cc : Addr) (name qual file : Str) (params : Arguments) (scope : Scope) (vs : Array Value) (tf : Tok) (ar : Arg) (p0 p1 p2 p3 p4 p5 p6 p7 p8 p9 : Pos),
    fd = PySem.W.fnX name qual params [.Expr (.Call (.Attribute (.Call (.Name "super" p0) [] [] p1) "__init__" p2) [.Name x p3] [] p4) p5, .Assign [.Attribute (.Name slf p6) f p7] (.Name x p8) p9] scope [("__class__", cc)] dV kV doc pm an (.ref cda) ct ∧
    K.lookup fI = some ⟨oc, od, .func fd, osl⟩ ∧ PySem.W.codeIn K (.ref cda) qual = true ∧ (params.posonlyargs ++ params.args).head? = some ar ∧ ar.arg = slf ∧
    K.lookup cda = some ⟨ccl, cdd, .fields vs, ccs⟩ ∧ vs[2]? = some (.str file tf) ∧ ((P.main.file : Str) == file) = true ∧ K.lookup cc = some ⟨cl, cld, .cell (some (.ref C)), csl⟩ ∧
    scope.names.lookup ("super" : Str) = some .globalImplicit ∧ scope.names.lookup ("__class__" : Str) = some .free ∧ scope.names.lookup slf = some .local ∧ scope.names.lookup x = some .local ∧ (∀ z ∈ scope.names, z.2 ≠ .cell) ∧ scope.kind = .function ∧ scope.isCoroutine = false ∧ scope.isGenerator = false ∧ (p2.endLine == p4.line) = true
  top : (P.main.scope.names.lookup ("super" : Str)).isSome = false
  sup : mg "super" = none
  self : PySem.W.mroIn K C (.ref C) = some true
  al : PySem.W.ks_superIn K C C "__init__" = some (some (.builtin "ValueError.__init__"))
  ve : PySem.W.subIn K (.ref C) (.type "ValueError") = some true
  any : PySem.W.nsIn K cStatics "thirdparty.any" = some none
  cls : OexC K C
  no : PySem.W.findIn K (.ref C) f = some none
  ds : (slf == ("__debug__" : Str)) = false
  dx : (x == ("__debug__" : Str)) = false
  sx : slf ≠ x
theorem x_ok {P : Program} {w0 : World} {K : PySem.W.Frag} {mg : Str → Option Value} {base : Heap} {CX : CXT} {C fI : Addr} {fd : FuncData} {slf x f : Str} (T : XIn P K mg C fI fd slf x f) : FnOk P w0 K mg base CX 1 fI fd [slf, x] (spX C f) := by
  obtain ⟨⟨oc, doc, pm, dV, kV, ct, ccl, cl, od, an, cdd, cld, osl, ccs, csl, cda, cc, name, qual, file, params, scope, vs, tf, ar, p0, p1, p2, p3, p4, p5, p6, p7, p8, p9, efd, lk, hcd, har, hars, lcd, hvs, hfile, lcc, ksup, kcls, kslf, kx, kcell, kk, kco, kgen, kpos⟩, htop, hsup, hself, hal, hve, hany, hcls, hno, hds, hdx, hsx⟩ := T
  subst efd
  refine ⟨fun vs H Q E ⟨a, y, e, _⟩ => by rw [e]; rfl, fun A outer s H args us vs' Q E hr e0 hb hv hsp => ?_⟩
  obtain ⟨a, y, rfl, ea, hq⟩ := hsp
  cases hv with
  | @cons _ u0 _ ur ra rest =>
  cases rest with
  | @cons _ u _ ur2 ry rest =>
  cases rest
  obtain rfl : u0 = Value.ref a := ra
  have KX : K.In s.heap := e0.mod.kin.keeps fun b o e => (e0.bs b o e).1
  have lim : s.heap.NoLimit := e0.mod.nolimit.keeps fun b o e => (e0.bs b o e).1
  obtain ⟨t0, hea⟩ := exo_at e0.hok ea
  obtain ⟨cn, cq, NS, b1, b2, sns, sbs, abs, col, dd, j0, j1, j2, j3, j5, hC, hbm⟩ := hcls.cls
  have hcl : PySem.W.clsIn K C = some { name := cn, bases := b1, mro := .ref C :: b2, ns := NS, qualname := cq, hasDict := true, slotNames := sns, subclasses := sbs, abstract := abs, collection := col, hasDel := false } := by unfold PySem.W.clsIn; rw [hC] <;> rfl
  refine ks_codeAny_call_defAt (binds := [(slf, .ref a), (x, u)]) hr.depth (KX _ _ lk) rfl lim (PySem.W.codeRec_of KX hcd) rfl hb kcell (fun z hz => ?_) (fun h0 hns hk0 => ?_) kco kgen kk
  · rcases List.mem_cons.mp hz with rfl | hz
    · exact kslf
    · rcases List.mem_cons.mp hz with rfl | hz
      · exact kx
      · cases hz
  have X0 : K.In h0 := KX.keeps hk0
  have ns_s : (fun y => ([(slf, Value.ref a), (x, u)] : List (Str × Value)).reverse.lookup y) slf = some (.ref a) := by
    have : (slf == x) = false := by simpa using hsx
    simp [List.lookup, this]
  have ns_x : (fun y => ([(slf, Value.ref a), (x, u)] : List (Str × Value)).reverse.lookup y) x = some u := by simp [List.lookup]
  have hea0 := hk0 _ _ hea
  have oC : s.heap.get? C = some _ := KX _ _ hC
  have ne_aC : a ≠ C := fun z => by
    rw [z, oC] at hea
    cases hea
  refine ks_wpAt_execs_cons (ks_wpAt_Expr_any (ks_wpAt_MethodCall ?_ (eval_si x _ p0 p1 p2 p3 p4 kpos)) (hi := by show (scope.kind == .module && _) = false; rw [kk]; rfl))
  refine ks_wpAt_super_base ksup kcls (by decide) rfl (X0 _ _ lk) rfl har rfl (X0 _ _ lcd) rfl hvs hfile htop ?_
  obtain ⟨mb, hb1, hb2⟩ := e0.mod.blt
  have bk : ∀ b o, base.get? b = some o → h0.get? b = some o := fun b o e => hk0 _ _ (e0.bs b o e).1
  refine PySem.W.ks_loadName_global kk ksup (Calls.loadGlobal_builtin (e0.mod.glob.keeps bk) hsup (hb1.keeps bk) ((hb2 _ (by decide)).trans PyProof.Rows.Boot.«super») ⟨rfl, ?_⟩)
  refine wpAny_loadName_free kk kcls (c := cc) rfl ⟨_, X0 _ _ lcc, rfl⟩ ?_
  rw [hars]
  refine wpAny_loadName_local kk kslf hns ns_s ?_
  refine ks_wpAny_isType_cls (X0 _ _ hC) rfl ⟨rfl, ?_⟩
  refine ks_wpAny_call_super (X0 _ _ hC) rfl hea0 rfl (fun c z => nomatch z) (PySem.W.looks_mroIn X0 hself) (fun h1 hso hk1 => ?_)
  have X1 : K.In h1 := X0.keeps hk1
  have hea1 := hk1 _ _ hea0
  have inst1 : PySem.W.InstAt h1 a _ C none := ⟨hea1, rfl, rfl, trivial⟩
  have hI : PySem.W.Looks (model P w0) h1 (isInstance (.ref a) (.type "ValueError")) true := inst1.type.andThen (PySem.W.looks_subIn X1 hve)
  have hmro : PySem.W.Looks (model P w0) h1 (mroOf (.ref C)) (.ref C :: b2) := (PySem.W.looks_clsIn X1 hcl).andThen .now
  have hal' : PySem.W.alongIn K "__init__" (((Value.ref C :: b2).dropWhile (· != .ref C)).drop 1) = some (some (.builtin "ValueError.__init__")) := by
    unfold PySem.W.ks_superIn at hal
    rw [hcl] at hal
    exact hal
  refine PySem.W.kxs_getMethod PySem.W.kxs_ValueError hso (PySem.W.looks_opaque X1 hany) hmro rfl X1 hal' hI ne_aC (by decide) ?_
  have hmw : (h1.push (PySem.W.kxs_mw "ValueError.__init__" a)).get? h1.objs.size = some (PySem.W.kxs_mw "ValueError.__init__" a) := Heap.get?_push_at rfl rfl
  have kp2 : ∀ b o, h1.get? b = some o → (h1.push (PySem.W.kxs_mw "ValueError.__init__" a)).get? b = some o := fun b o e => Heap.get?_push_of_some _ e
  have ns2 : (h1.push (PySem.W.kxs_mw "ValueError.__init__" a)).Ns s.heap.objs.size (fun y => ([(slf, Value.ref a), (x, u)] : List (Str × Value)).reverse.lookup y) := (hns.keeps hk1).keeps kp2
  refine PySem.W.kxs_callWith (i := "ValueError.__init__") (x := a) rfl ?_
  refine Calls.evalArgs_plain (Calls.spliced_cons (wpAny_Name (wpAny_loadName_local kk kx ns2 ns_x (Calls.spliced_nil ⟨hmw, ?_⟩)) hdx))
  refine call_mwV (X1.keeps kp2 _ _ hC) (kp2 _ _ hea1) hmw (by rw [sizeLine_eq]; show 1 ≤ _; decide) fun h3 t1 hk3 hea3 => ?_
  have lt0 : ∀ {b : Addr} {o : Obj}, s.heap.get? b = some o → b ≠ s.heap.objs.size := fun e => Nat.ne_of_lt (Heap.lt_size e)
  have kall : ∀ b o, b ≠ a → s.heap.get? b = some o → h3.get? b = some o := fun b o hb e => hk3 b o hb (kp2 _ _ (hk1 _ _ (hk0 _ _ e)))
  have ne_aL : s.heap.objs.size ≠ a := fun z => lt0 hea z.symm
  have X3 : K.In h3 := fun b o e => hk3 b o (fun z => by
    have := (e0.bs b o (e0.mod.kin b o e)).2
    rw [z, ea] at this
    cases this) (kp2 _ _ (X1 b o e))
  have ns3 : h3.Ns s.heap.objs.size (fun y => ([(slf, Value.ref a), (x, u)] : List (Str × Value)).reverse.lookup y) := by
    obtain ⟨ob, es, ep, ho, r⟩ := ns2
    exact ⟨ob, es, ep, hk3 _ _ ne_aL ho, r⟩
  show PySem.wpAt _ _ _ (execs [_] _) _ _ _
  refine ks_wpAt_execs_cons (PySem.wpAt_of_wpAny (plainObj_wpAny_Assign_Attribute (wpAny_Name (wpAny_loadName_local kk kx ns3 ns_x (wpAny_Name (wpAny_loadName_local kk kslf ns3 ns_s ?_) hds)) hdx)))
  refine PySem.W.set_plain (ox := { cls := .ref C, dict := none, data := .fields #[.ref t1, .none, .none, .none, .bool false, .none] }) (od := none) X3 ⟨hea3, rfl, rfl, trivial⟩ hcls.sa ?_
  refine PySem.HandSPX.exc_osa X3 hea3 hcl (show PySem.HandSPX.refsVE (.ref C :: b2) = true from hbm) rfl hno (fun h4 tk4 dxa hk4 dn dne hx4 hn4 => ?_)
  refine PySem.wpAt_of_wpAny (wpAny_execs_nil ?_)
  have szL : s.heap.objs.size < h3.objs.size := by
    obtain ⟨ob, _, _, ho, _⟩ := ns3
    exact Heap.lt_size ho
  have hnd : H dxa = none := e0.hok.fresh (Nat.le_trans (Nat.le_of_lt szL) dn)
  have kfin : ∀ b o, b ≠ a → s.heap.get? b = some o → h4.get? b = some o := fun b o hb e => hk4 b o hb (kall b o hb e)
  have ndx : ∀ {b : Addr} {o : Obj}, s.heap.get? b = some o → b ≠ dxa := fun {b o} e => Nat.ne_of_lt (Nat.lt_of_lt_of_le (Nat.lt_trans (Heap.lt_size e) szL) dn)
  have na : ∀ {b : Addr}, H b = none → b ≠ a := fun {b} n z => by
    rw [z, ea] at n
    cases n
  refine ⟨.non, upd (upd H dxa (exd dxa [(f, y)])) a (exo a C (some dxa)), rfl, e0.bare, ?_, ?_, rfl, hq dxa hnd dne⟩
  · exact {
      keep := fun b o e n _ _ => kfin b o (na n) e
      slot := fun b o e n _ _ => ⟨o.slots, kfin b o (na n) e⟩
      free := fun b o e n _ => by rw [upd_ne (na n), upd_ne (ndx e)]; exact n
      there := fun b o e _ => by
        by_cases hb : b = a
        · exact ⟨_, by rw [hb]; exact hx4⟩
        · exact ⟨o, kfin b o hb e⟩
      tups := fun b xs e => by rw [upd_ne (at_ne ea e exo_tup), upd_ne (ne_of_none e hnd)]; exact e
      frzs := fun b o v e => by rw [upd_ne (at_ne ea e exo_frz), upd_ne (ne_of_none e hnd)]; exact e
      tbls := fun b ps e => ⟨#[], by rw [upd_ne (at_ne ea e exo_tbl), upd_ne (ne_of_none e hnd), e]; simp⟩ }
  · intro b o e
    by_cases hb : b = a
    · subst hb
      rw [upd_same] at e
      cases e
      exact exo_ok hx4
    · rw [upd_ne hb] at e
      by_cases hd : b = dxa
      · subst hd
        rw [upd_same] at e
        cases e
        exact exd_ok hn4 (relO_put (fs := []) ry fun g => True.intro)
      · rw [upd_ne hd] at e
        refine (e0.hok b o e).stay (fun c v hc z => kfin c v ?_ z) (fun c hc => ?_) (fun c xs hc => ?_)
        · rcases hc with hc | hc
          · rw [hc]; exact hb
          · exact at_ne ea hc exo_own
        · rw [upd_ne (at_ne ea hc exo_own), upd_ne (ne_of_none hc hnd)]; exact hc
        · rw [upd_ne (at_ne ea hc exo_tup), upd_ne (ne_of_none hc hnd)]; exact hc
/-! ### raise C(e) -/
def sRaise (c : String) (f : Nm) (fa : DA) : DStm := fun s => (fa s).bind fun ds s1 => match ds with
  | [d] => .exc ⟨c, [(f, d)]⟩ s1
  | _ => .stuck
/-- an own error class: made by its own __init__ -/
structure XCls (G : Gam) (K : PySem.W.Frag) (c : String) (C fI : Addr) : Prop where
  ct : G.ct c = some C
  ini : PySem.W.findIn K (.ref C) "__init__" = some (some (.ref fI))
  ty : PySem.W.typeIn K (.ref fI) = some (.type "function")
  cls : OexC K C
section
variable {G : Gam} {W : WX} {X : Cx}
theorem pds_raise {c : String} {C fI : Addr} {fd : FuncData} {slf xp f x : Str} {fn : Nm} {e : Expr} {fa : DA} {p pos pos' : Pos} (hc : X.calm = true) (tk : Takes X W) (T : XCls G X.K c C fI) (T2 : XIn X.prog X.K X.mg C fI fd slf xp f) (hf : f = nm fn) (hb : Binds X.K fd [slf, xp] [])
    (hr : Room 2 X.A) (hg : Gl X x) (hm : X.mg x = some (.ref C)) (ha : PDA G W X [e] fa) (hdb : (x == ("__debug__" : Str)) = false := by decide) (he : starEach [e] X.env = (false, eval e X.env) :: starEach [] X.env := by rfl) :
    PDS G W X (.Raise (some (.Call (.Name x p) [e] [] pos)) none pos') (sRaise c fn fa) :=
  (ps_raise hc tk (pmk_oex (CX := L2.CX X.prog X.w) T.cls T.ini T.ty (x_ok T2) hr hb .nil (passes_call tk fun _ _ _ _ z => z.elim) hg hm ha hdb he)).imp fun N σ H ⟨κ, w, s, ok, q⟩ => ⟨κ, w, s, ok, (PostG.bindS q).imp fun vs H1 ⟨ds, s1, w1, le, ok1, rs, q1⟩ => by
    match ds, q1 with
    | [d], q1 =>
      cases rs with
      | @cons v _ vs' _ r rs =>
      cases rs
      refine ⟨by show 1 ≤ 1000; decide, fun a ha => ⟨a, v, rfl, upd_same, fun dx h1 h2 => ⟨rfl, dx, [(f, v)], ?_, ?_, ?_, ?_⟩⟩⟩
      · exact upd_same
      · rw [upd_ne h2, upd_same]
      · rw [upd_ne h2] at h1; exact h1
      · rw [upd_ne h2] at h1
        have eH : upd (del (upd (upd (upd H1 a (exo a C none)) dx (exd dx [(f, v)])) a (exo a C (some dx))) a) dx (.xd [(f, v)]) = upd H1 dx (.xd [(f, v)]) := by
          funext b
          by_cases hb : b = dx
          · rw [hb, upd_same, upd_same]
          · rw [upd_ne hb, upd_ne hb]
            by_cases hba : b = a
            · rw [hba, del_same, ha]
            · rw [del_ne hba, upd_ne hba, upd_ne hb, upd_ne hba]
        rw [eH]
        obtain ⟨le2, ok2⟩ := ok1.alloc h1 (.xd [(f, v)])
        exact q1 _ σ (.ref C) (some dx) _ le2 ok2 ⟨C, T.ct, rfl, .inr ⟨dx, [(f, v)], rfl, upd_same, by subst hf; exact .cons (r.mono le2) .nil⟩⟩
    | [], q1 => exact q1.elim
    | _ :: _ :: _, q1 => exact q1.elim⟩
end
end DL
set_option maxRecDepth 100000
set_option maxHeartbeats 4000000
set_option autoImplicit false
namespace DL
open PySem PySem.Spec PyProof.Rows L2
/-! ### try with several clauses, each with a name or without -/
abbrev HTs := Addr → Value → Option Addr → TS
def unset (D : Ends) (i : Nat) : Ends := { nx := fun τ Z => D.nx (τ.set i none) Z, rt := D.rt, bk := fun τ Z => D.bk (τ.set i none) Z, ct := fun τ Z => D.ct (τ.set i none) Z }
def wHd (K : PySem.W.Frag) (Wo : WX) (D : Ends) : List (Value × Option Nat × HTs) → WX
  | [] => Wo
  | (c, none, ts) :: r => fun cl dd τ Z => ∃ b, PySem.W.exmOne K cl c = some b ∧ (b = true → ∀ a, Z a = none → ts a cl dd D τ Z) ∧ (b = false → wHd K Wo D r cl dd τ Z)
  | (c, some i, ts) :: r => fun cl dd τ Z => ∃ b, PySem.W.exmOne K cl c = some b ∧ (b = true → ∀ a, Z a = none → ts a cl dd (unset D i) (τ.set i (some (.ref a))) Z) ∧ (b = false → wHd K Wo D r cl dd τ Z)
/-- the suite of a clause -/
def SuOk (X : Cx) (st : List Stmt) (ts : HTs) : Prop := ∀ (a : Addr) (ob : Obj) (cl : Value) (dd : Option Addr) (pn : List (Addr × Obj)), Zc cl dd ob → (∃ vs, ob.data = .fields vs) → PSs (X.suite a ((a, ob) :: pn)) st (ts a cl dd)
inductive HdA (X : Cx) : List ExceptHandler → List (Value × Option Nat × HTs) → Prop
  | nil : HdA X [] []
  | bare {x : Str} {c : Value} {ts : HTs} {s0 : Stmt} {su : List Stmt} {np pp : Pos} {hs : List ExceptHandler} {l : List (Value × Option Nat × HTs)} (nc : Names X x c) (ok : SuOk X (s0 :: su) ts) (r : HdA X hs l) :
      HdA X (.ExceptHandler (some (.Name x np)) none (s0 :: su) pp :: hs) ((c, none, ts) :: l)
  | as_ {x n : Str} {i : Nat} {c : Value} {ts : HTs} {s0 : Stmt} {su : List Stmt} {np pp : Pos} {hs : List ExceptHandler} {l : List (Value × Option Nat × HTs)} (nc : Names X x c) (hi : X.N[i]? = some n) (hl : X.env.kindOf n = some .local) (ok : SuOk X (s0 :: su) ts) (r : HdA X hs l) :
      HdA X (.ExceptHandler (some (.Name x np)) (some n) (s0 :: su) pp :: hs) ((c, some i, ts) :: l)
section
variable {X : Cx} {bd : List Stmt} {g0 : ExceptHandler} {gs : List ExceptHandler} {l : List (Value × Option Nat × HTs)} {tpos : Pos} {tb : WX → TS} {Wo : WX}
end
/-! ### the same as a reading -/
section
variable {G : Gam} {W : WX} {X : Cx}
theorem RepX.mono {w w' : Wd} {c : Value} {dd : Option Addr} {x : Xc} (h : RepX G w c dd x) (le : w.le w') : RepX G w' c dd x := by
  obtain ⟨C, h1, h2, h3⟩ := h
  refine ⟨C, h1, h2, ?_⟩
  rcases h3 with h3 | ⟨a, vs, e1, e2, e3⟩
  · exact .inl h3
  · exact .inr ⟨a, vs, e1, le.1 _ _ e2, e3.mono le⟩
structure HdR where
  c : Value
  oi : Option Nat
  m : String → Option Bool
  f : Xc → DStm
def unD (i : Nat) (r : Res DS Out) : Res DS Out := r.bind fun o s => .ok o ⟨s.sl.set i .un, s.st⟩
def catchD : List HdR → Xc → DStm
  | [], x, s => .exc x s
  | ⟨_, none, m, f⟩ :: r, x, s => match m x.cls with
    | some true => noX (f x s)
    | some false => catchD r x s
    | none => .stuck
  | ⟨_, some i, m, f⟩ :: r, x, s => match m x.cls with
    | some true => if i < s.sl.length then unD i (noX (f x ⟨s.sl.set i .un, s.st⟩)) else .stuck
    | some false => catchD r x s
    | none => .stuck
def sTry (b : DStm) (hs : List HdR) : DStm := fun s => match b s with
  | .exc x s1 => catchD hs x s1
  | r => r
/-- what is known of the caught one -/
def Fx (G : Gam) (oi : Option Nat) (a : Addr) (cl : Value) (dd : Option Addr) (x : Xc) (w : Wd) (σ : L2.St) : Prop := (∀ i, oi = some i → σ[i]? = some (some (.ref a))) ∧ RepX G w cl dd x
def tXS (G : Gam) (oi : Option Nat) (a : Addr) (cl : Value) (dd : Option Addr) (x : Xc) (f : DStm) : TS := fun N σ H => ∃ κ w s, Ok G κ w s σ H ∧ Fx G oi a cl dd x w σ ∧ PostS G WF κ w (f s) N
def tSu (G : Gam) (h : HdR) : HTs := fun a cl dd N σ H => ∃ x, tXS G h.oi a cl dd x (h.f x) N σ H
/-- the class test of a clause -/
def MOk (G : Gam) (K : PySem.W.Frag) (h : HdR) : Prop := ∀ (k : String) (b : Bool), h.m k = some b → ∀ C, G.ct k = some C → PySem.W.exmOne K (.ref C) h.c = some b
end
/-! ### the suite's words -/
section
variable {G : Gam} {X : Cx} {oi : Option Nat} {a : Addr} {cl : Value} {dd : Option Addr} {x : Xc}
theorem Fx.mono {w w' : Wd} {σ : L2.St} (h : Fx G oi a cl dd x w σ) (le : w.le w') : Fx G oi a cl dd x w' σ := ⟨h.1, h.2.mono le⟩
def tXD (G : Gam) (oi : Option Nat) (a : Addr) (cl : Value) (dd : Option Addr) (x : Xc) (f : DE) : TE := fun σ H Q => ∃ κ w s, Ok G κ w s σ H ∧ Fx G oi a cl dd x w σ ∧ PostG G WF (Rep G) κ w σ (f s) Q
def tXA (G : Gam) (oi : Option Nat) (a : Addr) (cl : Value) (dd : Option Addr) (x : Xc) (f : DA) : TA := fun σ H Q => ∃ κ w s, Ok G κ w s σ H ∧ Fx G oi a cl dd x w σ ∧ PostG G WF (Reps G) κ w σ (f s) Q
/-- e.f of the caught one, known to be of the class c -/
def eXf (c : String) (f : Nm) (x : Xc) : DE := fun s => if x.cls = c then match x.fs.lookup f with | some d => .ok d s | none => .stuck else .stuck
end
end DL
set_option maxRecDepth 100000
set_option maxHeartbeats 4000000
set_option autoImplicit false
namespace DL
open PySem PySem.Spec PyProof.Rows L2
/-! ### lambdas without parameters -/
/-- the function object of a lambda -/
def FnO (f : Addr) (q : Str) (pr : Arguments) (bd : Expr) (sc : Scope) (clo : List (Str × Addr)) (pm : Value) (c : Addr) (ctv : Value) : HO := .ext fun h => h.get? f = some (PySem.W.kla_obj "<lambda>" q pr bd sc clo pm c ctv)
/-- a maker of lambdas: its table, the name of its lambdas' codes, its cells, the sites -/
structure LamT where
  P : Addr
  q : Str
  cells : List (Str × Addr)
  site : String → Option (Arguments × Expr × Scope)
def LamT.lam (T : LamT) : String → Addr → Wd → Prop := fun k f w => ∃ pr bd sc pm c ctv, T.site k = some (pr, bd, sc) ∧ w.F f = some (FnO f T.q pr bd sc (cloFrom T.cells sc.names []) pm c ctv) ∧ w.F c = some (LamX.CodeO c T.q)
def LamT.tab (T : LamT) : Addr → Hp → HO → Prop := fun a F o => a = T.P ∧ ∃ ps : Array Value, o = .tbl ps ∧ TriplesOk ps.toList ∧ ∀ (pos : Pos) (cv : Value), codeAmong pos ps.toList = some cv → ∃ c, cv = .ref c ∧ F c = some (LamX.CodeO c T.q)
theorem LamT.lamM (T : LamT) (k : String) (f : Addr) (w w' : Wd) (e : w.le w') : T.lam k f w → T.lam k f w' := fun ⟨pr, bd, sc, pm, c, ctv, h1, h2, h3⟩ => ⟨pr, bd, sc, pm, c, ctv, h1, e.f _ _ h2, e.f _ _ h3⟩
theorem LamT.tabM (T : LamT) (a : Addr) (F F' : Hp) (o : HO) (e : ∀ a o, F a = some o → F' a = some o) : T.tab a F o → T.tab a F' o := fun ⟨h0, ps, h1, h2, h3⟩ => ⟨h0, ps, h1, h2, fun pos cv hc => by
  obtain ⟨c, z1, z2⟩ := h3 pos cv hc
  exact ⟨c, z1, e _ _ z2⟩⟩
/-- the lambda is made -/
def eLam (n : Nat) (tk k : String) : DE := fun s => match s.st[n]? with
  | some (.tab t) => if t = tk then .ok (.lam k) s else .stuck
  | _ => .stuck
section
variable {G : Gam} {W : WX} {X : Cx}
/-- what G says of the maker's lambdas -/
structure GLam (G : Gam) (tk : String) (T : LamT) : Prop where
  tab : ∀ a F o, G.tab tk a F o ↔ T.tab a F o
  lam : ∀ k f w, (T.site k).isSome = true → (G.lam k f w ↔ T.lam k f w)
end
end DL
set_option maxRecDepth 100000
set_option maxHeartbeats 4000000
set_option autoImplicit false
namespace DL
open PySem PySem.Spec PyProof.Rows L2
/-! ### data without lambdas -/
mutual
def noLam : D → Bool
  | .tup xs => noLams xs
  | .lst xs => noLams xs
  | .scr xs => noLams xs
  | .dic kvs => noLamK kvs
  | .ins _ fs => noLamF fs
  | .lam _ => false
  | _ => true
def noLams : List D → Bool
  | [] => true
  | x :: r => noLam x && noLams r
def noLamK : List (DK × D) → Bool
  | [] => true
  | x :: r => noLam x.2 && noLamK r
def noLamF : List (Nm × D) → Bool
  | [] => true
  | x :: r => noLam x.2 && noLamF r
end
def noLamC : Cell → Bool
  | .dic kvs => noLamK kvs
  | .lst xs => noLams xs
  | .obj _ fs => noLamF fs
  | .tab _ => true
def noLamS : List Cell → Bool
  | [] => true
  | c :: r => noLamC c && noLamS r
/-- other words for lambdas -/
def Gam.sw (G : Gam) (lam : String → Addr → Wd → Prop) (lamM : ∀ (k : String) (f : Addr) (w w' : Wd), w.le w' → lam k f w → lam k f w') : Gam := { G with lam := lam, lamM := lamM }
section
variable {G : Gam} {lam : String → Addr → Wd → Prop} {lamM : ∀ (k : String) (f : Addr) (w w' : Wd), w.le w' → lam k f w → lam k f w'} {w : Wd}
mutual
theorem Rep.sw : ∀ {v : V} {d : D}, (noLam d = true ∨ ∀ k f, G.lam k f w → lam k f w) → Rep G w v d → Rep (G.sw lam lamM) w v d
  | _, _, _, .non => .non
  | _, _, _, .bl b => .bl b
  | _, _, _, .int i => .int i
  | _, _, _, .str l => .str l
  | _, _, h, .tup a b => .tup a (Reps.sw h b)
  | _, _, h, .lst a b => .lst a (Reps.sw h b)
  | _, _, h, .scr a b => .scr a (Reps.sw h b)
  | _, _, h, .dic a b => .dic a (RepK.sw h b)
  | _, _, h, .ins c a b => .ins c a (RepF.sw h b)
  | _, _, _, .cell a => .cell a
  | _, _, _, .cls a => .cls a
  | _, _, _, .ty n => .ty n
  | _, _, _, .fn a => .fn a
  | _, _, h, .lam a => .lam (h.elim (fun z => nomatch z) fun z => z _ _ a)
theorem Reps.sw : ∀ {v : List V} {d : List D}, (noLams d = true ∨ ∀ k f, G.lam k f w → lam k f w) → Reps G w v d → Reps (G.sw lam lamM) w v d
  | _, _, _, .nil => .nil
  | _, _, h, .cons a b => .cons (Rep.sw (h.imp (fun z => ((Bool.and_eq_true _ _).mp z).1) id) a) (Reps.sw (h.imp (fun z => ((Bool.and_eq_true _ _).mp z).2) id) b)
theorem RepF.sw : ∀ {v : List (Str × V)} {d : List (Nm × D)}, (noLamF d = true ∨ ∀ k f, G.lam k f w → lam k f w) → RepF G w v d → RepF (G.sw lam lamM) w v d
  | _, _, _, .nil => .nil
  | _, _, h, .cons a b => .cons (Rep.sw (h.imp (fun z => ((Bool.and_eq_true _ _).mp z).1) id) a) (RepF.sw (h.imp (fun z => ((Bool.and_eq_true _ _).mp z).2) id) b)
theorem RepK.sw : ∀ {v : List (Key × V)} {d : List (DK × D)}, (noLamK d = true ∨ ∀ k f, G.lam k f w → lam k f w) → RepK G w v d → RepK (G.sw lam lamM) w v d
  | _, _, _, .nil => .nil
  | _, _, h, .cons a b => .cons (Rep.sw (h.imp (fun z => ((Bool.and_eq_true _ _).mp z).1) id) a) (RepK.sw (h.imp (fun z => ((Bool.and_eq_true _ _).mp z).2) id) b)
end
theorem CellOk.sw {H : Hp} {a : Addr} {c : Cell} (h : noLamC c = true ∨ ∀ k f, G.lam k f w → lam k f w) (k : CellOk G w H a c) : CellOk (G.sw lam lamM) w H a c := by
  cases c with
  | dic kvs => obtain ⟨vs, e, r⟩ := k; exact ⟨vs, e, r.sw h⟩
  | lst xs => obtain ⟨vs, e, r⟩ := k; exact ⟨vs, e, r.sw h⟩
  | obj c fs => obtain ⟨C, dx, vs, q, e, r⟩ := k; exact ⟨C, dx, vs, q, e, r.sw h⟩
  | tab t => exact k
theorem noLamS_get : ∀ {S : List Cell} {n : Nat} {c : Cell}, noLamS S = true → S[n]? = some c → noLamC c = true
  | [], _, _, _, e => by simp at e
  | x :: r, 0, c, h, e => by
    simp at e; subst e
    exact ((Bool.and_eq_true _ _).mp h).1
  | x :: r, n + 1, c, h, e => noLamS_get (S := r) (n := n) ((Bool.and_eq_true _ _).mp h).2 (by simpa using e)
theorem FOk.sw {S : List Cell} {H : Hp} (h : noLamS S = true ∨ ∀ k f, G.lam k f w → lam k f w) (k : FOk G w S H) : FOk (G.sw lam lamM) w S H :=
  ⟨k.sub, k.len, fun n a c e1 e2 => (k.cel n a c e1 e2).sw (h.imp (fun z => noLamS_get z e2) id), k.nd, k.nf⟩
theorem RepX.sw {c : Value} {dd : Option Addr} {x : Xc} (h : noLamF x.fs = true ∨ ∀ k f, G.lam k f w → lam k f w) (k : RepX G w c dd x) : RepX (G.sw lam lamM) w c dd x := by
  obtain ⟨C, h1, h2, h3⟩ := k
  refine ⟨C, h1, h2, h3.imp id fun ⟨a, vs, q1, q2, q3⟩ => ⟨a, vs, q1, q2, q3.sw h⟩⟩
theorem Rep.bk {v : V} {d : D} (h : noLam d = true ∨ ∀ k f, lam k f w → G.lam k f w) (k : Rep (G.sw lam lamM) w v d) : Rep G w v d := Rep.sw (G := G.sw lam lamM) (lam := G.lam) (lamM := G.lamM) h k
theorem FOk.bk {S : List Cell} {H : Hp} (h : noLamS S = true ∨ ∀ k f, lam k f w → G.lam k f w) (k : FOk (G.sw lam lamM) w S H) : FOk G w S H := FOk.sw (G := G.sw lam lamM) (lam := G.lam) (lamM := G.lamM) h k
theorem RepX.bk {c : Value} {dd : Option Addr} {x : Xc} (h : noLamF x.fs = true ∨ ∀ k f, lam k f w → G.lam k f w) (k : RepX (G.sw lam lamM) w c dd x) : RepX G w c dd x := RepX.sw (G := G.sw lam lamM) (lam := G.lam) (lamM := G.lamM) h k
end
/-! ### a def that makes lambdas -/
def fnDL (n : Nat) (body : DStm) (m : Nat) : DFn := fun ds S => if noLams ds = true ∧ noLamS S = true then match fnD n body m ds S with
  | .ok d S' => if noLam d = true ∧ noLamS S' = true then .ok d S' else .stuck
  | .exc x S' => if noLamF x.fs = true ∧ noLamS S' = true then .exc x S' else .stuck
  | .stuck => .stuck
  else .stuck
/-! ### a lambda called in the def that it was handed to -/
abbrev LamR := String → List Cell → Res (List Cell) D
def eAct (Λ : LamR) (i : Nat) : DE := fun s => match s.sl[i]? with
  | some (.val (.lam k)) => lift s (Λ k s.st)
  | _ => .stuck
def stripS : Sl → Sl
  | .val d => .val d
  | _ => .un
def lamRun (b : DE) (sl : List Sl) (st : List Cell) : Res (List Cell) D := match b ⟨sl.map stripS, st⟩ with
  | .ok d s' => .ok d s'.st
  | .exc x s' => .exc x s'.st
  | .stuck => .stuck
def lamR (bs : String → Option DE) (sl : List Sl) : LamR := fun k st => match bs k with
  | some b => lamRun b sl st
  | none => .stuck
def eCallL (n : Nat) (g : LamR → DFn) (bs : String → Option DE) (fa : DA) : DE := fun s => (fa s).bind fun ds s1 => if ds.length = n then lift s1 (g (lamR bs s1.sl) ds s1.st) else .stuck
/-- the words while w stands below -/
def Gam.at (G : Gam) (w : Wd) : Gam := G.sw (fun k f w' => G.lam k f w' ∧ w.le w') (fun k f a b le h => ⟨G.lamM k f a b le h.1, h.2.trans le⟩)
/-- the bodies of a maker's lambdas -/
structure LamB (G : Gam) (X : Cx) (k : Nat) (pr : Arguments) (bd : Expr) (sc : Scope) (b : DE) : Prop where
  L : LamX.LamS X.env.scope sc
  bind : ∀ (q : Str) (cl : List (Str × Addr)) (pm cv ctv : Value), bindArgs (PySem.W.kla_fn "<lambda>" q pr bd sc cl pm cv ctv) ⟨[], []⟩ = pure []
  body : ∀ (A : Around) (outer : List Env) (s : Shared) (H : Hp) (E : XK) (f c' : Addr), Room k (A.deeper (LamX.lamEnv X sc s.heap.objs.size f c')) → Takes (LamX.lamCx X A outer s H E sc f c') (fun c d _ H => E c d H) →
    PD G (fun c d _ H => E c d H) (LamX.lamCx X A outer s H E sc f c') bd b
def LamsOk (G : Gam) (X : Cx) (T : LamT) (k : Nat) (bs : String → Option DE) : Prop := ∀ (n : String) (b : DE), bs n = some b → ∃ pr bd sc, T.site n = some (pr, bd, sc) ∧ LamB G X k pr bd sc b
section
variable {G : Gam} {W : WX} {X : Cx}
/-- the body of a def that is handed lambdas -/
def BodyL (G : Gam) (P : Program) (w0 : World) (mg : Str → Option Value) (base : Heap) (k : Nat) (N : List Str) (qual : Str) (st : Stmt) (f : Addr) (a : Str) (i : Nat) (body : LamR → DStm) : Prop :=
  ∀ (Λ : LamR) (cdv : Value) (A : Around) (outer : List Env) (s : Shared) (H : Hp) (E : XK), Room k (A.deeper (envOfC qual (defScope st) s.heap.objs.size f cdv)) →
    Takes (cxOf (L2.CX P w0) P w0 G.K mg base N qual (defScope st) f cdv A outer s H E) (fun c d _ H => E c d H) → PassesOwn (model P w0) (A.deeper (envOfC qual (defScope st) s.heap.objs.size f cdv)) (envOfC qual (defScope st) s.heap.objs.size f cdv) (cxOf (L2.CX P w0) P w0 G.K mg base N qual (defScope st) f cdv A outer s H E).xe →
    (∀ (pn : List (Addr × Obj)) (xe : Value → Shared → Prop) (W : WX) (p1 p2 : Pos), Takes ((cxOf (L2.CX P w0) P w0 G.K mg base N qual (defScope st) f cdv A outer s H E).tr pn xe) W → PD G W ((cxOf (L2.CX P w0) P w0 G.K mg base N qual (defScope st) f cdv A outer s H E).tr pn xe) (.Call (.Name a p1) [] [] p2) (eAct Λ i)) →
    PDSs G (fun c d _ H => E c d H) (cxOf (L2.CX P w0) P w0 G.K mg base N qual (defScope st) f cdv A outer s H E) (defBody st) (body Λ)
end
end DL
set_option maxRecDepth 100000
set_option maxHeartbeats 4000000
set_option autoImplicit false
namespace DL
open PySem PySem.Spec PyProof.Rows L2
/-! ### the law's end, with tables of code objects -/
def tabP (P : Addr) (q : Str) : Addr → Hp → HO → Prop := fun a F o => a = P ∧ ∃ ps : Array Value, o = .tbl ps ∧ TriplesOk ps.toList ∧ ∀ (pos : Pos) (cv : Value), codeAmong pos ps.toList = some cv → ∃ c, cv = .ref c ∧ F c = some (LamX.CodeO c q)
def tabG (ms : List (String × Addr × Str)) : String → Addr → Hp → HO → Prop := fun k a F o => ∃ m, ms.lookup k = some m ∧ tabP m.1 m.2 a F o
theorem tabG_mono (ms : List (String × Addr × Str)) (k : String) (a : Addr) (F F' : Hp) (o : HO) (e : ∀ a o, F a = some o → F' a = some o) : tabG ms k a F o → tabG ms k a F' o := fun ⟨m, hm, h0, ps, h1, h2, h3⟩ => ⟨m, hm, h0, ps, h1, h2, fun pos cv hc => by
  obtain ⟨c, z1, z2⟩ := h3 pos cv hc
  exact ⟨c, z1, e _ _ z2⟩⟩
def spLawT (K : PySem.W.Frag) (Ps : List Addr) : Sp := fun vs H Q _ => ∃ (a : Addr) (ns : List Int), vs = [.ref a] ∧ SqL K H a (ns.map V.int) ∧ ns.length ≤ 63 ∧ (∀ z ∈ ns, Builtin.Int.intBits z ≤ 1048576) ∧ (∀ P ∈ Ps, H P = some (.tbl #[])) ∧ ∀ H', Q (.bl true) H'
theorem law_endT {G : Gam} {P : Program} {w0 : World} {mg : Str → Option Value} {base : Heap} {k : Nat} {f : Addr} {fd : FuncData} {ps : List Str} {g : DFn} {Ms : List (String × Addr)} (F : FnOk P w0 G.K mg base (L2.CX P w0) k f fd ps (spG G 1 g)) (nd : (Ms.map (·.2)).Nodup)
    (ht : ∀ m ∈ Ms, ∀ F, G.tab m.1 m.2 F (.tbl #[]))
    (h : ∀ ns : List Int, ns.length ≤ 63 → (∀ z ∈ ns, Builtin.Int.intBits z ≤ 1048576) → ∃ S, g [.scr (ns.map D.int)] (Ms.map fun m => .tab m.1) = .ok (.bl true) S) : FnOk P w0 G.K mg base (L2.CX P w0) k f fd ps (spLawT G.K (Ms.map (·.2))) :=
  F.imp fun vs H Q E ⟨a, ns, e, hS, hl, hb, hP, q⟩ => by
    obtain ⟨S, hg⟩ := h ns hl hb
    subst e
    have hF : ∀ b, b ∉ Ms.map (·.2) → (fun b => if b ∈ Ms.map (·.2) then none else H b : Hp) b = H b := fun b hb => if_neg hb
    have nt : ∀ o, H a = some o → (∀ ps, o ≠ .tbl ps) → a ∉ Ms.map (·.2) := fun o e n z => n #[] (Option.some.inj (e.symm.trans (hP a z)))
    refine ⟨rfl, ⟨fun b => if b ∈ Ms.map (·.2) then none else H b, Ms.map (·.2)⟩, Ms.map fun m => .tab m.1, [.scr (ns.map D.int)], ⟨fun b o e => ?_, by simp, fun n b c e1 e2 => ?_, nd, fun b hb => if_pos hb⟩, .cons (.scr ?_ (Reps.of_ints ns)) .nil, ?_⟩
    · by_cases z : b ∈ Ms.map (·.2)
      · have e : (if b ∈ Ms.map (·.2) then none else H b) = some o := e
        rw [if_pos z] at e; cases e
      · have e : (if b ∈ Ms.map (·.2) then none else H b) = some o := e
        rw [if_neg z] at e; exact e
    · rw [List.getElem?_map] at e1 e2
      cases hm : Ms[n]? with
      | none => rw [hm] at e1; cases e1
      | some m =>
        rw [hm] at e1 e2
        cases e1; cases e2
        have mem := List.mem_of_getElem? hm
        exact ⟨_, hP _ (List.mem_map.mpr ⟨m, mem, rfl⟩), ht m mem _⟩
    · rcases hS with (z | ⟨o, z⟩) | z
      · exact .inl (.inl ((hF a (nt _ z fun _ => by simp)).trans z))
      · exact .inl (.inr ⟨o, (hF a (nt _ z fun _ => by simp)).trans z⟩)
      · exact .inr z
    · rw [hg]
      intro w' v H' nx f r
      cases r
      exact q H'
/-- the tables of the makers -/
def TabsT (q : Program) (K : PySem.W.Frag) (h : Heap) : Prop := ∀ (y : Str) (c P : Addr), ((recsOf q).find? (fun e => e.name == y)).isSome = true → PySem.W.tabIn K y = some (c, P) → PySem.W.CodeHd h c P ∧ h.get? P = some { cls := .none, data := .fields #[] }
theorem walk_ofD {l : PySem.W.OpenLaw} {n k : Nat} {q : Program} {loose : List Str} {XP : (Str → Option Value) → Heap → Prop} {YP : World → Heap → Prop} {d : DefRec} {K : Params → PySem.W.Frag} {CX : World → CXT} {x : Str}
    (hn : l.most = some n) (hn2 : n ≤ sizeLine) (hdf : d.params.defaults = []) (hr : Room k callerA) (hY : ∀ (w : World) (h : Heap), YP w h → (K w.params).In h)
    (F : ∀ (w : World) (mg : Str → Option Value) (fa : Addr) (h : Heap), (K w.params).In h → h.Ns mainGlobals mg → mg d.name = some (.ref fa) → TabsT q (K w.params) h → LamX.LawAtS l w (K w.params) (CX w) k n x mg fa h)
    (hCX : ∀ (w : World) (H : Hp) (s : Shared) (e : Value) (s' : Shared), CX w [] H s (fun _ _ _ => False) e s' → False) :
    PySem.W.WalkO q loose XP YP l.row.toRowW d [] (fun f vs => PySem.call f vs) := by
  refine Att.attach_callB hn hdf fun w s₀ s₁ mg mb fa o pm cd doc a vs ns G Y ho hd hcd hmg hobj hints hlen hbits hg => ?_
  have KX := hY w _ Y
  have tt : TabsT q (K w.params) s₁.heap := fun y c P hr ht => by
    obtain ⟨dd, hdd⟩ := Option.isSome_iff_exists.mp hr
    exact PySem.W.tab_of G.T KX hdd ht
  obtain ⟨fd, cs, sp, hT, nT, C, hb, hsp, hF⟩ := F w mg fa _ KX G.T.g hmg tt
  exact LamX.law_callTs KX G.T.g G.T.b G.T.builtins G.T.nolimit hg hT nT C G.T.bmain hobj hints (Nat.le_trans hlen hn2) hr hF hb (fun H hH hS => hsp H a ns hlen hbits hH hS) fun H e s' => hCX w H s₁ e s'
end DL
set_option maxRecDepth 100000
set_option maxHeartbeats 4000000
set_option autoImplicit false
namespace DL
open PySem PySem.Spec PyProof.Rows L2
/-! ### own error classes: the facts of the head -/
/-- the text of an own error's __init__ -/
def XSh (st : Stmt) (slf x f : Str) : Prop := ∃ (ar : Arg) (p0 p1 p2 p3 p4 p5 p6 p7 p8 p9 : Pos),
  defBody st = [.Expr (.Call (.Attribute (.Call (.Name "super" p0) [] [] p1) "__init__" p2) [.Name x p3] [] p4) p5, .Assign [.Attribute (.Name slf p6) f p7] (.Name x p8) p9] ∧
  ((defArgs st).posonlyargs ++ (defArgs st).args).head? = some ar ∧ ar.arg = slf ∧
  (defScope st).names.lookup ("super" : Str) = some .globalImplicit ∧ (defScope st).names.lookup ("__class__" : Str) = some .free ∧ (defScope st).names.lookup slf = some .local ∧ (defScope st).names.lookup x = some .local ∧ (∀ z ∈ (defScope st).names, z.2 ≠ .cell) ∧
  (defScope st).kind = .function ∧ (defScope st).isCoroutine = false ∧ (defScope st).isGenerator = false ∧ (p2.endLine == p4.line) = true
def xcB (K : PySem.W.Frag) (C fI : Addr) (f : Str) : Bool :=
  (PySem.W.findIn K (.ref C) "__setattr__" == some (some (.builtin "object.__setattr__"))) && ((PySem.W.subIn K (.ref C) (.type "BaseException") == some true) && ((PySem.W.typeIn K (.ref C) == some (.type "type")) && (PySem.W.keepIn K (.ref C) && ((PySem.W.typeIn K (.ref fI) == some (.type "function")) &&
  ((PySem.W.mroIn K C (.ref C) == some true) && ((PySem.W.ks_superIn K C C "__init__" == some (some (.builtin "ValueError.__init__"))) && ((PySem.W.subIn K (.ref C) (.type "ValueError") == some true) && ((PySem.W.nsIn K cStatics "thirdparty.any" == some none) && ((PySem.W.findIn K (.ref C) f == some none) && xfB K C)))))))))
structure XFacts (P : Program) (G : Gam) (mg : Str → Option Value) (c : String) (C fI : Addr) (fd : FuncData) (slf x f : Str) : Prop where
  T : XCls G G.K c C fI
  I : XIn P G.K mg C fI fd slf x f
  F : XfC G.K C
  B : Binds G.K fd [slf, x] []
theorem xfacts_of {P : Program} {G : Gam} {mg : Str → Option Value} {c : String} {C fI NS cda cc : Addr} {st : Stmt} {slf x f nm q name qual file : Str} {bs bm sub : List Value} {sn : List Str} {ab : Bool} {col : Option Bool} {dd : Option Addr} {k0 k1 k2 k3 k5 : Option Value}
    {oc dV kV doc pm ct ccl cl : Value} {od an cdd cld : Option Addr} {osl ccs csl : Array (Option Value)} {vs : Array Value} {tf : Tok}
    (hct : G.ct c = some C) (xl : G.K.lookup C = some (excClassObj nm q C NS bs bm true sn sub ab col dd k0 k1 k2 k3 k5 "ValueError.__new__")) (xr : PySem.HandSPX.refsVE bm = true) (xi : PySem.W.findIn G.K (.ref C) "__init__" = some (some (.ref fI)))
    (xf : G.K.lookup fI = some ⟨oc, od, .func (PySem.W.fnX name qual (defArgs st) (defBody st) (defScope st) [("__class__", cc)] dV kV doc pm an (.ref cda) ct), osl⟩) (xc : PySem.W.codeIn G.K (.ref cda) qual = true) (xd : G.K.lookup cda = some ⟨ccl, cdd, .fields vs, ccs⟩) (xv : vs[2]? = some (.str file tf))
    (xe : ((P.main.file : Str) == file) = true) (xk : G.K.lookup cc = some ⟨cl, cld, .cell (some (.ref C)), csl⟩) (xB : xcB G.K C fI f = true) (xt : (P.main.scope.names.lookup ("super" : Str)).isSome = false) (xs : mg "super" = none) (sh : XSh st slf x f)
    (d1 : (slf == ("__debug__" : Str)) = false) (d2 : (x == ("__debug__" : Str)) = false) (d3 : slf ≠ x) (hb : ∀ us : List Value, us.length = 2 → bindArgs (PySem.W.fnX name qual (defArgs st) (defBody st) (defScope st) [("__class__", cc)] dV kV doc pm an (.ref cda) ct) ⟨us, []⟩ = pure ([slf, x].zip us)) :
    XFacts P G mg c C fI (PySem.W.fnX name qual (defArgs st) (defBody st) (defScope st) [("__class__", cc)] dV kV doc pm an (.ref cda) ct) slf x f := by
  unfold xcB at xB
  simp only [Bool.and_eq_true, beq_iff_eq] at xB
  obtain ⟨b1, b2, b3, b4, b5, b6, b7, b8, b9, b10, b11⟩ := xB
  obtain ⟨ar, p0, p1, p2, p3, p4, p5, p6, p7, p8, p9, s1, s2, s3, s4, s5, s6, s7, s8, s9, s10, s11, s12⟩ := sh
  have oex : OexC G.K C := ⟨⟨nm, q, NS, bs, bm, sn, sub, ab, col, dd, k0, k1, k2, k3, k5, xl, xr⟩, b1, b2, b3, b4⟩
  refine ⟨⟨hct, xi, b5, oex⟩, ⟨⟨oc, doc, pm, dV, kV, ct, ccl, cl, od, an, cdd, cld, osl, ccs, csl, cda, cc, name, qual, file, defArgs st, defScope st, vs, tf, ar, p0, p1, p2, p3, p4, p5, p6, p7, p8, p9, by rw [s1], xf, xc, s2, s3, xd, xv, xe, xk, s4, s5, s6, s7, s8, s9, s10, s11, s12⟩, xt, xs, b6, b7, b8, b9, oex, b10, d1, d2, d3⟩, xfB_ok b11, .all hb⟩
/-! ### handlers without addresses -/
def HdR.bare (h : HdR) : HdR := ⟨.none, h.oi, h.m, h.f⟩
def hmT (yes no : List String) : String → Option Bool := fun k => if k ∈ yes then some true else if k ∈ no then some false else none
section
variable {G : Gam} {W : WX} {X : Cx}
end
end DL
set_option maxRecDepth 100000
set_option maxHeartbeats 4000000
set_option autoImplicit false
namespace DL
open PySem PySem.Spec PyProof.Rows L2
/-! ### the lambdas of a text, in their order -/
abbrev LSite := Arguments × Expr × Scope
def lamsE : Nat → Expr → List LSite
  | 0, _ => []
  | n + 1, e => match e with
    | .Lambda a b s _ => [(a, b, s)]
    | .BoolOp _ vs _ => vs.flatMap (lamsE n)
    | .BinOp a _ b _ => lamsE n a ++ lamsE n b
    | .UnaryOp _ a _ => lamsE n a
    | .IfExp a b c _ => lamsE n a ++ lamsE n b ++ lamsE n c
    | .Compare a _ cs _ => lamsE n a ++ cs.flatMap (lamsE n)
    | .Call f as _ _ => lamsE n f ++ as.flatMap (lamsE n)
    | .Attribute a _ _ => lamsE n a
    | .Subscript a b _ => lamsE n a ++ lamsE n b
    | .List es _ => es.flatMap (lamsE n)
    | .Tuple es _ _ => es.flatMap (lamsE n)
    | _ => []
def lamsS : Nat → Stmt → List LSite
  | 0, _ => []
  | n + 1, s => match s with
    | .Return (some e) _ => lamsE 30 e
    | .Assign _ e _ => lamsE 30 e
    | .Expr e _ => lamsE 30 e
    | .AugAssign _ _ e _ => lamsE 30 e
    | .For _ e b _ _ => lamsE 30 e ++ b.flatMap (lamsS n)
    | .While e b _ _ => lamsE 30 e ++ b.flatMap (lamsS n)
    | .If e b c _ => lamsE 30 e ++ b.flatMap (lamsS n) ++ c.flatMap (lamsS n)
    | _ => []
def lamsOf (st : Stmt) : List LSite := (defBody st).flatMap (lamsS 12)
def siteOf (ns : List String) (st : Stmt) : String → Option LSite := fun k => (ns.zip (lamsOf st)).lookup k
section
variable {G : Gam} {W : WX} {X : Cx}
theorem BodyL.mono {P : Program} {w0 : World} {mg : Str → Option Value} {base : Heap} {j k : Nat} {N : List Str} {qual : Str} {st : Stmt} {f : Addr} {a : Str} {i : Nat} {body : LamR → DStm} (h : BodyL G P w0 mg base j N qual st f a i body) (hk : j ≤ k) : BodyL G P w0 mg base k N qual st f a i body :=
  fun Λ cdv A outer s H E hr => h Λ cdv A outer s H E (hr.mono hk)
end
theorem lawAt_of {G : Gam} {l : PySem.W.OpenLaw} {w : World} {k : Nat} {x : Str} {mg : Str → Option Value} {fa : Addr} {h : Heap} {fd : FuncData} {g : DFn} (Ms : List (String × Addr × Addr))
    (ht : ∀ m ∈ Ms, PySem.W.CodeHd h m.2.1 m.2.2 ∧ h.get? m.2.2 = some { cls := .none, data := .fields #[] }) (nl : ∀ m ∈ Ms, G.K.lookup m.2.2 = none) (nd : (Ms.map (·.2.2)).Nodup) (hb : ∀ (s : Shared) (u : Value), BindsTo s fd ⟨[u], []⟩ [(x, u)])
    (F : ∀ base : Heap, (∀ m ∈ Ms, LamX.TabB base mg m.2.1 m.2.2) → FnOk l.prog w G.K mg base (L2.CX l.prog w) k fa fd [x] (spG G 1 g)) (htab : ∀ m ∈ Ms, ∀ F, G.tab m.1 m.2.2 F (.tbl #[]))
    (hl : ∀ ns : List Int, ns.length ≤ 63 → (∀ z ∈ ns, Builtin.Int.intBits z ≤ 1048576) → ∃ S, g [.scr (ns.map D.int)] (Ms.map fun m => .tab m.1) = .ok (.bl true) S) : LamX.LawAtS l w G.K (L2.CX l.prog w) k 63 x mg fa h := by
  refine ⟨fd, Ms.map (·.2), spLawT G.K (Ms.map (·.2.2)), fun p hp => ?_, fun p hp => ?_, fun p hp => ?_, hb, fun H a ns h1 h2 h3 h4 => ⟨a, ns, rfl, h4, h1, h2, fun P hP => ?_, fun _ => rfl⟩, fun base _ _ tb => ?_⟩
  · obtain ⟨m, hm, rfl⟩ := List.mem_map.mp hp
    exact (ht m hm).2
  · obtain ⟨m, hm, rfl⟩ := List.mem_map.mp hp
    exact nl m hm
  · obtain ⟨m, hm, rfl⟩ := List.mem_map.mp hp
    exact (ht m hm).1
  · obtain ⟨m, hm, rfl⟩ := List.mem_map.mp hP
    exact h3 _ (List.mem_map.mpr ⟨m, hm, rfl⟩)
  · have e : Ms.map (·.2.2) = (Ms.map fun m => (m.1, m.2.2)).map (·.2) := by simp
    rw [e]
    refine law_endT (F base fun m hm => tb _ (List.mem_map.mpr ⟨m, hm, rfl⟩)) (by rw [← e]; exact nd) (fun m hm F => ?_) fun ns h1 h2 => ?_
    · obtain ⟨m', hm', rfl⟩ := List.mem_map.mp hm
      exact htab m' hm' F
    · have e2 : ((Ms.map fun m => (m.1, m.2.2)).map fun m => Cell.tab m.1) = Ms.map fun m => .tab m.1 := by simp
      rw [e2]
      exact hl ns h1 h2
end DL
set_option maxRecDepth 100000
set_option maxHeartbeats 4000000
set_option autoImplicit false
namespace DL
open PySem PySem.Spec PyProof.Rows L2
section
variable {G : Gam} {W : WX} {X : Cx}
/-! ### x in y, x not in y -/
def flD : D → Bool
  | .non => true
  | .bl _ => true
  | .int _ => true
  | .str _ => true
  | _ => false
def eqFl : D → D → Bool
  | .non, .non => true
  | .bl a, .bl b => a == b
  | .bl a, .int b => (if a then 1 else 0) == b
  | .int a, .bl b => a == (if b then 1 else 0)
  | .int a, .int b => a == b
  | .str a, .str b => a == b
  | _, _ => false
theorem fl_rep {w : Wd} {v : V} {d : D} (r : Rep G w v d) (h : flD d = true) : flatV v = true := by
  cases r <;> first | rfl | cases h
theorem eq_rep {w : Wd} {v u : V} {d e : D} (r : Rep G w v d) (r' : Rep G w u e) (h : flD d = true) (h' : flD e = true) : eqV v u = eqFl d e := by
  cases r <;> first | (cases h; done) | skip
  all_goals cases r' <;> first | (cases h'; done) | rfl | skip
  rename_i l m
  show (nm l == nm m) = (l == m)
  by_cases e : l = m
  · subst e; simp
  · rw [beq_eq_false_iff_ne.mpr e, beq_eq_false_iff_ne.mpr fun z => e (nm_inj z)]
theorem fls_rep {w : Wd} : ∀ {vs : List V} {ds : List D}, Reps G w vs ds → ds.all flD = true → vs.all flatV = true
  | _, _, .nil, _ => rfl
  | _, _, .cons a b, h => by
    rw [List.all_cons, Bool.and_eq_true] at h ⊢
    exact ⟨fl_rep a h.1, fls_rep b h.2⟩
theorem any_rep {w : Wd} {u : V} {e : D} (r' : Rep G w u e) (h' : flD e = true) : ∀ {vs : List V} {ds : List D}, Reps G w vs ds → ds.all flD = true → vs.any (fun y => eqV y u) = ds.any (fun y => eqFl y e)
  | _, _, .nil, _ => rfl
  | _, _, .cons a b, h => by
    rw [List.all_cons, Bool.and_eq_true] at h
    rw [List.any_cons, List.any_cons, eq_rep a r' h.1 h', any_rep r' h' b h.2]
def inS (neg : Bool) : D → D → Option D := fun x y => match x, y with
  | .str [c], .str l => some (.bl (if neg then !decide (c ∈ l) else decide (c ∈ l)))
  | _, _ => none
def inF (neg : Bool) : D → D → Option D := fun x y => match y with
  | .tup ds => if flD x = true ∧ ds.all flD = true then some (.bl (if neg then !(ds.any fun z => eqFl z x) else ds.any fun z => eqFl z x)) else none
  | .lst ds => if flD x = true ∧ ds.all flD = true then some (.bl (if neg then !(ds.any fun z => eqFl z x) else ds.any fun z => eqFl z x)) else none
  | _ => none
def inP (neg : Bool) : D → D → Option D := fun x y => match toPy x, toPy y with
  | some p, some (.list qs) => if SeqAt.shaped p && SeqAt.shaped (.list qs) then some (.bl (if neg then !(qs.any fun z => PyData.eqv z p) else qs.any fun z => PyData.eqv z p)) else none
  | _, _ => none
theorem nm_list (l : Nm) : (nm l).cps.toList = l := by simp [nm]
theorem opd_inS : OpD G X (compareOp .In) (inS false) := ⟨_, op_in_sign, fun κ w s σ H x y dx dy d Q ok rx ry e q => by
  unfold inS at e
  split at e
  · rename_i c l
    cases e
    cases rx
    cases ry
    exact ⟨c, nm l, rfl, rfl, by rw [nm_list]; exact q w _ H (.refl _) ok (.bl _)⟩
  · cases e⟩
theorem inF_of (hK : G.K = X.K) {neg : Bool} {κ : Bs} {w : Wd} {s : DS} {σ : L2.St} {H : Hp} {x y : V} {dx dy d : D} {Q : VK} (ok : Ok G κ w s σ H) (rx : Rep G w x dx) (ry : Rep G w y dy) (e : inF neg dx dy = some d) (q : ∀ w' v H', w.le w' → Ok G κ w' s σ H' → Rep G w' v d → Q v H') : rIn X.K neg x y H Q := by
  unfold inF at e
  split at e
  · split at e
    · rename_i h
      cases e
      cases ry with
      | tup h1 r1 =>
        refine ⟨_, _, rfl, .inr (hK ▸ SqT.le h1 ok.fok.sub), fl_rep rx h.1, fls_rep r1 h.2, ?_⟩
        unfold inV
        rw [any_rep rx h.1 r1 h.2]
        exact q w _ H (.refl _) ok (.bl _)
    · cases e
  · split at e
    · rename_i h
      cases e
      cases ry with
      | lst h1 r1 =>
        refine ⟨_, _, rfl, .inl (.inl (.inl (ok.fok.sub _ _ h1))), fl_rep rx h.1, fls_rep r1 h.2, ?_⟩
        unfold inV
        rw [any_rep rx h.1 r1 h.2]
        exact q w _ H (.refl _) ok (.bl _)
    · cases e
  · cases e
theorem opd_inF (hK : G.K = X.K) : OpD G X (compareOp .In) (inF false) := ⟨_, op_in_seq, fun κ w s σ H x y dx dy d Q ok rx ry e q => inF_of hK ok rx ry e q⟩
theorem inP_py {neg : Bool} {dx dy d : D} (e : inP neg dx dy = some d) : ∃ p qs, toPy dx = some p ∧ toPy dy = some (.list qs) ∧ SeqAt.shaped p = true ∧ SeqAt.shaped (.list qs) = true ∧ d = .bl (if neg then !(qs.any fun z => PyData.eqv z p) else qs.any fun z => PyData.eqv z p) := by
  unfold inP at e
  split at e
  · rename_i p qs h1 h2
    split at e
    · rename_i h
      cases e
      rw [Bool.and_eq_true] at h
      exact ⟨p, qs, h1, h2, h.1, h.2, rfl⟩
    · cases e
  · cases e
theorem opd_inP (hK : G.K = X.K) (hu : X.A.units + 65 < cLine) : OpD G X (compareOp .In) (inP false) := ⟨_, op_inD hu, fun κ w s σ H x y dx dy d Q ok rx ry e q => by
  obtain ⟨p, qs, h1, h2, s1, s2, rfl⟩ := inP_py e
  exact ⟨p, qs, rx.py hK ok h1, ry.py hK ok h2, s1, s2, q w _ H (.refl _) ok (.bl _)⟩⟩
def dIn (neg : Bool) : D → D → Option D := fun x y => (inS neg x y).orElse fun _ => (inF neg x y).orElse fun _ => inP neg x y
theorem room65 {A : Around} {k : Nat} (hr : Room k A) : A.units + 65 < cLine := by have := hr.un; omega
theorem opd_in (hK : G.K = X.K) (hu : X.A.units + 65 < cLine) : OpD G X (compareOp .In) (dIn false) := (opd_inS.or ((opd_inF hK).or (opd_inP hK hu))).congr fun x y => rfl
/-! ### n.bit_length(), divmod -/
def eBits (f : DE) : DE := fun s => (f s).bind fun d s1 => match d with
  | .int i => .ok (.int (Builtin.Int.intBits i : Nat)) s1
  | _ => .stuck
theorem pd_bits {o : Expr} {f : DE} {apos pos : Pos} (ho : PD G W X o f) (hbase : attributeBase o "bit_length" X.env (eval o X.env) = eval o X.env := by rfl) (hline : (apos.endLine == pos.line) = true := by rfl) : PD G W X (.Call (.Attribute o "bit_length" apos) [] [] pos) (eBits f) :=
  (pe_bits ho hbase hline).imp fun σ H Q ⟨κ, w, s, ok, q⟩ => ⟨κ, w, s, ok, (PostG.bind q).imp fun v H1 ⟨d, s1, w1, le, ok1, r1, q1⟩ => by
    cases r1 with
    | int i => exact ⟨i, rfl, q1 w1 _ H1 (.refl _) ok1 (.int _)⟩
    | _ => exact q1.elim⟩
def bDivmod : List D → Option D
  | [.int i, .int j] => if 0 < j ∧ divOk j = true then some (.tup [.int (i.fdiv j), .int (i.fmod j)]) else none
  | _ => none
theorem pylong_no {i j : Int} (h : j.natAbs.log2 < 9000) : Builtin.divisionGoesByPylong i j = false := by
  unfold Builtin.divisionGoesByPylong
  have : ¬ ((if (j == 0) = true then 0 else j.natAbs.log2 / 30 + 1) > 300) := by
    split
    · omega
    · omega
  simp only [Bool.and_eq_false_iff, decide_eq_false_iff_not]
  exact .inl this
theorem cd_divmod : CallD G X (.builtin "divmod") bDivmod := ⟨_, call_divmodW, fun κ w s σ H vs ds d Q ok rs e q => by
  unfold bDivmod at e
  split at e
  · rename_i i j
    split at e
    · rename_i h
      cases e
      cases rs with
      | cons a rs =>
      cases rs with
      | cons b rs =>
      cases rs
      cases a
      cases b
      have hd := h.2
      unfold divOk at hd
      have hd := of_decide_eq_true hd
      refine ⟨i, j, rfl, ⟨h.1, pylong_no hd.2⟩, fun p hp => ?_⟩
      rw [Int.fdiv_eq_ediv_of_nonneg i (Int.le_of_lt h.1), Int.fmod_eq_emod_of_nonneg i (Int.le_of_lt h.1)] at q
      obtain ⟨le, ok'⟩ := ok.alloc hp (.tup [.int (i / j), .int (i % j)])
      exact q _ _ _ le ok' (.tup (.inl (.inl upd_same)) (.cons (.int _) (.cons (.int _) .nil)))
    · cases e
  · cases e⟩
/-! ### methods of built-in types -/
def MtD (G : Gam) (X : Cx) (T id : String) (o : D → List D → Option D) : Prop := ∃ r, MtR X id r ∧ (∀ (κ : Bs) (w : Wd) (s : DS) (σ : L2.St) (H : Hp) (x : V) (vs : List V) (dx : D) (ds : List D) (d : D) (Q : VK), Ok G κ w s σ H → Rep G w x dx → Reps G w vs ds → o dx ds = some d →
  (∀ w' v H', w.le w' → Ok G κ w' s σ H' → Rep G w' v d → Q v H') → r x vs H Q) ∧ ∀ (κ : Bs) (w : Wd) (s : DS) (σ : L2.St) (H : Hp) (x : V) (dx : D), Ok G κ w s σ H → Rep G w x dx → tyOk T dx = true → tyV X.K T x H
where
  tyOk (T : String) : D → Bool
  | .str _ => T == "str"
  | .lst _ => T == "list"
  | .dic _ => T == "dict"
  | _ => false
def eBM (T : String) (o : D → List D → Option D) (fo : DE) (fa : DA) : DE := fun s => (fo s).bind fun x s1 => if MtD.tyOk T x = true then (fa s1).bind fun ds s2 => match o x ds with
  | some d => .ok d s2
  | none => .stuck
  else .stuck
theorem pd_bm {T id : String} {name : Str} {o : D → List D → Option D} {oe e : Expr} {es : List Expr} {fo : DE} {fa : DA} {apos cpos : Pos} (pa : PlainAttrs T) (slot : Slot T name id) (hty : typeOf (.builtin id) = pure (.type "method_descriptor")) (hm : MtD G X T id o) (ho : PD G W X oe fo) (ha : PDA G W X (e :: es) fa)
    (hbase : attributeBase oe name X.env (eval oe X.env) = eval oe X.env := by rfl)
    (hfew : ((backTo cpos (starEach (e :: es) X.env)).all (fun x => !x.1) && (backToKw cpos (keywordEach [] X.env)).all (fun x => x.1.isSome)
      && decide ((e :: es).length + ([] : List Keyword).length + (if ([] : List Keyword).isEmpty then 0 else 1) < 30)) = true := by rfl)
    (hline : (apos.endLine == cpos.line) = true := by rfl) (hs : starEach (e :: es) X.env = (false, eval e X.env) :: starEach es X.env := by rfl) (hplain : (backTo cpos (starEach es X.env)).any (·.1) = false := by rfl) :
    PD G W X (.Call (.Attribute oe name apos) (e :: es) [] cpos) (eBM T o fo fa) := by
  obtain ⟨r, h1, h2, h3⟩ := hm
  refine (pe_bm pa slot hty h1 ho ha hbase hfew hline hs hplain).imp fun σ H Q ⟨κ, w, s, ok, q⟩ => ⟨κ, w, s, ok, (PostG.bind q).imp fun v H1 ⟨d, s1, w1, le, ok1, r1, q1⟩ => ?_⟩
  by_cases ht : MtD.tyOk T d = true
  · rw [if_pos ht] at q1
    refine ⟨h3 κ w1 s1 σ H1 v d ok1 r1 ht, κ, w1, s1, ok1, (PostG.bind q1).imp fun vs H2 ⟨ds, s2, w2, le2, ok2, r2, q2⟩ => ?_⟩
    cases e : o d ds with
    | none => rw [e] at q2; exact q2.elim
    | some z => rw [e] at q2; exact h2 κ w2 s2 σ H2 v vs d ds z Q ok2 (r1.mono le2) r2 e q2
  · rw [if_neg ht] at q1
    exact q1.elim
theorem ty_ok {T : String} {κ : Bs} {w : Wd} {s : DS} {σ : L2.St} {H : Hp} {x : V} {dx : D} (ok : Ok G κ w s σ H) (r : Rep G w x dx) (h : MtD.tyOk T dx = true) : tyV X.K T x H := by
  cases r <;> first | (cases h; done) | skip
  · exact beq_iff_eq.mp h
  · rename_i h1 _
    exact .inl ⟨beq_iff_eq.mp h, _, .inl (.inl (ok.fok.sub _ _ h1))⟩
  · rename_i h1 _
    exact .inr (.inr (.inl ⟨beq_iff_eq.mp h, .inl ⟨_, ok.fok.sub _ _ h1⟩⟩))
/-- texts of a list -/
def strsOf : List D → Option (List Nm)
  | [] => some []
  | .str l :: r => (strsOf r).map fun m => l :: m
  | _ => none
theorem strs_rep {w : Wd} : ∀ {vs : List V} {ds : List D} {ls : List Nm}, Reps G w vs ds → strsOf ds = some ls → vs = (ls.map nm).map V.str
  | _, _, _, .nil, h => by cases h; rfl
  | _, _, ls, .cons a b, h => by
    cases a <;> first | (simp [strsOf] at h; done) | skip
    simp only [strsOf, Option.map_eq_some_iff] at h
    obtain ⟨m, hm, rfl⟩ := h
    rw [strs_rep b hm]
    rfl
def mJoin : D → List D → Option D
  | .str a, [.lst ds] => match strsOf ds with
    | some ls => if (ls.map (·.length)).sum + ls.length * a.length ≤ 16777216 then some (.str (TL.joinL a ls)) else none
    | none => none
  | _, _ => none
theorem join_nm (a : Nm) (ls : List Nm) : Txt.join (nm a) (ls.map nm) = nm (TL.joinL a ls) := by
  have h := TL.tl_join (nm a) (ls.map nm)
  rw [← TL.join_eq, show TL.tl (nm a) = a from nm_list a, List.map_map] at h
  have e : (TL.tl ∘ nm) = id := by funext l; exact nm_list l
  rw [e, List.map_id] at h
  have : ∀ x : Str, x = nm (TL.tl x) := fun x => by simp [nm, TL.tl]
  rw [this (Txt.join _ _), h]
theorem mtd_join : MtD G X "str" "str.join" mJoin := by
  refine ⟨_, mt_join, fun κ w s σ H x vs dx ds d Q ok rx rs e q => ?_, fun κ w s σ H x dx ok r h => ty_ok ok r h⟩
  unfold mJoin at e
  split at e
  · rename_i a ds'
    split at e
    · rename_i ls hl
      split at e
      · rename_i hz
        cases e
        cases rx
        cases rs with
        | cons r1 rs =>
        cases rs
        cases r1 with
        | lst h1 r1 =>
        have := strs_rep r1 hl
        subst this
        refine ⟨nm a, _, ls.map nm, rfl, rfl, .inl (.inl (.inl (ok.fok.sub _ _ h1))), ?_, by rw [join_nm]; exact q w _ H (.refl _) ok (.str _)⟩
        have e1 : (ls.map nm).map (·.length) = ls.map (·.length) := by
          rw [List.map_map]
          apply List.map_congr_left
          intro l _
          show (nm l).cps.size = l.length
          simp [nm]
        have e2 : (nm a).length = a.length := by show (nm a).cps.size = _; simp [nm]
        rw [e1, e2, List.length_map]
        exact hz
      · cases e
    · cases e
  · cases e
end
end DL
set_option maxRecDepth 100000
set_option maxHeartbeats 4000000
set_option autoImplicit false
namespace DL
open PySem PySem.Spec PyProof.Rows L2
section
variable {G : Gam} {W : WX} {X : Cx}
/-! ### an own list, looked at without giving it away -/
def eIxO (i : Nat) (fb : DE) : DE := fun s => match s.sl[i]? with
  | some (.ol _) => (fb s).bind fun y s1 => match y, s1.sl[i]? with
    | .int k, some (.ol xs) => (match L2.atI xs k with | some d => .ok d s1 | none => .stuck)
    | _, _ => .stuck
  | some (.val x) => (fb s).bind fun y s1 => match y with
    | .int k => (match ixD x k with | some d => .ok d s1 | none => .stuck)
    | _ => .stuck
  | _ => .stuck
theorem ix_run (hK : G.K = X.K) {κ : Bs} {w : Wd} {s : DS} {σ : L2.St} {H : Hp} {v : V} {dx z : D} {k : Int} {Q : VK} (ok : Ok G κ w s σ H) (r1 : Rep G w v dx) (e : ixD dx k = some z) (q : PostG G W (Rep G) κ w σ (.ok z s) Q) : rIx X.K v (.int k) H Q := by
  cases r1 with
  | @tup p vs ds e1 r1 =>
    obtain ⟨y, h1, h2⟩ := Reps.atI r1 e
    exact .inr (.inl ⟨p, vs, k, y, rfl, rfl, hK ▸ SqT.le e1 ok.fok.sub, h1, q w y H (.refl _) ok h2⟩)
  | @lst p vs ds e1 r1 =>
    obtain ⟨y, h1, h2⟩ := Reps.atI r1 e
    exact .inl ⟨p, vs, k, y, rfl, rfl, .inl (.inl (ok.fok.sub _ _ e1)), h1, q w y H (.refl _) ok h2⟩
  | @scr p vs ds e1 r1 =>
    obtain ⟨y, h1, h2⟩ := Reps.atI r1 e
    exact .inl ⟨p, vs, k, y, rfl, rfl, hK ▸ SqL.le e1 ok.fok.sub, h1, q w y H (.refl _) ok h2⟩
  | str l =>
    have e : (if l.length ≤ 16777216 then (L2.atI l k).map fun c => D.str [c] else none) = some z := e
    split at e
    · rename_i hl
      cases e3 : L2.atI l k with
      | none => simp [e3] at e
      | some c =>
        simp only [e3, Option.map_some, Option.some.injEq] at e
        subst e
        refine .inr (.inr ⟨nm l, k, c, rfl, rfl, by rw [nm_len, sizeLine_eq]; exact hl, by simpa [nm] using e3, ?_⟩)
        exact q w _ H (.refl _) ok (.str [c])
    · cases e
  | _ => cases e
theorem pd_ixO (hK : G.K = X.K) {i : Nat} {x : Str} {p pos : Pos} {b : Expr} {fb : DE} (ho : PE X (.Name x p) (tVar i)) (hb : PD G W X b fb) (hs : PlainIx b) : PD G W X (.Subscript (.Name x p) b pos) (eIxO i fb) :=
  (pe_ix ix_seq ho hb hs).imp fun σ H Q ⟨κ, w, s, ok, q⟩ => by
    unfold eIxO at q
    cases e : s.sl[i]? with
    | none => rw [e] at q; exact q.elim
    | some y =>
      rw [e] at q
      cases y with
      | ol xs0 =>
        obtain ⟨a, vs, h1, h2, h3⟩ := own_list ok e
        refine ⟨.ref a, h1, κ, w, s, ok, (PostG.bind q).imp fun v2 H2 ⟨d2, s2, w2, le2, ok2, r2, q2⟩ => ?_⟩
        cases r2 with
        | int k =>
          cases e1 : s2.sl[i]? with
          | none => rw [e1] at q2; exact q2.elim
          | some z =>
            rw [e1] at q2
            cases z with
            | ol xs =>
              replace q2 : PostG G W (Rep G) κ w2 σ (match L2.atI xs k with | some d => .ok d s2 | none => .stuck) Q := q2
              obtain ⟨a', vs', g1, g2, g3⟩ := own_list ok2 e1
              rw [h1] at g1
              cases g1
              cases e2 : L2.atI xs k with
              | none => rw [e2] at q2; exact q2.elim
              | some d =>
                rw [e2] at q2
                obtain ⟨y, h1, h2⟩ := Reps.atI g3 e2
                exact .inl ⟨a, vs', k, y, rfl, rfl, .inl (.inl g2), h1, q2 w2 y H2 (.refl _) ok2 h2⟩
            | _ => exact q2.elim
        | _ => exact q2.elim
      | val dx =>
        obtain ⟨v, h1, r1⟩ := ok.val i dx e
        refine ⟨v, h1, κ, w, s, ok, (PostG.bind q).imp fun v2 H2 ⟨d2, s2, w2, le2, ok2, r2, q2⟩ => ?_⟩
        cases r2 with
        | int k =>
          replace q2 : PostG G W (Rep G) κ w2 σ (match ixD dx k with | some d => .ok d s2 | none => .stuck) Q := q2
          cases e2 : ixD dx k with
          | none => rw [e2] at q2; exact q2.elim
          | some z => rw [e2] at q2; exact ix_run hK ok2 (r1.mono le2) e2 q2
        | _ => exact q2.elim
      | _ => exact q.elim
/-- truth -/
def eTruO (i : Nat) : DT := fun s => match s.sl[i]? with
  | some (.ol xs) => .ok (!xs.isEmpty) s
  | some (.val d) => (match truD d with | some b => .ok b s | none => .stuck)
  | _ => .stuck
theorem ptd_truO (hK : G.K = X.K) {i : Nat} {x : Str} {p : Pos} (ho : PE X (.Name x p) (tVar i)) (he : ∀ whole, isTrue (.Name x p) X.env whole = (do let v ← whole; standAt (Expr.pos (.Name x p)); holding [v] (truthy v)) := by intro _; rfl) : PDT G W X (.Name x p) (eTruO i) :=
  (pt_truth ho he).imp fun σ H Q ⟨κ, w, s, ok, q⟩ => by
    unfold eTruO at q
    cases e : s.sl[i]? with
    | none => rw [e] at q; exact q.elim
    | some y =>
      rw [e] at q
      cases y with
      | ol xs =>
        obtain ⟨a, vs, h1, h2, h3⟩ := own_list ok e
        refine ⟨.ref a, h1, !xs.isEmpty, ?_, q w _ H (.refl _) ok rfl⟩
        exact .inl ⟨vs, .inl (.inl h2), by rw [h3.isEmpty]⟩
      | val d =>
        obtain ⟨v, h1, r1⟩ := ok.val i d e
        replace q : PostG G W (fun _ (v : Bool) d => v = d) κ w σ (match truD d with | some b => .ok b s | none => .stuck) Q := q
        cases e1 : truD d with
        | none => rw [e1] at q; exact q.elim
        | some k => rw [e1] at q; exact ⟨v, h1, k, truV_of hK ok r1 e1, q w k H (.refl _) ok rfl⟩
      | _ => exact q.elim
/-- x[i] = v -/
def sIxO (i : Nat) (fi fv : DE) : DStm := fun s => (fv s).bind fun d s1 => match s1.sl[i]? with
  | some (.ol _) => (fi s1).bind fun y s2 => match y, s2.sl[i]? with
    | .int k, some (.ol xs) => (match ixN xs.length k with | some j => .ok .nx ⟨s2.sl.set i (.ol (xs.set j d)), s2.st⟩ | none => .stuck)
    | _, _ => .stuck
  | _ => .stuck
theorem pds_ixO {i : Nat} {x : Str} {p tp pos : Pos} {b e : Expr} {fi fv : DE} (ho : PE X (.Name x p) (tVar i)) (hb : PD G WF X b fi) (he : PD G W X e fv) (hs : swapsWithSole [.Subscript (.Name x p) b tp] e pos.line X.env = pure false := by rfl) (hw : swappedStores [.Subscript (.Name x p) b tp] e X.env = pure none := by rfl)
    (h1 : (assignEach [.Subscript (.Name x p) b tp] X.env).map (·.2) = [assign (.Subscript (.Name x p) b tp) X.env] := by rfl)
    (ha : ∀ v, assign (.Subscript (.Name x p) b tp) X.env v = (do
      let ov ← holding [v] (eval (.Name x p) X.env)
      let iv ← holding [v, ov] (eval b X.env)
      standAt tp
      holding [v, ov, iv] (setItem ov iv v)
      release [v, ov, iv] []) := by intro _; rfl) (hcol : ∀ (s : DS), (∀ x s', fi s ≠ .exc x s')) : PDS G W X (.Assign [.Subscript (.Name x p) b tp] e pos) (sIxO i fi fv) :=
  (ps_asg he (pg_sub ho hb set_list ha) hs hw h1).imp fun N σ H ⟨κ, w, s, ok, q⟩ => ⟨κ, w, s, ok, (PostG.bindS q).imp fun v H1 ⟨d, s1, w1, le, ok1, r1, q1⟩ => by
    cases e : s1.sl[i]? with
    | none => rw [e] at q1; exact q1.elim
    | some y =>
      rw [e] at q1
      cases y with
      | ol xs0 =>
        obtain ⟨a, vs, h1, h2, h3⟩ := own_list ok1 e
        replace q1 : PostS G W κ w1 ((fi s1).bind fun y s2 => match y, s2.sl[i]? with
          | .int k, some (.ol xs) => (match ixN xs.length k with | some j => .ok .nx ⟨s2.sl.set i (.ol (xs.set j d)), s2.st⟩ | none => .stuck)
          | _, _ => .stuck) N := q1
        refine ⟨.ref a, h1, κ, w1, s1, ok1, ?_⟩
        cases ef : fi s1 with
        | stuck => rw [ef] at q1; exact q1.elim
        | exc z s' => exact absurd ef (hcol s1 z s')
        | ok d2 s2 =>
          rw [ef] at q1
          intro w2 v2 H2 le2 ok2 r2
          cases r2 with
          | int k =>
            cases e1 : s2.sl[i]? with
            | none => simp [e1] at q1; exact q1.elim
            | some z =>
              cases z with
              | ol xs =>
                simp only [Res.bind_ok, e1] at q1
                obtain ⟨a', vs', g1, g2, g3⟩ := own_list ok2 e1
                rw [h1] at g1
                cases g1
                cases e2 : ixN xs.length k with
                | none => rw [e2] at q1; exact q1.elim
                | some j =>
                  rw [e2] at q1
                  refine ⟨a, vs', k, j, rfl, rfl, g2, by rw [g3.length]; exact e2, ?_⟩
                  exact q1 w2 σ _ le2 (ok2.mut e1 rfl rfl h1 ⟨_, upd_same, Reps.set (r1.mono le2) j g3⟩ fun _ _ z => nomatch z)
              | _ => simp only [Res.bind_ok, e1] at q1; exact q1.elim
          | _ => simp only [Res.bind_ok] at q1; exact q1.elim
      | _ => exact q1.elim⟩
/-! ### len of an own list -/
def eLenO (i : Nat) : DE := fun s => match s.sl[i]? with
  | some (.ol xs) => .ok (.int xs.length) s
  | some (.val d) => (match bLen [d] with | some r => .ok r s | none => .stuck)
  | _ => .stuck
/-! ### a property -/
def eProp (c : String) (g : DFn) (f : DE) : DE := fun s => (f s).bind fun d s1 => match insOf d s1 with
  | some (c1, _) => if c1 = c then noX (lift s1 (g [d] s1.st)) else .stuck
  | none => .stuck
theorem pd_prop {c : String} {C p gf : Addr} {k : Nat} {fd : FuncData} {ps : List Str} {g : DFn} {e : Expr} {fe : DE} {f : Str} {pos : Pos} (hC : G.ct c = some C) (hcl : Cls X.K C) (hp : PropOf X.K C f p gf) (F : FnOk X.prog X.w X.K X.mg X.base (L2.CX X.prog X.w) k gf fd ps (spG G 1 g)) (hr : Room (k + 1) X.A) (hb : Binds X.K fd ps [])
    (he : PD G W X e fe) (hab : attributeBase e f X.env (eval e X.env) = eval e X.env := by rfl) : PD G W X (.Attribute e f pos) (eProp c g fe) :=
  (pe_prop (E := fun _ _ _ => False) he hcl hp F hr hb .nil (passes_call takes0 fun _ _ _ _ z => z) hab).imp fun σ H Q ⟨κ, w, s, ok, q⟩ => ⟨κ, w, s, ok, (PostG.bind q).imp fun v H1 ⟨d, s1, w1, le, ok1, r1, q1⟩ => by
    cases e1 : insOf d s1 with
    | none => rw [e1] at q1; exact q1.elim
    | some cf =>
      obtain ⟨c1, fs⟩ := cf
      rw [e1] at q1
      replace q1 : PostG G W (Rep G) κ w1 σ (if c1 = c then noX (lift s1 (g [d] s1.st)) else .stuck) Q := q1
      by_cases hc : c1 = c
      · rw [if_pos hc] at q1
        subst hc
        obtain ⟨a, C', dx, vs, rfl, hC', hH, _⟩ := r1.ins_of ok1 e1
        rw [hC] at hC'
        cases hC'
        refine ⟨a, dx, vs, rfl, hH, rfl, w1, s1.st, [d], ok1.fok, .cons r1 .nil, ?_⟩
        cases eg : g [d] s1.st with
        | stuck => rw [eg] at q1; exact q1.elim
        | exc x S => rw [eg] at q1; exact q1.elim
        | ok d' S => rw [eg] at q1; exact fun w' v H' n fk r => q1 w' v H' n.le (ok1.step n fk) r
      · rw [if_neg hc] at q1
        exact q1.elim⟩
/-! ### constants of the module: texts, numbers, tuples of them -/
def repK (K : PySem.W.Frag) : Nat → Value → D → Bool
  | 0, _, _ => false
  | n + 1, v, d => match v, d with
    | .none, .non => true
    | .bool b, .bl c => b == c
    | .int i _, .int j => i == j
    | .str x _, .str l => x == nm l
    | .ref a, .tup ds => match K.lookup a with
      | some o => o.cls == .type "tuple" && (match o.data with
        | .seq its _ => decide (its.size ≤ 1000) && go n its.toList ds
        | _ => false)
      | none => false
    | _, _ => false
where
  go (n : Nat) : List Value → List D → Bool
  | [], [] => true
  | v :: vs, d :: ds => repK K n v d && go n vs ds
  | _, _ => false
theorem repK_ok {K : PySem.W.Frag} (hK : G.K = K) : ∀ (n : Nat) (v : Value) (d : D), repK K n v d = true → ∃ x, RelV x v ∧ ∀ w, Rep G w x d := by
  intro n
  induction n with
  | zero => intro v d h; simp [repK] at h
  | succ n ih =>
    have goes : ∀ (vs : List Value) (ds : List D), repK.go K n vs ds = true → ∃ xs, Vals xs vs ∧ ∀ w, Reps G w xs ds := by
      intro vs
      induction vs with
      | nil =>
        intro ds h
        cases ds with
        | nil => exact ⟨[], .nil, fun _ => .nil⟩
        | cons _ _ => cases h
      | cons v vs ihv =>
        intro ds h
        cases ds with
        | nil => cases h
        | cons d ds =>
          simp only [repK.go, Bool.and_eq_true] at h
          obtain ⟨x, r1, r2⟩ := ih v d h.1
          obtain ⟨xs, r3, r4⟩ := ihv ds h.2
          exact ⟨x :: xs, .cons r1 r3, fun w => .cons (r2 w) (r4 w)⟩
    intro v d h
    unfold repK at h
    split at h
    · exact ⟨.non, rfl, fun _ => .non⟩
    · rw [beq_iff_eq] at h; subst h; exact ⟨.bl _, rfl, fun _ => .bl _⟩
    · rw [beq_iff_eq] at h; subst h; exact ⟨.int _, ⟨_, rfl⟩, fun _ => .int _⟩
    · rw [beq_iff_eq] at h; subst h; exact ⟨.str _, ⟨_, rfl⟩, fun _ => .str _⟩
    · split at h
      · rename_i o ho
        rw [Bool.and_eq_true, beq_iff_eq] at h
        obtain ⟨h1, h2⟩ := h
        split at h2
        · rename_i its m hd
          rw [Bool.and_eq_true, decide_eq_true_eq] at h2
          obtain ⟨xs, r3, r4⟩ := goes _ _ h2.2
          refine ⟨.ref _, rfl, fun w => .tup (.inr ⟨o, its, m, by rw [hK]; exact ho, h1, hd, by rw [sizeLine_eq]; omega, r3⟩) (r4 w)⟩
        · cases h2
      · cases h
    · cases h
theorem pd_const {x : Str} {v : Value} {d : D} {pos : Pos} (hg : Gl X x) (hm : X.mg x = some v) (hr : ∃ y, RelV y v ∧ ∀ w, Rep G w y d) (hd : (x == ("__debug__" : Str)) = false := by decide) : PD G W X (.Name x pos) (eC d) := by
  obtain ⟨y, r1, r2⟩ := hr
  exact pd_glob hg hm r1 r2 hd
/-! ### text.index(text) -/
def eSix (fo : DE) (fa : DA) : DE := fun s => (fo s).bind fun x s1 => match x with
  | .str a => (fa s1).bind fun ds s2 => match ds with
    | [.str b] => (match Txt.index0 (nm a) (nm b) with | some k => .ok (.int (k : Nat)) s2 | none => .stuck)
    | _ => .stuck
  | _ => .stuck
/-! ### a < b < c as a test -/
theorem ptd_chain {op op' : CmpOp} {o o' : D → D → Option D} {a b c : Expr} {fa fb fc : DE} {pos : Pos} (ho : OpD G X (compareOp op) o) (ho' : OpD G X (compareOp op') o') (ha : PD G W X a fa) (hb : PD G W X b fb) (hc : PD G W X c fc)
    (hp : ∀ {r r' : R2} {ta tb tc : TE}, OpR X (compareOp op) r → OpR X (compareOp op') r' → PE X a ta → PE X b tb → PE X c tc → PT X (.Compare a [op, op'] [b, c] pos) (tTest (tChain r r' ta tb tc))) : PDT G W X (.Compare a [op, op'] [b, c] pos) (eB (eChain o o' fa fb fc)) := by
  obtain ⟨r, h1, h2⟩ := ho
  obtain ⟨r', h1', h2'⟩ := ho'
  refine (hp h1 h1' ha hb hc).imp fun σ H Q h => ?_
  obtain ⟨κ, w, s, ok, q⟩ := tB_of h
  refine ⟨κ, w, s, ok, (PostG.bind q).imp fun v H1 ⟨d, s1, w1, le, ok1, r1, q1⟩ => ⟨κ, w1, s1, ok1, (PostG.bind q1).imp fun v2 H2 ⟨d2, s2, w2, le2, ok2, r2, q2⟩ => ?_⟩⟩
  cases e : o d d2 with
  | none => rw [e] at q2; exact q2.elim
  | some z =>
    rw [e] at q2
    refine h2 κ w2 s2 σ H2 v v2 d d2 z _ ok2 (r1.mono le2) r2 e fun w3 v3 H3 l3 o3 r3 => ?_
    cases r3 with
    | bl k =>
      refine ⟨k, rfl, ?_⟩
      cases k with
      | false => exact q2 w3 _ H3 l3 o3 (.bl false)
      | true =>
        refine ⟨κ, w3, s2, o3, (PostG.bind (PostG.mono l3 q2)).imp fun v4 H4 ⟨d4, s4, w4, le4, ok4, r4, q4⟩ => ?_⟩
        cases e' : o' d2 d4 with
        | none => rw [e'] at q4; exact q4.elim
        | some z' => rw [e'] at q4; exact h2' κ w4 s4 σ H4 v2 v4 d2 d4 z' _ ok4 ((r2.mono l3).mono le4) r4 e' q4
    | _ => exact q2.elim
/-! ### readings that raise nothing -/
theorem nx_c (d : D) : ∀ (s : DS), (∀ x s', eC d s ≠ .exc x s') := fun s x s' h => nomatch h
theorem nx_neg {f : DE} (k : ∀ (s : DS), (∀ x s', f s ≠ .exc x s')) : ∀ (s : DS), (∀ x s', eNeg f s ≠ .exc x s') := fun s x s' h => by
  unfold eNeg at h
  cases e : f s with
  | stuck => rw [e] at h; cases h
  | exc z t => exact k s z t e
  | ok d t =>
    rw [e] at h
    simp only [Res.bind_ok] at h
    split at h <;> cases h
/-! ### an own slot is given away -/
def eFz (i : Nat) (f : DE) : DE := fun s => match s.sl[i]? with
  | some (.ol xs) => f ⟨s.sl.set i (.val (.lst xs)), s.st⟩
  | some (.od kvs) => f ⟨s.sl.set i (.val (.dic kvs)), s.st⟩
  | some (.oi c fs) => f ⟨s.sl.set i (.val (.ins c fs)), s.st⟩
  | _ => f s
/-! ### isinstance(x, (A, B)) -/
/-- all items are classes -/
def clsD : D → Bool
  | .ty _ => true
  | .cls _ => true
  | _ => false
def isAny (cs : List String) (t : String ⊕ String) : List D → Option Bool
  | [] => some false
  | c :: r => match isOne cs t c with
    | some true => some true
    | some false => isAny cs t r
    | none => none
def eIsT (cs : List String) (fe : DE) (fa : DA) : DE := fun s => (fe s).bind fun d s1 => (fa s1).bind fun ts s2 => if ts.length ≤ 1000 ∧ ts.all clsD = true then match (tyOfD cs d).bind fun t => isAny cs t ts with
  | some b => .ok (.bl b) s2
  | none => .stuck
  else .stuck
theorem isOne_kit (hK : G.K = X.K) {cs : List String} (I : IsOk G cs) {w : Wd} {t : String ⊕ String} {tv : Value} {c : D} {v : V} {b : Bool} (ht : match t with | .inl a => tv = .type a ∧ a ∈ tyNames | .inr c => c ∈ cs ∧ ∃ C, G.ct c = some C ∧ tv = .ref C) (r : Rep G w v c) (e : isOne cs t c = some b) : ∃ u, ClsV v u ∧ PySem.W.kitOne X.K tv u = some b := by
  cases t with
  | inl a =>
    obtain ⟨rfl, ha⟩ := ht
    cases r with
    | ty n =>
      have e : (if a ∈ tyNames ∧ n ∈ tyNames then some (isTy a n) else none) = some b := e
      split at e
      · rename_i h
        cases e
        exact ⟨_, .ty n, kit_ty (isTy_ok a h.1 n h.2)⟩
      · cases e
    | @cls C n hC =>
      have e : (if a ∈ tyNames ∧ n ∈ cs then some false else none) = some b := e
      split at e
      · rename_i h
        cases e
        exact ⟨_, .own C, hK ▸ (I.bo n h.2 C hC a h.1).2⟩
      · cases e
    | _ => exact nomatch e
  | inr a =>
    obtain ⟨ha, C', hC', rfl⟩ := ht
    cases r with
    | ty n =>
      have e : (if n ∈ tyNames then some false else none) = some b := e
      split at e
      · rename_i h
        cases e
        exact ⟨_, .ty n, hK ▸ (I.bo a ha C' hC' n h).1⟩
      · cases e
    | @cls C n hC =>
      have e : (if n ∈ cs then some (a == n) else none) = some b := e
      split at e
      · rename_i h
        cases e
        exact ⟨_, .own C, hK ▸ I.oo a ha n h C' C hC' hC⟩
      · cases e
    | _ => exact nomatch e
/-- a class value and its object -/
def clsOf : V → Value
  | .ty n => .type n
  | .ref C => .ref C
  | _ => .none
theorem isAny_kit (hK : G.K = X.K) {cs : List String} (I : IsOk G cs) {w : Wd} {t : String ⊕ String} {tv : Value} (ht : match t with | .inl a => tv = .type a ∧ a ∈ tyNames | .inr c => c ∈ cs ∧ ∃ C, G.ct c = some C ∧ tv = .ref C) : ∀ {vs : List V} {ds : List D} {b : Bool}, Reps G w vs ds → ds.all clsD = true → isAny cs t ds = some b → ∃ us, Paired ClsV vs us ∧ PySem.W.kitAny X.K tv us = some b
  | _, _, _, .nil, _, e => by cases e; exact ⟨[], .nil, kitAny_nil⟩
  | _, _, b, .cons (v := v) (d := c) (vs := vs) (ds := ds) r rs, hc, e => by
    rw [List.all_cons, Bool.and_eq_true] at hc
    have rest : ∃ us, Paired ClsV vs us := by
      clear e
      have : ∀ {vs : List V} {ds : List D}, Reps G w vs ds → ds.all clsD = true → ∃ us, Paired ClsV vs us := fun {vs ds} r h => by
        induction ds generalizing vs with
        | nil => cases r; exact ⟨[], .nil⟩
        | cons d ds ih =>
          cases r with
          | cons a b =>
            rw [List.all_cons, Bool.and_eq_true] at h
            obtain ⟨us, hu⟩ := ih b h.2
            cases a with
            | ty n => exact ⟨_, .cons (.ty n) hu⟩
            | @cls C n hC => exact ⟨_, .cons (.own C) hu⟩
            | _ => exact nomatch h.1
      exact this rs hc.2
    simp only [isAny] at e
    split at e
    · rename_i e1
      cases e
      obtain ⟨u, h1, h2⟩ := isOne_kit hK I ht r e1
      obtain ⟨us, hu⟩ := rest
      exact ⟨u :: us, .cons h1 hu, kitAny_cons h2 (fun z => nomatch z) fun _ => rfl⟩
    · rename_i e1
      obtain ⟨u, h1, h2⟩ := isOne_kit hK I ht r e1
      obtain ⟨us, hu, hk⟩ := isAny_kit hK I ht rs hc.2 e
      exact ⟨u :: us, .cons h1 hu, kitAny_cons h2 (fun _ => hk) fun z => nomatch z⟩
    · cases e
theorem pd_isT (hK : G.K = X.K) {cs : List String} (I : IsOk G cs) {x : Str} {p pos pos2 : Pos} {k : Nat} {e : Expr} {es : List Expr} {fe : DE} {fa : DA} (hg : Gl X x) (hm : X.mg x = none) (hv : bootBuiltins x = some (.builtin "isinstance")) (he : PD G W X e fe) (hes : PDA G W X es fa) (hn : x ≠ "__name__" := by decide)
    (hdb : (x == ("__debug__" : Str)) = false := by decide) (h1 : starEach (e :: [Expr.Tuple es k pos2]) X.env = (false, eval e X.env) :: starEach [Expr.Tuple es k pos2] X.env := by rfl) (h2 : starEach [Expr.Tuple es k pos2] X.env = (false, eval (.Tuple es k pos2) X.env) :: starEach [] X.env := by rfl)
    (hpl : (backTo pos (starEach [Expr.Tuple es k pos2] X.env)).any (·.1) = false := by rfl) : PD G W X (.Call (.Name x p) [e, .Tuple es k pos2] [] pos) (eIsT cs fe fa) :=
  (pe_callB call_isiT hg hm hv (pa_cons he (pa_cons (pe_tup hes) pa_nil h2) h1) hn hdb h1 hpl).imp fun σ H Q ⟨κ, w, s, ok, q⟩ => ⟨κ, w, s, ok, (PostG.bind q).imp fun v H1 ⟨d, s1, w1, le, ok1, r1, q1⟩ =>
    ⟨κ, w1, s1, ok1, (PostG.bind q1).imp fun vs H2 ⟨ts, s2, w2, le2, ok2, r2, q2⟩ => by
      by_cases c : ts.length ≤ 1000 ∧ ts.all clsD = true
      · rw [if_pos c] at q2
        refine ⟨by rw [r2.length]; exact sz1000 c.1, fun p hp => ?_⟩
        obtain ⟨le3, ok3⟩ := ok2.alloc hp (.tup vs)
        cases e1 : tyOfD cs d with
        | none => rw [e1] at q2; exact q2.elim
        | some t =>
          rw [e1] at q2
          obtain ⟨tv, ty, ht⟩ := tyX_of hK I ok3 ((r1.mono le2).mono le3) e1
          cases e2 : isAny cs t ts with
          | none => simp only [Option.bind_some, e2] at q2; exact q2.elim
          | some b =>
            simp only [Option.bind_some, e2] at q2
            obtain ⟨us, hu, hk⟩ := isAny_kit hK I (t := t) (tv := tv) (by cases t <;> exact ht) (r2.mono le3) c.2 e2
            exact ⟨v, p, vs, tv, us, b, rfl, upd_same, hu, ty, hk, q2 _ _ _ le3 ok3 (.bl b)⟩
      · rw [if_neg c] at q2
        exact q2.elim⟩⟩
/-! ### x != [] of an own list -/
def eNeO (i : Nat) : DT := fun s => match s.sl[i]? with
  | some (.ol xs) => (match dNe (.lst xs) (.lst []) with | some (.bl b) => .ok b s | _ => .stuck)
  | some (.val d) => (match dNe d (.lst []) with | some (.bl b) => .ok b s | _ => .stuck)
  | _ => .stuck
end
end DL
set_option maxRecDepth 100000
set_option maxHeartbeats 4000000
set_option autoImplicit false
namespace DL
open PySem PySem.Spec PyProof.Rows L2
section
variable {G : Gam} {W : WX} {X : Cx}
/-! ### a, b, c = [], [], x with lists of one's own -/
def sPar3O (i j l : Nat) (f1 f2 : DA) (f3 : DE) : DStm := fun s => match f1 s with
  | .ok xs s1 => match f2 s1 with
    | .ok ys s2 => match f3 s2 with
      | .ok d s3 => .ok .nx ⟨((s3.sl.set i (.ol xs)).set j (.ol ys)).set l (.val d), s3.st⟩
      | _ => .stuck
    | _ => .stuck
  | _ => .stuck
theorem pds_par3O {i j l : Nat} {x y z : Str} {a b c : Expr} {f1 f2 : DA} {f3 : DE} {px py pz pt pos : Pos} {kt k2 : Nat} {pt2 : Pos} (hc : X.calm = true) (hN : X.N.Nodup) (hi : X.N[i]? = some x) (hj : X.N[j]? = some y) (hl : X.N[l]? = some z) (hij : i ≠ j) (hil : i ≠ l) (hjl : j ≠ l)
    (hx : X.env.scope.names.lookup x = some .local) (hy : X.env.scope.names.lookup y = some .local) (hz : X.env.scope.names.lookup z = some .local) (ha : PDo G W X a f1) (hb : PDo G W X b f2) (hd : PD G W X c f3)
    (hw : swappedStores [.Tuple [.Name x px, .Name y py, .Name z pz] kt pt] (.Tuple [a, b, c] k2 pt2) X.env = pure (some [x, y, z]))
    (hs : swapsWithSole [.Tuple [.Name x px, .Name y py, .Name z pz] kt pt] (.Tuple [a, b, c] k2 pt2) pos.line X.env = pure false := by rfl)
    (s1 : starEach [a, b, c] X.env = (false, eval a X.env) :: starEach [b, c] X.env := by rfl) (s2 : starEach [b, c] X.env = (false, eval b X.env) :: starEach [c] X.env := by rfl) (s3 : starEach [c] X.env = (false, eval c X.env) :: starEach [] X.env := by rfl) :
    PDS G W X (.Assign [.Tuple [.Name x px, .Name y py, .Name z pz] kt pt] (.Tuple [a, b, c] k2 pt2) pos) (sPar3O i j l f1 f2 f3) :=
  (ps_par3 hc hN hi hj hl hij hil hjl hx hy hz (pa_cons ha (pa_cons hb (pa_cons hd pa_nil s3) s2) s1) hw hs).imp fun N σ H ⟨κ, w, s, ok, q⟩ => by
    unfold sPar3O at q
    cases e1 : f1 s with
    | stuck => rw [e1] at q; exact q.elim
    | exc x s' => rw [e1] at q; exact q.elim
    | ok xs s1 =>
      rw [e1] at q
      simp only at q
      refine ⟨κ, w, s, ok, ?_⟩
      rw [e1]
      intro w1 a vs H1 l1 ok1 g1 r1
      cases e2 : f2 s1 with
      | stuck => rw [e2] at q; exact q.elim
      | exc x s' => rw [e2] at q; exact q.elim
      | ok ys s2 =>
        rw [e2] at q
        simp only at q
        refine ⟨_, w1, s1, ok1, ?_⟩
        rw [e2]
        intro w2 b us H2 l2 ok2 g2 r2
        cases e3 : f3 s2 with
        | stuck => rw [e3] at q; exact q.elim
        | exc x s' => rw [e3] at q; exact q.elim
        | ok d s3 =>
          rw [e3] at q
          simp only at q
          refine ⟨_, w2, s2, ok2, ?_⟩
          rw [e3]
          intro w3 v H3 l3 ok3 r3
          refine ⟨_, _, _, rfl, ?_⟩
          have h1 := ok3.setOwn (y := .ol ys) g2 ⟨us, (ok3.gam (b, .lst us) List.mem_cons_self).1, r2.mono l3⟩ rfl (fun _ _ z => nomatch z) j
          have h2 := h1.setOwn (y := .ol xs) g1 ⟨vs, (h1.gam (a, .lst vs) List.mem_cons_self).1, (r1.mono l2).mono l3⟩ rfl (fun _ _ z => nomatch z) i
          have h3 := h2.setVal r3 l
          rw [List.set_comm _ _ hij] 
          rw [List.set_comm _ _ hij] at q
          exact q w3 _ H3 (l1.trans (l2.trans l3)) h3
/-! ### is True, is False -/
def dIsB : D → D → Option D := fun x y => match x, y with
  | .bl a, .bl b => some (.bl (decide (a = b)))
  | _, _ => none
def dNotB : D → D → Option D := fun x y => match x, y with
  | .bl a, .bl b => some (.bl (!decide (a = b)))
  | _, _ => none
/-! ### a, b = a list of two -/
def gTA (n : Nat) (g : List D → DS → Res DS Unit) : DG := fun d s => match d with
  | .tup ds => if ds.length = n then g ds s else .stuck
  | .lst ds => if ds.length = n then g ds s else .stuck
  | _ => .stuck
/-! ### text * number -/
def sMul : D → D → Option D := fun x y => match x, y with
  | .str l, .int n => if l.length ≤ 100 ∧ -100000 ≤ n ∧ n ≤ 100000 then some (.str (List.replicate n.toNat l).flatten) else none
  | _, _ => none
/-! ### tuple + tuple, empty ones too -/
def tAdd : D → D → Option D := fun x y => match x, y with
  | .tup a, .tup b => if a.length + b.length ≤ 1000000 then some (.tup (a ++ b)) else none
  | _, _ => none
/-! ### max(xs), min(xs) of a list of ints -/
def mxL : List Int → Int
  | [] => 0
  | [x] => x
  | x :: y :: r => if mxL (y :: r) > x then mxL (y :: r) else x
def mnL : List Int → Int
  | [] => 0
  | [x] => x
  | x :: y :: r => if mnL (y :: r) < x then mnL (y :: r) else x
def bMaxL : List D → Option D
  | [.lst xs] => match intsOf xs with
    | some (n :: ns) => some (.int (mxL (n :: ns)))
    | _ => none
  | _ => none
def bMinL : List D → Option D
  | [.lst xs] => match intsOf xs with
    | some (n :: ns) => some (.int (mnL (n :: ns)))
    | _ => none
  | _ => none
end
end DL
set_option maxRecDepth 100000
set_option maxHeartbeats 4000000
set_option autoImplicit false
namespace DL
/-! ### readings, by simp -/
section
variable {s : DS} {st : List Cell} {sl : List Sl}
@[simp] theorem r_eC (d : D) (s : DS) : eC d s = .ok d s := rfl
@[simp] theorem r_eVar (i : Nat) (sl : List Sl) (st : List Cell) : eVar i ⟨sl, st⟩ = match sl[i]? with
  | some (.val d) => .ok d ⟨sl, st⟩
  | some (.ol xs) => .ok (.lst xs) ⟨sl.set i (.val (.lst xs)), st⟩
  | some (.od kvs) => .ok (.dic kvs) ⟨sl.set i (.val (.dic kvs)), st⟩
  | some (.oi c fs) => .ok (.ins c fs) ⟨sl.set i (.val (.ins c fs)), st⟩
  | _ => .stuck := rfl
@[simp] theorem r_eOp2 (o : D → D → Option D) (fa fb : DE) (s : DS) : eOp2 o fa fb s = (fa s).bind fun x s1 => (fb s1).bind fun y s2 => match o x y with | some d => .ok d s2 | none => .stuck := rfl
@[simp] theorem r_eOpX (o : DO2) (fa fb : DE) (s : DS) : eOpX o fa fb s = (fa s).bind fun x s1 => (fb s1).bind fun y s2 => o x y s2 := rfl
@[simp] theorem r_eB (f : DE) (s : DS) : eB f s = (f s).bind fun d s1 => match d with | .bl b => .ok b s1 | _ => .stuck := rfl
@[simp] theorem r_eTru (f : DE) (s : DS) : eTru f s = (f s).bind fun d s1 => match truD d with | some b => .ok b s1 | none => .stuck := rfl
@[simp] theorem r_bAnd (f g : DT) (s : DS) : bAnd f g s = (f s).bind fun b s1 => if b = true then g s1 else .ok false s1 := rfl
@[simp] theorem r_bOr (f g : DT) (s : DS) : bOr f g s = (f s).bind fun b s1 => if b = true then .ok true s1 else g s1 := rfl
@[simp] theorem r_bNot (f : DT) (s : DS) : bNot f s = (f s).bind fun b s1 => .ok (!b) s1 := rfl
@[simp] theorem r_bYes (s : DS) : bYes s = .ok true s := rfl
@[simp] theorem r_eAndT (f g : DE) (s : DS) : eAndT f g s = (f s).bind fun d s1 => match truD d with | some b => if b = true then g s1 else .ok d s1 | none => .stuck := rfl
@[simp] theorem r_eOrT (f g : DE) (s : DS) : eOrT f g s = (f s).bind fun d s1 => match truD d with | some b => if b = true then .ok d s1 else g s1 | none => .stuck := rfl
@[simp] theorem r_eNotT (f : DE) (s : DS) : eNotT f s = (f s).bind fun d s1 => match truD d with | some b => .ok (.bl (!b)) s1 | none => .stuck := rfl
@[simp] theorem r_eIf (c : DT) (f g : DE) (s : DS) : eIf c f g s = (c s).bind fun b s1 => if b = true then f s1 else g s1 := rfl
@[simp] theorem r_aNil (s : DS) : aNil s = .ok [] s := rfl
@[simp] theorem r_aCons (f : DE) (g : DA) (s : DS) : aCons f g s = (f s).bind fun d s1 => (g s1).bind fun ds s2 => .ok (d :: ds) s2 := rfl
@[simp] theorem r_eTup (g : DA) (s : DS) : eTup g s = (g s).bind fun ds s1 => if ds.length ≤ 1000 then .ok (.tup ds) s1 else .stuck := rfl
@[simp] theorem r_aMax (g : DA) (s : DS) : aMax g s = (g s).bind fun ds s1 => if ds.length ≤ 1000 then .ok ds s1 else .stuck := rfl
@[simp] theorem r_eFrz (f : DA) (s : DS) : eFrz f s = (f s).bind fun xs s1 => .ok (.lst xs) s1 := rfl
@[simp] theorem r_eFrzD (f : DD) (s : DS) : eFrzD f s = (f s).bind fun xs s1 => .ok (.dic xs) s1 := rfl
@[simp] theorem r_sPass (s : DS) : sPass s = .ok .nx s := rfl
@[simp] theorem r_sNever (s : DS) : sNever s = .stuck := rfl
@[simp] theorem r_sBreak (s : DS) : sBreak s = .ok .bk s := rfl
@[simp] theorem r_sCont (s : DS) : sCont s = .ok .ct s := rfl
@[simp] theorem r_sSeq (f g : DStm) (s : DS) : sSeq f g s = (f s).bind fun o s1 => match o with | .nx => g s1 | o => .ok o s1 := rfl
@[simp] theorem r_sExpr (f : DE) (s : DS) : sExpr f s = (f s).bind fun _ s1 => .ok .nx s1 := rfl
@[simp] theorem r_sRet (f : DE) (s : DS) : sRet f s = (f s).bind fun d s1 => .ok (.rt d) s1 := rfl
@[simp] theorem r_sIf (c : DT) (f g : DStm) (s : DS) : sIf c f g s = (c s).bind fun b s1 => if b = true then f s1 else g s1 := rfl
@[simp] theorem r_sSet (i : Nat) (f : DE) (s : DS) : sSet i f s = (f s).bind fun d s1 => .ok .nx ⟨s1.sl.set i (.val d), s1.st⟩ := rfl
@[simp] theorem r_sSetO (i : Nat) (f : DA) (s : DS) : sSetO i f s = (f s).bind fun xs s1 => .ok .nx ⟨s1.sl.set i (.ol xs), s1.st⟩ := rfl
@[simp] theorem r_gN (i : Nat) (d : D) (s : DS) : gN i d s = .ok () ⟨s.sl.set i (.val d), s.st⟩ := rfl
@[simp] theorem r_gsNil (s : DS) : gsNil [] s = .ok () s := rfl
@[simp] theorem r_gsCons (g : DG) (k : List D → DS → Res DS Unit) (d : D) (r : List D) (s : DS) : gsCons g k (d :: r) s = (g d s).bind fun _ s1 => k r s1 := rfl
@[simp] theorem r_gT (n : Nat) (g : List D → DS → Res DS Unit) (ds : List D) (s : DS) : gT n g (.tup ds) s = if ds.length = n then g ds s else .stuck := rfl
@[simp] theorem r_noX_ok {σ α : Type} (a : α) (t : σ) : noX (Res.ok a t) = .ok a t := rfl
@[simp] theorem r_noX_stuck {σ α : Type} : noX (Res.stuck : Res σ α) = .stuck := rfl
@[simp] theorem r_noX_exc {σ α : Type} (x : Xc) (t : σ) : noX (Res.exc x t : Res σ α) = .stuck := rfl
@[simp] theorem r_sAsgT (f : DE) (g : DG) (s : DS) : sAsgT f g s = (f s).bind fun d s1 => (noX (g d s1)).bind fun _ s2 => .ok .nx s2 := rfl
@[simp] theorem r_sPar (i j : Nat) (f : DA) (s : DS) : sPar i j f s = (f s).bind fun ds s1 => match ds with | [x, y] => .ok .nx ⟨(s1.sl.set i (.val x)).set j (.val y), s1.st⟩ | _ => .stuck := rfl
@[simp] theorem r_sPar3 (i j l : Nat) (f : DA) (s : DS) : sPar3 i j l f s = (f s).bind fun ds s1 => match ds with | [x, y, z] => .ok .nx ⟨((s1.sl.set i (.val x)).set j (.val y)).set l (.val z), s1.st⟩ | _ => .stuck := rfl
@[simp] theorem r_lo_nx (s : DS) (k : DS → Res DS Out) : loopOut (.ok .nx s) k = k s := rfl
@[simp] theorem r_lo_ct (s : DS) (k : DS → Res DS Out) : loopOut (.ok .ct s) k = k s := rfl
@[simp] theorem r_lo_bk (s : DS) (k : DS → Res DS Out) : loopOut (.ok .bk s) k = .ok .nx s := rfl
@[simp] theorem r_lo_rt (d : D) (s : DS) (k : DS → Res DS Out) : loopOut (.ok (.rt d) s) k = .ok (.rt d) s := rfl
@[simp] theorem r_lo_stuck (k : DS → Res DS Out) : loopOut .stuck k = .stuck := rfl
@[simp] theorem r_for_nil (g : DG) (b : DStm) (s : DS) : forL g b [] s = .ok .nx s := rfl
@[simp] theorem r_for_cons (g : DG) (b : DStm) (d : D) (r : List D) (s : DS) : forL g b (d :: r) s = (noX (g d s)).bind fun _ s1 => loopOut (b s1) (forL g b r) := rfl
@[simp] theorem r_sFor (it : DA) (g : DG) (b : DStm) (s : DS) : sFor it g b s = (it s).bind fun ds s1 => forL g b ds s1 := rfl
@[simp] theorem r_itSeq (f : DE) (s : DS) : itSeq f s = (f s).bind fun d s1 => match itemsD d with | some xs => .ok xs s1 | none => .stuck := rfl
@[simp] theorem r_itemsD_l (xs : List D) : itemsD (.lst xs) = some xs := rfl
@[simp] theorem r_itemsD_s (xs : List D) : itemsD (.scr xs) = some xs := rfl
@[simp] theorem r_itemsD_t (xs : List D) : itemsD (.tup xs) = some xs := rfl
@[simp] theorem r_itemsD_str (xs : Nm) : itemsD (.str xs) = some (xs.map fun c => .str [c]) := rfl
@[simp] theorem r_eCall (n : Nat) (g : DFn) (fa : DA) (s : DS) : eCall n g fa s = (fa s).bind fun ds s1 => if ds.length = n then lift s1 (g ds s1.st) else .stuck := rfl
@[simp] theorem r_lift_ok {α : Type} (s : DS) (d : α) (S : List Cell) : lift s (.ok d S) = .ok d ⟨s.sl, S⟩ := rfl
@[simp] theorem r_lift_exc {α : Type} (s : DS) (x : Xc) (S : List Cell) : lift s (.exc x S : Res (List Cell) α) = .exc x ⟨s.sl, S⟩ := rfl
@[simp] theorem r_lift_stuck {α : Type} (s : DS) : lift s (.stuck : Res (List Cell) α) = .stuck := rfl
@[simp] theorem r_eMake (c : String) (n : Nat) (g : DIn) (fa : DA) (s : DS) : eMake c n g fa s = (fa s).bind fun ds s1 => if ds.length = n then (lift s1 (g ds s1.st)).bind fun fs s2 => .ok (.ins c fs) s2 else .stuck := rfl
@[simp] theorem r_eMeth (c : String) (m : Nm) (n : Nat) (g : DFn) (fo : DE) (fa : DA) (s : DS) : eMeth c m n g fo fa s = (fo s).bind fun d s1 => match insOf d s1 with
  | some (c', fs) => if c' = c ∧ fs.lookup m = none then (fa s1).bind fun ds s2 => if ds.length + 1 = n then lift s2 (g (d :: ds) s2.st) else .stuck else .stuck
  | none => .stuck := rfl
@[simp] theorem r_eFld (cs : List String) (fn : Nm) (f : DE) (s : DS) : eFld cs fn f s = (f s).bind fun d s1 => match insOf d s1 with
  | some (c, fs) => if c ∈ cs then match fs.lookup fn with | some x => .ok x s1 | none => .stuck else .stuck
  | none => .stuck := rfl
@[simp] theorem r_insOf (c : String) (fs : List (Nm × D)) (s : DS) : insOf (.ins c fs) s = some (c, fs) := rfl
@[simp] theorem r_eInv (c : String) (g : DFn) (f : DE) (s : DS) : eInv c g f s = (f s).bind fun d s1 => match insOf d s1 with | some (c1, _) => if c1 = c then lift s1 (g [d] s1.st) else .stuck | none => .stuck := rfl
@[simp] theorem r_ownO (c c1 c2 : String) (f1 f2 : List (Nm × D)) (g : DFn) (s : DS) : ownO c g (.ins c1 f1) (.ins c2 f2) s = if c1 = c ∧ c2 = c then lift s (g [.ins c1 f1, .ins c2 f2] s.st) else .stuck := rfl
@[simp] theorem r_ownNe (c : String) (g : DFn) (x y : D) (s : DS) : ownNe c g x y s = negD (ownO c g x y s) := rfl
@[simp] theorem r_negD (b : Bool) (s : DS) : negD (.ok (.bl b) s) = .ok (.bl (!b)) s := rfl
@[simp] theorem r_eCB (o : List D → Option D) (fa : DA) (s : DS) : eCB o fa s = (fa s).bind fun ds s1 => match o ds with | some d => .ok d s1 | none => .stuck := rfl
@[simp] theorem r_eNeg (f : DE) (s : DS) : eNeg f s = (f s).bind fun d s1 => match d with | .int i => .ok (.int (-i)) s1 | _ => .stuck := rfl
@[simp] theorem r_eIx (fa fb : DE) (s : DS) : eIx fa fb s = (fa s).bind fun x s1 => (fb s1).bind fun y s2 => match y with | .int i => (match ixD x i with | some d => .ok d s2 | none => .stuck) | _ => .stuck := rfl
@[simp] theorem r_sFldO (c : String) (i : Nat) (fn : Nm) (f : DE) (s : DS) : sFldO c i fn f s = (f s).bind fun d s1 => match s1.sl[i]? with
  | some (.oi c' fs) => if c' = c ∧ fs.length < 1000 then .ok .nx ⟨s1.sl.set i (.oi c (putN fn d fs)), s1.st⟩ else .stuck
  | _ => .stuck := rfl
@[simp] theorem r_aList (fa : DA) (s : DS) : aList fa s = (fa s).bind fun ds s1 => match ds with | [d] => (match seqD d with | some xs => .ok xs s1 | none => .stuck) | _ => .stuck := rfl
@[simp] theorem r_seqD_l (xs : List D) : seqD (.lst xs) = some xs := rfl
@[simp] theorem r_seqD_s (xs : List D) : seqD (.scr xs) = some xs := rfl
@[simp] theorem r_seqD_t (xs : List D) : seqD (.tup xs) = some xs := rfl
@[simp] theorem r_oNone (s : DS) : oNone s = .ok none s := rfl
@[simp] theorem r_oSome (f : DE) (s : DS) : oSome f s = (f s).bind fun d s1 => match d with | .int i => .ok (some i) s1 | _ => .stuck := rfl
@[simp] theorem r_aSl (f : DE) (l h : DOp) (s : DS) : aSl f l h s = (f s).bind fun d s1 => (l s1).bind fun lo s2 => (h s2).bind fun hi s3 => match d with | .lst xs => .ok (cutD xs lo hi) s3 | .scr xs => .ok (cutD xs lo hi) s3 | _ => .stuck := rfl
@[simp] theorem r_eSlT (f : DE) (l h : DOp) (s : DS) : eSlT f l h s = (f s).bind fun d s1 => (l s1).bind fun lo s2 => (h s2).bind fun hi s3 => match d with | .tup xs => if (cutD xs lo hi).length ≠ xs.length then .ok (.tup (cutD xs lo hi)) s3 else .stuck | _ => .stuck := rfl
@[simp] theorem r_eSlA (f : DE) (l h : DOp) (s : DS) : eSlA f l h s = (f s).bind fun d s1 => (l s1).bind fun lo s2 => (h s2).bind fun hi s3 => match slD d lo hi with | some x => .ok x s3 | none => .stuck := rfl
@[simp] theorem r_slD_l (xs : List D) (lo hi : Option Int) : slD (.lst xs) lo hi = some (.lst (cutD xs lo hi)) := rfl
@[simp] theorem r_slD_s (xs : List D) (lo hi : Option Int) : slD (.scr xs) lo hi = some (.lst (cutD xs lo hi)) := rfl
@[simp] theorem r_slD_t (xs : List D) (lo hi : Option Int) : slD (.tup xs) lo hi = if (cutD xs lo hi).length ≠ xs.length then some (.tup (cutD xs lo hi)) else none := rfl
/-! data -/
@[simp] theorem r_iAdd (i j : Int) : iAdd (.int i) (.int j) = some (.int (i + j)) := rfl
@[simp] theorem r_dAdd (i j : Int) : dAdd (.int i) (.int j) = some (.int (i + j)) := rfl
@[simp] theorem r_iSub (i j : Int) : iSub (.int i) (.int j) = some (.int (i - j)) := rfl
@[simp] theorem r_dMul (i j : Int) : dMul (.int i) (.int j) = if mulOk i j = true then some (.int (i * j)) else none := rfl
@[simp] theorem r_iDiv (i j : Int) : iDiv (.int i) (.int j) = if divOk j = true then some (.int (i.fdiv j)) else none := rfl
@[simp] theorem r_iMod (i j : Int) : iMod (.int i) (.int j) = if j ≠ 0 then some (.int (i.fmod j)) else none := rfl
@[simp] theorem r_iPow (i j : Int) : iPow (.int i) (.int j) = if 0 ≤ j ∧ j ≤ 1000000 ∧ i.natAbs < 2 ^ 64 then some (.int (i ^ j.toNat)) else none := rfl
@[simp] theorem r_iLt (i j : Int) : iLt (.int i) (.int j) = some (.bl (decide (i < j))) := rfl
@[simp] theorem r_iLe (i j : Int) : iLe (.int i) (.int j) = some (.bl (decide (i ≤ j))) := rfl
@[simp] theorem r_iGt (i j : Int) : iGt (.int i) (.int j) = some (.bl (decide (j < i))) := rfl
@[simp] theorem r_iGe (i j : Int) : iGe (.int i) (.int j) = some (.bl (decide (j ≤ i))) := rfl
@[simp] theorem r_dEq_int (i j : Int) : dEq (.int i) (.int j) = some (.bl (decide (i = j))) := by
  show (if (true && true) = true then some (D.bl (i == j)) else none) = _
  simp [Bool.beq_eq_decide_eq]
@[simp] theorem r_dNe_int (i j : Int) : dNe (.int i) (.int j) = some (.bl (!decide (i = j))) := by
  show (if (true && true) = true then some (D.bl (!(i == j))) else none) = _
  simp [Bool.beq_eq_decide_eq]
@[simp] theorem r_dIsN (x : D) : dIsN x .non = some (.bl (isNonD x)) := rfl
@[simp] theorem r_dNotN (x : D) : dNotN x .non = some (.bl (!isNonD x)) := rfl
@[simp] theorem r_isNon : isNonD .non = true := rfl
@[simp] theorem r_isNon_t (xs : List D) : isNonD (.tup xs) = false := rfl
@[simp] theorem r_isNon_i (i : Int) : isNonD (.int i) = false := rfl
@[simp] theorem r_isNon_n (c : String) (fs : List (Nm × D)) : isNonD (.ins c fs) = false := rfl
@[simp] theorem r_isNon_l (xs : List D) : isNonD (.lst xs) = false := rfl
@[simp] theorem r_tru_bl (b : Bool) : truD (.bl b) = some b := rfl
@[simp] theorem r_tru_non : truD .non = some false := rfl
@[simp] theorem r_tru_int (i : Int) : truD (.int i) = some (i != 0) := rfl
@[simp] theorem r_tru_lst (xs : List D) : truD (.lst xs) = some (!xs.isEmpty) := rfl
@[simp] theorem r_tru_tup (xs : List D) : truD (.tup xs) = some (!xs.isEmpty) := rfl
@[simp] theorem r_bInt (i : Int) : bInt [.int i] = some (.int i) := rfl
@[simp] theorem r_bInt_b (b : Bool) : bInt [.bl b] = some (.int (if b then 1 else 0)) := rfl
@[simp] theorem r_bLen_l (xs : List D) : bLen [.lst xs] = some (.int xs.length) := rfl
@[simp] theorem r_bLen_s (xs : List D) : bLen [.scr xs] = some (.int xs.length) := rfl
@[simp] theorem r_bLen_t (xs : List D) : bLen [.tup xs] = some (.int xs.length) := rfl
@[simp] theorem r_bAbs (i : Int) : bAbs [.int i] = some (.int (if i < 0 then -i else i)) := rfl
@[simp] theorem r_bTup_l (xs : List D) : bTup [.lst xs] = some (.tup xs) := rfl
@[simp] theorem r_bTup_t (xs : List D) : bTup [.tup xs] = some (.tup xs) := rfl
@[simp] theorem r_bMax (i j : Int) : bMax2 [.int i, .int j] = some (.int (if j > i then j else i)) := rfl
@[simp] theorem r_bMin (i j : Int) : bMin2 [.int i, .int j] = some (.int (if j < i then j else i)) := rfl
@[simp] theorem r_ix_t (xs : List D) (i : Int) : ixD (.tup xs) i = L2.atI xs i := rfl
@[simp] theorem r_ix_l (xs : List D) (i : Int) : ixD (.lst xs) i = L2.atI xs i := rfl
@[simp] theorem r_ix_s (xs : List D) (i : Int) : ixD (.scr xs) i = L2.atI xs i := rfl
@[simp] theorem r_at0 {α : Type} (x : α) (r : List α) : L2.atI (x :: r) 0 = some x := L2.atI_nat (j := 0) rfl
@[simp] theorem r_at1 {α : Type} (x y : α) (r : List α) : L2.atI (x :: y :: r) 1 = some y := L2.atI_nat (j := 1) rfl
@[simp] theorem r_at2 {α : Type} (x y z : α) (r : List α) : L2.atI (x :: y :: z :: r) 2 = some z := L2.atI_nat (j := 2) rfl
@[simp] theorem r_at3 {α : Type} (x y z u : α) (r : List α) : L2.atI (x :: y :: z :: u :: r) 3 = some u := L2.atI_nat (j := 3) rfl
/-! isinstance -/
theorem mem_ty : ("int" ∈ tyNames) = True ∧ ("bool" ∈ tyNames) = True ∧ ("str" ∈ tyNames) = True ∧ ("list" ∈ tyNames) = True ∧ ("tuple" ∈ tyNames) = True ∧ ("dict" ∈ tyNames) = True ∧ ("NoneType" ∈ tyNames) = True := by simp [tyNames]
@[simp] theorem r_isi_int_int (cs : List String) (i : Int) : bIsi cs [.int i, .ty "int"] = some (.bl true) := by simp [bIsi, tyOfD, tyD, isOne, mem_ty, isTy]
@[simp] theorem r_isi_int_bool (cs : List String) (i : Int) : bIsi cs [.int i, .ty "bool"] = some (.bl false) := by simp [bIsi, tyOfD, tyD, isOne, mem_ty, isTy]
@[simp] theorem r_isi_ins_cls (cs : List String) (c : String) (fs : List (Nm × D)) (c' : String) (h : c ∈ cs := by simp) (h' : c' ∈ cs := by simp) : bIsi cs [.ins c fs, .cls c'] = some (.bl (c == c')) := by simp [bIsi, tyOfD, isOne, h, h']
@[simp] theorem r_isi_int_cls (cs : List String) (i : Int) (c' : String) (h' : c' ∈ cs := by simp) : bIsi cs [.int i, .cls c'] = some (.bl false) := by simp [bIsi, tyOfD, tyD, isOne, h', mem_ty]
@[simp] theorem r_isi_non_cls (cs : List String) (c' : String) (h' : c' ∈ cs := by simp) : bIsi cs [.non, .cls c'] = some (.bl false) := by simp [bIsi, tyOfD, tyD, isOne, h', mem_ty]
end
/-! ### bits -/
class Bd (x : Int) (n : outParam Nat) : Prop where
  lt : x.natAbs < 2 ^ n
theorem Bd.le {x : Int} {n m : Nat} (h : Bd x n) (hnm : n ≤ m) : Bd x m := ⟨Nat.lt_of_lt_of_le h.lt (Nat.pow_le_pow_right (by decide) hnm)⟩
instance bd_add {x y : Int} {m n : Nat} [h : Bd x m] [k : Bd y n] : Bd (x + y) (m + n + 1) := ⟨by
  have h1 := h.lt
  have h2 := k.lt
  have h3 : (2 : Nat) ^ m ≤ 2 ^ (m + n) := Nat.pow_le_pow_right (by decide) (by omega)
  have h4 : (2 : Nat) ^ n ≤ 2 ^ (m + n) := Nat.pow_le_pow_right (by decide) (by omega)
  have h5 : (2 : Nat) ^ (m + n + 1) = 2 ^ (m + n) * 2 := Nat.pow_succ ..
  omega⟩
instance bd_neg {x : Int} {m : Nat} [h : Bd x m] : Bd (-x) m := ⟨by rw [Int.natAbs_neg]; exact h.lt⟩
instance bd_sub {x y : Int} {m n : Nat} [h : Bd x m] [k : Bd y n] : Bd (x - y) (m + n + 1) := by
  rw [Int.sub_eq_add_neg]; exact bd_add
instance bd_mul {x y : Int} {m n : Nat} [h : Bd x m] [k : Bd y n] : Bd (x * y) (m + n) := ⟨by
  rw [Int.natAbs_mul, Nat.pow_add]
  exact Nat.mul_lt_mul'' h.lt k.lt⟩
instance bd_0 : Bd 0 0 := ⟨by decide⟩
instance bd_1 : Bd 1 1 := ⟨by decide⟩
theorem log2_lt {x : Int} {n : Nat} (h : Bd x n) : x.natAbs.log2 ≤ n := by
  have := h.lt
  by_cases e : x.natAbs = 0
  · rw [e]; simp
  · exact Nat.le_of_lt ((Nat.log2_lt e).mpr this)
theorem mulOk_of {x y : Int} {m n : Nat} (h : Bd x m) (k : Bd y n) (hl : m + n < 100000000) : mulOk x y = true := by
  unfold mulOk
  have h1 := log2_lt h
  have h2 := log2_lt k
  exact decide_eq_true (by omega)
@[simp] theorem mulOk_bd {x y : Int} {m n : Nat} [h : Bd x m] [k : Bd y n] (hl : m + n < 100000000) : mulOk x y = true := mulOk_of h k hl
theorem divOk_of {y : Int} {n : Nat} (k : Bd y n) (h0 : y ≠ 0) (hl : n < 9000) : divOk y = true := by
  unfold divOk
  exact decide_eq_true ⟨h0, Nat.lt_of_le_of_lt (log2_lt k) hl⟩
@[simp] theorem divOk_bd {y : Int} {n : Nat} [k : Bd y n] (h0 : y ≠ 0) (hl : n < 9000) : divOk y = true := divOk_of k h0 hl
@[simp] theorem divOk_2 : divOk 2 = true := by decide
end DL
set_option maxRecDepth 100000
set_option maxHeartbeats 4000000
set_option autoImplicit false
namespace DL
@[simp] theorem r_eDGet (fo fi : DE) (s : DS) : eDGet fo fi s = (fo s).bind fun d s1 => (fi s1).bind fun k s2 => match dictOf d s2, kOf k with
  | some kvs, some k => match dLook kvs k with
    | some x => .ok x s2
    | none => .stuck
  | _, _ => .stuck := rfl
@[simp] theorem r_dictOf_c (n : Nat) (sl : List Sl) (st : List Cell) : dictOf (.cell n) ⟨sl, st⟩ = match st[n]? with | some (.dic kvs) => some kvs | _ => none := rfl
@[simp] theorem r_dictOf_d (kvs : List (DK × D)) (s : DS) : dictOf (.dic kvs) s = some kvs := rfl
@[simp] theorem r_kOf_s (l : List Nat) : kOf (.str l) = some (.s l) := rfl
@[simp] theorem r_kOf_i (l : Int) : kOf (.int l) = some (.i l) := rfl
@[simp] theorem r_sDPutC (fo fi fv : DE) (s : DS) : sDPutC fo fi fv s = (fv s).bind fun x s1 => (fo s1).bind fun d s2 => (fi s2).bind fun k s3 => match d, kOf k with
  | .cell n, some k => match s3.st[n]? with
    | some (.dic kvs) => if kvs.length < 1000000 ∧ keysNd kvs = true then .ok .nx ⟨s3.sl, s3.st.set n (.dic (dPut kvs k x))⟩ else .stuck
    | _ => .stuck
  | _, _ => .stuck := rfl
@[simp] theorem r_eCellD (f : DD) (s : DS) : eCellD f s = (f s).bind fun xs s1 => .ok (.cell s1.st.length) ⟨s1.sl, s1.st ++ [.dic xs]⟩ := rfl
@[simp] theorem r_dDisp (fs : List (DE × DE)) (s : DS) : dDisp fs s = (pairsD fs s).bind fun ps s1 => match keyed ps with
  | some kvs => if kvs.length ≤ 15 ∧ keysNd kvs = true then .ok kvs s1 else .stuck
  | none => .stuck := rfl
@[simp] theorem r_pairs_nil (s : DS) : pairsD [] s = .ok [] s := rfl
@[simp] theorem r_pairs_cons (fk fv : DE) (r : List (DE × DE)) (s : DS) : pairsD ((fk, fv) :: r) s = (fk s).bind fun k s1 => (fv s1).bind fun x s2 => (pairsD r s2).bind fun ps s3 => .ok ((k, x) :: ps) s3 := rfl
@[simp] theorem r_keyed_nil : keyed [] = some [] := rfl
@[simp] theorem r_keyed_cons (k x : D) (r : List (D × D)) : keyed ((k, x) :: r) = match kOf k, keyed r with
    | some k, some r => some ((k, x) :: r)
    | _, _ => none := rfl
@[simp] theorem r_itR1 (f : DA) (s : DS) : itR1 f s = (f s).bind fun ds s1 => match ds with
  | [.int j] => if -(2 ^ 62) ≤ j ∧ j < 2 ^ 62 then .ok (rngL 0 j.toNat) s1 else .stuck
  | _ => .stuck := rfl
@[simp] theorem r_itEnum_l (f : DA) (s : DS) : itEnum f s = (f s).bind fun ds s1 => match ds with
  | [.lst xs] => .ok (enumL xs) s1
  | [.scr xs] => .ok (enumL xs) s1
  | _ => .stuck := rfl
@[simp] theorem r_itZip (f : DA) (s : DS) : itZip f s = (f s).bind fun ds s1 => match ds with
  | [.lst xs, .lst ys] => .ok (zipL xs ys) s1
  | [.tup xs, .tup ys] => .ok (zipL xs ys) s1
  | _ => .stuck := rfl
@[simp] theorem r_aLc (vs : List Nat) (it : DA) (g : DG) (t : DT) (e : DE) (s : DS) : aLc vs it g t e s = (it s).bind fun items s1 => (noX (lcL vs g t e items [] s1)).bind fun ys s2 => .ok ys ⟨unwipe vs s1.sl (wipeD vs s2.sl), s2.st⟩ := rfl
@[simp] theorem r_lc_nil (vs : List Nat) (g : DG) (t : DT) (e : DE) (acc : List D) (s : DS) : lcL vs g t e [] acc s = .ok acc s := rfl
@[simp] theorem r_lc_cons (vs : List Nat) (g : DG) (t : DT) (e : DE) (d : D) (r acc : List D) (s : DS) : lcL vs g t e (d :: r) acc s = (noX (g d (wipeS vs s))).bind fun _ s1 => (noX (t s1)).bind fun b s2 => if b = true then (noX (e s2)).bind fun y s3 => if acc.length < 1000000 then lcL vs g t e r (acc ++ [y]) s3 else .stuck
    else lcL vs g t e r acc s2 := rfl
@[simp] theorem r_wipe_nil (l : List Sl) : wipeD [] l = l := rfl
@[simp] theorem r_wipe_cons (v : Nat) (vs : List Nat) (l : List Sl) : wipeD (v :: vs) l = (wipeD vs l).set v .un := rfl
@[simp] theorem r_wipeS (vs : List Nat) (s : DS) : wipeS vs s = ⟨wipeD vs s.sl, s.st⟩ := rfl
@[simp] theorem r_unw_nil (o l : List Sl) : unwipe [] o l = l := rfl
@[simp] theorem r_unw_cons (v : Nat) (vs : List Nat) (o l : List Sl) : unwipe (v :: vs) o l = (unwipe vs o l).set v (match o[v]? with | some (.val d) => .val d | _ => .un) := rfl
@[simp] theorem r_sApp (i : Nat) (fa : DA) (s : DS) : sApp i fa s = match s.sl[i]? with
  | some (.ol _) => (fa s).bind fun ds s1 => match ds, s1.sl[i]? with
    | [d], some (.ol xs) => if xs.length < 1000000 then .ok .nx ⟨s1.sl.set i (.ol (xs ++ [d])), s1.st⟩ else .stuck
    | _, _ => .stuck
  | _ => .stuck := rfl
/-! data equality -/
open PySem in
theorem pys_ints (ns : List Int) : toPys (ns.map D.int) = some (ns.map PyData.int) := by
  induction ns with
  | nil => rfl
  | cons a r ih => simp [toPys, toPy, ih]
open PySem in
theorem can_ints (ns : List Int) : PyData.canLayAll0 (ns.map PyData.int) = true := by
  induction ns with
  | nil => rfl
  | cons a r ih => simp [PyData.canLayAll0, PyData.canLay0, ih]
open PySem in
theorem dep_ints (ns : List Int) : PyData.depthAll (ns.map PyData.int) = 0 := by
  induction ns with
  | nil => rfl
  | cons a r ih => simp [PyData.depthAll, PyData.depth, ih]
open PySem in
@[simp] theorem r_ne_nil (ns : List Int) : dNe (.lst (ns.map D.int)) (.lst []) = some (.bl (!ns.isEmpty)) := by
  cases ns with
  | nil => simp [dNe, toPy, toPys, SeqAt.shaped, PyData.canLay0, PyData.depth, PyData.depthAll, PyData.eqv, PyData.eqvAll, PyData.canLayAll0]
  | cons a r => simp [dNe, toPy, toPys, pys_ints, can_ints, dep_ints, SeqAt.shaped, PyData.canLay0, PyData.depth, PyData.depthAll, PyData.eqv, PyData.eqvAll, PyData.canLayAll0]
@[simp] theorem r_ne_nil0 : dNe (.lst []) (.lst []) = some (.bl false) := r_ne_nil []
/-! the draw pen -/
abbrev penD (cs : List Int) (c l : Int) : List (DK × D) := [(.s [99, 101, 108, 108, 115], .lst (cs.map D.int)), (.s [99, 111, 117, 110, 116], .int c), (.s [108, 101, 102, 116], .int l)]
def Pen (n : Nat) (S : List Cell) : Prop := ∃ cs c l, S = [.dic (penD cs c l)] ∧ 0 ≤ c ∧ c ≤ n ∧ 0 ≤ l
theorem Pen.mono {n m : Nat} {S : List Cell} (h : Pen n S) (hm : n ≤ m) : Pen m S := by
  obtain ⟨cs, c, l, h1, h2, h3, h4⟩ := h
  exact ⟨cs, c, l, h1, h2, by omega, h4⟩
theorem ix_mod (cs : List Int) (c : Int) (h : cs ≠ []) : ∃ x : Int, L2.atI (cs.map D.int) (c.fmod cs.length) = some (.int x) := by
  have hp : (0 : Int) < cs.length := by
    cases cs with
    | nil => exact absurd rfl h
    | cons a r => simp
  have h1 : 0 ≤ c.fmod cs.length := Int.fmod_nonneg_of_pos _ hp
  have h2 : c.fmod cs.length < cs.length := Int.fmod_lt_of_pos _ hp
  obtain ⟨k, hk⟩ := Int.eq_ofNat_of_zero_le h1
  rw [hk] at h2 ⊢
  have h3 : k < cs.length := by omega
  refine ⟨cs[k], ?_⟩
  have : (cs.map D.int)[k]? = some (D.int cs[k]) := by simp [h3]
  exact L2.atI_nat this
theorem Bd.of_range {x : Int} {m n : Nat} (h0 : 0 ≤ x) (h1 : x < m) (h : m ≤ 2 ^ n) : Bd x n := ⟨by omega⟩
end DL
set_option maxRecDepth 100000
set_option maxHeartbeats 4000000
set_option autoImplicit false
namespace DL
/-! more bounds -/
instance bd_half {x : Int} {n : Nat} [h : Bd x n] : Bd (x.fdiv 2) n := ⟨by
  have := h.lt
  rw [Int.fdiv_eq_ediv_of_nonneg _ (by decide)]
  omega⟩
instance bd_abs {x : Int} {n : Nat} [h : Bd x n] : Bd (if x < 0 then -x else x) n := ⟨by
  have := h.lt
  split
  · rw [Int.natAbs_neg]; exact this
  · exact this⟩
instance bd_ite {c : Prop} [Decidable c] {x y : Int} {m n : Nat} [h : Bd x m] [k : Bd y n] : Bd (if c then x else y) (m + n) := ⟨by
  split
  · exact Nat.lt_of_lt_of_le h.lt (Nat.pow_le_pow_right (by decide) (by omega))
  · exact Nat.lt_of_lt_of_le k.lt (Nat.pow_le_pow_right (by decide) (by omega))⟩
theorem Bd.of_le {x : Int} {y : Int} {n : Nat} (k : Bd y n) (h0 : 0 ≤ x) (h : x ≤ y) : Bd x n := ⟨by have := k.lt; omega⟩
theorem fdiv_le_abs (x y : Int) : (x.fdiv y).natAbs ≤ x.natAbs + 1 := by
  by_cases hy : y = 0
  · subst hy; simp
  have key : ∀ x y : Int, 0 < y → (x.fdiv y).natAbs ≤ x.natAbs + 1 := fun x y hy => by
    have h1 : y * x.fdiv y + x.fmod y = x := Int.mul_fdiv_add_fmod x y
    have h2 : 0 ≤ x.fmod y := Int.fmod_nonneg_of_pos _ hy
    have h3 : x.fmod y < y := Int.fmod_lt_of_pos _ hy
    generalize x.fdiv y = q at *
    by_cases c : 0 ≤ q
    · have := Int.mul_nonneg (show 0 ≤ y - 1 by omega) c
      rw [Int.sub_mul] at this
      omega
    · have := Int.mul_nonneg (show 0 ≤ y - 1 by omega) (show 0 ≤ -q - 1 by omega)
      rw [show (y - 1) * (-q - 1) = -(y * q) - y + q + 1 by grind] at this
      omega
  by_cases c : 0 < y
  · exact key x y c
  · have h := key (-x) (-y) (by omega)
    rw [show (-x).fdiv (-y) = x.fdiv y from Int.neg_fdiv_neg x y, Int.natAbs_neg] at h
    exact h
instance bd_fdiv {x y : Int} {n : Nat} [h : Bd x n] : Bd (x.fdiv y) (n + 1) := ⟨by
  have h1 := h.lt
  have h2 := fdiv_le_abs x y
  have h3 : (2 : Nat) ^ (n + 1) = 2 ^ n * 2 := Nat.pow_succ ..
  have h4 : 1 ≤ (2 : Nat) ^ n := Nat.one_le_two_pow
  omega⟩
/-! readings of DLu -/
@[simp] theorem r_eBits (f : DE) (s : DS) : eBits f s = (f s).bind fun d s1 => match d with | .int i => .ok (.int (PySem.Builtin.Int.intBits i : Nat)) s1 | _ => .stuck := rfl
@[simp] theorem r_sRaise (c : String) (f : Nm) (fa : DA) (s : DS) : sRaise c f fa s = (fa s).bind fun ds s1 => match ds with | [d] => .exc ⟨c, [(f, d)]⟩ s1 | _ => .stuck := rfl
@[simp] theorem r_iShl (i j : Int) : iShl (.int i) (.int j) = if 0 ≤ j ∧ j ≤ 1000000 ∧ i.natAbs < 2 ^ 64 then some (.int (i * 2 ^ j.toNat)) else none := rfl
@[simp] theorem r_inS (neg : Bool) (c : Nat) (l : Nm) : dIn neg (.str [c]) (.str l) = some (.bl (if neg then !decide (c ∈ l) else decide (c ∈ l))) := rfl
@[simp] theorem r_lo_exc (x : Xc) (s : DS) (k : DS → Res DS Out) : loopOut (.exc x s) k = .exc x s := rfl
/-! + and * of sequences -/
@[simp] theorem r_dAdd_ll (xs ys : List D) : dAdd (.lst xs) (.lst ys) = lAdd (.lst xs) (.lst ys) := rfl
@[simp] theorem r_lAdd_ll (xs ys : List D) : lAdd (.lst xs) (.lst ys) = if xs.length + ys.length ≤ 1000000 then some (.lst (xs ++ ys)) else none := rfl
/-! loops -/
theorem forL_inv {g : DG} {b : DStm} {items : List D} (P : Nat → DS → Prop) (step : ∀ (i : Nat) (d : D) (s : DS), items[i]? = some d → P i s → ∃ s1 s2, g d s = .ok () s1 ∧ (b s1 = .ok .nx s2 ∨ b s1 = .ok .ct s2) ∧ P (i + 1) s2) :
    ∀ (l : List D) (i : Nat) (s : DS), (∀ j, l[j]? = items[i + j]?) → P i s → ∃ s', forL g b l s = .ok .nx s' ∧ P (i + l.length) s'
  | [], i, s, h, hp => ⟨s, rfl, hp⟩
  | d :: l, i, s, h, hp => by
    have h0 := h 0
    simp only [List.getElem?_cons_zero, Nat.add_zero] at h0
    obtain ⟨s1, s2, e1, e2, hp2⟩ := step i d s h0.symm hp
    obtain ⟨s', e3, hp3⟩ := forL_inv P step l (i + 1) s2 (fun j => by
      have := h (j + 1)
      rw [List.getElem?_cons_succ] at this
      rw [this]
      congr 1
      omega) hp2
    refine ⟨s', ?_, by rw [show i + (d :: l).length = i + 1 + l.length by simp; omega]; exact hp3⟩
    rw [r_for_cons, e1]
    rcases e2 with e2 | e2 <;> simp [e2, e3]
theorem for_inv {g : DG} {b : DStm} {items : List D} {s : DS} (P : Nat → DS → Prop) (h0 : P 0 s) (step : ∀ (i : Nat) (d : D) (s : DS), items[i]? = some d → P i s → ∃ s1 s2, g d s = .ok () s1 ∧ (b s1 = .ok .nx s2 ∨ b s1 = .ok .ct s2) ∧ P (i + 1) s2) :
    ∃ s', forL g b items s = .ok .nx s' ∧ P items.length s' := by
  obtain ⟨s', e, hp⟩ := forL_inv P step items 0 s (fun j => by simp) h0
  exact ⟨s', e, by simpa using hp⟩
@[simp] theorem rngL_len (lo : Int) (n : Nat) : (rngL lo n).length = n := by simp [rngL]
theorem rngL_get {lo : Int} {n i : Nat} {d : D} (h : (rngL lo n)[i]? = some d) : i < n ∧ d = .int (lo + i) := by
  unfold rngL at h
  rw [List.getElem?_map] at h
  cases e : (List.range n)[i]? with
  | none => rw [e] at h; cases h
  | some k =>
    rw [e] at h
    cases h
    have hi : i < n := by simpa using (List.getElem?_eq_some_iff.mp e).1
    rw [List.getElem?_range hi] at e
    cases e
    exact ⟨hi, rfl⟩
end DL
set_option maxRecDepth 100000
set_option maxHeartbeats 4000000
set_option autoImplicit false
namespace DL
open PySem
/-! ### == of plain data, by data alone -/
mutual
def plD : D → Bool
  | .non => true
  | .bl _ => true
  | .int _ => true
  | .str l => l.all (· < 0x110000)
  | .tup xs => plDs xs
  | .lst xs => plDs xs
  | .scr xs => plDs xs
  | _ => false
def plDs : List D → Bool
  | [] => true
  | x :: r => plD x && plDs r
end
mutual
def dpD : D → Nat
  | .tup xs => dpDs xs + 1
  | .lst xs => dpDs xs + 1
  | .scr xs => dpDs xs + 1
  | _ => 0
def dpDs : List D → Nat
  | [] => 0
  | x :: r => max (dpD x) (dpDs r)
end
mutual
def eqPl : D → D → Bool
  | .non, .non => true
  | .bl a, .bl b => a == b
  | .bl a, .int j => decide ((if a then (1 : Int) else 0) = j)
  | .int i, .bl b => decide (i = if b then (1 : Int) else 0)
  | .int i, .int j => decide (i = j)
  | .str a, .str b => decide (a = b)
  | .tup xs, .tup ys => eqPls xs ys
  | .lst xs, .lst ys => eqPls xs ys
  | .scr xs, .lst ys => eqPls xs ys
  | .lst xs, .scr ys => eqPls xs ys
  | .scr xs, .scr ys => eqPls xs ys
  | _, _ => false
def eqPls : List D → List D → Bool
  | [], [] => true
  | x :: xs, y :: ys => eqPl x y && eqPls xs ys
  | _, _ => false
end
theorem strOk_nm (l : Nm) : PyData.strOk (nm l) = l.all (· < 0x110000) := by simp [PyData.strOk, nm]
mutual
theorem toPy_pl : ∀ d : D, plD d = true → ∃ p, toPy d = some p ∧ p.canLay0 = true ∧ p.depth = dpD d
  | .non, _ => ⟨.none, rfl, rfl, rfl⟩
  | .bl b, _ => ⟨.bool b, rfl, rfl, rfl⟩
  | .int i, _ => ⟨.int i, rfl, rfl, rfl⟩
  | .str l, h => ⟨.str (nm l), rfl, by simp only [plD] at h; simp only [PyData.canLay0, strOk_nm]; exact h, rfl⟩
  | .tup xs, h => by
    obtain ⟨ps, h1, h2, h3⟩ := toPys_pl xs h
    exact ⟨.tuple ps, by simp [toPy, h1], h2, by simp [PyData.depth, dpD, h3]⟩
  | .lst xs, h => by
    obtain ⟨ps, h1, h2, h3⟩ := toPys_pl xs h
    exact ⟨.list ps, by simp [toPy, h1], h2, by simp [PyData.depth, dpD, h3]⟩
  | .scr xs, h => by
    obtain ⟨ps, h1, h2, h3⟩ := toPys_pl xs h
    exact ⟨.list ps, by simp [toPy, h1], h2, by simp [PyData.depth, dpD, h3]⟩
  | .dic _, h => by simp [plD] at h
  | .ins _ _, h => by simp [plD] at h
  | .cell _, h => by simp [plD] at h
  | .cls _, h => by simp [plD] at h
  | .ty _, h => by simp [plD] at h
  | .fn _, h => by simp [plD] at h
  | .lam _, h => by simp [plD] at h
theorem toPys_pl : ∀ ds : List D, plDs ds = true → ∃ ps, toPys ds = some ps ∧ PyData.canLayAll0 ps = true ∧ PyData.depthAll ps = dpDs ds
  | [], _ => ⟨[], rfl, rfl, rfl⟩
  | d :: r, h => by
    simp only [plDs, Bool.and_eq_true] at h
    obtain ⟨p, h1, h2, h3⟩ := toPy_pl d h.1
    obtain ⟨ps, h4, h5, h6⟩ := toPys_pl r h.2
    exact ⟨p :: ps, by simp [toPys, h1, h4], by simp [PyData.canLayAll0, h2, h5], by simp [PyData.depthAll, dpDs, h3, h6]⟩
end
theorem nm_beq (a b : Nm) : (nm a == nm b) = decide (a = b) := by
  by_cases e : a = b
  · subst e; simp
  · rw [beq_eq_false_iff_ne.mpr fun z => e (nm_inj z)]; simp [e]
theorem dec_beq (a b : Int) : (a == b) = decide (a = b) := by simp [Bool.beq_eq_decide_eq]
mutual
theorem eqv_pl : ∀ (x y : D) (p q : PyData), toPy x = some p → toPy y = some q → PyData.eqv p q = eqPl x y := by
  intro x y p q h1 h2
  cases x <;> cases y <;> first
    | (simp [toPy] at h1; done)
    | (simp [toPy] at h2; done)
    | (simp only [toPy, Option.some.injEq] at h1 h2; subst h1; subst h2; first | rfl | exact dec_beq _ _ | exact nm_beq _ _ | (simp [PyData.eqv, eqPl]; done))
    | (simp only [toPy, Option.map_eq_some_iff, Option.some.injEq] at h1 h2
       first
         | (obtain ⟨ps, e1, rfl⟩ := h1; obtain ⟨qs, e2, rfl⟩ := h2; first | exact eqvs_pl _ _ _ _ e1 e2 | rfl)
         | (obtain ⟨ps, e1, rfl⟩ := h1; subst h2; rfl)
         | (obtain ⟨qs, e2, rfl⟩ := h2; subst h1; rfl))
theorem eqvs_pl : ∀ (xs ys : List D) (ps qs : List PyData), toPys xs = some ps → toPys ys = some qs → PyData.eqvAll ps qs = eqPls xs ys
  | [], [], ps, qs, h1, h2 => by cases h1; cases h2; rfl
  | [], y :: ys, ps, qs, h1, h2 => by
    cases h1
    simp only [toPys, Option.bind_eq_some_iff, Option.map_eq_some_iff] at h2
    obtain ⟨p, _, q, _, rfl⟩ := h2
    rfl
  | x :: xs, [], ps, qs, h1, h2 => by
    cases h2
    simp only [toPys, Option.bind_eq_some_iff, Option.map_eq_some_iff] at h1
    obtain ⟨p, _, q, _, rfl⟩ := h1
    rfl
  | x :: xs, y :: ys, ps, qs, h1, h2 => by
    simp only [toPys, Option.bind_eq_some_iff, Option.map_eq_some_iff] at h1 h2
    obtain ⟨p, e1, q, e2, rfl⟩ := h1
    obtain ⟨p', e3, q', e4, rfl⟩ := h2
    simp only [PyData.eqvAll, eqPls, eqv_pl x y p p' e1 e3, eqvs_pl xs ys q q' e2 e4]
end
def plOk (d : D) : Prop := plD d = true ∧ dpD d ≤ 64
theorem dEq_pl (x y : D) (h : plOk x) (k : plOk y) : dEq x y = some (.bl (eqPl x y)) := by
  obtain ⟨p, a1, a2, a3⟩ := toPy_pl x h.1
  obtain ⟨q, b1, b2, b3⟩ := toPy_pl y k.1
  have s1 : SeqAt.shaped p = true := by
    unfold SeqAt.shaped
    rw [a2, a3]
    simp [h.2]
  have s2 : SeqAt.shaped q = true := by
    unfold SeqAt.shaped
    rw [b2, b3]
    simp [k.2]
  unfold dEq
  rw [a1, b1]
  simp only [s1, s2, Bool.and_self, if_true, eqv_pl x y p q a1 b1]
theorem dNe_pl (x y : D) (h : plOk x) (k : plOk y) : dNe x y = some (.bl (!eqPl x y)) := by
  obtain ⟨p, a1, a2, a3⟩ := toPy_pl x h.1
  obtain ⟨q, b1, b2, b3⟩ := toPy_pl y k.1
  have s1 : SeqAt.shaped p = true := by
    unfold SeqAt.shaped
    rw [a2, a3]
    simp [h.2]
  have s2 : SeqAt.shaped q = true := by
    unfold SeqAt.shaped
    rw [b2, b3]
    simp [k.2]
  unfold dNe
  rw [a1, b1]
  simp only [s1, s2, Bool.and_self, if_true, eqv_pl x y p q a1 b1]
@[simp] theorem pl_non : plOk .non := ⟨rfl, by simp [dpD]⟩
@[simp] theorem pl_bl (b : Bool) : plOk (.bl b) := ⟨rfl, by simp [dpD]⟩
@[simp] theorem pl_int (i : Int) : plOk (.int i) := ⟨rfl, by simp [dpD]⟩
theorem pl_str (l : Nm) (h : l.all (· < 0x110000) = true) : plOk (.str l) := ⟨h, by simp [dpD]⟩
/-- flat items -/
def plF (d : D) : Prop := plD d = true ∧ dpD d ≤ 60
def plFs (ds : List D) : Prop := plDs ds = true ∧ dpDs ds ≤ 60
@[simp] theorem plFs_nil : plFs [] ↔ True := by simp [plFs, plDs, dpDs]
@[simp] theorem plFs_cons (d : D) (r : List D) : plFs (d :: r) ↔ plF d ∧ plFs r := by
  simp only [plFs, plF, plDs, dpDs, Bool.and_eq_true, Nat.max_le]
  constructor <;> intro h <;> simp [h]
@[simp] theorem plF_non : plF .non ↔ True := by simp [plF, plD, dpD]
@[simp] theorem plF_bl (b : Bool) : plF (.bl b) ↔ True := by simp [plF, plD, dpD]
@[simp] theorem plF_int (i : Int) : plF (.int i) ↔ True := by simp [plF, plD, dpD]
@[simp] theorem plF_str (l : Nm) : plF (.str l) ↔ l.all (· < 0x110000) = true := by simp [plF, plD, dpD]
theorem pl_tup (xs : List D) (h : plFs xs) : plOk (.tup xs) := ⟨h.1, by have := h.2; simp only [dpD]; omega⟩
theorem pl_lst (xs : List D) (h : plFs xs) : plOk (.lst xs) := ⟨h.1, by have := h.2; simp only [dpD]; omega⟩
theorem plF.ok {d : D} (h : plF d) : plOk d := ⟨h.1, by have := h.2; omega⟩
@[simp] theorem dEq_tt (xs ys : List D) (h : plFs xs) (k : plFs ys) : dEq (.tup xs) (.tup ys) = some (.bl (eqPls xs ys)) := dEq_pl _ _ (pl_tup _ h) (pl_tup _ k)
@[simp] theorem dNe_tt (xs ys : List D) (h : plFs xs) (k : plFs ys) : dNe (.tup xs) (.tup ys) = some (.bl (!eqPls xs ys)) := dNe_pl _ _ (pl_tup _ h) (pl_tup _ k)
@[simp] theorem dEq_ll (xs ys : List D) (h : plFs xs) (k : plFs ys) : dEq (.lst xs) (.lst ys) = some (.bl (eqPls xs ys)) := dEq_pl _ _ (pl_lst _ h) (pl_lst _ k)
@[simp] theorem dNe_ll (xs ys : List D) (h : plFs xs) (k : plFs ys) : dNe (.lst xs) (.lst ys) = some (.bl (!eqPls xs ys)) := dNe_pl _ _ (pl_lst _ h) (pl_lst _ k)
@[simp] theorem dEq_ss (a b : Nm) (h : a.all (· < 0x110000) = true) (k : b.all (· < 0x110000) = true) : dEq (.str a) (.str b) = some (.bl (decide (a = b))) := dEq_pl _ _ (pl_str _ h) (pl_str _ k)
@[simp] theorem dNe_ss (a b : Nm) (h : a.all (· < 0x110000) = true) (k : b.all (· < 0x110000) = true) : dNe (.str a) (.str b) = some (.bl (!decide (a = b))) := dNe_pl _ _ (pl_str _ h) (pl_str _ k)
@[simp] theorem dEq_nt (xs : List D) (h : plFs xs) : dEq .non (.tup xs) = some (.bl false) := dEq_pl _ _ pl_non (pl_tup _ h)
@[simp] theorem dEq_tn (xs : List D) (h : plFs xs) : dEq (.tup xs) .non = some (.bl false) := dEq_pl _ _ (pl_tup _ h) pl_non
@[simp] theorem dNe_nt (xs : List D) (h : plFs xs) : dNe .non (.tup xs) = some (.bl true) := dNe_pl _ _ pl_non (pl_tup _ h)
@[simp] theorem dNe_tn (xs : List D) (h : plFs xs) : dNe (.tup xs) .non = some (.bl true) := dNe_pl _ _ (pl_tup _ h) pl_non
@[simp] theorem dEq_nn : dEq .non .non = some (.bl true) := dEq_pl _ _ pl_non pl_non
@[simp] theorem dNe_nn : dNe .non .non = some (.bl false) := dNe_pl _ _ pl_non pl_non
@[simp] theorem eqPls_nil : eqPls [] [] = true := by simp [eqPls]
@[simp] theorem eqPls_cons (x y : D) (xs ys : List D) : eqPls (x :: xs) (y :: ys) = (eqPl x y && eqPls xs ys) := by simp [eqPls]
@[simp] theorem eqPls_nc (y : D) (ys : List D) : eqPls [] (y :: ys) = false := by simp [eqPls]
@[simp] theorem eqPls_cn (y : D) (ys : List D) : eqPls (y :: ys) [] = false := by simp [eqPls]
@[simp] theorem eqPl_int (i j : Int) : eqPl (.int i) (.int j) = decide (i = j) := by simp [eqPl]
@[simp] theorem eqPl_str (i j : Nm) : eqPl (.str i) (.str j) = decide (i = j) := by simp [eqPl]
@[simp] theorem eqPl_tup (i j : List D) : eqPl (.tup i) (.tup j) = eqPls i j := by simp [eqPl]
@[simp] theorem eqPl_lst (i j : List D) : eqPl (.lst i) (.lst j) = eqPls i j := by simp [eqPl]
@[simp] theorem eqPl_nn : eqPl .non .non = true := by simp [eqPl]
@[simp] theorem eqPl_bb (a b : Bool) : eqPl (.bl a) (.bl b) = (a == b) := by simp [eqPl]
mutual
theorem eqPl_refl : ∀ d : D, plD d = true → eqPl d d = true
  | .non, _ => by simp
  | .bl b, _ => by simp
  | .int i, _ => by simp
  | .str l, _ => by simp
  | .tup xs, h => by simp only [eqPl]; exact eqPls_refl xs h
  | .lst xs, h => by simp only [eqPl]; exact eqPls_refl xs h
  | .scr xs, h => by simp only [eqPl]; exact eqPls_refl xs h
  | .dic _, h => by simp [plD] at h
  | .ins _ _, h => by simp [plD] at h
  | .cell _, h => by simp [plD] at h
  | .cls _, h => by simp [plD] at h
  | .ty _, h => by simp [plD] at h
  | .fn _, h => by simp [plD] at h
  | .lam _, h => by simp [plD] at h
theorem eqPls_refl : ∀ ds : List D, plDs ds = true → eqPls ds ds = true
  | [], _ => by simp
  | d :: r, h => by
    simp only [plDs, Bool.and_eq_true] at h
    simp only [eqPls, eqPl_refl d h.1, eqPls_refl r h.2, Bool.and_self]
end
end DL
set_option maxRecDepth 100000
set_option maxHeartbeats 4000000
set_option autoImplicit false
namespace DL
/-! ### readings of DLk -/
@[simp] theorem r_eIxO (i : Nat) (fb : DE) (s : DS) : eIxO i fb s = match s.sl[i]? with
  | some (.ol _) => (fb s).bind fun y s1 => match y, s1.sl[i]? with
    | .int k, some (.ol xs) => (match L2.atI xs k with | some d => .ok d s1 | none => .stuck)
    | _, _ => .stuck
  | some (.val x) => (fb s).bind fun y s1 => match y with
    | .int k => (match ixD x k with | some d => .ok d s1 | none => .stuck)
    | _ => .stuck
  | _ => .stuck := rfl
@[simp] theorem r_eTruO (i : Nat) (s : DS) : eTruO i s = match s.sl[i]? with
  | some (.ol xs) => .ok (!xs.isEmpty) s
  | some (.val d) => (match truD d with | some b => .ok b s | none => .stuck)
  | _ => .stuck := rfl
@[simp] theorem r_sIxO (i : Nat) (fi fv : DE) (s : DS) : sIxO i fi fv s = (fv s).bind fun d s1 => match s1.sl[i]? with
  | some (.ol _) => (fi s1).bind fun y s2 => match y, s2.sl[i]? with
    | .int k, some (.ol xs) => (match L2.ixN xs.length k with | some j => .ok .nx ⟨s2.sl.set i (.ol (xs.set j d)), s2.st⟩ | none => .stuck)
    | _, _ => .stuck
  | _ => .stuck := rfl
@[simp] theorem r_eProp (c : String) (g : DFn) (f : DE) (s : DS) : eProp c g f s = (f s).bind fun d s1 => match insOf d s1 with
  | some (c1, _) => if c1 = c then noX (lift s1 (g [d] s1.st)) else .stuck
  | none => .stuck := rfl
@[simp] theorem r_eChain (o o' : D → D → Option D) (fa fb fc : DE) (s : DS) : eChain o o' fa fb fc s = (fa s).bind fun x s1 => (fb s1).bind fun y s2 => match o x y with
  | some (.bl true) => (fc s2).bind fun z s3 => match o' y z with
    | some d => .ok d s3
    | none => .stuck
  | some (.bl false) => .ok (.bl false) s2
  | _ => .stuck := rfl
@[simp] theorem r_eSix (fo : DE) (fa : DA) (s : DS) : eSix fo fa s = (fo s).bind fun x s1 => match x with
  | .str a => (fa s1).bind fun ds s2 => match ds with
    | [.str b] => (match PySem.Txt.index0 (nm a) (nm b) with | some k => .ok (.int (k : Nat)) s2 | none => .stuck)
    | _ => .stuck
  | _ => .stuck := rfl
@[simp] theorem r_eBM (T : String) (o : D → List D → Option D) (fo : DE) (fa : DA) (s : DS) : eBM T o fo fa s = (fo s).bind fun x s1 => if MtD.tyOk T x = true then (fa s1).bind fun ds s2 => match o x ds with
  | some d => .ok d s2
  | none => .stuck
  else .stuck := rfl
@[simp] theorem r_tyOk_s (T : String) (l : Nm) : MtD.tyOk T (.str l) = (T == "str") := rfl
@[simp] theorem r_mJoin (a : Nm) (ds : List D) : mJoin (.str a) [.lst ds] = match strsOf ds with
    | some ls => if (ls.map (·.length)).sum + ls.length * a.length ≤ 16777216 then some (.str (TL.joinL a ls)) else none
    | none => none := rfl
@[simp] theorem r_bDivmod (i j : Int) : bDivmod [.int i, .int j] = if 0 < j ∧ divOk j = true then some (.tup [.int (i.fdiv j), .int (i.fmod j)]) else none := rfl
@[simp] theorem r_eFz (i : Nat) (f : DE) (s : DS) : eFz i f s = match s.sl[i]? with
  | some (.ol xs) => f ⟨s.sl.set i (.val (.lst xs)), s.st⟩
  | some (.od kvs) => f ⟨s.sl.set i (.val (.dic kvs)), s.st⟩
  | some (.oi c fs) => f ⟨s.sl.set i (.val (.ins c fs)), s.st⟩
  | _ => f s := rfl
/-! ### lambdas, tries -/
@[simp] theorem r_eLam (n : Nat) (tk k : String) (s : DS) : eLam n tk k s = match s.st[n]? with
  | some (.tab t) => if t = tk then .ok (.lam k) s else .stuck
  | _ => .stuck := rfl
@[simp] theorem r_eAct (Λ : LamR) (i : Nat) (s : DS) : eAct Λ i s = match s.sl[i]? with
  | some (.val (.lam k)) => lift s (Λ k s.st)
  | _ => .stuck := rfl
@[simp] theorem r_eCallL (n : Nat) (g : LamR → DFn) (bs : String → Option DE) (fa : DA) (s : DS) : eCallL n g bs fa s = (fa s).bind fun ds s1 => if ds.length = n then lift s1 (g (lamR bs s1.sl) ds s1.st) else .stuck := rfl
@[simp] theorem r_lamR (bs : String → Option DE) (sl : List Sl) (k : String) (st : List Cell) : lamR bs sl k st = match bs k with
  | some b => lamRun b sl st
  | none => .stuck := rfl
@[simp] theorem r_lamRun (b : DE) (sl : List Sl) (st : List Cell) : lamRun b sl st = match b ⟨sl.map stripS, st⟩ with
  | .ok d s' => .ok d s'.st
  | .exc x s' => .exc x s'.st
  | .stuck => .stuck := rfl
@[simp] theorem r_strip_v (d : D) : stripS (.val d) = .val d := rfl
@[simp] theorem r_strip_u : stripS .un = .un := rfl
@[simp] theorem r_strip_l (xs : List D) : stripS (.ol xs) = .un := rfl
@[simp] theorem r_sTry (b : DStm) (hs : List HdR) (s : DS) : sTry b hs s = match b s with
  | .exc x s1 => catchD hs x s1
  | r => r := rfl
@[simp] theorem r_catch_nil (x : Xc) (s : DS) : catchD [] x s = .exc x s := rfl
@[simp] theorem r_catch_none (c : PySem.Value) (m : String → Option Bool) (f : Xc → DStm) (r : List HdR) (x : Xc) (s : DS) : catchD (⟨c, none, m, f⟩ :: r) x s = match m x.cls with
    | some true => noX (f x s)
    | some false => catchD r x s
    | none => .stuck := rfl
@[simp] theorem r_catch_some (c : PySem.Value) (i : Nat) (m : String → Option Bool) (f : Xc → DStm) (r : List HdR) (x : Xc) (s : DS) : catchD (⟨c, some i, m, f⟩ :: r) x s = match m x.cls with
    | some true => if i < s.sl.length then unD i (noX (f x ⟨s.sl.set i .un, s.st⟩)) else .stuck
    | some false => catchD r x s
    | none => .stuck := rfl
@[simp] theorem r_unD (i : Nat) (r : Res DS Out) : unD i r = r.bind fun o s => .ok o ⟨s.sl.set i .un, s.st⟩ := rfl
@[simp] theorem r_hmT (yes no : List String) (k : String) : hmT yes no k = if k ∈ yes then some true else if k ∈ no then some false else none := rfl
@[simp] theorem r_eXf (c : String) (f : Nm) (x : Xc) (s : DS) : eXf c f x s = if x.cls = c then match x.fs.lookup f with | some d => .ok d s | none => .stuck else .stuck := rfl
/-! ### indexes from behind -/
theorem ixN_last {n : Nat} (h : 0 < n) : L2.ixN n (-1) = some (n - 1) := by
  unfold L2.ixN
  rw [if_neg (by omega), if_pos (by omega)]
  congr 1
  omega
theorem at_neg1 {α : Type} (xs : List α) (x : α) : L2.atI (xs ++ [x]) (-1) = some x := by
  unfold L2.atI
  rw [ixN_last (by simp)]
  simp
/-! ### comprehensions that leave the store -/
theorem lc_gen {vs : List Nat} {g : DG} {t : DT} {e : DE} {s0 : DS} (τ : D → Bool) (f : D → D) : ∀ (items acc : List D), (∀ d ∈ items, ∃ s1 s2, g d (wipeS vs s0) = .ok () s1 ∧ t s1 = .ok (τ d) s2 ∧ (τ d = true → ∃ s3, e s2 = .ok (f d) s3 ∧ wipeS vs s3 = wipeS vs s0) ∧ (τ d = false → wipeS vs s2 = wipeS vs s0)) →
    items.length + acc.length ≤ 1000000 → ∀ s, wipeS vs s = wipeS vs s0 → ∃ s', lcL vs g t e items acc s = .ok (acc ++ (items.filter τ).map f) s' ∧ wipeS vs s' = wipeS vs s0
  | [], acc, _, _, s, hs => ⟨s, by simp, hs⟩
  | d :: r, acc, h, hl, s, hs => by
    obtain ⟨s1, s2, e1, e2, e3, e4⟩ := h d (List.mem_cons_self ..)
    have hr := fun d hd => h d (List.mem_cons_of_mem _ hd)
    simp only [List.length_cons] at hl
    rw [r_lc_cons, hs, e1]
    cases hτ : τ d with
    | true =>
      obtain ⟨s3, e5, e6⟩ := e3 hτ
      obtain ⟨s', e7, e8⟩ := lc_gen τ f r (acc ++ [f d]) hr (by simp; omega) s3 e6
      refine ⟨s', ?_, e8⟩
      have : acc.length < 1000000 := by omega
      simp [e2, hτ, e5, this, e7]
    | false =>
      obtain ⟨s', e7, e8⟩ := lc_gen τ f r acc hr (by omega) s2 (e4 hτ)
      refine ⟨s', ?_, e8⟩
      simp [e2, hτ, e7]
theorem aLc_gen {vs : List Nat} {it : DA} {g : DG} {t : DT} {e : DE} {s s0 : DS} {items : List D} (τ : D → Bool) (f : D → D) (hi : it s = .ok items s0) (h : ∀ d ∈ items, ∃ s1 s2, g d (wipeS vs s0) = .ok () s1 ∧ t s1 = .ok (τ d) s2 ∧ (τ d = true → ∃ s3, e s2 = .ok (f d) s3 ∧ wipeS vs s3 = wipeS vs s0) ∧ (τ d = false → wipeS vs s2 = wipeS vs s0))
    (hl : items.length ≤ 1000000) : aLc vs it g t e s = .ok ((items.filter τ).map f) ⟨unwipe vs s0.sl (wipeD vs s0.sl), s0.st⟩ := by
  obtain ⟨s', e1, e2⟩ := lc_gen τ f items [] h (by simpa using hl) s0 rfl
  have e3 : wipeD vs s'.sl = wipeD vs s0.sl := congrArg DS.sl e2
  have e4 : s'.st = s0.st := by have := congrArg DS.st e2; simpa using this
  rw [r_aLc, hi]
  simp [e1, e3, e4]
theorem aLc_map {vs : List Nat} {it : DA} {g : DG} {e : DE} {s s0 : DS} {items : List D} (f : D → D) (hi : it s = .ok items s0) (h : ∀ d ∈ items, ∃ s1 s3, g d (wipeS vs s0) = .ok () s1 ∧ e s1 = .ok (f d) s3 ∧ wipeS vs s3 = wipeS vs s0)
    (hl : items.length ≤ 1000000) : aLc vs it g bYes e s = .ok (items.map f) ⟨unwipe vs s0.sl (wipeD vs s0.sl), s0.st⟩ := by
  have := aLc_gen (vs := vs) (it := it) (g := g) (t := bYes) (e := e) (s := s) (fun _ => true) f hi (fun d hd => by
    obtain ⟨s1, s3, e1, e2, e3⟩ := h d hd
    exact ⟨s1, s1, e1, rfl, fun _ => ⟨s3, e2, e3⟩, fun z => nomatch z⟩) hl
  rwa [List.filter_eq_self.mpr (fun _ _ => rfl)] at this
/-! comprehensions that draw: by an invariant of the store -/
/-! isinstance(x, (list, tuple)) -/
def isLT (cs : List String) : D → Option Bool
  | .lst _ => some true
  | .scr _ => some true
  | .tup _ => some true
  | .ins c _ => if c ∈ cs then some false else none
  | .non => some false
  | .bl _ => some false
  | .int _ => some false
  | .str _ => some false
  | .dic _ => some false
  | _ => none
theorem isLT_eq (cs : List String) (d : D) : ((tyOfD cs d).bind fun t => isAny cs t [.ty "list", .ty "tuple"]) = isLT cs d := by
  cases d <;> simp [isLT, tyOfD, tyD, isAny, isOne, mem_ty, isTy]
  split <;> simp [isAny, isOne, mem_ty]
@[simp] theorem r_isLT (cs : List String) (fe : DE) (s : DS) : eIsT cs fe (aCons (eC (.ty "list")) (aCons (eC (.ty "tuple")) aNil)) s = (fe s).bind fun d s1 => match isLT cs d with
  | some b => .ok (.bl b) s1
  | none => .stuck := by
  unfold eIsT
  simp [clsD, isLT_eq]
  all_goals rfl
/-! x != [] of an own list -/
@[simp] theorem r_eNeO (i : Nat) (s : DS) : eNeO i s = match s.sl[i]? with
  | some (.ol xs) => (match dNe (.lst xs) (.lst []) with | some (.bl b) => .ok b s | _ => .stuck)
  | some (.val d) => (match dNe d (.lst []) with | some (.bl b) => .ok b s | _ => .stuck)
  | _ => .stuck := rfl
@[simp] theorem r_sPar3O (i j l : Nat) (f1 f2 : DA) (f3 : DE) (s : DS) : sPar3O i j l f1 f2 f3 s = match f1 s with
  | .ok xs s1 => match f2 s1 with
    | .ok ys s2 => match f3 s2 with
      | .ok d s3 => .ok .nx ⟨((s3.sl.set i (.ol xs)).set j (.ol ys)).set l (.val d), s3.st⟩
      | _ => .stuck
    | _ => .stuck
  | _ => .stuck := rfl
@[simp] theorem r_dIsB (a b : Bool) : dIsB (.bl a) (.bl b) = some (.bl (decide (a = b))) := rfl
@[simp] theorem r_dNotB (a b : Bool) : dNotB (.bl a) (.bl b) = some (.bl (!decide (a = b))) := rfl
@[simp] theorem r_gTA_t (n : Nat) (g : List D → DS → Res DS Unit) (ds : List D) (s : DS) : gTA n g (.tup ds) s = if ds.length = n then g ds s else .stuck := rfl
@[simp] theorem r_gTA_l (n : Nat) (g : List D → DS → Res DS Unit) (ds : List D) (s : DS) : gTA n g (.lst ds) s = if ds.length = n then g ds s else .stuck := rfl
@[simp] theorem r_sMul (l : Nm) (n : Int) : sMul (.str l) (.int n) = if l.length ≤ 100 ∧ -100000 ≤ n ∧ n ≤ 100000 then some (.str (List.replicate n.toNat l).flatten) else none := rfl
@[simp] theorem r_tAdd (a b : List D) : tAdd (.tup a) (.tup b) = if a.length + b.length ≤ 1000000 then some (.tup (a ++ b)) else none := rfl
/-! equality of truth values, refusals -/
@[simp] theorem dNe_bb (a b : Bool) : dNe (.bl a) (.bl b) = some (.bl (!(a == b))) := by
  rw [dNe_pl _ _ (pl_bl a) (pl_bl b)]
  cases a <;> cases b <;> rfl
@[simp] theorem dEq_bb (a b : Bool) : dEq (.bl a) (.bl b) = some (.bl (a == b)) := by
  rw [dEq_pl _ _ (pl_bl a) (pl_bl b)]
  cases a <;> cases b <;> rfl
/-! ### texts put together -/
theorem joinL_ones : ∀ l : List Nat, TL.joinL [] (l.map fun c => [c]) = l
  | [] => rfl
  | [c] => rfl
  | c :: d :: r => by
    have := joinL_ones (d :: r)
    simp only [List.map_cons] at this ⊢
    simp [TL.joinL, this]
theorem strsOf_ones (l : List Nat) : strsOf (l.map fun c => D.str [c]) = some (l.map fun c => [c]) := by
  induction l with
  | nil => rfl
  | cons c l ih => simp [strsOf, ih]
theorem sum_ones (l : List Nat) : ((l.map fun c => [c]).map (·.length)).sum = l.length := by
  induction l with
  | nil => rfl
  | cons c l ih => simp only [List.map_cons, List.sum_cons, ih, List.length_cons, List.length_nil]; omega
theorem join_ones (l : List Nat) (h : l.length ≤ 10000) : mJoin (.str []) [.lst (l.map fun c => D.str [c])] = some (.str l) := by
  rw [r_mJoin, strsOf_ones]
  simp only [sum_ones, joinL_ones, List.length_nil, Nat.mul_zero, Nat.add_zero]
  rw [if_pos (by omega)]
end DL
set_option maxRecDepth 100000
set_option maxHeartbeats 4000000
namespace W_k71
open PySem PySem.Spec PyProof.Rows L2 DL
noncomputable section
def topS (i : Nat) : Stmt := PySem.Challenge.pw_areawalks_k71_whole_fewest_steps_told_in.main.body.getD i (.Pass ⟨0, 0, 0, 0⟩)
theorem s_0 : ("value" : Str) = nm [118, 97, 108, 117, 101] := by decide +kernel
theorem s_1 : ("x" : Str) = nm [120] := by decide +kernel
theorem s_2 : ("y" : Str) = nm [121] := by decide +kernel
theorem s_3 : ("area" : Str) = nm [97, 114, 101, 97] := by decide +kernel
theorem s_4 : ("rest" : Str) = nm [114, 101, 115, 116] := by decide +kernel
theorem s_5 : ("stop" : Str) = nm [115, 116, 111, 112] := by decide +kernel
theorem s_6 : ("cells" : Str) = nm [99, 101, 108, 108, 115] := by decide +kernel
theorem s_7 : ("s" : Str) = nm [115] := by decide +kernel
theorem s_8 : ("n" : Str) = nm [110] := by decide +kernel
theorem s_9 : ("w" : Str) = nm [119] := by decide +kernel
theorem s_10 : ("e" : Str) = nm [101] := by decide +kernel
theorem s_11 : ("" : Str) = nm [] := by decide +kernel
theorem s_12 : ("enws" : Str) = nm [101, 110, 119, 115] := by decide +kernel
theorem s_13 : ("runs" : Str) = nm [114, 117, 110, 115] := by decide +kernel
theorem s_14 : ("need_step" : Str) = nm [110, 101, 101, 100, 95, 115, 116, 101, 112] := by decide +kernel
theorem s_15 : ("parted" : Str) = nm [112, 97, 114, 116, 101, 100] := by decide +kernel
theorem s_16 : ("spots" : Str) = nm [115, 112, 111, 116, 115] := by decide +kernel
theorem s_17 : ("head" : Str) = nm [104, 101, 97, 100] := by decide +kernel
theorem s_18 : ("place" : Str) = nm [112, 108, 97, 99, 101] := by decide +kernel
theorem s_19 : ("first_not_least" : Str) = nm [102, 105, 114, 115, 116, 95, 110, 111, 116, 95, 108, 101, 97, 115, 116] := by decide +kernel
theorem s_20 : ("is_least" : Str) = nm [105, 115, 95, 108, 101, 97, 115, 116] := by decide +kernel
theorem s_21 : ("at" : Str) = nm [97, 116] := by decide +kernel
theorem s_22 : ("east" : Str) = nm [101, 97, 115, 116] := by decide +kernel
theorem s_23 : ("north" : Str) = nm [110, 111, 114, 116, 104] := by decide +kernel
theorem s_24 : ("west" : Str) = nm [119, 101, 115, 116] := by decide +kernel
theorem s_25 : ("south" : Str) = nm [115, 111, 117, 116, 104] := by decide +kernel
theorem s_26 : ("frame" : Str) = nm [102, 114, 97, 109, 101] := by decide +kernel
theorem s_27 : ("lot_of" : Str) = nm [108, 111, 116, 95, 111, 102] := by decide +kernel
theorem s_28 : ("least_price" : Str) = nm [108, 101, 97, 115, 116, 95, 112, 114, 105, 99, 101] := by decide +kernel
abbrev xst_BadNumber : Stmt := inClass (topS 3) 0
theorem xsh_BadNumber : XSh xst_BadNumber "self" "value" "value" := ⟨_, _, _, _, _, _, _, _, _, _, _, rfl, rfl, rfl, rfl, rfl, rfl, rfl, by decide +kernel, rfl, rfl, rfl, by decide⟩
abbrev xst_BadPlace : Stmt := inClass (topS 4) 0
theorem xsh_BadPlace : XSh xst_BadPlace "self" "value" "value" := ⟨_, _, _, _, _, _, _, _, _, _, _, rfl, rfl, rfl, rfl, rfl, rfl, rfl, by decide +kernel, rfl, rfl, rfl, by decide⟩
abbrev xst_BadWord : Stmt := inClass (topS 5) 0
theorem xsh_BadWord : XSh xst_BadWord "self" "value" "value" := ⟨_, _, _, _, _, _, _, _, _, _, _, rfl, rfl, rfl, rfl, rfl, rfl, rfl, by decide +kernel, rfl, rfl, rfl, by decide⟩
/-! is_integer -/
abbrev st_is_integer : Stmt := topS 8
theorem sc_is_integer : FnScope ["value"] ["value"] (defScope st_is_integer) := ⟨rfl, rfl, rfl, by decide +kernel, rfl, by decide +kernel, by decide +kernel⟩
/-! Place.__init__ -/
abbrev st_PlaceX_initX : Stmt := inClass (topS 13) 0
theorem sc_PlaceX_initX : FnScope ["self", "x", "y", "area", "value"] ["self", "x", "y", "area"] (defScope st_PlaceX_initX) := ⟨rfl, rfl, rfl, by decide +kernel, rfl, by decide +kernel, by decide +kernel⟩
/-! Place.__invert__ -/
abbrev st_PlaceX_invertX : Stmt := inClass (topS 13) 3
theorem sc_PlaceX_invertX : FnScope ["self"] ["self"] (defScope st_PlaceX_invertX) := ⟨rfl, rfl, rfl, by decide +kernel, rfl, by decide +kernel, by decide +kernel⟩
/-! Place.__mul__ -/
abbrev st_PlaceX_mulX : Stmt := inClass (topS 13) 2
theorem sc_PlaceX_mulX : FnScope ["self", "other"] ["self", "other"] (defScope st_PlaceX_mulX) := ⟨rfl, rfl, rfl, by decide +kernel, rfl, by decide +kernel, by decide +kernel⟩
/-! _law_draw -/
abbrev st__law_draw : Stmt := topS 63
theorem sc__law_draw : FnScope ["_law_pen_here", "_law_many", "_law_digit", "_law_stop", "_law_cell", "_law_blend"] ["_law_pen_here", "_law_many"] (defScope st__law_draw) := ⟨rfl, rfl, rfl, by decide +kernel, rfl, by decide +kernel, by decide +kernel⟩
/-! _law_big -/
abbrev st__law_big : Stmt := topS 65
theorem sc__law_big : FnScope ["_law_pen_here", "_law_size", "_law_found", "_law_k"] ["_law_pen_here", "_law_size"] (defScope st__law_big) := ⟨rfl, rfl, rfl, by decide +kernel, rfl, by decide +kernel, by decide +kernel⟩
/-! _law_whole -/
abbrev st__law_whole : Stmt := topS 66
theorem sc__law_whole : FnScope ["_law_pen_here", "_law_size"] ["_law_pen_here", "_law_size"] (defScope st__law_whole) := ⟨rfl, rfl, rfl, by decide +kernel, rfl, by decide +kernel, by decide +kernel⟩
/-! _law_place -/
abbrev st__law_place : Stmt := topS 67
theorem sc__law_place : FnScope ["_law_pen_here", "_law_size"] ["_law_pen_here", "_law_size"] (defScope st__law_place) := ⟨rfl, rfl, rfl, by decide +kernel, rfl, by decide +kernel, by decide +kernel⟩
/-! _law_drawn -/
abbrev st__law_drawn : Stmt := topS 69
theorem sc__law_drawn : FnScope ["_law_pen_here", "_law_lot"] ["_law_pen_here"] (defScope st__law_drawn) := ⟨rfl, rfl, rfl, by decide +kernel, rfl, by decide +kernel, by decide +kernel⟩
/-! _law_step -/
abbrev st__law_step : Stmt := topS 68
theorem sc__law_step : FnScope ["_law_letter"] ["_law_letter"] (defScope st__law_step) := ⟨rfl, rfl, rfl, by decide +kernel, rfl, by decide +kernel, by decide +kernel⟩
/-! need_place -/
abbrev st_need_place : Stmt := topS 14
theorem sc_need_place : FnScope ["value"] ["value"] (defScope st_need_place) := ⟨rfl, rfl, rfl, by decide +kernel, rfl, by decide +kernel, by decide +kernel⟩
/-! whole_root -/
abbrev st_whole_root : Stmt := topS 17
theorem sc_whole_root : FnScope ["number", "found", "later"] ["number"] (defScope st_whole_root) := ⟨rfl, rfl, rfl, by decide +kernel, rfl, by decide +kernel, by decide +kernel⟩
/-! steps_of -/
abbrev st_steps_of : Stmt := topS 18
theorem sc_steps_of : FnScope ["x", "y", "area", "ground", "more", "less", "root"] ["x", "y", "area"] (defScope st_steps_of) := ⟨rfl, rfl, rfl, by decide +kernel, rfl, by decide +kernel, by decide +kernel⟩
/-! steps -/
abbrev st_steps : Stmt := topS 37
theorem sc_steps : FnScope ["place"] ["place"] (defScope st_steps) := ⟨rfl, rfl, rfl, by decide +kernel, rfl, by decide +kernel, by decide +kernel⟩
/-! first_letters -/
abbrev st_first_letters : Stmt := topS 43
theorem sc_first_letters : FnScope ["place", "here", "letter", "x", "y"] ["place"] (defScope st_first_letters) := ⟨rfl, rfl, rfl, by decide +kernel, rfl, by decide +kernel, by decide +kernel⟩
/-! nearer -/
abbrev st_nearer : Stmt := topS 42
theorem sc_nearer : FnScope ["place", "here", "letter", "x", "y"] ["place"] (defScope st_nearer) := ⟨rfl, rfl, rfl, by decide +kernel, rfl, by decide +kernel, by decide +kernel⟩
/-! is_summit -/
abbrev st_is_summit : Stmt := topS 44
theorem sc_is_summit : FnScope ["place"] ["place"] (defScope st_is_summit) := ⟨rfl, rfl, rfl, by decide +kernel, rfl, by decide +kernel, by decide +kernel⟩
/-! _law_local_right -/
abbrev st__law_local_right : Stmt := topS 70
theorem sc__law_local_right : FnScope ["_law_place_here", "_law_here", "_law_near", "_law_letter", "_law_there", "_law_begun"] ["_law_place_here"] (defScope st__law_local_right) := ⟨rfl, rfl, rfl, by decide +kernel, rfl, by decide +kernel, by decide +kernel⟩
/-! _law_pen -/
abbrev st__law_pen : Stmt := topS 62
theorem sc__law_pen : FnScope ["_law_script"] ["_law_script"] (defScope st__law_pen) := ⟨rfl, rfl, rfl, by decide +kernel, rfl, by decide +kernel, by decide +kernel⟩
/-! merged -/
abbrev st_merged : Stmt := topS 29
theorem sc_merged : FnScope ["pairs", "found", "letter", "times"] ["pairs"] (defScope st_merged) := ⟨rfl, rfl, rfl, by decide +kernel, rfl, by decide +kernel, by decide +kernel⟩
/-! is_list -/
abbrev st_is_list : Stmt := topS 10
theorem sc_is_list : FnScope ["value"] ["value"] (defScope st_is_list) := ⟨rfl, rfl, rfl, by decide +kernel, rfl, by decide +kernel, by decide +kernel⟩
/-! is_whole -/
abbrev st_is_whole : Stmt := topS 9
theorem sc_is_whole : FnScope ["value", "least"] ["value", "least"] (defScope st_is_whole) := ⟨rfl, rfl, rfl, by decide +kernel, rfl, by decide +kernel, by decide +kernel⟩
/-! is_pair -/
abbrev st_is_pair : Stmt := topS 28
theorem sc_is_pair : FnScope ["value"] ["value"] (defScope st_is_pair) := ⟨rfl, rfl, rfl, by decide +kernel, rfl, by decide +kernel, by decide +kernel⟩
/-! pairs_told -/
abbrev st_pairs_told : Stmt := topS 27
theorem sc_pairs_told : FnScope ["told", "letter", "pair"] ["told"] (defScope st_pairs_told) := ⟨rfl, rfl, rfl, by decide +kernel, rfl, by decide +kernel, by decide +kernel⟩
/-! Walk.__init__ -/
abbrev st_WalkX_initX : Stmt := inClass (topS 31) 0
theorem sc_WalkX_initX : FnScope ["self", "told"] ["self", "told"] (defScope st_WalkX_initX) := ⟨rfl, rfl, rfl, by decide +kernel, rfl, by decide +kernel, by decide +kernel⟩
/-! Walk.length -/
abbrev st_Walk_length : Stmt := inClass (topS 31) 4
theorem sc_Walk_length : FnScope ["self", "letter", "times"] ["self"] (defScope st_Walk_length) := ⟨rfl, rfl, rfl, by decide +kernel, rfl, by decide +kernel, by decide +kernel⟩
/-! Walk.need_step -/
abbrev st_Walk_need_step : Stmt := inClass (topS 31) 8
theorem sc_Walk_need_step : FnScope ["self", "number"] ["self", "number"] (defScope st_Walk_need_step) := ⟨rfl, rfl, rfl, by decide +kernel, rfl, by decide +kernel, by decide +kernel⟩
/-! Walk.parted -/
abbrev st_Walk_parted : Stmt := inClass (topS 31) 11
theorem sc_Walk_parted : FnScope ["self", "number", "ahead", "behind", "left", "letter", "times", "here"] ["self", "number"] (defScope st_Walk_parted) := ⟨rfl, rfl, rfl, by decide +kernel, rfl, by decide +kernel, by decide +kernel⟩
/-! Walk.head -/
abbrev st_Walk_head : Stmt := inClass (topS 31) 9
theorem sc_Walk_head : FnScope ["self", "number"] ["self", "number"] (defScope st_Walk_head) := ⟨rfl, rfl, rfl, by decide +kernel, rfl, by decide +kernel, by decide +kernel⟩
/-! gone_on -/
abbrev st_gone_on : Stmt := topS 30
theorem sc_gone_on : FnScope ["spot", "letter", "times", "x", "y", "area"] ["spot", "letter", "times"] (defScope st_gone_on) := ⟨rfl, rfl, rfl, by decide +kernel, rfl, by decide +kernel, by decide +kernel⟩
/-! Walk.spots -/
abbrev st_Walk_spots : Stmt := inClass (topS 31) 6
theorem sc_Walk_spots : FnScope ["self", "found", "letter", "times"] ["self"] (defScope st_Walk_spots) := ⟨rfl, rfl, rfl, by decide +kernel, rfl, by decide +kernel, by decide +kernel⟩
/-! Walk.place -/
abbrev st_Walk_place : Stmt := inClass (topS 31) 5
theorem sc_Walk_place : FnScope ["self", "spot"] ["self"] (defScope st_Walk_place) := ⟨rfl, rfl, rfl, by decide +kernel, rfl, by decide +kernel, by decide +kernel⟩
/-! Walk.at -/
abbrev st_Walk_at : Stmt := inClass (topS 31) 12
theorem sc_Walk_at : FnScope ["self", "number"] ["self", "number"] (defScope st_Walk_at) := ⟨rfl, rfl, rfl, by decide +kernel, rfl, by decide +kernel, by decide +kernel⟩
/-! is_least_spot -/
abbrev st_is_least_spot : Stmt := topS 32
theorem sc_is_least_spot : FnScope ["spot", "number"] ["spot", "number"] (defScope st_is_least_spot) := ⟨rfl, rfl, rfl, by decide +kernel, rfl, by decide +kernel, by decide +kernel⟩
/-! first_long -/
abbrev st_first_long : Stmt := topS 33
theorem sc_first_long : FnScope ["spot", "letter", "gone", "times", "low", "high", "middle"] ["spot", "letter", "gone", "times"] (defScope st_first_long) := ⟨rfl, rfl, rfl, by decide +kernel, rfl, by decide +kernel, by decide +kernel⟩
/-! Walk.first_not_least -/
abbrev st_Walk_first_not_least : Stmt := inClass (topS 31) 18
theorem sc_Walk_first_not_least : FnScope ["self", "gone", "spot", "letter", "times"] ["self"] (defScope st_Walk_first_not_least) := ⟨rfl, rfl, rfl, by decide +kernel, rfl, by decide +kernel, by decide +kernel⟩
/-! Walk.is_least -/
abbrev st_Walk_is_least : Stmt := inClass (topS 31) 17
theorem sc_Walk_is_least : FnScope ["self"] ["self"] (defScope st_Walk_is_least) := ⟨rfl, rfl, rfl, by decide +kernel, rfl, by decide +kernel, by decide +kernel⟩
/-! _law_pick -/
abbrev st__law_pick : Stmt := topS 64
theorem sc__law_pick : FnScope ["_law_pen_here", "_law_items"] ["_law_pen_here", "_law_items"] (defScope st__law_pick) := ⟨rfl, rfl, rfl, by decide +kernel, rfl, by decide +kernel, by decide +kernel⟩
/-! _law_walk_right -/
abbrev st__law_walk_right : Stmt := topS 72
theorem sc__law_walk_right : FnScope ["_law_pen_here", "_law_runs", "_law_k", "_law_walk", "_law_least", "_law_told"] ["_law_pen_here"] (defScope st__law_walk_right) := ⟨rfl, rfl, rfl, by decide +kernel, rfl, by decide +kernel, by decide +kernel⟩
/-! Place.__eq__ -/
abbrev st_PlaceX_eqX : Stmt := inClass (topS 13) 1
theorem sc_PlaceX_eqX : FnScope ["self", "other"] ["self", "other"] (defScope st_PlaceX_eqX) := ⟨rfl, rfl, rfl, by decide +kernel, rfl, by decide +kernel, by decide +kernel⟩
/-! Prices.__init__ -/
abbrev st_PricesX_initX : Stmt := inClass (topS 60) 0
theorem sc_PricesX_initX : FnScope ["self", "east", "north", "west", "south", "value"] ["self", "east", "north", "west", "south"] (defScope st_PricesX_initX) := ⟨rfl, rfl, rfl, by decide +kernel, rfl, by decide +kernel, by decide +kernel⟩
/-! Lot.__init__ -/
abbrev st_LotX_initX : Stmt := inClass (topS 52) 0
theorem sc_LotX_initX : FnScope ["self", "east", "north", "west", "south", "value"] ["self", "east", "north", "west", "south"] (defScope st_LotX_initX) := ⟨rfl, rfl, rfl, by decide +kernel, rfl, by decide +kernel, by decide +kernel⟩
/-! bezout_of -/
abbrev st_bezout_of : Stmt := topS 11
theorem sc_bezout_of : FnScope ["one", "other", "row", "below", "times"] ["one", "other"] (defScope st_bezout_of) := ⟨rfl, rfl, rfl, by decide +kernel, rfl, by decide +kernel, by decide +kernel⟩
/-! ceiling -/
abbrev st_ceiling : Stmt := topS 55
theorem sc_ceiling : FnScope ["top", "bottom"] ["top", "bottom"] (defScope st_ceiling) := ⟨rfl, rfl, rfl, by decide +kernel, rfl, by decide +kernel, by decide +kernel⟩
/-! lowest -/
abbrev st_lowest : Stmt := topS 57
theorem sc_lowest : FnScope ["wide", "high", "room", "across", "up", "square", "root"] ["wide", "high", "room", "across", "up"] (defScope st_lowest) := ⟨rfl, rfl, rfl, by decide +kernel, rfl, by decide +kernel, by decide +kernel⟩
/-! sides_of_price -/
abbrev st_sides_of_price : Stmt := topS 58
theorem sc_sides_of_price : FnScope ["price", "wide", "high", "across", "up", "common", "inverse", "step", "first", "last", "middle", "below", "side"] ["price", "wide", "high", "across", "up", "common", "inverse"] (defScope st_sides_of_price) := ⟨rfl, rfl, rfl, by decide +kernel, rfl, by decide +kernel, by decide +kernel⟩
/-! best_frame -/
abbrev st_best_frame : Stmt := topS 59
theorem sc_best_frame : FnScope ["wide", "high", "room", "across", "up", "common", "inverse", "other", "price", "sides"] ["wide", "high", "room", "across", "up"] (defScope st_best_frame) := ⟨rfl, rfl, rfl, by decide +kernel, rfl, by decide +kernel, by decide +kernel⟩
/-! room_wanted -/
abbrev st_room_wanted : Stmt := topS 56
theorem sc_room_wanted : FnScope ["place", "twist"] ["place"] (defScope st_room_wanted) := ⟨rfl, rfl, rfl, by decide +kernel, rfl, by decide +kernel, by decide +kernel⟩
/-! Prices.frame -/
abbrev st_Prices_frame : Stmt := inClass (topS 60) 3
theorem sc_Prices_frame : FnScope ["self", "place", "across", "up"] ["self", "place"] (defScope st_Prices_frame) := ⟨rfl, rfl, rfl, by decide +kernel, rfl, by decide +kernel, by decide +kernel⟩
/-! Prices.lot_of -/
abbrev st_Prices_lot_of : Stmt := inClass (topS 60) 4
theorem sc_Prices_lot_of : FnScope ["self", "place", "wide", "high", "aside", "back", "east", "west"] ["self", "place"] (defScope st_Prices_lot_of) := ⟨rfl, rfl, rfl, by decide +kernel, rfl, by decide +kernel, by decide +kernel⟩
/-! Prices.least_price -/
abbrev st_Prices_least_price : Stmt := inClass (topS 60) 5
theorem sc_Prices_least_price : FnScope ["self", "place", "lot"] ["self", "place"] (defScope st_Prices_least_price) := ⟨rfl, rfl, rfl, by decide +kernel, rfl, by decide +kernel, by decide +kernel⟩
/-! best_sides -/
abbrev st_best_sides : Stmt := topS 19
theorem sc_best_sides : FnScope ["x", "y", "extra"] ["x", "y", "extra"] (defScope st_best_sides) := ⟨rfl, rfl, rfl, by decide +kernel, rfl, by decide +kernel, by decide +kernel⟩
/-! areas_of -/
abbrev st_areas_of : Stmt := topS 20
theorem sc_areas_of : FnScope ["x", "y", "number", "extra", "wide", "high", "span"] ["x", "y", "number"] (defScope st_areas_of) := ⟨rfl, rfl, rfl, by decide +kernel, rfl, by decide +kernel, by decide +kernel⟩
/-! areas -/
abbrev st_areas : Stmt := topS 41
theorem sc_areas : FnScope ["x", "y", "number", "value"] ["x", "y", "number"] (defScope st_areas) := ⟨rfl, rfl, rfl, by decide +kernel, rfl, by decide +kernel, by decide +kernel⟩
/-! distance -/
abbrev st_distance : Stmt := topS 38
theorem sc_distance : FnScope ["one", "other"] ["one", "other"] (defScope st_distance) := ⟨rfl, rfl, rfl, by decide +kernel, rfl, by decide +kernel, by decide +kernel⟩
/-! home_place -/
abbrev st_home_place : Stmt := topS 15
theorem sc_home_place : FnScope [] [] (defScope st_home_place) := ⟨rfl, rfl, rfl, by decide +kernel, rfl, by decide +kernel, by decide +kernel⟩
/-! walk_pairs -/
abbrev st_walk_pairs : Stmt := topS 21
theorem sc_walk_pairs : FnScope ["x", "y", "area", "extra", "wide", "high", "columns", "cells"] ["x", "y", "area", "extra"] (defScope st_walk_pairs) := ⟨rfl, rfl, rfl, by decide +kernel, rfl, by decide +kernel, by decide +kernel⟩
/-! pairs_to -/
abbrev st_pairs_to : Stmt := topS 22
theorem sc_pairs_to : FnScope ["x", "y", "area", "number", "limits", "names", "letter", "times"] ["x", "y", "area", "number"] (defScope st_pairs_to) := ⟨rfl, rfl, rfl, by decide +kernel, rfl, by decide +kernel, by decide +kernel⟩
/-! walk_of -/
abbrev st_walk_of : Stmt := topS 40
theorem sc_walk_of : FnScope ["place", "number", "pairs"] ["place", "number"] (defScope st_walk_of) := ⟨rfl, rfl, rfl, by decide +kernel, rfl, by decide +kernel, by decide +kernel⟩
/-! least_walk -/
abbrev st_least_walk : Stmt := topS 39
theorem sc_least_walk : FnScope ["place"] ["place"] (defScope st_least_walk) := ⟨rfl, rfl, rfl, by decide +kernel, rfl, by decide +kernel, by decide +kernel⟩
/-! lies_between -/
abbrev st_lies_between : Stmt := topS 45
theorem sc_lies_between : FnScope ["place", "one", "other", "value"] ["place", "one", "other"] (defScope st_lies_between) := ⟨rfl, rfl, rfl, by decide +kernel, rfl, by decide +kernel, by decide +kernel⟩
/-! _law_walks_right -/
abbrev st__law_walks_right : Stmt := topS 71
theorem sc__law_walks_right : FnScope ["_law_pen_here", "_law_place_here", "_law_here", "_law_walk", "_law_many", "_law_spot", "_law_more", "_law_made", "_law_span", "_law_can"] ["_law_pen_here", "_law_place_here"] (defScope st__law_walks_right) := ⟨rfl, rfl, rfl, by decide +kernel, rfl, by decide +kernel, by decide +kernel⟩
/-! law -/
abbrev st_law : Stmt := topS 73
theorem sc_law : FnScope ["_law_script", "_law_pen_here", "_law_lap", "_law_one", "_law_other", "_law_third", "_law_here", "_law_there"] ["_law_script"] (defScope st_law) := ⟨rfl, rfl, rfl, by decide +kernel, rfl, by decide +kernel, by decide +kernel⟩
def b_is_integer : DStm := sRet (eAndT (eCB (bIsi ["Place", "Walk", "Lot", "Prices"]) (aCons (eVar 0) (aCons (eC (.ty "int")) (aNil)))) (eNotT (eCB (bIsi ["Place", "Walk", "Lot", "Prices"]) (aCons (eVar 0) (aCons (eC (.ty "bool")) (aNil))))))
def g_is_integer : DFn := fnD 1 b_is_integer 0
def w_PlaceX_initX_0 : DStm := sIf (bNot (eTru (eCall 1 g_is_integer (aCons (eVar 4) (aNil))))) (sRaise "BadNumber" [118, 97, 108, 117, 101] (aCons (eVar 4) (aNil))) (sPass)
def b_PlaceX_initX : DStm := sSeq (sFor (itSeq (eTup (aCons (eVar 1) (aCons (eVar 2) (aCons (eVar 3) (aNil)))))) (gN 4) (w_PlaceX_initX_0))
    (sSeq (sFldO "Place" 0 [120] (eVar 1))
    (sSeq (sFldO "Place" 0 [121] (eVar 2))
    (sFldO "Place" 0 [97, 114, 101, 97] (eVar 3))))
def g_PlaceX_initX : DIn := inD "Place" 3 b_PlaceX_initX 1
def b_PlaceX_invertX : DStm := sRet (eMake "Place" 3 g_PlaceX_initX (aCons (eNeg (eFld ["Place"] [120] (eVar 0))) (aCons (eNeg (eFld ["Place"] [121] (eVar 0))) (aCons (eOp2 iSub (eOp2 dMul (eFld ["Place"] [120] (eVar 0)) (eFld ["Place"] [121] (eVar 0))) (eFld ["Place"] [97, 114, 101, 97] (eVar 0))) (aNil)))))
def g_PlaceX_invertX : DFn := fnD 1 b_PlaceX_invertX 0
def b_PlaceX_mulX : DStm := sSeq (sIf (bNot (eTru (eCB (bIsi ["Place", "Walk", "Lot", "Prices"]) (aCons (eVar 1) (aCons (eC (.cls "Place")) (aNil)))))) (sRaise "BadPlace" [118, 97, 108, 117, 101] (aCons (eVar 1) (aNil))) (sPass))
    (sRet (eMake "Place" 3 g_PlaceX_initX (aCons (eOp2 dAdd (eFld ["Place"] [120] (eVar 0)) (eFld ["Place"] [120] (eVar 1))) (aCons (eOp2 dAdd (eFld ["Place"] [121] (eVar 0)) (eFld ["Place"] [121] (eVar 1))) (aCons (eOp2 dAdd (eOp2 dAdd (eFld ["Place"] [97, 114, 101, 97] (eVar 0)) (eFld ["Place"] [97, 114, 101, 97] (eVar 1))) (eOp2 dMul (eFld ["Place"] [120] (eVar 0)) (eFld ["Place"] [121] (eVar 1)))) (aNil))))))
def g_PlaceX_mulX : DFn := fnD 2 b_PlaceX_mulX 0
def b__law_draw : DStm := sSeq (sIf (eB (eOp2 iGe (eDGet (eVar 0) (eC (.str [114, 101, 115, 116]))) (eVar 1))) (sSeq (sSet 2 (eOp2 iMod (eCB (bInt) (aCons (eDGet (eVar 0) (eC (.str [114, 101, 115, 116]))) (aNil))) (eVar 1)))
    (sSeq (sDPutC (eVar 0) (eC (.str [114, 101, 115, 116])) (eOp2 iDiv (eDGet (eVar 0) (eC (.str [114, 101, 115, 116]))) (eVar 1)))
    (sRet (eVar 2)))) (sPass))
    (sSeq (sSet 3 (eDGet (eVar 0) (eC (.str [115, 116, 111, 112]))))
    (sSeq (sDPutC (eVar 0) (eC (.str [115, 116, 111, 112])) (eOp2 dAdd (eVar 3) (eC (.int 1))))
    (sSeq (sSet 4 (eOp2 dAdd (eOp2 dMul (eC (.int 73)) (eVar 3)) (eC (.int 41))))
    (sSeq (sIf (eB (eOp2 dNe (eDGet (eVar 0) (eC (.str [99, 101, 108, 108, 115]))) (eFrz (aMax (aNil))))) (sSet 4 (eIx (eDGet (eVar 0) (eC (.str [99, 101, 108, 108, 115]))) (eOp2 iMod (eCB (bInt) (aCons (eVar 3) (aNil))) (eCB (bLen) (aCons (eDGet (eVar 0) (eC (.str [99, 101, 108, 108, 115]))) (aNil)))))) (sPass))
    (sSeq (sIf (bAnd (eB (eOp2 iLt (eVar 3) (eCB (bLen) (aCons (eDGet (eVar 0) (eC (.str [99, 101, 108, 108, 115]))) (aNil))))) (eB (eOp2 iGe (eVar 4) (eOp2 iPow (eC (.int 10)) (eC (.int 18)))))) (sSeq (sDPutC (eVar 0) (eC (.str [114, 101, 115, 116])) (eOp2 iDiv (eOp2 iSub (eVar 4) (eOp2 iPow (eC (.int 10)) (eC (.int 18)))) (eVar 1)))
    (sRet (eOp2 iMod (eCB (bInt) (aCons (eOp2 iSub (eVar 4) (eOp2 iPow (eC (.int 10)) (eC (.int 18)))) (aNil))) (eVar 1)))) (sPass))
    (sSeq (sSet 5 (eOp2 dMul (eOp2 iMod (eCB (bInt) (aCons (eVar 4) (aNil))) (eC (.int 2147483269))) (eC (.int 40177))))
    (sSeq (sSet 5 (eOp2 iMod (eCB (bInt) (aCons (eOp2 dAdd (eOp2 dAdd (eOp2 dAdd (eVar 5) (eOp2 dMul (eOp2 dMul (eC (.int 52489)) (eVar 3)) (eVar 3))) (eOp2 dMul (eC (.int 103)) (eVar 3))) (eC (.int 37))) (aNil))) (eC (.int 2147483323))))
    (sSeq (sSet 5 (eOp2 iMod (eCB (bInt) (aCons (eOp2 dMul (eVar 5) (eOp2 dAdd (eVar 5) (eC (.int 70019)))) (aNil))) (eC (.int 2147483353))))
    (sRet (eOp2 iMod (eCB (bInt) (aCons (eOp2 iDiv (eOp2 iMod (eCB (bInt) (aCons (eOp2 dAdd (eOp2 dMul (eVar 5) (eVar 5)) (eOp2 dMul (eC (.int 19)) (eVar 5))) (aNil))) (eC (.int 2147483399))) (eC (.int 16))) (aNil))) (eVar 1)))))))))))
def g__law_draw : DFn := fnD 2 b__law_draw 4
def w__law_big_0 : DStm := sSeq (sSet 2 (eOp2 dAdd (eOp2 dMul (eVar 2) (eOp2 iPow (eC (.int 10)) (eC (.int 5)))) (eCall 2 g__law_draw (aCons (eVar 0) (aCons (eOp2 iPow (eC (.int 10)) (eC (.int 5))) (aNil))))))
    (sIf (eB (eOp2 iGt (eVar 2) (eOp2 dMul (eVar 1) (eOp2 iPow (eC (.int 10)) (eC (.int 5)))))) (sRet (eOp2 iMod (eVar 2) (eVar 1))) (sPass))
def b__law_big : DStm := sSeq (sIf (eB (eOp2 iLt (eVar 1) (eOp2 iPow (eC (.int 10)) (eC (.int 7))))) (sRet (eCall 2 g__law_draw (aCons (eVar 0) (aCons (eVar 1) (aNil))))) (sPass))
    (sSeq (sSet 2 (eC (.int 0)))
    (sSeq (sFor (itR1 (aCons (eC (.int 24)) (aNil))) (gN 3) (w__law_big_0))
    (sRet (eOp2 iMod (eVar 2) (eVar 1)))))
def g__law_big : DFn := fnD 2 b__law_big 2
def b__law_whole : DStm := sRet (eOp2 iSub (eCall 2 g__law_big (aCons (eVar 0) (aCons (eOp2 dAdd (eOp2 dMul (eC (.int 2)) (eVar 1)) (eC (.int 1))) (aNil)))) (eVar 1))
def g__law_whole : DFn := fnD 2 b__law_whole 0
def b__law_place : DStm := sRet (eMake "Place" 3 g_PlaceX_initX (aCons (eCall 2 g__law_whole (aCons (eVar 0) (aCons (eVar 1) (aNil)))) (aCons (eCall 2 g__law_whole (aCons (eVar 0) (aCons (eVar 1) (aNil)))) (aCons (eCall 2 g__law_whole (aCons (eVar 0) (aCons (eOp2 dMul (eVar 1) (eVar 1)) (aNil)))) (aNil)))))
def g__law_place : DFn := fnD 2 b__law_place 0
def b__law_drawn : DStm := sSeq (sSet 1 (eCall 2 g__law_draw (aCons (eVar 0) (aCons (eC (.int 5)) (aNil)))))
    (sSeq (sIf (eB (eOp2 dEq (eVar 1) (eC (.int 0)))) (sRet (eCall 2 g__law_place (aCons (eVar 0) (aCons (eC (.int 4)) (aNil))))) (sPass))
    (sSeq (sIf (eB (eOp2 dEq (eVar 1) (eC (.int 1)))) (sRet (eMake "Place" 3 g_PlaceX_initX (aCons (eCall 2 g__law_whole (aCons (eVar 0) (aCons (eOp2 iPow (eC (.int 10)) (eC (.int 40))) (aNil)))) (aCons (eCall 2 g__law_whole (aCons (eVar 0) (aCons (eOp2 iPow (eC (.int 10)) (eC (.int 40))) (aNil)))) (aCons (eCall 2 g__law_whole (aCons (eVar 0) (aCons (eOp2 dMul (eOp2 iPow (eC (.int 10)) (eC (.int 40))) (eOp2 iPow (eC (.int 10)) (eC (.int 40)))) (aNil)))) (aNil)))))) (sPass))
    (sSeq (sIf (eB (eOp2 dEq (eVar 1) (eC (.int 2)))) (sRet (eMake "Place" 3 g_PlaceX_initX (aCons (eCall 2 g__law_whole (aCons (eVar 0) (aCons (eC (.int 9)) (aNil)))) (aCons (eCall 2 g__law_whole (aCons (eVar 0) (aCons (eC (.int 9)) (aNil)))) (aCons (eCall 2 g__law_whole (aCons (eVar 0) (aCons (eOp2 dMul (eOp2 iPow (eC (.int 10)) (eC (.int 50))) (eOp2 iPow (eC (.int 10)) (eC (.int 49)))) (aNil)))) (aNil)))))) (sPass))
    (sSeq (sIf (eB (eOp2 dEq (eVar 1) (eC (.int 3)))) (sRet (eMake "Place" 3 g_PlaceX_initX (aCons (eCall 2 g__law_whole (aCons (eVar 0) (aCons (eOp2 iPow (eC (.int 10)) (eC (.int 30))) (aNil)))) (aCons (eCall 2 g__law_whole (aCons (eVar 0) (aCons (eC (.int 9)) (aNil)))) (aCons (eCall 2 g__law_whole (aCons (eVar 0) (aCons (eOp2 iPow (eC (.int 10)) (eC (.int 33))) (aNil)))) (aNil)))))) (sPass))
    (sRet (eCall 2 g__law_place (aCons (eVar 0) (aCons (eC (.int 30)) (aNil)))))))))
def g__law_drawn : DFn := fnD 1 b__law_drawn 1
def b__law_step : DStm := sRet (eDGet (eFrzD (dDisp [(eC (.str [101]), eMake "Place" 3 g_PlaceX_initX (aCons (eC (.int 1)) (aCons (eC (.int 0)) (aCons (eC (.int 0)) (aNil))))), (eC (.str [119]), eMake "Place" 3 g_PlaceX_initX (aCons (eNeg (eC (.int 1))) (aCons (eC (.int 0)) (aCons (eC (.int 0)) (aNil))))), (eC (.str [110]), eMake "Place" 3 g_PlaceX_initX (aCons (eC (.int 0)) (aCons (eC (.int 1)) (aCons (eC (.int 0)) (aNil))))), (eC (.str [115]), eMake "Place" 3 g_PlaceX_initX (aCons (eC (.int 0)) (aCons (eNeg (eC (.int 1))) (aCons (eC (.int 0)) (aNil)))))])) (eVar 0))
def g__law_step : DFn := fnD 1 b__law_step 0
def b_need_place : DStm := sIf (bNot (eTru (eCB (bIsi ["Place", "Walk", "Lot", "Prices"]) (aCons (eVar 0) (aCons (eC (.cls "Place")) (aNil)))))) (sRaise "BadPlace" [118, 97, 108, 117, 101] (aCons (eVar 0) (aNil))) (sPass)
def g_need_place : DFn := fnD 1 b_need_place 0
def c_whole_root_0 : DT := eTru (eC (.bl true))
def w_whole_root_0 : DStm := sSeq (sSet 2 (eOp2 iDiv (eOp2 dAdd (eVar 1) (eOp2 iDiv (eVar 0) (eVar 1))) (eC (.int 2))))
    (sSeq (sIf (eB (eOp2 iGe (eVar 2) (eVar 1))) (sRet (eVar 1)) (sPass))
    (sSet 1 (eVar 2)))
def b_whole_root : DStm := sSeq (sIf (eB (eOp2 iLt (eVar 0) (eC (.int 2)))) (sRet (eVar 0)) (sPass))
    (sSeq (sSet 1 (eOp2 iShl (eC (.int 1)) (eOp2 iDiv (eOp2 dAdd (eBits (eVar 0)) (eC (.int 1))) (eC (.int 2)))))
    (sWhile (c_whole_root_0) (w_whole_root_0)))
def g_whole_root : DFn := fnD 1 b_whole_root 2
def b_steps_of : DStm := sSeq (sSet 3 (eOp2 iDiv (eOp2 dAdd (eCB (bAbs) (aCons (eOp2 iSub (eOp2 dMul (eC (.int 2)) (eVar 2)) (eOp2 dMul (eVar 0) (eVar 1))) (aNil))) (eCB (bAbs) (aCons (eOp2 dMul (eVar 0) (eVar 1)) (aNil)))) (eC (.int 2))))
    (sSeq (sPar 0 1 (aCons (eCB (bAbs) (aCons (eVar 0) (aNil))) (aCons (eCB (bAbs) (aCons (eVar 1) (aNil))) (aNil))))
    (sSeq (sAsgT (eIf (eB (eOp2 iGe (eVar 0) (eVar 1))) (eTup (aCons (eVar 0) (aCons (eVar 1) (aNil)))) (eTup (aCons (eVar 1) (aCons (eVar 0) (aNil))))) (gT 2 (gsCons (gN 4) (gsCons (gN 5) (gsNil)))))
    (sSeq (sIf (eB (eOp2 iLe (eVar 3) (eOp2 dMul (eVar 4) (eVar 5)))) (sRet (eOp2 dAdd (eVar 4) (eVar 5))) (sPass))
    (sSeq (sIf (eB (eOp2 iLe (eVar 3) (eOp2 dMul (eVar 4) (eVar 4)))) (sRet (eOp2 iSub (eOp2 dAdd (eOp2 dMul (eC (.int 2)) (eNeg (eOp2 iDiv (eNeg (eVar 3)) (eVar 4)))) (eVar 4)) (eVar 5))) (sPass))
    (sSeq (sSet 6 (eCall 1 g_whole_root (aCons (eOp2 dMul (eC (.int 4)) (eVar 3)) (aNil))))
    (sRet (eOp2 iSub (eOp2 iSub (eOp2 dMul (eC (.int 2)) (eIf (eB (eOp2 dEq (eOp2 dMul (eVar 6) (eVar 6)) (eOp2 dMul (eC (.int 4)) (eVar 3)))) (eVar 6) (eOp2 dAdd (eVar 6) (eC (.int 1))))) (eVar 4)) (eVar 5))))))))
def g_steps_of : DFn := fnD 3 b_steps_of 4
def b_steps : DStm := sSeq (sExpr (eCall 1 g_need_place (aCons (eVar 0) (aNil))))
    (sRet (eCall 3 g_steps_of (aCons (eFld ["Place"] [120] (eVar 0)) (aCons (eFld ["Place"] [121] (eVar 0)) (aCons (eFld ["Place"] [97, 114, 101, 97] (eVar 0)) (aNil))))))
def g_steps : DFn := fnD 1 b_steps 0
def e_first_letters_0 : DE := eVar 2
def t_first_letters_0 : DT := eB (eOp2 iLt (eCall 1 g_steps (aCons (eOpX (ownO "Place" g_PlaceX_mulX) (eMake "Place" 3 g_PlaceX_initX (aCons (eNeg (eVar 3)) (aCons (eNeg (eVar 4)) (aCons (eC (.int 0)) (aNil))))) (eVar 0)) (aNil))) (eVar 1))
def b_first_letters : DStm := sSeq (sSet 1 (eCall 1 g_steps (aCons (eVar 0) (aNil))))
    (sRet (eBM "str" mJoin (eC (.str [])) (aCons (eFrz (aLc [2, 3, 4] (itSeq (eC (.tup [.tup [.str [101], .int 1, .int 0], .tup [.str [110], .int 0, .int 1], .tup [.str [119], .int (-1), .int 0], .tup [.str [115], .int 0, .int (-1)]]))) (gT 3 (gsCons (gN 2) (gsCons (gN 3) (gsCons (gN 4) (gsNil))))) (t_first_letters_0) (e_first_letters_0))) (aNil))))
def g_first_letters : DFn := fnD 1 b_first_letters 4
def e_nearer_0 : DE := eVar 2
def t_nearer_0 : DT := eB (eOp2 iLt (eCall 1 g_steps (aCons (eOpX (ownO "Place" g_PlaceX_mulX) (eVar 0) (eMake "Place" 3 g_PlaceX_initX (aCons (eVar 3) (aCons (eVar 4) (aCons (eC (.int 0)) (aNil)))))) (aNil))) (eVar 1))
def b_nearer : DStm := sSeq (sSet 1 (eCall 1 g_steps (aCons (eVar 0) (aNil))))
    (sRet (eBM "str" mJoin (eC (.str [])) (aCons (eFrz (aLc [2, 3, 4] (itSeq (eC (.tup [.tup [.str [101], .int 1, .int 0], .tup [.str [110], .int 0, .int 1], .tup [.str [119], .int (-1), .int 0], .tup [.str [115], .int 0, .int (-1)]]))) (gT 3 (gsCons (gN 2) (gsCons (gN 3) (gsCons (gN 4) (gsNil))))) (t_nearer_0) (e_nearer_0))) (aNil))))
def g_nearer : DFn := fnD 1 b_nearer 4
def b_is_summit : DStm := sRet (eOp2 dEq (eCB (bLen) (aCons (eCall 1 g_nearer (aCons (eVar 0) (aNil))) (aNil))) (eC (.int 4)))
def g_is_summit : DFn := fnD 1 b_is_summit 0
def w__law_local_right_0 : DStm := sSeq (sSet 4 (eCall 1 g_steps (aCons (eOpX (ownO "Place" g_PlaceX_mulX) (eVar 0) (eCall 1 g__law_step (aCons (eVar 3) (aNil)))) (aNil))))
    (sSeq (sIf (eB (eOp2 dNe (eCB (bAbs) (aCons (eOp2 iSub (eVar 4) (eVar 1)) (aNil))) (eC (.int 1)))) (sRet (eC (.bl false))) (sPass))
    (sSet 2 (eOp2 dAdd (eVar 2) (eIf (eB (eOp2 iLt (eVar 4) (eVar 1))) (eVar 3) (eC (.str []))))))
def e__law_local_right_1 : DE := eVar 3
def t__law_local_right_1 : DT := eB (eOp2 iLt (eCall 1 g_steps (aCons (eOpX (ownO "Place" g_PlaceX_mulX) (eInv "Place" g_PlaceX_invertX (eCall 1 g__law_step (aCons (eVar 3) (aNil)))) (eVar 0)) (aNil))) (eVar 1))
def b__law_local_right : DStm := sSeq (sAsgT (eTup (aCons (eCall 1 g_steps (aCons (eVar 0) (aNil))) (aCons (eC (.str [])) (aNil)))) (gT 2 (gsCons (gN 1) (gsCons (gN 2) (gsNil)))))
    (sSeq (sFor (itSeq (eC (.str [101, 110, 119, 115]))) (gN 3) (w__law_local_right_0))
    (sSeq (sIf (bOr (eB (eOp2 dNe (eCall 1 g_nearer (aCons (eVar 0) (aNil))) (eVar 2))) (eB (eOp2 dNe (eCall 1 g_is_summit (aCons (eVar 0) (aNil))) (eOp2 dEq (eCB (bLen) (aCons (eVar 2) (aNil))) (eC (.int 4)))))) (sRet (eC (.bl false))) (sPass))
    (sSeq (sSet 5 (eBM "str" mJoin (eC (.str [])) (aCons (eFrz (aLc [3] (itSeq (eC (.str [101, 110, 119, 115]))) (gN 3) (t__law_local_right_1) (e__law_local_right_1))) (aNil))))
    (sRet (eAndT (eOp2 dEq (eCall 1 g_first_letters (aCons (eVar 0) (aNil))) (eVar 5)) (eOp2 dEq (eOp2 dEq (eVar 1) (eC (.int 0))) (eOp2 dEq (eVar 2) (eC (.str [])))))))))
def g__law_local_right : DFn := fnD 1 b__law_local_right 5
def b__law_pen : DStm := sRet (eCellD (dDisp [(eC (.str [99, 101, 108, 108, 115]), eFrz (aList (aCons (eSlA (eVar 0) (oNone) (oSome (eC (.int 63)))) (aNil)))), (eC (.str [115, 116, 111, 112]), eC (.int 0)), (eC (.str [114, 101, 115, 116]), eC (.int 0))]))
def g__law_pen : DFn := fnD 1 b__law_pen 0
def w_merged_0 : DStm := sIf (bAnd (eTruO 1) (eB (eOp2 dEq (eIx (eIxO 1 (eNeg (eC (.int 1)))) (eC (.int 0))) (eVar 2)))) (sIxO 1 (eNeg (eC (.int 1))) (eTup (aCons (eVar 2) (aCons (eOp2 dAdd (eIx (eIxO 1 (eNeg (eC (.int 1)))) (eC (.int 1))) (eVar 3)) (aNil))))) (sIf (eB (eOp2 iGt (eVar 3) (eC (.int 0)))) (sApp 1 (aCons (eTup (aCons (eVar 2) (aCons (eVar 3) (aNil)))) (aNil))) (sPass))
def b_merged : DStm := sSeq (sSetO 1 (aMax (aNil)))
    (sSeq (sFor (itSeq (eVar 0)) (gT 2 (gsCons (gN 2) (gsCons (gN 3) (gsNil)))) (w_merged_0))
    (sRet (eCB (bTup) (aCons (eVar 1) (aNil)))))
def g_merged : DFn := fnD 1 b_merged 3
def b_is_list : DStm := sRet (eIsT ["Place", "Walk", "Lot", "Prices"] (eVar 0) (aCons (eC (.ty "list")) (aCons (eC (.ty "tuple")) (aNil))))
def g_is_list : DFn := fnD 1 b_is_list 0
def b_is_whole : DStm := sRet (eAndT (eCall 1 g_is_integer (aCons (eVar 0) (aNil))) (eOp2 iGe (eVar 0) (eVar 1)))
def g_is_whole : DFn := fnD 2 b_is_whole 0
def b_is_pair : DStm := sSeq (sIf (bOr (bNot (eTru (eCall 1 g_is_list (aCons (eVar 0) (aNil))))) (bOr (eB (eOp2 dNe (eCB (bLen) (aCons (eVar 0) (aNil))) (eC (.int 2)))) (bNot (eTru (eCB (bIsi ["Place", "Walk", "Lot", "Prices"]) (aCons (eIx (eVar 0) (eC (.int 0))) (aCons (eC (.ty "str")) (aNil)))))))) (sRet (eC (.bl false))) (sPass))
    (sRet (eAndT (eOp2 dEq (eCB (bLen) (aCons (eIx (eVar 0) (eC (.int 0))) (aNil))) (eC (.int 1))) (eAndT (eOp2 (dIn false) (eIx (eVar 0) (eC (.int 0))) (eC (.str [101, 110, 119, 115]))) (eCall 2 g_is_whole (aCons (eIx (eVar 0) (eC (.int 1))) (aCons (eC (.int 0)) (aNil)))))))
def g_is_pair : DFn := fnD 1 b_is_pair 0
def e_pairs_told_0 : DE := eOp2 (dIn false) (eVar 1) (eC (.str [101, 110, 119, 115]))
def e_pairs_told_1 : DE := eTup (aCons (eVar 1) (aCons (eC (.int 1)) (aNil)))
def e_pairs_told_2 : DE := eCall 1 g_is_pair (aCons (eVar 2) (aNil))
def e_pairs_told_3 : DE := eTup (aCons (eIx (eVar 2) (eC (.int 0))) (aCons (eIx (eVar 2) (eC (.int 1))) (aNil)))
def b_pairs_told : DStm := sSeq (sIf (bAnd (eTru (eCB (bIsi ["Place", "Walk", "Lot", "Prices"]) (aCons (eVar 0) (aCons (eC (.ty "str")) (aNil))))) (bAnd (eB (eOp2 iLe (eCB (bLen) (aCons (eVar 0) (aNil))) (eC (.int 10000)))) (eTru (eCB (bAll) (aCons (eFrz (aLc [1] (itSeq (eVar 0)) (gN 1) (bYes) (e_pairs_told_0))) (aNil)))))) (sRet (eFrz (aLc [1] (itSeq (eVar 0)) (gN 1) (bYes) (e_pairs_told_1)))) (sPass))
    (sSeq (sIf (bAnd (eTru (eCall 1 g_is_list (aCons (eVar 0) (aNil)))) (bAnd (eB (eOp2 iLe (eCB (bLen) (aCons (eVar 0) (aNil))) (eC (.int 10000)))) (eTru (eCB (bAll) (aCons (eFrz (aLc [2] (itSeq (eVar 0)) (gN 2) (bYes) (e_pairs_told_2))) (aNil)))))) (sRet (eFrz (aLc [2] (itSeq (eVar 0)) (gN 2) (bYes) (e_pairs_told_3)))) (sPass))
    (sRaise "BadWord" [118, 97, 108, 117, 101] (aCons (eVar 0) (aNil))))
def g_pairs_told : DFn := fnD 1 b_pairs_told 2
def b_WalkX_initX : DStm := sFldO "Walk" 0 [114, 117, 110, 115] (eCall 1 g_merged (aCons (eCall 1 g_pairs_told (aCons (eVar 1) (aNil))) (aNil)))
def g_WalkX_initX : DIn := inD "Walk" 1 b_WalkX_initX 0
def e_Walk_length_0 : DE := eVar 2
def b_Walk_length : DStm := sRet (eCB (bSum) (aCons (eFrz (aLc [1, 2] (itSeq (eFld ["Walk"] [114, 117, 110, 115] (eVar 0))) (gT 2 (gsCons (gN 1) (gsCons (gN 2) (gsNil)))) (bYes) (e_Walk_length_0))) (aNil)))
def g_Walk_length : DFn := fnD 1 b_Walk_length 2
def b_Walk_need_step : DStm := sIf (bOr (bNot (eTru (eCall 2 g_is_whole (aCons (eVar 1) (aCons (eC (.int 0)) (aNil)))))) (eB (eOp2 iGt (eVar 1) (eProp "Walk" g_Walk_length (eVar 0))))) (sRaise "BadNumber" [118, 97, 108, 117, 101] (aCons (eVar 1) (aNil))) (sPass)
def g_Walk_need_step : DFn := fnD 2 b_Walk_need_step 0
def w_Walk_parted_0 : DStm := sSeq (sSet 7 (eCB (bMin2) (aCons (eVar 4) (aCons (eVar 6) (aNil)))))
    (sSeq (sApp 2 (aCons (eTup (aCons (eVar 5) (aCons (eVar 7) (aNil)))) (aNil)))
    (sSeq (sApp 3 (aCons (eTup (aCons (eVar 5) (aCons (eOp2 iSub (eVar 6) (eVar 7)) (aNil)))) (aNil)))
    (sSet 4 (eOp2 iSub (eVar 4) (eVar 7)))))
def b_Walk_parted : DStm := sSeq (sPar3O 2 3 4 (aMax (aNil)) (aMax (aNil)) (eVar 1))
    (sSeq (sFor (itSeq (eFld ["Walk"] [114, 117, 110, 115] (eVar 0))) (gT 2 (gsCons (gN 5) (gsCons (gN 6) (gsNil)))) (w_Walk_parted_0))
    (sRet (eTup (aCons (eVar 2) (aCons (eVar 3) (aNil))))))
def g_Walk_parted : DFn := fnD 2 b_Walk_parted 6
def b_Walk_head : DStm := sSeq (sExpr (eMeth "Walk" [110, 101, 101, 100, 95, 115, 116, 101, 112] 2 g_Walk_need_step (eVar 0) (aCons (eVar 1) (aNil))))
    (sRet (eMake "Walk" 1 g_WalkX_initX (aCons (eIx (eMeth "Walk" [112, 97, 114, 116, 101, 100] 2 g_Walk_parted (eVar 0) (aCons (eVar 1) (aNil))) (eC (.int 0))) (aNil))))
def g_Walk_head : DFn := fnD 2 b_Walk_head 0
def b_gone_on : DStm := sSeq (sAsgT (eVar 0) (gT 3 (gsCons (gN 3) (gsCons (gN 4) (gsCons (gN 5) (gsNil))))))
    (sSeq (sIf (eB (eOp2 dEq (eVar 1) (eC (.str [101])))) (sRet (eTup (aCons (eOp2 dAdd (eVar 3) (eVar 2)) (aCons (eVar 4) (aCons (eVar 5) (aNil)))))) (sPass))
    (sSeq (sIf (eB (eOp2 dEq (eVar 1) (eC (.str [119])))) (sRet (eTup (aCons (eOp2 iSub (eVar 3) (eVar 2)) (aCons (eVar 4) (aCons (eVar 5) (aNil)))))) (sPass))
    (sRet (eIf (eB (eOp2 dEq (eVar 1) (eC (.str [110])))) (eTup (aCons (eVar 3) (aCons (eOp2 dAdd (eVar 4) (eVar 2)) (aCons (eOp2 dAdd (eVar 5) (eOp2 dMul (eVar 3) (eVar 2))) (aNil))))) (eTup (aCons (eVar 3) (aCons (eOp2 iSub (eVar 4) (eVar 2)) (aCons (eOp2 iSub (eVar 5) (eOp2 dMul (eVar 3) (eVar 2))) (aNil)))))))))
def g_gone_on : DFn := fnD 3 b_gone_on 3
def w_Walk_spots_0 : DStm := sApp 1 (aCons (eCall 3 g_gone_on (aCons (eIxO 1 (eNeg (eC (.int 1)))) (aCons (eVar 2) (aCons (eVar 3) (aNil))))) (aNil))
def b_Walk_spots : DStm := sSeq (sSetO 1 (aMax (aCons (eTup (aCons (eC (.int 0)) (aCons (eC (.int 0)) (aCons (eC (.int 0)) (aNil))))) (aNil))))
    (sSeq (sFor (itSeq (eFld ["Walk"] [114, 117, 110, 115] (eVar 0))) (gT 2 (gsCons (gN 2) (gsCons (gN 3) (gsNil)))) (w_Walk_spots_0))
    (sRet (eVar 1)))
def g_Walk_spots : DFn := fnD 1 b_Walk_spots 3
def b_Walk_place : DStm := sSeq (sSet 1 (eIx (eMeth "Walk" [115, 112, 111, 116, 115] 1 g_Walk_spots (eVar 0) aNil) (eNeg (eC (.int 1)))))
    (sRet (eMake "Place" 3 g_PlaceX_initX (aCons (eIx (eVar 1) (eC (.int 0))) (aCons (eIx (eVar 1) (eC (.int 1))) (aCons (eIx (eVar 1) (eC (.int 2))) (aNil))))))
def g_Walk_place : DFn := fnD 1 b_Walk_place 1
def b_Walk_at : DStm := sRet (eMeth "Walk" [112, 108, 97, 99, 101] 1 g_Walk_place (eMeth "Walk" [104, 101, 97, 100] 2 g_Walk_head (eVar 0) (aCons (eVar 1) (aNil))) aNil)
def g_Walk_at : DFn := fnD 2 b_Walk_at 0
def b_is_least_spot : DStm := sRet (eOp2 dEq (eCall 3 g_steps_of (aCons (eIx (eVar 0) (eC (.int 0))) (aCons (eIx (eVar 0) (eC (.int 1))) (aCons (eIx (eVar 0) (eC (.int 2))) (aNil))))) (eVar 1))
def g_is_least_spot : DFn := fnD 2 b_is_least_spot 0
def c_first_long_0 : DT := eB (eOp2 iGt (eOp2 iSub (eVar 5) (eVar 4)) (eC (.int 1)))
def w_first_long_0 : DStm := sSeq (sSet 6 (eOp2 iDiv (eOp2 dAdd (eVar 4) (eVar 5)) (eC (.int 2))))
    (sIf (eTru (eCall 2 g_is_least_spot (aCons (eCall 3 g_gone_on (aCons (eVar 0) (aCons (eVar 1) (aCons (eVar 6) (aNil))))) (aCons (eOp2 dAdd (eVar 2) (eVar 6)) (aNil))))) (sSet 4 (eVar 6)) (sSet 5 (eVar 6)))
def b_first_long : DStm := sSeq (sPar 4 5 (aCons (eC (.int 0)) (aCons (eVar 3) (aNil))))
    (sSeq (sWhile (c_first_long_0) (w_first_long_0))
    (sRet (eVar 5)))
def g_first_long : DFn := fnD 4 b_first_long 3
def w_Walk_first_not_least_0 : DStm := sSeq (sIf (bNot (eTru (eCall 2 g_is_least_spot (aCons (eCall 3 g_gone_on (aCons (eVar 2) (aCons (eVar 3) (aCons (eVar 4) (aNil))))) (aCons (eOp2 dAdd (eVar 1) (eVar 4)) (aNil)))))) (sRet (eOp2 dAdd (eVar 1) (eCall 4 g_first_long (aCons (eVar 2) (aCons (eVar 3) (aCons (eVar 1) (aCons (eVar 4) (aNil)))))))) (sPass))
    (sPar 1 2 (aCons (eOp2 dAdd (eVar 1) (eVar 4)) (aCons (eCall 3 g_gone_on (aCons (eVar 2) (aCons (eVar 3) (aCons (eVar 4) (aNil))))) (aNil))))
def b_Walk_first_not_least : DStm := sSeq (sAsgT (eTup (aCons (eC (.int 0)) (aCons (eTup (aCons (eC (.int 0)) (aCons (eC (.int 0)) (aCons (eC (.int 0)) (aNil))))) (aNil)))) (gT 2 (gsCons (gN 1) (gsCons (gN 2) (gsNil)))))
    (sSeq (sFor (itSeq (eFld ["Walk"] [114, 117, 110, 115] (eVar 0))) (gT 2 (gsCons (gN 3) (gsCons (gN 4) (gsNil)))) (w_Walk_first_not_least_0))
    (sRet (eC .non)))
def g_Walk_first_not_least : DFn := fnD 1 b_Walk_first_not_least 4
def b_Walk_is_least : DStm := sRet (eCall 2 g_is_least_spot (aCons (eIx (eMeth "Walk" [115, 112, 111, 116, 115] 1 g_Walk_spots (eVar 0) aNil) (eNeg (eC (.int 1)))) (aCons (eProp "Walk" g_Walk_length (eVar 0)) (aNil))))
def g_Walk_is_least : DFn := fnD 1 b_Walk_is_least 0
def b__law_pick : DStm := sRet (eIx (eVar 1) (eCall 2 g__law_draw (aCons (eVar 0) (aCons (eCB (bLen) (aCons (eVar 1) (aNil))) (aNil)))))
def g__law_pick : DFn := fnD 2 b__law_pick 0
def w__law_walk_right_0 : DStm := sApp 1 (aCons (eTup (aCons (eCall 2 g__law_pick (aCons (eVar 0) (aCons (eC (.str [101, 110, 119, 115])) (aNil)))) (aCons (eCall 2 g__law_big (aCons (eVar 0) (aCons (eCall 2 g__law_pick (aCons (eVar 0) (aCons (eFrz (aMax (aCons (eC (.int 4)) (aCons (eOp2 iPow (eC (.int 10)) (eC (.int 12))) (aNil))))) (aNil)))) (aNil)))) (aNil)))) (aNil))
def b__law_walk_right : DStm := sSeq (sSetO 1 (aMax (aNil)))
    (sSeq (sFor (itR1 (aCons (eCall 2 g__law_draw (aCons (eVar 0) (aCons (eC (.int 7)) (aNil)))) (aNil))) (gN 2) (w__law_walk_right_0))
    (sSeq (sSet 3 (eMake "Walk" 1 g_WalkX_initX (aCons (eVar 1) (aNil))))
    (sSeq (sSet 4 (eOp2 dEq (eCall 1 g_steps (aCons (eMeth "Walk" [112, 108, 97, 99, 101] 1 g_Walk_place (eVar 3) aNil) (aNil))) (eProp "Walk" g_Walk_length (eVar 3))))
    (sSeq (sSet 5 (eMeth "Walk" [102, 105, 114, 115, 116, 95, 110, 111, 116, 95, 108, 101, 97, 115, 116] 1 g_Walk_first_not_least (eVar 3) aNil))
    (sSeq (sIf (bOr (eB (eOp2 dNe (eMeth "Walk" [105, 115, 95, 108, 101, 97, 115, 116] 1 g_Walk_is_least (eVar 3) aNil) (eVar 4))) (bOr (eB (eOp2 dNe (eOp2 dIsN (eVar 5) (eC .non)) (eVar 4))) (eB (eOp2 dNe (eOp2 iMod (eOp2 iSub (eCall 1 g_steps (aCons (eMeth "Walk" [112, 108, 97, 99, 101] 1 g_Walk_place (eVar 3) aNil) (aNil))) (eProp "Walk" g_Walk_length (eVar 3))) (eC (.int 2))) (eC (.int 0)))))) (sRet (eC (.bl false))) (sPass))
    (sSeq (sIf (eB (eOp2 dIsN (eVar 5) (eC .non))) (sRet (eC (.bl true))) (sPass))
    (sRet (eAndT (eOp2 dNe (eCall 1 g_steps (aCons (eMeth "Walk" [97, 116] 2 g_Walk_at (eVar 3) (aCons (eVar 5) (aNil))) (aNil))) (eVar 5)) (eOp2 dEq (eCall 1 g_steps (aCons (eMeth "Walk" [97, 116] 2 g_Walk_at (eVar 3) (aCons (eOp2 iSub (eVar 5) (eC (.int 1))) (aNil))) (aNil))) (eOp2 iSub (eVar 5) (eC (.int 1))))))))))))
def g__law_walk_right : DFn := fnD 1 b__law_walk_right 5
def b_PlaceX_eqX : DStm := sSeq (sIf (bNot (eTru (eCB (bIsi ["Place", "Walk", "Lot", "Prices"]) (aCons (eVar 1) (aCons (eC (.cls "Place")) (aNil)))))) (sRet (eC (.bl false))) (sPass))
    (sRet (eOp2 dEq (eTup (aCons (eFld ["Place"] [120] (eVar 0)) (aCons (eFld ["Place"] [121] (eVar 0)) (aCons (eFld ["Place"] [97, 114, 101, 97] (eVar 0)) (aNil))))) (eTup (aCons (eFld ["Place"] [120] (eVar 1)) (aCons (eFld ["Place"] [121] (eVar 1)) (aCons (eFld ["Place"] [97, 114, 101, 97] (eVar 1)) (aNil)))))))
def g_PlaceX_eqX : DFn := fnD 2 b_PlaceX_eqX 0
def w_PricesX_initX_0 : DStm := sIf (bOr (bNot (eTru (eCall 2 g_is_whole (aCons (eVar 5) (aCons (eC (.int 1)) (aNil)))))) (eB (eOp2 iGt (eVar 5) (eC (.int 1000))))) (sRaise "BadNumber" [118, 97, 108, 117, 101] (aCons (eVar 5) (aNil))) (sPass)
def b_PricesX_initX : DStm := sSeq (sFor (itSeq (eTup (aCons (eVar 1) (aCons (eVar 2) (aCons (eVar 3) (aCons (eVar 4) (aNil))))))) (gN 5) (w_PricesX_initX_0))
    (sSeq (sFldO "Prices" 0 [101, 97, 115, 116] (eVar 1))
    (sSeq (sFldO "Prices" 0 [110, 111, 114, 116, 104] (eVar 2))
    (sSeq (sFldO "Prices" 0 [119, 101, 115, 116] (eVar 3))
    (sFldO "Prices" 0 [115, 111, 117, 116, 104] (eVar 4)))))
def g_PricesX_initX : DIn := inD "Prices" 4 b_PricesX_initX 1
def w_LotX_initX_0 : DStm := sIf (bNot (eTru (eCall 2 g_is_whole (aCons (eVar 5) (aCons (eC (.int 0)) (aNil)))))) (sRaise "BadNumber" [118, 97, 108, 117, 101] (aCons (eVar 5) (aNil))) (sPass)
def b_LotX_initX : DStm := sSeq (sFor (itSeq (eTup (aCons (eVar 1) (aCons (eVar 2) (aCons (eVar 3) (aCons (eVar 4) (aNil))))))) (gN 5) (w_LotX_initX_0))
    (sSeq (sFldO "Lot" 0 [101, 97, 115, 116] (eVar 1))
    (sSeq (sFldO "Lot" 0 [110, 111, 114, 116, 104] (eVar 2))
    (sSeq (sFldO "Lot" 0 [119, 101, 115, 116] (eVar 3))
    (sFldO "Lot" 0 [115, 111, 117, 116, 104] (eVar 4)))))
def g_LotX_initX : DIn := inD "Lot" 4 b_LotX_initX 1
def c_bezout_of_0 : DT := eB (eOp2 iGt (eIx (eVar 3) (eC (.int 0))) (eC (.int 0)))
def w_bezout_of_0 : DStm := sSeq (sSet 4 (eOp2 iDiv (eIx (eVar 2) (eC (.int 0))) (eIx (eVar 3) (eC (.int 0)))))
    (sPar 2 3 (aCons (eVar 3) (aCons (eTup (aCons (eOp2 iSub (eIx (eVar 2) (eC (.int 0))) (eOp2 dMul (eVar 4) (eIx (eVar 3) (eC (.int 0))))) (aCons (eOp2 iSub (eIx (eVar 2) (eC (.int 1))) (eOp2 dMul (eVar 4) (eIx (eVar 3) (eC (.int 1))))) (aCons (eOp2 iSub (eIx (eVar 2) (eC (.int 2))) (eOp2 dMul (eVar 4) (eIx (eVar 3) (eC (.int 2))))) (aNil))))) (aNil))))
def b_bezout_of : DStm := sSeq (sPar 2 3 (aCons (eTup (aCons (eCB (bAbs) (aCons (eVar 0) (aNil))) (aCons (eIf (eB (eOp2 iGe (eVar 0) (eC (.int 0)))) (eC (.int 1)) (eNeg (eC (.int 1)))) (aCons (eC (.int 0)) (aNil))))) (aCons (eTup (aCons (eCB (bAbs) (aCons (eVar 1) (aNil))) (aCons (eC (.int 0)) (aCons (eIf (eB (eOp2 iGe (eVar 1) (eC (.int 0)))) (eC (.int 1)) (eNeg (eC (.int 1)))) (aNil))))) (aNil))))
    (sSeq (sWhile (c_bezout_of_0) (w_bezout_of_0))
    (sRet (eVar 2)))
def g_bezout_of : DFn := fnD 2 b_bezout_of 3
def b_ceiling : DStm := sRet (eNeg (eOp2 iDiv (eNeg (eVar 0)) (eVar 1)))
def g_ceiling : DFn := fnD 2 b_ceiling 0
def b_lowest : DStm := sSeq (sIf (eB (eOp2 iLt (eOp2 dMul (eVar 4) (eVar 2)) (eOp2 dMul (eOp2 dMul (eVar 3) (eVar 0)) (eVar 0)))) (sRet (eOp2 dAdd (eOp2 dMul (eVar 3) (eVar 0)) (eCall 2 g_ceiling (aCons (eOp2 dMul (eVar 4) (eVar 2)) (aCons (eVar 0) (aNil)))))) (sPass))
    (sSeq (sIf (eB (eOp2 iLt (eOp2 dMul (eVar 3) (eVar 2)) (eOp2 dMul (eOp2 dMul (eVar 4) (eVar 1)) (eVar 1)))) (sRet (eOp2 dAdd (eOp2 dMul (eVar 4) (eVar 1)) (eCall 2 g_ceiling (aCons (eOp2 dMul (eVar 3) (eVar 2)) (aCons (eVar 1) (aNil)))))) (sPass))
    (sSeq (sSet 5 (eOp2 dMul (eOp2 dMul (eOp2 dMul (eC (.int 4)) (eVar 3)) (eVar 4)) (eVar 2)))
    (sSeq (sSet 6 (eCall 1 g_whole_root (aCons (eVar 5) (aNil))))
    (sRet (eIf (eB (eOp2 dEq (eOp2 dMul (eVar 6) (eVar 6)) (eVar 5))) (eVar 6) (eOp2 dAdd (eVar 6) (eC (.int 1))))))))
def g_lowest : DFn := fnD 5 b_lowest 2
def e_sides_of_price_0 : DE := eTup (aCons (eVar 12) (aCons (eOp2 iDiv (eOp2 iSub (eVar 0) (eOp2 dMul (eVar 3) (eVar 12))) (eVar 4)) (aNil)))
def t_sides_of_price_0 : DT := eB (eChain iLe iLe (eVar 1) (eVar 12) (eVar 9))
def b_sides_of_price : DStm := sSeq (sIf (eTru (eOp2 iMod (eVar 0) (eVar 5))) (sRet (eFrz (aMax (aNil)))) (sPass))
    (sSeq (sSet 7 (eOp2 iDiv (eVar 4) (eVar 5)))
    (sSeq (sSet 8 (eOp2 iMod (eOp2 dMul (eOp2 iDiv (eVar 0) (eVar 5)) (eVar 6)) (eVar 7)))
    (sSeq (sSet 9 (eOp2 iDiv (eOp2 iSub (eVar 0) (eOp2 dMul (eVar 4) (eVar 2))) (eVar 3)))
    (sSeq (sSet 10 (eCB (bMin2) (aCons (eCB (bMax2) (aCons (eCB (bInt) (aCons (eOp2 iDiv (eVar 0) (eOp2 dMul (eC (.int 2)) (eVar 3))) (aNil))) (aCons (eCB (bInt) (aCons (eVar 1) (aNil))) (aNil)))) (aCons (eCB (bInt) (aCons (eVar 9) (aNil))) (aNil)))))
    (sSeq (sSet 11 (eOp2 iSub (eVar 10) (eOp2 iMod (eOp2 iSub (eVar 10) (eVar 8)) (eVar 7))))
    (sRet (eFrz (aLc [12] (itSeq (eTup (aCons (eVar 11) (aCons (eOp2 dAdd (eVar 11) (eVar 7)) (aNil))))) (gN 12) (t_sides_of_price_0) (e_sides_of_price_0)))))))))
def g_sides_of_price : DFn := fnD 7 b_sides_of_price 6
def w_best_frame_0 : DStm := sIf (eB (eOp2 iGe (eOp2 dMul (eIx (eVar 9) (eC (.int 0))) (eIx (eVar 9) (eC (.int 1)))) (eVar 2))) (sRet (eVar 9)) (sPass)
def c_best_frame_1 : DT := eTru (eC (.bl true))
def w_best_frame_1 : DStm := sSeq (sFor (itSeq (eCall 7 g_sides_of_price (aCons (eVar 8) (aCons (eVar 0) (aCons (eVar 1) (aCons (eVar 3) (aCons (eVar 4) (aCons (eVar 5) (aCons (eVar 6) (aNil)))))))))) (gN 9) (w_best_frame_0))
    (sAug 8 (fun i j => i + j) (eVar 5))
def b_best_frame : DStm := sSeq (sIf (eB (eOp2 iGe (eOp2 dMul (eVar 0) (eVar 1)) (eVar 2))) (sRet (eTup (aCons (eVar 0) (aCons (eVar 1) (aNil))))) (sPass))
    (sSeq (sAsgT (eCall 2 g_bezout_of (aCons (eVar 3) (aCons (eVar 4) (aNil)))) (gT 3 (gsCons (gN 5) (gsCons (gN 6) (gsCons (gN 7) (gsNil))))))
    (sSeq (sSet 8 (eOp2 dMul (eCall 2 g_ceiling (aCons (eCall 5 g_lowest (aCons (eVar 0) (aCons (eVar 1) (aCons (eVar 2) (aCons (eVar 3) (aCons (eVar 4) (aNil))))))) (aCons (eVar 5) (aNil)))) (eVar 5)))
    (sWhile (c_best_frame_1) (w_best_frame_1))))
def g_best_frame : DFn := fnD 5 b_best_frame 5
def b_room_wanted : DStm := sSeq (sSet 1 (eOp2 dMul (eFld ["Place"] [120] (eVar 0)) (eFld ["Place"] [121] (eVar 0))))
    (sRet (eCB (bMax2) (aCons (eCB (bInt) (aCons (eOp2 dAdd (eFld ["Place"] [97, 114, 101, 97] (eVar 0)) (eCB (bMax2) (aCons (eC (.int 0)) (aCons (eCB (bInt) (aCons (eNeg (eVar 1)) (aNil))) (aNil))))) (aNil))) (aCons (eCB (bInt) (aCons (eOp2 iSub (eCB (bMax2) (aCons (eC (.int 0)) (aCons (eCB (bInt) (aCons (eVar 1) (aNil))) (aNil)))) (eFld ["Place"] [97, 114, 101, 97] (eVar 0))) (aNil))) (aNil)))))
def g_room_wanted : DFn := fnD 1 b_room_wanted 1
def b_Prices_frame : DStm := sSeq (sExpr (eCall 1 g_need_place (aCons (eVar 1) (aNil))))
    (sSeq (sPar 2 3 (aCons (eOp2 dAdd (eFld ["Lot", "Prices"] [101, 97, 115, 116] (eVar 0)) (eFld ["Lot", "Prices"] [119, 101, 115, 116] (eVar 0))) (aCons (eOp2 dAdd (eFld ["Lot", "Prices"] [110, 111, 114, 116, 104] (eVar 0)) (eFld ["Lot", "Prices"] [115, 111, 117, 116, 104] (eVar 0))) (aNil))))
    (sRet (eCall 5 g_best_frame (aCons (eCB (bAbs) (aCons (eFld ["Place"] [120] (eVar 1)) (aNil))) (aCons (eCB (bAbs) (aCons (eFld ["Place"] [121] (eVar 1)) (aNil))) (aCons (eCall 1 g_room_wanted (aCons (eVar 1) (aNil))) (aCons (eVar 2) (aCons (eVar 3) (aNil)))))))))
def g_Prices_frame : DFn := fnD 2 b_Prices_frame 2
def b_Prices_lot_of : DStm := sSeq (sAsgT (eMeth "Prices" [102, 114, 97, 109, 101] 2 g_Prices_frame (eVar 0) (aCons (eVar 1) (aNil))) (gT 2 (gsCons (gN 2) (gsCons (gN 3) (gsNil)))))
    (sSeq (sPar 4 5 (aCons (eOp2 iSub (eVar 2) (eCB (bAbs) (aCons (eFld ["Place"] [120] (eVar 1)) (aNil)))) (aCons (eOp2 iSub (eVar 3) (eCB (bAbs) (aCons (eFld ["Place"] [121] (eVar 1)) (aNil)))) (aNil))))
    (sSeq (sPar 6 7 (aCons (eOp2 dAdd (eCB (bMax2) (aCons (eC (.int 0)) (aCons (eCB (bInt) (aCons (eFld ["Place"] [120] (eVar 1)) (aNil))) (aNil)))) (eVar 4)) (aCons (eOp2 dAdd (eCB (bMax2) (aCons (eC (.int 0)) (aCons (eCB (bInt) (aCons (eNeg (eFld ["Place"] [120] (eVar 1))) (aNil))) (aNil)))) (eVar 4)) (aNil))))
    (sRet (eMake "Lot" 4 g_LotX_initX (aCons (eVar 6) (aCons (eOp2 dAdd (eCB (bMax2) (aCons (eC (.int 0)) (aCons (eCB (bInt) (aCons (eFld ["Place"] [121] (eVar 1)) (aNil))) (aNil)))) (eVar 5)) (aCons (eVar 7) (aCons (eOp2 dAdd (eCB (bMax2) (aCons (eC (.int 0)) (aCons (eCB (bInt) (aCons (eNeg (eFld ["Place"] [121] (eVar 1))) (aNil))) (aNil)))) (eVar 5)) (aNil)))))))))
def g_Prices_lot_of : DFn := fnD 2 b_Prices_lot_of 6
def b_Prices_least_price : DStm := sSeq (sSet 2 (eMeth "Prices" [108, 111, 116, 95, 111, 102] 2 g_Prices_lot_of (eVar 0) (aCons (eVar 1) (aNil))))
    (sRet (eOp2 dAdd (eOp2 dAdd (eOp2 dAdd (eOp2 dMul (eFld ["Lot", "Prices"] [101, 97, 115, 116] (eVar 0)) (eFld ["Lot", "Prices"] [101, 97, 115, 116] (eVar 2))) (eOp2 dMul (eFld ["Lot", "Prices"] [110, 111, 114, 116, 104] (eVar 0)) (eFld ["Lot", "Prices"] [110, 111, 114, 116, 104] (eVar 2)))) (eOp2 dMul (eFld ["Lot", "Prices"] [119, 101, 115, 116] (eVar 0)) (eFld ["Lot", "Prices"] [119, 101, 115, 116] (eVar 2)))) (eOp2 dMul (eFld ["Lot", "Prices"] [115, 111, 117, 116, 104] (eVar 0)) (eFld ["Lot", "Prices"] [115, 111, 117, 116, 104] (eVar 2)))))
def g_Prices_least_price : DFn := fnD 2 b_Prices_least_price 1
def b_best_sides : DStm := sSeq (sIf (eB (eOp2 iLe (eVar 2) (eCB (bAbs) (aCons (eOp2 iSub (eVar 0) (eVar 1)) (aNil))))) (sRet (eIf (eB (eOp2 iGe (eVar 0) (eVar 1))) (eTup (aCons (eVar 0) (aCons (eOp2 dAdd (eVar 1) (eVar 2)) (aNil)))) (eTup (aCons (eOp2 dAdd (eVar 0) (eVar 2)) (aCons (eVar 1) (aNil)))))) (sPass))
    (sRet (eTup (aCons (eOp2 iDiv (eOp2 dAdd (eOp2 dAdd (eOp2 dAdd (eVar 0) (eVar 1)) (eVar 2)) (eC (.int 1))) (eC (.int 2))) (aCons (eOp2 iDiv (eOp2 dAdd (eOp2 dAdd (eVar 0) (eVar 1)) (eVar 2)) (eC (.int 2))) (aNil)))))
def g_best_sides : DFn := fnD 3 b_best_sides 0
def b_areas_of : DStm := sSeq (sSet 3 (eOp2 iSub (eOp2 iSub (eVar 2) (eCB (bAbs) (aCons (eVar 0) (aNil)))) (eCB (bAbs) (aCons (eVar 1) (aNil)))))
    (sSeq (sIf (bOr (eB (eOp2 iLt (eVar 3) (eC (.int 0)))) (eB (eOp2 dEq (eOp2 iMod (eVar 3) (eC (.int 2))) (eC (.int 1))))) (sRet (eC .non)) (sPass))
    (sSeq (sAsgT (eCall 3 g_best_sides (aCons (eCB (bAbs) (aCons (eVar 0) (aNil))) (aCons (eCB (bAbs) (aCons (eVar 1) (aNil))) (aCons (eOp2 iDiv (eVar 3) (eC (.int 2))) (aNil))))) (gT 2 (gsCons (gN 4) (gsCons (gN 5) (gsNil)))))
    (sSeq (sSet 6 (eOp2 iSub (eOp2 dMul (eOp2 dMul (eC (.int 2)) (eVar 4)) (eVar 5)) (eCB (bAbs) (aCons (eOp2 dMul (eVar 0) (eVar 1)) (aNil)))))
    (sRet (eTup (aCons (eOp2 iDiv (eOp2 iSub (eOp2 dMul (eVar 0) (eVar 1)) (eVar 6)) (eC (.int 2))) (aCons (eOp2 iDiv (eOp2 dAdd (eOp2 dMul (eVar 0) (eVar 1)) (eVar 6)) (eC (.int 2))) (aNil))))))))
def g_areas_of : DFn := fnD 3 b_areas_of 4
def w_areas_0 : DStm := sIf (bNot (eTru (eCall 1 g_is_integer (aCons (eVar 3) (aNil))))) (sRaise "BadNumber" [118, 97, 108, 117, 101] (aCons (eVar 3) (aNil))) (sPass)
def b_areas : DStm := sSeq (sFor (itSeq (eTup (aCons (eVar 0) (aCons (eVar 1) (aNil))))) (gN 3) (w_areas_0))
    (sSeq (sIf (bNot (eTru (eCall 2 g_is_whole (aCons (eVar 2) (aCons (eC (.int 0)) (aNil)))))) (sRaise "BadNumber" [118, 97, 108, 117, 101] (aCons (eVar 2) (aNil))) (sPass))
    (sRet (eCall 3 g_areas_of (aCons (eVar 0) (aCons (eVar 1) (aCons (eVar 2) (aNil)))))))
def g_areas : DFn := fnD 3 b_areas 1
def b_distance : DStm := sSeq (sExpr (eCall 1 g_need_place (aCons (eVar 0) (aNil))))
    (sSeq (sExpr (eCall 1 g_need_place (aCons (eVar 1) (aNil))))
    (sRet (eCall 1 g_steps (aCons (eOpX (ownO "Place" g_PlaceX_mulX) (eInv "Place" g_PlaceX_invertX (eVar 0)) (eVar 1)) (aNil)))))
def g_distance : DFn := fnD 2 b_distance 0
def b_home_place : DStm := sRet (eMake "Place" 3 g_PlaceX_initX (aCons (eC (.int 0)) (aCons (eC (.int 0)) (aCons (eC (.int 0)) (aNil)))))
def g_home_place : DFn := fnD 0 b_home_place 0
def b_walk_pairs : DStm := sSeq (sAsgT (eCall 3 g_best_sides (aCons (eVar 0) (aCons (eVar 1) (aCons (eVar 3) (aNil))))) (gT 2 (gsCons (gN 4) (gsCons (gN 5) (gsNil)))))
    (sSeq (sIf (eB (eOp2 dEq (eOp2 dMul (eVar 4) (eVar 5)) (eC (.int 0)))) (sRet (eFrz (aMax (aCons (eTup (aCons (eC (.str [115])) (aCons (eOp2 iSub (eVar 5) (eVar 1)) (aNil)))) (aCons (eTup (aCons (eC (.str [101])) (aCons (eVar 4) (aNil)))) (aCons (eTup (aCons (eC (.str [110])) (aCons (eVar 5) (aNil)))) (aCons (eTup (aCons (eC (.str [119])) (aCons (eOp2 iSub (eVar 4) (eVar 0)) (aNil)))) (aNil)))))))) (sPass))
    (sSeq (sAsgT (eCB (bDivmod) (aCons (eOp2 iSub (eOp2 dMul (eVar 4) (eVar 5)) (eVar 2)) (aCons (eVar 5) (aNil)))) (gT 2 (gsCons (gN 6) (gsCons (gN 7) (gsNil)))))
    (sSeq (sIf (eB (eOp2 dEq (eVar 6) (eVar 4))) (sPar 6 7 (aCons (eOp2 iSub (eVar 4) (eC (.int 1))) (aCons (eVar 5) (aNil)))) (sPass))
    (sRet (eFrz (aMax (aCons (eTup (aCons (eC (.str [115])) (aCons (eOp2 iSub (eVar 5) (eVar 1)) (aNil)))) (aCons (eTup (aCons (eC (.str [101])) (aCons (eOp2 iSub (eOp2 iSub (eVar 4) (eC (.int 1))) (eVar 6)) (aNil)))) (aCons (eTup (aCons (eC (.str [110])) (aCons (eVar 7) (aNil)))) (aCons (eTup (aCons (eC (.str [101])) (aCons (eC (.int 1)) (aNil)))) (aCons (eTup (aCons (eC (.str [110])) (aCons (eOp2 iSub (eVar 5) (eVar 7)) (aNil)))) (aCons (eTup (aCons (eC (.str [101])) (aCons (eVar 6) (aNil)))) (aCons (eTup (aCons (eC (.str [119])) (aCons (eOp2 iSub (eVar 4) (eVar 0)) (aNil)))) (aNil))))))))))))))
def g_walk_pairs : DFn := fnD 4 b_walk_pairs 4
def e_pairs_to_0 : DE := eTup (aCons (eDGet (eVar 5) (eVar 6)) (aCons (eVar 7) (aNil)))
def b_pairs_to : DStm := sSeq (sSet 4 (eCall 3 g_areas_of (aCons (eVar 0) (aCons (eVar 1) (aCons (eVar 3) (aNil))))))
    (sSeq (sIf (bOr (eB (eOp2 dIsN (eVar 4) (eC .non))) (bNot (eB (eChain iLe iLe (eIx (eVar 4) (eC (.int 0))) (eVar 2) (eIx (eVar 4) (eC (.int 1))))))) (sRet (eC .non)) (sPass))
    (sSeq (sSet 5 (eFrzD (dDisp [(eC (.str [101]), eC (.str [101])), (eC (.str [110]), eC (.str [110])), (eC (.str [119]), eC (.str [119])), (eC (.str [115]), eC (.str [115]))])))
    (sSeq (sIf (eB (eOp2 iLt (eVar 0) (eC (.int 0)))) (sSeq (sPar 0 2 (aCons (eNeg (eVar 0)) (aCons (eNeg (eVar 2)) (aNil))))
    (sSet 5 (eFrzD (dDisp [(eC (.str [101]), eDGet (eVar 5) (eC (.str [119]))), (eC (.str [110]), eDGet (eVar 5) (eC (.str [110]))), (eC (.str [119]), eDGet (eVar 5) (eC (.str [101]))), (eC (.str [115]), eDGet (eVar 5) (eC (.str [115])))])))) (sPass))
    (sSeq (sIf (eB (eOp2 iLt (eVar 1) (eC (.int 0)))) (sSeq (sPar 1 2 (aCons (eNeg (eVar 1)) (aCons (eNeg (eVar 2)) (aNil))))
    (sSet 5 (eFrzD (dDisp [(eC (.str [101]), eDGet (eVar 5) (eC (.str [101]))), (eC (.str [110]), eDGet (eVar 5) (eC (.str [115]))), (eC (.str [119]), eDGet (eVar 5) (eC (.str [119]))), (eC (.str [115]), eDGet (eVar 5) (eC (.str [110])))])))) (sPass))
    (sSeq (sIf (eB (eOp2 iLt (eOp2 dMul (eC (.int 2)) (eVar 2)) (eOp2 dMul (eVar 0) (eVar 1)))) (sSeq (sPar3 0 1 2 (aCons (eVar 1) (aCons (eVar 0) (aCons (eOp2 iSub (eOp2 dMul (eVar 0) (eVar 1)) (eVar 2)) (aNil)))))
    (sSet 5 (eFrzD (dDisp [(eC (.str [101]), eDGet (eVar 5) (eC (.str [110]))), (eC (.str [110]), eDGet (eVar 5) (eC (.str [101]))), (eC (.str [119]), eDGet (eVar 5) (eC (.str [115]))), (eC (.str [115]), eDGet (eVar 5) (eC (.str [119])))])))) (sPass))
    (sRet (eFrz (aLc [6, 7] (itSeq (eCall 4 g_walk_pairs (aCons (eVar 0) (aCons (eVar 1) (aCons (eVar 2) (aCons (eOp2 iDiv (eOp2 iSub (eOp2 iSub (eVar 3) (eVar 0)) (eVar 1)) (eC (.int 2))) (aNil))))))) (gT 2 (gsCons (gN 6) (gsCons (gN 7) (gsNil)))) (bYes) (e_pairs_to_0)))))))))
def g_pairs_to : DFn := fnD 4 b_pairs_to 4
def b_walk_of : DStm := sSeq (sExpr (eCall 1 g_need_place (aCons (eVar 0) (aNil))))
    (sSeq (sIf (bNot (eTru (eCall 2 g_is_whole (aCons (eVar 1) (aCons (eC (.int 0)) (aNil)))))) (sRaise "BadNumber" [118, 97, 108, 117, 101] (aCons (eVar 1) (aNil))) (sPass))
    (sSeq (sSet 2 (eCall 4 g_pairs_to (aCons (eFld ["Place"] [120] (eVar 0)) (aCons (eFld ["Place"] [121] (eVar 0)) (aCons (eFld ["Place"] [97, 114, 101, 97] (eVar 0)) (aCons (eVar 1) (aNil)))))))
    (sRet (eIf (eB (eOp2 dIsN (eVar 2) (eC .non))) (eC .non) (eMake "Walk" 1 g_WalkX_initX (aCons (eVar 2) (aNil)))))))
def g_walk_of : DFn := fnD 2 b_walk_of 1
def b_least_walk : DStm := sRet (eCall 2 g_walk_of (aCons (eVar 0) (aCons (eCall 1 g_steps (aCons (eVar 0) (aNil))) (aNil))))
def g_least_walk : DFn := fnD 1 b_least_walk 0
def w_lies_between_0 : DStm := sExpr (eCall 1 g_need_place (aCons (eVar 3) (aNil)))
def b_lies_between : DStm := sSeq (sFor (itSeq (eTup (aCons (eVar 0) (aCons (eVar 1) (aCons (eVar 2) (aNil)))))) (gN 3) (w_lies_between_0))
    (sRet (eOp2 dEq (eOp2 dAdd (eCall 2 g_distance (aCons (eVar 1) (aCons (eVar 0) (aNil)))) (eCall 2 g_distance (aCons (eVar 0) (aCons (eVar 2) (aNil))))) (eCall 2 g_distance (aCons (eVar 1) (aCons (eVar 2) (aNil))))))
def g_lies_between : DFn := fnD 3 b_lies_between 1
def w__law_walks_right_0 : DStm := sSeq (sIf (eB (eOp2 iLt (eOp2 dAdd (eVar 2) (eVar 6)) (eC (.int 0)))) (sCont) (sPass))
    (sSeq (sPar 7 8 (aCons (eCall 2 g_walk_of (aCons (eVar 1) (aCons (eOp2 dAdd (eVar 2) (eVar 6)) (aNil)))) (aCons (eCall 3 g_areas (aCons (eFld ["Place"] [120] (eVar 1)) (aCons (eFld ["Place"] [121] (eVar 1)) (aCons (eOp2 dAdd (eVar 2) (eVar 6)) (aNil))))) (aNil))))
    (sSeq (sSet 9 (eAndT (eOp2 dNotN (eVar 8) (eC .non)) (eChain iLe iLe (eIx (eVar 8) (eC (.int 0))) (eFld ["Place"] [97, 114, 101, 97] (eVar 1)) (eIx (eVar 8) (eC (.int 1))))))
    (sSeq (sIf (bOr (eB (eOp2 dNe (eVar 9) (eOp2 dNotN (eVar 7) (eC .non)))) (eB (eOp2 dNe (eVar 9) (eAndT (eOp2 iGe (eVar 6) (eC (.int 0))) (eOp2 dEq (eOp2 iMod (eCB (bInt) (aCons (eVar 6) (aNil))) (eC (.int 2))) (eC (.int 0))))))) (sRet (eC (.bl false))) (sPass))
    (sSeq (sIf (eB (eOp2 dIsN (eVar 7) (eC .non))) (sCont) (sPass))
    (sIf (bOr (eB (eOpX (ownNe "Place" g_PlaceX_eqX) (eMeth "Walk" [112, 108, 97, 99, 101] 1 g_Walk_place (eVar 7) aNil) (eVar 1))) (bOr (eB (eOp2 dNe (eProp "Walk" g_Walk_length (eVar 7)) (eOp2 dAdd (eVar 2) (eVar 6)))) (eB (eOp2 iGt (eCB (bLen) (aCons (eFld ["Walk"] [114, 117, 110, 115] (eVar 7)) (aNil))) (eC (.int 7)))))) (sRet (eC (.bl false))) (sPass))))))
def b__law_walks_right : DStm := sSeq (sPar 2 3 (aCons (eCall 1 g_steps (aCons (eVar 1) (aNil))) (aCons (eCall 1 g_least_walk (aCons (eVar 1) (aNil))) (aNil))))
    (sSeq (sIf (bOr (eB (eOpX (ownNe "Place" g_PlaceX_eqX) (eMeth "Walk" [112, 108, 97, 99, 101] 1 g_Walk_place (eVar 3) aNil) (eVar 1))) (bOr (eB (eOp2 dNe (eProp "Walk" g_Walk_length (eVar 3)) (eVar 2))) (bOr (eB (eOp2 iGt (eCB (bLen) (aCons (eFld ["Walk"] [114, 117, 110, 115] (eVar 3)) (aNil))) (eC (.int 6)))) (bNot (eTru (eMeth "Walk" [105, 115, 95, 108, 101, 97, 115, 116] 1 g_Walk_is_least (eVar 3) aNil)))))) (sRet (eC (.bl false))) (sPass))
    (sSeq (sIf (bOr (eB (eOp2 dNe (eMeth "Prices" [108, 101, 97, 115, 116, 95, 112, 114, 105, 99, 101] 2 g_Prices_least_price (eMake "Prices" 4 g_PricesX_initX (aCons (eC (.int 1)) (aCons (eC (.int 1)) (aCons (eC (.int 1)) (aCons (eC (.int 1)) (aNil)))))) (aCons (eVar 1) (aNil))) (eVar 2))) (eB (eOp2 dNe (eCall 2 g_distance (aCons (eCall 0 g_home_place aNil) (aCons (eVar 1) (aNil)))) (eVar 2)))) (sRet (eC (.bl false))) (sPass))
    (sSeq (sSet 4 (eCall 2 g__law_big (aCons (eVar 0) (aCons (eOp2 dAdd (eVar 2) (eC (.int 1))) (aNil)))))
    (sSeq (sSet 5 (eMeth "Walk" [97, 116] 2 g_Walk_at (eVar 3) (aCons (eVar 4) (aNil))))
    (sSeq (sIf (bOr (eB (eOp2 dNe (eCall 1 g_steps (aCons (eVar 5) (aNil))) (eVar 4))) (bOr (bNot (eTru (eCall 3 g_lies_between (aCons (eVar 5) (aCons (eCall 0 g_home_place aNil) (aCons (eVar 1) (aNil))))))) (eB (eOp2 dNe (eCall 2 g_distance (aCons (eVar 5) (aCons (eVar 1) (aNil)))) (eOp2 iSub (eVar 2) (eVar 4)))))) (sRet (eC (.bl false))) (sPass))
    (sSeq (sFor (itSeq (eFrz (aMax (aCons (eNeg (eC (.int 2))) (aCons (eNeg (eC (.int 1))) (aCons (eC (.int 0)) (aCons (eC (.int 1)) (aCons (eC (.int 2)) (aCons (eOp2 dMul (eC (.int 2)) (eCall 2 g__law_draw (aCons (eVar 0) (aCons (eC (.int 40)) (aNil))))) (aNil)))))))))) (gN 6) (w__law_walks_right_0))
    (sRet (eC (.bl true)))))))))
def g__law_walks_right : DFn := fnD 2 b__law_walks_right 8
def w_law_0 : DStm := sSeq (sPar 3 4 (aCons (eCall 1 g__law_drawn (aCons (eVar 1) (aNil))) (aCons (eCall 1 g__law_drawn (aCons (eVar 1) (aNil))) (aNil))))
    (sSeq (sSet 5 (eCall 1 g__law_drawn (aCons (eVar 1) (aNil))))
    (sSeq (sIf (bOr (bNot (eTru (eCall 1 g__law_local_right (aCons (eVar 3) (aNil))))) (bOr (bNot (eTru (eCall 2 g__law_walks_right (aCons (eVar 1) (aCons (eVar 4) (aNil)))))) (bNot (eTru (eCall 1 g__law_walk_right (aCons (eVar 1) (aNil))))))) (sRet (eC (.bl false))) (sPass))
    (sSeq (sPar 6 7 (aCons (eCall 2 g_distance (aCons (eVar 3) (aCons (eVar 4) (aNil)))) (aCons (eCall 2 g_distance (aCons (eVar 4) (aCons (eVar 5) (aNil)))) (aNil))))
    (sSeq (sIf (bOr (eB (eOp2 iGt (eCall 2 g_distance (aCons (eVar 3) (aCons (eVar 5) (aNil)))) (eOp2 dAdd (eVar 6) (eVar 7)))) (bOr (eB (eOp2 dNe (eCall 2 g_distance (aCons (eVar 4) (aCons (eVar 3) (aNil)))) (eVar 6))) (eB (eOp2 dNe (eCall 1 g_steps (aCons (eInv "Place" g_PlaceX_invertX (eVar 3)) (aNil))) (eCall 1 g_steps (aCons (eVar 3) (aNil))))))) (sRet (eC (.bl false))) (sPass))
    (sSeq (sIf (eB (eOp2 dNe (eCall 3 g_lies_between (aCons (eVar 4) (aCons (eVar 3) (aCons (eVar 5) (aNil))))) (eOp2 dEq (eCall 2 g_distance (aCons (eVar 3) (aCons (eVar 5) (aNil)))) (eOp2 dAdd (eVar 6) (eVar 7))))) (sRet (eC (.bl false))) (sPass))
    (sIf (bOr (eB (eOp2 iGt (eCall 1 g_steps (aCons (eOpX (ownO "Place" g_PlaceX_mulX) (eVar 3) (eVar 4)) (aNil))) (eOp2 dAdd (eCall 1 g_steps (aCons (eVar 3) (aNil))) (eCall 1 g_steps (aCons (eVar 4) (aNil)))))) (eB (eOp2 dNe (eOp2 iMod (eOp2 iSub (eOp2 iSub (eCall 1 g_steps (aCons (eVar 3) (aNil))) (eFld ["Place"] [120] (eVar 3))) (eFld ["Place"] [121] (eVar 3))) (eC (.int 2))) (eC (.int 0))))) (sRet (eC (.bl false))) (sPass)))))))
def b_law : DStm := sSeq (sSet 1 (eCall 1 g__law_pen (aCons (eVar 0) (aNil))))
    (sSeq (sFor (itR1 (aCons (eOp2 dAdd (eC (.int 2)) (eCB (bMin2) (aCons (eC (.int 5)) (aCons (eCB (bLen) (aCons (eVar 0) (aNil))) (aNil))))) (aNil))) (gN 2) (w_law_0))
    (sRet (eC (.bl true))))
def g_law : DFn := fnD 1 b_law 7
structure Ev (P : Program) (G : Gam) (mg : Str → Option Value) (base : Heap) where
  C_Place : Addr
  ct_Place : G.ct "Place" = some C_Place
  cl_Place : Cls G.K C_Place
  m_Place : mg "Place" = some (.ref C_Place)
  sf_Place : PySem.W.selfFirst G.K C_Place = true
  ne_Place : PySem.W.findIn G.K (.ref C_Place) "__ne__" = some (some (.builtin "object.__ne__"))
  mo_Place : PySem.W.mroIn G.K C_Place (.type "object") = some true
  na_Place_x : NoAttr G.K C_Place "x"
  na_Place_y : NoAttr G.K C_Place "y"
  na_Place_area : NoAttr G.K C_Place "area"
  C_Walk : Addr
  ct_Walk : G.ct "Walk" = some C_Walk
  cl_Walk : Cls G.K C_Walk
  m_Walk : mg "Walk" = some (.ref C_Walk)
  sf_Walk : PySem.W.selfFirst G.K C_Walk = true
  ne_Walk : PySem.W.findIn G.K (.ref C_Walk) "__ne__" = some (some (.builtin "object.__ne__"))
  mo_Walk : PySem.W.mroIn G.K C_Walk (.type "object") = some true
  na_Walk_runs : NoAttr G.K C_Walk "runs"
  C_Lot : Addr
  ct_Lot : G.ct "Lot" = some C_Lot
  cl_Lot : Cls G.K C_Lot
  m_Lot : mg "Lot" = some (.ref C_Lot)
  sf_Lot : PySem.W.selfFirst G.K C_Lot = true
  ne_Lot : PySem.W.findIn G.K (.ref C_Lot) "__ne__" = some (some (.builtin "object.__ne__"))
  mo_Lot : PySem.W.mroIn G.K C_Lot (.type "object") = some true
  na_Lot_east : NoAttr G.K C_Lot "east"
  na_Lot_north : NoAttr G.K C_Lot "north"
  na_Lot_west : NoAttr G.K C_Lot "west"
  na_Lot_south : NoAttr G.K C_Lot "south"
  C_Prices : Addr
  ct_Prices : G.ct "Prices" = some C_Prices
  cl_Prices : Cls G.K C_Prices
  m_Prices : mg "Prices" = some (.ref C_Prices)
  sf_Prices : PySem.W.selfFirst G.K C_Prices = true
  ne_Prices : PySem.W.findIn G.K (.ref C_Prices) "__ne__" = some (some (.builtin "object.__ne__"))
  mo_Prices : PySem.W.mroIn G.K C_Prices (.type "object") = some true
  na_Prices_east : NoAttr G.K C_Prices "east"
  na_Prices_north : NoAttr G.K C_Prices "north"
  na_Prices_west : NoAttr G.K C_Prices "west"
  na_Prices_south : NoAttr G.K C_Prices "south"
  C_BadNumber : Addr
  ct_BadNumber : G.ct "BadNumber" = some C_BadNumber
  m_BadNumber : mg "BadNumber" = some (.ref C_BadNumber)
  fI_BadNumber : Addr
  xfd_BadNumber : FuncData
  X_BadNumber : XFacts P G mg "BadNumber" C_BadNumber fI_BadNumber xfd_BadNumber "self" "value" "value"
  C_BadPlace : Addr
  ct_BadPlace : G.ct "BadPlace" = some C_BadPlace
  m_BadPlace : mg "BadPlace" = some (.ref C_BadPlace)
  fI_BadPlace : Addr
  xfd_BadPlace : FuncData
  X_BadPlace : XFacts P G mg "BadPlace" C_BadPlace fI_BadPlace xfd_BadPlace "self" "value" "value"
  C_BadWord : Addr
  ct_BadWord : G.ct "BadWord" = some C_BadWord
  m_BadWord : mg "BadWord" = some (.ref C_BadWord)
  fI_BadWord : Addr
  xfd_BadWord : FuncData
  X_BadWord : XFacts P G mg "BadWord" C_BadWord fI_BadWord xfd_BadWord "self" "value" "value"
  a_is_integer : Addr
  fd_is_integer : FuncData
  F_is_integer : Fun G.K "is_integer" "is_integer" st_is_integer a_is_integer fd_is_integer
  b_is_integer : L2.Binds G.K fd_is_integer ["value"] []
  m_is_integer : mg "is_integer" = some (.ref a_is_integer)
  a_PlaceX_initX : Addr
  fd_PlaceX_initX : FuncData
  F_PlaceX_initX : Fun G.K "__init__" "Place.__init__" st_PlaceX_initX a_PlaceX_initX fd_PlaceX_initX
  b_PlaceX_initX : L2.Binds G.K fd_PlaceX_initX ["self", "x", "y", "area"] []
  M_PlaceX_initX : Meth G.K C_Place "__init__" a_PlaceX_initX
  a_PlaceX_invertX : Addr
  fd_PlaceX_invertX : FuncData
  F_PlaceX_invertX : Fun G.K "__invert__" "Place.__invert__" st_PlaceX_invertX a_PlaceX_invertX fd_PlaceX_invertX
  b_PlaceX_invertX : L2.Binds G.K fd_PlaceX_invertX ["self"] []
  M_PlaceX_invertX : Meth G.K C_Place "__invert__" a_PlaceX_invertX
  a_PlaceX_mulX : Addr
  fd_PlaceX_mulX : FuncData
  F_PlaceX_mulX : Fun G.K "__mul__" "Place.__mul__" st_PlaceX_mulX a_PlaceX_mulX fd_PlaceX_mulX
  b_PlaceX_mulX : L2.Binds G.K fd_PlaceX_mulX ["self", "other"] []
  M_PlaceX_mulX : Meth G.K C_Place "__mul__" a_PlaceX_mulX
  a__law_draw : Addr
  fd__law_draw : FuncData
  F__law_draw : Fun G.K "_law_draw" "_law_draw" st__law_draw a__law_draw fd__law_draw
  b__law_draw : L2.Binds G.K fd__law_draw ["_law_pen_here", "_law_many"] []
  m__law_draw : mg "_law_draw" = some (.ref a__law_draw)
  a__law_big : Addr
  fd__law_big : FuncData
  F__law_big : Fun G.K "_law_big" "_law_big" st__law_big a__law_big fd__law_big
  b__law_big : L2.Binds G.K fd__law_big ["_law_pen_here", "_law_size"] []
  m__law_big : mg "_law_big" = some (.ref a__law_big)
  a__law_whole : Addr
  fd__law_whole : FuncData
  F__law_whole : Fun G.K "_law_whole" "_law_whole" st__law_whole a__law_whole fd__law_whole
  b__law_whole : L2.Binds G.K fd__law_whole ["_law_pen_here", "_law_size"] []
  m__law_whole : mg "_law_whole" = some (.ref a__law_whole)
  a__law_place : Addr
  fd__law_place : FuncData
  F__law_place : Fun G.K "_law_place" "_law_place" st__law_place a__law_place fd__law_place
  b__law_place : L2.Binds G.K fd__law_place ["_law_pen_here", "_law_size"] []
  m__law_place : mg "_law_place" = some (.ref a__law_place)
  a__law_drawn : Addr
  fd__law_drawn : FuncData
  F__law_drawn : Fun G.K "_law_drawn" "_law_drawn" st__law_drawn a__law_drawn fd__law_drawn
  b__law_drawn : L2.Binds G.K fd__law_drawn ["_law_pen_here"] []
  m__law_drawn : mg "_law_drawn" = some (.ref a__law_drawn)
  a__law_step : Addr
  fd__law_step : FuncData
  F__law_step : Fun G.K "_law_step" "_law_step" st__law_step a__law_step fd__law_step
  b__law_step : L2.Binds G.K fd__law_step ["_law_letter"] []
  m__law_step : mg "_law_step" = some (.ref a__law_step)
  a_need_place : Addr
  fd_need_place : FuncData
  F_need_place : Fun G.K "need_place" "need_place" st_need_place a_need_place fd_need_place
  b_need_place : L2.Binds G.K fd_need_place ["value"] []
  m_need_place : mg "need_place" = some (.ref a_need_place)
  a_whole_root : Addr
  fd_whole_root : FuncData
  F_whole_root : Fun G.K "whole_root" "whole_root" st_whole_root a_whole_root fd_whole_root
  b_whole_root : L2.Binds G.K fd_whole_root ["number"] []
  m_whole_root : mg "whole_root" = some (.ref a_whole_root)
  a_steps_of : Addr
  fd_steps_of : FuncData
  F_steps_of : Fun G.K "steps_of" "steps_of" st_steps_of a_steps_of fd_steps_of
  b_steps_of : L2.Binds G.K fd_steps_of ["x", "y", "area"] []
  m_steps_of : mg "steps_of" = some (.ref a_steps_of)
  a_steps : Addr
  fd_steps : FuncData
  F_steps : Fun G.K "steps" "steps" st_steps a_steps fd_steps
  b_steps : L2.Binds G.K fd_steps ["place"] []
  m_steps : mg "steps" = some (.ref a_steps)
  a_first_letters : Addr
  fd_first_letters : FuncData
  F_first_letters : Fun G.K "first_letters" "first_letters" st_first_letters a_first_letters fd_first_letters
  b_first_letters : L2.Binds G.K fd_first_letters ["place"] []
  m_first_letters : mg "first_letters" = some (.ref a_first_letters)
  a_nearer : Addr
  fd_nearer : FuncData
  F_nearer : Fun G.K "nearer" "nearer" st_nearer a_nearer fd_nearer
  b_nearer : L2.Binds G.K fd_nearer ["place"] []
  m_nearer : mg "nearer" = some (.ref a_nearer)
  a_is_summit : Addr
  fd_is_summit : FuncData
  F_is_summit : Fun G.K "is_summit" "is_summit" st_is_summit a_is_summit fd_is_summit
  b_is_summit : L2.Binds G.K fd_is_summit ["place"] []
  m_is_summit : mg "is_summit" = some (.ref a_is_summit)
  a__law_local_right : Addr
  fd__law_local_right : FuncData
  F__law_local_right : Fun G.K "_law_local_right" "_law_local_right" st__law_local_right a__law_local_right fd__law_local_right
  b__law_local_right : L2.Binds G.K fd__law_local_right ["_law_place_here"] []
  m__law_local_right : mg "_law_local_right" = some (.ref a__law_local_right)
  a__law_pen : Addr
  fd__law_pen : FuncData
  F__law_pen : Fun G.K "_law_pen" "_law_pen" st__law_pen a__law_pen fd__law_pen
  b__law_pen : L2.Binds G.K fd__law_pen ["_law_script"] []
  m__law_pen : mg "_law_pen" = some (.ref a__law_pen)
  a_merged : Addr
  fd_merged : FuncData
  F_merged : Fun G.K "merged" "merged" st_merged a_merged fd_merged
  b_merged : L2.Binds G.K fd_merged ["pairs"] []
  m_merged : mg "merged" = some (.ref a_merged)
  a_is_list : Addr
  fd_is_list : FuncData
  F_is_list : Fun G.K "is_list" "is_list" st_is_list a_is_list fd_is_list
  b_is_list : L2.Binds G.K fd_is_list ["value"] []
  m_is_list : mg "is_list" = some (.ref a_is_list)
  a_is_whole : Addr
  fd_is_whole : FuncData
  F_is_whole : Fun G.K "is_whole" "is_whole" st_is_whole a_is_whole fd_is_whole
  b_is_whole : L2.Binds G.K fd_is_whole ["value", "least"] []
  m_is_whole : mg "is_whole" = some (.ref a_is_whole)
  a_is_pair : Addr
  fd_is_pair : FuncData
  F_is_pair : Fun G.K "is_pair" "is_pair" st_is_pair a_is_pair fd_is_pair
  b_is_pair : L2.Binds G.K fd_is_pair ["value"] []
  m_is_pair : mg "is_pair" = some (.ref a_is_pair)
  a_pairs_told : Addr
  fd_pairs_told : FuncData
  F_pairs_told : Fun G.K "pairs_told" "pairs_told" st_pairs_told a_pairs_told fd_pairs_told
  b_pairs_told : L2.Binds G.K fd_pairs_told ["told"] []
  m_pairs_told : mg "pairs_told" = some (.ref a_pairs_told)
  a_WalkX_initX : Addr
  fd_WalkX_initX : FuncData
  F_WalkX_initX : Fun G.K "__init__" "Walk.__init__" st_WalkX_initX a_WalkX_initX fd_WalkX_initX
  b_WalkX_initX : L2.Binds G.K fd_WalkX_initX ["self", "told"] []
  M_WalkX_initX : Meth G.K C_Walk "__init__" a_WalkX_initX
  a_Walk_length : Addr
  fd_Walk_length : FuncData
  F_Walk_length : Fun G.K "length" "Walk.length" st_Walk_length a_Walk_length fd_Walk_length
  b_Walk_length : L2.Binds G.K fd_Walk_length ["self"] []
  p_Walk_length : Addr
  M_Walk_length : PropOf G.K C_Walk "length" p_Walk_length a_Walk_length
  a_Walk_need_step : Addr
  fd_Walk_need_step : FuncData
  F_Walk_need_step : Fun G.K "need_step" "Walk.need_step" st_Walk_need_step a_Walk_need_step fd_Walk_need_step
  b_Walk_need_step : L2.Binds G.K fd_Walk_need_step ["self", "number"] []
  M_Walk_need_step : Meth G.K C_Walk "need_step" a_Walk_need_step
  a_Walk_parted : Addr
  fd_Walk_parted : FuncData
  F_Walk_parted : Fun G.K "parted" "Walk.parted" st_Walk_parted a_Walk_parted fd_Walk_parted
  b_Walk_parted : L2.Binds G.K fd_Walk_parted ["self", "number"] []
  M_Walk_parted : Meth G.K C_Walk "parted" a_Walk_parted
  a_Walk_head : Addr
  fd_Walk_head : FuncData
  F_Walk_head : Fun G.K "head" "Walk.head" st_Walk_head a_Walk_head fd_Walk_head
  b_Walk_head : L2.Binds G.K fd_Walk_head ["self", "number"] []
  M_Walk_head : Meth G.K C_Walk "head" a_Walk_head
  a_gone_on : Addr
  fd_gone_on : FuncData
  F_gone_on : Fun G.K "gone_on" "gone_on" st_gone_on a_gone_on fd_gone_on
  b_gone_on : L2.Binds G.K fd_gone_on ["spot", "letter", "times"] []
  m_gone_on : mg "gone_on" = some (.ref a_gone_on)
  a_Walk_spots : Addr
  fd_Walk_spots : FuncData
  F_Walk_spots : Fun G.K "spots" "Walk.spots" st_Walk_spots a_Walk_spots fd_Walk_spots
  b_Walk_spots : L2.Binds G.K fd_Walk_spots ["self"] []
  M_Walk_spots : Meth G.K C_Walk "spots" a_Walk_spots
  a_Walk_place : Addr
  fd_Walk_place : FuncData
  F_Walk_place : Fun G.K "place" "Walk.place" st_Walk_place a_Walk_place fd_Walk_place
  b_Walk_place : L2.Binds G.K fd_Walk_place ["self"] []
  M_Walk_place : Meth G.K C_Walk "place" a_Walk_place
  a_Walk_at : Addr
  fd_Walk_at : FuncData
  F_Walk_at : Fun G.K "at" "Walk.at" st_Walk_at a_Walk_at fd_Walk_at
  b_Walk_at : L2.Binds G.K fd_Walk_at ["self", "number"] []
  M_Walk_at : Meth G.K C_Walk "at" a_Walk_at
  a_is_least_spot : Addr
  fd_is_least_spot : FuncData
  F_is_least_spot : Fun G.K "is_least_spot" "is_least_spot" st_is_least_spot a_is_least_spot fd_is_least_spot
  b_is_least_spot : L2.Binds G.K fd_is_least_spot ["spot", "number"] []
  m_is_least_spot : mg "is_least_spot" = some (.ref a_is_least_spot)
  a_first_long : Addr
  fd_first_long : FuncData
  F_first_long : Fun G.K "first_long" "first_long" st_first_long a_first_long fd_first_long
  b_first_long : L2.Binds G.K fd_first_long ["spot", "letter", "gone", "times"] []
  m_first_long : mg "first_long" = some (.ref a_first_long)
  a_Walk_first_not_least : Addr
  fd_Walk_first_not_least : FuncData
  F_Walk_first_not_least : Fun G.K "first_not_least" "Walk.first_not_least" st_Walk_first_not_least a_Walk_first_not_least fd_Walk_first_not_least
  b_Walk_first_not_least : L2.Binds G.K fd_Walk_first_not_least ["self"] []
  M_Walk_first_not_least : Meth G.K C_Walk "first_not_least" a_Walk_first_not_least
  a_Walk_is_least : Addr
  fd_Walk_is_least : FuncData
  F_Walk_is_least : Fun G.K "is_least" "Walk.is_least" st_Walk_is_least a_Walk_is_least fd_Walk_is_least
  b_Walk_is_least : L2.Binds G.K fd_Walk_is_least ["self"] []
  M_Walk_is_least : Meth G.K C_Walk "is_least" a_Walk_is_least
  a__law_pick : Addr
  fd__law_pick : FuncData
  F__law_pick : Fun G.K "_law_pick" "_law_pick" st__law_pick a__law_pick fd__law_pick
  b__law_pick : L2.Binds G.K fd__law_pick ["_law_pen_here", "_law_items"] []
  m__law_pick : mg "_law_pick" = some (.ref a__law_pick)
  a__law_walk_right : Addr
  fd__law_walk_right : FuncData
  F__law_walk_right : Fun G.K "_law_walk_right" "_law_walk_right" st__law_walk_right a__law_walk_right fd__law_walk_right
  b__law_walk_right : L2.Binds G.K fd__law_walk_right ["_law_pen_here"] []
  m__law_walk_right : mg "_law_walk_right" = some (.ref a__law_walk_right)
  a_PlaceX_eqX : Addr
  fd_PlaceX_eqX : FuncData
  F_PlaceX_eqX : Fun G.K "__eq__" "Place.__eq__" st_PlaceX_eqX a_PlaceX_eqX fd_PlaceX_eqX
  b_PlaceX_eqX : L2.Binds G.K fd_PlaceX_eqX ["self", "other"] []
  M_PlaceX_eqX : Meth G.K C_Place "__eq__" a_PlaceX_eqX
  a_PricesX_initX : Addr
  fd_PricesX_initX : FuncData
  F_PricesX_initX : Fun G.K "__init__" "Prices.__init__" st_PricesX_initX a_PricesX_initX fd_PricesX_initX
  b_PricesX_initX : L2.Binds G.K fd_PricesX_initX ["self", "east", "north", "west", "south"] []
  M_PricesX_initX : Meth G.K C_Prices "__init__" a_PricesX_initX
  a_LotX_initX : Addr
  fd_LotX_initX : FuncData
  F_LotX_initX : Fun G.K "__init__" "Lot.__init__" st_LotX_initX a_LotX_initX fd_LotX_initX
  b_LotX_initX : L2.Binds G.K fd_LotX_initX ["self", "east", "north", "west", "south"] []
  M_LotX_initX : Meth G.K C_Lot "__init__" a_LotX_initX
  a_bezout_of : Addr
  fd_bezout_of : FuncData
  F_bezout_of : Fun G.K "bezout_of" "bezout_of" st_bezout_of a_bezout_of fd_bezout_of
  b_bezout_of : L2.Binds G.K fd_bezout_of ["one", "other"] []
  m_bezout_of : mg "bezout_of" = some (.ref a_bezout_of)
  a_ceiling : Addr
  fd_ceiling : FuncData
  F_ceiling : Fun G.K "ceiling" "ceiling" st_ceiling a_ceiling fd_ceiling
  b_ceiling : L2.Binds G.K fd_ceiling ["top", "bottom"] []
  m_ceiling : mg "ceiling" = some (.ref a_ceiling)
  a_lowest : Addr
  fd_lowest : FuncData
  F_lowest : Fun G.K "lowest" "lowest" st_lowest a_lowest fd_lowest
  b_lowest : L2.Binds G.K fd_lowest ["wide", "high", "room", "across", "up"] []
  m_lowest : mg "lowest" = some (.ref a_lowest)
  a_sides_of_price : Addr
  fd_sides_of_price : FuncData
  F_sides_of_price : Fun G.K "sides_of_price" "sides_of_price" st_sides_of_price a_sides_of_price fd_sides_of_price
  b_sides_of_price : L2.Binds G.K fd_sides_of_price ["price", "wide", "high", "across", "up", "common", "inverse"] []
  m_sides_of_price : mg "sides_of_price" = some (.ref a_sides_of_price)
  a_best_frame : Addr
  fd_best_frame : FuncData
  F_best_frame : Fun G.K "best_frame" "best_frame" st_best_frame a_best_frame fd_best_frame
  b_best_frame : L2.Binds G.K fd_best_frame ["wide", "high", "room", "across", "up"] []
  m_best_frame : mg "best_frame" = some (.ref a_best_frame)
  a_room_wanted : Addr
  fd_room_wanted : FuncData
  F_room_wanted : Fun G.K "room_wanted" "room_wanted" st_room_wanted a_room_wanted fd_room_wanted
  b_room_wanted : L2.Binds G.K fd_room_wanted ["place"] []
  m_room_wanted : mg "room_wanted" = some (.ref a_room_wanted)
  a_Prices_frame : Addr
  fd_Prices_frame : FuncData
  F_Prices_frame : Fun G.K "frame" "Prices.frame" st_Prices_frame a_Prices_frame fd_Prices_frame
  b_Prices_frame : L2.Binds G.K fd_Prices_frame ["self", "place"] []
  M_Prices_frame : Meth G.K C_Prices "frame" a_Prices_frame
  a_Prices_lot_of : Addr
  fd_Prices_lot_of : FuncData
  F_Prices_lot_of : Fun G.K "lot_of" "Prices.lot_of" st_Prices_lot_of a_Prices_lot_of fd_Prices_lot_of
  b_Prices_lot_of : L2.Binds G.K fd_Prices_lot_of ["self", "place"] []
  M_Prices_lot_of : Meth G.K C_Prices "lot_of" a_Prices_lot_of
  a_Prices_least_price : Addr
  fd_Prices_least_price : FuncData
  F_Prices_least_price : Fun G.K "least_price" "Prices.least_price" st_Prices_least_price a_Prices_least_price fd_Prices_least_price
  b_Prices_least_price : L2.Binds G.K fd_Prices_least_price ["self", "place"] []
  M_Prices_least_price : Meth G.K C_Prices "least_price" a_Prices_least_price
  a_best_sides : Addr
  fd_best_sides : FuncData
  F_best_sides : Fun G.K "best_sides" "best_sides" st_best_sides a_best_sides fd_best_sides
  b_best_sides : L2.Binds G.K fd_best_sides ["x", "y", "extra"] []
  m_best_sides : mg "best_sides" = some (.ref a_best_sides)
  a_areas_of : Addr
  fd_areas_of : FuncData
  F_areas_of : Fun G.K "areas_of" "areas_of" st_areas_of a_areas_of fd_areas_of
  b_areas_of : L2.Binds G.K fd_areas_of ["x", "y", "number"] []
  m_areas_of : mg "areas_of" = some (.ref a_areas_of)
  a_areas : Addr
  fd_areas : FuncData
  F_areas : Fun G.K "areas" "areas" st_areas a_areas fd_areas
  b_areas : L2.Binds G.K fd_areas ["x", "y", "number"] []
  m_areas : mg "areas" = some (.ref a_areas)
  a_distance : Addr
  fd_distance : FuncData
  F_distance : Fun G.K "distance" "distance" st_distance a_distance fd_distance
  b_distance : L2.Binds G.K fd_distance ["one", "other"] []
  m_distance : mg "distance" = some (.ref a_distance)
  a_home_place : Addr
  fd_home_place : FuncData
  F_home_place : Fun G.K "home_place" "home_place" st_home_place a_home_place fd_home_place
  b_home_place : L2.Binds G.K fd_home_place [] []
  m_home_place : mg "home_place" = some (.ref a_home_place)
  a_walk_pairs : Addr
  fd_walk_pairs : FuncData
  F_walk_pairs : Fun G.K "walk_pairs" "walk_pairs" st_walk_pairs a_walk_pairs fd_walk_pairs
  b_walk_pairs : L2.Binds G.K fd_walk_pairs ["x", "y", "area", "extra"] []
  m_walk_pairs : mg "walk_pairs" = some (.ref a_walk_pairs)
  a_pairs_to : Addr
  fd_pairs_to : FuncData
  F_pairs_to : Fun G.K "pairs_to" "pairs_to" st_pairs_to a_pairs_to fd_pairs_to
  b_pairs_to : L2.Binds G.K fd_pairs_to ["x", "y", "area", "number"] []
  m_pairs_to : mg "pairs_to" = some (.ref a_pairs_to)
  a_walk_of : Addr
  fd_walk_of : FuncData
  F_walk_of : Fun G.K "walk_of" "walk_of" st_walk_of a_walk_of fd_walk_of
  b_walk_of : L2.Binds G.K fd_walk_of ["place", "number"] []
  m_walk_of : mg "walk_of" = some (.ref a_walk_of)
  a_least_walk : Addr
  fd_least_walk : FuncData
  F_least_walk : Fun G.K "least_walk" "least_walk" st_least_walk a_least_walk fd_least_walk
  b_least_walk : L2.Binds G.K fd_least_walk ["place"] []
  m_least_walk : mg "least_walk" = some (.ref a_least_walk)
  a_lies_between : Addr
  fd_lies_between : FuncData
  F_lies_between : Fun G.K "lies_between" "lies_between" st_lies_between a_lies_between fd_lies_between
  b_lies_between : L2.Binds G.K fd_lies_between ["place", "one", "other"] []
  m_lies_between : mg "lies_between" = some (.ref a_lies_between)
  a__law_walks_right : Addr
  fd__law_walks_right : FuncData
  F__law_walks_right : Fun G.K "_law_walks_right" "_law_walks_right" st__law_walks_right a__law_walks_right fd__law_walks_right
  b__law_walks_right : L2.Binds G.K fd__law_walks_right ["_law_pen_here", "_law_place_here"] []
  m__law_walks_right : mg "_law_walks_right" = some (.ref a__law_walks_right)
  a_law : Addr
  fd_law : FuncData
  F_law : Fun G.K "law" "law" st_law a_law fd_law
  b_law : L2.Binds G.K fd_law ["_law_script"] []
  m_law : mg "law" = some (.ref a_law)
  mk_Place : Mk G.K C_Place a_PlaceX_initX
  mk_Walk : Mk G.K C_Walk a_WalkX_initX
  mk_Lot : Mk G.K C_Lot a_LotX_initX
  mk_Prices : Mk G.K C_Prices a_PricesX_initX
  f_area : FldOk G ["Place"] [97, 114, 101, 97]
  f_east : FldOk G ["Lot", "Prices"] [101, 97, 115, 116]
  f_north : FldOk G ["Lot", "Prices"] [110, 111, 114, 116, 104]
  f_runs : FldOk G ["Walk"] [114, 117, 110, 115]
  f_south : FldOk G ["Lot", "Prices"] [115, 111, 117, 116, 104]
  f_west : FldOk G ["Lot", "Prices"] [119, 101, 115, 116]
  f_x : FldOk G ["Place"] [120]
  f_y : FldOk G ["Place"] [121]
  z_abs : mg "abs" = none
  z_all : mg "all" = none
  z_bool : mg "bool" = none
  z_divmod : mg "divmod" = none
  z_int : mg "int" = none
  z_isinstance : mg "isinstance" = none
  z_len : mg "len" = none
  z_list : mg "list" = none
  z_max : mg "max" = none
  z_min : mg "min" = none
  z_range : mg "range" = none
  z_str : mg "str" = none
  z_sum : mg "sum" = none
  z_tuple : mg "tuple" = none
  kv_FOUR : Value
  kc_FOUR : mg "FOUR" = some kv_FOUR
  kr_FOUR : ∃ y, RelV y kv_FOUR ∧ ∀ w, Rep G w y (.tup [.tup [.str [101], .int 1, .int 0], .tup [.str [110], .int 0, .int 1], .tup [.str [119], .int (-1), .int 0], .tup [.str [115], .int 0, .int (-1)]])
  kv_LETTERS : Value
  kc_LETTERS : mg "LETTERS" = some kv_LETTERS
  kr_LETTERS : ∃ y, RelV y kv_LETTERS ∧ ∀ w, Rep G w y (.str [101, 110, 119, 115])
  kv_MOST_LETTERS : Value
  kc_MOST_LETTERS : mg "MOST_LETTERS" = some kv_MOST_LETTERS
  kr_MOST_LETTERS : ∃ y, RelV y kv_MOST_LETTERS ∧ ∀ w, Rep G w y (.int 10000)
  kv_MOST_PRICE : Value
  kc_MOST_PRICE : mg "MOST_PRICE" = some kv_MOST_PRICE
  kr_MOST_PRICE : ∃ y, RelV y kv_MOST_PRICE ∧ ∀ w, Rep G w y (.int 1000)
  kv_MOST_RUNS : Value
  kc_MOST_RUNS : mg "MOST_RUNS" = some kv_MOST_RUNS
  kr_MOST_RUNS : ∃ y, RelV y kv_MOST_RUNS ∧ ∀ w, Rep G w y (.int 10000)
  iso : IsOk G ["Place", "Walk", "Lot", "Prices"]
  tabs : G.tab = tabG []
def Ev.sw {P : Program} {G : Gam} {mg : Str → Option Value} {base : Heap} (e : Ev P G mg base) (lam : String → Addr → Wd → Prop) (lamM : ∀ (k : String) (f : Addr) (w w' : Wd), w.le w' → lam k f w → lam k f w') : Ev P (G.sw lam lamM) mg base := {
  C_Place := e.C_Place
  ct_Place := e.ct_Place
  cl_Place := e.cl_Place
  m_Place := e.m_Place
  sf_Place := e.sf_Place
  ne_Place := e.ne_Place
  mo_Place := e.mo_Place
  na_Place_x := e.na_Place_x
  na_Place_y := e.na_Place_y
  na_Place_area := e.na_Place_area
  C_Walk := e.C_Walk
  ct_Walk := e.ct_Walk
  cl_Walk := e.cl_Walk
  m_Walk := e.m_Walk
  sf_Walk := e.sf_Walk
  ne_Walk := e.ne_Walk
  mo_Walk := e.mo_Walk
  na_Walk_runs := e.na_Walk_runs
  C_Lot := e.C_Lot
  ct_Lot := e.ct_Lot
  cl_Lot := e.cl_Lot
  m_Lot := e.m_Lot
  sf_Lot := e.sf_Lot
  ne_Lot := e.ne_Lot
  mo_Lot := e.mo_Lot
  na_Lot_east := e.na_Lot_east
  na_Lot_north := e.na_Lot_north
  na_Lot_west := e.na_Lot_west
  na_Lot_south := e.na_Lot_south
  C_Prices := e.C_Prices
  ct_Prices := e.ct_Prices
  cl_Prices := e.cl_Prices
  m_Prices := e.m_Prices
  sf_Prices := e.sf_Prices
  ne_Prices := e.ne_Prices
  mo_Prices := e.mo_Prices
  na_Prices_east := e.na_Prices_east
  na_Prices_north := e.na_Prices_north
  na_Prices_west := e.na_Prices_west
  na_Prices_south := e.na_Prices_south
  C_BadNumber := e.C_BadNumber
  ct_BadNumber := e.ct_BadNumber
  m_BadNumber := e.m_BadNumber
  fI_BadNumber := e.fI_BadNumber
  xfd_BadNumber := e.xfd_BadNumber
  X_BadNumber := ⟨⟨e.X_BadNumber.T.ct, e.X_BadNumber.T.ini, e.X_BadNumber.T.ty, e.X_BadNumber.T.cls⟩, e.X_BadNumber.I, e.X_BadNumber.F, e.X_BadNumber.B⟩
  C_BadPlace := e.C_BadPlace
  ct_BadPlace := e.ct_BadPlace
  m_BadPlace := e.m_BadPlace
  fI_BadPlace := e.fI_BadPlace
  xfd_BadPlace := e.xfd_BadPlace
  X_BadPlace := ⟨⟨e.X_BadPlace.T.ct, e.X_BadPlace.T.ini, e.X_BadPlace.T.ty, e.X_BadPlace.T.cls⟩, e.X_BadPlace.I, e.X_BadPlace.F, e.X_BadPlace.B⟩
  C_BadWord := e.C_BadWord
  ct_BadWord := e.ct_BadWord
  m_BadWord := e.m_BadWord
  fI_BadWord := e.fI_BadWord
  xfd_BadWord := e.xfd_BadWord
  X_BadWord := ⟨⟨e.X_BadWord.T.ct, e.X_BadWord.T.ini, e.X_BadWord.T.ty, e.X_BadWord.T.cls⟩, e.X_BadWord.I, e.X_BadWord.F, e.X_BadWord.B⟩
  a_is_integer := e.a_is_integer
  fd_is_integer := e.fd_is_integer
  F_is_integer := e.F_is_integer
  b_is_integer := e.b_is_integer
  m_is_integer := e.m_is_integer
  a_PlaceX_initX := e.a_PlaceX_initX
  fd_PlaceX_initX := e.fd_PlaceX_initX
  F_PlaceX_initX := e.F_PlaceX_initX
  b_PlaceX_initX := e.b_PlaceX_initX
  M_PlaceX_initX := e.M_PlaceX_initX
  a_PlaceX_invertX := e.a_PlaceX_invertX
  fd_PlaceX_invertX := e.fd_PlaceX_invertX
  F_PlaceX_invertX := e.F_PlaceX_invertX
  b_PlaceX_invertX := e.b_PlaceX_invertX
  M_PlaceX_invertX := e.M_PlaceX_invertX
  a_PlaceX_mulX := e.a_PlaceX_mulX
  fd_PlaceX_mulX := e.fd_PlaceX_mulX
  F_PlaceX_mulX := e.F_PlaceX_mulX
  b_PlaceX_mulX := e.b_PlaceX_mulX
  M_PlaceX_mulX := e.M_PlaceX_mulX
  a__law_draw := e.a__law_draw
  fd__law_draw := e.fd__law_draw
  F__law_draw := e.F__law_draw
  b__law_draw := e.b__law_draw
  m__law_draw := e.m__law_draw
  a__law_big := e.a__law_big
  fd__law_big := e.fd__law_big
  F__law_big := e.F__law_big
  b__law_big := e.b__law_big
  m__law_big := e.m__law_big
  a__law_whole := e.a__law_whole
  fd__law_whole := e.fd__law_whole
  F__law_whole := e.F__law_whole
  b__law_whole := e.b__law_whole
  m__law_whole := e.m__law_whole
  a__law_place := e.a__law_place
  fd__law_place := e.fd__law_place
  F__law_place := e.F__law_place
  b__law_place := e.b__law_place
  m__law_place := e.m__law_place
  a__law_drawn := e.a__law_drawn
  fd__law_drawn := e.fd__law_drawn
  F__law_drawn := e.F__law_drawn
  b__law_drawn := e.b__law_drawn
  m__law_drawn := e.m__law_drawn
  a__law_step := e.a__law_step
  fd__law_step := e.fd__law_step
  F__law_step := e.F__law_step
  b__law_step := e.b__law_step
  m__law_step := e.m__law_step
  a_need_place := e.a_need_place
  fd_need_place := e.fd_need_place
  F_need_place := e.F_need_place
  b_need_place := e.b_need_place
  m_need_place := e.m_need_place
  a_whole_root := e.a_whole_root
  fd_whole_root := e.fd_whole_root
  F_whole_root := e.F_whole_root
  b_whole_root := e.b_whole_root
  m_whole_root := e.m_whole_root
  a_steps_of := e.a_steps_of
  fd_steps_of := e.fd_steps_of
  F_steps_of := e.F_steps_of
  b_steps_of := e.b_steps_of
  m_steps_of := e.m_steps_of
  a_steps := e.a_steps
  fd_steps := e.fd_steps
  F_steps := e.F_steps
  b_steps := e.b_steps
  m_steps := e.m_steps
  a_first_letters := e.a_first_letters
  fd_first_letters := e.fd_first_letters
  F_first_letters := e.F_first_letters
  b_first_letters := e.b_first_letters
  m_first_letters := e.m_first_letters
  a_nearer := e.a_nearer
  fd_nearer := e.fd_nearer
  F_nearer := e.F_nearer
  b_nearer := e.b_nearer
  m_nearer := e.m_nearer
  a_is_summit := e.a_is_summit
  fd_is_summit := e.fd_is_summit
  F_is_summit := e.F_is_summit
  b_is_summit := e.b_is_summit
  m_is_summit := e.m_is_summit
  a__law_local_right := e.a__law_local_right
  fd__law_local_right := e.fd__law_local_right
  F__law_local_right := e.F__law_local_right
  b__law_local_right := e.b__law_local_right
  m__law_local_right := e.m__law_local_right
  a__law_pen := e.a__law_pen
  fd__law_pen := e.fd__law_pen
  F__law_pen := e.F__law_pen
  b__law_pen := e.b__law_pen
  m__law_pen := e.m__law_pen
  a_merged := e.a_merged
  fd_merged := e.fd_merged
  F_merged := e.F_merged
  b_merged := e.b_merged
  m_merged := e.m_merged
  a_is_list := e.a_is_list
  fd_is_list := e.fd_is_list
  F_is_list := e.F_is_list
  b_is_list := e.b_is_list
  m_is_list := e.m_is_list
  a_is_whole := e.a_is_whole
  fd_is_whole := e.fd_is_whole
  F_is_whole := e.F_is_whole
  b_is_whole := e.b_is_whole
  m_is_whole := e.m_is_whole
  a_is_pair := e.a_is_pair
  fd_is_pair := e.fd_is_pair
  F_is_pair := e.F_is_pair
  b_is_pair := e.b_is_pair
  m_is_pair := e.m_is_pair
  a_pairs_told := e.a_pairs_told
  fd_pairs_told := e.fd_pairs_told
  F_pairs_told := e.F_pairs_told
  b_pairs_told := e.b_pairs_told
  m_pairs_told := e.m_pairs_told
  a_WalkX_initX := e.a_WalkX_initX
  fd_WalkX_initX := e.fd_WalkX_initX
  F_WalkX_initX := e.F_WalkX_initX
  b_WalkX_initX := e.b_WalkX_initX
  M_WalkX_initX := e.M_WalkX_initX
  a_Walk_length := e.a_Walk_length
  fd_Walk_length := e.fd_Walk_length
  F_Walk_length := e.F_Walk_length
  b_Walk_length := e.b_Walk_length
  p_Walk_length := e.p_Walk_length
  M_Walk_length := e.M_Walk_length
  a_Walk_need_step := e.a_Walk_need_step
  fd_Walk_need_step := e.fd_Walk_need_step
  F_Walk_need_step := e.F_Walk_need_step
  b_Walk_need_step := e.b_Walk_need_step
  M_Walk_need_step := e.M_Walk_need_step
  a_Walk_parted := e.a_Walk_parted
  fd_Walk_parted := e.fd_Walk_parted
  F_Walk_parted := e.F_Walk_parted
  b_Walk_parted := e.b_Walk_parted
  M_Walk_parted := e.M_Walk_parted
  a_Walk_head := e.a_Walk_head
  fd_Walk_head := e.fd_Walk_head
  F_Walk_head := e.F_Walk_head
  b_Walk_head := e.b_Walk_head
  M_Walk_head := e.M_Walk_head
  a_gone_on := e.a_gone_on
  fd_gone_on := e.fd_gone_on
  F_gone_on := e.F_gone_on
  b_gone_on := e.b_gone_on
  m_gone_on := e.m_gone_on
  a_Walk_spots := e.a_Walk_spots
  fd_Walk_spots := e.fd_Walk_spots
  F_Walk_spots := e.F_Walk_spots
  b_Walk_spots := e.b_Walk_spots
  M_Walk_spots := e.M_Walk_spots
  a_Walk_place := e.a_Walk_place
  fd_Walk_place := e.fd_Walk_place
  F_Walk_place := e.F_Walk_place
  b_Walk_place := e.b_Walk_place
  M_Walk_place := e.M_Walk_place
  a_Walk_at := e.a_Walk_at
  fd_Walk_at := e.fd_Walk_at
  F_Walk_at := e.F_Walk_at
  b_Walk_at := e.b_Walk_at
  M_Walk_at := e.M_Walk_at
  a_is_least_spot := e.a_is_least_spot
  fd_is_least_spot := e.fd_is_least_spot
  F_is_least_spot := e.F_is_least_spot
  b_is_least_spot := e.b_is_least_spot
  m_is_least_spot := e.m_is_least_spot
  a_first_long := e.a_first_long
  fd_first_long := e.fd_first_long
  F_first_long := e.F_first_long
  b_first_long := e.b_first_long
  m_first_long := e.m_first_long
  a_Walk_first_not_least := e.a_Walk_first_not_least
  fd_Walk_first_not_least := e.fd_Walk_first_not_least
  F_Walk_first_not_least := e.F_Walk_first_not_least
  b_Walk_first_not_least := e.b_Walk_first_not_least
  M_Walk_first_not_least := e.M_Walk_first_not_least
  a_Walk_is_least := e.a_Walk_is_least
  fd_Walk_is_least := e.fd_Walk_is_least
  F_Walk_is_least := e.F_Walk_is_least
  b_Walk_is_least := e.b_Walk_is_least
  M_Walk_is_least := e.M_Walk_is_least
  a__law_pick := e.a__law_pick
  fd__law_pick := e.fd__law_pick
  F__law_pick := e.F__law_pick
  b__law_pick := e.b__law_pick
  m__law_pick := e.m__law_pick
  a__law_walk_right := e.a__law_walk_right
  fd__law_walk_right := e.fd__law_walk_right
  F__law_walk_right := e.F__law_walk_right
  b__law_walk_right := e.b__law_walk_right
  m__law_walk_right := e.m__law_walk_right
  a_PlaceX_eqX := e.a_PlaceX_eqX
  fd_PlaceX_eqX := e.fd_PlaceX_eqX
  F_PlaceX_eqX := e.F_PlaceX_eqX
  b_PlaceX_eqX := e.b_PlaceX_eqX
  M_PlaceX_eqX := e.M_PlaceX_eqX
  a_PricesX_initX := e.a_PricesX_initX
  fd_PricesX_initX := e.fd_PricesX_initX
  F_PricesX_initX := e.F_PricesX_initX
  b_PricesX_initX := e.b_PricesX_initX
  M_PricesX_initX := e.M_PricesX_initX
  a_LotX_initX := e.a_LotX_initX
  fd_LotX_initX := e.fd_LotX_initX
  F_LotX_initX := e.F_LotX_initX
  b_LotX_initX := e.b_LotX_initX
  M_LotX_initX := e.M_LotX_initX
  a_bezout_of := e.a_bezout_of
  fd_bezout_of := e.fd_bezout_of
  F_bezout_of := e.F_bezout_of
  b_bezout_of := e.b_bezout_of
  m_bezout_of := e.m_bezout_of
  a_ceiling := e.a_ceiling
  fd_ceiling := e.fd_ceiling
  F_ceiling := e.F_ceiling
  b_ceiling := e.b_ceiling
  m_ceiling := e.m_ceiling
  a_lowest := e.a_lowest
  fd_lowest := e.fd_lowest
  F_lowest := e.F_lowest
  b_lowest := e.b_lowest
  m_lowest := e.m_lowest
  a_sides_of_price := e.a_sides_of_price
  fd_sides_of_price := e.fd_sides_of_price
  F_sides_of_price := e.F_sides_of_price
  b_sides_of_price := e.b_sides_of_price
  m_sides_of_price := e.m_sides_of_price
  a_best_frame := e.a_best_frame
  fd_best_frame := e.fd_best_frame
  F_best_frame := e.F_best_frame
  b_best_frame := e.b_best_frame
  m_best_frame := e.m_best_frame
  a_room_wanted := e.a_room_wanted
  fd_room_wanted := e.fd_room_wanted
  F_room_wanted := e.F_room_wanted
  b_room_wanted := e.b_room_wanted
  m_room_wanted := e.m_room_wanted
  a_Prices_frame := e.a_Prices_frame
  fd_Prices_frame := e.fd_Prices_frame
  F_Prices_frame := e.F_Prices_frame
  b_Prices_frame := e.b_Prices_frame
  M_Prices_frame := e.M_Prices_frame
  a_Prices_lot_of := e.a_Prices_lot_of
  fd_Prices_lot_of := e.fd_Prices_lot_of
  F_Prices_lot_of := e.F_Prices_lot_of
  b_Prices_lot_of := e.b_Prices_lot_of
  M_Prices_lot_of := e.M_Prices_lot_of
  a_Prices_least_price := e.a_Prices_least_price
  fd_Prices_least_price := e.fd_Prices_least_price
  F_Prices_least_price := e.F_Prices_least_price
  b_Prices_least_price := e.b_Prices_least_price
  M_Prices_least_price := e.M_Prices_least_price
  a_best_sides := e.a_best_sides
  fd_best_sides := e.fd_best_sides
  F_best_sides := e.F_best_sides
  b_best_sides := e.b_best_sides
  m_best_sides := e.m_best_sides
  a_areas_of := e.a_areas_of
  fd_areas_of := e.fd_areas_of
  F_areas_of := e.F_areas_of
  b_areas_of := e.b_areas_of
  m_areas_of := e.m_areas_of
  a_areas := e.a_areas
  fd_areas := e.fd_areas
  F_areas := e.F_areas
  b_areas := e.b_areas
  m_areas := e.m_areas
  a_distance := e.a_distance
  fd_distance := e.fd_distance
  F_distance := e.F_distance
  b_distance := e.b_distance
  m_distance := e.m_distance
  a_home_place := e.a_home_place
  fd_home_place := e.fd_home_place
  F_home_place := e.F_home_place
  b_home_place := e.b_home_place
  m_home_place := e.m_home_place
  a_walk_pairs := e.a_walk_pairs
  fd_walk_pairs := e.fd_walk_pairs
  F_walk_pairs := e.F_walk_pairs
  b_walk_pairs := e.b_walk_pairs
  m_walk_pairs := e.m_walk_pairs
  a_pairs_to := e.a_pairs_to
  fd_pairs_to := e.fd_pairs_to
  F_pairs_to := e.F_pairs_to
  b_pairs_to := e.b_pairs_to
  m_pairs_to := e.m_pairs_to
  a_walk_of := e.a_walk_of
  fd_walk_of := e.fd_walk_of
  F_walk_of := e.F_walk_of
  b_walk_of := e.b_walk_of
  m_walk_of := e.m_walk_of
  a_least_walk := e.a_least_walk
  fd_least_walk := e.fd_least_walk
  F_least_walk := e.F_least_walk
  b_least_walk := e.b_least_walk
  m_least_walk := e.m_least_walk
  a_lies_between := e.a_lies_between
  fd_lies_between := e.fd_lies_between
  F_lies_between := e.F_lies_between
  b_lies_between := e.b_lies_between
  m_lies_between := e.m_lies_between
  a__law_walks_right := e.a__law_walks_right
  fd__law_walks_right := e.fd__law_walks_right
  F__law_walks_right := e.F__law_walks_right
  b__law_walks_right := e.b__law_walks_right
  m__law_walks_right := e.m__law_walks_right
  a_law := e.a_law
  fd_law := e.fd_law
  F_law := e.F_law
  b_law := e.b_law
  m_law := e.m_law
  mk_Place := e.mk_Place
  mk_Walk := e.mk_Walk
  mk_Lot := e.mk_Lot
  mk_Prices := e.mk_Prices
  f_area := e.f_area
  f_east := e.f_east
  f_north := e.f_north
  f_runs := e.f_runs
  f_south := e.f_south
  f_west := e.f_west
  f_x := e.f_x
  f_y := e.f_y
  z_abs := e.z_abs
  z_all := e.z_all
  z_bool := e.z_bool
  z_divmod := e.z_divmod
  z_int := e.z_int
  z_isinstance := e.z_isinstance
  z_len := e.z_len
  z_list := e.z_list
  z_max := e.z_max
  z_min := e.z_min
  z_range := e.z_range
  z_str := e.z_str
  z_sum := e.z_sum
  z_tuple := e.z_tuple
  kv_FOUR := e.kv_FOUR
  kc_FOUR := e.kc_FOUR
  kr_FOUR := (by obtain ⟨y, r1, r2⟩ := e.kr_FOUR; exact ⟨y, r1, fun w => (r2 w).sw (.inl rfl)⟩)
  kv_LETTERS := e.kv_LETTERS
  kc_LETTERS := e.kc_LETTERS
  kr_LETTERS := (by obtain ⟨y, r1, r2⟩ := e.kr_LETTERS; exact ⟨y, r1, fun w => (r2 w).sw (.inl rfl)⟩)
  kv_MOST_LETTERS := e.kv_MOST_LETTERS
  kc_MOST_LETTERS := e.kc_MOST_LETTERS
  kr_MOST_LETTERS := (by obtain ⟨y, r1, r2⟩ := e.kr_MOST_LETTERS; exact ⟨y, r1, fun w => (r2 w).sw (.inl rfl)⟩)
  kv_MOST_PRICE := e.kv_MOST_PRICE
  kc_MOST_PRICE := e.kc_MOST_PRICE
  kr_MOST_PRICE := (by obtain ⟨y, r1, r2⟩ := e.kr_MOST_PRICE; exact ⟨y, r1, fun w => (r2 w).sw (.inl rfl)⟩)
  kv_MOST_RUNS := e.kv_MOST_RUNS
  kc_MOST_RUNS := e.kc_MOST_RUNS
  kr_MOST_RUNS := (by obtain ⟨y, r1, r2⟩ := e.kr_MOST_RUNS; exact ⟨y, r1, fun w => (r2 w).sw (.inl rfl)⟩)
  iso := ⟨e.iso.1, e.iso.2, e.iso.3⟩
  tabs := e.tabs }
theorem Ev.kk {P : Program} {G : Gam} {mg : Str → Option Value} {base : Heap} (e : Ev P G mg base) : G.K = G.K := rfl
section
variable {P : Program} {w0 : World} {G : Gam} {mg : Str → Option Value} {base : Heap}
theorem ok_is_integer (e : Ev P G mg base) : FnOk P w0 G.K mg base (L2.CX P w0) 1 e.a_is_integer e.fd_is_integer ["value"] (spG G 1 g_is_integer) :=
  fn_okD e.F_is_integer sc_is_integer rfl rfl fun cdv A outer s H E hr tk ps => pdss_one (pds_ret (pd_andT e.kk (pd_callB (cd_isi rfl e.iso) (by rfl) e.z_isinstance (by decide +kernel) (pda_cons (pd_var (pv 0)) (pda_cons (pd_bltn (by rfl) e.z_int boot_int) (pda_nil)))) (pd_one (pd_notT e.kk (pd_callB (cd_isi rfl e.iso) (by rfl) e.z_isinstance (by decide +kernel) (pda_cons (pd_var (pv 0)) (pda_cons (pd_bltn (by rfl) e.z_bool boot_bool) (pda_nil))))))))
theorem ok_PlaceX_initX (e : Ev P G mg base) : FnOk P w0 G.K mg base (L2.CX P w0) 3 e.a_PlaceX_initX e.fd_PlaceX_initX ["self", "x", "y", "area"] (spI G "Place" 3 g_PlaceX_initX) :=
  in_okD e.F_PlaceX_initX sc_PlaceX_initX rfl rfl fun cdv A outer s H E hr tk ps => pdss_cons (pds_for ps rfl (pdi_seq rfl (pd_tup (pda_cons (pd_var (pv 1)) (pda_cons (pd_var (pv 2)) (pda_cons (pd_var (pv 3)) (pda_nil)))))) (pdg_name (i := 4) sc_PlaceX_initX.nd rfl (.inl rfl)) (pdss_one (pds_if (ptd_not (ptd_truth e.kk (pd_call (ok_is_integer e) (hr.mono (by decide)) (by rfl) e.m_is_integer e.F_is_integer.kp e.b_is_integer tk (pda_cons (pd_var (pv 4)) (pda_nil))))) (pdss_one (pds_raise rfl tk e.X_BadNumber.T e.X_BadNumber.I s_0 e.X_BadNumber.B (hr.mono (by decide)) (by rfl) e.m_BadNumber (pda_cons (pd_var (pv 4)) (pda_nil)))) (pdss_nil))))
    (pdss_cons (pds_fld rfl (pv 0) s_1 e.ct_Place e.cl_Place (e.na_Place_x) (pd_var (pv 1)))
    (pdss_cons (pds_fld rfl (pv 0) s_2 e.ct_Place e.cl_Place (e.na_Place_y) (pd_var (pv 2)))
    (pdss_one (pds_fld rfl (pv 0) s_3 e.ct_Place e.cl_Place (e.na_Place_area) (pd_var (pv 3))))))
theorem ok_PlaceX_invertX (e : Ev P G mg base) : FnOk P w0 G.K mg base (L2.CX P w0) 5 e.a_PlaceX_invertX e.fd_PlaceX_invertX ["self"] (spG G 1 g_PlaceX_invertX) :=
  fn_okD e.F_PlaceX_invertX sc_PlaceX_invertX rfl rfl fun cdv A outer s H E hr tk ps => pdss_one (pds_ret (pd_make e.mk_Place e.ct_Place (ok_PlaceX_initX e) (hr.mono (by decide)) (by rfl) e.m_Place e.b_PlaceX_initX tk (pda_cons (pd_neg (pd_fld rfl s_1 e.f_x (pd_var (pv 0)))) (pda_cons (pd_neg (pd_fld rfl s_2 e.f_y (pd_var (pv 0)))) (pda_cons (pd_op (opd_sub) (pd_op (opd_mulA) (pd_fld rfl s_1 e.f_x (pd_var (pv 0))) (pd_fld rfl s_2 e.f_y (pd_var (pv 0)))) (pd_fld rfl s_3 e.f_area (pd_var (pv 0)))) (pda_nil))))))
theorem ok_PlaceX_mulX (e : Ev P G mg base) : FnOk P w0 G.K mg base (L2.CX P w0) 5 e.a_PlaceX_mulX e.fd_PlaceX_mulX ["self", "other"] (spG G 2 g_PlaceX_mulX) :=
  fn_okD e.F_PlaceX_mulX sc_PlaceX_mulX rfl rfl fun cdv A outer s H E hr tk ps => pdss_cons (pds_if (ptd_not (ptd_truth e.kk (pd_callB (cd_isi rfl e.iso) (by rfl) e.z_isinstance (by decide +kernel) (pda_cons (pd_var (pv 1)) (pda_cons (pd_cls (by rfl) e.m_Place e.ct_Place) (pda_nil)))))) (pdss_one (pds_raise rfl tk e.X_BadPlace.T e.X_BadPlace.I s_0 e.X_BadPlace.B (hr.mono (by decide)) (by rfl) e.m_BadPlace (pda_cons (pd_var (pv 1)) (pda_nil)))) (pdss_nil))
    (pdss_one (pds_ret (pd_make e.mk_Place e.ct_Place (ok_PlaceX_initX e) (hr.mono (by decide)) (by rfl) e.m_Place e.b_PlaceX_initX tk (pda_cons (pd_op (opd_addA e.kk) (pd_fld rfl s_1 e.f_x (pd_var (pv 0))) (pd_fld rfl s_1 e.f_x (pd_var (pv 1)))) (pda_cons (pd_op (opd_addA e.kk) (pd_fld rfl s_2 e.f_y (pd_var (pv 0))) (pd_fld rfl s_2 e.f_y (pd_var (pv 1)))) (pda_cons (pd_op (opd_addA e.kk) (pd_op (opd_addA e.kk) (pd_fld rfl s_3 e.f_area (pd_var (pv 0))) (pd_fld rfl s_3 e.f_area (pd_var (pv 1)))) (pd_op (opd_mulA) (pd_fld rfl s_1 e.f_x (pd_var (pv 0))) (pd_fld rfl s_2 e.f_y (pd_var (pv 1))))) (pda_nil)))))))
theorem ok__law_draw (e : Ev P G mg base) : FnOk P w0 G.K mg base (L2.CX P w0) 1 e.a__law_draw e.fd__law_draw ["_law_pen_here", "_law_many"] (spG G 2 g__law_draw) :=
  fn_okD e.F__law_draw sc__law_draw rfl rfl fun cdv A outer s H E hr tk ps => pdss_cons (pds_if (ptd_cmp (opd_ge) (pd_dget (hu_of hr) (pd_var (pv 0)) (pd_str s_4) (fun _ _ => rfl)) (pd_var (pv 1)) (nomark _)) (pdss_cons (pds_set (i := 2) sc__law_draw.nd rfl (.inl rfl) (pd_op (opd_mod) (pd_callTy cd_int (by rfl) e.z_int (by decide +kernel) (pda_cons (pd_dget (hu_of hr) (pd_var (pv 0)) (pd_str s_4) (fun _ _ => rfl)) (pda_nil))) (pd_var (pv 1))))
    (pdss_cons (pds_dputC (hu_of hr) (pd_var (pv 0)) (pd_str s_4) (pd_op (opd_div) (pd_dget (hu_of hr) (pd_var (pv 0)) (pd_str s_4) (fun _ _ => rfl)) (pd_var (pv 1))))
    (pdss_one (pds_ret (pd_var (pv 2)))))) (pdss_nil))
    (pdss_cons (pds_set (i := 3) sc__law_draw.nd rfl (.inl rfl) (pd_dget (hu_of hr) (pd_var (pv 0)) (pd_str s_5) (fun _ _ => rfl)))
    (pdss_cons (pds_dputC (hu_of hr) (pd_var (pv 0)) (pd_str s_5) (pd_op (opd_addA e.kk) (pd_var (pv 3)) (pd_int)))
    (pdss_cons (pds_set (i := 4) sc__law_draw.nd rfl (.inl rfl) (pd_op (opd_addA e.kk) (pd_op (opd_mulA) (pd_int) (pd_var (pv 3))) (pd_int)))
    (pdss_cons (pds_if (ptd_cmp (opd_ne e.kk hr.units) (pd_dget (hu_of hr) (pd_var (pv 0)) (pd_str s_6) (fun _ _ => rfl)) (pdo_frz (pdo_lst (pda_nil))) (nomark _)) (pdss_one (pds_set (i := 4) sc__law_draw.nd rfl (.inl rfl) (pd_ix e.kk (pd_dget (hu_of hr) (pd_var (pv 0)) (pd_str s_6) (fun _ _ => rfl)) (pd_op (opd_mod) (pd_callTy cd_int (by rfl) e.z_int (by decide +kernel) (pda_cons (pd_var (pv 3)) (pda_nil))) (pd_callB (cd_len rfl) (by rfl) e.z_len (by decide +kernel) (pda_cons (pd_dget (hu_of hr) (pd_var (pv 0)) (pd_str s_6) (fun _ _ => rfl)) (pda_nil)))) (fun _ _ => rfl)))) (pdss_nil))
    (pdss_cons (pds_if ((pwd_and (ptd_cmp (opd_lt) (pd_var (pv 3)) (pd_callB (cd_len rfl) (by rfl) e.z_len (by decide +kernel) (pda_cons (pd_dget (hu_of hr) (pd_var (pv 0)) (pd_str s_6) (fun _ _ => rfl)) (pda_nil))) (nomark _)) (pwd_and1 (ptd_cmp (opd_ge) (pd_var (pv 4)) (pd_op (opd_pow) (pd_int) (pd_int)) (nomark _)))).pt) (pdss_cons (pds_dputC (hu_of hr) (pd_var (pv 0)) (pd_str s_4) (pd_op (opd_div) (pd_op (opd_sub) (pd_var (pv 4)) (pd_op (opd_pow) (pd_int) (pd_int))) (pd_var (pv 1))))
    (pdss_one (pds_ret (pd_op (opd_mod) (pd_callTy cd_int (by rfl) e.z_int (by decide +kernel) (pda_cons (pd_op (opd_sub) (pd_var (pv 4)) (pd_op (opd_pow) (pd_int) (pd_int))) (pda_nil))) (pd_var (pv 1)))))) (pdss_nil))
    (pdss_cons (pds_set (i := 5) sc__law_draw.nd rfl (.inl rfl) (pd_op (opd_mulA) (pd_op (opd_mod) (pd_callTy cd_int (by rfl) e.z_int (by decide +kernel) (pda_cons (pd_var (pv 4)) (pda_nil))) (pd_int)) (pd_int)))
    (pdss_cons (pds_set (i := 5) sc__law_draw.nd rfl (.inl rfl) (pd_op (opd_mod) (pd_callTy cd_int (by rfl) e.z_int (by decide +kernel) (pda_cons (pd_op (opd_addA e.kk) (pd_op (opd_addA e.kk) (pd_op (opd_addA e.kk) (pd_var (pv 5)) (pd_op (opd_mulA) (pd_op (opd_mulA) (pd_int) (pd_var (pv 3))) (pd_var (pv 3)))) (pd_op (opd_mulA) (pd_int) (pd_var (pv 3)))) (pd_int)) (pda_nil))) (pd_int)))
    (pdss_cons (pds_set (i := 5) sc__law_draw.nd rfl (.inl rfl) (pd_op (opd_mod) (pd_callTy cd_int (by rfl) e.z_int (by decide +kernel) (pda_cons (pd_op (opd_mulA) (pd_var (pv 5)) (pd_op (opd_addA e.kk) (pd_var (pv 5)) (pd_int))) (pda_nil))) (pd_int)))
    (pdss_one (pds_ret (pd_op (opd_mod) (pd_callTy cd_int (by rfl) e.z_int (by decide +kernel) (pda_cons (pd_op (opd_div) (pd_op (opd_mod) (pd_callTy cd_int (by rfl) e.z_int (by decide +kernel) (pda_cons (pd_op (opd_addA e.kk) (pd_op (opd_mulA) (pd_var (pv 5)) (pd_var (pv 5))) (pd_op (opd_mulA) (pd_int) (pd_var (pv 5)))) (pda_nil))) (pd_int)) (pd_int)) (pda_nil))) (pd_var (pv 1)))))))))))))
theorem ok__law_big (e : Ev P G mg base) : FnOk P w0 G.K mg base (L2.CX P w0) 3 e.a__law_big e.fd__law_big ["_law_pen_here", "_law_size"] (spG G 2 g__law_big) :=
  fn_okD e.F__law_big sc__law_big rfl rfl fun cdv A outer s H E hr tk ps => pdss_cons (pds_if (ptd_cmp (opd_lt) (pd_var (pv 1)) (pd_op (opd_pow) (pd_int) (pd_int)) (nomark _)) (pdss_one (pds_ret (pd_call (ok__law_draw e) (hr.mono (by decide)) (by rfl) e.m__law_draw e.F__law_draw.kp e.b__law_draw tk (pda_cons (pd_var (pv 0)) (pda_cons (pd_var (pv 1)) (pda_nil)))))) (pdss_nil))
    (pdss_cons (pds_set (i := 2) sc__law_big.nd rfl (.inl rfl) (pd_int))
    (pdss_cons (pds_for ps rfl (pdi_range1 (by rfl) e.z_range (pda_cons (pd_int) (pda_nil))) (pdg_name (i := 3) sc__law_big.nd rfl (.inl rfl)) (pdss_cons (pds_set (i := 2) sc__law_big.nd rfl (.inl rfl) (pd_op (opd_addA e.kk) (pd_op (opd_mulA) (pd_var (pv 2)) (pd_op (opd_pow) (pd_int) (pd_int))) (pd_call (ok__law_draw e) (hr.mono (by decide)) (by rfl) e.m__law_draw e.F__law_draw.kp e.b__law_draw tk (pda_cons (pd_var (pv 0)) (pda_cons (pd_op (opd_pow) (pd_int) (pd_int)) (pda_nil))))))
    (pdss_one (pds_if (ptd_cmp (opd_gt) (pd_var (pv 2)) (pd_op (opd_mulA) (pd_var (pv 1)) (pd_op (opd_pow) (pd_int) (pd_int))) (nomark _)) (pdss_one (pds_ret (pd_op (opd_mod) (pd_var (pv 2)) (pd_var (pv 1))))) (pdss_nil)))))
    (pdss_one (pds_ret (pd_op (opd_mod) (pd_var (pv 2)) (pd_var (pv 1)))))))
theorem ok__law_whole (e : Ev P G mg base) : FnOk P w0 G.K mg base (L2.CX P w0) 5 e.a__law_whole e.fd__law_whole ["_law_pen_here", "_law_size"] (spG G 2 g__law_whole) :=
  fn_okD e.F__law_whole sc__law_whole rfl rfl fun cdv A outer s H E hr tk ps => pdss_one (pds_ret (pd_op (opd_sub) (pd_call (ok__law_big e) (hr.mono (by decide)) (by rfl) e.m__law_big e.F__law_big.kp e.b__law_big tk (pda_cons (pd_var (pv 0)) (pda_cons (pd_op (opd_addA e.kk) (pd_op (opd_mulA) (pd_int) (pd_var (pv 1))) (pd_int)) (pda_nil)))) (pd_var (pv 1))))
theorem ok__law_place (e : Ev P G mg base) : FnOk P w0 G.K mg base (L2.CX P w0) 7 e.a__law_place e.fd__law_place ["_law_pen_here", "_law_size"] (spG G 2 g__law_place) :=
  fn_okD e.F__law_place sc__law_place rfl rfl fun cdv A outer s H E hr tk ps => pdss_one (pds_ret (pd_make e.mk_Place e.ct_Place (ok_PlaceX_initX e) (hr.mono (by decide)) (by rfl) e.m_Place e.b_PlaceX_initX tk (pda_cons (pd_call (ok__law_whole e) (hr.mono (by decide)) (by rfl) e.m__law_whole e.F__law_whole.kp e.b__law_whole tk (pda_cons (pd_var (pv 0)) (pda_cons (pd_var (pv 1)) (pda_nil)))) (pda_cons (pd_call (ok__law_whole e) (hr.mono (by decide)) (by rfl) e.m__law_whole e.F__law_whole.kp e.b__law_whole tk (pda_cons (pd_var (pv 0)) (pda_cons (pd_var (pv 1)) (pda_nil)))) (pda_cons (pd_call (ok__law_whole e) (hr.mono (by decide)) (by rfl) e.m__law_whole e.F__law_whole.kp e.b__law_whole tk (pda_cons (pd_var (pv 0)) (pda_cons (pd_op (opd_mulA) (pd_var (pv 1)) (pd_var (pv 1))) (pda_nil)))) (pda_nil))))))
theorem ok__law_drawn (e : Ev P G mg base) : FnOk P w0 G.K mg base (L2.CX P w0) 9 e.a__law_drawn e.fd__law_drawn ["_law_pen_here"] (spG G 1 g__law_drawn) :=
  fn_okD e.F__law_drawn sc__law_drawn rfl rfl fun cdv A outer s H E hr tk ps => pdss_cons (pds_set (i := 1) sc__law_drawn.nd rfl (.inl rfl) (pd_call (ok__law_draw e) (hr.mono (by decide)) (by rfl) e.m__law_draw e.F__law_draw.kp e.b__law_draw tk (pda_cons (pd_var (pv 0)) (pda_cons (pd_int) (pda_nil)))))
    (pdss_cons (pds_if (ptd_cmp (opd_eq e.kk hr.units) (pd_var (pv 1)) (pd_int) (nomark _)) (pdss_one (pds_ret (pd_call (ok__law_place e) (hr.mono (by decide)) (by rfl) e.m__law_place e.F__law_place.kp e.b__law_place tk (pda_cons (pd_var (pv 0)) (pda_cons (pd_int) (pda_nil)))))) (pdss_nil))
    (pdss_cons (pds_if (ptd_cmp (opd_eq e.kk hr.units) (pd_var (pv 1)) (pd_int) (nomark _)) (pdss_one (pds_ret (pd_make e.mk_Place e.ct_Place (ok_PlaceX_initX e) (hr.mono (by decide)) (by rfl) e.m_Place e.b_PlaceX_initX tk (pda_cons (pd_call (ok__law_whole e) (hr.mono (by decide)) (by rfl) e.m__law_whole e.F__law_whole.kp e.b__law_whole tk (pda_cons (pd_var (pv 0)) (pda_cons (pd_op (opd_pow) (pd_int) (pd_int)) (pda_nil)))) (pda_cons (pd_call (ok__law_whole e) (hr.mono (by decide)) (by rfl) e.m__law_whole e.F__law_whole.kp e.b__law_whole tk (pda_cons (pd_var (pv 0)) (pda_cons (pd_op (opd_pow) (pd_int) (pd_int)) (pda_nil)))) (pda_cons (pd_call (ok__law_whole e) (hr.mono (by decide)) (by rfl) e.m__law_whole e.F__law_whole.kp e.b__law_whole tk (pda_cons (pd_var (pv 0)) (pda_cons (pd_op (opd_mulA) (pd_op (opd_pow) (pd_int) (pd_int)) (pd_op (opd_pow) (pd_int) (pd_int))) (pda_nil)))) (pda_nil))))))) (pdss_nil))
    (pdss_cons (pds_if (ptd_cmp (opd_eq e.kk hr.units) (pd_var (pv 1)) (pd_int) (nomark _)) (pdss_one (pds_ret (pd_make e.mk_Place e.ct_Place (ok_PlaceX_initX e) (hr.mono (by decide)) (by rfl) e.m_Place e.b_PlaceX_initX tk (pda_cons (pd_call (ok__law_whole e) (hr.mono (by decide)) (by rfl) e.m__law_whole e.F__law_whole.kp e.b__law_whole tk (pda_cons (pd_var (pv 0)) (pda_cons (pd_int) (pda_nil)))) (pda_cons (pd_call (ok__law_whole e) (hr.mono (by decide)) (by rfl) e.m__law_whole e.F__law_whole.kp e.b__law_whole tk (pda_cons (pd_var (pv 0)) (pda_cons (pd_int) (pda_nil)))) (pda_cons (pd_call (ok__law_whole e) (hr.mono (by decide)) (by rfl) e.m__law_whole e.F__law_whole.kp e.b__law_whole tk (pda_cons (pd_var (pv 0)) (pda_cons (pd_op (opd_mulA) (pd_op (opd_pow) (pd_int) (pd_int)) (pd_op (opd_pow) (pd_int) (pd_int))) (pda_nil)))) (pda_nil))))))) (pdss_nil))
    (pdss_cons (pds_if (ptd_cmp (opd_eq e.kk hr.units) (pd_var (pv 1)) (pd_int) (nomark _)) (pdss_one (pds_ret (pd_make e.mk_Place e.ct_Place (ok_PlaceX_initX e) (hr.mono (by decide)) (by rfl) e.m_Place e.b_PlaceX_initX tk (pda_cons (pd_call (ok__law_whole e) (hr.mono (by decide)) (by rfl) e.m__law_whole e.F__law_whole.kp e.b__law_whole tk (pda_cons (pd_var (pv 0)) (pda_cons (pd_op (opd_pow) (pd_int) (pd_int)) (pda_nil)))) (pda_cons (pd_call (ok__law_whole e) (hr.mono (by decide)) (by rfl) e.m__law_whole e.F__law_whole.kp e.b__law_whole tk (pda_cons (pd_var (pv 0)) (pda_cons (pd_int) (pda_nil)))) (pda_cons (pd_call (ok__law_whole e) (hr.mono (by decide)) (by rfl) e.m__law_whole e.F__law_whole.kp e.b__law_whole tk (pda_cons (pd_var (pv 0)) (pda_cons (pd_op (opd_pow) (pd_int) (pd_int)) (pda_nil)))) (pda_nil))))))) (pdss_nil))
    (pdss_one (pds_ret (pd_call (ok__law_place e) (hr.mono (by decide)) (by rfl) e.m__law_place e.F__law_place.kp e.b__law_place tk (pda_cons (pd_var (pv 0)) (pda_cons (pd_int) (pda_nil))))))))))
theorem ok__law_step (e : Ev P G mg base) : FnOk P w0 G.K mg base (L2.CX P w0) 5 e.a__law_step e.fd__law_step ["_law_letter"] (spG G 1 g__law_step) :=
  fn_okD e.F__law_step sc__law_step rfl rfl fun cdv A outer s H E hr tk ps => pdss_one (pds_ret (pd_dget (hu_of hr) (pdod_frz (pdod_disp (fs := [(eC (.str [101]), eMake "Place" 3 g_PlaceX_initX (aCons (eC (.int 1)) (aCons (eC (.int 0)) (aCons (eC (.int 0)) (aNil))))), (eC (.str [119]), eMake "Place" 3 g_PlaceX_initX (aCons (eNeg (eC (.int 1))) (aCons (eC (.int 0)) (aCons (eC (.int 0)) (aNil))))), (eC (.str [110]), eMake "Place" 3 g_PlaceX_initX (aCons (eC (.int 0)) (aCons (eC (.int 1)) (aCons (eC (.int 0)) (aNil))))), (eC (.str [115]), eMake "Place" 3 g_PlaceX_initX (aCons (eC (.int 0)) (aCons (eNeg (eC (.int 1))) (aCons (eC (.int 0)) (aNil)))))]) (pps_cons (pd_str s_10) (pd_make e.mk_Place e.ct_Place (ok_PlaceX_initX e) (hr.mono (by decide)) (by rfl) e.m_Place e.b_PlaceX_initX tk (pda_cons (pd_int) (pda_cons (pd_int) (pda_cons (pd_int) (pda_nil))))) (pps_cons (pd_str s_9) (pd_make e.mk_Place e.ct_Place (ok_PlaceX_initX e) (hr.mono (by decide)) (by rfl) e.m_Place e.b_PlaceX_initX tk (pda_cons (pd_neg (pd_int)) (pda_cons (pd_int) (pda_cons (pd_int) (pda_nil))))) (pps_cons (pd_str s_8) (pd_make e.mk_Place e.ct_Place (ok_PlaceX_initX e) (hr.mono (by decide)) (by rfl) e.m_Place e.b_PlaceX_initX tk (pda_cons (pd_int) (pda_cons (pd_int) (pda_cons (pd_int) (pda_nil))))) (pps_cons (pd_str s_7) (pd_make e.mk_Place e.ct_Place (ok_PlaceX_initX e) (hr.mono (by decide)) (by rfl) e.m_Place e.b_PlaceX_initX tk (pda_cons (pd_int) (pda_cons (pd_neg (pd_int)) (pda_cons (pd_int) (pda_nil))))) (pps_nil))))) (by rfl) (by rfl) (fun z => by cases z) (by decide))) (pd_var (pv 0)) (fun _ _ => rfl)))
theorem ok_need_place (e : Ev P G mg base) : FnOk P w0 G.K mg base (L2.CX P w0) 3 e.a_need_place e.fd_need_place ["value"] (spG G 1 g_need_place) :=
  fn_okD e.F_need_place sc_need_place rfl rfl fun cdv A outer s H E hr tk ps => pdss_one (pds_if (ptd_not (ptd_truth e.kk (pd_callB (cd_isi rfl e.iso) (by rfl) e.z_isinstance (by decide +kernel) (pda_cons (pd_var (pv 0)) (pda_cons (pd_cls (by rfl) e.m_Place e.ct_Place) (pda_nil)))))) (pdss_one (pds_raise rfl tk e.X_BadPlace.T e.X_BadPlace.I s_0 e.X_BadPlace.B (hr.mono (by decide)) (by rfl) e.m_BadPlace (pda_cons (pd_var (pv 0)) (pda_nil)))) (pdss_nil))
theorem ok_whole_root (e : Ev P G mg base) : FnOk P w0 G.K mg base (L2.CX P w0) 1 e.a_whole_root e.fd_whole_root ["number"] (spG G 1 g_whole_root) :=
  fn_okD e.F_whole_root sc_whole_root rfl rfl fun cdv A outer s H E hr tk ps => pdss_cons (pds_if (ptd_cmp (opd_lt) (pd_var (pv 0)) (pd_int) (nomark _)) (pdss_one (pds_ret (pd_var (pv 0)))) (pdss_nil))
    (pdss_cons (pds_set (i := 1) sc_whole_root.nd rfl (.inl rfl) (pd_op (opd_shl) (pd_int) (pd_op (opd_div) (pd_op (opd_addA e.kk) (pd_bits (pd_var (pv 0))) (pd_int)) (pd_int))))
    (pdss_one (pds_while ps (ptd_truth e.kk (pd_bl)) (pdss_cons (pds_set (i := 2) sc_whole_root.nd rfl (.inl rfl) (pd_op (opd_div) (pd_op (opd_addA e.kk) (pd_var (pv 1)) (pd_op (opd_div) (pd_var (pv 0)) (pd_var (pv 1)))) (pd_int)))
    (pdss_cons (pds_if (ptd_cmp (opd_ge) (pd_var (pv 2)) (pd_var (pv 1)) (nomark _)) (pdss_one (pds_ret (pd_var (pv 1)))) (pdss_nil))
    (pdss_one (pds_set (i := 1) sc_whole_root.nd rfl (.inl rfl) (pd_var (pv 2)))))))))
theorem ok_steps_of (e : Ev P G mg base) : FnOk P w0 G.K mg base (L2.CX P w0) 3 e.a_steps_of e.fd_steps_of ["x", "y", "area"] (spG G 3 g_steps_of) :=
  fn_okD e.F_steps_of sc_steps_of rfl rfl fun cdv A outer s H E hr tk ps => pdss_cons (pds_set (i := 3) sc_steps_of.nd rfl (.inl rfl) (pd_op (opd_div) (pd_op (opd_addA e.kk) (pd_callB cd_abs (by rfl) e.z_abs (by decide +kernel) (pda_cons (pd_op (opd_sub) (pd_op (opd_mulA) (pd_int) (pd_var (pv 2))) (pd_op (opd_mulA) (pd_var (pv 0)) (pd_var (pv 1)))) (pda_nil))) (pd_callB cd_abs (by rfl) e.z_abs (by decide +kernel) (pda_cons (pd_op (opd_mulA) (pd_var (pv 0)) (pd_var (pv 1))) (pda_nil)))) (pd_int)))
    (pdss_cons (pds_par (i := 0) (j := 1) rfl sc_steps_of.nd rfl rfl (by decide) rfl rfl (pda_cons (pd_callB cd_abs (by rfl) e.z_abs (by decide +kernel) (pda_cons (pd_var (pv 0)) (pda_nil))) (pda_cons (pd_callB cd_abs (by rfl) e.z_abs (by decide +kernel) (pda_cons (pd_var (pv 1)) (pda_nil))) (pda_nil))) (by rfl))
    (pdss_cons (pds_asg (pd_ifExp (ptd_cmp (opd_ge) (pd_var (pv 0)) (pd_var (pv 1)) (nomark _)) (pd_tup (pda_cons (pd_var (pv 0)) (pda_cons (pd_var (pv 1)) (pda_nil)))) (pd_tup (pda_cons (pd_var (pv 1)) (pda_cons (pd_var (pv 0)) (pda_nil))))) (pdg_tup rfl rfl (pdgs_cons (pdg_name (i := 4) sc_steps_of.nd rfl (.inl rfl)) (pdgs_cons (pdg_name (i := 5) sc_steps_of.nd rfl (.inl rfl)) (pdgs_nil)))))
    (pdss_cons (pds_if (ptd_cmp (opd_le) (pd_var (pv 3)) (pd_op (opd_mulA) (pd_var (pv 4)) (pd_var (pv 5))) (nomark _)) (pdss_one (pds_ret (pd_op (opd_addA e.kk) (pd_var (pv 4)) (pd_var (pv 5))))) (pdss_nil))
    (pdss_cons (pds_if (ptd_cmp (opd_le) (pd_var (pv 3)) (pd_op (opd_mulA) (pd_var (pv 4)) (pd_var (pv 4))) (nomark _)) (pdss_one (pds_ret (pd_op (opd_sub) (pd_op (opd_addA e.kk) (pd_op (opd_mulA) (pd_int) (pd_neg (pd_op (opd_div) (pd_neg (pd_var (pv 3))) (pd_var (pv 4))))) (pd_var (pv 4))) (pd_var (pv 5))))) (pdss_nil))
    (pdss_cons (pds_set (i := 6) sc_steps_of.nd rfl (.inl rfl) (pd_call (ok_whole_root e) (hr.mono (by decide)) (by rfl) e.m_whole_root e.F_whole_root.kp e.b_whole_root tk (pda_cons (pd_op (opd_mulA) (pd_int) (pd_var (pv 3))) (pda_nil))))
    (pdss_one (pds_ret (pd_op (opd_sub) (pd_op (opd_sub) (pd_op (opd_mulA) (pd_int) (pd_ifExp (ptd_cmp (opd_eq e.kk hr.units) (pd_op (opd_mulA) (pd_var (pv 6)) (pd_var (pv 6))) (pd_op (opd_mulA) (pd_int) (pd_var (pv 3))) (nomark _)) (pd_var (pv 6)) (pd_op (opd_addA e.kk) (pd_var (pv 6)) (pd_int)))) (pd_var (pv 4))) (pd_var (pv 5))))))))))
theorem ok_steps (e : Ev P G mg base) : FnOk P w0 G.K mg base (L2.CX P w0) 5 e.a_steps e.fd_steps ["place"] (spG G 1 g_steps) :=
  fn_okD e.F_steps sc_steps rfl rfl fun cdv A outer s H E hr tk ps => pdss_cons (pds_expr (pd_call (ok_need_place e) (hr.mono (by decide)) (by rfl) e.m_need_place e.F_need_place.kp e.b_need_place tk (pda_cons (pd_var (pv 0)) (pda_nil))))
    (pdss_one (pds_ret (pd_call (ok_steps_of e) (hr.mono (by decide)) (by rfl) e.m_steps_of e.F_steps_of.kp e.b_steps_of tk (pda_cons (pd_fld rfl s_1 e.f_x (pd_var (pv 0))) (pda_cons (pd_fld rfl s_2 e.f_y (pd_var (pv 0))) (pda_cons (pd_fld rfl s_3 e.f_area (pd_var (pv 0))) (pda_nil)))))))
theorem ok_first_letters (e : Ev P G mg base) : FnOk P w0 G.K mg base (L2.CX P w0) 7 e.a_first_letters e.fd_first_letters ["place"] (spG G 1 g_first_letters) :=
  fn_okD e.F_first_letters sc_first_letters rfl rfl fun cdv A outer s H E hr tk ps => pdss_cons (pds_set (i := 1) sc_first_letters.nd rfl (.inr rfl) (pd_call (ok_steps e) (hr.mono (by decide)) (by rfl) e.m_steps e.F_steps.kp e.b_steps tk (pda_cons (pd_var (pv 0)) (pda_nil))))
    (pdss_one (pds_ret (pd_bm PySem.F.plainAttrs_str PySem.F.slot_str_join PySem.F.type_str_join mtd_join (pd_str s_11) (pda_cons (pdo_frz (pdo_lc (own := [("letter", 2), ("x", 3), ("y", 4)]) rfl sc_first_letters.nd (pdi_seq rfl (pd_const (by rfl) e.kc_FOUR e.kr_FOUR)) (by exact blkOk_by (N := ["place", "here", "letter", "x", "y"]) (sc := defScope st_first_letters) (own := [("letter", 2), ("x", 3), ("y", 4)]) (by decide +kernel)) (by decide) (fun _ _ _ _ _ => pdg_tup rfl rfl (pdgs_cons (pdg_name (i := 2) sc_first_letters.nd rfl (.inl rfl)) (pdgs_cons (pdg_name (i := 3) sc_first_letters.nd rfl (.inl rfl)) (pdgs_cons (pdg_name (i := 4) sc_first_letters.nd rfl (.inl rfl)) (pdgs_nil))))) (fun _ _ _ _ _ => ptds_one (ptd_cmp (opd_lt) (pd_call (ok_steps e) (hr.mono (by decide)) (by rfl) e.m_steps e.F_steps.kp e.b_steps takes0 (pda_cons (pd_opX (opx_own (op := .Mult) (by decide +kernel) e.ct_Place e.M_PlaceX_mulX.at_ e.M_PlaceX_mulX.fn e.sf_Place (ok_PlaceX_mulX e) (hr.mono (by decide)) e.b_PlaceX_mulX takes0) (pd_make e.mk_Place e.ct_Place (ok_PlaceX_initX e) (hr.mono (by decide)) (by rfl) e.m_Place e.b_PlaceX_initX takes0 (pda_cons (pd_neg (pd_var (pv 3))) (pda_cons (pd_neg (pd_var (pv 4))) (pda_cons (pd_int) (pda_nil))))) (pd_var (pv 0))) (pda_nil))) (pd_var (pv 1)) (nomark _))) (fun _ _ _ _ _ => pd_var (pv 2)))) (pda_nil)))))
theorem ok_nearer (e : Ev P G mg base) : FnOk P w0 G.K mg base (L2.CX P w0) 7 e.a_nearer e.fd_nearer ["place"] (spG G 1 g_nearer) :=
  fn_okD e.F_nearer sc_nearer rfl rfl fun cdv A outer s H E hr tk ps => pdss_cons (pds_set (i := 1) sc_nearer.nd rfl (.inr rfl) (pd_call (ok_steps e) (hr.mono (by decide)) (by rfl) e.m_steps e.F_steps.kp e.b_steps tk (pda_cons (pd_var (pv 0)) (pda_nil))))
    (pdss_one (pds_ret (pd_bm PySem.F.plainAttrs_str PySem.F.slot_str_join PySem.F.type_str_join mtd_join (pd_str s_11) (pda_cons (pdo_frz (pdo_lc (own := [("letter", 2), ("x", 3), ("y", 4)]) rfl sc_nearer.nd (pdi_seq rfl (pd_const (by rfl) e.kc_FOUR e.kr_FOUR)) (by exact blkOk_by (N := ["place", "here", "letter", "x", "y"]) (sc := defScope st_nearer) (own := [("letter", 2), ("x", 3), ("y", 4)]) (by decide +kernel)) (by decide) (fun _ _ _ _ _ => pdg_tup rfl rfl (pdgs_cons (pdg_name (i := 2) sc_nearer.nd rfl (.inl rfl)) (pdgs_cons (pdg_name (i := 3) sc_nearer.nd rfl (.inl rfl)) (pdgs_cons (pdg_name (i := 4) sc_nearer.nd rfl (.inl rfl)) (pdgs_nil))))) (fun _ _ _ _ _ => ptds_one (ptd_cmp (opd_lt) (pd_call (ok_steps e) (hr.mono (by decide)) (by rfl) e.m_steps e.F_steps.kp e.b_steps takes0 (pda_cons (pd_opX (opx_own (op := .Mult) (by decide +kernel) e.ct_Place e.M_PlaceX_mulX.at_ e.M_PlaceX_mulX.fn e.sf_Place (ok_PlaceX_mulX e) (hr.mono (by decide)) e.b_PlaceX_mulX takes0) (pd_var (pv 0)) (pd_make e.mk_Place e.ct_Place (ok_PlaceX_initX e) (hr.mono (by decide)) (by rfl) e.m_Place e.b_PlaceX_initX takes0 (pda_cons (pd_var (pv 3)) (pda_cons (pd_var (pv 4)) (pda_cons (pd_int) (pda_nil)))))) (pda_nil))) (pd_var (pv 1)) (nomark _))) (fun _ _ _ _ _ => pd_var (pv 2)))) (pda_nil)))))
theorem ok_is_summit (e : Ev P G mg base) : FnOk P w0 G.K mg base (L2.CX P w0) 9 e.a_is_summit e.fd_is_summit ["place"] (spG G 1 g_is_summit) :=
  fn_okD e.F_is_summit sc_is_summit rfl rfl fun cdv A outer s H E hr tk ps => pdss_one (pds_ret (pd_cmp (opd_eq e.kk hr.units) (pd_callB (cd_len rfl) (by rfl) e.z_len (by decide +kernel) (pda_cons (pd_call (ok_nearer e) (hr.mono (by decide)) (by rfl) e.m_nearer e.F_nearer.kp e.b_nearer tk (pda_cons (pd_var (pv 0)) (pda_nil))) (pda_nil))) (pd_int) (nomark _)))
theorem ok__law_local_right (e : Ev P G mg base) : FnOk P w0 G.K mg base (L2.CX P w0) 11 e.a__law_local_right e.fd__law_local_right ["_law_place_here"] (spG G 1 g__law_local_right) :=
  fn_okD e.F__law_local_right sc__law_local_right rfl rfl fun cdv A outer s H E hr tk ps => pdss_cons (pds_asg (pd_tup (pda_cons (pd_call (ok_steps e) (hr.mono (by decide)) (by rfl) e.m_steps e.F_steps.kp e.b_steps tk (pda_cons (pd_var (pv 0)) (pda_nil))) (pda_cons (pd_str s_11) (pda_nil)))) (pdg_tup rfl rfl (pdgs_cons (pdg_name (i := 1) sc__law_local_right.nd rfl (.inr rfl)) (pdgs_cons (pdg_name (i := 2) sc__law_local_right.nd rfl (.inl rfl)) (pdgs_nil)))))
    (pdss_cons (pds_for ps rfl (pdi_seq rfl (pd_str s_12)) (pdg_name (i := 3) sc__law_local_right.nd rfl (.inl rfl)) (pdss_cons (pds_set (i := 4) sc__law_local_right.nd rfl (.inl rfl) (pd_call (ok_steps e) (hr.mono (by decide)) (by rfl) e.m_steps e.F_steps.kp e.b_steps tk (pda_cons (pd_opX (opx_own (op := .Mult) (by decide +kernel) e.ct_Place e.M_PlaceX_mulX.at_ e.M_PlaceX_mulX.fn e.sf_Place (ok_PlaceX_mulX e) (hr.mono (by decide)) e.b_PlaceX_mulX tk) (pd_var (pv 0)) (pd_call (ok__law_step e) (hr.mono (by decide)) (by rfl) e.m__law_step e.F__law_step.kp e.b__law_step tk (pda_cons (pd_var (pv 3)) (pda_nil)))) (pda_nil))))
    (pdss_cons (pds_if (ptd_cmp (opd_ne e.kk hr.units) (pd_callB cd_abs (by rfl) e.z_abs (by decide +kernel) (pda_cons (pd_op (opd_sub) (pd_var (pv 4)) (pd_var (pv 1))) (pda_nil))) (pd_int) (nomark _)) (pdss_one (pds_ret (pd_bl))) (pdss_nil))
    (pdss_one (pds_set (i := 2) sc__law_local_right.nd rfl (.inl rfl) (pd_op (opd_addA e.kk) (pd_var (pv 2)) (pd_ifExp (ptd_cmp (opd_lt) (pd_var (pv 4)) (pd_var (pv 1)) (nomark _)) (pd_var (pv 3)) (pd_str s_11))))))))
    (pdss_cons (pds_if ((pwd_or (ptd_cmp (opd_ne e.kk hr.units) (pd_call (ok_nearer e) (hr.mono (by decide)) (by rfl) e.m_nearer e.F_nearer.kp e.b_nearer tk (pda_cons (pd_var (pv 0)) (pda_nil))) (pd_var (pv 2)) (nomark _)) (pwd_or1 (ptd_cmp (opd_ne e.kk hr.units) (pd_call (ok_is_summit e) (hr.mono (by decide)) (by rfl) e.m_is_summit e.F_is_summit.kp e.b_is_summit tk (pda_cons (pd_var (pv 0)) (pda_nil))) (pd_cmp (opd_eq e.kk hr.units) (pd_callB (cd_len rfl) (by rfl) e.z_len (by decide +kernel) (pda_cons (pd_var (pv 2)) (pda_nil))) (pd_int) (nomark _)) (nomark _)))).pt) (pdss_one (pds_ret (pd_bl))) (pdss_nil))
    (pdss_cons (pds_set (i := 5) sc__law_local_right.nd rfl (.inl rfl) (pd_bm PySem.F.plainAttrs_str PySem.F.slot_str_join PySem.F.type_str_join mtd_join (pd_str s_11) (pda_cons (pdo_frz (pdo_lc (own := [("_law_letter", 3)]) rfl sc__law_local_right.nd (pdi_seq rfl (pd_str s_12)) (by exact blkOk_by (N := ["_law_place_here", "_law_here", "_law_near", "_law_letter", "_law_there", "_law_begun"]) (sc := defScope st__law_local_right) (own := [("_law_letter", 3)]) (by decide +kernel)) (by decide) (fun _ _ _ _ _ => pdg_name (i := 3) sc__law_local_right.nd rfl (.inl rfl)) (fun _ _ _ _ _ => ptds_one (ptd_cmp (opd_lt) (pd_call (ok_steps e) (hr.mono (by decide)) (by rfl) e.m_steps e.F_steps.kp e.b_steps takes0 (pda_cons (pd_opX (opx_own (op := .Mult) (by decide +kernel) e.ct_Place e.M_PlaceX_mulX.at_ e.M_PlaceX_mulX.fn e.sf_Place (ok_PlaceX_mulX e) (hr.mono (by decide)) e.b_PlaceX_mulX takes0) (pd_inv e.ct_Place e.M_PlaceX_invertX.at_ e.M_PlaceX_invertX.fn (ok_PlaceX_invertX e) (hr.mono (by decide)) e.b_PlaceX_invertX takes0 (pd_call (ok__law_step e) (hr.mono (by decide)) (by rfl) e.m__law_step e.F__law_step.kp e.b__law_step takes0 (pda_cons (pd_var (pv 3)) (pda_nil)))) (pd_var (pv 0))) (pda_nil))) (pd_var (pv 1)) (nomark _))) (fun _ _ _ _ _ => pd_var (pv 3)))) (pda_nil))))
    (pdss_one (pds_ret (pd_andT e.kk (pd_cmp (opd_eq e.kk hr.units) (pd_call (ok_first_letters e) (hr.mono (by decide)) (by rfl) e.m_first_letters e.F_first_letters.kp e.b_first_letters tk (pda_cons (pd_var (pv 0)) (pda_nil))) (pd_var (pv 5)) (nomark _)) (pd_one (pd_cmp (opd_eq e.kk hr.units) (pd_cmp (opd_eq e.kk hr.units) (pd_var (pv 1)) (pd_int) (nomark _)) (pd_cmp (opd_eq e.kk hr.units) (pd_var (pv 2)) (pd_str s_11) (nomark _)) (nomark _)))))))))
theorem ok__law_pen (e : Ev P G mg base) : FnOk P w0 G.K mg base (L2.CX P w0) 1 e.a__law_pen e.fd__law_pen ["_law_script"] (spG G 1 g__law_pen) :=
  fn_okD e.F__law_pen sc__law_pen rfl rfl fun cdv A outer s H E hr tk ps => pdss_one (pds_ret (pdod_cell (pdod_disp (fs := [(eC (.str [99, 101, 108, 108, 115]), eFrz (aList (aCons (eSlA (eVar 0) (oNone) (oSome (eC (.int 63)))) (aNil)))), (eC (.str [115, 116, 111, 112]), eC (.int 0)), (eC (.str [114, 101, 115, 116]), eC (.int 0))]) (pps_cons (pd_str s_6) (pdo_frz (pdo_list rfl (by rfl) e.z_list boot_list (pda_cons (pd_slA rfl (pd_var (pv 0)) (pdo_none) (pdo_some (pd_int))) (pda_nil)))) (pps_cons (pd_str s_5) (pd_int) (pps_cons (pd_str s_4) (pd_int) (pps_nil)))) (by rfl) (by rfl) (fun z => by cases z) (by decide))))
theorem ok_merged (e : Ev P G mg base) : FnOk P w0 G.K mg base (L2.CX P w0) 1 e.a_merged e.fd_merged ["pairs"] (spG G 1 g_merged) :=
  fn_okD e.F_merged sc_merged rfl rfl fun cdv A outer s H E hr tk ps => pdss_cons (pds_setO (i := 1) sc_merged.nd rfl (.inl rfl) (pdo_lst (pda_nil)))
    (pdss_cons (pds_for ps rfl (pdi_seq rfl (pd_var (pv 0))) (pdg_tup rfl rfl (pdgs_cons (pdg_name (i := 2) sc_merged.nd rfl (.inl rfl)) (pdgs_cons (pdg_name (i := 3) sc_merged.nd rfl (.inl rfl)) (pdgs_nil)))) (pdss_one (pds_if ((pwd_and (ptd_truO e.kk (pv 1)) (pwd_and1 (ptd_cmp (opd_eq e.kk hr.units) (pd_ix e.kk (pd_ixO e.kk (pv 1) (pd_neg (pd_int)) (fun _ _ => rfl)) (pd_int) (fun _ _ => rfl)) (pd_var (pv 2)) (nomark _)))).pt) (pdss_one (pds_ixO (pv 1) (pd_neg (pd_int)) (pd_tup (pda_cons (pd_var (pv 2)) (pda_cons (pd_op (opd_addA e.kk) (pd_ix e.kk (pd_ixO e.kk (pv 1) (pd_neg (pd_int)) (fun _ _ => rfl)) (pd_int) (fun _ _ => rfl)) (pd_var (pv 3))) (pda_nil)))) (hcol := nx_neg (nx_c _)))) (pdss_one (pds_if (ptd_cmp (opd_gt) (pd_var (pv 3)) (pd_int) (nomark _)) (pdss_one (pds_append (pv 1) (pda_cons (pd_tup (pda_cons (pd_var (pv 2)) (pda_cons (pd_var (pv 3)) (pda_nil)))) (pda_nil)))) (pdss_nil))))))
    (pdss_one (pds_ret (pd_callTy (cd_tup rfl) (by rfl) e.z_tuple (by decide +kernel) (pda_cons (pd_var (pv 1)) (pda_nil))))))
theorem ok_is_list (e : Ev P G mg base) : FnOk P w0 G.K mg base (L2.CX P w0) 1 e.a_is_list e.fd_is_list ["value"] (spG G 1 g_is_list) :=
  fn_okD e.F_is_list sc_is_list rfl rfl fun cdv A outer s H E hr tk ps => pdss_one (pds_ret (pd_isT rfl e.iso (by rfl) e.z_isinstance (by decide +kernel) (pd_var (pv 0)) (pda_cons (pd_bltn (by rfl) e.z_list boot_list) (pda_cons (pd_bltn (by rfl) e.z_tuple boot_tuple) (pda_nil)))))
theorem ok_is_whole (e : Ev P G mg base) : FnOk P w0 G.K mg base (L2.CX P w0) 3 e.a_is_whole e.fd_is_whole ["value", "least"] (spG G 2 g_is_whole) :=
  fn_okD e.F_is_whole sc_is_whole rfl rfl fun cdv A outer s H E hr tk ps => pdss_one (pds_ret (pd_andT e.kk (pd_call (ok_is_integer e) (hr.mono (by decide)) (by rfl) e.m_is_integer e.F_is_integer.kp e.b_is_integer tk (pda_cons (pd_var (pv 0)) (pda_nil))) (pd_one (pd_cmp (opd_ge) (pd_var (pv 0)) (pd_var (pv 1)) (nomark _)))))
theorem ok_is_pair (e : Ev P G mg base) : FnOk P w0 G.K mg base (L2.CX P w0) 5 e.a_is_pair e.fd_is_pair ["value"] (spG G 1 g_is_pair) :=
  fn_okD e.F_is_pair sc_is_pair rfl rfl fun cdv A outer s H E hr tk ps => pdss_cons (pds_if ((pwd_or (ptd_not (ptd_truth e.kk (pd_call (ok_is_list e) (hr.mono (by decide)) (by rfl) e.m_is_list e.F_is_list.kp e.b_is_list tk (pda_cons (pd_var (pv 0)) (pda_nil))))) (pwd_or (ptd_cmp (opd_ne e.kk hr.units) (pd_callB (cd_len rfl) (by rfl) e.z_len (by decide +kernel) (pda_cons (pd_var (pv 0)) (pda_nil))) (pd_int) (nomark _)) (pwd_or1 (ptd_not (ptd_truth e.kk (pd_callB (cd_isi rfl e.iso) (by rfl) e.z_isinstance (by decide +kernel) (pda_cons (pd_ix e.kk (pd_var (pv 0)) (pd_int) (fun _ _ => rfl)) (pda_cons (pd_bltn (by rfl) e.z_str boot_str) (pda_nil))))))))).pt) (pdss_one (pds_ret (pd_bl))) (pdss_nil))
    (pdss_one (pds_ret (pd_andT e.kk (pd_cmp (opd_eq e.kk hr.units) (pd_callB (cd_len rfl) (by rfl) e.z_len (by decide +kernel) (pda_cons (pd_ix e.kk (pd_var (pv 0)) (pd_int) (fun _ _ => rfl)) (pda_nil))) (pd_int) (nomark _)) (pd_andT e.kk (pd_cmp (opd_in e.kk (room65 hr)) (pd_ix e.kk (pd_var (pv 0)) (pd_int) (fun _ _ => rfl)) (pd_const (by rfl) e.kc_LETTERS e.kr_LETTERS) (by rfl)) (pd_one (pd_call (ok_is_whole e) (hr.mono (by decide)) (by rfl) e.m_is_whole e.F_is_whole.kp e.b_is_whole tk (pda_cons (pd_ix e.kk (pd_var (pv 0)) (pd_int) (fun _ _ => rfl)) (pda_cons (pd_int) (pda_nil)))))))))
theorem ok_pairs_told (e : Ev P G mg base) : FnOk P w0 G.K mg base (L2.CX P w0) 7 e.a_pairs_told e.fd_pairs_told ["told"] (spG G 1 g_pairs_told) :=
  fn_okD e.F_pairs_told sc_pairs_told rfl rfl fun cdv A outer s H E hr tk ps => pdss_cons (pds_if ((pwd_and (ptd_truth e.kk (pd_callB (cd_isi rfl e.iso) (by rfl) e.z_isinstance (by decide +kernel) (pda_cons (pd_var (pv 0)) (pda_cons (pd_bltn (by rfl) e.z_str boot_str) (pda_nil))))) (pwd_and (ptd_cmp (opd_le) (pd_callB (cd_len rfl) (by rfl) e.z_len (by decide +kernel) (pda_cons (pd_var (pv 0)) (pda_nil))) (pd_const (by rfl) e.kc_MOST_LETTERS e.kr_MOST_LETTERS) (nomark _)) (pwd_and1 (ptd_truth e.kk (pd_callB (cd_all rfl) (by rfl) e.z_all (by decide +kernel) (pda_cons (pdo_frz (pdo_lc (own := [("letter", 1)]) rfl sc_pairs_told.nd (pdi_seq rfl (pd_var (pv 0))) (by exact blkOk_by (N := ["told", "letter", "pair"]) (sc := defScope st_pairs_told) (own := [("letter", 1)]) (by decide +kernel)) (by decide) (fun _ _ _ _ _ => pdg_name (i := 1) sc_pairs_told.nd rfl (.inl rfl)) (fun _ _ _ _ _ => ptds_nil) (fun _ _ _ _ _ => pd_cmp (opd_in e.kk (room65 hr)) (pd_var (pv 1)) (pd_const (by rfl) e.kc_LETTERS e.kr_LETTERS) (by rfl)))) (pda_nil))))))).pt) (pdss_one (pds_ret (pdo_frz (pdo_lc (own := [("letter", 1)]) rfl sc_pairs_told.nd (pdi_seq rfl (pd_var (pv 0))) (by exact blkOk_by (N := ["told", "letter", "pair"]) (sc := defScope st_pairs_told) (own := [("letter", 1)]) (by decide +kernel)) (by decide) (fun _ _ _ _ _ => pdg_name (i := 1) sc_pairs_told.nd rfl (.inl rfl)) (fun _ _ _ _ _ => ptds_nil) (fun _ _ _ _ _ => pd_tup (pda_cons (pd_var (pv 1)) (pda_cons (pd_int) (pda_nil)))))))) (pdss_nil))
    (pdss_cons (pds_if ((pwd_and (ptd_truth e.kk (pd_call (ok_is_list e) (hr.mono (by decide)) (by rfl) e.m_is_list e.F_is_list.kp e.b_is_list tk (pda_cons (pd_var (pv 0)) (pda_nil)))) (pwd_and (ptd_cmp (opd_le) (pd_callB (cd_len rfl) (by rfl) e.z_len (by decide +kernel) (pda_cons (pd_var (pv 0)) (pda_nil))) (pd_const (by rfl) e.kc_MOST_RUNS e.kr_MOST_RUNS) (nomark _)) (pwd_and1 (ptd_truth e.kk (pd_callB (cd_all rfl) (by rfl) e.z_all (by decide +kernel) (pda_cons (pdo_frz (pdo_lc (own := [("pair", 2)]) rfl sc_pairs_told.nd (pdi_seq rfl (pd_var (pv 0))) (by exact blkOk_by (N := ["told", "letter", "pair"]) (sc := defScope st_pairs_told) (own := [("pair", 2)]) (by decide +kernel)) (by decide) (fun _ _ _ _ _ => pdg_name (i := 2) sc_pairs_told.nd rfl (.inl rfl)) (fun _ _ _ _ _ => ptds_nil) (fun _ _ _ _ _ => pd_call (ok_is_pair e) (hr.mono (by decide)) (by rfl) e.m_is_pair e.F_is_pair.kp e.b_is_pair takes0 (pda_cons (pd_var (pv 2)) (pda_nil))))) (pda_nil))))))).pt) (pdss_one (pds_ret (pdo_frz (pdo_lc (own := [("pair", 2)]) rfl sc_pairs_told.nd (pdi_seq rfl (pd_var (pv 0))) (by exact blkOk_by (N := ["told", "letter", "pair"]) (sc := defScope st_pairs_told) (own := [("pair", 2)]) (by decide +kernel)) (by decide) (fun _ _ _ _ _ => pdg_name (i := 2) sc_pairs_told.nd rfl (.inl rfl)) (fun _ _ _ _ _ => ptds_nil) (fun _ _ _ _ _ => pd_tup (pda_cons (pd_ix e.kk (pd_var (pv 2)) (pd_int) (fun _ _ => rfl)) (pda_cons (pd_ix e.kk (pd_var (pv 2)) (pd_int) (fun _ _ => rfl)) (pda_nil)))))))) (pdss_nil))
    (pdss_one (pds_raise rfl tk e.X_BadWord.T e.X_BadWord.I s_0 e.X_BadWord.B (hr.mono (by decide)) (by rfl) e.m_BadWord (pda_cons (pd_var (pv 0)) (pda_nil)))))
theorem ok_WalkX_initX (e : Ev P G mg base) : FnOk P w0 G.K mg base (L2.CX P w0) 9 e.a_WalkX_initX e.fd_WalkX_initX ["self", "told"] (spI G "Walk" 1 g_WalkX_initX) :=
  in_okD e.F_WalkX_initX sc_WalkX_initX rfl rfl fun cdv A outer s H E hr tk ps => pdss_one (pds_fld rfl (pv 0) s_13 e.ct_Walk e.cl_Walk (e.na_Walk_runs) (pd_call (ok_merged e) (hr.mono (by decide)) (by rfl) e.m_merged e.F_merged.kp e.b_merged tk (pda_cons (pd_call (ok_pairs_told e) (hr.mono (by decide)) (by rfl) e.m_pairs_told e.F_pairs_told.kp e.b_pairs_told tk (pda_cons (pd_var (pv 1)) (pda_nil))) (pda_nil))))
theorem ok_Walk_length (e : Ev P G mg base) : FnOk P w0 G.K mg base (L2.CX P w0) 1 e.a_Walk_length e.fd_Walk_length ["self"] (spG G 1 g_Walk_length) :=
  fn_okD e.F_Walk_length sc_Walk_length rfl rfl fun cdv A outer s H E hr tk ps => pdss_one (pds_ret (pd_callB (cd_sum rfl) (by rfl) e.z_sum (by decide +kernel) (pda_cons (pdo_frz (pdo_lc (own := [("letter", 1), ("times", 2)]) rfl sc_Walk_length.nd (pdi_seq rfl (pd_fld rfl s_13 e.f_runs (pd_var (pv 0)))) (by exact blkOk_by (N := ["self", "letter", "times"]) (sc := defScope st_Walk_length) (own := [("letter", 1), ("times", 2)]) (by decide +kernel)) (by decide) (fun _ _ _ _ _ => pdg_tup rfl rfl (pdgs_cons (pdg_name (i := 1) sc_Walk_length.nd rfl (.inl rfl)) (pdgs_cons (pdg_name (i := 2) sc_Walk_length.nd rfl (.inl rfl)) (pdgs_nil)))) (fun _ _ _ _ _ => ptds_nil) (fun _ _ _ _ _ => pd_var (pv 2)))) (pda_nil))))
theorem ok_Walk_need_step (e : Ev P G mg base) : FnOk P w0 G.K mg base (L2.CX P w0) 5 e.a_Walk_need_step e.fd_Walk_need_step ["self", "number"] (spG G 2 g_Walk_need_step) :=
  fn_okD e.F_Walk_need_step sc_Walk_need_step rfl rfl fun cdv A outer s H E hr tk ps => pdss_one (pds_if ((pwd_or (ptd_not (ptd_truth e.kk (pd_call (ok_is_whole e) (hr.mono (by decide)) (by rfl) e.m_is_whole e.F_is_whole.kp e.b_is_whole tk (pda_cons (pd_var (pv 1)) (pda_cons (pd_int) (pda_nil)))))) (pwd_or1 (ptd_cmp (opd_gt) (pd_var (pv 1)) (pd_prop e.ct_Walk e.cl_Walk e.M_Walk_length (ok_Walk_length e) (hr.mono (by decide)) e.b_Walk_length (pd_var (pv 0))) (nomark _)))).pt) (pdss_one (pds_raise rfl tk e.X_BadNumber.T e.X_BadNumber.I s_0 e.X_BadNumber.B (hr.mono (by decide)) (by rfl) e.m_BadNumber (pda_cons (pd_var (pv 1)) (pda_nil)))) (pdss_nil))
theorem ok_Walk_parted (e : Ev P G mg base) : FnOk P w0 G.K mg base (L2.CX P w0) 1 e.a_Walk_parted e.fd_Walk_parted ["self", "number"] (spG G 2 g_Walk_parted) :=
  fn_okD e.F_Walk_parted sc_Walk_parted rfl rfl fun cdv A outer s H E hr tk ps => pdss_cons (pds_par3O (i := 2) (j := 3) (l := 4) rfl sc_Walk_parted.nd rfl rfl rfl (by decide) (by decide) (by decide) rfl rfl rfl (pdo_lst (pda_nil)) (pdo_lst (pda_nil)) (pd_var (pv 1)) (by rfl))
    (pdss_cons (pds_for ps rfl (pdi_seq rfl (pd_fld rfl s_13 e.f_runs (pd_var (pv 0)))) (pdg_tup rfl rfl (pdgs_cons (pdg_name (i := 5) sc_Walk_parted.nd rfl (.inl rfl)) (pdgs_cons (pdg_name (i := 6) sc_Walk_parted.nd rfl (.inl rfl)) (pdgs_nil)))) (pdss_cons (pds_set (i := 7) sc_Walk_parted.nd rfl (.inl rfl) (pd_callB (cd_min2 rfl) (by rfl) e.z_min (by decide +kernel) (pda_cons (pd_var (pv 4)) (pda_cons (pd_var (pv 6)) (pda_nil)))))
    (pdss_cons (pds_append (pv 2) (pda_cons (pd_tup (pda_cons (pd_var (pv 5)) (pda_cons (pd_var (pv 7)) (pda_nil)))) (pda_nil)))
    (pdss_cons (pds_append (pv 3) (pda_cons (pd_tup (pda_cons (pd_var (pv 5)) (pda_cons (pd_op (opd_sub) (pd_var (pv 6)) (pd_var (pv 7))) (pda_nil)))) (pda_nil)))
    (pdss_one (pds_set (i := 4) sc_Walk_parted.nd rfl (.inl rfl) (pd_op (opd_sub) (pd_var (pv 4)) (pd_var (pv 7)))))))))
    (pdss_one (pds_ret (pd_tup (pda_cons (pd_var (pv 2)) (pda_cons (pd_var (pv 3)) (pda_nil)))))))
theorem ok_Walk_head (e : Ev P G mg base) : FnOk P w0 G.K mg base (L2.CX P w0) 11 e.a_Walk_head e.fd_Walk_head ["self", "number"] (spG G 2 g_Walk_head) :=
  fn_okD e.F_Walk_head sc_Walk_head rfl rfl fun cdv A outer s H E hr tk ps => pdss_cons (pds_expr (pd_meth rfl (pd_var (pv 0)) e.ct_Walk e.cl_Walk s_14 e.M_Walk_need_step (ok_Walk_need_step e) (hr.mono (by decide)) e.b_Walk_need_step tk (pda_cons (pd_var (pv 1)) (pda_nil))))
    (pdss_one (pds_ret (pd_make e.mk_Walk e.ct_Walk (ok_WalkX_initX e) (hr.mono (by decide)) (by rfl) e.m_Walk e.b_WalkX_initX tk (pda_cons (pd_ix e.kk (pd_meth rfl (pd_var (pv 0)) e.ct_Walk e.cl_Walk s_15 e.M_Walk_parted (ok_Walk_parted e) (hr.mono (by decide)) e.b_Walk_parted tk (pda_cons (pd_var (pv 1)) (pda_nil))) (pd_int) (fun _ _ => rfl)) (pda_nil)))))
theorem ok_gone_on (e : Ev P G mg base) : FnOk P w0 G.K mg base (L2.CX P w0) 1 e.a_gone_on e.fd_gone_on ["spot", "letter", "times"] (spG G 3 g_gone_on) :=
  fn_okD e.F_gone_on sc_gone_on rfl rfl fun cdv A outer s H E hr tk ps => pdss_cons (pds_asg (pd_var (pv 0)) (pdg_tup rfl rfl (pdgs_cons (pdg_name (i := 3) sc_gone_on.nd rfl (.inl rfl)) (pdgs_cons (pdg_name (i := 4) sc_gone_on.nd rfl (.inl rfl)) (pdgs_cons (pdg_name (i := 5) sc_gone_on.nd rfl (.inl rfl)) (pdgs_nil))))))
    (pdss_cons (pds_if (ptd_cmp (opd_eq e.kk hr.units) (pd_var (pv 1)) (pd_str s_10) (nomark _)) (pdss_one (pds_ret (pd_tup (pda_cons (pd_op (opd_addA e.kk) (pd_var (pv 3)) (pd_var (pv 2))) (pda_cons (pd_var (pv 4)) (pda_cons (pd_var (pv 5)) (pda_nil))))))) (pdss_nil))
    (pdss_cons (pds_if (ptd_cmp (opd_eq e.kk hr.units) (pd_var (pv 1)) (pd_str s_9) (nomark _)) (pdss_one (pds_ret (pd_tup (pda_cons (pd_op (opd_sub) (pd_var (pv 3)) (pd_var (pv 2))) (pda_cons (pd_var (pv 4)) (pda_cons (pd_var (pv 5)) (pda_nil))))))) (pdss_nil))
    (pdss_one (pds_ret (pd_ifExp (ptd_cmp (opd_eq e.kk hr.units) (pd_var (pv 1)) (pd_str s_8) (nomark _)) (pd_tup (pda_cons (pd_var (pv 3)) (pda_cons (pd_op (opd_addA e.kk) (pd_var (pv 4)) (pd_var (pv 2))) (pda_cons (pd_op (opd_addA e.kk) (pd_var (pv 5)) (pd_op (opd_mulA) (pd_var (pv 3)) (pd_var (pv 2)))) (pda_nil))))) (pd_tup (pda_cons (pd_var (pv 3)) (pda_cons (pd_op (opd_sub) (pd_var (pv 4)) (pd_var (pv 2))) (pda_cons (pd_op (opd_sub) (pd_var (pv 5)) (pd_op (opd_mulA) (pd_var (pv 3)) (pd_var (pv 2)))) (pda_nil))))))))))
theorem ok_Walk_spots (e : Ev P G mg base) : FnOk P w0 G.K mg base (L2.CX P w0) 3 e.a_Walk_spots e.fd_Walk_spots ["self"] (spG G 1 g_Walk_spots) :=
  fn_okD e.F_Walk_spots sc_Walk_spots rfl rfl fun cdv A outer s H E hr tk ps => pdss_cons (pds_setO (i := 1) sc_Walk_spots.nd rfl (.inl rfl) (pdo_lst (pda_cons (pd_tup (pda_cons (pd_int) (pda_cons (pd_int) (pda_cons (pd_int) (pda_nil))))) (pda_nil))))
    (pdss_cons (pds_for ps rfl (pdi_seq rfl (pd_fld rfl s_13 e.f_runs (pd_var (pv 0)))) (pdg_tup rfl rfl (pdgs_cons (pdg_name (i := 2) sc_Walk_spots.nd rfl (.inl rfl)) (pdgs_cons (pdg_name (i := 3) sc_Walk_spots.nd rfl (.inl rfl)) (pdgs_nil)))) (pdss_one (pds_append (pv 1) (pda_cons (pd_call (ok_gone_on e) (hr.mono (by decide)) (by rfl) e.m_gone_on e.F_gone_on.kp e.b_gone_on tk (pda_cons (pd_ixO e.kk (pv 1) (pd_neg (pd_int)) (fun _ _ => rfl)) (pda_cons (pd_var (pv 2)) (pda_cons (pd_var (pv 3)) (pda_nil))))) (pda_nil)))))
    (pdss_one (pds_ret (pd_var (pv 1)))))
theorem ok_Walk_place (e : Ev P G mg base) : FnOk P w0 G.K mg base (L2.CX P w0) 5 e.a_Walk_place e.fd_Walk_place ["self"] (spG G 1 g_Walk_place) :=
  fn_okD e.F_Walk_place sc_Walk_place rfl rfl fun cdv A outer s H E hr tk ps => pdss_cons (pds_set (i := 1) sc_Walk_place.nd rfl (.inl rfl) (pd_ix e.kk (pd_meth0 rfl (pd_var (pv 0)) e.ct_Walk e.cl_Walk s_16 e.M_Walk_spots (ok_Walk_spots e) (hr.mono (by decide)) e.b_Walk_spots tk) (pd_neg (pd_int)) (fun _ _ => rfl)))
    (pdss_one (pds_ret (pd_make e.mk_Place e.ct_Place (ok_PlaceX_initX e) (hr.mono (by decide)) (by rfl) e.m_Place e.b_PlaceX_initX tk (pda_cons (pd_ix e.kk (pd_var (pv 1)) (pd_int) (fun _ _ => rfl)) (pda_cons (pd_ix e.kk (pd_var (pv 1)) (pd_int) (fun _ _ => rfl)) (pda_cons (pd_ix e.kk (pd_var (pv 1)) (pd_int) (fun _ _ => rfl)) (pda_nil)))))))
theorem ok_Walk_at (e : Ev P G mg base) : FnOk P w0 G.K mg base (L2.CX P w0) 13 e.a_Walk_at e.fd_Walk_at ["self", "number"] (spG G 2 g_Walk_at) :=
  fn_okD e.F_Walk_at sc_Walk_at rfl rfl fun cdv A outer s H E hr tk ps => pdss_one (pds_ret (pd_meth0 rfl (pd_meth rfl (pd_var (pv 0)) e.ct_Walk e.cl_Walk s_17 e.M_Walk_head (ok_Walk_head e) (hr.mono (by decide)) e.b_Walk_head tk (pda_cons (pd_var (pv 1)) (pda_nil))) e.ct_Walk e.cl_Walk s_18 e.M_Walk_place (ok_Walk_place e) (hr.mono (by decide)) e.b_Walk_place tk))
theorem ok_is_least_spot (e : Ev P G mg base) : FnOk P w0 G.K mg base (L2.CX P w0) 5 e.a_is_least_spot e.fd_is_least_spot ["spot", "number"] (spG G 2 g_is_least_spot) :=
  fn_okD e.F_is_least_spot sc_is_least_spot rfl rfl fun cdv A outer s H E hr tk ps => pdss_one (pds_ret (pd_cmp (opd_eq e.kk hr.units) (pd_call (ok_steps_of e) (hr.mono (by decide)) (by rfl) e.m_steps_of e.F_steps_of.kp e.b_steps_of tk (pda_cons (pd_ix e.kk (pd_var (pv 0)) (pd_int) (fun _ _ => rfl)) (pda_cons (pd_ix e.kk (pd_var (pv 0)) (pd_int) (fun _ _ => rfl)) (pda_cons (pd_ix e.kk (pd_var (pv 0)) (pd_int) (fun _ _ => rfl)) (pda_nil))))) (pd_var (pv 1)) (nomark _)))
theorem ok_first_long (e : Ev P G mg base) : FnOk P w0 G.K mg base (L2.CX P w0) 7 e.a_first_long e.fd_first_long ["spot", "letter", "gone", "times"] (spG G 4 g_first_long) :=
  fn_okD e.F_first_long sc_first_long rfl rfl fun cdv A outer s H E hr tk ps => pdss_cons (pds_par (i := 4) (j := 5) rfl sc_first_long.nd rfl rfl (by decide) rfl rfl (pda_cons (pd_int) (pda_cons (pd_var (pv 3)) (pda_nil))) (by rfl))
    (pdss_cons (pds_while ps (ptd_cmp (opd_gt) (pd_op (opd_sub) (pd_var (pv 5)) (pd_var (pv 4))) (pd_int) (nomark _)) (pdss_cons (pds_set (i := 6) sc_first_long.nd rfl (.inl rfl) (pd_op (opd_div) (pd_op (opd_addA e.kk) (pd_var (pv 4)) (pd_var (pv 5))) (pd_int)))
    (pdss_one (pds_if (ptd_truth e.kk (pd_call (ok_is_least_spot e) (hr.mono (by decide)) (by rfl) e.m_is_least_spot e.F_is_least_spot.kp e.b_is_least_spot tk (pda_cons (pd_call (ok_gone_on e) (hr.mono (by decide)) (by rfl) e.m_gone_on e.F_gone_on.kp e.b_gone_on tk (pda_cons (pd_var (pv 0)) (pda_cons (pd_var (pv 1)) (pda_cons (pd_var (pv 6)) (pda_nil))))) (pda_cons (pd_op (opd_addA e.kk) (pd_var (pv 2)) (pd_var (pv 6))) (pda_nil))))) (pdss_one (pds_set (i := 4) sc_first_long.nd rfl (.inl rfl) (pd_var (pv 6)))) (pdss_one (pds_set (i := 5) sc_first_long.nd rfl (.inl rfl) (pd_var (pv 6))))))))
    (pdss_one (pds_ret (pd_var (pv 5)))))
theorem ok_Walk_first_not_least (e : Ev P G mg base) : FnOk P w0 G.K mg base (L2.CX P w0) 9 e.a_Walk_first_not_least e.fd_Walk_first_not_least ["self"] (spG G 1 g_Walk_first_not_least) :=
  fn_okD e.F_Walk_first_not_least sc_Walk_first_not_least rfl rfl fun cdv A outer s H E hr tk ps => pdss_cons (pds_asg (pd_tup (pda_cons (pd_int) (pda_cons (pd_tup (pda_cons (pd_int) (pda_cons (pd_int) (pda_cons (pd_int) (pda_nil))))) (pda_nil)))) (pdg_tup rfl rfl (pdgs_cons (pdg_name (i := 1) sc_Walk_first_not_least.nd rfl (.inl rfl)) (pdgs_cons (pdg_name (i := 2) sc_Walk_first_not_least.nd rfl (.inl rfl)) (pdgs_nil)))))
    (pdss_cons (pds_for ps rfl (pdi_seq rfl (pd_fld rfl s_13 e.f_runs (pd_var (pv 0)))) (pdg_tup rfl rfl (pdgs_cons (pdg_name (i := 3) sc_Walk_first_not_least.nd rfl (.inl rfl)) (pdgs_cons (pdg_name (i := 4) sc_Walk_first_not_least.nd rfl (.inl rfl)) (pdgs_nil)))) (pdss_cons (pds_if (ptd_not (ptd_truth e.kk (pd_call (ok_is_least_spot e) (hr.mono (by decide)) (by rfl) e.m_is_least_spot e.F_is_least_spot.kp e.b_is_least_spot tk (pda_cons (pd_call (ok_gone_on e) (hr.mono (by decide)) (by rfl) e.m_gone_on e.F_gone_on.kp e.b_gone_on tk (pda_cons (pd_var (pv 2)) (pda_cons (pd_var (pv 3)) (pda_cons (pd_var (pv 4)) (pda_nil))))) (pda_cons (pd_op (opd_addA e.kk) (pd_var (pv 1)) (pd_var (pv 4))) (pda_nil)))))) (pdss_one (pds_ret (pd_op (opd_addA e.kk) (pd_var (pv 1)) (pd_call (ok_first_long e) (hr.mono (by decide)) (by rfl) e.m_first_long e.F_first_long.kp e.b_first_long tk (pda_cons (pd_var (pv 2)) (pda_cons (pd_var (pv 3)) (pda_cons (pd_var (pv 1)) (pda_cons (pd_var (pv 4)) (pda_nil))))))))) (pdss_nil))
    (pdss_one (pds_par (i := 1) (j := 2) rfl sc_Walk_first_not_least.nd rfl rfl (by decide) rfl rfl (pda_cons (pd_op (opd_addA e.kk) (pd_var (pv 1)) (pd_var (pv 4))) (pda_cons (pd_call (ok_gone_on e) (hr.mono (by decide)) (by rfl) e.m_gone_on e.F_gone_on.kp e.b_gone_on tk (pda_cons (pd_var (pv 2)) (pda_cons (pd_var (pv 3)) (pda_cons (pd_var (pv 4)) (pda_nil))))) (pda_nil))) (by rfl)))))
    (pdss_one (pds_ret (pd_non))))
theorem ok_Walk_is_least (e : Ev P G mg base) : FnOk P w0 G.K mg base (L2.CX P w0) 7 e.a_Walk_is_least e.fd_Walk_is_least ["self"] (spG G 1 g_Walk_is_least) :=
  fn_okD e.F_Walk_is_least sc_Walk_is_least rfl rfl fun cdv A outer s H E hr tk ps => pdss_one (pds_ret (pd_call (ok_is_least_spot e) (hr.mono (by decide)) (by rfl) e.m_is_least_spot e.F_is_least_spot.kp e.b_is_least_spot tk (pda_cons (pd_ix e.kk (pd_meth0 rfl (pd_var (pv 0)) e.ct_Walk e.cl_Walk s_16 e.M_Walk_spots (ok_Walk_spots e) (hr.mono (by decide)) e.b_Walk_spots tk) (pd_neg (pd_int)) (fun _ _ => rfl)) (pda_cons (pd_prop e.ct_Walk e.cl_Walk e.M_Walk_length (ok_Walk_length e) (hr.mono (by decide)) e.b_Walk_length (pd_var (pv 0))) (pda_nil)))))
theorem ok__law_pick (e : Ev P G mg base) : FnOk P w0 G.K mg base (L2.CX P w0) 3 e.a__law_pick e.fd__law_pick ["_law_pen_here", "_law_items"] (spG G 2 g__law_pick) :=
  fn_okD e.F__law_pick sc__law_pick rfl rfl fun cdv A outer s H E hr tk ps => pdss_one (pds_ret (pd_ix e.kk (pd_var (pv 1)) (pd_call (ok__law_draw e) (hr.mono (by decide)) (by rfl) e.m__law_draw e.F__law_draw.kp e.b__law_draw tk (pda_cons (pd_var (pv 0)) (pda_cons (pd_callB (cd_len rfl) (by rfl) e.z_len (by decide +kernel) (pda_cons (pd_var (pv 1)) (pda_nil))) (pda_nil)))) (fun _ _ => rfl)))
theorem ok__law_walk_right (e : Ev P G mg base) : FnOk P w0 G.K mg base (L2.CX P w0) 15 e.a__law_walk_right e.fd__law_walk_right ["_law_pen_here"] (spG G 1 g__law_walk_right) :=
  fn_okD e.F__law_walk_right sc__law_walk_right rfl rfl fun cdv A outer s H E hr tk ps => pdss_cons (pds_setO (i := 1) sc__law_walk_right.nd rfl (.inl rfl) (pdo_lst (pda_nil)))
    (pdss_cons (pds_for ps rfl (pdi_range1 (by rfl) e.z_range (pda_cons (pd_call (ok__law_draw e) (hr.mono (by decide)) (by rfl) e.m__law_draw e.F__law_draw.kp e.b__law_draw tk (pda_cons (pd_var (pv 0)) (pda_cons (pd_int) (pda_nil)))) (pda_nil))) (pdg_name (i := 2) sc__law_walk_right.nd rfl (.inl rfl)) (pdss_one (pds_append (pv 1) (pda_cons (pd_tup (pda_cons (pd_call (ok__law_pick e) (hr.mono (by decide)) (by rfl) e.m__law_pick e.F__law_pick.kp e.b__law_pick tk (pda_cons (pd_var (pv 0)) (pda_cons (pd_str s_12) (pda_nil)))) (pda_cons (pd_call (ok__law_big e) (hr.mono (by decide)) (by rfl) e.m__law_big e.F__law_big.kp e.b__law_big tk (pda_cons (pd_var (pv 0)) (pda_cons (pd_call (ok__law_pick e) (hr.mono (by decide)) (by rfl) e.m__law_pick e.F__law_pick.kp e.b__law_pick tk (pda_cons (pd_var (pv 0)) (pda_cons (pdo_frz (pdo_lst (pda_cons (pd_int) (pda_cons (pd_op (opd_pow) (pd_int) (pd_int)) (pda_nil))))) (pda_nil)))) (pda_nil)))) (pda_nil)))) (pda_nil)))))
    (pdss_cons (pds_set (i := 3) sc__law_walk_right.nd rfl (.inl rfl) (pd_make e.mk_Walk e.ct_Walk (ok_WalkX_initX e) (hr.mono (by decide)) (by rfl) e.m_Walk e.b_WalkX_initX tk (pda_cons (pd_var (pv 1)) (pda_nil))))
    (pdss_cons (pds_set (i := 4) sc__law_walk_right.nd rfl (.inl rfl) (pd_cmp (opd_eq e.kk hr.units) (pd_call (ok_steps e) (hr.mono (by decide)) (by rfl) e.m_steps e.F_steps.kp e.b_steps tk (pda_cons (pd_meth0 rfl (pd_var (pv 3)) e.ct_Walk e.cl_Walk s_18 e.M_Walk_place (ok_Walk_place e) (hr.mono (by decide)) e.b_Walk_place tk) (pda_nil))) (pd_prop e.ct_Walk e.cl_Walk e.M_Walk_length (ok_Walk_length e) (hr.mono (by decide)) e.b_Walk_length (pd_var (pv 3))) (nomark _)))
    (pdss_cons (pds_set (i := 5) sc__law_walk_right.nd rfl (.inl rfl) (pd_meth0 rfl (pd_var (pv 3)) e.ct_Walk e.cl_Walk s_19 e.M_Walk_first_not_least (ok_Walk_first_not_least e) (hr.mono (by decide)) e.b_Walk_first_not_least tk))
    (pdss_cons (pds_if ((pwd_or (ptd_cmp (opd_ne e.kk hr.units) (pd_meth0 rfl (pd_var (pv 3)) e.ct_Walk e.cl_Walk s_20 e.M_Walk_is_least (ok_Walk_is_least e) (hr.mono (by decide)) e.b_Walk_is_least tk) (pd_var (pv 4)) (nomark _)) (pwd_or (ptd_cmp (opd_ne e.kk hr.units) (pd_cmp (opd_isN) (pd_var (pv 5)) (pd_non) (nomark _)) (pd_var (pv 4)) (nomark _)) (pwd_or1 (ptd_cmp (opd_ne e.kk hr.units) (pd_op (opd_mod) (pd_op (opd_sub) (pd_call (ok_steps e) (hr.mono (by decide)) (by rfl) e.m_steps e.F_steps.kp e.b_steps tk (pda_cons (pd_meth0 rfl (pd_var (pv 3)) e.ct_Walk e.cl_Walk s_18 e.M_Walk_place (ok_Walk_place e) (hr.mono (by decide)) e.b_Walk_place tk) (pda_nil))) (pd_prop e.ct_Walk e.cl_Walk e.M_Walk_length (ok_Walk_length e) (hr.mono (by decide)) e.b_Walk_length (pd_var (pv 3)))) (pd_int)) (pd_int) (nomark _))))).pt) (pdss_one (pds_ret (pd_bl))) (pdss_nil))
    (pdss_cons (pds_if (ptd_cmp (opd_isN) (pd_var (pv 5)) (pd_non) (nomark _)) (pdss_one (pds_ret (pd_bl))) (pdss_nil))
    (pdss_one (pds_ret (pd_andT e.kk (pd_cmp (opd_ne e.kk hr.units) (pd_call (ok_steps e) (hr.mono (by decide)) (by rfl) e.m_steps e.F_steps.kp e.b_steps tk (pda_cons (pd_meth rfl (pd_var (pv 3)) e.ct_Walk e.cl_Walk s_21 e.M_Walk_at (ok_Walk_at e) (hr.mono (by decide)) e.b_Walk_at tk (pda_cons (pd_var (pv 5)) (pda_nil))) (pda_nil))) (pd_var (pv 5)) (nomark _)) (pd_one (pd_cmp (opd_eq e.kk hr.units) (pd_call (ok_steps e) (hr.mono (by decide)) (by rfl) e.m_steps e.F_steps.kp e.b_steps tk (pda_cons (pd_meth rfl (pd_var (pv 3)) e.ct_Walk e.cl_Walk s_21 e.M_Walk_at (ok_Walk_at e) (hr.mono (by decide)) e.b_Walk_at tk (pda_cons (pd_op (opd_sub) (pd_var (pv 5)) (pd_int)) (pda_nil))) (pda_nil))) (pd_op (opd_sub) (pd_var (pv 5)) (pd_int)) (nomark _))))))))))))
theorem ok_PlaceX_eqX (e : Ev P G mg base) : FnOk P w0 G.K mg base (L2.CX P w0) 1 e.a_PlaceX_eqX e.fd_PlaceX_eqX ["self", "other"] (spG G 2 g_PlaceX_eqX) :=
  fn_okD e.F_PlaceX_eqX sc_PlaceX_eqX rfl rfl fun cdv A outer s H E hr tk ps => pdss_cons (pds_if (ptd_not (ptd_truth e.kk (pd_callB (cd_isi rfl e.iso) (by rfl) e.z_isinstance (by decide +kernel) (pda_cons (pd_var (pv 1)) (pda_cons (pd_cls (by rfl) e.m_Place e.ct_Place) (pda_nil)))))) (pdss_one (pds_ret (pd_bl))) (pdss_nil))
    (pdss_one (pds_ret (pd_cmp (opd_eq e.kk hr.units) (pd_tup (pda_cons (pd_fld rfl s_1 e.f_x (pd_var (pv 0))) (pda_cons (pd_fld rfl s_2 e.f_y (pd_var (pv 0))) (pda_cons (pd_fld rfl s_3 e.f_area (pd_var (pv 0))) (pda_nil))))) (pd_tup (pda_cons (pd_fld rfl s_1 e.f_x (pd_var (pv 1))) (pda_cons (pd_fld rfl s_2 e.f_y (pd_var (pv 1))) (pda_cons (pd_fld rfl s_3 e.f_area (pd_var (pv 1))) (pda_nil))))) (nomark _))))
theorem ok_PricesX_initX (e : Ev P G mg base) : FnOk P w0 G.K mg base (L2.CX P w0) 5 e.a_PricesX_initX e.fd_PricesX_initX ["self", "east", "north", "west", "south"] (spI G "Prices" 4 g_PricesX_initX) :=
  in_okD e.F_PricesX_initX sc_PricesX_initX rfl rfl fun cdv A outer s H E hr tk ps => pdss_cons (pds_for ps rfl (pdi_seq rfl (pd_tup (pda_cons (pd_var (pv 1)) (pda_cons (pd_var (pv 2)) (pda_cons (pd_var (pv 3)) (pda_cons (pd_var (pv 4)) (pda_nil))))))) (pdg_name (i := 5) sc_PricesX_initX.nd rfl (.inl rfl)) (pdss_one (pds_if ((pwd_or (ptd_not (ptd_truth e.kk (pd_call (ok_is_whole e) (hr.mono (by decide)) (by rfl) e.m_is_whole e.F_is_whole.kp e.b_is_whole tk (pda_cons (pd_var (pv 5)) (pda_cons (pd_int) (pda_nil)))))) (pwd_or1 (ptd_cmp (opd_gt) (pd_var (pv 5)) (pd_const (by rfl) e.kc_MOST_PRICE e.kr_MOST_PRICE) (nomark _)))).pt) (pdss_one (pds_raise rfl tk e.X_BadNumber.T e.X_BadNumber.I s_0 e.X_BadNumber.B (hr.mono (by decide)) (by rfl) e.m_BadNumber (pda_cons (pd_var (pv 5)) (pda_nil)))) (pdss_nil))))
    (pdss_cons (pds_fld rfl (pv 0) s_22 e.ct_Prices e.cl_Prices (e.na_Prices_east) (pd_var (pv 1)))
    (pdss_cons (pds_fld rfl (pv 0) s_23 e.ct_Prices e.cl_Prices (e.na_Prices_north) (pd_var (pv 2)))
    (pdss_cons (pds_fld rfl (pv 0) s_24 e.ct_Prices e.cl_Prices (e.na_Prices_west) (pd_var (pv 3)))
    (pdss_one (pds_fld rfl (pv 0) s_25 e.ct_Prices e.cl_Prices (e.na_Prices_south) (pd_var (pv 4)))))))
theorem ok_LotX_initX (e : Ev P G mg base) : FnOk P w0 G.K mg base (L2.CX P w0) 5 e.a_LotX_initX e.fd_LotX_initX ["self", "east", "north", "west", "south"] (spI G "Lot" 4 g_LotX_initX) :=
  in_okD e.F_LotX_initX sc_LotX_initX rfl rfl fun cdv A outer s H E hr tk ps => pdss_cons (pds_for ps rfl (pdi_seq rfl (pd_tup (pda_cons (pd_var (pv 1)) (pda_cons (pd_var (pv 2)) (pda_cons (pd_var (pv 3)) (pda_cons (pd_var (pv 4)) (pda_nil))))))) (pdg_name (i := 5) sc_LotX_initX.nd rfl (.inl rfl)) (pdss_one (pds_if (ptd_not (ptd_truth e.kk (pd_call (ok_is_whole e) (hr.mono (by decide)) (by rfl) e.m_is_whole e.F_is_whole.kp e.b_is_whole tk (pda_cons (pd_var (pv 5)) (pda_cons (pd_int) (pda_nil)))))) (pdss_one (pds_raise rfl tk e.X_BadNumber.T e.X_BadNumber.I s_0 e.X_BadNumber.B (hr.mono (by decide)) (by rfl) e.m_BadNumber (pda_cons (pd_var (pv 5)) (pda_nil)))) (pdss_nil))))
    (pdss_cons (pds_fld rfl (pv 0) s_22 e.ct_Lot e.cl_Lot (e.na_Lot_east) (pd_var (pv 1)))
    (pdss_cons (pds_fld rfl (pv 0) s_23 e.ct_Lot e.cl_Lot (e.na_Lot_north) (pd_var (pv 2)))
    (pdss_cons (pds_fld rfl (pv 0) s_24 e.ct_Lot e.cl_Lot (e.na_Lot_west) (pd_var (pv 3)))
    (pdss_one (pds_fld rfl (pv 0) s_25 e.ct_Lot e.cl_Lot (e.na_Lot_south) (pd_var (pv 4)))))))
theorem ok_bezout_of (e : Ev P G mg base) : FnOk P w0 G.K mg base (L2.CX P w0) 1 e.a_bezout_of e.fd_bezout_of ["one", "other"] (spG G 2 g_bezout_of) :=
  fn_okD e.F_bezout_of sc_bezout_of rfl rfl fun cdv A outer s H E hr tk ps => pdss_cons (pds_par (i := 2) (j := 3) rfl sc_bezout_of.nd rfl rfl (by decide) rfl rfl (pda_cons (pd_tup (pda_cons (pd_callB cd_abs (by rfl) e.z_abs (by decide +kernel) (pda_cons (pd_var (pv 0)) (pda_nil))) (pda_cons (pd_ifExp (ptd_cmp (opd_ge) (pd_var (pv 0)) (pd_int) (nomark _)) (pd_int) (pd_neg (pd_int))) (pda_cons (pd_int) (pda_nil))))) (pda_cons (pd_tup (pda_cons (pd_callB cd_abs (by rfl) e.z_abs (by decide +kernel) (pda_cons (pd_var (pv 1)) (pda_nil))) (pda_cons (pd_int) (pda_cons (pd_ifExp (ptd_cmp (opd_ge) (pd_var (pv 1)) (pd_int) (nomark _)) (pd_int) (pd_neg (pd_int))) (pda_nil))))) (pda_nil))) (by rfl))
    (pdss_cons (pds_while ps (ptd_cmp (opd_gt) (pd_ix e.kk (pd_var (pv 3)) (pd_int) (fun _ _ => rfl)) (pd_int) (nomark _)) (pdss_cons (pds_set (i := 4) sc_bezout_of.nd rfl (.inl rfl) (pd_op (opd_div) (pd_ix e.kk (pd_var (pv 2)) (pd_int) (fun _ _ => rfl)) (pd_ix e.kk (pd_var (pv 3)) (pd_int) (fun _ _ => rfl))))
    (pdss_one (pds_par (i := 2) (j := 3) rfl sc_bezout_of.nd rfl rfl (by decide) rfl rfl (pda_cons (pd_var (pv 3)) (pda_cons (pd_tup (pda_cons (pd_op (opd_sub) (pd_ix e.kk (pd_var (pv 2)) (pd_int) (fun _ _ => rfl)) (pd_op (opd_mulA) (pd_var (pv 4)) (pd_ix e.kk (pd_var (pv 3)) (pd_int) (fun _ _ => rfl)))) (pda_cons (pd_op (opd_sub) (pd_ix e.kk (pd_var (pv 2)) (pd_int) (fun _ _ => rfl)) (pd_op (opd_mulA) (pd_var (pv 4)) (pd_ix e.kk (pd_var (pv 3)) (pd_int) (fun _ _ => rfl)))) (pda_cons (pd_op (opd_sub) (pd_ix e.kk (pd_var (pv 2)) (pd_int) (fun _ _ => rfl)) (pd_op (opd_mulA) (pd_var (pv 4)) (pd_ix e.kk (pd_var (pv 3)) (pd_int) (fun _ _ => rfl)))) (pda_nil))))) (pda_nil))) (by rfl)))))
    (pdss_one (pds_ret (pd_var (pv 2)))))
theorem ok_ceiling (e : Ev P G mg base) : FnOk P w0 G.K mg base (L2.CX P w0) 1 e.a_ceiling e.fd_ceiling ["top", "bottom"] (spG G 2 g_ceiling) :=
  fn_okD e.F_ceiling sc_ceiling rfl rfl fun cdv A outer s H E hr tk ps => pdss_one (pds_ret (pd_neg (pd_op (opd_div) (pd_neg (pd_var (pv 0))) (pd_var (pv 1)))))
theorem ok_lowest (e : Ev P G mg base) : FnOk P w0 G.K mg base (L2.CX P w0) 3 e.a_lowest e.fd_lowest ["wide", "high", "room", "across", "up"] (spG G 5 g_lowest) :=
  fn_okD e.F_lowest sc_lowest rfl rfl fun cdv A outer s H E hr tk ps => pdss_cons (pds_if (ptd_cmp (opd_lt) (pd_op (opd_mulA) (pd_var (pv 4)) (pd_var (pv 2))) (pd_op (opd_mulA) (pd_op (opd_mulA) (pd_var (pv 3)) (pd_var (pv 0))) (pd_var (pv 0))) (nomark _)) (pdss_one (pds_ret (pd_op (opd_addA e.kk) (pd_op (opd_mulA) (pd_var (pv 3)) (pd_var (pv 0))) (pd_call (ok_ceiling e) (hr.mono (by decide)) (by rfl) e.m_ceiling e.F_ceiling.kp e.b_ceiling tk (pda_cons (pd_op (opd_mulA) (pd_var (pv 4)) (pd_var (pv 2))) (pda_cons (pd_var (pv 0)) (pda_nil))))))) (pdss_nil))
    (pdss_cons (pds_if (ptd_cmp (opd_lt) (pd_op (opd_mulA) (pd_var (pv 3)) (pd_var (pv 2))) (pd_op (opd_mulA) (pd_op (opd_mulA) (pd_var (pv 4)) (pd_var (pv 1))) (pd_var (pv 1))) (nomark _)) (pdss_one (pds_ret (pd_op (opd_addA e.kk) (pd_op (opd_mulA) (pd_var (pv 4)) (pd_var (pv 1))) (pd_call (ok_ceiling e) (hr.mono (by decide)) (by rfl) e.m_ceiling e.F_ceiling.kp e.b_ceiling tk (pda_cons (pd_op (opd_mulA) (pd_var (pv 3)) (pd_var (pv 2))) (pda_cons (pd_var (pv 1)) (pda_nil))))))) (pdss_nil))
    (pdss_cons (pds_set (i := 5) sc_lowest.nd rfl (.inl rfl) (pd_op (opd_mulA) (pd_op (opd_mulA) (pd_op (opd_mulA) (pd_int) (pd_var (pv 3))) (pd_var (pv 4))) (pd_var (pv 2))))
    (pdss_cons (pds_set (i := 6) sc_lowest.nd rfl (.inl rfl) (pd_call (ok_whole_root e) (hr.mono (by decide)) (by rfl) e.m_whole_root e.F_whole_root.kp e.b_whole_root tk (pda_cons (pd_var (pv 5)) (pda_nil))))
    (pdss_one (pds_ret (pd_ifExp (ptd_cmp (opd_eq e.kk hr.units) (pd_op (opd_mulA) (pd_var (pv 6)) (pd_var (pv 6))) (pd_var (pv 5)) (nomark _)) (pd_var (pv 6)) (pd_op (opd_addA e.kk) (pd_var (pv 6)) (pd_int))))))))
theorem ok_sides_of_price (e : Ev P G mg base) : FnOk P w0 G.K mg base (L2.CX P w0) 1 e.a_sides_of_price e.fd_sides_of_price ["price", "wide", "high", "across", "up", "common", "inverse"] (spG G 7 g_sides_of_price) :=
  fn_okD e.F_sides_of_price sc_sides_of_price rfl rfl fun cdv A outer s H E hr tk ps => pdss_cons (pds_if (ptd_truth e.kk (pd_op (opd_mod) (pd_var (pv 0)) (pd_var (pv 5)))) (pdss_one (pds_ret (pdo_frz (pdo_lst (pda_nil))))) (pdss_nil))
    (pdss_cons (pds_set (i := 7) sc_sides_of_price.nd rfl (.inl rfl) (pd_op (opd_div) (pd_var (pv 4)) (pd_var (pv 5))))
    (pdss_cons (pds_set (i := 8) sc_sides_of_price.nd rfl (.inl rfl) (pd_op (opd_mod) (pd_op (opd_mulA) (pd_op (opd_div) (pd_var (pv 0)) (pd_var (pv 5))) (pd_var (pv 6))) (pd_var (pv 7))))
    (pdss_cons (pds_set (i := 9) sc_sides_of_price.nd rfl (.inr rfl) (pd_op (opd_div) (pd_op (opd_sub) (pd_var (pv 0)) (pd_op (opd_mulA) (pd_var (pv 4)) (pd_var (pv 2)))) (pd_var (pv 3))))
    (pdss_cons (pds_set (i := 10) sc_sides_of_price.nd rfl (.inl rfl) (pd_callB (cd_min2 rfl) (by rfl) e.z_min (by decide +kernel) (pda_cons (pd_callB (cd_max2 rfl) (by rfl) e.z_max (by decide +kernel) (pda_cons (pd_callTy cd_int (by rfl) e.z_int (by decide +kernel) (pda_cons (pd_op (opd_div) (pd_var (pv 0)) (pd_op (opd_mulA) (pd_int) (pd_var (pv 3)))) (pda_nil))) (pda_cons (pd_callTy cd_int (by rfl) e.z_int (by decide +kernel) (pda_cons (pd_var (pv 1)) (pda_nil))) (pda_nil)))) (pda_cons (pd_callTy cd_int (by rfl) e.z_int (by decide +kernel) (pda_cons (pd_var (pv 9)) (pda_nil))) (pda_nil)))))
    (pdss_cons (pds_set (i := 11) sc_sides_of_price.nd rfl (.inl rfl) (pd_op (opd_sub) (pd_var (pv 10)) (pd_op (opd_mod) (pd_op (opd_sub) (pd_var (pv 10)) (pd_var (pv 8))) (pd_var (pv 7)))))
    (pdss_one (pds_ret (pdo_frz (pdo_lc (own := [("side", 12)]) rfl sc_sides_of_price.nd (pdi_seq rfl (pd_tup (pda_cons (pd_var (pv 11)) (pda_cons (pd_op (opd_addA e.kk) (pd_var (pv 11)) (pd_var (pv 7))) (pda_nil))))) (by exact blkOk_by (N := ["price", "wide", "high", "across", "up", "common", "inverse", "step", "first", "last", "middle", "below", "side"]) (sc := defScope st_sides_of_price) (own := [("side", 12)]) (by decide +kernel)) (by decide) (fun _ _ _ _ _ => pdg_name (i := 12) sc_sides_of_price.nd rfl (.inl rfl)) (fun _ _ _ _ _ => ptds_one (ptd_chain (opd_le) (opd_le) (pd_var (pv 1)) (pd_var (pv 12)) (pd_var (pv 9)) (fun h1 h2 h3 h4 h5 => pt_chain h1 h2 h3 h4 h5))) (fun _ _ _ _ _ => pd_tup (pda_cons (pd_var (pv 12)) (pda_cons (pd_op (opd_div) (pd_op (opd_sub) (pd_var (pv 0)) (pd_op (opd_mulA) (pd_var (pv 3)) (pd_var (pv 12)))) (pd_var (pv 4))) (pda_nil)))))))))))))
theorem ok_best_frame (e : Ev P G mg base) : FnOk P w0 G.K mg base (L2.CX P w0) 5 e.a_best_frame e.fd_best_frame ["wide", "high", "room", "across", "up"] (spG G 5 g_best_frame) :=
  fn_okD e.F_best_frame sc_best_frame rfl rfl fun cdv A outer s H E hr tk ps => pdss_cons (pds_if (ptd_cmp (opd_ge) (pd_op (opd_mulA) (pd_var (pv 0)) (pd_var (pv 1))) (pd_var (pv 2)) (nomark _)) (pdss_one (pds_ret (pd_tup (pda_cons (pd_var (pv 0)) (pda_cons (pd_var (pv 1)) (pda_nil)))))) (pdss_nil))
    (pdss_cons (pds_asg (pd_call (ok_bezout_of e) (hr.mono (by decide)) (by rfl) e.m_bezout_of e.F_bezout_of.kp e.b_bezout_of tk (pda_cons (pd_var (pv 3)) (pda_cons (pd_var (pv 4)) (pda_nil)))) (pdg_tup rfl rfl (pdgs_cons (pdg_name (i := 5) sc_best_frame.nd rfl (.inl rfl)) (pdgs_cons (pdg_name (i := 6) sc_best_frame.nd rfl (.inl rfl)) (pdgs_cons (pdg_name (i := 7) sc_best_frame.nd rfl (.inl rfl)) (pdgs_nil))))))
    (pdss_cons (pds_set (i := 8) sc_best_frame.nd rfl (.inl rfl) (pd_op (opd_mulA) (pd_call (ok_ceiling e) (hr.mono (by decide)) (by rfl) e.m_ceiling e.F_ceiling.kp e.b_ceiling tk (pda_cons (pd_call (ok_lowest e) (hr.mono (by decide)) (by rfl) e.m_lowest e.F_lowest.kp e.b_lowest tk (pda_cons (pd_var (pv 0)) (pda_cons (pd_var (pv 1)) (pda_cons (pd_var (pv 2)) (pda_cons (pd_var (pv 3)) (pda_cons (pd_var (pv 4)) (pda_nil))))))) (pda_cons (pd_var (pv 5)) (pda_nil)))) (pd_var (pv 5))))
    (pdss_one (pds_while ps (ptd_truth e.kk (pd_bl)) (pdss_cons (pds_for ps rfl (pdi_seq rfl (pd_call (ok_sides_of_price e) (hr.mono (by decide)) (by rfl) e.m_sides_of_price e.F_sides_of_price.kp e.b_sides_of_price tk (pda_cons (pd_var (pv 8)) (pda_cons (pd_var (pv 0)) (pda_cons (pd_var (pv 1)) (pda_cons (pd_var (pv 3)) (pda_cons (pd_var (pv 4)) (pda_cons (pd_var (pv 5)) (pda_cons (pd_var (pv 6)) (pda_nil)))))))))) (pdg_name (i := 9) sc_best_frame.nd rfl (.inl rfl)) (pdss_one (pds_if (ptd_cmp (opd_ge) (pd_op (opd_mulA) (pd_ix e.kk (pd_var (pv 9)) (pd_int) (fun _ _ => rfl)) (pd_ix e.kk (pd_var (pv 9)) (pd_int) (fun _ _ => rfl))) (pd_var (pv 2)) (nomark _)) (pdss_one (pds_ret (pd_var (pv 9)))) (pdss_nil))))
    (pdss_one (pds_aug (i := 8) sc_best_frame.nd rfl (.inl rfl) (pd_var (pv 5)) ip_add)))))))
theorem ok_room_wanted (e : Ev P G mg base) : FnOk P w0 G.K mg base (L2.CX P w0) 1 e.a_room_wanted e.fd_room_wanted ["place"] (spG G 1 g_room_wanted) :=
  fn_okD e.F_room_wanted sc_room_wanted rfl rfl fun cdv A outer s H E hr tk ps => pdss_cons (pds_set (i := 1) sc_room_wanted.nd rfl (.inl rfl) (pd_op (opd_mulA) (pd_fld rfl s_1 e.f_x (pd_var (pv 0))) (pd_fld rfl s_2 e.f_y (pd_var (pv 0)))))
    (pdss_one (pds_ret (pd_callB (cd_max2 rfl) (by rfl) e.z_max (by decide +kernel) (pda_cons (pd_callTy cd_int (by rfl) e.z_int (by decide +kernel) (pda_cons (pd_op (opd_addA e.kk) (pd_fld rfl s_3 e.f_area (pd_var (pv 0))) (pd_callB (cd_max2 rfl) (by rfl) e.z_max (by decide +kernel) (pda_cons (pd_int) (pda_cons (pd_callTy cd_int (by rfl) e.z_int (by decide +kernel) (pda_cons (pd_neg (pd_var (pv 1))) (pda_nil))) (pda_nil))))) (pda_nil))) (pda_cons (pd_callTy cd_int (by rfl) e.z_int (by decide +kernel) (pda_cons (pd_op (opd_sub) (pd_callB (cd_max2 rfl) (by rfl) e.z_max (by decide +kernel) (pda_cons (pd_int) (pda_cons (pd_callTy cd_int (by rfl) e.z_int (by decide +kernel) (pda_cons (pd_var (pv 1)) (pda_nil))) (pda_nil)))) (pd_fld rfl s_3 e.f_area (pd_var (pv 0)))) (pda_nil))) (pda_nil))))))
theorem ok_Prices_frame (e : Ev P G mg base) : FnOk P w0 G.K mg base (L2.CX P w0) 7 e.a_Prices_frame e.fd_Prices_frame ["self", "place"] (spG G 2 g_Prices_frame) :=
  fn_okD e.F_Prices_frame sc_Prices_frame rfl rfl fun cdv A outer s H E hr tk ps => pdss_cons (pds_expr (pd_call (ok_need_place e) (hr.mono (by decide)) (by rfl) e.m_need_place e.F_need_place.kp e.b_need_place tk (pda_cons (pd_var (pv 1)) (pda_nil))))
    (pdss_cons (pds_par (i := 2) (j := 3) rfl sc_Prices_frame.nd rfl rfl (by decide) rfl rfl (pda_cons (pd_op (opd_addA e.kk) (pd_fld rfl s_22 e.f_east (pd_var (pv 0))) (pd_fld rfl s_24 e.f_west (pd_var (pv 0)))) (pda_cons (pd_op (opd_addA e.kk) (pd_fld rfl s_23 e.f_north (pd_var (pv 0))) (pd_fld rfl s_25 e.f_south (pd_var (pv 0)))) (pda_nil))) (by rfl))
    (pdss_one (pds_ret (pd_call (ok_best_frame e) (hr.mono (by decide)) (by rfl) e.m_best_frame e.F_best_frame.kp e.b_best_frame tk (pda_cons (pd_callB cd_abs (by rfl) e.z_abs (by decide +kernel) (pda_cons (pd_fld rfl s_1 e.f_x (pd_var (pv 1))) (pda_nil))) (pda_cons (pd_callB cd_abs (by rfl) e.z_abs (by decide +kernel) (pda_cons (pd_fld rfl s_2 e.f_y (pd_var (pv 1))) (pda_nil))) (pda_cons (pd_call (ok_room_wanted e) (hr.mono (by decide)) (by rfl) e.m_room_wanted e.F_room_wanted.kp e.b_room_wanted tk (pda_cons (pd_var (pv 1)) (pda_nil))) (pda_cons (pd_var (pv 2)) (pda_cons (pd_var (pv 3)) (pda_nil))))))))))
theorem ok_Prices_lot_of (e : Ev P G mg base) : FnOk P w0 G.K mg base (L2.CX P w0) 9 e.a_Prices_lot_of e.fd_Prices_lot_of ["self", "place"] (spG G 2 g_Prices_lot_of) :=
  fn_okD e.F_Prices_lot_of sc_Prices_lot_of rfl rfl fun cdv A outer s H E hr tk ps => pdss_cons (pds_asg (pd_meth rfl (pd_var (pv 0)) e.ct_Prices e.cl_Prices s_26 e.M_Prices_frame (ok_Prices_frame e) (hr.mono (by decide)) e.b_Prices_frame tk (pda_cons (pd_var (pv 1)) (pda_nil))) (pdg_tup rfl rfl (pdgs_cons (pdg_name (i := 2) sc_Prices_lot_of.nd rfl (.inl rfl)) (pdgs_cons (pdg_name (i := 3) sc_Prices_lot_of.nd rfl (.inl rfl)) (pdgs_nil)))))
    (pdss_cons (pds_par (i := 4) (j := 5) rfl sc_Prices_lot_of.nd rfl rfl (by decide) rfl rfl (pda_cons (pd_op (opd_sub) (pd_var (pv 2)) (pd_callB cd_abs (by rfl) e.z_abs (by decide +kernel) (pda_cons (pd_fld rfl s_1 e.f_x (pd_var (pv 1))) (pda_nil)))) (pda_cons (pd_op (opd_sub) (pd_var (pv 3)) (pd_callB cd_abs (by rfl) e.z_abs (by decide +kernel) (pda_cons (pd_fld rfl s_2 e.f_y (pd_var (pv 1))) (pda_nil)))) (pda_nil))) (by rfl))
    (pdss_cons (pds_par (i := 6) (j := 7) rfl sc_Prices_lot_of.nd rfl rfl (by decide) rfl rfl (pda_cons (pd_op (opd_addA e.kk) (pd_callB (cd_max2 rfl) (by rfl) e.z_max (by decide +kernel) (pda_cons (pd_int) (pda_cons (pd_callTy cd_int (by rfl) e.z_int (by decide +kernel) (pda_cons (pd_fld rfl s_1 e.f_x (pd_var (pv 1))) (pda_nil))) (pda_nil)))) (pd_var (pv 4))) (pda_cons (pd_op (opd_addA e.kk) (pd_callB (cd_max2 rfl) (by rfl) e.z_max (by decide +kernel) (pda_cons (pd_int) (pda_cons (pd_callTy cd_int (by rfl) e.z_int (by decide +kernel) (pda_cons (pd_neg (pd_fld rfl s_1 e.f_x (pd_var (pv 1)))) (pda_nil))) (pda_nil)))) (pd_var (pv 4))) (pda_nil))) (by rfl))
    (pdss_one (pds_ret (pd_make e.mk_Lot e.ct_Lot (ok_LotX_initX e) (hr.mono (by decide)) (by rfl) e.m_Lot e.b_LotX_initX tk (pda_cons (pd_var (pv 6)) (pda_cons (pd_op (opd_addA e.kk) (pd_callB (cd_max2 rfl) (by rfl) e.z_max (by decide +kernel) (pda_cons (pd_int) (pda_cons (pd_callTy cd_int (by rfl) e.z_int (by decide +kernel) (pda_cons (pd_fld rfl s_2 e.f_y (pd_var (pv 1))) (pda_nil))) (pda_nil)))) (pd_var (pv 5))) (pda_cons (pd_var (pv 7)) (pda_cons (pd_op (opd_addA e.kk) (pd_callB (cd_max2 rfl) (by rfl) e.z_max (by decide +kernel) (pda_cons (pd_int) (pda_cons (pd_callTy cd_int (by rfl) e.z_int (by decide +kernel) (pda_cons (pd_neg (pd_fld rfl s_2 e.f_y (pd_var (pv 1)))) (pda_nil))) (pda_nil)))) (pd_var (pv 5))) (pda_nil))))))))))
theorem ok_Prices_least_price (e : Ev P G mg base) : FnOk P w0 G.K mg base (L2.CX P w0) 11 e.a_Prices_least_price e.fd_Prices_least_price ["self", "place"] (spG G 2 g_Prices_least_price) :=
  fn_okD e.F_Prices_least_price sc_Prices_least_price rfl rfl fun cdv A outer s H E hr tk ps => pdss_cons (pds_set (i := 2) sc_Prices_least_price.nd rfl (.inl rfl) (pd_meth rfl (pd_var (pv 0)) e.ct_Prices e.cl_Prices s_27 e.M_Prices_lot_of (ok_Prices_lot_of e) (hr.mono (by decide)) e.b_Prices_lot_of tk (pda_cons (pd_var (pv 1)) (pda_nil))))
    (pdss_one (pds_ret (pd_op (opd_addA e.kk) (pd_op (opd_addA e.kk) (pd_op (opd_addA e.kk) (pd_op (opd_mulA) (pd_fld rfl s_22 e.f_east (pd_var (pv 0))) (pd_fld rfl s_22 e.f_east (pd_var (pv 2)))) (pd_op (opd_mulA) (pd_fld rfl s_23 e.f_north (pd_var (pv 0))) (pd_fld rfl s_23 e.f_north (pd_var (pv 2))))) (pd_op (opd_mulA) (pd_fld rfl s_24 e.f_west (pd_var (pv 0))) (pd_fld rfl s_24 e.f_west (pd_var (pv 2))))) (pd_op (opd_mulA) (pd_fld rfl s_25 e.f_south (pd_var (pv 0))) (pd_fld rfl s_25 e.f_south (pd_var (pv 2)))))))
theorem ok_best_sides (e : Ev P G mg base) : FnOk P w0 G.K mg base (L2.CX P w0) 1 e.a_best_sides e.fd_best_sides ["x", "y", "extra"] (spG G 3 g_best_sides) :=
  fn_okD e.F_best_sides sc_best_sides rfl rfl fun cdv A outer s H E hr tk ps => pdss_cons (pds_if (ptd_cmp (opd_le) (pd_var (pv 2)) (pd_callB cd_abs (by rfl) e.z_abs (by decide +kernel) (pda_cons (pd_op (opd_sub) (pd_var (pv 0)) (pd_var (pv 1))) (pda_nil))) (nomark _)) (pdss_one (pds_ret (pd_ifExp (ptd_cmp (opd_ge) (pd_var (pv 0)) (pd_var (pv 1)) (nomark _)) (pd_tup (pda_cons (pd_var (pv 0)) (pda_cons (pd_op (opd_addA e.kk) (pd_var (pv 1)) (pd_var (pv 2))) (pda_nil)))) (pd_tup (pda_cons (pd_op (opd_addA e.kk) (pd_var (pv 0)) (pd_var (pv 2))) (pda_cons (pd_var (pv 1)) (pda_nil))))))) (pdss_nil))
    (pdss_one (pds_ret (pd_tup (pda_cons (pd_op (opd_div) (pd_op (opd_addA e.kk) (pd_op (opd_addA e.kk) (pd_op (opd_addA e.kk) (pd_var (pv 0)) (pd_var (pv 1))) (pd_var (pv 2))) (pd_int)) (pd_int)) (pda_cons (pd_op (opd_div) (pd_op (opd_addA e.kk) (pd_op (opd_addA e.kk) (pd_var (pv 0)) (pd_var (pv 1))) (pd_var (pv 2))) (pd_int)) (pda_nil))))))
theorem ok_areas_of (e : Ev P G mg base) : FnOk P w0 G.K mg base (L2.CX P w0) 3 e.a_areas_of e.fd_areas_of ["x", "y", "number"] (spG G 3 g_areas_of) :=
  fn_okD e.F_areas_of sc_areas_of rfl rfl fun cdv A outer s H E hr tk ps => pdss_cons (pds_set (i := 3) sc_areas_of.nd rfl (.inl rfl) (pd_op (opd_sub) (pd_op (opd_sub) (pd_var (pv 2)) (pd_callB cd_abs (by rfl) e.z_abs (by decide +kernel) (pda_cons (pd_var (pv 0)) (pda_nil)))) (pd_callB cd_abs (by rfl) e.z_abs (by decide +kernel) (pda_cons (pd_var (pv 1)) (pda_nil)))))
    (pdss_cons (pds_if ((pwd_or (ptd_cmp (opd_lt) (pd_var (pv 3)) (pd_int) (nomark _)) (pwd_or1 (ptd_cmp (opd_eq e.kk hr.units) (pd_op (opd_mod) (pd_var (pv 3)) (pd_int)) (pd_int) (nomark _)))).pt) (pdss_one (pds_ret (pd_non))) (pdss_nil))
    (pdss_cons (pds_asg (pd_call (ok_best_sides e) (hr.mono (by decide)) (by rfl) e.m_best_sides e.F_best_sides.kp e.b_best_sides tk (pda_cons (pd_callB cd_abs (by rfl) e.z_abs (by decide +kernel) (pda_cons (pd_var (pv 0)) (pda_nil))) (pda_cons (pd_callB cd_abs (by rfl) e.z_abs (by decide +kernel) (pda_cons (pd_var (pv 1)) (pda_nil))) (pda_cons (pd_op (opd_div) (pd_var (pv 3)) (pd_int)) (pda_nil))))) (pdg_tup rfl rfl (pdgs_cons (pdg_name (i := 4) sc_areas_of.nd rfl (.inl rfl)) (pdgs_cons (pdg_name (i := 5) sc_areas_of.nd rfl (.inl rfl)) (pdgs_nil)))))
    (pdss_cons (pds_set (i := 6) sc_areas_of.nd rfl (.inl rfl) (pd_op (opd_sub) (pd_op (opd_mulA) (pd_op (opd_mulA) (pd_int) (pd_var (pv 4))) (pd_var (pv 5))) (pd_callB cd_abs (by rfl) e.z_abs (by decide +kernel) (pda_cons (pd_op (opd_mulA) (pd_var (pv 0)) (pd_var (pv 1))) (pda_nil)))))
    (pdss_one (pds_ret (pd_tup (pda_cons (pd_op (opd_div) (pd_op (opd_sub) (pd_op (opd_mulA) (pd_var (pv 0)) (pd_var (pv 1))) (pd_var (pv 6))) (pd_int)) (pda_cons (pd_op (opd_div) (pd_op (opd_addA e.kk) (pd_op (opd_mulA) (pd_var (pv 0)) (pd_var (pv 1))) (pd_var (pv 6))) (pd_int)) (pda_nil)))))))))
theorem ok_areas (e : Ev P G mg base) : FnOk P w0 G.K mg base (L2.CX P w0) 5 e.a_areas e.fd_areas ["x", "y", "number"] (spG G 3 g_areas) :=
  fn_okD e.F_areas sc_areas rfl rfl fun cdv A outer s H E hr tk ps => pdss_cons (pds_for ps rfl (pdi_seq rfl (pd_tup (pda_cons (pd_var (pv 0)) (pda_cons (pd_var (pv 1)) (pda_nil))))) (pdg_name (i := 3) sc_areas.nd rfl (.inl rfl)) (pdss_one (pds_if (ptd_not (ptd_truth e.kk (pd_call (ok_is_integer e) (hr.mono (by decide)) (by rfl) e.m_is_integer e.F_is_integer.kp e.b_is_integer tk (pda_cons (pd_var (pv 3)) (pda_nil))))) (pdss_one (pds_raise rfl tk e.X_BadNumber.T e.X_BadNumber.I s_0 e.X_BadNumber.B (hr.mono (by decide)) (by rfl) e.m_BadNumber (pda_cons (pd_var (pv 3)) (pda_nil)))) (pdss_nil))))
    (pdss_cons (pds_if (ptd_not (ptd_truth e.kk (pd_call (ok_is_whole e) (hr.mono (by decide)) (by rfl) e.m_is_whole e.F_is_whole.kp e.b_is_whole tk (pda_cons (pd_var (pv 2)) (pda_cons (pd_int) (pda_nil)))))) (pdss_one (pds_raise rfl tk e.X_BadNumber.T e.X_BadNumber.I s_0 e.X_BadNumber.B (hr.mono (by decide)) (by rfl) e.m_BadNumber (pda_cons (pd_var (pv 2)) (pda_nil)))) (pdss_nil))
    (pdss_one (pds_ret (pd_call (ok_areas_of e) (hr.mono (by decide)) (by rfl) e.m_areas_of e.F_areas_of.kp e.b_areas_of tk (pda_cons (pd_var (pv 0)) (pda_cons (pd_var (pv 1)) (pda_cons (pd_var (pv 2)) (pda_nil))))))))
theorem ok_distance (e : Ev P G mg base) : FnOk P w0 G.K mg base (L2.CX P w0) 7 e.a_distance e.fd_distance ["one", "other"] (spG G 2 g_distance) :=
  fn_okD e.F_distance sc_distance rfl rfl fun cdv A outer s H E hr tk ps => pdss_cons (pds_expr (pd_call (ok_need_place e) (hr.mono (by decide)) (by rfl) e.m_need_place e.F_need_place.kp e.b_need_place tk (pda_cons (pd_var (pv 0)) (pda_nil))))
    (pdss_cons (pds_expr (pd_call (ok_need_place e) (hr.mono (by decide)) (by rfl) e.m_need_place e.F_need_place.kp e.b_need_place tk (pda_cons (pd_var (pv 1)) (pda_nil))))
    (pdss_one (pds_ret (pd_call (ok_steps e) (hr.mono (by decide)) (by rfl) e.m_steps e.F_steps.kp e.b_steps tk (pda_cons (pd_opX (opx_own (op := .Mult) (by decide +kernel) e.ct_Place e.M_PlaceX_mulX.at_ e.M_PlaceX_mulX.fn e.sf_Place (ok_PlaceX_mulX e) (hr.mono (by decide)) e.b_PlaceX_mulX tk) (pd_inv e.ct_Place e.M_PlaceX_invertX.at_ e.M_PlaceX_invertX.fn (ok_PlaceX_invertX e) (hr.mono (by decide)) e.b_PlaceX_invertX tk (pd_var (pv 0))) (pd_var (pv 1))) (pda_nil))))))
theorem ok_home_place (e : Ev P G mg base) : FnOk P w0 G.K mg base (L2.CX P w0) 5 e.a_home_place e.fd_home_place [] (spG G 0 g_home_place) :=
  fn_okD e.F_home_place sc_home_place rfl rfl fun cdv A outer s H E hr tk ps => pdss_one (pds_ret (pd_make e.mk_Place e.ct_Place (ok_PlaceX_initX e) (hr.mono (by decide)) (by rfl) e.m_Place e.b_PlaceX_initX tk (pda_cons (pd_int) (pda_cons (pd_int) (pda_cons (pd_int) (pda_nil))))))
theorem ok_walk_pairs (e : Ev P G mg base) : FnOk P w0 G.K mg base (L2.CX P w0) 3 e.a_walk_pairs e.fd_walk_pairs ["x", "y", "area", "extra"] (spG G 4 g_walk_pairs) :=
  fn_okD e.F_walk_pairs sc_walk_pairs rfl rfl fun cdv A outer s H E hr tk ps => pdss_cons (pds_asg (pd_call (ok_best_sides e) (hr.mono (by decide)) (by rfl) e.m_best_sides e.F_best_sides.kp e.b_best_sides tk (pda_cons (pd_var (pv 0)) (pda_cons (pd_var (pv 1)) (pda_cons (pd_var (pv 3)) (pda_nil))))) (pdg_tup rfl rfl (pdgs_cons (pdg_name (i := 4) sc_walk_pairs.nd rfl (.inl rfl)) (pdgs_cons (pdg_name (i := 5) sc_walk_pairs.nd rfl (.inl rfl)) (pdgs_nil)))))
    (pdss_cons (pds_if (ptd_cmp (opd_eq e.kk hr.units) (pd_op (opd_mulA) (pd_var (pv 4)) (pd_var (pv 5))) (pd_int) (nomark _)) (pdss_one (pds_ret (pdo_frz (pdo_lst (pda_cons (pd_tup (pda_cons (pd_str s_7) (pda_cons (pd_op (opd_sub) (pd_var (pv 5)) (pd_var (pv 1))) (pda_nil)))) (pda_cons (pd_tup (pda_cons (pd_str s_10) (pda_cons (pd_var (pv 4)) (pda_nil)))) (pda_cons (pd_tup (pda_cons (pd_str s_8) (pda_cons (pd_var (pv 5)) (pda_nil)))) (pda_cons (pd_tup (pda_cons (pd_str s_9) (pda_cons (pd_op (opd_sub) (pd_var (pv 4)) (pd_var (pv 0))) (pda_nil)))) (pda_nil))))))))) (pdss_nil))
    (pdss_cons (pds_asg (pd_callB cd_divmod (by rfl) e.z_divmod (by decide +kernel) (pda_cons (pd_op (opd_sub) (pd_op (opd_mulA) (pd_var (pv 4)) (pd_var (pv 5))) (pd_var (pv 2))) (pda_cons (pd_var (pv 5)) (pda_nil)))) (pdg_tup rfl rfl (pdgs_cons (pdg_name (i := 6) sc_walk_pairs.nd rfl (.inl rfl)) (pdgs_cons (pdg_name (i := 7) sc_walk_pairs.nd rfl (.inl rfl)) (pdgs_nil)))))
    (pdss_cons (pds_if (ptd_cmp (opd_eq e.kk hr.units) (pd_var (pv 6)) (pd_var (pv 4)) (nomark _)) (pdss_one (pds_par (i := 6) (j := 7) rfl sc_walk_pairs.nd rfl rfl (by decide) rfl rfl (pda_cons (pd_op (opd_sub) (pd_var (pv 4)) (pd_int)) (pda_cons (pd_var (pv 5)) (pda_nil))) (by rfl))) (pdss_nil))
    (pdss_one (pds_ret (pdo_frz (pdo_lst (pda_cons (pd_tup (pda_cons (pd_str s_7) (pda_cons (pd_op (opd_sub) (pd_var (pv 5)) (pd_var (pv 1))) (pda_nil)))) (pda_cons (pd_tup (pda_cons (pd_str s_10) (pda_cons (pd_op (opd_sub) (pd_op (opd_sub) (pd_var (pv 4)) (pd_int)) (pd_var (pv 6))) (pda_nil)))) (pda_cons (pd_tup (pda_cons (pd_str s_8) (pda_cons (pd_var (pv 7)) (pda_nil)))) (pda_cons (pd_tup (pda_cons (pd_str s_10) (pda_cons (pd_int) (pda_nil)))) (pda_cons (pd_tup (pda_cons (pd_str s_8) (pda_cons (pd_op (opd_sub) (pd_var (pv 5)) (pd_var (pv 7))) (pda_nil)))) (pda_cons (pd_tup (pda_cons (pd_str s_10) (pda_cons (pd_var (pv 6)) (pda_nil)))) (pda_cons (pd_tup (pda_cons (pd_str s_9) (pda_cons (pd_op (opd_sub) (pd_var (pv 4)) (pd_var (pv 0))) (pda_nil)))) (pda_nil)))))))))))))))
theorem ok_pairs_to (e : Ev P G mg base) : FnOk P w0 G.K mg base (L2.CX P w0) 5 e.a_pairs_to e.fd_pairs_to ["x", "y", "area", "number"] (spG G 4 g_pairs_to) :=
  fn_okD e.F_pairs_to sc_pairs_to rfl rfl fun cdv A outer s H E hr tk ps => pdss_cons (pds_set (i := 4) sc_pairs_to.nd rfl (.inl rfl) (pd_call (ok_areas_of e) (hr.mono (by decide)) (by rfl) e.m_areas_of e.F_areas_of.kp e.b_areas_of tk (pda_cons (pd_var (pv 0)) (pda_cons (pd_var (pv 1)) (pda_cons (pd_var (pv 3)) (pda_nil))))))
    (pdss_cons (pds_if ((pwd_or (ptd_cmp (opd_isN) (pd_var (pv 4)) (pd_non) (nomark _)) (pwd_or1 (ptd_not (ptd_chain (opd_le) (opd_le) (pd_ix e.kk (pd_var (pv 4)) (pd_int) (fun _ _ => rfl)) (pd_var (pv 2)) (pd_ix e.kk (pd_var (pv 4)) (pd_int) (fun _ _ => rfl)) (fun h1 h2 h3 h4 h5 => pt_chain h1 h2 h3 h4 h5))))).pt) (pdss_one (pds_ret (pd_non))) (pdss_nil))
    (pdss_cons (pds_set (i := 5) sc_pairs_to.nd rfl (.inr rfl) (pdod_frz (pdod_disp (fs := [(eC (.str [101]), eC (.str [101])), (eC (.str [110]), eC (.str [110])), (eC (.str [119]), eC (.str [119])), (eC (.str [115]), eC (.str [115]))]) (pps_cons (pd_str s_10) (pd_str s_10) (pps_cons (pd_str s_8) (pd_str s_8) (pps_cons (pd_str s_9) (pd_str s_9) (pps_cons (pd_str s_7) (pd_str s_7) (pps_nil))))) (by rfl) (by rfl) (fun z => by cases z) (by decide))))
    (pdss_cons (pds_if (ptd_cmp (opd_lt) (pd_var (pv 0)) (pd_int) (nomark _)) (pdss_cons (pds_par (i := 0) (j := 2) rfl sc_pairs_to.nd rfl rfl (by decide) rfl rfl (pda_cons (pd_neg (pd_var (pv 0))) (pda_cons (pd_neg (pd_var (pv 2))) (pda_nil))) (by rfl))
    (pdss_one (pds_set (i := 5) sc_pairs_to.nd rfl (.inr rfl) (pdod_frz (pdod_disp (fs := [(eC (.str [101]), eDGet (eVar 5) (eC (.str [119]))), (eC (.str [110]), eDGet (eVar 5) (eC (.str [110]))), (eC (.str [119]), eDGet (eVar 5) (eC (.str [101]))), (eC (.str [115]), eDGet (eVar 5) (eC (.str [115])))]) (pps_cons (pd_str s_10) (pd_dget (hu_of hr) (pd_var (pv 5)) (pd_str s_9) (fun _ _ => rfl)) (pps_cons (pd_str s_8) (pd_dget (hu_of hr) (pd_var (pv 5)) (pd_str s_8) (fun _ _ => rfl)) (pps_cons (pd_str s_9) (pd_dget (hu_of hr) (pd_var (pv 5)) (pd_str s_10) (fun _ _ => rfl)) (pps_cons (pd_str s_7) (pd_dget (hu_of hr) (pd_var (pv 5)) (pd_str s_7) (fun _ _ => rfl)) (pps_nil))))) (by rfl) (by rfl) (fun z => by cases z) (by decide)))))) (pdss_nil))
    (pdss_cons (pds_if (ptd_cmp (opd_lt) (pd_var (pv 1)) (pd_int) (nomark _)) (pdss_cons (pds_par (i := 1) (j := 2) rfl sc_pairs_to.nd rfl rfl (by decide) rfl rfl (pda_cons (pd_neg (pd_var (pv 1))) (pda_cons (pd_neg (pd_var (pv 2))) (pda_nil))) (by rfl))
    (pdss_one (pds_set (i := 5) sc_pairs_to.nd rfl (.inr rfl) (pdod_frz (pdod_disp (fs := [(eC (.str [101]), eDGet (eVar 5) (eC (.str [101]))), (eC (.str [110]), eDGet (eVar 5) (eC (.str [115]))), (eC (.str [119]), eDGet (eVar 5) (eC (.str [119]))), (eC (.str [115]), eDGet (eVar 5) (eC (.str [110])))]) (pps_cons (pd_str s_10) (pd_dget (hu_of hr) (pd_var (pv 5)) (pd_str s_10) (fun _ _ => rfl)) (pps_cons (pd_str s_8) (pd_dget (hu_of hr) (pd_var (pv 5)) (pd_str s_7) (fun _ _ => rfl)) (pps_cons (pd_str s_9) (pd_dget (hu_of hr) (pd_var (pv 5)) (pd_str s_9) (fun _ _ => rfl)) (pps_cons (pd_str s_7) (pd_dget (hu_of hr) (pd_var (pv 5)) (pd_str s_8) (fun _ _ => rfl)) (pps_nil))))) (by rfl) (by rfl) (fun z => by cases z) (by decide)))))) (pdss_nil))
    (pdss_cons (pds_if (ptd_cmp (opd_lt) (pd_op (opd_mulA) (pd_int) (pd_var (pv 2))) (pd_op (opd_mulA) (pd_var (pv 0)) (pd_var (pv 1))) (nomark _)) (pdss_cons (pds_par3 (i := 0) (j := 1) (l := 2) rfl sc_pairs_to.nd rfl rfl rfl (by decide) (by decide) (by decide) rfl rfl rfl (pda_cons (pd_var (pv 1)) (pda_cons (pd_var (pv 0)) (pda_cons (pd_op (opd_sub) (pd_op (opd_mulA) (pd_var (pv 0)) (pd_var (pv 1))) (pd_var (pv 2))) (pda_nil)))) (by rfl))
    (pdss_one (pds_set (i := 5) sc_pairs_to.nd rfl (.inr rfl) (pdod_frz (pdod_disp (fs := [(eC (.str [101]), eDGet (eVar 5) (eC (.str [110]))), (eC (.str [110]), eDGet (eVar 5) (eC (.str [101]))), (eC (.str [119]), eDGet (eVar 5) (eC (.str [115]))), (eC (.str [115]), eDGet (eVar 5) (eC (.str [119])))]) (pps_cons (pd_str s_10) (pd_dget (hu_of hr) (pd_var (pv 5)) (pd_str s_8) (fun _ _ => rfl)) (pps_cons (pd_str s_8) (pd_dget (hu_of hr) (pd_var (pv 5)) (pd_str s_10) (fun _ _ => rfl)) (pps_cons (pd_str s_9) (pd_dget (hu_of hr) (pd_var (pv 5)) (pd_str s_7) (fun _ _ => rfl)) (pps_cons (pd_str s_7) (pd_dget (hu_of hr) (pd_var (pv 5)) (pd_str s_9) (fun _ _ => rfl)) (pps_nil))))) (by rfl) (by rfl) (fun z => by cases z) (by decide)))))) (pdss_nil))
    (pdss_one (pds_ret (pdo_frz (pdo_lc (own := [("letter", 6), ("times", 7)]) rfl sc_pairs_to.nd (pdi_seq rfl (pd_call (ok_walk_pairs e) (hr.mono (by decide)) (by rfl) e.m_walk_pairs e.F_walk_pairs.kp e.b_walk_pairs tk (pda_cons (pd_var (pv 0)) (pda_cons (pd_var (pv 1)) (pda_cons (pd_var (pv 2)) (pda_cons (pd_op (opd_div) (pd_op (opd_sub) (pd_op (opd_sub) (pd_var (pv 3)) (pd_var (pv 0))) (pd_var (pv 1))) (pd_int)) (pda_nil))))))) (by exact blkOk_by (N := ["x", "y", "area", "number", "limits", "names", "letter", "times"]) (sc := defScope st_pairs_to) (own := [("letter", 6), ("times", 7)]) (by decide +kernel)) (by decide) (fun _ _ _ _ _ => pdg_tup rfl rfl (pdgs_cons (pdg_name (i := 6) sc_pairs_to.nd rfl (.inl rfl)) (pdgs_cons (pdg_name (i := 7) sc_pairs_to.nd rfl (.inl rfl)) (pdgs_nil)))) (fun _ _ _ _ _ => ptds_nil) (fun _ _ _ _ _ => pd_tup (pda_cons (pd_dget (hu_of hr) (pd_var (pv 5)) (pd_var (pv 6)) (fun _ _ => rfl)) (pda_cons (pd_var (pv 7)) (pda_nil)))))))))))))
theorem ok_walk_of (e : Ev P G mg base) : FnOk P w0 G.K mg base (L2.CX P w0) 11 e.a_walk_of e.fd_walk_of ["place", "number"] (spG G 2 g_walk_of) :=
  fn_okD e.F_walk_of sc_walk_of rfl rfl fun cdv A outer s H E hr tk ps => pdss_cons (pds_expr (pd_call (ok_need_place e) (hr.mono (by decide)) (by rfl) e.m_need_place e.F_need_place.kp e.b_need_place tk (pda_cons (pd_var (pv 0)) (pda_nil))))
    (pdss_cons (pds_if (ptd_not (ptd_truth e.kk (pd_call (ok_is_whole e) (hr.mono (by decide)) (by rfl) e.m_is_whole e.F_is_whole.kp e.b_is_whole tk (pda_cons (pd_var (pv 1)) (pda_cons (pd_int) (pda_nil)))))) (pdss_one (pds_raise rfl tk e.X_BadNumber.T e.X_BadNumber.I s_0 e.X_BadNumber.B (hr.mono (by decide)) (by rfl) e.m_BadNumber (pda_cons (pd_var (pv 1)) (pda_nil)))) (pdss_nil))
    (pdss_cons (pds_set (i := 2) sc_walk_of.nd rfl (.inl rfl) (pd_call (ok_pairs_to e) (hr.mono (by decide)) (by rfl) e.m_pairs_to e.F_pairs_to.kp e.b_pairs_to tk (pda_cons (pd_fld rfl s_1 e.f_x (pd_var (pv 0))) (pda_cons (pd_fld rfl s_2 e.f_y (pd_var (pv 0))) (pda_cons (pd_fld rfl s_3 e.f_area (pd_var (pv 0))) (pda_cons (pd_var (pv 1)) (pda_nil)))))))
    (pdss_one (pds_ret (pd_ifExp (ptd_cmp (opd_isN) (pd_var (pv 2)) (pd_non) (nomark _)) (pd_non) (pd_make e.mk_Walk e.ct_Walk (ok_WalkX_initX e) (hr.mono (by decide)) (by rfl) e.m_Walk e.b_WalkX_initX tk (pda_cons (pd_var (pv 2)) (pda_nil))))))))
theorem ok_least_walk (e : Ev P G mg base) : FnOk P w0 G.K mg base (L2.CX P w0) 13 e.a_least_walk e.fd_least_walk ["place"] (spG G 1 g_least_walk) :=
  fn_okD e.F_least_walk sc_least_walk rfl rfl fun cdv A outer s H E hr tk ps => pdss_one (pds_ret (pd_call (ok_walk_of e) (hr.mono (by decide)) (by rfl) e.m_walk_of e.F_walk_of.kp e.b_walk_of tk (pda_cons (pd_var (pv 0)) (pda_cons (pd_call (ok_steps e) (hr.mono (by decide)) (by rfl) e.m_steps e.F_steps.kp e.b_steps tk (pda_cons (pd_var (pv 0)) (pda_nil))) (pda_nil)))))
theorem ok_lies_between (e : Ev P G mg base) : FnOk P w0 G.K mg base (L2.CX P w0) 9 e.a_lies_between e.fd_lies_between ["place", "one", "other"] (spG G 3 g_lies_between) :=
  fn_okD e.F_lies_between sc_lies_between rfl rfl fun cdv A outer s H E hr tk ps => pdss_cons (pds_for ps rfl (pdi_seq rfl (pd_tup (pda_cons (pd_var (pv 0)) (pda_cons (pd_var (pv 1)) (pda_cons (pd_var (pv 2)) (pda_nil)))))) (pdg_name (i := 3) sc_lies_between.nd rfl (.inl rfl)) (pdss_one (pds_expr (pd_call (ok_need_place e) (hr.mono (by decide)) (by rfl) e.m_need_place e.F_need_place.kp e.b_need_place tk (pda_cons (pd_var (pv 3)) (pda_nil))))))
    (pdss_one (pds_ret (pd_cmp (opd_eq e.kk hr.units) (pd_op (opd_addA e.kk) (pd_call (ok_distance e) (hr.mono (by decide)) (by rfl) e.m_distance e.F_distance.kp e.b_distance tk (pda_cons (pd_var (pv 1)) (pda_cons (pd_var (pv 0)) (pda_nil)))) (pd_call (ok_distance e) (hr.mono (by decide)) (by rfl) e.m_distance e.F_distance.kp e.b_distance tk (pda_cons (pd_var (pv 0)) (pda_cons (pd_var (pv 2)) (pda_nil))))) (pd_call (ok_distance e) (hr.mono (by decide)) (by rfl) e.m_distance e.F_distance.kp e.b_distance tk (pda_cons (pd_var (pv 1)) (pda_cons (pd_var (pv 2)) (pda_nil)))) (nomark _))))
theorem ok__law_walks_right (e : Ev P G mg base) : FnOk P w0 G.K mg base (L2.CX P w0) 15 e.a__law_walks_right e.fd__law_walks_right ["_law_pen_here", "_law_place_here"] (spG G 2 g__law_walks_right) :=
  fn_okD e.F__law_walks_right sc__law_walks_right rfl rfl fun cdv A outer s H E hr tk ps => pdss_cons (pds_par (i := 2) (j := 3) rfl sc__law_walks_right.nd rfl rfl (by decide) rfl rfl (pda_cons (pd_call (ok_steps e) (hr.mono (by decide)) (by rfl) e.m_steps e.F_steps.kp e.b_steps tk (pda_cons (pd_var (pv 1)) (pda_nil))) (pda_cons (pd_call (ok_least_walk e) (hr.mono (by decide)) (by rfl) e.m_least_walk e.F_least_walk.kp e.b_least_walk tk (pda_cons (pd_var (pv 1)) (pda_nil))) (pda_nil))) (by rfl))
    (pdss_cons (pds_if ((pwd_or (ptd_cmpX (opx_ownNe e.ct_Place e.M_PlaceX_eqX.at_ e.M_PlaceX_eqX.fn e.ne_Place e.mo_Place (ok_PlaceX_eqX e) (hr.mono (by decide)) e.b_PlaceX_eqX tk) (pd_meth0 rfl (pd_var (pv 3)) e.ct_Walk e.cl_Walk s_18 e.M_Walk_place (ok_Walk_place e) (hr.mono (by decide)) e.b_Walk_place tk) (pd_var (pv 1)) (nomark _)) (pwd_or (ptd_cmp (opd_ne e.kk hr.units) (pd_prop e.ct_Walk e.cl_Walk e.M_Walk_length (ok_Walk_length e) (hr.mono (by decide)) e.b_Walk_length (pd_var (pv 3))) (pd_var (pv 2)) (nomark _)) (pwd_or (ptd_cmp (opd_gt) (pd_callB (cd_len rfl) (by rfl) e.z_len (by decide +kernel) (pda_cons (pd_fld rfl s_13 e.f_runs (pd_var (pv 3))) (pda_nil))) (pd_int) (nomark _)) (pwd_or1 (ptd_not (ptd_truth e.kk (pd_meth0 rfl (pd_var (pv 3)) e.ct_Walk e.cl_Walk s_20 e.M_Walk_is_least (ok_Walk_is_least e) (hr.mono (by decide)) e.b_Walk_is_least tk))))))).pt) (pdss_one (pds_ret (pd_bl))) (pdss_nil))
    (pdss_cons (pds_if ((pwd_or (ptd_cmp (opd_ne e.kk hr.units) (pd_meth rfl (pd_make e.mk_Prices e.ct_Prices (ok_PricesX_initX e) (hr.mono (by decide)) (by rfl) e.m_Prices e.b_PricesX_initX tk (pda_cons (pd_int) (pda_cons (pd_int) (pda_cons (pd_int) (pda_cons (pd_int) (pda_nil)))))) e.ct_Prices e.cl_Prices s_28 e.M_Prices_least_price (ok_Prices_least_price e) (hr.mono (by decide)) e.b_Prices_least_price tk (pda_cons (pd_var (pv 1)) (pda_nil))) (pd_var (pv 2)) (nomark _)) (pwd_or1 (ptd_cmp (opd_ne e.kk hr.units) (pd_call (ok_distance e) (hr.mono (by decide)) (by rfl) e.m_distance e.F_distance.kp e.b_distance tk (pda_cons (pd_call0 (ok_home_place e) (hr.mono (by decide)) (by rfl) e.m_home_place e.F_home_place.kp e.b_home_place tk) (pda_cons (pd_var (pv 1)) (pda_nil)))) (pd_var (pv 2)) (nomark _)))).pt) (pdss_one (pds_ret (pd_bl))) (pdss_nil))
    (pdss_cons (pds_set (i := 4) sc__law_walks_right.nd rfl (.inl rfl) (pd_call (ok__law_big e) (hr.mono (by decide)) (by rfl) e.m__law_big e.F__law_big.kp e.b__law_big tk (pda_cons (pd_var (pv 0)) (pda_cons (pd_op (opd_addA e.kk) (pd_var (pv 2)) (pd_int)) (pda_nil)))))
    (pdss_cons (pds_set (i := 5) sc__law_walks_right.nd rfl (.inl rfl) (pd_meth rfl (pd_var (pv 3)) e.ct_Walk e.cl_Walk s_21 e.M_Walk_at (ok_Walk_at e) (hr.mono (by decide)) e.b_Walk_at tk (pda_cons (pd_var (pv 4)) (pda_nil))))
    (pdss_cons (pds_if ((pwd_or (ptd_cmp (opd_ne e.kk hr.units) (pd_call (ok_steps e) (hr.mono (by decide)) (by rfl) e.m_steps e.F_steps.kp e.b_steps tk (pda_cons (pd_var (pv 5)) (pda_nil))) (pd_var (pv 4)) (nomark _)) (pwd_or (ptd_not (ptd_truth e.kk (pd_call (ok_lies_between e) (hr.mono (by decide)) (by rfl) e.m_lies_between e.F_lies_between.kp e.b_lies_between tk (pda_cons (pd_var (pv 5)) (pda_cons (pd_call0 (ok_home_place e) (hr.mono (by decide)) (by rfl) e.m_home_place e.F_home_place.kp e.b_home_place tk) (pda_cons (pd_var (pv 1)) (pda_nil))))))) (pwd_or1 (ptd_cmp (opd_ne e.kk hr.units) (pd_call (ok_distance e) (hr.mono (by decide)) (by rfl) e.m_distance e.F_distance.kp e.b_distance tk (pda_cons (pd_var (pv 5)) (pda_cons (pd_var (pv 1)) (pda_nil)))) (pd_op (opd_sub) (pd_var (pv 2)) (pd_var (pv 4))) (nomark _))))).pt) (pdss_one (pds_ret (pd_bl))) (pdss_nil))
    (pdss_cons (pds_for ps rfl (pdi_seq rfl (pdo_frz (pdo_lst (pda_cons (pd_neg (pd_int)) (pda_cons (pd_neg (pd_int)) (pda_cons (pd_int) (pda_cons (pd_int) (pda_cons (pd_int) (pda_cons (pd_op (opd_mulA) (pd_int) (pd_call (ok__law_draw e) (hr.mono (by decide)) (by rfl) e.m__law_draw e.F__law_draw.kp e.b__law_draw tk (pda_cons (pd_var (pv 0)) (pda_cons (pd_int) (pda_nil))))) (pda_nil)))))))))) (pdg_name (i := 6) sc__law_walks_right.nd rfl (.inl rfl)) (pdss_cons (pds_if (ptd_cmp (opd_lt) (pd_op (opd_addA e.kk) (pd_var (pv 2)) (pd_var (pv 6))) (pd_int) (nomark _)) (pdss_one (pds_continue)) (pdss_nil))
    (pdss_cons (pds_par (i := 7) (j := 8) rfl sc__law_walks_right.nd rfl rfl (by decide) rfl rfl (pda_cons (pd_call (ok_walk_of e) (hr.mono (by decide)) (by rfl) e.m_walk_of e.F_walk_of.kp e.b_walk_of tk (pda_cons (pd_var (pv 1)) (pda_cons (pd_op (opd_addA e.kk) (pd_var (pv 2)) (pd_var (pv 6))) (pda_nil)))) (pda_cons (pd_call (ok_areas e) (hr.mono (by decide)) (by rfl) e.m_areas e.F_areas.kp e.b_areas tk (pda_cons (pd_fld rfl s_1 e.f_x (pd_var (pv 1))) (pda_cons (pd_fld rfl s_2 e.f_y (pd_var (pv 1))) (pda_cons (pd_op (opd_addA e.kk) (pd_var (pv 2)) (pd_var (pv 6))) (pda_nil))))) (pda_nil))) (by rfl))
    (pdss_cons (pds_set (i := 9) sc__law_walks_right.nd rfl (.inl rfl) (pd_andT e.kk (pd_cmp (opd_notN) (pd_var (pv 8)) (pd_non) (nomark _)) (pd_one (pd_chain (opd_le) (opd_le) (pd_ix e.kk (pd_var (pv 8)) (pd_int) (fun _ _ => rfl)) (pd_fld rfl s_3 e.f_area (pd_var (pv 1))) (pd_ix e.kk (pd_var (pv 8)) (pd_int) (fun _ _ => rfl)) (fun h1 h2 h3 h4 h5 => pe_chain h1 h2 h3 h4 h5)))))
    (pdss_cons (pds_if ((pwd_or (ptd_cmp (opd_ne e.kk hr.units) (pd_var (pv 9)) (pd_cmp (opd_notN) (pd_var (pv 7)) (pd_non) (nomark _)) (nomark _)) (pwd_or1 (ptd_cmp (opd_ne e.kk hr.units) (pd_var (pv 9)) (pd_andT e.kk (pd_cmp (opd_ge) (pd_var (pv 6)) (pd_int) (nomark _)) (pd_one (pd_cmp (opd_eq e.kk hr.units) (pd_op (opd_mod) (pd_callTy cd_int (by rfl) e.z_int (by decide +kernel) (pda_cons (pd_var (pv 6)) (pda_nil))) (pd_int)) (pd_int) (nomark _)))) (nomark _)))).pt) (pdss_one (pds_ret (pd_bl))) (pdss_nil))
    (pdss_cons (pds_if (ptd_cmp (opd_isN) (pd_var (pv 7)) (pd_non) (nomark _)) (pdss_one (pds_continue)) (pdss_nil))
    (pdss_one (pds_if ((pwd_or (ptd_cmpX (opx_ownNe e.ct_Place e.M_PlaceX_eqX.at_ e.M_PlaceX_eqX.fn e.ne_Place e.mo_Place (ok_PlaceX_eqX e) (hr.mono (by decide)) e.b_PlaceX_eqX tk) (pd_meth0 rfl (pd_var (pv 7)) e.ct_Walk e.cl_Walk s_18 e.M_Walk_place (ok_Walk_place e) (hr.mono (by decide)) e.b_Walk_place tk) (pd_var (pv 1)) (nomark _)) (pwd_or (ptd_cmp (opd_ne e.kk hr.units) (pd_prop e.ct_Walk e.cl_Walk e.M_Walk_length (ok_Walk_length e) (hr.mono (by decide)) e.b_Walk_length (pd_var (pv 7))) (pd_op (opd_addA e.kk) (pd_var (pv 2)) (pd_var (pv 6))) (nomark _)) (pwd_or1 (ptd_cmp (opd_gt) (pd_callB (cd_len rfl) (by rfl) e.z_len (by decide +kernel) (pda_cons (pd_fld rfl s_13 e.f_runs (pd_var (pv 7))) (pda_nil))) (pd_int) (nomark _))))).pt) (pdss_one (pds_ret (pd_bl))) (pdss_nil)))))))))
    (pdss_one (pds_ret (pd_bl)))))))))
theorem ok_law (e : Ev P G mg base) : FnOk P w0 G.K mg base (L2.CX P w0) 17 e.a_law e.fd_law ["_law_script"] (spG G 1 g_law) :=
  fn_okD e.F_law sc_law rfl rfl fun cdv A outer s H E hr tk ps => pdss_cons (pds_set (i := 1) sc_law.nd rfl (.inl rfl) (pd_call (ok__law_pen e) (hr.mono (by decide)) (by rfl) e.m__law_pen e.F__law_pen.kp e.b__law_pen tk (pda_cons (pd_var (pv 0)) (pda_nil))))
    (pdss_cons (pds_for ps rfl (pdi_range1 (by rfl) e.z_range (pda_cons (pd_op (opd_addA e.kk) (pd_int) (pd_callB (cd_min2 rfl) (by rfl) e.z_min (by decide +kernel) (pda_cons (pd_int) (pda_cons (pd_callB (cd_len rfl) (by rfl) e.z_len (by decide +kernel) (pda_cons (pd_var (pv 0)) (pda_nil))) (pda_nil))))) (pda_nil))) (pdg_name (i := 2) sc_law.nd rfl (.inl rfl)) (pdss_cons (pds_par (i := 3) (j := 4) rfl sc_law.nd rfl rfl (by decide) rfl rfl (pda_cons (pd_call (ok__law_drawn e) (hr.mono (by decide)) (by rfl) e.m__law_drawn e.F__law_drawn.kp e.b__law_drawn tk (pda_cons (pd_var (pv 1)) (pda_nil))) (pda_cons (pd_call (ok__law_drawn e) (hr.mono (by decide)) (by rfl) e.m__law_drawn e.F__law_drawn.kp e.b__law_drawn tk (pda_cons (pd_var (pv 1)) (pda_nil))) (pda_nil))) (by rfl))
    (pdss_cons (pds_set (i := 5) sc_law.nd rfl (.inl rfl) (pd_call (ok__law_drawn e) (hr.mono (by decide)) (by rfl) e.m__law_drawn e.F__law_drawn.kp e.b__law_drawn tk (pda_cons (pd_var (pv 1)) (pda_nil))))
    (pdss_cons (pds_if ((pwd_or (ptd_not (ptd_truth e.kk (pd_call (ok__law_local_right e) (hr.mono (by decide)) (by rfl) e.m__law_local_right e.F__law_local_right.kp e.b__law_local_right tk (pda_cons (pd_var (pv 3)) (pda_nil))))) (pwd_or (ptd_not (ptd_truth e.kk (pd_call (ok__law_walks_right e) (hr.mono (by decide)) (by rfl) e.m__law_walks_right e.F__law_walks_right.kp e.b__law_walks_right tk (pda_cons (pd_var (pv 1)) (pda_cons (pd_var (pv 4)) (pda_nil)))))) (pwd_or1 (ptd_not (ptd_truth e.kk (pd_call (ok__law_walk_right e) (hr.mono (by decide)) (by rfl) e.m__law_walk_right e.F__law_walk_right.kp e.b__law_walk_right tk (pda_cons (pd_var (pv 1)) (pda_nil)))))))).pt) (pdss_one (pds_ret (pd_bl))) (pdss_nil))
    (pdss_cons (pds_par (i := 6) (j := 7) rfl sc_law.nd rfl rfl (by decide) rfl rfl (pda_cons (pd_call (ok_distance e) (hr.mono (by decide)) (by rfl) e.m_distance e.F_distance.kp e.b_distance tk (pda_cons (pd_var (pv 3)) (pda_cons (pd_var (pv 4)) (pda_nil)))) (pda_cons (pd_call (ok_distance e) (hr.mono (by decide)) (by rfl) e.m_distance e.F_distance.kp e.b_distance tk (pda_cons (pd_var (pv 4)) (pda_cons (pd_var (pv 5)) (pda_nil)))) (pda_nil))) (by rfl))
    (pdss_cons (pds_if ((pwd_or (ptd_cmp (opd_gt) (pd_call (ok_distance e) (hr.mono (by decide)) (by rfl) e.m_distance e.F_distance.kp e.b_distance tk (pda_cons (pd_var (pv 3)) (pda_cons (pd_var (pv 5)) (pda_nil)))) (pd_op (opd_addA e.kk) (pd_var (pv 6)) (pd_var (pv 7))) (nomark _)) (pwd_or (ptd_cmp (opd_ne e.kk hr.units) (pd_call (ok_distance e) (hr.mono (by decide)) (by rfl) e.m_distance e.F_distance.kp e.b_distance tk (pda_cons (pd_var (pv 4)) (pda_cons (pd_var (pv 3)) (pda_nil)))) (pd_var (pv 6)) (nomark _)) (pwd_or1 (ptd_cmp (opd_ne e.kk hr.units) (pd_call (ok_steps e) (hr.mono (by decide)) (by rfl) e.m_steps e.F_steps.kp e.b_steps tk (pda_cons (pd_inv e.ct_Place e.M_PlaceX_invertX.at_ e.M_PlaceX_invertX.fn (ok_PlaceX_invertX e) (hr.mono (by decide)) e.b_PlaceX_invertX tk (pd_var (pv 3))) (pda_nil))) (pd_call (ok_steps e) (hr.mono (by decide)) (by rfl) e.m_steps e.F_steps.kp e.b_steps tk (pda_cons (pd_var (pv 3)) (pda_nil))) (nomark _))))).pt) (pdss_one (pds_ret (pd_bl))) (pdss_nil))
    (pdss_cons (pds_if (ptd_cmp (opd_ne e.kk hr.units) (pd_call (ok_lies_between e) (hr.mono (by decide)) (by rfl) e.m_lies_between e.F_lies_between.kp e.b_lies_between tk (pda_cons (pd_var (pv 4)) (pda_cons (pd_var (pv 3)) (pda_cons (pd_var (pv 5)) (pda_nil))))) (pd_cmp (opd_eq e.kk hr.units) (pd_call (ok_distance e) (hr.mono (by decide)) (by rfl) e.m_distance e.F_distance.kp e.b_distance tk (pda_cons (pd_var (pv 3)) (pda_cons (pd_var (pv 5)) (pda_nil)))) (pd_op (opd_addA e.kk) (pd_var (pv 6)) (pd_var (pv 7))) (nomark _)) (nomark _)) (pdss_one (pds_ret (pd_bl))) (pdss_nil))
    (pdss_one (pds_if ((pwd_or (ptd_cmp (opd_gt) (pd_call (ok_steps e) (hr.mono (by decide)) (by rfl) e.m_steps e.F_steps.kp e.b_steps tk (pda_cons (pd_opX (opx_own (op := .Mult) (by decide +kernel) e.ct_Place e.M_PlaceX_mulX.at_ e.M_PlaceX_mulX.fn e.sf_Place (ok_PlaceX_mulX e) (hr.mono (by decide)) e.b_PlaceX_mulX tk) (pd_var (pv 3)) (pd_var (pv 4))) (pda_nil))) (pd_op (opd_addA e.kk) (pd_call (ok_steps e) (hr.mono (by decide)) (by rfl) e.m_steps e.F_steps.kp e.b_steps tk (pda_cons (pd_var (pv 3)) (pda_nil))) (pd_call (ok_steps e) (hr.mono (by decide)) (by rfl) e.m_steps e.F_steps.kp e.b_steps tk (pda_cons (pd_var (pv 4)) (pda_nil)))) (nomark _)) (pwd_or1 (ptd_cmp (opd_ne e.kk hr.units) (pd_op (opd_mod) (pd_op (opd_sub) (pd_op (opd_sub) (pd_call (ok_steps e) (hr.mono (by decide)) (by rfl) e.m_steps e.F_steps.kp e.b_steps tk (pda_cons (pd_var (pv 3)) (pda_nil))) (pd_fld rfl s_1 e.f_x (pd_var (pv 3)))) (pd_fld rfl s_2 e.f_y (pd_var (pv 3)))) (pd_int)) (pd_int) (nomark _)))).pt) (pdss_one (pds_ret (pd_bl))) (pdss_nil))))))))))
    (pdss_one (pds_ret (pd_bl))))
end
theorem all_mk {l : PySem.W.OpenLaw} {w : World} {q : Program} {K : PySem.W.Frag} {h : Heap} {mg : Str → Option Value} {fa : Addr} {C_Place : Addr} {C_Walk : Addr} {C_Lot : Addr} {C_Prices : Addr} {C_BadNumber : Addr} {fI_BadNumber NS_BadNumber cda_BadNumber cc_BadNumber : Addr} {xnm_BadNumber xq_BadNumber xfile_BadNumber : Str} {xbs_BadNumber xbm_BadNumber xsub_BadNumber : List Value} {xsn_BadNumber : List Str} {xab_BadNumber : Bool} {xcol_BadNumber : Option Bool} {xdd_BadNumber : Option Addr} {xk0_BadNumber xk1_BadNumber xk2_BadNumber xk3_BadNumber xk5_BadNumber : Option Value} {xoc_BadNumber xkV_BadNumber xdoc_BadNumber xpm_BadNumber xct_BadNumber xccl_BadNumber xcl_BadNumber : Value} {xod_BadNumber xan_BadNumber xcdd_BadNumber xcld_BadNumber : Option Addr} {xosl_BadNumber xccs_BadNumber xcsl_BadNumber : Array (Option Value)} {xvs_BadNumber : Array Value} {xtf_BadNumber : Tok} {C_BadPlace : Addr} {fI_BadPlace NS_BadPlace cda_BadPlace cc_BadPlace : Addr} {xnm_BadPlace xq_BadPlace xfile_BadPlace : Str} {xbs_BadPlace xbm_BadPlace xsub_BadPlace : List Value} {xsn_BadPlace : List Str} {xab_BadPlace : Bool} {xcol_BadPlace : Option Bool} {xdd_BadPlace : Option Addr} {xk0_BadPlace xk1_BadPlace xk2_BadPlace xk3_BadPlace xk5_BadPlace : Option Value} {xoc_BadPlace xkV_BadPlace xdoc_BadPlace xpm_BadPlace xct_BadPlace xccl_BadPlace xcl_BadPlace : Value} {xod_BadPlace xan_BadPlace xcdd_BadPlace xcld_BadPlace : Option Addr} {xosl_BadPlace xccs_BadPlace xcsl_BadPlace : Array (Option Value)} {xvs_BadPlace : Array Value} {xtf_BadPlace : Tok} {C_BadWord : Addr} {fI_BadWord NS_BadWord cda_BadWord cc_BadWord : Addr} {xnm_BadWord xq_BadWord xfile_BadWord : Str} {xbs_BadWord xbm_BadWord xsub_BadWord : List Value} {xsn_BadWord : List Str} {xab_BadWord : Bool} {xcol_BadWord : Option Bool} {xdd_BadWord : Option Addr} {xk0_BadWord xk1_BadWord xk2_BadWord xk3_BadWord xk5_BadWord : Option Value} {xoc_BadWord xkV_BadWord xdoc_BadWord xpm_BadWord xct_BadWord xccl_BadWord xcl_BadWord : Value} {xod_BadWord xan_BadWord xcdd_BadWord xcld_BadWord : Option Addr} {xosl_BadWord xccs_BadWord xcsl_BadWord : Array (Option Value)} {xvs_BadWord : Array Value} {xtf_BadWord : Tok} {a_is_integer : Addr} {od_is_integer an_is_integer : Option Addr} {sl_is_integer : Array (Option Value)} {oc_is_integer kV_is_integer dc_is_integer pm_is_integer cd_is_integer ct_is_integer : Value} {a_PlaceX_initX : Addr} {od_PlaceX_initX an_PlaceX_initX : Option Addr} {sl_PlaceX_initX : Array (Option Value)} {oc_PlaceX_initX kV_PlaceX_initX dc_PlaceX_initX pm_PlaceX_initX cd_PlaceX_initX ct_PlaceX_initX : Value} {a_PlaceX_invertX : Addr} {od_PlaceX_invertX an_PlaceX_invertX : Option Addr} {sl_PlaceX_invertX : Array (Option Value)} {oc_PlaceX_invertX kV_PlaceX_invertX dc_PlaceX_invertX pm_PlaceX_invertX cd_PlaceX_invertX ct_PlaceX_invertX : Value} {a_PlaceX_mulX : Addr} {od_PlaceX_mulX an_PlaceX_mulX : Option Addr} {sl_PlaceX_mulX : Array (Option Value)} {oc_PlaceX_mulX kV_PlaceX_mulX dc_PlaceX_mulX pm_PlaceX_mulX cd_PlaceX_mulX ct_PlaceX_mulX : Value} {a__law_draw : Addr} {od__law_draw an__law_draw : Option Addr} {sl__law_draw : Array (Option Value)} {oc__law_draw kV__law_draw dc__law_draw pm__law_draw cd__law_draw ct__law_draw : Value} {a__law_big : Addr} {od__law_big an__law_big : Option Addr} {sl__law_big : Array (Option Value)} {oc__law_big kV__law_big dc__law_big pm__law_big cd__law_big ct__law_big : Value} {a__law_whole : Addr} {od__law_whole an__law_whole : Option Addr} {sl__law_whole : Array (Option Value)} {oc__law_whole kV__law_whole dc__law_whole pm__law_whole cd__law_whole ct__law_whole : Value} {a__law_place : Addr} {od__law_place an__law_place : Option Addr} {sl__law_place : Array (Option Value)} {oc__law_place kV__law_place dc__law_place pm__law_place cd__law_place ct__law_place : Value} {a__law_drawn : Addr} {od__law_drawn an__law_drawn : Option Addr} {sl__law_drawn : Array (Option Value)} {oc__law_drawn kV__law_drawn dc__law_drawn pm__law_drawn cd__law_drawn ct__law_drawn : Value} {a__law_step : Addr} {od__law_step an__law_step : Option Addr} {sl__law_step : Array (Option Value)} {oc__law_step kV__law_step dc__law_step pm__law_step cd__law_step ct__law_step : Value} {a_need_place : Addr} {od_need_place an_need_place : Option Addr} {sl_need_place : Array (Option Value)} {oc_need_place kV_need_place dc_need_place pm_need_place cd_need_place ct_need_place : Value} {a_whole_root : Addr} {od_whole_root an_whole_root : Option Addr} {sl_whole_root : Array (Option Value)} {oc_whole_root kV_whole_root dc_whole_root pm_whole_root cd_whole_root ct_whole_root : Value} {a_steps_of : Addr} {od_steps_of an_steps_of : Option Addr} {sl_steps_of : Array (Option Value)} {oc_steps_of kV_steps_of dc_steps_of pm_steps_of cd_steps_of ct_steps_of : Value} {a_steps : Addr} {od_steps an_steps : Option Addr} {sl_steps : Array (Option Value)} {oc_steps kV_steps dc_steps pm_steps cd_steps ct_steps : Value} {a_first_letters : Addr} {od_first_letters an_first_letters : Option Addr} {sl_first_letters : Array (Option Value)} {oc_first_letters kV_first_letters dc_first_letters pm_first_letters cd_first_letters ct_first_letters : Value} {a_nearer : Addr} {od_nearer an_nearer : Option Addr} {sl_nearer : Array (Option Value)} {oc_nearer kV_nearer dc_nearer pm_nearer cd_nearer ct_nearer : Value} {a_is_summit : Addr} {od_is_summit an_is_summit : Option Addr} {sl_is_summit : Array (Option Value)} {oc_is_summit kV_is_summit dc_is_summit pm_is_summit cd_is_summit ct_is_summit : Value} {a__law_local_right : Addr} {od__law_local_right an__law_local_right : Option Addr} {sl__law_local_right : Array (Option Value)} {oc__law_local_right kV__law_local_right dc__law_local_right pm__law_local_right cd__law_local_right ct__law_local_right : Value} {a__law_pen : Addr} {od__law_pen an__law_pen : Option Addr} {sl__law_pen : Array (Option Value)} {oc__law_pen kV__law_pen dc__law_pen pm__law_pen cd__law_pen ct__law_pen : Value} {a_merged : Addr} {od_merged an_merged : Option Addr} {sl_merged : Array (Option Value)} {oc_merged kV_merged dc_merged pm_merged cd_merged ct_merged : Value} {a_is_list : Addr} {od_is_list an_is_list : Option Addr} {sl_is_list : Array (Option Value)} {oc_is_list kV_is_list dc_is_list pm_is_list cd_is_list ct_is_list : Value} {a_is_whole : Addr} {od_is_whole an_is_whole : Option Addr} {sl_is_whole : Array (Option Value)} {oc_is_whole kV_is_whole dc_is_whole pm_is_whole cd_is_whole ct_is_whole : Value} {a_is_pair : Addr} {od_is_pair an_is_pair : Option Addr} {sl_is_pair : Array (Option Value)} {oc_is_pair kV_is_pair dc_is_pair pm_is_pair cd_is_pair ct_is_pair : Value} {a_pairs_told : Addr} {od_pairs_told an_pairs_told : Option Addr} {sl_pairs_told : Array (Option Value)} {oc_pairs_told kV_pairs_told dc_pairs_told pm_pairs_told cd_pairs_told ct_pairs_told : Value} {a_WalkX_initX : Addr} {od_WalkX_initX an_WalkX_initX : Option Addr} {sl_WalkX_initX : Array (Option Value)} {oc_WalkX_initX kV_WalkX_initX dc_WalkX_initX pm_WalkX_initX cd_WalkX_initX ct_WalkX_initX : Value} {a_Walk_length : Addr} {od_Walk_length an_Walk_length : Option Addr} {sl_Walk_length : Array (Option Value)} {oc_Walk_length kV_Walk_length dc_Walk_length pm_Walk_length cd_Walk_length ct_Walk_length : Value} {p_Walk_length : Addr} {pq_Walk_length : List Value} {a_Walk_need_step : Addr} {od_Walk_need_step an_Walk_need_step : Option Addr} {sl_Walk_need_step : Array (Option Value)} {oc_Walk_need_step kV_Walk_need_step dc_Walk_need_step pm_Walk_need_step cd_Walk_need_step ct_Walk_need_step : Value} {a_Walk_parted : Addr} {od_Walk_parted an_Walk_parted : Option Addr} {sl_Walk_parted : Array (Option Value)} {oc_Walk_parted kV_Walk_parted dc_Walk_parted pm_Walk_parted cd_Walk_parted ct_Walk_parted : Value} {a_Walk_head : Addr} {od_Walk_head an_Walk_head : Option Addr} {sl_Walk_head : Array (Option Value)} {oc_Walk_head kV_Walk_head dc_Walk_head pm_Walk_head cd_Walk_head ct_Walk_head : Value} {a_gone_on : Addr} {od_gone_on an_gone_on : Option Addr} {sl_gone_on : Array (Option Value)} {oc_gone_on kV_gone_on dc_gone_on pm_gone_on cd_gone_on ct_gone_on : Value} {a_Walk_spots : Addr} {od_Walk_spots an_Walk_spots : Option Addr} {sl_Walk_spots : Array (Option Value)} {oc_Walk_spots kV_Walk_spots dc_Walk_spots pm_Walk_spots cd_Walk_spots ct_Walk_spots : Value} {a_Walk_place : Addr} {od_Walk_place an_Walk_place : Option Addr} {sl_Walk_place : Array (Option Value)} {oc_Walk_place kV_Walk_place dc_Walk_place pm_Walk_place cd_Walk_place ct_Walk_place : Value} {a_Walk_at : Addr} {od_Walk_at an_Walk_at : Option Addr} {sl_Walk_at : Array (Option Value)} {oc_Walk_at kV_Walk_at dc_Walk_at pm_Walk_at cd_Walk_at ct_Walk_at : Value} {a_is_least_spot : Addr} {od_is_least_spot an_is_least_spot : Option Addr} {sl_is_least_spot : Array (Option Value)} {oc_is_least_spot kV_is_least_spot dc_is_least_spot pm_is_least_spot cd_is_least_spot ct_is_least_spot : Value} {a_first_long : Addr} {od_first_long an_first_long : Option Addr} {sl_first_long : Array (Option Value)} {oc_first_long kV_first_long dc_first_long pm_first_long cd_first_long ct_first_long : Value} {a_Walk_first_not_least : Addr} {od_Walk_first_not_least an_Walk_first_not_least : Option Addr} {sl_Walk_first_not_least : Array (Option Value)} {oc_Walk_first_not_least kV_Walk_first_not_least dc_Walk_first_not_least pm_Walk_first_not_least cd_Walk_first_not_least ct_Walk_first_not_least : Value} {a_Walk_is_least : Addr} {od_Walk_is_least an_Walk_is_least : Option Addr} {sl_Walk_is_least : Array (Option Value)} {oc_Walk_is_least kV_Walk_is_least dc_Walk_is_least pm_Walk_is_least cd_Walk_is_least ct_Walk_is_least : Value} {a__law_pick : Addr} {od__law_pick an__law_pick : Option Addr} {sl__law_pick : Array (Option Value)} {oc__law_pick kV__law_pick dc__law_pick pm__law_pick cd__law_pick ct__law_pick : Value} {a__law_walk_right : Addr} {od__law_walk_right an__law_walk_right : Option Addr} {sl__law_walk_right : Array (Option Value)} {oc__law_walk_right kV__law_walk_right dc__law_walk_right pm__law_walk_right cd__law_walk_right ct__law_walk_right : Value} {a_PlaceX_eqX : Addr} {od_PlaceX_eqX an_PlaceX_eqX : Option Addr} {sl_PlaceX_eqX : Array (Option Value)} {oc_PlaceX_eqX kV_PlaceX_eqX dc_PlaceX_eqX pm_PlaceX_eqX cd_PlaceX_eqX ct_PlaceX_eqX : Value} {a_PricesX_initX : Addr} {od_PricesX_initX an_PricesX_initX : Option Addr} {sl_PricesX_initX : Array (Option Value)} {oc_PricesX_initX kV_PricesX_initX dc_PricesX_initX pm_PricesX_initX cd_PricesX_initX ct_PricesX_initX : Value} {a_LotX_initX : Addr} {od_LotX_initX an_LotX_initX : Option Addr} {sl_LotX_initX : Array (Option Value)} {oc_LotX_initX kV_LotX_initX dc_LotX_initX pm_LotX_initX cd_LotX_initX ct_LotX_initX : Value} {a_bezout_of : Addr} {od_bezout_of an_bezout_of : Option Addr} {sl_bezout_of : Array (Option Value)} {oc_bezout_of kV_bezout_of dc_bezout_of pm_bezout_of cd_bezout_of ct_bezout_of : Value} {a_ceiling : Addr} {od_ceiling an_ceiling : Option Addr} {sl_ceiling : Array (Option Value)} {oc_ceiling kV_ceiling dc_ceiling pm_ceiling cd_ceiling ct_ceiling : Value} {a_lowest : Addr} {od_lowest an_lowest : Option Addr} {sl_lowest : Array (Option Value)} {oc_lowest kV_lowest dc_lowest pm_lowest cd_lowest ct_lowest : Value} {a_sides_of_price : Addr} {od_sides_of_price an_sides_of_price : Option Addr} {sl_sides_of_price : Array (Option Value)} {oc_sides_of_price kV_sides_of_price dc_sides_of_price pm_sides_of_price cd_sides_of_price ct_sides_of_price : Value} {a_best_frame : Addr} {od_best_frame an_best_frame : Option Addr} {sl_best_frame : Array (Option Value)} {oc_best_frame kV_best_frame dc_best_frame pm_best_frame cd_best_frame ct_best_frame : Value} {a_room_wanted : Addr} {od_room_wanted an_room_wanted : Option Addr} {sl_room_wanted : Array (Option Value)} {oc_room_wanted kV_room_wanted dc_room_wanted pm_room_wanted cd_room_wanted ct_room_wanted : Value} {a_Prices_frame : Addr} {od_Prices_frame an_Prices_frame : Option Addr} {sl_Prices_frame : Array (Option Value)} {oc_Prices_frame kV_Prices_frame dc_Prices_frame pm_Prices_frame cd_Prices_frame ct_Prices_frame : Value} {a_Prices_lot_of : Addr} {od_Prices_lot_of an_Prices_lot_of : Option Addr} {sl_Prices_lot_of : Array (Option Value)} {oc_Prices_lot_of kV_Prices_lot_of dc_Prices_lot_of pm_Prices_lot_of cd_Prices_lot_of ct_Prices_lot_of : Value} {a_Prices_least_price : Addr} {od_Prices_least_price an_Prices_least_price : Option Addr} {sl_Prices_least_price : Array (Option Value)} {oc_Prices_least_price kV_Prices_least_price dc_Prices_least_price pm_Prices_least_price cd_Prices_least_price ct_Prices_least_price : Value} {a_best_sides : Addr} {od_best_sides an_best_sides : Option Addr} {sl_best_sides : Array (Option Value)} {oc_best_sides kV_best_sides dc_best_sides pm_best_sides cd_best_sides ct_best_sides : Value} {a_areas_of : Addr} {od_areas_of an_areas_of : Option Addr} {sl_areas_of : Array (Option Value)} {oc_areas_of kV_areas_of dc_areas_of pm_areas_of cd_areas_of ct_areas_of : Value} {a_areas : Addr} {od_areas an_areas : Option Addr} {sl_areas : Array (Option Value)} {oc_areas kV_areas dc_areas pm_areas cd_areas ct_areas : Value} {a_distance : Addr} {od_distance an_distance : Option Addr} {sl_distance : Array (Option Value)} {oc_distance kV_distance dc_distance pm_distance cd_distance ct_distance : Value} {a_home_place : Addr} {od_home_place an_home_place : Option Addr} {sl_home_place : Array (Option Value)} {oc_home_place kV_home_place dc_home_place pm_home_place cd_home_place ct_home_place : Value} {a_walk_pairs : Addr} {od_walk_pairs an_walk_pairs : Option Addr} {sl_walk_pairs : Array (Option Value)} {oc_walk_pairs kV_walk_pairs dc_walk_pairs pm_walk_pairs cd_walk_pairs ct_walk_pairs : Value} {a_pairs_to : Addr} {od_pairs_to an_pairs_to : Option Addr} {sl_pairs_to : Array (Option Value)} {oc_pairs_to kV_pairs_to dc_pairs_to pm_pairs_to cd_pairs_to ct_pairs_to : Value} {a_walk_of : Addr} {od_walk_of an_walk_of : Option Addr} {sl_walk_of : Array (Option Value)} {oc_walk_of kV_walk_of dc_walk_of pm_walk_of cd_walk_of ct_walk_of : Value} {a_least_walk : Addr} {od_least_walk an_least_walk : Option Addr} {sl_least_walk : Array (Option Value)} {oc_least_walk kV_least_walk dc_least_walk pm_least_walk cd_least_walk ct_least_walk : Value} {a_lies_between : Addr} {od_lies_between an_lies_between : Option Addr} {sl_lies_between : Array (Option Value)} {oc_lies_between kV_lies_between dc_lies_between pm_lies_between cd_lies_between ct_lies_between : Value} {a__law_walks_right : Addr} {od__law_walks_right an__law_walks_right : Option Addr} {sl__law_walks_right : Array (Option Value)} {oc__law_walks_right kV__law_walks_right dc__law_walks_right pm__law_walks_right cd__law_walks_right ct__law_walks_right : Value} {a_law : Addr} {od_law an_law : Option Addr} {sl_law : Array (Option Value)} {oc_law kV_law dc_law pm_law cd_law ct_law : Value} {kv_FOUR : Value} {kv_LETTERS : Value} {kv_MOST_LETTERS : Value} {kv_MOST_PRICE : Value} {kv_MOST_RUNS : Value} (X : K.In h) (G0 : h.Ns mainGlobals mg) (hfa : mg "law" = some (.ref fa)) (TT : TabsT q K h)
    (aC_Place : PySem.W.nsIn K mainGlobals "Place" = some (some (.ref C_Place)))
    (cB_Place : clsB K C_Place ["x", "y", "area"] = true)
    (aC_Walk : PySem.W.nsIn K mainGlobals "Walk" = some (some (.ref C_Walk)))
    (cB_Walk : clsB K C_Walk ["runs"] = true)
    (aC_Lot : PySem.W.nsIn K mainGlobals "Lot" = some (some (.ref C_Lot)))
    (cB_Lot : clsB K C_Lot ["east", "north", "west", "south"] = true)
    (aC_Prices : PySem.W.nsIn K mainGlobals "Prices" = some (some (.ref C_Prices)))
    (cB_Prices : clsB K C_Prices ["east", "north", "west", "south"] = true)
    (cc_Place_Walk : PySem.W.kitOne K (.ref C_Place) (.ref C_Walk) = some false)
    (cc_Place_Lot : PySem.W.kitOne K (.ref C_Place) (.ref C_Lot) = some false)
    (cc_Place_Prices : PySem.W.kitOne K (.ref C_Place) (.ref C_Prices) = some false)
    (cc_Walk_Place : PySem.W.kitOne K (.ref C_Walk) (.ref C_Place) = some false)
    (cc_Walk_Lot : PySem.W.kitOne K (.ref C_Walk) (.ref C_Lot) = some false)
    (cc_Walk_Prices : PySem.W.kitOne K (.ref C_Walk) (.ref C_Prices) = some false)
    (cc_Lot_Place : PySem.W.kitOne K (.ref C_Lot) (.ref C_Place) = some false)
    (cc_Lot_Walk : PySem.W.kitOne K (.ref C_Lot) (.ref C_Walk) = some false)
    (cc_Lot_Prices : PySem.W.kitOne K (.ref C_Lot) (.ref C_Prices) = some false)
    (cc_Prices_Place : PySem.W.kitOne K (.ref C_Prices) (.ref C_Place) = some false)
    (cc_Prices_Walk : PySem.W.kitOne K (.ref C_Prices) (.ref C_Walk) = some false)
    (cc_Prices_Lot : PySem.W.kitOne K (.ref C_Prices) (.ref C_Lot) = some false)
    (aC_BadNumber : PySem.W.nsIn K mainGlobals "BadNumber" = some (some (.ref C_BadNumber)))
    (xl_BadNumber : K.lookup C_BadNumber = some (excClassObj xnm_BadNumber xq_BadNumber C_BadNumber NS_BadNumber xbs_BadNumber xbm_BadNumber true xsn_BadNumber xsub_BadNumber xab_BadNumber xcol_BadNumber xdd_BadNumber xk0_BadNumber xk1_BadNumber xk2_BadNumber xk3_BadNumber xk5_BadNumber "ValueError.__new__"))
    (xr_BadNumber : PySem.HandSPX.refsVE xbm_BadNumber = true)
    (xi_BadNumber : PySem.W.findIn K (.ref C_BadNumber) "__init__" = some (some (.ref fI_BadNumber)))
    (xf_BadNumber : K.lookup fI_BadNumber = some ⟨xoc_BadNumber, xod_BadNumber, .func (PySem.W.fnX "__init__" "BadNumber.__init__" (defArgs xst_BadNumber) (defBody xst_BadNumber) (defScope xst_BadNumber) [("__class__", cc_BadNumber)] .none xkV_BadNumber xdoc_BadNumber xpm_BadNumber xan_BadNumber (.ref cda_BadNumber) xct_BadNumber), xosl_BadNumber⟩)
    (xc_BadNumber : PySem.W.codeIn K (.ref cda_BadNumber) "BadNumber.__init__" = true)
    (xd_BadNumber : K.lookup cda_BadNumber = some ⟨xccl_BadNumber, xcdd_BadNumber, .fields xvs_BadNumber, xccs_BadNumber⟩)
    (xv_BadNumber : xvs_BadNumber[2]? = some (.str xfile_BadNumber xtf_BadNumber))
    (xe_BadNumber : ((l.prog.main.file : Str) == xfile_BadNumber) = true)
    (xk_BadNumber : K.lookup cc_BadNumber = some ⟨xcl_BadNumber, xcld_BadNumber, .cell (some (.ref C_BadNumber)), xcsl_BadNumber⟩)
    (xB_BadNumber : xcB K C_BadNumber fI_BadNumber "value" = true)
    (aC_BadPlace : PySem.W.nsIn K mainGlobals "BadPlace" = some (some (.ref C_BadPlace)))
    (xl_BadPlace : K.lookup C_BadPlace = some (excClassObj xnm_BadPlace xq_BadPlace C_BadPlace NS_BadPlace xbs_BadPlace xbm_BadPlace true xsn_BadPlace xsub_BadPlace xab_BadPlace xcol_BadPlace xdd_BadPlace xk0_BadPlace xk1_BadPlace xk2_BadPlace xk3_BadPlace xk5_BadPlace "ValueError.__new__"))
    (xr_BadPlace : PySem.HandSPX.refsVE xbm_BadPlace = true)
    (xi_BadPlace : PySem.W.findIn K (.ref C_BadPlace) "__init__" = some (some (.ref fI_BadPlace)))
    (xf_BadPlace : K.lookup fI_BadPlace = some ⟨xoc_BadPlace, xod_BadPlace, .func (PySem.W.fnX "__init__" "BadPlace.__init__" (defArgs xst_BadPlace) (defBody xst_BadPlace) (defScope xst_BadPlace) [("__class__", cc_BadPlace)] .none xkV_BadPlace xdoc_BadPlace xpm_BadPlace xan_BadPlace (.ref cda_BadPlace) xct_BadPlace), xosl_BadPlace⟩)
    (xc_BadPlace : PySem.W.codeIn K (.ref cda_BadPlace) "BadPlace.__init__" = true)
    (xd_BadPlace : K.lookup cda_BadPlace = some ⟨xccl_BadPlace, xcdd_BadPlace, .fields xvs_BadPlace, xccs_BadPlace⟩)
    (xv_BadPlace : xvs_BadPlace[2]? = some (.str xfile_BadPlace xtf_BadPlace))
    (xe_BadPlace : ((l.prog.main.file : Str) == xfile_BadPlace) = true)
    (xk_BadPlace : K.lookup cc_BadPlace = some ⟨xcl_BadPlace, xcld_BadPlace, .cell (some (.ref C_BadPlace)), xcsl_BadPlace⟩)
    (xB_BadPlace : xcB K C_BadPlace fI_BadPlace "value" = true)
    (aC_BadWord : PySem.W.nsIn K mainGlobals "BadWord" = some (some (.ref C_BadWord)))
    (xl_BadWord : K.lookup C_BadWord = some (excClassObj xnm_BadWord xq_BadWord C_BadWord NS_BadWord xbs_BadWord xbm_BadWord true xsn_BadWord xsub_BadWord xab_BadWord xcol_BadWord xdd_BadWord xk0_BadWord xk1_BadWord xk2_BadWord xk3_BadWord xk5_BadWord "ValueError.__new__"))
    (xr_BadWord : PySem.HandSPX.refsVE xbm_BadWord = true)
    (xi_BadWord : PySem.W.findIn K (.ref C_BadWord) "__init__" = some (some (.ref fI_BadWord)))
    (xf_BadWord : K.lookup fI_BadWord = some ⟨xoc_BadWord, xod_BadWord, .func (PySem.W.fnX "__init__" "BadWord.__init__" (defArgs xst_BadWord) (defBody xst_BadWord) (defScope xst_BadWord) [("__class__", cc_BadWord)] .none xkV_BadWord xdoc_BadWord xpm_BadWord xan_BadWord (.ref cda_BadWord) xct_BadWord), xosl_BadWord⟩)
    (xc_BadWord : PySem.W.codeIn K (.ref cda_BadWord) "BadWord.__init__" = true)
    (xd_BadWord : K.lookup cda_BadWord = some ⟨xccl_BadWord, xcdd_BadWord, .fields xvs_BadWord, xccs_BadWord⟩)
    (xv_BadWord : xvs_BadWord[2]? = some (.str xfile_BadWord xtf_BadWord))
    (xe_BadWord : ((l.prog.main.file : Str) == xfile_BadWord) = true)
    (xk_BadWord : K.lookup cc_BadWord = some ⟨xcl_BadWord, xcld_BadWord, .cell (some (.ref C_BadWord)), xcsl_BadWord⟩)
    (xB_BadWord : xcB K C_BadWord fI_BadWord "value" = true)
    (xtop : (l.prog.main.scope.names.lookup ("super" : Str)).isSome = false)
    (xsup : PySem.W.nsIn K mainGlobals "super" = some none)
    (a1_is_integer : PySem.W.nsIn K mainGlobals "is_integer" = some (some (.ref a_is_integer)))
    (l1_is_integer : K.lookup a_is_integer = some ⟨oc_is_integer, od_is_integer, .func (PySem.W.fnOf "is_integer" "is_integer" (defArgs st_is_integer) (defBody st_is_integer) (defScope st_is_integer) .none kV_is_integer dc_is_integer pm_is_integer an_is_integer cd_is_integer ct_is_integer), sl_is_integer⟩)
    (c1_is_integer : PySem.W.codeIn K cd_is_integer "is_integer" = true)
    (k1_is_integer : PySem.W.keepIn K (.ref a_is_integer) = true)
    (a1_PlaceX_initX : PySem.W.findIn K (.ref C_Place) "__init__" = some (some (.ref a_PlaceX_initX)))
    (i1_PlaceX_initX : PySem.W.isFn K (.ref a_PlaceX_initX) = true)
    (l1_PlaceX_initX : K.lookup a_PlaceX_initX = some ⟨oc_PlaceX_initX, od_PlaceX_initX, .func (PySem.W.fnOf "__init__" "Place.__init__" (defArgs st_PlaceX_initX) (defBody st_PlaceX_initX) (defScope st_PlaceX_initX) .none kV_PlaceX_initX dc_PlaceX_initX pm_PlaceX_initX an_PlaceX_initX cd_PlaceX_initX ct_PlaceX_initX), sl_PlaceX_initX⟩)
    (c1_PlaceX_initX : PySem.W.codeIn K cd_PlaceX_initX "Place.__init__" = true)
    (k1_PlaceX_initX : PySem.W.keepIn K (.ref a_PlaceX_initX) = true)
    (a1_PlaceX_invertX : PySem.W.findIn K (.ref C_Place) "__invert__" = some (some (.ref a_PlaceX_invertX)))
    (i1_PlaceX_invertX : PySem.W.isFn K (.ref a_PlaceX_invertX) = true)
    (l1_PlaceX_invertX : K.lookup a_PlaceX_invertX = some ⟨oc_PlaceX_invertX, od_PlaceX_invertX, .func (PySem.W.fnOf "__invert__" "Place.__invert__" (defArgs st_PlaceX_invertX) (defBody st_PlaceX_invertX) (defScope st_PlaceX_invertX) .none kV_PlaceX_invertX dc_PlaceX_invertX pm_PlaceX_invertX an_PlaceX_invertX cd_PlaceX_invertX ct_PlaceX_invertX), sl_PlaceX_invertX⟩)
    (c1_PlaceX_invertX : PySem.W.codeIn K cd_PlaceX_invertX "Place.__invert__" = true)
    (k1_PlaceX_invertX : PySem.W.keepIn K (.ref a_PlaceX_invertX) = true)
    (a1_PlaceX_mulX : PySem.W.findIn K (.ref C_Place) "__mul__" = some (some (.ref a_PlaceX_mulX)))
    (i1_PlaceX_mulX : PySem.W.isFn K (.ref a_PlaceX_mulX) = true)
    (l1_PlaceX_mulX : K.lookup a_PlaceX_mulX = some ⟨oc_PlaceX_mulX, od_PlaceX_mulX, .func (PySem.W.fnOf "__mul__" "Place.__mul__" (defArgs st_PlaceX_mulX) (defBody st_PlaceX_mulX) (defScope st_PlaceX_mulX) .none kV_PlaceX_mulX dc_PlaceX_mulX pm_PlaceX_mulX an_PlaceX_mulX cd_PlaceX_mulX ct_PlaceX_mulX), sl_PlaceX_mulX⟩)
    (c1_PlaceX_mulX : PySem.W.codeIn K cd_PlaceX_mulX "Place.__mul__" = true)
    (k1_PlaceX_mulX : PySem.W.keepIn K (.ref a_PlaceX_mulX) = true)
    (a1__law_draw : PySem.W.nsIn K mainGlobals "_law_draw" = some (some (.ref a__law_draw)))
    (l1__law_draw : K.lookup a__law_draw = some ⟨oc__law_draw, od__law_draw, .func (PySem.W.fnOf "_law_draw" "_law_draw" (defArgs st__law_draw) (defBody st__law_draw) (defScope st__law_draw) .none kV__law_draw dc__law_draw pm__law_draw an__law_draw cd__law_draw ct__law_draw), sl__law_draw⟩)
    (c1__law_draw : PySem.W.codeIn K cd__law_draw "_law_draw" = true)
    (k1__law_draw : PySem.W.keepIn K (.ref a__law_draw) = true)
    (a1__law_big : PySem.W.nsIn K mainGlobals "_law_big" = some (some (.ref a__law_big)))
    (l1__law_big : K.lookup a__law_big = some ⟨oc__law_big, od__law_big, .func (PySem.W.fnOf "_law_big" "_law_big" (defArgs st__law_big) (defBody st__law_big) (defScope st__law_big) .none kV__law_big dc__law_big pm__law_big an__law_big cd__law_big ct__law_big), sl__law_big⟩)
    (c1__law_big : PySem.W.codeIn K cd__law_big "_law_big" = true)
    (k1__law_big : PySem.W.keepIn K (.ref a__law_big) = true)
    (a1__law_whole : PySem.W.nsIn K mainGlobals "_law_whole" = some (some (.ref a__law_whole)))
    (l1__law_whole : K.lookup a__law_whole = some ⟨oc__law_whole, od__law_whole, .func (PySem.W.fnOf "_law_whole" "_law_whole" (defArgs st__law_whole) (defBody st__law_whole) (defScope st__law_whole) .none kV__law_whole dc__law_whole pm__law_whole an__law_whole cd__law_whole ct__law_whole), sl__law_whole⟩)
    (c1__law_whole : PySem.W.codeIn K cd__law_whole "_law_whole" = true)
    (k1__law_whole : PySem.W.keepIn K (.ref a__law_whole) = true)
    (a1__law_place : PySem.W.nsIn K mainGlobals "_law_place" = some (some (.ref a__law_place)))
    (l1__law_place : K.lookup a__law_place = some ⟨oc__law_place, od__law_place, .func (PySem.W.fnOf "_law_place" "_law_place" (defArgs st__law_place) (defBody st__law_place) (defScope st__law_place) .none kV__law_place dc__law_place pm__law_place an__law_place cd__law_place ct__law_place), sl__law_place⟩)
    (c1__law_place : PySem.W.codeIn K cd__law_place "_law_place" = true)
    (k1__law_place : PySem.W.keepIn K (.ref a__law_place) = true)
    (a1__law_drawn : PySem.W.nsIn K mainGlobals "_law_drawn" = some (some (.ref a__law_drawn)))
    (l1__law_drawn : K.lookup a__law_drawn = some ⟨oc__law_drawn, od__law_drawn, .func (PySem.W.fnOf "_law_drawn" "_law_drawn" (defArgs st__law_drawn) (defBody st__law_drawn) (defScope st__law_drawn) .none kV__law_drawn dc__law_drawn pm__law_drawn an__law_drawn cd__law_drawn ct__law_drawn), sl__law_drawn⟩)
    (c1__law_drawn : PySem.W.codeIn K cd__law_drawn "_law_drawn" = true)
    (k1__law_drawn : PySem.W.keepIn K (.ref a__law_drawn) = true)
    (a1__law_step : PySem.W.nsIn K mainGlobals "_law_step" = some (some (.ref a__law_step)))
    (l1__law_step : K.lookup a__law_step = some ⟨oc__law_step, od__law_step, .func (PySem.W.fnOf "_law_step" "_law_step" (defArgs st__law_step) (defBody st__law_step) (defScope st__law_step) .none kV__law_step dc__law_step pm__law_step an__law_step cd__law_step ct__law_step), sl__law_step⟩)
    (c1__law_step : PySem.W.codeIn K cd__law_step "_law_step" = true)
    (k1__law_step : PySem.W.keepIn K (.ref a__law_step) = true)
    (a1_need_place : PySem.W.nsIn K mainGlobals "need_place" = some (some (.ref a_need_place)))
    (l1_need_place : K.lookup a_need_place = some ⟨oc_need_place, od_need_place, .func (PySem.W.fnOf "need_place" "need_place" (defArgs st_need_place) (defBody st_need_place) (defScope st_need_place) .none kV_need_place dc_need_place pm_need_place an_need_place cd_need_place ct_need_place), sl_need_place⟩)
    (c1_need_place : PySem.W.codeIn K cd_need_place "need_place" = true)
    (k1_need_place : PySem.W.keepIn K (.ref a_need_place) = true)
    (a1_whole_root : PySem.W.nsIn K mainGlobals "whole_root" = some (some (.ref a_whole_root)))
    (l1_whole_root : K.lookup a_whole_root = some ⟨oc_whole_root, od_whole_root, .func (PySem.W.fnOf "whole_root" "whole_root" (defArgs st_whole_root) (defBody st_whole_root) (defScope st_whole_root) .none kV_whole_root dc_whole_root pm_whole_root an_whole_root cd_whole_root ct_whole_root), sl_whole_root⟩)
    (c1_whole_root : PySem.W.codeIn K cd_whole_root "whole_root" = true)
    (k1_whole_root : PySem.W.keepIn K (.ref a_whole_root) = true)
    (a1_steps_of : PySem.W.nsIn K mainGlobals "steps_of" = some (some (.ref a_steps_of)))
    (l1_steps_of : K.lookup a_steps_of = some ⟨oc_steps_of, od_steps_of, .func (PySem.W.fnOf "steps_of" "steps_of" (defArgs st_steps_of) (defBody st_steps_of) (defScope st_steps_of) .none kV_steps_of dc_steps_of pm_steps_of an_steps_of cd_steps_of ct_steps_of), sl_steps_of⟩)
    (c1_steps_of : PySem.W.codeIn K cd_steps_of "steps_of" = true)
    (k1_steps_of : PySem.W.keepIn K (.ref a_steps_of) = true)
    (a1_steps : PySem.W.nsIn K mainGlobals "steps" = some (some (.ref a_steps)))
    (l1_steps : K.lookup a_steps = some ⟨oc_steps, od_steps, .func (PySem.W.fnOf "steps" "steps" (defArgs st_steps) (defBody st_steps) (defScope st_steps) .none kV_steps dc_steps pm_steps an_steps cd_steps ct_steps), sl_steps⟩)
    (c1_steps : PySem.W.codeIn K cd_steps "steps" = true)
    (k1_steps : PySem.W.keepIn K (.ref a_steps) = true)
    (a1_first_letters : PySem.W.nsIn K mainGlobals "first_letters" = some (some (.ref a_first_letters)))
    (l1_first_letters : K.lookup a_first_letters = some ⟨oc_first_letters, od_first_letters, .func (PySem.W.fnOf "first_letters" "first_letters" (defArgs st_first_letters) (defBody st_first_letters) (defScope st_first_letters) .none kV_first_letters dc_first_letters pm_first_letters an_first_letters cd_first_letters ct_first_letters), sl_first_letters⟩)
    (c1_first_letters : PySem.W.codeIn K cd_first_letters "first_letters" = true)
    (k1_first_letters : PySem.W.keepIn K (.ref a_first_letters) = true)
    (a1_nearer : PySem.W.nsIn K mainGlobals "nearer" = some (some (.ref a_nearer)))
    (l1_nearer : K.lookup a_nearer = some ⟨oc_nearer, od_nearer, .func (PySem.W.fnOf "nearer" "nearer" (defArgs st_nearer) (defBody st_nearer) (defScope st_nearer) .none kV_nearer dc_nearer pm_nearer an_nearer cd_nearer ct_nearer), sl_nearer⟩)
    (c1_nearer : PySem.W.codeIn K cd_nearer "nearer" = true)
    (k1_nearer : PySem.W.keepIn K (.ref a_nearer) = true)
    (a1_is_summit : PySem.W.nsIn K mainGlobals "is_summit" = some (some (.ref a_is_summit)))
    (l1_is_summit : K.lookup a_is_summit = some ⟨oc_is_summit, od_is_summit, .func (PySem.W.fnOf "is_summit" "is_summit" (defArgs st_is_summit) (defBody st_is_summit) (defScope st_is_summit) .none kV_is_summit dc_is_summit pm_is_summit an_is_summit cd_is_summit ct_is_summit), sl_is_summit⟩)
    (c1_is_summit : PySem.W.codeIn K cd_is_summit "is_summit" = true)
    (k1_is_summit : PySem.W.keepIn K (.ref a_is_summit) = true)
    (a1__law_local_right : PySem.W.nsIn K mainGlobals "_law_local_right" = some (some (.ref a__law_local_right)))
    (l1__law_local_right : K.lookup a__law_local_right = some ⟨oc__law_local_right, od__law_local_right, .func (PySem.W.fnOf "_law_local_right" "_law_local_right" (defArgs st__law_local_right) (defBody st__law_local_right) (defScope st__law_local_right) .none kV__law_local_right dc__law_local_right pm__law_local_right an__law_local_right cd__law_local_right ct__law_local_right), sl__law_local_right⟩)
    (c1__law_local_right : PySem.W.codeIn K cd__law_local_right "_law_local_right" = true)
    (k1__law_local_right : PySem.W.keepIn K (.ref a__law_local_right) = true)
    (a1__law_pen : PySem.W.nsIn K mainGlobals "_law_pen" = some (some (.ref a__law_pen)))
    (l1__law_pen : K.lookup a__law_pen = some ⟨oc__law_pen, od__law_pen, .func (PySem.W.fnOf "_law_pen" "_law_pen" (defArgs st__law_pen) (defBody st__law_pen) (defScope st__law_pen) .none kV__law_pen dc__law_pen pm__law_pen an__law_pen cd__law_pen ct__law_pen), sl__law_pen⟩)
    (c1__law_pen : PySem.W.codeIn K cd__law_pen "_law_pen" = true)
    (k1__law_pen : PySem.W.keepIn K (.ref a__law_pen) = true)
    (a1_merged : PySem.W.nsIn K mainGlobals "merged" = some (some (.ref a_merged)))
    (l1_merged : K.lookup a_merged = some ⟨oc_merged, od_merged, .func (PySem.W.fnOf "merged" "merged" (defArgs st_merged) (defBody st_merged) (defScope st_merged) .none kV_merged dc_merged pm_merged an_merged cd_merged ct_merged), sl_merged⟩)
    (c1_merged : PySem.W.codeIn K cd_merged "merged" = true)
    (k1_merged : PySem.W.keepIn K (.ref a_merged) = true)
    (a1_is_list : PySem.W.nsIn K mainGlobals "is_list" = some (some (.ref a_is_list)))
    (l1_is_list : K.lookup a_is_list = some ⟨oc_is_list, od_is_list, .func (PySem.W.fnOf "is_list" "is_list" (defArgs st_is_list) (defBody st_is_list) (defScope st_is_list) .none kV_is_list dc_is_list pm_is_list an_is_list cd_is_list ct_is_list), sl_is_list⟩)
    (c1_is_list : PySem.W.codeIn K cd_is_list "is_list" = true)
    (k1_is_list : PySem.W.keepIn K (.ref a_is_list) = true)
    (a1_is_whole : PySem.W.nsIn K mainGlobals "is_whole" = some (some (.ref a_is_whole)))
    (l1_is_whole : K.lookup a_is_whole = some ⟨oc_is_whole, od_is_whole, .func (PySem.W.fnOf "is_whole" "is_whole" (defArgs st_is_whole) (defBody st_is_whole) (defScope st_is_whole) .none kV_is_whole dc_is_whole pm_is_whole an_is_whole cd_is_whole ct_is_whole), sl_is_whole⟩)
    (c1_is_whole : PySem.W.codeIn K cd_is_whole "is_whole" = true)
    (k1_is_whole : PySem.W.keepIn K (.ref a_is_whole) = true)
    (a1_is_pair : PySem.W.nsIn K mainGlobals "is_pair" = some (some (.ref a_is_pair)))
    (l1_is_pair : K.lookup a_is_pair = some ⟨oc_is_pair, od_is_pair, .func (PySem.W.fnOf "is_pair" "is_pair" (defArgs st_is_pair) (defBody st_is_pair) (defScope st_is_pair) .none kV_is_pair dc_is_pair pm_is_pair an_is_pair cd_is_pair ct_is_pair), sl_is_pair⟩)
    (c1_is_pair : PySem.W.codeIn K cd_is_pair "is_pair" = true)
    (k1_is_pair : PySem.W.keepIn K (.ref a_is_pair) = true)
    (a1_pairs_told : PySem.W.nsIn K mainGlobals "pairs_told" = some (some (.ref a_pairs_told)))
    (l1_pairs_told : K.lookup a_pairs_told = some ⟨oc_pairs_told, od_pairs_told, .func (PySem.W.fnOf "pairs_told" "pairs_told" (defArgs st_pairs_told) (defBody st_pairs_told) (defScope st_pairs_told) .none kV_pairs_told dc_pairs_told pm_pairs_told an_pairs_told cd_pairs_told ct_pairs_told), sl_pairs_told⟩)
    (c1_pairs_told : PySem.W.codeIn K cd_pairs_told "pairs_told" = true)
    (k1_pairs_told : PySem.W.keepIn K (.ref a_pairs_told) = true)
    (a1_WalkX_initX : PySem.W.findIn K (.ref C_Walk) "__init__" = some (some (.ref a_WalkX_initX)))
    (i1_WalkX_initX : PySem.W.isFn K (.ref a_WalkX_initX) = true)
    (l1_WalkX_initX : K.lookup a_WalkX_initX = some ⟨oc_WalkX_initX, od_WalkX_initX, .func (PySem.W.fnOf "__init__" "Walk.__init__" (defArgs st_WalkX_initX) (defBody st_WalkX_initX) (defScope st_WalkX_initX) .none kV_WalkX_initX dc_WalkX_initX pm_WalkX_initX an_WalkX_initX cd_WalkX_initX ct_WalkX_initX), sl_WalkX_initX⟩)
    (c1_WalkX_initX : PySem.W.codeIn K cd_WalkX_initX "Walk.__init__" = true)
    (k1_WalkX_initX : PySem.W.keepIn K (.ref a_WalkX_initX) = true)
    (pa_Walk_length : PySem.W.findIn K (.ref C_Walk) "length" = some (some (.ref p_Walk_length)))
    (pg_Walk_length : PySem.W.specialIn K (.ref p_Walk_length) "__get__" = some (some (.builtin "property.__get__")))
    (pt_Walk_length : PySem.W.takesIn K (.ref p_Walk_length) = some true)
    (pr_Walk_length : PySem.W.recIn K p_Walk_length "property" = some (.ref a_Walk_length :: pq_Walk_length))
    (l1_Walk_length : K.lookup a_Walk_length = some ⟨oc_Walk_length, od_Walk_length, .func (PySem.W.fnOf "length" "Walk.length" (defArgs st_Walk_length) (defBody st_Walk_length) (defScope st_Walk_length) .none kV_Walk_length dc_Walk_length pm_Walk_length an_Walk_length cd_Walk_length ct_Walk_length), sl_Walk_length⟩)
    (c1_Walk_length : PySem.W.codeIn K cd_Walk_length "Walk.length" = true)
    (k1_Walk_length : PySem.W.keepIn K (.ref a_Walk_length) = true)
    (a1_Walk_need_step : PySem.W.findIn K (.ref C_Walk) "need_step" = some (some (.ref a_Walk_need_step)))
    (i1_Walk_need_step : PySem.W.isFn K (.ref a_Walk_need_step) = true)
    (l1_Walk_need_step : K.lookup a_Walk_need_step = some ⟨oc_Walk_need_step, od_Walk_need_step, .func (PySem.W.fnOf "need_step" "Walk.need_step" (defArgs st_Walk_need_step) (defBody st_Walk_need_step) (defScope st_Walk_need_step) .none kV_Walk_need_step dc_Walk_need_step pm_Walk_need_step an_Walk_need_step cd_Walk_need_step ct_Walk_need_step), sl_Walk_need_step⟩)
    (c1_Walk_need_step : PySem.W.codeIn K cd_Walk_need_step "Walk.need_step" = true)
    (k1_Walk_need_step : PySem.W.keepIn K (.ref a_Walk_need_step) = true)
    (a1_Walk_parted : PySem.W.findIn K (.ref C_Walk) "parted" = some (some (.ref a_Walk_parted)))
    (i1_Walk_parted : PySem.W.isFn K (.ref a_Walk_parted) = true)
    (l1_Walk_parted : K.lookup a_Walk_parted = some ⟨oc_Walk_parted, od_Walk_parted, .func (PySem.W.fnOf "parted" "Walk.parted" (defArgs st_Walk_parted) (defBody st_Walk_parted) (defScope st_Walk_parted) .none kV_Walk_parted dc_Walk_parted pm_Walk_parted an_Walk_parted cd_Walk_parted ct_Walk_parted), sl_Walk_parted⟩)
    (c1_Walk_parted : PySem.W.codeIn K cd_Walk_parted "Walk.parted" = true)
    (k1_Walk_parted : PySem.W.keepIn K (.ref a_Walk_parted) = true)
    (a1_Walk_head : PySem.W.findIn K (.ref C_Walk) "head" = some (some (.ref a_Walk_head)))
    (i1_Walk_head : PySem.W.isFn K (.ref a_Walk_head) = true)
    (l1_Walk_head : K.lookup a_Walk_head = some ⟨oc_Walk_head, od_Walk_head, .func (PySem.W.fnOf "head" "Walk.head" (defArgs st_Walk_head) (defBody st_Walk_head) (defScope st_Walk_head) .none kV_Walk_head dc_Walk_head pm_Walk_head an_Walk_head cd_Walk_head ct_Walk_head), sl_Walk_head⟩)
    (c1_Walk_head : PySem.W.codeIn K cd_Walk_head "Walk.head" = true)
    (k1_Walk_head : PySem.W.keepIn K (.ref a_Walk_head) = true)
    (a1_gone_on : PySem.W.nsIn K mainGlobals "gone_on" = some (some (.ref a_gone_on)))
    (l1_gone_on : K.lookup a_gone_on = some ⟨oc_gone_on, od_gone_on, .func (PySem.W.fnOf "gone_on" "gone_on" (defArgs st_gone_on) (defBody st_gone_on) (defScope st_gone_on) .none kV_gone_on dc_gone_on pm_gone_on an_gone_on cd_gone_on ct_gone_on), sl_gone_on⟩)
    (c1_gone_on : PySem.W.codeIn K cd_gone_on "gone_on" = true)
    (k1_gone_on : PySem.W.keepIn K (.ref a_gone_on) = true)
    (a1_Walk_spots : PySem.W.findIn K (.ref C_Walk) "spots" = some (some (.ref a_Walk_spots)))
    (i1_Walk_spots : PySem.W.isFn K (.ref a_Walk_spots) = true)
    (l1_Walk_spots : K.lookup a_Walk_spots = some ⟨oc_Walk_spots, od_Walk_spots, .func (PySem.W.fnOf "spots" "Walk.spots" (defArgs st_Walk_spots) (defBody st_Walk_spots) (defScope st_Walk_spots) .none kV_Walk_spots dc_Walk_spots pm_Walk_spots an_Walk_spots cd_Walk_spots ct_Walk_spots), sl_Walk_spots⟩)
    (c1_Walk_spots : PySem.W.codeIn K cd_Walk_spots "Walk.spots" = true)
    (k1_Walk_spots : PySem.W.keepIn K (.ref a_Walk_spots) = true)
    (a1_Walk_place : PySem.W.findIn K (.ref C_Walk) "place" = some (some (.ref a_Walk_place)))
    (i1_Walk_place : PySem.W.isFn K (.ref a_Walk_place) = true)
    (l1_Walk_place : K.lookup a_Walk_place = some ⟨oc_Walk_place, od_Walk_place, .func (PySem.W.fnOf "place" "Walk.place" (defArgs st_Walk_place) (defBody st_Walk_place) (defScope st_Walk_place) .none kV_Walk_place dc_Walk_place pm_Walk_place an_Walk_place cd_Walk_place ct_Walk_place), sl_Walk_place⟩)
    (c1_Walk_place : PySem.W.codeIn K cd_Walk_place "Walk.place" = true)
    (k1_Walk_place : PySem.W.keepIn K (.ref a_Walk_place) = true)
    (a1_Walk_at : PySem.W.findIn K (.ref C_Walk) "at" = some (some (.ref a_Walk_at)))
    (i1_Walk_at : PySem.W.isFn K (.ref a_Walk_at) = true)
    (l1_Walk_at : K.lookup a_Walk_at = some ⟨oc_Walk_at, od_Walk_at, .func (PySem.W.fnOf "at" "Walk.at" (defArgs st_Walk_at) (defBody st_Walk_at) (defScope st_Walk_at) .none kV_Walk_at dc_Walk_at pm_Walk_at an_Walk_at cd_Walk_at ct_Walk_at), sl_Walk_at⟩)
    (c1_Walk_at : PySem.W.codeIn K cd_Walk_at "Walk.at" = true)
    (k1_Walk_at : PySem.W.keepIn K (.ref a_Walk_at) = true)
    (a1_is_least_spot : PySem.W.nsIn K mainGlobals "is_least_spot" = some (some (.ref a_is_least_spot)))
    (l1_is_least_spot : K.lookup a_is_least_spot = some ⟨oc_is_least_spot, od_is_least_spot, .func (PySem.W.fnOf "is_least_spot" "is_least_spot" (defArgs st_is_least_spot) (defBody st_is_least_spot) (defScope st_is_least_spot) .none kV_is_least_spot dc_is_least_spot pm_is_least_spot an_is_least_spot cd_is_least_spot ct_is_least_spot), sl_is_least_spot⟩)
    (c1_is_least_spot : PySem.W.codeIn K cd_is_least_spot "is_least_spot" = true)
    (k1_is_least_spot : PySem.W.keepIn K (.ref a_is_least_spot) = true)
    (a1_first_long : PySem.W.nsIn K mainGlobals "first_long" = some (some (.ref a_first_long)))
    (l1_first_long : K.lookup a_first_long = some ⟨oc_first_long, od_first_long, .func (PySem.W.fnOf "first_long" "first_long" (defArgs st_first_long) (defBody st_first_long) (defScope st_first_long) .none kV_first_long dc_first_long pm_first_long an_first_long cd_first_long ct_first_long), sl_first_long⟩)
    (c1_first_long : PySem.W.codeIn K cd_first_long "first_long" = true)
    (k1_first_long : PySem.W.keepIn K (.ref a_first_long) = true)
    (a1_Walk_first_not_least : PySem.W.findIn K (.ref C_Walk) "first_not_least" = some (some (.ref a_Walk_first_not_least)))
    (i1_Walk_first_not_least : PySem.W.isFn K (.ref a_Walk_first_not_least) = true)
    (l1_Walk_first_not_least : K.lookup a_Walk_first_not_least = some ⟨oc_Walk_first_not_least, od_Walk_first_not_least, .func (PySem.W.fnOf "first_not_least" "Walk.first_not_least" (defArgs st_Walk_first_not_least) (defBody st_Walk_first_not_least) (defScope st_Walk_first_not_least) .none kV_Walk_first_not_least dc_Walk_first_not_least pm_Walk_first_not_least an_Walk_first_not_least cd_Walk_first_not_least ct_Walk_first_not_least), sl_Walk_first_not_least⟩)
    (c1_Walk_first_not_least : PySem.W.codeIn K cd_Walk_first_not_least "Walk.first_not_least" = true)
    (k1_Walk_first_not_least : PySem.W.keepIn K (.ref a_Walk_first_not_least) = true)
    (a1_Walk_is_least : PySem.W.findIn K (.ref C_Walk) "is_least" = some (some (.ref a_Walk_is_least)))
    (i1_Walk_is_least : PySem.W.isFn K (.ref a_Walk_is_least) = true)
    (l1_Walk_is_least : K.lookup a_Walk_is_least = some ⟨oc_Walk_is_least, od_Walk_is_least, .func (PySem.W.fnOf "is_least" "Walk.is_least" (defArgs st_Walk_is_least) (defBody st_Walk_is_least) (defScope st_Walk_is_least) .none kV_Walk_is_least dc_Walk_is_least pm_Walk_is_least an_Walk_is_least cd_Walk_is_least ct_Walk_is_least), sl_Walk_is_least⟩)
    (c1_Walk_is_least : PySem.W.codeIn K cd_Walk_is_least "Walk.is_least" = true)
    (k1_Walk_is_least : PySem.W.keepIn K (.ref a_Walk_is_least) = true)
    (a1__law_pick : PySem.W.nsIn K mainGlobals "_law_pick" = some (some (.ref a__law_pick)))
    (l1__law_pick : K.lookup a__law_pick = some ⟨oc__law_pick, od__law_pick, .func (PySem.W.fnOf "_law_pick" "_law_pick" (defArgs st__law_pick) (defBody st__law_pick) (defScope st__law_pick) .none kV__law_pick dc__law_pick pm__law_pick an__law_pick cd__law_pick ct__law_pick), sl__law_pick⟩)
    (c1__law_pick : PySem.W.codeIn K cd__law_pick "_law_pick" = true)
    (k1__law_pick : PySem.W.keepIn K (.ref a__law_pick) = true)
    (a1__law_walk_right : PySem.W.nsIn K mainGlobals "_law_walk_right" = some (some (.ref a__law_walk_right)))
    (l1__law_walk_right : K.lookup a__law_walk_right = some ⟨oc__law_walk_right, od__law_walk_right, .func (PySem.W.fnOf "_law_walk_right" "_law_walk_right" (defArgs st__law_walk_right) (defBody st__law_walk_right) (defScope st__law_walk_right) .none kV__law_walk_right dc__law_walk_right pm__law_walk_right an__law_walk_right cd__law_walk_right ct__law_walk_right), sl__law_walk_right⟩)
    (c1__law_walk_right : PySem.W.codeIn K cd__law_walk_right "_law_walk_right" = true)
    (k1__law_walk_right : PySem.W.keepIn K (.ref a__law_walk_right) = true)
    (a1_PlaceX_eqX : PySem.W.findIn K (.ref C_Place) "__eq__" = some (some (.ref a_PlaceX_eqX)))
    (i1_PlaceX_eqX : PySem.W.isFn K (.ref a_PlaceX_eqX) = true)
    (l1_PlaceX_eqX : K.lookup a_PlaceX_eqX = some ⟨oc_PlaceX_eqX, od_PlaceX_eqX, .func (PySem.W.fnOf "__eq__" "Place.__eq__" (defArgs st_PlaceX_eqX) (defBody st_PlaceX_eqX) (defScope st_PlaceX_eqX) .none kV_PlaceX_eqX dc_PlaceX_eqX pm_PlaceX_eqX an_PlaceX_eqX cd_PlaceX_eqX ct_PlaceX_eqX), sl_PlaceX_eqX⟩)
    (c1_PlaceX_eqX : PySem.W.codeIn K cd_PlaceX_eqX "Place.__eq__" = true)
    (k1_PlaceX_eqX : PySem.W.keepIn K (.ref a_PlaceX_eqX) = true)
    (a1_PricesX_initX : PySem.W.findIn K (.ref C_Prices) "__init__" = some (some (.ref a_PricesX_initX)))
    (i1_PricesX_initX : PySem.W.isFn K (.ref a_PricesX_initX) = true)
    (l1_PricesX_initX : K.lookup a_PricesX_initX = some ⟨oc_PricesX_initX, od_PricesX_initX, .func (PySem.W.fnOf "__init__" "Prices.__init__" (defArgs st_PricesX_initX) (defBody st_PricesX_initX) (defScope st_PricesX_initX) .none kV_PricesX_initX dc_PricesX_initX pm_PricesX_initX an_PricesX_initX cd_PricesX_initX ct_PricesX_initX), sl_PricesX_initX⟩)
    (c1_PricesX_initX : PySem.W.codeIn K cd_PricesX_initX "Prices.__init__" = true)
    (k1_PricesX_initX : PySem.W.keepIn K (.ref a_PricesX_initX) = true)
    (a1_LotX_initX : PySem.W.findIn K (.ref C_Lot) "__init__" = some (some (.ref a_LotX_initX)))
    (i1_LotX_initX : PySem.W.isFn K (.ref a_LotX_initX) = true)
    (l1_LotX_initX : K.lookup a_LotX_initX = some ⟨oc_LotX_initX, od_LotX_initX, .func (PySem.W.fnOf "__init__" "Lot.__init__" (defArgs st_LotX_initX) (defBody st_LotX_initX) (defScope st_LotX_initX) .none kV_LotX_initX dc_LotX_initX pm_LotX_initX an_LotX_initX cd_LotX_initX ct_LotX_initX), sl_LotX_initX⟩)
    (c1_LotX_initX : PySem.W.codeIn K cd_LotX_initX "Lot.__init__" = true)
    (k1_LotX_initX : PySem.W.keepIn K (.ref a_LotX_initX) = true)
    (a1_bezout_of : PySem.W.nsIn K mainGlobals "bezout_of" = some (some (.ref a_bezout_of)))
    (l1_bezout_of : K.lookup a_bezout_of = some ⟨oc_bezout_of, od_bezout_of, .func (PySem.W.fnOf "bezout_of" "bezout_of" (defArgs st_bezout_of) (defBody st_bezout_of) (defScope st_bezout_of) .none kV_bezout_of dc_bezout_of pm_bezout_of an_bezout_of cd_bezout_of ct_bezout_of), sl_bezout_of⟩)
    (c1_bezout_of : PySem.W.codeIn K cd_bezout_of "bezout_of" = true)
    (k1_bezout_of : PySem.W.keepIn K (.ref a_bezout_of) = true)
    (a1_ceiling : PySem.W.nsIn K mainGlobals "ceiling" = some (some (.ref a_ceiling)))
    (l1_ceiling : K.lookup a_ceiling = some ⟨oc_ceiling, od_ceiling, .func (PySem.W.fnOf "ceiling" "ceiling" (defArgs st_ceiling) (defBody st_ceiling) (defScope st_ceiling) .none kV_ceiling dc_ceiling pm_ceiling an_ceiling cd_ceiling ct_ceiling), sl_ceiling⟩)
    (c1_ceiling : PySem.W.codeIn K cd_ceiling "ceiling" = true)
    (k1_ceiling : PySem.W.keepIn K (.ref a_ceiling) = true)
    (a1_lowest : PySem.W.nsIn K mainGlobals "lowest" = some (some (.ref a_lowest)))
    (l1_lowest : K.lookup a_lowest = some ⟨oc_lowest, od_lowest, .func (PySem.W.fnOf "lowest" "lowest" (defArgs st_lowest) (defBody st_lowest) (defScope st_lowest) .none kV_lowest dc_lowest pm_lowest an_lowest cd_lowest ct_lowest), sl_lowest⟩)
    (c1_lowest : PySem.W.codeIn K cd_lowest "lowest" = true)
    (k1_lowest : PySem.W.keepIn K (.ref a_lowest) = true)
    (a1_sides_of_price : PySem.W.nsIn K mainGlobals "sides_of_price" = some (some (.ref a_sides_of_price)))
    (l1_sides_of_price : K.lookup a_sides_of_price = some ⟨oc_sides_of_price, od_sides_of_price, .func (PySem.W.fnOf "sides_of_price" "sides_of_price" (defArgs st_sides_of_price) (defBody st_sides_of_price) (defScope st_sides_of_price) .none kV_sides_of_price dc_sides_of_price pm_sides_of_price an_sides_of_price cd_sides_of_price ct_sides_of_price), sl_sides_of_price⟩)
    (c1_sides_of_price : PySem.W.codeIn K cd_sides_of_price "sides_of_price" = true)
    (k1_sides_of_price : PySem.W.keepIn K (.ref a_sides_of_price) = true)
    (a1_best_frame : PySem.W.nsIn K mainGlobals "best_frame" = some (some (.ref a_best_frame)))
    (l1_best_frame : K.lookup a_best_frame = some ⟨oc_best_frame, od_best_frame, .func (PySem.W.fnOf "best_frame" "best_frame" (defArgs st_best_frame) (defBody st_best_frame) (defScope st_best_frame) .none kV_best_frame dc_best_frame pm_best_frame an_best_frame cd_best_frame ct_best_frame), sl_best_frame⟩)
    (c1_best_frame : PySem.W.codeIn K cd_best_frame "best_frame" = true)
    (k1_best_frame : PySem.W.keepIn K (.ref a_best_frame) = true)
    (a1_room_wanted : PySem.W.nsIn K mainGlobals "room_wanted" = some (some (.ref a_room_wanted)))
    (l1_room_wanted : K.lookup a_room_wanted = some ⟨oc_room_wanted, od_room_wanted, .func (PySem.W.fnOf "room_wanted" "room_wanted" (defArgs st_room_wanted) (defBody st_room_wanted) (defScope st_room_wanted) .none kV_room_wanted dc_room_wanted pm_room_wanted an_room_wanted cd_room_wanted ct_room_wanted), sl_room_wanted⟩)
    (c1_room_wanted : PySem.W.codeIn K cd_room_wanted "room_wanted" = true)
    (k1_room_wanted : PySem.W.keepIn K (.ref a_room_wanted) = true)
    (a1_Prices_frame : PySem.W.findIn K (.ref C_Prices) "frame" = some (some (.ref a_Prices_frame)))
    (i1_Prices_frame : PySem.W.isFn K (.ref a_Prices_frame) = true)
    (l1_Prices_frame : K.lookup a_Prices_frame = some ⟨oc_Prices_frame, od_Prices_frame, .func (PySem.W.fnOf "frame" "Prices.frame" (defArgs st_Prices_frame) (defBody st_Prices_frame) (defScope st_Prices_frame) .none kV_Prices_frame dc_Prices_frame pm_Prices_frame an_Prices_frame cd_Prices_frame ct_Prices_frame), sl_Prices_frame⟩)
    (c1_Prices_frame : PySem.W.codeIn K cd_Prices_frame "Prices.frame" = true)
    (k1_Prices_frame : PySem.W.keepIn K (.ref a_Prices_frame) = true)
    (a1_Prices_lot_of : PySem.W.findIn K (.ref C_Prices) "lot_of" = some (some (.ref a_Prices_lot_of)))
    (i1_Prices_lot_of : PySem.W.isFn K (.ref a_Prices_lot_of) = true)
    (l1_Prices_lot_of : K.lookup a_Prices_lot_of = some ⟨oc_Prices_lot_of, od_Prices_lot_of, .func (PySem.W.fnOf "lot_of" "Prices.lot_of" (defArgs st_Prices_lot_of) (defBody st_Prices_lot_of) (defScope st_Prices_lot_of) .none kV_Prices_lot_of dc_Prices_lot_of pm_Prices_lot_of an_Prices_lot_of cd_Prices_lot_of ct_Prices_lot_of), sl_Prices_lot_of⟩)
    (c1_Prices_lot_of : PySem.W.codeIn K cd_Prices_lot_of "Prices.lot_of" = true)
    (k1_Prices_lot_of : PySem.W.keepIn K (.ref a_Prices_lot_of) = true)
    (a1_Prices_least_price : PySem.W.findIn K (.ref C_Prices) "least_price" = some (some (.ref a_Prices_least_price)))
    (i1_Prices_least_price : PySem.W.isFn K (.ref a_Prices_least_price) = true)
    (l1_Prices_least_price : K.lookup a_Prices_least_price = some ⟨oc_Prices_least_price, od_Prices_least_price, .func (PySem.W.fnOf "least_price" "Prices.least_price" (defArgs st_Prices_least_price) (defBody st_Prices_least_price) (defScope st_Prices_least_price) .none kV_Prices_least_price dc_Prices_least_price pm_Prices_least_price an_Prices_least_price cd_Prices_least_price ct_Prices_least_price), sl_Prices_least_price⟩)
    (c1_Prices_least_price : PySem.W.codeIn K cd_Prices_least_price "Prices.least_price" = true)
    (k1_Prices_least_price : PySem.W.keepIn K (.ref a_Prices_least_price) = true)
    (a1_best_sides : PySem.W.nsIn K mainGlobals "best_sides" = some (some (.ref a_best_sides)))
    (l1_best_sides : K.lookup a_best_sides = some ⟨oc_best_sides, od_best_sides, .func (PySem.W.fnOf "best_sides" "best_sides" (defArgs st_best_sides) (defBody st_best_sides) (defScope st_best_sides) .none kV_best_sides dc_best_sides pm_best_sides an_best_sides cd_best_sides ct_best_sides), sl_best_sides⟩)
    (c1_best_sides : PySem.W.codeIn K cd_best_sides "best_sides" = true)
    (k1_best_sides : PySem.W.keepIn K (.ref a_best_sides) = true)
    (a1_areas_of : PySem.W.nsIn K mainGlobals "areas_of" = some (some (.ref a_areas_of)))
    (l1_areas_of : K.lookup a_areas_of = some ⟨oc_areas_of, od_areas_of, .func (PySem.W.fnOf "areas_of" "areas_of" (defArgs st_areas_of) (defBody st_areas_of) (defScope st_areas_of) .none kV_areas_of dc_areas_of pm_areas_of an_areas_of cd_areas_of ct_areas_of), sl_areas_of⟩)
    (c1_areas_of : PySem.W.codeIn K cd_areas_of "areas_of" = true)
    (k1_areas_of : PySem.W.keepIn K (.ref a_areas_of) = true)
    (a1_areas : PySem.W.nsIn K mainGlobals "areas" = some (some (.ref a_areas)))
    (l1_areas : K.lookup a_areas = some ⟨oc_areas, od_areas, .func (PySem.W.fnOf "areas" "areas" (defArgs st_areas) (defBody st_areas) (defScope st_areas) .none kV_areas dc_areas pm_areas an_areas cd_areas ct_areas), sl_areas⟩)
    (c1_areas : PySem.W.codeIn K cd_areas "areas" = true)
    (k1_areas : PySem.W.keepIn K (.ref a_areas) = true)
    (a1_distance : PySem.W.nsIn K mainGlobals "distance" = some (some (.ref a_distance)))
    (l1_distance : K.lookup a_distance = some ⟨oc_distance, od_distance, .func (PySem.W.fnOf "distance" "distance" (defArgs st_distance) (defBody st_distance) (defScope st_distance) .none kV_distance dc_distance pm_distance an_distance cd_distance ct_distance), sl_distance⟩)
    (c1_distance : PySem.W.codeIn K cd_distance "distance" = true)
    (k1_distance : PySem.W.keepIn K (.ref a_distance) = true)
    (a1_home_place : PySem.W.nsIn K mainGlobals "home_place" = some (some (.ref a_home_place)))
    (l1_home_place : K.lookup a_home_place = some ⟨oc_home_place, od_home_place, .func (PySem.W.fnOf "home_place" "home_place" (defArgs st_home_place) (defBody st_home_place) (defScope st_home_place) .none kV_home_place dc_home_place pm_home_place an_home_place cd_home_place ct_home_place), sl_home_place⟩)
    (c1_home_place : PySem.W.codeIn K cd_home_place "home_place" = true)
    (k1_home_place : PySem.W.keepIn K (.ref a_home_place) = true)
    (a1_walk_pairs : PySem.W.nsIn K mainGlobals "walk_pairs" = some (some (.ref a_walk_pairs)))
    (l1_walk_pairs : K.lookup a_walk_pairs = some ⟨oc_walk_pairs, od_walk_pairs, .func (PySem.W.fnOf "walk_pairs" "walk_pairs" (defArgs st_walk_pairs) (defBody st_walk_pairs) (defScope st_walk_pairs) .none kV_walk_pairs dc_walk_pairs pm_walk_pairs an_walk_pairs cd_walk_pairs ct_walk_pairs), sl_walk_pairs⟩)
    (c1_walk_pairs : PySem.W.codeIn K cd_walk_pairs "walk_pairs" = true)
    (k1_walk_pairs : PySem.W.keepIn K (.ref a_walk_pairs) = true)
    (a1_pairs_to : PySem.W.nsIn K mainGlobals "pairs_to" = some (some (.ref a_pairs_to)))
    (l1_pairs_to : K.lookup a_pairs_to = some ⟨oc_pairs_to, od_pairs_to, .func (PySem.W.fnOf "pairs_to" "pairs_to" (defArgs st_pairs_to) (defBody st_pairs_to) (defScope st_pairs_to) .none kV_pairs_to dc_pairs_to pm_pairs_to an_pairs_to cd_pairs_to ct_pairs_to), sl_pairs_to⟩)
    (c1_pairs_to : PySem.W.codeIn K cd_pairs_to "pairs_to" = true)
    (k1_pairs_to : PySem.W.keepIn K (.ref a_pairs_to) = true)
    (a1_walk_of : PySem.W.nsIn K mainGlobals "walk_of" = some (some (.ref a_walk_of)))
    (l1_walk_of : K.lookup a_walk_of = some ⟨oc_walk_of, od_walk_of, .func (PySem.W.fnOf "walk_of" "walk_of" (defArgs st_walk_of) (defBody st_walk_of) (defScope st_walk_of) .none kV_walk_of dc_walk_of pm_walk_of an_walk_of cd_walk_of ct_walk_of), sl_walk_of⟩)
    (c1_walk_of : PySem.W.codeIn K cd_walk_of "walk_of" = true)
    (k1_walk_of : PySem.W.keepIn K (.ref a_walk_of) = true)
    (a1_least_walk : PySem.W.nsIn K mainGlobals "least_walk" = some (some (.ref a_least_walk)))
    (l1_least_walk : K.lookup a_least_walk = some ⟨oc_least_walk, od_least_walk, .func (PySem.W.fnOf "least_walk" "least_walk" (defArgs st_least_walk) (defBody st_least_walk) (defScope st_least_walk) .none kV_least_walk dc_least_walk pm_least_walk an_least_walk cd_least_walk ct_least_walk), sl_least_walk⟩)
    (c1_least_walk : PySem.W.codeIn K cd_least_walk "least_walk" = true)
    (k1_least_walk : PySem.W.keepIn K (.ref a_least_walk) = true)
    (a1_lies_between : PySem.W.nsIn K mainGlobals "lies_between" = some (some (.ref a_lies_between)))
    (l1_lies_between : K.lookup a_lies_between = some ⟨oc_lies_between, od_lies_between, .func (PySem.W.fnOf "lies_between" "lies_between" (defArgs st_lies_between) (defBody st_lies_between) (defScope st_lies_between) .none kV_lies_between dc_lies_between pm_lies_between an_lies_between cd_lies_between ct_lies_between), sl_lies_between⟩)
    (c1_lies_between : PySem.W.codeIn K cd_lies_between "lies_between" = true)
    (k1_lies_between : PySem.W.keepIn K (.ref a_lies_between) = true)
    (a1__law_walks_right : PySem.W.nsIn K mainGlobals "_law_walks_right" = some (some (.ref a__law_walks_right)))
    (l1__law_walks_right : K.lookup a__law_walks_right = some ⟨oc__law_walks_right, od__law_walks_right, .func (PySem.W.fnOf "_law_walks_right" "_law_walks_right" (defArgs st__law_walks_right) (defBody st__law_walks_right) (defScope st__law_walks_right) .none kV__law_walks_right dc__law_walks_right pm__law_walks_right an__law_walks_right cd__law_walks_right ct__law_walks_right), sl__law_walks_right⟩)
    (c1__law_walks_right : PySem.W.codeIn K cd__law_walks_right "_law_walks_right" = true)
    (k1__law_walks_right : PySem.W.keepIn K (.ref a__law_walks_right) = true)
    (a1_law : PySem.W.nsIn K mainGlobals "law" = some (some (.ref a_law)))
    (l1_law : K.lookup a_law = some ⟨oc_law, od_law, .func (PySem.W.fnOf "law" "law" (defArgs st_law) (defBody st_law) (defScope st_law) .none kV_law dc_law pm_law an_law cd_law ct_law), sl_law⟩)
    (c1_law : PySem.W.codeIn K cd_law "law" = true)
    (k1_law : PySem.W.keepIn K (.ref a_law) = true)
    (z1_abs : PySem.W.nsIn K mainGlobals "abs" = some none)
    (z1_all : PySem.W.nsIn K mainGlobals "all" = some none)
    (z1_bool : PySem.W.nsIn K mainGlobals "bool" = some none)
    (z1_divmod : PySem.W.nsIn K mainGlobals "divmod" = some none)
    (z1_int : PySem.W.nsIn K mainGlobals "int" = some none)
    (z1_isinstance : PySem.W.nsIn K mainGlobals "isinstance" = some none)
    (z1_len : PySem.W.nsIn K mainGlobals "len" = some none)
    (z1_list : PySem.W.nsIn K mainGlobals "list" = some none)
    (z1_max : PySem.W.nsIn K mainGlobals "max" = some none)
    (z1_min : PySem.W.nsIn K mainGlobals "min" = some none)
    (z1_range : PySem.W.nsIn K mainGlobals "range" = some none)
    (z1_str : PySem.W.nsIn K mainGlobals "str" = some none)
    (z1_sum : PySem.W.nsIn K mainGlobals "sum" = some none)
    (z1_tuple : PySem.W.nsIn K mainGlobals "tuple" = some none)
    (k0_FOUR : PySem.W.nsIn K mainGlobals "FOUR" = some (some kv_FOUR))
    (kx_FOUR : repK K 6 kv_FOUR (.tup [.tup [.str [101], .int 1, .int 0], .tup [.str [110], .int 0, .int 1], .tup [.str [119], .int (-1), .int 0], .tup [.str [115], .int 0, .int (-1)]]) = true)
    (k0_LETTERS : PySem.W.nsIn K mainGlobals "LETTERS" = some (some kv_LETTERS))
    (kx_LETTERS : repK K 6 kv_LETTERS (.str [101, 110, 119, 115]) = true)
    (k0_MOST_LETTERS : PySem.W.nsIn K mainGlobals "MOST_LETTERS" = some (some kv_MOST_LETTERS))
    (kx_MOST_LETTERS : repK K 6 kv_MOST_LETTERS (.int 10000) = true)
    (k0_MOST_PRICE : PySem.W.nsIn K mainGlobals "MOST_PRICE" = some (some kv_MOST_PRICE))
    (kx_MOST_PRICE : repK K 6 kv_MOST_PRICE (.int 1000) = true)
    (k0_MOST_RUNS : PySem.W.nsIn K mainGlobals "MOST_RUNS" = some (some kv_MOST_RUNS))
    (kx_MOST_RUNS : repK K 6 kv_MOST_RUNS (.int 10000) = true)
    (hl : ∀ ns : List Int, ns.length ≤ 63 → (∀ z ∈ ns, Builtin.Int.intBits z ≤ 1048576) → ∃ S, g_law [.scr (ns.map D.int)] [] = .ok (.bl true) S) :
    LamX.LawAtS l w K (L2.CX l.prog w) 17 63 "_law_script" mg fa h := by
  have e := hfa.symm.trans (PySem.W.mg_of X G0 a1_law)
  cases e
  let G : Gam := { K := K, ct := fun c => if c = "Place" then some C_Place else if c = "Walk" then some C_Walk else if c = "Lot" then some C_Lot else if c = "Prices" then some C_Prices else if c = "BadNumber" then some C_BadNumber else if c = "BadPlace" then some C_BadPlace else if c = "BadWord" then some C_BadWord else none, ft := fun c => none, tab := tabG [], tabM := tabG_mono _ }
  have cF_Place := clsF cB_Place
  have cF_Walk := clsF cB_Walk
  have cF_Lot := clsF cB_Lot
  have cF_Prices := clsF cB_Prices
  have ct_Place : G.ct "Place" = some C_Place := by simp [G]
  have ct_Walk : G.ct "Walk" = some C_Walk := by simp [G]
  have ct_Lot : G.ct "Lot" = some C_Lot := by simp [G]
  have ct_Prices : G.ct "Prices" = some C_Prices := by simp [G]
  have ct_BadNumber : G.ct "BadNumber" = some C_BadNumber := by simp [G]
  have ct_BadPlace : G.ct "BadPlace" = some C_BadPlace := by simp [G]
  have ct_BadWord : G.ct "BadWord" = some C_BadWord := by simp [G]
  have F_is_integer := fun_mk (st := st_is_integer) l1_is_integer c1_is_integer k1_is_integer
  have F_PlaceX_initX := fun_mk (st := st_PlaceX_initX) l1_PlaceX_initX c1_PlaceX_initX k1_PlaceX_initX
  have F_PlaceX_invertX := fun_mk (st := st_PlaceX_invertX) l1_PlaceX_invertX c1_PlaceX_invertX k1_PlaceX_invertX
  have F_PlaceX_mulX := fun_mk (st := st_PlaceX_mulX) l1_PlaceX_mulX c1_PlaceX_mulX k1_PlaceX_mulX
  have F__law_draw := fun_mk (st := st__law_draw) l1__law_draw c1__law_draw k1__law_draw
  have F__law_big := fun_mk (st := st__law_big) l1__law_big c1__law_big k1__law_big
  have F__law_whole := fun_mk (st := st__law_whole) l1__law_whole c1__law_whole k1__law_whole
  have F__law_place := fun_mk (st := st__law_place) l1__law_place c1__law_place k1__law_place
  have F__law_drawn := fun_mk (st := st__law_drawn) l1__law_drawn c1__law_drawn k1__law_drawn
  have F__law_step := fun_mk (st := st__law_step) l1__law_step c1__law_step k1__law_step
  have F_need_place := fun_mk (st := st_need_place) l1_need_place c1_need_place k1_need_place
  have F_whole_root := fun_mk (st := st_whole_root) l1_whole_root c1_whole_root k1_whole_root
  have F_steps_of := fun_mk (st := st_steps_of) l1_steps_of c1_steps_of k1_steps_of
  have F_steps := fun_mk (st := st_steps) l1_steps c1_steps k1_steps
  have F_first_letters := fun_mk (st := st_first_letters) l1_first_letters c1_first_letters k1_first_letters
  have F_nearer := fun_mk (st := st_nearer) l1_nearer c1_nearer k1_nearer
  have F_is_summit := fun_mk (st := st_is_summit) l1_is_summit c1_is_summit k1_is_summit
  have F__law_local_right := fun_mk (st := st__law_local_right) l1__law_local_right c1__law_local_right k1__law_local_right
  have F__law_pen := fun_mk (st := st__law_pen) l1__law_pen c1__law_pen k1__law_pen
  have F_merged := fun_mk (st := st_merged) l1_merged c1_merged k1_merged
  have F_is_list := fun_mk (st := st_is_list) l1_is_list c1_is_list k1_is_list
  have F_is_whole := fun_mk (st := st_is_whole) l1_is_whole c1_is_whole k1_is_whole
  have F_is_pair := fun_mk (st := st_is_pair) l1_is_pair c1_is_pair k1_is_pair
  have F_pairs_told := fun_mk (st := st_pairs_told) l1_pairs_told c1_pairs_told k1_pairs_told
  have F_WalkX_initX := fun_mk (st := st_WalkX_initX) l1_WalkX_initX c1_WalkX_initX k1_WalkX_initX
  have F_Walk_length := fun_mk (st := st_Walk_length) l1_Walk_length c1_Walk_length k1_Walk_length
  have F_Walk_need_step := fun_mk (st := st_Walk_need_step) l1_Walk_need_step c1_Walk_need_step k1_Walk_need_step
  have F_Walk_parted := fun_mk (st := st_Walk_parted) l1_Walk_parted c1_Walk_parted k1_Walk_parted
  have F_Walk_head := fun_mk (st := st_Walk_head) l1_Walk_head c1_Walk_head k1_Walk_head
  have F_gone_on := fun_mk (st := st_gone_on) l1_gone_on c1_gone_on k1_gone_on
  have F_Walk_spots := fun_mk (st := st_Walk_spots) l1_Walk_spots c1_Walk_spots k1_Walk_spots
  have F_Walk_place := fun_mk (st := st_Walk_place) l1_Walk_place c1_Walk_place k1_Walk_place
  have F_Walk_at := fun_mk (st := st_Walk_at) l1_Walk_at c1_Walk_at k1_Walk_at
  have F_is_least_spot := fun_mk (st := st_is_least_spot) l1_is_least_spot c1_is_least_spot k1_is_least_spot
  have F_first_long := fun_mk (st := st_first_long) l1_first_long c1_first_long k1_first_long
  have F_Walk_first_not_least := fun_mk (st := st_Walk_first_not_least) l1_Walk_first_not_least c1_Walk_first_not_least k1_Walk_first_not_least
  have F_Walk_is_least := fun_mk (st := st_Walk_is_least) l1_Walk_is_least c1_Walk_is_least k1_Walk_is_least
  have F__law_pick := fun_mk (st := st__law_pick) l1__law_pick c1__law_pick k1__law_pick
  have F__law_walk_right := fun_mk (st := st__law_walk_right) l1__law_walk_right c1__law_walk_right k1__law_walk_right
  have F_PlaceX_eqX := fun_mk (st := st_PlaceX_eqX) l1_PlaceX_eqX c1_PlaceX_eqX k1_PlaceX_eqX
  have F_PricesX_initX := fun_mk (st := st_PricesX_initX) l1_PricesX_initX c1_PricesX_initX k1_PricesX_initX
  have F_LotX_initX := fun_mk (st := st_LotX_initX) l1_LotX_initX c1_LotX_initX k1_LotX_initX
  have F_bezout_of := fun_mk (st := st_bezout_of) l1_bezout_of c1_bezout_of k1_bezout_of
  have F_ceiling := fun_mk (st := st_ceiling) l1_ceiling c1_ceiling k1_ceiling
  have F_lowest := fun_mk (st := st_lowest) l1_lowest c1_lowest k1_lowest
  have F_sides_of_price := fun_mk (st := st_sides_of_price) l1_sides_of_price c1_sides_of_price k1_sides_of_price
  have F_best_frame := fun_mk (st := st_best_frame) l1_best_frame c1_best_frame k1_best_frame
  have F_room_wanted := fun_mk (st := st_room_wanted) l1_room_wanted c1_room_wanted k1_room_wanted
  have F_Prices_frame := fun_mk (st := st_Prices_frame) l1_Prices_frame c1_Prices_frame k1_Prices_frame
  have F_Prices_lot_of := fun_mk (st := st_Prices_lot_of) l1_Prices_lot_of c1_Prices_lot_of k1_Prices_lot_of
  have F_Prices_least_price := fun_mk (st := st_Prices_least_price) l1_Prices_least_price c1_Prices_least_price k1_Prices_least_price
  have F_best_sides := fun_mk (st := st_best_sides) l1_best_sides c1_best_sides k1_best_sides
  have F_areas_of := fun_mk (st := st_areas_of) l1_areas_of c1_areas_of k1_areas_of
  have F_areas := fun_mk (st := st_areas) l1_areas c1_areas k1_areas
  have F_distance := fun_mk (st := st_distance) l1_distance c1_distance k1_distance
  have F_home_place := fun_mk (st := st_home_place) l1_home_place c1_home_place k1_home_place
  have F_walk_pairs := fun_mk (st := st_walk_pairs) l1_walk_pairs c1_walk_pairs k1_walk_pairs
  have F_pairs_to := fun_mk (st := st_pairs_to) l1_pairs_to c1_pairs_to k1_pairs_to
  have F_walk_of := fun_mk (st := st_walk_of) l1_walk_of c1_walk_of k1_walk_of
  have F_least_walk := fun_mk (st := st_least_walk) l1_least_walk c1_least_walk k1_least_walk
  have F_lies_between := fun_mk (st := st_lies_between) l1_lies_between c1_lies_between k1_lies_between
  have F__law_walks_right := fun_mk (st := st__law_walks_right) l1__law_walks_right c1__law_walks_right k1__law_walks_right
  have F_law := fun_mk (st := st_law) l1_law c1_law k1_law
  have mkE : ∀ base : Heap, (∀ m ∈ ([] : List (String × Addr × Addr)), LamX.TabB base mg m.2.1 m.2.2) → ∃ e : Ev l.prog G mg base, e.a_law = fa ∧ e.fd_law = (PySem.W.fnOf "law" "law" (defArgs st_law) (defBody st_law) (defScope st_law) .none kV_law dc_law pm_law an_law cd_law ct_law) := fun base tb => ⟨{
    C_Place := C_Place
    ct_Place := ct_Place
    cl_Place := cF_Place.cl
    m_Place := PySem.W.mg_of X G0 aC_Place
    sf_Place := cF_Place.sf
    ne_Place := cF_Place.ne
    mo_Place := cF_Place.mo
    na_Place_x := cF_Place.na _ (by simp)
    na_Place_y := cF_Place.na _ (by simp)
    na_Place_area := cF_Place.na _ (by simp)
    C_Walk := C_Walk
    ct_Walk := ct_Walk
    cl_Walk := cF_Walk.cl
    m_Walk := PySem.W.mg_of X G0 aC_Walk
    sf_Walk := cF_Walk.sf
    ne_Walk := cF_Walk.ne
    mo_Walk := cF_Walk.mo
    na_Walk_runs := cF_Walk.na _ (by simp)
    C_Lot := C_Lot
    ct_Lot := ct_Lot
    cl_Lot := cF_Lot.cl
    m_Lot := PySem.W.mg_of X G0 aC_Lot
    sf_Lot := cF_Lot.sf
    ne_Lot := cF_Lot.ne
    mo_Lot := cF_Lot.mo
    na_Lot_east := cF_Lot.na _ (by simp)
    na_Lot_north := cF_Lot.na _ (by simp)
    na_Lot_west := cF_Lot.na _ (by simp)
    na_Lot_south := cF_Lot.na _ (by simp)
    C_Prices := C_Prices
    ct_Prices := ct_Prices
    cl_Prices := cF_Prices.cl
    m_Prices := PySem.W.mg_of X G0 aC_Prices
    sf_Prices := cF_Prices.sf
    ne_Prices := cF_Prices.ne
    mo_Prices := cF_Prices.mo
    na_Prices_east := cF_Prices.na _ (by simp)
    na_Prices_north := cF_Prices.na _ (by simp)
    na_Prices_west := cF_Prices.na _ (by simp)
    na_Prices_south := cF_Prices.na _ (by simp)
    C_BadNumber := C_BadNumber
    ct_BadNumber := ct_BadNumber
    m_BadNumber := PySem.W.mg_of X G0 aC_BadNumber
    fI_BadNumber := fI_BadNumber
    xfd_BadNumber := _
    X_BadNumber := xfacts_of (G := G) ct_BadNumber xl_BadNumber xr_BadNumber xi_BadNumber xf_BadNumber xc_BadNumber xd_BadNumber xv_BadNumber xe_BadNumber xk_BadNumber xB_BadNumber xtop (PySem.W.mg_none_of X G0 xsup) xsh_BadNumber (by decide) (by decide) (by decide) (fun us hl => match us, hl with | [_, _], _ => rfl)
    C_BadPlace := C_BadPlace
    ct_BadPlace := ct_BadPlace
    m_BadPlace := PySem.W.mg_of X G0 aC_BadPlace
    fI_BadPlace := fI_BadPlace
    xfd_BadPlace := _
    X_BadPlace := xfacts_of (G := G) ct_BadPlace xl_BadPlace xr_BadPlace xi_BadPlace xf_BadPlace xc_BadPlace xd_BadPlace xv_BadPlace xe_BadPlace xk_BadPlace xB_BadPlace xtop (PySem.W.mg_none_of X G0 xsup) xsh_BadPlace (by decide) (by decide) (by decide) (fun us hl => match us, hl with | [_, _], _ => rfl)
    C_BadWord := C_BadWord
    ct_BadWord := ct_BadWord
    m_BadWord := PySem.W.mg_of X G0 aC_BadWord
    fI_BadWord := fI_BadWord
    xfd_BadWord := _
    X_BadWord := xfacts_of (G := G) ct_BadWord xl_BadWord xr_BadWord xi_BadWord xf_BadWord xc_BadWord xd_BadWord xv_BadWord xe_BadWord xk_BadWord xB_BadWord xtop (PySem.W.mg_none_of X G0 xsup) xsh_BadWord (by decide) (by decide) (by decide) (fun us hl => match us, hl with | [_, _], _ => rfl)
    a_is_integer := a_is_integer
    fd_is_integer := _
    F_is_integer := F_is_integer
    b_is_integer := F_is_integer.binds (ps := ["value"]) fun _ _ _ _ _ _ us hl => match us, hl with | [_], _ => rfl
    m_is_integer := PySem.W.mg_of X G0 a1_is_integer
    a_PlaceX_initX := a_PlaceX_initX
    fd_PlaceX_initX := _
    F_PlaceX_initX := F_PlaceX_initX
    b_PlaceX_initX := F_PlaceX_initX.binds (ps := ["self", "x", "y", "area"]) fun _ _ _ _ _ _ us hl => match us, hl with | [_, _, _, _], _ => rfl
    M_PlaceX_initX := ⟨a1_PlaceX_initX, i1_PlaceX_initX, k1_PlaceX_initX⟩
    a_PlaceX_invertX := a_PlaceX_invertX
    fd_PlaceX_invertX := _
    F_PlaceX_invertX := F_PlaceX_invertX
    b_PlaceX_invertX := F_PlaceX_invertX.binds (ps := ["self"]) fun _ _ _ _ _ _ us hl => match us, hl with | [_], _ => rfl
    M_PlaceX_invertX := ⟨a1_PlaceX_invertX, i1_PlaceX_invertX, k1_PlaceX_invertX⟩
    a_PlaceX_mulX := a_PlaceX_mulX
    fd_PlaceX_mulX := _
    F_PlaceX_mulX := F_PlaceX_mulX
    b_PlaceX_mulX := F_PlaceX_mulX.binds (ps := ["self", "other"]) fun _ _ _ _ _ _ us hl => match us, hl with | [_, _], _ => rfl
    M_PlaceX_mulX := ⟨a1_PlaceX_mulX, i1_PlaceX_mulX, k1_PlaceX_mulX⟩
    a__law_draw := a__law_draw
    fd__law_draw := _
    F__law_draw := F__law_draw
    b__law_draw := F__law_draw.binds (ps := ["_law_pen_here", "_law_many"]) fun _ _ _ _ _ _ us hl => match us, hl with | [_, _], _ => rfl
    m__law_draw := PySem.W.mg_of X G0 a1__law_draw
    a__law_big := a__law_big
    fd__law_big := _
    F__law_big := F__law_big
    b__law_big := F__law_big.binds (ps := ["_law_pen_here", "_law_size"]) fun _ _ _ _ _ _ us hl => match us, hl with | [_, _], _ => rfl
    m__law_big := PySem.W.mg_of X G0 a1__law_big
    a__law_whole := a__law_whole
    fd__law_whole := _
    F__law_whole := F__law_whole
    b__law_whole := F__law_whole.binds (ps := ["_law_pen_here", "_law_size"]) fun _ _ _ _ _ _ us hl => match us, hl with | [_, _], _ => rfl
    m__law_whole := PySem.W.mg_of X G0 a1__law_whole
    a__law_place := a__law_place
    fd__law_place := _
    F__law_place := F__law_place
    b__law_place := F__law_place.binds (ps := ["_law_pen_here", "_law_size"]) fun _ _ _ _ _ _ us hl => match us, hl with | [_, _], _ => rfl
    m__law_place := PySem.W.mg_of X G0 a1__law_place
    a__law_drawn := a__law_drawn
    fd__law_drawn := _
    F__law_drawn := F__law_drawn
    b__law_drawn := F__law_drawn.binds (ps := ["_law_pen_here"]) fun _ _ _ _ _ _ us hl => match us, hl with | [_], _ => rfl
    m__law_drawn := PySem.W.mg_of X G0 a1__law_drawn
    a__law_step := a__law_step
    fd__law_step := _
    F__law_step := F__law_step
    b__law_step := F__law_step.binds (ps := ["_law_letter"]) fun _ _ _ _ _ _ us hl => match us, hl with | [_], _ => rfl
    m__law_step := PySem.W.mg_of X G0 a1__law_step
    a_need_place := a_need_place
    fd_need_place := _
    F_need_place := F_need_place
    b_need_place := F_need_place.binds (ps := ["value"]) fun _ _ _ _ _ _ us hl => match us, hl with | [_], _ => rfl
    m_need_place := PySem.W.mg_of X G0 a1_need_place
    a_whole_root := a_whole_root
    fd_whole_root := _
    F_whole_root := F_whole_root
    b_whole_root := F_whole_root.binds (ps := ["number"]) fun _ _ _ _ _ _ us hl => match us, hl with | [_], _ => rfl
    m_whole_root := PySem.W.mg_of X G0 a1_whole_root
    a_steps_of := a_steps_of
    fd_steps_of := _
    F_steps_of := F_steps_of
    b_steps_of := F_steps_of.binds (ps := ["x", "y", "area"]) fun _ _ _ _ _ _ us hl => match us, hl with | [_, _, _], _ => rfl
    m_steps_of := PySem.W.mg_of X G0 a1_steps_of
    a_steps := a_steps
    fd_steps := _
    F_steps := F_steps
    b_steps := F_steps.binds (ps := ["place"]) fun _ _ _ _ _ _ us hl => match us, hl with | [_], _ => rfl
    m_steps := PySem.W.mg_of X G0 a1_steps
    a_first_letters := a_first_letters
    fd_first_letters := _
    F_first_letters := F_first_letters
    b_first_letters := F_first_letters.binds (ps := ["place"]) fun _ _ _ _ _ _ us hl => match us, hl with | [_], _ => rfl
    m_first_letters := PySem.W.mg_of X G0 a1_first_letters
    a_nearer := a_nearer
    fd_nearer := _
    F_nearer := F_nearer
    b_nearer := F_nearer.binds (ps := ["place"]) fun _ _ _ _ _ _ us hl => match us, hl with | [_], _ => rfl
    m_nearer := PySem.W.mg_of X G0 a1_nearer
    a_is_summit := a_is_summit
    fd_is_summit := _
    F_is_summit := F_is_summit
    b_is_summit := F_is_summit.binds (ps := ["place"]) fun _ _ _ _ _ _ us hl => match us, hl with | [_], _ => rfl
    m_is_summit := PySem.W.mg_of X G0 a1_is_summit
    a__law_local_right := a__law_local_right
    fd__law_local_right := _
    F__law_local_right := F__law_local_right
    b__law_local_right := F__law_local_right.binds (ps := ["_law_place_here"]) fun _ _ _ _ _ _ us hl => match us, hl with | [_], _ => rfl
    m__law_local_right := PySem.W.mg_of X G0 a1__law_local_right
    a__law_pen := a__law_pen
    fd__law_pen := _
    F__law_pen := F__law_pen
    b__law_pen := F__law_pen.binds (ps := ["_law_script"]) fun _ _ _ _ _ _ us hl => match us, hl with | [_], _ => rfl
    m__law_pen := PySem.W.mg_of X G0 a1__law_pen
    a_merged := a_merged
    fd_merged := _
    F_merged := F_merged
    b_merged := F_merged.binds (ps := ["pairs"]) fun _ _ _ _ _ _ us hl => match us, hl with | [_], _ => rfl
    m_merged := PySem.W.mg_of X G0 a1_merged
    a_is_list := a_is_list
    fd_is_list := _
    F_is_list := F_is_list
    b_is_list := F_is_list.binds (ps := ["value"]) fun _ _ _ _ _ _ us hl => match us, hl with | [_], _ => rfl
    m_is_list := PySem.W.mg_of X G0 a1_is_list
    a_is_whole := a_is_whole
    fd_is_whole := _
    F_is_whole := F_is_whole
    b_is_whole := F_is_whole.binds (ps := ["value", "least"]) fun _ _ _ _ _ _ us hl => match us, hl with | [_, _], _ => rfl
    m_is_whole := PySem.W.mg_of X G0 a1_is_whole
    a_is_pair := a_is_pair
    fd_is_pair := _
    F_is_pair := F_is_pair
    b_is_pair := F_is_pair.binds (ps := ["value"]) fun _ _ _ _ _ _ us hl => match us, hl with | [_], _ => rfl
    m_is_pair := PySem.W.mg_of X G0 a1_is_pair
    a_pairs_told := a_pairs_told
    fd_pairs_told := _
    F_pairs_told := F_pairs_told
    b_pairs_told := F_pairs_told.binds (ps := ["told"]) fun _ _ _ _ _ _ us hl => match us, hl with | [_], _ => rfl
    m_pairs_told := PySem.W.mg_of X G0 a1_pairs_told
    a_WalkX_initX := a_WalkX_initX
    fd_WalkX_initX := _
    F_WalkX_initX := F_WalkX_initX
    b_WalkX_initX := F_WalkX_initX.binds (ps := ["self", "told"]) fun _ _ _ _ _ _ us hl => match us, hl with | [_, _], _ => rfl
    M_WalkX_initX := ⟨a1_WalkX_initX, i1_WalkX_initX, k1_WalkX_initX⟩
    a_Walk_length := a_Walk_length
    fd_Walk_length := _
    F_Walk_length := F_Walk_length
    b_Walk_length := F_Walk_length.binds (ps := ["self"]) fun _ _ _ _ _ _ us hl => match us, hl with | [_], _ => rfl
    p_Walk_length := p_Walk_length
    M_Walk_length := ⟨pa_Walk_length, pg_Walk_length, pt_Walk_length, ⟨_, pr_Walk_length⟩⟩
    a_Walk_need_step := a_Walk_need_step
    fd_Walk_need_step := _
    F_Walk_need_step := F_Walk_need_step
    b_Walk_need_step := F_Walk_need_step.binds (ps := ["self", "number"]) fun _ _ _ _ _ _ us hl => match us, hl with | [_, _], _ => rfl
    M_Walk_need_step := ⟨a1_Walk_need_step, i1_Walk_need_step, k1_Walk_need_step⟩
    a_Walk_parted := a_Walk_parted
    fd_Walk_parted := _
    F_Walk_parted := F_Walk_parted
    b_Walk_parted := F_Walk_parted.binds (ps := ["self", "number"]) fun _ _ _ _ _ _ us hl => match us, hl with | [_, _], _ => rfl
    M_Walk_parted := ⟨a1_Walk_parted, i1_Walk_parted, k1_Walk_parted⟩
    a_Walk_head := a_Walk_head
    fd_Walk_head := _
    F_Walk_head := F_Walk_head
    b_Walk_head := F_Walk_head.binds (ps := ["self", "number"]) fun _ _ _ _ _ _ us hl => match us, hl with | [_, _], _ => rfl
    M_Walk_head := ⟨a1_Walk_head, i1_Walk_head, k1_Walk_head⟩
    a_gone_on := a_gone_on
    fd_gone_on := _
    F_gone_on := F_gone_on
    b_gone_on := F_gone_on.binds (ps := ["spot", "letter", "times"]) fun _ _ _ _ _ _ us hl => match us, hl with | [_, _, _], _ => rfl
    m_gone_on := PySem.W.mg_of X G0 a1_gone_on
    a_Walk_spots := a_Walk_spots
    fd_Walk_spots := _
    F_Walk_spots := F_Walk_spots
    b_Walk_spots := F_Walk_spots.binds (ps := ["self"]) fun _ _ _ _ _ _ us hl => match us, hl with | [_], _ => rfl
    M_Walk_spots := ⟨a1_Walk_spots, i1_Walk_spots, k1_Walk_spots⟩
    a_Walk_place := a_Walk_place
    fd_Walk_place := _
    F_Walk_place := F_Walk_place
    b_Walk_place := F_Walk_place.binds (ps := ["self"]) fun _ _ _ _ _ _ us hl => match us, hl with | [_], _ => rfl
    M_Walk_place := ⟨a1_Walk_place, i1_Walk_place, k1_Walk_place⟩
    a_Walk_at := a_Walk_at
    fd_Walk_at := _
    F_Walk_at := F_Walk_at
    b_Walk_at := F_Walk_at.binds (ps := ["self", "number"]) fun _ _ _ _ _ _ us hl => match us, hl with | [_, _], _ => rfl
    M_Walk_at := ⟨a1_Walk_at, i1_Walk_at, k1_Walk_at⟩
    a_is_least_spot := a_is_least_spot
    fd_is_least_spot := _
    F_is_least_spot := F_is_least_spot
    b_is_least_spot := F_is_least_spot.binds (ps := ["spot", "number"]) fun _ _ _ _ _ _ us hl => match us, hl with | [_, _], _ => rfl
    m_is_least_spot := PySem.W.mg_of X G0 a1_is_least_spot
    a_first_long := a_first_long
    fd_first_long := _
    F_first_long := F_first_long
    b_first_long := F_first_long.binds (ps := ["spot", "letter", "gone", "times"]) fun _ _ _ _ _ _ us hl => match us, hl with | [_, _, _, _], _ => rfl
    m_first_long := PySem.W.mg_of X G0 a1_first_long
    a_Walk_first_not_least := a_Walk_first_not_least
    fd_Walk_first_not_least := _
    F_Walk_first_not_least := F_Walk_first_not_least
    b_Walk_first_not_least := F_Walk_first_not_least.binds (ps := ["self"]) fun _ _ _ _ _ _ us hl => match us, hl with | [_], _ => rfl
    M_Walk_first_not_least := ⟨a1_Walk_first_not_least, i1_Walk_first_not_least, k1_Walk_first_not_least⟩
    a_Walk_is_least := a_Walk_is_least
    fd_Walk_is_least := _
    F_Walk_is_least := F_Walk_is_least
    b_Walk_is_least := F_Walk_is_least.binds (ps := ["self"]) fun _ _ _ _ _ _ us hl => match us, hl with | [_], _ => rfl
    M_Walk_is_least := ⟨a1_Walk_is_least, i1_Walk_is_least, k1_Walk_is_least⟩
    a__law_pick := a__law_pick
    fd__law_pick := _
    F__law_pick := F__law_pick
    b__law_pick := F__law_pick.binds (ps := ["_law_pen_here", "_law_items"]) fun _ _ _ _ _ _ us hl => match us, hl with | [_, _], _ => rfl
    m__law_pick := PySem.W.mg_of X G0 a1__law_pick
    a__law_walk_right := a__law_walk_right
    fd__law_walk_right := _
    F__law_walk_right := F__law_walk_right
    b__law_walk_right := F__law_walk_right.binds (ps := ["_law_pen_here"]) fun _ _ _ _ _ _ us hl => match us, hl with | [_], _ => rfl
    m__law_walk_right := PySem.W.mg_of X G0 a1__law_walk_right
    a_PlaceX_eqX := a_PlaceX_eqX
    fd_PlaceX_eqX := _
    F_PlaceX_eqX := F_PlaceX_eqX
    b_PlaceX_eqX := F_PlaceX_eqX.binds (ps := ["self", "other"]) fun _ _ _ _ _ _ us hl => match us, hl with | [_, _], _ => rfl
    M_PlaceX_eqX := ⟨a1_PlaceX_eqX, i1_PlaceX_eqX, k1_PlaceX_eqX⟩
    a_PricesX_initX := a_PricesX_initX
    fd_PricesX_initX := _
    F_PricesX_initX := F_PricesX_initX
    b_PricesX_initX := F_PricesX_initX.binds (ps := ["self", "east", "north", "west", "south"]) fun _ _ _ _ _ _ us hl => match us, hl with | [_, _, _, _, _], _ => rfl
    M_PricesX_initX := ⟨a1_PricesX_initX, i1_PricesX_initX, k1_PricesX_initX⟩
    a_LotX_initX := a_LotX_initX
    fd_LotX_initX := _
    F_LotX_initX := F_LotX_initX
    b_LotX_initX := F_LotX_initX.binds (ps := ["self", "east", "north", "west", "south"]) fun _ _ _ _ _ _ us hl => match us, hl with | [_, _, _, _, _], _ => rfl
    M_LotX_initX := ⟨a1_LotX_initX, i1_LotX_initX, k1_LotX_initX⟩
    a_bezout_of := a_bezout_of
    fd_bezout_of := _
    F_bezout_of := F_bezout_of
    b_bezout_of := F_bezout_of.binds (ps := ["one", "other"]) fun _ _ _ _ _ _ us hl => match us, hl with | [_, _], _ => rfl
    m_bezout_of := PySem.W.mg_of X G0 a1_bezout_of
    a_ceiling := a_ceiling
    fd_ceiling := _
    F_ceiling := F_ceiling
    b_ceiling := F_ceiling.binds (ps := ["top", "bottom"]) fun _ _ _ _ _ _ us hl => match us, hl with | [_, _], _ => rfl
    m_ceiling := PySem.W.mg_of X G0 a1_ceiling
    a_lowest := a_lowest
    fd_lowest := _
    F_lowest := F_lowest
    b_lowest := F_lowest.binds (ps := ["wide", "high", "room", "across", "up"]) fun _ _ _ _ _ _ us hl => match us, hl with | [_, _, _, _, _], _ => rfl
    m_lowest := PySem.W.mg_of X G0 a1_lowest
    a_sides_of_price := a_sides_of_price
    fd_sides_of_price := _
    F_sides_of_price := F_sides_of_price
    b_sides_of_price := F_sides_of_price.binds (ps := ["price", "wide", "high", "across", "up", "common", "inverse"]) fun _ _ _ _ _ _ us hl => match us, hl with | [_, _, _, _, _, _, _], _ => rfl
    m_sides_of_price := PySem.W.mg_of X G0 a1_sides_of_price
    a_best_frame := a_best_frame
    fd_best_frame := _
    F_best_frame := F_best_frame
    b_best_frame := F_best_frame.binds (ps := ["wide", "high", "room", "across", "up"]) fun _ _ _ _ _ _ us hl => match us, hl with | [_, _, _, _, _], _ => rfl
    m_best_frame := PySem.W.mg_of X G0 a1_best_frame
    a_room_wanted := a_room_wanted
    fd_room_wanted := _
    F_room_wanted := F_room_wanted
    b_room_wanted := F_room_wanted.binds (ps := ["place"]) fun _ _ _ _ _ _ us hl => match us, hl with | [_], _ => rfl
    m_room_wanted := PySem.W.mg_of X G0 a1_room_wanted
    a_Prices_frame := a_Prices_frame
    fd_Prices_frame := _
    F_Prices_frame := F_Prices_frame
    b_Prices_frame := F_Prices_frame.binds (ps := ["self", "place"]) fun _ _ _ _ _ _ us hl => match us, hl with | [_, _], _ => rfl
    M_Prices_frame := ⟨a1_Prices_frame, i1_Prices_frame, k1_Prices_frame⟩
    a_Prices_lot_of := a_Prices_lot_of
    fd_Prices_lot_of := _
    F_Prices_lot_of := F_Prices_lot_of
    b_Prices_lot_of := F_Prices_lot_of.binds (ps := ["self", "place"]) fun _ _ _ _ _ _ us hl => match us, hl with | [_, _], _ => rfl
    M_Prices_lot_of := ⟨a1_Prices_lot_of, i1_Prices_lot_of, k1_Prices_lot_of⟩
    a_Prices_least_price := a_Prices_least_price
    fd_Prices_least_price := _
    F_Prices_least_price := F_Prices_least_price
    b_Prices_least_price := F_Prices_least_price.binds (ps := ["self", "place"]) fun _ _ _ _ _ _ us hl => match us, hl with | [_, _], _ => rfl
    M_Prices_least_price := ⟨a1_Prices_least_price, i1_Prices_least_price, k1_Prices_least_price⟩
    a_best_sides := a_best_sides
    fd_best_sides := _
    F_best_sides := F_best_sides
    b_best_sides := F_best_sides.binds (ps := ["x", "y", "extra"]) fun _ _ _ _ _ _ us hl => match us, hl with | [_, _, _], _ => rfl
    m_best_sides := PySem.W.mg_of X G0 a1_best_sides
    a_areas_of := a_areas_of
    fd_areas_of := _
    F_areas_of := F_areas_of
    b_areas_of := F_areas_of.binds (ps := ["x", "y", "number"]) fun _ _ _ _ _ _ us hl => match us, hl with | [_, _, _], _ => rfl
    m_areas_of := PySem.W.mg_of X G0 a1_areas_of
    a_areas := a_areas
    fd_areas := _
    F_areas := F_areas
    b_areas := F_areas.binds (ps := ["x", "y", "number"]) fun _ _ _ _ _ _ us hl => match us, hl with | [_, _, _], _ => rfl
    m_areas := PySem.W.mg_of X G0 a1_areas
    a_distance := a_distance
    fd_distance := _
    F_distance := F_distance
    b_distance := F_distance.binds (ps := ["one", "other"]) fun _ _ _ _ _ _ us hl => match us, hl with | [_, _], _ => rfl
    m_distance := PySem.W.mg_of X G0 a1_distance
    a_home_place := a_home_place
    fd_home_place := _
    F_home_place := F_home_place
    b_home_place := F_home_place.binds (ps := []) fun _ _ _ _ _ _ us hl => match us, hl with | [], _ => rfl
    m_home_place := PySem.W.mg_of X G0 a1_home_place
    a_walk_pairs := a_walk_pairs
    fd_walk_pairs := _
    F_walk_pairs := F_walk_pairs
    b_walk_pairs := F_walk_pairs.binds (ps := ["x", "y", "area", "extra"]) fun _ _ _ _ _ _ us hl => match us, hl with | [_, _, _, _], _ => rfl
    m_walk_pairs := PySem.W.mg_of X G0 a1_walk_pairs
    a_pairs_to := a_pairs_to
    fd_pairs_to := _
    F_pairs_to := F_pairs_to
    b_pairs_to := F_pairs_to.binds (ps := ["x", "y", "area", "number"]) fun _ _ _ _ _ _ us hl => match us, hl with | [_, _, _, _], _ => rfl
    m_pairs_to := PySem.W.mg_of X G0 a1_pairs_to
    a_walk_of := a_walk_of
    fd_walk_of := _
    F_walk_of := F_walk_of
    b_walk_of := F_walk_of.binds (ps := ["place", "number"]) fun _ _ _ _ _ _ us hl => match us, hl with | [_, _], _ => rfl
    m_walk_of := PySem.W.mg_of X G0 a1_walk_of
    a_least_walk := a_least_walk
    fd_least_walk := _
    F_least_walk := F_least_walk
    b_least_walk := F_least_walk.binds (ps := ["place"]) fun _ _ _ _ _ _ us hl => match us, hl with | [_], _ => rfl
    m_least_walk := PySem.W.mg_of X G0 a1_least_walk
    a_lies_between := a_lies_between
    fd_lies_between := _
    F_lies_between := F_lies_between
    b_lies_between := F_lies_between.binds (ps := ["place", "one", "other"]) fun _ _ _ _ _ _ us hl => match us, hl with | [_, _, _], _ => rfl
    m_lies_between := PySem.W.mg_of X G0 a1_lies_between
    a__law_walks_right := a__law_walks_right
    fd__law_walks_right := _
    F__law_walks_right := F__law_walks_right
    b__law_walks_right := F__law_walks_right.binds (ps := ["_law_pen_here", "_law_place_here"]) fun _ _ _ _ _ _ us hl => match us, hl with | [_, _], _ => rfl
    m__law_walks_right := PySem.W.mg_of X G0 a1__law_walks_right
    a_law := fa
    fd_law := _
    F_law := F_law
    b_law := F_law.binds (ps := ["_law_script"]) fun _ _ _ _ _ _ us hl => match us, hl with | [_], _ => rfl
    m_law := PySem.W.mg_of X G0 a1_law
    mk_Place := ⟨cF_Place.makes, a1_PlaceX_initX, i1_PlaceX_initX, cF_Place.kp⟩
    mk_Walk := ⟨cF_Walk.makes, a1_WalkX_initX, i1_WalkX_initX, cF_Walk.kp⟩
    mk_Lot := ⟨cF_Lot.makes, a1_LotX_initX, i1_LotX_initX, cF_Lot.kp⟩
    mk_Prices := ⟨cF_Prices.makes, a1_PricesX_initX, i1_PricesX_initX, cF_Prices.kp⟩
    f_area := fun c hc C hC => by
      simp only [List.mem_cons, List.not_mem_nil, or_false] at hc
      (subst hc; rw [ct_Place] at hC; cases hC; exact ⟨cF_Place.cl, by rw [← s_3]; exact cF_Place.na _ (by simp)⟩)
    f_east := fun c hc C hC => by
      simp only [List.mem_cons, List.not_mem_nil, or_false] at hc
      rcases hc with hc | hc
      · (subst hc; rw [ct_Lot] at hC; cases hC; exact ⟨cF_Lot.cl, by rw [← s_22]; exact cF_Lot.na _ (by simp)⟩)
      · (subst hc; rw [ct_Prices] at hC; cases hC; exact ⟨cF_Prices.cl, by rw [← s_22]; exact cF_Prices.na _ (by simp)⟩)
    f_north := fun c hc C hC => by
      simp only [List.mem_cons, List.not_mem_nil, or_false] at hc
      rcases hc with hc | hc
      · (subst hc; rw [ct_Lot] at hC; cases hC; exact ⟨cF_Lot.cl, by rw [← s_23]; exact cF_Lot.na _ (by simp)⟩)
      · (subst hc; rw [ct_Prices] at hC; cases hC; exact ⟨cF_Prices.cl, by rw [← s_23]; exact cF_Prices.na _ (by simp)⟩)
    f_runs := fun c hc C hC => by
      simp only [List.mem_cons, List.not_mem_nil, or_false] at hc
      (subst hc; rw [ct_Walk] at hC; cases hC; exact ⟨cF_Walk.cl, by rw [← s_13]; exact cF_Walk.na _ (by simp)⟩)
    f_south := fun c hc C hC => by
      simp only [List.mem_cons, List.not_mem_nil, or_false] at hc
      rcases hc with hc | hc
      · (subst hc; rw [ct_Lot] at hC; cases hC; exact ⟨cF_Lot.cl, by rw [← s_25]; exact cF_Lot.na _ (by simp)⟩)
      · (subst hc; rw [ct_Prices] at hC; cases hC; exact ⟨cF_Prices.cl, by rw [← s_25]; exact cF_Prices.na _ (by simp)⟩)
    f_west := fun c hc C hC => by
      simp only [List.mem_cons, List.not_mem_nil, or_false] at hc
      rcases hc with hc | hc
      · (subst hc; rw [ct_Lot] at hC; cases hC; exact ⟨cF_Lot.cl, by rw [← s_24]; exact cF_Lot.na _ (by simp)⟩)
      · (subst hc; rw [ct_Prices] at hC; cases hC; exact ⟨cF_Prices.cl, by rw [← s_24]; exact cF_Prices.na _ (by simp)⟩)
    f_x := fun c hc C hC => by
      simp only [List.mem_cons, List.not_mem_nil, or_false] at hc
      (subst hc; rw [ct_Place] at hC; cases hC; exact ⟨cF_Place.cl, by rw [← s_1]; exact cF_Place.na _ (by simp)⟩)
    f_y := fun c hc C hC => by
      simp only [List.mem_cons, List.not_mem_nil, or_false] at hc
      (subst hc; rw [ct_Place] at hC; cases hC; exact ⟨cF_Place.cl, by rw [← s_2]; exact cF_Place.na _ (by simp)⟩)
    z_abs := PySem.W.mg_none_of X G0 z1_abs
    z_all := PySem.W.mg_none_of X G0 z1_all
    z_bool := PySem.W.mg_none_of X G0 z1_bool
    z_divmod := PySem.W.mg_none_of X G0 z1_divmod
    z_int := PySem.W.mg_none_of X G0 z1_int
    z_isinstance := PySem.W.mg_none_of X G0 z1_isinstance
    z_len := PySem.W.mg_none_of X G0 z1_len
    z_list := PySem.W.mg_none_of X G0 z1_list
    z_max := PySem.W.mg_none_of X G0 z1_max
    z_min := PySem.W.mg_none_of X G0 z1_min
    z_range := PySem.W.mg_none_of X G0 z1_range
    z_str := PySem.W.mg_none_of X G0 z1_str
    z_sum := PySem.W.mg_none_of X G0 z1_sum
    z_tuple := PySem.W.mg_none_of X G0 z1_tuple
    kv_FOUR := kv_FOUR
    kc_FOUR := PySem.W.mg_of X G0 k0_FOUR
    kr_FOUR := repK_ok (G := G) rfl 6 _ _ kx_FOUR
    kv_LETTERS := kv_LETTERS
    kc_LETTERS := PySem.W.mg_of X G0 k0_LETTERS
    kr_LETTERS := repK_ok (G := G) rfl 6 _ _ kx_LETTERS
    kv_MOST_LETTERS := kv_MOST_LETTERS
    kc_MOST_LETTERS := PySem.W.mg_of X G0 k0_MOST_LETTERS
    kr_MOST_LETTERS := repK_ok (G := G) rfl 6 _ _ kx_MOST_LETTERS
    kv_MOST_PRICE := kv_MOST_PRICE
    kc_MOST_PRICE := PySem.W.mg_of X G0 k0_MOST_PRICE
    kr_MOST_PRICE := repK_ok (G := G) rfl 6 _ _ kx_MOST_PRICE
    kv_MOST_RUNS := kv_MOST_RUNS
    kc_MOST_RUNS := PySem.W.mg_of X G0 k0_MOST_RUNS
    kr_MOST_RUNS := repK_ok (G := G) rfl 6 _ _ kx_MOST_RUNS
    iso := isOk_of (fun c hc => by
      simp only [List.mem_cons, List.not_mem_nil, or_false] at hc
      rcases hc with hc | hc | hc | hc
      · (subst hc; exact ⟨C_Place, _, ct_Place, cF_Place⟩)
      · (subst hc; exact ⟨C_Walk, _, ct_Walk, cF_Walk⟩)
      · (subst hc; exact ⟨C_Lot, _, ct_Lot, cF_Lot⟩)
      · (subst hc; exact ⟨C_Prices, _, ct_Prices, cF_Prices⟩)) fun c hc c2 hc2 C1 C2 h1 h2 => by
      simp only [List.mem_cons, List.not_mem_nil, or_false] at hc hc2
      rcases hc with hc | hc | hc | hc <;> rcases hc2 with hc2 | hc2 | hc2 | hc2
      · subst hc; subst hc2; rw [ct_Place] at h1; rw [ct_Place] at h2; cases h1; cases h2; exact kit_self
      · subst hc; subst hc2; rw [ct_Place] at h1; rw [ct_Walk] at h2; cases h1; cases h2; exact cc_Place_Walk
      · subst hc; subst hc2; rw [ct_Place] at h1; rw [ct_Lot] at h2; cases h1; cases h2; exact cc_Place_Lot
      · subst hc; subst hc2; rw [ct_Place] at h1; rw [ct_Prices] at h2; cases h1; cases h2; exact cc_Place_Prices
      · subst hc; subst hc2; rw [ct_Walk] at h1; rw [ct_Place] at h2; cases h1; cases h2; exact cc_Walk_Place
      · subst hc; subst hc2; rw [ct_Walk] at h1; rw [ct_Walk] at h2; cases h1; cases h2; exact kit_self
      · subst hc; subst hc2; rw [ct_Walk] at h1; rw [ct_Lot] at h2; cases h1; cases h2; exact cc_Walk_Lot
      · subst hc; subst hc2; rw [ct_Walk] at h1; rw [ct_Prices] at h2; cases h1; cases h2; exact cc_Walk_Prices
      · subst hc; subst hc2; rw [ct_Lot] at h1; rw [ct_Place] at h2; cases h1; cases h2; exact cc_Lot_Place
      · subst hc; subst hc2; rw [ct_Lot] at h1; rw [ct_Walk] at h2; cases h1; cases h2; exact cc_Lot_Walk
      · subst hc; subst hc2; rw [ct_Lot] at h1; rw [ct_Lot] at h2; cases h1; cases h2; exact kit_self
      · subst hc; subst hc2; rw [ct_Lot] at h1; rw [ct_Prices] at h2; cases h1; cases h2; exact cc_Lot_Prices
      · subst hc; subst hc2; rw [ct_Prices] at h1; rw [ct_Place] at h2; cases h1; cases h2; exact cc_Prices_Place
      · subst hc; subst hc2; rw [ct_Prices] at h1; rw [ct_Walk] at h2; cases h1; cases h2; exact cc_Prices_Walk
      · subst hc; subst hc2; rw [ct_Prices] at h1; rw [ct_Lot] at h2; cases h1; cases h2; exact cc_Prices_Lot
      · subst hc; subst hc2; rw [ct_Prices] at h1; rw [ct_Prices] at h2; cases h1; cases h2; exact kit_self
    tabs := rfl }, rfl, rfl⟩
  exact lawAt_of (G := G) (g := g_law) (fd := (PySem.W.fnOf "law" "law" (defArgs st_law) (defBody st_law) (defScope st_law) .none kV_law dc_law pm_law an_law cd_law ct_law)) [] (fun m hm => by simp at hm) (fun m hm => by simp at hm) (List.nodup_nil) (fun s v => .of_eq rfl) (fun base tb => by
    obtain ⟨e, e1, e2⟩ := mkE base tb
    have o := ok_law (w0 := w) e
    rw [e1, e2] at o
    exact o) (fun m hm => by simp at hm) hl
end
end W_k71
set_option maxRecDepth 100000
set_option maxHeartbeats 4000000
namespace ST
/-! ### fewest steps: the plain law -/
abbrev ab (i : Int) : Int := if i < 0 then -i else i
/-- the ground that a walk must have room for -/
def gnd (x y a : Int) : Int := (ab (2 * a - x * y) + ab (x * y)).fdiv 2
/-- the least r with n ≤ r * r -/
def IsRt (n r : Int) : Prop := 0 ≤ r ∧ n ≤ r * r ∧ (0 < r → (r - 1) * (r - 1) < n)
/-- p by q holds the place -/
structure Box (x y a p q : Int) : Prop where
  px : ab x ≤ p
  qy : ab y ≤ q
  room : gnd x y a ≤ p * q
theorem gnd_max (x y a : Int) : (0 ≤ x * y → gnd x y a = if x * y ≤ 2 * a then a else x * y - a) ∧ (x * y < 0 → gnd x y a = if x * y ≤ 2 * a then a - x * y else -a) := by
  unfold gnd ab
  generalize x * y = t
  rw [Int.fdiv_eq_ediv_of_nonneg _ (by decide)]
  constructor <;> intro h <;> (repeat' split) <;> omega
/-- the room, by the two ends of the areas -/
theorem gnd_le (x y a m : Int) : gnd x y a ≤ m ↔ a ≤ m - (if x * y < 0 then -(x * y) else 0) ∧ (if x * y < 0 then 0 else x * y) - m ≤ a := by
  have h := gnd_max x y a
  by_cases c : x * y < 0
  · rw [h.2 c]; simp only [c, if_true]; split <;> omega
  · rw [h.1 (by omega)]; simp only [c, if_false]; split <;> omega
theorem gnd_nonneg (x y a : Int) : 0 ≤ gnd x y a := by
  unfold gnd ab
  rw [Int.fdiv_eq_ediv_of_nonneg _ (by decide)]
  split <;> split <;> omega
theorem ab_nonneg (x : Int) : 0 ≤ ab x := by unfold ab; split <;> omega
theorem ab_neg (x : Int) : ab (-x) = ab x := by unfold ab; split <;> split <;> omega
/-! mirrors -/
theorem gnd_mx (x y a : Int) : gnd (-x) y (-a) = gnd x y a := by
  unfold gnd
  rw [show 2 * -a - -x * y = -(2 * a - x * y) by grind, show -x * y = -(x * y) by grind, ab_neg, ab_neg]
theorem gnd_my (x y a : Int) : gnd x (-y) (-a) = gnd x y a := by
  unfold gnd
  rw [show 2 * -a - x * -y = -(2 * a - x * y) by grind, show x * -y = -(x * y) by grind, ab_neg, ab_neg]
theorem gnd_t (x y a : Int) : gnd y x (x * y - a) = gnd x y a := by
  unfold gnd
  rw [show 2 * (x * y - a) - y * x = -(2 * a - x * y) by grind, show y * x = x * y by grind, ab_neg]
theorem Box.mx {x y a p q : Int} (b : Box x y a p q) : Box (-x) y (-a) p q := ⟨by rw [ab_neg]; exact b.px, b.qy, by rw [gnd_mx]; exact b.room⟩
theorem Box.my {x y a p q : Int} (b : Box x y a p q) : Box x (-y) (-a) p q := ⟨b.px, by rw [ab_neg]; exact b.qy, by rw [gnd_my]; exact b.room⟩
theorem Box.t {x y a p q : Int} (b : Box x y a p q) : Box y x (x * y - a) q p := ⟨b.qy, b.px, by rw [gnd_t, Int.mul_comm]; exact b.room⟩
/-- a step is taken -/
inductive Stp : Int → Int → Int → Int → Int → Int → Prop
  | e (x y a : Int) : Stp x y a (x + 1) y a
  | w (x y a : Int) : Stp x y a (x - 1) y a
  | n (x y a : Int) : Stp x y a x (y + 1) (a + x)
  | s (x y a : Int) : Stp x y a x (y - 1) (a - x)
theorem Stp.mx {x y a x' y' a' : Int} (h : Stp x y a x' y' a') : Stp (-x) y (-a) (-x') y' (-a') := by
  cases h with
  | e => rw [show -(x + 1) = -x - 1 by omega]; exact .w ..
  | w => rw [show -(x - 1) = -x + 1 by omega]; exact .e ..
  | n => rw [show -(a + x) = -a + -x by omega]; exact .n ..
  | s => rw [show -(a - x) = -a - -x by omega]; exact .s ..
theorem Stp.my {x y a x' y' a' : Int} (h : Stp x y a x' y' a') : Stp x (-y) (-a) x' (-y') (-a') := by
  cases h with
  | e => exact .e ..
  | w => exact .w ..
  | n => rw [show -(y + 1) = -y - 1 by omega, show -(a + x) = -a - x by omega]; exact .s ..
  | s => rw [show -(y - 1) = -y + 1 by omega, show -(a - x) = -a + x by omega]; exact .n ..
theorem Stp.t {x y a x' y' a' : Int} (h : Stp x y a x' y' a') : Stp y x (x * y - a) y' x' (x' * y' - a') := by
  cases h with
  | e => rw [show (x + 1) * y - a = x * y - a + y by grind]; exact .n ..
  | w => rw [show (x - 1) * y - a = x * y - a - y by grind]; exact .s ..
  | n => rw [show x * (y + 1) - (a + x) = x * y - a by grind]; exact .e ..
  | s => rw [show x * (y - 1) - (a - x) = x * y - a by grind]; exact .w ..
theorem Stp.back {x y a x' y' a' : Int} (h : Stp x y a x' y' a') : Stp x' y' a' x y a := by
  cases h with
  | e => have := Stp.w (x + 1) y a; rwa [show x + 1 - 1 = x by omega] at this
  | w => have := Stp.e (x - 1) y a; rwa [show x - 1 + 1 = x by omega] at this
  | n => have := Stp.s x (y + 1) (a + x); rwa [show y + 1 - 1 = y by omega, show a + x - x = a by omega] at this
  | s => have := Stp.n x (y - 1) (a - x); rwa [show y - 1 + 1 = y by omega, show a - x + x = a by omega] at this
def cost (x y p q : Int) : Int := 2 * (p + q) - ab x - ab y
theorem pr_pos {u v : Int} (hu : 0 ≤ u) (hv : 0 ≤ v) : 0 ≤ u * v := Int.mul_nonneg hu hv
/-- a step further costs one more at most: east -/
theorem up_e {x y a p q : Int} (b : Box x y a p q) : ∃ p' q', Box (x + 1) y a p' q' ∧ cost (x + 1) y p' q' ≤ cost x y p q + 1 := by
  obtain ⟨h1, h2, h3⟩ := b
  rw [gnd_le] at h3
  by_cases hx : 0 ≤ x
  · refine ⟨p + 1, q, ⟨by unfold ab at *; split <;> split at h1 <;> omega, h2, ?_⟩, by unfold cost ab; split <;> split <;> split <;> omega⟩
    rw [gnd_le, show (x + 1) * y = x * y + y by grind, show (p + 1) * q = p * q + q by grind]
    have hq := ab_nonneg y
    by_cases hy : 0 ≤ y
    · have := pr_pos hx hy
      have hy' : y ≤ q := by unfold ab at h2; split at h2 <;> omega
      simp only [show ¬ x * y < 0 by omega, show ¬ x * y + y < 0 by omega, if_false] at h3 ⊢
      omega
    · have hy' : -y ≤ q := by unfold ab at h2; split at h2 <;> omega
      have h5 : x * y ≤ 0 := by have := pr_pos hx (show 0 ≤ -y by omega); rw [Int.mul_neg] at this; omega
      by_cases c : x * y < 0
      · simp only [c, show x * y + y < 0 by omega, if_true] at h3 ⊢; omega
      · simp only [c, show x * y + y < 0 by omega, if_true, if_false] at h3 ⊢; omega
  · refine ⟨p, q, ⟨by unfold ab at *; split <;> split at h1 <;> omega, h2, ?_⟩, by unfold cost ab; split <;> split <;> split <;> omega⟩
    rw [gnd_le, show (x + 1) * y = x * y + y by grind]
    by_cases hy : 0 ≤ y
    · have h5 : x * y ≤ -y := by have := pr_pos (show 0 ≤ -x - 1 by omega) hy; rw [show (-x - 1) * y = -(x * y) - y by grind] at this; omega
      by_cases c : x * y < 0 <;> by_cases c' : x * y + y < 0 <;> simp only [c, c', if_true, if_false] at h3 ⊢ <;> omega
    · have h5 : 0 ≤ x * y + y := by have := pr_pos (show 0 ≤ -x - 1 by omega) (show 0 ≤ -y by omega); rw [show (-x - 1) * -y = x * y + y by grind] at this; omega
      by_cases c : x * y < 0 <;> by_cases c' : x * y + y < 0 <;> simp only [c, c', if_true, if_false] at h3 ⊢ <;> omega
theorem cost_mx (x y p q : Int) : cost (-x) y p q = cost x y p q := by unfold cost; rw [ab_neg]
theorem cost_my (x y p q : Int) : cost x (-y) p q = cost x y p q := by unfold cost; rw [ab_neg]
theorem cost_t (x y p q : Int) : cost y x q p = cost x y p q := by unfold cost; omega
theorem up_w {x y a p q : Int} (b : Box x y a p q) : ∃ p' q', Box (x - 1) y a p' q' ∧ cost (x - 1) y p' q' ≤ cost x y p q + 1 := by
  obtain ⟨p', q', b', c⟩ := up_e b.mx
  have := b'.mx
  rw [show -(-x + 1) = x - 1 by omega, show - -a = a by omega] at this
  refine ⟨p', q', this, ?_⟩
  rw [cost_mx] at c
  rw [← cost_mx, show -(x - 1) = -x + 1 by omega]
  exact c
theorem up {x y a x' y' a' p q : Int} (h : Stp x y a x' y' a') (b : Box x y a p q) : ∃ p' q', Box x' y' a' p' q' ∧ cost x' y' p' q' ≤ cost x y p q + 1 := by
  cases h with
  | e => exact up_e b
  | w => exact up_w b
  | n =>
    obtain ⟨p', q', b', c⟩ := up_e b.t
    have := b'.t
    rw [show (y + 1) * x - (x * y - a) = a + x by grind] at this
    exact ⟨q', p', this, by rw [cost_t, ← cost_t x y p q]; exact c⟩
  | s =>
    obtain ⟨p', q', b', c⟩ := up_w b.t
    have := b'.t
    rw [show (y - 1) * x - (x * y - a) = a - x by grind] at this
    exact ⟨q', p', this, by rw [cost_t, ← cost_t x y p q]; exact c⟩
/-- one less at some neighbour: over the first quarter, from half the oblong on -/
theorem down0 {x y a p q : Int} (b : Box x y a p q) (hx : 0 ≤ x) (hy : 0 ≤ y) (h2 : x * y ≤ 2 * a) (h0 : ¬ (x = 0 ∧ y = 0 ∧ a = 0)) :
    ∃ x' y' a' p' q', Stp x y a x' y' a' ∧ Box x' y' a' p' q' ∧ cost x' y' p' q' = cost x y p q - 1 := by
  obtain ⟨b1, b2, b3⟩ := b
  have t0 := pr_pos hx hy
  rw [gnd_le] at b3
  simp only [show ¬ x * y < 0 by omega, if_false] at b3
  have e1 : ab x = x := by unfold ab; split <;> omega
  have e2 : ab y = y := by unfold ab; split <;> omega
  rw [e1] at b1
  rw [e2] at b2
  by_cases hp : x < p
  · refine ⟨_, _, _, p, q, .e x y a, ⟨by unfold ab; split <;> omega, by rw [e2]; exact b2, ?_⟩, by unfold cost; rw [e1, e2]; unfold ab; split <;> omega⟩
    rw [gnd_le, show (x + 1) * y = x * y + y by grind]
    simp only [show ¬ x * y + y < 0 by omega, if_false]
    have h5 := pr_pos (show 0 ≤ p - x - 1 by omega) (show 0 ≤ q by omega)
    have h6 := pr_pos (show 0 ≤ x + 1 by omega) (show 0 ≤ q - y by omega)
    rw [show (p - x - 1) * q = p * q - x * q - q by grind] at h5
    rw [show (x + 1) * (q - y) = x * q - x * y + q - y by grind] at h6
    omega
  · have hpx : p = x := by omega
    subst hpx
    by_cases hq : y < q
    · have h5 := pr_pos hx (show 0 ≤ q - y - 1 by omega)
      rw [show p * (q - y - 1) = p * q - p * y - p by grind] at h5
      by_cases y1 : 1 ≤ y
      · refine ⟨_, _, _, p, q - 1, .s p y a, ⟨by rw [e1]; exact Int.le_refl _, by unfold ab; split <;> omega, ?_⟩, by unfold cost; rw [e1, e2]; unfold ab; split <;> omega⟩
        have h6 := pr_pos hx (show 0 ≤ y - 1 by omega)
        rw [gnd_le, show p * (y - 1) = p * y - p by grind, show p * (q - 1) = p * q - p by grind]
        rw [show p * (y - 1) = p * y - p by grind] at h6
        simp only [show ¬ p * y - p < 0 by omega, if_false]
        omega
      · have y0 : y = 0 := by omega
        subst y0
        refine ⟨_, _, _, p, q, .s p 0 a, ⟨by rw [e1]; exact Int.le_refl _, by unfold ab; split <;> omega, ?_⟩, by unfold cost; rw [e1, e2]; unfold ab; split <;> omega⟩
        rw [gnd_le, show p * (0 - 1) = -p by grind]
        rw [Int.mul_zero] at h5 h2 b3
        by_cases c : -p < 0 <;> simp only [c, if_true, if_false] <;> omega
    · have hqy : q = y := by omega
      subst hqy
      by_cases ha : 1 ≤ q ∧ p ≤ a
      · refine ⟨_, _, _, p, q - 1, .s p q a, ⟨by rw [e1]; exact Int.le_refl _, by unfold ab; split <;> omega, ?_⟩, by unfold cost; rw [e1, e2]; unfold ab; split <;> omega⟩
        have h6 := pr_pos hx (show 0 ≤ q - 1 by omega)
        rw [gnd_le, show p * (q - 1) = p * q - p by grind]
        rw [show p * (q - 1) = p * q - p by grind] at h6
        simp only [show ¬ p * q - p < 0 by omega, if_false]
        omega
      · have x1 : 1 ≤ p := by
          by_cases z : 1 ≤ p
          · exact z
          · have p0 : p = 0 := by omega
            subst p0
            rw [Int.zero_mul] at b3
            omega
        refine ⟨_, _, _, p - 1, q, .w p q a, ⟨by unfold ab; split <;> omega, by rw [e2]; exact Int.le_refl _, ?_⟩, by unfold cost; rw [e1, e2]; unfold ab; split <;> omega⟩
        have h6 := pr_pos (show 0 ≤ p - 1 by omega) hy
        rw [gnd_le, show (p - 1) * q = p * q - q by grind]
        rw [show (p - 1) * q = p * q - q by grind] at h6
        simp only [show ¬ p * q - q < 0 by omega, if_false]
        by_cases q1 : 1 ≤ q
        · have h7 := pr_pos (show 0 ≤ p - 1 by omega) (show 0 ≤ q - 1 by omega)
          rw [show (p - 1) * (q - 1) = p * q - p - q + 1 by grind] at h7
          omega
        · have q0 : q = 0 := by omega
          subst q0
          rw [Int.mul_zero] at b3 h2 ⊢
          omega
theorem down1 {x y a p q : Int} (b : Box x y a p q) (hx : 0 ≤ x) (hy : 0 ≤ y) (h0 : ¬ (x = 0 ∧ y = 0 ∧ a = 0)) :
    ∃ x' y' a' p' q', Stp x y a x' y' a' ∧ Box x' y' a' p' q' ∧ cost x' y' p' q' = cost x y p q - 1 := by
  by_cases h : x * y ≤ 2 * a
  · exact down0 b hx hy h h0
  · obtain ⟨x', y', a', p', q', s, b', c⟩ := down0 b.t hy hx (by rw [Int.mul_comm]; omega) (fun z => h0 ⟨z.2.1, z.1, by rw [z.1, Int.mul_zero] at z; omega⟩)
    have s' := s.t
    rw [show y * x - (x * y - a) = a by grind] at s'
    exact ⟨y', x', _, q', p', s', b'.t, by rw [cost_t, c, cost_t]⟩
theorem down {x y a p q : Int} (b : Box x y a p q) (h0 : ¬ (x = 0 ∧ y = 0 ∧ a = 0)) :
    ∃ x' y' a' p' q', Stp x y a x' y' a' ∧ Box x' y' a' p' q' ∧ cost x' y' p' q' = cost x y p q - 1 := by
  have half : ∀ {x y a p q : Int}, Box x y a p q → 0 ≤ y → ¬ (x = 0 ∧ y = 0 ∧ a = 0) → ∃ x' y' a' p' q', Stp x y a x' y' a' ∧ Box x' y' a' p' q' ∧ cost x' y' p' q' = cost x y p q - 1 := fun {x y a p q} b hy h0 => by
    by_cases hx : 0 ≤ x
    · exact down1 b hx hy h0
    · obtain ⟨x', y', a', p', q', s, b', c⟩ := down1 b.mx (by omega) hy (by omega)
      have s' := s.mx
      rw [show - -x = x by omega, show - -a = a by omega] at s'
      exact ⟨_, _, _, p', q', s', b'.mx, by rw [cost_mx, c, cost_mx]⟩
  by_cases hy : 0 ≤ y
  · exact half b hy h0
  · obtain ⟨x', y', a', p', q', s, b', c⟩ := half b.my (by omega) (by omega)
    have s' := s.my
    rw [show - -y = y by omega, show - -a = a by omega] at s'
    exact ⟨_, _, _, p', q', s', b'.my, by rw [cost_my, c, cost_my]⟩
/-! the formula -/
/-- c by ceiling: the least c with Z ≤ X * c -/
def ceilD (z m : Int) : Int := -((-z).fdiv m)
theorem ceilD_le {z m : Int} (hm : 0 < m) : z ≤ m * ceilD z m ∧ m * (ceilD z m - 1) < z := by
  unfold ceilD
  have h1 : m * (-z).fdiv m + (-z).fmod m = -z := Int.mul_fdiv_add_fmod (-z) m
  have h2 : 0 ≤ (-z).fmod m := Int.fmod_nonneg_of_pos _ hm
  have h3 : (-z).fmod m < m := Int.fmod_lt_of_pos _ hm
  rw [show m * (-(-z).fdiv m - 1) = -(m * (-z).fdiv m) - m by grind, Int.mul_neg]
  omega
def mor (x y : Int) : Int := if ab y ≤ ab x then ab x else ab y
def les (x y : Int) : Int := if ab y ≤ ab x then ab y else ab x
/-- what the formula tells, r being the least root of 4 * ground -/
def stpF (x y a r : Int) : Int :=
  if gnd x y a ≤ mor x y * les x y then mor x y + les x y
  else if gnd x y a ≤ mor x y * mor x y then 2 * ceilD (gnd x y a) (mor x y) + mor x y - les x y
  else 2 * r - mor x y - les x y
theorem mor_les (x y : Int) : mor x y + les x y = ab x + ab y ∧ les x y ≤ mor x y ∧ 0 ≤ les x y := by
  have h1 := ab_nonneg x
  have h2 := ab_nonneg y
  unfold mor les
  split <;> omega
theorem sq_lt {u v : Int} (hu : 0 ≤ u) (hv : 0 ≤ v) (h : u * u < v * v) : u < v := by
  by_cases c : u < v
  · exact c
  · have h1 := pr_pos (show 0 ≤ u - v by omega) (show 0 ≤ u + v by omega)
    rw [show (u - v) * (u + v) = u * u - v * v by grind] at h1
    omega
/-- no box is cheaper -/
theorem low_box {X Y Z p q r : Int} (hY : 0 ≤ Y) (hXY : Y ≤ X) (hp : X ≤ p) (hq : Y ≤ q) (hz : Z ≤ p * q) (hr : IsRt (4 * Z) r) :
    (if Z ≤ X * Y then X + Y else if Z ≤ X * X then 2 * ceilD Z X + X - Y else 2 * r - X - Y) ≤ 2 * (p + q) - X - Y := by
  split
  · omega
  · rename_i h1
    split
    · rename_i h2
      have hX : 0 < X := by
        by_cases c : 0 < X
        · exact c
        · have x0 : X = 0 := by omega
          subst x0
          rw [Int.zero_mul] at h1 h2
          omega
      obtain ⟨c1, c2⟩ := ceilD_le (z := Z) hX
      generalize ceilD Z X = c at *
      have hc : c ≤ X := by
        have : X * (c - 1) < X * X := Int.lt_of_lt_of_le c2 h2
        have := Int.lt_of_mul_lt_mul_left this (Int.le_of_lt hX)
        omega
      by_cases g : c + X ≤ p + q
      · omega
      · have h5 := pr_pos (show 0 ≤ p - X by omega) (show 0 ≤ X - c + 1 by omega)
        have h6 := pr_pos (show 0 ≤ p - X by omega) (show 0 ≤ p - X by omega)
        have h7 := pr_pos (show 0 ≤ p by omega) (show 0 ≤ c + X - 1 - p - q by omega)
        rw [show (p - X) * (X - c + 1) = p * X - p * c + p - X * X + X * c - X by grind] at h5
        rw [show (p - X) * (p - X) = p * p - 2 * (p * X) + X * X by grind] at h6
        rw [show p * (c + X - 1 - p - q) = p * c + p * X - p - p * p - p * q by grind] at h7
        rw [show X * (c - 1) = X * c - X by grind] at c2
        omega
    · have : r ≤ p + q := by
        by_cases c : r ≤ p + q
        · exact c
        · have h5 := hr.2.2 (by omega)
          have h6 := pr_pos (show 0 ≤ r - 1 - (p + q) by omega) (show 0 ≤ r - 1 + (p + q) by omega)
          rw [show (r - 1 - (p + q)) * (r - 1 + (p + q)) = (r - 1) * (r - 1) - (p * p + 2 * (p * q) + q * q) by grind] at h6
          have h7 : 0 ≤ (p - q) * (p - q) := by
            by_cases g : 0 ≤ p - q
            · exact pr_pos g g
            · have := pr_pos (show 0 ≤ q - p by omega) (show 0 ≤ q - p by omega)
              rw [show (q - p) * (q - p) = (p - q) * (p - q) by grind] at this
              exact this
          rw [show (p - q) * (p - q) = p * p - 2 * (p * q) + q * q by grind] at h7
          omega
      omega
/-- some box is as cheap -/
theorem has_box {X Y Z r : Int} (hY : 0 ≤ Y) (hXY : Y ≤ X) (hr : IsRt (4 * Z) r) : ∃ p q, X ≤ p ∧ Y ≤ q ∧ Z ≤ p * q ∧
    (if Z ≤ X * Y then X + Y else if Z ≤ X * X then 2 * ceilD Z X + X - Y else 2 * r - X - Y) = 2 * (p + q) - X - Y := by
  split
  · rename_i h1
    exact ⟨X, Y, Int.le_refl _, Int.le_refl _, h1, by omega⟩
  · rename_i h1
    split
    · rename_i h2
      have hX : 0 < X := by
        by_cases c : 0 < X
        · exact c
        · have x0 : X = 0 := by omega
          subst x0
          rw [Int.zero_mul] at h1 h2
          omega
      obtain ⟨c1, c2⟩ := ceilD_le (z := Z) hX
      generalize ceilD Z X = c at *
      have : Y < c := by
        have : X * Y < X * c := by omega
        exact Int.lt_of_mul_lt_mul_left this (Int.le_of_lt hX)
      exact ⟨X, c, Int.le_refl _, by omega, c1, by omega⟩
    · rename_i h2
      have h3 : 2 * X < r := sq_lt (by omega) hr.1 (by have := hr.2.1; rw [show 2 * X * (2 * X) = 4 * (X * X) by grind]; omega)
      have h4 := hr.2.1
      have ⟨k, hk⟩ : ∃ k, r = 2 * k ∨ r = 2 * k + 1 := ⟨r / 2, by omega⟩
      rcases hk with rfl | rfl
      · refine ⟨k, k, by omega, by omega, ?_, by omega⟩
        rw [show 2 * k * (2 * k) = 4 * (k * k) by grind] at h4
        omega
      · refine ⟨k + 1, k, by omega, by omega, ?_, by omega⟩
        rw [show (2 * k + 1) * (2 * k + 1) = 4 * (k * k) + 4 * k + 1 by grind] at h4
        rw [show (k + 1) * k = k * k + k by grind]
        omega
theorem stp_low {x y a p q r : Int} (b : Box x y a p q) (hr : IsRt (4 * gnd x y a) r) : stpF x y a r ≤ cost x y p q := by
  obtain ⟨h1, h2, h3⟩ := b
  obtain ⟨m1, m2, m3⟩ := mor_les x y
  have key : ∀ p q, mor x y ≤ p → les x y ≤ q → gnd x y a ≤ p * q → stpF x y a r ≤ 2 * (p + q) - mor x y - les x y := fun p q hp hq hz => low_box m3 m2 hp hq hz hr
  unfold cost
  unfold mor les at key m1
  split at key
  · rename_i c
    have := key p q h1 h2 h3
    omega
  · have := key q p h2 h1 (by rw [Int.mul_comm]; exact h3)
    omega
theorem stp_has {x y a r : Int} (hr : IsRt (4 * gnd x y a) r) : ∃ p q, Box x y a p q ∧ stpF x y a r = cost x y p q := by
  obtain ⟨m1, m2, m3⟩ := mor_les x y
  obtain ⟨p, q, hp, hq, hz, e⟩ := has_box (Z := gnd x y a) m3 m2 hr
  have e : stpF x y a r = 2 * (p + q) - mor x y - les x y := e
  unfold mor at hp
  unfold les at hq
  unfold cost
  split at hp <;> rename_i c <;> simp only [c, if_true, if_false] at hq
  · exact ⟨p, q, ⟨hp, hq, hz⟩, by omega⟩
  · exact ⟨q, p, ⟨hq, hp, by rw [Int.mul_comm]; exact hz⟩, by omega⟩
/-- the least root of a whole number -/
theorem rt_ex (n : Int) (h : 0 ≤ n) : ∃ r, IsRt n r := by
  have : ∀ k : Nat, (∃ r, 0 ≤ r ∧ r ≤ k ∧ IsRt n r) ∨ (k : Int) * k < n := fun k => by
    induction k with
    | zero =>
      by_cases c : n = 0
      · exact .inl ⟨0, by omega, by omega, by omega, by omega, by omega⟩
      · exact .inr (by simp; omega)
    | succ k ih =>
      rcases ih with ⟨r, h1, h2, h3⟩ | h
      · exact .inl ⟨r, h1, by omega, h3⟩
      · by_cases c : ((k + 1 : Nat) : Int) * (k + 1 : Nat) < n
        · exact .inr c
        · exact .inl ⟨(k + 1 : Nat), by omega, by omega, by omega, by omega, fun _ => by
            rw [show ((k + 1 : Nat) : Int) - 1 = k by omega]
            exact h⟩
  rcases this (n.toNat + 1) with ⟨r, _, _, h⟩ | h
  · exact ⟨r, h⟩
  · exfalso
    have e : ((n.toNat + 1 : Nat) : Int) = n + 1 := by omega
    rw [e, show (n + 1) * (n + 1) = n * n + 2 * n + 1 by grind] at h
    have := pr_pos (show (0:Int) ≤ n from by assumption) (show (0:Int) ≤ n from by assumption)
    omega
theorem rt_uniq {n r r' : Int} (h : IsRt n r) (h' : IsRt n r') : r = r' := by
  have key : ∀ {r r' : Int}, IsRt n r → IsRt n r' → r ≤ r' := fun {r r'} h h' => by
    by_cases c : r ≤ r'
    · exact c
    · have h1 := h.2.2 (by have := h'.1; omega)
      have h2 := h'.2.1
      have := sq_lt (by have := h'.1; omega) h'.1 (Int.lt_of_lt_of_le h1 h2)
      omega
  have h1 := key h h'
  have h2 := key h' h
  omega
open Classical in
noncomputable def rt (n : Int) : Int := if h : 0 ≤ n then Classical.choose (rt_ex n h) else 0
theorem rt_is {n : Int} (h : 0 ≤ n) : IsRt n (rt n) := by
  unfold rt
  rw [dif_pos h]
  exact Classical.choose_spec (rt_ex n h)
theorem rt_eq {n r : Int} (h : IsRt n r) : rt n = r := by
  by_cases c : 0 ≤ n
  · exact rt_uniq (rt_is c) h
  · unfold rt
    rw [dif_neg c]
    by_cases g : 0 < r
    · have := h.2.2 g
      have := pr_pos (show 0 ≤ r - 1 by omega) (show 0 ≤ r - 1 by omega)
      omega
    · have := h.1
      omega
/-- the steps of a place -/
noncomputable def stp (x y a : Int) : Int := stpF x y a (rt (4 * gnd x y a))
theorem g4 (x y a : Int) : 0 ≤ 4 * gnd x y a := by have := gnd_nonneg x y a; omega
theorem stp_le {x y a p q : Int} (b : Box x y a p q) : stp x y a ≤ cost x y p q := stp_low b (rt_is (g4 x y a))
theorem stp_box (x y a : Int) : ∃ p q, Box x y a p q ∧ stp x y a = cost x y p q := stp_has (rt_is (g4 x y a))
theorem stp_up {x y a x' y' a' : Int} (h : Stp x y a x' y' a') : stp x' y' a' ≤ stp x y a + 1 := by
  obtain ⟨p, q, b, e⟩ := stp_box x y a
  obtain ⟨p', q', b', c⟩ := up h b
  have := stp_le b'
  omega
theorem stp_par (x y a : Int) : (stp x y a - x - y) % 2 = 0 := by
  obtain ⟨p, q, b, e⟩ := stp_box x y a
  rw [e]
  unfold cost ab
  split <;> split <;> omega
theorem stp_adj {x y a x' y' a' : Int} (h : Stp x y a x' y' a') : stp x' y' a' = stp x y a + 1 ∨ stp x' y' a' = stp x y a - 1 := by
  have h1 := stp_up h
  have h2 := stp_up h.back
  have h3 := stp_par x y a
  have h4 := stp_par x' y' a'
  have h5 : (x' + y' - x - y) % 2 = 1 := by cases h <;> omega
  omega
theorem stp_dec {x y a : Int} (h0 : ¬ (x = 0 ∧ y = 0 ∧ a = 0)) : ∃ x' y' a', Stp x y a x' y' a' ∧ stp x' y' a' = stp x y a - 1 := by
  obtain ⟨p, q, b, e⟩ := stp_box x y a
  obtain ⟨x', y', a', p', q', s, b', c⟩ := down b h0
  refine ⟨x', y', a', s, ?_⟩
  have h1 := stp_le b'
  have h2 := stp_adj s
  omega
theorem stp_nonneg (x y a : Int) : 0 ≤ stp x y a := by
  obtain ⟨p, q, b, e⟩ := stp_box x y a
  rw [e]
  have := b.px
  have := b.qy
  have := ab_nonneg x
  have := ab_nonneg y
  unfold cost
  omega
theorem stp_zero : stp 0 0 0 = 0 := by
  have h := stp_le (x := 0) (y := 0) (a := 0) (p := 0) (q := 0) ⟨by decide, by decide, by decide⟩
  have h2 := stp_nonneg 0 0 0
  have : cost 0 0 0 0 = 0 := by decide
  omega
theorem stp_pos {x y a : Int} (h0 : ¬ (x = 0 ∧ y = 0 ∧ a = 0)) : 0 < stp x y a := by
  obtain ⟨x', y', a', s, e⟩ := stp_dec h0
  have := stp_nonneg x' y' a'
  omega
theorem stp_sym {x y a x' y' a' : Int} (h : ∀ p q, Box x y a p q → ∃ p' q', Box x' y' a' p' q' ∧ cost x' y' p' q' = cost x y p q) : stp x' y' a' ≤ stp x y a := by
  obtain ⟨p, q, b, e⟩ := stp_box x y a
  obtain ⟨p', q', b', c⟩ := h p q b
  have := stp_le b'
  omega
theorem stp_mx (x y a : Int) : stp (-x) y (-a) = stp x y a := by
  have key : ∀ x y a : Int, stp (-x) y (-a) ≤ stp x y a := fun x y a => stp_sym fun p q b => ⟨p, q, b.mx, cost_mx ..⟩
  have h1 := key x y a
  have h2 := key (-x) y (-a)
  rw [show - -x = x by omega, show - -a = a by omega] at h2
  omega
theorem stp_my (x y a : Int) : stp x (-y) (-a) = stp x y a := by
  have key : ∀ x y a : Int, stp x (-y) (-a) ≤ stp x y a := fun x y a => stp_sym fun p q b => ⟨p, q, b.my, cost_my ..⟩
  have h1 := key x y a
  have h2 := key x (-y) (-a)
  rw [show - -y = y by omega, show - -a = a by omega] at h2
  omega
theorem stp_t (x y a : Int) : stp y x (x * y - a) = stp x y a := by
  have key : ∀ x y a : Int, stp y x (x * y - a) ≤ stp x y a := fun x y a => stp_sym fun p q b => ⟨q, p, b.t, cost_t ..⟩
  have h1 := key x y a
  have h2 := key y x (x * y - a)
  rw [show y * x - (x * y - a) = a by grind] at h2
  omega
/-- a place, walked on by a step, ahead of it another one -/
theorem Stp.ahead {x y a x' y' a' : Int} (h : Stp x y a x' y' a') (u v b : Int) : Stp (u + x) (v + y) (b + a + u * y) (u + x') (v + y') (b + a' + u * y') := by
  cases h with
  | e => rw [show u + (x + 1) = u + x + 1 by omega]; exact .e ..
  | w => rw [show u + (x - 1) = u + x - 1 by omega]; exact .w ..
  | n => rw [show v + (y + 1) = v + y + 1 by omega, show b + (a + x) + u * (y + 1) = b + a + u * y + (u + x) by grind]; exact .n ..
  | s => rw [show v + (y - 1) = v + y - 1 by omega, show b + (a - x) + u * (y - 1) = b + a + u * y - (u + x) by grind]; exact .s ..
theorem stp_tri (u v b : Int) : ∀ (n : Nat) (x y a : Int), stp x y a = n → stp (u + x) (v + y) (b + a + u * y) ≤ stp u v b + n
  | 0, x, y, a, h => by
    by_cases h0 : x = 0 ∧ y = 0 ∧ a = 0
    · obtain ⟨rfl, rfl, rfl⟩ := h0
      rw [show u + 0 = u by omega, show v + 0 = v by omega, show b + 0 + u * 0 = b by grind]
      simp
    · have := stp_pos h0
      simp at h
      omega
  | n + 1, x, y, a, h => by
    by_cases h0 : x = 0 ∧ y = 0 ∧ a = 0
    · obtain ⟨rfl, rfl, rfl⟩ := h0
      rw [stp_zero] at h
      omega
    · obtain ⟨x', y', a', s, e⟩ := stp_dec h0
      have h1 := stp_tri u v b n x' y' a' (by omega)
      have h2 := stp_up (s.ahead u v b).back
      omega
theorem tri (u v b x y a : Int) : stp (u + x) (v + y) (b + a + u * y) ≤ stp u v b + stp x y a := by
  have h := stp_nonneg x y a
  obtain ⟨n, hn⟩ := Int.eq_ofNat_of_zero_le h
  have := stp_tri u v b n x y a hn
  omega
/-! closed values -/
theorem ab_of {x : Int} (h : 0 ≤ x) : ab x = x := by unfold ab; split <;> omega
theorem sq4 (p q : Int) : 4 * (p * q) ≤ (p + q) * (p + q) := by
  have h : 0 ≤ (p - q) * (p - q) := by
    by_cases g : 0 ≤ p - q
    · exact pr_pos g g
    · have := pr_pos (show 0 ≤ q - p by omega) (show 0 ≤ q - p by omega)
      rw [show (q - p) * (q - p) = (p - q) * (p - q) by grind] at this
      exact this
  rw [show (p - q) * (p - q) = (p + q) * (p + q) - 4 * (p * q) by grind] at h
  omega
theorem stp_congr {x y a x' y' a' : Int} (h : gnd x y a = gnd x' y' a') (hx : ab x = ab x') (hy : ab y = ab y') : stp x y a = stp x' y' a' := by
  unfold stp stpF mor les
  rw [h, hx, hy]
theorem stp_back (x y a : Int) : stp (-x) (-y) (x * y - a) = stp x y a := by
  refine stp_congr ?_ (ab_neg x) (ab_neg y)
  unfold gnd
  rw [show 2 * (x * y - a) - -x * -y = -(2 * a - x * y) by grind, show -x * -y = x * y by grind, ab_neg]
end ST
set_option maxRecDepth 100000
set_option maxHeartbeats 4000000
namespace ST
/-! ### walks as runs: the plain law -/
/-- letters: e 101, n 110, w 119, s 115 -/
def isL (c : Nat) : Prop := c = 101 ∨ c = 110 ∨ c = 119 ∨ c = 115
structure Sp where
  x : Int
  y : Int
  a : Int
def gone (p : Sp) (c : Nat) (t : Int) : Sp :=
  if c = 101 then ⟨p.x + t, p.y, p.a⟩ else if c = 119 then ⟨p.x - t, p.y, p.a⟩ else if c = 110 then ⟨p.x, p.y + t, p.a + p.x * t⟩ else ⟨p.x, p.y - t, p.a - p.x * t⟩
abbrev Runs := List (Nat × Int)
def led (p : Sp) : Runs → Sp
  | [] => p
  | (c, t) :: r => led (gone p c t) r
def len : Runs → Int
  | [] => 0
  | (_, t) :: r => t + len r
abbrev home : Sp := ⟨0, 0, 0⟩
/-- all letters are letters, all numbers are 0 or greater -/
def Good (r : Runs) : Prop := ∀ q ∈ r, isL q.1 ∧ 0 ≤ q.2
theorem Good.tail {q : Nat × Int} {r : Runs} (h : Good (q :: r)) : Good r := fun p hp => h p (List.mem_cons_of_mem _ hp)
theorem Good.head {q : Nat × Int} {r : Runs} (h : Good (q :: r)) : isL q.1 ∧ 0 ≤ q.2 := h q (List.mem_cons_self ..)
theorem Good.app {r r' : Runs} (h : Good r) (h' : Good r') : Good (r ++ r') := fun p hp => by
  rcases List.mem_append.mp hp with z | z
  · exact h p z
  · exact h' p z
theorem led_app (p : Sp) (r r' : Runs) : led p (r ++ r') = led (led p r) r' := by
  induction r generalizing p with
  | nil => rfl
  | cons q r ih => exact ih _
theorem len_app (r r' : Runs) : len (r ++ r') = len r + len r' := by
  induction r with
  | nil => simp [len]
  | cons q r ih => simp only [List.cons_append, len, ih]; omega
theorem len_nonneg {r : Runs} (h : Good r) : 0 ≤ len r := by
  induction r with
  | nil => exact Int.le_refl _
  | cons q r ih =>
    have h1 := h.head.2
    have h2 := ih h.tail
    simp only [len]
    omega
theorem gone_zero (p : Sp) (c : Nat) : gone p c 0 = p := by
  unfold gone
  split
  · simp
  · split
    · simp
    · split <;> simp
theorem gone_add (p : Sp) (c : Nat) (t u : Int) : gone (gone p c t) c u = gone p c (t + u) := by
  unfold gone
  split
  · simp; omega
  · split
    · simp; omega
    · split
      · simp only [Sp.mk.injEq, true_and]; exact ⟨by omega, by grind⟩
      · simp only [Sp.mk.injEq, true_and]; exact ⟨by omega, by grind⟩
/-- one step -/
theorem gone_one {p : Sp} {c : Nat} (h : isL c) : Stp p.x p.y p.a (gone p c 1).x (gone p c 1).y (gone p c 1).a := by
  unfold gone
  rcases h with rfl | rfl | rfl | rfl
  · exact .e ..
  · simp only [show ¬ (110 = 101) by decide, show ¬ (110 = 119) by decide, if_false, if_true, Int.mul_one]; exact .n ..
  · simp only [show ¬ (119 = 101) by decide, if_false, if_true]; exact .w ..
  · simp only [show ¬ (115 = 101) by decide, show ¬ (115 = 119) by decide, show ¬ (115 = 110) by decide, if_false, Int.mul_one]; exact .s ..
noncomputable def st (p : Sp) : Int := stp p.x p.y p.a
theorem st_gone1 {p : Sp} {c : Nat} (h : isL c) : st (gone p c 1) = st p + 1 ∨ st (gone p c 1) = st p - 1 := stp_adj (gone_one h)
theorem st_gone {p : Sp} {c : Nat} (h : isL c) : ∀ n : Nat, st (gone p c n) ≤ st p + n ∧ st p ≤ st (gone p c n) + n
  | 0 => by
    rw [show ((0 : Nat) : Int) = 0 from rfl, gone_zero]
    omega
  | n + 1 => by
    have h1 := st_gone (p := p) h n
    have h2 := st_gone1 (p := gone p c n) h
    rw [gone_add] at h2
    rw [show ((n + 1 : Nat) : Int) = (n : Int) + 1 by omega]
    omega
theorem st_goneI {p : Sp} {c : Nat} {t : Int} (h : isL c) (ht : 0 ≤ t) : st (gone p c t) ≤ st p + t ∧ st p ≤ st (gone p c t) + t := by
  obtain ⟨n, rfl⟩ := Int.eq_ofNat_of_zero_le ht
  exact st_gone h n
theorem st_led {p : Sp} {r : Runs} (h : Good r) : st (led p r) ≤ st p + len r := by
  induction r generalizing p with
  | nil => simp [led, len]
  | cons q r ih =>
    have h1 := (st_goneI (p := p) h.head.1 h.head.2).1
    have h2 := ih (p := gone p q.1 q.2) h.tail
    simp only [led, len]
    omega
theorem st_home : st home = 0 := stp_zero
/-- a walk is no shorter than the steps of its place -/
theorem st_le_len {r : Runs} (h : Good r) : st (led home r) ≤ len r := by
  have := st_led (p := home) h
  rw [st_home] at this
  omega
/-! ### runs put together -/
def mgStep (acc : Runs) (q : Nat × Int) : Runs := match acc.getLast? with
  | some l => if l.1 = q.1 then acc.dropLast ++ [(q.1, l.2 + q.2)] else if 0 < q.2 then acc ++ [q] else acc
  | none => if 0 < q.2 then acc ++ [q] else acc
def mg (r : Runs) : Runs := r.foldl mgStep []
/-- unlike letters next to one another, numbers from 1 on -/
def Neat : Runs → Prop
  | [] => True
  | [q] => isL q.1 ∧ 1 ≤ q.2
  | q :: q' :: r => (isL q.1 ∧ 1 ≤ q.2) ∧ q.1 ≠ q'.1 ∧ Neat (q' :: r)
theorem Neat.tail {q : Nat × Int} {r : Runs} (h : Neat (q :: r)) : Neat r := by
  cases r with
  | nil => trivial
  | cons q' r => exact h.2.2
theorem Neat.head {q : Nat × Int} {r : Runs} (h : Neat (q :: r)) : isL q.1 ∧ 1 ≤ q.2 := by
  cases r with
  | nil => exact h
  | cons q' r => exact h.1
theorem Neat.good : ∀ {r : Runs}, Neat r → Good r
  | [], _ => fun q hq => by cases hq
  | q :: r, h => fun p hp => by
    rcases List.mem_cons.mp hp with z | z
    · subst z
      exact ⟨h.head.1, by have := h.head.2; omega⟩
    · exact Neat.good h.tail p z
theorem neat_snoc : ∀ {r : Runs} {q : Nat × Int}, Neat r → isL q.1 → 1 ≤ q.2 → (∀ l, r.getLast? = some l → l.1 ≠ q.1) → Neat (r ++ [q])
  | [], q, _, h1, h2, _ => ⟨h1, h2⟩
  | [l], q, h, h1, h2, h3 => ⟨h, h3 l rfl, h1, h2⟩
  | l :: l' :: r, q, h, h1, h2, h3 => ⟨h.1, h.2.1, neat_snoc (r := l' :: r) h.2.2 h1 h2 (fun z hz => h3 z (by rw [List.getLast?_cons_cons]; exact hz))⟩
theorem neat_app : ∀ {r r' : Runs}, Neat (r ++ r') → Neat r ∧ Neat r'
  | [], r', h => ⟨trivial, h⟩
  | [q], [], h => ⟨h, trivial⟩
  | [q], q' :: r', h => ⟨h.head, h.tail⟩
  | q :: q' :: r, r', h => ⟨⟨h.1, h.2.1, (neat_app (r := q' :: r) h.2.2).1⟩, (neat_app (r := q' :: r) h.2.2).2⟩
theorem mgStep_ok {acc : Runs} {q : Nat × Int} (h : Neat acc) (h1 : isL q.1) (h2 : 0 ≤ q.2) (p : Sp) : Neat (mgStep acc q) ∧ led p (mgStep acc q) = gone (led p acc) q.1 q.2 ∧ len (mgStep acc q) = len acc + q.2 := by
  have zero : q.2 = 0 → led p acc = gone (led p acc) q.1 q.2 ∧ len acc = len acc + q.2 := fun z => by rw [z, gone_zero]; simp
  unfold mgStep
  split
  · rename_i l hl
    have e : acc = acc.dropLast ++ [l] := by
      rw [List.getLast?_eq_some_iff] at hl
      obtain ⟨ys, rfl⟩ := hl
      simp
    split
    · rename_i hc
      have hn := (neat_app (e ▸ h)).1
      have hl2 : isL l.1 ∧ 1 ≤ l.2 := (neat_app (r := acc.dropLast) (r' := [l]) (e ▸ h)).2
      refine ⟨neat_snoc hn h1 (by show 1 ≤ l.2 + q.2; omega) (fun l' hl' => ?_), ?_, ?_⟩
      · rw [List.getLast?_eq_some_iff] at hl'
        obtain ⟨ys, hy⟩ := hl'
        rw [hy] at e
        have : Neat (ys ++ ([l'] ++ [l])) := by rw [← List.append_assoc, ← e]; exact h
        have := (neat_app this).2
        rw [← hc]
        exact this.2.1
      · rw [led_app]
        conv => rhs; rw [e, led_app]
        show gone (led p acc.dropLast) q.1 (l.2 + q.2) = gone (gone (led p acc.dropLast) l.1 l.2) q.1 q.2
        rw [hc, gone_add]
      · rw [len_app]
        conv => rhs; rw [e, len_app]
        simp only [len]
        omega
    · rename_i hc
      split
      · refine ⟨neat_snoc h h1 (by omega) (fun l' hl' => ?_), by rw [led_app]; rfl, by rw [len_app]; simp only [len]; omega⟩
        rw [hl] at hl'
        cases hl'
        exact hc
      · exact ⟨h, zero (by omega)⟩
  · rename_i hl
    have e : acc = [] := List.getLast?_eq_none_iff.mp hl
    subst e
    split
    · exact ⟨⟨h1, by omega⟩, rfl, by simp [len]⟩
    · exact ⟨trivial, zero (by omega)⟩
theorem fold_ok (p : Sp) : ∀ (r acc : Runs), Good r → Neat acc → Neat (r.foldl mgStep acc) ∧ led p (r.foldl mgStep acc) = led (led p acc) r ∧ len (r.foldl mgStep acc) = len acc + len r
  | [], acc, _, h => ⟨h, rfl, by simp [len]⟩
  | q :: r, acc, g, h => by
    obtain ⟨h1, h2, h3⟩ := mgStep_ok h g.head.1 g.head.2 p
    obtain ⟨k1, k2, k3⟩ := fold_ok p r (mgStep acc q) g.tail h1
    refine ⟨k1, ?_, ?_⟩
    · show led p (r.foldl mgStep (mgStep acc q)) = led (gone (led p acc) q.1 q.2) r
      rw [k2, h2]
    · show len (r.foldl mgStep (mgStep acc q)) = len acc + (q.2 + len r)
      rw [k3, h3]
      omega
theorem mg_neat {r : Runs} (g : Good r) : Neat (mg r) := (fold_ok home r [] g trivial).1
theorem mg_led {r : Runs} (g : Good r) (p : Sp) : led p (mg r) = led p r := (fold_ok p r [] g trivial).2.1
theorem mg_len {r : Runs} (g : Good r) : len (mg r) = len r := by
  have := (fold_ok home r [] g trivial).2.2
  simp only [len] at this
  unfold mg
  omega
/-! ### the best sides for so many steps more -/
def bs (x y k : Int) : Int × Int := if k ≤ ab (x - y) then (if y ≤ x then (x, y + k) else (x + k, y)) else ((x + y + k + 1).fdiv 2, (x + y + k).fdiv 2)
theorem bs_ok {x y k : Int} (hx : 0 ≤ x) (hy : 0 ≤ y) (hk : 0 ≤ k) : x ≤ (bs x y k).1 ∧ y ≤ (bs x y k).2 ∧ (bs x y k).1 + (bs x y k).2 = x + y + k := by
  unfold bs ab
  rw [Int.fdiv_eq_ediv_of_nonneg _ (by decide), Int.fdiv_eq_ediv_of_nonneg _ (by decide)]
  by_cases c : x - y < 0
  · simp only [c, if_true]
    split
    · simp only [show ¬ y ≤ x by omega, if_false]; omega
    · simp only; omega
  · simp only [c, if_false]
    split
    · simp only [show y ≤ x by omega, if_true]; omega
    · simp only; omega
/-- no other sides hold more -/
theorem bs_max {x y k p q : Int} (hx : 0 ≤ x) (hy : 0 ≤ y) (hk : 0 ≤ k) (hp : x ≤ p) (hq : y ≤ q) (h : p + q = x + y + k) : p * q ≤ (bs x y k).1 * (bs x y k).2 := by
  have main : ∀ {u v p q : Int}, u + v = p + q → (u - v) * (u - v) ≤ (p - q) * (p - q) → p * q ≤ u * v := fun {u v p q} h1 h2 => by
    have e1 : (u - v) * (u - v) = (u + v) * (u + v) - 4 * (u * v) := by grind
    have e2 : (p - q) * (p - q) = (p + q) * (p + q) - 4 * (p * q) := by grind
    rw [e1, e2, h1] at h2
    omega
  have sqm : ∀ {s t : Int}, (s ≤ t ∨ s ≤ -t) → (-s ≤ t ∨ -s ≤ -t) → s * s ≤ t * t := fun {s t} h1 h2 => by
    have a1 : ab s ≤ ab t := by unfold ab; split <;> split <;> omega
    have a2 : ab s * ab s = s * s := by unfold ab; split <;> grind
    have a3 : ab t * ab t = t * t := by unfold ab; split <;> grind
    rw [← a2, ← a3]
    exact Int.mul_le_mul a1 a1 (ab_nonneg s) (ab_nonneg t)
  have hb := bs_ok hx hy hk
  have sol : ∀ u v : Int, u + v = p + q → (u - v ≤ p - q ∨ u - v ≤ -(p - q)) → (-(u - v) ≤ p - q ∨ -(u - v) ≤ -(p - q)) → p * q ≤ u * v := fun u v h1 h2 h3 => main h1 (sqm h2 h3)
  unfold bs ab
  rw [Int.fdiv_eq_ediv_of_nonneg _ (by decide), Int.fdiv_eq_ediv_of_nonneg _ (by decide)]
  by_cases c : x - y < 0
  · simp only [c, if_true]
    split
    · simp only [show ¬ y ≤ x by omega, if_false]
      exact sol _ _ (by omega) (by omega) (by omega)
    · exact sol _ _ (by omega) (by omega) (by omega)
  · simp only [c, if_false]
    split
    · simp only [show y ≤ x by omega, if_true]
      exact sol _ _ (by omega) (by omega) (by omega)
    · exact sol _ _ (by omega) (by omega) (by omega)
end ST
set_option maxRecDepth 100000
set_option maxHeartbeats 4000000
namespace ST
/-! ### the areas of walks of a length -/
def loA (x y m : Int) : Int := (x * y - (2 * m - ab (x * y))).fdiv 2
def hiA (x y m : Int) : Int := (x * y + (2 * m - ab (x * y))).fdiv 2
theorem between_iff (x y a m : Int) : (loA x y m ≤ a ∧ a ≤ hiA x y m) ↔ gnd x y a ≤ m := by
  rw [gnd_le]
  unfold loA hiA ab
  generalize x * y = t
  rw [Int.fdiv_eq_ediv_of_nonneg _ (by decide), Int.fdiv_eq_ediv_of_nonneg _ (by decide)]
  by_cases c : t < 0 <;> simp only [c, if_true, if_false] <;> omega
/-- a walk of n steps has room just if the steps are no more -/
theorem room_iff {x y a n k : Int} (hk : 0 ≤ k) (hn : n = ab x + ab y + 2 * k) : gnd x y a ≤ (bs (ab x) (ab y) k).1 * (bs (ab x) (ab y) k).2 ↔ stp x y a ≤ n := by
  have hx := ab_nonneg x
  have hy := ab_nonneg y
  obtain ⟨b1, b2, b3⟩ := bs_ok hx hy hk
  constructor
  · intro h
    have := stp_le ⟨b1, b2, h⟩
    unfold cost at this
    omega
  · intro h
    obtain ⟨p, q, b, e⟩ := stp_box x y a
    have c1 := b.px
    have c2 := b.qy
    have c3 := b.room
    unfold cost at e
    have hp := stp_par x y a
    have h2 : 0 ≤ n - stp x y a := by omega
    have h3 : ∃ d, 0 ≤ d ∧ p + d + q = ab x + ab y + k := ⟨ab x + ab y + k - p - q, by omega, by omega⟩
    obtain ⟨d, d0, d1⟩ := h3
    have h4 := bs_max hx hy hk (p := p + d) (q := q) (by omega) c2 d1
    have h5 := pr_pos d0 (show 0 ≤ q by omega)
    rw [show (p + d) * q = p * q + d * q by grind] at h4
    omega
/-! ### mirrored letters -/
def sw1 (c : Nat) : Nat := if c = 101 then 119 else if c = 119 then 101 else c
def sw2 (c : Nat) : Nat := if c = 110 then 115 else if c = 115 then 110 else c
def sw3 (c : Nat) : Nat := if c = 101 then 110 else if c = 110 then 101 else if c = 119 then 115 else if c = 115 then 119 else c
theorem isL_sw1 {c : Nat} (h : isL c) : isL (sw1 c) := by
  rcases h with rfl | rfl | rfl | rfl <;> unfold isL sw1 <;> decide
theorem isL_sw2 {c : Nat} (h : isL c) : isL (sw2 c) := by
  rcases h with rfl | rfl | rfl | rfl <;> unfold isL sw2 <;> decide
theorem isL_sw3 {c : Nat} (h : isL c) : isL (sw3 c) := by
  rcases h with rfl | rfl | rfl | rfl <;> unfold isL sw3 <;> decide
def mX (p : Sp) : Sp := ⟨-p.x, p.y, -p.a⟩
def mY (p : Sp) : Sp := ⟨p.x, -p.y, -p.a⟩
def mT (p : Sp) : Sp := ⟨p.y, p.x, p.x * p.y - p.a⟩
theorem gone_mX {p : Sp} {c : Nat} {t : Int} (h : isL c) : gone (mX p) (sw1 c) t = mX (gone p c t) := by
  rcases h with rfl | rfl | rfl | rfl <;> simp [gone, mX, sw1] <;> grind
theorem gone_mY {p : Sp} {c : Nat} {t : Int} (h : isL c) : gone (mY p) (sw2 c) t = mY (gone p c t) := by
  rcases h with rfl | rfl | rfl | rfl <;> simp [gone, mY, sw2] <;> grind
theorem gone_mT {p : Sp} {c : Nat} {t : Int} (h : isL c) : gone (mT p) (sw3 c) t = mT (gone p c t) := by
  rcases h with rfl | rfl | rfl | rfl <;> simp [gone, mT, sw3] <;> grind
abbrev mp (f : Nat → Nat) (r : Runs) : Runs := r.map fun q => (f q.1, q.2)
theorem led_mp {f : Nat → Nat} {m : Sp → Sp} (hf : ∀ {p : Sp} {c : Nat} {t : Int}, isL c → gone (m p) (f c) t = m (gone p c t)) : ∀ {r : Runs} {p : Sp}, Good r → led (m p) (mp f r) = m (led p r)
  | [], _, _ => rfl
  | q :: r, p, g => by
    show led (gone (m p) (f q.1) q.2) (mp f r) = m (led (gone p q.1 q.2) r)
    rw [hf g.head.1]
    exact led_mp hf g.tail
theorem len_mp (f : Nat → Nat) (r : Runs) : len (mp f r) = len r := by
  induction r with
  | nil => rfl
  | cons q r ih => show q.2 + len (mp f r) = q.2 + len r; rw [ih]
theorem good_mp {f : Nat → Nat} (hf : ∀ {c : Nat}, isL c → isL (f c)) {r : Runs} (g : Good r) : Good (mp f r) := fun q hq => by
  obtain ⟨q', h1, rfl⟩ := List.mem_map.mp hq
  exact ⟨hf (g q' h1).1, (g q' h1).2⟩
theorem mX_home : mX home = home := by simp [mX]
theorem mY_home : mY home = home := by simp [mY]
theorem mT_home : mT home = home := by simp [mT]
/-! ### a walk of so many steps -/
def colsOf (W H a : Int) : Int × Int := if (W * H - a).fdiv H = W then (W - 1, H) else ((W * H - a).fdiv H, (W * H - a).fmod H)
def wp (x y a k : Int) : Runs :=
  if (bs x y k).1 * (bs x y k).2 = 0 then [(115, (bs x y k).2 - y), (101, (bs x y k).1), (110, (bs x y k).2), (119, (bs x y k).1 - x)]
  else [(115, (bs x y k).2 - y), (101, (bs x y k).1 - 1 - (colsOf (bs x y k).1 (bs x y k).2 a).1), (110, (colsOf (bs x y k).1 (bs x y k).2 a).2), (101, 1), (110, (bs x y k).2 - (colsOf (bs x y k).1 (bs x y k).2 a).2), (101, (colsOf (bs x y k).1 (bs x y k).2 a).1), (119, (bs x y k).1 - x)]
/-- the walk in the first quarter -/
theorem wp_ok {x y a k : Int} (hx : 0 ≤ x) (hy : 0 ≤ y) (hk : 0 ≤ k) (h0 : 0 ≤ a) (h1 : a ≤ (bs x y k).1 * (bs x y k).2) : Good (wp x y a k) ∧ led home (wp x y a k) = ⟨x, y, a⟩ ∧ len (wp x y a k) = x + y + 2 * k := by
  obtain ⟨b1, b2, b3⟩ := bs_ok hx hy hk
  unfold wp
  generalize (bs x y k).1 = W at *
  generalize (bs x y k).2 = H at *
  have L : ∀ c : Nat, c = 101 ∨ c = 110 ∨ c = 119 ∨ c = 115 → isL c := fun c h => h
  split
  · rename_i hz
    refine ⟨fun q hq => ?_, ?_, ?_⟩
    · simp only [List.mem_cons, List.not_mem_nil, or_false] at hq
      rcases hq with rfl | rfl | rfl | rfl
      all_goals exact ⟨by unfold isL; simp, by simp only; omega⟩
    · simp only [led, gone]
      simp
      have : a = 0 := by omega
      exact ⟨by omega, by omega, by omega⟩
    · simp only [len]; omega
  · rename_i hz
    have hW : 0 < W := by
      by_cases c : 0 < W
      · exact c
      · have : W = 0 := by omega
        subst this
        simp at hz
    have hH : 0 < H := by
      by_cases c : 0 < H
      · exact c
      · have : H = 0 := by omega
        subst this
        simp at hz
    have e1 : H * (W * H - a).fdiv H + (W * H - a).fmod H = W * H - a := Int.mul_fdiv_add_fmod _ _
    have e2 : 0 ≤ (W * H - a).fmod H := Int.fmod_nonneg_of_pos _ hH
    have e3 : (W * H - a).fmod H < H := Int.fmod_lt_of_pos _ hH
    have key : ∃ c e : Int, colsOf W H a = (c, e) ∧ c * H + e = W * H - a ∧ 0 ≤ c ∧ c ≤ W - 1 ∧ 0 ≤ e ∧ e ≤ H := by
      unfold colsOf
      have q0 : 0 ≤ (W * H - a).fdiv H := Int.fdiv_nonneg (by omega) (by omega)
      generalize (W * H - a).fdiv H = c at *
      generalize (W * H - a).fmod H = e at *
      split
      · rename_i hc
        subst hc
        refine ⟨c - 1, H, rfl, ?_, by omega, by omega, by omega, by omega⟩
        have : H * c = c * H := Int.mul_comm _ _
        rw [show (c - 1) * H + H = c * H by grind]
        omega
      · rename_i hc
        refine ⟨c, e, rfl, by rw [Int.mul_comm]; exact e1, q0, ?_, e2, by omega⟩
        have h5 : H * c ≤ H * W := by rw [show H * W = W * H from Int.mul_comm _ _]; omega
        have := Int.le_of_mul_le_mul_left h5 hH
        omega
    obtain ⟨c, e, he, k1, k2, k3, k4, k5⟩ := key
    rw [he]
    refine ⟨fun q hq => ?_, ?_, ?_⟩
    · simp only [List.mem_cons, List.not_mem_nil, or_false] at hq
      rcases hq with rfl | rfl | rfl | rfl | rfl | rfl | rfl
      all_goals exact ⟨by unfold isL; simp, by simp only; omega⟩
    · simp only [led, gone]
      simp
      refine ⟨by omega, by omega, ?_⟩
      rw [show (W - 1 - c) * e + (W - 1 - c + 1) * (H - e) = W * H - (c * H + e) by grind, k1]
      omega
    · simp only [len]; omega
/-- as the program goes: mirrored to the first quarter and above the half -/
def pt (x y a n : Int) : Runs :=
  let x1 := if x < 0 then -x else x
  let a1 := if x < 0 then -a else a
  let y1 := if y < 0 then -y else y
  let a2 := if y < 0 then -a1 else a1
  let f1 : Nat → Nat := if x < 0 then sw1 else id
  let f2 : Nat → Nat := if y < 0 then fun c => f1 (sw2 c) else f1
  if 2 * a2 < x1 * y1 then mp (fun c => f2 (sw3 c)) (wp y1 x1 (x1 * y1 - a2) ((n - y1 - x1).fdiv 2)) else mp f2 (wp x1 y1 a2 ((n - x1 - y1).fdiv 2))
/-- what is known of a told walk -/
structure Leads (r : Runs) (p : Sp) (n : Int) : Prop where
  good : Good r
  to : led home r = p
  len : len r = n
theorem Leads.sw {f : Nat → Nat} {m : Sp → Sp} (hf : ∀ {p : Sp} {c : Nat} {t : Int}, isL c → gone (m p) (f c) t = m (gone p c t)) (hl : ∀ {c : Nat}, isL c → isL (f c)) (hh : m home = home) {r : Runs} {p : Sp} {n : Int} (h : Leads r p n) : Leads (mp f r) (m p) n :=
  ⟨good_mp hl h.good, by have := led_mp (f := f) (m := m) (fun h => hf h) (p := home) h.good; rw [hh] at this; rw [this, h.to], by rw [len_mp]; exact h.len⟩
theorem pt_ok {x y a n k : Int} (hk : 0 ≤ k) (hn : n = ab x + ab y + 2 * k) (hs : stp x y a ≤ n) : Leads (pt x y a n) ⟨x, y, a⟩ n := by
  have core : ∀ x y a : Int, 0 ≤ x → 0 ≤ y → n = x + y + 2 * k → x * y ≤ 2 * a → stp x y a ≤ n → Leads (wp x y a ((n - x - y).fdiv 2)) ⟨x, y, a⟩ n := fun x y a hx hy hn h2 hs => by
    have e : (n - x - y).fdiv 2 = k := by rw [Int.fdiv_eq_ediv_of_nonneg _ (by decide)]; omega
    rw [e]
    have t0 := pr_pos hx hy
    have hg := (room_iff (x := x) (y := y) (a := a) hk (by rw [ab_of hx, ab_of hy]; exact hn)).mpr hs
    rw [ab_of hx, ab_of hy, (gnd_max x y a).1 t0, if_pos h2] at hg
    obtain ⟨w1, w2, w3⟩ := wp_ok hx hy hk (by omega) hg
    exact ⟨w1, w2, by omega⟩
  have quarter : ∀ x y a : Int, 0 ≤ x → 0 ≤ y → n = x + y + 2 * k → stp x y a ≤ n → Leads (if 2 * a < x * y then mp sw3 (wp y x (x * y - a) ((n - y - x).fdiv 2)) else wp x y a ((n - x - y).fdiv 2)) ⟨x, y, a⟩ n := fun x y a hx hy hn hs => by
    split
    · rename_i c
      have := core y x (x * y - a) hy hx (by omega) (by rw [Int.mul_comm y x]; omega) (by rw [stp_t]; exact hs)
      have := this.sw gone_mT isL_sw3 mT_home
      rw [show mT ⟨y, x, x * y - a⟩ = ⟨x, y, a⟩ by simp only [mT, Sp.mk.injEq, true_and]; grind] at this
      exact this
    · rename_i c
      exact core x y a hx hy hn (by omega) hs
  have upper : ∀ x y a : Int, 0 ≤ x → n = x + ab y + 2 * k → stp x y a ≤ n → Leads (if y < 0 then mp sw2 (if 2 * -a < x * -y then mp sw3 (wp (-y) x (x * -y - -a) ((n - -y - x).fdiv 2)) else wp x (-y) (-a) ((n - x - -y).fdiv 2)) else (if 2 * a < x * y then mp sw3 (wp y x (x * y - a) ((n - y - x).fdiv 2)) else wp x y a ((n - x - y).fdiv 2))) ⟨x, y, a⟩ n := fun x y a hx hn hs => by
    split
    · rename_i c
      have := quarter x (-y) (-a) hx (by omega) (by rw [hn]; unfold ab; simp only [c, if_true]) (by rw [stp_my]; exact hs)
      have := this.sw gone_mY isL_sw2 mY_home
      rw [show mY ⟨x, -y, -a⟩ = ⟨x, y, a⟩ by simp [mY]] at this
      exact this
    · rename_i c
      exact quarter x y a hx (by omega) (by rw [hn]; unfold ab; simp only [c, if_false]) hs
  unfold pt
  by_cases cx : x < 0
  · have := upper (-x) y (-a) (by omega) (by rw [hn]; unfold ab; simp only [cx, if_true]) (by rw [stp_mx]; exact hs)
    have := this.sw gone_mX isL_sw1 mX_home
    rw [show mX ⟨-x, y, -a⟩ = ⟨x, y, a⟩ by simp [mX]] at this
    simp only [cx, if_true]
    by_cases cy : y < 0
    · simp only [cy, if_true] at this ⊢
      split at this
      · rename_i c; rw [if_pos c]; simpa [mp, Function.comp_def] using this
      · rename_i c; rw [if_neg c]; simpa [mp, Function.comp_def] using this
    · simp only [cy, if_false] at this ⊢
      split at this
      · rename_i c; rw [if_pos c]; simpa [mp, Function.comp_def] using this
      · rename_i c; rw [if_neg c]; simpa [mp, Function.comp_def] using this
  · have := upper x y a (by omega) (by rw [hn]; unfold ab; simp only [cx, if_false]) hs
    simp only [cx, if_false]
    by_cases cy : y < 0
    · simp only [cy, if_true] at this ⊢
      split at this
      · rename_i c; rw [if_pos c]; simpa [mp, Function.comp_def] using this
      · rename_i c; rw [if_neg c]; simpa [mp, Function.comp_def] using this
    · simp only [cy, if_false] at this ⊢
      split at this
      · rename_i c; rw [if_pos c]; simpa [mp, Function.comp_def] using this
      · rename_i c; rw [if_neg c]; simpa [mp, Function.comp_def] using this
end ST
set_option maxRecDepth 100000
set_option maxHeartbeats 4000000
namespace ST
/-! ### which numbers of steps have a walk -/
theorem stp_ge (x y a : Int) : ab x + ab y ≤ stp x y a := by
  obtain ⟨p, q, b, e⟩ := stp_box x y a
  have h1 := b.px
  have h2 := b.qy
  unfold cost at e
  omega
/-- the areas that so many steps can sweep -/
def lim (x y n : Int) : Option (Int × Int) :=
  if n - ab x - ab y < 0 ∨ (n - ab x - ab y).fmod 2 = 1 then none
  else some (loA x y ((bs (ab x) (ab y) ((n - ab x - ab y).fdiv 2)).1 * (bs (ab x) (ab y) ((n - ab x - ab y).fdiv 2)).2), hiA x y ((bs (ab x) (ab y) ((n - ab x - ab y).fdiv 2)).1 * (bs (ab x) (ab y) ((n - ab x - ab y).fdiv 2)).2))
/-- what walk_of looks for -/
def ptO (x y a n : Int) : Option Runs := match lim x y n with
  | none => none
  | some (lo, hi) => if lo ≤ a ∧ a ≤ hi then some (pt x y a n) else none
theorem ab_par (x : Int) : (ab x - x) % 2 = 0 := by unfold ab; split <;> omega
theorem lim_none {x y n : Int} (a : Int) (h : lim x y n = none) : ¬ (stp x y a ≤ n ∧ (n - stp x y a) % 2 = 0) := by
  unfold lim at h
  have h1 := stp_ge x y a
  have h2 := stp_par x y a
  have h3 := ab_par x
  have h4 := ab_par y
  rw [Int.fmod_eq_emod_of_nonneg _ (by decide)] at h
  split at h
  · omega
  · cases h
theorem lim_some {x y n lo hi : Int} (a : Int) (h : lim x y n = some (lo, hi)) : (∃ k, 0 ≤ k ∧ n = ab x + ab y + 2 * k) ∧ ((lo ≤ a ∧ a ≤ hi) ↔ stp x y a ≤ n) ∧ (n - stp x y a) % 2 = 0 := by
  unfold lim at h
  have h2 := stp_par x y a
  have h3 := ab_par x
  have h4 := ab_par y
  rw [Int.fmod_eq_emod_of_nonneg _ (by decide), Int.fdiv_eq_ediv_of_nonneg _ (by decide)] at h
  split at h
  · cases h
  · rename_i c
    cases h
    have hk : 0 ≤ (n - ab x - ab y) / 2 := by omega
    have hn : n = ab x + ab y + 2 * ((n - ab x - ab y) / 2) := by omega
    refine ⟨⟨_, hk, hn⟩, ?_, by omega⟩
    rw [between_iff]
    exact room_iff hk hn
theorem ptO_eq (x y a n : Int) : ptO x y a n = if stp x y a ≤ n ∧ (n - stp x y a) % 2 = 0 then some (pt x y a n) else none := by
  unfold ptO
  cases h : lim x y n with
  | none => rw [if_neg (lim_none a h)]
  | some p =>
    obtain ⟨lo, hi⟩ := p
    obtain ⟨_, h1, h2⟩ := lim_some a h
    by_cases c : stp x y a ≤ n
    · simp only [if_pos (h1.mpr c), if_pos (And.intro c h2)]
    · simp only [if_neg (fun z => c (h1.mp z)), if_neg (fun z : stp x y a ≤ n ∧ _ => c z.1)]
theorem pt_leads {x y a n : Int} (h : stp x y a ≤ n) (h' : (n - stp x y a) % 2 = 0) : Leads (pt x y a n) ⟨x, y, a⟩ n := by
  have h1 := stp_ge x y a
  have h2 := stp_par x y a
  have h3 := ab_par x
  have h4 := ab_par y
  exact pt_ok (k := (n - ab x - ab y) / 2) (by omega) (by omega) h
/-! ### how many runs -/
def cnt (r : Runs) : Nat := (r.filter fun q => decide (0 < q.2)).length
theorem cnt_le (r : Runs) : cnt r ≤ r.length := List.length_filter_le ..
theorem cnt_mp (f : Nat → Nat) (r : Runs) : cnt (mp f r) = cnt r := by
  induction r with
  | nil => rfl
  | cons q r ih =>
    obtain ⟨c, t⟩ := q
    simp only [cnt, mp, List.map_cons, List.filter_cons] at *
    split <;> simp [ih]
theorem fold_cnt : ∀ (r acc : Runs), (r.foldl mgStep acc).length ≤ acc.length + cnt r
  | [], acc => by simp
  | q :: r, acc => by
    have h := fold_cnt r (mgStep acc q)
    have h1 : (mgStep acc q).length + cnt r ≤ acc.length + cnt (q :: r) := by
      have h2 : cnt (q :: r) = cnt r + if 0 < q.2 then 1 else 0 := by
        unfold cnt
        rw [List.filter_cons]
        by_cases c : 0 < q.2
        · simp [c]
        · simp [c]
      rw [h2]
      unfold mgStep
      cases e : acc.getLast? with
      | none =>
        simp only
        split
        · simp; omega
        · omega
      | some l =>
        have hne : 0 < acc.length := by
          cases acc with
          | nil => cases e
          | cons => simp
        simp only
        split
        · simp; omega
        · split
          · simp; omega
          · omega
    exact Nat.le_trans h h1
theorem mg_cnt (r : Runs) : (mg r).length ≤ cnt r := by
  have := fold_cnt r []
  rw [List.length_nil, Nat.zero_add] at this
  exact this
theorem wp_len (x y a k : Int) : (wp x y a k).length ≤ 7 := by
  unfold wp
  split <;> simp
theorem pt_len (x y a n : Int) : (pt x y a n).length ≤ 7 := by
  have h : ∀ (c : Prop) [Decidable c] (f g : Nat → Nat) (u v : Runs), u.length ≤ 7 → v.length ≤ 7 → List.length (if c then mp f u else mp g v) ≤ 7 := fun c _ f g u v hu hv => by
    split
    · rw [mp, List.length_map]; exact hu
    · rw [mp, List.length_map]; exact hv
  exact h _ _ _ _ _ (wp_len ..) (wp_len ..)
theorem mg_pt (x y a n : Int) : (mg (pt x y a n)).length ≤ 7 := Nat.le_trans (mg_cnt _) (Nat.le_trans (cnt_le _) (pt_len ..))
theorem wp_six {x y a k n : Int} (hx : 0 ≤ x) (hy : 0 ≤ y) (hk : 0 ≤ k) (hn : n = x + y + 2 * k) (h2 : x * y ≤ 2 * a) (hs : stp x y a = n) : cnt (wp x y a k) ≤ 6 := by
  have t0 := pr_pos hx hy
  have room := (room_iff (x := x) (y := y) (a := a) hk (by rw [ab_of hx, ab_of hy]; exact hn)).mpr (Int.le_of_eq hs)
  have hg : gnd x y a = a := by rw [(gnd_max x y a).1 t0, if_pos h2]
  rw [ab_of hx, ab_of hy, hg] at room
  obtain ⟨b1, b2, b3⟩ := bs_ok hx hy hk
  have key : (bs x y k).1 = x ∨ (bs x y k).2 = y ∨ (bs x y k).1 * (bs x y k).2 - a < (bs x y k).2 := by
    by_cases c : k ≤ ab (x - y)
    · by_cases c1 : y ≤ x
      · left; unfold bs; rw [if_pos c, if_pos c1]
      · right; left; unfold bs; rw [if_pos c, if_neg c1]
    · right; right
      have e1 : (bs x y k).1 = (x + y + k + 1) / 2 := by unfold bs; rw [if_neg c, Int.fdiv_eq_ediv_of_nonneg _ (by decide)]
      have e2 : (bs x y k).2 = (x + y + k) / 2 := by unfold bs; rw [if_neg c]; simp only; rw [Int.fdiv_eq_ediv_of_nonneg _ (by decide)]
      have hab : x - y ≤ ab (x - y) ∧ y - x ≤ ab (x - y) ∧ 0 ≤ ab (x - y) := by unfold ab; split <;> omega
      have r2 := room_iff (x := x) (y := y) (a := a) (n := n - 2) (k := k - 1) (by omega) (by rw [ab_of hx, ab_of hy]; omega)
      rw [ab_of hx, ab_of hy, hg] at r2
      have mx := bs_max (x := x) (y := y) (k := k - 1) (p := (bs x y k).1 - 1) (q := (bs x y k).2) hx hy (by omega) (by omega) (by omega) (by omega)
      have nr : ¬ a ≤ (bs x y (k - 1)).1 * (bs x y (k - 1)).2 := fun z => by have := r2.mp z; omega
      generalize (bs x y k).1 = W at *
      generalize (bs x y k).2 = H at *
      rw [show (W - 1) * H = W * H - H by grind] at mx
      omega
  unfold wp
  generalize (bs x y k).1 = W at *
  generalize (bs x y k).2 = H at *
  split
  · exact Nat.le_trans (cnt_le _) (by simp)
  · rename_i hz
    have hH : 0 < H := by
      by_cases c : 0 < H
      · exact c
      · have : H = 0 := by omega
        subst this
        simp at hz
    have hW : 0 < W := by
      by_cases c : 0 < W
      · exact c
      · have : W = 0 := by omega
        subst this
        simp at hz
    have lt : ∀ r : Runs, (∃ q ∈ r, ¬ 0 < q.2) → cnt r < r.length := fun r ⟨q, h1, h2⟩ => by
      unfold cnt
      rw [List.length_filter_lt_length_iff_exists]
      exact ⟨q, h1, by simpa using h2⟩
    refine Nat.le_of_lt_succ (lt _ ?_)
    rcases key with e | e | e
    · exact ⟨(119, W - x), by simp, by simp only; omega⟩
    · exact ⟨(115, H - y), by simp, by simp only; omega⟩
    · have q0 : (W * H - a).fdiv H = 0 := by
        rw [Int.fdiv_eq_ediv_of_nonneg _ (by omega)]
        exact Int.ediv_eq_zero_of_lt (by omega) e
      have : (colsOf W H a).1 = 0 := by
        unfold colsOf
        rw [q0, if_neg (by omega)]
      exact ⟨(101, (colsOf W H a).1), by simp, by simp only; omega⟩
theorem pt_six {x y a : Int} : cnt (pt x y a (stp x y a)) ≤ 6 := by
  have h1 := stp_ge x y a
  have h2 := stp_par x y a
  have h3 := ab_par x
  have h4 := ab_par y
  generalize hn : stp x y a = n at *
  simp only [pt]
  have e0 : stp (if x < 0 then -x else x) (if y < 0 then -y else y) (if y < 0 then -(if x < 0 then -a else a) else (if x < 0 then -a else a)) = n := by
    by_cases c : x < 0
    · by_cases d : y < 0
      · simp only [if_pos c, if_pos d]; rw [stp_my, stp_mx, hn]
      · simp only [if_pos c, if_neg d]; rw [stp_mx, hn]
    · by_cases d : y < 0
      · simp only [if_neg c, if_pos d]; rw [stp_my, hn]
      · simp only [if_neg c, if_neg d]; rw [hn]
  have px : 0 ≤ (if x < 0 then -x else x) := ab_nonneg x
  have py : 0 ≤ (if y < 0 then -y else y) := ab_nonneg y
  have ex : (if x < 0 then -x else x) = ab x := rfl
  have ey : (if y < 0 then -y else y) = ab y := rfl
  generalize (if y < 0 then -(if x < 0 then -a else a) else (if x < 0 then -a else a)) = A at *
  generalize (if x < 0 then -x else x) = X at *
  generalize (if y < 0 then -y else y) = Y at *
  split
  · rename_i c
    rw [cnt_mp]
    refine wp_six (n := n) py px (by rw [Int.fdiv_eq_ediv_of_nonneg _ (by decide)]; omega) (by rw [Int.fdiv_eq_ediv_of_nonneg _ (by decide)]; omega) ?_ (by rw [stp_t, e0])
    rw [show Y * X = X * Y from Int.mul_comm _ _]
    omega
  · rw [cnt_mp]
    exact wp_six (n := n) px py (by rw [Int.fdiv_eq_ediv_of_nonneg _ (by decide)]; omega) (by rw [Int.fdiv_eq_ediv_of_nonneg _ (by decide)]; omega) (by omega) e0
end ST
namespace ST
/-! walks parted -/
def mn (a b : Int) : Int := if b < a then b else a
theorem mn_le {a b : Int} : mn a b ≤ a ∧ mn a b ≤ b := by unfold mn; split <;> omega
theorem mn_nn {a b : Int} (h : 0 ≤ a) (k : 0 ≤ b) : 0 ≤ mn a b := by unfold mn; split <;> omega
def hd : Runs → Int → Runs
  | [], _ => []
  | q :: r, k => (q.1, mn k q.2) :: hd r (k - mn k q.2)
def tl : Runs → Int → Runs
  | [], _ => []
  | q :: r, k => (q.1, q.2 - mn k q.2) :: tl r (k - mn k q.2)
theorem hd_snoc : ∀ (r : Runs) (q : Nat × Int) (k : Int), hd (r ++ [q]) k = hd r k ++ [(q.1, mn (k - len (hd r k)) q.2)]
  | [], q, k => by simp [hd, len]
  | p :: r, q, k => by
    show (p.1, mn k p.2) :: hd (r ++ [q]) (k - mn k p.2) = _
    rw [hd_snoc r q]
    show _ = (p.1, mn k p.2) :: (hd r (k - mn k p.2) ++ [(q.1, mn (k - (mn k p.2 + len (hd r (k - mn k p.2)))) q.2)])
    rw [show k - (mn k p.2 + len (hd r (k - mn k p.2))) = k - mn k p.2 - len (hd r (k - mn k p.2)) by omega]
theorem tl_snoc : ∀ (r : Runs) (q : Nat × Int) (k : Int), tl (r ++ [q]) k = tl r k ++ [(q.1, q.2 - mn (k - len (hd r k)) q.2)]
  | [], q, k => by simp [hd, tl, len]
  | p :: r, q, k => by
    show (p.1, p.2 - mn k p.2) :: tl (r ++ [q]) (k - mn k p.2) = _
    rw [tl_snoc r q]
    show _ = (p.1, p.2 - mn k p.2) :: (tl r (k - mn k p.2) ++ [(q.1, q.2 - mn (k - (mn k p.2 + len (hd r (k - mn k p.2)))) q.2)])
    rw [show k - (mn k p.2 + len (hd r (k - mn k p.2))) = k - mn k p.2 - len (hd r (k - mn k p.2)) by omega]
theorem hd_length : ∀ (r : Runs) (k : Int), (hd r k).length = r.length
  | [], _ => rfl
  | q :: r, k => by simp [hd, hd_length r]
theorem tl_length : ∀ (r : Runs) (k : Int), (tl r k).length = r.length
  | [], _ => rfl
  | q :: r, k => by simp [tl, tl_length r]
theorem hd_good : ∀ {r : Runs} {k : Int}, Good r → 0 ≤ k → Good (hd r k)
  | [], _, _, _ => fun _ h => nomatch h
  | q :: r, k, g, hk => fun p hp => by
    have h0 := g.head
    have h1 := mn_le (a := k) (b := q.2)
    rcases List.mem_cons.mp hp with rfl | hp
    · exact ⟨h0.1, mn_nn hk h0.2⟩
    · exact hd_good g.tail (by omega) p hp
theorem tl_good : ∀ {r : Runs} {k : Int}, Good r → 0 ≤ k → Good (tl r k)
  | [], _, _, _ => fun _ h => nomatch h
  | q :: r, k, g, hk => fun p hp => by
    have h0 := g.head
    have h1 := mn_le (a := k) (b := q.2)
    rcases List.mem_cons.mp hp with rfl | hp
    · exact ⟨h0.1, by show 0 ≤ q.2 - mn k q.2; omega⟩
    · exact tl_good g.tail (by omega) p hp
theorem hd_len : ∀ {r : Runs} {k : Int}, Good r → 0 ≤ k → k ≤ len r → len (hd r k) = k
  | [], k, _, h, h' => by
    show (0 : Int) = k
    have : len ([] : Runs) = 0 := rfl
    omega
  | q :: r, k, g, hk, h' => by
    have h0 := g.head
    have h1 := mn_le (a := k) (b := q.2)
    have h2 := len_nonneg g.tail
    have h3 : len (q :: r) = q.2 + len r := rfl
    show mn k q.2 + len (hd r (k - mn k q.2)) = k
    rw [hd_len g.tail (by omega) (by unfold mn; split <;> omega)]
    omega
theorem hd_tl_len : ∀ (r : Runs) (k : Int), len (hd r k) + len (tl r k) = len r
  | [], _ => rfl
  | q :: r, k => by
    have := hd_tl_len r (k - mn k q.2)
    show mn k q.2 + len (hd r (k - mn k q.2)) + (q.2 - mn k q.2 + len (tl r (k - mn k q.2))) = q.2 + len r
    omega
theorem hd_zero : ∀ {r : Runs} (p : Sp), Good r → led p (hd r 0) = p
  | [], _, _ => rfl
  | q :: r, p, g => by
    have h0 := g.head.2
    have : mn 0 q.2 = 0 := by unfold mn; split <;> omega
    show led (gone p q.1 (mn 0 q.2)) (hd r (0 - mn 0 q.2)) = p
    rw [this, gone_zero]
    exact hd_zero p g.tail
theorem tl_zero : ∀ {r : Runs}, Good r → tl r 0 = r
  | [], _ => rfl
  | q :: r, g => by
    have h0 := g.head.2
    have : mn 0 q.2 = 0 := by unfold mn; split <;> omega
    show (q.1, q.2 - mn 0 q.2) :: tl r (0 - mn 0 q.2) = _
    rw [this, show (0 : Int) - 0 = 0 from rfl, tl_zero g.tail]
    simp
theorem hd_tl_led : ∀ {r : Runs} {k : Int} (p : Sp), Good r → 0 ≤ k → led (led p (hd r k)) (tl r k) = led p r
  | [], _, _, _, _ => rfl
  | q :: r, k, p, g, hk => by
    have h0 := g.head.2
    show led (gone (led (gone p q.1 (mn k q.2)) (hd r (k - mn k q.2))) q.1 (q.2 - mn k q.2)) (tl r (k - mn k q.2)) = led (gone p q.1 q.2) r
    by_cases c : q.2 < k
    · have e : mn k q.2 = q.2 := by unfold mn; rw [if_pos c]
      rw [e, Int.sub_self, gone_zero]
      exact hd_tl_led _ g.tail (by omega)
    · have e : mn k q.2 = k := by unfold mn; rw [if_neg c]
      rw [e, Int.sub_self, hd_zero _ g.tail, tl_zero g.tail, gone_add, show k + (q.2 - k) = q.2 by omega]
/-! the middle of a least walk -/
/-- the product of two spots -/
def mul (p q : Sp) : Sp := ⟨p.x + q.x, p.y + q.y, p.a + q.a + p.x * q.y⟩
def inv (p : Sp) : Sp := ⟨-p.x, -p.y, p.x * p.y - p.a⟩
theorem mul_gone (p q : Sp) (c : Nat) (t : Int) : gone (mul p q) c t = mul p (gone q c t) := by
  unfold gone mul
  repeat' split
  all_goals (simp only [Sp.mk.injEq]; refine ⟨by grind, by grind, by grind⟩)
theorem mul_led (p : Sp) : ∀ (r : Runs) (q : Sp), led (mul p q) r = mul p (led q r)
  | [], _ => rfl
  | c :: r, q => by
    show led (gone (mul p q) c.1 c.2) r = mul p (led (gone q c.1 c.2) r)
    rw [mul_gone, mul_led p r]
theorem mul_home (p : Sp) : mul p home = p := by simp [mul]
theorem led_from (p : Sp) (r : Runs) : led p r = mul p (led home r) := by
  rw [← mul_led, mul_home]
theorem mul_assoc (p q s : Sp) : mul (mul p q) s = mul p (mul q s) := by
  unfold mul
  simp only [Sp.mk.injEq]
  refine ⟨by omega, by omega, by grind⟩
theorem inv_mul (p : Sp) : mul (inv p) p = home := by
  unfold mul inv
  simp only [Sp.mk.injEq]
  refine ⟨by omega, by omega, by grind⟩
theorem mul_inv (p : Sp) : mul p (inv p) = home := by
  unfold mul inv
  simp only [Sp.mk.injEq]
  refine ⟨by omega, by omega, by grind⟩
theorem home_mul (p : Sp) : mul home p = p := by simp [mul]
theorem inv_inv (p : Sp) : inv (inv p) = p := by
  unfold inv
  cases p
  simp only [Sp.mk.injEq]
  refine ⟨by omega, by omega, by grind⟩
theorem inv_of_mul (p q : Sp) : inv (mul p q) = mul (inv q) (inv p) := by
  unfold mul inv
  simp only [Sp.mk.injEq]
  refine ⟨by omega, by omega, by grind⟩
theorem cancel (t p q : Sp) : mul (inv (mul t p)) (mul t q) = mul (inv p) q := by
  rw [inv_of_mul, mul_assoc, ← mul_assoc (inv t), inv_mul, home_mul]
theorem st_tri (p q : Sp) : st (mul p q) ≤ st p + st q := tri ..
theorem st_inv (p : Sp) : st (inv p) = st p := stp_back ..
/-- the steps between two places -/
noncomputable def dst (p q : Sp) : Int := st (mul (inv p) q)
theorem dst_sym (p q : Sp) : dst p q = dst q p := by
  unfold dst
  rw [← st_inv, inv_of_mul, inv_inv]
theorem dst_tri (p q s : Sp) : dst p q ≤ dst p s + dst s q := by
  unfold dst
  have h : mul (inv p) q = mul (mul (inv p) s) (mul (inv s) q) := by
    rw [mul_assoc, ← mul_assoc s, mul_inv, home_mul]
  rw [h]
  exact st_tri _ _
theorem dst_move (t p q : Sp) : dst (mul t p) (mul t q) = dst p q := by unfold dst; rw [cancel]
theorem inv_home : inv home = home := by simp [inv]
theorem dst_home (p : Sp) : dst home p = st p := by unfold dst; rw [inv_home, home_mul]
theorem st_zero {p : Sp} (h : st p = 0) : p = home := by
  obtain ⟨x, y, a⟩ := p
  by_cases c : x = 0 ∧ y = 0 ∧ a = 0
  · obtain ⟨rfl, rfl, rfl⟩ := c; rfl
  · have := stp_pos c
    have : stp x y a = 0 := h
    omega
theorem mid {p q : Sp} {r : Runs} (g : Good r) (to : led home r = mul (inv p) q) (hl : len r = dst p q) {k : Int} (hk : 0 ≤ k) (hk2 : k ≤ len r) :
    dst p (mul p (led home (hd r k))) = k ∧ dst (mul p (led home (hd r k))) q = len r - k := by
  have h1 := hd_len g hk hk2
  have h2 := hd_tl_len r k
  have h3 := hd_tl_led home g hk
  have h4 : dst p (mul p (led home (hd r k))) ≤ k := by
    have : dst (mul p home) (mul p (led home (hd r k))) = st (led home (hd r k)) := by rw [dst_move, dst_home]
    rw [mul_home] at this
    rw [this]
    have := st_le_len (hd_good g hk)
    omega
  have h5 : dst (mul p (led home (hd r k))) q ≤ len r - k := by
    have : q = mul p (led home r) := by rw [to, ← mul_assoc, mul_inv, home_mul]
    rw [this, dst_move, ← h3, led_from (led home (hd r k)), ← mul_home (led home (hd r k))]
    rw [show mul (mul (led home (hd r k)) home) (led home (tl r k)) = mul (led home (hd r k)) (led home (tl r k)) by rw [mul_home], dst_move, dst_home]
    have := st_le_len (tl_good g hk)
    omega
  have h6 := dst_tri p q (mul p (led home (hd r k)))
  omega
end ST
namespace ST
/-! ### letters that lead nearer -/
abbrev four : List Nat := [101, 110, 119, 115]
noncomputable def nr (p : Sp) : List Nat := four.filter fun c => decide (st (gone p c 1) < st p)
theorem four_isL {c : Nat} (h : c ∈ four) : isL c := by
  simp only [four, List.mem_cons, List.not_mem_nil, or_false] at h
  exact h
theorem isL_four {c : Nat} (h : isL c) : c ∈ four := by
  rcases h with rfl | rfl | rfl | rfl <;> simp [four]
theorem mem_nr {p : Sp} {c : Nat} : c ∈ nr p ↔ isL c ∧ st (gone p c 1) < st p := by
  unfold nr
  rw [List.mem_filter, decide_eq_true_eq]
  exact ⟨fun h => ⟨four_isL h.1, h.2⟩, fun h => ⟨isL_four h.1, h.2⟩⟩
/-- the step of a letter as a place -/
def stepP (c : Nat) : Sp := gone home c 1
theorem gone_mul (p : Sp) (c : Nat) (t : Int) : gone p c t = mul p (gone home c t) := by
  rw [← mul_gone, mul_home]
theorem nr_home : nr home = [] := by
  unfold nr
  rw [List.filter_eq_nil_iff]
  intro c _
  rw [decide_eq_true_eq]
  have h1 : st home = 0 := st_home
  have h2 : 0 ≤ st (gone home c 1) := stp_nonneg ..
  omega
theorem nr_ne {p : Sp} (h : p ≠ home) : nr p ≠ [] := by
  obtain ⟨x, y, a⟩ := p
  have h0 : ¬ (x = 0 ∧ y = 0 ∧ a = 0) := fun ⟨h1, h2, h3⟩ => h (by subst h1 h2 h3; rfl)
  obtain ⟨x', y', a', hs, hd⟩ := stp_dec h0
  have key : ∀ c, isL c → gone ⟨x, y, a⟩ c 1 = ⟨x', y', a'⟩ → nr ⟨x, y, a⟩ ≠ [] := fun c hc e z => by
    have : c ∈ nr ⟨x, y, a⟩ := mem_nr.mpr ⟨hc, by rw [e]; show stp x' y' a' < stp x y a; omega⟩
    rw [z] at this
    cases this
  rcases hs with ⟨rfl, rfl, rfl⟩ | ⟨rfl, rfl, rfl⟩ | ⟨rfl, rfl, rfl⟩ | ⟨rfl, rfl, rfl⟩
  · exact key 101 (by simp [isL]) (by simp [gone])
  · exact key 119 (by simp [isL]) (by simp [gone]; try omega)
  · exact key 110 (by simp [isL]) (by simp [gone])
  · exact key 115 (by simp [isL]) (by simp [gone]; try omega)
theorem nr_nil {p : Sp} : nr p = [] ↔ p = home := ⟨fun h => by
  by_cases c : p = home
  · exact c
  · exact absurd h (nr_ne c), fun h => h ▸ nr_home⟩
/-- the letters with which a least walk can begin -/
theorem first_eq (p : Sp) {c : Nat} (hc : isL c) : (st (mul (inv (stepP c)) p) < st p) ↔ c ∈ nr (inv p) := by
  rw [mem_nr, st_inv, gone_mul, ← st_inv (mul (inv p) _), inv_of_mul, inv_inv]
  exact ⟨fun h => ⟨hc, h⟩, fun h => h.2⟩
/-- the letter turned about -/
def about (c : Nat) : Nat := if c = 101 then 119 else if c = 119 then 101 else if c = 110 then 115 else 110
/-! ### summits -/
end ST
namespace ST
/-! ### beginnings of walks -/
theorem hd_len' : ∀ {r : Runs} {k : Int}, Good r → 0 ≤ k → len (hd r k) = mn k (len r)
  | [], k, _, hk => by
    show (0 : Int) = mn k 0
    unfold mn; split <;> omega
  | q :: r, k, g, hk => by
    have h0 := g.head.2
    have h2 := len_nonneg g.tail
    have h1 := mn_le (a := k) (b := q.2)
    show mn k q.2 + len (hd r (k - mn k q.2)) = mn k (q.2 + len r)
    rw [hd_len' g.tail (by omega)]
    unfold mn
    repeat' split
    all_goals omega
theorem hd_app : ∀ (u v : Runs) (k : Int), hd (u ++ v) k = hd u k ++ hd v (k - len (hd u k))
  | [], v, k => by
    show hd v k = hd v (k - 0)
    rw [Int.sub_zero]
  | q :: u, v, k => by
    show (q.1, mn k q.2) :: hd (u ++ v) (k - mn k q.2) = (q.1, mn k q.2) :: (hd u (k - mn k q.2) ++ hd v (k - (mn k q.2 + len (hd u (k - mn k q.2)))))
    rw [hd_app u v, show k - mn k q.2 - len (hd u (k - mn k q.2)) = k - (mn k q.2 + len (hd u (k - mn k q.2))) by omega]
theorem hd_hd : ∀ {r : Runs} {k j : Int}, Good r → 0 ≤ j → j ≤ k → hd (hd r k) j = hd r j
  | [], _, _, _, _, _ => rfl
  | q :: r, k, j, g, hj, hk => by
    have h0 := g.head.2
    have e : mn j (mn k q.2) = mn j q.2 := by
      unfold mn
      repeat' split
      all_goals omega
    show (q.1, mn j (mn k q.2)) :: hd (hd r (k - mn k q.2)) (j - mn j (mn k q.2)) = (q.1, mn j q.2) :: hd r (j - mn j q.2)
    rw [e, hd_hd g.tail]
    · have := mn_le (a := j) (b := q.2); omega
    · unfold mn
      repeat' split
      all_goals omega
/-- along a walk the steps grow by one at most -/
theorem along {r : Runs} {j k : Int} (p : Sp) (g : Good r) (hj : 0 ≤ j) (hk : j ≤ k) (hl : k ≤ len r) : st (led p (hd r k)) ≤ st (led p (hd r j)) + (k - j) := by
  have gk := hd_good g (show 0 ≤ k by omega)
  have h1 := hd_tl_led p gk hj
  rw [hd_hd g hj hk] at h1
  have h2 := st_led (p := led p (hd r j)) (tl_good gk hj)
  rw [h1] at h2
  have h3 := hd_tl_len (hd r k) j
  rw [hd_hd g hj hk, hd_len g hj (by omega), hd_len g (by omega) hl] at h3
  omega
theorem hd_all {r : Runs} (p : Sp) (g : Good r) : led p (hd r (len r)) = led p r := by
  have h0 := len_nonneg g
  have h1 := hd_tl_led p g h0
  have h3 := hd_tl_len r (len r)
  rw [hd_len g h0 (Int.le_refl _)] at h3
  have gt := tl_good g h0
  have key : ∀ {u : Runs} (q : Sp), Good u → len u = 0 → led q u = q := by
    intro u
    induction u with
    | nil => intro q _ _; rfl
    | cons c u ih =>
      intro q gu hu
      have e1 : len (c :: u) = c.2 + len u := rfl
      have e2 := gu.head.2
      have e3 := len_nonneg gu.tail
      have : c.2 = 0 := by omega
      show led (gone q c.1 c.2) u = q
      rw [this, gone_zero]
      exact ih q gu.tail (by omega)
  rw [key _ gt (by omega)] at h1
  exact h1
/-- a beginning of a least walk is least -/
theorem pre_least {r : Runs} {j k : Int} (g : Good r) (hj : 0 ≤ j) (hk : j ≤ k) (hl : k ≤ len r) (h : st (led home (hd r k)) = k) : st (led home (hd r j)) = j := by
  have h1 := along home g hj hk hl
  have h2 := st_le_len (hd_good g hj)
  rw [hd_len g hj (by omega)] at h2
  omega
theorem mg_hd_step {acc : Runs} {q : Nat × Int} (ga : Good acc) (hq : 0 ≤ q.2) (p : Sp) {k : Int} (hk : 0 ≤ k) : led p (hd (mgStep acc q) k) = led p (hd (acc ++ [q]) k) := by
  have hm : 0 ≤ k - len (hd acc k) := by
    rw [hd_len' ga hk]
    have := mn_le (a := k) (b := len acc)
    omega
  unfold mgStep
  cases hl : acc.getLast? with
  | none =>
    have : acc = [] := List.getLast?_eq_none_iff.mp hl
    subst this
    simp only
    split
    · rfl
    · have : q.2 = 0 := by omega
      show p = led p (hd [q] k)
      show p = gone p q.1 (mn k q.2)
      rw [this, show mn k 0 = 0 by unfold mn; split <;> omega, gone_zero]
  | some l =>
    rw [List.getLast?_eq_some_iff] at hl
    obtain ⟨ys, rfl⟩ := hl
    have gy : Good ys := fun z hz => ga z (by simp [hz])
    have l0 := (ga l (by simp)).2
    have hm2 : 0 ≤ k - len (hd ys k) := by
      rw [hd_len' gy hk]
      have := mn_le (a := k) (b := len ys)
      omega
    simp only
    split
    · rename_i c
      rw [List.dropLast_concat, hd_snoc, hd_snoc, hd_snoc, led_app, led_app, led_app, len_app]
      generalize led p (hd ys k) = u at *
      generalize len (hd ys k) = m at *
      show gone u q.1 (mn (k - m) (l.2 + q.2)) = gone (gone u l.1 (mn (k - m) l.2)) q.1 (mn (k - (m + (mn (k - m) l.2 + 0))) q.2)
      rw [← c, gone_add]
      congr 1
      unfold mn
      repeat' split
      all_goals omega
    · split
      · rfl
      · have z : q.2 = 0 := by omega
        rw [hd_snoc (ys ++ [l]) q, led_app]
        show _ = gone (led p (hd (ys ++ [l]) k)) q.1 (mn _ q.2)
        rw [z, show mn (k - len (hd (ys ++ [l]) k)) 0 = 0 by unfold mn; split <;> omega, gone_zero]
theorem mg_hd_fold (p : Sp) {k : Int} (hk : 0 ≤ k) : ∀ (r acc : Runs), Good r → Neat acc → led p (hd (r.foldl mgStep acc) k) = led p (hd (acc ++ r) k)
  | [], acc, _, _ => by simp
  | q :: r, acc, g, n => by
    have h := g.head
    have n2 := mgStep_ok n h.1 h.2 p
    rw [List.foldl_cons, mg_hd_fold p hk r _ g.tail n2.1, hd_app, led_app, mg_hd_step n.good h.2 p hk]
    have gq : Good (acc ++ [q]) := n.good.app fun z hz => by
      rcases List.mem_singleton.mp hz with rfl
      exact h
    rw [hd_len' n2.1.good hk, n2.2.2, show len acc + q.2 = len (acc ++ [q]) by rw [len_app]; show _ = len acc + (q.2 + 0); omega, ← hd_len' gq hk, ← led_app, ← hd_app, List.append_assoc]
    rfl
/-- runs put together lead the same way -/
theorem mg_hd {r : Runs} (g : Good r) (p : Sp) {k : Int} (hk : 0 ≤ k) : led p (hd (mg r) k) = led p (hd r k) := by
  have := mg_hd_fold p hk r [] g trivial
  rwa [List.nil_append] at this
/-! ### the first steps that are not least -/
structure NL (r : Runs) (f : Int) : Prop where
  pos : 0 < f
  le : f ≤ len r
  not : st (led home (hd r f)) ≠ f
  pre : st (led home (hd r (f - 1))) = f - 1
def Fnl (r : Runs) (o : Option Int) : Prop := match o with
  | none => st (led home r) = len r
  | some f => NL r f
theorem NL.long {r : Runs} {f : Int} (g : Good r) (h : NL r f) : st (led home r) ≠ len r := fun e => by
  have h1 := h.pos
  rw [← hd_all home g] at e
  exact h.not (pre_least g (by omega) h.le (Int.le_refl _) e)
theorem NL.head {r : Runs} {f : Int} (g : Good r) (h : NL r f) : NL (mg (hd r f)) f := by
  have h1 := h.pos
  have gh := hd_good g (show 0 ≤ f by omega)
  have hl := hd_len g (show 0 ≤ f by omega) h.le
  refine ⟨h1, by rw [mg_len gh, hl]; omega, ?_, ?_⟩
  · rw [mg_hd gh home (by omega), hd_hd g (by omega) (Int.le_refl _)]; exact h.not
  · rw [mg_hd gh home (by omega), hd_hd g (by omega) (by omega)]; exact h.pre
end ST
namespace ST
/-! ### runs put together: what is the same by steps -/
def Eqv (r r' : Runs) : Prop := ∀ A : Runs, r.foldl mgStep A = r'.foldl mgStep A
theorem Eqv.mg {r r' : Runs} (h : Eqv r r') : mg r = mg r' := h []
theorem Eqv.trans {a b c : Runs} (h : Eqv a b) (k : Eqv b c) : Eqv a c := fun A => (h A).trans (k A)
theorem Eqv.symm {a b : Runs} (h : Eqv a b) : Eqv b a := fun A => (h A).symm
theorem Eqv.app {a b c d : Runs} (h : Eqv a b) (k : Eqv c d) : Eqv (a ++ c) (b ++ d) := fun A => by rw [List.foldl_append, List.foldl_append, h A, k]
theorem Eqv.refl (r : Runs) : Eqv r r := fun _ => rfl
/-! ### how far a walk goes -/
structure Bx where
  p : Sp
  lx : Int
  hx : Int
  ly : Int
  hy : Int
def bxStep (s : Bx) (q : Nat × Int) : Bx :=
  ⟨gone s.p q.1 q.2, if (gone s.p q.1 q.2).x < s.lx then (gone s.p q.1 q.2).x else s.lx, if (gone s.p q.1 q.2).x > s.hx then (gone s.p q.1 q.2).x else s.hx, if (gone s.p q.1 q.2).y < s.ly then (gone s.p q.1 q.2).y else s.ly, if (gone s.p q.1 q.2).y > s.hy then (gone s.p q.1 q.2).y else s.hy⟩
def BxI (s : Bx) : Prop := s.lx ≤ s.p.x ∧ s.p.x ≤ s.hx ∧ s.ly ≤ s.p.y ∧ s.p.y ≤ s.hy
theorem gone_xy (p : Sp) (c : Nat) (t : Int) : ((gone p c t).x = p.x + t ∧ (gone p c t).y = p.y) ∨ ((gone p c t).x = p.x - t ∧ (gone p c t).y = p.y) ∨ ((gone p c t).x = p.x ∧ (gone p c t).y = p.y + t) ∨ ((gone p c t).x = p.x ∧ (gone p c t).y = p.y - t) := by
  unfold gone
  repeat' split
  all_goals simp
end ST
namespace ST
/-! ### frames of the least price, one for each step -/
noncomputable def lowF (w h R : Int) : Int := if 2 * R < 2 * w * w then 2 * w + ceilD (2 * R) w else if 2 * R < 2 * h * h then 2 * h + ceilD (2 * R) h else rt (16 * R)
theorem low_side {w R W H : Int} (hw : 0 < w) (hH : 0 ≤ H) (hW : w ≤ W) (hR : R ≤ W * H) (c : 2 * R < 2 * w * w) : 2 * w + ceilD (2 * R) w ≤ 2 * (W + H) := by
  have key : 2 * R ≤ w * (2 * (W - w) + 2 * H) := by
    by_cases z : H ≤ w
    · have h1 := Int.mul_nonneg (show 0 ≤ W - w by omega) (show 0 ≤ w - H by omega)
      rw [show (W - w) * (w - H) = W * w - W * H - w * w + w * H by grind] at h1
      rw [show w * (2 * (W - w) + 2 * H) = 2 * (W * w) - 2 * (w * w) + 2 * (w * H) by grind]
      omega
    · have h1 := Int.mul_nonneg (show 0 ≤ w by omega) (show 0 ≤ (W - w) + (H - w) by omega)
      rw [show w * (W - w + (H - w)) = W * w - 2 * (w * w) + w * H by grind] at h1
      have h2 := Int.mul_nonneg (show 0 ≤ w by omega) (show 0 ≤ W - w by omega)
      have h3 := Int.mul_nonneg (show 0 ≤ w by omega) (show 0 ≤ H - w by omega)
      rw [show w * (2 * (W - w) + 2 * H) = 2 * (w * (W - w)) + 2 * (w * (H - w)) + 2 * (w * w) by grind]
      rw [show 2 * w * w = 2 * (w * w) by grind] at c
      omega
  obtain ⟨_, h2⟩ := ceilD_le (z := 2 * R) hw
  have h3 : w * (ceilD (2 * R) w - 1) < w * (2 * (W - w) + 2 * H) := by omega
  have h4 := Int.lt_of_mul_lt_mul_left h3 (by omega)
  omega
theorem low_le {w h R W H : Int} (hw : 0 ≤ w) (hh : 0 ≤ h) (hW : w ≤ W) (hH : h ≤ H) (hR : R ≤ W * H) (h0 : 0 ≤ R) : lowF w h R ≤ 2 * (W + H) := by
  unfold lowF
  split
  · rename_i c
    refine low_side ?_ (by omega) hW hR c
    by_cases z : w = 0
    · subst z; omega
    · omega
  · split
    · rename_i c
      rw [Int.add_comm W H]
      refine low_side ?_ (by omega) hH (by rw [Int.mul_comm]; exact hR) c
      by_cases z : h = 0
      · subst z; omega
      · omega
    · obtain ⟨r0, r1, r2⟩ := rt_is (show 0 ≤ 16 * R by omega)
      by_cases z : rt (16 * R) ≤ 2 * (W + H)
      · exact z
      · have h1 := r2 (by omega)
        have h2 := sq4 W H
        have h3 : 2 * (W + H) ≤ rt (16 * R) - 1 := by omega
        have h4 := Int.mul_le_mul h3 h3 (by omega) (by omega)
        rw [show 2 * (W + H) * (2 * (W + H)) = 4 * ((W + H) * (W + H)) by grind] at h4
        omega
def mxx (a b : Int) : Int := if b > a then b else a
def mid2 (s w h : Int) : Int := mn (mxx (s.fdiv 2) w) (s - h)
theorem mid_best {s w h W H : Int} (hW : w ≤ W) (hH : h ≤ H) (hs : W + H = s) : w ≤ mid2 s w h ∧ mid2 s w h ≤ s - h ∧ W * H ≤ mid2 s w h * (s - mid2 s w h) := by
  have e : H = s - W := by omega
  subst e
  have hd : s.fdiv 2 = s / 2 := Int.fdiv_eq_ediv_of_nonneg _ (by decide)
  have hm : ∃ m, mid2 s w h = m ∧ w ≤ m ∧ m ≤ s - h ∧ ((W ≤ m ∧ 0 ≤ s - m - W) ∨ (m ≤ W ∧ s - m - W ≤ 0)) := by
    refine ⟨_, rfl, ?_⟩
    unfold mid2 mxx mn
    rw [hd]
    split
    · split <;> omega
    · split <;> omega
  obtain ⟨m, e, h1, h2, h3⟩ := hm
  rw [e]
  refine ⟨h1, h2, ?_⟩
  have id : m * (s - m) - W * (s - W) = (m - W) * (s - m - W) := by grind
  have : 0 ≤ (m - W) * (s - m - W) := by
    rcases h3 with ⟨a, b⟩ | ⟨a, b⟩
    · exact Int.mul_nonneg (by omega) b
    · have := Int.mul_nonneg (show 0 ≤ -(m - W) by omega) (show 0 ≤ -(s - m - W) by omega)
      rwa [Int.neg_mul_neg] at this
  omega
/-- the least sum of the sides -/
theorem least_sum (x y a : Int) : ∃ s, stp x y a = 2 * s - ab x - ab y ∧ (∃ W H, ab x ≤ W ∧ ab y ≤ H ∧ gnd x y a ≤ W * H ∧ W + H = s) ∧ ∀ W H, ab x ≤ W → ab y ≤ H → gnd x y a ≤ W * H → s ≤ W + H := by
  obtain ⟨p, q, b, h⟩ := stp_box x y a
  refine ⟨p + q, h, ⟨p, q, b.px, b.qy, b.room, rfl⟩, fun W H h1 h2 h3 => ?_⟩
  have := stp_le ⟨h1, h2, h3⟩
  unfold cost at this h
  omega
theorem room_eq (x y a : Int) : mxx (a + mxx 0 (-(x * y))) (mxx 0 (x * y) - a) = gnd x y a := by
  obtain ⟨h1, h2⟩ := gnd_max x y a
  unfold mxx
  by_cases c : 0 ≤ x * y
  · rw [h1 c]
    repeat' split
    all_goals omega
  · rw [h2 (by omega)]
    repeat' split
    all_goals omega
theorem led_par : ∀ {r : Runs} (p : Sp), ((led p r).x + (led p r).y - p.x - p.y - len r) % 2 = 0
  | [], p => by
    show (p.x + p.y - p.x - p.y - 0) % 2 = 0
    omega
  | q :: r, p => by
    have h := led_par (r := r) (gone p q.1 q.2)
    have h2 := gone_xy p q.1 q.2
    show ((led (gone p q.1 q.2) r).x + (led (gone p q.1 q.2) r).y - p.x - p.y - (q.2 + len r)) % 2 = 0
    omega
theorem st_par {r : Runs} : (st (led home r) - len r) % 2 = 0 := by
  have h := led_par (r := r) home
  have h2 := stp_par (led home r).x (led home r).y (led home r).a
  have e : st (led home r) = stp (led home r).x (led home r).y (led home r).a := rfl
  have e1 : home.x = 0 := rfl
  have e2 : home.y = 0 := rfl
  rw [e1, e2] at h
  omega
end ST
set_option maxRecDepth 100000
set_option maxHeartbeats 4000000
set_option exponentiation.threshold 4000
namespace DL
open ST
/-! ### how great places are -/
theorem bd_plus {x y : Int} {n : Nat} (h : Bd x n) (k : Bd y n) : Bd (x + y) (n + 1) := ⟨by
  have := h.lt
  have := k.lt
  rw [Nat.pow_succ]
  omega⟩
structure Sz (n : Nat) (p : Sp) : Prop where
  x : Bd p.x n
  y : Bd p.y n
  a : Bd p.a (2 * n + 20)
theorem Sz.mono {n m : Nat} {p : Sp} (h : Sz n p) (hm : n ≤ m) : Sz m p := ⟨h.x.le hm, h.y.le hm, h.a.le (by omega)⟩
theorem Sz.mul {n : Nat} {p q : Sp} (h : Sz n p) (k : Sz n q) : Sz (n + 1) (mul p q) :=
  ⟨bd_plus h.x k.x, bd_plus h.y k.y, by
    have h1 := bd_plus h.a k.a
    have h2 : Bd (p.x * q.y) (n + n) := @bd_mul _ _ _ _ h.x k.y
    exact (bd_plus h1 (h2.le (by omega))).le (by omega)⟩
theorem Sz.inv {n : Nat} {p : Sp} (h : Sz n p) : Sz (n + 1) (inv p) :=
  ⟨(@bd_neg _ _ h.x).le (by omega), (@bd_neg _ _ h.y).le (by omega), by
    have h2 : Bd (p.x * p.y) (n + n) := @bd_mul _ _ _ _ h.x h.y
    have h3 := @bd_neg _ _ h.a
    have h4 := bd_plus (h2.le (show n + n ≤ 2 * n + 20 by omega)) h3
    rw [show p.x * p.y + -p.a = p.x * p.y - p.a by omega] at h4
    exact h4.le (by omega)⟩
theorem Sz.mulOk {n : Nat} {p q : Sp} (h : Sz n p) (k : Sz n q) (hn : n < 40000) : mulOk p.x q.y = true := mulOk_of h.x k.y (by omega)
theorem ab_lt {x : Int} {n : Nat} (h : Bd x n) : ab x < 2 ^ n := by
  have := h.lt
  have e : ((2 ^ n : Nat) : Int) = 2 ^ n := by simp
  unfold ab
  split <;> omega
theorem gnd_up (x y a : Int) : gnd x y a ≤ ab a + ab (x * y) := by
  unfold gnd
  rw [Int.fdiv_eq_ediv_of_nonneg _ (by decide)]
  unfold ab
  split <;> split <;> split <;> omega
theorem gnd_dn (x y a : Int) : ab a ≤ gnd x y a + ab (x * y) := by
  unfold gnd
  rw [Int.fdiv_eq_ediv_of_nonneg _ (by decide)]
  unfold ab
  split <;> split <;> split <;> omega
theorem two_le (n : Nat) : (1 : Int) ≤ 2 ^ n := by
  have e : ((2 ^ n : Nat) : Int) = 2 ^ n := by simp
  have : 1 ≤ 2 ^ n := Nat.one_le_two_pow
  omega
theorem Sz.st {n : Nat} {p : Sp} (h : Sz n p) : Bd (ST.st p) (n + 14) := by
  have hx := ab_lt h.x
  have hy := ab_lt h.y
  have ha := ab_lt h.a
  have hxy : ab (p.x * p.y) < 2 ^ (2 * n) := by
    have : Bd (p.x * p.y) (n + n) := @bd_mul _ _ _ _ h.x h.y
    have := ab_lt this
    rwa [show n + n = 2 * n by omega] at this
  have hg := gnd_up p.x p.y p.a
  have e1 : (2 : Int) ^ (2 * n + 20) = 2 ^ (2 * n) * 1048576 := by rw [Int.pow_add]; rfl
  have e2 : (2 : Int) ^ (n + 11) * 2 ^ (n + 11) = 2 ^ (2 * n) * 4194304 := by rw [← Int.pow_add, show n + 11 + (n + 11) = 2 * n + 22 by omega, Int.pow_add]; rfl
  have e3 : (2 : Int) ^ (n + 11) = 2 ^ n * 2048 := by rw [Int.pow_add]; rfl
  have o1 := two_le n
  have o2 := two_le (2 * n)
  have b : Box p.x p.y p.a (2 ^ (n + 11)) (2 ^ (n + 11)) := ⟨by omega, by omega, by omega⟩
  have h1 := stp_le b
  have h2 := stp_nonneg p.x p.y p.a
  have h3 := ab_nonneg p.x
  have h4 := ab_nonneg p.y
  have e4 : (2 : Int) ^ (n + 14) = 2 ^ n * 16384 := by rw [Int.pow_add]; rfl
  refine ⟨?_⟩
  have e5 : ((2 ^ (n + 14) : Nat) : Int) = 2 ^ (n + 14) := by simp
  unfold cost at h1
  show (stp p.x p.y p.a).natAbs < _
  omega
theorem Sz.of_st {n : Nat} {p : Sp} (h : ST.st p < 2 ^ n) : Sz n p := by
  have h0 := stp_ge p.x p.y p.a
  have h1 := stp_nonneg p.x p.y p.a
  have h2 := ab_nonneg p.x
  have h3 := ab_nonneg p.y
  have h' : stp p.x p.y p.a < 2 ^ n := h
  have e : ((2 ^ n : Nat) : Int) = 2 ^ n := by simp
  have bs : Bd (stp p.x p.y p.a) n := ⟨by omega⟩
  have hx : ab p.x ≤ stp p.x p.y p.a := by omega
  have hy : ab p.y ≤ stp p.x p.y p.a := by omega
  have ax : ∀ z : Int, (ab z).natAbs = z.natAbs := fun z => by unfold ab; split <;> omega
  obtain ⟨p', q', b, hb⟩ := stp_box p.x p.y p.a
  have b1 := b.px
  have b2 := b.qy
  have b3 := b.room
  unfold cost at hb
  have hp : p' ≤ stp p.x p.y p.a := by omega
  have hq : q' ≤ stp p.x p.y p.a := by omega
  have m1 : p' * q' ≤ stp p.x p.y p.a * stp p.x p.y p.a := Int.mul_le_mul hp hq (by omega) h1
  have m2 : ab (p.x * p.y) ≤ stp p.x p.y p.a * stp p.x p.y p.a := by
    have : ab (p.x * p.y) = ab p.x * ab p.y := by
      unfold ab
      have := @Int.mul_nonneg p.x p.y
      by_cases c1 : p.x < 0
      · by_cases c2 : p.y < 0
        · have := Int.mul_pos_of_neg_of_neg c1 c2
          rw [if_neg (by omega), if_pos c1, if_pos c2, Int.neg_mul_neg]
        · rw [if_pos c1, if_neg c2]
          have := Int.mul_nonneg (show 0 ≤ -p.x by omega) (show 0 ≤ p.y by omega)
          rw [Int.neg_mul] at this
          split
          · rw [Int.neg_mul]
          · rw [Int.neg_mul]; omega
      · by_cases c2 : p.y < 0
        · rw [if_neg c1, if_pos c2]
          have := Int.mul_nonneg (show 0 ≤ p.x by omega) (show 0 ≤ -p.y by omega)
          rw [Int.mul_neg] at this
          split
          · rw [Int.mul_neg]
          · rw [Int.mul_neg]; omega
        · have := Int.mul_nonneg (show 0 ≤ p.x by omega) (show 0 ≤ p.y by omega)
          rw [if_neg (by omega), if_neg c1, if_neg c2]
    rw [this]
    exact Int.mul_le_mul hx hy h3 h1
  have m3 := gnd_dn p.x p.y p.a
  have bb : Bd (stp p.x p.y p.a * stp p.x p.y p.a) (n + n) := @bd_mul _ _ _ _ bs bs
  have bb2 := bd_plus bb bb
  refine ⟨⟨?_⟩, ⟨?_⟩, ?_⟩
  · have := ax p.x
    omega
  · have := ax p.y
    omega
  · have := (bb2.of_le (ab_nonneg p.a) (by omega)).le (show n + n + 1 ≤ 2 * n + 20 by omega)
    exact ⟨by rw [← ax]; exact this.lt⟩
end DL
set_option maxRecDepth 100000
set_option maxHeartbeats 4000000
namespace W_k71
open DL
instance : Bd (2 : Int) 2 := ⟨by decide⟩
instance : Bd (3 : Int) 2 := ⟨by decide⟩
instance : Bd (4 : Int) 3 := ⟨by decide⟩
instance : Bd (5 : Int) 3 := ⟨by decide⟩
instance : Bd (6 : Int) 3 := ⟨by decide⟩
instance : Bd (7 : Int) 3 := ⟨by decide⟩
instance : Bd (9 : Int) 4 := ⟨by decide⟩
instance : Bd (10 : Int) 4 := ⟨by decide⟩
instance : Bd (12 : Int) 4 := ⟨by decide⟩
instance : Bd (16 : Int) 5 := ⟨by decide⟩
instance : Bd (18 : Int) 5 := ⟨by decide⟩
instance : Bd (19 : Int) 5 := ⟨by decide⟩
instance : Bd (24 : Int) 5 := ⟨by decide⟩
instance : Bd (30 : Int) 5 := ⟨by decide⟩
instance : Bd (33 : Int) 6 := ⟨by decide⟩
instance : Bd (37 : Int) 6 := ⟨by decide⟩
instance : Bd (40 : Int) 6 := ⟨by decide⟩
instance : Bd (41 : Int) 6 := ⟨by decide⟩
instance : Bd (49 : Int) 6 := ⟨by decide⟩
instance : Bd (50 : Int) 6 := ⟨by decide⟩
instance : Bd (63 : Int) 6 := ⟨by decide⟩
instance : Bd (73 : Int) 7 := ⟨by decide⟩
instance : Bd (103 : Int) 7 := ⟨by decide⟩
instance : Bd (1000 : Int) 10 := ⟨by decide⟩
instance : Bd (10000 : Int) 14 := ⟨by decide⟩
instance : Bd (40177 : Int) 16 := ⟨by decide⟩
instance : Bd (52489 : Int) 16 := ⟨by decide⟩
instance : Bd (70019 : Int) 17 := ⟨by decide⟩
instance : Bd (100000 : Int) 17 := ⟨by decide⟩
instance : Bd (10000000 : Int) 24 := ⟨by decide⟩
instance : Bd (2147483269 : Int) 31 := ⟨by decide⟩
instance : Bd (2147483323 : Int) 31 := ⟨by decide⟩
instance : Bd (2147483353 : Int) 31 := ⟨by decide⟩
instance : Bd (2147483399 : Int) 31 := ⟨by decide⟩
instance : Bd (1000000000000 : Int) 40 := ⟨by decide⟩
instance : Bd (1000000000000000000 : Int) 60 := ⟨by decide⟩
instance : Bd (1000000000000000000000000000000 : Int) 100 := ⟨by decide⟩
instance : Bd (1000000000000000000000000000000000 : Int) 110 := ⟨by decide⟩
instance : Bd (10000000000000000000000000000000000000000 : Int) 133 := ⟨by decide⟩
instance : Bd (10000000000000000000000000000000000000000000000000 : Int) 163 := ⟨by decide⟩
instance : Bd (100000000000000000000000000000000000000000000000000 : Int) 167 := ⟨by decide⟩
instance : Bd (100000000000000000000000000000000000000000000000000000000000000000000000000000000 : Int) 266 := ⟨by decide⟩
instance : Bd (1000000000000000000000000000000000000000000000000000000000000000000000000000000000000000000000000000 : Int) 329 := ⟨by decide⟩
abbrev penD (cs : List Int) (c l : Int) : List (DK × D) := [(.s [99, 101, 108, 108, 115], .lst (cs.map D.int)), (.s [115, 116, 111, 112], .int c), (.s [114, 101, 115, 116], .int l)]
def Pen (n : Nat) (S : List Cell) : Prop := ∃ cs c l, S = [.dic (penD cs c l)] ∧ 0 ≤ c ∧ c ≤ n ∧ 0 ≤ l
theorem Pen.mono {n m : Nat} {S : List Cell} (h : Pen n S) (hm : n ≤ m) : Pen m S := by
  obtain ⟨cs, c, l, h1, h2, h3, h4⟩ := h
  exact ⟨cs, c, l, h1, h2, by omega, h4⟩
theorem draw_ok {n : Nat} {S : List Cell} {p : Int} (hS : Pen n S) (hn : n < 2 ^ 20) (hp : 0 < p) (hp2 : p < 2 ^ 60) : ∃ d S', g__law_draw [.cell 0, .int p] S = .ok (.int d) S' ∧ 0 ≤ d ∧ d < p ∧ Pen (n + 1) S' := by
  obtain ⟨cs, c, l, rfl, c0, c1, l0⟩ := hS
  have bp : Bd p 60 := ⟨by omega⟩
  have bc : Bd c 20 := ⟨by omega⟩
  have dp : divOk p = true := divOk_of bp (by omega) (by omega)
  have hp' : p ≠ 0 := by omega
  have m1 := fun x : Int => Int.fmod_nonneg_of_pos x hp
  have m2 := fun x : Int => Int.fmod_lt_of_pos x hp
  have ndk : ∀ (a b c : D), keysNd [(.s [99, 101, 108, 108, 115], a), (.s [115, 116, 111, 112], b), (.s [114, 101, 115, 116], c)] = true := fun a b c => rfl
  have mc (x : Int) : mulOk (x.fmod 2147483269) 40177 = true := by
    have : Bd (x.fmod 2147483269) 31 := .of_range (m := 2147483269) (Int.fmod_nonneg_of_pos _ (by decide)) (Int.fmod_lt_of_pos _ (by decide)) (by decide)
    exact mulOk_bd (by decide)
  have mb (x : Int) : mulOk (x.fmod 2147483323) (x.fmod 2147483323 + 70019) = true := by
    have : Bd (x.fmod 2147483323) 31 := .of_range (m := 2147483323) (Int.fmod_nonneg_of_pos _ (by decide)) (Int.fmod_lt_of_pos _ (by decide)) (by decide)
    exact mulOk_bd (by decide)
  have me (x : Int) : mulOk (x.fmod 2147483353) (x.fmod 2147483353) = true := by
    have : Bd (x.fmod 2147483353) 31 := .of_range (m := 2147483353) (Int.fmod_nonneg_of_pos _ (by decide)) (Int.fmod_lt_of_pos _ (by decide)) (by decide)
    exact mulOk_bd (by decide)
  have mf (x : Int) : mulOk 19 (x.fmod 2147483353) = true := by
    have : Bd (x.fmod 2147483353) 31 := .of_range (m := 2147483353) (Int.fmod_nonneg_of_pos _ (by decide)) (Int.fmod_lt_of_pos _ (by decide)) (by decide)
    exact mulOk_bd (by decide)
  have q0 : mulOk 73 c = true := mulOk_bd (by decide)
  have q1 : mulOk 52489 c = true := mulOk_bd (by decide)
  have q2 : mulOk 103 c = true := mulOk_bd (by decide)
  have qs : mulOk (52489 * c) c = true := mulOk_bd (by decide)
  have qd : divOk 16 = true := by decide
  by_cases a1 : p ≤ l
  · simp [g__law_draw, b__law_draw, fnD, dLook, dPut, dp, hp', ndk, a1]
    exact ⟨_, _, ⟨rfl, rfl⟩, m1 _, m2 _, cs, c, _, rfl, c0, by omega, Int.fdiv_nonneg l0 (by omega)⟩
  · by_cases a2 : cs = []
    · subst a2
      have a3 : ¬ c < 0 := by omega
      simp [g__law_draw, b__law_draw, fnD, dLook, dPut, dp, hp', ndk, a1, q0, q1, q2, qs, qd, mc, mb, me, mf, a3]
      exact ⟨_, _, ⟨rfl, rfl⟩, m1 _, m2 _, [], c + 1, l, rfl, by omega, by omega, l0⟩
    · obtain ⟨x, hx⟩ := ix_mod cs c a2
      by_cases a3 : c < cs.length ∧ 1000000000000000000 ≤ x
      · simp [g__law_draw, b__law_draw, fnD, dLook, dPut, dp, hp', ndk, a1, q0, q1, q2, qs, qd, mc, mb, me, mf, a2, hx, a3]
        exact ⟨_, _, ⟨rfl, rfl⟩, m1 _, m2 _, cs, c + 1, _, rfl, by omega, by omega, Int.fdiv_nonneg (by omega) (by omega)⟩
      · by_cases a4 : c < cs.length
        · have a5 : ¬ 1000000000000000000 ≤ x := fun h => a3 ⟨a4, h⟩
          simp [g__law_draw, b__law_draw, fnD, dLook, dPut, dp, hp', ndk, a1, q0, q1, q2, qs, qd, mc, mb, me, mf, a2, hx, a4, a5]
          exact ⟨_, _, ⟨rfl, rfl⟩, m1 _, m2 _, cs, c + 1, l, rfl, by omega, by omega, l0⟩
        · simp [g__law_draw, b__law_draw, fnD, dLook, dPut, dp, hp', ndk, a1, q0, q1, q2, qs, qd, mc, mb, me, mf, a2, hx, a4]
          exact ⟨_, _, ⟨rfl, rfl⟩, m1 _, m2 _, cs, c + 1, l, rfl, by omega, by omega, l0⟩
theorem begin_ok (ns : List Int) : ∃ S, g__law_pen [.scr (ns.map D.int)] [] = .ok (.cell 0) S ∧ Pen 0 S := by
  have e : cutD (ns.map D.int) none (some 63) = (cutD ns none (some 63)).map D.int := by
    simp [cutD, List.map_drop, List.map_take]
  have k : ∀ a b c : D, keysNd [(.s [99, 101, 108, 108, 115], a), (.s [115, 116, 111, 112], b), (.s [114, 101, 115, 116], c)] = true := fun a b c => rfl
  simp [g__law_pen, b__law_pen, fnD, e, k]
  exact ⟨_, 0, 0, rfl, by decide, by decide, by decide⟩
theorem pick_ok {n : Nat} {S : List Cell} {xs : List D} (hS : Pen n S) (hn : n < 2 ^ 20) (h0 : xs ≠ []) (h1 : xs.length < 1000) : ∃ d S', g__law_pick [.cell 0, .lst xs] S = .ok d S' ∧ d ∈ xs ∧ Pen (n + 1) S' := by
  have hl : (0 : Int) < xs.length := by
    cases xs with
    | nil => exact absurd rfl h0
    | cons a r => simp
  obtain ⟨d, S', e, d0, d1, hP⟩ := draw_ok hS hn hl (by omega)
  obtain ⟨k, rfl⟩ := Int.eq_ofNat_of_zero_le d0
  have hk : k < xs.length := by omega
  have : L2.atI xs (k : Int) = some xs[k] := L2.atI_nat (by simp [hk])
  refine ⟨xs[k], S', ?_, List.getElem_mem _, hP⟩
  simp [g__law_pick, b__law_pick, fnD, e, this]
end W_k71
set_option maxRecDepth 100000
set_option maxHeartbeats 4000000
set_option exponentiation.threshold 4000
namespace W_k71
open DL ST
/-! ### the whole root -/
def IsFl (n r : Int) : Prop := 0 ≤ r ∧ r * r ≤ n ∧ n < (r + 1) * (r + 1)
theorem newton {n f : Int} (hf : 1 ≤ f) : n < ((f + n.fdiv f).fdiv 2 + 1) * ((f + n.fdiv f).fdiv 2 + 1) := by
  have h1 : f * n.fdiv f + n.fmod f = n := Int.mul_fdiv_add_fmod n f
  have h3 : n.fmod f < f := Int.fmod_lt_of_pos _ (by omega)
  generalize n.fdiv f = q at *
  rw [Int.fdiv_eq_ediv_of_nonneg _ (by decide)]
  have h5 : f + q ≤ 2 * ((f + q) / 2) + 1 := by omega
  generalize (f + q) / 2 = t at *
  by_cases c : 0 ≤ f + q + 1
  · have h6 := pr_pos (show 0 ≤ 2 * t + 2 - (f + q + 1) by omega) (show 0 ≤ 2 * t + 2 + (f + q + 1) by omega)
    have h7 : 0 ≤ (f - q - 1) * (f - q - 1) := by
      by_cases g : 0 ≤ f - q - 1
      · exact pr_pos g g
      · have := pr_pos (show 0 ≤ -(f - q - 1) by omega) (show 0 ≤ -(f - q - 1) by omega)
        rw [Int.neg_mul_neg] at this
        exact this
    rw [show (2 * t + 2 - (f + q + 1)) * (2 * t + 2 + (f + q + 1)) = 4 * ((t + 1) * (t + 1)) - (f + q + 1) * (f + q + 1) by grind] at h6
    rw [show (f - q - 1) * (f - q - 1) = (f + q + 1) * (f + q + 1) - 4 * (f * q + f) by grind] at h7
    omega
  · have h6 : f * q ≤ f * (-f - 2) := Int.mul_le_mul_of_nonneg_left (by omega) (by omega)
    have h7 := pr_pos (show 0 ≤ f by omega) (show 0 ≤ f by omega)
    have h8 : 0 ≤ (t + 1) * (t + 1) := by
      by_cases g : 0 ≤ t + 1
      · exact pr_pos g g
      · have := pr_pos (show 0 ≤ -(t + 1) by omega) (show 0 ≤ -(t + 1) by omega)
        rw [Int.neg_mul_neg] at this
        exact this
    rw [show f * (-f - 2) = -(f * f) - 2 * f by grind] at h6
    omega
theorem root_loop (n : Int) (S : List Cell) (hn : 2 ≤ n) (bn : Bd n 4000) : ∀ (k : Nat) (f : Int) (x : Sl), f.toNat ≤ k → 1 ≤ f → n < (f + 1) * (f + 1) → Bd f 8000 →
    ∃ r sl, sWhile c_whole_root_0 w_whole_root_0 ⟨[.val (.int n), .val (.int f), x], S⟩ = .ok (.rt (.int r)) ⟨sl, S⟩ ∧ IsFl n r
  | 0, f, x, h, h1, _, _ => by omega
  | k + 1, f, x, h, h1, h2, bf => by
    have dv : divOk f = true := divOk_of bf (by omega) (by decide)
    rw [sWhile_eq]
    by_cases c : f ≤ (f + n.fdiv f).fdiv 2
    · refine ⟨f, [.val (.int n), .val (.int f), .val (.int ((f + n.fdiv f).fdiv 2))], by simp [c_whole_root_0, w_whole_root_0, dv, c], by omega, ?_, h2⟩
      have e1 : f * n.fdiv f + n.fmod f = n := Int.mul_fdiv_add_fmod n f
      have e3 : 0 ≤ n.fmod f := Int.fmod_nonneg_of_pos _ (by omega)
      rw [Int.fdiv_eq_ediv_of_nonneg _ (by decide)] at c
      have h4 : f * f ≤ f * n.fdiv f := Int.mul_le_mul_of_nonneg_left (by omega) (by omega)
      omega
    · have hq : 1 ≤ (f + n.fdiv f).fdiv 2 := by
        have hq : 0 ≤ n.fdiv f := Int.fdiv_nonneg (by omega) (by omega)
        rw [Int.fdiv_eq_ediv_of_nonneg _ (by decide)]
        by_cases z : f = 1
        · subst z
          rw [Int.fdiv_one]
          omega
        · omega
      obtain ⟨r, sl, e, hr⟩ := root_loop n S hn bn k ((f + n.fdiv f).fdiv 2) (.val (.int ((f + n.fdiv f).fdiv 2))) (by omega) hq (newton h1) (bf.of_le (by omega) (by omega))
      exact ⟨r, sl, by simpa [c_whole_root_0, w_whole_root_0, dv, c] using e, hr⟩
theorem bits_lt (n : Int) (h : 0 ≤ n) : n < 2 ^ (PySem.Builtin.Int.intBits n) := by
  unfold PySem.Builtin.Int.intBits
  by_cases e : n = 0
  · subst e; decide
  · have h1 : n.natAbs < 2 ^ (n.natAbs.log2 + 1) := Nat.lt_log2_self
    rw [if_neg (by simpa using e)]
    have h2 : ((2 ^ (n.natAbs.log2 + 1) : Nat) : Int) = 2 ^ (n.natAbs.log2 + 1) := by simp
    rw [← h2]
    omega
theorem bits_le {n : Int} {k : Nat} (b : Bd n k) : PySem.Builtin.Int.intBits n ≤ k := by
  unfold PySem.Builtin.Int.intBits
  by_cases e : n = 0
  · subst e; simp
  · rw [if_neg (by simpa using e)]
    have := (Nat.log2_lt (show n.natAbs ≠ 0 by omega)).mpr b.lt
    omega
theorem whole_root_ok (n : Int) (S : List Cell) (hn : 0 ≤ n) (bn : Bd n 4000) : ∃ r, g_whole_root [.int n] S = .ok (.int r) S ∧ IsFl n r := by
  by_cases c : n < 2
  · refine ⟨n, by simp [g_whole_root, b_whole_root, fnD, c], hn, ?_, ?_⟩
    · have : n = 0 ∨ n = 1 := by omega
      rcases this with rfl | rfl <;> decide
    · have : n = 0 ∨ n = 1 := by omega
      rcases this with rfl | rfl <;> decide
  · have hb := bits_le bn
    have hl := bits_lt n hn
    generalize hB : PySem.Builtin.Int.intBits n = B at *
    have hk : ((B : Int) + 1).fdiv 2 = ((B + 1) / 2 : Nat) := by
      rw [Int.fdiv_eq_ediv_of_nonneg _ (by decide)]
      omega
    generalize hK : (B + 1) / 2 = K at *
    have hK2 : K ≤ 2001 := by omega
    have h2 : ((2 ^ K : Nat) : Int) = 2 ^ K := by simp
    have bf : Bd ((2 : Int) ^ K) 8000 := ⟨by
      rw [← h2, Int.natAbs_natCast]
      exact Nat.pow_lt_pow_right (by decide) (by omega)⟩
    have h1 : (1 : Int) ≤ 2 ^ K := by
      rw [← h2]
      have := Nat.one_le_two_pow (n := K)
      omega
    have hbig : n < (2 ^ K + 1) * (2 ^ K + 1) := by
      have e1 : (2 : Int) ^ B ≤ 2 ^ K * 2 ^ K := by
        rw [← Int.pow_add]
        have h3 : ((2 ^ B : Nat) : Int) = 2 ^ B := by simp
        have h4 : ((2 ^ (K + K) : Nat) : Int) = 2 ^ (K + K) := by simp
        rw [← h3, ← h4]
        have := Nat.pow_le_pow_right (n := 2) (by decide) (show B ≤ K + K by omega)
        omega
      rw [show ((2 : Int) ^ K + 1) * (2 ^ K + 1) = 2 ^ K * 2 ^ K + 2 * 2 ^ K + 1 by grind]
      omega
    obtain ⟨r, sl, e, hr⟩ := root_loop n S (by omega) bn _ (2 ^ K) .un (Nat.le_refl _) h1 hbig bf
    refine ⟨r, ?_, hr⟩
    have q1 : (0 : Int) ≤ (K : Int) := by omega
    have q2 : (K : Int) ≤ 1000000 := by omega
    simp [g_whole_root, b_whole_root, fnD, c, hB, hk, q1, q2, e]
theorem fl_rt {n r : Int} (h : IsFl n r) : rt n = if r * r = n then r else r + 1 := by
  obtain ⟨h1, h2, h3⟩ := h
  split
  · rename_i e
    refine rt_eq ⟨h1, by omega, fun hr => ?_⟩
    rw [show (r - 1) * (r - 1) = r * r - 2 * r + 1 by grind]
    omega
  · refine rt_eq ⟨by omega, by omega, fun _ => ?_⟩
    rw [show r + 1 - 1 = r by omega]
    omega
/-! ### steps -/
theorem bd_gnd {x y a : Int} (bx : Bd x 600) (bY : Bd y 600) (ba : Bd a 1200) : Bd (gnd x y a) 3604 := by
  unfold gnd ab
  infer_instance
theorem steps_of_ok (x y a : Int) (S : List Cell) (bx : Bd x 600) (bY : Bd y 600) (ba : Bd a 1200) : g_steps_of [.int x, .int y, .int a] S = .ok (.int (stp x y a)) S := by
  have bg := bd_gnd bx bY ba
  have hg := gnd_nonneg x y a
  obtain ⟨r, er, hr⟩ := whole_root_ok (4 * gnd x y a) S (by omega) ((bd_mul (m := 3) (n := 3604) : Bd (4 * gnd x y a) _).le (by decide))
  have hrt := fl_rt hr
  have b2 : Bd r 4000 := by
    refine Bd.of_le (y := 4 * gnd x y a) ((bd_mul (m := 3) (n := 3604) : Bd (4 * gnd x y a) _).le (by decide)) hr.1 ?_
    have := hr.2.1
    by_cases c : r = 0
    · subst c; omega
    · have h5 := pr_pos (show 0 ≤ r - 1 by have := hr.1; omega) hr.1
      rw [show (r - 1) * r = r * r - r by grind] at h5
      omega
  have b3 : Bd (ab x) 600 := by unfold ab; infer_instance
  have b4 : Bd (ab y) 600 := by unfold ab; infer_instance
  have e0 : ((if 2 * a - x * y < 0 then -(2 * a - x * y) else 2 * a - x * y) + (if x * y < 0 then -(x * y) else x * y)).fdiv 2 = gnd x y a := rfl
  have ex : (if x < 0 then -x else x) = ab x := rfl
  have ey : (if y < 0 then -y else y) = ab y := rfl
  have m0 : mulOk x y = true := mulOk_bd (by decide)
  have m1 : mulOk 2 a = true := mulOk_bd (by decide)
  have m2 : mulOk (ab x) (ab y) = true := mulOk_bd (by decide)
  have m3 : mulOk (ab y) (ab x) = true := mulOk_bd (by decide)
  have m4 : mulOk (ab x) (ab x) = true := mulOk_bd (by decide)
  have m5 : mulOk (ab y) (ab y) = true := mulOk_bd (by decide)
  have m6 : mulOk 4 (gnd x y a) = true := mulOk_bd (by decide)
  have m7 : mulOk r r = true := mulOk_bd (by decide)
  have m8 : mulOk 2 r = true := mulOk_bd (by decide)
  have m9 : mulOk 2 (r + 1) = true := mulOk_bd (by decide)
  have mA : ∀ z : Int, mulOk 2 (-((-gnd x y a).fdiv z)) = true := fun z => mulOk_bd (by decide)
  have pX := ab_nonneg x
  have pY := ab_nonneg y
  unfold stp stpF mor les ceilD
  rw [hrt]
  by_cases c : ab y ≤ ab x
  · by_cases c1 : gnd x y a ≤ ab x * ab y
    · simp [g_steps_of, b_steps_of, fnD, e0, ex, ey, m0, m1, m2, c, c1]
    · by_cases c2 : gnd x y a ≤ ab x * ab x
      · have dv : divOk (ab x) = true := divOk_of b3 (fun z => by rw [z] at c1 c2; simp at c1 c2; omega) (by decide)
        simp [g_steps_of, b_steps_of, fnD, e0, ex, ey, m0, m1, m2, m4, c, c1, c2, dv, mA]
      · by_cases c3 : r * r = 4 * gnd x y a
        · simp [g_steps_of, b_steps_of, fnD, e0, ex, ey, m0, m1, m2, m4, m6, m7, m8, m9, c, c1, c2, c3, er]
        · simp [g_steps_of, b_steps_of, fnD, e0, ex, ey, m0, m1, m2, m4, m6, m7, m8, m9, c, c1, c2, c3, er]
  · by_cases c1 : gnd x y a ≤ ab y * ab x
    · simp [g_steps_of, b_steps_of, fnD, e0, ex, ey, m0, m1, m3, c, c1]
    · by_cases c2 : gnd x y a ≤ ab y * ab y
      · have dv : divOk (ab y) = true := divOk_of b4 (fun z => by rw [z] at c1 c2; simp at c1 c2; omega) (by decide)
        simp [g_steps_of, b_steps_of, fnD, e0, ex, ey, m0, m1, m3, m5, c, c1, c2, dv, mA]
      · by_cases c3 : r * r = 4 * gnd x y a
        · simp [g_steps_of, b_steps_of, fnD, e0, ex, ey, m0, m1, m3, m5, m6, m7, m8, m9, c, c1, c2, c3, er]
        · simp [g_steps_of, b_steps_of, fnD, e0, ex, ey, m0, m1, m3, m5, m6, m7, m8, m9, c, c1, c2, c3, er]
abbrev tr (x y a : Int) : D := .tup [.int x, .int y, .int a]
abbrev plc (x y a : Int) : D := .ins "Place" [([120], .int x), ([121], .int y), ([97, 114, 101, 97], .int a)]
@[simp] theorem is_integer_ok (i : Int) (S : List Cell) : g_is_integer [.int i] S = .ok (.bl true) S := by
  simp [g_is_integer, b_is_integer, fnD]
@[simp] theorem init_ok (x y a : Int) (S : List Cell) : g_PlaceX_initX [.int x, .int y, .int a] S = .ok [([120], .int x), ([121], .int y), ([97, 114, 101, 97], .int a)] S := by
  simp [g_PlaceX_initX, b_PlaceX_initX, w_PlaceX_initX_0, inD, inFin, putN]
@[simp] theorem need_ok (x y a : Int) (S : List Cell) : g_need_place [plc x y a] S = .ok .non S := by
  simp [g_need_place, b_need_place, fnD]
/-- a place of the size that is drawn -/
structure PB (x y a : Int) : Prop where
  x : Bd x 600
  y : Bd y 600
  a : Bd a 1200
theorem steps_ok {x y a : Int} (h : PB x y a) (S : List Cell) : g_steps [plc x y a] S = .ok (.int (stp x y a)) S := by
  simp [g_steps, b_steps, fnD, List.lookup, steps_of_ok x y a S h.x h.y h.a]
end W_k71
set_option maxRecDepth 100000
set_option maxHeartbeats 4000000
set_option exponentiation.threshold 4000
namespace W_k71
open DL ST
/-! ### runs as data -/
abbrev qD (q : Nat × Int) : D := .tup [.str [q.1], .int q.2]
abbrev rD (r : Runs) : List D := r.map qD
abbrev wk (r : Runs) : D := .ins "Walk" [([114, 117, 110, 115], .tup (rD r))]
abbrev spD (p : Sp) : D := tr p.x p.y p.a
theorem isL_lt {c : Nat} (h : isL c) : c < 1114112 := by rcases h with rfl | rfl | rfl | rfl <;> decide
theorem mgStep_len (acc : Runs) (q : Nat × Int) : (mgStep acc q).length ≤ acc.length + 1 := by
  unfold mgStep
  split
  · split
    · simp
    · split <;> simp
  · split <;> simp
theorem take_snoc {α : Type} {l : List α} {i : Nat} {x : α} (h : l[i]? = some x) : l.take (i + 1) = l.take i ++ [x] := by
  rw [List.take_add_one, h]
  rfl
theorem merged_ok (d : D) (r : Runs) (S : List Cell) (hd : itemsD d = some (rD r)) (g : Good r) (hl : r.length ≤ 100000) : g_merged [d] S = .ok (.tup (rD (mg r))) S := by
  obtain ⟨s', e, ⟨y2, y3, hs⟩, hS⟩ := for_inv (g := gT 2 (gsCons (gN 2) (gsCons (gN 3) gsNil))) (b := w_merged_0) (items := rD r) (s := ⟨[.val d, .ol [], .un, .un], S⟩)
    (fun i s => (∃ y2 y3, s.sl = [.val d, .ol (rD ((r.take i).foldl mgStep [])), y2, y3]) ∧ s.st = S ∧ ((r.take i).foldl mgStep []).length ≤ i) ⟨⟨_, _, rfl⟩, rfl, Nat.le_refl _⟩ (fun i x s hi hp => by
      obtain ⟨⟨y2, y3, hs⟩, hS, hlen⟩ := hp
      obtain ⟨sl, st⟩ := s
      simp only at hs hS
      subst hs hS
      rw [List.getElem?_map, Option.map_eq_some_iff] at hi
      obtain ⟨q, hq, rfl⟩ := hi
      have hg := g q (List.mem_of_getElem? hq)
      have hlt := isL_lt hg.1
      have hi : i < r.length := (List.getElem?_eq_some_iff.mp hq).1
      refine ⟨DS.mk [.val d, .ol (rD ((r.take i).foldl mgStep [])), .val (.str [q.1]), .val (.int q.2)] st, DS.mk [.val d, .ol (rD ((r.take (i + 1)).foldl mgStep [])), .val (.str [q.1]), .val (.int q.2)] st, by simp, .inl ?_, ⟨_, _, rfl⟩, rfl, ?_⟩
      · rw [take_snoc hq, List.foldl_append]
        show _ = Res.ok Out.nx (DS.mk [.val d, .ol (rD (mgStep ((r.take i).foldl mgStep []) q)), .val (.str [q.1]), .val (.int q.2)] st)
        have nt := (fold_ok home (r.take i) [] (fun p hp => g p (List.mem_of_mem_take hp)) trivial).1
        generalize (r.take i).foldl mgStep [] = acc at *
        unfold mgStep
        have small : acc.length < 1000000 := by omega
        cases hl : acc.getLast? with
        | none =>
          have : acc = [] := List.getLast?_eq_none_iff.mp hl
          subst this
          by_cases c : 0 < q.2
          · simp [w_merged_0, c]
          · simp [w_merged_0, c]
        | some l =>
          rw [List.getLast?_eq_some_iff] at hl
          obtain ⟨ys, rfl⟩ := hl
          have hl2 : isL l.1 := (neat_app nt).2.1
          have hlt2 := isL_lt hl2
          have a1 := at_neg1 (rD ys) (qD l)
          have a2 : L2.ixN (ys.length + 1) (-1) = some ys.length := by rw [ixN_last (by omega)]; rfl
          by_cases c1 : l.1 = q.1
          · have hlt3 : q.1 < 1114112 := hlt
            simp [w_merged_0, a1, a2, c1, hlt]
          · by_cases c2 : 0 < q.2
            · simp only [List.length_append, List.length_cons, List.length_nil] at small
              simp [w_merged_0, a1, c1, hlt, hlt2, c2, small]
            · simp [w_merged_0, a1, c1, hlt, hlt2, c2]
      · rw [take_snoc hq, List.foldl_append]
        have := mgStep_len ((r.take i).foldl mgStep []) q
        show (mgStep _ q).length ≤ _
        omega)
  obtain ⟨sl, st⟩ := s'
  simp only at hs hS
  obtain ⟨rfl, hlen⟩ := hS
  subst hs
  rw [List.length_map, List.take_length] at e
  simp [g_merged, b_merged, fnD, hd, e]
  rfl
end W_k71
set_option maxRecDepth 100000
set_option maxHeartbeats 4000000
set_option exponentiation.threshold 4000
namespace W_k71
open DL ST
/-! ### told walks -/
@[simp] theorem is_list_lst (xs : List D) (S : List Cell) : g_is_list [.lst xs] S = .ok (.bl true) S := by
  simp [g_is_list, b_is_list, fnD, isLT]
@[simp] theorem is_list_tup (xs : List D) (S : List Cell) : g_is_list [.tup xs] S = .ok (.bl true) S := by
  simp [g_is_list, b_is_list, fnD, isLT]
@[simp] theorem is_whole_ok (i j : Int) (S : List Cell) : g_is_whole [.int i, .int j] S = .ok (.bl (decide (j ≤ i))) S := by
  simp [g_is_whole, b_is_whole, fnD]
theorem isi_str (l : Nm) : bIsi ["Place", "Walk", "Lot", "Prices"] [.str l, .ty "str"] = some (.bl true) := by simp [bIsi, tyOfD, tyD, isOne, mem_ty, isTy]
theorem isi_lst_str (l : List D) : bIsi ["Place", "Walk", "Lot", "Prices"] [.lst l, .ty "str"] = some (.bl false) := by simp [bIsi, tyOfD, tyD, isOne, mem_ty, isTy]
theorem isi_tup_str (l : List D) : bIsi ["Place", "Walk", "Lot", "Prices"] [.tup l, .ty "str"] = some (.bl false) := by simp [bIsi, tyOfD, tyD, isOne, mem_ty, isTy]
theorem is_pair_ok (q : Nat × Int) (S : List Cell) (h : isL q.1 ∧ 0 ≤ q.2) : g_is_pair [qD q] S = .ok (.bl true) S := by
  have h1 : (q.1 = 101 ∨ q.1 = 110 ∨ q.1 = 119 ∨ q.1 = 115) = True := eq_true h.1
  simp [g_is_pair, b_is_pair, fnD, isi_str, h.2, h1, bLen]
theorem all_true (n : Nat) : bAll [.lst (List.replicate n (.bl true))] = some (.bl true) := by
  have h : blsOf (List.replicate n (D.bl true)) = some (List.replicate n true) := by
    induction n with
    | zero => rfl
    | succ n ih => simp [List.replicate_succ, blsOf, ih]
  simp [bAll, h]
theorem told_of (d : D) (r : Runs) (S : List Cell) (hd : d = .lst (rD r) ∨ d = .tup (rD r)) (g : Good r) (hl : r.length ≤ 10000) : g_pairs_told [d] S = .ok (.lst (rD r)) S := by
  have hit : itemsD d = some (rD r) := by rcases hd with rfl | rfl <;> rfl
  have e1 : aLc [2] (itSeq (eVar 0)) (gN 2) bYes e_pairs_told_2 ⟨[.val d, .un, .un], S⟩ = .ok (List.replicate r.length (.bl true)) ⟨[.val d, .un, .un], S⟩ := by
    have := aLc_map (vs := [2]) (it := itSeq (eVar 0)) (g := gN 2) (e := e_pairs_told_2) (s := ⟨[.val d, .un, .un], S⟩) (s0 := ⟨[.val d, .un, .un], S⟩) (items := rD r) (fun _ => .bl true) (by simp [hit]) (fun z hz => by
      obtain ⟨q, hq, rfl⟩ := List.mem_map.mp hz
      refine ⟨⟨[.val d, .un, .val (qD q)], S⟩, ⟨[.val d, .un, .val (qD q)], S⟩, by simp, ?_, by simp⟩
      simp [e_pairs_told_2, is_pair_ok q S (g q hq)]) (by simp; omega)
    rw [List.map_const', List.length_map] at this
    simpa [-r_aLc] using this
  have e2 : aLc [2] (itSeq (eVar 0)) (gN 2) bYes e_pairs_told_3 ⟨[.val d, .un, .un], S⟩ = .ok (rD r) ⟨[.val d, .un, .un], S⟩ := by
    have := aLc_map (vs := [2]) (it := itSeq (eVar 0)) (g := gN 2) (e := e_pairs_told_3) (s := ⟨[.val d, .un, .un], S⟩) (s0 := ⟨[.val d, .un, .un], S⟩) (items := rD r) id (by simp [hit]) (fun z hz => by
      obtain ⟨q, hq, rfl⟩ := List.mem_map.mp hz
      refine ⟨⟨[.val d, .un, .val (qD q)], S⟩, ⟨[.val d, .un, .val (qD q)], S⟩, by simp, ?_, by simp⟩
      simp [e_pairs_told_3]) (by simp; omega)
    simpa [-r_aLc] using this
  have h3 := all_true r.length
  have h4 : ((r.length : Int) ≤ 10000) = True := eq_true (by omega)
  rcases hd with rfl | rfl
  · simp [-r_aLc, g_pairs_told, b_pairs_told, fnD, isi_lst_str, bLen, h4, e1, e2, h3]
  · simp [-r_aLc, g_pairs_told, b_pairs_told, fnD, isi_tup_str, bLen, h4, e1, e2, h3]
theorem winit_ok (d : D) (r : Runs) (S : List Cell) (hd : d = .lst (rD r) ∨ d = .tup (rD r)) (g : Good r) (hl : r.length ≤ 10000) : g_WalkX_initX [d] S = .ok [([114, 117, 110, 115], .tup (rD (mg r)))] S := by
  have h1 := told_of d r S hd g hl
  have h2 := merged_ok (.lst (rD r)) r S rfl g (by omega)
  simp [g_WalkX_initX, b_WalkX_initX, inD, inFin, putN, h1, h2]
/-! ### sides, areas -/
theorem ab_eq (x : Int) : (if x < 0 then -x else x) = ab x := rfl
theorem best_ok (x y k : Int) (S : List Cell) : g_best_sides [.int x, .int y, .int k] S = .ok (.tup [.int (bs x y k).1, .int (bs x y k).2]) S := by
  unfold bs
  by_cases c : k ≤ ab (x - y)
  · by_cases c1 : y ≤ x
    · simp [g_best_sides, b_best_sides, fnD, ab_eq, c, c1]
    · simp [g_best_sides, b_best_sides, fnD, ab_eq, c, c1]
  · simp [g_best_sides, b_best_sides, fnD, ab_eq, c]
theorem Bd.plus {x y : Int} {n : Nat} (h : Bd x n) (k : Bd y n) : Bd (x + y) (n + 1) := ⟨by
  have := h.lt
  have := k.lt
  rw [Nat.pow_succ]
  omega⟩
theorem bd_ab {x : Int} {n : Nat} (h : Bd x n) : Bd (ab x) n := by unfold ab; infer_instance
theorem bd_stp {x y a : Int} (bx : Bd x 600) (bY : Bd y 600) (ba : Bd a 1200) : Bd (stp x y a) 3620 := by
  have bg := bd_gnd bx bY ba
  have hg := gnd_nonneg x y a
  have h := rt_is (show 0 ≤ 4 * gnd x y a by omega)
  obtain ⟨h1, h2, h3⟩ := h
  have hx := ab_nonneg x
  have hy := ab_nonneg y
  obtain ⟨m1, m2, m3⟩ := mor_les x y
  have up : stp x y a ≤ 8 * gnd x y a + 2 + (ab x + ab y) := by
    unfold stp stpF
    split
    · omega
    · rename_i c
      split
      · rename_i c2
        have hm : 0 < mor x y := by
          by_cases z : 0 < mor x y
          · exact z
          · have : mor x y = 0 := by omega
            rw [this] at c c2
            simp at c c2
            omega
        have : ceilD (gnd x y a) (mor x y) ≤ gnd x y a := by
          unfold ceilD
          have e1 : mor x y * (-gnd x y a).fdiv (mor x y) + (-gnd x y a).fmod (mor x y) = -gnd x y a := Int.mul_fdiv_add_fmod _ _
          have e2 : (-gnd x y a).fmod (mor x y) < mor x y := Int.fmod_lt_of_pos _ hm
          generalize (-gnd x y a).fdiv (mor x y) = q at *
          by_cases z : -q ≤ gnd x y a
          · exact z
          · have := pr_pos (show 0 ≤ mor x y - 1 by omega) (show 0 ≤ -q - 1 by omega)
            rw [show (mor x y - 1) * (-q - 1) = -(mor x y * q) - mor x y + q + 1 by grind] at this
            omega
        omega
      · have : rt (4 * gnd x y a) ≤ 4 * gnd x y a + 1 := by
          by_cases z : 0 < rt (4 * gnd x y a)
          · have h4 := h3 z
            by_cases z1 : rt (4 * gnd x y a) = 1
            · omega
            · have := pr_pos (show 0 ≤ rt (4 * gnd x y a) - 2 by omega) (show 0 ≤ rt (4 * gnd x y a) - 1 by omega)
              generalize rt (4 * gnd x y a) = r at *
              rw [show (r - 2) * (r - 1) = (r - 1) * (r - 1) - (r - 1) by grind] at this
              omega
          · omega
        omega
  have b8 : Bd (8 : Int) 4 := ⟨by decide⟩
  have b1 : Bd (8 * gnd x y a) 3610 := (bd_mul (m := 4) (n := 3604) : Bd (8 * gnd x y a) _).le (by decide)
  have b2 : Bd (ab x + ab y) 3611 := (Bd.plus (bd_ab bx) (bd_ab bY)).le (by decide)
  have b3 : Bd (8 * gnd x y a + 2) 3611 := Bd.plus b1 ((inferInstance : Bd (2 : Int) 2).le (by decide))
  exact ((Bd.plus b3 b2).of_le (stp_nonneg x y a) up).le (by decide)
theorem bd_bs {x y k : Int} (bx : Bd x 600) (bY : Bd y 600) (bk : Bd k 5300) : Bd (bs x y k).1 7000 ∧ Bd (bs x y k).2 7000 := by
  have b1 : Bd (x + k) 7000 := (Bd.plus (bx.le (by decide)) bk).le (by decide)
  have b2 : Bd (y + k) 7000 := (Bd.plus (bY.le (by decide)) bk).le (by decide)
  have b0 : Bd (x + y + k) 5301 := Bd.plus ((Bd.plus bx bY).le (by decide)) bk
  have b3 : Bd ((x + y + k).fdiv 2) 7000 := (bd_half (h := b0)).le (by decide)
  have b4 : Bd ((x + y + k + 1).fdiv 2) 7000 := (bd_half (h := Bd.plus b0 ((inferInstance : Bd (1 : Int) 1).le (by decide)))).le (by decide)
  unfold bs
  split
  · split
    · exact ⟨bx.le (by decide), b2⟩
    · exact ⟨b1, bY.le (by decide)⟩
  · exact ⟨b4, b3⟩
def limD : Option (Int × Int) → D
  | none => .non
  | some (a, b) => .tup [.int a, .int b]
theorem bd_ext {x y n : Int} (bx : Bd x 600) (bY : Bd y 600) (bn : Bd n 4000) : Bd ((n - ab x - ab y).fdiv 2) 5300 := by
  have b1 := bd_ab bx
  have b2 := bd_ab bY
  exact (inferInstance : Bd ((n - ab x - ab y).fdiv 2) _).le (by decide)
theorem areas_of_ok (x y n : Int) (S : List Cell) (bx : Bd x 600) (bY : Bd y 600) (bn : Bd n 4000) : g_areas_of [.int x, .int y, .int n] S = .ok (limD (lim x y n)) S := by
  have be := bd_ext bx bY bn
  have m0 : mulOk x y = true := mulOk_bd (by decide)
  unfold lim
  by_cases c1 : n - ab x - ab y < 0
  · simp [g_areas_of, b_areas_of, fnD, ab_eq, c1, limD]
  · by_cases c2 : (n - ab x - ab y).fmod 2 = 1
    · simp [g_areas_of, b_areas_of, fnD, ab_eq, c1, c2, limD]
    · generalize hk : (n - ab x - ab y).fdiv 2 = k at *
      have hb := best_ok (ab x) (ab y) k S
      obtain ⟨b1, b2⟩ := bd_bs (bd_ab bx) (bd_ab bY) be
      generalize (bs (ab x) (ab y) k).1 = W at *
      generalize (bs (ab x) (ab y) k).2 = H at *
      have m1 : mulOk 2 W = true := mulOk_bd (by decide)
      have m2 : mulOk (2 * W) H = true := mulOk_bd (by decide)
      have e : 2 * W * H = 2 * (W * H) := by grind
      simp [g_areas_of, b_areas_of, fnD, ab_eq, c1, c2, hk, hb, m0, m1, m2, limD, loA, hiA, e]
theorem walk_pairs_ok (x y a k : Int) (S : List Cell) (bx : Bd x 600) (bY : Bd y 600) (bk : Bd k 5300) (hx : 0 ≤ x) (hy : 0 ≤ y) (hk : 0 ≤ k) : g_walk_pairs [.int x, .int y, .int a, .int k] S = .ok (.lst (rD (wp x y a k))) S := by
  have hb := best_ok x y k S
  obtain ⟨b1, b2⟩ := bd_bs bx bY bk
  obtain ⟨q1, q2, q3⟩ := bs_ok hx hy hk
  unfold wp colsOf
  generalize (bs x y k).1 = W at *
  generalize (bs x y k).2 = H at *
  have m0 : mulOk W H = true := mulOk_bd (by decide)
  by_cases c : W * H = 0
  · simp [g_walk_pairs, b_walk_pairs, fnD, hb, m0, c]
  · have hH : (0 < H) = True := eq_true (by
      by_cases z : 0 < H
      · exact z
      · have : H = 0 := by omega
        subst this
        simp at c)
    have dv : divOk H = true := divOk_of b2 (fun z => by rw [z] at c; simp at c) (by decide)
    by_cases c2 : (W * H - a).fdiv H = W
    · simp [g_walk_pairs, b_walk_pairs, fnD, hb, m0, c, hH, dv, c2]
    · simp [g_walk_pairs, b_walk_pairs, fnD, hb, m0, c, hH, dv, c2]
/-! ### a walk of so many steps -/
def nmD (f : Nat → Nat) : D := .dic [(.s [101], .str [f 101]), (.s [110], .str [f 110]), (.s [119], .str [f 119]), (.s [115], .str [f 115])]
theorem nm_nd (a b c d : D) : keysNd [(.s [101], a), (.s [110], b), (.s [119], c), (.s [115], d)] = true := rfl
theorem wp_isL {x y a k : Int} : ∀ q ∈ wp x y a k, isL q.1 := fun q hq => by
  unfold wp at hq
  split at hq <;> simp only [List.mem_cons, List.not_mem_nil, or_false] at hq
  · rcases hq with rfl | rfl | rfl | rfl <;> simp [isL]
  · rcases hq with rfl | rfl | rfl | rfl | rfl | rfl | rfl <;> simp [isL]
theorem wp_short {x y a k : Int} : (wp x y a k).length ≤ 7 := by
  unfold wp
  split <;> simp
theorem names_lc (f : Nat → Nat) (x y a k n : Int) (l : D) (S : List Cell) (bx : Bd x 600) (bY : Bd y 600) (hx : 0 ≤ x) (hy : 0 ≤ y) (hn : (n - x - y).fdiv 2 = k) (bk : Bd k 5300) (hk : 0 ≤ k) :
    aLc [6, 7] (itSeq (eCall 4 g_walk_pairs (aCons (eVar 0) (aCons (eVar 1) (aCons (eVar 2) (aCons (eOp2 iDiv (eOp2 iSub (eOp2 iSub (eVar 3) (eVar 0)) (eVar 1)) (eC (.int 2))) (aNil))))))) (gT 2 (gsCons (gN 6) (gsCons (gN 7) (gsNil)))) (bYes) (e_pairs_to_0) ⟨[.val (.int x), .val (.int y), .val (.int a), .val (.int n), .val l, .val (nmD f), .un, .un], S⟩
      = .ok (rD (mp f (wp x y a k))) ⟨[.val (.int x), .val (.int y), .val (.int a), .val (.int n), .val l, .val (nmD f), .un, .un], S⟩ := by
  have h1 := walk_pairs_ok x y a k S bx bY bk hx hy hk
  have := aLc_map (vs := [6, 7]) (it := itSeq (eCall 4 g_walk_pairs (aCons (eVar 0) (aCons (eVar 1) (aCons (eVar 2) (aCons (eOp2 iDiv (eOp2 iSub (eOp2 iSub (eVar 3) (eVar 0)) (eVar 1)) (eC (.int 2))) (aNil))))))) (g := gT 2 (gsCons (gN 6) (gsCons (gN 7) (gsNil)))) (e := e_pairs_to_0)
    (s := ⟨[.val (.int x), .val (.int y), .val (.int a), .val (.int n), .val l, .val (nmD f), .un, .un], S⟩) (s0 := ⟨[.val (.int x), .val (.int y), .val (.int a), .val (.int n), .val l, .val (nmD f), .un, .un], S⟩) (items := rD (wp x y a k))
    (fun z => match z with | .tup [.str [c], .int t] => qD (f c, t) | z => z) (by simp [hn, h1]) (fun z hz => by
      obtain ⟨q, hq, rfl⟩ := List.mem_map.mp hz
      obtain ⟨c, t⟩ := q
      refine ⟨⟨[.val (.int x), .val (.int y), .val (.int a), .val (.int n), .val l, .val (nmD f), .val (.str [c]), .val (.int t)], S⟩, ⟨[.val (.int x), .val (.int y), .val (.int a), .val (.int n), .val l, .val (nmD f), .val (.str [c]), .val (.int t)], S⟩, by simp, ?_, by simp⟩
      have hc : isL c := wp_isL _ hq
      rcases hc with rfl | rfl | rfl | rfl <;> simp [e_pairs_to_0, nmD, dictOf, kOf, dLook]) (by have := wp_short (x := x) (y := y) (a := a) (k := k); simp; omega)
  rw [List.map_map] at this
  rw [show rD (mp f (wp x y a k)) = List.map ((fun z => match z with | .tup [.str [c], .int t] => qD (f c, t) | z => z) ∘ qD) (wp x y a k) from by
    simp only [rD, mp, List.map_map]
    rfl]
  simpa [-r_aLc] using this
def ptD : Option Runs → D
  | none => .non
  | some r => .lst (rD r)
theorem pairs_to_ok (x y a n : Int) (S : List Cell) (bx : Bd x 600) (bY : Bd y 600) (ba : Bd a 1200) (bn : Bd n 4000) : g_pairs_to [.int x, .int y, .int a, .int n] S = .ok (ptD (ptO x y a n)) S := by
  have h1 := areas_of_ok x y n S bx bY bn
  unfold ptO
  cases e : lim x y n with
  | none =>
    rw [e] at h1
    simp [limD] at h1
    simp [g_pairs_to, b_pairs_to, fnD, h1, ptD]
  | some p =>
    obtain ⟨lo, hi⟩ := p
    rw [e] at h1
    simp [limD] at h1
    by_cases c : lo ≤ a ∧ a ≤ hi
    · simp only [if_pos c]
      have hk : 0 ≤ n - ab x - ab y := by
        unfold lim at e
        split at e
        · cases e
        · omega
      have be := bd_ext bx bY bn
      show _ = Res.ok (D.lst (rD (pt x y a n))) S
      simp only [pt]
      by_cases hx : x < 0
      · simp only [if_pos hx]
        by_cases hy : y < 0
        · simp only [if_pos hy]
          generalize gx : -x = x1 at *
          generalize gy : -y = y1 at *
          generalize ga : -a = a1 at *
          generalize ga2 : -a1 = a2 at *
          have bX1 : Bd x1 600 := (by rw [← gx]; infer_instance)
          have bY1 : Bd y1 600 := (by rw [← gy]; infer_instance)
          have bA1 : Bd a2 1200 := (by rw [← ga2, ← ga]; infer_instance)
          have m1 : mulOk 2 a2 = true := mulOk_bd (by decide)
          have m2 : mulOk x1 y1 = true := mulOk_bd (by decide)
          have pX : 0 ≤ x1 := by omega
          have pY : 0 ≤ y1 := by omega
          have sX : x1 = ab x := by unfold ab; split <;> omega
          have sY : y1 = ab y := by unfold ab; split <;> omega
          by_cases c3 : 2 * a2 < x1 * y1
          · rw [if_pos c3]
            have L := names_lc (fun c => (fun c => sw1 (sw2 c)) (sw3 c)) y1 x1 (x1 * y1 - a2) ((n - y1 - x1).fdiv 2) n (.tup [.int lo, .int hi]) S bY1 bX1 pY pX rfl (by rw [sX, sY, show n - ab y - ab x = n - ab x - ab y by omega]; exact be) (by rw [Int.fdiv_eq_ediv_of_nonneg _ (by decide)]; omega)
            generalize rD (mp _ (wp _ _ _ _)) = R at *
            simp [-r_aLc, nmD, sw1, sw2, sw3] at L
            simp [-r_aLc, g_pairs_to, b_pairs_to, fnD, h1, c.1, c.2, hx, hy, gx, gy, ga, ga2, nm_nd, keyed, pairsD, dictOf, kOf, dLook, m1, m2, c3, L]
          · rw [if_neg c3]
            have L := names_lc (fun c => sw1 (sw2 c)) x1 y1 a2 ((n - x1 - y1).fdiv 2) n (.tup [.int lo, .int hi]) S bX1 bY1 pX pY rfl (by rw [sX, sY]; exact be) (by rw [Int.fdiv_eq_ediv_of_nonneg _ (by decide)]; omega)
            generalize rD (mp _ (wp _ _ _ _)) = R at *
            simp [-r_aLc, nmD, sw1, sw2, sw3] at L
            simp [-r_aLc, g_pairs_to, b_pairs_to, fnD, h1, c.1, c.2, hx, hy, gx, gy, ga, ga2, nm_nd, keyed, pairsD, dictOf, kOf, dLook, m1, m2, c3, L]
        · simp only [if_neg hy]
          generalize gx : -x = x1 at *
          generalize ga : -a = a1 at *
          have bX1 : Bd x1 600 := (by rw [← gx]; infer_instance)
          have bY1 : Bd y 600 := bY
          have bA1 : Bd a1 1200 := (by rw [← ga]; infer_instance)
          have m1 : mulOk 2 a1 = true := mulOk_bd (by decide)
          have m2 : mulOk x1 y = true := mulOk_bd (by decide)
          have pX : 0 ≤ x1 := by omega
          have pY : 0 ≤ y := by omega
          have sX : x1 = ab x := by unfold ab; split <;> omega
          have sY : y = ab y := by unfold ab; split <;> omega
          by_cases c3 : 2 * a1 < x1 * y
          · rw [if_pos c3]
            have L := names_lc (fun c => sw1 (sw3 c)) y x1 (x1 * y - a1) ((n - y - x1).fdiv 2) n (.tup [.int lo, .int hi]) S bY1 bX1 pY pX rfl (by rw [sX, sY, show n - ab y - ab x = n - ab x - ab y by omega]; exact be) (by rw [Int.fdiv_eq_ediv_of_nonneg _ (by decide)]; omega)
            generalize rD (mp _ (wp _ _ _ _)) = R at *
            simp [-r_aLc, nmD, sw1, sw2, sw3] at L
            simp [-r_aLc, g_pairs_to, b_pairs_to, fnD, h1, c.1, c.2, hx, hy, gx, ga, nm_nd, keyed, pairsD, dictOf, kOf, dLook, m1, m2, c3, L]
          · rw [if_neg c3]
            have L := names_lc sw1 x1 y a1 ((n - x1 - y).fdiv 2) n (.tup [.int lo, .int hi]) S bX1 bY1 pX pY rfl (by rw [sX, sY]; exact be) (by rw [Int.fdiv_eq_ediv_of_nonneg _ (by decide)]; omega)
            generalize rD (mp _ (wp _ _ _ _)) = R at *
            simp [-r_aLc, nmD, sw1, sw2, sw3] at L
            simp [-r_aLc, g_pairs_to, b_pairs_to, fnD, h1, c.1, c.2, hx, hy, gx, ga, nm_nd, keyed, pairsD, dictOf, kOf, dLook, m1, m2, c3, L]
      · simp only [if_neg hx]
        by_cases hy : y < 0
        · simp only [if_pos hy]
          generalize gy : -y = y1 at *
          generalize ga : -a = a1 at *
          have bX1 : Bd x 600 := bx
          have bY1 : Bd y1 600 := (by rw [← gy]; infer_instance)
          have bA1 : Bd a1 1200 := (by rw [← ga]; infer_instance)
          have m1 : mulOk 2 a1 = true := mulOk_bd (by decide)
          have m2 : mulOk x y1 = true := mulOk_bd (by decide)
          have pX : 0 ≤ x := by omega
          have pY : 0 ≤ y1 := by omega
          have sX : x = ab x := by unfold ab; split <;> omega
          have sY : y1 = ab y := by unfold ab; split <;> omega
          by_cases c3 : 2 * a1 < x * y1
          · rw [if_pos c3]
            have L := names_lc (fun c => (fun c => id (sw2 c)) (sw3 c)) y1 x (x * y1 - a1) ((n - y1 - x).fdiv 2) n (.tup [.int lo, .int hi]) S bY1 bX1 pY pX rfl (by rw [sX, sY, show n - ab y - ab x = n - ab x - ab y by omega]; exact be) (by rw [Int.fdiv_eq_ediv_of_nonneg _ (by decide)]; omega)
            generalize rD (mp _ (wp _ _ _ _)) = R at *
            simp [-r_aLc, nmD, sw1, sw2, sw3] at L
            simp [-r_aLc, g_pairs_to, b_pairs_to, fnD, h1, c.1, c.2, hx, hy, gy, ga, nm_nd, keyed, pairsD, dictOf, kOf, dLook, m1, m2, c3, L]
          · rw [if_neg c3]
            have L := names_lc (fun c => id (sw2 c)) x y1 a1 ((n - x - y1).fdiv 2) n (.tup [.int lo, .int hi]) S bX1 bY1 pX pY rfl (by rw [sX, sY]; exact be) (by rw [Int.fdiv_eq_ediv_of_nonneg _ (by decide)]; omega)
            generalize rD (mp _ (wp _ _ _ _)) = R at *
            simp [-r_aLc, nmD, sw1, sw2, sw3] at L
            simp [-r_aLc, g_pairs_to, b_pairs_to, fnD, h1, c.1, c.2, hx, hy, gy, ga, nm_nd, keyed, pairsD, dictOf, kOf, dLook, m1, m2, c3, L]
        · simp only [if_neg hy]
          have bX1 : Bd x 600 := bx
          have bY1 : Bd y 600 := bY
          have bA1 : Bd a 1200 := ba
          have m1 : mulOk 2 a = true := mulOk_bd (by decide)
          have m2 : mulOk x y = true := mulOk_bd (by decide)
          have pX : 0 ≤ x := by omega
          have pY : 0 ≤ y := by omega
          have sX : x = ab x := by unfold ab; split <;> omega
          have sY : y = ab y := by unfold ab; split <;> omega
          by_cases c3 : 2 * a < x * y
          · rw [if_pos c3]
            have L := names_lc (fun c => id (sw3 c)) y x (x * y - a) ((n - y - x).fdiv 2) n (.tup [.int lo, .int hi]) S bY1 bX1 pY pX rfl (by rw [sX, sY, show n - ab y - ab x = n - ab x - ab y by omega]; exact be) (by rw [Int.fdiv_eq_ediv_of_nonneg _ (by decide)]; omega)
            generalize rD (mp _ (wp _ _ _ _)) = R at *
            simp [-r_aLc, nmD, sw1, sw2, sw3] at L
            simp [-r_aLc, g_pairs_to, b_pairs_to, fnD, h1, c.1, c.2, hx, hy, nm_nd, keyed, pairsD, dictOf, kOf, dLook, m1, m2, c3, L]
          · rw [if_neg c3]
            have L := names_lc id x y a ((n - x - y).fdiv 2) n (.tup [.int lo, .int hi]) S bX1 bY1 pX pY rfl (by rw [sX, sY]; exact be) (by rw [Int.fdiv_eq_ediv_of_nonneg _ (by decide)]; omega)
            generalize rD (mp _ (wp _ _ _ _)) = R at *
            simp [-r_aLc, nmD, sw1, sw2, sw3] at L
            simp [-r_aLc, g_pairs_to, b_pairs_to, fnD, h1, c.1, c.2, hx, hy, nm_nd, keyed, pairsD, dictOf, kOf, dLook, m1, m2, c3, L]
    · by_cases c1 : lo ≤ a
      · have c2 : ¬ a ≤ hi := fun z => c ⟨c1, z⟩
        simp [g_pairs_to, b_pairs_to, fnD, h1, ptD, c1, c2]
      · simp [g_pairs_to, b_pairs_to, fnD, h1, ptD, c1]
/-! ### how far a walk leads -/
theorem led_x : ∀ (r : Runs) (p : Sp), Good r → -(len r) ≤ (led p r).x - p.x ∧ (led p r).x - p.x ≤ len r
  | [], p, _ => by simp [led, len]
  | (c, t) :: r, p, g => by
    have h := led_x r (gone p c t) g.tail
    have h1 := g.head.2
    simp only [led, len] at *
    have h2 : -t ≤ (gone p c t).x - p.x ∧ (gone p c t).x - p.x ≤ t := by
      unfold gone
      split
      · simp; omega
      · split
        · simp; omega
        · split <;> simp <;> omega
    omega
theorem len_take {r : Runs} (g : Good r) (i : Nat) : len (r.take i) ≤ len r := by
  have h : len (r.take i) + len (r.drop i) = len r := by rw [← len_app, List.take_append_drop]
  have := len_nonneg (r := r.drop i) (fun q hq => g q (List.mem_of_mem_drop hq))
  omega
theorem mem_len : ∀ {r : Runs} (q : Nat × Int), Good r → q ∈ r → q.2 ≤ len r
  | (c, t) :: r, q, g, h => by
    have h1 := g.head.2
    have h2 := len_nonneg g.tail
    rcases List.mem_cons.mp h with z | z
    · subst z; simp only [len]; omega
    · have := mem_len q g.tail z
      simp only [len] at *
      omega
theorem bd_pm {x m : Int} {n : Nat} (b : Bd m n) (h1 : -m ≤ x) (h2 : x ≤ m) : Bd x n := ⟨by have := b.lt; omega⟩
theorem gone_mul {r : Runs} (g : Good r) {n : Nat} (bl : Bd (len r) n) (hn : n < 40000) {i : Nat} {q : Nat × Int} (hq : r[i]? = some q) : mulOk (led home (r.take i)).x q.2 = true := by
  have h1 := led_x (r.take i) home (fun q hq => g q (List.mem_of_mem_take hq))
  have h2 := len_take g i
  have h3 := mem_len q g (List.mem_of_getElem? hq)
  have h4 := (g q (List.mem_of_getElem? hq)).2
  simp only [home] at h1
  have b1 : Bd (led home (r.take i)).x n := bd_pm bl (by simp only [home]; omega) (by simp only [home]; omega)
  have b2 : Bd q.2 n := bl.of_le h4 h3
  exact mulOk_bd (by omega)
theorem led_take {r : Runs} {i : Nat} {q : Nat × Int} (hq : r[i]? = some q) (p : Sp) : led p (r.take (i + 1)) = gone (led p (r.take i)) q.1 q.2 := by
  rw [take_snoc hq, led_app]
  rfl
theorem gone_on_ok (p : Sp) (c : Nat) (t : Int) (S : List Cell) (hc : isL c) (hm : mulOk p.x t = true) : g_gone_on [spD p, .str [c], .int t] S = .ok (spD (gone p c t)) S := by
  rcases hc with rfl | rfl | rfl | rfl <;> simp [g_gone_on, b_gone_on, fnD, hm, gone]
def spts (r : Runs) (i : Nat) : List D := (List.range i).map fun j => spD (led home (r.take j))
theorem spts_snoc (r : Runs) (i : Nat) : spts r (i + 1) = spts r i ++ [spD (led home (r.take i))] := by
  simp [spts, List.range_succ]
theorem spts_len (r : Runs) (i : Nat) : (spts r i).length = i := by simp [spts]
theorem spots_ok (r : Runs) (S : List Cell) (g : Good r) {n : Nat} (bl : Bd (len r) n) (hn : n < 40000) (hl : r.length ≤ 100000) : g_Walk_spots [wk r] S = .ok (.lst (spts r (r.length + 1))) S := by
  obtain ⟨s', e, ⟨y2, y3, hs⟩, hS⟩ := for_inv (g := gT 2 (gsCons (gN 2) (gsCons (gN 3) gsNil))) (b := w_Walk_spots_0) (items := rD r) (s := ⟨[.val (wk r), .ol (spts r 1), .un, .un], S⟩)
    (fun i s => (∃ y2 y3, s.sl = [.val (wk r), .ol (spts r (i + 1)), y2, y3]) ∧ s.st = S) ⟨⟨_, _, rfl⟩, rfl⟩ (fun i x s hi hp => by
      obtain ⟨⟨y2, y3, hs⟩, hS⟩ := hp
      obtain ⟨sl, st⟩ := s
      simp only at hs hS
      subst hs hS
      rw [List.getElem?_map, Option.map_eq_some_iff] at hi
      obtain ⟨q, hq, rfl⟩ := hi
      have hg := g q (List.mem_of_getElem? hq)
      have hi : i < r.length := (List.getElem?_eq_some_iff.mp hq).1
      refine ⟨DS.mk [.val (wk r), .ol (spts r (i + 1)), .val (.str [q.1]), .val (.int q.2)] st, DS.mk [.val (wk r), .ol (spts r (i + 1 + 1)), .val (.str [q.1]), .val (.int q.2)] st, by simp, .inl ?_, ⟨_, _, rfl⟩, rfl⟩
      have h1 := gone_on_ok (led home (r.take i)) q.1 q.2 st hg.1 (gone_mul g bl hn hq)
      have h2 : L2.atI (spts r (i + 1)) (-1) = some (spD (led home (r.take i))) := by rw [spts_snoc]; exact at_neg1 _ _
      have h3 : (spts r (i + 1)).length < 1000000 := by rw [spts_len]; omega
      rw [spts_snoc r (i + 1), led_take hq]
      simp [w_Walk_spots_0, h1, h2, h3])
  obtain ⟨sl, st⟩ := s'
  simp only at hs hS
  subst hs hS
  rw [List.length_map] at e
  rw [show spts r 1 = [D.tup [.int 0, .int 0, .int 0]] from rfl] at e
  simp [g_Walk_spots, b_Walk_spots, fnD, List.lookup, e]
theorem sum_times (r : Runs) : bSum [.lst (r.map fun q => D.int q.2)] = some (.int (len r)) := by
  have h : ∀ r : Runs, intsOf (r.map fun q => D.int q.2) = some (r.map fun q => q.2) := fun r => by
    induction r with
    | nil => rfl
    | cons q r ih => simp [intsOf, ih]
  have h2 : ∀ r : Runs, (r.map fun q : Nat × Int => q.2).sum = len r := fun r => by
    induction r with
    | nil => rfl
    | cons q r ih => simp only [List.map_cons, List.sum_cons, ih]; rfl
  simp [bSum, h, h2]
theorem length_ok (r : Runs) (S : List Cell) (hl : r.length ≤ 100000) : g_Walk_length [wk r] S = .ok (.int (len r)) S := by
  have e1 := aLc_map (vs := [1, 2]) (it := itSeq (eFld ["Walk"] [114, 117, 110, 115] (eVar 0))) (g := gT 2 (gsCons (gN 1) (gsCons (gN 2) (gsNil)))) (e := e_Walk_length_0) (s := ⟨[.val (wk r), .un, .un], S⟩) (s0 := ⟨[.val (wk r), .un, .un], S⟩) (items := rD r)
    (fun z => match z with | .tup [_, t] => t | z => z) (by simp [List.lookup]) (fun z hz => by
      obtain ⟨q, hq, rfl⟩ := List.mem_map.mp hz
      exact ⟨⟨[.val (wk r), .val (.str [q.1]), .val (.int q.2)], S⟩, ⟨[.val (wk r), .val (.str [q.1]), .val (.int q.2)], S⟩, by simp, by simp [e_Walk_length_0], by simp⟩) (by simp; omega)
  rw [List.map_map] at e1
  have e2 : List.map ((fun z => match z with | .tup [_, t] => t | z => z) ∘ qD) r = r.map fun q => D.int q.2 := rfl
  rw [e2] at e1
  have h3 := sum_times r
  generalize (r.map fun q => D.int q.2) = R at *
  simp [-r_aLc] at e1
  simp [-r_aLc, g_Walk_length, b_Walk_length, fnD, e1, h3]
end W_k71
set_option maxRecDepth 100000
set_option maxHeartbeats 4000000
set_option exponentiation.threshold 4000
namespace W_k71
open DL ST
/-! ### walks found -/
def wkO : Option Runs → D
  | none => .non
  | some r => wk (mg r)
theorem walk_of_ok {x y a : Int} (h : PB x y a) (n : Int) (S : List Cell) (bn : Bd n 4000) (h0 : 0 ≤ n) : g_walk_of [plc x y a, .int n] S = .ok (wkO (ptO x y a n)) S := by
  have h1 := pairs_to_ok x y a n S h.x h.y h.a bn
  rw [ptO_eq] at *
  by_cases c : stp x y a ≤ n ∧ (n - stp x y a) % 2 = 0
  · rw [if_pos c] at *
    have hg := (pt_leads c.1 c.2).good
    have hi := winit_ok (.lst (rD (pt x y a n))) _ S (.inl rfl) hg (by have := pt_len x y a n; omega)
    simp [ptD] at h1
    simp [g_walk_of, b_walk_of, fnD, List.lookup, h0, h1, hi, isNonD, wkO]
  · rw [if_neg c] at *
    simp [ptD] at h1
    simp [g_walk_of, b_walk_of, fnD, List.lookup, h0, h1, isNonD, wkO]
theorem bd_stp' {x y a : Int} (h : PB x y a) : Bd (stp x y a) 3620 := bd_stp h.x h.y h.a
/-- the runs of the least walk -/
def lw (x y a n : Int) : Runs := mg (pt x y a n)
structure IsWk (r : Runs) (p : Sp) (n : Int) (m : Nat) : Prop where
  neat : Neat r
  to : led home r = p
  len : len r = n
  few : r.length ≤ m
theorem wk_of {x y a n : Int} (h : stp x y a ≤ n ∧ (n - stp x y a) % 2 = 0) : IsWk (mg (pt x y a n)) ⟨x, y, a⟩ n 7 := by
  obtain ⟨g, t, l⟩ := pt_leads h.1 h.2
  exact ⟨mg_neat g, by rw [mg_led g, t], by rw [mg_len g, l], mg_pt ..⟩
theorem wk_least (x y a : Int) : IsWk (mg (pt x y a (stp x y a))) ⟨x, y, a⟩ (stp x y a) 6 := by
  obtain ⟨h1, h2, h3, h4⟩ := wk_of (x := x) (y := y) (a := a) (n := stp x y a) ⟨Int.le_refl _, by omega⟩
  exact ⟨h1, h2, h3, Nat.le_trans (mg_cnt _) pt_six⟩
theorem least_ok {x y a : Int} (h : PB x y a) (S : List Cell) : g_least_walk [plc x y a] S = .ok (wk (mg (pt x y a (stp x y a)))) S := by
  have h1 := steps_ok h S
  have h2 := walk_of_ok h (stp x y a) S ((bd_stp' h).le (by decide)) (stp_nonneg x y a)
  rw [ptO_eq, if_pos ⟨Int.le_refl _, by omega⟩] at h2
  simp [wkO] at h2
  simp [g_least_walk, b_least_walk, fnD, h1, h2]
end W_k71
set_option maxRecDepth 100000
set_option maxHeartbeats 4000000
set_option exponentiation.threshold 4000
namespace W_k71
open DL ST
abbrev plS (p : Sp) : D := plc p.x p.y p.a
theorem Sz.pb {n : Nat} {p : Sp} (h : Sz n p) (hn : n ≤ 590) : PB p.x p.y p.a := ⟨h.x.le (by omega), h.y.le (by omega), h.a.le (by omega)⟩
/-! ### walks parted -/
theorem need_step_ok (r : Runs) (k : Int) (S : List Cell) (hl : r.length ≤ 100000) (h0 : 0 ≤ k) (h1 : k ≤ len r) : g_Walk_need_step [wk r, .int k] S = .ok .non S := by
  have e := length_ok r S hl
  have h2 : (len r < k) = False := eq_false (by omega)
  simp [g_Walk_need_step, b_Walk_need_step, fnD, h0, e, h2]
theorem parted_ok (r : Runs) (k : Int) (S : List Cell) (hl : r.length ≤ 100000) : g_Walk_parted [wk r, .int k] S = .ok (.tup [.lst (rD (hd r k)), .lst (rD (tl r k))]) S := by
  obtain ⟨s', e, ⟨y5, y6, y7, hs⟩, hS⟩ := for_inv (g := gT 2 (gsCons (gN 5) (gsCons (gN 6) gsNil))) (b := w_Walk_parted_0) (items := rD r) (s := ⟨[.val (wk r), .val (.int k), .ol [], .ol [], .val (.int k), .un, .un, .un], S⟩)
    (fun i s => (∃ y5 y6 y7, s.sl = [.val (wk r), .val (.int k), .ol (rD (hd (r.take i) k)), .ol (rD (tl (r.take i) k)), .val (.int (k - len (hd (r.take i) k))), y5, y6, y7]) ∧ s.st = S) ⟨⟨.un, .un, .un, by simp [hd, tl, len]⟩, rfl⟩ (fun i x s hi hp => by
      obtain ⟨⟨y5, y6, y7, hs⟩, hS⟩ := hp
      obtain ⟨sl, st⟩ := s
      simp only at hs hS
      subst hs hS
      rw [List.getElem?_map, Option.map_eq_some_iff] at hi
      obtain ⟨q, hq, rfl⟩ := hi
      have hi : i < r.length := (List.getElem?_eq_some_iff.mp hq).1
      have e1 : rD (hd (r.take (i + 1)) k) = rD (hd (r.take i) k) ++ [.tup [.str [q.1], .int (mn (k - len (hd (r.take i) k)) q.2)]] := by rw [take_snoc hq, hd_snoc]; simp
      have e2 : rD (tl (r.take (i + 1)) k) = rD (tl (r.take i) k) ++ [.tup [.str [q.1], .int (q.2 - mn (k - len (hd (r.take i) k)) q.2)]] := by rw [take_snoc hq, tl_snoc]; simp
      have e3 : k - len (hd (r.take (i + 1)) k) = k - len (hd (r.take i) k) - mn (k - len (hd (r.take i) k)) q.2 := by
        rw [take_snoc hq, hd_snoc, len_app]
        show k - (len (hd (r.take i) k) + (mn (k - len (hd (r.take i) k)) q.2 + 0)) = _
        omega
      have z1 : (rD (hd (r.take i) k)).length < 1000000 := by rw [List.length_map, hd_length, List.length_take]; omega
      have z2 : (rD (tl (r.take i) k)).length < 1000000 := by rw [List.length_map, tl_length, List.length_take]; omega
      rw [e1, e2, e3]
      generalize rD (hd (r.take i) k) = A at *
      generalize rD (tl (r.take i) k) = B at *
      generalize k - len (hd (r.take i) k) = l at *
      refine ⟨DS.mk [.val (wk r), .val (.int k), .ol A, .ol B, .val (.int l), .val (.str [q.1]), .val (.int q.2), y7] st, DS.mk [.val (wk r), .val (.int k), .ol (A ++ [.tup [.str [q.1], .int (mn l q.2)]]), .ol (B ++ [.tup [.str [q.1], .int (q.2 - mn l q.2)]]), .val (.int (l - mn l q.2)), .val (.str [q.1]), .val (.int q.2), .val (.int (mn l q.2))] st, by simp, .inl ?_, ⟨_, _, _, rfl⟩, rfl⟩
      have em : (if q.2 < l then q.2 else l) = mn l q.2 := rfl
      simp [w_Walk_parted_0, em, z1, z2])
  obtain ⟨sl, st⟩ := s'
  simp only at hs hS
  subst hs hS
  rw [List.length_map, List.take_length] at e
  simp [g_Walk_parted, b_Walk_parted, fnD, List.lookup, e]
theorem head_ok (r : Runs) (k : Int) (S : List Cell) (g : Good r) (hl : r.length ≤ 10000) (h0 : 0 ≤ k) (h1 : k ≤ len r) : g_Walk_head [wk r, .int k] S = .ok (wk (mg (hd r k))) S := by
  have e1 := need_step_ok r k S (by omega) h0 h1
  have e2 := parted_ok r k S (by omega)
  have e3 := winit_ok (.lst (rD (hd r k))) _ S (.inl rfl) (hd_good g h0) (by rw [hd_length]; exact hl)
  generalize rD (hd r k) = A at *
  generalize rD (tl r k) = B at *
  simp [g_Walk_head, b_Walk_head, fnD, e1, e2, e3]
theorem wplace_ok (r : Runs) (S : List Cell) (g : Good r) {n : Nat} (bl : Bd (len r) n) (hn : n < 40000) (hl : r.length ≤ 100000) : g_Walk_place [wk r] S = .ok (plS (led home r)) S := by
  have e1 := spots_ok r S g bl hn hl
  rw [spts_snoc, List.take_length] at e1
  have e4 := at_neg1 (spts r r.length) (spD (led home r))
  generalize spts r r.length = L at *
  simp [g_Walk_place, b_Walk_place, fnD, e1, e4]
theorem at_ok (r : Runs) (k : Int) (S : List Cell) (g : Good r) (hl : r.length ≤ 10000) (h0 : 0 ≤ k) (h1 : k ≤ len r) {n : Nat} (bl : Bd (len r) n) (hn : n < 40000) : g_Walk_at [wk r, .int k] S = .ok (plS (led home (hd r k))) S := by
  have e1 := head_ok r k S g hl h0 h1
  have g2 := hd_good g h0
  have e2 := wplace_ok (mg (hd r k)) S (mg_neat g2).good (n := n) (by rw [mg_len g2, hd_len g h0 h1]; exact bl.of_le h0 h1) hn (by
    have := mg_cnt (hd r k)
    have := cnt_le (hd r k)
    rw [hd_length] at this
    omega)
  rw [mg_led g2] at e2
  generalize mg (hd r k) = R at *
  simp [g_Walk_at, b_Walk_at, fnD, e1, e2]
/-! ### products, ways back, distances -/
theorem mul_ok (p q : Sp) (S : List Cell) (h : mulOk p.x q.y = true) : g_PlaceX_mulX [plS p, plS q] S = .ok (plS (mul p q)) S := by
  simp [g_PlaceX_mulX, b_PlaceX_mulX, fnD, List.lookup, h, ST.mul]
theorem inv_ok (p : Sp) (S : List Cell) (h : mulOk p.x p.y = true) : g_PlaceX_invertX [plS p] S = .ok (plS (inv p)) S := by
  simp [g_PlaceX_invertX, b_PlaceX_invertX, fnD, List.lookup, h, ST.inv]
theorem eq_ok (p q : Sp) (S : List Cell) : g_PlaceX_eqX [plS p, plS q] S = .ok (.bl (decide (p.x = q.x ∧ p.y = q.y ∧ p.a = q.a))) S := by
  simp [g_PlaceX_eqX, b_PlaceX_eqX, fnD, List.lookup, eqPl]
theorem between_ok {n : Nat} {p q : Sp} (hp : Sz n p) (hq : Sz n q) (hn : n ≤ 588) (S : List Cell) : g_PlaceX_invertX [plS p] S = .ok (plS (inv p)) S ∧ g_PlaceX_mulX [plS (inv p), plS q] S = .ok (plS (mul (inv p) q)) S ∧ PB (mul (inv p) q).x (mul (inv p) q).y (mul (inv p) q).a := by
  have h1 := hp.inv
  have h2 := hq.mono (show n ≤ n + 1 by omega)
  exact ⟨inv_ok p S (hp.mulOk hp (by omega)), mul_ok _ _ S (h1.mulOk h2 (by omega)), Sz.pb (h1.mul h2) (by omega)⟩
theorem distance_ok {n : Nat} {p q : Sp} (hp : Sz n p) (hq : Sz n q) (hn : n ≤ 588) (S : List Cell) : g_distance [plS p, plS q] S = .ok (.int (dst p q)) S := by
  obtain ⟨e1, e2, pb⟩ := between_ok hp hq hn S
  have e3 := steps_ok pb S
  simp [g_distance, b_distance, fnD, e1, e2, e3, dst, ST.st]
theorem lies_ok {n : Nat} {m p q : Sp} (hm : Sz n m) (hp : Sz n p) (hq : Sz n q) (hn : n ≤ 588) (S : List Cell) : g_lies_between [plS m, plS p, plS q] S = .ok (.bl (decide (dst p m + dst m q = dst p q))) S := by
  have e1 := distance_ok hp hm hn S
  have e2 := distance_ok hm hq hn S
  have e3 := distance_ok hp hq hn S
  simp [g_lies_between, b_lies_between, w_lies_between_0, fnD, e1, e2, e3]
/-! ### what is refused -/
abbrev badP (o : D) : Xc := ⟨"BadPlace", [([118, 97, 108, 117, 101], o)]⟩
abbrev badN (o : D) : Xc := ⟨"BadNumber", [([118, 97, 108, 117, 101], o)]⟩
end W_k71
set_option maxRecDepth 100000
set_option maxHeartbeats 4000000
set_option exponentiation.threshold 4000
namespace W_k71
open DL ST
/-! ### letters -/
theorem nr_short (p : Sp) : (nr p).length ≤ 4 := List.length_filter_le ..
theorem nr_all_lt (p : Sp) : (nr p).all (· < 1114112) = true := by
  rw [List.all_eq_true]
  intro c hc
  exact decide_eq_true (isL_lt (mem_nr.mp hc).1)
noncomputable def fl (p : Sp) : List Nat := four.filter fun c => decide (st (mul (inv (stepP c)) p) < st p)
theorem fl_eq (p : Sp) : fl p = nr (inv p) := by
  unfold fl nr
  refine List.filter_congr fun c hc => ?_
  rw [decide_eq_decide, first_eq p (four_isL hc), mem_nr]
  exact ⟨fun h => h.2, fun h => ⟨four_isL hc, h⟩⟩
abbrev fourD : List D := [.tup [.str [101], .int 1, .int 0], .tup [.str [110], .int 0, .int 1], .tup [.str [119], .int (-1), .int 0], .tup [.str [115], .int 0, .int (-1)]]
abbrev ltD (d : D) : D := match d with | .tup (x :: _) => x | x => x
abbrev tauD (f : Nat → Bool) (d : D) : Bool := match d with | .tup (.str [c] :: _) => f c | _ => false
theorem four_fil (f : Nat → Bool) : ((fourD.filter (tauD f)).map ltD) = (four.filter f).map fun c => D.str [c] := by
  cases h1 : f 101 <;> cases h2 : f 110 <;> cases h3 : f 119 <;> cases h4 : f 115 <;> simp [List.filter, h1, h2, h3, h4]
theorem Sz.step {n : Nat} {p : Sp} (h : Sz n p) {c : Nat} (hc : isL c) : Sz (n + 1) (gone p c 1) := by
  rw [ST.gone_mul]
  have : Sz 1 (gone home c 1) := by
    rcases hc with rfl | rfl | rfl | rfl <;> exact ⟨⟨by decide⟩, ⟨by decide⟩, ⟨by decide⟩⟩
  by_cases z : 1 ≤ n
  · exact h.mul (this.mono z)
  · have h0 : n = 0 := by omega
    subst h0
    have hx := h.x.lt
    have hy := h.y.lt
    have ha := h.a
    have x0 : p.x = 0 := by omega
    have y0 : p.y = 0 := by omega
    have e1 := this.x
    have e2 := this.y
    have e3 := this.a
    refine ⟨?_, ?_, ?_⟩
    · show Bd (p.x + (gone home c 1).x) 1
      rw [x0, Int.zero_add]; exact e1
    · show Bd (p.y + (gone home c 1).y) 1
      rw [y0, Int.zero_add]; exact e2
    · show Bd (p.a + (gone home c 1).a + p.x * (gone home c 1).y) 22
      rw [x0, Int.zero_mul, Int.add_zero]
      have z : (gone home c 1).a = 0 := by rcases hc with rfl | rfl | rfl | rfl <;> decide
      rw [z, Int.add_zero]
      exact ha.le (by decide)
theorem steps_sp {n : Nat} {p : Sp} (h : Sz n p) (hn : n ≤ 590) (S : List Cell) : g_steps [plS p] S = .ok (.int (st p)) S := steps_ok (Sz.pb h hn) S
theorem nearer_ok {n : Nat} {p : Sp} (h : Sz n p) (hn : n ≤ 580) (S : List Cell) : g_nearer [plS p] S = .ok (.str (nr p)) S := by
  have s0 := steps_sp h (by omega) S
  have L := aLc_gen (vs := [2, 3, 4]) (it := itSeq (eC (.tup fourD))) (g := gT 3 (gsCons (gN 2) (gsCons (gN 3) (gsCons (gN 4) (gsNil))))) (t := t_nearer_0) (e := e_nearer_0) (s := ⟨[.val (plS p), .val (.int (st p)), .un, .un, .un], S⟩) (s0 := ⟨[.val (plS p), .val (.int (st p)), .un, .un, .un], S⟩) (items := fourD)
    (tauD fun c => decide (st (gone p c 1) < st p)) ltD (by simp) (fun d hd => by
      have key : ∀ (c : Nat) (x y : Int), isL c → (⟨x, y, 0⟩ : Sp) = gone home c 1 → mulOk p.x y = true → ∃ s1 s2, (gT 3 (gsCons (gN 2) (gsCons (gN 3) (gsCons (gN 4) (gsNil))))) (.tup [.str [c], .int x, .int y]) (wipeS [2, 3, 4] ⟨[.val (plS p), .val (.int (st p)), .un, .un, .un], S⟩) = .ok () s1 ∧ t_nearer_0 s1 = .ok (decide (st (gone p c 1) < st p)) s2 ∧ (decide (st (gone p c 1) < st p) = true → ∃ s3, e_nearer_0 s2 = .ok (.str [c]) s3 ∧ wipeS [2, 3, 4] s3 = wipeS [2, 3, 4] ⟨[.val (plS p), .val (.int (st p)), .un, .un, .un], S⟩) ∧ (decide (st (gone p c 1) < st p) = false → wipeS [2, 3, 4] s2 = wipeS [2, 3, 4] ⟨[.val (plS p), .val (.int (st p)), .un, .un, .un], S⟩) := fun c x y hc e hm => by
        have m1 := mul_ok p ⟨x, y, 0⟩ S hm
        rw [e, ← ST.gone_mul, ← e] at m1
        have s1 := steps_sp (Sz.step h hc) (by omega) S
        try simp only at m1
        generalize gone p c 1 = q at *
        refine ⟨⟨[.val (plS p), .val (.int (st p)), .val (.str [c]), .val (.int x), .val (.int y)], S⟩, ⟨[.val (plS p), .val (.int (st p)), .val (.str [c]), .val (.int x), .val (.int y)], S⟩, by simp, ?_, fun _ => ⟨⟨[.val (plS p), .val (.int (st p)), .val (.str [c]), .val (.int x), .val (.int y)], S⟩, by simp [e_nearer_0], by simp⟩, fun _ => by simp⟩
        simp [t_nearer_0, m1, s1]
      have mm : ∀ y : Int, Bd y 1 → mulOk p.x y = true := fun y hy => mulOk_of h.x hy (by omega)
      simp only [fourD, List.mem_cons, List.not_mem_nil, or_false] at hd
      rcases hd with rfl | rfl | rfl | rfl
      · exact key 101 1 0 (by simp [isL]) (by simp [gone]) (mm 0 ⟨by decide⟩)
      · exact key 110 0 1 (by simp [isL]) (by simp [gone]) (mm 1 ⟨by decide⟩)
      · exact key 119 (-1) 0 (by simp [isL]) (by simp [gone]) (mm 0 ⟨by decide⟩)
      · exact key 115 0 (-1) (by simp [isL]) (by simp [gone]) (mm (-1) ⟨by decide⟩)) (by simp)
  rw [four_fil] at L
  have J := join_ones (nr p) (by have := nr_short p; omega)
  unfold nr at J ⊢
  generalize (List.filter (fun c => decide (st (gone p c 1) < st p)) four) = N at *
  generalize (N.map fun c => D.str [c]) = M at *
  simp [-r_aLc] at L
  simp [-r_aLc, -r_mJoin, g_nearer, b_nearer, fnD, s0, L, J]
theorem first_ok {n : Nat} {p : Sp} (h : Sz n p) (hn : n ≤ 580) (S : List Cell) : g_first_letters [plS p] S = .ok (.str (nr (inv p))) S := by
  have s0 := steps_sp h (by omega) S
  have L := aLc_gen (vs := [2, 3, 4]) (it := itSeq (eC (.tup fourD))) (g := gT 3 (gsCons (gN 2) (gsCons (gN 3) (gsCons (gN 4) (gsNil))))) (t := t_first_letters_0) (e := e_first_letters_0) (s := ⟨[.val (plS p), .val (.int (st p)), .un, .un, .un], S⟩) (s0 := ⟨[.val (plS p), .val (.int (st p)), .un, .un, .un], S⟩) (items := fourD)
    (tauD fun c => decide (st (mul (inv (stepP c)) p) < st p)) ltD (by simp) (fun d hd => by
      have key : ∀ (c : Nat) (x y : Int), isL c → Bd x 1 → Bd y 1 → (⟨-x, -y, 0⟩ : Sp) = inv (stepP c) → ∃ s1 s2, (gT 3 (gsCons (gN 2) (gsCons (gN 3) (gsCons (gN 4) (gsNil))))) (.tup [.str [c], .int x, .int y]) (wipeS [2, 3, 4] ⟨[.val (plS p), .val (.int (st p)), .un, .un, .un], S⟩) = .ok () s1 ∧ t_first_letters_0 s1 = .ok (decide (st (mul (inv (stepP c)) p) < st p)) s2 ∧ (decide (st (mul (inv (stepP c)) p) < st p) = true → ∃ s3, e_first_letters_0 s2 = .ok (.str [c]) s3 ∧ wipeS [2, 3, 4] s3 = wipeS [2, 3, 4] ⟨[.val (plS p), .val (.int (st p)), .un, .un, .un], S⟩) ∧ (decide (st (mul (inv (stepP c)) p) < st p) = false → wipeS [2, 3, 4] s2 = wipeS [2, 3, 4] ⟨[.val (plS p), .val (.int (st p)), .un, .un, .un], S⟩) := fun c x y hc bx bY e => by
        have sz : Sz 1 (⟨-x, -y, 0⟩ : Sp) := ⟨@bd_neg _ _ bx, @bd_neg _ _ bY, bd_0.le (by decide)⟩
        have szm := (sz.mono (show 1 ≤ n + 1 by omega)).mul (h.mono (show n ≤ n + 1 by omega))
        have m1 := mul_ok ⟨-x, -y, 0⟩ p S ((sz.mono (show 1 ≤ n + 1 by omega)).mulOk (h.mono (show n ≤ n + 1 by omega)) (by omega))
        rw [← e]
        have s1 := steps_sp szm (by omega) S
        try simp only at m1
        generalize mul ⟨-x, -y, 0⟩ p = q at *
        refine ⟨⟨[.val (plS p), .val (.int (st p)), .val (.str [c]), .val (.int x), .val (.int y)], S⟩, ⟨[.val (plS p), .val (.int (st p)), .val (.str [c]), .val (.int x), .val (.int y)], S⟩, by simp, ?_, fun _ => ⟨⟨[.val (plS p), .val (.int (st p)), .val (.str [c]), .val (.int x), .val (.int y)], S⟩, by simp [e_first_letters_0], by simp⟩, fun _ => by simp⟩
        simp [t_first_letters_0, m1, s1]
      simp only [fourD, List.mem_cons, List.not_mem_nil, or_false] at hd
      rcases hd with rfl | rfl | rfl | rfl
      · exact key 101 1 0 (by simp [isL]) ⟨by decide⟩ ⟨by decide⟩ (by simp [stepP, inv, gone])
      · exact key 110 0 1 (by simp [isL]) ⟨by decide⟩ ⟨by decide⟩ (by simp [stepP, inv, gone])
      · exact key 119 (-1) 0 (by simp [isL]) ⟨by decide⟩ ⟨by decide⟩ (by simp [stepP, inv, gone])
      · exact key 115 0 (-1) (by simp [isL]) ⟨by decide⟩ ⟨by decide⟩ (by simp [stepP, inv, gone])) (by simp)
  rw [four_fil] at L
  have J := join_ones (nr (inv p)) (by have := nr_short (inv p); omega)
  rw [← fl_eq] at J ⊢
  unfold fl at J ⊢
  generalize (List.filter (fun c => decide (st (mul (inv (stepP c)) p) < st p)) four) = N at *
  generalize (N.map fun c => D.str [c]) = M at *
  simp [-r_aLc] at L
  simp [-r_aLc, -r_mJoin, g_first_letters, b_first_letters, fnD, s0, L, J]
theorem summit_ok {n : Nat} {p : Sp} (h : Sz n p) (hn : n ≤ 580) (S : List Cell) : g_is_summit [plS p] S = .ok (.bl (decide ((nr p).length = 4))) S := by
  have e := nearer_ok h hn S
  have e2 : (((nr p).length : Int) = 4) = ((nr p).length = 4) := by rw [eq_iff_iff]; omega
  have e3 : (nr p).length ≤ 16777216 := by have := nr_short p; omega
  simp [g_is_summit, b_is_summit, fnD, e, bLen, e2, e3]
end W_k71
set_option maxRecDepth 100000
set_option maxHeartbeats 4000000
set_option exponentiation.threshold 4000
namespace W_k71
open DL ST
/-! ### is a walk least -/
theorem steps_at {n : Nat} {p : Sp} (h : Sz n p) (hn : n ≤ 590) (S : List Cell) : g_steps [plS p] S = .ok (.int (st p)) S := steps_ok (Sz.pb h hn) S
theorem lspot_ok {n : Nat} {p : Sp} (h : Sz n p) (hn : n ≤ 590) (k : Int) (S : List Cell) : g_is_least_spot [spD p, .int k] S = .ok (.bl (decide (st p = k))) S := by
  have pb := Sz.pb h hn
  have := steps_of_ok p.x p.y p.a S pb.x pb.y pb.a
  show _ = Res.ok (D.bl (decide (stp p.x p.y p.a = k))) S
  simp [g_is_least_spot, b_is_least_spot, fnD, this]
/-- a walk that is not too great -/
structure Wf (n : Nat) (r : Runs) : Prop where
  good : Good r
  bd : Bd (len r) n
  few : r.length ≤ 10000
theorem Wf.sz {n : Nat} {r : Runs} (h : Wf n r) {k : Int} (hk : 0 ≤ k) (hl : k ≤ len r) : Sz n (led home (hd r k)) := Sz.of_st (by
  have h1 := st_le_len (hd_good h.good hk)
  rw [hd_len h.good hk hl] at h1
  have h2 := h.bd.lt
  have e : ((2 ^ n : Nat) : Int) = 2 ^ n := by simp
  omega)
theorem Wf.sz' {n : Nat} {r : Runs} (h : Wf n r) : Sz n (led home r) := by
  have := h.sz (len_nonneg h.good) (Int.le_refl _)
  rwa [hd_all home h.good] at this
theorem Wf.head {n : Nat} {r : Runs} (h : Wf n r) {k : Int} (hk : 0 ≤ k) (hl : k ≤ len r) : Wf n (mg (hd r k)) := by
  have g := hd_good h.good hk
  refine ⟨(mg_neat g).good, ?_, ?_⟩
  · rw [mg_len g, hd_len h.good hk hl]
    exact h.bd.of_le hk hl
  · have h1 := mg_cnt (hd r k)
    have h2 := cnt_le (hd r k)
    rw [hd_length] at h2
    have := h.few
    omega
theorem least_w {n : Nat} {r : Runs} (h : Wf n r) (hn : n ≤ 590) (S : List Cell) : g_Walk_is_least [wk r] S = .ok (.bl (decide (st (led home r) = len r))) S := by
  have e1 := spots_ok r S h.good h.bd (by omega) (by have := h.few; omega)
  have e2 := length_ok r S (by have := h.few; omega)
  have e3 := lspot_ok h.sz' hn (len r) S
  rw [spts_snoc, List.take_length] at e1
  have e4 := at_neg1 (spts r r.length) (spD (led home r))
  generalize spts r r.length = L at *
  simp [g_Walk_is_least, b_Walk_is_least, fnD, e1, e2, e3, e4]
/-! ### the first number of steps that is not least -/
theorem sz_gone {n : Nat} {p : Sp} {c : Nat} (hc : isL c) {g h : Int} (hp : st p = g) (h0 : 0 ≤ h) (hb : Bd (g + h) n) (g0 : 0 ≤ g) : Sz n (gone p c h) := Sz.of_st (by
  have h1 := (st_goneI (p := p) hc h0).1
  have h2 := hb.lt
  have e : ((2 ^ n : Nat) : Int) = 2 ^ n := by simp
  omega)
theorem mul_small {n : Nat} {p : Sp} {h : Int} (hp : Sz n p) (hh : Bd h n) (hn : n ≤ 590) : mulOk p.x h = true := mulOk_of hp.x hh (by omega)
theorem long_loop {n : Nat} {p : Sp} {c : Nat} {g t : Int} (hc : isL c) (hp : st p = g) (g0 : 0 ≤ g) (hb : Bd (g + t) n) (hn : n ≤ 590) (S : List Cell) :
    ∀ (N : Nat) (lo hi : Int) (x6 : Sl), (hi - lo).toNat ≤ N → 0 ≤ lo → lo < hi → hi ≤ t → st (gone p c lo) = g + lo → st (gone p c hi) ≠ g + hi →
    ∃ f lo' x6', sWhile c_first_long_0 w_first_long_0 ⟨[.val (spD p), .val (.str [c]), .val (.int g), .val (.int t), .val (.int lo), .val (.int hi), x6], S⟩ = .ok .nx ⟨[.val (spD p), .val (.str [c]), .val (.int g), .val (.int t), lo', .val (.int f), x6'], S⟩ ∧ 0 < f ∧ f ≤ t ∧ st (gone p c f) ≠ g + f ∧ st (gone p c (f - 1)) = g + (f - 1)
  | 0, lo, hi, x6, hN, h0, h1, h2, h3, h4 => by omega
  | N + 1, lo, hi, x6, hN, h0, h1, h2, h3, h4 => by
    rw [sWhile_eq]
    by_cases cc : 1 < hi - lo
    · have ec : c_first_long_0 ⟨[.val (spD p), .val (.str [c]), .val (.int g), .val (.int t), .val (.int lo), .val (.int hi), x6], S⟩ = .ok true ⟨[.val (spD p), .val (.str [c]), .val (.int g), .val (.int t), .val (.int lo), .val (.int hi), x6], S⟩ := by simp [c_first_long_0, cc]
      rw [ec]
      have hm : ∃ m, (lo + hi).fdiv 2 = m ∧ lo < m ∧ m < hi := ⟨_, rfl, by rw [Int.fdiv_eq_ediv_of_nonneg _ (by decide)]; omega, by rw [Int.fdiv_eq_ediv_of_nonneg _ (by decide)]; omega⟩
      obtain ⟨m, em, m1, m2⟩ := hm
      have sp : Sz n p := Sz.of_st (by
        have h2 := hb.lt
        have e : ((2 ^ n : Nat) : Int) = 2 ^ n := by simp
        omega)
      have bm : Bd m n := hb.of_le (by omega) (by omega)
      have bgm : Bd (g + m) n := hb.of_le (by omega) (by omega)
      have sq := sz_gone (c := c) hc hp (show 0 ≤ m by omega) bgm g0
      have e1 := gone_on_ok p c m S hc (mul_small sp bm hn)
      have e2 := lspot_ok sq hn (g + m) S
      by_cases d : st (gone p c m) = g + m
      · obtain ⟨f, lo', x6', e, hf⟩ := long_loop hc hp g0 hb hn S N m hi (.val (.int m)) (by omega) (by omega) m2 h2 d h4
        refine ⟨f, lo', x6', ?_, hf⟩
        have eb : w_first_long_0 ⟨[.val (spD p), .val (.str [c]), .val (.int g), .val (.int t), .val (.int lo), .val (.int hi), x6], S⟩ = .ok .nx ⟨[.val (spD p), .val (.str [c]), .val (.int g), .val (.int t), .val (.int m), .val (.int hi), .val (.int m)], S⟩ := by
          rw [decide_eq_true d] at e2
          generalize gone p c m = u at *
          simp [w_first_long_0, em, e1, e2]
        simp [eb, loopOut, e]
      · obtain ⟨f, lo', x6', e, hf⟩ := long_loop hc hp g0 hb hn S N lo m (.val (.int m)) (by omega) h0 m1 (by omega) h3 d
        refine ⟨f, lo', x6', ?_, hf⟩
        have eb : w_first_long_0 ⟨[.val (spD p), .val (.str [c]), .val (.int g), .val (.int t), .val (.int lo), .val (.int hi), x6], S⟩ = .ok .nx ⟨[.val (spD p), .val (.str [c]), .val (.int g), .val (.int t), .val (.int lo), .val (.int m), .val (.int m)], S⟩ := by
          rw [decide_eq_false d] at e2
          generalize gone p c m = u at *
          simp [w_first_long_0, em, e1, e2]
        simp [eb, loopOut, e]
    · refine ⟨hi, .val (.int lo), x6, ?_, by omega, h2, h4, ?_⟩
      · simp [c_first_long_0, cc]
      · rw [show hi - 1 = lo by omega]; exact h3
theorem long_ok {n : Nat} {p : Sp} {c : Nat} {g t : Int} (hc : isL c) (hp : st p = g) (g0 : 0 ≤ g) (t0 : 0 ≤ t) (hb : Bd (g + t) n) (hn : n ≤ 590) (h4 : st (gone p c t) ≠ g + t) (S : List Cell) :
    ∃ f, g_first_long [spD p, .str [c], .int g, .int t] S = .ok (.int f) S ∧ 0 < f ∧ f ≤ t ∧ st (gone p c f) ≠ g + f ∧ st (gone p c (f - 1)) = g + (f - 1) := by
  have t1 : 0 < t := by
    by_cases z : t = 0
    · subst z; rw [gone_zero] at h4; omega
    · omega
  obtain ⟨f, lo', x6', e, hf⟩ := long_loop hc hp g0 hb hn S _ 0 t .un (Nat.le_refl _) (Int.le_refl _) t1 (Int.le_refl _) (by rw [gone_zero]; omega) h4
  refine ⟨f, ?_, hf⟩
  simp [g_first_long, b_first_long, fnD, e]
theorem fnl_loop {n : Nat} (hn : n ≤ 590) (W : D) (S : List Cell) : ∀ (r : Runs) (p : Sp) (g : Int) (x3 x4 : Sl), Good r → st p = g → 0 ≤ g → Bd (g + len r) n →
    ∃ o s', forL (gT 2 (gsCons (gN 3) (gsCons (gN 4) (gsNil)))) w_Walk_first_not_least_0 (rD r) ⟨[.val W, .val (.int g), .val (spD p), x3, x4], S⟩ = .ok (match o with | none => Out.nx | some f => Out.rt (.int f)) s' ∧ s'.st = S ∧
      (match o with | none => st (led p r) = g + len r | some f => g < f ∧ f ≤ g + len r ∧ st (led p (hd r (f - g))) ≠ f ∧ st (led p (hd r (f - 1 - g))) = f - 1)
  | [], p, g, x3, x4, _, hp, _, _ => ⟨none, ⟨[.val W, .val (.int g), .val (spD p), x3, x4], S⟩, by simp, rfl, by show st p = g + 0; omega⟩
  | q :: r, p, g, x3, x4, gd, hp, g0, hb => by
    have h0 := gd.head
    have hl : len (q :: r) = q.2 + len r := rfl
    rw [hl] at hb
    have hln := len_nonneg gd.tail
    have sp : Sz n p := Sz.of_st (by
      have h2 := hb.lt
      have e : ((2 ^ n : Nat) : Int) = 2 ^ n := by simp
      omega)
    have bq : Bd q.2 n := hb.of_le (by omega) (by omega)
    have bgq : Bd (g + q.2) n := hb.of_le (by omega) (by omega)
    have e1 := gone_on_ok p q.1 q.2 S h0.1 (mul_small sp bq hn)
    have sq := sz_gone (c := q.1) h0.1 hp h0.2 bgq g0
    have e2 := lspot_ok sq hn (g + q.2) S
    by_cases d : st (gone p q.1 q.2) = g + q.2
    · obtain ⟨o, s', e, hs, ho⟩ := fnl_loop hn W S r (gone p q.1 q.2) (g + q.2) (.val (.str [q.1])) (.val (.int q.2)) gd.tail d (by omega) (by rw [show g + q.2 + len r = g + (q.2 + len r) by omega]; exact hb)
      refine ⟨o, s', ?_, hs, ?_⟩
      · have eb : w_Walk_first_not_least_0 ⟨[.val W, .val (.int g), .val (spD p), .val (.str [q.1]), .val (.int q.2)], S⟩ = .ok .nx ⟨[.val W, .val (.int (g + q.2)), .val (spD (gone p q.1 q.2)), .val (.str [q.1]), .val (.int q.2)], S⟩ := by
          rw [decide_eq_true d] at e2
          generalize gone p q.1 q.2 = u at *
          simp [w_Walk_first_not_least_0, e1, e2]
        rw [rD, List.map_cons]
        simp [eb, loopOut, e]
      · cases o with
        | none =>
          show st (led (gone p q.1 q.2) r) = g + (q.2 + len r)
          rw [ho]; omega
        | some f =>
          obtain ⟨f1, f2, f3, f4⟩ := ho
          have mm : ∀ k : Int, q.2 ≤ k → mn k q.2 = q.2 := fun k hk => by unfold mn; split <;> omega
          refine ⟨by omega, by rw [hl]; omega, ?_, ?_⟩
          · show st (led (gone p q.1 (mn (f - g) q.2)) (hd r (f - g - mn (f - g) q.2))) ≠ f
            rw [mm _ (by omega), show f - g - q.2 = f - (g + q.2) by omega]; exact f3
          · show st (led (gone p q.1 (mn (f - 1 - g) q.2)) (hd r (f - 1 - g - mn (f - 1 - g) q.2))) = f - 1
            rw [mm _ (by omega), show f - 1 - g - q.2 = f - 1 - (g + q.2) by omega]; exact f4
    · obtain ⟨f, e3, f1, f2, f3, f4⟩ := long_ok h0.1 hp g0 h0.2 bgq hn d S
      refine ⟨some (g + f), ⟨[.val W, .val (.int g), .val (spD p), .val (.str [q.1]), .val (.int q.2)], S⟩, ?_, rfl, by omega, by rw [hl]; omega, ?_, ?_⟩
      · rw [decide_eq_false d] at e2
        generalize gone p q.1 q.2 = u at *
        rw [rD, List.map_cons]
        simp [w_Walk_first_not_least_0, e1, e2, e3, loopOut]
      · show st (led (gone p q.1 (mn (g + f - g) q.2)) (hd r (g + f - g - mn (g + f - g) q.2))) ≠ g + f
        rw [show g + f - g = f by omega, show mn f q.2 = f by unfold mn; split <;> omega, Int.sub_self, hd_zero _ gd.tail]
        exact f3
      · show st (led (gone p q.1 (mn (g + f - 1 - g) q.2)) (hd r (g + f - 1 - g - mn (g + f - 1 - g) q.2))) = g + f - 1
        rw [show g + f - 1 - g = f - 1 by omega, show mn (f - 1) q.2 = f - 1 by unfold mn; split <;> omega, Int.sub_self, hd_zero _ gd.tail]
        omega
abbrev oD : Option Int → D
  | none => .non
  | some f => .int f
theorem fnl_ok {n : Nat} {r : Runs} (h : Wf n r) (hn : n ≤ 590) (S : List Cell) : ∃ o, g_Walk_first_not_least [wk r] S = .ok (oD o) S ∧ Fnl r o := by
  obtain ⟨o, s', e, hs, ho⟩ := fnl_loop hn (wk r) S r home 0 .un .un h.good st_home (Int.le_refl _) (by rw [Int.zero_add]; exact h.bd)
  obtain ⟨sl, st'⟩ := s'
  simp only at hs
  subst hs
  refine ⟨o, ?_, ?_⟩
  · simp only [home] at e
    cases o with
    | none => simp [g_Walk_first_not_least, b_Walk_first_not_least, fnD, List.lookup, e]
    | some f => simp [g_Walk_first_not_least, b_Walk_first_not_least, fnD, List.lookup, e]
  · cases o with
    | none => show st (led home r) = len r; rw [ho]; omega
    | some f =>
      obtain ⟨f1, f2, f3, f4⟩ := ho
      rw [Int.sub_zero] at f3 f4
      exact ⟨f1, by omega, f3, f4⟩
theorem at_w {n : Nat} {r : Runs} (h : Wf n r) (hn : n ≤ 590) (S : List Cell) {k : Int} (hk : 0 ≤ k) (hl : k ≤ len r) : g_Walk_at [wk r, .int k] S = .ok (plS (led home (hd r k))) S := at_ok r k S h.good h.few hk hl h.bd (by omega)
theorem place_w {n : Nat} {r : Runs} (h : Wf n r) (hn : n ≤ 590) (S : List Cell) : g_Walk_place [wk r] S = .ok (plS (led home r)) S := wplace_ok r S h.good h.bd (by omega) (by have := h.few; omega)
theorem length_w {n : Nat} {r : Runs} (h : Wf n r) (S : List Cell) : g_Walk_length [wk r] S = .ok (.int (len r)) S := length_ok r S (by have := h.few; omega)
end W_k71
set_option maxRecDepth 100000
set_option maxHeartbeats 4000000
set_option exponentiation.threshold 4000
namespace W_k71
open DL ST
theorem pickS_ok {n : Nat} {S : List Cell} (hS : Pen n S) (hn : n < 2 ^ 20) : ∃ c S', g__law_pick [.cell 0, .str [101, 110, 119, 115]] S = .ok (.str [c]) S' ∧ isL c ∧ Pen (n + 1) S' := by
  obtain ⟨d, S', e, d0, d1, hP⟩ := draw_ok hS hn (p := 4) (by decide) (by decide)
  obtain ⟨k, rfl⟩ := Int.eq_ofNat_of_zero_le d0
  have hk : k < [101, 110, 119, 115].length := by simp; omega
  have h2 : L2.atI [101, 110, 119, 115] (k : Int) = some [101, 110, 119, 115][k] := L2.atI_nat (by simp [hk])
  refine ⟨[101, 110, 119, 115][k], S', ?_, four_isL (List.getElem_mem _), hP⟩
  simp [g__law_pick, b__law_pick, fnD, bLen, e, ixD, h2]
theorem big_loop {s : Int} (hs : 0 < s) (bs : Bd s 700) : ∀ (l : List D) (v : Int) (m n : Nat) (S : List Cell) (x3 : Sl), Pen n S → n + l.length + 5 < 2 ^ 20 → 0 ≤ v → Bd v m → m + 17 * l.length ≤ 1000 →
    ∃ (o : Option Int) (s' : DS), forL (gN 3) w__law_big_0 l ⟨[.val (.cell 0), .val (.int s), .val (.int v), x3], S⟩ = .ok (match o with | none => Out.nx | some d => Out.rt (.int d)) s' ∧ Pen (n + l.length) s'.st ∧
      (match o with | none => ∃ v' x3', s'.sl = [.val (.cell 0), .val (.int s), .val (.int v'), x3'] ∧ 0 ≤ v' ∧ Bd v' 1000 | some d => 0 ≤ d ∧ d < s)
  | [], v, m, n, S, x3, hS, hn, h0, hb, hm => ⟨none, ⟨[.val (.cell 0), .val (.int s), .val (.int v), x3], S⟩, by simp, hS, v, x3, rfl, h0, hb.le (by simp at hm; omega)⟩
  | d :: l, v, m, n, S, x3, hS, hn, h0, hb, hm => by
    simp only [List.length_cons] at hn hm
    obtain ⟨c, S1, e, c0, c1, P1⟩ := draw_ok hS (by omega) (p := 100000) (by decide) (by decide)
    have m1 : mulOk v 100000 = true := mulOk_of hb (show Bd (100000 : Int) 17 from ⟨by decide⟩) (by omega)
    have m2 : mulOk s 100000 = true := mulOk_of bs (show Bd (100000 : Int) 17 from ⟨by decide⟩) (by decide)
    have dv : divOk s = true := divOk_of bs (by omega) (by decide)
    have hv : 0 ≤ v * 100000 + c := by omega
    have bv : Bd (v * 100000 + c) (m + 17) := ⟨by
      have := hb.lt
      rw [Nat.pow_add]
      have e : (2 : Nat) ^ 17 = 131072 := rfl
      rw [e]
      omega⟩
    by_cases c2 : s * 100000 < v * 100000 + c
    · refine ⟨some ((v * 100000 + c).fmod s), ⟨[.val (.cell 0), .val (.int s), .val (.int (v * 100000 + c)), .val d], S1⟩, ?_, P1.mono (by simp only [List.length_cons]; omega), Int.fmod_nonneg_of_pos _ hs, Int.fmod_lt_of_pos _ hs⟩
      have hne : (s = 0) = False := eq_false (by omega)
      have eb : w__law_big_0 ⟨[.val (.cell 0), .val (.int s), .val (.int v), .val d], S⟩ = .ok (.rt (.int ((v * 100000 + c).fmod s))) ⟨[.val (.cell 0), .val (.int s), .val (.int (v * 100000 + c)), .val d], S1⟩ := by
        simp [w__law_big_0, e, m1, m2, c2, dv, hne]
      simp [eb, loopOut]
    · obtain ⟨o, s', e2, P2, ho⟩ := big_loop hs bs l (v * 100000 + c) (m + 17) (n + 1) S1 (.val d) P1 (by omega) hv bv (by omega)
      refine ⟨o, s', ?_, P2.mono (by simp only [List.length_cons]; omega), ho⟩
      have eb : w__law_big_0 ⟨[.val (.cell 0), .val (.int s), .val (.int v), .val d], S⟩ = .ok .nx ⟨[.val (.cell 0), .val (.int s), .val (.int (v * 100000 + c)), .val d], S1⟩ := by
        simp [w__law_big_0, e, m1, m2, c2]
      simp [eb, loopOut, e2]
theorem big_ok {n : Nat} {S : List Cell} {s : Int} (hS : Pen n S) (hn : n + 100 < 2 ^ 20) (hs : 0 < s) (bs : Bd s 700) : ∃ d S', g__law_big [.cell 0, .int s] S = .ok (.int d) S' ∧ 0 ≤ d ∧ d < s ∧ Pen (n + 24) S' := by
  by_cases c : s < 10000000
  · obtain ⟨d, S1, e, d0, d1, P1⟩ := draw_ok hS (by omega) (p := s) hs (by omega)
    exact ⟨d, S1, by simp [g__law_big, b__law_big, fnD, c, e], d0, d1, P1.mono (by omega)⟩
  · obtain ⟨o, s', e, P, ho⟩ := big_loop hs bs (rngL 0 24) 0 0 n S .un hS (by rw [rngL_len]; omega) (Int.le_refl _) bd_0 (by rw [rngL_len]; decide)
    rw [rngL_len] at P
    have dv : divOk s = true := divOk_of bs (by omega) (by decide)
    have hne : (s = 0) = False := eq_false (by omega)
    obtain ⟨sl, st'⟩ := s'
    cases o with
    | some d =>
      simp only at e P
      exact ⟨d, st', by simp [-r_for_cons, g__law_big, b__law_big, fnD, c, e], ho.1, ho.2, P⟩
    | none =>
      obtain ⟨v, x3, h1, h2, h3⟩ := ho
      simp only at h1 e P
      subst h1
      exact ⟨v.fmod s, st', by simp [-r_for_cons, g__law_big, b__law_big, fnD, c, e, dv, hne], Int.fmod_nonneg_of_pos _ hs, Int.fmod_lt_of_pos _ hs, P⟩
theorem whole_ok {n : Nat} {S : List Cell} {s : Int} {m : Nat} (hS : Pen n S) (hn : n + 100 < 2 ^ 20) (hs : 0 ≤ s) (bs : Bd s m) (hm : m ≤ 690) : ∃ d S', g__law_whole [.cell 0, .int s] S = .ok (.int d) S' ∧ Bd d m ∧ Pen (n + 24) S' := by
  have b2 : Bd (2 * s + 1) 700 := ⟨by
    have := (bs.le hm).lt
    have e : (2 : Nat) ^ 700 = 2 ^ 690 * 1024 := by rw [← Nat.pow_add 2 690 10]
    omega⟩
  have m1 : mulOk 2 s = true := mulOk_of (show Bd (2 : Int) 2 from ⟨by decide⟩) bs (by omega)
  obtain ⟨d, S1, e, d0, d1, P1⟩ := big_ok hS hn (s := 2 * s + 1) (by omega) b2
  refine ⟨d - s, S1, by simp [g__law_whole, b__law_whole, fnD, m1, e], ⟨?_⟩, P1⟩
  have := bs.lt
  omega
theorem three_ok {n : Nat} {S : List Cell} {s t u : Int} (hS : Pen n S) (hn : n + 500 < 2 ^ 20) (hs : 0 ≤ s) (ht : 0 ≤ t) (hu : 0 ≤ u) (bs : Bd s 340) (bt : Bd t 340) (bu : Bd u 690) : ∃ x y a S1 S2 S3, g__law_whole [.cell 0, .int s] S = .ok (.int x) S1 ∧ g__law_whole [.cell 0, .int t] S1 = .ok (.int y) S2 ∧ g__law_whole [.cell 0, .int u] S2 = .ok (.int a) S3 ∧ Sz 340 ⟨x, y, a⟩ ∧ Pen (n + 72) S3 := by
  obtain ⟨x, S1, e1, b1, P1⟩ := whole_ok hS (by omega) hs bs (by decide)
  obtain ⟨y, S2, e2, b2, P2⟩ := whole_ok P1 (by omega) ht bt (by decide)
  obtain ⟨a, S3, e3, b3, P3⟩ := whole_ok P2 (by omega) hu bu (by decide)
  exact ⟨x, y, a, S1, S2, S3, e1, e2, e3, ⟨b1, b2, b3.le (by decide)⟩, P3.mono (by omega)⟩
theorem drawn_ok {n : Nat} {S : List Cell} (hS : Pen n S) (hn : n + 600 < 2 ^ 20) : ∃ p S', g__law_drawn [.cell 0] S = .ok (plS p) S' ∧ Sz 340 p ∧ Pen (n + 80) S' := by
  obtain ⟨d, S0, e0, d0, d1, P0⟩ := draw_ok hS (by omega) (p := 5) (by decide) (by decide)
  have : d = 0 ∨ d = 1 ∨ d = 2 ∨ d = 3 ∨ d = 4 := by omega
  rcases this with rfl | rfl | rfl | rfl | rfl
  · obtain ⟨x, y, a, S1, S2, S3, e1, e2, e3, sz, P⟩ := three_ok (s := 4) (t := 4) (u := 16) P0 (by omega) (by decide) (by decide) (by decide) ⟨by decide⟩ ⟨by decide⟩ ⟨by decide⟩
    exact ⟨⟨x, y, a⟩, S3, by simp [g__law_drawn, b__law_drawn, g__law_place, b__law_place, fnD, e0, e1, e2, e3], sz, P.mono (by omega)⟩
  · obtain ⟨x, y, a, S1, S2, S3, e1, e2, e3, sz, P⟩ := three_ok (s := 10 ^ 40) (t := 10 ^ 40) (u := 10 ^ 40 * 10 ^ 40) P0 (by omega) (by decide) (by decide) (by decide) ⟨by decide⟩ ⟨by decide⟩ ⟨by decide⟩
    have m : mulOk (10 ^ 40) (10 ^ 40) = true := mulOk_of (show Bd ((10 : Int) ^ 40) 140 from ⟨by decide⟩) (show Bd ((10 : Int) ^ 40) 140 from ⟨by decide⟩) (by decide)
    simp at e1 e2 e3 m
    exact ⟨⟨x, y, a⟩, S3, by simp [g__law_drawn, b__law_drawn, fnD, e0, e1, e2, e3, m], sz, P.mono (by omega)⟩
  · obtain ⟨x, y, a, S1, S2, S3, e1, e2, e3, sz, P⟩ := three_ok (s := 9) (t := 9) (u := 10 ^ 50 * 10 ^ 49) P0 (by omega) (by decide) (by decide) (by decide) ⟨by decide⟩ ⟨by decide⟩ ⟨by decide⟩
    have m : mulOk (10 ^ 50) (10 ^ 49) = true := mulOk_of (show Bd ((10 : Int) ^ 50) 170 from ⟨by decide⟩) (show Bd ((10 : Int) ^ 49) 170 from ⟨by decide⟩) (by decide)
    simp at e1 e2 e3 m
    exact ⟨⟨x, y, a⟩, S3, by simp [g__law_drawn, b__law_drawn, fnD, e0, e1, e2, e3, m], sz, P.mono (by omega)⟩
  · obtain ⟨x, y, a, S1, S2, S3, e1, e2, e3, sz, P⟩ := three_ok (s := 10 ^ 30) (t := 9) (u := 10 ^ 33) P0 (by omega) (by decide) (by decide) (by decide) ⟨by decide⟩ ⟨by decide⟩ ⟨by decide⟩
    simp at e1 e2 e3
    exact ⟨⟨x, y, a⟩, S3, by simp [g__law_drawn, b__law_drawn, fnD, e0, e1, e2, e3], sz, P.mono (by omega)⟩
  · obtain ⟨x, y, a, S1, S2, S3, e1, e2, e3, sz, P⟩ := three_ok (s := 30) (t := 30) (u := 900) P0 (by omega) (by decide) (by decide) (by decide) ⟨by decide⟩ ⟨by decide⟩ ⟨by decide⟩
    exact ⟨⟨x, y, a⟩, S3, by simp [g__law_drawn, b__law_drawn, g__law_place, b__law_place, fnD, e0, e1, e2, e3], sz, P.mono (by omega)⟩
end W_k71
set_option maxRecDepth 100000
set_option maxHeartbeats 4000000
set_option exponentiation.threshold 4000
namespace W_k71
open DL ST
theorem step_ok {c : Nat} (hc : isL c) (S : List Cell) : g__law_step [.str [c]] S = .ok (plS (stepP c)) S := by
  have nd : ∀ a b c d : D, keysNd [(.s [101], a), (.s [119], b), (.s [110], c), (.s [115], d)] = true := fun _ _ _ _ => rfl
  rcases hc with rfl | rfl | rfl | rfl
  · show _ = Res.ok (plc 1 0 0) S
    simp [g__law_step, b__law_step, fnD, keyed, pairsD, dictOf, kOf, dLook, nd]
  · show _ = Res.ok (plc 0 1 0) S
    simp [g__law_step, b__law_step, fnD, keyed, pairsD, dictOf, kOf, dLook, nd]
  · show _ = Res.ok (plc (-1) 0 0) S
    simp [g__law_step, b__law_step, fnD, keyed, pairsD, dictOf, kOf, dLook, nd]
  · show _ = Res.ok (plc 0 (-1) 0) S
    simp [g__law_step, b__law_step, fnD, keyed, pairsD, dictOf, kOf, dLook, nd]
theorem stepP_sz {c : Nat} (hc : isL c) : Sz 1 (stepP c) := by
  rcases hc with rfl | rfl | rfl | rfl <;> exact ⟨⟨by decide⟩, ⟨by decide⟩, ⟨by decide⟩⟩
theorem dAdd_ss {a b : List Nat} (h : a.length + b.length ≤ 1000) : dAdd (.str a) (.str b) = some (.str (a ++ b)) := by
  show (if a.length + b.length ≤ 1000000 then some (D.str (a ++ b)) else none).orElse _ = _
  rw [if_pos (by omega)]
  rfl
theorem loc_loop {p : Sp} (h : Sz 340 p) (S : List Cell) : ∀ (l acc : List Nat) (x3 x4 : Sl), (∀ c ∈ l, isL c) → acc.length + l.length ≤ 100 → ∃ y3 y4, forL (gN 3) w__law_local_right_0 (l.map fun c => D.str [c]) ⟨[.val (plS p), .val (.int (st p)), .val (.str acc), x3, x4, .un], S⟩ = .ok .nx ⟨[.val (plS p), .val (.int (st p)), .val (.str (acc ++ l.filter fun c => decide (st (gone p c 1) < st p))), y3, y4, .un], S⟩
  | [], acc, x3, x4, _, _ => ⟨x3, x4, by simp⟩
  | c :: l, acc, x3, x4, hl, hn => by
    simp only [List.length_cons] at hn
    have hc := hl c (by simp)
    have e1 := step_ok hc S
    have m1 := mul_ok p (stepP c) S ((h.mono (show 340 ≤ 341 by decide)).mulOk ((stepP_sz hc).mono (by decide)) (by decide))
    have eg : mul p (stepP c) = gone p c 1 := (ST.gone_mul p c 1).symm
    rw [eg] at m1
    have s1 := steps_sp (Sz.step h hc) (by decide) S
    have ha : (if st (gone p c 1) - st p < 0 then -(st (gone p c 1) - st p) else st (gone p c 1) - st p) = 1 := by
      have := st_gone1 (p := p) hc
      split <;> omega
    by_cases cc : st (gone p c 1) < st p
    · obtain ⟨y3, y4, e⟩ := loc_loop h S l (acc ++ [c]) (.val (.str [c])) (.val (.int (st (gone p c 1)))) (fun z hz => hl z (by simp [hz])) (by simp; omega)
      refine ⟨y3, y4, ?_⟩
      rw [List.filter_cons_of_pos (p := fun c => decide (st (gone p c 1) < st p)) (decide_eq_true cc), show acc ++ c :: l.filter (fun c => decide (st (gone p c 1) < st p)) = acc ++ [c] ++ l.filter (fun c => decide (st (gone p c 1) < st p)) by simp]
      have da := dAdd_ss (a := acc) (b := [c]) (by simp; omega)
      have eb : w__law_local_right_0 ⟨[.val (plS p), .val (.int (st p)), .val (.str acc), .val (.str [c]), x4, .un], S⟩ = .ok .nx ⟨[.val (plS p), .val (.int (st p)), .val (.str (acc ++ [c])), .val (.str [c]), .val (.int (st (gone p c 1))), .un], S⟩ := by
        generalize stepP c = sp at *
        generalize gone p c 1 = q at *
        simp [w__law_local_right_0, e1, m1, s1, ha, cc, da]
      rw [List.map_cons]
      generalize (l.filter fun c => decide (st (gone p c 1) < st p)) = F at *
      simp [-List.append_assoc, eb, loopOut, e]
    · obtain ⟨y3, y4, e⟩ := loc_loop h S l acc (.val (.str [c])) (.val (.int (st (gone p c 1)))) (fun z hz => hl z (by simp [hz])) (by omega)
      refine ⟨y3, y4, ?_⟩
      rw [List.filter_cons_of_neg (by rw [decide_eq_false cc]; decide)]
      have da := dAdd_ss (a := acc) (b := []) (by simp; omega)
      rw [List.append_nil] at da
      have eb : w__law_local_right_0 ⟨[.val (plS p), .val (.int (st p)), .val (.str acc), .val (.str [c]), x4, .un], S⟩ = .ok .nx ⟨[.val (plS p), .val (.int (st p)), .val (.str acc), .val (.str [c]), .val (.int (st (gone p c 1))), .un], S⟩ := by
        generalize stepP c = sp at *
        generalize gone p c 1 = q at *
        simp [w__law_local_right_0, e1, m1, s1, ha, cc, da]
      rw [List.map_cons]
      generalize (l.filter fun c => decide (st (gone p c 1) < st p)) = F at *
      simp [eb, loopOut, e]
theorem four_str (f : Nat → Bool) : ([D.str [101], .str [110], .str [119], .str [115]].filter fun d => match d with | .str [c] => f c | _ => false).map id = (four.filter f).map fun c => D.str [c] := by
  cases h1 : f 101 <;> cases h2 : f 110 <;> cases h3 : f 119 <;> cases h4 : f 115 <;> simp [List.filter, h1, h2, h3, h4]
theorem begun_ok {p : Sp} (h : Sz 340 p) (S : List Cell) {x2 x3 x4 : Sl} : ∃ y3, aLc [3] (itSeq (eC (.str [101, 110, 119, 115]))) (gN 3) (t__law_local_right_1) (e__law_local_right_1) ⟨[.val (plS p), .val (.int (st p)), x2, x3, x4, .un], S⟩ = .ok ((nr (inv p)).map fun c => D.str [c]) ⟨[.val (plS p), .val (.int (st p)), x2, y3, x4, .un], S⟩ := by
  have L := aLc_gen (vs := [3]) (it := itSeq (eC (.str [101, 110, 119, 115]))) (g := gN 3) (t := t__law_local_right_1) (e := e__law_local_right_1) (s := ⟨[.val (plS p), .val (.int (st p)), x2, x3, x4, .un], S⟩) (s0 := ⟨[.val (plS p), .val (.int (st p)), x2, x3, x4, .un], S⟩) (items := [.str [101], .str [110], .str [119], .str [115]])
    (fun d => match d with | .str [c] => decide (st (mul (inv (stepP c)) p) < st p) | _ => false) id (by simp [itemsD]) (fun d hd => by
      have key : ∀ (c : Nat), isL c → ∃ s1 s2, (gN 3) (.str [c]) (wipeS [3] ⟨[.val (plS p), .val (.int (st p)), x2, x3, x4, .un], S⟩) = .ok () s1 ∧ t__law_local_right_1 s1 = .ok (decide (st (mul (inv (stepP c)) p) < st p)) s2 ∧ (decide (st (mul (inv (stepP c)) p) < st p) = true → ∃ s3, e__law_local_right_1 s2 = .ok (.str [c]) s3 ∧ wipeS [3] s3 = wipeS [3] ⟨[.val (plS p), .val (.int (st p)), x2, x3, x4, .un], S⟩) ∧ (decide (st (mul (inv (stepP c)) p) < st p) = false → wipeS [3] s2 = wipeS [3] ⟨[.val (plS p), .val (.int (st p)), x2, x3, x4, .un], S⟩) := fun c hc => by
        have e1 := step_ok hc S
        have zs := (stepP_sz hc).mono (show 1 ≤ 340 by decide)
        have i1 := inv_ok (stepP c) S (zs.mulOk zs (by decide))
        have zi := zs.inv
        have zp := h.mono (show 340 ≤ 341 by decide)
        have m1 := mul_ok (inv (stepP c)) p S (zi.mulOk zp (by decide))
        have s1 := steps_sp (zi.mul zp) (by decide) S
        generalize mul (inv (stepP c)) p = q at *
        generalize inv (stepP c) = ip at *
        generalize stepP c = sp at *
        refine ⟨⟨[.val (plS p), .val (.int (st p)), x2, .val (.str [c]), x4, .un], S⟩, ⟨[.val (plS p), .val (.int (st p)), x2, .val (.str [c]), x4, .un], S⟩, by simp, ?_, fun _ => ⟨⟨[.val (plS p), .val (.int (st p)), x2, .val (.str [c]), x4, .un], S⟩, by simp [e__law_local_right_1], by simp⟩, fun _ => by simp⟩
        simp [t__law_local_right_1, e1, i1, m1, s1]
      simp only [List.mem_cons, List.not_mem_nil, or_false] at hd
      rcases hd with rfl | rfl | rfl | rfl
      · exact key 101 (by simp [isL])
      · exact key 110 (by simp [isL])
      · exact key 119 (by simp [isL])
      · exact key 115 (by simp [isL])) (by simp)
  rw [four_str] at L
  rw [← fl_eq]
  unfold fl
  generalize (List.map (fun c => D.str [c]) (List.filter (fun c => decide (st (mul (inv (stepP c)) p) < st p)) four)) = M at *
  simp [-r_aLc] at L
  exact ⟨_, L⟩
theorem local_ok {p : Sp} (h : Sz 340 p) (S : List Cell) : g__law_local_right [plS p] S = .ok (.bl true) S := by
  have s0 := steps_sp h (by decide) S
  obtain ⟨y3, y4, e1⟩ := loc_loop h S four [] .un .un (fun c hc => four_isL hc) (by decide)
  have e1 : forL (gN 3) w__law_local_right_0 [.str [101], .str [110], .str [119], .str [115]] ⟨[.val (plS p), .val (.int (st p)), .val (.str []), .un, .un, .un], S⟩ = .ok .nx ⟨[.val (plS p), .val (.int (st p)), .val (.str (nr p)), y3, y4, .un], S⟩ := e1
  obtain ⟨z3, e2⟩ := begun_ok h S (x2 := .val (.str (nr p))) (x3 := y3) (x4 := y4)
  have n1 := nearer_ok h (by decide) S
  have m1 := summit_ok h (by decide) S
  have f1 := first_ok h (by decide) S
  have J := join_ones (nr (inv p)) (by have := nr_short (inv p); omega)
  have a1 := nr_all_lt p
  have a2 := nr_all_lt (inv p)
  have d1 : dNe (.str (nr p)) (.str (nr p)) = some (.bl false) := by rw [dNe_ss _ _ a1 a1]; simp
  have d2 : dEq (.str (nr (inv p))) (.str (nr (inv p))) = some (.bl true) := by rw [dEq_ss _ _ a2 a2]; simp
  have e3 : (nr p).length ≤ 16777216 := by have := nr_short p; omega
  have e4 : (((nr p).length : Int) = 4) = ((nr p).length = 4) := by rw [eq_iff_iff]; omega
  have d3 : dEq (.str (nr p)) (.str []) = some (.bl (decide (st p = 0))) := by
    rw [dEq_ss _ _ a1 (by rfl)]
    congr 2
    rw [decide_eq_decide, nr_nil]
    exact ⟨fun z => by rw [z]; exact st_home, fun z => st_zero z⟩
  generalize ((nr (inv p)).map fun c => D.str [c]) = M at *
  generalize nr (inv p) = Ni at *
  generalize nr p = N at *
  simp [-r_aLc, -r_mJoin, -dNe_ss, -dEq_ss, -r_for_cons, itemsD, g__law_local_right, b__law_local_right, fnD, s0, e1, e2, J, n1, m1, f1, d1, d2, d3, bLen, e3, e4]
/-! ### a drawn walk -/
theorem bits12 : Bd (1000000000000 : Int) 40 := ⟨by decide⟩
theorem wright_ok {n : Nat} {S : List Cell} (hS : Pen n S) (hn : n + 2000 < 2 ^ 20) : ∃ S', g__law_walk_right [.cell 0] S = .ok (.bl true) S' ∧ Pen (n + 200) S' := by
  obtain ⟨c, S1, e1, c0, c1, P1⟩ := draw_ok hS (by omega) (p := 7) (by decide) (by decide)
  have hk : ∃ k : Nat, c.toNat = k ∧ k ≤ 6 ∧ c = (k : Int) := ⟨c.toNat, rfl, by omega, by omega⟩
  obtain ⟨k, hk1, hk2, hk3⟩ := hk
  obtain ⟨s', e2, ⟨r, y2, hs, g, hl, hm⟩, hP⟩ := for_inv (g := gN 2) (b := w__law_walk_right_0) (items := rngL 0 k) (s := ⟨[.val (.cell 0), .ol [], .un, .un, .un, .un], S1⟩)
    (fun i s => (∃ (r : Runs) (y2 : Sl), s.sl = [.val (.cell 0), .ol (rD r), y2, .un, .un, .un] ∧ Good r ∧ r.length = i ∧ len r ≤ 1000000000000 * i) ∧ Pen (n + 1 + 30 * i) s.st)
    ⟨⟨[], .un, rfl, fun q hq => absurd hq (by simp), rfl, by show (0 : Int) ≤ _; omega⟩, P1⟩ (fun i d s hi hp => by
      obtain ⟨⟨r, y2, hs, g, hl, hm⟩, hP⟩ := hp
      obtain ⟨sl, st⟩ := s
      simp only at hs hP
      subst hs
      obtain ⟨hi1, rfl⟩ := rngL_get hi
      obtain ⟨a, S2, e3, ha, P2⟩ := pickS_ok hP (by omega)
      obtain ⟨t, S3, e4, ht, P3⟩ := pick_ok (xs := [.int 4, .int 1000000000000]) P2 (by omega) (by simp) (by simp)
      have : ∃ t', t = .int t' ∧ 0 < t' ∧ t' ≤ 1000000000000 := by
        simp at ht
        rcases ht with rfl | rfl <;> exact ⟨_, rfl, by omega, by omega⟩
      obtain ⟨t, rfl, t0, t1⟩ := this
      obtain ⟨b, S4, e5, b0, b1, P4⟩ := big_ok P3 (by omega) t0 ((bits12.of_le (by omega) t1).le (by decide))
      have sm : (rD r).length < 1000000 := by rw [List.length_map]; omega
      have lq : len (r ++ [(a, b)]) = len r + b := by
        rw [len_app]
        show len r + (b + 0) = _
        omega
      refine ⟨_, ⟨[.val (.cell 0), .ol (rD (r ++ [(a, b)])), .val (.int (0 + i)), .un, .un, .un], S4⟩, rfl, .inl ?_, ⟨_, _, rfl, g.app fun q hq => by rcases List.mem_singleton.mp hq with rfl; exact ⟨ha, b0⟩, by simp [hl], by rw [lq]; omega⟩, P4.mono (by omega)⟩
      rw [show rD (r ++ [(a, b)]) = rD r ++ [.tup [.str [a], .int b]] by simp [rD]]
      generalize rD r = A at *
      simp [w__law_walk_right_0, e3, e4, e5, sm])
  obtain ⟨sl, st'⟩ := s'
  simp only at hs hP
  subst hs
  rw [rngL_len] at hl hP hm
  have q : -4611686018427387904 ≤ c ∧ c < 4611686018427387904 := by omega
  have i1 := winit_ok (.lst (rD r)) r st' (.inl rfl) g (by omega)
  have hlm := mg_len g
  have wf : Wf 50 (mg r) := ⟨(mg_neat g).good, ⟨by
    rw [hlm]
    have := len_nonneg g
    have e : (2 : Nat) ^ 50 = 1125899906842624 := rfl
    rw [e]
    omega⟩, Nat.le_trans (mg_cnt r) (Nat.le_trans (cnt_le r) (by omega))⟩
  have p1 := place_w wf (by decide) st'
  have s1 := steps_at wf.sz' (by decide) st'
  have l1 := length_w wf st'
  have m1 := least_w wf (by decide) st'
  have par := st_par (r := mg r)
  have fm : (st (led home (mg r)) - len (mg r)).fmod 2 = 0 := by rw [Int.fmod_eq_emod_of_nonneg _ (by decide)]; exact par
  obtain ⟨o, e, ho⟩ := fnl_ok wf (by decide) st'
  refine ⟨st', ?_, hP.mono (by omega)⟩
  cases o with
  | none =>
    have ho : st (led home (mg r)) = len (mg r) := ho
    rw [decide_eq_true ho] at m1
    rw [ho] at s1 fm
    simp only [oD] at e
    generalize led home (mg r) = u at *
    generalize len (mg r) = L at *
    generalize mg r = R at *
    generalize rD r = A at *
    simp [g__law_walk_right, b__law_walk_right, fnD, e1, hk1, q, e2, i1, p1, s1, l1, m1, e, fm, isNonD]
  | some f =>
    have ho : NL (mg r) f := ho
    have hlong := ho.long wf.good
    have hpos := ho.pos
    have hle := ho.le
    have a1 := at_w wf (by decide) st' (show 0 ≤ f by omega) hle
    have a2 := at_w wf (by decide) st' (show 0 ≤ f - 1 by omega) (by omega)
    have b1 := steps_at (wf.sz (show 0 ≤ f by omega) hle) (by decide) st'
    have b2 := steps_at (wf.sz (show 0 ≤ f - 1 by omega) (by omega)) (by decide) st'
    rw [ho.pre] at b2
    have c1 : (st (led home (hd (mg r) f)) = f) = False := eq_false ho.not
    rw [decide_eq_false hlong] at m1
    have sneq : (st (led home (mg r)) = len (mg r)) = False := eq_false hlong
    simp only [oD] at e
    generalize led home (hd (mg r) f) = u1 at *
    generalize led home (hd (mg r) (f - 1)) = u2 at *
    generalize led home (mg r) = u at *
    generalize len (mg r) = L at *
    generalize mg r = R at *
    generalize rD r = A at *
    simp [g__law_walk_right, b__law_walk_right, fnD, e1, hk1, q, e2, i1, p1, s1, l1, m1, e, fm, isNonD, a1, a2, b1, b2, c1, sneq]
end W_k71
set_option maxRecDepth 100000
set_option maxHeartbeats 4000000
set_option exponentiation.threshold 4000
namespace W_k71
open DL ST
/-! ### prices of one for each step -/
theorem bez_ok (S : List Cell) : g_bezout_of [.int 2, .int 2] S = .ok (.tup [.int 2, .int 0, .int 1]) S := by
  have c1 : ∀ x4 : Sl, c_bezout_of_0 ⟨[.val (.int 2), .val (.int 2), .val (.tup [.int 2, .int 1, .int 0]), .val (.tup [.int 2, .int 0, .int 1]), x4], S⟩ = .ok true ⟨[.val (.int 2), .val (.int 2), .val (.tup [.int 2, .int 1, .int 0]), .val (.tup [.int 2, .int 0, .int 1]), x4], S⟩ := fun x4 => by simp [c_bezout_of_0]
  have m1 : mulOk 1 2 = true := by decide
  have m2 : mulOk 1 0 = true := by decide
  have m3 : mulOk 1 1 = true := by decide
  have w1 : w_bezout_of_0 ⟨[.val (.int 2), .val (.int 2), .val (.tup [.int 2, .int 1, .int 0]), .val (.tup [.int 2, .int 0, .int 1]), .un], S⟩ = .ok .nx ⟨[.val (.int 2), .val (.int 2), .val (.tup [.int 2, .int 0, .int 1]), .val (.tup [.int 0, .int 1, .int (-1)]), .val (.int 1)], S⟩ := by
    simp [w_bezout_of_0, m1, m2, m3]
  have c2 : ∀ x4 : Sl, c_bezout_of_0 ⟨[.val (.int 2), .val (.int 2), .val (.tup [.int 2, .int 0, .int 1]), .val (.tup [.int 0, .int 1, .int (-1)]), x4], S⟩ = .ok false ⟨[.val (.int 2), .val (.int 2), .val (.tup [.int 2, .int 0, .int 1]), .val (.tup [.int 0, .int 1, .int (-1)]), x4], S⟩ := fun x4 => by simp [c_bezout_of_0]
  have l : sWhile c_bezout_of_0 w_bezout_of_0 ⟨[.val (.int 2), .val (.int 2), .val (.tup [.int 2, .int 1, .int 0]), .val (.tup [.int 2, .int 0, .int 1]), .un], S⟩ = .ok .nx ⟨[.val (.int 2), .val (.int 2), .val (.tup [.int 2, .int 0, .int 1]), .val (.tup [.int 0, .int 1, .int (-1)]), .val (.int 1)], S⟩ := by
    rw [sWhile_eq, c1]
    simp only [Res.bind_ok, if_true, w1, loopOut]
    rw [sWhile_eq, c2]
    simp
  simp [g_bezout_of, b_bezout_of, fnD, l]
theorem ceil_ok (a b : Int) (S : List Cell) (h : divOk b = true) : g_ceiling [.int a, .int b] S = .ok (.int (ceilD a b)) S := by
  simp [g_ceiling, b_ceiling, fnD, h, ceilD]
theorem lowest_ok {w h R : Int} (hw : 0 ≤ w) (hh : 0 ≤ h) (hR : 0 ≤ R) (bw : Bd w 600) (bh : Bd h 600) (bR : Bd R 1300) (S : List Cell) : g_lowest [.int w, .int h, .int R, .int 2, .int 2] S = .ok (.int (lowF w h R)) S := by
  have b2 : Bd (2 : Int) 2 := ⟨by decide⟩
  have m1 : mulOk 2 R = true := mulOk_of b2 bR (by decide)
  have m2 : mulOk 2 w = true := mulOk_of b2 bw (by decide)
  have m3 : mulOk (2 * w) w = true := mulOk_of (@bd_mul _ _ _ _ b2 bw) bw (by decide)
  have m4 : mulOk 2 h = true := mulOk_of b2 bh (by decide)
  have m5 : mulOk (2 * h) h = true := mulOk_of (@bd_mul _ _ _ _ b2 bh) bh (by decide)
  unfold lowF
  by_cases c1 : 2 * R < 2 * w * w
  · have w0 : w ≠ 0 := fun z => by subst z; omega
    have dv : divOk w = true := divOk_of bw w0 (by decide)
    have e := ceil_ok (2 * R) w S dv
    simp [g_lowest, b_lowest, fnD, m1, m2, m3, c1, e]
  · by_cases c2 : 2 * R < 2 * h * h
    · have h0 : h ≠ 0 := fun z => by subst z; omega
      have dv : divOk h = true := divOk_of bh h0 (by decide)
      have e := ceil_ok (2 * R) h S dv
      simp [g_lowest, b_lowest, fnD, m1, m2, m3, m4, m5, c1, c2, e]
    · have b16 : Bd (16 * R) 1305 := (@bd_mul _ _ _ _ (show Bd (16 : Int) 5 from ⟨by decide⟩) bR).le (by decide)
      obtain ⟨r, er, hr⟩ := whole_root_ok (16 * R) S (by omega) (b16.le (by decide))
      have hrt := fl_rt hr
      have br : Bd r 1305 := by
        refine Bd.of_le (y := 16 * R) b16 hr.1 ?_
        have := hr.2.1
        by_cases c : r = 0
        · subst c; omega
        · have h5 := pr_pos (show 0 ≤ r - 1 by have := hr.1; omega) hr.1
          rw [show (r - 1) * r = r * r - r by grind] at h5
          omega
      have m6 : mulOk r r = true := mulOk_of br br (by decide)
      have m7 : mulOk 4 2 = true := by decide
      have m8 : mulOk 8 2 = true := by decide
      have m9 : mulOk 16 R = true := mulOk_of (show Bd (16 : Int) 5 from ⟨by decide⟩) bR (by decide)
      rw [if_neg c1, if_neg c2, hrt]
      by_cases c3 : r * r = 16 * R
      · simp [g_lowest, b_lowest, fnD, m1, m2, m3, m4, m5, c1, c2, m7, m8, m9, er, m6, c3]
      · simp [g_lowest, b_lowest, fnD, m1, m2, m3, m4, m5, c1, c2, m7, m8, m9, er, m6, c3]
def cand (s w h : Int) : List D := ([mid2 s w h, mid2 s w h + 1].filter fun z => decide (w ≤ z ∧ z ≤ s - h)).map fun z => .tup [.int z, .int (s - z)]
theorem sides_ok {s w h : Int} (bs : Bd s 600) (bw : Bd w 600) (bh : Bd h 600) (S : List Cell) : g_sides_of_price [.int (2 * s), .int w, .int h, .int 2, .int 2, .int 2, .int 0] S = .ok (.lst (cand s w h)) S := by
  have b2 : Bd (2 : Int) 2 := ⟨by decide⟩
  have m1 : mulOk s 0 = true := mulOk_of bs bd_0 (by decide)
  have m2 : mulOk 2 h = true := mulOk_of b2 bh (by decide)
  have m3 : mulOk 2 2 = true := by decide
  have f1 : (2 * s).fmod 2 = 0 := by rw [Int.fmod_eq_emod_of_nonneg _ (by decide)]; omega
  have f2 : (2 * s).fdiv 2 = s := by rw [Int.fdiv_eq_ediv_of_nonneg _ (by decide)]; omega
  have f3 : (2 * s - 2 * h).fdiv 2 = s - h := by rw [Int.fdiv_eq_ediv_of_nonneg _ (by decide)]; omega
  have f4 : (2 * s).fdiv 4 = s.fdiv 2 := by rw [Int.fdiv_eq_ediv_of_nonneg _ (by decide), Int.fdiv_eq_ediv_of_nonneg _ (by decide)]; omega
  have f5 : ∀ z : Int, z.fmod 1 = 0 := fun z => by rw [Int.fmod_eq_emod_of_nonneg _ (by decide)]; omega
  have d1 : divOk 1 = true := by decide
  have d4 : divOk 4 = true := by decide
  have bm : Bd (mid2 s w h) 700 := ⟨by
    have h1 := bs.lt
    have h2 := bw.lt
    have h3 := bh.lt
    have e : (2 : Nat) ^ 700 = 2 ^ 600 * 2 ^ 100 := by rw [← Nat.pow_add]
    have e2 : (2 : Nat) ^ 600 * 4 ≤ 2 ^ 600 * 2 ^ 100 := Nat.mul_le_mul_left _ (by decide)
    unfold mid2 mxx mn
    rw [Int.fdiv_eq_ediv_of_nonneg _ (by decide)]
    split <;> split <;> omega⟩
  have mM : bMax2 [.int (s.fdiv 2), .int w] = some (.int (mxx (s.fdiv 2) w)) := rfl
  have mN : bMin2 [.int (mxx (s.fdiv 2) w), .int (s - h)] = some (.int (mid2 s w h)) := rfl
  have L := aLc_gen (vs := [12]) (it := itSeq (eTup (aCons (eVar 11) (aCons (eOp2 dAdd (eVar 11) (eVar 7)) (aNil))))) (g := gN 12) (t := t_sides_of_price_0) (e := e_sides_of_price_0) (s := ⟨[.val (.int (2 * s)), .val (.int w), .val (.int h), .val (.int 2), .val (.int 2), .val (.int 2), .val (.int 0), .val (.int 1), .val (.int 0), .val (.int (s - h)), .val (.int (mid2 s w h)), .val (.int (mid2 s w h)), .un], S⟩) (s0 := ⟨[.val (.int (2 * s)), .val (.int w), .val (.int h), .val (.int 2), .val (.int 2), .val (.int 2), .val (.int 0), .val (.int 1), .val (.int 0), .val (.int (s - h)), .val (.int (mid2 s w h)), .val (.int (mid2 s w h)), .un], S⟩) (items := [.int (mid2 s w h), .int (mid2 s w h + 1)])
    (fun d => match d with | .int z => decide (w ≤ z ∧ z ≤ s - h) | _ => false) (fun d => match d with | .int z => .tup [.int z, .int (s - z)] | d => d) (by simp) (fun d hd => by
      have key : ∀ z : Int, Bd z 701 → ∃ s1 s2, (gN 12) (.int z) (wipeS [12] ⟨[.val (.int (2 * s)), .val (.int w), .val (.int h), .val (.int 2), .val (.int 2), .val (.int 2), .val (.int 0), .val (.int 1), .val (.int 0), .val (.int (s - h)), .val (.int (mid2 s w h)), .val (.int (mid2 s w h)), .un], S⟩) = .ok () s1 ∧ t_sides_of_price_0 s1 = .ok (decide (w ≤ z ∧ z ≤ s - h)) s2 ∧ (decide (w ≤ z ∧ z ≤ s - h) = true → ∃ s3, e_sides_of_price_0 s2 = .ok (.tup [.int z, .int (s - z)]) s3 ∧ wipeS [12] s3 = wipeS [12] ⟨[.val (.int (2 * s)), .val (.int w), .val (.int h), .val (.int 2), .val (.int 2), .val (.int 2), .val (.int 0), .val (.int 1), .val (.int 0), .val (.int (s - h)), .val (.int (mid2 s w h)), .val (.int (mid2 s w h)), .un], S⟩) ∧ (decide (w ≤ z ∧ z ≤ s - h) = false → wipeS [12] s2 = wipeS [12] ⟨[.val (.int (2 * s)), .val (.int w), .val (.int h), .val (.int 2), .val (.int 2), .val (.int 2), .val (.int 0), .val (.int 1), .val (.int 0), .val (.int (s - h)), .val (.int (mid2 s w h)), .val (.int (mid2 s w h)), .un], S⟩) := fun z bz => by
        generalize mid2 s w h = m at *
        have mz : mulOk 2 z = true := mulOk_of b2 bz (by decide)
        have fz : (2 * s - 2 * z).fdiv 2 = s - z := by rw [Int.fdiv_eq_ediv_of_nonneg _ (by decide)]; omega
        refine ⟨⟨[.val (.int (2 * s)), .val (.int w), .val (.int h), .val (.int 2), .val (.int 2), .val (.int 2), .val (.int 0), .val (.int 1), .val (.int 0), .val (.int (s - h)), .val (.int m), .val (.int m), .val (.int z)], S⟩, ⟨[.val (.int (2 * s)), .val (.int w), .val (.int h), .val (.int 2), .val (.int 2), .val (.int 2), .val (.int 0), .val (.int 1), .val (.int 0), .val (.int (s - h)), .val (.int m), .val (.int m), .val (.int z)], S⟩, by simp, ?_, fun _ => ⟨⟨[.val (.int (2 * s)), .val (.int w), .val (.int h), .val (.int 2), .val (.int 2), .val (.int 2), .val (.int 0), .val (.int 1), .val (.int 0), .val (.int (s - h)), .val (.int m), .val (.int m), .val (.int z)], S⟩, by simp [e_sides_of_price_0, mz, fz], by simp⟩, fun _ => by simp⟩
        by_cases c : w ≤ z
        · simp [t_sides_of_price_0, c]
        · simp [t_sides_of_price_0, c]
      simp only [List.mem_cons, List.not_mem_nil, or_false] at hd
      rcases hd with rfl | rfl
      · exact key _ (bm.le (by decide))
      · exact key _ (bd_plus bm ((inferInstance : Bd (1 : Int) 1).le (by decide)))) (by simp)
  have hc : (([D.int (mid2 s w h), .int (mid2 s w h + 1)].filter fun d => match d with | .int z => decide (w ≤ z ∧ z ≤ s - h) | _ => false).map fun d => match d with | .int z => .tup [.int z, .int (s - z)] | d => d) = cand s w h := by
    unfold cand
    by_cases c1 : w ≤ mid2 s w h ∧ mid2 s w h ≤ s - h
    · by_cases c2 : w ≤ mid2 s w h + 1 ∧ mid2 s w h + 1 ≤ s - h
      · simp [List.filter, c1, c2]
      · simp only [List.filter, decide_eq_true c1, decide_eq_false c2]; rfl
    · by_cases c2 : w ≤ mid2 s w h + 1 ∧ mid2 s w h + 1 ≤ s - h
      · simp only [List.filter, decide_eq_false c1, decide_eq_true c2]; rfl
      · simp only [List.filter, decide_eq_false c1, decide_eq_false c2]; rfl
  rw [hc] at L
  generalize cand s w h = C at *
  generalize mid2 s w h = m at *
  simp [-r_aLc] at L
  simp [-r_aLc, -r_bMax, g_sides_of_price, b_sides_of_price, fnD, f1, f2, f3, f4, f5, m1, m2, m3, d1, d4, mM, mN, L]
end W_k71
set_option maxRecDepth 100000
set_option maxHeartbeats 4000000
set_option exponentiation.threshold 4000
namespace W_k71
open DL ST
structure Lst (w h R T : Int) : Prop where
  has : ∃ W H, w ≤ W ∧ h ≤ H ∧ R ≤ W * H ∧ W + H = T
  least : ∀ W H, w ≤ W → h ≤ H → R ≤ W * H → T ≤ W + H
theorem none_loop {R s : Int} (bs : Bd s 600) (S : List Cell) {y0 y1 y3 y4 y5 y6 y7 y8 : Sl} : ∀ (l : List Int) (x9 : Sl), (∀ z ∈ l, Bd z 701 ∧ ¬ R ≤ z * (s - z)) → ∃ y9, forL (gN 9) w_best_frame_0 (l.map fun z => .tup [.int z, .int (s - z)]) ⟨[y0, y1, .val (.int R), y3, y4, y5, y6, y7, y8, x9], S⟩ = .ok .nx ⟨[y0, y1, .val (.int R), y3, y4, y5, y6, y7, y8, y9], S⟩
  | [], x9, _ => ⟨x9, by simp⟩
  | z :: l, x9, h => by
    obtain ⟨bz, hz⟩ := h z (by simp)
    obtain ⟨y9, e⟩ := none_loop bs S (y0 := y0) (y1 := y1) (y3 := y3) (y4 := y4) (y5 := y5) (y6 := y6) (y7 := y7) (y8 := y8) l (.val (.tup [.int z, .int (s - z)])) (fun u hu => h u (by simp [hu]))
    have m : mulOk z (s - z) = true := mulOk_of bz (@bd_sub _ _ _ _ bs bz) (by decide)
    have eb : w_best_frame_0 ⟨[y0, y1, .val (.int R), y3, y4, y5, y6, y7, y8, .val (.tup [.int z, .int (s - z)])], S⟩ = .ok .nx ⟨[y0, y1, .val (.int R), y3, y4, y5, y6, y7, y8, .val (.tup [.int z, .int (s - z)])], S⟩ := by
      simp [w_best_frame_0, m, hz]
    exact ⟨y9, by rw [List.map_cons]; simp [eb, loopOut, e]⟩
theorem mid_bd {s w h : Int} (bs : Bd s 600) (bw : Bd w 600) (bh : Bd h 600) : Bd (mid2 s w h) 700 := ⟨by
  have h1 := bs.lt
  have h2 := bw.lt
  have h3 := bh.lt
  have e : (2 : Nat) ^ 700 = 2 ^ 600 * 2 ^ 100 := by rw [← Nat.pow_add]
  have e2 : (2 : Nat) ^ 600 * 4 ≤ 2 ^ 600 * 2 ^ 100 := Nat.mul_le_mul_left _ (by decide)
  unfold mid2 mxx mn
  rw [Int.fdiv_eq_ediv_of_nonneg _ (by decide)]
  split <;> split <;> omega⟩
theorem frame_loop {w h R T : Int} (L : Lst w h R T) (bw : Bd w 600) (bh : Bd h 600) (bT : Bd T 600) (S : List Cell) : ∀ (N : Nat) (s : Int) (x9 : Sl), (T - s).toNat ≤ N → 0 ≤ s → s ≤ T →
    ∃ W H s', sWhile c_best_frame_1 w_best_frame_1 ⟨[.val (.int w), .val (.int h), .val (.int R), .val (.int 2), .val (.int 2), .val (.int 2), .val (.int 0), .val (.int 1), .val (.int (2 * s)), x9], S⟩ = .ok (.rt (.tup [.int W, .int H])) s' ∧ s'.st = S ∧ w ≤ W ∧ h ≤ H ∧ W + H = T := by
  intro N
  induction N with
  | zero =>
    intro s x9 hN h0 hs
    have hsT : s = T := by omega
    subst hsT
    obtain ⟨W, H, a1, a2, a3, a4⟩ := L.has
    obtain ⟨b1, b2, b3⟩ := mid_best a1 a2 a4
    have bm := mid_bd bT bw bh
    have e1 := sides_ok bT bw bh S
    have hc : ∃ rest, cand s w h = .tup [.int (mid2 s w h), .int (s - mid2 s w h)] :: rest := by
      unfold cand
      rw [List.filter_cons_of_pos (by rw [decide_eq_true ⟨b1, b2⟩]), List.map_cons]
      exact ⟨_, rfl⟩
    obtain ⟨rest, hc⟩ := hc
    rw [hc] at e1
    have m : mulOk (mid2 s w h) (s - mid2 s w h) = true := mulOk_of bm (@bd_sub _ _ _ _ bT bm) (by decide)
    have c1 : R ≤ mid2 s w h * (s - mid2 s w h) := by omega
    refine ⟨mid2 s w h, s - mid2 s w h, ⟨[.val (.int w), .val (.int h), .val (.int R), .val (.int 2), .val (.int 2), .val (.int 2), .val (.int 0), .val (.int 1), .val (.int (2 * s)), .val (.tup [.int (mid2 s w h), .int (s - mid2 s w h)])], S⟩, ?_, rfl, b1, by omega, by omega⟩
    generalize mid2 s w h = k at *
    have ec : c_best_frame_1 ⟨[.val (.int w), .val (.int h), .val (.int R), .val (.int 2), .val (.int 2), .val (.int 2), .val (.int 0), .val (.int 1), .val (.int (2 * s)), x9], S⟩ = .ok true ⟨[.val (.int w), .val (.int h), .val (.int R), .val (.int 2), .val (.int 2), .val (.int 2), .val (.int 0), .val (.int 1), .val (.int (2 * s)), x9], S⟩ := by simp [c_best_frame_1]
    have eb : w_best_frame_1 ⟨[.val (.int w), .val (.int h), .val (.int R), .val (.int 2), .val (.int 2), .val (.int 2), .val (.int 0), .val (.int 1), .val (.int (2 * s)), x9], S⟩ = .ok (.rt (.tup [.int k, .int (s - k)])) ⟨[.val (.int w), .val (.int h), .val (.int R), .val (.int 2), .val (.int 2), .val (.int 2), .val (.int 0), .val (.int 1), .val (.int (2 * s)), .val (.tup [.int k, .int (s - k)])], S⟩ := by
      simp [w_best_frame_1, w_best_frame_0, e1, m, c1, loopOut]
    rw [sWhile_eq, ec]
    simp [eb, loopOut]
  | succ N ih =>
    intro s x9 hN h0 hs
    by_cases hsT : s = T
    · exact ih s x9 (by omega) h0 hs
    · have bs : Bd s 600 := bT.of_le h0 hs
      have bm := mid_bd bs bw bh
      have e1 := sides_ok bs bw bh S
      obtain ⟨y9, e2⟩ := none_loop (R := R) bs S (y0 := .val (.int w)) (y1 := .val (.int h)) (y3 := .val (.int 2)) (y4 := .val (.int 2)) (y5 := .val (.int 2)) (y6 := .val (.int 0)) (y7 := .val (.int 1)) (y8 := .val (.int (2 * s))) ([mid2 s w h, mid2 s w h + 1].filter fun z => decide (w ≤ z ∧ z ≤ s - h)) x9 (fun z hz => by
        obtain ⟨hz1, hz2⟩ := List.mem_filter.mp hz
        obtain ⟨q1, q2⟩ := of_decide_eq_true hz2
        simp only [List.mem_cons, List.not_mem_nil, or_false] at hz1
        refine ⟨?_, fun hge => ?_⟩
        · rcases hz1 with rfl | rfl
          · exact bm.le (by decide)
          · exact bd_plus bm ((inferInstance : Bd (1 : Int) 1).le (by decide))
        · have := L.least z (s - z) q1 (by omega) hge
          omega)
      have e2 : forL (gN 9) w_best_frame_0 (cand s w h) ⟨[.val (.int w), .val (.int h), .val (.int R), .val (.int 2), .val (.int 2), .val (.int 2), .val (.int 0), .val (.int 1), .val (.int (2 * s)), x9], S⟩ = .ok .nx ⟨[.val (.int w), .val (.int h), .val (.int R), .val (.int 2), .val (.int 2), .val (.int 2), .val (.int 0), .val (.int 1), .val (.int (2 * s)), y9], S⟩ := e2
      obtain ⟨W, H, s', e3, hst, h1, h2, h3⟩ := ih (s + 1) y9 (by omega) (by omega) (by omega)
      refine ⟨W, H, s', ?_, hst, h1, h2, h3⟩
      have ec : c_best_frame_1 ⟨[.val (.int w), .val (.int h), .val (.int R), .val (.int 2), .val (.int 2), .val (.int 2), .val (.int 0), .val (.int 1), .val (.int (2 * s)), x9], S⟩ = .ok true ⟨[.val (.int w), .val (.int h), .val (.int R), .val (.int 2), .val (.int 2), .val (.int 2), .val (.int 0), .val (.int 1), .val (.int (2 * s)), x9], S⟩ := by simp [c_best_frame_1]
      have eb : w_best_frame_1 ⟨[.val (.int w), .val (.int h), .val (.int R), .val (.int 2), .val (.int 2), .val (.int 2), .val (.int 0), .val (.int 1), .val (.int (2 * s)), x9], S⟩ = .ok .nx ⟨[.val (.int w), .val (.int h), .val (.int R), .val (.int 2), .val (.int 2), .val (.int 2), .val (.int 0), .val (.int 1), .val (.int (2 * (s + 1))), y9], S⟩ := by
        rw [show 2 * (s + 1) = 2 * s + 2 by omega]
        generalize cand s w h = C at *
        simp [w_best_frame_1, e1, e2, sAug]
      rw [sWhile_eq, ec]
      simp [eb, loopOut, e3]
theorem frame_ok {w h R T : Int} (L : Lst w h R T) (hw : 0 ≤ w) (hh : 0 ≤ h) (hR : 0 ≤ R) (bw : Bd w 600) (bh : Bd h 600) (bR : Bd R 1300) (bT : Bd T 600) (S : List Cell) : ∃ W H, g_best_frame [.int w, .int h, .int R, .int 2, .int 2] S = .ok (.tup [.int W, .int H]) S ∧ w ≤ W ∧ h ≤ H ∧ W + H = T := by
  have m : mulOk w h = true := mulOk_of bw bh (by decide)
  by_cases c : R ≤ w * h
  · refine ⟨w, h, by simp [g_best_frame, b_best_frame, fnD, m, c], Int.le_refl _, Int.le_refl _, ?_⟩
    have h1 := L.least w h (Int.le_refl _) (Int.le_refl _) c
    obtain ⟨W, H, a1, a2, a3, a4⟩ := L.has
    omega
  · have e1 := bez_ok S
    have e2 := lowest_ok hw hh hR bw bh bR S
    have e3 := ceil_ok (lowF w h R) 2 S (by decide)
    obtain ⟨W, H, a1, a2, a3, a4⟩ := L.has
    have hlow := low_le hw hh a1 a2 a3 hR
    have hlow0 : 0 ≤ lowF w h R := by
      unfold lowF
      have cn : ∀ z, 0 < z → 0 ≤ ceilD (2 * R) z := fun z hz => by
        obtain ⟨q1, q2⟩ := ceilD_le (z := 2 * R) hz
        by_cases t : 0 ≤ ceilD (2 * R) z
        · exact t
        · have := Int.mul_nonneg (show 0 ≤ z by omega) (show 0 ≤ -1 - ceilD (2 * R) z by omega)
          rw [show z * (-1 - ceilD (2 * R) z) = -z - z * ceilD (2 * R) z by grind] at this
          omega
      split
      · rename_i c1
        have w0 : 0 < w := by
          by_cases z : w = 0
          · subst z; omega
          · omega
        have := cn w w0
        omega
      · split
        · rename_i c1
          have h0 : 0 < h := by
            by_cases z : h = 0
            · subst z; omega
            · omega
          have := cn h h0
          omega
        · exact (rt_is (show 0 ≤ 16 * R by omega)).1
    obtain ⟨q1, q2⟩ := ceilD_le (z := lowF w h R) (show (0 : Int) < 2 by decide)
    have s0 : 0 ≤ ceilD (lowF w h R) 2 := by omega
    have s1 : ceilD (lowF w h R) 2 ≤ T := by omega
    obtain ⟨W, H, s', e4, hst, h1, h2, h3⟩ := frame_loop L bw bh bT S _ (ceilD (lowF w h R) 2) .un (Nat.le_refl _) s0 s1
    have bc : Bd (ceilD (lowF w h R) 2) 600 := bT.of_le s0 s1
    have m2 : mulOk (ceilD (lowF w h R) 2) 2 = true := mulOk_of bc (show Bd (2 : Int) 2 from ⟨by decide⟩) (by decide)
    rw [Int.mul_comm] at e4
    obtain ⟨sl, st'⟩ := s'
    simp only at hst
    subst hst
    refine ⟨W, H, ?_, h1, h2, h3⟩
    generalize ceilD (lowF w h R) 2 = k at *
    simp [g_best_frame, b_best_frame, fnD, m, c, e1, e2, e3, m2, e4]
abbrev prD : D := .ins "Prices" [([101, 97, 115, 116], .int 1), ([110, 111, 114, 116, 104], .int 1), ([119, 101, 115, 116], .int 1), ([115, 111, 117, 116, 104], .int 1)]
theorem pinit_ok (S : List Cell) : g_PricesX_initX [.int 1, .int 1, .int 1, .int 1] S = .ok [([101, 97, 115, 116], .int 1), ([110, 111, 114, 116, 104], .int 1), ([119, 101, 115, 116], .int 1), ([115, 111, 117, 116, 104], .int 1)] S := by
  simp [g_PricesX_initX, b_PricesX_initX, w_PricesX_initX_0, inD, inFin, putN]
theorem lot_init {a b c d : Int} (ha : 0 ≤ a) (hb : 0 ≤ b) (hc : 0 ≤ c) (hd : 0 ≤ d) (S : List Cell) : g_LotX_initX [.int a, .int b, .int c, .int d] S = .ok [([101, 97, 115, 116], .int a), ([110, 111, 114, 116, 104], .int b), ([119, 101, 115, 116], .int c), ([115, 111, 117, 116, 104], .int d)] S := by
  simp [g_LotX_initX, b_LotX_initX, w_LotX_initX_0, inD, inFin, putN, ha, hb, hc, hd]
theorem price_ok {p : Sp} (h : Sz 340 p) (S : List Cell) : g_Prices_least_price [prD, plS p] S = .ok (.int (st p)) S := by
  obtain ⟨T, hT, has, least⟩ := least_sum p.x p.y p.a
  have bx := bd_ab h.x
  have bY := bd_ab h.y
  have hx := ab_nonneg p.x
  have hy := ab_nonneg p.y
  have bst : Bd (stp p.x p.y p.a) 354 := h.st
  have bT : Bd T 600 := ⟨by
    have h1 := bst.lt
    have h2 := bx.lt
    have h3 := bY.lt
    have h4 := stp_nonneg p.x p.y p.a
    have e : (2 : Nat) ^ 600 = 2 ^ 354 * 2 ^ 246 := by rw [← Nat.pow_add]
    have e2 : (2 : Nat) ^ 354 * 4 ≤ 2 ^ 354 * 2 ^ 246 := Nat.mul_le_mul_left _ (by decide)
    have e3 : (2 : Nat) ^ 340 ≤ 2 ^ 354 := Nat.pow_le_pow_right (by decide) (by decide)
    omega⟩
  have hR := gnd_nonneg p.x p.y p.a
  have bR : Bd (gnd p.x p.y p.a) 1300 := by
    have h1 := gnd_up p.x p.y p.a
    have b1 : Bd (ab p.a) 700 := bd_ab h.a
    have b2 : Bd (ab (p.x * p.y)) 680 := bd_ab (@bd_mul _ _ _ _ h.x h.y)
    exact (bd_plus b1 (b2.le (by decide))).of_le hR h1 |>.le (by decide)
  obtain ⟨W, H, e1, h1, h2, h3⟩ := frame_ok ⟨has, least⟩ hx hy hR (bx.le (by decide)) (bY.le (by decide)) bR bT S
  have m0 : mulOk p.x p.y = true := mulOk_of h.x h.y (by decide)
  have rm : g_room_wanted [plS p] S = .ok (.int (gnd p.x p.y p.a)) S := by
    have q1 : bMax2 [.int 0, .int (-(p.x * p.y))] = some (.int (mxx 0 (-(p.x * p.y)))) := rfl
    have q2 : bMax2 [.int 0, .int (p.x * p.y)] = some (.int (mxx 0 (p.x * p.y))) := rfl
    have q3 : bMax2 [.int (p.a + mxx 0 (-(p.x * p.y))), .int (mxx 0 (p.x * p.y) - p.a)] = some (.int (gnd p.x p.y p.a)) := by rw [← room_eq]; rfl
    simp [-r_bMax, g_room_wanted, b_room_wanted, fnD, List.lookup, m0, q1, q2, q3]
  have fr : g_Prices_frame [prD, plS p] S = .ok (.tup [.int W, .int H]) S := by
    simp [g_Prices_frame, b_Prices_frame, fnD, List.lookup, ab_eq, rm, e1]
  have x1 : ∃ u v, bMax2 [.int 0, .int p.x] = some (.int u) ∧ bMax2 [.int 0, .int (-p.x)] = some (.int v) ∧ 0 ≤ u ∧ 0 ≤ v ∧ u + v = ab p.x := by
    refine ⟨_, _, rfl, rfl, ?_, ?_, ?_⟩
    · split <;> omega
    · split <;> omega
    · unfold ab; repeat' split
      all_goals omega
  have y1 : ∃ u v, bMax2 [.int 0, .int p.y] = some (.int u) ∧ bMax2 [.int 0, .int (-p.y)] = some (.int v) ∧ 0 ≤ u ∧ 0 ≤ v ∧ u + v = ab p.y := by
    refine ⟨_, _, rfl, rfl, ?_, ?_, ?_⟩
    · split <;> omega
    · split <;> omega
    · unfold ab; repeat' split
      all_goals omega
  obtain ⟨u, v, eu, ev, u0, v0, uv⟩ := x1
  obtain ⟨u', v', eu', ev', u0', v0', uv'⟩ := y1
  have li := lot_init (a := u + (W - ab p.x)) (b := u' + (H - ab p.y)) (c := v + (W - ab p.x)) (d := v' + (H - ab p.y)) (by omega) (by omega) (by omega) (by omega) S
  have lo : g_Prices_lot_of [prD, plS p] S = .ok (.ins "Lot" [([101, 97, 115, 116], .int (u + (W - ab p.x))), ([110, 111, 114, 116, 104], .int (u' + (H - ab p.y))), ([119, 101, 115, 116], .int (v + (W - ab p.x))), ([115, 111, 117, 116, 104], .int (v' + (H - ab p.y)))]) S := by
    simp [-r_bMax, g_Prices_lot_of, b_Prices_lot_of, fnD, List.lookup, fr, ab_eq, eu, ev, eu', ev', li]
  have big : ∀ z : Int, 0 ≤ z → z ≤ 3 * T → mulOk 1 z = true := fun z z0 z1 => mulOk_of bd_1 (show Bd z 700 from ⟨by
    have := bT.lt
    have e : (2 : Nat) ^ 700 = 2 ^ 600 * 2 ^ 100 := by rw [← Nat.pow_add]
    have e2 : (2 : Nat) ^ 600 * 4 ≤ 2 ^ 600 * 2 ^ 100 := Nat.mul_le_mul_left _ (by decide)
    omega⟩) (by decide)
  have k1 := big (u + (W - ab p.x)) (by omega) (by omega)
  have k2 := big (u' + (H - ab p.y)) (by omega) (by omega)
  have k3 := big (v + (W - ab p.x)) (by omega) (by omega)
  have k4 := big (v' + (H - ab p.y)) (by omega) (by omega)
  have sum : u + (W - ab p.x) + (u' + (H - ab p.y)) + (v + (W - ab p.x)) + (v' + (H - ab p.y)) = st p := by
    show _ = stp p.x p.y p.a
    omega
  generalize u + (W - ab p.x) = A at *
  generalize u' + (H - ab p.y) = B at *
  generalize v + (W - ab p.x) = C at *
  generalize v' + (H - ab p.y) = E at *
  rw [← sum]
  simp [g_Prices_least_price, b_Prices_least_price, fnD, List.lookup, lo, k1, k2, k3, k4]
end W_k71
set_option maxRecDepth 100000
set_option maxHeartbeats 4000000
set_option exponentiation.threshold 4000
namespace W_k71
open DL ST
theorem areas_ok (x y n : Int) (S : List Cell) (bx : Bd x 600) (bY : Bd y 600) (bn : Bd n 4000) (h0 : 0 ≤ n) : g_areas [.int x, .int y, .int n] S = .ok (limD (lim x y n)) S := by
  have e := areas_of_ok x y n S bx bY bn
  simp [g_areas, b_areas, w_areas_0, fnD, h0, e]
theorem home_ok (S : List Cell) : g_home_place [] S = .ok (plS home) S := by
  simp [g_home_place, b_home_place, fnD]
theorem isWk_wf {R : Runs} {p : Sp} {k : Int} {m n : Nat} (w : IsWk R p k m) (hb : Bd k n) (hm : m ≤ 1000) : Wf n R := ⟨w.neat.good, by rw [w.len]; exact hb, by have := w.few; omega⟩
theorem more_ok {S : List Cell} {p : Sp} {t : Int} {x0 x3 x4 x5 x7 x8 x9 : Sl} (h : Sz 340 p) (ht1 : -2 ≤ t) (ht2 : t ≤ 100) : ∃ s', (w__law_walks_right_0 ⟨[x0, .val (plS p), .val (.int (st p)), x3, x4, x5, .val (.int t), x7, x8, x9], S⟩ = .ok .nx s' ∨ w__law_walks_right_0 ⟨[x0, .val (plS p), .val (.int (st p)), x3, x4, x5, .val (.int t), x7, x8, x9], S⟩ = .ok .ct s') ∧ (∃ y7 y8 y9, s'.sl = [x0, .val (plS p), .val (.int (st p)), x3, x4, x5, .val (.int t), y7, y8, y9]) ∧ s'.st = S := by
  by_cases c0 : st p + t < 0
  · exact ⟨⟨[x0, .val (plS p), .val (.int (st p)), x3, x4, x5, .val (.int t), x7, x8, x9], S⟩, .inr (by simp [w__law_walks_right_0, c0]), ⟨_, _, _, rfl⟩, rfl⟩
  · have pb := Sz.pb h (by decide)
    have bst : Bd (st p) 354 := h.st
    have bN : Bd (st p + t) 400 := ⟨by
      have h1 := bst.lt
      have h2 : (2 : Nat) ^ 354 + 200 < 2 ^ 400 := by decide
      omega⟩
    have N0 : 0 ≤ st p + t := by omega
    have k0 := walk_of_ok pb (st p + t) S (bN.le (by decide)) N0
    have a0 := areas_ok p.x p.y (st p + t) S pb.x pb.y (bN.le (by decide)) N0
    rw [ptO_eq] at k0
    have hst : stp p.x p.y p.a = st p := rfl
    rw [hst] at k0
    have hfm : t.fmod 2 = t % 2 := Int.fmod_eq_emod_of_nonneg _ (by decide)
    have ht3 : (st p + t - st p) % 2 = t % 2 := by rw [show st p + t - st p = t by omega]
    by_cases c : st p ≤ st p + t ∧ (st p + t - st p) % 2 = 0
    · rw [if_pos c] at k0
      have w7 := wk_of (x := p.x) (y := p.y) (a := p.a) (n := st p + t) c
      simp only [wkO] at k0
      generalize mg (pt p.x p.y p.a (st p + t)) = M at *
      have wf := isWk_wf w7 bN (by decide)
      have pl := place_w wf (by decide) S
      have hto : led home M = p := w7.to
      rw [hto] at pl
      have ln := length_w wf S
      rw [w7.len] at ln
      have eq := eq_ok p p S
      simp only [and_self, decide_true] at eq
      have few : ((7 : Int) < M.length) = False := eq_false (by have := w7.few; omega)
      have c1 : 0 ≤ t := by omega
      have c2 : t.fmod 2 = 0 := by rw [hfm]; omega
      cases hl : lim p.x p.y (st p + t) with
      | none => exact absurd c (lim_none p.a hl)
      | some q =>
        obtain ⟨lo, hi⟩ := q
        rw [hl] at a0
        simp only [limD] at a0
        obtain ⟨_, g2, _⟩ := lim_some p.a hl
        obtain ⟨g3, g4⟩ := g2.mpr c.1
        refine ⟨⟨[x0, .val (plS p), .val (.int (st p)), x3, x4, x5, .val (.int t), .val (wk M), .val (.tup [.int lo, .int hi]), .val (.bl true)], S⟩, .inl ?_, ⟨_, _, _, rfl⟩, rfl⟩
        simp [w__law_walks_right_0, c0, k0, a0, List.lookup, g3, g4, c1, c2, isNonD, pl, eq, ln, few, bLen]
    · rw [if_neg c] at k0
      simp only [wkO] at k0
      cases hl : lim p.x p.y (st p + t) with
      | none =>
        rw [hl] at a0
        simp only [limD] at a0
        refine ⟨⟨[x0, .val (plS p), .val (.int (st p)), x3, x4, x5, .val (.int t), .val .non, .val .non, .val (.bl false)], S⟩, .inr ?_, ⟨_, _, _, rfl⟩, rfl⟩
        by_cases c1 : 0 ≤ t
        · have c2 : ¬ t.fmod 2 = 0 := fun z => c ⟨by omega, by rw [ht3, ← hfm]; exact z⟩
          simp [w__law_walks_right_0, c0, k0, a0, List.lookup, c1, c2, isNonD]
        · simp [w__law_walks_right_0, c0, k0, a0, List.lookup, c1, isNonD]
      | some q =>
        obtain ⟨lo, hi⟩ := q
        rw [hl] at a0
        simp only [limD] at a0
        obtain ⟨_, g2, g5⟩ := lim_some p.a hl
        have c1 : ¬ st p ≤ st p + t := fun z => c ⟨z, g5⟩
        have c1' : ¬ 0 ≤ t := by omega
        have hne : ¬ (lo ≤ p.a ∧ p.a ≤ hi) := fun z => c1 (g2.mp z)
        refine ⟨⟨[x0, .val (plS p), .val (.int (st p)), x3, x4, x5, .val (.int t), .val .non, .val (.tup [.int lo, .int hi]), .val (.bl false)], S⟩, .inr ?_, ⟨_, _, _, rfl⟩, rfl⟩
        by_cases g3 : lo ≤ p.a
        · have g4 : ¬ p.a ≤ hi := fun z => hne ⟨g3, z⟩
          simp [w__law_walks_right_0, c0, k0, a0, List.lookup, g3, g4, c1', isNonD]
        · simp [w__law_walks_right_0, c0, k0, a0, List.lookup, g3, c1', isNonD]
theorem walks_ok {n : Nat} {S : List Cell} {p : Sp} (hS : Pen n S) (hn : n + 500 < 2 ^ 20) (h : Sz 340 p) : ∃ S', g__law_walks_right [.cell 0, plS p] S = .ok (.bl true) S' ∧ Pen (n + 30) S' := by
  have pb := Sz.pb h (by decide)
  have s0 := steps_sp h (by decide) S
  have l0 := least_ok pb S
  have w := wk_least p.x p.y p.a
  have hst : stp p.x p.y p.a = st p := rfl
  rw [hst] at l0 w
  generalize mg (pt p.x p.y p.a (st p)) = R at *
  have bst : Bd (st p) 354 := h.st
  have st0 : 0 ≤ st p := stp_nonneg ..
  have wf := isWk_wf w bst (by decide)
  have pl := place_w wf (by decide) S
  have hto : led home R = p := w.to
  rw [hto] at pl
  have ln := length_w wf S
  have lst := least_w wf (by decide) S
  rw [hto, w.len, decide_eq_true rfl] at lst
  rw [w.len] at ln
  have eq := eq_ok p p S
  simp only [and_self, decide_true] at eq
  have few : ((6 : Int) < R.length) = False := eq_false (by have := w.few; omega)
  have p1 := pinit_ok S
  have p2 := price_ok h S
  have ho := home_ok S
  have zh : Sz 340 home := ⟨bd_0.le (by decide), bd_0.le (by decide), bd_0.le (by decide)⟩
  have d0 := distance_ok zh h (by decide) S
  rw [dst_home] at d0
  have b1 : Bd (st p + 1) 355 := bd_plus bst ((inferInstance : Bd (1 : Int) 1).le (by decide))
  obtain ⟨k, S1, e1, k0, k1, P1⟩ := big_ok hS (by omega) (s := st p + 1) (by omega) (b1.le (by decide))
  have hk : k ≤ len R := by rw [w.len]; omega
  have a1 := at_w wf (by decide) S1 k0 hk
  have su := wf.sz k0 hk
  have hpre : st (led home (hd R k)) = k := pre_least wf.good k0 hk (Int.le_refl _) (by rw [hd_all home wf.good, hto, w.len])
  have s1 := steps_at su (by decide) S1
  rw [hpre] at s1
  have md := mid (p := home) (q := p) wf.good (by rw [inv_home, home_mul]; exact hto) (by rw [dst_home]; exact w.len) k0 hk
  rw [home_mul] at md
  obtain ⟨md1, md2⟩ := md
  rw [w.len] at md2
  have hp' := h.mono (show 340 ≤ 354 by decide)
  have zh' := zh.mono (show 340 ≤ 354 by decide)
  have ho1 := home_ok S1
  have l1 := lies_ok su zh' hp' (by decide) S1
  rw [md1, md2, dst_home, decide_eq_true (show k + (st p - k) = st p by omega)] at l1
  have d1 := distance_ok su hp' (by decide) S1
  rw [md2] at d1
  generalize led home (hd R k) = u at *
  obtain ⟨d, S2, e2, dd0, dd1, P2⟩ := draw_ok P1 (by omega) (p := 40) (by decide) (by decide)
  have m2 : mulOk 2 d = true := mulOk_of (show Bd (2 : Int) 2 from ⟨by decide⟩) (show Bd d 6 from ⟨by omega⟩) (by decide)
  obtain ⟨s', e3, ⟨y6, y7, y8, y9, hs⟩, hS'⟩ := for_inv (g := gN 6) (b := w__law_walks_right_0) (items := [.int (-2), .int (-1), .int 0, .int 1, .int 2, .int (2 * d)]) (s := ⟨[.val (.cell 0), .val (plS p), .val (.int (st p)), .val (wk R), .val (.int k), .val (plS u), .un, .un, .un, .un], S2⟩)
    (fun i s => (∃ y6 y7 y8 y9, s.sl = [.val (.cell 0), .val (plS p), .val (.int (st p)), .val (wk R), .val (.int k), .val (plS u), y6, y7, y8, y9]) ∧ s.st = S2)
    ⟨⟨_, _, _, _, rfl⟩, rfl⟩ (fun i z s hi hp => by
      obtain ⟨⟨y6, y7, y8, y9, hs⟩, hS⟩ := hp
      obtain ⟨sl, st'⟩ := s
      simp only at hs hS
      subst hs hS
      have hz : ∃ t, z = .int t ∧ -2 ≤ t ∧ t ≤ 100 := by
        have := List.mem_of_getElem? hi
        simp only [List.mem_cons, List.not_mem_nil, or_false] at this
        rcases this with rfl | rfl | rfl | rfl | rfl | rfl <;> exact ⟨_, rfl, by omega, by omega⟩
      obtain ⟨t, rfl, t1, t2⟩ := hz
      obtain ⟨s2, e, ⟨z7, z8, z9, hz⟩, hst2⟩ := more_ok (S := st') (x0 := .val (.cell 0)) (x3 := .val (wk R)) (x4 := .val (.int k)) (x5 := .val (plS u)) (x7 := y7) (x8 := y8) (x9 := y9) h t1 t2
      exact ⟨⟨[.val (.cell 0), .val (plS p), .val (.int (st p)), .val (wk R), .val (.int k), .val (plS u), .val (.int t), y7, y8, y9], st'⟩, s2, by simp, e, ⟨_, _, _, _, hz⟩, hst2⟩)
  obtain ⟨sl, st'⟩ := s'
  simp only at hs hS'
  subst hs hS'
  refine ⟨st', ?_, P2.mono (by omega)⟩
  simp [-r_for_cons, g__law_walks_right, b__law_walks_right, fnD, s0, l0, pl, eq, ln, lst, few, bLen, List.lookup, p1, p2, ho, d0, e1, a1, s1, ho1, l1, d1, e2, m2, e3]
end W_k71
set_option maxRecDepth 100000
set_option maxHeartbeats 4000000
set_option exponentiation.threshold 4000
namespace W_k71
open DL ST
theorem lap_ok {n : Nat} {S : List Cell} {L : D} {x2 x3 x4 x5 x6 x7 : Sl} (hS : Pen n S) (hn : n + 5000 < 2 ^ 20) : ∃ s', w_law_0 ⟨[.val L, .val (.cell 0), x2, x3, x4, x5, x6, x7], S⟩ = .ok .nx s' ∧ (∃ y3 y4 y5 y6 y7, s'.sl = [.val L, .val (.cell 0), x2, y3, y4, y5, y6, y7]) ∧ Pen (n + 1000) s'.st := by
  obtain ⟨p, S1, e1, zp, P1⟩ := drawn_ok hS (by omega)
  obtain ⟨q, S2, e2, zq, P2⟩ := drawn_ok P1 (by omega)
  obtain ⟨t, S3, e3, zt, P3⟩ := drawn_ok P2 (by omega)
  have e4 := local_ok zp S3
  obtain ⟨S4, e5, P4⟩ := walks_ok P3 (by omega) zq
  obtain ⟨S5, e6, P5⟩ := wright_ok P4 (by omega)
  have d1 := distance_ok zp zq (by decide) S5
  have d2 := distance_ok zq zt (by decide) S5
  have d3 := distance_ok zp zt (by decide) S5
  have d4 := distance_ok zq zp (by decide) S5
  rw [dst_sym q p] at d4
  have i1 := inv_ok p S5 (zp.mulOk zp (by decide))
  have s1 := steps_sp zp (by decide) S5
  have s2 := steps_sp zp.inv (by decide) S5
  rw [st_inv] at s2
  have s3 := steps_sp zq (by decide) S5
  have l1 := lies_ok zq zp zt (by decide) S5
  have m1 := mul_ok p q S5 (zp.mulOk zq (by decide))
  have s4 := steps_sp (zp.mul zq) (by decide) S5
  have t1 : (dst p q + dst q t < dst p t) = False := eq_false (by have := dst_tri p t q; omega)
  have t2 : (st p + st q < st (mul p q)) = False := eq_false (by have := st_tri p q; omega)
  have par : (st p - p.x - p.y).fmod 2 = 0 := by
    rw [Int.fmod_eq_emod_of_nonneg _ (by decide)]
    exact stp_par p.x p.y p.a
  have c1 : decide (dst p q + dst q t = dst p t) = decide (dst p t = dst p q + dst q t) := by
    rw [decide_eq_decide]
    exact ⟨Eq.symm, Eq.symm⟩
  rw [c1] at l1
  refine ⟨⟨[.val L, .val (.cell 0), x2, .val (plS p), .val (plS q), .val (plS t), .val (.int (dst p q)), .val (.int (dst q t))], S5⟩, ?_, ⟨_, _, _, _, _, rfl⟩, P5.mono (by omega)⟩
  generalize mul p q = pq at *
  generalize inv p = ip at *
  simp [w_law_0, e1, e2, e3, e4, e5, e6, d1, d2, d3, d4, i1, s1, s2, s3, l1, m1, s4, t1, t2, par, List.lookup]
theorem law_ok : ∀ ns : List Int, ns.length ≤ 63 → (∀ z ∈ ns, PySem.Builtin.Int.intBits z ≤ 1048576) → ∃ S, g_law [.scr (ns.map D.int)] [] = .ok (.bl true) S := by
  intro ns hl _
  obtain ⟨S0, e0, P0⟩ := begin_ok ns
  have hk : ∃ k : Nat, (2 + (if (ns.length : Int) < 5 then (ns.length : Int) else 5)).toNat = k ∧ k ≤ 7 := ⟨_, rfl, by split <;> omega⟩
  obtain ⟨k, hk1, hk2⟩ := hk
  have q : -4611686018427387904 ≤ (2 + (if (ns.length : Int) < 5 then (ns.length : Int) else 5)) ∧ 2 + (if (ns.length : Int) < 5 then (ns.length : Int) else 5) < 4611686018427387904 := by split <;> omega
  obtain ⟨s', e2, ⟨y2, y3, y4, y5, y6, y7, hs⟩, hP⟩ := for_inv (g := gN 2) (b := w_law_0) (items := rngL 0 k) (s := ⟨[.val (.scr (ns.map D.int)), .val (.cell 0), .un, .un, .un, .un, .un, .un], S0⟩)
    (fun i s => (∃ y2 y3 y4 y5 y6 y7, s.sl = [.val (.scr (ns.map D.int)), .val (.cell 0), y2, y3, y4, y5, y6, y7]) ∧ Pen (1000 * i) s.st)
    ⟨⟨_, _, _, _, _, _, rfl⟩, P0⟩ (fun i d s hi hp => by
      obtain ⟨⟨y2, y3, y4, y5, y6, y7, hs⟩, hP⟩ := hp
      obtain ⟨sl, st⟩ := s
      simp only at hs hP
      subst hs
      obtain ⟨hi1, rfl⟩ := rngL_get hi
      obtain ⟨s2, e, ⟨z3, z4, z5, z6, z7, h2⟩, P2⟩ := lap_ok (L := .scr (ns.map D.int)) (x2 := .val (.int (0 + i))) (x3 := y3) (x4 := y4) (x5 := y5) (x6 := y6) (x7 := y7) hP (by omega)
      exact ⟨_, s2, rfl, .inl e, ⟨_, _, _, _, _, _, h2⟩, P2.mono (by omega)⟩)
  obtain ⟨sl, st⟩ := s'
  simp only at hs
  subst hs
  refine ⟨st, ?_⟩
  simp [g_law, b_law, fnD, e0, q, hk1, e2]
end W_k71
open PySem PySem.W PyProof.Rows
set_option maxRecDepth 100000 in
set_option maxHeartbeats 0 in
theorem PySem.Challenge.cw_areawalks_k71_whole_fewest_steps_told_in_holds : PySem.Challenge.rw_areawalks_k71_whole_fewest_steps_told_in.Holds := by
  w_on; o_law; k_head; (case hw => w_witness2)
  k_fill
  refine DL.walk_ofD (l := PySem.Challenge.rw_areawalks_k71_whole_fewest_steps_told_in) (n := 63) (k := 17) (x := "_law_script") (CX := fun w => L2.CX PySem.Challenge.rw_areawalks_k71_whole_fewest_steps_told_in.prog w) rfl (by decide) rfl ⟨rfl, by decide, by decide⟩ (fun w h Y => PySem.W.kIn_of Y) ?F (fun w => DL.noCX)
  case F =>
    intro w mg fa h KX G hmg TT
    refine' W_k71.all_mk KX G hmg TT ?aC_Place ?cB_Place ?aC_Walk ?cB_Walk ?aC_Lot ?cB_Lot ?aC_Prices ?cB_Prices ?cc_Place_Walk ?cc_Place_Lot ?cc_Place_Prices ?cc_Walk_Place ?cc_Walk_Lot ?cc_Walk_Prices ?cc_Lot_Place ?cc_Lot_Walk ?cc_Lot_Prices ?cc_Prices_Place ?cc_Prices_Walk ?cc_Prices_Lot ?aC_BadNumber ?xl_BadNumber ?xr_BadNumber ?xi_BadNumber ?xf_BadNumber ?xc_BadNumber ?xd_BadNumber ?xv_BadNumber ?xe_BadNumber ?xk_BadNumber ?xB_BadNumber ?aC_BadPlace ?xl_BadPlace ?xr_BadPlace ?xi_BadPlace ?xf_BadPlace ?xc_BadPlace ?xd_BadPlace ?xv_BadPlace ?xe_BadPlace ?xk_BadPlace ?xB_BadPlace ?aC_BadWord ?xl_BadWord ?xr_BadWord ?xi_BadWord ?xf_BadWord ?xc_BadWord ?xd_BadWord ?xv_BadWord ?xe_BadWord ?xk_BadWord ?xB_BadWord ?xtop ?xsup ?a1_is_integer ?l1_is_integer ?c1_is_integer ?k1_is_integer ?a1_PlaceX_initX ?i1_PlaceX_initX ?l1_PlaceX_initX ?c1_PlaceX_initX ?k1_PlaceX_initX ?a1_PlaceX_invertX ?i1_PlaceX_invertX ?l1_PlaceX_invertX ?c1_PlaceX_invertX ?k1_PlaceX_invertX ?a1_PlaceX_mulX ?i1_PlaceX_mulX ?l1_PlaceX_mulX ?c1_PlaceX_mulX ?k1_PlaceX_mulX ?a1__law_draw ?l1__law_draw ?c1__law_draw ?k1__law_draw ?a1__law_big ?l1__law_big ?c1__law_big ?k1__law_big ?a1__law_whole ?l1__law_whole ?c1__law_whole ?k1__law_whole ?a1__law_place ?l1__law_place ?c1__law_place ?k1__law_place ?a1__law_drawn ?l1__law_drawn ?c1__law_drawn ?k1__law_drawn ?a1__law_step ?l1__law_step ?c1__law_step ?k1__law_step ?a1_need_place ?l1_need_place ?c1_need_place ?k1_need_place ?a1_whole_root ?l1_whole_root ?c1_whole_root ?k1_whole_root ?a1_steps_of ?l1_steps_of ?c1_steps_of ?k1_steps_of ?a1_steps ?l1_steps ?c1_steps ?k1_steps ?a1_first_letters ?l1_first_letters ?c1_first_letters ?k1_first_letters ?a1_nearer ?l1_nearer ?c1_nearer ?k1_nearer ?a1_is_summit ?l1_is_summit ?c1_is_summit ?k1_is_summit ?a1__law_local_right ?l1__law_local_right ?c1__law_local_right ?k1__law_local_right ?a1__law_pen ?l1__law_pen ?c1__law_pen ?k1__law_pen ?a1_merged ?l1_merged ?c1_merged ?k1_merged ?a1_is_list ?l1_is_list ?c1_is_list ?k1_is_list ?a1_is_whole ?l1_is_whole ?c1_is_whole ?k1_is_whole ?a1_is_pair ?l1_is_pair ?c1_is_pair ?k1_is_pair ?a1_pairs_told ?l1_pairs_told ?c1_pairs_told ?k1_pairs_told ?a1_WalkX_initX ?i1_WalkX_initX ?l1_WalkX_initX ?c1_WalkX_initX ?k1_WalkX_initX ?pa_Walk_length ?pg_Walk_length ?pt_Walk_length ?pr_Walk_length ?l1_Walk_length ?c1_Walk_length ?k1_Walk_length ?a1_Walk_need_step ?i1_Walk_need_step ?l1_Walk_need_step ?c1_Walk_need_step ?k1_Walk_need_step ?a1_Walk_parted ?i1_Walk_parted ?l1_Walk_parted ?c1_Walk_parted ?k1_Walk_parted ?a1_Walk_head ?i1_Walk_head ?l1_Walk_head ?c1_Walk_head ?k1_Walk_head ?a1_gone_on ?l1_gone_on ?c1_gone_on ?k1_gone_on ?a1_Walk_spots ?i1_Walk_spots ?l1_Walk_spots ?c1_Walk_spots ?k1_Walk_spots ?a1_Walk_place ?i1_Walk_place ?l1_Walk_place ?c1_Walk_place ?k1_Walk_place ?a1_Walk_at ?i1_Walk_at ?l1_Walk_at ?c1_Walk_at ?k1_Walk_at ?a1_is_least_spot ?l1_is_least_spot ?c1_is_least_spot ?k1_is_least_spot ?a1_first_long ?l1_first_long ?c1_first_long ?k1_first_long ?a1_Walk_first_not_least ?i1_Walk_first_not_least ?l1_Walk_first_not_least ?c1_Walk_first_not_least ?k1_Walk_first_not_least ?a1_Walk_is_least ?i1_Walk_is_least ?l1_Walk_is_least ?c1_Walk_is_least ?k1_Walk_is_least ?a1__law_pick ?l1__law_pick ?c1__law_pick ?k1__law_pick ?a1__law_walk_right ?l1__law_walk_right ?c1__law_walk_right ?k1__law_walk_right ?a1_PlaceX_eqX ?i1_PlaceX_eqX ?l1_PlaceX_eqX ?c1_PlaceX_eqX ?k1_PlaceX_eqX ?a1_PricesX_initX ?i1_PricesX_initX ?l1_PricesX_initX ?c1_PricesX_initX ?k1_PricesX_initX ?a1_LotX_initX ?i1_LotX_initX ?l1_LotX_initX ?c1_LotX_initX ?k1_LotX_initX ?a1_bezout_of ?l1_bezout_of ?c1_bezout_of ?k1_bezout_of ?a1_ceiling ?l1_ceiling ?c1_ceiling ?k1_ceiling ?a1_lowest ?l1_lowest ?c1_lowest ?k1_lowest ?a1_sides_of_price ?l1_sides_of_price ?c1_sides_of_price ?k1_sides_of_price ?a1_best_frame ?l1_best_frame ?c1_best_frame ?k1_best_frame ?a1_room_wanted ?l1_room_wanted ?c1_room_wanted ?k1_room_wanted ?a1_Prices_frame ?i1_Prices_frame ?l1_Prices_frame ?c1_Prices_frame ?k1_Prices_frame ?a1_Prices_lot_of ?i1_Prices_lot_of ?l1_Prices_lot_of ?c1_Prices_lot_of ?k1_Prices_lot_of ?a1_Prices_least_price ?i1_Prices_least_price ?l1_Prices_least_price ?c1_Prices_least_price ?k1_Prices_least_price ?a1_best_sides ?l1_best_sides ?c1_best_sides ?k1_best_sides ?a1_areas_of ?l1_areas_of ?c1_areas_of ?k1_areas_of ?a1_areas ?l1_areas ?c1_areas ?k1_areas ?a1_distance ?l1_distance ?c1_distance ?k1_distance ?a1_home_place ?l1_home_place ?c1_home_place ?k1_home_place ?a1_walk_pairs ?l1_walk_pairs ?c1_walk_pairs ?k1_walk_pairs ?a1_pairs_to ?l1_pairs_to ?c1_pairs_to ?k1_pairs_to ?a1_walk_of ?l1_walk_of ?c1_walk_of ?k1_walk_of ?a1_least_walk ?l1_least_walk ?c1_least_walk ?k1_least_walk ?a1_lies_between ?l1_lies_between ?c1_lies_between ?k1_lies_between ?a1__law_walks_right ?l1__law_walks_right ?c1__law_walks_right ?k1__law_walks_right ?a1_law ?l1_law ?c1_law ?k1_law ?z1_abs ?z1_all ?z1_bool ?z1_divmod ?z1_int ?z1_isinstance ?z1_len ?z1_list ?z1_max ?z1_min ?z1_range ?z1_str ?z1_sum ?z1_tuple ?k0_FOUR ?kx_FOUR ?k0_LETTERS ?kx_LETTERS ?k0_MOST_LETTERS ?kx_MOST_LETTERS ?k0_MOST_PRICE ?kx_MOST_PRICE ?k0_MOST_RUNS ?kx_MOST_RUNS W_k71.law_ok
    (case aC_Place => k_is)
    (case cB_Place => kernel_rfl)
    (case aC_Walk => k_is)
    (case cB_Walk => kernel_rfl)
    (case aC_Lot => k_is)
    (case cB_Lot => kernel_rfl)
    (case aC_Prices => k_is)
    (case cB_Prices => kernel_rfl)
    (case cc_Place_Walk => kernel_rfl)
    (case cc_Place_Lot => kernel_rfl)
    (case cc_Place_Prices => kernel_rfl)
    (case cc_Walk_Place => kernel_rfl)
    (case cc_Walk_Lot => kernel_rfl)
    (case cc_Walk_Prices => kernel_rfl)
    (case cc_Lot_Place => kernel_rfl)
    (case cc_Lot_Walk => kernel_rfl)
    (case cc_Lot_Prices => kernel_rfl)
    (case cc_Prices_Place => kernel_rfl)
    (case cc_Prices_Walk => kernel_rfl)
    (case cc_Prices_Lot => kernel_rfl)
    (case aC_BadNumber => k_is)
    (case xl_BadNumber => k_is)
    (case xr_BadNumber => kernel_rfl)
    (case xi_BadNumber => k_is)
    (case xf_BadNumber => k_is)
    (case xc_BadNumber => k_is)
    (case xd_BadNumber => k_is)
    (case xv_BadNumber => rfl)
    (case xe_BadNumber => kernel_rfl)
    (case xk_BadNumber => k_is)
    (case xB_BadNumber => kernel_rfl)
    (case aC_BadPlace => k_is)
    (case xl_BadPlace => k_is)
    (case xr_BadPlace => kernel_rfl)
    (case xi_BadPlace => k_is)
    (case xf_BadPlace => k_is)
    (case xc_BadPlace => k_is)
    (case xd_BadPlace => k_is)
    (case xv_BadPlace => rfl)
    (case xe_BadPlace => kernel_rfl)
    (case xk_BadPlace => k_is)
    (case xB_BadPlace => kernel_rfl)
    (case aC_BadWord => k_is)
    (case xl_BadWord => k_is)
    (case xr_BadWord => kernel_rfl)
    (case xi_BadWord => k_is)
    (case xf_BadWord => k_is)
    (case xc_BadWord => k_is)
    (case xd_BadWord => k_is)
    (case xv_BadWord => rfl)
    (case xe_BadWord => kernel_rfl)
    (case xk_BadWord => k_is)
    (case xB_BadWord => kernel_rfl)
    (case xtop => kernel_rfl)
    (case xsup => k_is)
    (case a1_is_integer => k_is)
    (case l1_is_integer => k_is)
    (case c1_is_integer => k_is)
    (case k1_is_integer => k_is)
    (case a1_PlaceX_initX => k_is)
    (case i1_PlaceX_initX => k_is)
    (case l1_PlaceX_initX => k_is)
    (case c1_PlaceX_initX => k_is)
    (case k1_PlaceX_initX => k_is)
    (case a1_PlaceX_invertX => k_is)
    (case i1_PlaceX_invertX => k_is)
    (case l1_PlaceX_invertX => k_is)
    (case c1_PlaceX_invertX => k_is)
    (case k1_PlaceX_invertX => k_is)
    (case a1_PlaceX_mulX => k_is)
    (case i1_PlaceX_mulX => k_is)
    (case l1_PlaceX_mulX => k_is)
    (case c1_PlaceX_mulX => k_is)
    (case k1_PlaceX_mulX => k_is)
    (case a1__law_draw => k_is)
    (case l1__law_draw => k_is)
    (case c1__law_draw => k_is)
    (case k1__law_draw => k_is)
    (case a1__law_big => k_is)
    (case l1__law_big => k_is)
    (case c1__law_big => k_is)
    (case k1__law_big => k_is)
    (case a1__law_whole => k_is)
    (case l1__law_whole => k_is)
    (case c1__law_whole => k_is)
    (case k1__law_whole => k_is)
    (case a1__law_place => k_is)
    (case l1__law_place => k_is)
    (case c1__law_place => k_is)
    (case k1__law_place => k_is)
    (case a1__law_drawn => k_is)
    (case l1__law_drawn => k_is)
    (case c1__law_drawn => k_is)
    (case k1__law_drawn => k_is)
    (case a1__law_step => k_is)
    (case l1__law_step => k_is)
    (case c1__law_step => k_is)
    (case k1__law_step => k_is)
    (case a1_need_place => k_is)
    (case l1_need_place => k_is)
    (case c1_need_place => k_is)
    (case k1_need_place => k_is)
    (case a1_whole_root => k_is)
    (case l1_whole_root => k_is)
    (case c1_whole_root => k_is)
    (case k1_whole_root => k_is)
    (case a1_steps_of => k_is)
    (case l1_steps_of => k_is)
    (case c1_steps_of => k_is)
    (case k1_steps_of => k_is)
    (case a1_steps => k_is)
    (case l1_steps => k_is)
    (case c1_steps => k_is)
    (case k1_steps => k_is)
    (case a1_first_letters => k_is)
    (case l1_first_letters => k_is)
    (case c1_first_letters => k_is)
    (case k1_first_letters => k_is)
    (case a1_nearer => k_is)
    (case l1_nearer => k_is)
    (case c1_nearer => k_is)
    (case k1_nearer => k_is)
    (case a1_is_summit => k_is)
    (case l1_is_summit => k_is)
    (case c1_is_summit => k_is)
    (case k1_is_summit => k_is)
    (case a1__law_local_right => k_is)
    (case l1__law_local_right => k_is)
    (case c1__law_local_right => k_is)
    (case k1__law_local_right => k_is)
    (case a1__law_pen => k_is)
    (case l1__law_pen => k_is)
    (case c1__law_pen => k_is)
    (case k1__law_pen => k_is)
    (case a1_merged => k_is)
    (case l1_merged => k_is)
    (case c1_merged => k_is)
    (case k1_merged => k_is)
    (case a1_is_list => k_is)
    (case l1_is_list => k_is)
    (case c1_is_list => k_is)
    (case k1_is_list => k_is)
    (case a1_is_whole => k_is)
    (case l1_is_whole => k_is)
    (case c1_is_whole => k_is)
    (case k1_is_whole => k_is)
    (case a1_is_pair => k_is)
    (case l1_is_pair => k_is)
    (case c1_is_pair => k_is)
    (case k1_is_pair => k_is)
    (case a1_pairs_told => k_is)
    (case l1_pairs_told => k_is)
    (case c1_pairs_told => k_is)
    (case k1_pairs_told => k_is)
    (case a1_WalkX_initX => k_is)
    (case i1_WalkX_initX => k_is)
    (case l1_WalkX_initX => k_is)
    (case c1_WalkX_initX => k_is)
    (case k1_WalkX_initX => k_is)
    (case pa_Walk_length => k_is)
    (case pg_Walk_length => kernel_rfl)
    (case pt_Walk_length => kernel_rfl)
    (case pr_Walk_length => k_is)
    (case l1_Walk_length => k_is)
    (case c1_Walk_length => k_is)
    (case k1_Walk_length => k_is)
    (case a1_Walk_need_step => k_is)
    (case i1_Walk_need_step => k_is)
    (case l1_Walk_need_step => k_is)
    (case c1_Walk_need_step => k_is)
    (case k1_Walk_need_step => k_is)
    (case a1_Walk_parted => k_is)
    (case i1_Walk_parted => k_is)
    (case l1_Walk_parted => k_is)
    (case c1_Walk_parted => k_is)
    (case k1_Walk_parted => k_is)
    (case a1_Walk_head => k_is)
    (case i1_Walk_head => k_is)
    (case l1_Walk_head => k_is)
    (case c1_Walk_head => k_is)
    (case k1_Walk_head => k_is)
    (case a1_gone_on => k_is)
    (case l1_gone_on => k_is)
    (case c1_gone_on => k_is)
    (case k1_gone_on => k_is)
    (case a1_Walk_spots => k_is)
    (case i1_Walk_spots => k_is)
    (case l1_Walk_spots => k_is)
    (case c1_Walk_spots => k_is)
    (case k1_Walk_spots => k_is)
    (case a1_Walk_place => k_is)
    (case i1_Walk_place => k_is)
    (case l1_Walk_place => k_is)
    (case c1_Walk_place => k_is)
    (case k1_Walk_place => k_is)
    (case a1_Walk_at => k_is)
    (case i1_Walk_at => k_is)
    (case l1_Walk_at => k_is)
    (case c1_Walk_at => k_is)
    (case k1_Walk_at => k_is)
    (case a1_is_least_spot => k_is)
    (case l1_is_least_spot => k_is)
    (case c1_is_least_spot => k_is)
    (case k1_is_least_spot => k_is)
    (case a1_first_long => k_is)
    (case l1_first_long => k_is)
    (case c1_first_long => k_is)
    (case k1_first_long => k_is)
    (case a1_Walk_first_not_least => k_is)
    (case i1_Walk_first_not_least => k_is)
    (case l1_Walk_first_not_least => k_is)
    (case c1_Walk_first_not_least => k_is)
    (case k1_Walk_first_not_least => k_is)
    (case a1_Walk_is_least => k_is)
    (case i1_Walk_is_least => k_is)
    (case l1_Walk_is_least => k_is)
    (case c1_Walk_is_least => k_is)
    (case k1_Walk_is_least => k_is)
    (case a1__law_pick => k_is)
    (case l1__law_pick => k_is)
    (case c1__law_pick => k_is)
    (case k1__law_pick => k_is)
    (case a1__law_walk_right => k_is)
    (case l1__law_walk_right => k_is)
    (case c1__law_walk_right => k_is)
    (case k1__law_walk_right => k_is)
    (case a1_PlaceX_eqX => k_is)
    (case i1_PlaceX_eqX => k_is)
    (case l1_PlaceX_eqX => k_is)
    (case c1_PlaceX_eqX => k_is)
    (case k1_PlaceX_eqX => k_is)
    (case a1_PricesX_initX => k_is)
    (case i1_PricesX_initX => k_is)
    (case l1_PricesX_initX => k_is)
    (case c1_PricesX_initX => k_is)
    (case k1_PricesX_initX => k_is)
    (case a1_LotX_initX => k_is)
    (case i1_LotX_initX => k_is)
    (case l1_LotX_initX => k_is)
    (case c1_LotX_initX => k_is)
    (case k1_LotX_initX => k_is)
    (case a1_bezout_of => k_is)
    (case l1_bezout_of => k_is)
    (case c1_bezout_of => k_is)
    (case k1_bezout_of => k_is)
    (case a1_ceiling => k_is)
    (case l1_ceiling => k_is)
    (case c1_ceiling => k_is)
    (case k1_ceiling => k_is)
    (case a1_lowest => k_is)
    (case l1_lowest => k_is)
    (case c1_lowest => k_is)
    (case k1_lowest => k_is)
    (case a1_sides_of_price => k_is)
    (case l1_sides_of_price => k_is)
    (case c1_sides_of_price => k_is)
    (case k1_sides_of_price => k_is)
    (case a1_best_frame => k_is)
    (case l1_best_frame => k_is)
    (case c1_best_frame => k_is)
    (case k1_best_frame => k_is)
    (case a1_room_wanted => k_is)
    (case l1_room_wanted => k_is)
    (case c1_room_wanted => k_is)
    (case k1_room_wanted => k_is)
    (case a1_Prices_frame => k_is)
    (case i1_Prices_frame => k_is)
    (case l1_Prices_frame => k_is)
    (case c1_Prices_frame => k_is)
    (case k1_Prices_frame => k_is)
    (case a1_Prices_lot_of => k_is)
    (case i1_Prices_lot_of => k_is)
    (case l1_Prices_lot_of => k_is)
    (case c1_Prices_lot_of => k_is)
    (case k1_Prices_lot_of => k_is)
    (case a1_Prices_least_price => k_is)
    (case i1_Prices_least_price => k_is)
    (case l1_Prices_least_price => k_is)
    (case c1_Prices_least_price => k_is)
    (case k1_Prices_least_price => k_is)
    (case a1_best_sides => k_is)
    (case l1_best_sides => k_is)
    (case c1_best_sides => k_is)
    (case k1_best_sides => k_is)
    (case a1_areas_of => k_is)
    (case l1_areas_of => k_is)
    (case c1_areas_of => k_is)
    (case k1_areas_of => k_is)
    (case a1_areas => k_is)
    (case l1_areas => k_is)
    (case c1_areas => k_is)
    (case k1_areas => k_is)
    (case a1_distance => k_is)
    (case l1_distance => k_is)
    (case c1_distance => k_is)
    (case k1_distance => k_is)
    (case a1_home_place => k_is)
    (case l1_home_place => k_is)
    (case c1_home_place => k_is)
    (case k1_home_place => k_is)
    (case a1_walk_pairs => k_is)
    (case l1_walk_pairs => k_is)
    (case c1_walk_pairs => k_is)
    (case k1_walk_pairs => k_is)
    (case a1_pairs_to => k_is)
    (case l1_pairs_to => k_is)
    (case c1_pairs_to => k_is)
    (case k1_pairs_to => k_is)
    (case a1_walk_of => k_is)
    (case l1_walk_of => k_is)
    (case c1_walk_of => k_is)
    (case k1_walk_of => k_is)
    (case a1_least_walk => k_is)
    (case l1_least_walk => k_is)
    (case c1_least_walk => k_is)
    (case k1_least_walk => k_is)
    (case a1_lies_between => k_is)
    (case l1_lies_between => k_is)
    (case c1_lies_between => k_is)
    (case k1_lies_between => k_is)
    (case a1__law_walks_right => k_is)
    (case l1__law_walks_right => k_is)
    (case c1__law_walks_right => k_is)
    (case k1__law_walks_right => k_is)
    (case a1_law => k_is)
    (case l1_law => k_is)
    (case c1_law => k_is)
    (case k1_law => k_is)
    (case z1_abs => k_is)
    (case z1_all => k_is)
    (case z1_bool => k_is)
    (case z1_divmod => k_is)
    (case z1_int => k_is)
    (case z1_isinstance => k_is)
    (case z1_len => k_is)
    (case z1_list => k_is)
    (case z1_max => k_is)
    (case z1_min => k_is)
    (case z1_range => k_is)
    (case z1_str => k_is)
    (case z1_sum => k_is)
    (case z1_tuple => k_is)
    (case k0_FOUR => k_is)
    (case kx_FOUR => kernel_rfl)
    (case k0_LETTERS => k_is)
    (case kx_LETTERS => kernel_rfl)
    (case k0_MOST_LETTERS => k_is)
    (case kx_MOST_LETTERS => kernel_rfl)
    (case k0_MOST_PRICE => k_is)
    (case kx_MOST_PRICE => kernel_rfl)
    (case k0_MOST_RUNS => k_is)
    (case kx_MOST_RUNS => kernel_rfl)
