import PyProof.Rows.All
import Wide.All
import OpenK.AllK
import Wide.FinOn
import HandS.ForMost
import HandS.ForExc
import HandS.CallSlots
import HandS.IsInst
import HandS.Wide
import HandS.Flow
import HandS.Property
import HandS.OwnEq
import KE.KOpsOwn
import HandS.Zip
import HandS.Style
import HandS.Exc
import HandS.ExcInit
import HandS.TryMany
import KE.KExcSuper
import HandS.ExcField
import HandS.Lambda
import HandS.EndTab
import HandS.DeepEq
import HandS.WideBits
import HandS.Deep
import HandS.StrMore
import HandS.NoneIn
import PyProof.StrBlock2
import HandS.TupAny
import HandS.Iter
import HandS.ExcOwn
import PyProof.ExcBaseAll.ValueError
import KE.KCallOwn
import HandS.TupLe
import PyProof.P3Eq
import PyProof.Draws
import PyProof.EnumMake
import PySem.Challenge.RW_areawalks_k49_whole_alike_places
set_option Elab.async false
set_option linter.all false
set_option maxRecDepth 100000
set_option maxHeartbeats 4000000
set_option autoImplicit false
namespace DL
open PySem PySem.Spec PyProof.Rows L2

/-! ### data -/
/-- a name or a text by its code points -/
abbrev Nm := List Nat
def nm (l : Nm) : Str := ⟨l.toArray⟩
theorem nm_inj {a b : Nm} (h : nm a = nm b) : a = b := by
  have := congrArg (fun s : Str => s.cps.toList) h
  simpa [nm] using this
inductive DK where
  | i (n : Int)
  | s (l : List Nat)
  deriving DecidableEq
inductive D where
  | non | bl (b : Bool) | int (i : Int) | str (l : List Nat)
  | tup (xs : List D) | lst (xs : List D) | scr (xs : List D)
  | dic (kvs : List (DK × D))
  | ins (c : String) (fs : List (Nm × D))
  | cell (n : Nat) | cls (c : String) | ty (n : String) | fn (f : String) | lam (k : String)
instance : Inhabited D := ⟨.non⟩
/-- a thing of the store, by reference -/
inductive Cell where
  | dic (kvs : List (DK × D))
  | lst (xs : List D)
  | obj (c : String) (fs : List (Nm × D))
  | tab (k : String)
instance : Inhabited Cell := ⟨.lst []⟩
/-- a slot: no value known, a value, a list / dict / instance of this frame's own -/
inductive Sl where
  | un | val (d : D) | ol (xs : List D) | od (kvs : List (DK × D)) | oi (c : String) (fs : List (Nm × D))
instance : Inhabited Sl := ⟨.un⟩
def Sl.own : Sl → Bool
  | .un => false
  | .val _ => false
  | _ => true
structure Xc where
  cls : String
  fs : List (Nm × D)
structure DS where
  sl : List Sl
  st : List Cell
inductive Res (σ α : Type) where
  | ok (a : α) (t : σ) | exc (x : Xc) (t : σ) | stuck
def Res.bind {σ α β : Type} (r : Res σ α) (k : α → σ → Res σ β) : Res σ β := match r with
  | .ok a t => k a t
  | .exc x t => .exc x t
  | .stuck => .stuck
@[simp] theorem Res.bind_ok {σ α β : Type} (a : α) (t : σ) (k : α → σ → Res σ β) : (Res.ok a t).bind k = k a t := rfl
@[simp] theorem Res.bind_exc {σ α β : Type} (x : Xc) (t : σ) (k : α → σ → Res σ β) : (Res.exc x t).bind k = .exc x t := rfl
@[simp] theorem Res.bind_stuck {σ α β : Type} (k : α → σ → Res σ β) : (Res.stuck).bind k = .stuck := rfl
inductive Out where
  | nx | rt (d : D) | bk | ct
abbrev DE := DS → Res DS D
abbrev DA := DS → Res DS (List D)
abbrev DT := DS → Res DS Bool
abbrev DStm := DS → Res DS Out
abbrev DFn := List D → List Cell → Res (List Cell) D

/-! ### how data lie in the heap -/
structure Wd where
  F : Hp
  ρ : List Addr
structure Wd.le (w w' : Wd) : Prop where
  f : ∀ a o, w.F a = some o → w'.F a = some o
  r : w.ρ <+: w'.ρ
theorem Wd.le.refl (w : Wd) : w.le w := ⟨fun _ _ h => h, List.prefix_refl _⟩
theorem Wd.le.trans {a b c : Wd} (h : a.le b) (k : b.le c) : a.le c := ⟨fun x o e => k.f x o (h.f x o e), h.r.trans k.r⟩
structure Gam where
  K : PySem.W.Frag
  ct : String → Option Addr
  ft : String → Option Addr
  lam : String → Addr → Wd → Prop := fun _ _ _ => False
  lamM : ∀ (k : String) (f : Addr) (w w' : Wd), w.le w' → lam k f w → lam k f w' := by (intros; assumption)
  tab : String → Addr → Hp → HO → Prop := fun _ _ _ _ => False
  tabM : ∀ (k : String) (a : Addr) (F F' : Hp) (o : HO), (∀ a o, F a = some o → F' a = some o) → tab k a F o → tab k a F' o := by (intros; assumption)
def dkey : DK → Key
  | .i n => .inl n
  | .s l => .inr (nm l)
mutual
inductive Rep (G : Gam) (w : Wd) : V → D → Prop
  | non : Rep G w .non .non
  | bl (b : Bool) : Rep G w (.bl b) (.bl b)
  | int (i : Int) : Rep G w (.int i) (.int i)
  | str (l : List Nat) : Rep G w (.str (nm l)) (.str l)
  | tup {a : Addr} {vs : List V} {ds : List D} : SqT G.K w.F a vs → Reps G w vs ds → Rep G w (.ref a) (.tup ds)
  | lst {a : Addr} {vs : List V} {ds : List D} : w.F a = some (.lst vs) → Reps G w vs ds → Rep G w (.ref a) (.lst ds)
  | scr {a : Addr} {vs : List V} {ds : List D} : SqL G.K w.F a vs → Reps G w vs ds → Rep G w (.ref a) (.scr ds)
  | dic {a : Addr} {vs : List (Key × V)} {ds : List (DK × D)} : w.F a = some (.dK vs) → RepK G w vs ds → Rep G w (.ref a) (.dic ds)
  | ins {a C dx : Addr} {c : String} {vs : List (Str × V)} {ds : List (Nm × D)} : G.ct c = some C → w.F a = some (.ins C dx vs) → RepF G w vs ds → Rep G w (.ref a) (.ins c ds)
  | cell {a : Addr} {n : Nat} : w.ρ[n]? = some a → Rep G w (.ref a) (.cell n)
  | cls {C : Addr} {c : String} : G.ct c = some C → Rep G w (.ref C) (.cls c)
  | ty (n : String) : Rep G w (.ty n) (.ty n)
  | fn {a : Addr} {f : String} : G.ft f = some a → Rep G w (.ref a) (.fn f)
  | lam {f : Addr} {k : String} : G.lam k f w → Rep G w (.ref f) (.lam k)
inductive Reps (G : Gam) (w : Wd) : List V → List D → Prop
  | nil : Reps G w [] []
  | cons {v : V} {d : D} {vs : List V} {ds : List D} : Rep G w v d → Reps G w vs ds → Reps G w (v :: vs) (d :: ds)
inductive RepF (G : Gam) (w : Wd) : List (Str × V) → List (Nm × D) → Prop
  | nil : RepF G w [] []
  | cons {f : Nm} {v : V} {d : D} {vs : List (Str × V)} {ds : List (Nm × D)} : Rep G w v d → RepF G w vs ds → RepF G w ((nm f, v) :: vs) ((f, d) :: ds)
inductive RepK (G : Gam) (w : Wd) : List (Key × V) → List (DK × D) → Prop
  | nil : RepK G w [] []
  | cons {k : DK} {v : V} {d : D} {vs : List (Key × V)} {ds : List (DK × D)} : Rep G w v d → RepK G w vs ds → RepK G w ((dkey k, v) :: vs) ((k, d) :: ds)
end
theorem SqT.le {K : PySem.W.Frag} {F F' : Hp} {a : Addr} {xs : List V} (h : SqT K F a xs) (e : ∀ a o, F a = some o → F' a = some o) : SqT K F' a xs := by
  rcases h with (h | ⟨o, h⟩) | h
  · exact .inl (.inl (e _ _ h))
  · exact .inl (.inr ⟨o, e _ _ h⟩)
  · exact .inr h
theorem SqL.le {K : PySem.W.Frag} {F F' : Hp} {a : Addr} {xs : List V} (h : SqL K F a xs) (e : ∀ a o, F a = some o → F' a = some o) : SqL K F' a xs := by
  rcases h with (h | ⟨o, h⟩) | h
  · exact .inl (.inl (e _ _ h))
  · exact .inl (.inr ⟨o, e _ _ h⟩)
  · exact .inr h
theorem pre_get {α : Type} {l l' : List α} {n : Nat} {x : α} (h : l <+: l') (e : l[n]? = some x) : l'[n]? = some x := by
  obtain ⟨r, rfl⟩ := h
  rw [List.getElem?_append_left (by exact (List.getElem?_eq_some_iff.mp e).1)]
  exact e
mutual
theorem Rep.mono {G : Gam} {w w' : Wd} (h : w.le w') : ∀ {v : V} {d : D}, Rep G w v d → Rep G w' v d
  | _, _, .non => .non
  | _, _, .bl b => .bl b
  | _, _, .int i => .int i
  | _, _, .str l => .str l
  | _, _, .tup a b => .tup (SqT.le a h.f) (Reps.mono h b)
  | _, _, .lst a b => .lst (h.f _ _ a) (Reps.mono h b)
  | _, _, .scr a b => .scr (SqL.le a h.f) (Reps.mono h b)
  | _, _, .dic a b => .dic (h.f _ _ a) (RepK.mono h b)
  | _, _, .ins c a b => .ins c (h.f _ _ a) (RepF.mono h b)
  | _, _, .cell a => .cell (pre_get h.r a)
  | _, _, .cls a => .cls a
  | _, _, .ty n => .ty n
  | _, _, .fn a => .fn a
  | _, _, .lam a => .lam (G.lamM _ _ _ _ h a)
theorem Reps.mono {G : Gam} {w w' : Wd} (h : w.le w') : ∀ {v : List V} {d : List D}, Reps G w v d → Reps G w' v d
  | _, _, .nil => .nil
  | _, _, .cons a b => .cons (Rep.mono h a) (Reps.mono h b)
theorem RepF.mono {G : Gam} {w w' : Wd} (h : w.le w') : ∀ {v : List (Str × V)} {d : List (Nm × D)}, RepF G w v d → RepF G w' v d
  | _, _, .nil => .nil
  | _, _, .cons a b => .cons (Rep.mono h a) (RepF.mono h b)
theorem RepK.mono {G : Gam} {w w' : Wd} (h : w.le w') : ∀ {v : List (Key × V)} {d : List (DK × D)}, RepK G w v d → RepK G w' v d
  | _, _, .nil => .nil
  | _, _, .cons a b => .cons (Rep.mono h a) (RepK.mono h b)
end
theorem Reps.length {G : Gam} {w : Wd} : ∀ {v : List V} {d : List D}, Reps G w v d → v.length = d.length
  | _, _, .nil => rfl
  | _, _, .cons _ b => by rw [List.length_cons, List.length_cons, Reps.length b]
theorem Reps.get {G : Gam} {w : Wd} : ∀ {v : List V} {d : List D} {i : Nat} {x : D}, Reps G w v d → d[i]? = some x → ∃ y, v[i]? = some y ∧ Rep G w y x
  | _, _, _, _, .nil, e => by simp at e
  | _, _, 0, _, .cons a _, e => by simp at e; subst e; exact ⟨_, rfl, a⟩
  | _, _, i + 1, x, .cons _ b, e => by
    obtain ⟨y, h1, h2⟩ := Reps.get (i := i) (x := x) b (by simpa using e)
    exact ⟨y, by simpa using h1, h2⟩
theorem Reps.append {G : Gam} {w : Wd} : ∀ {v v' : List V} {d d' : List D}, Reps G w v d → Reps G w v' d' → Reps G w (v ++ v') (d ++ d')
  | _, _, _, _, .nil, h => h
  | _, _, _, _, .cons a b, h => .cons a (Reps.append b h)
theorem Reps.set {G : Gam} {w : Wd} {x : V} {y : D} (r : Rep G w x y) : ∀ {v : List V} {d : List D} (i : Nat), Reps G w v d → Reps G w (v.set i x) (d.set i y)
  | _, _, _, .nil => .nil
  | _, _, 0, .cons _ b => .cons r b
  | _, _, i + 1, .cons a b => .cons a (Reps.set r i b)
theorem Reps.drop {G : Gam} {w : Wd} : ∀ {v : List V} {d : List D} (n : Nat), Reps G w v d → Reps G w (v.drop n) (d.drop n)
  | _, _, 0, r => r
  | _, _, _ + 1, .nil => .nil
  | _, _, n + 1, .cons _ t => Reps.drop n t
theorem Reps.take {G : Gam} {w : Wd} : ∀ {v : List V} {d : List D} (n : Nat), Reps G w v d → Reps G w (v.take n) (d.take n)
  | _, _, 0, _ => .nil
  | _, _, _ + 1, .nil => .nil
  | _, _, n + 1, .cons r t => .cons r (Reps.take n t)
theorem Reps.ints {G : Gam} {w : Wd} : ∀ {v : List V} {ns : List Int}, Reps G w v (ns.map D.int) → v = ns.map V.int
  | _, [], h => by cases h; rfl
  | _, n :: ns, h => by
    cases h with
    | cons a b => cases a; rw [Reps.ints b]; rfl
theorem Reps.of_ints {G : Gam} {w : Wd} : ∀ ns : List Int, Reps G w (ns.map V.int) (ns.map D.int)
  | [] => .nil
  | n :: ns => .cons (.int n) (Reps.of_ints ns)
theorem RepF.look {G : Gam} {w : Wd} : ∀ {v : List (Str × V)} {d : List (Nm × D)} {f : Nm} {x : D}, RepF G w v d → d.lookup f = some x → ∃ y, v.lookup (nm f) = some y ∧ Rep G w y x
  | _, _, _, _, .nil, e => by simp at e
  | _, _, f, x, .cons (f := g) a b, e => by
    by_cases h : f = g
    · subst h
      rw [List.lookup_cons_self] at e
      cases e
      exact ⟨_, List.lookup_cons_self, a⟩
    · have h1 : (f == g) = false := beq_eq_false_iff_ne.mpr h
      have h2 : (nm f == nm g) = false := beq_eq_false_iff_ne.mpr fun q => h (nm_inj q)
      simp only [List.lookup_cons, h1] at e
      obtain ⟨y, q1, q2⟩ := RepF.look b e
      exact ⟨y, by simp only [List.lookup_cons, h2]; exact q1, q2⟩
theorem RepF.none {G : Gam} {w : Wd} : ∀ {v : List (Str × V)} {d : List (Nm × D)} {f : Nm}, RepF G w v d → d.lookup f = none → v.lookup (nm f) = none
  | _, _, _, .nil, e => rfl
  | _, _, f, .cons (f := g) a b, e => by
    by_cases h : f = g
    · subst h
      rw [List.lookup_cons_self] at e
      cases e
    · have h1 : (f == g) = false := beq_eq_false_iff_ne.mpr h
      have h2 : (nm f == nm g) = false := beq_eq_false_iff_ne.mpr fun q => h (nm_inj q)
      simp only [List.lookup_cons, h1] at e
      simp only [List.lookup_cons, h2]
      exact RepF.none b e
theorem RepF.length {G : Gam} {w : Wd} : ∀ {v : List (Str × V)} {d : List (Nm × D)}, RepF G w v d → v.length = d.length
  | _, _, .nil => rfl
  | _, _, .cons _ b => by rw [List.length_cons, List.length_cons, RepF.length b]
def putN (f : Nm) (x : D) : List (Nm × D) → List (Nm × D)
  | [] => [(f, x)]
  | (g, y) :: r => if g = f then (f, x) :: r else (g, y) :: putN f x r
/-! ### the store, the slots -/
def CellOk (G : Gam) (w : Wd) (H : Hp) (a : Addr) : Cell → Prop
  | .dic kvs => ∃ vs, H a = some (.dK vs) ∧ RepK G w vs kvs
  | .lst xs => ∃ vs, H a = some (.lst vs) ∧ Reps G w vs xs
  | .obj c fs => ∃ C dx vs, G.ct c = some C ∧ H a = some (.ins C dx vs) ∧ RepF G w vs fs
  | .tab k => ∃ o, H a = some o ∧ G.tab k a w.F o
structure FOk (G : Gam) (w : Wd) (S : List Cell) (H : Hp) : Prop where
  sub : ∀ a o, w.F a = some o → H a = some o
  len : w.ρ.length = S.length
  cel : ∀ (n : Nat) (a : Addr) (c : Cell), w.ρ[n]? = some a → S[n]? = some c → CellOk G w H a c
  nd : w.ρ.Nodup
  nf : ∀ a, a ∈ w.ρ → w.F a = none
theorem CellOk.there {G : Gam} {w : Wd} {H : Hp} {a : Addr} {c : Cell} (h : CellOk G w H a c) : ∃ o, H a = some o := by
  cases c with
  | dic kvs => obtain ⟨_, h, _⟩ := h; exact ⟨_, h⟩
  | lst xs => obtain ⟨_, h, _⟩ := h; exact ⟨_, h⟩
  | obj c fs => obtain ⟨_, _, _, _, h, _⟩ := h; exact ⟨_, h⟩
  | tab k => obtain ⟨_, h, _⟩ := h; exact ⟨_, h⟩
theorem CellOk.mono {G : Gam} {w w' : Wd} {H H' : Hp} {a : Addr} {c : Cell} (h : CellOk G w H a c) (le : w.le w') (e : H' a = H a) : CellOk G w' H' a c := by
  cases c with
  | dic kvs => obtain ⟨_, h, r⟩ := h; exact ⟨_, e.trans h, r.mono le⟩
  | lst xs => obtain ⟨_, h, r⟩ := h; exact ⟨_, e.trans h, r.mono le⟩
  | obj c fs => obtain ⟨_, _, _, q, h, r⟩ := h; exact ⟨_, _, _, q, e.trans h, r.mono le⟩
  | tab k => obtain ⟨_, h, r⟩ := h; exact ⟨_, e.trans h, G.tabM _ _ _ _ _ le.f r⟩
theorem FOk.rho {G : Gam} {w : Wd} {S : List Cell} {H : Hp} (h : FOk G w S H) {a : Addr} (ha : a ∈ w.ρ) : ∃ o, H a = some o := by
  obtain ⟨n, hn, e⟩ := List.getElem_of_mem ha
  have h1 : w.ρ[n]? = some a := by rw [List.getElem?_eq_getElem hn, e]
  have h2 : n < S.length := by rw [← h.len]; exact hn
  exact (h.cel n a _ h1 (List.getElem?_eq_getElem h2)).there
/-- from one state to a later one: what may have changed -/
structure Nx (w : Wd) (H : Hp) (w' : Wd) (H' : Hp) : Prop where
  le : w.le w'
  keep : ∀ a o, H a = some o → a ∉ w.ρ → H' a = some o
  newF : ∀ a, w'.F a ≠ none → w.F a ≠ none ∨ H a = none
  newR : ∀ a, a ∈ w'.ρ → a ∈ w.ρ ∨ H a = none
theorem Nx.refl (w : Wd) (H : Hp) : Nx w H w H := ⟨.refl w, fun _ _ h _ => h, fun _ h => .inl h, fun _ h => .inl h⟩
theorem Nx.trans {G : Gam} {w w1 w2 : Wd} {H H1 H2 : Hp} {S1 : List Cell} (a : Nx w H w1 H1) (f : FOk G w1 S1 H1) (b : Nx w1 H1 w2 H2) : Nx w H w2 H2 := by
  have back : ∀ x, H1 x = none → H x = none := fun x h => by
    cases e : H x with
    | none => rfl
    | some o =>
      by_cases hx : x ∈ w.ρ
      · obtain ⟨o', q⟩ := f.rho (a.le.r.subset hx)
        rw [q] at h; cases h
      · rw [a.keep x o e hx] at h; cases h
  refine ⟨a.le.trans b.le, fun x o e n => ?_, fun x h => ?_, fun x h => ?_⟩
  · refine b.keep x o (a.keep x o e n) fun q => ?_
    rcases a.newR x q with z | z
    · exact n z
    · rw [z] at e; cases e
  · rcases b.newF x h with z | z
    · exact a.newF x z
    · exact .inr (back x z)
  · rcases b.newR x h with z | z
    · exact a.newR x z
    · exact .inr (back x z)
def OwnOk (G : Gam) (w : Wd) (H : Hp) (a : Addr) : Sl → Prop
  | .ol xs => ∃ vs, H a = some (.lst vs) ∧ Reps G w vs xs
  | .od kvs => ∃ vs, H a = some (.dK vs) ∧ RepK G w vs kvs
  | .oi c fs => ∃ C dx vs, G.ct c = some C ∧ H a = some (.ins C dx vs) ∧ RepF G w vs fs
  | _ => False
/-- a frame's base: the world and the heap at its entry; objects that are set apart -/
structure Bs where
  B : Wd
  H : Hp
  γ : List (Addr × HO)
  me : Option Addr
/-- the state of a frame -/
structure Ok (G : Gam) (κ : Bs) (w : Wd) (s : DS) (σ : L2.St) (H : Hp) : Prop where
  fok : FOk G w s.st H
  nx : Nx κ.B κ.H w H
  len : s.sl.length = σ.length
  val : ∀ (i : Nat) (d : D), s.sl[i]? = some (.val d) → ∃ v, σ[i]? = some (some v) ∧ Rep G w v d
  own : ∀ (i : Nat) (x : Sl), s.sl[i]? = some x → x.own = true → ∃ a, σ[i]? = some (some (.ref a)) ∧ OwnOk G w H a x ∧ w.F a = none ∧ a ∉ w.ρ ∧ κ.H a = none
  ne : ∀ (i j : Nat) (x y : Sl) (a : Addr), s.sl[i]? = some x → s.sl[j]? = some y → x.own = true → y.own = true → σ[i]? = some (some (.ref a)) → σ[j]? = some (some (.ref a)) → i = j
  gam : ∀ p ∈ κ.γ, H p.1 = some p.2 ∧ w.F p.1 = none ∧ p.1 ∉ w.ρ ∧ κ.H p.1 = none ∧ ∀ (i : Nat) (x : Sl), s.sl[i]? = some x → x.own = true → σ[i]? ≠ some (some (.ref p.1))
  me : ∀ a, κ.me = some a → ∀ c fs, s.sl[0]? = some (.oi c fs) → σ[0]? = some (some (.ref a))
theorem OwnOk.there {G : Gam} {w : Wd} {H : Hp} {a : Addr} {c : Sl} (h : OwnOk G w H a c) : ∃ o, H a = some o := by
  cases c with
  | ol xs => obtain ⟨_, h, _⟩ := h; exact ⟨_, h⟩
  | od xs => obtain ⟨_, h, _⟩ := h; exact ⟨_, h⟩
  | oi c fs => obtain ⟨_, _, _, _, h, _⟩ := h; exact ⟨_, h⟩
  | un => exact h.elim
  | val _ => exact h.elim
theorem OwnOk.mono {G : Gam} {w w' : Wd} {H H' : Hp} {a : Addr} {c : Sl} (h : OwnOk G w H a c) (le : w.le w') (e : H' a = H a) : OwnOk G w' H' a c := by
  cases c with
  | ol xs => obtain ⟨_, h, r⟩ := h; exact ⟨_, e.trans h, r.mono le⟩
  | od xs => obtain ⟨_, h, r⟩ := h; exact ⟨_, e.trans h, r.mono le⟩
  | oi c fs => obtain ⟨_, _, _, q, h, r⟩ := h; exact ⟨_, _, _, q, e.trans h, r.mono le⟩
  | un => exact h.elim
  | val _ => exact h.elim
section
variable {G : Gam} {κ : Bs} {w w' : Wd} {s : DS} {σ : L2.St} {H H' : Hp} {S' : List Cell}
/-- a step that leaves the slots as they are -/
theorem Ok.step (h : Ok G κ w s σ H) (n : Nx w H w' H') (f : FOk G w' S' H') : Ok G κ w' ⟨s.sl, S'⟩ σ H' := by
  have nF : ∀ a o, H a = some o → w.F a = none → w'.F a = none := fun a ob he h3 => by
    cases q : w'.F a with
    | none => rfl
    | some o =>
      rcases n.newF a (by rw [q]; exact fun z => nomatch z) with z | z
      · exact absurd h3 z
      · rw [he] at z; cases z
  have nR : ∀ a o, H a = some o → a ∉ w.ρ → a ∉ w'.ρ := fun a ob he h4 q => by
    rcases n.newR a q with z | z
    · exact h4 z
    · rw [he] at z; cases z
  refine ⟨f, h.nx.trans h.fok n, h.len, fun i d e => ?_, fun i x e o => ?_, h.ne, fun p hp => ?_, h.me⟩
  · obtain ⟨v, h1, h2⟩ := h.val i d e
    exact ⟨v, h1, h2.mono n.le⟩
  · obtain ⟨a, h1, h2, h3, h4, h5⟩ := h.own i x e o
    obtain ⟨ob, he⟩ := h2.there
    exact ⟨a, h1, h2.mono n.le ((n.keep a ob he h4).trans he.symm), nF a ob he h3, nR a ob he h4, h5⟩
  · obtain ⟨h1, h2, h3, h4, h5⟩ := h.gam p hp
    exact ⟨n.keep _ _ h1 h3, nF _ _ h1 h2, nR _ _ h1 h3, h4, h5⟩
/-- a new frozen object -/
theorem FOk.alloc {S : List Cell} (h : FOk G w S H) {p : Addr} (hp : H p = none) (o : HO) : FOk G ⟨upd w.F p o, w.ρ⟩ S (upd H p o) ∧ Nx w H ⟨upd w.F p o, w.ρ⟩ (upd H p o) := by
  have le : w.le ⟨upd w.F p o, w.ρ⟩ := ⟨fun a u e => by
    show upd w.F p o a = some u
    rw [upd_ne (ne_of_none (h.sub a u e) hp)]
    exact e, List.prefix_refl _⟩
  have np : p ∉ w.ρ := fun q => by
    obtain ⟨o, e⟩ := h.rho q
    rw [hp] at e; cases e
  refine ⟨⟨fun a u e => ?_, h.len, fun n a c e1 e2 => ?_, h.nd, fun a ha => ?_⟩, ⟨le, fun a u e _ => ?_, fun a q => ?_, fun a q => .inl q⟩⟩
  · by_cases z : a = p
    · subst z
      have e : upd w.F a o a = some u := e
      rw [upd_same] at e ⊢
      exact e
    · have e : upd w.F p o a = some u := e
      rw [upd_ne z] at e ⊢
      exact h.sub a u e
  · refine (h.cel n a c e1 e2).mono le (upd_ne fun z => ?_)
    subst z
    exact np (List.mem_of_getElem? e1)
  · show upd w.F p o a = none
    rw [upd_ne (show a ≠ p from fun z => np (by rw [← z]; exact ha))]
    exact h.nf a ha
  · rw [upd_ne (ne_of_none e hp)]
    exact e
  · by_cases z : a = p
    · subst z; exact .inr hp
    · have q : upd w.F p o a ≠ none := q
      rw [upd_ne z] at q
      exact .inl q
theorem Ok.alloc (h : Ok G κ w s σ H) {p : Addr} (hp : H p = none) (o : HO) : w.le ⟨upd w.F p o, w.ρ⟩ ∧ Ok G κ ⟨upd w.F p o, w.ρ⟩ s σ (upd H p o) := by
  obtain ⟨f, n⟩ := h.fok.alloc hp o
  exact ⟨n.le, h.step n f⟩
end
end DL
set_option maxRecDepth 100000
set_option maxHeartbeats 4000000
set_option autoImplicit false
namespace DL
open PySem PySem.Spec PyProof.Rows L2
/-! ### what is wanted behind a piece of code -/
def RepX (G : Gam) (w : Wd) (c : Value) (dd : Option Addr) (x : Xc) : Prop :=
  ∃ C, G.ct x.cls = some C ∧ c = .ref C ∧ ((x.fs = [] ∧ dd = none) ∨ ∃ a vs, dd = some a ∧ w.F a = some (.xd vs) ∧ RepF G w vs x.fs)
section
variable (G : Gam) (W : WX)
def PostG {α β : Type} (rep : Wd → β → α → Prop) (κ : Bs) (w : Wd) (σ : L2.St) (r : Res DS α) (Q : β → Hp → Prop) : Prop := match r with
  | .ok d s' => ∀ w' v H', w.le w' → Ok G κ w' s' σ H' → rep w' v d → Q v H'
  | .exc x s' => ∀ w' c dd H', w.le w' → Ok G κ w' s' σ H' → RepX G w' c dd x → W c dd σ H'
  | .stuck => False
def tD (f : DE) : TE := fun σ H Q => ∃ κ w s, Ok G κ w s σ H ∧ PostG G W (Rep G) κ w σ (f s) Q
def tDT (f : DT) : TT := fun σ H Q => ∃ κ w s, Ok G κ w s σ H ∧ PostG G W (fun _ (v : Bool) d => v = d) κ w σ (f s) Q
def tDA (f : DA) : TA := fun σ H Q => ∃ κ w s, Ok G κ w s σ H ∧ PostG G W (Reps G) κ w σ (f s) Q
def PostS (κ : Bs) (w : Wd) (r : Res DS Out) (N : Ends) : Prop := match r with
  | .ok .nx s' => ∀ w' σ' H', w.le w' → Ok G κ w' s' σ' H' → N.nx σ' H'
  | .ok .bk s' => ∀ w' σ' H', w.le w' → Ok G κ w' s' σ' H' → N.bk σ' H'
  | .ok .ct s' => ∀ w' σ' H', w.le w' → Ok G κ w' s' σ' H' → N.ct σ' H'
  | .ok (.rt d) s' => ∀ w' σ' v H', w.le w' → Ok G κ w' s' σ' H' → Rep G w' v d → N.rt v H'
  | .exc x s' => ∀ w' σ' c dd H', w.le w' → Ok G κ w' s' σ' H' → RepX G w' c dd x → W c dd σ' H'
  | .stuck => False
def tDS (f : DStm) : TS := fun N σ H => ∃ κ w s, Ok G κ w s σ H ∧ PostS G W κ w (f s) N
end
section
variable {G : Gam} {W : WX} {α β γ δ : Type} {rep : Wd → β → α → Prop} {rep' : Wd → δ → γ → Prop} {κ : Bs} {w w1 : Wd} {σ : L2.St}
theorem PostG.mono {r : Res DS α} {Q : β → Hp → Prop} (le : w.le w1) (h : PostG G W rep κ w σ r Q) : PostG G W rep κ w1 σ r Q := by
  cases r with
  | ok d s' => exact fun w' v H' l o r => h w' v H' (le.trans l) o r
  | exc x s' => exact fun w' c dd H' l o r => h w' c dd H' (le.trans l) o r
  | stuck => exact h
theorem PostG.imp {r : Res DS α} {Q Q' : β → Hp → Prop} (h : PostG G W rep κ w σ r Q) (k : ∀ v H, Q v H → Q' v H) : PostG G W rep κ w σ r Q' := by
  cases r with
  | ok d s' => exact fun w' v H' l o r => k _ _ (h w' v H' l o r)
  | exc x s' => exact h
  | stuck => exact h
/-- behind the first of two -/
theorem PostG.bind {r : Res DS α} {k : α → DS → Res DS γ} {Q : δ → Hp → Prop} (h : PostG G W rep' κ w σ (r.bind k) Q) :
    PostG G W rep κ w σ r (fun v H1 => ∃ d s1 w1, w.le w1 ∧ Ok G κ w1 s1 σ H1 ∧ rep w1 v d ∧ PostG G W rep' κ w1 σ (k d s1) Q) := by
  cases r with
  | ok d s' => exact fun w' v H' l o r => ⟨d, s', w', l, o, r, PostG.mono l h⟩
  | exc x s' => exact h
  | stuck => exact h
theorem PostS.mono {r : Res DS Out} {N : Ends} (le : w.le w1) (h : PostS G W κ w r N) : PostS G W κ w1 r N := by
  cases r with
  | ok o s' =>
    cases o with
    | nx => exact fun w' σ' H' l o => h w' σ' H' (le.trans l) o
    | bk => exact fun w' σ' H' l o => h w' σ' H' (le.trans l) o
    | ct => exact fun w' σ' H' l o => h w' σ' H' (le.trans l) o
    | rt d => exact fun w' σ' v H' l o r => h w' σ' v H' (le.trans l) o r
  | exc x s' => exact fun w' σ' c dd H' l o r => h w' σ' c dd H' (le.trans l) o r
  | stuck => exact h
/-- an expression, then a statement's end -/
theorem PostG.bindS {r : Res DS α} {k : α → DS → Res DS Out} {N : Ends} (h : PostS G W κ w (r.bind k) N) :
    PostG G W rep κ w σ r (fun v H1 => ∃ d s1 w1, w.le w1 ∧ Ok G κ w1 s1 σ H1 ∧ rep w1 v d ∧ PostS G W κ w1 (k d s1) N) := by
  cases r with
  | ok d s' => exact fun w' v H' l o r => ⟨d, s', w', l, o, r, PostS.mono l h⟩
  | exc x s' => exact fun w' c dd H' l o r => h w' σ c dd H' l o r
  | stuck => exact h
end
theorem _root_.L2.PE.imp {X : Cx} {e : Expr} {t t' : TE} (h : PE X e t) (k : ∀ σ H Q, t' σ H Q → t σ H Q) : PE X e t' := ⟨fun pins s σ H Q I q => h.run pins s σ H Q I (k σ H Q q)⟩
theorem _root_.L2.PT.imp {X : Cx} {e : Expr} {t t' : TT} (h : PT X e t) (k : ∀ σ H Q, t' σ H Q → t σ H Q) : PT X e t' := ⟨fun pins s σ H Q I q => h.run pins s σ H Q I (k σ H Q q)⟩
theorem _root_.L2.PA.imp {X : Cx} {e : List Expr} {t t' : TA} (h : PA X e t) (k : ∀ σ H Q, t' σ H Q → t σ H Q) : PA X e t' := ⟨fun pos pins s σ H Q I q => h.run pos pins s σ H Q I (k σ H Q q)⟩
theorem _root_.L2.PS.imp {X : Cx} {e : Stmt} {t t' : TS} (h : PS X e t) (k : ∀ D σ H, t' D σ H → t D σ H) : PS X e t' := ⟨fun pins s σ H D I q => h.run pins s σ H D I (k D σ H q)⟩
theorem _root_.L2.PSs.imp {X : Cx} {e : List Stmt} {t t' : TS} (h : PSs X e t) (k : ∀ D σ H, t' D σ H → t D σ H) : PSs X e t' := ⟨fun pins s σ H D I q => h.run pins s σ H D I (k D σ H q)⟩
abbrev PD (G : Gam) (W : WX) (X : Cx) (e : Expr) (f : DE) : Prop := PE X e (tD G W f)
abbrev PDT (G : Gam) (W : WX) (X : Cx) (e : Expr) (f : DT) : Prop := PT X e (tDT G W f)
abbrev PDA (G : Gam) (W : WX) (X : Cx) (es : List Expr) (f : DA) : Prop := PA X es (tDA G W f)
abbrev PDS (G : Gam) (W : WX) (X : Cx) (st : Stmt) (f : DStm) : Prop := PS X st (tDS G W f)
abbrev PDSs (G : Gam) (W : WX) (X : Cx) (st : List Stmt) (f : DStm) : Prop := PSs X st (tDS G W f)
section
variable {G : Gam} {W : WX} {X : Cx}
/-! ### constants, names -/
def eC (d : D) : DE := fun s => .ok d s
theorem pd_c {e : Expr} {v : V} {d : D} (h : PE X e (tC v)) (r : ∀ w, Rep G w v d) : PD G W X e (eC d) :=
  h.imp fun σ H Q ⟨κ, w, s, ok, q⟩ => q w v H (.refl w) ok (r w)
theorem pd_int {i : Int} {j : Nat} {pos : Pos} : PD G W X (.Constant (.int i) j pos) (eC (.int i)) := pd_c pe_int fun _ => .int i
theorem pd_bl {b : Bool} {j : Nat} {pos : Pos} : PD G W X (.Constant (.bool b) j pos) (eC (.bl b)) := pd_c pe_bl fun _ => .bl b
theorem pd_non {j : Nat} {pos : Pos} : PD G W X (.Constant .none j pos) (eC .non) := pd_c pe_non fun _ => .non
theorem pd_str {x : Str} {l : Nm} {j : Nat} {pos : Pos} (h : x = nm l) : PD G W X (.Constant (.str x) j pos) (eC (.str l)) := pd_c pe_str fun _ => by rw [h]; exact .str l
theorem pd_glob {x : Str} {v : V} {u : Value} {d : D} {pos : Pos} (hg : Gl X x) (hm : X.mg x = some u) (r : RelV v u) (rd : ∀ w, Rep G w v d) (hd : (x == ("__debug__" : Str)) = false := by decide) : PD G W X (.Name x pos) (eC d) :=
  pd_c (pe_glob hg hm r hd) rd
def eVar (i : Nat) : DE := fun s => match s.sl[i]? with
  | some (.val d) => .ok d s
  | some (.ol xs) => .ok (.lst xs) ⟨s.sl.set i (.val (.lst xs)), s.st⟩
  | some (.od kvs) => .ok (.dic kvs) ⟨s.sl.set i (.val (.dic kvs)), s.st⟩
  | some (.oi c fs) => .ok (.ins c fs) ⟨s.sl.set i (.val (.ins c fs)), s.st⟩
  | _ => .stuck
theorem Ok.freeze {κ : Bs} {w : Wd} {s : DS} {σ : L2.St} {H : Hp} (h : Ok G κ w s σ H) {i : Nat} {x : Sl} {a : Addr} {o : HO} {d : D} (hx : s.sl[i]? = some x) (own : x.own = true) (ha : σ[i]? = some (some (.ref a)))
    (ho : H a = some o) (hd : ∀ w' : Wd, w.le w' → w'.F a = some o → Rep G w' (.ref a) d) :
    w.le ⟨upd w.F a o, w.ρ⟩ ∧ Ok G κ ⟨upd w.F a o, w.ρ⟩ ⟨s.sl.set i (.val d), s.st⟩ σ H := by
  obtain ⟨a', h1, h2, h3, h4, h5⟩ := h.own i x hx own
  rw [ha] at h1
  cases h1
  have le : w.le ⟨upd w.F a o, w.ρ⟩ := ⟨fun b u e => by
    show upd w.F a o b = some u
    rw [upd_ne (ne_of_none e h3)]
    exact e, List.prefix_refl _⟩
  have hil : i < s.sl.length := (List.getElem?_eq_some_iff.mp hx).1
  have sub : ∀ (b : Addr) (u : HO), upd w.F a o b = some u → H b = some u := fun b u e => by
    by_cases z : b = a
    · subst z
      rw [upd_same] at e
      cases e
      exact ho
    · rw [upd_ne z] at e
      exact h.fok.sub b u e
  have fok : FOk G ⟨upd w.F a o, w.ρ⟩ s.st H := ⟨sub, h.fok.len, fun n b c e1 e2 => (h.fok.cel n b c e1 e2).mono le rfl, h.fok.nd, fun b hb => by
    show upd w.F a o b = none
    rw [upd_ne (show b ≠ a from fun z => h4 (by rw [← z]; exact hb))]
    exact h.fok.nf b hb⟩
  refine ⟨le, ⟨fok, ⟨h.nx.le.trans le, h.nx.keep, fun b q => ?_, h.nx.newR⟩, by rw [List.length_set]; exact h.len, fun j e hj => ?_, fun j y hj oy => ?_, fun j k y z b hj hk oy oz e1 e2 => ?_, fun p hp => ?_, fun b hb c fs e => ?_⟩⟩
  · by_cases z : b = a
    · subst z; exact .inr h5
    · have q : upd w.F a o b ≠ none := q
      rw [upd_ne z] at q
      exact h.nx.newF b q
  · by_cases z : j = i
    · subst z
      rw [List.getElem?_set_self hil] at hj
      cases hj
      exact ⟨_, ha, hd _ le upd_same⟩
    · rw [List.getElem?_set_ne (Ne.symm z)] at hj
      obtain ⟨v, q1, q2⟩ := h.val j e hj
      exact ⟨v, q1, q2.mono le⟩
  · by_cases z : j = i
    · subst z
      rw [List.getElem?_set_self hil] at hj
      cases hj
      cases oy
    · rw [List.getElem?_set_ne (Ne.symm z)] at hj
      obtain ⟨b, q1, q2, q3, q4, q5⟩ := h.own j y hj oy
      refine ⟨b, q1, q2.mono le rfl, ?_, q4, q5⟩
      show upd w.F a o b = none
      rw [upd_ne (show b ≠ a from fun e => z (h.ne j i y x b hj hx oy own q1 (by rw [e]; exact ha)))]
      exact q3
  · have nj : j ≠ i := fun z => by
      subst z
      rw [List.getElem?_set_self hil] at hj
      cases hj
      cases oy
    have nk : k ≠ i := fun z => by
      subst z
      rw [List.getElem?_set_self hil] at hk
      cases hk
      cases oz
    rw [List.getElem?_set_ne (Ne.symm nj)] at hj
    rw [List.getElem?_set_ne (Ne.symm nk)] at hk
    exact h.ne j k y z b hj hk oy oz e1 e2
  · obtain ⟨q1, q2, q3, q4, q5⟩ := h.gam p hp
    refine ⟨q1, ?_, q3, q4, fun j y hj oy => ?_⟩
    · show upd w.F a o p.1 = none
      rw [upd_ne (show p.1 ≠ a from fun e => q5 i x hx own (by rw [ha, e]))]
      exact q2
    · have nj : j ≠ i := fun z => by
        subst z
        rw [List.getElem?_set_self hil] at hj
        cases hj
        cases oy
      rw [List.getElem?_set_ne (Ne.symm nj)] at hj
      exact q5 j y hj oy
  · by_cases z : i = 0
    · subst z
      rw [List.getElem?_set_self hil] at e
      cases e
    · rw [List.getElem?_set_ne z] at e
      exact h.me b hb c fs e
theorem pd_var {i : Nat} {x : Str} {pos : Pos} (h : PE X (.Name x pos) (tVar i)) : PD G W X (.Name x pos) (eVar i) := h.imp fun σ H Q ⟨κ, w, s, ok, q⟩ => by
  unfold eVar at q
  cases e : s.sl[i]? with
  | none => rw [e] at q; exact q.elim
  | some x =>
    rw [e] at q
    cases x with
    | un => exact q.elim
    | val d =>
      obtain ⟨v, h1, h2⟩ := ok.val i d e
      exact ⟨v, h1, q w v H (.refl w) ok h2⟩
    | ol xs =>
      obtain ⟨a, h1, ⟨vs, h2, h3⟩, _⟩ := ok.own i _ e rfl
      obtain ⟨le, ok'⟩ := ok.freeze (d := .lst xs) e rfl h1 h2 fun w' l f => .lst f (h3.mono l)
      exact ⟨_, h1, q _ _ H le ok' (.lst upd_same (h3.mono le))⟩
    | od xs =>
      obtain ⟨a, h1, ⟨vs, h2, h3⟩, _⟩ := ok.own i _ e rfl
      obtain ⟨le, ok'⟩ := ok.freeze (d := .dic xs) e rfl h1 h2 fun w' l f => .dic f (h3.mono l)
      exact ⟨_, h1, q _ _ H le ok' (.dic upd_same (h3.mono le))⟩
    | oi c fs =>
      obtain ⟨a, h1, ⟨C, dx, vs, hC, h2, h3⟩, _⟩ := ok.own i _ e rfl
      obtain ⟨le, ok'⟩ := ok.freeze (d := .ins c fs) e rfl h1 h2 fun w' l f => .ins hC f (h3.mono l)
      exact ⟨_, h1, q _ _ H le ok' (.ins hC upd_same (h3.mono le))⟩
/-! ### operators -/
def eOp2 (o : D → D → Option D) (fa fb : DE) : DE := fun s => (fa s).bind fun x s1 => (fb s1).bind fun y s2 => match o x y with
  | some d => .ok d s2
  | none => .stuck
/-- an operator by data -/
def OpD (G : Gam) (X : Cx) (f : Value → Value → Sem Value) (o : D → D → Option D) : Prop := ∃ r, OpR X f r ∧ ∀ (κ : Bs) (w : Wd) (s : DS) (σ : L2.St) (H : Hp) (x y : V) (dx dy d : D) (Q : VK),
  Ok G κ w s σ H → Rep G w x dx → Rep G w y dy → o dx dy = some d → (∀ w' v H', w.le w' → Ok G κ w' s σ H' → Rep G w' v d → Q v H') → r x y H Q
theorem op2 {r : R2} {o : D → D → Option D} {fa fb : DE} {σ : L2.St} {H : Hp} {Q : VK}
    (hr : ∀ (κ : Bs) (w : Wd) (s : DS) (σ : L2.St) (H : Hp) (x y : V) (dx dy d : D) (Q : VK), Ok G κ w s σ H → Rep G w x dx → Rep G w y dy → o dx dy = some d → (∀ w' v H', w.le w' → Ok G κ w' s σ H' → Rep G w' v d → Q v H') → r x y H Q)
    (h : tD G W (eOp2 o fa fb) σ H Q) : tOp r (tD G W fa) (tD G W fb) σ H Q := by
  obtain ⟨κ, w, s, ok, q⟩ := h
  refine ⟨κ, w, s, ok, (PostG.bind q).imp fun v H1 ⟨d, s1, w1, le, ok1, r1, q1⟩ => ?_⟩
  refine ⟨κ, w1, s1, ok1, (PostG.bind q1).imp fun v2 H2 ⟨d2, s2, w2, le2, ok2, r2, q2⟩ => ?_⟩
  cases e : o d d2 with
  | none => rw [e] at q2; exact q2.elim
  | some z => rw [e] at q2; exact hr κ w2 s2 σ H2 v v2 d d2 z Q ok2 (r1.mono le2) r2 e q2
theorem pd_op {op : Operator} {o : D → D → Option D} {a b : Expr} {fa fb : DE} {pos : Pos} (ho : OpD G X (binaryOp op) o) (ha : PD G W X a fa) (hb : PD G W X b fb) : PD G W X (.BinOp a op b pos) (eOp2 o fa fb) := by
  obtain ⟨r, h1, h2⟩ := ho
  exact (pe_op h1 ha hb).imp fun σ H Q h => op2 h2 h
theorem pd_cmp {op : CmpOp} {o : D → D → Option D} {a b : Expr} {fa fb : DE} {pos : Pos} (ho : OpD G X (compareOp op) o) (ha : PD G W X a fa) (hb : PD G W X b fb) (hm : behindInMarks op b = false) : PD G W X (.Compare a [op] [b] pos) (eOp2 o fa fb) := by
  obtain ⟨r, h1, h2⟩ := ho
  exact (pe_cmpR h1 ha hb hm).imp fun σ H Q h => op2 h2 h
/-- a value that is a bool, as a test -/
def eB (f : DE) : DT := fun s => (f s).bind fun d s1 => match d with
  | .bl b => .ok b s1
  | _ => .stuck
theorem tB_of {f : DE} {σ : L2.St} {H : Hp} {Q : Bool → Hp → Prop} (h : tDT G W (eB f) σ H Q) : tD G W f σ H fun x H1 => ∃ c, x = .bl c ∧ Q c H1 := by
  obtain ⟨κ, w, s, ok, q⟩ := h
  refine ⟨κ, w, s, ok, (PostG.bind q).imp fun v H1 ⟨d, s1, w1, le, ok1, r1, q1⟩ => ?_⟩
  cases r1 with
  | bl b => exact ⟨b, rfl, q1 w1 b H1 (.refl _) ok1 rfl⟩
  | _ => exact q1.elim
theorem ptd_val {e : Expr} {f : DE} (h : PD G W X e f) (he : ∀ whole, isTrue e X.env whole = (do let v ← whole; standAt e.pos; holding [v] (truthy v)) := by intro _; rfl) : PDT G W X e (eB f) :=
  (pt_val h he).imp fun σ H Q q => tB_of q
theorem ptd_cmp {op : CmpOp} {o : D → D → Option D} {a b : Expr} {fa fb : DE} {pos : Pos} (ho : OpD G X (compareOp op) o) (ha : PD G W X a fa) (hb : PD G W X b fb) (hm : behindInMarks op b = false) : PDT G W X (.Compare a [op] [b] pos) (eB (eOp2 o fa fb)) := by
  obtain ⟨r, h1, h2⟩ := ho
  exact (pt_cmpR h1 ha hb hm).imp fun σ H Q h => op2 h2 (tB_of h)
/-! ### and, or, not, if -/
def bAnd (f g : DT) : DT := fun s => (f s).bind fun b s1 => if b = true then g s1 else .ok false s1
def bOr (f g : DT) : DT := fun s => (f s).bind fun b s1 => if b = true then .ok true s1 else g s1
def bNot (f : DT) : DT := fun s => (f s).bind fun b s1 => .ok (!b) s1
abbrev PDW (G : Gam) (W : WX) (X : Cx) (e : Expr) (f : DT) : Prop := PW X e (tDT G W f)
theorem _root_.L2.PW.imp {X : Cx} {e : Expr} {t t' : TT} (h : PW X e t) (k : ∀ σ H Q, t' σ H Q → t σ H Q) : PW X e t' := ⟨fun wh pins s σ H Q I q => h.run wh pins s σ H Q I (k σ H Q q)⟩
theorem pwd_and1 {a : Expr} {f : DT} {pos : Pos} (h : PDT G W X a f) : PDW G W X (.BoolOp .And [a] pos) f := pw_and1 h
theorem pwd_or1 {a : Expr} {f : DT} {pos : Pos} (h : PDT G W X a f) : PDW G W X (.BoolOp .Or [a] pos) f := pw_or1 h
theorem pwd_and {a b : Expr} {r : List Expr} {f g : DT} {pos : Pos} (h : PDT G W X a f) (k : PDW G W X (.BoolOp .And (b :: r) pos) g) : PDW G W X (.BoolOp .And (a :: b :: r) pos) (bAnd f g) :=
  (pw_and h k).imp fun σ H Q ⟨κ, w, s, ok, q⟩ => ⟨κ, w, s, ok, (PostG.bind q).imp fun v H1 ⟨d, s1, w1, le, ok1, r1, q1⟩ => by
    subst r1
    cases v with
    | true => exact ⟨κ, w1, s1, ok1, q1⟩
    | false => exact q1 w1 false H1 (.refl _) ok1 rfl⟩
theorem pwd_or {a b : Expr} {r : List Expr} {f g : DT} {pos : Pos} (h : PDT G W X a f) (k : PDW G W X (.BoolOp .Or (b :: r) pos) g) : PDW G W X (.BoolOp .Or (a :: b :: r) pos) (bOr f g) :=
  (pw_or h k).imp fun σ H Q ⟨κ, w, s, ok, q⟩ => ⟨κ, w, s, ok, (PostG.bind q).imp fun v H1 ⟨d, s1, w1, le, ok1, r1, q1⟩ => by
    subst r1
    cases v with
    | false => exact ⟨κ, w1, s1, ok1, q1⟩
    | true => exact q1 w1 true H1 (.refl _) ok1 rfl⟩
theorem ptd_not {a : Expr} {f : DT} {pos : Pos} (h : PDT G W X a f) : PDT G W X (.UnaryOp .Not a pos) (bNot f) :=
  (pt_not h).imp fun σ H Q ⟨κ, w, s, ok, q⟩ => ⟨κ, w, s, ok, (PostG.bind q).imp fun v H1 ⟨d, s1, w1, le, ok1, r1, q1⟩ => by
    subst r1
    exact q1 w1 _ H1 (.refl _) ok1 rfl⟩
/-- as values -/
def eAnd (f g : DE) : DE := fun s => (f s).bind fun d s1 => match d with
  | .bl b => if b = true then g s1 else .ok (.bl false) s1
  | _ => .stuck
def eOr (f g : DE) : DE := fun s => (f s).bind fun d s1 => match d with
  | .bl b => if b = true then .ok (.bl true) s1 else g s1
  | _ => .stuck
def eNot (f : DE) : DE := fun s => (f s).bind fun d s1 => match d with
  | .bl b => .ok (.bl (!b)) s1
  | _ => .stuck
theorem pd_one {op : PySem.BoolOp} {a : Expr} {f : DE} {pos : Pos} (h : PD G W X a f) : PD G W X (.BoolOp op [a] pos) f := pe_one h
theorem pd_and {a b : Expr} {r : List Expr} {f g : DE} {pos : Pos} (h : PD G W X a f) (k : PD G W X (.BoolOp .And (b :: r) pos) g) : PD G W X (.BoolOp .And (a :: b :: r) pos) (eAnd f g) :=
  (pe_and h k).imp fun σ H Q ⟨κ, w, s, ok, q⟩ => ⟨κ, w, s, ok, (PostG.bind q).imp fun v H1 ⟨d, s1, w1, le, ok1, r1, q1⟩ => by
    cases r1 with
    | bl b =>
      refine ⟨b, rfl, ?_⟩
      cases b with
      | true => exact ⟨κ, w1, s1, ok1, q1⟩
      | false => exact q1 w1 _ H1 (.refl _) ok1 (.bl false)
    | _ => exact q1.elim⟩
theorem pd_or {a b : Expr} {r : List Expr} {f g : DE} {pos : Pos} (h : PD G W X a f) (k : PD G W X (.BoolOp .Or (b :: r) pos) g) : PD G W X (.BoolOp .Or (a :: b :: r) pos) (eOr f g) :=
  (pe_or h k).imp fun σ H Q ⟨κ, w, s, ok, q⟩ => ⟨κ, w, s, ok, (PostG.bind q).imp fun v H1 ⟨d, s1, w1, le, ok1, r1, q1⟩ => by
    cases r1 with
    | bl b =>
      refine ⟨b, rfl, ?_⟩
      cases b with
      | false => exact ⟨κ, w1, s1, ok1, q1⟩
      | true => exact q1 w1 _ H1 (.refl _) ok1 (.bl true)
    | _ => exact q1.elim⟩
theorem pd_not {a : Expr} {f : DE} {pos : Pos} (h : PD G W X a f) : PD G W X (.UnaryOp .Not a pos) (eNot f) :=
  (pe_not h).imp fun σ H Q ⟨κ, w, s, ok, q⟩ => ⟨κ, w, s, ok, (PostG.bind q).imp fun v H1 ⟨d, s1, w1, le, ok1, r1, q1⟩ => by
    cases r1 with
    | bl b => exact ⟨b, rfl, q1 w1 _ H1 (.refl _) ok1 (.bl _)⟩
    | _ => exact q1.elim⟩
def eIf (c : DT) (f g : DE) : DE := fun s => (c s).bind fun b s1 => if b = true then f s1 else g s1
theorem pd_ifExp {c a b : Expr} {fc : DT} {f g : DE} {pos : Pos} (hc : PDT G W X c fc) (h : PD G W X a f) (k : PD G W X b g) : PD G W X (.IfExp c a b pos) (eIf fc f g) :=
  (pe_ifExp hc h k).imp fun σ H Q ⟨κ, w, s, ok, q⟩ => ⟨κ, w, s, ok, (PostG.bind q).imp fun v H1 ⟨d, s1, w1, le, ok1, r1, q1⟩ => by
    subst r1
    cases v with
    | true => exact ⟨κ, w1, s1, ok1, q1⟩
    | false => exact ⟨κ, w1, s1, ok1, q1⟩⟩
/-! ### argument lists -/
def aNil : DA := fun s => .ok [] s
def aCons (f : DE) (g : DA) : DA := fun s => (f s).bind fun d s1 => (g s1).bind fun ds s2 => .ok (d :: ds) s2
theorem pda_nil : PDA G W X [] aNil := pa_nil.imp fun σ H Q ⟨κ, w, s, ok, q⟩ => q w [] H (.refl _) ok .nil
theorem pda_cons {e : Expr} {es : List Expr} {f : DE} {g : DA} (h : PD G W X e f) (k : PDA G W X es g) (hs : starEach (e :: es) X.env = (false, eval e X.env) :: starEach es X.env := by rfl) : PDA G W X (e :: es) (aCons f g) :=
  (pa_cons h k hs).imp fun σ H Q ⟨κ, w, s, ok, q⟩ => ⟨κ, w, s, ok, (PostG.bind q).imp fun v H1 ⟨d, s1, w1, le, ok1, r1, q1⟩ =>
    ⟨κ, w1, s1, ok1, (PostG.bind q1).imp fun v2 H2 ⟨d2, s2, w2, le2, ok2, r2, q2⟩ => q2 w2 _ H2 (.refl _) ok2 (.cons (r1.mono le2) r2)⟩⟩
/-! ### tuples, lists -/
def eTup (g : DA) : DE := fun s => (g s).bind fun ds s1 => if ds.length ≤ 1000 then .ok (.tup ds) s1 else .stuck
theorem sz1000 {n : Nat} (h : n ≤ 1000) : n ≤ sizeLine := Nat.le_of_lt (small1000 h)
theorem pd_tup {es : List Expr} {k : Nat} {g : DA} {pos : Pos} (h : PDA G W X es g) : PD G W X (.Tuple es k pos) (eTup g) :=
  (pe_tup h).imp fun σ H Q ⟨κ, w, s, ok, q⟩ => ⟨κ, w, s, ok, (PostG.bind q).imp fun v H1 ⟨d, s1, w1, le, ok1, r1, q1⟩ => by
    by_cases c : d.length ≤ 1000
    · rw [if_pos c] at q1
      refine ⟨by rw [r1.length]; exact sz1000 c, fun p hp => ?_⟩
      obtain ⟨le2, ok2⟩ := ok1.alloc hp (.tup v)
      exact q1 _ _ _ le2 ok2 (.tup (.inl (.inl upd_same)) (r1.mono le2))
    · rw [if_neg c] at q1
      exact q1.elim⟩
end
end DL
set_option maxRecDepth 100000
set_option maxHeartbeats 4000000
set_option autoImplicit false
namespace DL
open PySem PySem.Spec PyProof.Rows L2
section
variable {G : Gam} {W : WX} {X : Cx} {κ : Bs} {w : Wd} {s : DS} {σ : L2.St} {H : Hp}
/-- an object set apart -/
abbrev Bs.plus (κ : Bs) (a : Addr) (o : HO) : Bs := ⟨κ.B, κ.H, (a, o) :: κ.γ, κ.me⟩
theorem Ok.back (h : Ok G κ w s σ H) {p : Addr} (hp : H p = none) : κ.H p = none := by
  cases e : κ.H p with
  | none => rfl
  | some o =>
    by_cases hx : p ∈ κ.B.ρ
    · obtain ⟨o', q⟩ := h.fok.rho (h.nx.le.r.subset hx)
      rw [q] at hp; cases hp
    · rw [h.nx.keep p o e hx] at hp; cases hp
/-- a new object, set apart -/
theorem Ok.fresh (h : Ok G κ w s σ H) {p : Addr} (hp : H p = none) (o : HO) : Ok G (κ.plus p o) w s σ (upd H p o) := by
  have ne : ∀ {a : Addr} {u : HO}, H a = some u → a ≠ p := fun e => ne_of_none e hp
  have nF : w.F p = none := by
    cases e : w.F p with
    | none => rfl
    | some u => rw [h.fok.sub p u e] at hp; cases hp
  have nR : p ∉ w.ρ := fun q => by
    obtain ⟨u, e⟩ := h.fok.rho q
    rw [e] at hp; cases hp
  refine ⟨⟨fun a u e => ?_, h.fok.len, fun n a c e1 e2 => ?_, h.fok.nd, h.fok.nf⟩, ⟨h.nx.le, fun a u e n => ?_, h.nx.newF, h.nx.newR⟩, h.len, h.val, fun i x e o' => ?_, h.ne, fun q hq => ?_, h.me⟩
  · rw [upd_ne (ne (h.fok.sub a u e))]
    exact h.fok.sub a u e
  · obtain ⟨u, q⟩ := (h.fok.cel n a c e1 e2).there
    exact (h.fok.cel n a c e1 e2).mono (.refl _) (upd_ne (ne q))
  · rw [upd_ne (ne (h.nx.keep a u e n))]
    exact h.nx.keep a u e n
  · obtain ⟨a, h1, h2, h3, h4, h5⟩ := h.own i x e o'
    obtain ⟨u, q⟩ := h2.there
    exact ⟨a, h1, h2.mono (.refl _) (upd_ne (ne q)), h3, h4, h5⟩
  · rcases List.mem_cons.mp hq with rfl | hq
    · refine ⟨upd_same, nF, nR, h.back hp, fun i x e o' z => ?_⟩
      obtain ⟨a, h1, h2, _⟩ := h.own i x e o'
      rw [h1] at z
      cases z
      obtain ⟨u, q⟩ := h2.there
      exact ne q rfl
    · obtain ⟨h1, h2⟩ := h.gam q hq
      exact ⟨by rw [upd_ne (ne h1)]; exact h1, h2⟩
theorem Ok.unplus {a : Addr} {o : HO} (h : Ok G (κ.plus a o) w s σ H) : Ok G κ w s σ H := ⟨h.fok, h.nx, h.len, h.val, h.own, h.ne, fun p hp => h.gam p (List.mem_cons_of_mem _ hp), h.me⟩
/-- what was set apart is frozen (its address is not set apart twice) -/
theorem Ok.frz {a : Addr} {o : HO} (h : Ok G (κ.plus a o) w s σ H) (hγ : ∀ p ∈ κ.γ, p.1 ≠ a) : w.le ⟨upd w.F a o, w.ρ⟩ ∧ Ok G κ ⟨upd w.F a o, w.ρ⟩ s σ H := by
  obtain ⟨ho, h3, h4, h5, h6⟩ := h.gam (a, o) List.mem_cons_self
  have le : w.le ⟨upd w.F a o, w.ρ⟩ := ⟨fun b u e => by
    show upd w.F a o b = some u
    rw [upd_ne (ne_of_none e h3)]
    exact e, List.prefix_refl _⟩
  have sub : ∀ (b : Addr) (u : HO), upd w.F a o b = some u → H b = some u := fun b u e => by
    by_cases z : b = a
    · subst z
      rw [upd_same] at e
      cases e
      exact ho
    · rw [upd_ne z] at e
      exact h.fok.sub b u e
  refine ⟨le, ⟨⟨sub, h.fok.len, fun n b c e1 e2 => (h.fok.cel n b c e1 e2).mono le rfl, h.fok.nd, fun b hb => ?_⟩, ⟨h.nx.le.trans le, h.nx.keep, fun b q => ?_, h.nx.newR⟩, h.len, fun i d e => ?_, fun i x e o' => ?_, h.ne, fun p hp => ?_, h.me⟩⟩
  · show upd w.F a o b = none
    rw [upd_ne (show b ≠ a from fun z => h4 (by rw [← z]; exact hb))]
    exact h.fok.nf b hb
  · by_cases z : b = a
    · subst z; exact .inr h5
    · have q : upd w.F a o b ≠ none := q
      rw [upd_ne z] at q
      exact h.nx.newF b q
  · obtain ⟨v, h1, h2⟩ := h.val i d e
    exact ⟨v, h1, h2.mono le⟩
  · obtain ⟨b, q1, q2, q3, q4, q5⟩ := h.own i x e o'
    refine ⟨b, q1, q2.mono le rfl, ?_, q4, q5⟩
    show upd w.F a o b = none
    rw [upd_ne (show b ≠ a from fun z => h6 i x e o' (by rw [q1, z]))]
    exact q3
  · obtain ⟨q1, q2, q3⟩ := h.gam p (List.mem_cons_of_mem _ hp)
    refine ⟨q1, ?_, q3⟩
    show upd w.F a o p.1 = none
    rw [upd_ne (hγ p hp)]
    exact q2
/-- a slot is set -/
theorem Ok.setVal (h : Ok G κ w s σ H) {v : V} {d : D} (r : Rep G w v d) (i : Nat) : Ok G κ w ⟨s.sl.set i (.val d), s.st⟩ (σ.set i (some v)) H := by
  have back : ∀ (j : Nat) (x : Sl), (s.sl.set i (.val d))[j]? = some x → (j = i ∧ x = .val d ∧ i < s.sl.length) ∨ (j ≠ i ∧ s.sl[j]? = some x) := fun j x e => by
    by_cases z : j = i
    · subst z
      have hl : j < s.sl.length := by
        have := (List.getElem?_eq_some_iff.mp e).1
        rwa [List.length_set] at this
      rw [List.getElem?_set_self hl] at e
      exact .inl ⟨rfl, (Option.some.inj e).symm, hl⟩
    · rw [List.getElem?_set_ne (Ne.symm z)] at e
      exact .inr ⟨z, e⟩
  refine ⟨h.fok, h.nx, by rw [List.length_set, List.length_set]; exact h.len, fun j e hj => ?_, fun j x hj o => ?_, fun j k x y a hj hk ox oy e1 e2 => ?_, fun p hp => ?_, fun b hb c fs e => ?_⟩
  · rcases back j _ hj with ⟨rfl, q, hl⟩ | ⟨z, hj⟩
    · cases q
      exact ⟨v, List.getElem?_set_self (by rw [← h.len]; exact hl), r⟩
    · rw [List.getElem?_set_ne (Ne.symm z)]
      exact h.val j e hj
  · rcases back j _ hj with ⟨rfl, q, hl⟩ | ⟨z, hj⟩
    · subst q; cases o
    · rw [List.getElem?_set_ne (Ne.symm z)]
      exact h.own j x hj o
  · rcases back j _ hj with ⟨rfl, q, hl⟩ | ⟨z, hj⟩
    · subst q; cases ox
    · rcases back k _ hk with ⟨rfl, q, hl⟩ | ⟨z', hk⟩
      · subst q; cases oy
      · rw [List.getElem?_set_ne (Ne.symm z)] at e1
        rw [List.getElem?_set_ne (Ne.symm z')] at e2
        exact h.ne j k x y a hj hk ox oy e1 e2
  · obtain ⟨q1, q2, q3, q4, q5⟩ := h.gam p hp
    refine ⟨q1, q2, q3, q4, fun j x hj o => ?_⟩
    rcases back j _ hj with ⟨rfl, q, hl⟩ | ⟨z, hj⟩
    · subst q; cases o
    · rw [List.getElem?_set_ne (Ne.symm z)]
      exact q5 j x hj o
  · rcases back 0 _ e with ⟨z, q, hl⟩ | ⟨z, e⟩
    · cases q
    · rw [List.getElem?_set_ne (Ne.symm z)]
      exact h.me b hb c fs e
/-- a slot gets what was set apart -/
theorem Ok.setOwn {a : Addr} {o : HO} (h : Ok G (κ.plus a o) w s σ H) (hγ : ∀ p ∈ κ.γ, p.1 ≠ a) {y : Sl} (hy : OwnOk G w H a y) (oy : y.own = true) (hy0 : ∀ c fs, y ≠ .oi c fs) (i : Nat) : Ok G κ w ⟨s.sl.set i y, s.st⟩ (σ.set i (some (.ref a))) H := by
  obtain ⟨ho, h3, h4, h5, h6⟩ := h.gam (a, o) List.mem_cons_self
  have back : ∀ (j : Nat) (x : Sl), (s.sl.set i y)[j]? = some x → (j = i ∧ x = y ∧ i < s.sl.length) ∨ (j ≠ i ∧ s.sl[j]? = some x) := fun j x e => by
    by_cases z : j = i
    · subst z
      have hl : j < s.sl.length := by
        have := (List.getElem?_eq_some_iff.mp e).1
        rwa [List.length_set] at this
      rw [List.getElem?_set_self hl] at e
      exact .inl ⟨rfl, (Option.some.inj e).symm, hl⟩
    · rw [List.getElem?_set_ne (Ne.symm z)] at e
      exact .inr ⟨z, e⟩
  refine ⟨h.fok, h.nx, by rw [List.length_set, List.length_set]; exact h.len, fun j e hj => ?_, fun j x hj o' => ?_, fun j k x z b hj hk ox oz e1 e2 => ?_, fun p hp => ?_, fun b hb c fs e => ?_⟩
  · rcases back j _ hj with ⟨rfl, q, hl⟩ | ⟨z, hj⟩
    · subst q; cases oy
    · rw [List.getElem?_set_ne (Ne.symm z)]
      exact h.val j e hj
  · rcases back j _ hj with ⟨rfl, q, hl⟩ | ⟨z, hj⟩
    · subst q
      exact ⟨a, List.getElem?_set_self (by rw [← h.len]; exact hl), hy, h3, h4, h5⟩
    · rw [List.getElem?_set_ne (Ne.symm z)]
      exact h.own j x hj o'
  · rcases back j _ hj with ⟨ej, q, hl⟩ | ⟨zj, hj⟩
    · rcases back k _ hk with ⟨ek, q', hl'⟩ | ⟨zk, hk⟩
      · rw [ej, ek]
      · rw [ej, List.getElem?_set_self (by rw [← h.len]; exact hl)] at e1
        cases e1
        rw [List.getElem?_set_ne (Ne.symm zk)] at e2
        exact absurd e2 (h6 k z hk oz)
    · rcases back k _ hk with ⟨ek, q', hl'⟩ | ⟨zk, hk⟩
      · rw [ek, List.getElem?_set_self (by rw [← h.len]; exact hl')] at e2
        cases e2
        rw [List.getElem?_set_ne (Ne.symm zj)] at e1
        exact absurd e1 (h6 j x hj ox)
      · rw [List.getElem?_set_ne (Ne.symm zj)] at e1
        rw [List.getElem?_set_ne (Ne.symm zk)] at e2
        exact h.ne j k x z b hj hk ox oz e1 e2
  · obtain ⟨q1, q2, q3, q4, q5⟩ := h.gam p (List.mem_cons_of_mem _ hp)
    refine ⟨q1, q2, q3, q4, fun j x hj o' => ?_⟩
    rcases back j _ hj with ⟨ej, q, hl⟩ | ⟨z, hj⟩
    · rw [ej, List.getElem?_set_self (by rw [← h.len]; exact hl)]
      exact fun e => hγ p hp (by cases e; rfl)
    · rw [List.getElem?_set_ne (Ne.symm z)]
      exact q5 j x hj o'
  · rcases back 0 _ e with ⟨z, q, hl⟩ | ⟨z, e⟩
    · exact absurd q.symm (hy0 c fs)
    · rw [List.getElem?_set_ne (Ne.symm z)]
      exact h.me b hb c fs e
/-- the thing of an own slot is changed -/
theorem Ok.mut (h : Ok G κ w s σ H) {i : Nat} {x y : Sl} {a : Addr} {o : HO} (hx : s.sl[i]? = some x) (ox : x.own = true) (oy : y.own = true) (ha : σ[i]? = some (some (.ref a))) (hy : OwnOk G w (upd H a o) a y) (hxy : ∀ c fs, y = .oi c fs → ∃ c' fs', x = .oi c' fs') :
    Ok G κ w ⟨s.sl.set i y, s.st⟩ σ (upd H a o) := by
  obtain ⟨a', h1, h2, h3, h4, h5⟩ := h.own i x hx ox
  rw [ha] at h1
  cases h1
  have hil : i < s.sl.length := (List.getElem?_eq_some_iff.mp hx).1
  have back : ∀ (j : Nat) (z : Sl), (s.sl.set i y)[j]? = some z → (j = i ∧ z = y) ∨ (j ≠ i ∧ s.sl[j]? = some z) := fun j z e => by
    by_cases q : j = i
    · subst q
      rw [List.getElem?_set_self hil] at e
      exact .inl ⟨rfl, (Option.some.inj e).symm⟩
    · rw [List.getElem?_set_ne (Ne.symm q)] at e
      exact .inr ⟨q, e⟩
  refine ⟨⟨fun b u e => ?_, h.fok.len, fun n b c e1 e2 => ?_, h.fok.nd, h.fok.nf⟩, ⟨h.nx.le, fun b u e n => ?_, h.nx.newF, h.nx.newR⟩, by rw [List.length_set]; exact h.len, fun j d hj => ?_, fun j z hj oz => ?_, fun j k z z' b hj hk oz oz' e1 e2 => ?_, fun p hp => ?_, fun b hb c fs e => ?_⟩
  · rw [upd_ne (ne_of_none e h3)]
    exact h.fok.sub b u e
  · exact (h.fok.cel n b c e1 e2).mono (.refl _) (upd_ne fun z => h4 (by rw [← z]; exact List.mem_of_getElem? e1))
  · rw [upd_ne (ne_of_none e h5)]
    exact h.nx.keep b u e n
  · rcases back j _ hj with ⟨rfl, q⟩ | ⟨_, hj⟩
    · subst q; cases oy
    · exact h.val j d hj
  · rcases back j _ hj with ⟨rfl, q⟩ | ⟨nj, hj⟩
    · subst q
      exact ⟨a, ha, hy, h3, h4, h5⟩
    · obtain ⟨b, q1, q2, q3, q4, q5⟩ := h.own j z hj oz
      exact ⟨b, q1, q2.mono (.refl _) (upd_ne fun e => nj (h.ne j i z x b hj hx oz ox q1 (by rw [e]; exact ha))), q3, q4, q5⟩
  · rcases back j _ hj with ⟨ej, q⟩ | ⟨nj, hj⟩
    · rcases back k _ hk with ⟨ek, q'⟩ | ⟨nk, hk⟩
      · rw [ej, ek]
      · rw [ej] at e1 ⊢
        exact h.ne i k x z' b hx hk ox oz' e1 e2
    · rcases back k _ hk with ⟨ek, q'⟩ | ⟨nk, hk⟩
      · rw [ek] at e2 ⊢
        exact h.ne j i z x b hj hx oz ox e1 e2
      · exact h.ne j k z z' b hj hk oz oz' e1 e2
  · obtain ⟨q1, q2, q3, q4, q5⟩ := h.gam p hp
    have np : p.1 ≠ a := fun e => q5 i x hx ox (by rw [ha, e])
    refine ⟨by rw [upd_ne np]; exact q1, q2, q3, q4, fun j z hj oz => ?_⟩
    rcases back j _ hj with ⟨ej, q⟩ | ⟨nj, hj⟩
    · rw [ej, ha]
      exact fun e => np (by cases e; rfl)
    · exact q5 j z hj oz
  · rcases back 0 _ e with ⟨z, q⟩ | ⟨z, e⟩
    · obtain ⟨c', fs', q'⟩ := hxy c fs q.symm
      subst q'
      subst z
      exact h.me b hb c' fs' hx
    · exact h.me b hb c fs e
/-- a cell of the store is changed -/
theorem Ok.cell (h : Ok G κ w s σ H) {n : Nat} {a : Addr} {c : Cell} {o : HO} (ha : w.ρ[n]? = some a) (hc : CellOk G w (upd H a o) a c) : Ok G κ w ⟨s.sl, s.st.set n c⟩ σ (upd H a o) := by
  have hm : a ∈ w.ρ := List.mem_of_getElem? ha
  have hn : n < w.ρ.length := (List.getElem?_eq_some_iff.mp ha).1
  refine ⟨⟨fun b u e => ?_, by rw [List.length_set]; exact h.fok.len, fun k b c' e1 e2 => ?_, h.fok.nd, h.fok.nf⟩, ⟨h.nx.le, fun b u e q => ?_, h.nx.newF, h.nx.newR⟩, h.len, h.val, fun j z hj oz => ?_, h.ne, fun p hp => ?_, h.me⟩
  · rw [upd_ne (ne_of_none e (h.fok.nf a hm))]
    exact h.fok.sub b u e
  · by_cases z : k = n
    · subst z
      rw [ha] at e1
      cases e1
      rw [List.getElem?_set_self (by rw [← h.fok.len]; exact hn)] at e2
      cases e2
      exact hc
    · rw [List.getElem?_set_ne (Ne.symm z)] at e2
      refine (h.fok.cel k b c' e1 e2).mono (.refl _) (upd_ne fun e => z ?_)
      subst e
      exact nodup_ix_any h.fok.nd e1 ha
  · have hbne : b ≠ a := fun e' => by
      subst e'
      rcases h.nx.newR b hm with z | z
      · exact q z
      · rw [e] at z; cases z
    rw [upd_ne hbne]
    exact h.nx.keep b u e q
  · obtain ⟨b, q1, q2, q3, q4, q5⟩ := h.own j z hj oz
    exact ⟨b, q1, q2.mono (.refl _) (upd_ne fun e => q4 (by rw [e]; exact hm)), q3, q4, q5⟩
  · obtain ⟨q1, q2, q3, q4⟩ := h.gam p hp
    exact ⟨by rw [upd_ne fun e => q3 (by rw [e]; exact hm)]; exact q1, q2, q3, q4⟩
where
  nodup_ix_any {l : List Addr} (hN : l.Nodup) {i j : Nat} {x : Addr} (a : l[i]? = some x) (b : l[j]? = some x) : i = j := by
    obtain ⟨h1, e1⟩ := List.getElem?_eq_some_iff.mp a
    obtain ⟨h2, e2⟩ := List.getElem?_eq_some_iff.mp b
    exact (List.getElem_inj hN).mp (e1.trans e2.symm)
end
end DL
set_option maxRecDepth 100000
set_option maxHeartbeats 4000000
set_option autoImplicit false
namespace DL
open PySem PySem.Spec PyProof.Rows L2
section
variable (G : Gam) (W : WX)
/-- a new list of one's own -/
def PostO (κ : Bs) (w : Wd) (σ : L2.St) (r : Res DS (List D)) (Q : VK) : Prop := match r with
  | .ok xs s' => ∀ w' a vs H', w.le w' → Ok G (κ.plus a (.lst vs)) w' s' σ H' → (∀ p ∈ κ.γ, p.1 ≠ a) → Reps G w' vs xs → Q (.ref a) H'
  | .exc x s' => ∀ w' c dd H', w.le w' → Ok G κ w' s' σ H' → RepX G w' c dd x → W c dd σ H'
  | .stuck => False
def tDo (f : DA) : TE := fun σ H Q => ∃ κ w s, Ok G κ w s σ H ∧ PostO G W κ w σ (f s) Q
end
abbrev PDo (G : Gam) (W : WX) (X : Cx) (e : Expr) (f : DA) : Prop := PE X e (tDo G W f)
section
variable {G : Gam} {W : WX} {X : Cx}
theorem PostO.mono {κ : Bs} {w w1 : Wd} {σ : L2.St} {r : Res DS (List D)} {Q : VK} (le : w.le w1) (h : PostO G W κ w σ r Q) : PostO G W κ w1 σ r Q := by
  cases r with
  | ok d s' => exact fun w' a vs H' l o g r => h w' a vs H' (le.trans l) o g r
  | exc x s' => exact fun w' c dd H' l o r => h w' c dd H' (le.trans l) o r
  | stuck => exact h
theorem Ok.apart {κ : Bs} {w : Wd} {s : DS} {σ : L2.St} {H : Hp} (h : Ok G κ w s σ H) {p : Addr} (hp : H p = none) : ∀ q ∈ κ.γ, q.1 ≠ p := fun q hq => ne_of_none (h.gam q hq).1 hp
/-- an expression, then a new list -/
theorem PostG.bindO {α β : Type} {rep : Wd → β → α → Prop} {κ : Bs} {w : Wd} {σ : L2.St} {r : Res DS α} {k : α → DS → Res DS (List D)} {Q : VK} (h : PostO G W κ w σ (r.bind k) Q) :
    PostG G W rep κ w σ r (fun v H1 => ∃ d s1 w1, w.le w1 ∧ Ok G κ w1 s1 σ H1 ∧ rep w1 v d ∧ PostO G W κ w1 σ (k d s1) Q) := by
  cases r with
  | ok d s' => exact fun w' v H' l o r => ⟨d, s', w', l, o, r, PostO.mono l h⟩
  | exc x s' => exact h
  | stuck => exact h
def aMax (g : DA) : DA := fun s => (g s).bind fun ds s1 => if ds.length ≤ 1000 then .ok ds s1 else .stuck
theorem pdo_lst {es : List Expr} {g : DA} {pos : Pos} (h : PDA G W X es g) : PDo G W X (.List es pos) (aMax g) :=
  (pe_lst h).imp fun σ H Q ⟨κ, w, s, ok, q⟩ => ⟨κ, w, s, ok, (PostG.bindO q).imp fun v H1 ⟨d, s1, w1, le, ok1, r1, q1⟩ => by
    by_cases c : d.length ≤ 1000
    · rw [if_pos c] at q1
      refine ⟨by rw [r1.length]; exact sz1000 c, fun p hp => ?_⟩
      exact q1 w1 p v _ (.refl _) (ok1.fresh hp _) (ok1.apart hp) r1
    · rw [if_neg c] at q1
      exact q1.elim⟩
def eFrz (f : DA) : DE := fun s => (f s).bind fun xs s1 => .ok (.lst xs) s1
theorem pdo_frz {e : Expr} {f : DA} (h : PDo G W X e f) : PD G W X e (eFrz f) := h.imp fun σ H Q ⟨κ, w, s, ok, q⟩ => ⟨κ, w, s, ok, by
  unfold eFrz at q
  cases e : f s with
  | stuck => rw [e] at q; exact q.elim
  | exc x s' => rw [e] at q; exact q
  | ok xs s' =>
    rw [e] at q
    intro w' a vs H' l o g r
    obtain ⟨le, ok'⟩ := o.frz g
    exact q _ _ H' (l.trans le) ok' (.lst upd_same (r.mono le))⟩
/-! ### statements -/
def sPass : DStm := fun s => .ok .nx s
def sSeq (f g : DStm) : DStm := fun s => (f s).bind fun o s1 => match o with
  | .nx => g s1
  | o => .ok o s1
theorem pdss_nil : PDSs G W X [] sPass := pss_nil.imp fun N σ H ⟨κ, w, s, ok, q⟩ => q w σ H (.refl _) ok
theorem PostS.seq {κ : Bs} {w : Wd} {r : Res DS Out} {g : DStm} {N : Ends} (h : PostS G W κ w (r.bind fun o s1 => match o with | .nx => g s1 | o => .ok o s1) N) : PostS G W κ w r { N with nx := tDS G W g N } := by
  cases r with
  | stuck => exact h
  | exc x s' => exact h
  | ok o s' =>
    cases o with
    | nx => exact fun w' σ' H' l o => ⟨κ, w', s', o, PostS.mono l h⟩
    | bk => exact h
    | ct => exact h
    | rt d => exact h
theorem pdss_cons {st : Stmt} {r : List Stmt} {f g : DStm} (h : PDS G W X st f) (k : PDSs G W X r g) : PDSs G W X (st :: r) (sSeq f g) :=
  (pss_cons h k).imp fun N σ H ⟨κ, w, s, ok, q⟩ => ⟨κ, w, s, ok, PostS.seq q⟩
theorem pdss_one {st : Stmt} {f : DStm} (h : PDS G W X st f) : PDSs G W X [st] f := pss_one h
def sNever : DStm := fun _ => .stuck
theorem pds_never {st : Stmt} : PDS G W X st sNever := ps_never.imp fun N σ H ⟨κ, w, s, ok, q⟩ => q.elim
theorem pdss_never {st : List Stmt} : PDSs G W X st sNever := pss_never.imp fun N σ H ⟨κ, w, s, ok, q⟩ => q.elim
theorem pds_pass {pos : Pos} : PDS G W X (.Pass pos) sPass := ps_pass.imp fun N σ H ⟨κ, w, s, ok, q⟩ => q w σ H (.refl _) ok
def sBreak : DStm := fun s => .ok .bk s
def sCont : DStm := fun s => .ok .ct s
theorem pds_break {pos : Pos} : PDS G W X (.Break pos) sBreak := ps_break.imp fun N σ H ⟨κ, w, s, ok, q⟩ => q w σ H (.refl _) ok
theorem pds_continue {pos : Pos} : PDS G W X (.Continue pos) sCont := ps_continue.imp fun N σ H ⟨κ, w, s, ok, q⟩ => q w σ H (.refl _) ok
def sExpr (f : DE) : DStm := fun s => (f s).bind fun _ s1 => .ok .nx s1
theorem pds_expr {e : Expr} {f : DE} {pos : Pos} (h : PD G W X e f) (hs : swapsWith e none pos.line X.env = pure false := by rfl) : PDS G W X (.Expr e pos) (sExpr f) :=
  (ps_expr h hs).imp fun N σ H ⟨κ, w, s, ok, q⟩ => ⟨κ, w, s, ok, (PostG.bindS q).imp fun v H1 ⟨d, s1, w1, le, ok1, r1, q1⟩ => q1 w1 σ H1 (.refl _) ok1⟩
def sRet (f : DE) : DStm := fun s => (f s).bind fun d s1 => .ok (.rt d) s1
theorem pds_ret {e : Expr} {f : DE} {pos : Pos} (h : PD G W X e f) : PDS G W X (.Return (some e) pos) (sRet f) :=
  (ps_ret h).imp fun N σ H ⟨κ, w, s, ok, q⟩ => ⟨κ, w, s, ok, (PostG.bindS q).imp fun v H1 ⟨d, s1, w1, le, ok1, r1, q1⟩ => q1 w1 σ v H1 (.refl _) ok1 r1⟩
theorem pds_retN {pos : Pos} : PDS G W X (.Return none pos) (sRet (eC .non)) := ps_retN.imp fun N σ H ⟨κ, w, s, ok, q⟩ => q w σ .non H (.refl _) ok .non
def sIf (c : DT) (f g : DStm) : DStm := fun s => (c s).bind fun b s1 => if b = true then f s1 else g s1
theorem pds_if {c : Expr} {a b : List Stmt} {fc : DT} {f g : DStm} {pos : Pos} (hc : PDT G W X c fc) (h : PDSs G W X a f) (k : PDSs G W X b g) : PDS G W X (.If c a b pos) (sIf fc f g) :=
  (ps_if hc h k).imp fun N σ H ⟨κ, w, s, ok, q⟩ => ⟨κ, w, s, ok, (PostG.bindS q).imp fun v H1 ⟨d, s1, w1, le, ok1, r1, q1⟩ => by
    subst r1
    cases v with
    | true => exact ⟨κ, w1, s1, ok1, q1⟩
    | false => exact ⟨κ, w1, s1, ok1, q1⟩⟩
def sSet (i : Nat) (f : DE) : DStm := fun s => (f s).bind fun d s1 => .ok .nx ⟨s1.sl.set i (.val d), s1.st⟩
theorem pds_set {i : Nat} {x : Str} {e : Expr} {f : DE} {pos pos' : Pos} (hN : X.N.Nodup) (hi : X.N[i]? = some x) (hx : Loc X.env.scope x) (he : PD G W X e f) (hs : swapsWith e (some (.Name x pos')) pos.line X.env = pure false := by rfl)
    (hf : X.fn x = true ∨ X.env.scope.names.lookup x = some .local := by first | exact .inl rfl | exact .inr rfl | assumption) : PDS G W X (.Assign [.Name x pos'] e pos) (sSet i f) :=
  (ps_set hN hi hx he hs hf).imp fun N σ H ⟨κ, w, s, ok, q⟩ => ⟨κ, w, s, ok, (PostG.bindS q).imp fun v H1 ⟨d, s1, w1, le, ok1, r1, q1⟩ => q1 w1 _ H1 (.refl _) (ok1.setVal r1 i)⟩
/-- name = a new list -/
def sSetO (i : Nat) (f : DA) : DStm := fun s => (f s).bind fun xs s1 => .ok .nx ⟨s1.sl.set i (.ol xs), s1.st⟩
theorem setO_of {i : Nat} {f : DA} {N : Ends} {σ : L2.St} {H : Hp} (h : tDS G W (sSetO i f) N σ H) : tAsg (tDo G W f) (gName i) N σ H := by
  obtain ⟨κ, w, s, ok, q⟩ := h
  refine ⟨κ, w, s, ok, ?_⟩
  unfold sSetO at q
  cases e : f s with
  | stuck => rw [e] at q; exact q.elim
  | exc x s' =>
    rw [e] at q
    exact fun w' c dd H' l o r => q w' σ c dd H' l o r
  | ok xs s' =>
    rw [e] at q
    intro w' a vs H' l o g r
    exact q w' _ H' l (o.setOwn (y := .ol xs) g ⟨vs, (o.gam (a, .lst vs) List.mem_cons_self).1, r⟩ rfl (fun _ _ z => nomatch z) i)
theorem pds_setO {i : Nat} {x : Str} {e : Expr} {f : DA} {pos pos' : Pos} (hN : X.N.Nodup) (hi : X.N[i]? = some x) (hx : Loc X.env.scope x) (he : PDo G W X e f) (hs : swapsWith e (some (.Name x pos')) pos.line X.env = pure false := by rfl)
    (hf : X.fn x = true ∨ X.env.scope.names.lookup x = some .local := by first | exact .inl rfl | exact .inr rfl | assumption) : PDS G W X (.Assign [.Name x pos'] e pos) (sSetO i f) :=
  (ps_set hN hi hx he hs hf).imp fun N σ H q => setO_of q
/-! ### targets -/
abbrev DG := D → DS → Res DS Unit
section
variable (G : Gam) (W : WX)
def PostT (is : List Nat) (σ : L2.St) (κ : Bs) (w : Wd) (r : Res DS Unit) (Q : L2.St → Hp → Prop) : Prop := match r with
  | .ok _ s' => ∀ w' σ' H', w.le w' → Ok G κ w' s' σ' H' → (σ'.length = σ.length ∧ ∀ i : Nat, i ∉ is → σ'[i]? = σ[i]?) → Q σ' H'
  | .exc x s' => False
  | .stuck => False
def tDG (is : List Nat) (g : DG) : TG := fun v σ H Q => ∃ κ w s d, Ok G κ w s σ H ∧ Rep G w v d ∧ PostT G is σ κ w (g d s) Q
def tDGs (is : List Nat) (g : List D → DS → Res DS Unit) : TGs := fun v σ H Q => ∃ κ w s d, Ok G κ w s σ H ∧ Reps G w v d ∧ PostT G is σ κ w (g d s) Q
end
theorem _root_.L2.PG.imp {X : Cx} {e : Expr} {t t' : TG} (h : PG X e t) (k : ∀ v σ H Q, t' v σ H Q → t v σ H Q) : PG X e t' := ⟨fun pins s σ H v u Q I r q => h.run pins s σ H v u Q I r (k v σ H Q q)⟩
theorem _root_.L2.PGs.imp {X : Cx} {e : List Expr} {t t' : TGs} (h : PGs X e t) (k : ∀ v σ H Q, t' v σ H Q → t v σ H Q) : PGs X e t' := ⟨fun pins s σ H v u Q I r q => h.run pins s σ H v u Q I r (k v σ H Q q)⟩
abbrev PDG (G : Gam) (X : Cx) (e : Expr) (is : List Nat) (g : DG) : Prop := PG X e (tDG G is g)
abbrev PDGs (G : Gam) (X : Cx) (e : List Expr) (is : List Nat) (g : List D → DS → Res DS Unit) : Prop := PGs X e (tDGs G is g)
def gN (i : Nat) : DG := fun d s => .ok () ⟨s.sl.set i (.val d), s.st⟩
theorem pdg_name {i : Nat} {x : Str} {pos : Pos} (hN : X.N.Nodup) (hi : X.N[i]? = some x) (hx : Loc X.env.scope x) (hf : X.fn x = true ∨ X.env.scope.names.lookup x = some .local := by first | exact .inl rfl | exact .inr rfl | assumption) : PDG G X (.Name x pos) [i] (gN i) :=
  (pg_name hN hi hx hf).imp fun v σ H Q ⟨κ, w, s, d, ok, r, q⟩ => q w _ H (.refl _) (ok.setVal r i) ⟨by rw [List.length_set], fun j hj => List.getElem?_set_ne fun z => hj (by rw [z]; exact List.mem_singleton.mpr rfl)⟩
def gsNil : List D → DS → Res DS Unit := fun ds s => match ds with
  | [] => .ok () s
  | _ => .stuck
def gsCons (g : DG) (k : List D → DS → Res DS Unit) : List D → DS → Res DS Unit := fun ds s => match ds with
  | d :: r => (g d s).bind fun _ s1 => k r s1
  | _ => .stuck
theorem pdgs_nil : PDGs G X [] [] gsNil := pgs_nil.imp fun v σ H Q ⟨κ, w, s, d, ok, r, q⟩ => by
  cases r with
  | nil => exact ⟨rfl, q w σ H (.refl _) ok ⟨rfl, fun _ _ => rfl⟩⟩
  | cons a b => exact q.elim
theorem pdgs_cons {e : Expr} {es : List Expr} {is is' : List Nat} {g : DG} {k : List D → DS → Res DS Unit} (h1 : PDG G X e is g) (h2 : PDGs G X es is' k)
    (hs : (assignEach (e :: es) X.env).map (·.2) = assign e X.env :: (assignEach es X.env).map (·.2) := by rfl) : PDGs G X (e :: es) (is ++ is') (gsCons g k) :=
  (pgs_cons h1 h2 hs).imp fun v σ H Q ⟨κ, w, s, d, ok, r, q⟩ => by
    cases r with
    | nil => exact q.elim
    | @cons v d vs ds a b =>
      refine ⟨v, vs, rfl, κ, w, s, d, ok, a, ?_⟩
      have q : PostT G (is ++ is') σ κ w ((g d s).bind fun _ s1 => k ds s1) Q := q
      cases e : g d s with
      | stuck => rw [e] at q; exact q.elim
      | exc x s' => rw [e] at q; exact q.elim
      | ok u s' =>
        rw [e] at q
        intro w' σ' H' l o hσ
        refine ⟨κ, w', s', ds, o, b.mono l, ?_⟩
        have q : PostT G (is ++ is') σ κ w (k ds s') Q := q
        cases e2 : k ds s' with
        | stuck => rw [e2] at q; exact q.elim
        | exc x s' => rw [e2] at q; exact q.elim
        | ok u s2 =>
          rw [e2] at q
          exact fun w2 σ2 H2 l2 o2 h2 => q w2 σ2 H2 (l.trans l2) o2 ⟨h2.1.trans hσ.1, fun i hi => (h2.2 i fun z => hi (List.mem_append_right _ z)).trans (hσ.2 i fun z => hi (List.mem_append_left _ z))⟩
def gT (n : Nat) (g : List D → DS → Res DS Unit) : DG := fun d s => match d with
  | .tup ds => if ds.length = n then g ds s else .stuck
  | _ => .stuck
theorem pdg_tup (hK : G.K = X.K) {es : List Expr} {is : List Nat} {k : Nat} {g : List D → DS → Res DS Unit} {n : Nat} {pos : Pos} (hc : X.calm = true) (h : PDGs G X es is g)
    (hn : (assignEach es X.env).length = n := by rfl) (hst : (assignEach es X.env).findIdx? (·.1) = none := by rfl) : PDG G X (.Tuple es k pos) is (gT n g) :=
  (pg_tup hc h hn hst).imp fun v σ H Q ⟨κ, w, s, d, ok, r, q⟩ => by
    cases r with
    | @tup a vs ds e r =>
      by_cases c : ds.length = n
      · have q : PostT G is σ κ w (if ds.length = n then g ds s else .stuck) Q := q
        rw [if_pos c] at q
        refine ⟨a, vs, rfl, hK ▸ SqT.le e ok.fok.sub, by rw [r.length]; exact c, κ, w, s, ds, ok, r, q⟩
      · have q : PostT G is σ κ w (if ds.length = n then g ds s else .stuck) Q := q
        rw [if_neg c] at q
        exact q.elim
    | _ => exact q.elim
def sAsg (f : DE) (g : DG) : DStm := fun s => (f s).bind fun d s1 => (g d s1).bind fun _ s2 => .ok .nx s2
theorem PostT.toS {is : List Nat} {σ : L2.St} {κ : Bs} {w : Wd} {r : Res DS Unit} {N : Ends} {Wx : WX} (h : PostS G Wx κ w (r.bind fun _ s2 => .ok .nx s2) N) (hx : ∀ x s, r ≠ .exc x s) : PostT G is σ κ w r N.nx := by
  cases r with
  | stuck => exact h
  | exc x s' => exact absurd rfl (hx x s')
  | ok u s' => exact fun w' σ' H' l o _ => h w' σ' H' l o
def noX {σ α : Type} (r : Res σ α) : Res σ α := match r with
  | .exc _ _ => .stuck
  | r => r
theorem noX_exc {σ α : Type} (r : Res σ α) : ∀ x s, noX r ≠ .exc x s := fun x s h => by cases r <;> cases h
def sAsgT (f : DE) (g : DG) : DStm := fun s => (f s).bind fun d s1 => (noX (g d s1)).bind fun _ s2 => .ok .nx s2
theorem PostT.ofNoX {is : List Nat} {σ : L2.St} {κ : Bs} {w : Wd} {r : Res DS Unit} {Q : L2.St → Hp → Prop} (h : PostT G is σ κ w (noX r) Q) : PostT G is σ κ w r Q := by
  cases r with
  | stuck => exact h
  | exc x s' => exact h
  | ok u s' => exact h
theorem pds_asg {tg e : Expr} {f : DE} {is : List Nat} {g : DG} {pos : Pos} (he : PD G W X e f) (hg : PDG G X tg is g) (hs : swapsWithSole [tg] e pos.line X.env = pure false := by rfl) (hw : swappedStores [tg] e X.env = pure none := by rfl)
    (h1 : (assignEach [tg] X.env).map (·.2) = [assign tg X.env] := by rfl) : PDS G W X (.Assign [tg] e pos) (sAsgT f g) :=
  (ps_asg he hg hs hw h1).imp fun N σ H ⟨κ, w, s, ok, q⟩ => ⟨κ, w, s, ok, (PostG.bindS q).imp fun v H1 ⟨d, s1, w1, le, ok1, r1, q1⟩ =>
    ⟨κ, w1, s1, d, ok1, r1, PostT.ofNoX (PostT.toS q1 (noX_exc _))⟩⟩
/-- a, b = x, y with plain locals -/
def sPar (i j : Nat) (f : DA) : DStm := fun s => (f s).bind fun ds s1 => match ds with
  | [x, y] => .ok .nx ⟨(s1.sl.set i (.val x)).set j (.val y), s1.st⟩
  | _ => .stuck
theorem pds_par {i j : Nat} {x y : Str} {a b : Expr} {f : DA} {px py pt pos : Pos} {kt k2 : Nat} {pt2 : Pos} (hc : X.calm = true) (hN : X.N.Nodup) (hi : X.N[i]? = some x) (hj : X.N[j]? = some y) (hij : i ≠ j)
    (hx : X.env.scope.names.lookup x = some .local) (hy : X.env.scope.names.lookup y = some .local) (ha : PDA G W X [a, b] f)
    (hw : swappedStores [.Tuple [.Name x px, .Name y py] kt pt] (.Tuple [a, b] k2 pt2) X.env = pure (some [x, y]))
    (hs : swapsWithSole [.Tuple [.Name x px, .Name y py] kt pt] (.Tuple [a, b] k2 pt2) pos.line X.env = pure false := by rfl) :
    PDS G W X (.Assign [.Tuple [.Name x px, .Name y py] kt pt] (.Tuple [a, b] k2 pt2) pos) (sPar i j f) :=
  (ps_par hc hN hi hj hij hx hy ha hw hs).imp fun N σ H ⟨κ, w, s, ok, q⟩ => ⟨κ, w, s, ok, (PostG.bindS q).imp fun v H1 ⟨d, s1, w1, le, ok1, r1, q1⟩ => by
    cases r1 with
    | nil => exact q1.elim
    | cons a b =>
      cases b with
      | nil => exact q1.elim
      | cons a2 b2 =>
        cases b2 with
        | nil => exact ⟨_, _, rfl, q1 w1 _ H1 (.refl _) ((ok1.setVal a i).setVal a2 j)⟩
        | cons _ _ => exact q1.elim⟩
/-! ### loops -/
def loopOut (r : Res DS Out) (k : DS → Res DS Out) : Res DS Out := match r with
  | .ok .nx s2 => k s2
  | .ok .ct s2 => k s2
  | .ok .bk s2 => .ok .nx s2
  | r => r
def runW (c : DT) (b : DStm) : Nat → DS → Res DS Out
  | 0, _ => .stuck
  | n + 1, s => (c s).bind fun t s1 => if t = true then loopOut (b s1) (runW c b n) else .ok .nx s1
theorem runW_mono (c : DT) (b : DStm) : ∀ (n : Nat) (s : DS), runW c b n s ≠ .stuck → runW c b (n + 1) s = runW c b n s
  | 0, s, h => absurd rfl h
  | n + 1, s, h => by
    show (c s).bind (fun t s1 => if t = true then loopOut (b s1) (runW c b (n + 1)) else .ok .nx s1) = (c s).bind fun t s1 => if t = true then loopOut (b s1) (runW c b n) else .ok .nx s1
    have h : (c s).bind (fun t s1 => if t = true then loopOut (b s1) (runW c b n) else .ok .nx s1) ≠ .stuck := h
    cases e : c s with
    | stuck => rfl
    | exc x s' => rfl
    | ok t s1 =>
      rw [e] at h
      rw [Res.bind_ok] at h ⊢
      rw [Res.bind_ok]
      cases t with
      | false => rfl
      | true =>
        rw [if_pos rfl] at h ⊢
        rw [if_pos rfl]
        cases e2 : b s1 with
        | stuck => rfl
        | exc x s' => rfl
        | ok o s2 =>
          rw [e2] at h
          cases o with
          | nx => exact runW_mono c b n s2 h
          | ct => exact runW_mono c b n s2 h
          | bk => rfl
          | rt d => rfl
theorem runW_le (c : DT) (b : DStm) {n m : Nat} {s : DS} (hnm : n ≤ m) (h : runW c b n s ≠ .stuck) : runW c b m s = runW c b n s := by
  induction hnm with
  | refl => rfl
  | step hk ih => rw [runW_mono c b _ s (by rw [ih]; exact h), ih]
open Classical in
noncomputable def sWhile (c : DT) (b : DStm) : DStm := fun s => if h : ∃ n, runW c b n s ≠ .stuck then runW c b h.choose s else .stuck
theorem sWhile_of {c : DT} {b : DStm} {s : DS} (n : Nat) (h : runW c b n s ≠ .stuck) : sWhile c b s = runW c b n s := by
  have ex : ∃ n, runW c b n s ≠ .stuck := ⟨n, h⟩
  unfold sWhile
  rw [dif_pos ex]
  rcases Nat.le_total n ex.choose with z | z
  · exact runW_le c b z h
  · exact (runW_le c b z ex.choose_spec).symm
theorem sWhile_eq (c : DT) (b : DStm) (s : DS) : sWhile c b s = (c s).bind fun t s1 => if t = true then loopOut (b s1) (sWhile c b) else .ok .nx s1 := by
  have key : ∀ n, runW c b (n + 1) s ≠ .stuck → sWhile c b s = (c s).bind fun t s1 => if t = true then loopOut (b s1) (sWhile c b) else .ok .nx s1 := fun n h => by
    rw [sWhile_of (n + 1) h]
    have h : (c s).bind (fun t s1 => if t = true then loopOut (b s1) (runW c b n) else .ok .nx s1) ≠ .stuck := h
    show (c s).bind (fun t s1 => if t = true then loopOut (b s1) (runW c b n) else .ok .nx s1) = _
    cases e : c s with
    | stuck => rfl
    | exc x s' => rfl
    | ok t s1 =>
      rw [e] at h
      rw [Res.bind_ok] at h ⊢
      rw [Res.bind_ok]
      cases t with
      | false => rfl
      | true =>
        rw [if_pos rfl] at h ⊢
        rw [if_pos rfl]
        cases e2 : b s1 with
        | stuck => rfl
        | exc x s' => rfl
        | ok o s2 =>
          rw [e2] at h
          cases o with
          | nx => exact (sWhile_of n h).symm
          | ct => exact (sWhile_of n h).symm
          | bk => rfl
          | rt d => rfl
  by_cases ex : ∃ n, runW c b n s ≠ .stuck
  · obtain ⟨n, h⟩ := ex
    cases n with
    | zero => exact absurd rfl h
    | succ n => exact key n h
  · have all : ∀ n, runW c b n s = .stuck := fun n => Classical.byContradiction fun h => ex ⟨n, h⟩
    have l : sWhile c b s = .stuck := by
      unfold sWhile
      rw [dif_neg ex]
    rw [l]
    have a1 := all 1
    cases e : c s with
    | stuck => rfl
    | exc x s' =>
      have a1 : (c s).bind (fun t s1 => if t = true then loopOut (b s1) (runW c b 0) else .ok .nx s1) = .stuck := a1
      rw [e] at a1
      cases a1
    | ok t s1 =>
      rw [Res.bind_ok]
      cases t with
      | false =>
        have a1 : (c s).bind (fun t s1 => if t = true then loopOut (b s1) (runW c b 0) else .ok .nx s1) = .stuck := a1
        rw [e] at a1
        cases a1
      | true =>
        rw [if_pos rfl]
        have an : ∀ n, loopOut (b s1) (runW c b n) = .stuck := fun n => by
          have := all (n + 1)
          have a1 : (c s).bind (fun t s1 => if t = true then loopOut (b s1) (runW c b n) else .ok .nx s1) = .stuck := this
          rw [e] at a1
          exact a1
        cases e2 : b s1 with
        | stuck => rfl
        | exc x s' => have := an 0; rw [e2] at this; cases this
        | ok o s2 =>
          have nn : ∀ n, loopOut (.ok o s2) (runW c b n) = .stuck := fun n => by rw [← e2]; exact an n
          have un : (∀ n, runW c b n s2 = .stuck) → sWhile c b s2 = .stuck := fun q => by
            unfold sWhile
            rw [dif_neg fun ⟨n, h⟩ => h (q n)]
          cases o with
          | nx => exact (un nn).symm
          | ct => exact (un nn).symm
          | bk => cases nn 0
          | rt d => cases nn 0
theorem pds_while {c : Expr} {body : List Stmt} {fc : DT} {fb : DStm} {pos : Pos} (hp : PassesOwn (model X.prog X.w) X.A X.env X.xe) (hc : PDT G W X c fc) (hb : PDSs G W X body fb) : PDS G W X (.While c body [] pos) (sWhile fc fb) :=
  (ps_while hp hc hb).imp fun N σ H ⟨κ, w, s, ok, q⟩ => by
    by_cases ex : ∃ n, runW fc fb n s ≠ .stuck
    · obtain ⟨n, hn⟩ := ex
      rw [sWhile_of n hn] at q
      refine ⟨fun m σ H => ∃ w' s', w.le w' ∧ Ok G κ w' s' σ H ∧ PostS G W κ w' (runW fc fb m s') N, ⟨n, w, s, .refl _, ok, q⟩, fun m σ' H' ⟨w', s', le, ok', q'⟩ => ?_⟩
      cases m with
      | zero => exact q'.elim
      | succ m =>
        refine ⟨κ, w', s', ok', (PostG.bindS q').imp fun v H1 ⟨d, s1, w1, le1, ok1, r1, q1⟩ => ?_⟩
        subst r1
        cases v with
        | false => exact q1 w1 σ' H1 (.refl _) ok1
        | true =>
          refine ⟨fun σ2 H2 => ∃ w2 s2, w.le w2 ∧ Ok G κ w2 s2 σ2 H2 ∧ PostS G W κ w2 (runW fc fb m s2) N, fun σ2 H2 z => ⟨m, Nat.lt_succ_self _, z⟩, κ, w1, s1, ok1, ?_⟩
          have q1 : PostS G W κ w1 (loopOut (fb s1) (runW fc fb m)) N := q1
          cases e : fb s1 with
          | stuck => rw [e] at q1; exact q1.elim
          | exc x s' => rw [e] at q1; exact q1
          | ok o s2 =>
            rw [e] at q1
            cases o with
            | nx => exact fun w2 σ2 H2 l o => ⟨w2, s2, (le.trans le1).trans l, o, PostS.mono l q1⟩
            | ct => exact fun w2 σ2 H2 l o => ⟨w2, s2, (le.trans le1).trans l, o, PostS.mono l q1⟩
            | bk => exact q1
            | rt d => exact q1
    · unfold sWhile at q
      rw [dif_neg ex] at q
      exact q.elim
/-! ### what a for walks -/
section
variable (G : Gam) (W : WX)
def ItOk (w : Wd) (J : It) (items : List D) : Prop := ∀ (w1 : Wd) (S : List Cell) (H : Hp), w.le w1 → FOk G w1 S H → ∀ i : Nat,
  (∀ d, items[i]? = some d → J.go i H ∧ ∀ x H', J.yld i H x H' → ∃ w2, Nx w1 H w2 H' ∧ FOk G w2 S H' ∧ Rep G w2 x d) ∧ (items[i]? = none → J.stop i H)
def PostI (κ : Bs) (w : Wd) (σ : L2.St) (r : Res DS (List D)) (R : It → Hp → Prop) : Prop := match r with
  | .ok ds s' => ∀ w' J H', w.le w' → Ok G κ w' s' σ H' → ItOk G w' J ds → R J H'
  | .exc x s' => ∀ w' c dd H', w.le w' → Ok G κ w' s' σ H' → RepX G w' c dd x → W c dd σ H'
  | .stuck => False
def tDI (f : DA) : TI := fun σ H R => ∃ κ w s, Ok G κ w s σ H ∧ PostI G W κ w σ (f s) R
end
theorem _root_.L2.PI.imp {X : Cx} {tg e : Expr} {t t' : TI} (h : PI X tg e t) (k : ∀ σ H R, t' σ H R → t σ H R) : PI X tg e t' := ⟨fun pins s σ H R I q => h.run pins s σ H R I (k σ H R q)⟩
abbrev PDI (G : Gam) (W : WX) (X : Cx) (tg e : Expr) (f : DA) : Prop := PI X tg e (tDI G W f)
theorem PostI.mono {κ : Bs} {w w1 : Wd} {σ : L2.St} {r : Res DS (List D)} {R : It → Hp → Prop} (le : w.le w1) (h : PostI G W κ w σ r R) : PostI G W κ w1 σ r R := by
  cases r with
  | ok d s' => exact fun w' J H' l o g => h w' J H' (le.trans l) o g
  | exc x s' => exact fun w' c dd H' l o r => h w' c dd H' (le.trans l) o r
  | stuck => exact h
theorem PostG.bindI {α β : Type} {rep : Wd → β → α → Prop} {κ : Bs} {w : Wd} {σ : L2.St} {r : Res DS α} {k : α → DS → Res DS (List D)} {Q : It → Hp → Prop} (h : PostI G W κ w σ (r.bind k) Q) :
    PostG G W rep κ w σ r (fun v H1 => ∃ d s1 w1, w.le w1 ∧ Ok G κ w1 s1 σ H1 ∧ rep w1 v d ∧ PostI G W κ w1 σ (k d s1) Q) := by
  cases r with
  | ok d s' => exact fun w' v H' l o r => ⟨d, s', w', l, o, r, PostI.mono l h⟩
  | exc x s' => exact h
  | stuck => exact h
/-- the items of a list; of a tuple -/
def itL (f : DE) : DA := fun s => (f s).bind fun d s1 => match d with
  | .lst xs => .ok xs s1
  | .scr xs => .ok xs s1
  | _ => .stuck
def itT (f : DE) : DA := fun s => (f s).bind fun d s1 => match d with
  | .tup xs => .ok xs s1
  | _ => .stuck
theorem itOk_list (hK : G.K = X.K) {w : Wd} {a : Addr} {vs : List V} {ds : List D} (e : SqL G.K w.F a vs) (un : ∀ (H : Hp) ys, SqL X.K H a vs → SqL X.K H a ys → vs = ys → True) (r : Reps G w vs ds) (inj : ∀ (H : Hp), SqL X.K H a vs → True) : ItOk G w (Itl X.K a) ds := by
  intro w1 S H le fok i
  have q : SqL X.K H a vs := hK ▸ SqL.le (SqL.le e le.f) fok.sub
  refine ⟨fun d hd => ?_, fun hn => ?_⟩
  · obtain ⟨y, h1, h2⟩ := r.get hd
    refine ⟨⟨vs, y, q, h1⟩, fun x H' ⟨hH, hx⟩ => ⟨w1, ?_, ?_, ?_⟩⟩
    · rw [hH]; exact .refl _ _
    · rw [hH]; exact fok
    · have := hx vs q
      rw [h1] at this
      cases this
      exact h2.mono le
  · refine ⟨vs, q, ?_⟩
    rw [r.length]
    exact List.getElem?_eq_none_iff.mp hn
theorem itOk_tup (hK : G.K = X.K) {w : Wd} {a : Addr} {vs : List V} {ds : List D} (e : SqT G.K w.F a vs) (r : Reps G w vs ds) : ItOk G w (Itt X.K a) ds := by
  intro w1 S H le fok i
  have q : SqT X.K H a vs := hK ▸ SqT.le (SqT.le e le.f) fok.sub
  refine ⟨fun d hd => ?_, fun hn => ?_⟩
  · obtain ⟨y, h1, h2⟩ := r.get hd
    refine ⟨⟨vs, y, q, h1⟩, fun x H' ⟨hH, hx⟩ => ⟨w1, ?_, ?_, ?_⟩⟩
    · rw [hH]; exact .refl _ _
    · rw [hH]; exact fok
    · have := hx vs q
      rw [h1] at this
      cases this
      exact h2.mono le
  · refine ⟨vs, q, ?_⟩
    rw [r.length]
    exact List.getElem?_eq_none_iff.mp hn
theorem pdi_list (hK : G.K = X.K) {tg e : Expr} {f : DE} (h : PD G W X e f) : PDI G W X tg e (itL f) :=
  (pi_list h).imp fun σ H R ⟨κ, w, s, ok, q⟩ => ⟨κ, w, s, ok, (PostG.bindI q).imp fun v H1 ⟨d, s1, w1, le, ok1, r1, q1⟩ => by
    cases r1 with
    | @lst a vs ds e r =>
      have e' : SqL G.K w1.F a vs := .inl (.inl e)
      exact ⟨a, rfl, ⟨vs, hK ▸ SqL.le e' ok1.fok.sub⟩, q1 w1 _ H1 (.refl _) ok1 (itOk_list hK e' (fun _ _ _ _ _ => trivial) r fun _ _ => trivial)⟩
    | @scr a vs ds e r =>
      exact ⟨a, rfl, ⟨vs, hK ▸ SqL.le e ok1.fok.sub⟩, q1 w1 _ H1 (.refl _) ok1 (itOk_list hK e (fun _ _ _ _ _ => trivial) r fun _ _ => trivial)⟩
    | _ => exact q1.elim⟩
theorem pdi_tup (hK : G.K = X.K) {tg e : Expr} {f : DE} (h : PD G W X e f) : PDI G W X tg e (itT f) :=
  (pi_tup h).imp fun σ H R ⟨κ, w, s, ok, q⟩ => ⟨κ, w, s, ok, (PostG.bindI q).imp fun v H1 ⟨d, s1, w1, le, ok1, r1, q1⟩ => by
    cases r1 with
    | @tup a vs ds e r => exact ⟨a, rfl, ⟨vs, hK ▸ SqT.le e ok1.fok.sub⟩, q1 w1 _ H1 (.refl _) ok1 (itOk_tup hK e r)⟩
    | _ => exact q1.elim⟩
/-- range -/
def rngL (lo : Int) (n : Nat) : List D := (List.range n).map fun (i : Nat) => D.int (lo + (i : Int))
theorem itOk_rng {w : Wd} (lo : Int) (n : Nat) : ItOk G w (Itr lo n) (rngL lo n) := by
  intro w1 S H le fok i
  refine ⟨fun d hd => ?_, fun hn => ?_⟩
  · unfold rngL at hd
    rw [List.getElem?_map] at hd
    by_cases c : i < n
    · rw [List.getElem?_range c] at hd
      cases hd
      refine ⟨c, fun x H' ⟨hH, hx⟩ => ⟨w1, ?_, ?_, ?_⟩⟩
      · rw [hH]; exact .refl _ _
      · rw [hH]; exact fok
      · rw [hx]; exact .int _
    · rw [List.getElem?_eq_none (by rw [List.length_range]; omega)] at hd
      cases hd
  · have := List.getElem?_eq_none_iff.mp hn
    unfold rngL at this
    rw [List.length_map, List.length_range] at this
    exact this
def itR1 (f : DA) : DA := fun s => (f s).bind fun ds s1 => match ds with
  | [.int j] => if -(2 ^ 62) ≤ j ∧ j < 2 ^ 62 then .ok (rngL 0 j.toNat) s1 else .stuck
  | _ => .stuck
def itR2 (f : DA) : DA := fun s => (f s).bind fun ds s1 => match ds with
  | [.int i, .int j] => if -(2 ^ 62) ≤ i ∧ i < 2 ^ 62 ∧ -(2 ^ 62) ≤ j ∧ j < 2 ^ 62 then .ok (rngL i (j - i).toNat) s1 else .stuck
  | _ => .stuck
theorem pdi_range1 {tg a : Expr} {f : DA} {p pos : Pos} (hg : Gl X "range") (hm : X.mg "range" = none) (ha : PDA G W X [a] f) (hs : starEach [a] X.env = [(false, eval a X.env)] := by rfl) : PDI G W X tg (.Call (.Name "range" p) [a] [] pos) (itR1 f) :=
  (pi_range1 hg hm ha hs).imp fun σ H R ⟨κ, w, s, ok, q⟩ => ⟨κ, w, s, ok, (PostG.bindI q).imp fun v H1 ⟨d, s1, w1, le, ok1, r1, q1⟩ => by
    cases r1 with
    | nil => exact q1.elim
    | cons a b =>
      cases b with
      | cons _ _ => cases a <;> exact q1.elim
      | nil =>
        cases a with
        | int j =>
          have q1 : PostI G W κ w1 σ (if -(2 ^ 62) ≤ j ∧ j < 2 ^ 62 then .ok (rngL 0 j.toNat) s1 else .stuck) R := q1
          by_cases c : -(2 ^ 62) ≤ j ∧ j < 2 ^ 62
          · rw [if_pos c] at q1
            exact ⟨j, rfl, c.1, c.2, q1 w1 _ H1 (.refl _) ok1 (itOk_rng 0 _)⟩
          · rw [if_neg c] at q1
            exact q1.elim
        | _ => exact q1.elim⟩
theorem pdi_range2 {tg a b : Expr} {f : DA} {p pos : Pos} (hg : Gl X "range") (hm : X.mg "range" = none) (ha : PDA G W X [a, b] f) (hs : starEach [a, b] X.env = [(false, eval a X.env), (false, eval b X.env)] := by rfl) (hs2 : starEach [b] X.env = [(false, eval b X.env)] := by rfl) :
    PDI G W X tg (.Call (.Name "range" p) [a, b] [] pos) (itR2 f) :=
  (pi_range2 hg hm ha hs hs2).imp fun σ H R ⟨κ, w, s, ok, q⟩ => ⟨κ, w, s, ok, (PostG.bindI q).imp fun v H1 ⟨d, s1, w1, le, ok1, r1, q1⟩ => by
    cases r1 with
    | nil => exact q1.elim
    | cons a b =>
      cases b with
      | nil => cases a <;> exact q1.elim
      | cons a2 b2 =>
        cases b2 with
        | cons _ _ => cases a <;> first | exact q1.elim | (cases a2 <;> exact q1.elim)
        | nil =>
          cases a with
          | int i =>
            cases a2 with
            | int j =>
              have q1 : PostI G W κ w1 σ (if -(2 ^ 62) ≤ i ∧ i < 2 ^ 62 ∧ -(2 ^ 62) ≤ j ∧ j < 2 ^ 62 then .ok (rngL i (j - i).toNat) s1 else .stuck) R := q1
              by_cases c : -(2 ^ 62) ≤ i ∧ i < 2 ^ 62 ∧ -(2 ^ 62) ≤ j ∧ j < 2 ^ 62
              · rw [if_pos c] at q1
                exact ⟨i, j, rfl, c, q1 w1 _ H1 (.refl _) ok1 (itOk_rng i _)⟩
              · rw [if_neg c] at q1
                exact q1.elim
            | _ => exact q1.elim
          | _ => exact q1.elim⟩
/-! ### for -/
def forL (g : DG) (b : DStm) : List D → DS → Res DS Out
  | [], s => .ok .nx s
  | d :: r, s => (noX (g d s)).bind fun _ s1 => loopOut (b s1) (forL g b r)
def sFor (it : DA) (g : DG) (b : DStm) : DStm := fun s => (it s).bind fun ds s1 => forL g b ds s1
theorem drop_get {α : Type} {l : List α} {i : Nat} {d : α} {r : List α} (h : l.drop i = d :: r) : l[i]? = some d ∧ l.drop (i + 1) = r := by
  refine ⟨?_, ?_⟩
  · have := congrArg (fun l => l[0]?) h
    simpa using this
  · have := congrArg List.tail h
    simpa using this
theorem for_of {is : List Nat} {κ : Bs} {w : Wd} {J : It} {g : DG} {b : DStm} {N : Ends} {items : List D} (hJ : ItOk G w J items) {w0 : Wd} {s : DS} {σ : L2.St} {H : Hp} (le : w.le w0) (ok : Ok G κ w0 s σ H) (q : PostS G W κ w0 (forL g b items s) N) :
    ∃ Wv : Nat → Nat → L2.St → Hp → Prop, (∃ m, Wv 0 m σ H) ∧ ∀ i m σ H, Wv i m σ H →
      (J.stop i H ∧ N.nx σ H) ∨ (J.go i H ∧ ∃ N' : L2.St → Hp → Prop, (∀ σ' H', N' σ' H' → ∃ m', m' < m ∧ Wv (i + 1) m' σ' H') ∧ ∀ x H', J.yld i H x H' → tDG G is g x σ H' fun σ2 H2 => tDS G W b { N with nx := N', ct := N', bk := N.nx } σ2 H2) := by
  refine ⟨fun i m σ H => ∃ w' s', w.le w' ∧ Ok G κ w' s' σ H ∧ (items.drop i).length = m ∧ PostS G W κ w' (forL g b (items.drop i) s') N, ⟨items.length, w0, s, le, ok, by simp, by simpa using q⟩, ?_⟩
  rintro i m σ H ⟨w', s', le', ok', hm, q'⟩
  cases e : items.drop i with
  | nil =>
    rw [e] at q'
    have hn : items[i]? = none := by
      have := congrArg (fun l => l[0]?) e
      simpa using this
    exact .inl ⟨(hJ w' _ H le' ok'.fok i).2 hn, q' w' σ H (.refl _) ok'⟩
  | cons d r =>
    rw [e] at q' hm
    obtain ⟨h1, h2⟩ := drop_get e
    obtain ⟨go, yl⟩ := (hJ w' _ H le' ok'.fok i).1 d h1
    refine .inr ⟨go, fun σ2 H2 => ∃ w2 s2, w.le w2 ∧ Ok G κ w2 s2 σ2 H2 ∧ PostS G W κ w2 (forL g b r s2) N, fun σ2 H2 ⟨w2, s2, l2, o2, q2⟩ => ?_, fun x H' hy => ?_⟩
    · refine ⟨r.length, by rw [← hm]; exact Nat.lt_succ_self _, w2, s2, l2, o2, by rw [h2], by rw [h2]; exact q2⟩
    · obtain ⟨w2, nx, fok, rx⟩ := yl x H' hy
      have ok2 := ok'.step nx fok
      refine ⟨κ, w2, s', d, ok2, rx, ?_⟩
      have q' : PostS G W κ w' ((noX (g d s')).bind fun _ s1 => loopOut (b s1) (forL g b r)) N := q'
      refine PostT.ofNoX ?_
      cases e3 : noX (g d s') with
      | stuck => rw [e3] at q'; exact q'.elim
      | exc x s' => exact absurd e3 (noX_exc _ _ _)
      | ok u s3 =>
        rw [e3] at q'
        intro w3 σ3 H3 l3 o3 _
        refine ⟨κ, w3, s3, o3, ?_⟩
        have q' : PostS G W κ w' (loopOut (b s3) (forL g b r)) N := q'
        have lw : w'.le w3 := nx.le.trans l3
        cases e4 : b s3 with
        | stuck => rw [e4] at q'; exact q'.elim
        | exc x s4 => rw [e4] at q'; exact PostS.mono (r := .exc x s4) lw q'
        | ok o s4 =>
          rw [e4] at q'
          cases o with
          | nx => exact fun w4 σ4 H4 l4 o4 => ⟨w4, s4, (le'.trans lw).trans l4, o4, PostS.mono (lw.trans l4) q'⟩
          | ct => exact fun w4 σ4 H4 l4 o4 => ⟨w4, s4, (le'.trans lw).trans l4, o4, PostS.mono (lw.trans l4) q'⟩
          | bk => exact PostS.mono (r := .ok .nx s4) lw q'
          | rt d => exact PostS.mono (r := .ok (.rt d) s4) lw q'
theorem pds_for {tg iter : Expr} {body : List Stmt} {it : DA} {is : List Nat} {g : DG} {b : DStm} {pos : Pos} (hp : PassesOwn (model X.prog X.w) X.A X.env X.xe) (hc : X.calm = true) (hi : PDI G W X tg iter it) (hg : PDG G X tg is g) (hb : PDSs G W X body b)
    (hs : ∀ x, foldedSetIterable iter X.env x = pure x := by intro _; rfl) : PDS G W X (.For tg iter body [] pos) (sFor it g b) :=
  (ps_for hp hc hi hg hb hs).imp fun N σ H ⟨κ, w, s, ok, q⟩ => ⟨κ, w, s, ok, by
    unfold sFor at q
    cases e : it s with
    | stuck => rw [e] at q; exact q.elim
    | exc x s' =>
      rw [e] at q
      exact fun w' c dd H' l o r => q w' σ c dd H' l o r
    | ok ds s' =>
      rw [e] at q
      intro w' J H' l o hJ
      exact for_of hJ (.refl _) o (PostS.mono l q)⟩
end
end DL
set_option maxRecDepth 100000
set_option maxHeartbeats 4000000
set_option autoImplicit false
namespace DL
open PySem PySem.Spec PyProof.Rows L2
/-! ### what a def promises -/
section
variable (G : Gam)
def PostF {α : Type} (rep : Wd → V → α → Prop) (w : Wd) (H : Hp) (r : Res (List Cell) α) (Q : VK) (E : XK) : Prop := match r with
  | .ok d S' => ∀ w' v H', Nx w H w' H' → FOk G w' S' H' → rep w' v d → Q v H'
  | .exc x S' => ∀ w' c dd H', Nx w H w' H' → FOk G w' S' H' → RepX G w' c dd x → E c dd H'
  | .stuck => False
def spG (n : Nat) (g : DFn) : Sp := fun vs H Q E => vs.length = n ∧ ∃ w S ds, FOk G w S H ∧ Reps G w vs ds ∧ PostF G (Rep G) w H (g ds S) Q E
end
def lift {α : Type} (s : DS) (r : Res (List Cell) α) : Res DS α := match r with
  | .ok d S' => .ok d ⟨s.sl, S'⟩
  | .exc x S' => .exc x ⟨s.sl, S'⟩
  | .stuck => .stuck
section
variable {G : Gam} {W : WX} {X : Cx}
theorem postF_of {κ : Bs} {w : Wd} {s : DS} {σ : L2.St} {H : Hp} {r : Res (List Cell) D} {Q : VK} (ok : Ok G κ w s σ H) (q : PostG G W (Rep G) κ w σ (lift s r) Q) : PostF G (Rep G) w H r Q (WE W σ) := by
  cases r with
  | ok d S' => exact fun w' v H' n f r => q w' v H' n.le (ok.step n f) r
  | exc x S' => exact fun w' c dd H' n f r => q w' c dd H' n.le (ok.step n f) r
  | stuck => exact q
theorem callD {k : Nat} {f : Addr} {fd : FuncData} {ps : List Str} {n : Nat} {g : DFn} {pins : List (Addr × Obj)} {sh : Shared} {κ : Bs} {w : Wd} {s : DS} {σ : L2.St} {H : Hp} {vs : List V} {ds : List D} {us : List Value} {Q : VK}
    (F : FnOk X.prog X.w X.K X.mg X.base (L2.CX X.prog X.w) k f fd ps (spG G n g)) (hr : Room k X.A) (hb : Binds X.K fd ps []) (tk : Takes X W) (I : Inv X pins σ H sh) (ok : Ok G κ w s σ H) (rs : Reps G w vs ds) (r : Vals vs us) (hn : ds.length = n)
    (q : PostG G W (Rep G) κ w σ (lift s (g ds s.st)) Q) : wpAny (model X.prog X.w) X.A (call (.ref f) us) (EP X pins σ Q) X.xe sh := by
  refine run_fnSD (E := WE W) (dvs := []) (ds := []) F hr hb .nil (passAt tk σ) I r ?_
  rw [List.append_nil]
  exact ⟨by rw [rs.length]; exact hn, w, s.st, ds, ok.fok, rs, postF_of ok q⟩
/-! ### f(..) -/
def eCall (n : Nat) (g : DFn) (fa : DA) : DE := fun s => (fa s).bind fun ds s1 => if ds.length = n then lift s1 (g ds s1.st) else .stuck
theorem pd_call {k : Nat} {f : Addr} {fd : FuncData} {ps : List Str} {n : Nat} {g : DFn} {x : Str} {p pos : Pos} {e : Expr} {es : List Expr} {fa : DA} (F : FnOk X.prog X.w X.K X.mg X.base (L2.CX X.prog X.w) k f fd ps (spG G n g)) (hr : Room k X.A) (hg : Gl X x) (hm : X.mg x = some (.ref f))
    (hk : PySem.W.keepIn X.K (.ref f) = true) (hb : Binds X.K fd ps []) (tk : Takes X W) (ha : PDA G W X (e :: es) fa) (hdb : (x == ("__debug__" : Str)) = false := by decide) (he : starEach (e :: es) X.env = (false, eval e X.env) :: starEach es X.env := by rfl)
    (hpl : (backTo pos (starEach es X.env)).any (·.1) = false := by rfl) : PD G W X (.Call (.Name x p) (e :: es) [] pos) (eCall n g fa) := by
  refine ⟨fun pins s σ H Q I h => ?_⟩
  obtain ⟨κ, w, ds, ok, q⟩ := h
  refine wpAny_Call_Name_kw (ld_glob I hg hm ?_ hdb)
  have hh : tDA G W fa σ H fun vs H1 => ∃ d s1 w1, w.le w1 ∧ Ok G κ w1 s1 σ H1 ∧ Reps G w1 vs d ∧ PostG G W (Rep G) κ w1 σ (if d.length = n then lift s1 (g d s1.st) else .stuck) Q := ⟨κ, w, ds, ok, PostG.bind q⟩
  refine PySem.W.callWith_K (h₀ := X.base) I.ok.mod.kin hk (thn (ha.run pos pins s σ H _ I hh) fun us s1 ⟨vs, H1, I1, r, d, s2, w1, le, ok1, rs, q1⟩ => ⟨I1.kIn, ?_⟩) he hpl
  by_cases c : d.length = n
  · rw [if_pos c] at q1
    exact callD F hr hb tk I1 ok1 rs r c q1
  · rw [if_neg c] at q1
    exact q1.elim
theorem pd_call0 {k : Nat} {f : Addr} {fd : FuncData} {ps : List Str} {g : DFn} {x : Str} {p pos : Pos} (F : FnOk X.prog X.w X.K X.mg X.base (L2.CX X.prog X.w) k f fd ps (spG G 0 g)) (hr : Room k X.A) (hg : Gl X x) (hm : X.mg x = some (.ref f))
    (hk : PySem.W.keepIn X.K (.ref f) = true) (hb : Binds X.K fd ps []) (tk : Takes X W) (hdb : (x == ("__debug__" : Str)) = false := by decide) : PD G W X (.Call (.Name x p) [] [] pos) (eCall 0 g aNil) := by
  refine ⟨fun pins s σ H Q I h => ?_⟩
  obtain ⟨κ, w, ds, ok, q⟩ := h
  refine wpAny_Call_Name_kw (ld_glob I hg hm ?_ hdb)
  exact PySem.W.callWith_K0 I.kIn hk (callD (us := []) F hr hb tk I ok .nil .nil rfl q)
/-! ### the body of a def -/
def fnD (n : Nat) (body : DStm) (m : Nat) : DFn := fun ds S => if ds.length = n then match body ⟨ds.map Sl.val ++ List.replicate m .un, S⟩ with
  | .ok (.rt d) s => .ok d s.st
  | .ok .nx s => .ok .non s.st
  | .exc x s => .exc x s.st
  | _ => .stuck
  else .stuck
theorem Ok.start {w : Wd} {S : List Cell} {H : Hp} {vs : List V} {ds : List D} (f : FOk G w S H) (r : Reps G w vs ds) (m : Nat) : Ok G ⟨w, H, [], none⟩ w ⟨ds.map Sl.val ++ List.replicate m .un, S⟩ (vs.map some ++ List.replicate m none) H := by
  have no : ∀ (i : Nat) (x : Sl), (ds.map Sl.val ++ List.replicate m Sl.un)[i]? = some x → x.own = false := fun i x e => by
    have hx := List.mem_of_getElem? e
    rcases List.mem_append.mp hx with h | h
    · obtain ⟨d, _, rfl⟩ := List.mem_map.mp h
      rfl
    · rw [(List.mem_replicate.mp h).2]
      rfl
  refine ⟨f, .refl _ _, by simp [r.length], fun i d e => ?_, fun i x e o => ?_, fun i j x y a e1 e2 o1 o2 _ _ => ?_, fun p hp => by simp at hp, fun a z => nomatch z⟩
  · by_cases c : i < ds.length
    · have e1 : (ds.map Sl.val ++ List.replicate m Sl.un)[i]? = some (.val d) := e
      rw [List.getElem?_append_left (by rw [List.length_map]; exact c), List.getElem?_map] at e1
      cases q : ds[i]? with
      | none => rw [q] at e1; cases e1
      | some d' =>
        rw [q] at e1
        cases e1
        obtain ⟨v, h1, h2⟩ := r.get q
        refine ⟨v, ?_, h2⟩
        rw [List.getElem?_append_left (by rw [List.length_map, r.length]; exact c), List.getElem?_map, h1]
        rfl
    · have e1 : (ds.map Sl.val ++ List.replicate m Sl.un)[i]? = some (.val d) := e
      rw [List.getElem?_append_right (by rw [List.length_map]; omega), List.getElem?_replicate] at e1
      split at e1 <;> cases e1
  · rw [no i x e] at o; cases o
  · rw [no i x e1] at o1; cases o1
theorem start_eq {N : List Str} {vs : List V} {m : Nat} (h : N.length - vs.length = m) : L2.start N vs = vs.map some ++ List.replicate m none := by
  unfold L2.start
  rw [h]
theorem fn_okD {P : Program} {w0 : World} {mg : Str → Option Value} {base : Heap} {x qual : Str} {st : Stmt} {f : Addr} {fd : FuncData} {N ps : List Str} {k n m : Nat} {body : DStm} (F : Fun G.K x qual st f fd) (S : FnScope N ps (defScope st)) (hn : ps.length = n) (hm : N.length - n = m)
    (hbody : ∀ (cdv : Value) (A : Around) (outer : List Env) (s : Shared) (H : Hp) (E : XK), Room k (A.deeper (envOfC qual (defScope st) s.heap.objs.size f cdv)) →
      Takes (cxOf (L2.CX P w0) P w0 G.K mg base N qual (defScope st) f cdv A outer s H E) (fun c d _ H => E c d H) → PassesOwn (model P w0) (A.deeper (envOfC qual (defScope st) s.heap.objs.size f cdv)) (envOfC qual (defScope st) s.heap.objs.size f cdv) (cxOf (L2.CX P w0) P w0 G.K mg base N qual (defScope st) f cdv A outer s H E).xe →
      PDSs G (fun c d _ H => E c d H) (cxOf (L2.CX P w0) P w0 G.K mg base N qual (defScope st) f cdv A outer s H E) (defBody st) body) : FnOk P w0 G.K mg base (L2.CX P w0) (k + 1) f fd ps (spG G n (fnD n body m)) := by
  refine F.okX S (fun vs H Q E h => by rw [h.1, hn]) fun cdv A outer s H vs Q E hr h => ?_
  refine ⟨_, hbody cdv A outer s H E hr (takes_of rfl rfl rfl rfl) (passes_of rfl), ?_⟩
  obtain ⟨hl, w, S', ds, fok, rs, q⟩ := h
  have hd : ds.length = n := by rw [← rs.length]; exact hl
  unfold fnD at q
  rw [if_pos hd] at q
  rw [start_eq (m := m) (by rw [hl]; exact hm)]
  refine ⟨⟨w, H, [], none⟩, w, _, Ok.start fok rs m, ?_⟩
  cases e : body ⟨ds.map Sl.val ++ List.replicate m .un, S'⟩ with
  | stuck => rw [e] at q; exact q.elim
  | exc x s' =>
    rw [e] at q
    exact fun w' σ' c dd H' l o r => q w' c dd H' o.nx o.fok r
  | ok o s' =>
    rw [e] at q
    cases o with
    | nx => exact fun w' σ' H' l o => q w' .non H' o.nx o.fok .non
    | bk => exact q.elim
    | ct => exact q.elim
    | rt d => exact fun w' σ' v H' l o r => q w' v H' o.nx o.fok r
/-! ### attributes -/
def insOf (d : D) (s : DS) : Option (String × List (Nm × D)) := match d with
  | .ins c fs => some (c, fs)
  | .cell n => match s.st[n]? with
    | some (.obj c fs) => some (c, fs)
    | _ => none
  | _ => none
theorem Rep.ins_of {κ : Bs} {w : Wd} {s : DS} {σ : L2.St} {H : Hp} {v : V} {d : D} {c : String} {fs : List (Nm × D)} (r : Rep G w v d) (ok : Ok G κ w s σ H) (h : insOf d s = some (c, fs)) : ∃ a C dx vs, v = .ref a ∧ G.ct c = some C ∧ H a = some (.ins C dx vs) ∧ RepF G w vs fs := by
  cases r with
  | @ins a C dx c' vs ds e1 e2 e3 =>
    have h : some (c', ds) = some (c, fs) := h
    cases h
    exact ⟨a, C, dx, vs, rfl, e1, ok.fok.sub _ _ e2, e3⟩
  | @cell a n e =>
    unfold insOf at h
    cases q : s.st[n]? with
    | none => simp [q] at h
    | some c' =>
      cases c' with
      | obj cc ff =>
        simp only [q] at h
        cases h
        obtain ⟨C, dx, vs, h1, h2, h3⟩ := ok.fok.cel n a _ e q
        exact ⟨a, C, dx, vs, rfl, h1, h2, h3⟩
      | _ => simp [q] at h
  | _ => exact nomatch h
def eFld (cs : List String) (fn : Nm) (f : DE) : DE := fun s => (f s).bind fun d s1 => match insOf d s1 with
  | some (c, fs) => if c ∈ cs then match fs.lookup fn with
    | some x => .ok x s1
    | none => .stuck
    else .stuck
  | none => .stuck
/-- what of the text the classes must have for an attribute -/
def FldOk (G : Gam) (cs : List String) (fn : Nm) : Prop := ∀ c ∈ cs, ∀ C, G.ct c = some C → Cls G.K C ∧ NoAttr G.K C (nm fn)
theorem pd_fld (hK : G.K = X.K) {cs : List String} {fn : Nm} {f : DE} {e : Expr} {x : Str} {pos : Pos} (hx : x = nm fn) (ho : FldOk G cs fn) (h : PD G W X e f) (hb : attributeBase e x X.env (eval e X.env) = eval e X.env := by rfl) : PD G W X (.Attribute e x pos) (eFld cs fn f) :=
  (pe_fld h hb).imp fun σ H Q ⟨κ, w, s, ok, q⟩ => ⟨κ, w, s, ok, (PostG.bind q).imp fun v H1 ⟨d, s1, w1, le, ok1, r1, q1⟩ => by
    cases e1 : insOf d s1 with
    | none => rw [e1] at q1; exact q1.elim
    | some p =>
      obtain ⟨c, fs⟩ := p
      rw [e1] at q1
      obtain ⟨a, C, dx, vs, ev, hC, hH, rf⟩ := r1.ins_of ok1 e1
      have q1 : PostG G W (Rep G) κ w1 σ (if c ∈ cs then match fs.lookup fn with | some x => .ok x s1 | none => .stuck else .stuck) Q := q1
      by_cases hc : c ∈ cs
      · rw [if_pos hc] at q1
        cases e2 : fs.lookup fn with
        | none => rw [e2] at q1; exact q1.elim
        | some z =>
          rw [e2] at q1
          obtain ⟨y, h1, h2⟩ := rf.look e2
          obtain ⟨cl, na⟩ := ho c hc C hC
          refine ⟨a, C, dx, vs, y, ev, hH, hK ▸ cl, by rw [hx]; exact hK ▸ na, by rw [hx]; exact h1, q1 w1 y H1 (.refl _) ok1 h2⟩
      · rw [if_neg hc] at q1
        exact q1.elim⟩
/-! ### o.m(..) -/
def eMeth (c : String) (m : Nm) (n : Nat) (g : DFn) (fo : DE) (fa : DA) : DE := fun s => (fo s).bind fun d s1 => match insOf d s1 with
  | some (c', fs) => if c' = c ∧ fs.lookup m = none then (fa s1).bind fun ds s2 => if ds.length + 1 = n then lift s2 (g (d :: ds) s2.st) else .stuck
    else .stuck
  | none => .stuck
theorem pd_meth (hK : G.K = X.K) {c : String} {mn : Nm} {n : Nat} {g : DFn} {fo : DE} {fa : DA} {C f : Addr} {m : Str} {k : Nat} {fd : FuncData} {ps : List Str} {o e : Expr} {es : List Expr} {apos pos : Pos} {pl : Sem Bool} (he : PD G W X o fo) (hC : G.ct c = some C) (cl : Cls X.K C) (hmn : m = nm mn) (hm : Meth X.K C m f)
    (F : FnOk X.prog X.w X.K X.mg X.base (L2.CX X.prog X.w) k f fd ps (spG G n g)) (hr : Room k X.A) (hb : Binds X.K fd ps []) (tk : Takes X W) (ha : PDA G W X (e :: es) fa)
    (hst : starEach (e :: es) X.env = (false, eval e X.env) :: starEach es X.env := by rfl) (hpl : (backTo pos (starEach es X.env)).any (·.1) = false := by rfl)
    (ht : eval (.Call (.Attribute o m apos) (e :: es) [] pos) X.env = (do
      let ov ← eval o X.env
      standAt apos.atName
      let (f, first) ← holding [ov] (getMethod ov m pl)
      callWith pos f first (backTo pos (starEach (e :: es) X.env)) (backToKw pos (keywordEach [] X.env))) := by rfl) :
    PD G W X (.Call (.Attribute o m apos) (e :: es) [] pos) (eMeth c mn n g fo fa) := by
  refine ⟨fun pins sh σ H Q I h => ?_⟩
  obtain ⟨κ, w, s, ok, q⟩ := h
  have hh : tD G W fo σ H fun v H1 => ∃ d s1 w1, w.le w1 ∧ Ok G κ w1 s1 σ H1 ∧ Rep G w1 v d ∧ PostG G W (Rep G) κ w1 σ (match insOf d s1 with
    | some (c', fs) => if c' = c ∧ fs.lookup mn = none then (fa s1).bind fun ds s2 => if ds.length + 1 = n then lift s2 (g (d :: ds) s2.st) else .stuck else .stuck
    | none => .stuck) Q := ⟨κ, w, s, ok, PostG.bind q⟩
  refine PySem.W.methodCall_KW (pl := pl) (thn (he.run pins sh σ H _ I hh) fun u s1 ⟨x, H1, I1, rx, d, t1, w1, le, ok1, r1, q1⟩ => ?_) ht
  cases e1 : insOf d t1 with
  | none => rw [e1] at q1; exact q1.elim
  | some p =>
    obtain ⟨c', fs⟩ := p
    rw [e1] at q1
    replace q1 : PostG G W (Rep G) κ w1 σ (if c' = c ∧ fs.lookup mn = none then (fa t1).bind fun ds s2 => if ds.length + 1 = n then lift s2 (g (d :: ds) s2.st) else .stuck else .stuck) Q := q1
    by_cases hc : c' = c ∧ fs.lookup mn = none
    · rw [if_pos hc] at q1
      obtain ⟨rfl, hl⟩ := hc
      obtain ⟨a, C', dx, vs, ev, hC', hH, rf⟩ := r1.ins_of ok1 e1
      rw [hC] at hC'
      cases hC'
      subst ev
      obtain rfl : u = Value.ref a := rx
      have hl2 : vs.lookup m = none := by rw [hmn]; exact rf.none hl
      refine getmeth_ok I1 hH cl hm hl2 ?_
      have hh2 : tDA G W fa σ H1 fun vs H2 => ∃ ds s2 w2, w1.le w2 ∧ Ok G κ w2 s2 σ H2 ∧ Reps G w2 vs ds ∧ PostG G W (Rep G) κ w2 σ (if ds.length + 1 = n then lift s2 (g (d :: ds) s2.st) else .stuck) Q := ⟨κ, w1, t1, ok1, PostG.bind q1⟩
      refine PySem.W.callWith_K (first := [.ref a]) (h₀ := X.base) I.ok.mod.kin hm.kp (thn (ha.run pos pins s1 σ H1 _ I1 hh2) fun us s2 ⟨vs2, H2, I2, r2, ds, t2, w2, le2, ok2, rs2, q2⟩ => ⟨I2.kIn, ?_⟩) hst hpl
      by_cases c3 : ds.length + 1 = n
      · rw [if_pos c3] at q2
        exact callD (us := .ref a :: us) (vs := .ref a :: vs2) (ds := d :: ds) F hr hb tk I2 ok2 (.cons (r1.mono le2) rs2) (.cons rfl r2) c3 q2
      · rw [if_neg c3] at q2
        exact q2.elim
    · rw [if_neg hc] at q1
      exact q1.elim
theorem pd_meth0 (hK : G.K = X.K) {c : String} {mn : Nm} {n : Nat} {g : DFn} {fo : DE} {C f : Addr} {m : Str} {k : Nat} {fd : FuncData} {ps : List Str} {o : Expr} {apos pos : Pos} {pl : Sem Bool} (he : PD G W X o fo) (hC : G.ct c = some C) (cl : Cls X.K C) (hmn : m = nm mn) (hm : Meth X.K C m f)
    (F : FnOk X.prog X.w X.K X.mg X.base (L2.CX X.prog X.w) k f fd ps (spG G n g)) (hr : Room k X.A) (hb : Binds X.K fd ps []) (tk : Takes X W)
    (ht : eval (.Call (.Attribute o m apos) [] [] pos) X.env = (do
      let ov ← eval o X.env
      standAt apos.atName
      let (f, first) ← holding [ov] (getMethod ov m pl)
      callWith pos f first (backTo pos (starEach [] X.env)) (backToKw pos (keywordEach [] X.env))) := by rfl) :
    PD G W X (.Call (.Attribute o m apos) [] [] pos) (eMeth c mn n g fo aNil) := by
  refine ⟨fun pins sh σ H Q I h => ?_⟩
  obtain ⟨κ, w, s, ok, q⟩ := h
  have hh : tD G W fo σ H fun v H1 => ∃ d s1 w1, w.le w1 ∧ Ok G κ w1 s1 σ H1 ∧ Rep G w1 v d ∧ PostG G W (Rep G) κ w1 σ (match insOf d s1 with
    | some (c', fs) => if c' = c ∧ fs.lookup mn = none then (aNil s1).bind fun ds s2 => if ds.length + 1 = n then lift s2 (g (d :: ds) s2.st) else .stuck else .stuck
    | none => .stuck) Q := ⟨κ, w, s, ok, PostG.bind q⟩
  refine PySem.W.methodCall_KW (pl := pl) (thn (he.run pins sh σ H _ I hh) fun u s1 ⟨x, H1, I1, rx, d, t1, w1, le, ok1, r1, q1⟩ => ?_) ht
  cases e1 : insOf d t1 with
  | none => rw [e1] at q1; exact q1.elim
  | some p =>
    obtain ⟨c', fs⟩ := p
    rw [e1] at q1
    replace q1 : PostG G W (Rep G) κ w1 σ (if c' = c ∧ fs.lookup mn = none then (if 0 + 1 = n then lift t1 (g [d] t1.st) else .stuck) else .stuck) Q := q1
    by_cases hc : c' = c ∧ fs.lookup mn = none
    · rw [if_pos hc] at q1
      obtain ⟨rfl, hl⟩ := hc
      obtain ⟨a, C', dx, vs, ev, hC', hH, rf⟩ := r1.ins_of ok1 e1
      rw [hC] at hC'
      cases hC'
      subst ev
      obtain rfl : u = Value.ref a := rx
      have hl2 : vs.lookup m = none := by rw [hmn]; exact rf.none hl
      refine getmeth_ok I1 hH cl hm hl2 ?_
      by_cases c3 : 0 + 1 = n
      · rw [if_pos c3] at q1
        exact PySem.W.callWith_K0 (first := [.ref a]) I1.kIn hm.kp (callD (us := [.ref a]) (vs := [.ref a]) (ds := [d]) F hr hb tk I1 ok1 (.cons r1 .nil) (.cons rfl .nil) c3 q1)
      · rw [if_neg c3] at q1
        exact q1.elim
    · rw [if_neg hc] at q1
      exact q1.elim
/-! ### C(..): an instance of one's own class is made -/
abbrev DIn := List D → List Cell → Res (List Cell) (List (Nm × D))
def erase (H : Hp) (x : Addr) : Hp := fun a => if a = x then none else H a
def spI (G : Gam) (c : String) (n : Nat) (g : DIn) : Sp := fun vs H Q E => vs.length = n + 1 ∧ ∃ w S ds x vs' C dx, vs = .ref x :: vs' ∧ G.ct c = some C ∧ H x = some (.ins C dx []) ∧ FOk G w S H ∧ w.F x = none ∧ x ∉ w.ρ ∧ Reps G w vs' ds ∧
  match g ds S with
  | .ok fs S' => ∀ w' H' vfs dx', Nx w (erase H x) w' H' → FOk G w' S' H' → H' x = some (.ins C dx' vfs) → RepF G w' vfs fs → w'.F x = none → x ∉ w'.ρ → Q .non H'
  | .exc x' S' => ∀ w' cc dd H', Nx w (erase H x) w' H' → FOk G w' S' H' → RepX G w' cc dd x' → E cc dd H'
  | .stuck => False
def inFin (c : String) (s : DS) : Res (List Cell) (List (Nm × D)) := match (s.sl[0]? : Option Sl) with
  | some (.oi c' fs) => if c' = c then .ok fs s.st else .stuck
  | _ => .stuck
def inD (c : String) (n : Nat) (body : DStm) (m : Nat) : DIn := fun ds S => if ds.length = n then
  match body ⟨.oi c [] :: ds.map Sl.val ++ List.replicate m .un, S⟩ with
  | .ok (.rt .non) s => inFin c s
  | .ok .nx s => inFin c s
  | .exc x s => .exc x s.st
  | _ => .stuck
  else .stuck
theorem Ok.startI {w : Wd} {S : List Cell} {H : Hp} {vs : List V} {ds : List D} {x C dx : Addr} {c : String} (f : FOk G w S H) (r : Reps G w vs ds) (m : Nat) (hC : G.ct c = some C) (hx : H x = some (.ins C dx [])) (nF : w.F x = none) (nR : x ∉ w.ρ) :
    Ok G ⟨w, erase H x, [], some x⟩ w ⟨.oi c [] :: ds.map Sl.val ++ List.replicate m .un, S⟩ (some (.ref x) :: vs.map some ++ List.replicate m none) H := by
  have base := Ok.start f r m
  have no : ∀ (i : Nat) (y : Sl), (ds.map Sl.val ++ List.replicate m Sl.un)[i]? = some y → y.own = false := fun i y e => by
    have hx := List.mem_of_getElem? e
    rcases List.mem_append.mp hx with h | h
    · obtain ⟨d, _, rfl⟩ := List.mem_map.mp h
      rfl
    · rw [(List.mem_replicate.mp h).2]
      rfl
  refine ⟨f, ⟨.refl _, fun a o e _ => ?_, fun a h => .inl h, fun a h => .inl h⟩, by simp [r.length], fun i d e => ?_, fun i y e o => ?_, fun i j y z a e1 e2 o1 o2 _ _ => ?_, fun p hp => by simp at hp, fun a z c' fs' _ => by cases z; rfl⟩
  · have e : (if a = x then none else H a) = some o := e
    split at e
    · cases e
    · exact e
  · cases i with
    | zero => cases e
    | succ i => exact base.val i d e
  · cases i with
    | zero =>
      cases e
      exact ⟨x, rfl, ⟨C, dx, [], hC, hx, .nil⟩, nF, nR, by show (if x = x then none else H x) = none; rw [if_pos rfl]⟩
    | succ i =>
      rw [no i y e] at o
      cases o
  · cases i with
    | zero =>
      cases j with
      | zero => rfl
      | succ j => rw [no j z e2] at o2; cases o2
    | succ i => rw [no i y e1] at o1; cases o1
theorem in_okD {P : Program} {w0 : World} {mg : Str → Option Value} {base : Heap} {x qual : Str} {st : Stmt} {f : Addr} {fd : FuncData} {N ps : List Str} {c : String} {k n m : Nat} {body : DStm} (F : Fun G.K x qual st f fd) (S : FnScope N ps (defScope st)) (hn : ps.length = n + 1) (hm : N.length - (n + 1) = m)
    (hbody : ∀ (cdv : Value) (A : Around) (outer : List Env) (s : Shared) (H : Hp) (E : XK), Room k (A.deeper (envOfC qual (defScope st) s.heap.objs.size f cdv)) →
      Takes (cxOf (L2.CX P w0) P w0 G.K mg base N qual (defScope st) f cdv A outer s H E) (fun c d _ H => E c d H) → PassesOwn (model P w0) (A.deeper (envOfC qual (defScope st) s.heap.objs.size f cdv)) (envOfC qual (defScope st) s.heap.objs.size f cdv) (cxOf (L2.CX P w0) P w0 G.K mg base N qual (defScope st) f cdv A outer s H E).xe →
      PDSs G (fun c d _ H => E c d H) (cxOf (L2.CX P w0) P w0 G.K mg base N qual (defScope st) f cdv A outer s H E) (defBody st) body) : FnOk P w0 G.K mg base (L2.CX P w0) (k + 1) f fd ps (spI G c n (inD c n body m)) := by
  refine F.okX S (fun vs H Q E h => by rw [h.1, hn]) fun cdv A outer s H vs Q E hr h => ?_
  refine ⟨_, hbody cdv A outer s H E hr (takes_of rfl rfl rfl rfl) (passes_of rfl), ?_⟩
  obtain ⟨hl, w, S', ds, xa, vs', C, dx, ev, hC, hx, fok, nF, nR, rs, q⟩ := h
  subst ev
  have hl' : vs'.length = n := by simpa using hl
  have hd : ds.length = n := by rw [← rs.length]; exact hl'
  unfold inD at q
  rw [if_pos hd] at q
  rw [start_eq (m := m) (by rw [List.length_cons, hl']; exact hm)]
  refine ⟨⟨w, erase H xa, [], some xa⟩, w, _, Ok.startI fok rs m hC hx nF nR, ?_⟩
  have fin : ∀ (w' : Wd) (σ' : L2.St) (H' : Hp) (s' : DS), Ok G ⟨w, erase H xa, [], some xa⟩ w' s' σ' H' →
      (match inFin c s' with
        | .ok fs S' => ∀ w' H' vfs dx', Nx w (erase H xa) w' H' → FOk G w' S' H' → H' xa = some (.ins C dx' vfs) → RepF G w' vfs fs → w'.F xa = none → xa ∉ w'.ρ → Q .non H'
        | .exc x' S' => ∀ w' cc dd H', Nx w (erase H xa) w' H' → FOk G w' S' H' → RepX G w' cc dd x' → E cc dd H'
        | .stuck => False) → Q .non H' := fun w' σ' H' s' o q => by
    unfold inFin at q
    cases e0 : s'.sl[0]? with
    | none => rw [e0] at q; exact q.elim
    | some y =>
      rw [e0] at q
      cases y with
      | oi c' fs =>
        by_cases hc : c' = c
        · subst hc
          simp only [if_true] at q
          have h0 := o.me xa rfl _ _ e0
          obtain ⟨a, h1, ⟨C', dx', vfs, hC', hH, rf⟩, h3, h4, _⟩ := o.own 0 _ e0 rfl
          rw [h0] at h1
          cases h1
          rw [hC] at hC'
          cases hC'
          exact q w' H' vfs dx' o.nx o.fok hH rf h3 h4
        · simp only [if_neg hc] at q
      | _ => exact q.elim
  cases e : body ⟨.oi c [] :: ds.map Sl.val ++ List.replicate m .un, S'⟩ with
  | stuck => rw [e] at q; exact q.elim
  | exc x s' =>
    rw [e] at q
    exact fun w' σ' c dd H' l o r => q w' c dd H' o.nx o.fok r
  | ok o s' =>
    rw [e] at q
    cases o with
    | nx => exact fun w' σ' H' l o => fin w' σ' H' s' o q
    | bk => exact q.elim
    | ct => exact q.elim
    | rt d =>
      intro w' σ' v H' l o r
      cases r with
      | non => exact fin w' σ' H' s' o q
      | _ => exact q.elim
/-- what of the text a class must have to be made -/
theorem makeD {c : String} {n k : Nat} {g : DIn} {C f : Addr} {fd : FuncData} {ps : List Str} {pins : List (Addr × Obj)} {sh : Shared} {κ : Bs} {w : Wd} {s : DS} {σ : L2.St} {H : Hp} {vs : List V} {ds : List D} {us : List Value} {Q : VK} (M : Mk X.K C f) (hC : G.ct c = some C)
    (F : FnOk X.prog X.w X.K X.mg X.base (L2.CX X.prog X.w) k f fd ps (spI G c n g)) (hr : Room (k + 1) X.A) (hb : Binds X.K fd ps []) (tk : Takes X W) (I : Inv X pins σ H sh) (ok : Ok G κ w s σ H) (rs : Reps G w vs ds) (r : Vals vs us) (hn : ds.length = n)
    (q : PostG G W (Rep G) κ w σ ((lift s (g ds s.st)).bind fun fs s1 => .ok (.ins c fs) s1) Q) : wpAny (model X.prog X.w) X.A (call (.ref C) us) (EP X pins σ Q) X.xe sh := by
  have key : ∀ x dx, H x = none → H dx = none → dx ≠ x → spI G c n g (.ref x :: (vs ++ [])) (upd (upd H dx (.own x)) x (.ins C dx [])) (fun v H2 => v = .non ∧ Q (.ref x) H2) (WE W σ) := fun x dx nx ndx ne => by
    have o1 := ok.fresh ndx (.own x)
    have nx1 : upd H dx (.own x) x = none := by rw [upd_ne (Ne.symm ne)]; exact nx
    have o2 := o1.fresh nx1 (.ins C dx [])
    obtain ⟨g1, g2, g3, g4, g5⟩ := o2.gam (x, .ins C dx []) List.mem_cons_self
    have kx : ∀ a o, H a = some o → erase (upd (upd H dx (.own x)) x (.ins C dx [])) x a = some o := fun a o e => by
      have h1 : a ≠ x := ne_of_none e nx
      have h2 : a ≠ dx := ne_of_none e ndx
      show (if a = x then none else _) = some o
      rw [if_neg h1, upd_ne h1, upd_ne h2]
      exact e
    have bk : ∀ a, erase (upd (upd H dx (.own x)) x (.ins C dx [])) x a = none → H a = none := fun a e => by
      cases e2 : H a with
      | none => rfl
      | some o => rw [kx a o e2] at e; cases e
    refine ⟨by rw [List.append_nil, List.length_cons, rs.length, hn], w, s.st, ds, x, vs, C, dx, by rw [List.append_nil], hC, g1, o2.fok, g2, g3, rs, ?_⟩
    cases e : g ds s.st with
    | stuck => rw [e] at q; exact q.elim
    | exc x' S' =>
      rw [e] at q
      exact fun w' cc dd H' nn f' r => q w' cc dd H' nn.le (ok.step ⟨nn.le, fun a o e1 e2 => nn.keep a o (kx a o e1) e2, fun a h => (nn.newF a h).imp_right (bk a), fun a h => (nn.newR a h).imp_right (bk a)⟩ f') r
    | ok fs S' =>
      rw [e] at q
      intro w' H' vfs dx' nn f' hx rf hF hR
      refine ⟨rfl, ?_⟩
      have N1 : Nx w H w' H' := ⟨nn.le, fun a o e1 e2 => nn.keep a o (kx a o e1) e2, fun a h => (nn.newF a h).imp_right (bk a), fun a h => (nn.newR a h).imp_right (bk a)⟩
      have o3 : Ok G (κ.plus x (.ins C dx' vfs)) w' ⟨s.sl, S'⟩ σ H' := by
        have o3 := ok.step N1 f'
        refine ⟨o3.fok, o3.nx, o3.len, o3.val, o3.own, o3.ne, fun p hp => ?_, o3.me⟩
        rcases List.mem_cons.mp hp with rfl | hp
        · exact ⟨hx, hF, hR, g4, g5⟩
        · exact o3.gam p hp
      obtain ⟨le, o4⟩ := o3.frz fun p hp => ne_of_none (ok.gam p hp).1 nx
      exact q _ _ _ (nn.le.trans le) o4 (.ins hC upd_same (rf.mono le))
  have hx : PassesAt (L2.CX X.prog X.w) X σ (WE W σ) := passAt tk σ
  have hq := key (sh.heap.objs.size + 1) sh.heap.objs.size (I.hok.fresh (Nat.le_succ _)) (I.hok.fresh (Nat.le_refl _)) (Nat.ne_of_lt (Nat.lt_succ_self _))
  have I2 := Inv.made (C := C) I
  have r2 : Vals (V.ref (sh.heap.objs.size + 1) :: (vs ++ [])) (Value.ref (sh.heap.objs.size + 1) :: (us ++ [])) := .cons rfl (r.append .nil)
  have hl : (Value.ref (sh.heap.objs.size + 1) :: us ++ []).length = ps.length := by
    have e := r2.length
    rw [F.len _ _ _ _ hq] at e
    exact e.symm
  refine wpAny_call (make_map (f := f) I.kIn M.makes M.init (beq_iff_eq.mp M.fn) (codeAny_mono (F.run _ X.stack _ _ ⟨Value.ref (sh.heap.objs.size + 1) :: us, []⟩ (Value.ref (sh.heap.objs.size + 1) :: (us ++ [])) _ _ (WE W σ) (hr.make C us [])
    (I2.env0.make C us []) (by
      have hbb := hb _ (Value.ref (sh.heap.objs.size + 1) :: us) I2.kIn hl
      rw [List.cons_append] at hbb
      exact hbb) r2 hq) fun r s' hq' => ?_))
  cases r with
  | error e => exact hx pins _ _ e s' I2 hq'
  | ok fl =>
    cases fl with
    | ret u =>
      obtain ⟨v, H', I3, rv, ev, q3⟩ := I2.after hq'
      subst ev
      exact ⟨rv, ⟨V.ref (sh.heap.objs.size + 1), H', I3, rfl, q3⟩⟩
    | next => exact False.elim hq'
    | brk => exact False.elim hq'
    | cont => exact False.elim hq'
def eMake (c : String) (n : Nat) (g : DIn) (fa : DA) : DE := fun s => (fa s).bind fun ds s1 => if ds.length = n then (lift s1 (g ds s1.st)).bind fun fs s2 => .ok (.ins c fs) s2 else .stuck
theorem pd_make {c : String} {n k : Nat} {g : DIn} {C f : Addr} {fd : FuncData} {ps : List Str} {x : Str} {p pos : Pos} {e : Expr} {es : List Expr} {fa : DA} (M : Mk X.K C f) (hC : G.ct c = some C) (F : FnOk X.prog X.w X.K X.mg X.base (L2.CX X.prog X.w) k f fd ps (spI G c n g)) (hr : Room (k + 1) X.A) (hg : Gl X x)
    (hm : X.mg x = some (.ref C)) (hb : Binds X.K fd ps []) (tk : Takes X W) (ha : PDA G W X (e :: es) fa) (hdb : (x == ("__debug__" : Str)) = false := by decide) (he : starEach (e :: es) X.env = (false, eval e X.env) :: starEach es X.env := by rfl)
    (hpl : (backTo pos (starEach es X.env)).any (·.1) = false := by rfl) : PD G W X (.Call (.Name x p) (e :: es) [] pos) (eMake c n g fa) := by
  refine ⟨fun pins s σ H Q I h => ?_⟩
  obtain ⟨κ, w, ds, ok, q⟩ := h
  refine wpAny_Call_Name_kw (ld_glob I hg hm ?_ hdb)
  have hh : tDA G W fa σ H fun vs H1 => ∃ d s1 w1, w.le w1 ∧ Ok G κ w1 s1 σ H1 ∧ Reps G w1 vs d ∧ PostG G W (Rep G) κ w1 σ (if d.length = n then (lift s1 (g d s1.st)).bind fun fs s2 => .ok (.ins c fs) s2 else .stuck) Q := ⟨κ, w, ds, ok, PostG.bind q⟩
  refine PySem.W.callWith_K (h₀ := X.base) I.ok.mod.kin M.kp (thn (ha.run pos pins s σ H _ I hh) fun us s1 ⟨vs, H1, I1, r, d, s2, w1, le, ok1, rs, q1⟩ => ⟨I1.kIn, ?_⟩) he hpl
  by_cases c : d.length = n
  · rw [if_pos c] at q1
    exact makeD M hC F hr hb tk I1 ok1 rs r c q1
  · rw [if_neg c] at q1
    exact q1.elim
/-! ### self.f = e -/
def sFldO (c : String) (i : Nat) (fn : Nm) (f : DE) : DStm := fun s => (f s).bind fun d s1 => match s1.sl[i]? with
  | some (.oi c' fs) => if c' = c ∧ fs.length < 1000 then .ok .nx ⟨s1.sl.set i (.oi c (putN fn d fs)), s1.st⟩ else .stuck
  | _ => .stuck
theorem RepF.put {w : Wd} {y : V} {d : D} {fn : Nm} (r : Rep G w y d) : ∀ {v : List (Str × V)} {ds : List (Nm × D)}, RepF G w v ds → RepF G w (putF (nm fn) y v) (putN fn d ds)
  | _, _, .nil => .cons r .nil
  | _, _, .cons (f := g) a b => by
    unfold putF putN
    by_cases h : g = fn
    · subst h
      rw [if_pos rfl]
      simp only [if_true]
      first
        | exact .cons r b
        | (split <;> first | exact .cons r b | (rename_i q; exact absurd rfl q))
    · have h2 : nm g ≠ nm fn := fun q => h (nm_inj q)
      rw [if_neg h]
      split
      · rename_i q; exact absurd q h2
      · exact .cons a (RepF.put r b)
theorem pds_fld (hK : G.K = X.K) {c : String} {C : Addr} {i : Nat} {fn : Nm} {f : DE} {x y : Str} {p pos' pos : Pos} {value : Expr} (ho : PE X (.Name y p) (tVar i)) (hx : x = nm fn) (hC : G.ct c = some C) (cl : Cls X.K C) (na : NoAttr X.K C x) (hv : PD G W X value f)
    (hs : swapsWith value (some (.Attribute (.Name y p) x pos')) pos.line X.env = pure false := by rfl) : PDS G W X (.Assign [.Attribute (.Name y p) x pos'] value pos) (sFldO c i fn f) :=
  (ps_fld ho hv hs).imp fun N σ H ⟨κ, w, s, ok, q⟩ => ⟨κ, w, s, ok, (PostG.bindS q).imp fun v H1 ⟨d, s1, w1, le, ok1, r1, q1⟩ => by
    cases e : s1.sl[i]? with
    | none => rw [e] at q1; exact q1.elim
    | some z =>
      rw [e] at q1
      cases z with
      | oi c' fs =>
        replace q1 : PostS G W κ w1 (if c' = c ∧ fs.length < 1000 then .ok .nx ⟨s1.sl.set i (.oi c (putN fn d fs)), s1.st⟩ else .stuck) N := q1
        by_cases hc : c' = c ∧ fs.length < 1000
        · rw [if_pos hc] at q1
          obtain ⟨rfl, hl⟩ := hc
          obtain ⟨a, h1, ⟨C', dx, vs, hC', hH, rf⟩, _⟩ := ok1.own i _ e rfl
          rw [hC] at hC'
          cases hC'
          refine ⟨_, h1, a, C, dx, vs, rfl, hH, cl, na, by rw [rf.length]; exact hl, ?_⟩
          refine q1 w1 σ _ (.refl _) (ok1.mut e rfl rfl h1 ⟨C, dx, _, hC, upd_same, ?_⟩ fun _ _ _ => ⟨_, _, rfl⟩)
          rw [hx]
          exact RepF.put r1 rf
        · rw [if_neg hc] at q1
          exact q1.elim
      | _ => exact q1.elim⟩
end
end DL
set_option maxRecDepth 100000
set_option maxHeartbeats 4000000
set_option autoImplicit false
namespace DL
open PySem PySem.Spec PyProof.Rows L2
section
variable {G : Gam} {W : WX} {X : Cx}
/-! ### operators that may call -/
abbrev DO2 := D → D → DS → Res DS D
def OpX (G : Gam) (W : WX) (X : Cx) (f : Value → Value → Sem Value) (o : DO2) : Prop := ∀ (pins : List (Addr × Obj)) (sh : Shared) (σ : L2.St) (H : Hp) (x y : V) (v u : Value) (κ : Bs) (w : Wd) (s : DS) (dx dy : D) (Q : VK),
  Inv X pins σ H sh → RelV x v → RelV y u → Ok G κ w s σ H → Rep G w x dx → Rep G w y dy → PostG G W (Rep G) κ w σ (o dx dy s) Q → wpAny (model X.prog X.w) X.A (f v u) (EP X pins σ Q) X.xe sh
def eOpX (o : DO2) (fa fb : DE) : DE := fun s => (fa s).bind fun x s1 => (fb s1).bind fun y s2 => o x y s2
def liftO (o : D → D → Option D) : DO2 := fun x y s => match o x y with
  | some d => .ok d s
  | none => .stuck
theorem OpD.x {f : Value → Value → Sem Value} {o : D → D → Option D} (h : OpD G X f o) : OpX G W X f (liftO o) := by
  obtain ⟨r, h1, h2⟩ := h
  intro pins sh σ H x y v u κ w s dx dy Q I rx ry ok dx' dy' q
  unfold liftO at q
  cases e : o dx dy with
  | none => rw [e] at q; exact q.elim
  | some z => rw [e] at q; exact h1 pins sh σ H x y v u Q I rx ry (h2 κ w s σ H x y dx dy z Q ok dx' dy' e q)
def orO (o o' : DO2) : DO2 := fun x y s => match o x y s with
  | .stuck => o' x y s
  | r => r
theorem OpX.or {f : Value → Value → Sem Value} {o o' : DO2} (h : OpX G W X f o) (h' : OpX G W X f o') : OpX G W X f (orO o o') := by
  intro pins sh σ H x y v u κ w s dx dy Q I rx ry ok dx' dy' q
  unfold orO at q
  cases e : o dx dy s with
  | stuck => rw [e] at q; exact h' pins sh σ H x y v u κ w s dx dy Q I rx ry ok dx' dy' q
  | exc a b => rw [e] at q; exact h pins sh σ H x y v u κ w s dx dy Q I rx ry ok dx' dy' (by rw [e]; exact q)
  | ok a b => rw [e] at q; exact h pins sh σ H x y v u κ w s dx dy Q I rx ry ok dx' dy' (by rw [e]; exact q)
theorem opX_run {o : DO2} {fa fb : DE} {a b : Expr} (ha : PD G W X a fa) (hb : PD G W X b fb) {f : Value → Value → Sem Value} (ho : OpX G W X f o) {pins : List (Addr × Obj)} {sh : Shared} {σ : L2.St} {H : Hp} {Q : VK} (I : Inv X pins σ H sh) (h : tD G W (eOpX o fa fb) σ H Q) :
    wpAny (model X.prog X.w) X.A (eval a X.env) (fun v s₁ => wpAny (model X.prog X.w) X.A (eval b X.env) (fun u s₂ => wpAny (model X.prog X.w) X.A (f v u) (EP X pins σ Q) X.xe s₂) X.xe s₁) X.xe sh := by
  obtain ⟨κ, w, s, ok, q⟩ := h
  have hh : tD G W fa σ H fun v H1 => tD G W fb σ H1 fun u H2 => ∃ d s1 w1, Ok G κ w1 s1 σ H2 ∧ ∃ d1, Rep G w1 v d1 ∧ Rep G w1 u d ∧ PostG G W (Rep G) κ w1 σ (o d1 d s1) Q :=
    ⟨κ, w, s, ok, (PostG.bind q).imp fun v H1 ⟨d, s1, w1, le, ok1, r1, q1⟩ => ⟨κ, w1, s1, ok1, (PostG.bind q1).imp fun u H2 ⟨d2, s2, w2, le2, ok2, r2, q2⟩ => ⟨d2, s2, w2, ok2, d, r1.mono le2, r2, q2⟩⟩⟩
  refine bin ha hb I (R := fun x y H2 => ∃ d s1 w1, Ok G κ w1 s1 σ H2 ∧ ∃ d1, Rep G w1 x d1 ∧ Rep G w1 y d ∧ PostG G W (Rep G) κ w1 σ (o d1 d s1) Q) hh fun v u s2 x y H2 I2 rx ry ⟨d, s1, w1, ok1, d1, r1, r2, q2⟩ => ?_
  exact ho pins s2 σ H2 x y v u κ w1 s1 d1 d Q I2 rx ry ok1 r1 r2 q2
theorem pd_opX {op : Operator} {o : DO2} {a b : Expr} {fa fb : DE} {pos : Pos} (ho : OpX G W X (binaryOp op) o) (ha : PD G W X a fa) (hb : PD G W X b fb) : PD G W X (.BinOp a op b pos) (eOpX o fa fb) :=
  ⟨fun pins s σ H Q I h => wpAny_BinOp (opX_run ha hb ho I h)⟩
theorem pd_cmpX {op : CmpOp} {o : DO2} {a b : Expr} {fa fb : DE} {pos : Pos} (ho : OpX G W X (compareOp op) o) (ha : PD G W X a fa) (hb : PD G W X b fb) (hm : behindInMarks op b = false) : PD G W X (.Compare a [op] [b] pos) (eOpX o fa fb) :=
  ⟨fun pins s σ H Q I h => wpAny_Compare1 (opX_run ha hb ho I h) hm⟩
/-! ### truth -/
def truD (d : D) : Option Bool := match d with
  | .non => some false
  | .bl b => some b
  | .int i => some (i != 0)
  | .str l => if l.length ≤ 16777216 then some ((l.length : Int) != 0) else none
  | .tup xs => some (!xs.isEmpty)
  | .lst xs => some (!xs.isEmpty)
  | .scr xs => some (!xs.isEmpty)
  | .dic xs => some (!xs.isEmpty)
  | _ => none
theorem Reps.isEmpty {w : Wd} {vs : List V} {ds : List D} (r : Reps G w vs ds) : vs.isEmpty = ds.isEmpty := by cases r <;> rfl
theorem RepK.isEmpty {w : Wd} {vs : List (Key × V)} {ds : List (DK × D)} (r : RepK G w vs ds) : vs.isEmpty = ds.isEmpty := by cases r <;> rfl
theorem nm_len (l : Nm) : (nm l).length = l.length := by simp [nm, Str.length]
theorem truV_of (hK : G.K = X.K) {κ : Bs} {w : Wd} {s : DS} {σ : L2.St} {H : Hp} {v : V} {d : D} {k : Bool} (ok : Ok G κ w s σ H) (r : Rep G w v d) (h : truD d = some k) : TruV X.K v H k := by
  cases r with
  | non => cases h; rfl
  | bl b => cases h; rfl
  | int i => cases h; rfl
  | str l =>
    have h : (if l.length ≤ 16777216 then some ((l.length : Int) != 0) else none) = some k := h
    split at h
    · rename_i c
      cases h
      exact ⟨by rw [nm_len, sizeLine_eq]; exact c, by rw [nm_len]⟩
    · cases h
  | @tup a vs ds e r => cases h; exact .inr (.inl ⟨vs, hK ▸ SqT.le e ok.fok.sub, by rw [r.isEmpty]⟩)
  | @lst a vs ds e r => cases h; exact .inl ⟨vs, .inl (.inl (ok.fok.sub _ _ e)), by rw [r.isEmpty]⟩
  | @scr a vs ds e r => cases h; exact .inl ⟨vs, hK ▸ SqL.le e ok.fok.sub, by rw [r.isEmpty]⟩
  | @dic a vs ds e r => cases h; exact .inr (.inr ⟨vs, ok.fok.sub _ _ e, by rw [r.isEmpty]⟩)
  | _ => cases h
def eTru (f : DE) : DT := fun s => (f s).bind fun d s1 => match truD d with
  | some b => .ok b s1
  | none => .stuck
theorem ptd_truth (hK : G.K = X.K) {e : Expr} {f : DE} (h : PD G W X e f) (he : ∀ whole, isTrue e X.env whole = (do let v ← whole; standAt e.pos; holding [v] (truthy v)) := by intro _; rfl) : PDT G W X e (eTru f) :=
  (pt_truth h he).imp fun σ H Q ⟨κ, w, s, ok, q⟩ => ⟨κ, w, s, ok, (PostG.bind q).imp fun v H1 ⟨d, s1, w1, le, ok1, r1, q1⟩ => by
    cases e1 : truD d with
    | none => rw [e1] at q1; exact q1.elim
    | some k => rw [e1] at q1; exact ⟨k, truV_of hK ok1 r1 e1, q1 w1 k H1 (.refl _) ok1 rfl⟩⟩
theorem ptd_cmpX {op : CmpOp} {o : DO2} {a b : Expr} {fa fb : DE} {pos : Pos} (ho : OpX G W X (compareOp op) o) (ha : PD G W X a fa) (hb : PD G W X b fb) (hm : behindInMarks op b = false) : PDT G W X (.Compare a [op] [b] pos) (eB (eOpX o fa fb)) :=
  ⟨fun pins s σ H Q I h => by
    have hh := tB_of h
    refine wpAny_isTrue_Compare1 (thn (opX_run ha hb ho I hh) fun v s1 h1 => thn h1 fun u s2 h2 => thn h2 fun c s3 ⟨x, H1, I1, r1, q1⟩ => ?_) hm
    obtain ⟨d, rfl, q⟩ := q1
    cases r1
    exact wpAny_truthy_bool ⟨H1, I1, q⟩⟩
/-- x or y, x and y by truth, as values -/
def eOrT (f g : DE) : DE := fun s => (f s).bind fun d s1 => match truD d with
  | some b => if b = true then .ok d s1 else g s1
  | none => .stuck
def eAndT (f g : DE) : DE := fun s => (f s).bind fun d s1 => match truD d with
  | some b => if b = true then g s1 else .ok d s1
  | none => .stuck
def eNotT (f : DE) : DE := fun s => (f s).bind fun d s1 => match truD d with
  | some b => .ok (.bl (!b)) s1
  | none => .stuck
theorem pd_orT (hK : G.K = X.K) {a b : Expr} {r : List Expr} {f g : DE} {pos : Pos} (h : PD G W X a f) (k : PD G W X (.BoolOp .Or (b :: r) pos) g) : PD G W X (.BoolOp .Or (a :: b :: r) pos) (eOrT f g) :=
  (pe_orT h k).imp fun σ H Q ⟨κ, w, s, ok, q⟩ => ⟨κ, w, s, ok, (PostG.bind q).imp fun v H1 ⟨d, s1, w1, le, ok1, r1, q1⟩ => by
    cases e1 : truD d with
    | none => rw [e1] at q1; exact q1.elim
    | some k =>
      rw [e1] at q1
      refine ⟨k, truV_of hK ok1 r1 e1, ?_⟩
      cases k with
      | true => exact q1 w1 v H1 (.refl _) ok1 r1
      | false => exact ⟨κ, w1, s1, ok1, q1⟩⟩
theorem pd_andT (hK : G.K = X.K) {a b : Expr} {r : List Expr} {f g : DE} {pos : Pos} (h : PD G W X a f) (k : PD G W X (.BoolOp .And (b :: r) pos) g) : PD G W X (.BoolOp .And (a :: b :: r) pos) (eAndT f g) :=
  (pe_andT h k).imp fun σ H Q ⟨κ, w, s, ok, q⟩ => ⟨κ, w, s, ok, (PostG.bind q).imp fun v H1 ⟨d, s1, w1, le, ok1, r1, q1⟩ => by
    cases e1 : truD d with
    | none => rw [e1] at q1; exact q1.elim
    | some k =>
      rw [e1] at q1
      refine ⟨k, truV_of hK ok1 r1 e1, ?_⟩
      cases k with
      | false => exact q1 w1 v H1 (.refl _) ok1 r1
      | true => exact ⟨κ, w1, s1, ok1, q1⟩⟩
theorem pd_notT (hK : G.K = X.K) {a : Expr} {f : DE} {pos : Pos} (h : PD G W X a f) : PD G W X (.UnaryOp .Not a pos) (eNotT f) :=
  (pe_notT h).imp fun σ H Q ⟨κ, w, s, ok, q⟩ => ⟨κ, w, s, ok, (PostG.bind q).imp fun v H1 ⟨d, s1, w1, le, ok1, r1, q1⟩ => by
    cases e1 : truD d with
    | none => rw [e1] at q1; exact q1.elim
    | some k => rw [e1] at q1; exact ⟨k, truV_of hK ok1 r1 e1, q1 w1 _ H1 (.refl _) ok1 (.bl _)⟩⟩
/-! ### ints -/
def dI (g : Int → Int → Option D) : D → D → Option D := fun x y => match x, y with
  | .int i, .int j => g i j
  | _, _ => none
theorem opd_I {f : Value → Value → Sem Value} {C : Int → Int → Prop} {gv : Int → Int → V} {g : Int → Int → Option D} (h : OpR X f (rI C gv)) (hg : ∀ i j d, g i j = some d → C i j ∧ ∀ w, Rep G w (gv i j) d) : OpD G X f (dI g) :=
  ⟨_, h, fun κ w s σ H x y dx dy d Q ok rx ry e q => by
    cases rx with
    | int i =>
      cases ry with
      | int j =>
        obtain ⟨c, r⟩ := hg _ _ _ e
        exact ⟨_, _, rfl, rfl, c, q w _ H (.refl _) ok (r w)⟩
      | _ => exact nomatch e
    | _ => exact nomatch e⟩
theorem opd_I0 {f : Value → Value → Sem Value} {gv : Int → Int → V} {g : Int → Int → Option D} (h : OpR X f (rI0 gv)) (hg : ∀ i j d, g i j = some d → ∀ w, Rep G w (gv i j) d) : OpD G X f (dI g) :=
  ⟨_, h, fun κ w s σ H x y dx dy d Q ok rx ry e q => by
    cases rx with
    | int i =>
      cases ry with
      | int j => exact ⟨_, _, rfl, rfl, q w _ H (.refl _) ok (hg _ _ _ e w)⟩
      | _ => exact nomatch e
    | _ => exact nomatch e⟩
/-- a bound on the bits that products may have -/
def mulOk (i j : Int) : Bool := decide (i.natAbs.log2 + j.natAbs.log2 < 100000000)
def divOk (j : Int) : Bool := decide (j ≠ 0 ∧ j.natAbs.log2 < 9000)
def iAdd : D → D → Option D := dI fun i j => some (.int (i + j))
def iSub : D → D → Option D := dI fun i j => some (.int (i - j))
def iMul : D → D → Option D := dI fun i j => if mulOk i j then some (.int (i * j)) else none
def iDiv : D → D → Option D := dI fun i j => if divOk j then some (.int (i.fdiv j)) else none
def iMod : D → D → Option D := dI fun i j => if j ≠ 0 then some (.int (i.fmod j)) else none
def iPow : D → D → Option D := dI fun i j => if 0 ≤ j ∧ j ≤ 1000000 ∧ i.natAbs < 2 ^ 64 then some (.int (i ^ j.toNat)) else none
def iShl : D → D → Option D := dI fun i j => if 0 ≤ j ∧ j ≤ 1000000 ∧ i.natAbs < 2 ^ 64 then some (.int (i * 2 ^ j.toNat)) else none
def iLt : D → D → Option D := dI fun i j => some (.bl (decide (i < j)))
def iLe : D → D → Option D := dI fun i j => some (.bl (decide (i ≤ j)))
def iGt : D → D → Option D := dI fun i j => some (.bl (decide (j < i)))
def iGe : D → D → Option D := dI fun i j => some (.bl (decide (j ≤ i)))
theorem opd_add : OpD G X (binaryOp .Add) iAdd := opd_I0 op_add fun i j d e w => by cases e; exact .int _
theorem opd_sub : OpD G X (binaryOp .Sub) iSub := opd_I0 op_sub fun i j d e w => by cases e; exact .int _
def CMulX (i j : Int) : Prop := i.natAbs.log2 + j.natAbs.log2 < 100000000
theorem CMulX.ok {i j : Int} (h : CMulX i j) : IntMulOk i j := by
  have b : ∀ x : Int, Builtin.Int.intBits x ≤ x.natAbs.log2 + 1 := fun x => by
    unfold Builtin.Int.intBits
    split <;> omega
  have h1 := b i
  have h2 := b j
  have h3 : i.natAbs.log2 + j.natAbs.log2 < 100000000 := h
  have e : bitsLine = 134217728 := by decide
  unfold IntMulOk
  intro z
  rw [Bool.and_eq_true] at z
  have z2 := z.2
  unfold Builtin.Int.intTooBig at z2
  have z3 := of_decide_eq_true z2
  rw [e] at z3
  omega
theorem op_mulX : OpR X (binaryOp .Mult) (rI CMulX fun i j => .int (i * j)) := opI fun _ _ _ _ _ _ _ hc q => mul_int q hc.ok
theorem opd_mul : OpD G X (binaryOp .Mult) iMul := opd_I op_mulX fun i j d e => by
  split at e
  · rename_i h
    cases e
    have h : decide (i.natAbs.log2 + j.natAbs.log2 < 100000000) = true := h
    exact ⟨(of_decide_eq_true h : i.natAbs.log2 + j.natAbs.log2 < 100000000), fun w => .int _⟩
  · cases e
theorem op_fdivX : OpR X (binaryOp .FloorDiv) (rI (fun _ j => j ≠ 0 ∧ j.natAbs.log2 < 9000) fun i j => .int (i.fdiv j)) := opI fun _ _ _ _ _ _ _ hc q => floordiv_int hc.1 q (.inl (PyProof.noPylong_of_log2 hc.2))
theorem opd_div : OpD G X (binaryOp .FloorDiv) iDiv := opd_I op_fdivX fun i j d e => by
  split at e
  · rename_i h
    cases e
    exact ⟨of_decide_eq_true h, fun w => .int _⟩
  · cases e
theorem opd_mod : OpD G X (binaryOp .Mod) iMod := opd_I op_modN fun i j d e => by
  split at e
  · rename_i h
    cases e
    exact ⟨h, fun w => .int _⟩
  · cases e
theorem opd_pow : OpD G X (binaryOp .Pow) iPow := opd_I op_pow fun i j d e => by
  split at e
  · rename_i h
    cases e
    exact ⟨h, fun w => .int _⟩
  · cases e
theorem opd_shl : OpD G X (binaryOp .LShift) iShl := opd_I op_shl fun i j d e => by
  split at e
  · rename_i h
    cases e
    exact ⟨h, fun w => .int _⟩
  · cases e
theorem opd_lt : OpD G X (compareOp .Lt) iLt := opd_I0 op_lt fun i j d e w => by cases e; exact .bl _
theorem opd_le : OpD G X (compareOp .LtE) iLe := opd_I0 op_le fun i j d e w => by cases e; exact .bl _
theorem opd_gt : OpD G X (compareOp .Gt) iGt := opd_I0 op_gt fun i j d e w => by cases e; exact .bl _
theorem opd_ge : OpD G X (compareOp .GtE) iGe := opd_I0 op_ge fun i j d e w => by cases e; exact .bl _
def eNeg (f : DE) : DE := fun s => (f s).bind fun d s1 => match d with
  | .int i => .ok (.int (-i)) s1
  | _ => .stuck
theorem pd_neg {a : Expr} {f : DE} {pos : Pos} (h : PD G W X a f) : PD G W X (.UnaryOp .USub a pos) (eNeg f) :=
  (pe_un un_neg h).imp fun σ H Q ⟨κ, w, s, ok, q⟩ => ⟨κ, w, s, ok, (PostG.bind q).imp fun v H1 ⟨d, s1, w1, le, ok1, r1, q1⟩ => by
    cases r1 with
    | int i => exact ⟨i, rfl, q1 w1 _ H1 (.refl _) ok1 (.int _)⟩
    | _ => exact q1.elim⟩
/-! ### sequences: +, * -/
def sAdd : D → D → Option D := fun x y => match x, y with
  | .str a, .str b => if a.length + b.length ≤ 1000000 then some (.str (a ++ b)) else none
  | .tup a, .tup b => if a ≠ [] ∧ b ≠ [] ∧ a.length + b.length ≤ 1000000 then some (.tup (a ++ b)) else none
  | _, _ => none
theorem nm_append (a b : Nm) : nm a ++ nm b = nm (a ++ b) := by
  show Str.mk _ = _
  simp [nm]
theorem opd_sadd (hK : G.K = X.K) : OpD G X (binaryOp .Add) sAdd := ⟨_, op_add_str.or op_catT, fun κ w s σ H x y dx dy d Q ok rx ry e q => by
  cases rx with
  | str a =>
    cases ry with
    | str b =>
      left
      have e : (if a.length + b.length ≤ 1000000 then some (D.str (a ++ b)) else none) = some d := e
      split at e
      · rename_i c
        cases e
        refine ⟨nm a, nm b, rfl, rfl, by rw [nm_len, nm_len, sizeLine_eq]; omega, ?_⟩
        rw [nm_append]
        exact q w _ H (.refl _) ok (.str _)
      · cases e
    | _ => exact nomatch e
  | @tup a vs ds e1 r1 =>
    cases ry with
    | @tup a2 vs2 ds2 e2 r2 =>
      right
      have e : (if ds ≠ [] ∧ ds2 ≠ [] ∧ ds.length + ds2.length ≤ 1000000 then some (D.tup (ds ++ ds2)) else none) = some d := e
      split at e
      · rename_i c
        cases e
        have n1 : vs ≠ [] := fun z => c.1 (by subst z; cases r1; rfl)
        have n2 : vs2 ≠ [] := fun z => c.2.1 (by subst z; cases r2; rfl)
        refine ⟨a, a2, vs, vs2, rfl, rfl, hK ▸ SqT.le e1 ok.fok.sub, hK ▸ SqT.le e2 ok.fok.sub, n1, by rw [r1.length, r2.length, sizeLine_eq]; omega, ?_⟩
        first
          | exact ⟨fun z => absurd z n2, fun p hp => by
              obtain ⟨le2, ok2⟩ := ok.alloc hp (.tup (vs ++ vs2))
              exact q _ _ _ le2 ok2 (.tup (.inl (.inl upd_same)) ((r1.append r2).mono le2))⟩
          | exact ⟨fun z => absurd z n2, fun _ p hp => by
              obtain ⟨le2, ok2⟩ := ok.alloc hp (.tup (vs ++ vs2))
              exact q _ _ _ le2 ok2 (.tup (.inl (.inl upd_same)) ((r1.append r2).mono le2))⟩
      · cases e
    | _ => exact nomatch e
  | _ => exact nomatch e⟩
/-- a + b of lists: a new list -/
def aCat (fa fb : DE) : DA := fun s => (fa s).bind fun x s1 => (fb s1).bind fun y s2 => match x, y with
  | .lst a, .lst b => if a.length + b.length ≤ 1000000 then .ok (a ++ b) s2 else .stuck
  | _, _ => .stuck
theorem pdo_cat {a b : Expr} {fa fb : DE} {pos : Pos} (ha : PD G W X a fa) (hb : PD G W X b fb) : PDo G W X (.BinOp a .Add b pos) (aCat fa fb) :=
  (pe_op op_cat ha hb).imp fun σ H Q ⟨κ, w, s, ok, q⟩ => ⟨κ, w, s, ok, (PostG.bindO q).imp fun v H1 ⟨d, s1, w1, le, ok1, r1, q1⟩ => ⟨κ, w1, s1, ok1, (PostG.bindO q1).imp fun v2 H2 ⟨d2, s2, w2, le2, ok2, r2, q2⟩ => by
    cases r1 with
    | @lst p vs ds e1 r1 =>
      cases r2 with
      | @lst p2 vs2 ds2 e2 r2 =>
        replace q2 : PostO G W κ w2 σ (if ds.length + ds2.length ≤ 1000000 then .ok (ds ++ ds2) s2 else .stuck) Q := q2
        split at q2
        · refine ⟨p, p2, vs, vs2, rfl, rfl, ok2.fok.sub _ _ (le2.f _ _ e1), ok2.fok.sub _ _ e2, by rw [r1.length, r2.length, sizeLine_eq]; omega, fun p hp => ?_⟩
          exact q2 w2 p _ _ (.refl _) (ok2.fresh hp _) (ok2.apart hp) ((r1.mono le2).append r2)
        · exact q2.elim
      | _ => exact q2.elim
    | _ => exact q2.elim⟩⟩
/-- list * int: a new list -/
def aRep (fa fb : DE) : DA := fun s => (fa s).bind fun x s1 => (fb s1).bind fun y s2 => match x, y with
  | .lst a, .int k => if -(2 ^ 63) ≤ k ∧ k < 2 ^ 63 ∧ a.length * k.toNat ≤ 1000000 then .ok (List.replicate k.toNat a).flatten s2 else .stuck
  | _, _ => .stuck
theorem Reps.rep {w : Wd} {vs : List V} {ds : List D} (r : Reps G w vs ds) : ∀ k : Nat, Reps G w (List.replicate k vs).flatten (List.replicate k ds).flatten
  | 0 => .nil
  | k + 1 => by
    rw [List.replicate_succ, List.replicate_succ, List.flatten_cons, List.flatten_cons]
    exact r.append (Reps.rep r k)
/-! ### subscripts -/
def ixD (d : D) (i : Int) : Option D := match d with
  | .tup xs => atI xs i
  | .lst xs => atI xs i
  | .scr xs => atI xs i
  | .str l => if l.length ≤ 16777216 then (atI l i).map fun c => .str [c] else none
  | _ => none
def eIx (fa fb : DE) : DE := fun s => (fa s).bind fun x s1 => (fb s1).bind fun y s2 => match y with
  | .int i => match ixD x i with
    | some d => .ok d s2
    | none => .stuck
  | _ => .stuck
theorem Reps.atI {w : Wd} {vs : List V} {ds : List D} {i : Int} {d : D} (r : Reps G w vs ds) (h : L2.atI ds i = some d) : ∃ v, L2.atI vs i = some v ∧ Rep G w v d := by
  unfold L2.atI at h ⊢
  rw [r.length]
  cases e : ixN ds.length i with
  | none => rw [e] at h; cases h
  | some j =>
    rw [e] at h
    obtain ⟨v, h1, h2⟩ := r.get (i := j) h
    exact ⟨v, h1, h2⟩
theorem pd_ix (hK : G.K = X.K) {a b : Expr} {fa fb : DE} {pos : Pos} (ha : PD G W X a fa) (hb : PD G W X b fb) (hs : PlainIx b) : PD G W X (.Subscript a b pos) (eIx fa fb) :=
  (pe_ix ix_seq ha hb hs).imp fun σ H Q ⟨κ, w, s, ok, q⟩ => ⟨κ, w, s, ok, (PostG.bind q).imp fun v H1 ⟨d, s1, w1, le, ok1, r1, q1⟩ => ⟨κ, w1, s1, ok1, (PostG.bind q1).imp fun v2 H2 ⟨d2, s2, w2, le2, ok2, r2, q2⟩ => by
    cases r2 with
    | int i =>
      replace q2 : PostG G W (Rep G) κ w2 σ (match ixD d i with | some d => .ok d s2 | none => .stuck) Q := q2
      cases e : ixD d i with
      | none => rw [e] at q2; exact q2.elim
      | some z =>
        rw [e] at q2
        cases r1 with
        | @tup p vs ds e1 r1 =>
          obtain ⟨y, h1, h2⟩ := Reps.atI r1 e
          exact .inr (.inl ⟨p, vs, i, y, rfl, rfl, hK ▸ SqT.le (SqT.le e1 le2.f) ok2.fok.sub, h1, q2 w2 y H2 (.refl _) ok2 (h2.mono le2)⟩)
        | @lst p vs ds e1 r1 =>
          obtain ⟨y, h1, h2⟩ := Reps.atI r1 e
          exact .inl ⟨p, vs, i, y, rfl, rfl, .inl (.inl (ok2.fok.sub _ _ (le2.f _ _ e1))), h1, q2 w2 y H2 (.refl _) ok2 (h2.mono le2)⟩
        | @scr p vs ds e1 r1 =>
          obtain ⟨y, h1, h2⟩ := Reps.atI r1 e
          exact .inl ⟨p, vs, i, y, rfl, rfl, hK ▸ SqL.le (SqL.le e1 le2.f) ok2.fok.sub, h1, q2 w2 y H2 (.refl _) ok2 (h2.mono le2)⟩
        | str l =>
          have e : (if l.length ≤ 16777216 then (L2.atI l i).map fun c => D.str [c] else none) = some z := e
          split at e
          · rename_i hl
            cases e3 : L2.atI l i with
            | none => simp [e3] at e
            | some c =>
              simp only [e3, Option.map_some, Option.some.injEq] at e
              subst e
              refine .inr (.inr ⟨nm l, i, c, rfl, rfl, by rw [nm_len, sizeLine_eq]; exact hl, by simpa [nm] using e3, ?_⟩)
              exact q2 w2 _ H2 (.refl _) ok2 (.str [c])
          · cases e
        | _ => exact nomatch e
    | _ => exact q2.elim⟩⟩
end
end DL
set_option maxRecDepth 100000
set_option maxHeartbeats 4000000
set_option autoImplicit false
namespace DL
open PySem PySem.Spec PyProof.Rows L2
section
variable {G : Gam} {W : WX} {X : Cx}
/-! ### built-ins by name -/
def CallD (G : Gam) (X : Cx) (f : Value) (o : List D → Option D) : Prop := ∃ r, CallR X f r ∧ ∀ (κ : Bs) (w : Wd) (s : DS) (σ : L2.St) (H : Hp) (vs : List V) (ds : List D) (d : D) (Q : VK),
  Ok G κ w s σ H → Reps G w vs ds → o ds = some d → (∀ w' v H', w.le w' → Ok G κ w' s σ H' → Rep G w' v d → Q v H') → r vs H Q
def eCB (o : List D → Option D) (fa : DA) : DE := fun s => (fa s).bind fun ds s1 => match o ds with
  | some d => .ok d s1
  | none => .stuck
theorem cb_of {o : List D → Option D} {r : List V → Hp → VK → Prop} {fa : DA} {σ : L2.St} {H : Hp} {Q : VK} (h2 : ∀ (κ : Bs) (w : Wd) (s : DS) (σ : L2.St) (H : Hp) (vs : List V) (ds : List D) (d : D) (Q : VK),
    Ok G κ w s σ H → Reps G w vs ds → o ds = some d → (∀ w' v H', w.le w' → Ok G κ w' s σ H' → Rep G w' v d → Q v H') → r vs H Q) (h : tD G W (eCB o fa) σ H Q) : tCB r (tDA G W fa) σ H Q := by
  obtain ⟨κ, w, s, ok, q⟩ := h
  refine ⟨κ, w, s, ok, (PostG.bind q).imp fun v H1 ⟨d, s1, w1, le, ok1, r1, q1⟩ => ?_⟩
  cases e : o d with
  | none => rw [e] at q1; exact q1.elim
  | some z => rw [e] at q1; exact h2 κ w1 s1 σ H1 v d z Q ok1 r1 e q1
theorem pd_callB {x : Str} {id : String} {p pos : Pos} {e : Expr} {es : List Expr} {fa : DA} {o : List D → Option D} (hc : CallD G X (.builtin id) o) (hg : Gl X x) (hm : X.mg x = none) (hv : bootBuiltins x = some (.builtin id)) (ha : PDA G W X (e :: es) fa) (hn : x ≠ "__name__" := by decide)
    (hdb : (x == ("__debug__" : Str)) = false := by decide) (he : starEach (e :: es) X.env = (false, eval e X.env) :: starEach es X.env := by rfl) (hpl : (backTo pos (starEach es X.env)).any (·.1) = false := by rfl) : PD G W X (.Call (.Name x p) (e :: es) [] pos) (eCB o fa) := by
  obtain ⟨r, h1, h2⟩ := hc
  exact (pe_callB h1 hg hm hv ha hn hdb he hpl).imp fun σ H Q h => cb_of h2 h
theorem pd_callTy {x : Str} {T : String} {p pos : Pos} {e : Expr} {es : List Expr} {fa : DA} {o : List D → Option D} (hc : CallD G X (.type T) o) (hg : Gl X x) (hm : X.mg x = none) (hv : bootBuiltins x = some (.type T)) (ha : PDA G W X (e :: es) fa) (hn : x ≠ "__name__" := by decide)
    (hdb : (x == ("__debug__" : Str)) = false := by decide) (he : starEach (e :: es) X.env = (false, eval e X.env) :: starEach es X.env := by rfl) (hpl : (backTo pos (starEach es X.env)).any (·.1) = false := by rfl) : PD G W X (.Call (.Name x p) (e :: es) [] pos) (eCB o fa) := by
  obtain ⟨r, h1, h2⟩ := hc
  exact (pe_callTy h1 hg hm hv ha hn hdb he hpl).imp fun σ H Q h => cb_of h2 h
theorem Reps.one {w : Wd} {vs : List V} {d : D} (r : Reps G w vs [d]) : ∃ v, vs = [v] ∧ Rep G w v d := by
  cases r with
  | cons a b => cases b; exact ⟨_, rfl, a⟩
theorem Reps.two {w : Wd} {vs : List V} {d d' : D} (r : Reps G w vs [d, d']) : ∃ v v', vs = [v, v'] ∧ Rep G w v d ∧ Rep G w v' d' := by
  cases r with
  | cons a b =>
    cases b with
    | cons a2 b2 => cases b2; exact ⟨_, _, rfl, a, a2⟩
def bLen : List D → Option D
  | [.tup xs] => some (.int xs.length)
  | [.lst xs] => some (.int xs.length)
  | [.scr xs] => some (.int xs.length)
  | [.str l] => if l.length ≤ 16777216 then some (.int l.length) else none
  | _ => none
theorem cd_len (hK : G.K = X.K) : CallD G X (.builtin "len") bLen := ⟨_, call_len, fun κ w s σ H vs ds d Q ok rs e q => by
  match ds, e with
  | [.tup xs], e =>
    cases e
    obtain ⟨v, rfl, r⟩ := rs.one
    cases r with
    | @tup a vs ds e r => exact ⟨_, _, rfl, .inr ⟨vs, hK ▸ SqT.le e ok.fok.sub, rfl⟩, by rw [r.length]; exact q w _ H (.refl _) ok (.int _)⟩
  | [.lst xs], e =>
    cases e
    obtain ⟨v, rfl, r⟩ := rs.one
    cases r with
    | @lst a vs ds e r => exact ⟨_, _, rfl, .inl ⟨vs, .inl (.inl (ok.fok.sub _ _ e)), rfl⟩, by rw [r.length]; exact q w _ H (.refl _) ok (.int _)⟩
  | [.scr xs], e =>
    cases e
    obtain ⟨v, rfl, r⟩ := rs.one
    cases r with
    | @scr a vs ds e r => exact ⟨_, _, rfl, .inl ⟨vs, hK ▸ SqL.le e ok.fok.sub, rfl⟩, by rw [r.length]; exact q w _ H (.refl _) ok (.int _)⟩
  | [.str l], e =>
    have e : (if l.length ≤ 16777216 then some (D.int l.length) else none) = some d := e
    split at e
    · rename_i c
      cases e
      obtain ⟨v, rfl, r⟩ := rs.one
      cases r
      exact ⟨_, _, rfl, ⟨by rw [nm_len, sizeLine_eq]; exact c, rfl⟩, by rw [nm_len]; exact q w _ H (.refl _) ok (.int _)⟩
    · cases e⟩
def bInt : List D → Option D
  | [.int i] => some (.int i)
  | [.bl b] => some (.int (if b then 1 else 0))
  | _ => none
theorem cd_int : CallD G X (.type "int") bInt := ⟨_, call_int1, fun κ w s σ H vs ds d Q ok rs e q => by
  match ds, e with
  | [.int i], e =>
    cases e
    obtain ⟨v, rfl, r⟩ := rs.one
    cases r
    exact .inl ⟨i, rfl, q w _ H (.refl _) ok (.int _)⟩
  | [.bl b], e =>
    cases e
    obtain ⟨v, rfl, r⟩ := rs.one
    cases r
    exact .inr ⟨b, rfl, q w _ H (.refl _) ok (.int _)⟩⟩
def bAbs : List D → Option D
  | [.int i] => some (.int (if i < 0 then -i else i))
  | _ => none
theorem cd_abs : CallD G X (.builtin "abs") bAbs := ⟨_, call_abs, fun κ w s σ H vs ds d Q ok rs e q => by
  match ds, e with
  | [.int i], e =>
    cases e
    obtain ⟨v, rfl, r⟩ := rs.one
    cases r
    exact ⟨i, rfl, q w _ H (.refl _) ok (.int _)⟩⟩
def bMax2 : List D → Option D
  | [.int i, .int j] => some (.int (if j > i then j else i))
  | _ => none
def bMin2 : List D → Option D
  | [.int i, .int j] => some (.int (if j < i then j else i))
  | _ => none
theorem cd_max2 (hc : X.calm = true) : CallD G X (.builtin "max") bMax2 := ⟨_, call_max2 hc, fun κ w s σ H vs ds d Q ok rs e q => by
  match ds, e with
  | [.int i, .int j], e =>
    cases e
    obtain ⟨v, v', rfl, r, r'⟩ := rs.two
    cases r
    cases r'
    exact ⟨i, j, rfl, q w _ H (.refl _) ok (.int _)⟩⟩
theorem cd_min2 (hc : X.calm = true) : CallD G X (.builtin "min") bMin2 := ⟨_, call_min2 hc, fun κ w s σ H vs ds d Q ok rs e q => by
  match ds, e with
  | [.int i, .int j], e =>
    cases e
    obtain ⟨v, v', rfl, r, r'⟩ := rs.two
    cases r
    cases r'
    exact ⟨i, j, rfl, q w _ H (.refl _) ok (.int _)⟩⟩
def intsOf : List D → Option (List Int)
  | [] => some []
  | .int i :: r => (intsOf r).map (i :: ·)
  | _ => none
theorem intsOf_eq : ∀ {ds : List D} {ns : List Int}, intsOf ds = some ns → ds = ns.map D.int
  | [], ns, e => by cases e; rfl
  | .int i :: r, ns, e => by
    unfold intsOf at e
    cases q : intsOf r with
    | none => rw [q] at e; cases e
    | some ms =>
      rw [q] at e
      cases e
      rw [intsOf_eq q]
      rfl
  | .non :: _, _, e => nomatch e
  | .bl _ :: _, _, e => nomatch e
  | .str _ :: _, _, e => nomatch e
  | .tup _ :: _, _, e => nomatch e
  | .lst _ :: _, _, e => nomatch e
  | .scr _ :: _, _, e => nomatch e
  | .dic _ :: _, _, e => nomatch e
  | .ins _ _ :: _, _, e => nomatch e
  | .cell _ :: _, _, e => nomatch e
  | .cls _ :: _, _, e => nomatch e
  | .ty _ :: _, _, e => nomatch e
  | .fn _ :: _, _, e => nomatch e
def blsOf : List D → Option (List Bool)
  | [] => some []
  | .bl i :: r => (blsOf r).map (i :: ·)
  | _ => none
theorem blsOf_eq : ∀ {ds : List D} {ns : List Bool}, blsOf ds = some ns → ds = ns.map D.bl
  | [], ns, e => by cases e; rfl
  | .bl i :: r, ns, e => by
    unfold blsOf at e
    cases q : blsOf r with
    | none => rw [q] at e; cases e
    | some ms =>
      rw [q] at e
      cases e
      rw [blsOf_eq q]
      rfl
  | .non :: _, _, e => nomatch e
  | .int _ :: _, _, e => nomatch e
  | .str _ :: _, _, e => nomatch e
  | .tup _ :: _, _, e => nomatch e
  | .lst _ :: _, _, e => nomatch e
  | .scr _ :: _, _, e => nomatch e
  | .dic _ :: _, _, e => nomatch e
  | .ins _ _ :: _, _, e => nomatch e
  | .cell _ :: _, _, e => nomatch e
  | .cls _ :: _, _, e => nomatch e
  | .ty _ :: _, _, e => nomatch e
  | .fn _ :: _, _, e => nomatch e
theorem Reps.bls {w : Wd} : ∀ {v : List V} {ns : List Bool}, Reps G w v (ns.map D.bl) → v = ns.map V.bl
  | _, [], h => by cases h; rfl
  | _, n :: ns, h => by
    cases h with
    | cons a b => cases a; rw [Reps.bls b]; rfl
def bSum : List D → Option D
  | [.lst xs] => (intsOf xs).map fun ns => .int ns.sum
  | _ => none
theorem cd_sum (hc : X.calm = true) : CallD G X (.builtin "sum") bSum := ⟨_, cr_sum hc, fun κ w s σ H vs ds d Q ok rs e q => by
  match ds, e with
  | [.lst xs], e =>
    have e : (intsOf xs).map (fun ns => D.int ns.sum) = some d := e
    cases e1 : intsOf xs with
    | none => rw [e1] at e; cases e
    | some ns =>
      rw [e1] at e
      cases e
      obtain ⟨v, rfl, r⟩ := rs.one
      cases r with
      | @lst a vs ds e r =>
        rw [intsOf_eq e1] at r
        rw [r.ints] at e
        exact ⟨a, ns, rfl, .inl (.inl (ok.fok.sub _ _ e)), q w _ H (.refl _) ok (.int _)⟩⟩
def bAll : List D → Option D
  | [.lst xs] => (blsOf xs).map fun ns => .bl (ns.all id)
  | _ => none
def bAny : List D → Option D
  | [.lst xs] => (blsOf xs).map fun ns => .bl (ns.any id)
  | _ => none
theorem cd_all (hc : X.calm = true) : CallD G X (.builtin "all") bAll := ⟨_, cr_all hc, fun κ w s σ H vs ds d Q ok rs e q => by
  match ds, e with
  | [.lst xs], e =>
    have e : (blsOf xs).map (fun ns => D.bl (ns.all id)) = some d := e
    cases e1 : blsOf xs with
    | none => rw [e1] at e; cases e
    | some ns =>
      rw [e1] at e
      cases e
      obtain ⟨v, rfl, r⟩ := rs.one
      cases r with
      | @lst a vs ds e r =>
        rw [blsOf_eq e1] at r
        rw [r.bls] at e
        exact ⟨a, ns, rfl, .inl (.inl (ok.fok.sub _ _ e)), q w _ H (.refl _) ok (.bl _)⟩⟩
theorem cd_any (hc : X.calm = true) : CallD G X (.builtin "any") bAny := ⟨_, cr_any hc, fun κ w s σ H vs ds d Q ok rs e q => by
  match ds, e with
  | [.lst xs], e =>
    have e : (blsOf xs).map (fun ns => D.bl (ns.any id)) = some d := e
    cases e1 : blsOf xs with
    | none => rw [e1] at e; cases e
    | some ns =>
      rw [e1] at e
      cases e
      obtain ⟨v, rfl, r⟩ := rs.one
      cases r with
      | @lst a vs ds e r =>
        rw [blsOf_eq e1] at r
        rw [r.bls] at e
        exact ⟨a, ns, rfl, .inl (.inl (ok.fok.sub _ _ e)), q w _ H (.refl _) ok (.bl _)⟩⟩
/-- tuple(x) -/
def bTup : List D → Option D
  | [.tup xs] => some (.tup xs)
  | [.lst xs] => some (.tup xs)
  | _ => none
theorem cd_tup (hK : G.K = X.K) : CallD G X (.type "tuple") bTup := ⟨_, call_tuple_of, fun κ w s σ H vs ds d Q ok rs e q => by
  match ds, e with
  | [.tup xs], e =>
    cases e
    obtain ⟨v, rfl, r⟩ := rs.one
    cases r with
    | @tup a vs ds e r => exact ⟨a, vs, rfl, .inr ⟨hK ▸ SqT.le e ok.fok.sub, q w _ H (.refl _) ok (.tup e r)⟩⟩
  | [.lst xs], e =>
    cases e
    obtain ⟨v, rfl, r⟩ := rs.one
    cases r with
    | @lst a vs ds e r => exact ⟨a, vs, rfl, .inl ⟨.inl (.inl (ok.fok.sub _ _ e)), fun l hl => by
        obtain ⟨le2, ok2⟩ := ok.alloc hl (.tup vs)
        exact q _ _ _ le2 ok2 (.tup (.inl (.inl upd_same)) (r.mono le2))⟩⟩⟩
/-- list(x): a new list -/
def seqD (d : D) : Option (List D) := match d with
  | .tup xs => some xs
  | .lst xs => some xs
  | .scr xs => some xs
  | _ => none
def aList (fa : DA) : DA := fun s => (fa s).bind fun ds s1 => match ds with
  | [d] => match seqD d with
    | some xs => .ok xs s1
    | none => .stuck
  | _ => .stuck
theorem Rep.seq (hK : G.K = X.K) {κ : Bs} {w : Wd} {s : DS} {σ : L2.St} {H : Hp} {v : V} {d : D} {xs : List D} (ok : Ok G κ w s σ H) (r : Rep G w v d) (h : seqD d = some xs) : ∃ a vs, v = .ref a ∧ (SqL X.K H a vs ∨ SqT X.K H a vs) ∧ Reps G w vs xs := by
  cases r with
  | @tup a vs ds e r => cases h; exact ⟨a, vs, rfl, .inr (hK ▸ SqT.le e ok.fok.sub), r⟩
  | @lst a vs ds e r => cases h; exact ⟨a, vs, rfl, .inl (.inl (.inl (ok.fok.sub _ _ e))), r⟩
  | @scr a vs ds e r => cases h; exact ⟨a, vs, rfl, .inl (hK ▸ SqL.le e ok.fok.sub), r⟩
  | _ => exact nomatch h
theorem pdo_list (hK : G.K = X.K) {x : Str} {p pos : Pos} {e : Expr} {fa : DA} (hg : Gl X x) (hm : X.mg x = none) (hv : bootBuiltins x = some (.type "list")) (ha : PDA G W X [e] fa) (hn : x ≠ "__name__" := by decide) (hdb : (x == ("__debug__" : Str)) = false := by decide)
    (he : starEach [e] X.env = (false, eval e X.env) :: starEach [] X.env := by rfl) (hpl : (backTo pos (starEach [] X.env)).any (·.1) = false := by rfl) : PDo G W X (.Call (.Name x p) [e] [] pos) (aList fa) :=
  (pe_callTy call_list_of hg hm hv ha hn hdb he hpl).imp fun σ H Q ⟨κ, w, s, ok, q⟩ => ⟨κ, w, s, ok, (PostG.bindO q).imp fun v H1 ⟨d, s1, w1, le, ok1, r1, q1⟩ => by
    match d, q1 with
    | [d], q1 =>
      replace q1 : PostO G W κ w1 σ (match seqD d with | some xs => .ok xs s1 | none => .stuck) Q := q1
      cases e1 : seqD d with
      | none => rw [e1] at q1; exact q1.elim
      | some xs =>
        rw [e1] at q1
        obtain ⟨v, rfl, r⟩ := r1.one
        obtain ⟨a, vs, rfl, h1, h2⟩ := r.seq hK ok1 e1
        exact ⟨a, vs, rfl, h1, fun l hl => q1 w1 l vs _ (.refl _) (ok1.fresh hl _) (ok1.apart hl) h2⟩⟩
/-! ### slices -/
abbrev DOp := DS → Res DS (Option Int)
def oNone : DOp := fun s => .ok none s
def oSome (f : DE) : DOp := fun s => (f s).bind fun d s1 => match d with
  | .int i => .ok (some i) s1
  | _ => .stuck
def tDO (G : Gam) (W : WX) (f : DOp) : TO := fun σ H Q => ∃ κ w s, Ok G κ w s σ H ∧ PostG G W (fun _ (v : Option Int) d => v = d) κ w σ (f s) Q
theorem _root_.L2.PO.imp {X : Cx} {e : Option Expr} {t t' : TO} (h : PO X e t) (k : ∀ σ H Q, t' σ H Q → t σ H Q) : PO X e t' := ⟨by
  first
    | exact fun pins s σ H Q I q => h.run pins s σ H Q I (k σ H Q q)
    | exact fun a pins s σ H Q I q => h.run a pins s σ H Q I (k σ H Q q)⟩
theorem pdo_none : PO X none (tDO G W oNone) := po_none.imp fun σ H Q ⟨κ, w, s, ok, q⟩ => q w none H (.refl _) ok rfl
theorem pdo_some {e : Expr} {f : DE} (h : PD G W X e f) : PO X (some e) (tDO G W (oSome f)) := (po_some h).imp fun σ H Q ⟨κ, w, s, ok, q⟩ => ⟨κ, w, s, ok, (PostG.bind q).imp fun v H1 ⟨d, s1, w1, le, ok1, r1, q1⟩ => by
  cases r1 with
  | int i => exact ⟨i, rfl, q1 w1 _ H1 (.refl _) ok1 rfl⟩
  | _ => exact q1.elim⟩
def cutD {α : Type} (xs : List α) (lo hi : Option Int) : List α := (xs.drop (HT.sIx xs.length 0 lo)).take (HT.sIx xs.length xs.length hi - HT.sIx xs.length 0 lo)
theorem Reps.cut {w : Wd} {vs : List V} {ds : List D} (r : Reps G w vs ds) (lo hi : Option Int) : Reps G w (cutV vs lo hi) (cutD ds lo hi) := by
  unfold cutV cutD
  rw [r.length]
  exact (r.drop _).take _
/-- a slice of a list: a new list -/
def aSl (f : DE) (l h : DOp) : DA := fun s => (f s).bind fun d s1 => (l s1).bind fun lo s2 => (h s2).bind fun hi s3 => match d with
  | .lst xs => .ok (cutD xs lo hi) s3
  | .scr xs => .ok (cutD xs lo hi) s3
  | _ => .stuck
theorem pdo_slice (hK : G.K = X.K) {e : Expr} {lo hi : Option Expr} {f : DE} {l h : DOp} {p2 pos : Pos} (he : PD G W X e f) (hl : PO X lo (tDO G W l)) (hh : PO X hi (tDO G W h)) : PDo G W X (.Subscript e (.Slice lo hi none p2) pos) (aSl f l h) :=
  (pe_slice sl_list he hl hh).imp fun σ H Q ⟨κ, w, s, ok, q⟩ => ⟨κ, w, s, ok, (PostG.bindO q).imp fun v H1 ⟨d, s1, w1, le, ok1, r1, q1⟩ => ⟨κ, w1, s1, ok1, (PostG.bindO q1).imp fun v2 H2 ⟨d2, s2, w2, le2, ok2, r2, q2⟩ =>
    ⟨κ, w2, s2, ok2, (PostG.bindO q2).imp fun v3 H3 ⟨d3, s3, w3, le3, ok3, r3, q3⟩ => by
      subst r2
      subst r3
      cases r1 with
      | @lst a vs ds e r =>
        have e := le3.f _ _ (le2.f _ _ e)
        exact ⟨a, vs, rfl, .inl (.inl (ok3.fok.sub _ _ e)), fun p hp => q3 w3 p _ _ (.refl _) (ok3.fresh hp _) (ok3.apart hp) (((r.mono le2).mono le3).cut _ _)⟩
      | @scr a vs ds e r =>
        exact ⟨a, vs, rfl, hK ▸ SqL.le (SqL.le (SqL.le e le2.f) le3.f) ok3.fok.sub, fun p hp => q3 w3 p _ _ (.refl _) (ok3.fresh hp _) (ok3.apart hp) (((r.mono le2).mono le3).cut _ _)⟩
      | _ => exact q3.elim⟩⟩⟩
/-! ### isinstance -/
def tyD (d : D) : Option String := match d with
  | .non => some "NoneType"
  | .bl _ => some "bool"
  | .int _ => some "int"
  | .str _ => some "str"
  | .tup _ => some "tuple"
  | .lst _ => some "list"
  | .scr _ => some "list"
  | .dic _ => some "dict"
  | _ => none
def tyNames : List String := ["NoneType", "bool", "int", "str", "tuple", "list", "dict"]
def isTy (a b : String) : Bool := a == b || (a == "bool" && b == "int")
theorem isTy_ok : ∀ a ∈ tyNames, ∀ b ∈ tyNames, kitB a b = some (isTy a b) := by decide +kernel
/-- what of the text isinstance asks of the own classes -/
structure IsOk (G : Gam) (cs : List String) : Prop where
  cl : ∀ c ∈ cs, ∀ C, G.ct c = some C → Cls G.K C ∧ PySem.W.findIn G.K (.ref C) "__class__" = some (some (.builtin "object.__class__")) ∧ PySem.W.specialIn G.K (.builtin "object.__class__") "__get__" = some (some (.builtin "getset_descriptor.__get__")) ∧
    PySem.W.takesIn G.K (.builtin "object.__class__") = some true ∧ PySem.W.mroIn G.K C (.type "object") = some true
  bo : ∀ c ∈ cs, ∀ C, G.ct c = some C → ∀ b ∈ tyNames, PySem.W.kitOne G.K (.ref C) (.type b) = some false ∧ PySem.W.kitOne G.K (.type b) (.ref C) = some false
  oo : ∀ c ∈ cs, ∀ c' ∈ cs, ∀ C C', G.ct c = some C → G.ct c' = some C' → PySem.W.kitOne G.K (.ref C) (.ref C') = some (c == c')
/-- the type of data: built-in or own -/
def tyOfD (cs : List String) (d : D) : Option (String ⊕ String) := match d with
  | .ins c _ => if c ∈ cs then some (.inr c) else none
  | d => (tyD d).map .inl
def isOne (cs : List String) (t : String ⊕ String) (c : D) : Option Bool := match t, c with
  | .inl a, .ty b => if a ∈ tyNames ∧ b ∈ tyNames then some (isTy a b) else none
  | .inl a, .cls b => if a ∈ tyNames ∧ b ∈ cs then some false else none
  | .inr a, .ty b => if b ∈ tyNames then some false else none
  | .inr a, .cls b => if b ∈ cs then some (a == b) else none
  | _, _ => none
def bIsi (cs : List String) : List D → Option D
  | [d, c] => (tyOfD cs d).bind fun t => (isOne cs t c).map .bl
  | _ => none
theorem tyX_of (hK : G.K = X.K) {cs : List String} (I : IsOk G cs) {κ : Bs} {w : Wd} {s : DS} {σ : L2.St} {H : Hp} {v : V} {d : D} {t : String ⊕ String} (ok : Ok G κ w s σ H) (r : Rep G w v d) (h : tyOfD cs d = some t) :
    ∃ tv, TyX X.K H v tv ∧ (match t with | .inl a => tv = .type a ∧ a ∈ tyNames | .inr c => c ∈ cs ∧ ∃ C, G.ct c = some C ∧ tv = .ref C) := by
  cases r with
  | non => cases h; exact ⟨_, .base .non, rfl, by decide⟩
  | bl b => cases h; exact ⟨_, .base (.bl b), rfl, by decide⟩
  | int i => cases h; exact ⟨_, .base (.int i), rfl, by decide⟩
  | str l => cases h; exact ⟨_, .base (.str _), rfl, by decide⟩
  | @tup a vs ds e r =>
    cases h
    rcases SqT.le e ok.fok.sub with (z | ⟨o, z⟩) | ⟨o, its, n, z1, z2, _⟩
    · exact ⟨_, .base (.tup z), rfl, by decide⟩
    · exact ⟨_, .fTuple z, rfl, by decide⟩
    · exact ⟨_, .kTuple (hK ▸ z1) z2, rfl, by decide⟩
  | @lst a vs ds e r => cases h; exact ⟨_, .base (.lst (ok.fok.sub _ _ e)), rfl, by decide⟩
  | @scr a vs ds e r =>
    cases h
    rcases SqL.le e ok.fok.sub with (z | ⟨o, z⟩) | ⟨o, its, n, z1, z2, _⟩
    · exact ⟨_, .base (.lst z), rfl, by decide⟩
    · exact ⟨_, .base (.frz z), rfl, by decide⟩
    · exact ⟨_, .kList (hK ▸ z1) z2, rfl, by decide⟩
  | @dic a vs ds e r => cases h; exact ⟨_, .base (.dK (ok.fok.sub _ _ e)), rfl, by decide⟩
  | @ins a C dx c vs ds hC e r =>
    have h : (if c ∈ cs then some (Sum.inr c) else none) = some t := h
    split at h
    · rename_i hc
      cases h
      obtain ⟨cl, h1, h2, h3, h4⟩ := I.cl c hc C hC
      exact ⟨_, .base (.ins (ok.fok.sub _ _ e) (hK ▸ cl) (hK ▸ h1) (hK ▸ h2) (hK ▸ h3) (hK ▸ h4)), hc, C, hC, rfl⟩
    · cases h
  | _ => exact nomatch h
theorem cd_isi (hK : G.K = X.K) {cs : List String} (I : IsOk G cs) : CallD G X (.builtin "isinstance") (bIsi cs) := ⟨_, call_isi, fun κ w s σ H vs ds d Q ok rs e q => by
  match ds, e with
  | [x, c], e =>
    have e : ((tyOfD cs x).bind fun t => (isOne cs t c).map D.bl) = some d := e
    cases e1 : tyOfD cs x with
    | none => rw [e1] at e; cases e
    | some t =>
      rw [e1] at e
      obtain ⟨v, v', rfl, r, r'⟩ := rs.two
      obtain ⟨tv, ty, ht⟩ := tyX_of hK I ok r e1
      have e : (isOne cs t c).map D.bl = some d := e
      cases e2 : isOne cs t c with
      | none => rw [e2] at e; cases e
      | some b =>
        rw [e2] at e
        cases e
        cases t with
        | inl a =>
          obtain ⟨rfl, ha⟩ := ht
          cases r' with
          | ty n =>
            have e2 : (if a ∈ tyNames ∧ n ∈ tyNames then some (isTy a n) else none) = some b := e2
            split at e2
            · rename_i h
              cases e2
              exact ⟨v, _, _, .type n, _, rfl, .ty n, ty, kit_ty (isTy_ok a h.1 n h.2), q w _ H (.refl _) ok (.bl _)⟩
            · cases e2
          | @cls C n hC =>
            have e2 : (if a ∈ tyNames ∧ n ∈ cs then some false else none) = some b := e2
            split at e2
            · rename_i h
              cases e2
              exact ⟨v, _, _, .ref C, _, rfl, .own C, ty, hK ▸ (I.bo n h.2 C hC a h.1).2, q w _ H (.refl _) ok (.bl _)⟩
            · cases e2
          | _ => exact nomatch e2
        | inr a =>
          obtain ⟨ha, C', hC', rfl⟩ := ht
          cases r' with
          | ty n =>
            have e2 : (if n ∈ tyNames then some false else none) = some b := e2
            split at e2
            · rename_i h
              cases e2
              exact ⟨v, _, _, .type n, _, rfl, .ty n, ty, hK ▸ (I.bo a ha C' hC' n h).1, q w _ H (.refl _) ok (.bl _)⟩
            · cases e2
          | @cls C n hC =>
            have e2 : (if n ∈ cs then some (a == n) else none) = some b := e2
            split at e2
            · rename_i h
              cases e2
              exact ⟨v, _, _, .ref C, _, rfl, .own C, ty, hK ▸ I.oo a ha n h C' C hC' hC, q w _ H (.refl _) ok (.bl _)⟩
            · cases e2
          | _ => exact nomatch e2⟩
end
end DL
set_option maxRecDepth 100000
set_option maxHeartbeats 4000000
set_option autoImplicit false
namespace DL
open PySem PySem.Spec PyProof.Rows L2
section
variable {G : Gam} {W : WX} {X : Cx}
/-! ### dicts -/
theorem dkey_inj {a b : DK} (h : dkey a = dkey b) : a = b := by
  cases a <;> cases b <;> simp [dkey] at h <;> first | (subst h; rfl) | (rw [nm_inj h])
def kOf (d : D) : Option DK := match d with
  | .int i => some (.i i)
  | .str l => some (.s l)
  | _ => none
theorem Rep.key {w : Wd} {v : V} {d : D} {k : DK} (r : Rep G w v d) (h : kOf d = some k) : v = kV (dkey k) := by
  cases r with
  | int i => cases h; rfl
  | str l => cases h; rfl
  | _ => exact nomatch h
def dLook (kvs : List (DK × D)) (k : DK) : Option D := match kvs with
  | [] => none
  | (k', d) :: r => if k' = k then some d else dLook r k
def dPut (kvs : List (DK × D)) (k : DK) (x : D) : List (DK × D) := match kvs with
  | [] => [(k, x)]
  | (k', d) :: r => if k' = k then (k, x) :: r else (k', d) :: dPut r k x
theorem RepK.look {w : Wd} : ∀ {v : List (Key × V)} {d : List (DK × D)} {k : DK}, RepK G w v d → (∀ x, dLook d k = some x → ∃ y, valV v (dkey k) = some y ∧ Rep G w y x) ∧ (dLook d k = none → valV v (dkey k) = none)
  | _, _, _, .nil => ⟨fun x e => (nomatch e), fun _ => rfl⟩
  | _, _, k, .cons (k := k') (v := v) (d := d) (vs := vs) (ds := ds) a b => by
    by_cases h : k' = k
    · subst h
      refine ⟨fun x e => ?_, fun e => ?_⟩
      · unfold dLook at e
        rw [if_pos rfl] at e
        cases e
        exact ⟨v, valV_pos rfl, a⟩
      · unfold dLook at e
        rw [if_pos rfl] at e
        cases e
    · have h2 : ¬ dkey k' = dkey k := fun q => h (dkey_inj q)
      obtain ⟨i1, i2⟩ := RepK.look (k := k) b
      refine ⟨fun x e => ?_, fun e => ?_⟩
      · unfold dLook at e
        rw [if_neg h] at e
        obtain ⟨y, q1, q2⟩ := i1 x e
        exact ⟨y, (valV_neg h2).trans q1, q2⟩
      · unfold dLook at e
        rw [if_neg h] at e
        exact (valV_neg h2).trans (i2 e)
theorem RepK.length {w : Wd} : ∀ {v : List (Key × V)} {d : List (DK × D)}, RepK G w v d → v.length = d.length
  | _, _, .nil => rfl
  | _, _, .cons _ b => by rw [List.length_cons, List.length_cons, RepK.length b]
/-- what of a dict is told (Nodup keys are not known here: the store at the first place and at the last agree by this) -/
def keysNd : List (DK × D) → Bool
  | [] => true
  | (k, _) :: r => !(r.any fun p => decide (p.1 = k)) && keysNd r
theorem RepK.any {w : Wd} {k : DK} : ∀ {v : List (Key × V)} {d : List (DK × D)}, RepK G w v d → (v.any fun kv => decide (kv.1 = dkey k)) = d.any fun kv => decide (kv.1 = k)
  | _, _, .nil => rfl
  | _, _, .cons (k := k') a b => by
    rw [List.any_cons, List.any_cons, RepK.any b]
    congr 1
    by_cases h : k' = k
    · subst h; simp
    · simp [h, show ¬ dkey k' = dkey k from fun q => h (dkey_inj q)]
theorem RepK.keepMap {w : Wd} {k : DK} {y : V} : ∀ {v : List (Key × V)} {d : List (DK × D)}, RepK G w v d → (d.any fun kv => decide (kv.1 = k)) = false → v.map (fun kv => if kv.1 = dkey k then (kv.1, y) else kv) = v
  | _, _, .nil, _ => rfl
  | _, _, .cons (k := k') a b, h => by
    rw [List.any_cons, Bool.or_eq_false_iff] at h
    have h1 : ¬ k' = k := of_decide_eq_false h.1
    rw [List.map_cons, if_neg (show ¬ dkey k' = dkey k from fun q => h1 (dkey_inj q)), RepK.keepMap b h.2]
theorem dPut_new : ∀ {d : List (DK × D)} {k : DK} {x : D}, (d.any fun kv => decide (kv.1 = k)) = false → dPut d k x = d ++ [(k, x)]
  | [], _, _, _ => rfl
  | (k', z) :: r, k, x, h => by
    rw [List.any_cons, Bool.or_eq_false_iff] at h
    have h1 : ¬ k' = k := of_decide_eq_false h.1
    unfold dPut
    rw [if_neg h1, dPut_new h.2]
    rfl
theorem RepK.append {w : Wd} : ∀ {v v' : List (Key × V)} {d d' : List (DK × D)}, RepK G w v d → RepK G w v' d' → RepK G w (v ++ v') (d ++ d')
  | _, _, _, _, .nil, h => h
  | _, _, _, _, .cons a b, h => .cons a (RepK.append b h)
theorem RepK.putMap {w : Wd} {k : DK} {y : V} {x : D} (r : Rep G w y x) : ∀ {v : List (Key × V)} {d : List (DK × D)}, RepK G w v d → keysNd d = true → (d.any fun kv => decide (kv.1 = k)) = true → RepK G w (v.map fun kv => if kv.1 = dkey k then (kv.1, y) else kv) (dPut d k x)
  | _, _, .nil, _, h => nomatch h
  | _, _, .cons (k := k') a b, nd, h => by
    unfold keysNd at nd
    rw [Bool.and_eq_true, Bool.not_eq_true'] at nd
    unfold dPut
    by_cases e : k' = k
    · subst e
      rw [if_pos rfl, List.map_cons, if_pos rfl, RepK.keepMap b nd.1]
      exact .cons r b
    · rw [if_neg e, List.map_cons, if_neg (show ¬ dkey k' = dkey k from fun q => e (dkey_inj q))]
      refine .cons a (RepK.putMap r b nd.2 ?_)
      rw [List.any_cons, Bool.or_eq_true] at h
      rcases h with h | h
      · exact absurd (of_decide_eq_true h) e
      · exact h
theorem RepK.put {w : Wd} {k : DK} {y : V} {x : D} (r : Rep G w y x) {v : List (Key × V)} {d : List (DK × D)} (h : RepK G w v d) (nd : keysNd d = true) : RepK G w (putK v (dkey k) y) (dPut d k x) := by
  unfold putK
  rw [h.any]
  cases e : d.any fun kv => decide (kv.1 = k) with
  | true => rw [if_pos rfl]; exact h.putMap r nd e
  | false =>
    rw [if_neg (fun z => nomatch z), dPut_new e]
    exact h.append (.cons r .nil)
def dictOf (d : D) (s : DS) : Option (List (DK × D)) := match d with
  | .dic kvs => some kvs
  | .cell n => match s.st[n]? with
    | some (.dic kvs) => some kvs
    | _ => none
  | _ => none
theorem Rep.dict {κ : Bs} {w : Wd} {s : DS} {σ : L2.St} {H : Hp} {v : V} {d : D} {kvs : List (DK × D)} (ok : Ok G κ w s σ H) (r : Rep G w v d) (h : dictOf d s = some kvs) : ∃ a vs, v = .ref a ∧ H a = some (.dK vs) ∧ RepK G w vs kvs := by
  cases r with
  | @dic a vs ds e r => cases h; exact ⟨a, vs, rfl, ok.fok.sub _ _ e, r⟩
  | @cell a n e =>
    have h : (match s.st[n]? with | some (.dic kvs) => some kvs | _ => none) = some kvs := h
    cases q : s.st[n]? with
    | none => rw [q] at h; cases h
    | some c =>
      rw [q] at h
      cases c with
      | dic kvs' =>
        cases h
        obtain ⟨vs, h1, h2⟩ := ok.fok.cel n a _ e q
        exact ⟨a, vs, rfl, h1, h2⟩
      | _ => cases h
  | _ => exact nomatch h
def eDGet (fo fi : DE) : DE := fun s => (fo s).bind fun d s1 => (fi s1).bind fun k s2 => match dictOf d s2, kOf k with
  | some kvs, some k => match dLook kvs k with
    | some x => .ok x s2
    | none => .stuck
  | _, _ => .stuck
theorem pd_dget {o i : Expr} {fo fi : DE} {pos : Pos} (hu : X.A.units + 1 < cLine) (ho : PD G W X o fo) (hi : PD G W X i fi) (hs : NoSl i) : PD G W X (.Subscript o i pos) (eDGet fo fi) :=
  (pe_dget hu ho hi hs).imp fun σ H Q ⟨κ, w, s, ok, q⟩ => ⟨κ, w, s, ok, (PostG.bind q).imp fun v H1 ⟨d, s1, w1, le, ok1, r1, q1⟩ => ⟨κ, w1, s1, ok1, (PostG.bind q1).imp fun v2 H2 ⟨d2, s2, w2, le2, ok2, r2, q2⟩ => by
    cases e1 : dictOf d s2 with
    | none => rw [e1] at q2; exact q2.elim
    | some kvs =>
      cases e2 : kOf d2 with
      | none => rw [e1, e2] at q2; exact q2.elim
      | some k =>
        rw [e1, e2] at q2
        replace q2 : PostG G W (Rep G) κ w2 σ (match dLook kvs k with | some x => .ok x s2 | none => .stuck) Q := q2
        cases e3 : dLook kvs k with
        | none => rw [e3] at q2; exact q2.elim
        | some x =>
          rw [e3] at q2
          obtain ⟨a, vs, rfl, hH, rk⟩ := (r1.mono le2).dict ok2 e1
          obtain ⟨y, h1, h2⟩ := (rk.look (k := k)).1 x e3
          refine ⟨a, y, rfl, ?_, q2 w2 y H2 (.refl _) ok2 h2⟩
          rw [r2.key e2, ← h1]
          exact DGet.k hH⟩⟩
/-- d[k] = v of a dict in the store -/
def sDPutC (fo fi fv : DE) : DStm := fun s => (fv s).bind fun x s1 => (fo s1).bind fun d s2 => (fi s2).bind fun k s3 => match d, kOf k with
  | .cell n, some k => match s3.st[n]? with
    | some (.dic kvs) => if kvs.length < 1000000 ∧ keysNd kvs = true then .ok .nx ⟨s3.sl, s3.st.set n (.dic (dPut kvs k x))⟩ else .stuck
    | _ => .stuck
  | _, _ => .stuck
theorem pds_dputC {o i value : Expr} {fo fi fv : DE} {pos pos' : Pos} (hu : X.A.units + 1 < cLine) (ho : PD G W X o fo) (hi : PD G W X i fi) (hv : PD G W X value fv) (hs : swapsWith value (some (.Subscript o i pos')) pos.line X.env = pure false := by rfl) :
    PDS G W X (.Assign [.Subscript o i pos'] value pos) (sDPutC fo fi fv) :=
  (ps_dput hu ho hi hv hs).imp fun N σ H ⟨κ, w, s, ok, q⟩ => ⟨κ, w, s, ok, (PostG.bindS q).imp fun v H1 ⟨d, s1, w1, le, ok1, r1, q1⟩ => ⟨κ, w1, s1, ok1, (PostG.bindS q1).imp fun v2 H2 ⟨d2, s2, w2, le2, ok2, r2, q2⟩ =>
    ⟨κ, w2, s2, ok2, (PostG.bindS q2).imp fun v3 H3 ⟨d3, s3, w3, le3, ok3, r3, q3⟩ => by
      cases r2 with
      | @cell a n e =>
        cases e2 : kOf d3 with
        | none => rw [e2] at q3; exact q3.elim
        | some k =>
          rw [e2] at q3
          replace q3 : PostS G W κ w3 (match s3.st[n]? with | some (.dic kvs) => if kvs.length < 1000000 ∧ keysNd kvs = true then .ok .nx ⟨s3.sl, s3.st.set n (.dic (dPut kvs k d))⟩ else .stuck | _ => .stuck) N := q3
          cases e3 : s3.st[n]? with
          | none => rw [e3] at q3; exact q3.elim
          | some c =>
            rw [e3] at q3
            cases c with
            | dic kvs =>
              replace q3 : PostS G W κ w3 (if kvs.length < 1000000 ∧ keysNd kvs = true then .ok .nx ⟨s3.sl, s3.st.set n (.dic (dPut kvs k d))⟩ else .stuck) N := q3
              split at q3
              · rename_i c
                have e' := pre_get le3.r e
                obtain ⟨vs, h1, h2⟩ := ok3.fok.cel n a _ e' e3
                refine ⟨a, _, rfl, ?_, q3 w3 σ _ (.refl _) (ok3.cell e' (c := .dic (dPut kvs k d)) ⟨_, upd_same, h2.put ((r1.mono le2).mono le3) c.2⟩)⟩
                rw [r3.key e2]
                exact DPut.k h1 (by rw [h2.length, sizeLine_eq]; omega)
              · exact q3.elim
            | _ => exact q3.elim
      | _ => exact q3.elim⟩⟩⟩
/-! ### a dict is displayed -/
def pairsD : List (DE × DE) → DS → Res DS (List (D × D))
  | [], s => .ok [] s
  | (fk, fv) :: r, s => (fk s).bind fun k s1 => (fv s1).bind fun x s2 => (pairsD r s2).bind fun ps s3 => .ok ((k, x) :: ps) s3
inductive RepP (G : Gam) (w : Wd) : List (V × V) → List (D × D) → Prop
  | nil : RepP G w [] []
  | cons {v v' : V} {d d' : D} {vs : List (V × V)} {ds : List (D × D)} : Rep G w v d → Rep G w v' d' → RepP G w vs ds → RepP G w ((v, v') :: vs) ((d, d') :: ds)
theorem pairs_of : ∀ (fs : List (DE × DE)) {κ : Bs} {w : Wd} {s : DS} {σ : L2.St} {H : Hp} {Q : List (V × V) → Hp → Prop}, Ok G κ w s σ H → PostG G W (RepP G) κ w σ (pairsD fs s) Q → tPairs (fs.map fun p => (tD G W p.1, tD G W p.2)) σ H Q
  | [], κ, w, s, σ, H, Q, ok, q => q w [] H (.refl _) ok .nil
  | (fk, fv) :: r, κ, w, s, σ, H, Q, ok, q => by
    refine ⟨κ, w, s, ok, (PostG.bind q).imp fun v H1 ⟨d, s1, w1, le, ok1, r1, q1⟩ => ⟨κ, w1, s1, ok1, (PostG.bind q1).imp fun v2 H2 ⟨d2, s2, w2, le2, ok2, r2, q2⟩ => ?_⟩⟩
    refine pairs_of r ok2 ((PostG.bind (rep := RepP G) q2).imp fun ps H3 ⟨ds, s3, w3, le3, ok3, r3, q3⟩ => ?_)
    exact q3 w3 _ H3 (.refl _) ok3 (.cons ((r1.mono le2).mono le3) (r2.mono le3) r3)
def keyed : List (D × D) → Option (List (DK × D))
  | [] => some []
  | (k, x) :: r => match kOf k, keyed r with
    | some k, some r => some ((k, x) :: r)
    | _, _ => none
theorem keyed_of {w : Wd} : ∀ {ps : List (V × V)} {ds : List (D × D)} {kvs : List (DK × D)}, RepP G w ps ds → keyed ds = some kvs → ∃ vs : List (Key × V), ps = vs.map (fun kv => (kV kv.1, kv.2)) ∧ RepK G w vs kvs
  | _, _, _, .nil, e => by cases e; exact ⟨[], rfl, .nil⟩
  | _, _, kvs, .cons (d := d) (ds := ds) a b c, e => by
    unfold keyed at e
    cases e1 : kOf d with
    | none => rw [e1] at e; cases e
    | some k =>
      cases e2 : keyed ds with
      | none => rw [e1, e2] at e; cases e
      | some r =>
        rw [e1, e2] at e
        cases e
        obtain ⟨vs, h1, h2⟩ := keyed_of c e2
        refine ⟨(dkey k, _) :: vs, ?_, .cons b h2⟩
        rw [h1, a.key e1]
        rfl
theorem keys_merge {w : Wd} : ∀ {more : List (Key × V)} {kvs : List (DK × D)} {v : List (Key × V)} {d : List (DK × D)}, RepK G w more kvs → RepK G w v d → (keysNd (d ++ kvs) = true) → RepK G w (mergeK v more) (d ++ kvs)
  | _, _, v, d, .nil, h, _ => by rw [List.append_nil]; exact h
  | _, _, v, d, .cons (k := k) (v := y) (d := x) (vs := vs) (ds := ds) a b, h, nd => by
    have new : (d.any fun kv => decide (kv.1 = k)) = false := by
      clear h a b
      induction d with
      | nil => rfl
      | cons p r ih =>
        rw [List.cons_append] at nd
        unfold keysNd at nd
        rw [Bool.and_eq_true, Bool.not_eq_true', List.any_append, Bool.or_eq_false_iff, List.any_cons, Bool.or_eq_false_iff] at nd
        rw [List.any_cons, ih nd.2, Bool.or_false]
        have := of_decide_eq_false nd.1.2.1
        exact decide_eq_false fun q => this q.symm
    have e : mergeK v ((dkey k, y) :: vs) = mergeK (v ++ [(dkey k, y)]) vs := by
      unfold mergeK
      rw [List.foldl_cons]
      congr 1
      unfold putK
      rw [h.any, new]
      rfl
    rw [e]
    have := keys_merge b (h.append (.cons a .nil)) (d := d ++ [(k, x)]) (by rw [List.append_assoc]; exact nd)
    rw [List.append_assoc] at this
    exact this
/-- a new dict of one's own -/
def PostOd (G : Gam) (W : WX) (κ : Bs) (w : Wd) (σ : L2.St) (r : Res DS (List (DK × D))) (Q : VK) : Prop := match r with
  | .ok xs s' => ∀ w' a vs H', w.le w' → Ok G (κ.plus a (.dK vs)) w' s' σ H' → (∀ p ∈ κ.γ, p.1 ≠ a) → RepK G w' vs xs → Q (.ref a) H'
  | .exc x s' => ∀ w' c dd H', w.le w' → Ok G κ w' s' σ H' → RepX G w' c dd x → W c dd σ H'
  | .stuck => False
abbrev DD := DS → Res DS (List (DK × D))
def tDod (G : Gam) (W : WX) (f : DD) : TE := fun σ H Q => ∃ κ w s, Ok G κ w s σ H ∧ PostOd G W κ w σ (f s) Q
abbrev PDod (G : Gam) (W : WX) (X : Cx) (e : Expr) (f : DD) : Prop := PE X e (tDod G W f)
/-- behind what was set apart a new value -/
theorem Ok.swap {κ : Bs} {w : Wd} {s : DS} {σ : L2.St} {H : Hp} {a : Addr} {o o' : HO} (h : Ok G (κ.plus a o) w s σ H) (hγ : ∀ p ∈ κ.γ, p.1 ≠ a) : Ok G (κ.plus a o') w s σ (upd H a o') := by
  obtain ⟨ho, h3, h4, h5, h6⟩ := h.gam (a, o) List.mem_cons_self
  refine ⟨⟨fun b u e => ?_, h.fok.len, fun n b c e1 e2 => ?_, h.fok.nd, h.fok.nf⟩, ⟨h.nx.le, fun b u e n => ?_, h.nx.newF, h.nx.newR⟩, h.len, h.val, fun j z hj oz => ?_, h.ne, fun p hp => ?_, h.me⟩
  · rw [upd_ne (ne_of_none e h3)]
    exact h.fok.sub b u e
  · exact (h.fok.cel n b c e1 e2).mono (.refl _) (upd_ne fun z => h4 (by rw [← z]; exact List.mem_of_getElem? e1))
  · rw [upd_ne (ne_of_none e h5)]
    exact h.nx.keep b u e n
  · obtain ⟨b, q1, q2, q3, q4, q5⟩ := h.own j z hj oz
    exact ⟨b, q1, q2.mono (.refl _) (upd_ne fun e => h6 j z hj oz (by rw [q1, e])), q3, q4, q5⟩
  · rcases List.mem_cons.mp hp with rfl | hp
    · exact ⟨upd_same, h3, h4, h5, h6⟩
    · obtain ⟨q1, q2⟩ := h.gam p (List.mem_cons_of_mem _ hp)
      exact ⟨by rw [upd_ne (hγ p hp)]; exact q1, q2⟩
def dDisp (fs : List (DE × DE)) : DD := fun s => (pairsD fs s).bind fun ps s1 => match keyed ps with
  | some kvs => if kvs.length ≤ 15 ∧ keysNd kvs = true then .ok kvs s1 else .stuck
  | none => .stuck
theorem pdod_disp {pos : Pos} {keys : List (Option Expr)} {values : List Expr} {fs : List (DE × DE)} (h : PPs X pos keys values (fs.map fun p => (tD G W p.1, tD G W p.2))) (hall : keys.all (·.isSome) = true) (hl : keys.length = values.length) (h0 : keys ≠ []) (h15 : keys.length ≤ 15) :
    PDod G W X (.Dict keys values pos) (dDisp fs) :=
  (pe_disp h hall hl h0 h15).imp fun σ H Q ⟨κ, w, s, ok, q⟩ => by
    intro p hp
    have ok1 := ok.fresh hp (.dK [])
    have hγ := ok.apart hp
    unfold dDisp at q
    refine pairs_of fs (κ := κ.plus p (.dK [])) (w := w) (s := s) ok1 ?_
    cases e : pairsD fs s with
    | stuck => rw [e] at q; exact q.elim
    | exc x s' =>
      rw [e] at q
      exact fun w' c dd H' l o r => q w' c dd H' l o.unplus r
    | ok ps s' =>
      rw [e] at q
      intro w' vps H' l o r
      replace q : PostOd G W κ w σ (match keyed ps with | some kvs => if kvs.length ≤ 15 ∧ keysNd kvs = true then .ok kvs s' else .stuck | none => .stuck) Q := q
      cases e2 : keyed ps with
      | none => rw [e2] at q; exact q.elim
      | some kvs =>
        rw [e2] at q
        replace q : PostOd G W κ w σ (if kvs.length ≤ 15 ∧ keysNd kvs = true then .ok kvs s' else .stuck) Q := q
        split at q
        · rename_i c
          obtain ⟨vs, h1, h2⟩ := keyed_of r e2
          refine ⟨(o.gam (p, .dK []) List.mem_cons_self).1, vs, h1, by rw [h2.length]; exact c.1, ?_⟩
          exact q w' p _ _ l (o.swap hγ) hγ (keys_merge h2 .nil (d := []) c.2)
        · exact q.elim
def eFrzD (f : DD) : DE := fun s => (f s).bind fun xs s1 => .ok (.dic xs) s1
theorem pdod_frz {e : Expr} {f : DD} (h : PDod G W X e f) : PD G W X e (eFrzD f) := h.imp fun σ H Q ⟨κ, w, s, ok, q⟩ => ⟨κ, w, s, ok, by
  unfold eFrzD at q
  cases e : f s with
  | stuck => rw [e] at q; exact q.elim
  | exc x s' => rw [e] at q; exact q
  | ok xs s' =>
    rw [e] at q
    intro w' a vs H' l o g r
    obtain ⟨le, ok'⟩ := o.frz g
    exact q _ _ H' (l.trans le) ok' (.dic upd_same (r.mono le))⟩
/-- what was set apart goes into the store -/
theorem Ok.store {κ : Bs} {w : Wd} {s : DS} {σ : L2.St} {H : Hp} {a : Addr} {o : HO} {c : Cell} (h : Ok G (κ.plus a o) w s σ H) (hγ : ∀ p ∈ κ.γ, p.1 ≠ a) (hc : CellOk G w H a c) : w.le ⟨w.F, w.ρ ++ [a]⟩ ∧ Ok G κ ⟨w.F, w.ρ ++ [a]⟩ ⟨s.sl, s.st ++ [c]⟩ σ H := by
  obtain ⟨ho, h3, h4, h5, h6⟩ := h.gam (a, o) List.mem_cons_self
  have le : w.le ⟨w.F, w.ρ ++ [a]⟩ := ⟨fun _ _ e => e, List.prefix_append _ _⟩
  refine ⟨le, ⟨⟨h.fok.sub, ?_, fun n b c' e1 e2 => ?_, ?_, fun b hb => ?_⟩, ⟨h.nx.le.trans le, h.nx.keep, h.nx.newF, fun b hb => ?_⟩, h.len, fun i d e => ?_, fun i x e o' => ?_, h.ne, fun p hp => ?_, h.me⟩⟩
  · show (w.ρ ++ [a]).length = (s.st ++ [c]).length
    rw [List.length_append, List.length_append, h.fok.len]
    rfl
  · have e1 : (w.ρ ++ [a])[n]? = some b := e1
    have e2 : (s.st ++ [c])[n]? = some c' := e2
    by_cases hn : n < w.ρ.length
    · rw [List.getElem?_append_left hn] at e1
      rw [List.getElem?_append_left (by rw [← h.fok.len]; exact hn)] at e2
      exact (h.fok.cel n b c' e1 e2).mono le rfl
    · rw [List.getElem?_append_right (by omega)] at e1
      rw [List.getElem?_append_right (by rw [← h.fok.len]; omega), ← h.fok.len] at e2
      cases z : n - w.ρ.length with
      | zero =>
        rw [z] at e1 e2
        cases e1
        cases e2
        exact hc.mono le rfl
      | succ k => rw [z] at e1; cases e1
  · show (w.ρ ++ [a]).Nodup
    rw [List.nodup_append]
    exact ⟨h.fok.nd, by simp, fun x hx y hy e => by
      rw [List.mem_singleton] at hy
      subst hy
      subst e
      exact h4 hx⟩
  · rcases List.mem_append.mp hb with hb | hb
    · exact h.fok.nf b hb
    · rw [List.mem_singleton.mp hb]
      exact h3
  · rcases List.mem_append.mp hb with hb | hb
    · exact h.nx.newR b hb
    · rw [List.mem_singleton.mp hb]
      exact .inr h5
  · obtain ⟨v, h1, h2⟩ := h.val i d e
    exact ⟨v, h1, h2.mono le⟩
  · obtain ⟨b, q1, q2, q3, q4, q5⟩ := h.own i x e o'
    refine ⟨b, q1, q2.mono le rfl, q3, fun hb => ?_, q5⟩
    rcases List.mem_append.mp hb with hb | hb
    · exact q4 hb
    · exact h6 i x e o' (by rw [q1, List.mem_singleton.mp hb])
  · obtain ⟨q1, q2, q3, q4⟩ := h.gam p (List.mem_cons_of_mem _ hp)
    refine ⟨q1, q2, fun hb => ?_, q4⟩
    rcases List.mem_append.mp hb with hb | hb
    · exact q3 hb
    · exact hγ p hp (List.mem_singleton.mp hb)
def eCellD (f : DD) : DE := fun s => (f s).bind fun xs s1 => .ok (.cell s1.st.length) ⟨s1.sl, s1.st ++ [.dic xs]⟩
theorem pdod_cell {e : Expr} {f : DD} (h : PDod G W X e f) : PD G W X e (eCellD f) := h.imp fun σ H Q ⟨κ, w, s, ok, q⟩ => ⟨κ, w, s, ok, by
  unfold eCellD at q
  cases e : f s with
  | stuck => rw [e] at q; exact q.elim
  | exc x s' => rw [e] at q; exact q
  | ok xs s' =>
    rw [e] at q
    intro w' a vs H' l o g r
    obtain ⟨le, ok'⟩ := o.store (c := .dic xs) g ⟨vs, (o.gam (a, .dK vs) List.mem_cons_self).1, r⟩
    refine q _ _ H' (l.trans le) ok' (.cell ?_)
    show (w'.ρ ++ [a])[s'.st.length]? = some a
    rw [← o.fok.len]
    simp⟩
/-! ### == and != of data -/
mutual
def toPy : D → Option PyData
  | .non => some .none
  | .bl b => some (.bool b)
  | .int i => some (.int i)
  | .str l => some (.str (nm l))
  | .tup xs => (toPys xs).map .tuple
  | .lst xs => (toPys xs).map .list
  | .scr xs => (toPys xs).map .list
  | _ => none
def toPys : List D → Option (List PyData)
  | [] => some []
  | d :: r => (toPy d).bind fun p => (toPys r).map fun q => p :: q
end
mutual
theorem Rep.py (hK : G.K = X.K) {κ : Bs} {w : Wd} {s : DS} {σ : L2.St} {H : Hp} (ok : Ok G κ w s σ H) : ∀ {v : V} {d : D} {p : PyData}, Rep G w v d → toPy d = some p → Dp X.K H v p
  | _, _, _, .non, e => by cases e; exact .non
  | _, _, _, .bl b, e => by cases e; exact .bl b
  | _, _, _, .int b, e => by cases e; exact .int b
  | _, _, _, .str b, e => by cases e; exact .str _
  | _, _, _, .tup (ds := ds) a r, e => by
    cases q : toPys ds with
    | none => simp [toPy, q] at e
    | some ps =>
      simp only [toPy, q, Option.map_some, Option.some.injEq] at e
      subst e
      exact .tup (hK ▸ SqT.le a ok.fok.sub) (Reps.py hK ok r q)
  | _, _, _, .lst (ds := ds) a r, e => by
    cases q : toPys ds with
    | none => simp [toPy, q] at e
    | some ps =>
      simp only [toPy, q, Option.map_some, Option.some.injEq] at e
      subst e
      exact .lst (.inl (.inl (ok.fok.sub _ _ a))) (Reps.py hK ok r q)
  | _, _, _, .scr (ds := ds) a r, e => by
    cases q : toPys ds with
    | none => simp [toPy, q] at e
    | some ps =>
      simp only [toPy, q, Option.map_some, Option.some.injEq] at e
      subst e
      exact .lst (hK ▸ SqL.le a ok.fok.sub) (Reps.py hK ok r q)
  | _, _, _, .dic _ _, e => by simp [toPy] at e
  | _, _, _, .ins _ _ _, e => by simp [toPy] at e
  | _, _, _, .cell _, e => by simp [toPy] at e
  | _, _, _, .cls _, e => by simp [toPy] at e
  | _, _, _, .ty _, e => by simp [toPy] at e
  | _, _, _, .fn _, e => by simp [toPy] at e
theorem Reps.py (hK : G.K = X.K) {κ : Bs} {w : Wd} {s : DS} {σ : L2.St} {H : Hp} (ok : Ok G κ w s σ H) : ∀ {v : List V} {d : List D} {p : List PyData}, Reps G w v d → toPys d = some p → DpAll X.K H v p
  | _, _, _, .nil, e => by simp [toPys] at e; subst e; exact .nil
  | _, _, _, .cons (d := d) (ds := ds) a r, e => by
    cases q1 : toPy d with
    | none => simp [toPys, q1] at e
    | some p =>
      cases q2 : toPys ds with
      | none => simp [toPys, q1, q2] at e
      | some ps =>
        simp only [toPys, q1, q2, Option.bind_some, Option.map_some, Option.some.injEq] at e
        subst e
        exact .cons (Rep.py hK ok a q1) (Reps.py hK ok r q2)
end
def dEq : D → D → Option D := fun x y => match toPy x, toPy y with
  | some p, some q => if SeqAt.shaped p && SeqAt.shaped q then some (.bl (PyData.eqv p q)) else none
  | _, _ => none
def dNe : D → D → Option D := fun x y => match toPy x, toPy y with
  | some p, some q => if SeqAt.shaped p && SeqAt.shaped q then some (.bl (!PyData.eqv p q)) else none
  | _, _ => none
theorem opd_eq (hK : G.K = X.K) (hu : X.A.units + 64 < cLine) : OpD G X (compareOp .Eq) dEq := ⟨_, op_eqD hu, fun κ w s σ H x y dx dy d Q ok rx ry e q => by
  unfold dEq at e
  cases e1 : toPy dx with
  | none => simp [e1] at e
  | some p =>
    cases e2 : toPy dy with
    | none => simp [e1, e2] at e
    | some p' =>
      simp only [e1, e2] at e
      split at e
      · rename_i c
        cases e
        rw [Bool.and_eq_true] at c
        exact ⟨p, p', rx.py hK ok e1, ry.py hK ok e2, c.1, c.2, q w _ H (.refl _) ok (.bl _)⟩
      · cases e⟩
theorem opd_ne (hK : G.K = X.K) (hu : X.A.units + 64 < cLine) : OpD G X (compareOp .NotEq) dNe := ⟨_, op_neD hu, fun κ w s σ H x y dx dy d Q ok rx ry e q => by
  unfold dNe at e
  cases e1 : toPy dx with
  | none => simp [e1] at e
  | some p =>
    cases e2 : toPy dy with
    | none => simp [e1, e2] at e
    | some p' =>
      simp only [e1, e2] at e
      split at e
      · rename_i c
        cases e
        rw [Bool.and_eq_true] at c
        exact ⟨p, p', rx.py hK ok e1, ry.py hK ok e2, c.1, c.2, q w _ H (.refl _) ok (.bl _)⟩
      · cases e⟩
/-- is None -/
def isNonD : D → Bool
  | .non => true
  | _ => false
def dIsN : D → D → Option D := fun x y => match y with
  | .non => some (.bl (isNonD x))
  | _ => none
def dNotN : D → D → Option D := fun x y => match y with
  | .non => some (.bl (!isNonD x))
  | _ => none
theorem Rep.non_iff {w : Wd} {v : V} {d : D} (r : Rep G w v d) : decide (v = .non) = isNonD d := by
  cases r <;> simp [isNonD]
theorem opd_isN : OpD G X (compareOp .Is) dIsN := ⟨_, op_isN, fun κ w s σ H x y dx dy d Q ok rx ry e q => by
  cases ry with
  | non =>
    cases e
    refine ⟨rfl, ?_⟩
    rw [rx.non_iff]
    exact q w _ H (.refl _) ok (.bl _)
  | _ => exact nomatch e⟩
theorem opd_notN : OpD G X (compareOp .IsNot) dNotN := ⟨_, op_notN, fun κ w s σ H x y dx dy d Q ok rx ry e q => by
  cases ry with
  | non =>
    cases e
    refine ⟨rfl, ?_⟩
    rw [rx.non_iff]
    exact q w _ H (.refl _) ok (.bl _)
  | _ => exact nomatch e⟩
/-! ### operators of own classes -/
def ownO (c : String) (g : DFn) : DO2 := fun x y s => match insOf x s, insOf y s with
  | some (c1, _), some (c2, _) => if c1 = c ∧ c2 = c then lift s (g [x, y] s.st) else .stuck
  | _, _ => .stuck
theorem ep_back {pins : List (Addr × Obj)} {σ : L2.St} {Q : VK} {v : Value} {s' : Shared} (h : EP X pins σ Q v s') : PySem.W.CmpBack (EP X pins σ Q) v s' := by
  obtain ⟨x, H, I, r, q⟩ := id h
  cases v <;> first
    | exact h
    | (have := r.abs; cases this)
theorem ownO_of {c : String} {g : DFn} {κ : Bs} {w : Wd} {s : DS} {σ : L2.St} {H : Hp} {x y : V} {dx dy : D} {Q : VK} (ok : Ok G κ w s σ H) (rx : Rep G w x dx) (ry : Rep G w y dy) (q : PostG G W (Rep G) κ w σ (ownO c g dx dy s) Q) :
    ∃ a b C dxa dxb fa fb, x = .ref a ∧ y = .ref b ∧ G.ct c = some C ∧ H a = some (.ins C dxa fa) ∧ H b = some (.ins C dxb fb) ∧ PostG G W (Rep G) κ w σ (lift s (g [dx, dy] s.st)) Q := by
  unfold ownO at q
  cases e1 : insOf dx s with
  | none => rw [e1] at q; exact q.elim
  | some p =>
    cases e2 : insOf dy s with
    | none => rw [e1, e2] at q; exact q.elim
    | some p' =>
      obtain ⟨c1, f1⟩ := p
      obtain ⟨c2, f2⟩ := p'
      rw [e1, e2] at q
      replace q : PostG G W (Rep G) κ w σ (if c1 = c ∧ c2 = c then lift s (g [dx, dy] s.st) else .stuck) Q := q
      split at q
      · rename_i h
        obtain ⟨rfl, rfl⟩ := h
        obtain ⟨a, C, dxa, vs, ev, hC, hH, _⟩ := rx.ins_of ok e1
        obtain ⟨b, C', dxb, vs', ev', hC', hH', _⟩ := ry.ins_of ok e2
        rw [hC] at hC'
        cases hC'
        exact ⟨a, b, C, dxa, dxb, vs, vs', ev, ev', hC, hH, hH', q⟩
      · exact q.elim
theorem opx_own {op : Operator} {mname : Str} {c : String} {C f : Addr} {k : Nat} {fd : FuncData} {ps : List Str} {g : DFn} (hm' : PySem.dunder op.info.2 = mname) (hC : G.ct c = some C) (hs : PySem.W.findIn X.K (.ref C) mname = some (some (.ref f))) (hf : PySem.W.isFn X.K (.ref f) = true) (hc : PySem.W.selfFirst X.K C = true)
    (F : FnOk X.prog X.w X.K X.mg X.base (L2.CX X.prog X.w) k f fd ps (spG G 2 g)) (hr : Room k X.A) (hb : Binds X.K fd ps []) (tk : Takes X W) : OpX G W X (binaryOp op) (ownO c g) := by
  subst hm'
  intro pins sh σ H x y v u κ w s dx dy Q I rx ry ok rdx rdy q
  obtain ⟨a, b, C', dxa, dxb, fa, fb, rfl, rfl, hC', hH, hH', q⟩ := ownO_of ok rdx rdy q
  rw [hC] at hC'
  cases hC'
  cases rx
  cases ry
  obtain ⟨mA, J, _⟩ := ins_get I.hok hH
  obtain ⟨mB, J', _⟩ := ins_get I.hok hH'
  obtain ⟨od, J, _⟩ := J.look
  obtain ⟨od', J', _⟩ := J'.look
  obtain ⟨m, hF⟩ := I.fr
  refine PySem.W.binop_K hF I.ok.mod.kin J J'.type hc hs hf ?_
  exact thn (callD (us := [.ref a, .ref b]) (vs := [.ref a, .ref b]) (ds := [dx, dy]) F hr hb tk I ok (.cons rdx (.cons rdy .nil)) (.cons rfl (.cons rfl .nil)) rfl q) fun v s' h => ep_back h
theorem opx_ownEq {c : String} {C f : Addr} {k : Nat} {fd : FuncData} {ps : List Str} {g : DFn} (hC : G.ct c = some C) (hs : PySem.W.findIn X.K (.ref C) "__eq__" = some (some (.ref f))) (hf : PySem.W.isFn X.K (.ref f) = true)
    (F : FnOk X.prog X.w X.K X.mg X.base (L2.CX X.prog X.w) k f fd ps (spG G 2 g)) (hr : Room k X.A) (hb : Binds X.K fd ps []) (tk : Takes X W) : OpX G W X (compareOp .Eq) (ownO c g) := by
  intro pins sh σ H x y v u κ w s dx dy Q I rx ry ok rdx rdy q
  obtain ⟨a, b, C', dxa, dxb, fa, fb, rfl, rfl, hC', hH, hH', q⟩ := ownO_of ok rdx rdy q
  rw [hC] at hC'
  cases hC'
  cases rx
  cases ry
  obtain ⟨mA, J, _⟩ := ins_get I.hok hH
  obtain ⟨mB, J', _⟩ := ins_get I.hok hH'
  obtain ⟨od, J, _⟩ := J.look
  obtain ⟨od', J', _⟩ := J'.look
  obtain ⟨m, hF⟩ := I.fr
  show wpAny (model X.prog X.w) X.A (richCompare .Eq (.ref a) (.ref b)) _ _ _
  refine PySem.W.cmp_K (op := .Eq) (tb := .ref C) hr.units0 hF I.ok.mod.kin J J'.type (by simp [PySem.W.notFirst]) hs hf ?_
  exact thn (callD (us := [.ref a, .ref b]) (vs := [.ref a, .ref b]) (ds := [dx, dy]) F hr hb tk I ok (.cons rdx (.cons rdy .nil)) (.cons rfl (.cons rfl .nil)) rfl q) fun v s' h => ep_back h
/-- ~x of an own class -/
def eInv (c : String) (g : DFn) (f : DE) : DE := fun s => (f s).bind fun d s1 => match insOf d s1 with
  | some (c1, _) => if c1 = c then lift s1 (g [d] s1.st) else .stuck
  | none => .stuck
theorem pd_inv {c : String} {C f : Addr} {k : Nat} {fd : FuncData} {ps : List Str} {g : DFn} {e : Expr} {fe : DE} {pos : Pos} (hC : G.ct c = some C) (hs : PySem.W.findIn X.K (.ref C) "__invert__" = some (some (.ref f))) (hf : PySem.W.isFn X.K (.ref f) = true)
    (F : FnOk X.prog X.w X.K X.mg X.base (L2.CX X.prog X.w) k f fd ps (spG G 1 g)) (hr : Room k X.A) (hb : Binds X.K fd ps []) (tk : Takes X W) (he : PD G W X e fe) : PD G W X (.UnaryOp .Invert e pos) (eInv c g fe) := by
  refine ⟨fun pins sh σ H Q I h => ?_⟩
  obtain ⟨κ, w, s, ok, q⟩ := h
  have hh : tD G W fe σ H fun v H1 => ∃ d s1 w1, w.le w1 ∧ Ok G κ w1 s1 σ H1 ∧ Rep G w1 v d ∧ PostG G W (Rep G) κ w1 σ (match insOf d s1 with
    | some (c1, _) => if c1 = c then lift s1 (g [d] s1.st) else .stuck
    | none => .stuck) Q := ⟨κ, w, s, ok, PostG.bind q⟩
  refine UnaryOp_ (thn (he.run pins sh σ H _ I hh) fun u s1 ⟨x, H1, I1, rx, d, t1, w1, le, ok1, r1, q1⟩ => ?_)
  cases e1 : insOf d t1 with
  | none => rw [e1] at q1; exact q1.elim
  | some p =>
    obtain ⟨c1, fs⟩ := p
    rw [e1] at q1
    replace q1 : PostG G W (Rep G) κ w1 σ (if c1 = c then lift t1 (g [d] t1.st) else .stuck) Q := q1
    split at q1
    · rename_i hc
      subst hc
      obtain ⟨a, C', dx, vs, ev, hC', hH, rf⟩ := r1.ins_of ok1 e1
      rw [hC] at hC'
      cases hC'
      subst ev
      obtain rfl : u = Value.ref a := rx
      obtain ⟨mA, J, _⟩ := ins_get I1.hok hH
      obtain ⟨od, J, _⟩ := J.look
      obtain ⟨m, hF⟩ := I1.fr
      exact PySem.W.ksp_inv hF I1.ok.mod.kin J hs hf (callD (us := [.ref a]) (vs := [.ref a]) (ds := [d]) F hr hb tk I1 ok1 (.cons r1 .nil) (.cons rfl .nil) rfl q1)
    · exact q1.elim
end
end DL
set_option maxRecDepth 100000
set_option maxHeartbeats 4000000
set_option autoImplicit false
namespace DL
open PySem PySem.Spec PyProof.Rows L2 RZ
section
variable {G : Gam} {W : WX} {X : Cx}
/-! ### list comprehensions -/
abbrev WF : WX := fun _ _ _ _ => False
def wipeD (vs : List Nat) (l : List Sl) : List Sl := match vs with
  | [] => l
  | v :: vs => (wipeD vs l).set v .un
def wipeS (vs : List Nat) (s : DS) : DS := ⟨wipeD vs s.sl, s.st⟩
theorem wipeD_length (l : List Sl) : ∀ vs : List Nat, (wipeD vs l).length = l.length
  | [] => rfl
  | v :: vs => by unfold wipeD; rw [List.length_set, wipeD_length l vs]
theorem wipeD_in {l : List Sl} {i : Nat} {x : Sl} : ∀ {vs : List Nat}, (wipeD vs l)[i]? = some x → (i ∈ vs ∧ x = .un) ∨ (i ∉ vs ∧ l[i]? = some x)
  | [], h => .inr ⟨by simp, h⟩
  | v :: vs, h => by
    unfold wipeD at h
    by_cases hi : v = i
    · subst hi
      by_cases hv : v < (wipeD vs l).length
      · rw [List.getElem?_set_self hv] at h
        cases h
        exact .inl ⟨List.mem_cons_self, rfl⟩
      · rw [List.getElem?_eq_none (by simpa using hv)] at h; cases h
    · rw [List.getElem?_set_ne hi] at h
      rcases wipeD_in h with ⟨h1, h2⟩ | ⟨h1, h2⟩
      · exact .inl ⟨List.mem_cons_of_mem _ h1, h2⟩
      · exact .inr ⟨by simp only [List.mem_cons, not_or]; exact ⟨fun e => hi e.symm, h1⟩, h2⟩
theorem wipe_out' {σ : L2.St} {i : Nat} : ∀ {vs : List Nat}, i ∉ vs → (L2.wipe σ vs)[i]? = σ[i]?
  | [], _ => rfl
  | v :: vs, h => by
    unfold L2.wipe
    rw [List.getElem?_set_ne (fun e => h (by rw [e]; exact List.mem_cons_self)), wipe_out' fun z => h (List.mem_cons_of_mem _ z)]
theorem Ok.wipe {κ : Bs} {w : Wd} {s : DS} {σ : L2.St} {H : Hp} (h : Ok G κ w s σ H) (vs : List Nat) : Ok G κ w (wipeS vs s) (L2.wipe σ vs) H := by
  refine ⟨h.fok, h.nx, by rw [wipe_length]; exact (wipeD_length _ _).trans h.len, fun i d e => ?_, fun i x e o => ?_, fun i j x y a e1 e2 o1 o2 h1 h2 => ?_, fun p hp => ?_, fun a ha c fs e => ?_⟩
  · rcases wipeD_in e with ⟨_, z⟩ | ⟨z, e⟩
    · cases z
    · rw [wipe_out' z]; exact h.val i d e
  · rcases wipeD_in e with ⟨_, z⟩ | ⟨z, e⟩
    · subst z; cases o
    · rw [wipe_out' z]; exact h.own i x e o
  · rcases wipeD_in e1 with ⟨_, z⟩ | ⟨z, e1⟩
    · subst z; cases o1
    · rcases wipeD_in e2 with ⟨_, z'⟩ | ⟨z', e2⟩
      · subst z'; cases o2
      · rw [wipe_out' z] at h1
        rw [wipe_out' z'] at h2
        exact h.ne i j x y a e1 e2 o1 o2 h1 h2
  · obtain ⟨q1, q2, q3, q4, q5⟩ := h.gam p hp
    refine ⟨q1, q2, q3, q4, fun i x e o => ?_⟩
    rcases wipeD_in e with ⟨_, z⟩ | ⟨z, e⟩
    · subst z; cases o
    · rw [wipe_out' z]; exact q5 i x e o
  · rcases wipeD_in e with ⟨_, z⟩ | ⟨z, e⟩
    · cases z
    · rw [wipe_out' z]; exact h.me a ha c fs e
/-- the slots behind the block: the block's own names as they were -/
def unwipe (vs : List Nat) (old new : List Sl) : List Sl := match vs with
  | [] => new
  | v :: vs => (unwipe vs old new).set v (match old[v]? with | some (.val d) => .val d | _ => .un)
theorem unwipe_length (l l' : List Sl) : ∀ vs : List Nat, (unwipe vs l l').length = l'.length
  | [] => rfl
  | v :: vs => by unfold unwipe; rw [List.length_set, unwipe_length l l' vs]
theorem unwipe_in {l l' : List Sl} {i : Nat} {x : Sl} : ∀ {vs : List Nat}, (unwipe vs l l')[i]? = some x → (i ∈ vs ∧ (x = .un ∨ ∃ d, x = .val d ∧ l[i]? = some x)) ∨ (i ∉ vs ∧ l'[i]? = some x)
  | [], h => .inr ⟨by simp, h⟩
  | v :: vs, h => by
    unfold unwipe at h
    by_cases hi : v = i
    · subst hi
      by_cases hv : v < (unwipe vs l l').length
      · rw [List.getElem?_set_self hv] at h
        refine .inl ⟨List.mem_cons_self, ?_⟩
        cases e : l[v]? with
        | none => rw [e] at h; cases h; exact .inl rfl
        | some y =>
          rw [e] at h
          cases y with
          | val d => cases h; exact .inr ⟨d, rfl, rfl⟩
          | _ => cases h; exact .inl rfl
      · rw [List.getElem?_eq_none (by simpa using hv)] at h; cases h
    · rw [List.getElem?_set_ne hi] at h
      rcases unwipe_in h with ⟨h1, h2⟩ | ⟨h1, h2⟩
      · exact .inl ⟨List.mem_cons_of_mem _ h1, h2⟩
      · exact .inr ⟨by simp only [List.mem_cons, not_or]; exact ⟨fun e => hi e.symm, h1⟩, h2⟩
theorem Ok.unwipe {κ κ' : Bs} {w w1 : Wd} {s s1 : DS} {σ : L2.St} {H H1 : Hp} {vs : List Nat} (h1 : Ok G κ' w1 s1 σ H1) (le : w1.le w) (h : Ok G κ w s (L2.wipe σ vs) H) (hme : κ.me = κ'.me) : Ok G κ w ⟨DL.unwipe vs s1.sl s.sl, s.st⟩ σ H := by
  refine ⟨h.fok, h.nx, ?_, fun i d e => ?_, fun i x e o => ?_, fun i j x y a e1 e2 o1 o2 q1 q2 => ?_, fun p hp => ?_, fun a ha c fs e => ?_⟩
  · show (DL.unwipe vs s1.sl s.sl).length = σ.length
    rw [unwipe_length, h.len, wipe_length]
  · rcases unwipe_in e with ⟨_, z | ⟨d', z, e⟩⟩ | ⟨z, e⟩
    · cases z
    · obtain ⟨v, q1, q2⟩ := h1.val i d e
      exact ⟨v, q1, q2.mono le⟩
    · obtain ⟨v, q1, q2⟩ := h.val i d e
      exact ⟨v, by rw [wipe_out' z] at q1; exact q1, q2⟩
  · rcases unwipe_in e with ⟨_, z | ⟨d', z, e⟩⟩ | ⟨z, e⟩
    · subst z; cases o
    · subst z; cases o
    · have := h.own i x e o
      rwa [wipe_out' z] at this
  · rcases unwipe_in e1 with ⟨_, z | ⟨d', z, e1⟩⟩ | ⟨z, e1⟩
    · subst z; cases o1
    · subst z; cases o1
    · rcases unwipe_in e2 with ⟨_, z' | ⟨d', z', e2⟩⟩ | ⟨z', e2⟩
      · subst z'; cases o2
      · subst z'; cases o2
      · exact h.ne i j x y a e1 e2 o1 o2 (by rw [wipe_out' z]; exact q1) (by rw [wipe_out' z']; exact q2)
  · obtain ⟨q1, q2, q3, q4, q5⟩ := h.gam p hp
    refine ⟨q1, q2, q3, q4, fun i x e o => ?_⟩
    rcases unwipe_in e with ⟨_, z | ⟨d', z, e⟩⟩ | ⟨z, e⟩
    · subst z; cases o
    · subst z; cases o
    · have := q5 i x e o
      rwa [wipe_out' z] at this
  · rcases unwipe_in e with ⟨_, z | ⟨d', z, e⟩⟩ | ⟨z, e⟩
    · cases z
    · cases z
    · have := h.me a ha c fs e
      rwa [wipe_out' z] at this
def lcL (vs : List Nat) (g : DG) (t : DT) (e : DE) : List D → List D → DS → Res DS (List D)
  | [], acc, s => .ok acc s
  | d :: r, acc, s => (noX (g d (wipeS vs s))).bind fun _ s1 => (noX (t s1)).bind fun b s2 => if b = true then (noX (e s2)).bind fun y s3 => if acc.length < 1000000 then lcL vs g t e r (acc ++ [y]) s3 else .stuck
    else lcL vs g t e r acc s2
def aLc (vs : List Nat) (it : DA) (g : DG) (t : DT) (e : DE) : DA := fun s => (it s).bind fun items s1 => (noX (lcL vs g t e items [] s1)).bind fun ys s2 => .ok ys ⟨unwipe vs s1.sl (wipeD vs s2.sl), s2.st⟩
def bYes : DT := fun s => .ok true s
theorem ptds_nil : PTs X [] (tDT G W bYes) := ⟨fun pins s σ H Q I ⟨κ, w, d, ok, q⟩ => pts_nil.run pins s σ H Q I (q w true H (.refl _) ok rfl)⟩
theorem ptds_one {c : Expr} {t : DT} (h : PDT G W X c t) : PTs X [c] (tDT G W t) := pts_one h
theorem wipe_same {σ σ2 : L2.St} {vs is : List Nat} (hl : σ2.length = (L2.wipe σ vs).length) (h : ∀ i : Nat, i ∉ is → σ2[i]? = (L2.wipe σ vs)[i]?) (hs : ∀ i ∈ is, i ∈ vs) : L2.wipe σ2 vs = L2.wipe σ vs := by
  have at_ : ∀ (τ : L2.St) (i : Nat), i ∈ vs → (L2.wipe τ vs)[i]? = if i < τ.length then some none else none := by
    intro τ i hi
    clear h hs hl
    induction vs with
    | nil => simp at hi
    | cons v r ih =>
      unfold L2.wipe
      by_cases e : v = i
      · subst e
        by_cases c : v < τ.length
        · rw [List.getElem?_set_self (by rw [wipe_length]; exact c), if_pos c]
        · rw [if_neg c, List.getElem?_eq_none (by rw [List.length_set, wipe_length]; omega)]
      · rw [List.getElem?_set_ne e]
        exact ih (by rcases List.mem_cons.mp hi with z | z; exact absurd z.symm e; exact z)
  have hl2 : σ2.length = σ.length := by rw [hl, wipe_length]
  apply List.ext_getElem?
  intro i
  by_cases hi : i ∈ vs
  · rw [at_ σ2 i hi, at_ σ i hi, hl2]
  · rw [wipe_out' hi]
    exact h i fun z => hi (hs i z)
theorem lc_of {vs is : List Nat} (hs : ∀ i ∈ is, i ∈ vs) {κ : Bs} {w : Wd} {J : It} {g : DG} {t : DT} {e : DE} {items : List D} (hJ : ItOk G w J items) {s0 : DS} {σ : L2.St} {H1 : Hp} {Q : VK} (ok : Ok G κ w s0 σ H1) {Dp : Addr} (hD : H1 Dp = none)
    (q : match noX (lcL vs g t e items [] s0) with
      | .ok ys s2 => ∀ w2 acc H2, w.le w2 → Ok G (κ.plus Dp (.lst acc)) w2 (wipeS vs s2) (L2.wipe σ vs) H2 → Reps G w2 acc ys → Q (.ref Dp) H2
      | _ => False) :
    ∃ Wv : Nat → Nat → Hp → Prop, (∃ m, Wv 0 m (upd H1 Dp (.lst []))) ∧ ∀ i m H, Wv i m H →
      (J.stop i H ∧ Q (.ref Dp) H) ∨ (J.go i H ∧ ∃ Nx : Hp → Prop, (∀ H', Nx H' → ∃ m', m' < m ∧ Wv (i + 1) m' H') ∧ ∀ x H', J.yld i H x H' → tDG G is g x (L2.wipe σ vs) H' fun σ2 H2 => L2.wipe σ2 vs = L2.wipe σ vs ∧ tDT G WF t σ2 H2 fun b H3 =>
        if b = true then tD G WF e σ2 H3 fun y H4 => ∃ acc, H4 Dp = some (.lst acc) ∧ acc.length < sizeLine ∧ Nx (upd H4 Dp (.lst (acc ++ [y]))) else Nx H3) := by
  have hγ := ok.apart hD
  -- a state of the loop: slots wiped
  refine ⟨fun i m H => ∃ w' s' acc accD, w.le w' ∧ Ok G (κ.plus Dp (.lst acc)) w' (wipeS vs s') (L2.wipe σ vs) H ∧ Reps G w' acc accD ∧ (items.drop i).length = m ∧
    (match noX (lcL vs g t e (items.drop i) accD s') with
      | .ok ys s2 => ∀ w2 acc H2, w'.le w2 → Ok G (κ.plus Dp (.lst acc)) w2 (wipeS vs s2) (L2.wipe σ vs) H2 → Reps G w2 acc ys → Q (.ref Dp) H2
      | _ => False), ⟨items.length, w, s0, [], [], .refl _, (ok.fresh hD _).wipe vs, .nil, by simp, ?_⟩, ?_⟩
  · rw [List.drop_zero]
    exact q
  · rintro i m H ⟨w', s', acc, accD, le', ok', ra, hm, q'⟩
    cases ed : items.drop i with
    | nil =>
      rw [ed] at q'
      have hn : items[i]? = none := by
        have := congrArg (fun l => l[0]?) ed
        simpa using this
      exact .inl ⟨(hJ w' _ H le' ok'.fok i).2 hn, q' w' acc H (.refl _) ok' ra⟩
    | cons d r =>
      rw [ed] at q' hm
      obtain ⟨h1, h2⟩ := drop_get ed
      obtain ⟨go, yl⟩ := (hJ w' _ H le' ok'.fok i).1 d h1
      refine .inr ⟨go, fun H2 => ∃ w2 s2 acc accD, w.le w2 ∧ Ok G (κ.plus Dp (.lst acc)) w2 (wipeS vs s2) (L2.wipe σ vs) H2 ∧ Reps G w2 acc accD ∧
        (match noX (lcL vs g t e r accD s2) with
          | .ok ys s3 => ∀ w3 acc H3, w2.le w3 → Ok G (κ.plus Dp (.lst acc)) w3 (wipeS vs s3) (L2.wipe σ vs) H3 → Reps G w3 acc ys → Q (.ref Dp) H3
          | _ => False), fun H2 ⟨w2, s2, acc2, accD2, l2, o2, r2, q2⟩ => ?_, fun x H' hy => ?_⟩
      · exact ⟨r.length, by rw [← hm]; exact Nat.lt_succ_self _, w2, s2, acc2, accD2, l2, o2, r2, by rw [h2], by rw [h2]; exact q2⟩
      · obtain ⟨w2, nx, fok, rx⟩ := yl x H' hy
        have ok2 : Ok G (κ.plus Dp (.lst acc)) w2 (wipeS vs s') (L2.wipe σ vs) H' := ok'.step nx fok
        refine ⟨κ.plus Dp (.lst acc), w2, wipeS vs s', d, ok2, rx, PostT.ofNoX ?_⟩
        unfold lcL at q'
        cases e1 : noX (g d (wipeS vs s')) with
        | stuck => rw [e1] at q'; exact q'.elim
        | exc x s => exact absurd e1 (noX_exc _ _ _)
        | ok u s1 =>
          rw [e1] at q'
          rw [Res.bind_ok] at q'
          intro w3 σ3 H3 l3 o3 hσ
          have hw : L2.wipe σ3 vs = L2.wipe σ vs := wipe_same hσ.1 hσ.2 hs
          refine ⟨hw, κ.plus Dp (.lst acc), w3, s1, o3, ?_⟩
          cases e2 : t s1 with
          | stuck => rw [e2] at q'; exact q'.elim
          | exc x s => rw [e2] at q'; exact q'.elim
          | ok b s2 =>
            rw [e2] at q'
            intro w4 b' H4 l4 o4 eb
            subst eb
            have lw : w'.le w4 := (nx.le.trans l3).trans l4
            cases b' with
            | false =>
              rw [if_neg (fun z => nomatch z)]
              refine ⟨w4, s2, acc, accD, le'.trans lw, by rw [← hw]; exact o4.wipe vs, ra.mono lw, ?_⟩
              replace q' : (match noX (lcL vs g t e r accD s2) with
                | .ok ys s3 => ∀ w3 acc H3, w'.le w3 → Ok G (κ.plus Dp (.lst acc)) w3 (wipeS vs s3) (L2.wipe σ vs) H3 → Reps G w3 acc ys → Q (.ref Dp) H3
                | _ => False) := q'
              cases e3 : noX (lcL vs g t e r accD s2) with
              | stuck => rw [e3] at q'; exact q'.elim
              | exc x s => rw [e3] at q'; exact q'.elim
              | ok ys s3 => rw [e3] at q'; exact fun w5 acc5 H5 l5 o5 r5 => q' w5 acc5 H5 (lw.trans l5) o5 r5
            | true =>
              rw [if_pos rfl]
              refine ⟨κ.plus Dp (.lst acc), w4, s2, o4, ?_⟩
              replace q' : (match noX ((noX (e s2)).bind fun y s3 => if accD.length < 1000000 then lcL vs g t e r (accD ++ [y]) s3 else .stuck) with
                | .ok ys s3 => ∀ w3 acc H3, w'.le w3 → Ok G (κ.plus Dp (.lst acc)) w3 (wipeS vs s3) (L2.wipe σ vs) H3 → Reps G w3 acc ys → Q (.ref Dp) H3
                | _ => False) := q'
              cases e3 : e s2 with
              | stuck => rw [e3] at q'; exact q'.elim
              | exc x s => rw [e3] at q'; exact q'.elim
              | ok y s3 =>
                rw [e3] at q'
                intro w5 v5 H5 l5 o5 r5
                replace q' : (match noX (if accD.length < 1000000 then lcL vs g t e r (accD ++ [y]) s3 else .stuck) with
                  | .ok ys s3 => ∀ w3 acc H3, w'.le w3 → Ok G (κ.plus Dp (.lst acc)) w3 (wipeS vs s3) (L2.wipe σ vs) H3 → Reps G w3 acc ys → Q (.ref Dp) H3
                  | _ => False) := q'
                by_cases c : accD.length < 1000000
                · rw [if_pos c] at q'
                  refine ⟨acc, (o5.gam (Dp, .lst acc) List.mem_cons_self).1, by rw [ra.length, sizeLine_eq]; omega, w5, s3, acc ++ [v5], accD ++ [y], le'.trans (lw.trans l5), ?_, ((ra.mono lw).mono l5).append (.cons r5 .nil), ?_⟩
                  · rw [← hw]
                    exact (o5.swap hγ).wipe vs
                  · cases e4 : noX (lcL vs g t e r (accD ++ [y]) s3) with
                    | stuck => rw [e4] at q'; exact q'.elim
                    | exc x s => rw [e4] at q'; exact q'.elim
                    | ok ys s4 => rw [e4] at q'; exact fun w6 acc6 H6 l6 o6 r6 => q' w6 acc6 H6 ((lw.trans l5).trans l6) o6 r6
                · rw [if_neg c] at q'
                  exact q'.elim
theorem pdo_lc {elt tg iter : Expr} {ifs : List Expr} {scope : Scope} {own : List (Str × Nat)} {is : List Nat} {pos : Pos} {it : DA} {g : DG} {t : DT} {e : DE} (hc : X.calm = true) (hN : X.N.Nodup) (hi : PDI G W X tg iter it) (ok : BlkOk X.N X.env.scope scope own) (hs' : ∀ i ∈ is, i ∈ own.map (·.2))
    (hg : ∀ (s : Shared) (H : Hp) (C : Addr) (cl : List (Str × Addr)) (fp : List Addr), PDG G (X.blk s H scope (compEnvC scope cl C X.env) fp) tg is g) (ht : ∀ (s : Shared) (H : Hp) (C : Addr) (cl : List (Str × Addr)) (fp : List Addr), PTs (X.blk s H scope (compEnvC scope cl C X.env) fp) ifs (tDT G WF t))
    (he : ∀ (s : Shared) (H : Hp) (C : Addr) (cl : List (Str × Addr)) (fp : List Addr), PD G WF (X.blk s H scope (compEnvC scope cl C X.env) fp) elt e) (hs : ∀ x, foldedSetIterable iter X.env x = pure x := by intro _; rfl) :
    PDo G W X (.ListComp elt [⟨tg, iter, ifs, 0⟩] scope pos) (aLc (own.map (·.2)) it g t e) :=
  (pe_lc hc hN hi ok hg ht he hs).imp fun σ H Q h => lc_fin hs' h
where
  lc_fin {vs is : List Nat} (hs : ∀ i ∈ is, i ∈ vs) {it : DA} {g : DG} {t : DT} {e : DE} {σ : L2.St} {H : Hp} {Q : VK} (h : tDo G W (aLc vs it g t e) σ H Q) : tLc (tDI G W it) (tDG G is g) (tDT G WF t) (tD G WF e) vs σ H Q := by
    obtain ⟨κ, w, s, ok, q⟩ := h
    refine ⟨κ, w, s, ok, ?_⟩
    unfold aLc at q
    cases e1 : it s with
    | stuck => rw [e1] at q; exact q.elim
    | exc x s' => rw [e1] at q; exact q
    | ok items s1 =>
      rw [e1] at q
      rw [Res.bind_ok] at q
      intro w1 J H1 l1 o1 hJ D hD
      refine lc_of hs hJ o1 hD ?_
      cases e2 : noX (lcL vs g t e items [] s1) with
      | stuck => rw [e2] at q; exact q.elim
      | exc x s' => exact absurd e2 (noX_exc _ _ _)
      | ok ys s2 =>
        rw [e2] at q
        intro w2 acc H2 l2 o2 r2
        exact q w2 D acc H2 (l1.trans l2) (Ok.unwipe o1 l2 o2 rfl) (o1.apart hD) r2
/-- name = [..] on one line, the name a plain local -/
theorem pds_setLc {i : Nat} {y : Str} {py : Pos} {elt tg iter : Expr} {ifs : List Expr} {scope : Scope} {own : List (Str × Nat)} {is : List Nat} {pos spos : Pos} {it : DA} {g : DG} {t : DT} {e : DE} (hc : X.calm = true) (hN : X.N.Nodup) (hy : X.N[i]? = some y) (hyl : X.env.scope.names.lookup y = some .local)
    (hsw : swapsWith (.ListComp elt [⟨tg, iter, ifs, 0⟩] scope pos) (some (.Name y py)) spos.line X.env = pure true) (hi : PDI G W X tg iter it) (ok : BlkOk X.N X.env.scope scope own) (hs' : ∀ i ∈ is, i ∈ own.map (·.2))
    (hg : ∀ (s : Shared) (H : Hp) (C : Addr) (cl : List (Str × Addr)) (fp : List Addr), PDG G (X.blk s H scope (compEnvC scope cl C X.env) fp) tg is g) (ht : ∀ (s : Shared) (H : Hp) (C : Addr) (cl : List (Str × Addr)) (fp : List Addr), PTs (X.blk s H scope (compEnvC scope cl C X.env) fp) ifs (tDT G WF t))
    (he : ∀ (s : Shared) (H : Hp) (C : Addr) (cl : List (Str × Addr)) (fp : List Addr), PD G WF (X.blk s H scope (compEnvC scope cl C X.env) fp) elt e) (hs : ∀ x, foldedSetIterable iter X.env x = pure x := by intro _; rfl) :
    PDS G W X (.Assign [.Name y py] (.ListComp elt [⟨tg, iter, ifs, 0⟩] scope pos) spos) (sSetO i (aLc (own.map (·.2)) it g t e)) :=
  (ps_setLc hc hN hy hyl hsw hi ok hg ht he hs).imp fun N σ H q => by
    have q := setO_of q
    exact pdo_lc.lc_fin hs' q
/-! ### enumerate, zip -/
def enumL (xs : List D) : List D := (List.range xs.length).zipWith (fun (i : Nat) x => .tup [.int (i : Int), x]) xs
def zipL (xs ys : List D) : List D := xs.zipWith (fun x y => .tup [x, y]) ys
theorem zipL_get {xs ys : List D} {i : Nat} {d : D} (h : (zipL xs ys)[i]? = some d) : ∃ x y, xs[i]? = some x ∧ ys[i]? = some y ∧ d = .tup [x, y] := by
  unfold zipL at h
  rw [List.getElem?_zipWith] at h
  cases e1 : xs[i]? with
  | none => simp [e1] at h
  | some x =>
    cases e2 : ys[i]? with
    | none => simp [e1, e2] at h
    | some y => simp [e1, e2] at h; exact ⟨x, y, rfl, rfl, h.symm⟩
theorem enumL_get {xs : List D} {i : Nat} {d : D} (h : (enumL xs)[i]? = some d) : ∃ x, xs[i]? = some x ∧ d = .tup [.int (i : Int), x] := by
  unfold enumL at h
  rw [List.getElem?_zipWith] at h
  cases e2 : xs[i]? with
  | none => simp [e2] at h
  | some y =>
    have hi : i < xs.length := (List.getElem?_eq_some_iff.mp e2).1
    rw [List.getElem?_range hi, e2] at h
    cases h
    exact ⟨y, rfl, rfl⟩
theorem itOk_enum (hK : G.K = X.K) {w : Wd} {a : Addr} {vs : List V} {ds : List D} (e : SqL G.K w.F a vs) (r : Reps G w vs ds) : ItOk G w (Ite X.K a) (enumL ds) := by
  intro w1 S H le fok i
  have q : SqL X.K H a vs := hK ▸ SqL.le (SqL.le e le.f) fok.sub
  refine ⟨fun d hd => ?_, fun hn => ?_⟩
  · obtain ⟨x, h1, rfl⟩ := enumL_get hd
    obtain ⟨y, h2, h3⟩ := r.get h1
    refine ⟨⟨vs, y, q, h2⟩, fun v H' ⟨T, x', hv, hT, hH, hx⟩ => ?_⟩
    have := hx vs q
    rw [h2] at this
    cases this
    obtain ⟨f2, n2⟩ := fok.alloc hT (.tup [.int (i : Nat), y])
    subst hH
    subst hv
    exact ⟨_, n2, f2, .tup (.inl (.inl upd_same)) (.cons (.int _) (.cons ((h3.mono le).mono n2.le) .nil))⟩
  · refine ⟨vs, q, ?_⟩
    have := List.getElem?_eq_none_iff.mp hn
    unfold enumL at this
    rw [List.length_zipWith, List.length_range] at this
    rw [r.length]
    omega
def itEnum (f : DA) : DA := fun s => (f s).bind fun ds s1 => match ds with
  | [.lst xs] => .ok (enumL xs) s1
  | [.scr xs] => .ok (enumL xs) s1
  | _ => .stuck
theorem pdi_enum (hK : G.K = X.K) {e : Expr} {fa : DA} {p pos tpos : Pos} {elts : List Expr} {kk : Nat} (hg : Gl X "enumerate") (hm : X.mg "enumerate" = none) (ha : PDA G W X [e] fa) (hs : starEach [e] X.env = [(false, eval e X.env)] := by rfl) :
    PDI G W X (.Tuple elts kk tpos) (.Call (.Name "enumerate" p) [e] [] pos) (itEnum fa) :=
  (pi_enum hg hm ha hs).imp fun σ H R ⟨κ, w, s, ok, q⟩ => ⟨κ, w, s, ok, (PostG.bindI q).imp fun v H1 ⟨d, s1, w1, le, ok1, r1, q1⟩ => by
    match d, q1 with
    | [.lst xs], q1 =>
      obtain ⟨v, rfl, r⟩ := r1.one
      cases r with
      | @lst a vs ds e r =>
        have e' : SqL G.K w1.F a vs := .inl (.inl e)
        exact ⟨a, vs, rfl, hK ▸ SqL.le e' ok1.fok.sub, q1 w1 _ H1 (.refl _) ok1 (itOk_enum hK e' r)⟩
    | [.scr xs], q1 =>
      obtain ⟨v, rfl, r⟩ := r1.one
      cases r with
      | @scr a vs ds e r => exact ⟨a, vs, rfl, hK ▸ SqL.le e ok1.fok.sub, q1 w1 _ H1 (.refl _) ok1 (itOk_enum hK e r)⟩⟩
theorem zip_none {vs ws : List V} {ds es : List D} {w : Wd} {i : Nat} (r : Reps G w vs ds) (r' : Reps G w ws es) (hn : (zipL ds es)[i]? = none) : vs.length ≤ i ∨ ws.length ≤ i := by
  have := List.getElem?_eq_none_iff.mp hn
  unfold zipL at this
  rw [List.length_zipWith] at this
  rw [r.length, r'.length]
  omega
theorem itOk_zip (hK : G.K = X.K) {w : Wd} {a b : Addr} {vs ws : List V} {ds es : List D} (e : SqL G.K w.F a vs) (e' : SqL G.K w.F b ws) (r : Reps G w vs ds) (r' : Reps G w ws es) : ItOk G w (Itz X.K a b) (zipL ds es) := by
  intro w1 S H le fok i
  have q : SqL X.K H a vs := hK ▸ SqL.le (SqL.le e le.f) fok.sub
  have q' : SqL X.K H b ws := hK ▸ SqL.le (SqL.le e' le.f) fok.sub
  refine ⟨fun d hd => ?_, fun hn => ⟨vs, ws, q, q', zip_none r r' hn⟩⟩
  obtain ⟨x, y, h1, h1', rfl⟩ := zipL_get hd
  obtain ⟨x', h2, h3⟩ := r.get h1
  obtain ⟨y', h2', h3'⟩ := r'.get h1'
  refine ⟨⟨vs, ws, x', y', q, q', h2, h2'⟩, fun v H' ⟨T, x2, y2, hv, hT, hH, hx, hy⟩ => ?_⟩
  have := hx vs q
  rw [h2] at this
  cases this
  have := hy ws q'
  rw [h2'] at this
  cases this
  obtain ⟨f2, n2⟩ := fok.alloc hT (.tup [x', y'])
  subst hH
  subst hv
  exact ⟨_, n2, f2, .tup (.inl (.inl upd_same)) (.cons ((h3.mono le).mono n2.le) (.cons ((h3'.mono le).mono n2.le) .nil))⟩
theorem itOk_zipT (hK : G.K = X.K) {w : Wd} {a b : Addr} {vs ws : List V} {ds es : List D} (e : SqT G.K w.F a vs) (e' : SqT G.K w.F b ws) (r : Reps G w vs ds) (r' : Reps G w ws es) : ItOk G w (ItzT X.K a b) (zipL ds es) := by
  intro w1 S H le fok i
  have q : SqT X.K H a vs := hK ▸ SqT.le (SqT.le e le.f) fok.sub
  have q' : SqT X.K H b ws := hK ▸ SqT.le (SqT.le e' le.f) fok.sub
  refine ⟨fun d hd => ?_, fun hn => ⟨vs, ws, q, q', zip_none r r' hn⟩⟩
  obtain ⟨x, y, h1, h1', rfl⟩ := zipL_get hd
  obtain ⟨x', h2, h3⟩ := r.get h1
  obtain ⟨y', h2', h3'⟩ := r'.get h1'
  refine ⟨⟨vs, ws, x', y', q, q', h2, h2'⟩, fun v H' ⟨T, x2, y2, hv, hT, hH, hx, hy⟩ => ?_⟩
  have := hx vs q
  rw [h2] at this
  cases this
  have := hy ws q'
  rw [h2'] at this
  cases this
  obtain ⟨f2, n2⟩ := fok.alloc hT (.tup [x', y'])
  subst hH
  subst hv
  exact ⟨_, n2, f2, .tup (.inl (.inl upd_same)) (.cons ((h3.mono le).mono n2.le) (.cons ((h3'.mono le).mono n2.le) .nil))⟩
def itZip (f : DA) : DA := fun s => (f s).bind fun ds s1 => match ds with
  | [.lst xs, .lst ys] => .ok (zipL xs ys) s1
  | [.tup xs, .tup ys] => .ok (zipL xs ys) s1
  | _ => .stuck
theorem pdi_zip (hK : G.K = X.K) {e e2 : Expr} {fa : DA} {p pos tpos : Pos} {elts : List Expr} {kk : Nat} (hg : Gl X "zip") (hm : X.mg "zip" = none) (ha : PDA G W X [e, e2] fa)
    (hs : starEach [e, e2] X.env = (false, eval e X.env) :: starEach [e2] X.env := by rfl) (hpl : (backTo pos (starEach [e2] X.env)).any (·.1) = false := by rfl) :
    PDI G W X (.Tuple elts kk tpos) (.Call (.Name "zip" p) [e, e2] [] pos) (itZip fa) :=
  (pi_zipA hg hm ha hs hpl).imp fun σ H R ⟨κ, w, s, ok, q⟩ => ⟨κ, w, s, ok, (PostG.bindI q).imp fun v H1 ⟨d, s1, w1, le, ok1, r1, q1⟩ => by
    match d, q1 with
    | [.lst xs, .lst ys], q1 =>
      obtain ⟨v, v', rfl, r, r'⟩ := r1.two
      cases r with
      | @lst a vs ds e r =>
        cases r' with
        | @lst b ws es e' r' =>
          have e1 : SqL G.K w1.F a vs := .inl (.inl e)
          have e2 : SqL G.K w1.F b ws := .inl (.inl e')
          exact ⟨a, b, vs, ws, rfl, .inl ⟨hK ▸ SqL.le e1 ok1.fok.sub, hK ▸ SqL.le e2 ok1.fok.sub, q1 w1 _ H1 (.refl _) ok1 (itOk_zip hK e1 e2 r r')⟩⟩
    | [.tup xs, .tup ys], q1 =>
      obtain ⟨v, v', rfl, r, r'⟩ := r1.two
      cases r with
      | @tup a vs ds e r =>
        cases r' with
        | @tup b ws es e' r' =>
          exact ⟨a, b, vs, ws, rfl, .inr ⟨hK ▸ SqT.le e ok1.fok.sub, hK ▸ SqT.le e' ok1.fok.sub, q1 w1 _ H1 (.refl _) ok1 (itOk_zipT hK e e' r r')⟩⟩⟩
/-! ### x.append(e) of an own list; x += e -/
/-- the list at an own slot -/
theorem own_list {κ : Bs} {w : Wd} {s : DS} {σ : L2.St} {H : Hp} {i : Nat} {xs : List D} (ok : Ok G κ w s σ H) (e : s.sl[i]? = some (.ol xs)) : ∃ a vs, σ[i]? = some (some (.ref a)) ∧ H a = some (.lst vs) ∧ Reps G w vs xs := by
  obtain ⟨a, h1, ⟨vs, h2, h3⟩, _⟩ := ok.own i _ e rfl
  exact ⟨a, vs, h1, h2, h3⟩
def sApp (i : Nat) (fa : DA) : DStm := fun s => match s.sl[i]? with
  | some (.ol _) => (fa s).bind fun ds s1 => match ds, s1.sl[i]? with
    | [d], some (.ol xs) => if xs.length < 1000000 then .ok .nx ⟨s1.sl.set i (.ol (xs ++ [d])), s1.st⟩ else .stuck
    | _, _ => .stuck
  | _ => .stuck
theorem app_of {i : Nat} {fa : DA} {N : Ends} {σ : L2.St} {H : Hp} (h : tDS G W (sApp i fa) N σ H) : tDrop (tBM X.K "list" rAppend (tVar i) (tDA G W fa)) N σ H := by
  obtain ⟨κ, w, s, ok, q⟩ := h
  unfold sApp at q
  cases e : s.sl[i]? with
  | none => rw [e] at q; exact q.elim
  | some y =>
    rw [e] at q
    cases y with
    | ol xs0 =>
      obtain ⟨a, vs, h1, h2, h3⟩ := own_list ok e
      refine ⟨.ref a, h1, .inl ⟨rfl, vs, .inl (.inl h2)⟩, κ, w, s, ok, (PostG.bindS q).imp fun v H1 ⟨d, s1, w1, le, ok1, r1, q1⟩ => ?_⟩
      match d, q1 with
      | [d], q1 =>
        cases e1 : s1.sl[i]? with
        | none => rw [e1] at q1; exact q1.elim
        | some z =>
          rw [e1] at q1
          cases z with
          | ol xs =>
            replace q1 : PostS G W κ w1 (if xs.length < 1000000 then .ok .nx ⟨s1.sl.set i (.ol (xs ++ [d])), s1.st⟩ else .stuck) N := q1
            split at q1
            · rename_i c
              obtain ⟨a', vs', g1, g2, g3⟩ := own_list ok1 e1
              rw [h1] at g1
              cases g1
              obtain ⟨y, rfl, ry⟩ := r1.one
              refine ⟨a, vs', y, rfl, rfl, g2, by rw [g3.length, sizeLine_eq]; omega, ?_⟩
              exact q1 w1 σ _ (.refl _) (ok1.mut e1 rfl rfl h1 ⟨_, upd_same, g3.append (.cons ry .nil)⟩ fun _ _ z => nomatch z)
            · exact q1.elim
          | _ => exact q1.elim
      | [], q1 => cases e1 : s1.sl[i]? <;> exact q1.elim
      | _ :: _ :: _, q1 => cases e1 : s1.sl[i]? <;> exact q1.elim
    | _ => exact q.elim
theorem pds_append {i : Nat} {x : Str} {p apos cpos pos : Pos} {e : Expr} {fa : DA} (ho : PE X (.Name x p) (tVar i)) (ha : PDA G W X [e] fa)
    (hbase : attributeBase (.Name x p) "append" X.env (eval (.Name x p) X.env) = eval (.Name x p) X.env := by rfl)
    (hfew : ((backTo cpos (starEach [e] X.env)).all (fun x => !x.1) && (backToKw cpos (keywordEach [] X.env)).all (fun x => x.1.isSome)
      && decide ([e].length + ([] : List Keyword).length + (if ([] : List Keyword).isEmpty then 0 else 1) < 30)) = true := by rfl)
    (hline : (apos.endLine == cpos.line) = true := by rfl) (hs : starEach [e] X.env = (false, eval e X.env) :: starEach [] X.env := by rfl) (hplain : (backTo cpos (starEach [] X.env)).any (·.1) = false := by rfl)
    (hsw : swapsWith (.Call (.Attribute (.Name x p) "append" apos) [e] [] cpos) none pos.line X.env = pure false := by rfl) : PDS G W X (.Expr (.Call (.Attribute (.Name x p) "append" apos) [e] [] cpos) pos) (sApp i fa) :=
  (ps_expr (pe_bm PySem.F.plainAttrs_list PySem.F.slot_list_append PySem.F.type_list_append mt_append ho ha hbase hfew hline hs hplain) hsw).imp fun N σ H q => app_of q
/-- x += e of ints -/
def sAug (i : Nat) (o : Int → Int → Int) (f : DE) : DStm := fun s => match s.sl[i]? with
  | some (.val (.int a)) => (f s).bind fun d s1 => match d with
    | .int b => .ok .nx ⟨s1.sl.set i (.val (.int (o a b))), s1.st⟩
    | _ => .stuck
  | _ => .stuck
theorem pds_aug {i : Nat} {x : Str} {e : Expr} {f : DE} {op : Operator} {o : Int → Int → Int} {pos pos' : Pos} (hN : X.N.Nodup) (hi : X.N[i]? = some x) (hx : Loc X.env.scope x) (he : PD G W X e f) (ho : PIp X op (ipI o))
    (hf : X.fn x = true ∨ X.env.scope.names.lookup x = some .local := by first | exact .inl rfl | exact .inr rfl | assumption) : PDS G W X (.AugAssign (.Name x pos') op e pos) (sAug i o f) :=
  (ps_aug hN hi hx he ho hf).imp fun N σ H ⟨κ, w, s, ok, q⟩ => by
    unfold sAug at q
    cases e : s.sl[i]? with
    | none => rw [e] at q; exact q.elim
    | some y =>
      rw [e] at q
      cases y with
      | val d =>
        cases d with
        | int a =>
          obtain ⟨v, h1, h2⟩ := ok.val i _ e
          cases h2
          refine ⟨.int a, h1, κ, w, s, ok, (PostG.bindS q).imp fun v H1 ⟨d, s1, w1, le, ok1, r1, q1⟩ => ?_⟩
          cases r1 with
          | int b => exact ⟨a, b, rfl, rfl, q1 w1 _ H1 (.refl _) (ok1.setVal (.int _) i)⟩
          | _ => exact q1.elim
        | _ => exact q.elim
      | _ => exact q.elim
/-- a < b < c -/
def eChain (o o' : D → D → Option D) (fa fb fc : DE) : DE := fun s => (fa s).bind fun x s1 => (fb s1).bind fun y s2 => match o x y with
  | some (.bl true) => (fc s2).bind fun z s3 => match o' y z with
    | some d => .ok d s3
    | none => .stuck
  | some (.bl false) => .ok (.bl false) s2
  | _ => .stuck
theorem op2b {r : R2} {o : D → D → Option D} (hr : ∀ (κ : Bs) (w : Wd) (s : DS) (σ : L2.St) (H : Hp) (x y : V) (dx dy d : D) (Q : VK), Ok G κ w s σ H → Rep G w x dx → Rep G w y dy → o dx dy = some d → (∀ w' v H', w.le w' → Ok G κ w' s σ H' → Rep G w' v d → Q v H') → r x y H Q) :
    ∀ (κ : Bs) (w : Wd) (s : DS) (σ : L2.St) (H : Hp) (x y : V) (dx dy d : D) (Q : VK), Ok G κ w s σ H → Rep G w x dx → Rep G w y dy → o dx dy = some d → (∀ w' v H', w.le w' → Ok G κ w' s σ H' → Rep G w' v d → Q v H') → r x y H Q := hr
theorem pd_chain {op op' : CmpOp} {o o' : D → D → Option D} {a b c : Expr} {fa fb fc : DE} {pos : Pos} (ho : OpD G X (compareOp op) o) (ho' : OpD G X (compareOp op') o') (ha : PD G W X a fa) (hb : PD G W X b fb) (hc : PD G W X c fc)
    (hp : ∀ {r r' : R2} {ta tb tc : TE}, OpR X (compareOp op) r → OpR X (compareOp op') r' → PE X a ta → PE X b tb → PE X c tc → PE X (.Compare a [op, op'] [b, c] pos) (tChain r r' ta tb tc)) : PD G W X (.Compare a [op, op'] [b, c] pos) (eChain o o' fa fb fc) := by
  obtain ⟨r, h1, h2⟩ := ho
  obtain ⟨r', h1', h2'⟩ := ho'
  refine (hp h1 h1' ha hb hc).imp fun σ H Q ⟨κ, w, s, ok, q⟩ => ⟨κ, w, s, ok, (PostG.bind q).imp fun v H1 ⟨d, s1, w1, le, ok1, r1, q1⟩ => ⟨κ, w1, s1, ok1, (PostG.bind q1).imp fun v2 H2 ⟨d2, s2, w2, le2, ok2, r2, q2⟩ => ?_⟩⟩
  cases e : o d d2 with
  | none => rw [e] at q2; exact q2.elim
  | some z =>
    rw [e] at q2
    refine h2 κ w2 s2 σ H2 v v2 d d2 z _ ok2 (r1.mono le2) r2 e fun w3 v3 H3 l3 o3 r3 => ?_
    cases r3 with
    | bl k =>
      refine ⟨k, rfl, ?_⟩
      cases k with
      | false => exact q2 w3 _ H3 l3 o3 (.bl false)
      | true =>
        refine ⟨κ, w3, s2, o3, (PostG.bind (PostG.mono l3 q2)).imp fun v4 H4 ⟨d4, s4, w4, le4, ok4, r4, q4⟩ => ?_⟩
        cases e' : o' d2 d4 with
        | none => rw [e'] at q4; exact q4.elim
        | some z' => rw [e'] at q4; exact h2' κ w4 s4 σ H4 v2 v4 d2 d4 z' Q ok4 ((r2.mono l3).mono le4) r4 e' q4
    | _ => exact q2.elim
end
end DL
set_option maxRecDepth 100000
set_option maxHeartbeats 4000000
set_option autoImplicit false
namespace DL
open PySem PySem.Spec PyProof.Rows L2
section
variable {G : Gam} {W : WX} {X : Cx}
/-! ### a for over a list, a tuple, a text -/
theorem pi_any {tg l : Expr} {tl : TE} (hl : PE X l tl) : PI X tg l (fun σ H R => tl σ H fun x H1 => (∃ a, x = .ref a ∧ (∃ xs, SqL X.K H1 a xs) ∧ R (Itl X.K a) H1) ∨ (∃ a, x = .ref a ∧ (∃ xs, SqT X.K H1 a xs) ∧ R (Itt X.K a) H1) ∨ ∃ y, x = .str y ∧ R (Its y) H1) := by
  refine ⟨fun pins s σ H R I h => ?_⟩
  refine thn (hl.run pins s σ H _ I h) fun v s1 ⟨x, H1, I1, r1, q1⟩ => ?_
  rcases q1 with ⟨a, e, ⟨xs, hq⟩, q⟩ | ⟨a, e, ⟨xs, hq⟩, q⟩ | ⟨y, e, q⟩
  · subst e
    cases r1
    obtain ⟨its, rv, p, hz⟩ := I1.list hq
    refine wpAny_pyIter_list p.isList ?_
    refine ⟨s1.heap.objs.size, [s1.heap.objs.size], _, _, H1, rfl, I1.kept (t' := s1.toks) fun b o e => Heap.get?_push_of_some _ e, turn_list a _, ⟨_, Heap.get?_push_size _ rfl, rfl, rfl⟩, fun b hb => ?_, q⟩
    have e : b = s1.heap.objs.size := by simpa using hb
    subst e
    exact I1.fpOk (Nat.le_refl _) (I1.hok.fresh (Nat.le_refl _))
  · subst e
    cases r1
    obtain ⟨its, rv, p, hz⟩ := I1.tuple hq
    refine wpAny_pyIter_tuple (show s1.heap.IsTuple a its.toArray from p) ?_
    refine ⟨s1.heap.objs.size, [s1.heap.objs.size], _, _, H1, rfl, I1.kept (t' := s1.toks) fun b o e => Heap.get?_push_of_some _ e, turn_tuple a _, ⟨_, Heap.get?_push_size _ rfl, rfl, rfl⟩, fun b hb => ?_, q⟩
    have e : b = s1.heap.objs.size := by simpa using hb
    subst e
    exact I1.fpOk (Nat.le_refl _) (I1.hok.fresh (Nat.le_refl _))
  · subst e
    obtain ⟨t, rfl⟩ := r1
    cases ha : y.cps.all (· < 128)
    · exact wpAny_pyIter_wide ha (pi_one (tk := s1.toks) I1 _ (turn_str _ y t "str_iterator" (.inr rfl)) ⟨_, Heap.get?_push_size _ rfl, rfl, rfl⟩ q)
    · exact wpAny_pyIter_ascii ha (pi_one (tk := s1.toks) I1 _ (turn_str _ y t "str_ascii_iterator" (.inl rfl)) ⟨_, Heap.get?_push_size _ rfl, rfl, rfl⟩ q)
theorem itOk_str {w : Wd} (l : Nm) : ItOk G w (Its (nm l)) (l.map fun c => D.str [c]) := by
  intro w1 S H le fok i
  refine ⟨fun d hd => ?_, fun hn => ?_⟩
  · rw [List.getElem?_map] at hd
    cases e : l[i]? with
    | none => rw [e] at hd; cases hd
    | some c =>
      rw [e] at hd
      cases hd
      have hc : (nm l).cps[i]? = some c := by simpa [nm] using e
      refine ⟨?_, fun x H' hy => ?_⟩
      · show i < (nm l).cps.size
        exact (Array.getElem?_eq_some_iff.mp hc).1
      · obtain ⟨hH, c', hc', hx⟩ := hy
        rw [hc] at hc'
        cases hc'
        subst hH
        subst hx
        exact ⟨w1, .refl _ _, fok, .str [c]⟩
  · show (nm l).cps.size ≤ i
    rw [List.getElem?_map] at hn
    cases e : l[i]? with
    | some c => rw [e] at hn; cases hn
    | none =>
      have := List.getElem?_eq_none_iff.mp e
      simpa [nm] using this
def itemsD (d : D) : Option (List D) := match d with
  | .lst xs => some xs
  | .scr xs => some xs
  | .tup xs => some xs
  | .str l => some (l.map fun c => .str [c])
  | _ => none
def itSeq (f : DE) : DA := fun s => (f s).bind fun d s1 => match itemsD d with
  | some xs => .ok xs s1
  | none => .stuck
theorem pdi_seq (hK : G.K = X.K) {tg e : Expr} {f : DE} (h : PD G W X e f) : PDI G W X tg e (itSeq f) :=
  (pi_any h).imp fun σ H R ⟨κ, w, s, ok, q⟩ => ⟨κ, w, s, ok, (PostG.bindI q).imp fun v H1 ⟨d, s1, w1, le, ok1, r1, q1⟩ => by
    cases r1 with
    | @lst a vs ds e r =>
      have e' : SqL G.K w1.F a vs := .inl (.inl e)
      exact .inl ⟨a, rfl, ⟨vs, hK ▸ SqL.le e' ok1.fok.sub⟩, q1 w1 _ H1 (.refl _) ok1 (itOk_list hK e' (fun _ _ _ _ _ => trivial) r fun _ _ => trivial)⟩
    | @scr a vs ds e r =>
      exact .inl ⟨a, rfl, ⟨vs, hK ▸ SqL.le e ok1.fok.sub⟩, q1 w1 _ H1 (.refl _) ok1 (itOk_list hK e (fun _ _ _ _ _ => trivial) r fun _ _ => trivial)⟩
    | @tup a vs ds e r => exact .inr (.inl ⟨a, rfl, ⟨vs, hK ▸ SqT.le e ok1.fok.sub⟩, q1 w1 _ H1 (.refl _) ok1 (itOk_tup hK e r)⟩)
    | str l => exact .inr (.inr ⟨nm l, rfl, q1 w1 _ H1 (.refl _) ok1 (itOk_str l)⟩)
    | _ => exact q1.elim⟩
/-! ### + and * in all -/
def lAdd : D → D → Option D := fun x y => match x, y with
  | .lst a, .lst b => if a.length + b.length ≤ 1000000 then some (.lst (a ++ b)) else none
  | _, _ => none
theorem opd_ladd : OpD G X (binaryOp .Add) lAdd := ⟨_, op_cat, fun κ w s σ H x y dx dy d Q ok rx ry e q => by
  cases rx with
  | @lst a vs ds e1 r1 =>
    cases ry with
    | @lst a2 vs2 ds2 e2 r2 =>
      have e : (if ds.length + ds2.length ≤ 1000000 then some (D.lst (ds ++ ds2)) else none) = some d := e
      split at e
      · cases e
        refine ⟨a, a2, vs, vs2, rfl, rfl, ok.fok.sub _ _ e1, ok.fok.sub _ _ e2, by rw [r1.length, r2.length, sizeLine_eq]; omega, fun p hp => ?_⟩
        obtain ⟨le2, ok2⟩ := ok.alloc hp (.lst (vs ++ vs2))
        exact q _ _ _ le2 ok2 (.lst upd_same ((r1.append r2).mono le2))
      · cases e
    | _ => exact nomatch e
  | _ => exact nomatch e⟩
def lMul : D → D → Option D := fun x y => match x, y with
  | .lst a, .int k => if -(2 ^ 63) ≤ k ∧ k < 2 ^ 63 ∧ a.length * k.toNat ≤ 1000000 then some (.lst (List.replicate k.toNat a).flatten) else none
  | _, _ => none
theorem opd_lmul : OpD G X (binaryOp .Mult) lMul := ⟨_, op_rep, fun κ w s σ H x y dx dy d Q ok rx ry e q => by
  cases rx with
  | @lst a vs ds e1 r1 =>
    cases ry with
    | int k =>
      have e : (if -(2 ^ 63) ≤ k ∧ k < 2 ^ 63 ∧ ds.length * k.toNat ≤ 1000000 then some (D.lst (List.replicate k.toNat ds).flatten) else none) = some d := e
      split at e
      · rename_i c
        cases e
        refine ⟨a, k, vs, rfl, rfl, ok.fok.sub _ _ e1, c.1, c.2.1, by rw [r1.length, sizeLine_eq]; omega, fun p hp => ?_⟩
        obtain ⟨le2, ok2⟩ := ok.alloc hp (.lst (List.replicate k.toNat vs).flatten)
        exact q _ _ _ le2 ok2 (.lst upd_same ((r1.rep _).mono le2))
      · cases e
    | _ => exact nomatch e
  | _ => exact nomatch e⟩
theorem OpD.or {f : Value → Value → Sem Value} {o o' : D → D → Option D} (h : OpD G X f o) (h' : OpD G X f o') : OpD G X f (fun x y => (o x y).orElse fun _ => o' x y) := by
  obtain ⟨r, h1, h2⟩ := h
  obtain ⟨r', h1', h2'⟩ := h'
  refine ⟨_, h1.or h1', fun κ w s σ H x y dx dy d Q ok rx ry e q => ?_⟩
  have e : ((o dx dy).orElse fun _ => o' dx dy) = some d := e
  cases e1 : o dx dy with
  | some z => rw [e1] at e; cases e; exact .inl (h2 κ w s σ H x y dx dy _ Q ok rx ry e1 q)
  | none => rw [e1] at e; exact .inr (h2' κ w s σ H x y dx dy d Q ok rx ry e q)
def dAdd : D → D → Option D := fun x y => match x, y with
  | .int i, .int j => some (.int (i + j))
  | x, y => (sAdd x y).orElse fun _ => lAdd x y
theorem OpD.congr {f : Value → Value → Sem Value} {o o' : D → D → Option D} (h : OpD G X f o) (e : ∀ x y, o' x y = o x y) : OpD G X f o' := by
  have : o' = o := by funext x y; exact e x y
  rw [this]; exact h
theorem opd_addA (hK : G.K = X.K) : OpD G X (binaryOp .Add) dAdd := (opd_add.or ((opd_sadd hK).or opd_ladd)).congr fun x y => by
  cases x <;> cases y <;> rfl
def dMul : D → D → Option D := fun x y => match x, y with
  | .int i, .int j => if mulOk i j then some (.int (i * j)) else none
  | x, y => lMul x y
theorem opd_mulA : OpD G X (binaryOp .Mult) dMul := (opd_mul.or opd_lmul).congr fun x y => by
  cases x <;> cases y <;> first
    | rfl
    | (rename_i i j
       show (if mulOk i j then some (D.int (i * j)) else none) = ((if mulOk i j then some (D.int (i * j)) else none).orElse fun _ => lMul (.int i) (.int j))
       split <;> rfl)
/-! ### a, b, c = x, y, z -/
def sPar3 (i j l : Nat) (f : DA) : DStm := fun s => (f s).bind fun ds s1 => match ds with
  | [x, y, z] => .ok .nx ⟨((s1.sl.set i (.val x)).set j (.val y)).set l (.val z), s1.st⟩
  | _ => .stuck
theorem pds_par3 {i j l : Nat} {x y z : Str} {a b c : Expr} {f : DA} {px py pz pt pos : Pos} {kt k2 : Nat} {pt2 : Pos} (hc : X.calm = true) (hN : X.N.Nodup) (hi : X.N[i]? = some x) (hj : X.N[j]? = some y) (hl : X.N[l]? = some z) (hij : i ≠ j) (hil : i ≠ l) (hjl : j ≠ l)
    (hx : X.env.scope.names.lookup x = some .local) (hy : X.env.scope.names.lookup y = some .local) (hz : X.env.scope.names.lookup z = some .local) (ha : PDA G W X [a, b, c] f)
    (hw : swappedStores [.Tuple [.Name x px, .Name y py, .Name z pz] kt pt] (.Tuple [a, b, c] k2 pt2) X.env = pure (some [x, y, z]))
    (hs : swapsWithSole [.Tuple [.Name x px, .Name y py, .Name z pz] kt pt] (.Tuple [a, b, c] k2 pt2) pos.line X.env = pure false := by rfl) :
    PDS G W X (.Assign [.Tuple [.Name x px, .Name y py, .Name z pz] kt pt] (.Tuple [a, b, c] k2 pt2) pos) (sPar3 i j l f) :=
  (ps_par3 hc hN hi hj hl hij hil hjl hx hy hz ha hw hs).imp fun N σ H ⟨κ, w, s, ok, q⟩ => ⟨κ, w, s, ok, (PostG.bindS q).imp fun v H1 ⟨d, s1, w1, le, ok1, r1, q1⟩ => by
    match d, q1, r1 with
    | [x, y, z], q1, .cons a (.cons b (.cons c .nil)) => exact ⟨_, _, _, rfl, q1 w1 _ H1 (.refl _) (((ok1.setVal a i).setVal b j).setVal c l)⟩
    | [], q1, _ => exact q1.elim
    | [_], q1, _ => exact q1.elim
    | [_, _], q1, _ => exact q1.elim
    | _ :: _ :: _ :: _ :: _, q1, _ => exact q1.elim⟩
/-! ### types as values -/
theorem pd_bltn {x : Str} {n : String} {pos : Pos} (hg : Gl X x) (hm : X.mg x = none) (hv : bootBuiltins x = some (.type n)) (hn : x ≠ "__name__" := by decide) (hd : (x == ("__debug__" : Str)) = false := by decide) : PD G W X (.Name x pos) (eC (.ty n)) :=
  pd_c (pe_bltn (v := .ty n) hg hm hv rfl hn hd) fun _ => .ty n
theorem pd_cls {x : Str} {c : String} {C : Addr} {pos : Pos} (hg : Gl X x) (hm : X.mg x = some (.ref C)) (hC : G.ct c = some C) (hd : (x == ("__debug__" : Str)) = false := by decide) : PD G W X (.Name x pos) (eC (.cls c)) :=
  pd_c (pe_glob (v := .ref C) hg hm rfl hd) fun _ => .cls hC
/-! ### slices of tuples and texts, xs[::-1] -/
def eSlT (f : DE) (l h : DOp) : DE := fun s => (f s).bind fun d s1 => (l s1).bind fun lo s2 => (h s2).bind fun hi s3 => match d with
  | .tup xs => if (cutD xs lo hi).length ≠ xs.length then .ok (.tup (cutD xs lo hi)) s3 else .stuck
  | _ => .stuck
theorem cut_len {w : Wd} {vs : List V} {ds : List D} (r : Reps G w vs ds) (lo hi : Option Int) : (cutV vs lo hi).length = (cutD ds lo hi).length := (r.cut lo hi).length
theorem pd_slT (hK : G.K = X.K) {e : Expr} {lo hi : Option Expr} {f : DE} {l h : DOp} {p2 pos : Pos} (he : PD G W X e f) (hl : PO X lo (tDO G W l)) (hh : PO X hi (tDO G W h)) : PD G W X (.Subscript e (.Slice lo hi none p2) pos) (eSlT f l h) :=
  (pe_slice sl_tup he hl hh).imp fun σ H Q ⟨κ, w, s, ok, q⟩ => ⟨κ, w, s, ok, (PostG.bind q).imp fun v H1 ⟨d, s1, w1, le, ok1, r1, q1⟩ => ⟨κ, w1, s1, ok1, (PostG.bind q1).imp fun v2 H2 ⟨d2, s2, w2, le2, ok2, r2, q2⟩ =>
    ⟨κ, w2, s2, ok2, (PostG.bind q2).imp fun v3 H3 ⟨d3, s3, w3, le3, ok3, r3, q3⟩ => by
      subst r2
      subst r3
      cases r1 with
      | @tup a vs ds e r =>
        replace q3 : PostG G W (Rep G) κ w3 σ (if (cutD ds v2 v3).length ≠ ds.length then .ok (.tup (cutD ds v2 v3)) s3 else .stuck) Q := q3
        split at q3
        · rename_i c
          have rr := (r.mono le2).mono le3
          refine ⟨a, vs, rfl, hK ▸ SqT.le (SqT.le (SqT.le e le2.f) le3.f) ok3.fok.sub, ?_, fun p hp => ?_⟩
          · intro z
            apply c
            rw [← cut_len rr, ← rr.length]
            unfold cutV
            rw [z.1, z.2]
            simp
          · obtain ⟨le4, ok4⟩ := ok3.alloc hp (.tup (cutV vs v2 v3))
            exact q3 _ _ _ le4 ok4 (.tup (.inl (.inl upd_same)) ((rr.cut v2 v3).mono le4))
        · exact q3.elim
      | _ => exact q3.elim⟩⟩⟩
/-- a slice of a list or of a tuple -/
def slD (d : D) (lo hi : Option Int) : Option D := match d with
  | .lst xs => some (.lst (cutD xs lo hi))
  | .scr xs => some (.lst (cutD xs lo hi))
  | .tup xs => if (cutD xs lo hi).length ≠ xs.length then some (.tup (cutD xs lo hi)) else none
  | _ => none
def eSlA (f : DE) (l h : DOp) : DE := fun s => (f s).bind fun d s1 => (l s1).bind fun lo s2 => (h s2).bind fun hi s3 => match slD d lo hi with
  | some x => .ok x s3
  | none => .stuck
theorem pd_slA (hK : G.K = X.K) {e : Expr} {lo hi : Option Expr} {f : DE} {l h : DOp} {p2 pos : Pos} (he : PD G W X e f) (hl : PO X lo (tDO G W l)) (hh : PO X hi (tDO G W h)) : PD G W X (.Subscript e (.Slice lo hi none p2) pos) (eSlA f l h) :=
  (pe_slice (sl_list.or sl_tup) he hl hh).imp fun σ H Q ⟨κ, w, s, ok, q⟩ => ⟨κ, w, s, ok, (PostG.bind q).imp fun v H1 ⟨d, s1, w1, le, ok1, r1, q1⟩ => ⟨κ, w1, s1, ok1, (PostG.bind q1).imp fun v2 H2 ⟨d2, s2, w2, le2, ok2, r2, q2⟩ =>
    ⟨κ, w2, s2, ok2, (PostG.bind q2).imp fun v3 H3 ⟨d3, s3, w3, le3, ok3, r3, q3⟩ => by
      subst r2
      subst r3
      cases r1 with
      | @lst a vs ds e r =>
        have e := le3.f _ _ (le2.f _ _ e)
        refine .inl ⟨a, vs, rfl, .inl (.inl (ok3.fok.sub _ _ e)), fun p hp => ?_⟩
        obtain ⟨le4, ok4⟩ := ok3.alloc hp (.lst (cutV vs v2 v3))
        exact q3 _ _ _ le4 ok4 (.lst upd_same ((((r.mono le2).mono le3).cut v2 v3).mono le4))
      | @scr a vs ds e r =>
        refine .inl ⟨a, vs, rfl, hK ▸ SqL.le (SqL.le (SqL.le e le2.f) le3.f) ok3.fok.sub, fun p hp => ?_⟩
        obtain ⟨le4, ok4⟩ := ok3.alloc hp (.lst (cutV vs v2 v3))
        exact q3 _ _ _ le4 ok4 (.lst upd_same ((((r.mono le2).mono le3).cut v2 v3).mono le4))
      | @tup a vs ds e r =>
        right
        have rr := (r.mono le2).mono le3
        cases e4 : slD (.tup ds) v2 v3 with
        | none => rw [e4] at q3; exact q3.elim
        | some x =>
          rw [e4] at q3
          have e4 : (if (cutD ds v2 v3).length ≠ ds.length then some (D.tup (cutD ds v2 v3)) else none) = some x := e4
          split at e4
          · rename_i c
            cases e4
            refine ⟨a, vs, rfl, hK ▸ SqT.le (SqT.le (SqT.le e le2.f) le3.f) ok3.fok.sub, ?_, fun p hp => ?_⟩
            · intro z
              apply c
              rw [← cut_len rr, ← rr.length]
              unfold cutV
              rw [z.1, z.2]
              simp
            · obtain ⟨le4, ok4⟩ := ok3.alloc hp (.tup (cutV vs v2 v3))
              exact q3 _ _ _ le4 ok4 (.tup (.inl (.inl upd_same)) ((rr.cut v2 v3).mono le4))
          · cases e4
      | _ => exact q3.elim⟩⟩⟩
/-- xs[::-1] of a list: a new list -/
def aRev (f : DE) : DA := fun s => (f s).bind fun d s1 => match d with
  | .lst xs => .ok xs.reverse s1
  | .scr xs => .ok xs.reverse s1
  | _ => .stuck
theorem Reps.reverse {w : Wd} : ∀ {vs : List V} {ds : List D}, Reps G w vs ds → Reps G w vs.reverse ds.reverse
  | _, _, .nil => .nil
  | _, _, .cons a b => by
    rw [List.reverse_cons, List.reverse_cons]
    exact (Reps.reverse b).append (.cons a .nil)
theorem pdo_rev (hK : G.K = X.K) {e : Expr} {f : DE} {k : Nat} {p1 p2 p3 pos : Pos} (he : PD G W X e f) : PDo G W X (.Subscript e (.Slice none none (some (.UnaryOp .USub (.Constant (.int 1) k p1) p2)) p3) pos) (aRev f) :=
  (pe_revL he).imp fun σ H Q ⟨κ, w, s, ok, q⟩ => ⟨κ, w, s, ok, (PostG.bindO q).imp fun v H1 ⟨d, s1, w1, le, ok1, r1, q1⟩ => by
    cases r1 with
    | @lst a vs ds e r => exact ⟨a, vs, rfl, .inl (.inl (ok1.fok.sub _ _ e)), fun p hp => q1 w1 p _ _ (.refl _) (ok1.fresh hp _) (ok1.apart hp) r.reverse⟩
    | @scr a vs ds e r => exact ⟨a, vs, rfl, hK ▸ SqL.le e ok1.fok.sub, fun p hp => q1 w1 p _ _ (.refl _) (ok1.fresh hp _) (ok1.apart hp) r.reverse⟩
    | _ => exact q1.elim⟩
/-! ### the law's end -/
def spLaw (K : PySem.W.Frag) : Sp := fun vs H Q _ => ∃ (a : Addr) (ns : List Int), vs = [.ref a] ∧ SqL K H a (ns.map V.int) ∧ ns.length ≤ 63 ∧ ∀ H', Q (.bl true) H'
theorem law_end {P : Program} {w0 : World} {mg : Str → Option Value} {base : Heap} {k : Nat} {f : Addr} {fd : FuncData} {ps : List Str} {g : DFn} (F : FnOk P w0 G.K mg base (L2.CX P w0) k f fd ps (spG G 1 g))
    (h : ∀ ns : List Int, ns.length ≤ 63 → ∃ S, g [.scr (ns.map D.int)] [] = .ok (.bl true) S) : FnOk P w0 G.K mg base (L2.CX P w0) k f fd ps (spLaw G.K) :=
  F.imp fun vs H Q E ⟨a, ns, e, hS, hl, q⟩ => by
    obtain ⟨S, hg⟩ := h ns hl
    subst e
    refine ⟨rfl, ⟨H, []⟩, [], [.scr (ns.map D.int)], ⟨fun _ _ e => e, rfl, fun n a c e => by simp at e, List.nodup_nil, fun a ha => by simp at ha⟩, .cons (.scr hS (Reps.of_ints ns)) .nil, ?_⟩
    rw [hg]
    intro w' v H' nx f r
    cases r
    exact q H'
theorem noCX {P : Program} {w : World} : ∀ (H : Hp) (s : Shared) (e : Value) (s' : Shared), L2.CX P w [] H s (fun _ _ _ => False) e s' → False := fun H s e s' h => by
  obtain ⟨_, _, _, _, _, _, _, _, _, _, _, _, z⟩ := h
  exact z
end
end DL
set_option maxRecDepth 100000
set_option maxHeartbeats 4000000
set_option autoImplicit false
namespace DL
open PySem PySem.Spec PyProof.Rows L2
section
variable {G : Gam} {W : WX} {X : Cx}
theorem callD1 {k : Nat} {f : Addr} {fd : FuncData} {ps : List Str} {n : Nat} {g : DFn} {pins : List (Addr × Obj)} {sh : Shared} {κ : Bs} {w : Wd} {s : DS} {σ : L2.St} {H : Hp} {vs : List V} {ds : List D} {us : List Value} {Q : VK}
    (F : FnOk X.prog X.w X.K X.mg X.base (L2.CX X.prog X.w) k f fd ps (spG G n g)) (hr : Room (k + 1) X.A) (hb : Binds X.K fd ps []) (tk : Takes X W) (I : Inv X pins σ H sh) (ok : Ok G κ w s σ H) (rs : Reps G w vs ds) (r : Vals vs us) (hn : ds.length = n)
    (q : PostG G W (Rep G) κ w σ (lift s (g ds s.st)) Q) : wpAny (model X.prog X.w) X.A.in1 (call (.ref f) us) (EP X pins σ Q) X.xe sh := by
  have h : spG G n g vs H Q (WE W σ) := ⟨by rw [rs.length]; exact hn, w, s.st, ds, ok.fok, rs, postF_of ok q⟩
  have hl : us.length = ps.length := by rw [← r.length]; exact F.len _ _ _ _ h
  have hbb := hb sh us I.kIn (by rw [List.append_nil]; exact hl)
  rw [List.append_nil] at hbb
  refine wpAny_call (codeAny_mono (F.run X.A.in1 X.stack sh H ⟨us, []⟩ us vs Q (WE W σ) hr.in1 I.env0.in1 hbb r h) fun r s' hq => ?_)
  cases r with
  | error e => exact passAt tk σ pins H sh e s' I hq
  | ok fl =>
    cases fl with
    | ret u => exact I.after hq
    | next => exact False.elim hq
    | brk => exact False.elim hq
    | cont => exact False.elim hq
/-- a built-in special method of an instance of an own class -/
theorem ifBound_B {M : Model} {A : Around} {E : Value → Shared → Prop} {s : Shared} {K : PySem.W.Frag} {x C : Addr} {ox : Obj} {od : Option Obj} {name : Str} {id : String} {args : List Value} {Q : Option Value → Shared → Prop} (Xk : K.In s.heap) (I : PySem.W.InstAt s.heap x ox C od)
    (hs : PySem.W.findIn K (.ref C) name = some (some (.builtin id))) (hb : ∀ self, bindSpecial (.builtin id) self = pure (.builtin id, [self]))
    (h : wpAny M A (call (.builtin id) (.ref x :: args)) (fun v => Q (some v)) E s) : wpAny M A (callSpecialIfBound? (.ref x) name args) Q E s := by
  simp only [callSpecialIfBound?, bindSpecialIfBound?]
  refine wpAny_holding (wpAny_bind (wpAny_bind (wpAny_bind (I.type.here ((PySem.W.looks_findIn Xk hs).here ?_)))))
  refine wpAny_bind (wpAny_askSetting (wpAny_ite ?_))
  have fin : wpAny M A (call (.builtin id) ([.ref x] ++ args) >>= fun v => pure (some v)) Q E s := wpAny_bind (wpAny_mono h (fun v s' h' => wpAny_pure h') fun _ _ h' => h')
  simp only [hb]
  split
  · exact wpAny_bind (wpAny_pure (wpAny_pure (by exact fin)))
  · exact wpAny_tryCatch (wpAny_bind (wpAny_pure (wpAny_pure (by exact fin))))
theorem ne_call {prog : Program} {w : World} {A : Around} {E : Value → Shared → Prop} {s : Shared} {K : PySem.W.Frag} {a C b : Addr} {ox : Obj} {od : Option Obj} {Q : Value → Shared → Prop} (Xk : K.In s.heap) (I : PySem.W.InstAt s.heap a ox C od) (hm : PySem.W.mroIn K C (.type "object") = some true)
    (h : wpAny (model prog w) A.in1 (callSpecialIfBound? (.ref a) "__eq__" [.ref b]) (fun r s' => ∃ b, r = some (.bool b) ∧ Q (.bool (!b)) s') E s) (hu : A.in1.units < cLine) : wpAny (model prog w) A (call (.builtin "object.__ne__") [.ref a, .ref b]) Q E s := by
  have L0 := I.type (M := model prog w)
  have L1 := PySem.W.looks_mroIn (M := model prog w) Xk hm
  refine wpAny_call (codeAny_call_builtin PySem.F.cmp_object.ne.plain PySem.F.cmpEntry_ne ?_)
  obtain ⟨hh, g, dr, t, os⟩ := s
  have hk := PySem.F.cmpKind_ne
  have hs := PySem.F.cmpSplit_ne
  have ha := PySem.F.cmpArgs_ne (.ref a) (.ref b)
  have fin : wpAny (model prog w) A.in1 (Builtin.«object.__ne__» ⟨[.ref a, .ref b], []⟩) (fun fin s' => match fin with | .done f => (match (.ok f : Result) with | .ok (.ret v) => Q v s' | .ok _ => False | .error e => E e s') | .again c' => c'.quiet = true ∧ codeAny (model prog w) A c' (fun r s' => match r with | .ok (.ret v) => Q v s' | .ok _ => False | .error e => E e s') s') (fun e s' => E e s') ⟨hh, g, dr, t, os⟩ := by
    unfold Builtin.«object.__ne__»
    rw [show slotArgs "__ne__" 1 ⟨[.ref a, .ref b], []⟩ = pure (.ref a, [.ref b]) from rfl]
    refine wpAny_bind (wpAny_pure (wpAny_bind (wpAny_cRoomFor hu (wpAny_bind (wpAny_mono h (fun r s' hr => ?_) fun _ _ e => e)))))
    obtain ⟨b, rfl, q⟩ := hr
    exact wpAny_bind (wpAny_truthy_bool (wpAny_pure q))
  simp only [checkBuiltinCall, hk, hs]
  refine wpAny_bind ?_
  unfold isInstance
  repeat (first | exact fin | lk)
def negD (r : Res DS D) : Res DS D := match r with
  | .ok (.bl b) s => .ok (.bl (!b)) s
  | .exc x s => .exc x s
  | _ => .stuck
def ownNe (c : String) (g : DFn) : DO2 := fun x y s => negD (ownO c g x y s)
theorem negD_post {κ : Bs} {w : Wd} {σ : L2.St} {r : Res DS D} {Q : VK} (h : PostG G W (Rep G) κ w σ (negD r) Q) : PostG G W (Rep G) κ w σ r (fun v H => ∃ b, v = .bl b ∧ Q (.bl (!b)) H) := by
  cases r with
  | stuck => exact h
  | exc x s => exact h
  | ok d s =>
    cases d with
    | bl b =>
      intro w' v H' l o r
      cases r
      exact ⟨b, rfl, h w' _ H' l o (.bl _)⟩
    | _ => exact h.elim
theorem opx_ownNe {c : String} {C f : Addr} {k : Nat} {fd : FuncData} {ps : List Str} {g : DFn} (hC : G.ct c = some C) (hs : PySem.W.findIn X.K (.ref C) "__eq__" = some (some (.ref f))) (hf : PySem.W.isFn X.K (.ref f) = true)
    (hne : PySem.W.findIn X.K (.ref C) "__ne__" = some (some (.builtin "object.__ne__"))) (hob : PySem.W.mroIn X.K C (.type "object") = some true)
    (F : FnOk X.prog X.w X.K X.mg X.base (L2.CX X.prog X.w) k f fd ps (spG G 2 g)) (hr : Room (k + 1) X.A) (hb : Binds X.K fd ps []) (tk : Takes X W) : OpX G W X (compareOp .NotEq) (ownNe c g) := by
  intro pins sh σ H x y v u κ w s dx dy Q I rx ry ok rdx rdy q
  obtain ⟨a, b, C', dxa, dxb, fa, fb, rfl, rfl, hC', hH, hH', q⟩ := ownO_of ok rdx rdy (negD_post q)
  rw [hC] at hC'
  cases hC'
  cases rx
  cases ry
  obtain ⟨mA, J, _⟩ := ins_get I.hok hH
  obtain ⟨mB, J', _⟩ := ins_get I.hok hH'
  obtain ⟨od, J, _⟩ := J.look
  obtain ⟨od', J', _⟩ := J'.look
  have KX := I.kIn
  show wpAny (model X.prog X.w) X.A (richCompare .NotEq (.ref a) (.ref b)) _ _ _
  -- object.__ne__: __eq__, turned
  have one : wpAny (model X.prog X.w) X.A (tryCompare (.ref a) "__ne__" (.ref b)) (fun r s' => ∃ v, r = some v ∧ EP X pins σ Q v s') X.xe sh := by
    unfold tryCompare
    refine wpAny_bind (ifBound_B KX J hne PySem.F.cmp_object.ne.bind ?_)
    refine wpAny_mono (ne_call (Q := fun v s' => ∃ b, v = .bool b ∧ EP X pins σ Q v s') KX J hob ?_ hr.in1.units0) (fun v s' h => ?_) fun _ _ e => e
    case refine_1 =>
      have hc := callD1 (us := [.ref a, .ref b]) (vs := [.ref a, .ref b]) (ds := [dx, dy]) F hr hb tk I ok (.cons rdx (.cons rdy .nil)) (.cons rfl (.cons rfl .nil)) rfl q
      refine PySem.W.ifBound_K KX J hs hf (wpAny_mono hc (fun v s' h => ?_) fun _ _ e => e)
      obtain ⟨x, H', I', r, b, rfl, q'⟩ := h
      cases r
      exact ⟨b, rfl, !b, rfl, .bl (!b), H', I', rfl, q'⟩
    case refine_2 =>
      obtain ⟨b, rfl, h⟩ := h
      exact wpAny_pure ⟨_, rfl, h⟩
  unfold richCompare
  simp only [oneThing_ref]
  refine wpAny_holding (wpAny_bind (wpAny_cRoomFor hr.units0 ?_))
  refine wpAny_bind (J.type.here (wpAny_bind (J'.type.here ?_)))
  rw [if_neg (by simp)]
  refine wpAny_bind (wpAny_pure ?_)
  simp only [Bool.false_eq_true, if_false]
  refine wpAny_bind (wpAny_mono one (fun r s' z => ?_) fun _ _ e => e)
  obtain ⟨v, rfl, hq⟩ := z
  exact wpAny_pure hq
end
end DL
set_option maxRecDepth 100000
set_option maxHeartbeats 4000000
set_option autoImplicit false
namespace DL
open PySem PySem.Spec PyProof.Rows L2
/-- all that is asked of a class, in one -/
def clsB (K : PySem.W.Frag) (C : Addr) (fs : List Str) : Bool :=
  PySem.W.plainGet K C Str.empty && (PySem.W.hasDictIn K C && (PySem.W.plainOver K C && (PySem.W.makesIn K C && (PySem.W.keepIn K (.ref C) && (PySem.W.selfFirst K C &&
    ((PySem.W.findIn K (.ref C) "__setattr__" == some (some (.builtin "object.__setattr__"))) && ((PySem.W.findIn K (.ref C) "__ne__" == some (some (.builtin "object.__ne__"))) && ((PySem.W.mroIn K C (.type "object") == some true) &&
    ((PySem.W.findIn K (.ref C) "__class__" == some (some (.builtin "object.__class__"))) && ((PySem.W.specialIn K (.builtin "object.__class__") "__get__" == some (some (.builtin "getset_descriptor.__get__"))) && ((PySem.W.takesIn K (.builtin "object.__class__") == some true) &&
    (fs.all (fun f => PySem.W.findIn K (.ref C) f == some none) && tyNames.all fun b => (PySem.W.kitOne K (.ref C) (.type b) == some false) && (PySem.W.kitOne K (.type b) (.ref C) == some false)))))))))))))
structure ClsF (K : PySem.W.Frag) (C : Addr) (fs : List Str) : Prop where
  cl : Cls K C
  makes : PySem.W.makesIn K C = true
  kp : PySem.W.keepIn K (.ref C) = true
  sf : PySem.W.selfFirst K C = true
  ne : PySem.W.findIn K (.ref C) "__ne__" = some (some (.builtin "object.__ne__"))
  mo : PySem.W.mroIn K C (.type "object") = some true
  i1 : PySem.W.findIn K (.ref C) "__class__" = some (some (.builtin "object.__class__"))
  i2 : PySem.W.specialIn K (.builtin "object.__class__") "__get__" = some (some (.builtin "getset_descriptor.__get__"))
  i3 : PySem.W.takesIn K (.builtin "object.__class__") = some true
  na : ∀ f ∈ fs, NoAttr K C f
  bo : ∀ b ∈ tyNames, PySem.W.kitOne K (.ref C) (.type b) = some false ∧ PySem.W.kitOne K (.type b) (.ref C) = some false
theorem clsF {K : PySem.W.Frag} {C : Addr} {fs : List Str} (h : clsB K C fs = true) : ClsF K C fs := by
  unfold clsB at h
  simp only [Bool.and_eq_true, beq_iff_eq, List.all_eq_true] at h
  obtain ⟨h1, h2, h3, h4, h5, h6, h7, h8, h9, h10, h11, h12, h13, h14⟩ := h
  exact ⟨⟨h1, h2, h3, h7⟩, h4, h5, h6, h8, h9, h10, h11, h12, fun f hf => h13 f hf, fun b hb => h14 b hb⟩
/-- the own classes apart from one another -/
theorem isOk_of {G : Gam} {cs : List String} (h1 : ∀ c ∈ cs, ∃ C fs, G.ct c = some C ∧ ClsF G.K C fs) (h2 : ∀ c ∈ cs, ∀ c' ∈ cs, ∀ C C', G.ct c = some C → G.ct c' = some C' → PySem.W.kitOne G.K (.ref C) (.ref C') = some (c == c')) : IsOk G cs := by
  refine ⟨fun c hc C hC => ?_, fun c hc C hC => ?_, h2⟩
  · obtain ⟨C', fs, e, f⟩ := h1 c hc
    rw [hC] at e
    cases e
    exact ⟨f.cl, f.i1, f.i2, f.i3, f.mo⟩
  · obtain ⟨C', fs, e, f⟩ := h1 c hc
    rw [hC] at e
    cases e
    exact f.bo
theorem kit_self {K : PySem.W.Frag} {C : Addr} : PySem.W.kitOne K (.ref C) (.ref C) = some true := by
  unfold PySem.W.kitOne
  rw [if_pos (by simp)]
end DL
set_option maxRecDepth 100000
set_option maxHeartbeats 4000000
set_option autoImplicit false
namespace DL
open PySem PySem.Spec PyProof.Rows L2
/-! ### an own error whose __init__ says super().__init__(x); self.f = x -/
section
variable {P : Program} {W0 : World} {Ar : Around} {Er : Value → Shared → Prop} {hp : Heap} {gs : Array GenState} {dr : Drawn} {tk : Nat} {osS : OsState}
theorem call_mwV {cn cq : Str} {C NN u e t0 : Addr} {b1 b2 sbs : List Value} {hdc abs : Bool} {sns : List Str} {cl : Option Bool} {dd : Option Addr} {j0 j1 j2 j3 j5 : Option Value} {rest : List Value} {Q : Value → Shared → Prop}
    (hC : hp.get? C = some (excClassObj cn cq C NN b1 b2 hdc sns sbs abs cl dd j0 j1 j2 j3 j5 "ValueError.__new__")) (he : hp.get? e = some (HandSPX.excO C t0)) (hu : hp.get? u = some (PySem.W.kxs_mw "ValueError.__init__" e)) (hrest : rest.length ≤ sizeLine)
    (hq : ∀ h' t1, (∀ b o, b ≠ e → hp.get? b = some o → h'.get? b = some o) → h'.get? e = some (HandSPX.excO C t1) → Q .none ⟨h', gs, dr, tk, osS⟩) :
    wpAny (model P W0) Ar (call (.ref u) rest) Q Er ⟨hp, gs, dr, tk, osS⟩ := by
  refine wpAny_call (codeAny_of_tree ?_)
  show wpAny _ Ar.in1 (callAny (.ref u) ⟨rest, []⟩) _ _ _
  simp only [callAny]
  refine wpAny_bind (wpAny_load hu ?_)
  simp only [PySem.W.kxs_mw, show (Value.type "method-wrapper" == Value.type "method" || Value.type "method-wrapper" == Value.type "builtin_function_or_method" || Value.type "method-wrapper" == Value.type "method-wrapper") = true by decide, if_true]
  refine PySem.W.KFB.if_so (by decide) ?_
  refine wpAny_bind (PySem.W.check_bound_init F.excBase_ValueError.toExcCallFacts hC he rfl ?_)
  refine wpAny_bind (wpAny_pure (wpAny_pure ?_))
  refine ⟨Code.quiet_builtin _ (by decide +kernel), codeAny_builtin F.excBase_ValueError.initEntry ?_⟩
  rw [Around.under_plainId F.excBase_ValueError.init.plain _]
  wp_walk
  refine hq _ hp.objs.size (fun b o hb ho => ?_) ?_
  · rw [Heap.get?_update_other _ _ (Ne.symm hb)]
    exact Heap.get?_push_of_some _ ho
  · rw [Heap.get?_update_self _ (Heap.get?_push_of_some _ he) rfl]
    rfl
end
theorem eval_si (x : Str) (env : Env) (p0 p1 p2 p3 p4 : Pos) (hp : (p2.endLine == p4.line) = true) : eval (.Call (.Attribute (.Call (.Name "super" p0) [] [] p1) "__init__" p2) [.Name x p3] [] p4) env = (do
      let ov ← attributeBase (.Call (.Name "super" p0) [] [] p1) "__init__" env (eval (.Call (.Name "super" p0) [] [] p1) env)
      standAt p2.atName
      let (f, first) ← holding [ov] (getMethod ov "__init__" (do return (← importBound (.Call (.Name "super" p0) [] [] p1) env).getD true))
      callWith p4 f first (backTo p4 (starEach [.Name x p3] env)) []) := by
  have h : ∀ fm, methodCallPos fm (.Call (.Name "super" p0) [] [] p1) env p2 p4 = pure p4 := fun fm => by
    unfold methodCallPos
    rw [hp]
    simp
  show (do
      let ov ← attributeBase (.Call (.Name "super" p0) [] [] p1) "__init__" env (eval (.Call (.Name "super" p0) [] [] p1) env)
      standAt p2.atName
      let (f, first) ← holding [ov] (calleeOf true (.Call (.Name "super" p0) [] [] p1) env ov "__init__")
      let callPos ← methodCallPos true (.Call (.Name "super" p0) [] [] p1) env p2 p4
      callWith callPos f first (backTo p4 (starEach [.Name x p3] env)) []) = _
  rw [h]
  rfl
def spX (C : Addr) (f : Str) : Sp := fun vs H Q _ => ∃ (a : Addr) (y : V), vs = [.ref a, y] ∧ H a = some (exo a C none) ∧ ∀ dx, H dx = none → dx ≠ a → Q .non (upd (upd H dx (exd dx [(f, y)])) a (exo a C (some dx)))
/-- what the text and the linked part say of such a def -/
structure XIn (P : Program) (K : PySem.W.Frag) (mg : Str → Option Value) (C fI : Addr) (fd : FuncData) (slf x f : Str) : Prop where
  ex : ∃ (oc doc pm dV kV ct ccl cl : Value) (od an cdd cld : Option Addr) (osl ccs csl : Array (Option Value)) (cda cc : Addr) (name qual file : Str) (params : Arguments) (scope : Scope) (vs : Array Value) (tf : Tok) (ar : Arg) (p0 p1 p2 p3 p4 p5 p6 p7 p8 p9 : Pos),
    fd = PySem.W.fnX name qual params [.Expr (.Call (.Attribute (.Call (.Name "super" p0) [] [] p1) "__init__" p2) [.Name x p3] [] p4) p5, .Assign [.Attribute (.Name slf p6) f p7] (.Name x p8) p9] scope [("__class__", cc)] dV kV doc pm an (.ref cda) ct ∧
    K.lookup fI = some ⟨oc, od, .func fd, osl⟩ ∧ PySem.W.codeIn K (.ref cda) qual = true ∧ (params.posonlyargs ++ params.args).head? = some ar ∧ ar.arg = slf ∧
    K.lookup cda = some ⟨ccl, cdd, .fields vs, ccs⟩ ∧ vs[2]? = some (.str file tf) ∧ ((P.main.file : Str) == file) = true ∧ K.lookup cc = some ⟨cl, cld, .cell (some (.ref C)), csl⟩ ∧
    scope.names.lookup ("super" : Str) = some .globalImplicit ∧ scope.names.lookup ("__class__" : Str) = some .free ∧ scope.names.lookup slf = some .local ∧ scope.names.lookup x = some .local ∧ (∀ z ∈ scope.names, z.2 ≠ .cell) ∧ scope.kind = .function ∧ scope.isCoroutine = false ∧ scope.isGenerator = false ∧ (p2.endLine == p4.line) = true
  top : (P.main.scope.names.lookup ("super" : Str)).isSome = false
  sup : mg "super" = none
  self : PySem.W.mroIn K C (.ref C) = some true
  al : PySem.W.ks_superIn K C C "__init__" = some (some (.builtin "ValueError.__init__"))
  ve : PySem.W.subIn K (.ref C) (.type "ValueError") = some true
  any : PySem.W.nsIn K cStatics "thirdparty.any" = some none
  cls : OexC K C
  no : PySem.W.findIn K (.ref C) f = some none
  ds : (slf == ("__debug__" : Str)) = false
  dx : (x == ("__debug__" : Str)) = false
  sx : slf ≠ x
theorem x_ok {P : Program} {w0 : World} {K : PySem.W.Frag} {mg : Str → Option Value} {base : Heap} {CX : CXT} {C fI : Addr} {fd : FuncData} {slf x f : Str} (T : XIn P K mg C fI fd slf x f) : FnOk P w0 K mg base CX 1 fI fd [slf, x] (spX C f) := by
  obtain ⟨⟨oc, doc, pm, dV, kV, ct, ccl, cl, od, an, cdd, cld, osl, ccs, csl, cda, cc, name, qual, file, params, scope, vs, tf, ar, p0, p1, p2, p3, p4, p5, p6, p7, p8, p9, efd, lk, hcd, har, hars, lcd, hvs, hfile, lcc, ksup, kcls, kslf, kx, kcell, kk, kco, kgen, kpos⟩, htop, hsup, hself, hal, hve, hany, hcls, hno, hds, hdx, hsx⟩ := T
  subst efd
  refine ⟨fun vs H Q E ⟨a, y, e, _⟩ => by rw [e]; rfl, fun A outer s H args us vs' Q E hr e0 hb hv hsp => ?_⟩
  obtain ⟨a, y, rfl, ea, hq⟩ := hsp
  cases hv with
  | @cons _ u0 _ ur ra rest =>
  cases rest with
  | @cons _ u _ ur2 ry rest =>
  cases rest
  obtain rfl : u0 = Value.ref a := ra
  have KX : K.In s.heap := e0.mod.kin.keeps fun b o e => (e0.bs b o e).1
  have lim : s.heap.NoLimit := e0.mod.nolimit.keeps fun b o e => (e0.bs b o e).1
  obtain ⟨t0, hea⟩ := exo_at e0.hok ea
  obtain ⟨cn, cq, NS, b1, b2, sns, sbs, abs, col, dd, j0, j1, j2, j3, j5, hC, hbm⟩ := hcls.cls
  have hcl : PySem.W.clsIn K C = some { name := cn, bases := b1, mro := .ref C :: b2, ns := NS, qualname := cq, hasDict := true, slotNames := sns, subclasses := sbs, abstract := abs, collection := col, hasDel := false } := by unfold PySem.W.clsIn; rw [hC] <;> rfl
  refine ks_codeAny_call_defAt (binds := [(slf, .ref a), (x, u)]) hr.depth (KX _ _ lk) rfl lim (PySem.W.codeRec_of KX hcd) rfl hb kcell (fun z hz => ?_) (fun h0 hns hk0 => ?_) kco kgen kk
  · rcases List.mem_cons.mp hz with rfl | hz
    · exact kslf
    · rcases List.mem_cons.mp hz with rfl | hz
      · exact kx
      · cases hz
  have X0 : K.In h0 := KX.keeps hk0
  have ns_s : (fun y => ([(slf, Value.ref a), (x, u)] : List (Str × Value)).reverse.lookup y) slf = some (.ref a) := by
    have : (slf == x) = false := by simpa using hsx
    simp [List.lookup, this]
  have ns_x : (fun y => ([(slf, Value.ref a), (x, u)] : List (Str × Value)).reverse.lookup y) x = some u := by simp [List.lookup]
  have hea0 := hk0 _ _ hea
  have oC : s.heap.get? C = some _ := KX _ _ hC
  have ne_aC : a ≠ C := fun z => by
    rw [z, oC] at hea
    cases hea
  refine ks_wpAt_execs_cons (ks_wpAt_Expr_any (ks_wpAt_MethodCall ?_ (eval_si x _ p0 p1 p2 p3 p4 kpos)) (hi := by show (scope.kind == .module && _) = false; rw [kk]; rfl))
  refine ks_wpAt_super_base ksup kcls (by decide) rfl (X0 _ _ lk) rfl har rfl (X0 _ _ lcd) rfl hvs hfile htop ?_
  obtain ⟨mb, hb1, hb2⟩ := e0.mod.blt
  have bk : ∀ b o, base.get? b = some o → h0.get? b = some o := fun b o e => hk0 _ _ (e0.bs b o e).1
  refine PySem.W.ks_loadName_global kk ksup (Calls.loadGlobal_builtin (e0.mod.glob.keeps bk) hsup (hb1.keeps bk) ((hb2 _ (by decide)).trans PyProof.Rows.Boot.«super») ⟨rfl, ?_⟩)
  refine wpAny_loadName_free kk kcls (c := cc) rfl ⟨_, X0 _ _ lcc, rfl⟩ ?_
  rw [hars]
  refine wpAny_loadName_local kk kslf hns ns_s ?_
  refine ks_wpAny_isType_cls (X0 _ _ hC) rfl ⟨rfl, ?_⟩
  refine ks_wpAny_call_super (X0 _ _ hC) rfl hea0 rfl (fun c z => nomatch z) (PySem.W.looks_mroIn X0 hself) (fun h1 hso hk1 => ?_)
  have X1 : K.In h1 := X0.keeps hk1
  have hea1 := hk1 _ _ hea0
  have inst1 : PySem.W.InstAt h1 a _ C none := ⟨hea1, rfl, rfl, trivial⟩
  have hI : PySem.W.Looks (model P w0) h1 (isInstance (.ref a) (.type "ValueError")) true := inst1.type.andThen (PySem.W.looks_subIn X1 hve)
  have hmro : PySem.W.Looks (model P w0) h1 (mroOf (.ref C)) (.ref C :: b2) := (PySem.W.looks_clsIn X1 hcl).andThen .now
  have hal' : PySem.W.alongIn K "__init__" (((Value.ref C :: b2).dropWhile (· != .ref C)).drop 1) = some (some (.builtin "ValueError.__init__")) := by
    unfold PySem.W.ks_superIn at hal
    rw [hcl] at hal
    exact hal
  refine PySem.W.kxs_getMethod PySem.W.kxs_ValueError hso (PySem.W.looks_opaque X1 hany) hmro rfl X1 hal' hI ne_aC (by decide) ?_
  have hmw : (h1.push (PySem.W.kxs_mw "ValueError.__init__" a)).get? h1.objs.size = some (PySem.W.kxs_mw "ValueError.__init__" a) := Heap.get?_push_at rfl rfl
  have kp2 : ∀ b o, h1.get? b = some o → (h1.push (PySem.W.kxs_mw "ValueError.__init__" a)).get? b = some o := fun b o e => Heap.get?_push_of_some _ e
  have ns2 : (h1.push (PySem.W.kxs_mw "ValueError.__init__" a)).Ns s.heap.objs.size (fun y => ([(slf, Value.ref a), (x, u)] : List (Str × Value)).reverse.lookup y) := (hns.keeps hk1).keeps kp2
  refine PySem.W.kxs_callWith (i := "ValueError.__init__") (x := a) rfl ?_
  refine Calls.evalArgs_plain (Calls.spliced_cons (wpAny_Name (wpAny_loadName_local kk kx ns2 ns_x (Calls.spliced_nil ⟨hmw, ?_⟩)) hdx))
  refine call_mwV (X1.keeps kp2 _ _ hC) (kp2 _ _ hea1) hmw (by rw [sizeLine_eq]; show 1 ≤ _; decide) fun h3 t1 hk3 hea3 => ?_
  have lt0 : ∀ {b : Addr} {o : Obj}, s.heap.get? b = some o → b ≠ s.heap.objs.size := fun e => Nat.ne_of_lt (Heap.lt_size e)
  have kall : ∀ b o, b ≠ a → s.heap.get? b = some o → h3.get? b = some o := fun b o hb e => hk3 b o hb (kp2 _ _ (hk1 _ _ (hk0 _ _ e)))
  have ne_aL : s.heap.objs.size ≠ a := fun z => lt0 hea z.symm
  have X3 : K.In h3 := fun b o e => hk3 b o (fun z => by
    have := (e0.bs b o (e0.mod.kin b o e)).2
    rw [z, ea] at this
    cases this) (kp2 _ _ (X1 b o e))
  have ns3 : h3.Ns s.heap.objs.size (fun y => ([(slf, Value.ref a), (x, u)] : List (Str × Value)).reverse.lookup y) := by
    obtain ⟨ob, es, ep, ho, r⟩ := ns2
    exact ⟨ob, es, ep, hk3 _ _ ne_aL ho, r⟩
  show PySem.wpAt _ _ _ (execs [_] _) _ _ _
  refine ks_wpAt_execs_cons (PySem.wpAt_of_wpAny (plainObj_wpAny_Assign_Attribute (wpAny_Name (wpAny_loadName_local kk kx ns3 ns_x (wpAny_Name (wpAny_loadName_local kk kslf ns3 ns_s ?_) hds)) hdx)))
  refine PySem.W.set_plain (ox := { cls := .ref C, dict := none, data := .fields #[.ref t1, .none, .none, .none, .bool false, .none] }) (od := none) X3 ⟨hea3, rfl, rfl, trivial⟩ hcls.sa ?_
  refine PySem.HandSPX.exc_osa X3 hea3 hcl (show PySem.HandSPX.refsVE (.ref C :: b2) = true from hbm) rfl hno (fun h4 tk4 dxa hk4 dn dne hx4 hn4 => ?_)
  refine PySem.wpAt_of_wpAny (wpAny_execs_nil ?_)
  have szL : s.heap.objs.size < h3.objs.size := by
    obtain ⟨ob, _, _, ho, _⟩ := ns3
    exact Heap.lt_size ho
  have hnd : H dxa = none := e0.hok.fresh (Nat.le_trans (Nat.le_of_lt szL) dn)
  have kfin : ∀ b o, b ≠ a → s.heap.get? b = some o → h4.get? b = some o := fun b o hb e => hk4 b o hb (kall b o hb e)
  have ndx : ∀ {b : Addr} {o : Obj}, s.heap.get? b = some o → b ≠ dxa := fun {b o} e => Nat.ne_of_lt (Nat.lt_of_lt_of_le (Nat.lt_trans (Heap.lt_size e) szL) dn)
  have na : ∀ {b : Addr}, H b = none → b ≠ a := fun {b} n z => by
    rw [z, ea] at n
    cases n
  refine ⟨.non, upd (upd H dxa (exd dxa [(f, y)])) a (exo a C (some dxa)), rfl, e0.bare, ?_, ?_, rfl, hq dxa hnd dne⟩
  · exact {
      keep := fun b o e n _ _ => kfin b o (na n) e
      slot := fun b o e n _ _ => ⟨o.slots, kfin b o (na n) e⟩
      free := fun b o e n _ => by rw [upd_ne (na n), upd_ne (ndx e)]; exact n
      there := fun b o e _ => by
        by_cases hb : b = a
        · exact ⟨_, by rw [hb]; exact hx4⟩
        · exact ⟨o, kfin b o hb e⟩
      tups := fun b xs e => by rw [upd_ne (at_ne ea e exo_tup), upd_ne (ne_of_none e hnd)]; exact e
      frzs := fun b o v e => by rw [upd_ne (at_ne ea e exo_frz), upd_ne (ne_of_none e hnd)]; exact e
      tbls := fun b ps e => ⟨#[], by rw [upd_ne (at_ne ea e exo_tbl), upd_ne (ne_of_none e hnd), e]; simp⟩ }
  · intro b o e
    by_cases hb : b = a
    · subst hb
      rw [upd_same] at e
      cases e
      exact exo_ok hx4
    · rw [upd_ne hb] at e
      by_cases hd : b = dxa
      · subst hd
        rw [upd_same] at e
        cases e
        exact exd_ok hn4 (relO_put (fs := []) ry fun g => True.intro)
      · rw [upd_ne hd] at e
        refine (e0.hok b o e).stay (fun c v hc z => kfin c v ?_ z) (fun c hc => ?_) (fun c xs hc => ?_)
        · rcases hc with hc | hc
          · rw [hc]; exact hb
          · exact at_ne ea hc exo_own
        · rw [upd_ne (at_ne ea hc exo_own), upd_ne (ne_of_none hc hnd)]; exact hc
        · rw [upd_ne (at_ne ea hc exo_tup), upd_ne (ne_of_none hc hnd)]; exact hc
/-! ### raise C(e) -/
def sRaise (c : String) (f : Nm) (fa : DA) : DStm := fun s => (fa s).bind fun ds s1 => match ds with
  | [d] => .exc ⟨c, [(f, d)]⟩ s1
  | _ => .stuck
/-- an own error class: made by its own __init__ -/
structure XCls (G : Gam) (K : PySem.W.Frag) (c : String) (C fI : Addr) : Prop where
  ct : G.ct c = some C
  ini : PySem.W.findIn K (.ref C) "__init__" = some (some (.ref fI))
  ty : PySem.W.typeIn K (.ref fI) = some (.type "function")
  cls : OexC K C
section
variable {G : Gam} {W : WX} {X : Cx}
theorem pds_raise {c : String} {C fI : Addr} {fd : FuncData} {slf xp f x : Str} {fn : Nm} {e : Expr} {fa : DA} {p pos pos' : Pos} (hc : X.calm = true) (tk : Takes X W) (T : XCls G X.K c C fI) (T2 : XIn X.prog X.K X.mg C fI fd slf xp f) (hf : f = nm fn) (hb : Binds X.K fd [slf, xp] [])
    (hr : Room 2 X.A) (hg : Gl X x) (hm : X.mg x = some (.ref C)) (ha : PDA G W X [e] fa) (hdb : (x == ("__debug__" : Str)) = false := by decide) (he : starEach [e] X.env = (false, eval e X.env) :: starEach [] X.env := by rfl) :
    PDS G W X (.Raise (some (.Call (.Name x p) [e] [] pos)) none pos') (sRaise c fn fa) :=
  (ps_raise hc tk (pmk_oex (CX := L2.CX X.prog X.w) T.cls T.ini T.ty (x_ok T2) hr hb .nil (passes_call tk fun _ _ _ _ z => z.elim) hg hm ha hdb he)).imp fun N σ H ⟨κ, w, s, ok, q⟩ => ⟨κ, w, s, ok, (PostG.bindS q).imp fun vs H1 ⟨ds, s1, w1, le, ok1, rs, q1⟩ => by
    match ds, q1 with
    | [d], q1 =>
      cases rs with
      | @cons v _ vs' _ r rs =>
      cases rs
      refine ⟨by show 1 ≤ 1000; decide, fun a ha => ⟨a, v, rfl, upd_same, fun dx h1 h2 => ⟨rfl, dx, [(f, v)], ?_, ?_, ?_, ?_⟩⟩⟩
      · exact upd_same
      · rw [upd_ne h2, upd_same]
      · rw [upd_ne h2] at h1; exact h1
      · rw [upd_ne h2] at h1
        have eH : upd (del (upd (upd (upd H1 a (exo a C none)) dx (exd dx [(f, v)])) a (exo a C (some dx))) a) dx (.xd [(f, v)]) = upd H1 dx (.xd [(f, v)]) := by
          funext b
          by_cases hb : b = dx
          · rw [hb, upd_same, upd_same]
          · rw [upd_ne hb, upd_ne hb]
            by_cases hba : b = a
            · rw [hba, del_same, ha]
            · rw [del_ne hba, upd_ne hba, upd_ne hb, upd_ne hba]
        rw [eH]
        obtain ⟨le2, ok2⟩ := ok1.alloc h1 (.xd [(f, v)])
        exact q1 _ σ (.ref C) (some dx) _ le2 ok2 ⟨C, T.ct, rfl, .inr ⟨dx, [(f, v)], rfl, upd_same, by subst hf; exact .cons (r.mono le2) .nil⟩⟩
    | [], q1 => exact q1.elim
    | _ :: _ :: _, q1 => exact q1.elim⟩
end
end DL
set_option maxRecDepth 100000
set_option maxHeartbeats 4000000
set_option autoImplicit false
namespace DL
open PySem PySem.Spec PyProof.Rows L2
/-! ### try with several clauses, each with a name or without -/
abbrev HTs := Addr → Value → Option Addr → TS
def unset (D : Ends) (i : Nat) : Ends := { nx := fun τ Z => D.nx (τ.set i none) Z, rt := D.rt, bk := fun τ Z => D.bk (τ.set i none) Z, ct := fun τ Z => D.ct (τ.set i none) Z }
def wHd (K : PySem.W.Frag) (Wo : WX) (D : Ends) : List (Value × Option Nat × HTs) → WX
  | [] => Wo
  | (c, none, ts) :: r => fun cl dd τ Z => ∃ b, PySem.W.exmOne K cl c = some b ∧ (b = true → ∀ a, Z a = none → ts a cl dd D τ Z) ∧ (b = false → wHd K Wo D r cl dd τ Z)
  | (c, some i, ts) :: r => fun cl dd τ Z => ∃ b, PySem.W.exmOne K cl c = some b ∧ (b = true → ∀ a, Z a = none → ts a cl dd (unset D i) (τ.set i (some (.ref a))) Z) ∧ (b = false → wHd K Wo D r cl dd τ Z)
/-- the suite of a clause -/
def SuOk (X : Cx) (st : List Stmt) (ts : HTs) : Prop := ∀ (a : Addr) (ob : Obj) (cl : Value) (dd : Option Addr) (pn : List (Addr × Obj)), Zc cl dd ob → (∃ vs, ob.data = .fields vs) → PSs (X.suite a ((a, ob) :: pn)) st (ts a cl dd)
inductive HdA (X : Cx) : List ExceptHandler → List (Value × Option Nat × HTs) → Prop
  | nil : HdA X [] []
  | bare {x : Str} {c : Value} {ts : HTs} {s0 : Stmt} {su : List Stmt} {np pp : Pos} {hs : List ExceptHandler} {l : List (Value × Option Nat × HTs)} (nc : Names X x c) (ok : SuOk X (s0 :: su) ts) (r : HdA X hs l) :
      HdA X (.ExceptHandler (some (.Name x np)) none (s0 :: su) pp :: hs) ((c, none, ts) :: l)
  | as_ {x n : Str} {i : Nat} {c : Value} {ts : HTs} {s0 : Stmt} {su : List Stmt} {np pp : Pos} {hs : List ExceptHandler} {l : List (Value × Option Nat × HTs)} (nc : Names X x c) (hi : X.N[i]? = some n) (hl : X.env.kindOf n = some .local) (ok : SuOk X (s0 :: su) ts) (r : HdA X hs l) :
      HdA X (.ExceptHandler (some (.Name x np)) (some n) (s0 :: su) pp :: hs) ((c, some i, ts) :: l)
section
variable {X : Cx} {bd : List Stmt} {g0 : ExceptHandler} {gs : List ExceptHandler} {l : List (Value × Option Nat × HTs)} {tpos : Pos} {tb : WX → TS} {Wo : WX}
theorem ps_tryA (est : X.stack = X.env :: X.outer) (efr : X.env.frame = some X.env.locals) (nd : X.N.Nodup) (tk : Takes X Wo)
    (hbd : ∀ (Wi : WX) (pn : List (Addr × Obj)) (xe : Value → Shared → Prop), Takes (X.tr pn xe) Wi → PassesOwn (model X.prog X.w) X.A X.env xe → PSs (X.tr pn xe) bd (tb Wi)) (hh : HdA X (g0 :: gs) l) :
    PS X (.Try bd (g0 :: gs) [] [] tpos) (fun D τ Z => tb (wHd X.K Wo D l) D τ Z) := by
  refine ⟨fun pins sh τ Z D I h => ?_⟩
  have okX := I.ok
  have frX : X.A.frames = some (X.env :: X.outer) := by rw [okX.frames, est]
  let xeT : Value → Shared → Prop := fun e z1 => wpAny (model X.prog X.w) X.A (noteFrame e X.env) (fun _ z2 => wpAny (model X.prog X.w) X.A (setFlight e none) (fun _ z3 => wpAny (model X.prog X.w) X.A (handleBy e X.env (g0 :: gs)) (SP X pins D) X.xe z3) X.xe z2) X.xe z1
  refine wpAny_Try_except (wpAny_mono ((hbd (wHd X.K Wo D l) (X.pn ++ pins) xeT (fun u sh' xx => ?_) PassesOwn.looking).run [] sh τ Z D (I.toTry _) h) (fun fl sh1 hsp => ?_) (fun e sh1 he => he))
  · obtain ⟨a, Bh, sI, pins', τ', Z', cl, dd, rfl, J', nb, up, sky, na, eos, ag, wish⟩ := xx
    have J : Inv X pins τ' Z' sI := J'.ofTry okX
    have sky2 : Sky Bh (X.env :: X.outer) a (Zc cl dd) X.env.locals sh'.heap := est ▸ sky
    show wpAny (model X.prog X.w) X.A (noteFrame (.ref a) X.env) _ _ _
    refine Sky.land Zc.steady frX efr sky2 fun h3 fl3 up3 => ?_
    have J3 : Inv X pins τ' Z' { sh' with heap := h3 } := J.landed nb fl3.1 (up.trans up3) eos ag
    obtain ⟨ob3, vs3, he3, hz3, hd3⟩ := fl3.there
    have nfr : a ∉ frs (X.env :: X.outer) := fun hm => by
      obtain ⟨_, o', e', hnf⟩ := fl3.2.2.1.mem hm
      rw [he3] at e'
      cases e'
      exact hnf _ hd3
    have nL : a ≠ X.env.locals := fun z => nfr (List.mem_filterMap.mpr ⟨X.env, List.mem_cons_self, efr.trans (congrArg some z.symm)⟩)
    have nF : a ∉ X.fs := fun hm => by
      obtain ⟨ev, hev, eq⟩ := List.mem_filterMap.mp hm
      exact nfr (List.mem_filterMap.mpr ⟨ev, List.mem_cons_of_mem _ hev, eq⟩)
    have S3 := J3.suite he3 hd3 na nL nF
    have LT : PySem.W.Looks (model X.prog X.w) h3 (typeOf (.ref a)) cl := fun A Q E z k q => wpAny_typeOf_ref (k _ _ he3) (hz3.1.symm ▸ q)
    have test : ∀ {x : Str} {c : Value} {np : Pos} {Q : Value → Shared → Prop} {E : Value → Shared → Prop}, Names X x c → Q c { sh' with heap := h3 } → wpAny (model X.prog X.w) (X.A.mark (some (.ref a))) (eval (.Name x np) X.env) Q E { sh' with heap := h3 } := fun {x c np Q E} nc q => by
      obtain ⟨hg, hdb, hm | ⟨hm, hv, hnn⟩⟩ := nc
      · exact ld_glob (X := X.suite a ((a, ob3) :: (X.pn ++ pins))) S3 hg hm q hdb
      · exact ld_blt (X := X.suite a ((a, ob3) :: (X.pn ++ pins))) S3 hg hm hv q hnn hdb
    have go : ∀ {gs' : List ExceptHandler} {l' : List (Value × Option Nat × HTs)}, HdA X gs' l' → wHd X.K Wo D l' cl dd τ' Z' → wpAny (model X.prog X.w) X.A (handleBy (.ref a) X.env gs') (SP X pins D) X.xe { sh' with heap := h3 } := by
      intro gs' l' hk
      induction hk with
      | nil =>
        intro wish
        refine wpAny_handleBy_nil ?_
        obtain ⟨_, _, _, oe, vs, Tb, _, _, he, _, hd, h1, _⟩ := id fl3
        unfold PySem.passOn
        refine wpAny_bind (wpAny_field he hd h1 ?_)
        rw [if_neg (show ¬ ((Value.ref Tb == Value.none) = true) by simp)]
        have fin : wpAny (model X.prog X.w) X.A (setFlight (.ref a) X.env.frame) (fun _ z4 => wpAny (model X.prog X.w) X.A (throw (.ref a) : Sem Flow) (SP X pins D) X.xe z4) X.xe { sh' with heap := h3 } := by
          rw [efr]
          refine HandSPX.setFlight_upZ fl3 fun h4 hh4 up4 => wpAny_throw (tk _ _ ⟨a, Bh, sI, pins, τ', Z', cl, dd, rfl, J, nb, (up.trans up3).trans up4, .inr (.inr ?_), na, eos, ag, wish⟩)
          rw [est]
          exact hh4
        first
          | exact wpAny_bind (wpAny_pure (wpAny_bind fin))
          | exact wpAny_bind fin
      | @bare x c ts s0 su np pp hs2 l2 nc ok r ih =>
        intro wish
        obtain ⟨b, hb1, yes, no⟩ := wish
        refine wpAny_handleBy_cons (codeAny_handlers_test (test nc ((PySem.W.exm_one (M := model X.prog X.w) J3.kIn LT hb1).here ?_))) (by intro q; cases q)
        cases b with
        | false => exact ih (no rfl)
        | true =>
          refine codeAny_handlers_suite (HandSPX.lands_againZ fl3 fun h4 fl4 up4 => ?_)
          have J4 : Inv X pins τ' Z' { sh' with heap := h4 } := J.landed nb fl4.1 ((up.trans up3).trans up4) eos ag
          obtain ⟨ob4, vs4, he4, hz4, hd4⟩ := fl4.there
          refine wpAny_mono ((ok a ob4 cl dd (X.pn ++ pins) hz4 ⟨_, hd4⟩).run [] _ _ Z' _ (J4.suite he4 hd4 na nL nF) (yes rfl a na)) (fun fl z6 hsp => ?_) (fun _ _ z => False.elim z)
          cases fl with
          | ret u => obtain ⟨_, _, _, S6, r6, q6⟩ := hsp; exact ⟨_, _, _, S6.unsuite okX, r6, q6⟩
          | next => obtain ⟨_, _, S6, q6⟩ := hsp; exact ⟨_, _, S6.unsuite okX, q6⟩
          | brk => obtain ⟨_, _, S6, q6⟩ := hsp; exact ⟨_, _, S6.unsuite okX, q6⟩
          | cont => obtain ⟨_, _, S6, q6⟩ := hsp; exact ⟨_, _, S6.unsuite okX, q6⟩
      | @as_ x n i c ts s0 su np pp hs2 l2 nc hi hl ok r ih =>
        intro wish
        obtain ⟨b, hb1, yes, no⟩ := wish
        refine wpAny_handleBy_cons (codeAny_handlers_test (test nc ((PySem.W.exm_one (M := model X.prog X.w) J3.kIn LT hb1).here ?_))) (by intro q; cases q)
        cases b with
        | false => exact ih (no rfl)
        | true =>
          refine codeAny_handlers_suite_as (HandSPX.lands_againZ fl3 fun h4 fl4 up4 => ?_)
          have J4 : Inv X pins τ' Z' { sh' with heap := h4 } := J.landed nb fl4.1 ((up.trans up3).trans up4) eos ag
          obtain ⟨ob4, vs4, he4, hz4, hd4⟩ := fl4.there
          refine store_ok (X := X.suite a ((a, ob4) :: (X.pn ++ pins))) (v := .ref a) (J4.suite he4 hd4 na nL nF) nd hi (.inl hl) rfl (fun z5 S5 => ?_) (.inr hl)
          refine wpAny_mono ((ok a ob4 cl dd (X.pn ++ pins) hz4 ⟨_, hd4⟩).run [] z5 _ Z' _ S5 (yes rfl a na)) (fun fl z6 hsp => ?_) (fun _ _ z => False.elim z)
          have fin : ∀ {τ6 : L2.St} {Z6 : Hp} {R : Shared → Prop}, Inv (X.suite a ((a, ob4) :: (X.pn ++ pins))) [] τ6 Z6 z6 → (∀ z7, Inv X pins (τ6.set i none) Z6 z7 → R z7) → wpAny (model X.prog X.w) X.A (do bindName X.env n .none; unbindBehindTheSuite X.env n pp) (fun _ z7 => R z7) X.xe z6 := fun {τ6 Z6 R} S6 hq => gone_ok (S6.unsuite okX) nd hi hl hq
          cases fl with
          | ret u => obtain ⟨_, _, _, S6, r6, q6⟩ := hsp; exact fin S6 fun _ J7 => ⟨_, _, _, J7, r6, q6⟩
          | next => obtain ⟨_, _, S6, q6⟩ := hsp; exact fin S6 fun _ J7 => ⟨_, _, J7, q6⟩
          | brk => obtain ⟨_, _, S6, q6⟩ := hsp; exact fin S6 fun _ J7 => ⟨_, _, J7, q6⟩
          | cont => obtain ⟨_, _, S6, q6⟩ := hsp; exact fin S6 fun _ J7 => ⟨_, _, J7, q6⟩
    exact go hh wish
  · cases fl with
    | ret u => obtain ⟨v, τ', Z', J', r, q⟩ := hsp; exact ⟨v, τ', Z', J'.ofTry okX, r, q⟩
    | next => obtain ⟨τ', Z', J', q⟩ := hsp; exact wpAny_execs_nil ⟨τ', Z', J'.ofTry okX, q⟩
    | brk => obtain ⟨τ', Z', J', q⟩ := hsp; exact ⟨τ', Z', J'.ofTry okX, q⟩
    | cont => obtain ⟨τ', Z', J', q⟩ := hsp; exact ⟨τ', Z', J'.ofTry okX, q⟩
end
/-! ### the same as a reading -/
section
variable {G : Gam} {W : WX} {X : Cx}
theorem Ok.setUn {κ : Bs} {w : Wd} {s : DS} {σ : L2.St} {H : Hp} (h : Ok G κ w s σ H) (i : Nat) (v : Option V) : Ok G κ w ⟨s.sl.set i .un, s.st⟩ (σ.set i v) H := by
  have inn : ∀ {j : Nat} {x : Sl}, (s.sl.set i .un)[j]? = some x → (x = .un) ∨ (j ≠ i ∧ s.sl[j]? = some x) := fun {j x} e => by
    by_cases hj : i = j
    · subst hj
      by_cases hv : i < s.sl.length
      · rw [List.getElem?_set_self hv] at e
        exact .inl (Option.some.inj e).symm
      · rw [List.getElem?_eq_none (by simpa using hv)] at e; cases e
    · rw [List.getElem?_set_ne hj] at e
      exact .inr ⟨fun z => hj z.symm, e⟩
  have out : ∀ {j : Nat}, j ≠ i → (σ.set i v)[j]? = σ[j]? := fun {j} n => List.getElem?_set_ne (fun z => n z.symm)
  refine ⟨h.fok, h.nx, by simpa using h.len, fun j d e => ?_, fun j x e o => ?_, fun j k x y a e1 e2 o1 o2 h1 h2 => ?_, fun p hp => ?_, fun a ha c fs e => ?_⟩
  · rcases inn e with z | ⟨z, e⟩
    · cases z
    · rw [out z]; exact h.val j d e
  · rcases inn e with z | ⟨z, e⟩
    · subst z; cases o
    · rw [out z]; exact h.own j x e o
  · rcases inn e1 with z | ⟨z, e1⟩
    · subst z; cases o1
    · rcases inn e2 with z' | ⟨z', e2⟩
      · subst z'; cases o2
      · rw [out z] at h1
        rw [out z'] at h2
        exact h.ne j k x y a e1 e2 o1 o2 h1 h2
  · obtain ⟨q1, q2, q3, q4, q5⟩ := h.gam p hp
    refine ⟨q1, q2, q3, q4, fun j x e o => ?_⟩
    rcases inn e with z | ⟨z, e⟩
    · subst z; cases o
    · rw [out z]; exact q5 j x e o
  · rcases inn e with z | ⟨z, e⟩
    · cases z
    · rw [out z]; exact h.me a ha c fs e
theorem RepX.mono {w w' : Wd} {c : Value} {dd : Option Addr} {x : Xc} (h : RepX G w c dd x) (le : w.le w') : RepX G w' c dd x := by
  obtain ⟨C, h1, h2, h3⟩ := h
  refine ⟨C, h1, h2, ?_⟩
  rcases h3 with h3 | ⟨a, vs, e1, e2, e3⟩
  · exact .inl h3
  · exact .inr ⟨a, vs, e1, le.1 _ _ e2, e3.mono le⟩
structure HdR where
  c : Value
  oi : Option Nat
  m : String → Option Bool
  f : Xc → DStm
def unD (i : Nat) (r : Res DS Out) : Res DS Out := r.bind fun o s => .ok o ⟨s.sl.set i .un, s.st⟩
def catchD : List HdR → Xc → DStm
  | [], x, s => .exc x s
  | ⟨_, none, m, f⟩ :: r, x, s => match m x.cls with
    | some true => noX (f x s)
    | some false => catchD r x s
    | none => .stuck
  | ⟨_, some i, m, f⟩ :: r, x, s => match m x.cls with
    | some true => if i < s.sl.length then unD i (noX (f x ⟨s.sl.set i .un, s.st⟩)) else .stuck
    | some false => catchD r x s
    | none => .stuck
def sTry (b : DStm) (hs : List HdR) : DStm := fun s => match b s with
  | .exc x s1 => catchD hs x s1
  | r => r
/-- what is known of the caught one -/
def Fx (G : Gam) (oi : Option Nat) (a : Addr) (cl : Value) (dd : Option Addr) (x : Xc) (w : Wd) (σ : L2.St) : Prop := (∀ i, oi = some i → σ[i]? = some (some (.ref a))) ∧ RepX G w cl dd x
def tXS (G : Gam) (oi : Option Nat) (a : Addr) (cl : Value) (dd : Option Addr) (x : Xc) (f : DStm) : TS := fun N σ H => ∃ κ w s, Ok G κ w s σ H ∧ Fx G oi a cl dd x w σ ∧ PostS G WF κ w (f s) N
def tSu (G : Gam) (h : HdR) : HTs := fun a cl dd N σ H => ∃ x, tXS G h.oi a cl dd x (h.f x) N σ H
/-- the class test of a clause -/
def MOk (G : Gam) (K : PySem.W.Frag) (h : HdR) : Prop := ∀ (k : String) (b : Bool), h.m k = some b → ∀ C, G.ct k = some C → PySem.W.exmOne K (.ref C) h.c = some b
theorem catch_of {D0 : Ends} {κ : Bs} {x : Xc} : ∀ {hs : List HdR}, (∀ h ∈ hs, MOk G X.K h) → ∀ {w : Wd} {s : DS} {cl : Value} {dd : Option Addr} {σ : L2.St} {H : Hp}, PostS G W κ w (catchD hs x s) D0 → Ok G κ w s σ H → RepX G w cl dd x → wHd X.K W D0 (hs.map fun h => (h.c, h.oi, tSu G h)) cl dd σ H
  | [], _, w, s, cl, dd, σ, H, q, ok, rx => q w σ cl dd H (.refl _) ok rx
  | ⟨c, none, m, f⟩ :: r, hm, w, s, cl, dd, σ, H, q, ok, rx => by
    obtain ⟨C, hC, rfl, _⟩ := id rx
    have q : PostS G W κ w (match m x.cls with | some true => noX (f x s) | some false => catchD r x s | none => .stuck) D0 := q
    cases e : m x.cls with
    | none => rw [e] at q; exact q.elim
    | some b =>
      refine ⟨b, hm _ List.mem_cons_self x.cls b e C hC, fun hb a ha => ?_, fun hb => ?_⟩
      · subst hb
        rw [e] at q
        refine ⟨x, κ, w, s, ok, ⟨fun i z => (nomatch z), rx⟩, ?_⟩
        show PostS G WF κ w (f x s) D0
        replace q : PostS G W κ w (noX (f x s)) D0 := q
        cases z : f x s with
        | ok o s' => rw [z] at q; cases o <;> exact q
        | exc y s' => rw [z] at q; exact q.elim
        | stuck => rw [z] at q; exact q.elim
      · subst hb
        rw [e] at q
        exact catch_of (fun h hh => hm h (List.mem_cons_of_mem _ hh)) q ok rx
  | ⟨c, some i, m, f⟩ :: r, hm, w, s, cl, dd, σ, H, q, ok, rx => by
    obtain ⟨C, hC, rfl, _⟩ := id rx
    have q : PostS G W κ w (match m x.cls with | some true => if i < s.sl.length then unD i (noX (f x ⟨s.sl.set i .un, s.st⟩)) else .stuck | some false => catchD r x s | none => .stuck) D0 := q
    cases e : m x.cls with
    | none => rw [e] at q; exact q.elim
    | some b =>
      refine ⟨b, hm _ List.mem_cons_self x.cls b e C hC, fun hb a ha => ?_, fun hb => ?_⟩
      · subst hb
        rw [e] at q
        replace q : PostS G W κ w (if i < s.sl.length then unD i (noX (f x ⟨s.sl.set i .un, s.st⟩)) else .stuck) D0 := q
        have hj : i < s.sl.length := by
          by_cases h : i < s.sl.length
          · exact h
          · rw [if_neg h] at q; exact q.elim
        rw [if_pos hj] at q
        refine ⟨x, κ, w, ⟨s.sl.set i .un, s.st⟩, ok.setUn i _, ⟨fun j z => ?_, rx⟩, ?_⟩
        · have z : some i = some j := z
          cases z
          rw [List.getElem?_set_self (by rw [← ok.len]; exact hj)]
        show PostS G WF κ w (f x ⟨s.sl.set i .un, s.st⟩) (unset D0 i)
        cases z : f x ⟨s.sl.set i .un, s.st⟩ with
        | ok o s' =>
          rw [z] at q
          cases o with
          | nx => exact fun w' σ' H' le ok' => q w' _ H' le (ok'.setUn i none)
          | bk => exact fun w' σ' H' le ok' => q w' _ H' le (ok'.setUn i none)
          | ct => exact fun w' σ' H' le ok' => q w' _ H' le (ok'.setUn i none)
          | rt d => exact fun w' σ' v H' le ok' r' => q w' _ v H' le (ok'.setUn i none) r'
        | exc y s' => rw [z] at q; exact q.elim
        | stuck => rw [z] at q; exact q.elim
      · subst hb
        rw [e] at q
        exact catch_of (fun h hh => hm h (List.mem_cons_of_mem _ hh)) q ok rx
theorem pds_try {bd : List Stmt} {g0 : ExceptHandler} {gs : List ExceptHandler} {hs : List HdR} {tpos : Pos} {fb : DStm} (est : X.stack = X.env :: X.outer) (efr : X.env.frame = some X.env.locals) (nd : X.N.Nodup) (tk : Takes X W)
    (hbd : ∀ (Wi : WX) (pn : List (Addr × Obj)) (xe : Value → Shared → Prop), Takes (X.tr pn xe) Wi → PassesOwn (model X.prog X.w) X.A X.env xe → PDSs G Wi (X.tr pn xe) bd fb) (hm : ∀ h ∈ hs, MOk G X.K h)
    (hh : HdA X (g0 :: gs) (hs.map fun h => (h.c, h.oi, tSu G h))) : PDS G W X (.Try bd (g0 :: gs) [] [] tpos) (sTry fb hs) :=
  (ps_tryA (tb := fun Wi => tDS G Wi fb) est efr nd tk hbd hh).imp fun N σ H ⟨κ, w, s, ok, q⟩ => ⟨κ, w, s, ok, by
    have q : PostS G W κ w (match fb s with | .exc x s1 => catchD hs x s1 | r => r) N := q
    cases e : fb s with
    | stuck => rw [e] at q; exact q.elim
    | ok o s' => rw [e] at q; cases o <;> exact q
    | exc x s' =>
      rw [e] at q
      replace q : PostS G W κ w (catchD hs x s') N := q
      intro w' σ' c dd H' le ok' rx
      have q' : PostS G W κ w' (catchD hs x s') N := PostS.mono le q
      exact catch_of hm q' ok' rx⟩
end
/-! ### the suite's words -/
section
variable {G : Gam} {X : Cx} {oi : Option Nat} {a : Addr} {cl : Value} {dd : Option Addr} {x : Xc}
theorem Fx.mono {w w' : Wd} {σ : L2.St} (h : Fx G oi a cl dd x w σ) (le : w.le w') : Fx G oi a cl dd x w' σ := ⟨h.1, h.2.mono le⟩
def tXD (G : Gam) (oi : Option Nat) (a : Addr) (cl : Value) (dd : Option Addr) (x : Xc) (f : DE) : TE := fun σ H Q => ∃ κ w s, Ok G κ w s σ H ∧ Fx G oi a cl dd x w σ ∧ PostG G WF (Rep G) κ w σ (f s) Q
def tXA (G : Gam) (oi : Option Nat) (a : Addr) (cl : Value) (dd : Option Addr) (x : Xc) (f : DA) : TA := fun σ H Q => ∃ κ w s, Ok G κ w s σ H ∧ Fx G oi a cl dd x w σ ∧ PostG G WF (Reps G) κ w σ (f s) Q
theorem pxd_lift {e : Expr} {f : DE} (h : PD G WF X e f) : PE X e (tXD G oi a cl dd x f) := h.imp fun σ H Q ⟨κ, w, s, ok, _, q⟩ => ⟨κ, w, s, ok, q⟩
theorem pxa_nil : PA X [] (tXA G oi a cl dd x aNil) := pa_nil.imp fun σ H Q ⟨κ, w, s, ok, _, q⟩ => q w [] H (.refl _) ok .nil
theorem pxa_cons {e : Expr} {es : List Expr} {f : DE} {g : DA} (h : PE X e (tXD G oi a cl dd x f)) (k : PA X es (tXA G oi a cl dd x g)) (hs : starEach (e :: es) X.env = (false, eval e X.env) :: starEach es X.env := by rfl) : PA X (e :: es) (tXA G oi a cl dd x (aCons f g)) :=
  (pa_cons h k hs).imp fun σ H Q ⟨κ, w, s, ok, fx, q⟩ => ⟨κ, w, s, ok, fx, (PostG.bind q).imp fun v H1 ⟨d, s1, w1, le, ok1, r1, q1⟩ =>
    ⟨κ, w1, s1, ok1, fx.mono le, (PostG.bind q1).imp fun v2 H2 ⟨d2, s2, w2, le2, ok2, r2, q2⟩ => q2 w2 _ H2 (.refl _) ok2 (.cons (r1.mono le2) r2)⟩⟩
theorem pxd_tup {es : List Expr} {k : Nat} {g : DA} {pos : Pos} (h : PA X es (tXA G oi a cl dd x g)) : PE X (.Tuple es k pos) (tXD G oi a cl dd x (eTup g)) :=
  (pe_tup h).imp fun σ H Q ⟨κ, w, s, ok, fx, q⟩ => ⟨κ, w, s, ok, fx, (PostG.bind q).imp fun v H1 ⟨d, s1, w1, le, ok1, r1, q1⟩ => by
    by_cases c : d.length ≤ 1000
    · rw [if_pos c] at q1
      refine ⟨r1.length ▸ sz1000 c, fun p hp => ?_⟩
      obtain ⟨le2, ok2⟩ := ok1.alloc hp (.tup v)
      exact q1 _ _ _ le2 ok2 (.tup (.inl (.inl upd_same)) (r1.mono le2))
    · rw [if_neg c] at q1
      exact q1.elim⟩
theorem RepF.look' {w : Wd} : ∀ {vs : List (Str × V)} {fs : List (Nm × D)} {f : Nm} {d : D}, RepF G w vs fs → fs.lookup f = some d → ∃ v, vs.lookup (nm f) = some v ∧ Rep G w v d
  | _, _, _, _, .nil, e => nomatch e
  | _, _, f, d, .cons (f := g) (v := v) (d := d') r rs, e => by
    by_cases h : f = g
    · subst h
      simp [List.lookup] at e ⊢
      subst e
      exact r
    · have h1 : (f == g) = false := by simpa using h
      have h2 : (nm f == nm g) = false := by
        have : nm f ≠ nm g := fun z => h (nm_inj z)
        simpa using this
      simp only [List.lookup, h1] at e
      obtain ⟨v', q1, q2⟩ := RepF.look' rs e
      exact ⟨v', by simp only [List.lookup, h2]; exact q1, q2⟩
/-- e.f of the caught one, known to be of the class c -/
def eXf (c : String) (f : Nm) (x : Xc) : DE := fun s => if x.cls = c then match x.fs.lookup f with | some d => .ok d s | none => .stuck else .stuck
theorem pxd_fld {i : Nat} {C : Addr} {ob : Obj} {pn : List (Addr × Obj)} {c : String} {f : Nm} {fn e : Str} {p pos : Pos} (hK : G.K = X.K) (hC : G.ct c = some C) (T : XfC X.K C) (hno : PySem.W.findIn X.K (.ref C) fn = some none) (hf : fn = nm f) (hz : Zc cl dd ob) (hfs : ∃ vs, ob.data = .fields vs)
    (he : PE (X.suite a ((a, ob) :: pn)) (.Name e p) (tVar i)) : PE (X.suite a ((a, ob) :: pn)) (.Attribute (.Name e p) fn pos) (tXD G (some i) a cl dd x (eXf c f x)) :=
  (pe_xf T hno hz hfs he).imp fun σ H Q ⟨κ, w, s, ok, fx, q⟩ => by
    have q : PostG G WF (Rep G) κ w σ (if x.cls = c then match x.fs.lookup f with | some d => .ok d s | none => .stuck else .stuck) Q := q
    by_cases h : x.cls = c
    · rw [if_pos h] at q
      cases e : x.fs.lookup f with
      | none => rw [e] at q; exact q.elim
      | some d =>
        rw [e] at q
        obtain ⟨h1, C', h2, h3, h4⟩ := fx
        rw [h, hC] at h2
        cases h2
        rcases h4 with ⟨h4, _⟩ | ⟨da, vs, h5, h6, h7⟩
        · rw [h4] at e; cases e
        · obtain ⟨v, l1, l2⟩ := h7.look' e
          exact ⟨.ref a, h1 i rfl, rfl, h3, da, vs, v, h5, ok.fok.sub _ _ h6, hf ▸ l1, q w v H (.refl _) ok l2⟩
    · rw [if_neg h] at q
      exact q.elim
theorem pxs_ret {e : Expr} {f : DE} {pos : Pos} (h : PE X e (tXD G oi a cl dd x f)) : PS X (.Return (some e) pos) (tXS G oi a cl dd x (sRet f)) :=
  (ps_ret h).imp fun N σ H ⟨κ, w, s, ok, fx, q⟩ => ⟨κ, w, s, ok, fx, (PostG.bindS q).imp fun v H1 ⟨d, s1, w1, le, ok1, r1, q1⟩ => q1 w1 σ v H1 (.refl _) ok1 r1⟩
theorem pxs_set {i : Nat} {n : Str} {e : Expr} {f : DE} {pos pos' : Pos} (hN : X.N.Nodup) (hi : X.N[i]? = some n) (hx : Loc X.env.scope n) (he : PE X e (tXD G oi a cl dd x f)) (hs : swapsWith e (some (.Name n pos')) pos.line X.env = pure false := by rfl)
    (hf : X.fn n = true ∨ X.env.scope.names.lookup n = some .local := by first | exact .inl rfl | exact .inr rfl | assumption) : PS X (.Assign [.Name n pos'] e pos) (tXS G oi a cl dd x (sSet i f)) :=
  (ps_set hN hi hx he hs hf).imp fun N σ H ⟨κ, w, s, ok, fx, q⟩ => ⟨κ, w, s, ok, fx, (PostG.bindS q).imp fun v H1 ⟨d, s1, w1, le, ok1, r1, q1⟩ => q1 w1 _ H1 (.refl _) (ok1.setVal r1 i)⟩
theorem pxs_lift {st : Stmt} {f : DStm} (h : PDS G WF X st f) : PS X st (tXS G oi a cl dd x f) := h.imp fun N σ H ⟨κ, w, s, ok, _, q⟩ => ⟨κ, w, s, ok, q⟩
/-- a suite of one statement -/
theorem su_one {st : Stmt} {h : HdR} (k : ∀ (a : Addr) (ob : Obj) (cl : Value) (dd : Option Addr) (pn : List (Addr × Obj)) (x : Xc), Zc cl dd ob → (∃ vs, ob.data = .fields vs) → PS (X.suite a ((a, ob) :: pn)) st (tXS G h.oi a cl dd x (h.f x))) : SuOk X [st] (tSu G h) :=
  fun a ob cl dd pn hz hf => pss_one ⟨fun pins s σ H D I ⟨x, z⟩ => (k a ob cl dd pn x hz hf).run pins s σ H D I z⟩
end
end DL
set_option maxRecDepth 100000
set_option maxHeartbeats 4000000
set_option autoImplicit false
namespace DL
open PySem PySem.Spec PyProof.Rows L2
/-! ### lambdas without parameters -/
/-- the function object of a lambda -/
def FnO (f : Addr) (q : Str) (pr : Arguments) (bd : Expr) (sc : Scope) (clo : List (Str × Addr)) (pm : Value) (c : Addr) (ctv : Value) : HO := .ext fun h => h.get? f = some (PySem.W.kla_obj "<lambda>" q pr bd sc clo pm c ctv)
/-- a maker of lambdas: its table, the name of its lambdas' codes, its cells, the sites -/
structure LamT where
  P : Addr
  q : Str
  cells : List (Str × Addr)
  site : String → Option (Arguments × Expr × Scope)
def LamT.lam (T : LamT) : String → Addr → Wd → Prop := fun k f w => ∃ pr bd sc pm c ctv, T.site k = some (pr, bd, sc) ∧ w.F f = some (FnO f T.q pr bd sc (cloFrom T.cells sc.names []) pm c ctv) ∧ w.F c = some (LamX.CodeO c T.q)
def LamT.tab (T : LamT) : Addr → Hp → HO → Prop := fun a F o => a = T.P ∧ ∃ ps : Array Value, o = .tbl ps ∧ TriplesOk ps.toList ∧ ∀ (pos : Pos) (cv : Value), codeAmong pos ps.toList = some cv → ∃ c, cv = .ref c ∧ F c = some (LamX.CodeO c T.q)
theorem LamT.lamM (T : LamT) (k : String) (f : Addr) (w w' : Wd) (e : w.le w') : T.lam k f w → T.lam k f w' := fun ⟨pr, bd, sc, pm, c, ctv, h1, h2, h3⟩ => ⟨pr, bd, sc, pm, c, ctv, h1, e.f _ _ h2, e.f _ _ h3⟩
theorem LamT.tabM (T : LamT) (a : Addr) (F F' : Hp) (o : HO) (e : ∀ a o, F a = some o → F' a = some o) : T.tab a F o → T.tab a F' o := fun ⟨h0, ps, h1, h2, h3⟩ => ⟨h0, ps, h1, h2, fun pos cv hc => by
  obtain ⟨c, z1, z2⟩ := h3 pos cv hc
  exact ⟨c, z1, e _ _ z2⟩⟩
/-- the lambda is made -/
def eLam (n : Nat) (tk k : String) : DE := fun s => match s.st[n]? with
  | some (.tab t) => if t = tk then .ok (.lam k) s else .stuck
  | _ => .stuck
section
variable {G : Gam} {W : WX} {X : Cx}
/-- what G says of the maker's lambdas -/
structure GLam (G : Gam) (tk : String) (T : LamT) : Prop where
  tab : ∀ a F o, G.tab tk a F o ↔ T.tab a F o
  lam : ∀ k f w, (T.site k).isSome = true → (G.lam k f w ↔ T.lam k f w)
theorem fnO_ok {P : Program} {w0 : World} {H : Hp} {h : Heap} {f c : Addr} {q : Str} {pr : Arguments} {bd : Expr} {sc : Scope} {clo : List (Str × Addr)} {pm ctv : Value} (e : h.get? f = some (PySem.W.kla_obj "<lambda>" q pr bd sc clo pm c ctv)) : ObjOk P w0 H h f (FnO f q pr bd sc clo pm c ctv) :=
  ⟨e, ⟨_, e⟩, fun h1 h2 z k => k _ z⟩
theorem pd_lam {n : Nat} {tk k : String} {c : Addr} {T : LamT} {pr : Arguments} {bd : Expr} {sc : Scope} {pos : Pos} (GL : GLam G tk T) (TB : LamX.TabB X.base X.mg c T.P) (hcode : X.env.code = .ref c) (hq : T.q = X.env.qual ++ "<lambda>") (hcl : T.cells = X.env.cells) (hs : T.site k = some (pr, bd, sc))
    (L : LamX.LamS X.env.scope sc) (hdef : defaultsOf pr X.env = ([], [])) : PD G W X (.Lambda pr bd sc pos) (eLam n tk k) := by
  refine ⟨fun pins sh σ H Q I ⟨κ, w, s, ok, q⟩ => ?_⟩
  unfold eLam at q
  cases e : s.st[n]? with
  | none => rw [e] at q; exact q.elim
  | some cel =>
    rw [e] at q
    cases cel with
    | tab t' =>
      replace q : PostG G W (Rep G) κ w σ (if t' = tk then .ok (.lam k) s else .stuck) Q := q
      by_cases ht : t' = tk
      · subst ht
        rw [if_pos rfl] at q
        have hn : n < w.ρ.length := by
          rw [ok.fok.len]
          exact (List.getElem?_eq_some_iff.mp e).1
        have hρ : w.ρ[n]? = some (w.ρ[n]) := List.getElem?_eq_getElem hn
        obtain ⟨o, hP, ht⟩ := ok.fok.cel n _ _ hρ e
        obtain ⟨eP, ps, rfl, tr, among⟩ := (GL.tab _ _ _).mp ht
        rw [eP] at hP hρ
        have hfree := L.has I.ok
        refine PySem.W.kla_eval hdef ?_
        have bP : sh.heap.BuiltinsAt X.mg T.P := TB.bm.keeps I.bk
        have hP' : sh.heap.get? T.P = some { cls := .none, data := .fields ps } := I.hok T.P _ hP
        cases hc : codeAmong pos ps.toList with
        | none =>
          refine PySem.W.kla_makeFunction (mg := X.mg) (c := c) (P := T.P) (ps := ps) (closure_ok hfree) I.ok.glob (I.mod.glob.keeps I.bk) hcode (TB.code.keeps I.bk) hP' tr hc TB.gP bP fun c' ctv h' tk' hx hge hlt hrec htb => ?_
          obtain ⟨c2, oc, vs, t, e2, hoc, hd, hv⟩ := hrec
          cases e2
          have nC : H c' = none := I.hok.fresh hge
          have hsz : sh.heap.objs.size ≤ h'.objs.size := Nat.le_trans hge (Nat.le_of_lt hlt)
          have I1 := LamX.inv_table (t' := tk') (q := X.env.qual ++ "<lambda>") (more := #[rawInt pos.line, rawInt pos.col, .ref c']) (h' := h') I hP (fun b o hb z => hx b o hb z) htb hge ⟨oc, vs, t, hoc, hd, hv⟩
          have I2 := I1.laid (t' := tk') (a := h'.objs.size) (o := FnO h'.objs.size (X.env.qual ++ "<lambda>") pr bd sc (cloFrom X.env.cells sc.names []) ((X.mg "__name__").getD .none) c' ctv)
            (h' := h'.push (PySem.W.kla_obj "<lambda>" (X.env.qual ++ "<lambda>") pr bd sc (cloFrom X.env.cells sc.names []) ((X.mg "__name__").getD .none) c' ctv)) (fun b u z => Heap.get?_push_of_some _ z) (Nat.le_refl _) (fnO_ok (Heap.get?_push_size _ rfl))
          have okC := ok.alloc nC (LamX.CodeO c' (X.env.qual ++ "<lambda>"))
          obtain ⟨le1, ok1⟩ := okC
          have nPc : T.P ≠ c' := ne_of_none hP nC
          have eL : (ps ++ #[rawInt pos.line, rawInt pos.col, .ref c']).toList = ps.toList ++ [rawInt pos.line, rawInt pos.col, .ref c'] := by simp
          have cell1 : CellOk G ⟨upd w.F c' (LamX.CodeO c' (X.env.qual ++ "<lambda>")), w.ρ⟩ (upd (upd H c' (LamX.CodeO c' (X.env.qual ++ "<lambda>"))) T.P (.tbl (ps ++ #[rawInt pos.line, rawInt pos.col, .ref c']))) T.P (.tab t') := by
            refine ⟨_, upd_same, (GL.tab _ _ _).mpr ⟨rfl, _, rfl, by rw [eL]; exact PySem.TriplesOk_snoc _ _ _ _ tr, fun p' cv hcv => ?_⟩⟩
            rw [eL] at hcv
            rcases LamX.among_app _ tr hcv with z | z
            · obtain ⟨c0, e1, e2⟩ := among p' cv z
              exact ⟨c0, e1, le1.f _ _ e2⟩
            · exact ⟨c', z, by rw [hq]; exact upd_same⟩
          have ok2 := ok1.cell (n := n) (a := T.P) hρ cell1
          have eS : s.st.set n (.tab t') = s.st := by
            apply List.ext_getElem?
            intro i
            by_cases hi : n = i
            · subst hi
              rw [List.getElem?_set_self (List.getElem?_eq_some_iff.mp e).1, e]
            · rw [List.getElem?_set_ne hi]
          rw [eS] at ok2
          have swap : upd (upd H c' (LamX.CodeO c' (X.env.qual ++ "<lambda>"))) T.P (.tbl (ps ++ #[rawInt pos.line, rawInt pos.col, .ref c'])) = upd (upd H T.P (.tbl (ps ++ #[rawInt pos.line, rawInt pos.col, .ref c']))) c' (LamX.CodeO c' (X.env.qual ++ "<lambda>")) := by
            funext b
            by_cases h1 : b = T.P
            · rw [h1, upd_same, upd_ne nPc, upd_same]
            · rw [upd_ne h1]
              by_cases h2 : b = c'
              · rw [h2, upd_same, upd_same]
              · rw [upd_ne h2, upd_ne h2, upd_ne h1]
          rw [swap] at ok2
          obtain ⟨le3, ok3⟩ := ok2.alloc (I1.hok.fresh (Nat.le_refl _)) (FnO h'.objs.size (X.env.qual ++ "<lambda>") pr bd sc (cloFrom X.env.cells sc.names []) ((X.mg "__name__").getD .none) c' ctv)
          refine ⟨.ref h'.objs.size, _, I2, rfl, q _ _ _ (le1.trans le3) ok3 (.lam ((GL.lam _ _ _ (by rw [hs]; rfl)).mpr ⟨pr, bd, sc, (X.mg "__name__").getD .none, c', ctv, hs, ?_, ?_⟩))⟩
          · rw [hq, hcl]; exact upd_same
          · rw [hq]
            exact le3.f _ _ upd_same
        | some cv =>
          obtain ⟨c', ecv, hco⟩ := among pos cv hc
          subst ecv
          refine PySem.W.kla_makeFunctionHit (mg := X.mg) (c := c) (P := T.P) (ps := ps) (closure_ok hfree) I.ok.glob (I.mod.glob.keeps I.bk) hcode (TB.code.keeps I.bk) hP' tr hc bP fun ctv h' tk' hx hsz => ?_
          have I2 := I.laid (t' := tk') (a := h'.objs.size) (o := FnO h'.objs.size (X.env.qual ++ "<lambda>") pr bd sc (cloFrom X.env.cells sc.names []) ((X.mg "__name__").getD .none) c' ctv)
            (h' := h'.push (PySem.W.kla_obj "<lambda>" (X.env.qual ++ "<lambda>") pr bd sc (cloFrom X.env.cells sc.names []) ((X.mg "__name__").getD .none) c' ctv)) (fun b u z => Heap.get?_push_of_some _ (hx b u z)) hsz (fnO_ok (Heap.get?_push_size _ rfl))
          obtain ⟨le3, ok3⟩ := ok.alloc (I.hok.fresh hsz) (FnO h'.objs.size (X.env.qual ++ "<lambda>") pr bd sc (cloFrom X.env.cells sc.names []) ((X.mg "__name__").getD .none) c' ctv)
          refine ⟨.ref h'.objs.size, _, I2, rfl, q _ _ _ le3 ok3 (.lam ((GL.lam _ _ _ (by rw [hs]; rfl)).mpr ⟨pr, bd, sc, (X.mg "__name__").getD .none, c', ctv, hs, ?_, ?_⟩))⟩
          · rw [hq, hcl]; exact upd_same
          · exact le3.f _ _ hco
      · rw [if_neg ht] at q
        exact q.elim
    | _ => exact q.elim
end
end DL
set_option maxRecDepth 100000
set_option maxHeartbeats 4000000
set_option autoImplicit false
namespace DL
open PySem PySem.Spec PyProof.Rows L2
/-! ### data without lambdas -/
mutual
def noLam : D → Bool
  | .tup xs => noLams xs
  | .lst xs => noLams xs
  | .scr xs => noLams xs
  | .dic kvs => noLamK kvs
  | .ins _ fs => noLamF fs
  | .lam _ => false
  | _ => true
def noLams : List D → Bool
  | [] => true
  | x :: r => noLam x && noLams r
def noLamK : List (DK × D) → Bool
  | [] => true
  | x :: r => noLam x.2 && noLamK r
def noLamF : List (Nm × D) → Bool
  | [] => true
  | x :: r => noLam x.2 && noLamF r
end
def noLamC : Cell → Bool
  | .dic kvs => noLamK kvs
  | .lst xs => noLams xs
  | .obj _ fs => noLamF fs
  | .tab _ => true
def noLamS : List Cell → Bool
  | [] => true
  | c :: r => noLamC c && noLamS r
/-- other words for lambdas -/
def Gam.sw (G : Gam) (lam : String → Addr → Wd → Prop) (lamM : ∀ (k : String) (f : Addr) (w w' : Wd), w.le w' → lam k f w → lam k f w') : Gam := { G with lam := lam, lamM := lamM }
section
variable {G : Gam} {lam : String → Addr → Wd → Prop} {lamM : ∀ (k : String) (f : Addr) (w w' : Wd), w.le w' → lam k f w → lam k f w'} {w : Wd}
mutual
theorem Rep.sw : ∀ {v : V} {d : D}, (noLam d = true ∨ ∀ k f, G.lam k f w → lam k f w) → Rep G w v d → Rep (G.sw lam lamM) w v d
  | _, _, _, .non => .non
  | _, _, _, .bl b => .bl b
  | _, _, _, .int i => .int i
  | _, _, _, .str l => .str l
  | _, _, h, .tup a b => .tup a (Reps.sw h b)
  | _, _, h, .lst a b => .lst a (Reps.sw h b)
  | _, _, h, .scr a b => .scr a (Reps.sw h b)
  | _, _, h, .dic a b => .dic a (RepK.sw h b)
  | _, _, h, .ins c a b => .ins c a (RepF.sw h b)
  | _, _, _, .cell a => .cell a
  | _, _, _, .cls a => .cls a
  | _, _, _, .ty n => .ty n
  | _, _, _, .fn a => .fn a
  | _, _, h, .lam a => .lam (h.elim (fun z => nomatch z) fun z => z _ _ a)
theorem Reps.sw : ∀ {v : List V} {d : List D}, (noLams d = true ∨ ∀ k f, G.lam k f w → lam k f w) → Reps G w v d → Reps (G.sw lam lamM) w v d
  | _, _, _, .nil => .nil
  | _, _, h, .cons a b => .cons (Rep.sw (h.imp (fun z => ((Bool.and_eq_true _ _).mp z).1) id) a) (Reps.sw (h.imp (fun z => ((Bool.and_eq_true _ _).mp z).2) id) b)
theorem RepF.sw : ∀ {v : List (Str × V)} {d : List (Nm × D)}, (noLamF d = true ∨ ∀ k f, G.lam k f w → lam k f w) → RepF G w v d → RepF (G.sw lam lamM) w v d
  | _, _, _, .nil => .nil
  | _, _, h, .cons a b => .cons (Rep.sw (h.imp (fun z => ((Bool.and_eq_true _ _).mp z).1) id) a) (RepF.sw (h.imp (fun z => ((Bool.and_eq_true _ _).mp z).2) id) b)
theorem RepK.sw : ∀ {v : List (Key × V)} {d : List (DK × D)}, (noLamK d = true ∨ ∀ k f, G.lam k f w → lam k f w) → RepK G w v d → RepK (G.sw lam lamM) w v d
  | _, _, _, .nil => .nil
  | _, _, h, .cons a b => .cons (Rep.sw (h.imp (fun z => ((Bool.and_eq_true _ _).mp z).1) id) a) (RepK.sw (h.imp (fun z => ((Bool.and_eq_true _ _).mp z).2) id) b)
end
theorem CellOk.sw {H : Hp} {a : Addr} {c : Cell} (h : noLamC c = true ∨ ∀ k f, G.lam k f w → lam k f w) (k : CellOk G w H a c) : CellOk (G.sw lam lamM) w H a c := by
  cases c with
  | dic kvs => obtain ⟨vs, e, r⟩ := k; exact ⟨vs, e, r.sw h⟩
  | lst xs => obtain ⟨vs, e, r⟩ := k; exact ⟨vs, e, r.sw h⟩
  | obj c fs => obtain ⟨C, dx, vs, q, e, r⟩ := k; exact ⟨C, dx, vs, q, e, r.sw h⟩
  | tab t => exact k
theorem noLamS_get : ∀ {S : List Cell} {n : Nat} {c : Cell}, noLamS S = true → S[n]? = some c → noLamC c = true
  | [], _, _, _, e => by simp at e
  | x :: r, 0, c, h, e => by
    simp at e; subst e
    exact ((Bool.and_eq_true _ _).mp h).1
  | x :: r, n + 1, c, h, e => noLamS_get (S := r) (n := n) ((Bool.and_eq_true _ _).mp h).2 (by simpa using e)
theorem FOk.sw {S : List Cell} {H : Hp} (h : noLamS S = true ∨ ∀ k f, G.lam k f w → lam k f w) (k : FOk G w S H) : FOk (G.sw lam lamM) w S H :=
  ⟨k.sub, k.len, fun n a c e1 e2 => (k.cel n a c e1 e2).sw (h.imp (fun z => noLamS_get z e2) id), k.nd, k.nf⟩
theorem RepX.sw {c : Value} {dd : Option Addr} {x : Xc} (h : noLamF x.fs = true ∨ ∀ k f, G.lam k f w → lam k f w) (k : RepX G w c dd x) : RepX (G.sw lam lamM) w c dd x := by
  obtain ⟨C, h1, h2, h3⟩ := k
  refine ⟨C, h1, h2, h3.imp id fun ⟨a, vs, q1, q2, q3⟩ => ⟨a, vs, q1, q2, q3.sw h⟩⟩
theorem Rep.bk {v : V} {d : D} (h : noLam d = true ∨ ∀ k f, lam k f w → G.lam k f w) (k : Rep (G.sw lam lamM) w v d) : Rep G w v d := Rep.sw (G := G.sw lam lamM) (lam := G.lam) (lamM := G.lamM) h k
theorem FOk.bk {S : List Cell} {H : Hp} (h : noLamS S = true ∨ ∀ k f, lam k f w → G.lam k f w) (k : FOk (G.sw lam lamM) w S H) : FOk G w S H := FOk.sw (G := G.sw lam lamM) (lam := G.lam) (lamM := G.lamM) h k
theorem RepX.bk {c : Value} {dd : Option Addr} {x : Xc} (h : noLamF x.fs = true ∨ ∀ k f, lam k f w → G.lam k f w) (k : RepX (G.sw lam lamM) w c dd x) : RepX G w c dd x := RepX.sw (G := G.sw lam lamM) (lam := G.lam) (lamM := G.lamM) h k
end
/-! ### a def that makes lambdas -/
def fnDL (n : Nat) (body : DStm) (m : Nat) : DFn := fun ds S => if noLams ds = true ∧ noLamS S = true then match fnD n body m ds S with
  | .ok d S' => if noLam d = true ∧ noLamS S' = true then .ok d S' else .stuck
  | .exc x S' => if noLamF x.fs = true ∧ noLamS S' = true then .exc x S' else .stuck
  | .stuck => .stuck
  else .stuck
/-- the frame's own words for its lambdas -/
theorem fn_okDL {G : Gam} {P : Program} {w0 : World} {mg : Str → Option Value} {base : Heap} {x qual : Str} {st : Stmt} {f : Addr} {fd : FuncData} {N ps : List Str} {k n m : Nat} {body : DStm} (F : Fun G.K x qual st f fd) (S : FnScope N ps (defScope st)) (hn : ps.length = n) (hm : N.length - n = m)
    (T : Nat → LamT)
    (hbody : ∀ (cdv : Value), fd.code = cdv → ∀ (A : Around) (outer : List Env) (s : Shared) (H : Hp) (E : XK), Room k (A.deeper (envOfC qual (defScope st) s.heap.objs.size f cdv)) →
      Takes (cxOf (L2.CX P w0) P w0 G.K mg base N qual (defScope st) f cdv A outer s H E) (fun c d _ H => E c d H) → PassesOwn (model P w0) (A.deeper (envOfC qual (defScope st) s.heap.objs.size f cdv)) (envOfC qual (defScope st) s.heap.objs.size f cdv) (cxOf (L2.CX P w0) P w0 G.K mg base N qual (defScope st) f cdv A outer s H E).xe →
      PDSs (G.sw (T s.heap.objs.size).lam (T s.heap.objs.size).lamM) (fun c d _ H => E c d H) (cxOf (L2.CX P w0) P w0 G.K mg base N qual (defScope st) f cdv A outer s H E) (defBody st) body) : FnOk P w0 G.K mg base (L2.CX P w0) (k + 1) f fd ps (spG G n (fnDL n body m)) := by
  obtain ⟨oc, od, kV, doc, pm, an, cdv, ct, osl, rfl, lk, hcd⟩ := F.ex
  refine fn_of lk hcd S (fun vs H Q E h => by rw [h.1, hn]) fun A outer s H vs Q E hr h => ?_
  refine ⟨_, hbody cdv rfl A outer s H E hr (takes_of rfl rfl rfl rfl) (passes_of rfl), ?_⟩
  obtain ⟨hl, w, S', ds, fok, rs, q⟩ := h
  have hd : ds.length = n := by rw [← rs.length]; exact hl
  unfold fnDL at q
  by_cases hno : noLams ds = true ∧ noLamS S' = true
  case neg => rw [if_neg hno] at q; exact q.elim
  rw [if_pos hno] at q
  rw [start_eq (m := m) (by rw [hl]; exact hm)]
  have fok' := fok.sw (lam := (T s.heap.objs.size).lam) (lamM := (T s.heap.objs.size).lamM) (.inl hno.2)
  have rs' := rs.sw (lam := (T s.heap.objs.size).lam) (lamM := (T s.heap.objs.size).lamM) (.inl hno.1)
  refine ⟨⟨w, H, [], none⟩, w, _, Ok.start fok' rs' m, ?_⟩
  unfold fnD at q
  rw [if_pos hd] at q
  cases e : body ⟨ds.map Sl.val ++ List.replicate m .un, S'⟩ with
  | stuck => rw [e] at q; exact q.elim
  | exc x s' =>
    rw [e] at q
    replace q : PostF G (Rep G) w H (if noLamF x.fs = true ∧ noLamS s'.st = true then .exc x s'.st else .stuck) Q E := q
    by_cases hx : noLamF x.fs = true ∧ noLamS s'.st = true
    case neg => rw [if_neg hx] at q; exact q.elim
    rw [if_pos hx] at q
    exact fun w' σ' c dd H' le ok' rx => q w' c dd H' ok'.nx (ok'.fok.bk (.inl hx.2)) (rx.bk (.inl hx.1))
  | ok o s' =>
    rw [e] at q
    have key : ∀ d, PostF G (Rep G) w H (if noLam d = true ∧ noLamS s'.st = true then .ok d s'.st else .stuck) Q E → ∀ (w' : Wd) (v : L2.St × V) (H' : Hp), Ok (G.sw (T s.heap.objs.size).lam (T s.heap.objs.size).lamM) ⟨w, H, [], none⟩ w' s' v.1 H' → Rep (G.sw (T s.heap.objs.size).lam (T s.heap.objs.size).lamM) w' v.2 d → Q v.2 H' := fun d q w' v H' ok' r' => by
      by_cases hx : noLam d = true ∧ noLamS s'.st = true
      case neg => rw [if_neg hx] at q; exact q.elim
      rw [if_pos hx] at q
      exact q w' v.2 H' ok'.nx (ok'.fok.bk (.inl hx.2)) (r'.bk (.inl hx.1))
    cases o with
    | nx => exact fun w' σ' H' le ok' => key .non q w' (σ', .non) H' ok' .non
    | rt d => exact fun w' σ' v H' le ok' r' => key d q w' (σ', v) H' ok' r'
    | bk => exact q.elim
    | ct => exact q.elim
/-! ### a lambda called in the def that it was handed to -/
abbrev LamR := String → List Cell → Res (List Cell) D
def eAct (Λ : LamR) (i : Nat) : DE := fun s => match s.sl[i]? with
  | some (.val (.lam k)) => lift s (Λ k s.st)
  | _ => .stuck
def stripS : Sl → Sl
  | .val d => .val d
  | _ => .un
def lamRun (b : DE) (sl : List Sl) (st : List Cell) : Res (List Cell) D := match b ⟨sl.map stripS, st⟩ with
  | .ok d s' => .ok d s'.st
  | .exc x s' => .exc x s'.st
  | .stuck => .stuck
def lamR (bs : String → Option DE) (sl : List Sl) : LamR := fun k st => match bs k with
  | some b => lamRun b sl st
  | none => .stuck
def eCallL (n : Nat) (g : LamR → DFn) (bs : String → Option DE) (fa : DA) : DE := fun s => (fa s).bind fun ds s1 => if ds.length = n then lift s1 (g (lamR bs s1.sl) ds s1.st) else .stuck
theorem Ok.strip {G : Gam} {κ : Bs} {w w' : Wd} {s : DS} {σ : L2.St} {H H' : Hp} {S' : List Cell} (h : Ok G κ w s σ H) (le : w.le w') (f : FOk G w' S' H') : Ok G ⟨w', H', [], none⟩ w' ⟨s.sl.map stripS, S'⟩ σ H' := by
  have no : ∀ (i : Nat) (x : Sl), (s.sl.map stripS)[i]? = some x → x.own = false := fun i x e => by
    rw [List.getElem?_map] at e
    cases q : s.sl[i]? with
    | none => rw [q] at e; cases e
    | some y => rw [q] at e; cases e; cases y <;> rfl
  refine ⟨f, .refl _ _, by simp [h.len], fun i d e => ?_, fun i x e o => ?_, fun i j x y a e1 e2 o1 o2 _ _ => ?_, fun p hp => by simp at hp, fun a z => nomatch z⟩
  · replace e : (s.sl.map stripS)[i]? = some (.val d) := e
    rw [List.getElem?_map] at e
    cases q : s.sl[i]? with
    | none => rw [q] at e; cases e
    | some y =>
      rw [q] at e
      cases y with
      | val d' =>
        cases e
        obtain ⟨v, h1, h2⟩ := h.val i d q
        exact ⟨v, h1, h2.mono le⟩
      | _ => cases e
  · rw [no i x e] at o; cases o
  · rw [no i x e1] at o1; cases o1
/-- the words while w stands below -/
def Gam.at (G : Gam) (w : Wd) : Gam := G.sw (fun k f w' => G.lam k f w' ∧ w.le w') (fun k f a b le h => ⟨G.lamM k f a b le h.1, h.2.trans le⟩)
/-- the bodies of a maker's lambdas -/
structure LamB (G : Gam) (X : Cx) (k : Nat) (pr : Arguments) (bd : Expr) (sc : Scope) (b : DE) : Prop where
  L : LamX.LamS X.env.scope sc
  bind : ∀ (q : Str) (cl : List (Str × Addr)) (pm cv ctv : Value), bindArgs (PySem.W.kla_fn "<lambda>" q pr bd sc cl pm cv ctv) ⟨[], []⟩ = pure []
  body : ∀ (A : Around) (outer : List Env) (s : Shared) (H : Hp) (E : XK) (f c' : Addr), Room k (A.deeper (LamX.lamEnv X sc s.heap.objs.size f c')) → Takes (LamX.lamCx X A outer s H E sc f c') (fun c d _ H => E c d H) →
    PD G (fun c d _ H => E c d H) (LamX.lamCx X A outer s H E sc f c') bd b
def LamsOk (G : Gam) (X : Cx) (T : LamT) (k : Nat) (bs : String → Option DE) : Prop := ∀ (n : String) (b : DE), bs n = some b → ∃ pr bd sc, T.site n = some (pr, bd, sc) ∧ LamB G X k pr bd sc b
section
variable {G : Gam} {W : WX} {X : Cx}
theorem pd_act {T : LamT} {bs : String → Option DE} {pins : List (Addr × Obj)} {σ : L2.St} {H : Hp} {sh : Shared} {κ : Bs} {w : Wd} {s : DS} {k i : Nat} {Ng : List Str} {qg : Str} {sg : Scope} {g : Addr} {cdg : Value} {Eg : XK} {pn : List (Addr × Obj)} {xe : Value → Shared → Prop} {a : Str} {Wz : WX} {p1 p2 : Pos}
    (I : Inv X pins σ H sh) (ok : Ok G κ w s σ H) (GL : ∀ n f w', G.lam n f w' → T.lam n f w') (hq : T.q = X.env.qual ++ "<lambda>") (hcl : T.cells = X.env.cells) (hbs : LamsOk G X T k bs)
    (tk : Takes ((cxOf (L2.CX X.prog X.w) X.prog X.w X.K X.mg X.base Ng qg sg g cdg X.A X.stack sh H Eg).tr pn xe) Wz) (hr : Room (k + 1) (X.A.deeper (envOfC qg sg sh.heap.objs.size g cdg)))
    (hN : Ng[i]? = some a) (hv : Vis sg a) (hd : (a == ("__debug__" : Str)) = false := by decide) (hcd : (a == ("__classdict__" : Str)) = false := by decide) :
    PD (G.at w) Wz ((cxOf (L2.CX X.prog X.w) X.prog X.w X.K X.mg X.base Ng qg sg g cdg X.A X.stack sh H Eg).tr pn xe) (.Call (.Name a p1) [] [] p2) (eAct (lamR bs s.sl) i) := by
  refine ⟨fun pinsZ sZ σZ HZ Q IZ ⟨κZ, wZ, dZ, okZ, q⟩ => ?_⟩
  have ⟨n, e⟩ : ∃ n, dZ.sl[i]? = some (.val (.lam n)) := by
    unfold eAct at q
    split at q
    · exact ⟨_, by assumption⟩
    · exact q.elim
  simp only [eAct, e] at q
  obtain ⟨v, hs, rep⟩ := okZ.val i _ e
  cases rep with
  | @lam f _ hl =>
  obtain ⟨hl, le⟩ := hl
  have ⟨b, hb⟩ : ∃ b, bs n = some b := by
    unfold lamR at q
    split at q
    · exact ⟨_, by assumption⟩
    · exact q.elim
  simp only [lamR, hb] at q
  obtain ⟨pr, bd, sc, hsite, B⟩ := hbs n b hb
  obtain ⟨pr', bd', sc', pm, c', ctv, hsite', hF, hC⟩ := GL _ _ _ hl
  rw [hsite] at hsite'
  cases hsite'
  have hf0 := okZ.fok.sub _ _ hF
  have hc0 := okZ.fok.sub _ _ hC
  refine wpAny_Call_Name_kw (thn ((pe_var (pos := p1) (i := i) hN hv hd hcd).run pinsZ sZ σZ HZ (fun v H1 => v = .ref f ∧ H1 = HZ) IZ ⟨.ref f, hs, rfl, rfl⟩) fun u s1 ⟨v, H1, I1, r1, q1⟩ => ?_)
  obtain ⟨ev, eH⟩ := q1
  subst ev
  rw [eH] at I1
  obtain rfl : u = Value.ref f := r1
  have of1 : s1.heap.get? f = some (PySem.W.kla_obj "<lambda>" T.q pr bd sc (cloFrom T.cells sc.names []) pm c' ctv) := (I1.hok f _ hf0).1
  obtain ⟨⟨oc, vs, t, hoc, hdc, hvc⟩, _, _⟩ := I1.hok c' _ hc0
  rw [hq, hcl] at of1
  rw [hq] at hvc
  refine PySem.W.callWith_F0 ⟨_, _, _, _, of1⟩ ?_
  have un : Un (frs X.stack) [] H HZ sh.heap s1.heap := I1.base
  have rc : codeAny (model X.prog X.w) (X.A.deeper (envOfC qg sg sh.heap.objs.size g cdg)) (.call (.ref f) ⟨[], []⟩) (CR (L2.CX X.prog X.w) (envOfC qg sg sh.heap.objs.size g cdg :: X.stack) X.prog X.w HZ s1 Q (WE Wz σZ)) s1 := by
    refine PySem.W.kla_callFunE hr.depth of1 rfl B.L.co B.L.gen rfl ⟨c', oc, vs, t, rfl, hoc, hdc, hvc⟩ ?_
    rw [B.bind]
    refine wpAny_pure (wpAny_newFunctionEnv (fun y hy => (B.L.own y hy).2) (fun y hy => absurd hy (by simp)) (fun h₁ hns hsb => ⟨I1.nolimit.fresh _ hsb, ?_⟩) B.L.kind)
    show codeAny _ _ (.expr bd (LamX.lamEnv X sc s1.heap.objs.size f c')) _ _
    have kp : ∀ b o, s1.heap.get? b = some o → h₁.get? b = some o := fun b o e => hsb.extBut b o (Nat.ne_of_lt (Heap.lt_size e)) (Heap.get?_push_of_some _ e)
    have J : Inv (LamX.lamCx X (X.A.deeper (envOfC qg sg sh.heap.objs.size g cdg)) (envOfC qg sg sh.heap.objs.size g cdg :: X.stack) s1 HZ (WE Wz σZ) sc f c') [] σ HZ { s1 with heap := h₁, toks := s1.toks + ([] : List (Str × Value)).length } :=
      LamX.lam_start2 I B.L I1.env0 hr.hd un hns kp
    have okB := ok.strip le (okZ.fok.bk (.inr fun _ _ z => z.1))
    have ht : tD G (fun c d _ H => WE Wz σZ c d H) b σ HZ Q := by
      refine ⟨_, _, _, okB, ?_⟩
      unfold lamRun at q
      cases er : b ⟨s.sl.map stripS, dZ.st⟩ with
      | stuck => rw [er] at q; exact q.elim
      | ok d s' =>
        rw [er] at q
        intro w' v' H' le' ok' r'
        exact q w' v' H' le' (okZ.step ok'.nx (ok'.fok.sw (.inr fun _ _ z => ⟨z, le.trans le'⟩))) (r'.sw (.inr fun _ _ z => ⟨z, le.trans le'⟩))
      | exc x s' =>
        rw [er] at q
        intro w' cl dd H' le' ok' r'
        exact q w' cl dd H' le' (okZ.step ok'.nx (ok'.fok.sw (.inr fun _ _ z => ⟨z, le.trans le'⟩))) (r'.sw (.inr fun _ _ z => ⟨z, le.trans le'⟩))
    refine PySem.W.kla_codeExpr (wpAny_mono ((B.body _ _ s1 HZ _ _ _ (hr.deeper _) (takes_of rfl rfl rfl rfl)).run [] _ _ HZ Q J ht) (fun v s' hq => ?_) fun e s' hq => hq)
    obtain ⟨w', H', J', rv, q⟩ := hq
    exact ⟨w', H', J'.os, J'.bare, J'.base, J'.hok, rv, q⟩
  refine wpAny_call (codeAny_mono rc fun r s' hq => ?_)
  cases r with
  | error e => exact passAt tk σZ pinsZ HZ s1 e s' I1 hq
  | ok fl =>
    cases fl with
    | ret u => exact I1.after hq
    | next => exact False.elim hq
    | brk => exact False.elim hq
    | cont => exact False.elim hq
/-- the body of a def that is handed lambdas -/
def BodyL (G : Gam) (P : Program) (w0 : World) (mg : Str → Option Value) (base : Heap) (k : Nat) (N : List Str) (qual : Str) (st : Stmt) (f : Addr) (a : Str) (i : Nat) (body : LamR → DStm) : Prop :=
  ∀ (Λ : LamR) (cdv : Value) (A : Around) (outer : List Env) (s : Shared) (H : Hp) (E : XK), Room k (A.deeper (envOfC qual (defScope st) s.heap.objs.size f cdv)) →
    Takes (cxOf (L2.CX P w0) P w0 G.K mg base N qual (defScope st) f cdv A outer s H E) (fun c d _ H => E c d H) → PassesOwn (model P w0) (A.deeper (envOfC qual (defScope st) s.heap.objs.size f cdv)) (envOfC qual (defScope st) s.heap.objs.size f cdv) (cxOf (L2.CX P w0) P w0 G.K mg base N qual (defScope st) f cdv A outer s H E).xe →
    (∀ (pn : List (Addr × Obj)) (xe : Value → Shared → Prop) (W : WX) (p1 p2 : Pos), Takes ((cxOf (L2.CX P w0) P w0 G.K mg base N qual (defScope st) f cdv A outer s H E).tr pn xe) W → PD G W ((cxOf (L2.CX P w0) P w0 G.K mg base N qual (defScope st) f cdv A outer s H E).tr pn xe) (.Call (.Name a p1) [] [] p2) (eAct Λ i)) →
    PDSs G (fun c d _ H => E c d H) (cxOf (L2.CX P w0) P w0 G.K mg base N qual (defScope st) f cdv A outer s H E) (defBody st) (body Λ)
theorem pd_callL {T : LamT} {bs : String → Option DE} {k n m i : Nat} {f : Addr} {fd : FuncData} {N ps : List Str} {body : LamR → DStm} {x qual a : Str} {st : Stmt} {p pos : Pos} {e : Expr} {es : List Expr} {fa : DA} (hK : G.K = X.K) (F : Fun X.K x qual st f fd) (S : FnScope N ps (defScope st)) (hn : ps.length = n) (hm : N.length - n = m)
    (GL : ∀ n f w', G.lam n f w' → T.lam n f w') (hq : T.q = X.env.qual ++ "<lambda>") (hcl : T.cells = X.env.cells) (hbs : LamsOk G X T k bs)
    (hbody : ∀ w, BodyL (G.at w) X.prog X.w X.mg X.base (k + 1) N qual st f a i body) (hN : N[i]? = some a) (hv : Vis (defScope st) a)
    (hr : Room (k + 2) X.A) (hg : Gl X x) (hmg : X.mg x = some (.ref f)) (hb : Binds X.K fd ps []) (tk : Takes X W) (ha : PDA G W X (e :: es) fa) (hdb : (x == ("__debug__" : Str)) = false := by decide) (hda : (a == ("__debug__" : Str)) = false := by decide) (hcd : (a == ("__classdict__" : Str)) = false := by decide)
    (he : starEach (e :: es) X.env = (false, eval e X.env) :: starEach es X.env := by rfl) (hpl : (backTo pos (starEach es X.env)).any (·.1) = false := by rfl) : PD G W X (.Call (.Name x p) (e :: es) [] pos) (eCallL n (fun Λ => fnD n (body Λ) m) bs fa) := by
  refine ⟨fun pins s σ H Q I h => ?_⟩
  obtain ⟨κ, w, ds, ok, q⟩ := h
  refine wpAny_Call_Name_kw (ld_glob I hg hmg ?_ hdb)
  have hh : tDA G W fa σ H fun vs H1 => ∃ d s1 w1, w.le w1 ∧ Ok G κ w1 s1 σ H1 ∧ Reps G w1 vs d ∧ PostG G W (Rep G) κ w1 σ (if d.length = n then lift s1 (fnD n (body (lamR bs s1.sl)) m d s1.st) else .stuck) Q := ⟨κ, w, ds, ok, PostG.bind q⟩
  refine PySem.W.callWith_K (h₀ := X.base) I.ok.mod.kin F.kp (thn (ha.run pos pins s σ H _ I hh) fun us s1 ⟨vs, H1, I1, r, d, s2, w1, le, ok1, rs, q1⟩ => ⟨I1.kIn, ?_⟩) he hpl
  by_cases c : d.length = n
  case neg => rw [if_neg c] at q1; exact q1.elim
  rw [if_pos c] at q1
  have q2 := postF_of ok1 q1
  obtain ⟨oc, od, kV, doc, pm, an, cdv, ct, osl, rfl, lk, hcode⟩ := F.ex
  have hl : vs.length = n := by rw [rs.length]; exact c
  have hul : us.length = ps.length := by rw [← r.length, hl, hn]
  have rc : codeAny (model X.prog X.w) X.A (.call (.ref f) ⟨us, []⟩) (CR (L2.CX X.prog X.w) X.stack X.prog X.w H1 s1 Q (WE W σ)) s1 := by
    have hbd := hb s1 us I1.kIn (by simpa using hul)
    rw [List.append_nil] at hbd
    refine LamX.run_ofS (N := N) (ps := ps) (us := us) (vs := vs) lk hcode S hr I1.env0 hbd r (by rw [hl, hn]) fun hr' => ?_
    have hb0 := hbody w1 (lamR bs s2.sl) cdv X.A X.stack s1 H1 (WE W σ) hr' (takes_of rfl rfl rfl rfl) (passes_of rfl) 
    have hK' : (G.at w1).K = X.K := hK
    rw [hK'] at hb0
    refine ⟨_, hb0 fun pn xe W' p1 p2 tk' => pd_act I1 ok1 GL hq hcl hbs tk' hr' hN hv hda hcd, ?_⟩
    rw [start_eq (m := m) (by rw [hl]; exact hm)]
    have fok' : FOk (G.at w1) w1 s2.st H1 := ok1.fok.sw (.inr fun _ _ z => ⟨z, .refl _⟩)
    have rs' : Reps (G.at w1) w1 vs d := rs.sw (.inr fun _ _ z => ⟨z, .refl _⟩)
    refine ⟨⟨w1, H1, [], none⟩, w1, _, Ok.start fok' rs' m, ?_⟩
    unfold fnD at q2
    rw [if_pos c] at q2
    cases e : body (lamR bs s2.sl) ⟨d.map Sl.val ++ List.replicate m .un, s2.st⟩ with
    | stuck => rw [e] at q2; exact q2.elim
    | exc x s' =>
      rw [e] at q2
      exact fun w' σ' c dd H' le ok' rx => q2 w' c dd H' ok'.nx (ok'.fok.bk (.inr fun _ _ z => z.1)) (rx.bk (.inr fun _ _ z => z.1))
    | ok o s' =>
      rw [e] at q2
      cases o with
      | nx => exact fun w' σ' H' le ok' => q2 w' .non H' ok'.nx (ok'.fok.bk (.inr fun _ _ z => z.1)) .non
      | rt d => exact fun w' σ' v H' le ok' r' => q2 w' v H' ok'.nx (ok'.fok.bk (.inr fun _ _ z => z.1)) (r'.bk (.inr fun _ _ z => z.1))
      | bk => exact q2.elim
      | ct => exact q2.elim
  refine wpAny_call (codeAny_mono rc fun r s' hq => ?_)
  cases r with
  | error e => exact passAt tk σ pins H1 s1 e s' I1 hq
  | ok fl =>
    cases fl with
    | ret u => exact I1.after hq
    | next => exact False.elim hq
    | brk => exact False.elim hq
    | cont => exact False.elim hq
end
end DL
set_option maxRecDepth 100000
set_option maxHeartbeats 4000000
set_option autoImplicit false
namespace DL
open PySem PySem.Spec PyProof.Rows L2
/-! ### the law's end, with tables of code objects -/
def tabP (P : Addr) (q : Str) : Addr → Hp → HO → Prop := fun a F o => a = P ∧ ∃ ps : Array Value, o = .tbl ps ∧ TriplesOk ps.toList ∧ ∀ (pos : Pos) (cv : Value), codeAmong pos ps.toList = some cv → ∃ c, cv = .ref c ∧ F c = some (LamX.CodeO c q)
theorem tabP_nil (P : Addr) (q : Str) (F : Hp) : tabP P q P F (.tbl #[]) := ⟨rfl, #[], rfl, True.intro, fun pos cv hc => by
  have hc : codeAmong pos [] = some cv := hc
  simp [codeAmong] at hc⟩
def tabG (ms : List (String × Addr × Str)) : String → Addr → Hp → HO → Prop := fun k a F o => ∃ m, ms.lookup k = some m ∧ tabP m.1 m.2 a F o
theorem tabG_mono (ms : List (String × Addr × Str)) (k : String) (a : Addr) (F F' : Hp) (o : HO) (e : ∀ a o, F a = some o → F' a = some o) : tabG ms k a F o → tabG ms k a F' o := fun ⟨m, hm, h0, ps, h1, h2, h3⟩ => ⟨m, hm, h0, ps, h1, h2, fun pos cv hc => by
  obtain ⟨c, z1, z2⟩ := h3 pos cv hc
  exact ⟨c, z1, e _ _ z2⟩⟩
theorem glam_of {G : Gam} {ms : List (String × Addr × Str)} {tk : String} {T : LamT} (ht : G.tab = tabG ms) (hl : ms.lookup tk = some (T.P, T.q)) (hlam : ∀ k f w, G.lam k f w ↔ T.lam k f w) : GLam G tk T := by
  refine ⟨fun a F o => ?_, fun k f w _ => hlam k f w⟩
  rw [ht]
  constructor
  · rintro ⟨m, hm, h⟩
    rw [hl] at hm
    cases hm
    exact h
  · intro h
    exact ⟨_, hl, h⟩
def spLawT (K : PySem.W.Frag) (Ps : List Addr) : Sp := fun vs H Q _ => ∃ (a : Addr) (ns : List Int), vs = [.ref a] ∧ SqL K H a (ns.map V.int) ∧ ns.length ≤ 63 ∧ (∀ z ∈ ns, Builtin.Int.intBits z ≤ 1048576) ∧ (∀ P ∈ Ps, H P = some (.tbl #[])) ∧ ∀ H', Q (.bl true) H'
theorem law_endT {G : Gam} {P : Program} {w0 : World} {mg : Str → Option Value} {base : Heap} {k : Nat} {f : Addr} {fd : FuncData} {ps : List Str} {g : DFn} {Ms : List (String × Addr)} (F : FnOk P w0 G.K mg base (L2.CX P w0) k f fd ps (spG G 1 g)) (nd : (Ms.map (·.2)).Nodup)
    (ht : ∀ m ∈ Ms, ∀ F, G.tab m.1 m.2 F (.tbl #[]))
    (h : ∀ ns : List Int, ns.length ≤ 63 → (∀ z ∈ ns, Builtin.Int.intBits z ≤ 1048576) → ∃ S, g [.scr (ns.map D.int)] (Ms.map fun m => .tab m.1) = .ok (.bl true) S) : FnOk P w0 G.K mg base (L2.CX P w0) k f fd ps (spLawT G.K (Ms.map (·.2))) :=
  F.imp fun vs H Q E ⟨a, ns, e, hS, hl, hb, hP, q⟩ => by
    obtain ⟨S, hg⟩ := h ns hl hb
    subst e
    have hF : ∀ b, b ∉ Ms.map (·.2) → (fun b => if b ∈ Ms.map (·.2) then none else H b : Hp) b = H b := fun b hb => if_neg hb
    have nt : ∀ o, H a = some o → (∀ ps, o ≠ .tbl ps) → a ∉ Ms.map (·.2) := fun o e n z => n #[] (Option.some.inj (e.symm.trans (hP a z)))
    refine ⟨rfl, ⟨fun b => if b ∈ Ms.map (·.2) then none else H b, Ms.map (·.2)⟩, Ms.map fun m => .tab m.1, [.scr (ns.map D.int)], ⟨fun b o e => ?_, by simp, fun n b c e1 e2 => ?_, nd, fun b hb => if_pos hb⟩, .cons (.scr ?_ (Reps.of_ints ns)) .nil, ?_⟩
    · by_cases z : b ∈ Ms.map (·.2)
      · have e : (if b ∈ Ms.map (·.2) then none else H b) = some o := e
        rw [if_pos z] at e; cases e
      · have e : (if b ∈ Ms.map (·.2) then none else H b) = some o := e
        rw [if_neg z] at e; exact e
    · rw [List.getElem?_map] at e1 e2
      cases hm : Ms[n]? with
      | none => rw [hm] at e1; cases e1
      | some m =>
        rw [hm] at e1 e2
        cases e1; cases e2
        have mem := List.mem_of_getElem? hm
        exact ⟨_, hP _ (List.mem_map.mpr ⟨m, mem, rfl⟩), ht m mem _⟩
    · rcases hS with (z | ⟨o, z⟩) | z
      · exact .inl (.inl ((hF a (nt _ z fun _ => by simp)).trans z))
      · exact .inl (.inr ⟨o, (hF a (nt _ z fun _ => by simp)).trans z⟩)
      · exact .inr z
    · rw [hg]
      intro w' v H' nx f r
      cases r
      exact q H'
/-- the tables of the makers -/
def TabsT (q : Program) (K : PySem.W.Frag) (h : Heap) : Prop := ∀ (y : Str) (c P : Addr), ((recsOf q).find? (fun e => e.name == y)).isSome = true → PySem.W.tabIn K y = some (c, P) → PySem.W.CodeHd h c P ∧ h.get? P = some { cls := .none, data := .fields #[] }
theorem walk_ofD {l : PySem.W.OpenLaw} {n k : Nat} {q : Program} {loose : List Str} {XP : (Str → Option Value) → Heap → Prop} {YP : World → Heap → Prop} {d : DefRec} {K : Params → PySem.W.Frag} {CX : World → CXT} {x : Str}
    (hn : l.most = some n) (hn2 : n ≤ sizeLine) (hdf : d.params.defaults = []) (hr : Room k callerA) (hY : ∀ (w : World) (h : Heap), YP w h → (K w.params).In h)
    (F : ∀ (w : World) (mg : Str → Option Value) (fa : Addr) (h : Heap), (K w.params).In h → h.Ns mainGlobals mg → mg d.name = some (.ref fa) → TabsT q (K w.params) h → LamX.LawAtS l w (K w.params) (CX w) k n x mg fa h)
    (hCX : ∀ (w : World) (H : Hp) (s : Shared) (e : Value) (s' : Shared), CX w [] H s (fun _ _ _ => False) e s' → False) :
    PySem.W.WalkO q loose XP YP l.row.toRowW d [] (fun f vs => PySem.call f vs) := by
  refine Att.attach_callB hn hdf fun w s₀ s₁ mg mb fa o pm cd doc a vs ns G Y ho hd hcd hmg hobj hints hlen hbits hg => ?_
  have KX := hY w _ Y
  have tt : TabsT q (K w.params) s₁.heap := fun y c P hr ht => by
    obtain ⟨dd, hdd⟩ := Option.isSome_iff_exists.mp hr
    exact PySem.W.tab_of G.T KX hdd ht
  obtain ⟨fd, cs, sp, hT, nT, C, hb, hsp, hF⟩ := F w mg fa _ KX G.T.g hmg tt
  exact LamX.law_callTs KX G.T.g G.T.b G.T.builtins G.T.nolimit hg hT nT C G.T.bmain hobj hints (Nat.le_trans hlen hn2) hr hF hb (fun H hH hS => hsp H a ns hlen hbits hH hS) fun H e s' => hCX w H s₁ e s'
end DL
set_option maxRecDepth 100000
set_option maxHeartbeats 4000000
set_option autoImplicit false
namespace DL
open PySem PySem.Spec PyProof.Rows L2
/-! ### own error classes: the facts of the head -/
/-- the text of an own error's __init__ -/
def XSh (st : Stmt) (slf x f : Str) : Prop := ∃ (ar : Arg) (p0 p1 p2 p3 p4 p5 p6 p7 p8 p9 : Pos),
  defBody st = [.Expr (.Call (.Attribute (.Call (.Name "super" p0) [] [] p1) "__init__" p2) [.Name x p3] [] p4) p5, .Assign [.Attribute (.Name slf p6) f p7] (.Name x p8) p9] ∧
  ((defArgs st).posonlyargs ++ (defArgs st).args).head? = some ar ∧ ar.arg = slf ∧
  (defScope st).names.lookup ("super" : Str) = some .globalImplicit ∧ (defScope st).names.lookup ("__class__" : Str) = some .free ∧ (defScope st).names.lookup slf = some .local ∧ (defScope st).names.lookup x = some .local ∧ (∀ z ∈ (defScope st).names, z.2 ≠ .cell) ∧
  (defScope st).kind = .function ∧ (defScope st).isCoroutine = false ∧ (defScope st).isGenerator = false ∧ (p2.endLine == p4.line) = true
def xcB (K : PySem.W.Frag) (C fI : Addr) (f : Str) : Bool :=
  (PySem.W.findIn K (.ref C) "__setattr__" == some (some (.builtin "object.__setattr__"))) && ((PySem.W.subIn K (.ref C) (.type "BaseException") == some true) && ((PySem.W.typeIn K (.ref C) == some (.type "type")) && (PySem.W.keepIn K (.ref C) && ((PySem.W.typeIn K (.ref fI) == some (.type "function")) &&
  ((PySem.W.mroIn K C (.ref C) == some true) && ((PySem.W.ks_superIn K C C "__init__" == some (some (.builtin "ValueError.__init__"))) && ((PySem.W.subIn K (.ref C) (.type "ValueError") == some true) && ((PySem.W.nsIn K cStatics "thirdparty.any" == some none) && ((PySem.W.findIn K (.ref C) f == some none) && xfB K C)))))))))
structure XFacts (P : Program) (G : Gam) (mg : Str → Option Value) (c : String) (C fI : Addr) (fd : FuncData) (slf x f : Str) : Prop where
  T : XCls G G.K c C fI
  I : XIn P G.K mg C fI fd slf x f
  F : XfC G.K C
  B : Binds G.K fd [slf, x] []
theorem xfacts_of {P : Program} {G : Gam} {mg : Str → Option Value} {c : String} {C fI NS cda cc : Addr} {st : Stmt} {slf x f nm q name qual file : Str} {bs bm sub : List Value} {sn : List Str} {ab : Bool} {col : Option Bool} {dd : Option Addr} {k0 k1 k2 k3 k5 : Option Value}
    {oc dV kV doc pm ct ccl cl : Value} {od an cdd cld : Option Addr} {osl ccs csl : Array (Option Value)} {vs : Array Value} {tf : Tok}
    (hct : G.ct c = some C) (xl : G.K.lookup C = some (excClassObj nm q C NS bs bm true sn sub ab col dd k0 k1 k2 k3 k5 "ValueError.__new__")) (xr : PySem.HandSPX.refsVE bm = true) (xi : PySem.W.findIn G.K (.ref C) "__init__" = some (some (.ref fI)))
    (xf : G.K.lookup fI = some ⟨oc, od, .func (PySem.W.fnX name qual (defArgs st) (defBody st) (defScope st) [("__class__", cc)] dV kV doc pm an (.ref cda) ct), osl⟩) (xc : PySem.W.codeIn G.K (.ref cda) qual = true) (xd : G.K.lookup cda = some ⟨ccl, cdd, .fields vs, ccs⟩) (xv : vs[2]? = some (.str file tf))
    (xe : ((P.main.file : Str) == file) = true) (xk : G.K.lookup cc = some ⟨cl, cld, .cell (some (.ref C)), csl⟩) (xB : xcB G.K C fI f = true) (xt : (P.main.scope.names.lookup ("super" : Str)).isSome = false) (xs : mg "super" = none) (sh : XSh st slf x f)
    (d1 : (slf == ("__debug__" : Str)) = false) (d2 : (x == ("__debug__" : Str)) = false) (d3 : slf ≠ x) (hb : ∀ us : List Value, us.length = 2 → bindArgs (PySem.W.fnX name qual (defArgs st) (defBody st) (defScope st) [("__class__", cc)] dV kV doc pm an (.ref cda) ct) ⟨us, []⟩ = pure ([slf, x].zip us)) :
    XFacts P G mg c C fI (PySem.W.fnX name qual (defArgs st) (defBody st) (defScope st) [("__class__", cc)] dV kV doc pm an (.ref cda) ct) slf x f := by
  unfold xcB at xB
  simp only [Bool.and_eq_true, beq_iff_eq] at xB
  obtain ⟨b1, b2, b3, b4, b5, b6, b7, b8, b9, b10, b11⟩ := xB
  obtain ⟨ar, p0, p1, p2, p3, p4, p5, p6, p7, p8, p9, s1, s2, s3, s4, s5, s6, s7, s8, s9, s10, s11, s12⟩ := sh
  have oex : OexC G.K C := ⟨⟨nm, q, NS, bs, bm, sn, sub, ab, col, dd, k0, k1, k2, k3, k5, xl, xr⟩, b1, b2, b3, b4⟩
  refine ⟨⟨hct, xi, b5, oex⟩, ⟨⟨oc, doc, pm, dV, kV, ct, ccl, cl, od, an, cdd, cld, osl, ccs, csl, cda, cc, name, qual, file, defArgs st, defScope st, vs, tf, ar, p0, p1, p2, p3, p4, p5, p6, p7, p8, p9, by rw [s1], xf, xc, s2, s3, xd, xv, xe, xk, s4, s5, s6, s7, s8, s9, s10, s11, s12⟩, xt, xs, b6, b7, b8, b9, oex, b10, d1, d2, d3⟩, xfB_ok b11, .all hb⟩
/-! ### handlers without addresses -/
def HdR.bare (h : HdR) : HdR := ⟨.none, h.oi, h.m, h.f⟩
theorem catch_bare (x : Xc) : ∀ (hs : List HdR) (s : DS), catchD (hs.map HdR.bare) x s = catchD hs x s
  | [], s => rfl
  | ⟨_, none, m, f⟩ :: r, s => by
    show (match m x.cls with | some true => noX (f x s) | some false => catchD (r.map HdR.bare) x s | none => .stuck) = _
    rw [catch_bare x r s]
    rfl
  | ⟨_, some i, m, f⟩ :: r, s => by
    show (match m x.cls with | some true => (if i < s.sl.length then unD i (noX (f x ⟨s.sl.set i .un, s.st⟩)) else .stuck) | some false => catchD (r.map HdR.bare) x s | none => .stuck) = _
    rw [catch_bare x r s]
    rfl
theorem try_bare (b : DStm) (hs : List HdR) : sTry b (hs.map HdR.bare) = sTry b hs := by
  funext s
  unfold sTry
  cases b s with
  | exc x s1 => exact catch_bare x hs s1
  | ok o s1 => rfl
  | stuck => rfl
def hmT (yes no : List String) : String → Option Bool := fun k => if k ∈ yes then some true else if k ∈ no then some false else none
theorem mok_of {G : Gam} {K : PySem.W.Frag} {c : Value} {oi : Option Nat} {f : Xc → DStm} {yes no : List String} (h1 : ∀ k ∈ yes, ∀ C, G.ct k = some C → PySem.W.exmOne K (.ref C) c = some true) (h2 : ∀ k ∈ no, ∀ C, G.ct k = some C → PySem.W.exmOne K (.ref C) c = some false) : MOk G K ⟨c, oi, hmT yes no, f⟩ := by
  intro k b h C hC
  simp only [hmT] at h
  split at h
  · cases h; exact h1 k (by assumption) C hC
  · split at h
    · cases h; exact h2 k (by assumption) C hC
    · cases h
section
variable {G : Gam} {W : WX} {X : Cx}
theorem pds_tryB {bd : List Stmt} {g0 : ExceptHandler} {gs : List ExceptHandler} {hs : List HdR} {tpos : Pos} {fb : DStm} (est : X.stack = X.env :: X.outer) (efr : X.env.frame = some X.env.locals) (nd : X.N.Nodup) (tk : Takes X W)
    (hbd : ∀ (Wi : WX) (pn : List (Addr × Obj)) (xe : Value → Shared → Prop), Takes (X.tr pn xe) Wi → PassesOwn (model X.prog X.w) X.A X.env xe → PDSs G Wi (X.tr pn xe) bd fb) (hm : ∀ h ∈ hs, MOk G X.K h)
    (hh : HdA X (g0 :: gs) (hs.map fun h => (h.c, h.oi, tSu G h))) : PDS G W X (.Try bd (g0 :: gs) [] [] tpos) (sTry fb (hs.map HdR.bare)) := by
  rw [try_bare]
  exact pds_try est efr nd tk hbd hm hh
end
end DL
set_option maxRecDepth 100000
set_option maxHeartbeats 4000000
set_option autoImplicit false
namespace DL
open PySem PySem.Spec PyProof.Rows L2
/-! ### the lambdas of a text, in their order -/
abbrev LSite := Arguments × Expr × Scope
def lamsE : Nat → Expr → List LSite
  | 0, _ => []
  | n + 1, e => match e with
    | .Lambda a b s _ => [(a, b, s)]
    | .BoolOp _ vs _ => vs.flatMap (lamsE n)
    | .BinOp a _ b _ => lamsE n a ++ lamsE n b
    | .UnaryOp _ a _ => lamsE n a
    | .IfExp a b c _ => lamsE n a ++ lamsE n b ++ lamsE n c
    | .Compare a _ cs _ => lamsE n a ++ cs.flatMap (lamsE n)
    | .Call f as _ _ => lamsE n f ++ as.flatMap (lamsE n)
    | .Attribute a _ _ => lamsE n a
    | .Subscript a b _ => lamsE n a ++ lamsE n b
    | .List es _ => es.flatMap (lamsE n)
    | .Tuple es _ _ => es.flatMap (lamsE n)
    | _ => []
def lamsS : Nat → Stmt → List LSite
  | 0, _ => []
  | n + 1, s => match s with
    | .Return (some e) _ => lamsE 30 e
    | .Assign _ e _ => lamsE 30 e
    | .Expr e _ => lamsE 30 e
    | .AugAssign _ _ e _ => lamsE 30 e
    | .For _ e b _ _ => lamsE 30 e ++ b.flatMap (lamsS n)
    | .While e b _ _ => lamsE 30 e ++ b.flatMap (lamsS n)
    | .If e b c _ => lamsE 30 e ++ b.flatMap (lamsS n) ++ c.flatMap (lamsS n)
    | _ => []
def lamsOf (st : Stmt) : List LSite := (defBody st).flatMap (lamsS 12)
def siteOf (ns : List String) (st : Stmt) : String → Option LSite := fun k => (ns.zip (lamsOf st)).lookup k
section
variable {G : Gam} {W : WX} {X : Cx}
theorem lamsOk_nil {T : LamT} {k : Nat} : LamsOk G X T k (fun n => List.lookup n []) := fun n b h => by simp at h
theorem lamsOk_cons {T : LamT} {k : Nat} {n0 : String} {pr : Arguments} {bd : Expr} {sc : Scope} {b : DE} {L : List (String × DE)} (hs : T.site n0 = some (pr, bd, sc)) (B : LamB G X k pr bd sc b) (r : LamsOk G X T k (fun n => List.lookup n L)) : LamsOk G X T k (fun n => List.lookup n ((n0, b) :: L)) := fun n b' h => by
  have h : List.lookup n ((n0, b) :: L) = some b' := h
  by_cases e : n = n0
  · subst e
    rw [List.lookup_cons_self] at h
    cases h
    exact ⟨pr, bd, sc, hs, B⟩
  · have h1 : (n == n0) = false := beq_eq_false_iff_ne.mpr e
    simp only [List.lookup_cons, h1] at h
    exact r n b' h
theorem fn_stuck {P : Program} {w0 : World} {mg : Str → Option Value} {base : Heap} {f : Addr} {fd : FuncData} {ps : List Str} {k n : Nat} (hn : ps.length = n) : FnOk P w0 G.K mg base (L2.CX P w0) k f fd ps (spG G n (fun _ _ => .stuck)) :=
  ⟨fun vs H Q E h => by rw [h.1, hn], fun A outer s H args us vs Q E hr e0 hb r h => by
    obtain ⟨_, w, S, ds, _, _, q⟩ := h
    exact q.elim⟩
theorem BodyL.mono {P : Program} {w0 : World} {mg : Str → Option Value} {base : Heap} {j k : Nat} {N : List Str} {qual : Str} {st : Stmt} {f : Addr} {a : Str} {i : Nat} {body : LamR → DStm} (h : BodyL G P w0 mg base j N qual st f a i body) (hk : j ≤ k) : BodyL G P w0 mg base k N qual st f a i body :=
  fun Λ cdv A outer s H E hr => h Λ cdv A outer s H E (hr.mono hk)
end
theorem lawAt_of {G : Gam} {l : PySem.W.OpenLaw} {w : World} {k : Nat} {x : Str} {mg : Str → Option Value} {fa : Addr} {h : Heap} {fd : FuncData} {g : DFn} (Ms : List (String × Addr × Addr))
    (ht : ∀ m ∈ Ms, PySem.W.CodeHd h m.2.1 m.2.2 ∧ h.get? m.2.2 = some { cls := .none, data := .fields #[] }) (nl : ∀ m ∈ Ms, G.K.lookup m.2.2 = none) (nd : (Ms.map (·.2.2)).Nodup) (hb : ∀ (s : Shared) (u : Value), BindsTo s fd ⟨[u], []⟩ [(x, u)])
    (F : ∀ base : Heap, (∀ m ∈ Ms, LamX.TabB base mg m.2.1 m.2.2) → FnOk l.prog w G.K mg base (L2.CX l.prog w) k fa fd [x] (spG G 1 g)) (htab : ∀ m ∈ Ms, ∀ F, G.tab m.1 m.2.2 F (.tbl #[]))
    (hl : ∀ ns : List Int, ns.length ≤ 63 → (∀ z ∈ ns, Builtin.Int.intBits z ≤ 1048576) → ∃ S, g [.scr (ns.map D.int)] (Ms.map fun m => .tab m.1) = .ok (.bl true) S) : LamX.LawAtS l w G.K (L2.CX l.prog w) k 63 x mg fa h := by
  refine ⟨fd, Ms.map (·.2), spLawT G.K (Ms.map (·.2.2)), fun p hp => ?_, fun p hp => ?_, fun p hp => ?_, hb, fun H a ns h1 h2 h3 h4 => ⟨a, ns, rfl, h4, h1, h2, fun P hP => ?_, fun _ => rfl⟩, fun base _ _ tb => ?_⟩
  · obtain ⟨m, hm, rfl⟩ := List.mem_map.mp hp
    exact (ht m hm).2
  · obtain ⟨m, hm, rfl⟩ := List.mem_map.mp hp
    exact nl m hm
  · obtain ⟨m, hm, rfl⟩ := List.mem_map.mp hp
    exact (ht m hm).1
  · obtain ⟨m, hm, rfl⟩ := List.mem_map.mp hP
    exact h3 _ (List.mem_map.mpr ⟨m, hm, rfl⟩)
  · have e : Ms.map (·.2.2) = (Ms.map fun m => (m.1, m.2.2)).map (·.2) := by simp
    rw [e]
    refine law_endT (F base fun m hm => tb _ (List.mem_map.mpr ⟨m, hm, rfl⟩)) (by rw [← e]; exact nd) (fun m hm F => ?_) fun ns h1 h2 => ?_
    · obtain ⟨m', hm', rfl⟩ := List.mem_map.mp hm
      exact htab m' hm' F
    · have e2 : ((Ms.map fun m => (m.1, m.2.2)).map fun m => Cell.tab m.1) = Ms.map fun m => .tab m.1 := by simp
      rw [e2]
      exact hl ns h1 h2
end DL
set_option maxRecDepth 100000
set_option maxHeartbeats 4000000
set_option autoImplicit false
namespace DL
open PySem PySem.SeqAt
open AutoSeq1 (wpAny_loadPart')
open MeetsSeq MeetsSeq2 MeetsSeq3 SeqRoads2 GQ
section
variable {prog : Program} {w : World} {A : Around} {R : Result → Shared → Prop}
/-- at each turn the two lists are read anew: N items each; e tells what == gives -/
def ListB (prog : Program) (w : World) (A : Around) (E : Value → Shared → Prop) (l b : Addr) (N : Nat) (e : Nat → Bool) (I : Nat → Shared → Prop) : Prop :=
  ∀ i s, I i s → ∃ (items items2 : Array Value) (n n2 : Nat), s.heap.get? l = some { cls := .type "list", data := .seq items n } ∧ s.heap.get? b = some { cls := .type "list", data := .seq items2 n2 } ∧ items.size = N ∧ items2.size = N ∧
    ((∀ j, j < i → e j = true) → ∀ (h1 : i < items.size) (h2 : i < items2.size), wpAny (model prog w) A.in1 (eqBool items[i] items2[i]) (fun r s' => r = e i ∧ I (i + 1) s') E s)
theorem eq_loopB (l b : Addr) (N : Nat) (e : Nat → Bool) (I : Nat → Shared → Prop) (hl : ListB prog w A (fun e s' => R (.error e) s') l b N e I)
    (fin : ∀ i s, I i s → R (.ok (.ret (.bool ((List.range N).all e)))) s) (k : Nat) :
    ∀ i : Nat, N - i = k → i ≤ N → (∀ j, j < i → e j = true) → ∀ s, I i s →
      wpAny (model prog w) A.in1 (Builtin.«list.__eq__.loop» ⟨[.ref l, .ref b, rawInt i, rawInt 2], []⟩) (FinOf prog w A R) (fun e s' => R (.error e) s') s := by
  induction k with
  | zero =>
    intro i hk hi hall s h
    obtain ⟨items, items2, n, n2, hl1, hb1, hs1, hs2, _⟩ := hl _ _ h
    have hi' : i = N := by omega
    have hR : R (.ok (.ret (.bool true))) s := by
      have := fin i s h
      have ha : (List.range N).all e = true := by
        rw [List.all_eq_true]
        intro j hj
        exact hall j (by simp at hj; omega)
      rw [ha] at this
      exact this
    obtain ⟨hp, g, d, tk, os⟩ := s
    wp_walk using wpAny_loadPart' hl1, wpAny_loadPart' hb1
    have hi1 : items[((i : Nat) : Int).toNat]? = none := by simp; omega
    have hi2 : items2[((i : Nat) : Int).toNat]? = none := by simp; omega
    rw [hi1, hi2]
    wp_walk using wpAny_loadPart' hl1, wpAny_loadPart' hb1
    show R (.ok (.ret (.bool (items.size == items2.size)))) _
    rw [hs1, hs2]
    simpa using hR
  | succ k ih =>
    intro i hk hi hall s h
    obtain ⟨items, items2, n, n2, hl1, hb1, hs1, hs2, turn⟩ := hl _ _ h
    have hlt : i < items.size := by omega
    have hlt2 : i < items2.size := by omega
    have ht := turn hall hlt hlt2
    obtain ⟨hp, g, d, tk, os⟩ := s
    wp_walk using wpAny_loadPart' hl1, wpAny_loadPart' hb1
    have hi1 : items[((i : Nat) : Int).toNat]? = some items[i] := by simp [hlt]
    have hi2 : items2[((i : Nat) : Int).toNat]? = some items2[i] := by simp [hlt2]
    have hc : ((i : Int) + 1) = ((i + 1 : Nat) : Int) := by omega
    rw [hi1, hi2]
    refine wpAny_bind (wpAny_mono ht (fun r s2 h2 => ?_) fun _ _ x => x)
    obtain ⟨hr, h2⟩ := h2
    subst hr
    cases he : e i with
    | true =>
      have hrec := ih (i + 1) (by omega) (by omega) (fun j hj => by
        by_cases z : j = i
        · rw [z]; exact he
        · exact hall j (by omega)) s2 h2
      obtain ⟨hp2, g2, d2, tk2, os2⟩ := s2
      wp_walk
      rw [hc]
      exact ⟨plainId_quiet plain_eq_loop _, codeAny_builtin entry_eq_loop (by
        rw [Around.under_plainId plain_eq_loop _]
        exact hrec)⟩
    | false =>
      obtain ⟨it, it2, m, m2, hl2, hb2, hs3, hs4, _⟩ := hl _ _ h2
      have hR : R (.ok (.ret (.bool false))) s2 := by
        have := fin _ s2 h2
        have ha : (List.range N).all e = false := by
          rw [List.all_eq_false]
          exact ⟨i, by simp; omega, by rw [he]; simp⟩
        rw [ha] at this
        exact this
      have hj1 : it[((i : Nat) : Int).toNat]? = some it[i] := by simp [show i < it.size by omega]
      have hj2 : it2[((i : Nat) : Int).toNat]? = some it2[i] := by simp [show i < it2.size by omega]
      obtain ⟨hp2, g2, d2, tk2, os2⟩ := s2
      wp_walk using wpAny_loadPart' hl2, wpAny_loadPart' hb2
      rw [hj1, hj2]
      wp_walk
      exact hR
theorem list_eqB (l b : Addr) (N : Nat) (e : Nat → Bool) (I : Nat → Shared → Prop) (hl : ListB prog w A (fun e s' => R (.error e) s') l b N e I)
    (fin : ∀ i s, I i s → R (.ok (.ret (.bool ((List.range N).all e)))) s) {s : Shared} (h : I 0 s) :
    wpAny (model prog w) A.in1 (Builtin.«list.__eq__» ⟨[.ref l, .ref b], []⟩) (FinOf prog w A R) (fun e s' => R (.error e) s') s := by
  obtain ⟨items, items2, n, n2, hl1, hb1, hs1, hs2, _⟩ := hl _ _ h
  have hrec := eq_loopB (A := A) (R := R) l b N e I hl fin _ 0 rfl (Nat.zero_le _) (fun j hj => absurd hj (by omega)) s h
  obtain ⟨hp, g, d, tk, os⟩ := s
  have f3 := AutoSeq1.sub_list_list
  have hne : ¬ (items.size != items2.size) = true := by simp [hs1, hs2]
  wp_walk using wpAny_loadPart' hl1, wpAny_loadPart' hb1
  exact ⟨plainId_quiet plain_eq_loop _, codeAny_builtin entry_eq_loop (by
    rw [Around.under_plainId plain_eq_loop _]
    exact hrec)⟩
theorem tuple_eqB (l b : Addr) (items items2 : Array Value) (n n2 : Nat) (dd dd2 : Option Addr) (sl sl2 : Array (Option Value)) (e : Nat → Bool) (I : Nat → Shared → Prop)
    (turn : ∀ i (h1 : i < items.size) (h2 : i < items2.size) s, I i s → (∀ j, j < i → e j = true) → wpAny (model prog w) A.in1 (eqBool items[i] items2[i]) (fun r s' => r = e i ∧ I (i + 1) s') (fun e s' => R (.error e) s') s)
    (fin : ∀ i s, I i s → R (.ok (.ret (.bool ((List.range (min items.size items2.size)).all e && items.size == items2.size)))) s) {s : Shared} (hl1 : s.heap.get? l = some { cls := .type "tuple", dict := dd, data := .seq items n, slots := sl }) (hb1 : s.heap.get? b = some { cls := .type "tuple", dict := dd2, data := .seq items2 n2, slots := sl2 }) (h : I 0 s) :
    wpAny (model prog w) A.in1 (Builtin.«tuple.__eq__» ⟨[.ref l, .ref b], []⟩) (FinOf prog w A R) (fun e s' => R (.error e) s') s := by
  have f2 := AutoSeq1.sub_tuple_tuple
  have hZ : (items.toList.zip items2.toList).length = min items.size items2.size := by simp
  have h0 := h
  obtain ⟨hp, g, d, tk, os⟩ := s
  wp_walk using wpAny_loadPart' hl1, wpAny_loadPart' hb1, wpAny_forIn_list _ (fun rest b s' => b.1 = none ∧ ∃ i, rest = (items.toList.zip items2.toList).drop i ∧ i ≤ min items.size items2.size ∧ (∀ j, j < i → e j = true) ∧ I i s') _
  case turn =>
    rintro ⟨y, x⟩ rest b s' ⟨hb', i, hz, hi, hall, hI⟩
    have hlt : i < (items.toList.zip items2.toList).length := by
      rcases Nat.lt_or_ge i (items.toList.zip items2.toList).length with h' | h'
      · exact h'
      · rw [List.drop_of_length_le h'] at hz; cases hz
    have hm : i < min items.size items2.size := hZ ▸ hlt
    have h1 : i < items.size := Nat.lt_of_lt_of_le hm (Nat.min_le_left _ _)
    have h2 : i < items2.size := Nat.lt_of_lt_of_le hm (Nat.min_le_right _ _)
    rw [List.drop_eq_getElem_cons hlt] at hz
    injection hz with hyx hrest
    have hy : y = items[i] := by have := congrArg Prod.fst hyx; simpa using this
    have hx : x = items2[i] := by have := congrArg Prod.snd hyx; simpa using this
    subst hy hx
    refine wpAny_bind (wpAny_mono (turn i h1 h2 s' hI hall) (fun r s2 q2 => ?_) fun _ _ x => x)
    obtain ⟨hr, q2⟩ := q2
    subst hr
    cases he : e i with
    | true =>
      wp_walk
      exact ⟨rfl, i + 1, hrest, hm, fun j hj => by
        by_cases z : j = i
        · rw [z]; exact he
        · exact hall j (by omega), q2⟩
    | false =>
      have hR : R (.ok (.ret (.bool false))) s2 := by
        have := fin _ s2 q2
        have ha : (List.range (min items.size items2.size)).all e = false := by
          rw [List.all_eq_false]
          exact ⟨i, by simpa using hm, by rw [he]; simp⟩
        rw [ha] at this
        exact this
      wp_walk
      exact hR
  case fin =>
    rintro ⟨b1, b2⟩ s' ⟨hb', i, hz, hi, hall, hI⟩
    simp only at hb'
    subst hb'
    have hge : min items.size items2.size ≤ i := by
      rcases Nat.lt_or_ge i (items.toList.zip items2.toList).length with h' | h'
      · rw [List.drop_eq_getElem_cons h'] at hz; cases hz
      · exact hZ ▸ h'
    have hR := fin _ s' hI
    have ha : (List.range (min items.size items2.size)).all e = true := by
      rw [List.all_eq_true]
      intro j hj
      exact hall j (by simp at hj; omega)
    rw [ha] at hR
    wp_walk
    simpa [Builtin.Tuple.tupleCompareSizes] using hR
  case h =>
    exact ⟨rfl, 0, rfl, Nat.zero_le _, fun j hj => absurd hj (by omega), h0⟩
end
section
variable {prog : Program} {w : World} {A : Around} {E : Value → Shared → Prop} {s : Shared}
theorem rc_listB {l b : Addr} {N : Nat} {e : Nat → Bool} {Q : Value → Shared → Prop} (hu : A.units < cLine) (I : Nat → Shared → Prop) (hl : ListB prog w A E l b N e I)
    (fin : ∀ i s, I i s → Q (.bool ((List.range N).all e)) s) (h : I 0 s) : wpAny (model prog w) A (richCompare .Eq (.ref l) (.ref b)) Q E s := by
  obtain ⟨items, items2, n, n2, hl1, hb1, _, _, _⟩ := hl _ _ h
  refine wpAny_richCompare_same_room (op := .Eq) ⟨_, hl1, rfl⟩ ⟨_, hb1, rfl⟩ F.slot_list_eq (call_here F.slot_list_eq ⟨_, hl1, rfl⟩ F.entry_list_eq (F.args_list_eq_2 _ _) ?_) hu
  exact list_eqB (R := wants (fun v s' => v ≠ .notImplemented ∧ Q v s') E) l b N e I hl (fun i s' q => ⟨(fun x => nomatch x), fin i s' q⟩) h
theorem rc_tupB {l b : Addr} {items items2 : Array Value} {e : Nat → Bool} {Q : Value → Shared → Prop} (hu : A.units < cLine) (I : Nat → Shared → Prop)
    (hl : s.heap.IsTuple l items) (hb : s.heap.IsTuple b items2)
    (turn : ∀ i (h1 : i < items.size) (h2 : i < items2.size) s, I i s → (∀ j, j < i → e j = true) → wpAny (model prog w) A.in1 (eqBool items[i] items2[i]) (fun r s' => r = e i ∧ I (i + 1) s') E s)
    (fin : ∀ i s, I i s → Q (.bool ((List.range (min items.size items2.size)).all e && items.size == items2.size)) s) (h : I 0 s) : wpAny (model prog w) A (richCompare .Eq (.ref l) (.ref b)) Q E s := by
  obtain ⟨⟨cls, dd, data, sl⟩, ho, hc, n, hd⟩ := id hl
  obtain ⟨⟨cls2, dd2, data2, sl2⟩, ho2, hc2, n2, hd2⟩ := id hb
  simp only at hc hd hc2 hd2
  subst hc hd hc2 hd2
  refine wpAny_richCompare_same_room (op := .Eq) ⟨_, ho, rfl⟩ ⟨_, ho2, rfl⟩ F.slot_tuple_eq (call_here F.slot_tuple_eq ⟨_, ho, rfl⟩ F.entry_tuple_eq (F.args_tuple_eq_2 _ _) ?_) hu
  exact tuple_eqB (R := wants (fun v s' => v ≠ .notImplemented ∧ Q v s') E) l b items items2 n n2 dd dd2 sl sl2 e I turn (fun i s' q => ⟨(fun x => nomatch x), fin i s' q⟩) ho ho2 h
end
end DL
set_option maxRecDepth 100000
set_option maxHeartbeats 4000000
set_option autoImplicit false
namespace DL
open PySem PySem.Spec PyProof.Rows L2
/-! ### == of data of any depth, own classes among them -/
abbrev OwnQ := String → List (Nm × D) → List (Nm × D) → Option Bool
def eqDs (f : D → D → Option Bool) : List D → List D → Option Bool
  | [], [] => some true
  | x :: xs, y :: ys => match f x y with
    | some true => eqDs f xs ys
    | some false => some false
    | none => none
  | _, _ => some false
def eqB (x y : D) : Option Bool := match dEq x y with
  | some (.bl b) => some b
  | _ => none
def eqSt (own : OwnQ) (f : D → D → Option Bool) : D → D → Option Bool
  | .tup xs, .tup ys => eqDs f xs ys
  | .lst xs, .lst ys => if xs.length = ys.length then eqDs f xs ys else some false
  | .dic [], .dic [] => some true
  | .ins c fs, .ins c' gs => if c = c' then own c fs gs else none
  | _, _ => none
def eqD (own : OwnQ) : Nat → D → D → Option Bool
  | 0, _, _ => none
  | n + 1, x, y => match eqB x y with
    | some b => some b
    | none => eqSt own (eqD own n) x y
theorem eqB_py {x y : D} {b : Bool} (h : eqB x y = some b) : ∃ p q, toPy x = some p ∧ toPy y = some q ∧ SeqAt.shaped p = true ∧ SeqAt.shaped q = true ∧ b = PyData.eqv p q := by
  unfold eqB dEq at h
  cases e1 : toPy x with
  | none => simp [e1] at h
  | some p =>
    cases e2 : toPy y with
    | none => simp [e1, e2] at h
    | some q =>
      simp only [e1, e2] at h
      split at h
      · rename_i z1 z2
        split at z2
        · rename_i c
          cases z2
          cases h
          rw [Bool.and_eq_true] at c
          exact ⟨p, q, rfl, rfl, c.1, c.2, rfl⟩
        · cases z2
      · cases h
section
variable {G : Gam} {W : WX} {X : Cx} {pins : List (Addr × Obj)} {σ : L2.St} {H : Hp} {sh : Shared} {w : Wd}
theorem lst_tup (I : Inv X pins σ H sh) {a : Addr} {xs ys : List V} (h : SqL X.K H a xs) (h' : SqT X.K H a ys) : False := by
  obtain ⟨its, r, ⟨o, n, e, c, _, d⟩, _⟩ := I.list h
  obtain ⟨its', r', ⟨o', e', c', n', d'⟩, _⟩ := I.tuple h'
  rw [e] at e'
  cases e'
  rw [c] at c'
  exact absurd c' (by decide)
mutual
theorem Dp.det (I : Inv X pins σ H sh) : ∀ {v : V} {p q : PyData}, Dp X.K H v p → Dp X.K H v q → p = q
  | _, _, _, .non, .non => rfl
  | _, _, _, .bl b, .bl _ => rfl
  | _, _, _, .int b, .int _ => rfl
  | _, _, _, .str b, .str _ => rfl
  | _, _, _, .lst h r, .lst h' r' => by
    have := I.list_inj h h'
    subst this
    rw [DpAll.det I r r']
  | _, _, _, .tup h r, .tup h' r' => by
    have := I.tuple_inj h h'
    subst this
    rw [DpAll.det I r r']
  | _, _, _, .lst h r, .tup h' r' => (lst_tup I h h').elim
  | _, _, _, .tup h r, .lst h' r' => (lst_tup I h' h).elim
theorem DpAll.det (I : Inv X pins σ H sh) : ∀ {v : List V} {p q : List PyData}, DpAll X.K H v p → DpAll X.K H v q → p = q
  | _, _, _, .nil, .nil => rfl
  | _, _, _, .cons a b, .cons a' b' => by rw [Dp.det I a a', DpAll.det I b b']
end
theorem eqB_same (hK : G.K = X.K) {κ : Bs} {s : DS} (I : Inv X pins σ H sh) (ok : Ok G κ w s σ H) {v : V} {x y : D} {b : Bool} (rx : Rep G w v x) (ry : Rep G w v y) (h : eqB x y = some b) : b = true := by
  obtain ⟨p, q, h1, h2, s1, s2, rfl⟩ := eqB_py h
  have := Dp.det I (rx.py hK ok h1) (ry.py hK ok h2)
  subst this
  exact SeqAt.eqv_refl p (SeqAt.canLay_of_shaped s1)
/-- what is asked of the own classes' == -/
structure OwnEq (G : Gam) (X : Cx) (k : Nat) (own : OwnQ) : Prop where
  same : ∀ (w : Wd) (vs : List (Str × V)) (c : String) (fs gs : List (Nm × D)) (b : Bool), RepF G w vs fs → RepF G w vs gs → own c fs gs = some b → b = true
  run : ∀ (A : Around) (pins : List (Addr × Obj)) (sh : Shared) (σ : L2.St) (H : Hp) (κ : Bs) (w : Wd) (s : DS) (x y : Addr) (c : String) (fs gs : List (Nm × D)) (b : Bool), Sub X k A → Inv X pins σ H sh → Ok G κ w s σ H → Rep G w (.ref x) (.ins c fs) → Rep G w (.ref y) (.ins c gs) → own c fs gs = some b →
    wpAny (model X.prog X.w) A (richCompare .Eq (.ref x) (.ref y)) (fun r s' => r = .bool b ∧ ∃ w' H', w.le w' ∧ Inv X pins σ H' s' ∧ Ok G κ w' s σ H') X.xe sh
theorem same_list {f : D → D → Option Bool} (hf : ∀ (v : V) (x y : D) (b : Bool), Rep G w v x → Rep G w v y → f x y = some b → b = true) : ∀ {vs : List V} {xs ys : List D} {b : Bool}, Reps G w vs xs → Reps G w vs ys → eqDs f xs ys = some b → b = true
  | _, _, _, _, .nil, .nil, h => by cases h; rfl
  | _, _, _, _, .cons a r, .cons a' r', h => by
    simp only [eqDs] at h
    split at h
    · exact same_list hf r r' h
    · rename_i e
      exact absurd (hf _ _ _ _ a a' e) (by simp)
    · cases h
theorem eqD_same (hK : G.K = X.K) {κ : Bs} {s : DS} {k : Nat} {own : OwnQ} (O : OwnEq G X k own) (I : Inv X pins σ H sh) (ok : Ok G κ w s σ H) : ∀ (n : Nat) (v : V) (x y : D) (b : Bool), Rep G w v x → Rep G w v y → eqD own n x y = some b → b = true
  | 0, _, _, _, _, _, _, h => by cases h
  | n + 1, v, x, y, b, rx, ry, h => by
    unfold eqD at h
    split at h
    · rename_i e
      cases h
      exact eqB_same hK I ok rx ry e
    · unfold eqSt at h
      split at h
      · cases rx with
        | tup h1 r1 =>
          cases ry with
          | tup h2 r2 =>
            have := I.tuple_inj (hK ▸ SqT.le h1 ok.fok.sub) (hK ▸ SqT.le h2 ok.fok.sub)
            subst this
            exact same_list (eqD_same hK O I ok n) r1 r2 h
      · cases rx with
        | lst h1 r1 =>
          cases ry with
          | lst h2 r2 =>
            rw [h1] at h2
            cases h2
            split at h
            · exact same_list (eqD_same hK O I ok n) r1 r2 h
            · rename_i e
              exact absurd (r1.length.symm.trans r2.length) e
      · cases h; rfl
      · cases rx with
        | ins c1 h1 r1 =>
          cases ry with
          | ins c2 h2 r2 =>
            rw [h1] at h2
            cases h2
            split at h
            · exact O.same _ _ _ _ _ _ r1 r2 h
            · cases h
      · cases h
/-- == inside a builtin -/
def EqRun (G : Gam) (X : Cx) (m : Nat) (f : D → D → Option Bool) : Prop := ∀ (A : Around) (pins : List (Addr × Obj)) (sh : Shared) (σ : L2.St) (H : Hp) (κ : Bs) (w : Wd) (s : DS) (x y : V) (dx dy : D) (u v : Value) (b : Bool), Sub X m A → Inv X pins σ H sh → Ok G κ w s σ H → Rep G w x dx → Rep G w y dy → RelV x u → RelV y v → f dx dy = some b →
  wpAny (model X.prog X.w) A (eqBool u v) (fun r s' => r = b ∧ ∃ w' H', w.le w' ∧ Inv X pins σ H' s' ∧ Ok G κ w' s σ H') X.xe sh
/-- == as an operator -/
def RcRun (G : Gam) (X : Cx) (m : Nat) (f : D → D → Option Bool) : Prop := ∀ (A : Around) (pins : List (Addr × Obj)) (sh : Shared) (σ : L2.St) (H : Hp) (κ : Bs) (w : Wd) (s : DS) (x y : V) (dx dy : D) (u v : Value) (b : Bool), Sub X m A → Inv X pins σ H sh → Ok G κ w s σ H → Rep G w x dx → Rep G w y dy → RelV x u → RelV y v → f dx dy = some b →
  wpAny (model X.prog X.w) A (richCompare .Eq u v) (fun r s' => r = .bool b ∧ ∃ w' H', w.le w' ∧ Inv X pins σ H' s' ∧ Ok G κ w' s σ H') X.xe sh
def eqAt (f : D → D → Option Bool) (xs ys : List D) (i : Nat) : Bool := match xs[i]?, ys[i]? with
  | some x, some y => (f x y).getD false
  | _, _ => false
theorem eqDs_all {f : D → D → Option Bool} : ∀ {xs ys : List D} {b : Bool}, eqDs f xs ys = some b → b = ((List.range (min xs.length ys.length)).all (eqAt f xs ys) && xs.length == ys.length) ∧ ∀ i x y, xs[i]? = some x → ys[i]? = some y → (∀ j, j < i → eqAt f xs ys j = true) → ∃ c, f x y = some c ∧ eqAt f xs ys i = c
  | [], [], b, h => by cases h; exact ⟨rfl, fun i x y e => by simp at e⟩
  | [], _ :: _, b, h => by cases h; exact ⟨by simp, fun i x y e => by simp at e⟩
  | _ :: _, [], b, h => by cases h; exact ⟨by simp, fun i x y e e' => by simp at e'⟩
  | x :: xs, y :: ys, b, h => by
    have shift : ∀ i, eqAt f (x :: xs) (y :: ys) (i + 1) = eqAt f xs ys i := fun i => by simp [eqAt]
    have rng : ∀ n, (List.range (n + 1)).all (eqAt f (x :: xs) (y :: ys)) = (eqAt f (x :: xs) (y :: ys) 0 && (List.range n).all (eqAt f xs ys)) := fun n => by
      rw [List.range_succ_eq_map, List.all_cons, List.all_map]
      congr 1
    have mn : min (x :: xs).length (y :: ys).length = min xs.length ys.length + 1 := by simp [Nat.succ_min_succ]
    simp only [eqDs] at h
    split at h
    · rename_i e
      have e0 : eqAt f (x :: xs) (y :: ys) 0 = true := by simp [eqAt, e]
      obtain ⟨h1, h2⟩ := eqDs_all h
      refine ⟨?_, fun i a c ha hc hp => ?_⟩
      · rw [mn, rng, e0, h1]; simp
      · cases i with
        | zero =>
          simp at ha hc
          subst ha; subst hc
          exact ⟨true, e, e0⟩
        | succ i =>
          rw [shift]
          exact h2 i a c (by simpa using ha) (by simpa using hc) fun j hj => by
            have := hp (j + 1) (by omega)
            rw [shift] at this
            exact this
    · rename_i e
      cases h
      have e0 : eqAt f (x :: xs) (y :: ys) 0 = false := by simp [eqAt, e]
      refine ⟨?_, fun i a c ha hc hp => ?_⟩
      · rw [mn, rng, e0]; simp
      · cases i with
        | zero =>
          simp at ha hc
          subst ha; subst hc
          exact ⟨false, e, e0⟩
        | succ i =>
          have := hp 0 (by omega)
          rw [e0] at this
          cases this
    · cases h
theorem item_run {m : Nat} {f : D → D → Option Bool} (hf : EqRun G X m f) {A : Around} (sb : Sub X (m + 1) A) {pins : List (Addr × Obj)} {σ : L2.St} {κ : Bs} {w : Wd} {s : DS} {vs us : List V} {xs ys : List D} {its its2 : List Value} (r : Vals vs its) (r2 : Vals us its2) (rx : Reps G w vs xs) (ry : Reps G w us ys) {b : Bool} (hb : eqDs f xs ys = some b)
    (i : Nat) (h1 : i < its.toArray.size) (h2 : i < its2.toArray.size) (hp : ∀ j, j < i → eqAt f xs ys j = true) (sh' : Shared) (l : ∃ w' H', w.le w' ∧ Inv X pins σ H' sh' ∧ Ok G κ w' s σ H') :
    wpAny (model X.prog X.w) A.in1 (eqBool its.toArray[i] its2.toArray[i]) (fun r s2 => r = eqAt f xs ys i ∧ ∃ w' H', w.le w' ∧ Inv X pins σ H' s2 ∧ Ok G κ w' s σ H') X.xe sh' := by
  obtain ⟨w1, H1, le, I1, ok1⟩ := l
  have g1 : its[i]? = some its.toArray[i] := by
    have h1' : i < its.length := by simpa using h1
    rw [List.getElem?_eq_getElem h1'] <;> simp
  have g2 : its2[i]? = some its2.toArray[i] := by
    have h2' : i < its2.length := by simpa using h2
    rw [List.getElem?_eq_getElem h2'] <;> simp
  have k1 : i < vs.length := by rw [r.length]; simpa using h1
  have k2 : i < us.length := by rw [r2.length]; simpa using h2
  have k3 : i < xs.length := by rw [← rx.length]; exact k1
  have k4 : i < ys.length := by rw [← ry.length]; exact k2
  obtain ⟨v', hv, rpx⟩ := rx.get (List.getElem?_eq_getElem k3)
  obtain ⟨u', hu, rpy⟩ := ry.get (List.getElem?_eq_getElem k4)
  obtain ⟨a, ha, ra⟩ := r.get hv
  obtain ⟨c, hc, rc⟩ := r2.get hu
  rw [g1] at ha
  rw [g2] at hc
  rw [Option.some.inj ha, Option.some.inj hc]
  obtain ⟨bb, e1, e2⟩ := (eqDs_all hb).2 i _ _ (List.getElem?_eq_getElem k3) (List.getElem?_eq_getElem k4) hp
  refine wpAny_mono (hf A.in1 pins sh' σ H1 κ w1 s v' u' _ _ a c bb sb.in1 I1 ok1 (rpx.mono le) (rpy.mono le) ra rc e1) (fun r s2 q => ?_) fun _ _ x => x
  obtain ⟨hr, w2, H2, le2, I2, ok2⟩ := q
  exact ⟨hr.trans e2.symm, w2, H2, le.trans le2, I2, ok2⟩
theorem rcSt_run (hK : G.K = X.K) {k m : Nat} {own : OwnQ} (O : OwnEq G X k own) {f : D → D → Option Bool} (hkm : k ≤ m + 1) (hf : EqRun G X m f) : RcRun G X (m + 1) (eqSt own f) := by
  intro A pins sh σ H κ w s x y dx dy u v b sb I ok rx ry ru rv h
  have i0 : ∃ w' H', w.le w' ∧ Inv X pins σ H' sh ∧ Ok G κ w' s σ H' := ⟨w, H, .refl _, I, ok⟩
  unfold eqSt at h
  split at h
  · rename_i xs ys
    cases rx with
    | @tup a vs _ h1 r1 =>
      cases ry with
      | @tup c us _ h2 r2 =>
        cases ru
        cases rv
        obtain ⟨its, ra, e, z⟩ := I.tuple (hK ▸ SqT.le h1 ok.fok.sub)
        obtain ⟨its2, ra2, e2, z2⟩ := I.tuple (hK ▸ SqT.le h2 ok.fok.sub)
        refine rc_tupB (e := eqAt f xs ys) sb.room.units0 (fun _ s' => ∃ w' H', w.le w' ∧ Inv X pins σ H' s' ∧ Ok G κ w' s σ H') e e2 (fun i h1 h2 s' q hp => item_run hf sb ra ra2 r1 r2 h i h1 h2 hp s' q) (fun i s' q => ⟨?_, q⟩) i0
        rw [(eqDs_all h).1, List.size_toArray, List.size_toArray, ← ra.length, ← ra2.length, r1.length, r2.length]
  · rename_i xs ys
    cases rx with
    | @lst a vs _ h1 r1 =>
      cases ry with
      | @lst c us _ h2 r2 =>
        cases ru
        cases rv
        split at h
        · rename_i hl
          refine rc_listB (N := xs.length) (e := eqAt f xs ys) sb.room.units0 (fun _ s' => ∃ w' H', w.le w' ∧ Inv X pins σ H' s' ∧ Ok G κ w' s σ H') (fun i s' q => ?_) (fun i s' q => ⟨?_, q⟩) i0
          · obtain ⟨w1, H1, le, I1, ok1⟩ := id q
            obtain ⟨z, its, n1, ra, e⟩ := I1.hok a _ (ok1.fok.sub _ _ (le.f _ _ h1))
            obtain ⟨z2, its2, n2, ra2, e2⟩ := I1.hok c _ (ok1.fok.sub _ _ (le.f _ _ h2))
            refine ⟨its.toArray, its2.toArray, n1, n2, e, e2, by rw [List.size_toArray, ← ra.length, r1.length], by rw [List.size_toArray, ← ra2.length, r2.length, hl], fun hp h1 h2 => ?_⟩
            exact item_run hf sb ra ra2 r1 r2 h i h1 h2 hp s' q
          · rw [(eqDs_all h).1, hl]; simp
        · rename_i hl
          cases h
          obtain ⟨z, its, n1, ra, e⟩ := I.hok a _ (ok.fok.sub _ _ h1)
          obtain ⟨z2, its2, n2, ra2, e2⟩ := I.hok c _ (ok.fok.sub _ _ h2)
          refine SeqAt.RcAt.lists_lengths (items := its.toArray) (items2 := its2.toArray) ⟨_, e, rfl, n1, rfl⟩ ⟨_, e2, rfl, n2, rfl⟩ ?_ sb.room.units0 X.prog X.w X.xe _ ⟨rfl, i0⟩
          rw [List.size_toArray, List.size_toArray, ← ra.length, ← ra2.length, r1.length, r2.length]
          simpa using hl
  · cases h
    cases rx with
    | @dic a vs _ h1 r1 =>
      cases ry with
      | @dic c us _ h2 r2 =>
        cases ru
        cases rv
        cases r1
        cases r2
        obtain ⟨z, y, vs, r, d⟩ := I.hok a _ (ok.fok.sub _ _ h1)
        obtain ⟨z2, y2, vs2, r2, d2⟩ := I.hok c _ (ok.fok.sub _ _ h2)
        cases r
        cases r2
        exact PySem.W.rcP_dicts y y2 d d2 sb.room.units0 (fun _ => .nil) X.xe _ ⟨rfl, i0⟩
  · split at h
    · rename_i hc
      subst hc
      cases rx with
      | @ins a C1 d1 _ vs _ c1 h1 r1 =>
        cases ry with
        | @ins c C2 d2 _ us _ c2 h2 r2 =>
          cases ru
          cases rv
          exact O.run A pins sh σ H κ w s a c _ _ _ b (sb.mono hkm) I ok (.ins c1 h1 r1) (.ins c2 h2 r2) h
    · cases h
  · cases h
theorem eqSt_refs {own : OwnQ} {f : D → D → Option Bool} {x y : V} {dx dy : D} {b : Bool} (rx : Rep G w x dx) (ry : Rep G w y dy) (h : eqSt own f dx dy = some b) : ∃ a c, x = .ref a ∧ y = .ref c := by
  unfold eqSt at h
  split at h
  · cases rx; cases ry; exact ⟨_, _, rfl, rfl⟩
  · cases rx; cases ry; exact ⟨_, _, rfl, rfl⟩
  · cases rx; cases ry; exact ⟨_, _, rfl, rfl⟩
  · cases rx; cases ry; exact ⟨_, _, rfl, rfl⟩
  · cases h
theorem eqD_run (hK : G.K = X.K) {k : Nat} {own : OwnQ} (O : OwnEq G X k own) : ∀ n : Nat, EqRun G X (k + n) (eqD own n)
  | 0 => fun A pins sh σ H κ w s x y dx dy u v b sb I ok rx ry ru rv h => by cases h
  | n + 1 => fun A pins sh σ H κ w s x y dx dy u v b sb I ok rx ry ru rv h => by
    have h0 := h
    unfold eqD at h
    split at h
    · rename_i c e
      cases h
      obtain ⟨p, q, h1, h2, s1, s2, rfl⟩ := eqB_py e
      obtain ⟨as, r1⟩ := Dp.reads I p x u (rx.py hK ok h1) ru
      obtain ⟨bs, r2⟩ := Dp.reads I q y v (ry.py hK ok h2) rv
      refine SeqAt.eqAt_reads p q A sh u v as bs r1 r2 (SeqAt.canLay_of_shaped s1) (SeqAt.canLay_of_shaped s2) (SeqAt.room_of_shaped s1 ?_) X.prog X.w X.xe _ ⟨rfl, w, H, .refl _, I, ok⟩
      have := sb.room.un
      omega
    · obtain ⟨a, c, rfl, rfl⟩ := eqSt_refs rx ry h
      cases ru
      cases rv
      by_cases e : a = c
      · subst e
        have := eqD_same hK O I ok _ _ _ _ _ rx ry h0
        subst this
        exact SeqAt.EqAt.same (A := A) (s := sh) (.ref a) X.prog X.w X.xe _ ⟨rfl, w, H, .refl _, I, ok⟩
      · refine GQ.eqBool_refG e (wpAny_mono (rcSt_run hK O (by omega) (eqD_run hK O n) A pins sh σ H κ w s _ _ _ _ _ _ b sb I ok rx ry rfl rfl h) (fun r s' q => ?_) fun _ _ x => x)
        obtain ⟨hr, q⟩ := q
        exact ⟨b, hr, rfl, q⟩
theorem rcD_run (hK : G.K = X.K) {k : Nat} {own : OwnQ} (O : OwnEq G X k own) (n : Nat) : RcRun G X (k + n + 1) (eqD own (n + 1)) := by
  intro A pins sh σ H κ w s x y dx dy u v b sb I ok rx ry ru rv h
  unfold eqD at h
  split at h
  · rename_i c e
    cases h
    obtain ⟨p, q, h1, h2, s1, s2, rfl⟩ := eqB_py e
    obtain ⟨as, r1⟩ := Dp.reads I p x u (rx.py hK ok h1) ru
    obtain ⟨bs, r2⟩ := Dp.reads I q y v (ry.py hK ok h2) rv
    refine SeqAt.compareEq_shaped r1 r2 s1 s2 ?_ ⟨rfl, w, H, .refl _, I, ok⟩
    have := sb.room.un
    omega
  · exact rcSt_run hK O (by omega) (eqD_run hK O n) A pins sh σ H κ w s _ _ _ _ _ _ b sb I ok rx ry ru rv h
/-- == of deep data, as an operator -/
def deepO (own : OwnQ) (n : Nat) : DO2 := fun x y s => match eqD own n x y with
  | some b => .ok (.bl b) s
  | none => .stuck
theorem opx_deep (hK : G.K = X.K) {k n : Nat} {own : OwnQ} (O : OwnEq G X k own) (hr : Room (k + n + 1) X.A) : OpX G W X (compareOp .Eq) (deepO own (n + 1)) := by
  intro pins sh σ H x y v u κ w s dx dy Q I rx ry ok rdx rdy q
  unfold deepO at q
  cases e : eqD own (n + 1) dx dy with
  | none => rw [e] at q; exact q.elim
  | some b =>
    rw [e] at q
    show wpAny (model X.prog X.w) X.A (richCompare .Eq v u) _ _ _
    refine wpAny_mono (rcD_run hK O n X.A pins sh σ H κ w s x y dx dy v u b ⟨hr, rfl⟩ I ok rdx rdy rx ry e) (fun r s' z => ?_) fun _ _ x => x
    obtain ⟨rfl, w', H', le, I', ok'⟩ := z
    exact ⟨.bl b, H', I', rfl, q w' _ H' le ok' (.bl b)⟩
/-- no own class -/
def ownNo : OwnQ := fun _ _ _ => none
theorem ownNo_ok {k : Nat} : OwnEq G X k ownNo where
  same := fun _ _ _ _ _ _ _ _ h => nomatch h
  run := fun _ _ _ _ _ _ _ _ _ _ _ _ _ _ _ _ _ _ _ h => nomatch h
/-- classes of ints: c's fields are ns -/
def intF : List (Nm × D) → Option (List (Nm × Int))
  | [] => some []
  | (f, .int i) :: r => (intF r).map fun l => (f, i) :: l
  | _ => none
def ownInt (cs : List (String × List Nm)) : OwnQ := fun c fs gs => match cs.lookup c, intF fs, intF gs with
  | some ns, some l, some m => if l.map (·.1) = ns ∧ m.map (·.1) = ns then some (decide (l = m)) else none
  | _, _, _ => none
theorem intF_det : ∀ {vs : List (Str × V)} {fs gs : List (Nm × D)} {l m : List (Nm × Int)}, RepF G w vs fs → RepF G w vs gs → intF fs = some l → intF gs = some m → l = m := by
  intro vs
  induction vs with
  | nil =>
    intro fs gs l m r r' h h'
    cases r; cases r'; cases h; cases h'; rfl
  | cons p vs ih =>
    intro fs gs l m r r' h h'
    cases r with
    | @cons f v d _ ds a r =>
      generalize hp : (nm f, v) = p at r'
      cases r' with
      | @cons f' v' d' _ ds' a' r' =>
        cases hp
        cases a <;> try (simp [intF] at h; done)
        cases a' <;> try (simp [intF] at h'; done)
        simp only [intF, Option.map_eq_some_iff] at h h'
        obtain ⟨l1, h1, rfl⟩ := h
        obtain ⟨m1, h2, rfl⟩ := h'
        rw [ih r r' h1 h2]
theorem ownInt_some {cs : List (String × List Nm)} {c : String} {fs gs : List (Nm × D)} {b : Bool} (h : ownInt cs c fs gs = some b) : ∃ ns l m, cs.lookup c = some ns ∧ intF fs = some l ∧ intF gs = some m ∧ l.map (·.1) = ns ∧ m.map (·.1) = ns ∧ b = decide (l = m) := by
  unfold ownInt at h
  split at h
  · rename_i ns l m e1 e2 e3
    split at h
    · rename_i hn
      cases h
      exact ⟨ns, l, m, e1, e2, e3, hn.1, hn.2, rfl⟩
    · cases h
  · cases h
/-- what each own class brings -/
structure OwnC (G : Gam) (X : Cx) (k : Nat) (c : String) (ns : List Nm) : Prop where
  run : ∃ (C f : Addr) (fd : FuncData) (ps : List Str) (g : DFn), G.ct c = some C ∧ PySem.W.findIn X.K (.ref C) "__eq__" = some (some (.ref f)) ∧ PySem.W.isFn X.K (.ref f) = true ∧ FnOk X.prog X.w X.K X.mg X.base (L2.CX X.prog X.w) k f fd ps (spG G 2 g) ∧ Binds X.K fd ps [] ∧
    ∀ (fs gs : List (Nm × D)) (l m : List (Nm × Int)) (st : List Cell), intF fs = some l → intF gs = some m → l.map (·.1) = ns → m.map (·.1) = ns → g [.ins c fs, .ins c gs] st = .ok (.bl (decide (l = m))) st
theorem ownInt_ok {k : Nat} {cs : List (String × List Nm)} (tk : Takes X WF) (h : ∀ c ns, cs.lookup c = some ns → OwnC G X k c ns) : OwnEq G X k (ownInt cs) where
  same := fun w vs c fs gs b r1 r2 e => by
    obtain ⟨ns, l, m, h1, h2, h3, h4, h5, rfl⟩ := ownInt_some e
    exact decide_eq_true (intF_det r1 r2 h2 h3)
  run := fun A pins sh σ H κ w s x y c fs gs b sb I ok rx ry e => by
    obtain ⟨ns, l, m, h1, h2, h3, h4, h5, rfl⟩ := ownInt_some e
    obtain ⟨C, f, fd, ps, g, hC, hs, hf, F, hb, hg⟩ := (h c ns h1).run
    cases rx with
    | @ins _ C1 d1 _ vs _ c1 e1 r1 =>
    cases ry with
    | @ins _ C2 d2 _ us _ c2 e2 r2 =>
    rw [hC] at c1 c2
    cases c1
    cases c2
    obtain ⟨mA, J, _⟩ := ins_get I.hok (ok.fok.sub _ _ e1)
    obtain ⟨mB, J', _⟩ := ins_get I.hok (ok.fok.sub _ _ e2)
    obtain ⟨od, J, _⟩ := J.look
    obtain ⟨od', J', _⟩ := J'.look
    obtain ⟨mm, hF⟩ := I.fr
    refine PySem.W.cmp_K (op := .Eq) (tb := .ref C) sb.room.units0 hF I.ok.mod.kin J J'.type (by simp [PySem.W.notFirst]) hs hf ?_
    have hsp : spG G 2 g [.ref x, .ref y] H (fun v H' => v = .bl (decide (l = m)) ∧ ∃ w', w.le w' ∧ Ok G κ w' s σ H') (fun _ _ _ => False) := by
      refine ⟨rfl, w, s.st, [.ins c fs, .ins c gs], ok.fok, .cons (.ins hC e1 r1) (.cons (.ins hC e2 r2) .nil), ?_⟩
      rw [hg fs gs l m s.st h2 h3 h4 h5]
      intro w' v H' nx fk rv
      cases rv
      exact ⟨rfl, w', nx.le, ok.step nx fk⟩
    have e0 : Env0 X.prog X.w X.K X.mg X.base A X.stack sh H := by
      have e := I.env0
      exact ⟨by rw [sb.fr]; exact e.frames, e.mod, e.bs, e.bsz, e.funs, e.frf, e.hok, e.bare⟩
    have hl := F.len _ _ _ _ hsp
    refine wpAny_call (codeAny_mono (F.run A X.stack sh H ⟨[.ref x, .ref y], []⟩ [.ref x, .ref y] [.ref x, .ref y] _ _ sb.room e0 (by
      have := hb sh [.ref x, .ref y] I.kIn (by simpa using hl)
      simpa using this) (.cons rfl (.cons rfl .nil)) hsp) fun r s' hq => ?_)
    cases r with
    | error e => exact passes_call tk (fun _ _ _ _ z => z) pins σ H sh e s' I hq
    | ok fl =>
      cases fl with
      | ret u =>
        obtain ⟨z, H', I', rz, ez, w', le, ok'⟩ := I.after hq
        subst ez
        cases rz
        exact ⟨rfl, w', H', le, I', ok'⟩
      | next => exact False.elim hq
      | brk => exact False.elim hq
      | cont => exact False.elim hq
end
theorem lookup_one {c a : String} {ns b : List Nm} (h : List.lookup c [(a, b)] = some ns) : c = a ∧ ns = b := by
  by_cases e : c = a
  · subst e
    rw [List.lookup_cons_self] at h
    exact ⟨rfl, (Option.some.inj h).symm⟩
  · have : (c == a) = false := beq_eq_false_iff_ne.mpr e
    simp [List.lookup_cons, this] at h
theorem intF3 {fs : List (Nm × D)} {l : List (Nm × Int)} {x y z : Nm} (h : intF fs = some l) (k : l.map (·.1) = [x, y, z]) : ∃ a b c : Int, fs = [(x, .int a), (y, .int b), (z, .int c)] ∧ l = [(x, a), (y, b), (z, c)] := by
  match l, k with
  | [(_, a), (_, b), (_, c)], k =>
    simp only [List.map_cons, List.map_nil, List.cons.injEq, and_true] at k
    obtain ⟨rfl, rfl, rfl⟩ := k
    have st : ∀ {fs : List (Nm × D)} {f : Nm} {i : Int} {r : List (Nm × Int)}, intF fs = some ((f, i) :: r) → ∃ t, fs = (f, .int i) :: t ∧ intF t = some r := by
      intro fs f i r h
      match fs with
      | [] => simp [intF] at h
      | (g, .int j) :: t =>
        simp only [intF, Option.map_eq_some_iff] at h
        obtain ⟨l1, h1, h2⟩ := h
        cases h2
        exact ⟨t, rfl, h1⟩
      | (g, .non) :: t | (g, .bl _) :: t | (g, .str _) :: t | (g, .tup _) :: t | (g, .lst _) :: t | (g, .scr _) :: t | (g, .dic _) :: t | (g, .ins _ _) :: t | (g, .cell _) :: t | (g, .cls _) :: t | (g, .ty _) :: t | (g, .fn _) :: t | (g, .lam _) :: t => simp [intF] at h
    obtain ⟨t, e1, h⟩ := st h
    obtain ⟨t, e2, h⟩ := st h
    obtain ⟨t, e3, h9⟩ := st h
    subst e3 e2 e1
    clear h k
    match t, h9 with
    | [], _ => exact ⟨a, b, c, rfl, rfl⟩
    | (g, .int j) :: t, h =>
      simp only [intF, Option.map_eq_some_iff] at h
      obtain ⟨l1, h1, h2⟩ := h
      cases h2
    | (g, .non) :: t, h | (g, .bl _) :: t, h | (g, .str _) :: t, h | (g, .tup _) :: t, h | (g, .lst _) :: t, h | (g, .scr _) :: t, h | (g, .dic _) :: t, h | (g, .ins _ _) :: t, h | (g, .cell _) :: t, h | (g, .cls _) :: t, h | (g, .ty _) :: t, h | (g, .fn _) :: t, h | (g, .lam _) :: t, h => simp [intF] at h
end DL
set_option maxRecDepth 100000
set_option maxHeartbeats 4000000
set_option autoImplicit false
namespace DL
open PySem PySem.Spec PyProof.Rows L2
section
variable {G : Gam} {W : WX} {X : Cx}
/-! ### x in y, x not in y -/
def flD : D → Bool
  | .non => true
  | .bl _ => true
  | .int _ => true
  | .str _ => true
  | _ => false
def eqFl : D → D → Bool
  | .non, .non => true
  | .bl a, .bl b => a == b
  | .bl a, .int b => (if a then 1 else 0) == b
  | .int a, .bl b => a == (if b then 1 else 0)
  | .int a, .int b => a == b
  | .str a, .str b => a == b
  | _, _ => false
theorem fl_rep {w : Wd} {v : V} {d : D} (r : Rep G w v d) (h : flD d = true) : flatV v = true := by
  cases r <;> first | rfl | cases h
theorem eq_rep {w : Wd} {v u : V} {d e : D} (r : Rep G w v d) (r' : Rep G w u e) (h : flD d = true) (h' : flD e = true) : eqV v u = eqFl d e := by
  cases r <;> first | (cases h; done) | skip
  all_goals cases r' <;> first | (cases h'; done) | rfl | skip
  rename_i l m
  show (nm l == nm m) = (l == m)
  by_cases e : l = m
  · subst e; simp
  · rw [beq_eq_false_iff_ne.mpr e, beq_eq_false_iff_ne.mpr fun z => e (nm_inj z)]
theorem fls_rep {w : Wd} : ∀ {vs : List V} {ds : List D}, Reps G w vs ds → ds.all flD = true → vs.all flatV = true
  | _, _, .nil, _ => rfl
  | _, _, .cons a b, h => by
    rw [List.all_cons, Bool.and_eq_true] at h ⊢
    exact ⟨fl_rep a h.1, fls_rep b h.2⟩
theorem any_rep {w : Wd} {u : V} {e : D} (r' : Rep G w u e) (h' : flD e = true) : ∀ {vs : List V} {ds : List D}, Reps G w vs ds → ds.all flD = true → vs.any (fun y => eqV y u) = ds.any (fun y => eqFl y e)
  | _, _, .nil, _ => rfl
  | _, _, .cons a b, h => by
    rw [List.all_cons, Bool.and_eq_true] at h
    rw [List.any_cons, List.any_cons, eq_rep a r' h.1 h', any_rep r' h' b h.2]
def inS (neg : Bool) : D → D → Option D := fun x y => match x, y with
  | .str [c], .str l => some (.bl (if neg then !decide (c ∈ l) else decide (c ∈ l)))
  | _, _ => none
def inF (neg : Bool) : D → D → Option D := fun x y => match y with
  | .tup ds => if flD x = true ∧ ds.all flD = true then some (.bl (if neg then !(ds.any fun z => eqFl z x) else ds.any fun z => eqFl z x)) else none
  | .lst ds => if flD x = true ∧ ds.all flD = true then some (.bl (if neg then !(ds.any fun z => eqFl z x) else ds.any fun z => eqFl z x)) else none
  | _ => none
def inP (neg : Bool) : D → D → Option D := fun x y => match toPy x, toPy y with
  | some p, some (.list qs) => if SeqAt.shaped p && SeqAt.shaped (.list qs) then some (.bl (if neg then !(qs.any fun z => PyData.eqv z p) else qs.any fun z => PyData.eqv z p)) else none
  | _, _ => none
theorem nm_list (l : Nm) : (nm l).cps.toList = l := by simp [nm]
theorem opd_inS : OpD G X (compareOp .In) (inS false) := ⟨_, op_in_sign, fun κ w s σ H x y dx dy d Q ok rx ry e q => by
  unfold inS at e
  split at e
  · rename_i c l
    cases e
    cases rx
    cases ry
    exact ⟨c, nm l, rfl, rfl, by rw [nm_list]; exact q w _ H (.refl _) ok (.bl _)⟩
  · cases e⟩
theorem opd_notInS : OpD G X (compareOp .NotIn) (inS true) := ⟨_, op_notIn_sign, fun κ w s σ H x y dx dy d Q ok rx ry e q => by
  unfold inS at e
  split at e
  · rename_i c l
    cases e
    cases rx
    cases ry
    exact ⟨c, nm l, rfl, rfl, by rw [nm_list]; exact q w _ H (.refl _) ok (.bl _)⟩
  · cases e⟩
theorem inF_of (hK : G.K = X.K) {neg : Bool} {κ : Bs} {w : Wd} {s : DS} {σ : L2.St} {H : Hp} {x y : V} {dx dy d : D} {Q : VK} (ok : Ok G κ w s σ H) (rx : Rep G w x dx) (ry : Rep G w y dy) (e : inF neg dx dy = some d) (q : ∀ w' v H', w.le w' → Ok G κ w' s σ H' → Rep G w' v d → Q v H') : rIn X.K neg x y H Q := by
  unfold inF at e
  split at e
  · split at e
    · rename_i h
      cases e
      cases ry with
      | tup h1 r1 =>
        refine ⟨_, _, rfl, .inr (hK ▸ SqT.le h1 ok.fok.sub), fl_rep rx h.1, fls_rep r1 h.2, ?_⟩
        unfold inV
        rw [any_rep rx h.1 r1 h.2]
        exact q w _ H (.refl _) ok (.bl _)
    · cases e
  · split at e
    · rename_i h
      cases e
      cases ry with
      | lst h1 r1 =>
        refine ⟨_, _, rfl, .inl (.inl (.inl (ok.fok.sub _ _ h1))), fl_rep rx h.1, fls_rep r1 h.2, ?_⟩
        unfold inV
        rw [any_rep rx h.1 r1 h.2]
        exact q w _ H (.refl _) ok (.bl _)
    · cases e
  · cases e
theorem opd_inF (hK : G.K = X.K) : OpD G X (compareOp .In) (inF false) := ⟨_, op_in_seq, fun κ w s σ H x y dx dy d Q ok rx ry e q => inF_of hK ok rx ry e q⟩
theorem opd_notInF (hK : G.K = X.K) : OpD G X (compareOp .NotIn) (inF true) := ⟨_, op_notIn_seq, fun κ w s σ H x y dx dy d Q ok rx ry e q => inF_of hK ok rx ry e q⟩
theorem inP_py {neg : Bool} {dx dy d : D} (e : inP neg dx dy = some d) : ∃ p qs, toPy dx = some p ∧ toPy dy = some (.list qs) ∧ SeqAt.shaped p = true ∧ SeqAt.shaped (.list qs) = true ∧ d = .bl (if neg then !(qs.any fun z => PyData.eqv z p) else qs.any fun z => PyData.eqv z p) := by
  unfold inP at e
  split at e
  · rename_i p qs h1 h2
    split at e
    · rename_i h
      cases e
      rw [Bool.and_eq_true] at h
      exact ⟨p, qs, h1, h2, h.1, h.2, rfl⟩
    · cases e
  · cases e
theorem opd_inP (hK : G.K = X.K) (hu : X.A.units + 65 < cLine) : OpD G X (compareOp .In) (inP false) := ⟨_, op_inD hu, fun κ w s σ H x y dx dy d Q ok rx ry e q => by
  obtain ⟨p, qs, h1, h2, s1, s2, rfl⟩ := inP_py e
  exact ⟨p, qs, rx.py hK ok h1, ry.py hK ok h2, s1, s2, q w _ H (.refl _) ok (.bl _)⟩⟩
theorem opd_notInP (hK : G.K = X.K) (hu : X.A.units + 65 < cLine) : OpD G X (compareOp .NotIn) (inP true) := ⟨_, op_notInD hu, fun κ w s σ H x y dx dy d Q ok rx ry e q => by
  obtain ⟨p, qs, h1, h2, s1, s2, rfl⟩ := inP_py e
  exact ⟨p, qs, rx.py hK ok h1, ry.py hK ok h2, s1, s2, q w _ H (.refl _) ok (.bl _)⟩⟩
def dIn (neg : Bool) : D → D → Option D := fun x y => (inS neg x y).orElse fun _ => (inF neg x y).orElse fun _ => inP neg x y
theorem room65 {A : Around} {k : Nat} (hr : Room k A) : A.units + 65 < cLine := by have := hr.un; omega
theorem opd_in (hK : G.K = X.K) (hu : X.A.units + 65 < cLine) : OpD G X (compareOp .In) (dIn false) := (opd_inS.or ((opd_inF hK).or (opd_inP hK hu))).congr fun x y => rfl
theorem opd_notIn (hK : G.K = X.K) (hu : X.A.units + 65 < cLine) : OpD G X (compareOp .NotIn) (dIn true) := (opd_notInS.or ((opd_notInF hK).or (opd_notInP hK hu))).congr fun x y => rfl
/-! ### n.bit_length(), divmod -/
def eBits (f : DE) : DE := fun s => (f s).bind fun d s1 => match d with
  | .int i => .ok (.int (Builtin.Int.intBits i : Nat)) s1
  | _ => .stuck
theorem pd_bits {o : Expr} {f : DE} {apos pos : Pos} (ho : PD G W X o f) (hbase : attributeBase o "bit_length" X.env (eval o X.env) = eval o X.env := by rfl) (hline : (apos.endLine == pos.line) = true := by rfl) : PD G W X (.Call (.Attribute o "bit_length" apos) [] [] pos) (eBits f) :=
  (pe_bits ho hbase hline).imp fun σ H Q ⟨κ, w, s, ok, q⟩ => ⟨κ, w, s, ok, (PostG.bind q).imp fun v H1 ⟨d, s1, w1, le, ok1, r1, q1⟩ => by
    cases r1 with
    | int i => exact ⟨i, rfl, q1 w1 _ H1 (.refl _) ok1 (.int _)⟩
    | _ => exact q1.elim⟩
def bDivmod : List D → Option D
  | [.int i, .int j] => if 0 < j ∧ divOk j = true then some (.tup [.int (i.fdiv j), .int (i.fmod j)]) else none
  | _ => none
theorem pylong_no {i j : Int} (h : j.natAbs.log2 < 9000) : Builtin.divisionGoesByPylong i j = false := by
  unfold Builtin.divisionGoesByPylong
  have : ¬ ((if (j == 0) = true then 0 else j.natAbs.log2 / 30 + 1) > 300) := by
    split
    · omega
    · omega
  simp only [Bool.and_eq_false_iff, decide_eq_false_iff_not]
  exact .inl this
theorem cd_divmod : CallD G X (.builtin "divmod") bDivmod := ⟨_, call_divmodW, fun κ w s σ H vs ds d Q ok rs e q => by
  unfold bDivmod at e
  split at e
  · rename_i i j
    split at e
    · rename_i h
      cases e
      cases rs with
      | cons a rs =>
      cases rs with
      | cons b rs =>
      cases rs
      cases a
      cases b
      have hd := h.2
      unfold divOk at hd
      have hd := of_decide_eq_true hd
      refine ⟨i, j, rfl, ⟨h.1, pylong_no hd.2⟩, fun p hp => ?_⟩
      rw [Int.fdiv_eq_ediv_of_nonneg i (Int.le_of_lt h.1), Int.fmod_eq_emod_of_nonneg i (Int.le_of_lt h.1)] at q
      obtain ⟨le, ok'⟩ := ok.alloc hp (.tup [.int (i / j), .int (i % j)])
      exact q _ _ _ le ok' (.tup (.inl (.inl upd_same)) (.cons (.int _) (.cons (.int _) .nil)))
    · cases e
  · cases e⟩
/-! ### methods of built-in types -/
def MtD (G : Gam) (X : Cx) (T id : String) (o : D → List D → Option D) : Prop := ∃ r, MtR X id r ∧ (∀ (κ : Bs) (w : Wd) (s : DS) (σ : L2.St) (H : Hp) (x : V) (vs : List V) (dx : D) (ds : List D) (d : D) (Q : VK), Ok G κ w s σ H → Rep G w x dx → Reps G w vs ds → o dx ds = some d →
  (∀ w' v H', w.le w' → Ok G κ w' s σ H' → Rep G w' v d → Q v H') → r x vs H Q) ∧ ∀ (κ : Bs) (w : Wd) (s : DS) (σ : L2.St) (H : Hp) (x : V) (dx : D), Ok G κ w s σ H → Rep G w x dx → tyOk T dx = true → tyV X.K T x H
where
  tyOk (T : String) : D → Bool
  | .str _ => T == "str"
  | .lst _ => T == "list"
  | .dic _ => T == "dict"
  | _ => false
def eBM (T : String) (o : D → List D → Option D) (fo : DE) (fa : DA) : DE := fun s => (fo s).bind fun x s1 => if MtD.tyOk T x = true then (fa s1).bind fun ds s2 => match o x ds with
  | some d => .ok d s2
  | none => .stuck
  else .stuck
theorem pd_bm {T id : String} {name : Str} {o : D → List D → Option D} {oe e : Expr} {es : List Expr} {fo : DE} {fa : DA} {apos cpos : Pos} (pa : PlainAttrs T) (slot : Slot T name id) (hty : typeOf (.builtin id) = pure (.type "method_descriptor")) (hm : MtD G X T id o) (ho : PD G W X oe fo) (ha : PDA G W X (e :: es) fa)
    (hbase : attributeBase oe name X.env (eval oe X.env) = eval oe X.env := by rfl)
    (hfew : ((backTo cpos (starEach (e :: es) X.env)).all (fun x => !x.1) && (backToKw cpos (keywordEach [] X.env)).all (fun x => x.1.isSome)
      && decide ((e :: es).length + ([] : List Keyword).length + (if ([] : List Keyword).isEmpty then 0 else 1) < 30)) = true := by rfl)
    (hline : (apos.endLine == cpos.line) = true := by rfl) (hs : starEach (e :: es) X.env = (false, eval e X.env) :: starEach es X.env := by rfl) (hplain : (backTo cpos (starEach es X.env)).any (·.1) = false := by rfl) :
    PD G W X (.Call (.Attribute oe name apos) (e :: es) [] cpos) (eBM T o fo fa) := by
  obtain ⟨r, h1, h2, h3⟩ := hm
  refine (pe_bm pa slot hty h1 ho ha hbase hfew hline hs hplain).imp fun σ H Q ⟨κ, w, s, ok, q⟩ => ⟨κ, w, s, ok, (PostG.bind q).imp fun v H1 ⟨d, s1, w1, le, ok1, r1, q1⟩ => ?_⟩
  by_cases ht : MtD.tyOk T d = true
  · rw [if_pos ht] at q1
    refine ⟨h3 κ w1 s1 σ H1 v d ok1 r1 ht, κ, w1, s1, ok1, (PostG.bind q1).imp fun vs H2 ⟨ds, s2, w2, le2, ok2, r2, q2⟩ => ?_⟩
    cases e : o d ds with
    | none => rw [e] at q2; exact q2.elim
    | some z => rw [e] at q2; exact h2 κ w2 s2 σ H2 v vs d ds z Q ok2 (r1.mono le2) r2 e q2
  · rw [if_neg ht] at q1
    exact q1.elim
theorem ty_ok {T : String} {κ : Bs} {w : Wd} {s : DS} {σ : L2.St} {H : Hp} {x : V} {dx : D} (ok : Ok G κ w s σ H) (r : Rep G w x dx) (h : MtD.tyOk T dx = true) : tyV X.K T x H := by
  cases r <;> first | (cases h; done) | skip
  · exact beq_iff_eq.mp h
  · rename_i h1 _
    exact .inl ⟨beq_iff_eq.mp h, _, .inl (.inl (ok.fok.sub _ _ h1))⟩
  · rename_i h1 _
    exact .inr (.inr (.inl ⟨beq_iff_eq.mp h, .inl ⟨_, ok.fok.sub _ _ h1⟩⟩))
/-- texts of a list -/
def strsOf : List D → Option (List Nm)
  | [] => some []
  | .str l :: r => (strsOf r).map fun m => l :: m
  | _ => none
theorem strs_rep {w : Wd} : ∀ {vs : List V} {ds : List D} {ls : List Nm}, Reps G w vs ds → strsOf ds = some ls → vs = (ls.map nm).map V.str
  | _, _, _, .nil, h => by cases h; rfl
  | _, _, ls, .cons a b, h => by
    cases a <;> first | (simp [strsOf] at h; done) | skip
    simp only [strsOf, Option.map_eq_some_iff] at h
    obtain ⟨m, hm, rfl⟩ := h
    rw [strs_rep b hm]
    rfl
def mJoin : D → List D → Option D
  | .str a, [.lst ds] => match strsOf ds with
    | some ls => if (ls.map (·.length)).sum + ls.length * a.length ≤ 16777216 then some (.str (TL.joinL a ls)) else none
    | none => none
  | _, _ => none
theorem join_nm (a : Nm) (ls : List Nm) : Txt.join (nm a) (ls.map nm) = nm (TL.joinL a ls) := by
  have h := TL.tl_join (nm a) (ls.map nm)
  rw [← TL.join_eq, show TL.tl (nm a) = a from nm_list a, List.map_map] at h
  have e : (TL.tl ∘ nm) = id := by funext l; exact nm_list l
  rw [e, List.map_id] at h
  have : ∀ x : Str, x = nm (TL.tl x) := fun x => by simp [nm, TL.tl]
  rw [this (Txt.join _ _), h]
theorem mtd_join : MtD G X "str" "str.join" mJoin := by
  refine ⟨_, mt_join, fun κ w s σ H x vs dx ds d Q ok rx rs e q => ?_, fun κ w s σ H x dx ok r h => ty_ok ok r h⟩
  unfold mJoin at e
  split at e
  · rename_i a ds'
    split at e
    · rename_i ls hl
      split at e
      · rename_i hz
        cases e
        cases rx
        cases rs with
        | cons r1 rs =>
        cases rs
        cases r1 with
        | lst h1 r1 =>
        have := strs_rep r1 hl
        subst this
        refine ⟨nm a, _, ls.map nm, rfl, rfl, .inl (.inl (.inl (ok.fok.sub _ _ h1))), ?_, by rw [join_nm]; exact q w _ H (.refl _) ok (.str _)⟩
        have e1 : (ls.map nm).map (·.length) = ls.map (·.length) := by
          rw [List.map_map]
          apply List.map_congr_left
          intro l _
          show (nm l).cps.size = l.length
          simp [nm]
        have e2 : (nm a).length = a.length := by show (nm a).cps.size = _; simp [nm]
        rw [e1, e2, List.length_map]
        exact hz
      · cases e
    · cases e
  · cases e
end
end DL
set_option maxRecDepth 100000
set_option maxHeartbeats 4000000
set_option autoImplicit false
namespace DL
open PySem PySem.Spec PyProof.Rows L2
section
variable {G : Gam} {W : WX} {X : Cx}
/-! ### an own list, looked at without giving it away -/
def eIxO (i : Nat) (fb : DE) : DE := fun s => match s.sl[i]? with
  | some (.ol _) => (fb s).bind fun y s1 => match y, s1.sl[i]? with
    | .int k, some (.ol xs) => (match L2.atI xs k with | some d => .ok d s1 | none => .stuck)
    | _, _ => .stuck
  | some (.val x) => (fb s).bind fun y s1 => match y with
    | .int k => (match ixD x k with | some d => .ok d s1 | none => .stuck)
    | _ => .stuck
  | _ => .stuck
theorem ix_run (hK : G.K = X.K) {κ : Bs} {w : Wd} {s : DS} {σ : L2.St} {H : Hp} {v : V} {dx z : D} {k : Int} {Q : VK} (ok : Ok G κ w s σ H) (r1 : Rep G w v dx) (e : ixD dx k = some z) (q : PostG G W (Rep G) κ w σ (.ok z s) Q) : rIx X.K v (.int k) H Q := by
  cases r1 with
  | @tup p vs ds e1 r1 =>
    obtain ⟨y, h1, h2⟩ := Reps.atI r1 e
    exact .inr (.inl ⟨p, vs, k, y, rfl, rfl, hK ▸ SqT.le e1 ok.fok.sub, h1, q w y H (.refl _) ok h2⟩)
  | @lst p vs ds e1 r1 =>
    obtain ⟨y, h1, h2⟩ := Reps.atI r1 e
    exact .inl ⟨p, vs, k, y, rfl, rfl, .inl (.inl (ok.fok.sub _ _ e1)), h1, q w y H (.refl _) ok h2⟩
  | @scr p vs ds e1 r1 =>
    obtain ⟨y, h1, h2⟩ := Reps.atI r1 e
    exact .inl ⟨p, vs, k, y, rfl, rfl, hK ▸ SqL.le e1 ok.fok.sub, h1, q w y H (.refl _) ok h2⟩
  | str l =>
    have e : (if l.length ≤ 16777216 then (L2.atI l k).map fun c => D.str [c] else none) = some z := e
    split at e
    · rename_i hl
      cases e3 : L2.atI l k with
      | none => simp [e3] at e
      | some c =>
        simp only [e3, Option.map_some, Option.some.injEq] at e
        subst e
        refine .inr (.inr ⟨nm l, k, c, rfl, rfl, by rw [nm_len, sizeLine_eq]; exact hl, by simpa [nm] using e3, ?_⟩)
        exact q w _ H (.refl _) ok (.str [c])
    · cases e
  | _ => cases e
theorem pd_ixO (hK : G.K = X.K) {i : Nat} {x : Str} {p pos : Pos} {b : Expr} {fb : DE} (ho : PE X (.Name x p) (tVar i)) (hb : PD G W X b fb) (hs : PlainIx b) : PD G W X (.Subscript (.Name x p) b pos) (eIxO i fb) :=
  (pe_ix ix_seq ho hb hs).imp fun σ H Q ⟨κ, w, s, ok, q⟩ => by
    unfold eIxO at q
    cases e : s.sl[i]? with
    | none => rw [e] at q; exact q.elim
    | some y =>
      rw [e] at q
      cases y with
      | ol xs0 =>
        obtain ⟨a, vs, h1, h2, h3⟩ := own_list ok e
        refine ⟨.ref a, h1, κ, w, s, ok, (PostG.bind q).imp fun v2 H2 ⟨d2, s2, w2, le2, ok2, r2, q2⟩ => ?_⟩
        cases r2 with
        | int k =>
          cases e1 : s2.sl[i]? with
          | none => rw [e1] at q2; exact q2.elim
          | some z =>
            rw [e1] at q2
            cases z with
            | ol xs =>
              replace q2 : PostG G W (Rep G) κ w2 σ (match L2.atI xs k with | some d => .ok d s2 | none => .stuck) Q := q2
              obtain ⟨a', vs', g1, g2, g3⟩ := own_list ok2 e1
              rw [h1] at g1
              cases g1
              cases e2 : L2.atI xs k with
              | none => rw [e2] at q2; exact q2.elim
              | some d =>
                rw [e2] at q2
                obtain ⟨y, h1, h2⟩ := Reps.atI g3 e2
                exact .inl ⟨a, vs', k, y, rfl, rfl, .inl (.inl g2), h1, q2 w2 y H2 (.refl _) ok2 h2⟩
            | _ => exact q2.elim
        | _ => exact q2.elim
      | val dx =>
        obtain ⟨v, h1, r1⟩ := ok.val i dx e
        refine ⟨v, h1, κ, w, s, ok, (PostG.bind q).imp fun v2 H2 ⟨d2, s2, w2, le2, ok2, r2, q2⟩ => ?_⟩
        cases r2 with
        | int k =>
          replace q2 : PostG G W (Rep G) κ w2 σ (match ixD dx k with | some d => .ok d s2 | none => .stuck) Q := q2
          cases e2 : ixD dx k with
          | none => rw [e2] at q2; exact q2.elim
          | some z => rw [e2] at q2; exact ix_run hK ok2 (r1.mono le2) e2 q2
        | _ => exact q2.elim
      | _ => exact q.elim
/-- truth -/
def eTruO (i : Nat) : DT := fun s => match s.sl[i]? with
  | some (.ol xs) => .ok (!xs.isEmpty) s
  | some (.val d) => (match truD d with | some b => .ok b s | none => .stuck)
  | _ => .stuck
theorem ptd_truO (hK : G.K = X.K) {i : Nat} {x : Str} {p : Pos} (ho : PE X (.Name x p) (tVar i)) (he : ∀ whole, isTrue (.Name x p) X.env whole = (do let v ← whole; standAt (Expr.pos (.Name x p)); holding [v] (truthy v)) := by intro _; rfl) : PDT G W X (.Name x p) (eTruO i) :=
  (pt_truth ho he).imp fun σ H Q ⟨κ, w, s, ok, q⟩ => by
    unfold eTruO at q
    cases e : s.sl[i]? with
    | none => rw [e] at q; exact q.elim
    | some y =>
      rw [e] at q
      cases y with
      | ol xs =>
        obtain ⟨a, vs, h1, h2, h3⟩ := own_list ok e
        refine ⟨.ref a, h1, !xs.isEmpty, ?_, q w _ H (.refl _) ok rfl⟩
        exact .inl ⟨vs, .inl (.inl h2), by rw [h3.isEmpty]⟩
      | val d =>
        obtain ⟨v, h1, r1⟩ := ok.val i d e
        replace q : PostG G W (fun _ (v : Bool) d => v = d) κ w σ (match truD d with | some b => .ok b s | none => .stuck) Q := q
        cases e1 : truD d with
        | none => rw [e1] at q; exact q.elim
        | some k => rw [e1] at q; exact ⟨v, h1, k, truV_of hK ok r1 e1, q w k H (.refl _) ok rfl⟩
      | _ => exact q.elim
/-- x[i] = v -/
def sIxO (i : Nat) (fi fv : DE) : DStm := fun s => (fv s).bind fun d s1 => match s1.sl[i]? with
  | some (.ol _) => (fi s1).bind fun y s2 => match y, s2.sl[i]? with
    | .int k, some (.ol xs) => (match ixN xs.length k with | some j => .ok .nx ⟨s2.sl.set i (.ol (xs.set j d)), s2.st⟩ | none => .stuck)
    | _, _ => .stuck
  | _ => .stuck
theorem pds_ixO {i : Nat} {x : Str} {p tp pos : Pos} {b e : Expr} {fi fv : DE} (ho : PE X (.Name x p) (tVar i)) (hb : PD G WF X b fi) (he : PD G W X e fv) (hs : swapsWithSole [.Subscript (.Name x p) b tp] e pos.line X.env = pure false := by rfl) (hw : swappedStores [.Subscript (.Name x p) b tp] e X.env = pure none := by rfl)
    (h1 : (assignEach [.Subscript (.Name x p) b tp] X.env).map (·.2) = [assign (.Subscript (.Name x p) b tp) X.env] := by rfl)
    (ha : ∀ v, assign (.Subscript (.Name x p) b tp) X.env v = (do
      let ov ← holding [v] (eval (.Name x p) X.env)
      let iv ← holding [v, ov] (eval b X.env)
      standAt tp
      holding [v, ov, iv] (setItem ov iv v)
      release [v, ov, iv] []) := by intro _; rfl) (hcol : ∀ (s : DS), (∀ x s', fi s ≠ .exc x s')) : PDS G W X (.Assign [.Subscript (.Name x p) b tp] e pos) (sIxO i fi fv) :=
  (ps_asg he (pg_sub ho hb set_list ha) hs hw h1).imp fun N σ H ⟨κ, w, s, ok, q⟩ => ⟨κ, w, s, ok, (PostG.bindS q).imp fun v H1 ⟨d, s1, w1, le, ok1, r1, q1⟩ => by
    cases e : s1.sl[i]? with
    | none => rw [e] at q1; exact q1.elim
    | some y =>
      rw [e] at q1
      cases y with
      | ol xs0 =>
        obtain ⟨a, vs, h1, h2, h3⟩ := own_list ok1 e
        replace q1 : PostS G W κ w1 ((fi s1).bind fun y s2 => match y, s2.sl[i]? with
          | .int k, some (.ol xs) => (match ixN xs.length k with | some j => .ok .nx ⟨s2.sl.set i (.ol (xs.set j d)), s2.st⟩ | none => .stuck)
          | _, _ => .stuck) N := q1
        refine ⟨.ref a, h1, κ, w1, s1, ok1, ?_⟩
        cases ef : fi s1 with
        | stuck => rw [ef] at q1; exact q1.elim
        | exc z s' => exact absurd ef (hcol s1 z s')
        | ok d2 s2 =>
          rw [ef] at q1
          intro w2 v2 H2 le2 ok2 r2
          cases r2 with
          | int k =>
            cases e1 : s2.sl[i]? with
            | none => simp [e1] at q1; exact q1.elim
            | some z =>
              cases z with
              | ol xs =>
                simp only [Res.bind_ok, e1] at q1
                obtain ⟨a', vs', g1, g2, g3⟩ := own_list ok2 e1
                rw [h1] at g1
                cases g1
                cases e2 : ixN xs.length k with
                | none => rw [e2] at q1; exact q1.elim
                | some j =>
                  rw [e2] at q1
                  refine ⟨a, vs', k, j, rfl, rfl, g2, by rw [g3.length]; exact e2, ?_⟩
                  exact q1 w2 σ _ le2 (ok2.mut e1 rfl rfl h1 ⟨_, upd_same, Reps.set (r1.mono le2) j g3⟩ fun _ _ z => nomatch z)
              | _ => simp only [Res.bind_ok, e1] at q1; exact q1.elim
          | _ => simp only [Res.bind_ok] at q1; exact q1.elim
      | _ => exact q1.elim⟩
/-! ### len of an own list -/
def eLenO (i : Nat) : DE := fun s => match s.sl[i]? with
  | some (.ol xs) => .ok (.int xs.length) s
  | some (.val d) => (match bLen [d] with | some r => .ok r s | none => .stuck)
  | _ => .stuck
/-! ### a property -/
def eProp (c : String) (g : DFn) (f : DE) : DE := fun s => (f s).bind fun d s1 => match insOf d s1 with
  | some (c1, _) => if c1 = c then noX (lift s1 (g [d] s1.st)) else .stuck
  | none => .stuck
theorem pd_prop {c : String} {C p gf : Addr} {k : Nat} {fd : FuncData} {ps : List Str} {g : DFn} {e : Expr} {fe : DE} {f : Str} {pos : Pos} (hC : G.ct c = some C) (hcl : Cls X.K C) (hp : PropOf X.K C f p gf) (F : FnOk X.prog X.w X.K X.mg X.base (L2.CX X.prog X.w) k gf fd ps (spG G 1 g)) (hr : Room (k + 1) X.A) (hb : Binds X.K fd ps [])
    (he : PD G W X e fe) (hab : attributeBase e f X.env (eval e X.env) = eval e X.env := by rfl) : PD G W X (.Attribute e f pos) (eProp c g fe) :=
  (pe_prop (E := fun _ _ _ => False) he hcl hp F hr hb .nil (passes_call takes0 fun _ _ _ _ z => z) hab).imp fun σ H Q ⟨κ, w, s, ok, q⟩ => ⟨κ, w, s, ok, (PostG.bind q).imp fun v H1 ⟨d, s1, w1, le, ok1, r1, q1⟩ => by
    cases e1 : insOf d s1 with
    | none => rw [e1] at q1; exact q1.elim
    | some cf =>
      obtain ⟨c1, fs⟩ := cf
      rw [e1] at q1
      replace q1 : PostG G W (Rep G) κ w1 σ (if c1 = c then noX (lift s1 (g [d] s1.st)) else .stuck) Q := q1
      by_cases hc : c1 = c
      · rw [if_pos hc] at q1
        subst hc
        obtain ⟨a, C', dx, vs, rfl, hC', hH, _⟩ := r1.ins_of ok1 e1
        rw [hC] at hC'
        cases hC'
        refine ⟨a, dx, vs, rfl, hH, rfl, w1, s1.st, [d], ok1.fok, .cons r1 .nil, ?_⟩
        cases eg : g [d] s1.st with
        | stuck => rw [eg] at q1; exact q1.elim
        | exc x S => rw [eg] at q1; exact q1.elim
        | ok d' S => rw [eg] at q1; exact fun w' v H' n fk r => q1 w' v H' n.le (ok1.step n fk) r
      · rw [if_neg hc] at q1
        exact q1.elim⟩
/-! ### constants of the module: texts, numbers, tuples of them -/
def repK (K : PySem.W.Frag) : Nat → Value → D → Bool
  | 0, _, _ => false
  | n + 1, v, d => match v, d with
    | .none, .non => true
    | .bool b, .bl c => b == c
    | .int i _, .int j => i == j
    | .str x _, .str l => x == nm l
    | .ref a, .tup ds => match K.lookup a with
      | some o => o.cls == .type "tuple" && (match o.data with
        | .seq its _ => decide (its.size ≤ 1000) && go n its.toList ds
        | _ => false)
      | none => false
    | _, _ => false
where
  go (n : Nat) : List Value → List D → Bool
  | [], [] => true
  | v :: vs, d :: ds => repK K n v d && go n vs ds
  | _, _ => false
theorem repK_ok {K : PySem.W.Frag} (hK : G.K = K) : ∀ (n : Nat) (v : Value) (d : D), repK K n v d = true → ∃ x, RelV x v ∧ ∀ w, Rep G w x d := by
  intro n
  induction n with
  | zero => intro v d h; simp [repK] at h
  | succ n ih =>
    have goes : ∀ (vs : List Value) (ds : List D), repK.go K n vs ds = true → ∃ xs, Vals xs vs ∧ ∀ w, Reps G w xs ds := by
      intro vs
      induction vs with
      | nil =>
        intro ds h
        cases ds with
        | nil => exact ⟨[], .nil, fun _ => .nil⟩
        | cons _ _ => cases h
      | cons v vs ihv =>
        intro ds h
        cases ds with
        | nil => cases h
        | cons d ds =>
          simp only [repK.go, Bool.and_eq_true] at h
          obtain ⟨x, r1, r2⟩ := ih v d h.1
          obtain ⟨xs, r3, r4⟩ := ihv ds h.2
          exact ⟨x :: xs, .cons r1 r3, fun w => .cons (r2 w) (r4 w)⟩
    intro v d h
    unfold repK at h
    split at h
    · exact ⟨.non, rfl, fun _ => .non⟩
    · rw [beq_iff_eq] at h; subst h; exact ⟨.bl _, rfl, fun _ => .bl _⟩
    · rw [beq_iff_eq] at h; subst h; exact ⟨.int _, ⟨_, rfl⟩, fun _ => .int _⟩
    · rw [beq_iff_eq] at h; subst h; exact ⟨.str _, ⟨_, rfl⟩, fun _ => .str _⟩
    · split at h
      · rename_i o ho
        rw [Bool.and_eq_true, beq_iff_eq] at h
        obtain ⟨h1, h2⟩ := h
        split at h2
        · rename_i its m hd
          rw [Bool.and_eq_true, decide_eq_true_eq] at h2
          obtain ⟨xs, r3, r4⟩ := goes _ _ h2.2
          refine ⟨.ref _, rfl, fun w => .tup (.inr ⟨o, its, m, by rw [hK]; exact ho, h1, hd, by rw [sizeLine_eq]; omega, r3⟩) (r4 w)⟩
        · cases h2
      · cases h
    · cases h
theorem pd_const {x : Str} {v : Value} {d : D} {pos : Pos} (hg : Gl X x) (hm : X.mg x = some v) (hr : ∃ y, RelV y v ∧ ∀ w, Rep G w y d) (hd : (x == ("__debug__" : Str)) = false := by decide) : PD G W X (.Name x pos) (eC d) := by
  obtain ⟨y, r1, r2⟩ := hr
  exact pd_glob hg hm r1 r2 hd
/-! ### text.index(text) -/
def eSix (fo : DE) (fa : DA) : DE := fun s => (fo s).bind fun x s1 => match x with
  | .str a => (fa s1).bind fun ds s2 => match ds with
    | [.str b] => (match Txt.index0 (nm a) (nm b) with | some k => .ok (.int (k : Nat)) s2 | none => .stuck)
    | _ => .stuck
  | _ => .stuck
theorem pd_six {oe e : Expr} {fo : DE} {fa : DA} {apos cpos : Pos} (hc : X.calm = true) (tk : Takes X W) (ho : PD G W X oe fo) (ha : PDA G W X [e] fa)
    (hbase : attributeBase oe "index" X.env (eval oe X.env) = eval oe X.env := by rfl)
    (hfew : ((backTo cpos (starEach [e] X.env)).all (fun x => !x.1) && (backToKw cpos (keywordEach [] X.env)).all (fun x => x.1.isSome)
      && decide ([e].length + ([] : List Keyword).length + (if ([] : List Keyword).isEmpty then 0 else 1) < 30)) = true := by rfl)
    (hline : (apos.endLine == cpos.line) = true := by rfl) (hs : starEach [e] X.env = (false, eval e X.env) :: starEach [] X.env := by rfl) (hplain : (backTo cpos (starEach [] X.env)).any (·.1) = false := by rfl) :
    PD G W X (.Call (.Attribute oe "index" apos) [e] [] cpos) (eSix fo fa) :=
  (pe_bmS PySem.F.plainAttrs_str PySem.F.slot_str_index PySem.F.type_str_index (mt_indexX hc tk) ho ha hbase hfew hline hs hplain).imp fun σ H Q ⟨κ, w, s, ok, q⟩ => ⟨κ, w, s, ok, (PostG.bind q).imp fun v H1 ⟨d, s1, w1, le, ok1, r1, q1⟩ => by
    cases r1 with
    | str a =>
      refine ⟨rfl, κ, w1, s1, ok1, (PostG.bind q1).imp fun vs H2 ⟨ds, s2, w2, le2, ok2, r2, q2⟩ => ?_⟩
      match ds, q2 with
      | [.str b], q2 =>
        cases r2 with
        | cons r2 r3 =>
        cases r3
        cases r2
        replace q2 : PostG G W (Rep G) κ w2 σ (match Txt.index0 (nm a) (nm b) with | some k => .ok (.int (k : Nat)) s2 | none => .stuck) Q := q2
        cases e : Txt.index0 (nm a) (nm b) with
        | none => rw [e] at q2; exact q2.elim
        | some k =>
          rw [e] at q2
          refine ⟨nm a, nm b, rfl, rfl, fun k' hk => ?_, fun hn => ?_⟩
          · rw [e] at hk; cases hk; exact q2 w2 _ H2 (.refl _) ok2 (.int _)
          · rw [e] at hn; cases hn
      | [], q2 => exact q2.elim
      | x :: _ :: _, q2 => cases x <;> exact q2.elim
      | [.non], q2 => exact q2.elim
      | [.bl _], q2 => exact q2.elim
      | [.int _], q2 => exact q2.elim
      | [.tup _], q2 => exact q2.elim
      | [.lst _], q2 => exact q2.elim
      | [.scr _], q2 => exact q2.elim
      | [.dic _], q2 => exact q2.elim
      | [.ins _ _], q2 => exact q2.elim
      | [.cell _], q2 => exact q2.elim
      | [.cls _], q2 => exact q2.elim
      | [.ty _], q2 => exact q2.elim
      | [.fn _], q2 => exact q2.elim
      | [.lam _], q2 => exact q2.elim
    | _ => exact q1.elim⟩
/-! ### a < b < c as a test -/
theorem ptd_chain {op op' : CmpOp} {o o' : D → D → Option D} {a b c : Expr} {fa fb fc : DE} {pos : Pos} (ho : OpD G X (compareOp op) o) (ho' : OpD G X (compareOp op') o') (ha : PD G W X a fa) (hb : PD G W X b fb) (hc : PD G W X c fc)
    (hp : ∀ {r r' : R2} {ta tb tc : TE}, OpR X (compareOp op) r → OpR X (compareOp op') r' → PE X a ta → PE X b tb → PE X c tc → PT X (.Compare a [op, op'] [b, c] pos) (tTest (tChain r r' ta tb tc))) : PDT G W X (.Compare a [op, op'] [b, c] pos) (eB (eChain o o' fa fb fc)) := by
  obtain ⟨r, h1, h2⟩ := ho
  obtain ⟨r', h1', h2'⟩ := ho'
  refine (hp h1 h1' ha hb hc).imp fun σ H Q h => ?_
  obtain ⟨κ, w, s, ok, q⟩ := tB_of h
  refine ⟨κ, w, s, ok, (PostG.bind q).imp fun v H1 ⟨d, s1, w1, le, ok1, r1, q1⟩ => ⟨κ, w1, s1, ok1, (PostG.bind q1).imp fun v2 H2 ⟨d2, s2, w2, le2, ok2, r2, q2⟩ => ?_⟩⟩
  cases e : o d d2 with
  | none => rw [e] at q2; exact q2.elim
  | some z =>
    rw [e] at q2
    refine h2 κ w2 s2 σ H2 v v2 d d2 z _ ok2 (r1.mono le2) r2 e fun w3 v3 H3 l3 o3 r3 => ?_
    cases r3 with
    | bl k =>
      refine ⟨k, rfl, ?_⟩
      cases k with
      | false => exact q2 w3 _ H3 l3 o3 (.bl false)
      | true =>
        refine ⟨κ, w3, s2, o3, (PostG.bind (PostG.mono l3 q2)).imp fun v4 H4 ⟨d4, s4, w4, le4, ok4, r4, q4⟩ => ?_⟩
        cases e' : o' d2 d4 with
        | none => rw [e'] at q4; exact q4.elim
        | some z' => rw [e'] at q4; exact h2' κ w4 s4 σ H4 v2 v4 d2 d4 z' _ ok4 ((r2.mono l3).mono le4) r4 e' q4
    | _ => exact q2.elim
/-! ### readings that raise nothing -/
theorem nx_c (d : D) : ∀ (s : DS), (∀ x s', eC d s ≠ .exc x s') := fun s x s' h => nomatch h
theorem nx_var (i : Nat) : ∀ (s : DS), (∀ x s', eVar i s ≠ .exc x s') := fun s x s' h => by
  unfold eVar at h
  split at h <;> cases h
theorem nx_neg {f : DE} (k : ∀ (s : DS), (∀ x s', f s ≠ .exc x s')) : ∀ (s : DS), (∀ x s', eNeg f s ≠ .exc x s') := fun s x s' h => by
  unfold eNeg at h
  cases e : f s with
  | stuck => rw [e] at h; cases h
  | exc z t => exact k s z t e
  | ok d t =>
    rw [e] at h
    simp only [Res.bind_ok] at h
    split at h <;> cases h
theorem nx_op2 {o : D → D → Option D} {f g : DE} (k : ∀ (s : DS), (∀ x s', f s ≠ .exc x s')) (l : ∀ (s : DS), (∀ x s', g s ≠ .exc x s')) : ∀ (s : DS), (∀ x s', eOp2 o f g s ≠ .exc x s') := fun s x s' h => by
  unfold eOp2 at h
  cases e : f s with
  | stuck => rw [e] at h; cases h
  | exc z t => exact k s z t e
  | ok d t =>
    rw [e] at h
    simp only [Res.bind_ok] at h
    cases e2 : g t with
    | stuck => rw [e2] at h; cases h
    | exc z t' => exact l t z t' e2
    | ok d' t' =>
      rw [e2] at h
      simp only [Res.bind_ok] at h
      split at h <;> cases h
/-! ### an own slot is given away -/
def eFz (i : Nat) (f : DE) : DE := fun s => match s.sl[i]? with
  | some (.ol xs) => f ⟨s.sl.set i (.val (.lst xs)), s.st⟩
  | some (.od kvs) => f ⟨s.sl.set i (.val (.dic kvs)), s.st⟩
  | some (.oi c fs) => f ⟨s.sl.set i (.val (.ins c fs)), s.st⟩
  | _ => f s
theorem pd_fz {i : Nat} {e : Expr} {f : DE} (h : PD G W X e f) : PD G W X e (eFz i f) := h.imp fun σ H Q ⟨κ, w, s, ok, q⟩ => by
  unfold eFz at q
  split at q
  · rename_i xs e
    obtain ⟨a, h1, ⟨vs, h2, h3⟩, _⟩ := ok.own i _ e rfl
    obtain ⟨le, ok'⟩ := ok.freeze (d := .lst xs) e rfl h1 h2 fun w' l f => .lst f (h3.mono l)
    exact ⟨κ, _, _, ok', PostG.mono le q⟩
  · rename_i xs e
    obtain ⟨a, h1, ⟨vs, h2, h3⟩, _⟩ := ok.own i _ e rfl
    obtain ⟨le, ok'⟩ := ok.freeze (d := .dic xs) e rfl h1 h2 fun w' l f => .dic f (h3.mono l)
    exact ⟨κ, _, _, ok', PostG.mono le q⟩
  · rename_i c fs e
    obtain ⟨a, h1, ⟨C, dx, vs, hC, h2, h3⟩, _⟩ := ok.own i _ e rfl
    obtain ⟨le, ok'⟩ := ok.freeze (d := .ins c fs) e rfl h1 h2 fun w' l f => .ins hC f (h3.mono l)
    exact ⟨κ, _, _, ok', PostG.mono le q⟩
  · exact ⟨κ, w, s, ok, q⟩
/-! ### isinstance(x, (A, B)) -/
/-- all items are classes -/
def clsD : D → Bool
  | .ty _ => true
  | .cls _ => true
  | _ => false
def isAny (cs : List String) (t : String ⊕ String) : List D → Option Bool
  | [] => some false
  | c :: r => match isOne cs t c with
    | some true => some true
    | some false => isAny cs t r
    | none => none
def eIsT (cs : List String) (fe : DE) (fa : DA) : DE := fun s => (fe s).bind fun d s1 => (fa s1).bind fun ts s2 => if ts.length ≤ 1000 ∧ ts.all clsD = true then match (tyOfD cs d).bind fun t => isAny cs t ts with
  | some b => .ok (.bl b) s2
  | none => .stuck
  else .stuck
theorem isOne_kit (hK : G.K = X.K) {cs : List String} (I : IsOk G cs) {w : Wd} {t : String ⊕ String} {tv : Value} {c : D} {v : V} {b : Bool} (ht : match t with | .inl a => tv = .type a ∧ a ∈ tyNames | .inr c => c ∈ cs ∧ ∃ C, G.ct c = some C ∧ tv = .ref C) (r : Rep G w v c) (e : isOne cs t c = some b) : ∃ u, ClsV v u ∧ PySem.W.kitOne X.K tv u = some b := by
  cases t with
  | inl a =>
    obtain ⟨rfl, ha⟩ := ht
    cases r with
    | ty n =>
      have e : (if a ∈ tyNames ∧ n ∈ tyNames then some (isTy a n) else none) = some b := e
      split at e
      · rename_i h
        cases e
        exact ⟨_, .ty n, kit_ty (isTy_ok a h.1 n h.2)⟩
      · cases e
    | @cls C n hC =>
      have e : (if a ∈ tyNames ∧ n ∈ cs then some false else none) = some b := e
      split at e
      · rename_i h
        cases e
        exact ⟨_, .own C, hK ▸ (I.bo n h.2 C hC a h.1).2⟩
      · cases e
    | _ => exact nomatch e
  | inr a =>
    obtain ⟨ha, C', hC', rfl⟩ := ht
    cases r with
    | ty n =>
      have e : (if n ∈ tyNames then some false else none) = some b := e
      split at e
      · rename_i h
        cases e
        exact ⟨_, .ty n, hK ▸ (I.bo a ha C' hC' n h).1⟩
      · cases e
    | @cls C n hC =>
      have e : (if n ∈ cs then some (a == n) else none) = some b := e
      split at e
      · rename_i h
        cases e
        exact ⟨_, .own C, hK ▸ I.oo a ha n h C' C hC' hC⟩
      · cases e
    | _ => exact nomatch e
/-- a class value and its object -/
def clsOf : V → Value
  | .ty n => .type n
  | .ref C => .ref C
  | _ => .none
theorem isAny_kit (hK : G.K = X.K) {cs : List String} (I : IsOk G cs) {w : Wd} {t : String ⊕ String} {tv : Value} (ht : match t with | .inl a => tv = .type a ∧ a ∈ tyNames | .inr c => c ∈ cs ∧ ∃ C, G.ct c = some C ∧ tv = .ref C) : ∀ {vs : List V} {ds : List D} {b : Bool}, Reps G w vs ds → ds.all clsD = true → isAny cs t ds = some b → ∃ us, Paired ClsV vs us ∧ PySem.W.kitAny X.K tv us = some b
  | _, _, _, .nil, _, e => by cases e; exact ⟨[], .nil, kitAny_nil⟩
  | _, _, b, .cons (v := v) (d := c) (vs := vs) (ds := ds) r rs, hc, e => by
    rw [List.all_cons, Bool.and_eq_true] at hc
    have rest : ∃ us, Paired ClsV vs us := by
      clear e
      have : ∀ {vs : List V} {ds : List D}, Reps G w vs ds → ds.all clsD = true → ∃ us, Paired ClsV vs us := fun {vs ds} r h => by
        induction ds generalizing vs with
        | nil => cases r; exact ⟨[], .nil⟩
        | cons d ds ih =>
          cases r with
          | cons a b =>
            rw [List.all_cons, Bool.and_eq_true] at h
            obtain ⟨us, hu⟩ := ih b h.2
            cases a with
            | ty n => exact ⟨_, .cons (.ty n) hu⟩
            | @cls C n hC => exact ⟨_, .cons (.own C) hu⟩
            | _ => exact nomatch h.1
      exact this rs hc.2
    simp only [isAny] at e
    split at e
    · rename_i e1
      cases e
      obtain ⟨u, h1, h2⟩ := isOne_kit hK I ht r e1
      obtain ⟨us, hu⟩ := rest
      exact ⟨u :: us, .cons h1 hu, kitAny_cons h2 (fun z => nomatch z) fun _ => rfl⟩
    · rename_i e1
      obtain ⟨u, h1, h2⟩ := isOne_kit hK I ht r e1
      obtain ⟨us, hu, hk⟩ := isAny_kit hK I ht rs hc.2 e
      exact ⟨u :: us, .cons h1 hu, kitAny_cons h2 (fun _ => hk) fun z => nomatch z⟩
    · cases e
theorem pd_isT (hK : G.K = X.K) {cs : List String} (I : IsOk G cs) {x : Str} {p pos pos2 : Pos} {k : Nat} {e : Expr} {es : List Expr} {fe : DE} {fa : DA} (hg : Gl X x) (hm : X.mg x = none) (hv : bootBuiltins x = some (.builtin "isinstance")) (he : PD G W X e fe) (hes : PDA G W X es fa) (hn : x ≠ "__name__" := by decide)
    (hdb : (x == ("__debug__" : Str)) = false := by decide) (h1 : starEach (e :: [Expr.Tuple es k pos2]) X.env = (false, eval e X.env) :: starEach [Expr.Tuple es k pos2] X.env := by rfl) (h2 : starEach [Expr.Tuple es k pos2] X.env = (false, eval (.Tuple es k pos2) X.env) :: starEach [] X.env := by rfl)
    (hpl : (backTo pos (starEach [Expr.Tuple es k pos2] X.env)).any (·.1) = false := by rfl) : PD G W X (.Call (.Name x p) [e, .Tuple es k pos2] [] pos) (eIsT cs fe fa) :=
  (pe_callB call_isiT hg hm hv (pa_cons he (pa_cons (pe_tup hes) pa_nil h2) h1) hn hdb h1 hpl).imp fun σ H Q ⟨κ, w, s, ok, q⟩ => ⟨κ, w, s, ok, (PostG.bind q).imp fun v H1 ⟨d, s1, w1, le, ok1, r1, q1⟩ =>
    ⟨κ, w1, s1, ok1, (PostG.bind q1).imp fun vs H2 ⟨ts, s2, w2, le2, ok2, r2, q2⟩ => by
      by_cases c : ts.length ≤ 1000 ∧ ts.all clsD = true
      · rw [if_pos c] at q2
        refine ⟨by rw [r2.length]; exact sz1000 c.1, fun p hp => ?_⟩
        obtain ⟨le3, ok3⟩ := ok2.alloc hp (.tup vs)
        cases e1 : tyOfD cs d with
        | none => rw [e1] at q2; exact q2.elim
        | some t =>
          rw [e1] at q2
          obtain ⟨tv, ty, ht⟩ := tyX_of hK I ok3 ((r1.mono le2).mono le3) e1
          cases e2 : isAny cs t ts with
          | none => simp only [Option.bind_some, e2] at q2; exact q2.elim
          | some b =>
            simp only [Option.bind_some, e2] at q2
            obtain ⟨us, hu, hk⟩ := isAny_kit hK I (t := t) (tv := tv) (by cases t <;> exact ht) (r2.mono le3) c.2 e2
            exact ⟨v, p, vs, tv, us, b, rfl, upd_same, hu, ty, hk, q2 _ _ _ le3 ok3 (.bl b)⟩
      · rw [if_neg c] at q2
        exact q2.elim⟩⟩
/-! ### x != [] of an own list -/
def eNeO (i : Nat) : DT := fun s => match s.sl[i]? with
  | some (.ol xs) => (match dNe (.lst xs) (.lst []) with | some (.bl b) => .ok b s | _ => .stuck)
  | some (.val d) => (match dNe d (.lst []) with | some (.bl b) => .ok b s | _ => .stuck)
  | _ => .stuck
theorem dNe_parts {x y : D} {b : Bool} (e : dNe x y = some (.bl b)) : ∃ p q, toPy x = some p ∧ toPy y = some q ∧ SeqAt.shaped p = true ∧ SeqAt.shaped q = true ∧ b = !PyData.eqv p q := by
  unfold dNe at e
  cases e1 : toPy x with
  | none => simp [e1] at e
  | some p =>
    cases e2 : toPy y with
    | none => simp [e1, e2] at e
    | some p' =>
      simp only [e1, e2] at e
      split at e
      · rename_i c
        cases e
        rw [Bool.and_eq_true] at c
        exact ⟨p, p', rfl, rfl, c.1, c.2, rfl⟩
      · cases e
theorem ptd_neO (hK : G.K = X.K) (hu : X.A.units + 64 < cLine) {i : Nat} {x : Str} {p pos pos2 : Pos} (ho : PE X (.Name x p) (tVar i)) : PDT G W X (.Compare (.Name x p) [.NotEq] [.List [] pos2] pos) (eNeO i) :=
  (pt_cmpR (op_neD hu) ho (pe_lst pa_nil) (nomark _)).imp fun σ H Q ⟨κ, w, s, ok, q⟩ => by
    unfold eNeO at q
    cases e : s.sl[i]? with
    | none => rw [e] at q; exact q.elim
    | some y =>
      rw [e] at q
      cases y with
      | ol xs =>
        replace q : PostG G W (fun _ (v : Bool) d => v = d) κ w σ (match dNe (.lst xs) (.lst []) with | some (.bl b) => .ok b s | _ => .stuck) Q := q
        obtain ⟨a, vs, h1, h2, h3⟩ := own_list ok e
        refine ⟨.ref a, h1, by decide, fun p hp => ?_⟩
        split at q
        · rename_i b e1
          obtain ⟨p1, p2, t1, t2, c1, c2, rfl⟩ := dNe_parts e1
          obtain ⟨le2, ok2⟩ := ok.alloc hp (.lst [])
          obtain ⟨a', h1', ⟨vs', h2', h3'⟩, _⟩ := ok2.own i _ e rfl
          obtain ⟨le3, ok3⟩ := ok2.freeze (d := .lst xs) e rfl h1' h2' fun w' l f => .lst f (h3'.mono l)
          rw [h1] at h1'
          cases h1'
          have r1 : Dp X.K _ (.ref a) p1 := Rep.py hK ok3 (.lst upd_same (h3'.mono le3)) t1
          have r2 : Dp X.K _ (.ref p) p2 := Rep.py hK ok2 (.lst upd_same .nil) t2
          exact ⟨p1, p2, r1, r2, c1, c2, _, rfl, q _ _ _ le2 ok2 rfl⟩
        · exact q.elim
      | val d =>
        replace q : PostG G W (fun _ (v : Bool) d => v = d) κ w σ (match dNe d (.lst []) with | some (.bl b) => .ok b s | _ => .stuck) Q := q
        obtain ⟨v, h1, r1⟩ := ok.val i d e
        refine ⟨v, h1, by decide, fun p hp => ?_⟩
        split at q
        · rename_i b e1
          obtain ⟨p1, p2, t1, t2, c1, c2, rfl⟩ := dNe_parts e1
          obtain ⟨le2, ok2⟩ := ok.alloc hp (.lst [])
          have r2 : Dp X.K _ (.ref p) p2 := Rep.py hK ok2 (.lst upd_same .nil) t2
          exact ⟨p1, p2, Rep.py hK ok2 (r1.mono le2) t1, r2, c1, c2, _, rfl, q _ _ _ le2 ok2 rfl⟩
        · exact q.elim
      | _ => exact q.elim
end
end DL
set_option maxRecDepth 100000
set_option maxHeartbeats 4000000
set_option autoImplicit false
namespace DL
open PySem PySem.Spec PyProof.Rows L2
section
variable {G : Gam} {W : WX} {X : Cx}
/-! ### a, b, c = [], [], x with lists of one's own -/
def sPar3O (i j l : Nat) (f1 f2 : DA) (f3 : DE) : DStm := fun s => match f1 s with
  | .ok xs s1 => match f2 s1 with
    | .ok ys s2 => match f3 s2 with
      | .ok d s3 => .ok .nx ⟨((s3.sl.set i (.ol xs)).set j (.ol ys)).set l (.val d), s3.st⟩
      | _ => .stuck
    | _ => .stuck
  | _ => .stuck
theorem pds_par3O {i j l : Nat} {x y z : Str} {a b c : Expr} {f1 f2 : DA} {f3 : DE} {px py pz pt pos : Pos} {kt k2 : Nat} {pt2 : Pos} (hc : X.calm = true) (hN : X.N.Nodup) (hi : X.N[i]? = some x) (hj : X.N[j]? = some y) (hl : X.N[l]? = some z) (hij : i ≠ j) (hil : i ≠ l) (hjl : j ≠ l)
    (hx : X.env.scope.names.lookup x = some .local) (hy : X.env.scope.names.lookup y = some .local) (hz : X.env.scope.names.lookup z = some .local) (ha : PDo G W X a f1) (hb : PDo G W X b f2) (hd : PD G W X c f3)
    (hw : swappedStores [.Tuple [.Name x px, .Name y py, .Name z pz] kt pt] (.Tuple [a, b, c] k2 pt2) X.env = pure (some [x, y, z]))
    (hs : swapsWithSole [.Tuple [.Name x px, .Name y py, .Name z pz] kt pt] (.Tuple [a, b, c] k2 pt2) pos.line X.env = pure false := by rfl)
    (s1 : starEach [a, b, c] X.env = (false, eval a X.env) :: starEach [b, c] X.env := by rfl) (s2 : starEach [b, c] X.env = (false, eval b X.env) :: starEach [c] X.env := by rfl) (s3 : starEach [c] X.env = (false, eval c X.env) :: starEach [] X.env := by rfl) :
    PDS G W X (.Assign [.Tuple [.Name x px, .Name y py, .Name z pz] kt pt] (.Tuple [a, b, c] k2 pt2) pos) (sPar3O i j l f1 f2 f3) :=
  (ps_par3 hc hN hi hj hl hij hil hjl hx hy hz (pa_cons ha (pa_cons hb (pa_cons hd pa_nil s3) s2) s1) hw hs).imp fun N σ H ⟨κ, w, s, ok, q⟩ => by
    unfold sPar3O at q
    cases e1 : f1 s with
    | stuck => rw [e1] at q; exact q.elim
    | exc x s' => rw [e1] at q; exact q.elim
    | ok xs s1 =>
      rw [e1] at q
      simp only at q
      refine ⟨κ, w, s, ok, ?_⟩
      rw [e1]
      intro w1 a vs H1 l1 ok1 g1 r1
      cases e2 : f2 s1 with
      | stuck => rw [e2] at q; exact q.elim
      | exc x s' => rw [e2] at q; exact q.elim
      | ok ys s2 =>
        rw [e2] at q
        simp only at q
        refine ⟨_, w1, s1, ok1, ?_⟩
        rw [e2]
        intro w2 b us H2 l2 ok2 g2 r2
        cases e3 : f3 s2 with
        | stuck => rw [e3] at q; exact q.elim
        | exc x s' => rw [e3] at q; exact q.elim
        | ok d s3 =>
          rw [e3] at q
          simp only at q
          refine ⟨_, w2, s2, ok2, ?_⟩
          rw [e3]
          intro w3 v H3 l3 ok3 r3
          refine ⟨_, _, _, rfl, ?_⟩
          have h1 := ok3.setOwn (y := .ol ys) g2 ⟨us, (ok3.gam (b, .lst us) List.mem_cons_self).1, r2.mono l3⟩ rfl (fun _ _ z => nomatch z) j
          have h2 := h1.setOwn (y := .ol xs) g1 ⟨vs, (h1.gam (a, .lst vs) List.mem_cons_self).1, (r1.mono l2).mono l3⟩ rfl (fun _ _ z => nomatch z) i
          have h3 := h2.setVal r3 l
          rw [List.set_comm _ _ hij] 
          rw [List.set_comm _ _ hij] at q
          exact q w3 _ H3 (l1.trans (l2.trans l3)) h3
/-! ### is True, is False -/
def dIsB : D → D → Option D := fun x y => match x, y with
  | .bl a, .bl b => some (.bl (decide (a = b)))
  | _, _ => none
def dNotB : D → D → Option D := fun x y => match x, y with
  | .bl a, .bl b => some (.bl (!decide (a = b)))
  | _, _ => none
theorem opd_isB : OpD G X (compareOp .Is) dIsB := ⟨_, op_isBl, fun κ w s σ H x y dx dy d Q ok rx ry e q => by
  cases rx with
  | bl a =>
    cases ry with
    | bl b =>
      cases e
      exact ⟨_, _, rfl, rfl, q w _ H (.refl _) ok (.bl _)⟩
    | _ => exact nomatch e
  | _ => exact nomatch e⟩
theorem opd_notB : OpD G X (compareOp .IsNot) dNotB := ⟨_, op_notBl, fun κ w s σ H x y dx dy d Q ok rx ry e q => by
  cases rx with
  | bl a =>
    cases ry with
    | bl b =>
      cases e
      exact ⟨_, _, rfl, rfl, q w _ H (.refl _) ok (.bl _)⟩
    | _ => exact nomatch e
  | _ => exact nomatch e⟩
/-! ### a, b = a list of two -/
def gTA (n : Nat) (g : List D → DS → Res DS Unit) : DG := fun d s => match d with
  | .tup ds => if ds.length = n then g ds s else .stuck
  | .lst ds => if ds.length = n then g ds s else .stuck
  | _ => .stuck
theorem pdg_any (hK : G.K = X.K) {es : List Expr} {is : List Nat} {k : Nat} {g : List D → DS → Res DS Unit} {n : Nat} {pos : Pos} (hc : X.calm = true) (h : PDGs G X es is g)
    (hn : (assignEach es X.env).length = n := by rfl) (hst : (assignEach es X.env).findIdx? (·.1) = none := by rfl) : PDG G X (.Tuple es k pos) is (gTA n g) :=
  ⟨fun pins s0 σ H v u Q I r0 ⟨κ, w, s, d, ok, r, q⟩ => by
    cases r with
    | @tup a vs ds e r =>
      by_cases c : ds.length = n
      · have q : PostT G is σ κ w (if ds.length = n then g ds s else .stuck) Q := q
        rw [if_pos c] at q
        exact (pg_tup hc h hn hst).run pins s0 σ H _ u Q I r0 ⟨a, vs, rfl, hK ▸ SqT.le e ok.fok.sub, by rw [r.length]; exact c, κ, w, s, ds, ok, r, q⟩
      · have q : PostT G is σ κ w (if ds.length = n then g ds s else .stuck) Q := q
        rw [if_neg c] at q
        exact q.elim
    | @lst a vs ds e r =>
      by_cases c : ds.length = n
      · have q : PostT G is σ κ w (if ds.length = n then g ds s else .stuck) Q := q
        rw [if_pos c] at q
        exact (pg_unl hc h hn hst).run pins s0 σ H _ u Q I r0 ⟨a, vs, rfl, .inl (.inl (ok.fok.sub _ _ e)), by rw [r.length]; exact c, κ, w, s, ds, ok, r, q⟩
      · have q : PostT G is σ κ w (if ds.length = n then g ds s else .stuck) Q := q
        rw [if_neg c] at q
        exact q.elim
    | _ => exact q.elim⟩
/-! ### text * number -/
theorem op_smul : OpR X (binaryOp .Mult) (fun x y H Q => ∃ (i : Str) (n : Int), x = .str i ∧ y = .int n ∧ i.length ≤ 100 ∧ -100000 ≤ n ∧ n ≤ 100000 ∧ Q (.str (Txt.mul i n)) H) := by
  intro pins s σ H x y v u Q I rx ry h
  obtain ⟨i, n, rfl, rfl, hz, h0, h1, q⟩ := h
  obtain ⟨t, rfl⟩ := rx
  obtain ⟨t', rfl⟩ := ry
  refine SB.mul ⟨?_, fun hn _ => ?_, fun hn _ => ?_⟩ fun t' k => ⟨.str (Txt.mul i n), H, I.tok _, ⟨_, rfl⟩, q⟩
  · rw [decide_eq_false (by omega), decide_eq_false (by omega)]; rfl
  · have : (i.length : Int) ≤ (2 ^ 63 - 1) / n := by
      rw [Int.le_ediv_iff_mul_le (by omega)]
      have := Int.mul_le_mul (show (i.length : Int) ≤ 100 by omega) h1 (by omega) (by omega)
      omega
    omega
  · unfold Builtin.Str.tooLong
    have := Nat.mul_le_mul hz (show n.toNat ≤ 100000 by omega)
    rw [decide_eq_false]
    rw [Nat.not_lt]
    exact Nat.le_trans this (by decide)
theorem foldl_repN (l : List Nat) : ∀ (k : Nat) (acc : List Nat), (List.replicate k l.toArray).foldl (· ++ ·) acc.toArray = (acc ++ (List.replicate k l).flatten).toArray
  | 0, acc => by simp
  | k + 1, acc => by
    rw [List.replicate_succ, List.foldl_cons, List.append_toArray, foldl_repN l k (acc ++ l), List.replicate_succ, List.flatten_cons, List.append_assoc]
theorem mul_nm (l : Nm) (n : Int) : Txt.mul (nm l) n = nm (List.replicate n.toNat l).flatten := by
  unfold Txt.mul
  by_cases c : n < 1
  · rw [if_pos c, show n.toNat = 0 by omega]
    rfl
  · rw [if_neg c]
    by_cases c2 : (n == 1 || (nm l).length == 0) = true
    · rw [if_pos c2]
      rw [Bool.or_eq_true] at c2
      rcases c2 with c2 | c2
      · have : n = 1 := by simpa using c2
        subst this
        simp
      · have hl : l = [] := by
          have := (beq_iff_eq.mp c2)
          rw [nm_len] at this
          exact List.eq_nil_of_length_eq_zero this
        subst hl
        simp
    · rw [if_neg c2]
      have := foldl_repN l n.toNat []
      rw [List.nil_append] at this
      unfold nm
      rw [← this]
def sMul : D → D → Option D := fun x y => match x, y with
  | .str l, .int n => if l.length ≤ 100 ∧ -100000 ≤ n ∧ n ≤ 100000 then some (.str (List.replicate n.toNat l).flatten) else none
  | _, _ => none
theorem opd_smul : OpD G X (binaryOp .Mult) sMul := ⟨_, op_smul, fun κ w s σ H x y dx dy d Q ok rx ry e q => by
  cases rx with
  | str l =>
    cases ry with
    | int n =>
      have e : (if l.length ≤ 100 ∧ -100000 ≤ n ∧ n ≤ 100000 then some (D.str (List.replicate n.toNat l).flatten) else none) = some d := e
      split at e
      · rename_i c
        cases e
        refine ⟨nm l, n, rfl, rfl, by rw [nm_len]; exact c.1, c.2.1, c.2.2, ?_⟩
        rw [mul_nm]
        exact q w _ H (.refl _) ok (.str _)
      · cases e
    | _ => exact nomatch e
  | _ => exact nomatch e⟩
/-! ### tuple + tuple, empty ones too -/
def tAdd : D → D → Option D := fun x y => match x, y with
  | .tup a, .tup b => if a.length + b.length ≤ 1000000 then some (.tup (a ++ b)) else none
  | _, _ => none
theorem opd_tadd (hK : G.K = X.K) : OpD G X (binaryOp .Add) tAdd := ⟨_, op_catA, fun κ w s σ H x y dx dy d Q ok rx ry e q => by
  cases rx with
  | @tup a vs ds e1 r1 =>
    cases ry with
    | @tup a2 vs2 ds2 e2 r2 =>
      have e : (if ds.length + ds2.length ≤ 1000000 then some (D.tup (ds ++ ds2)) else none) = some d := e
      split at e
      · rename_i c
        cases e
        refine ⟨a, a2, vs, vs2, rfl, rfl, hK ▸ SqT.le e1 ok.fok.sub, hK ▸ SqT.le e2 ok.fok.sub, by rw [r1.length, r2.length, sizeLine_eq]; omega, fun z => ?_, fun _ z => ?_, fun _ _ p hp => ?_⟩
        · subst z
          cases r1
          exact q w _ H (.refl _) ok (.tup e2 r2)
        · subst z
          cases r2
          rw [List.append_nil] at q
          exact q w _ H (.refl _) ok (.tup e1 r1)
        · obtain ⟨le2, ok2⟩ := ok.alloc hp (.tup (vs ++ vs2))
          exact q _ _ _ le2 ok2 (.tup (.inl (.inl upd_same)) ((r1.append r2).mono le2))
      · cases e
    | _ => exact nomatch e
  | _ => exact nomatch e⟩
/-! ### max(xs), min(xs) of a list of ints -/
def mxL : List Int → Int
  | [] => 0
  | [x] => x
  | x :: y :: r => if mxL (y :: r) > x then mxL (y :: r) else x
def mnL : List Int → Int
  | [] => 0
  | [x] => x
  | x :: y :: r => if mnL (y :: r) < x then mnL (y :: r) else x
theorem mxL_mem : ∀ {l : List Int}, l ≠ [] → mxL l ∈ l ∧ ∀ y ∈ l, y ≤ mxL l
  | [], h => absurd rfl h
  | [x], _ => ⟨by simp [mxL], fun y hy => by simp at hy; subst hy; simp [mxL]⟩
  | x :: y :: r, _ => by
    obtain ⟨h1, h2⟩ := mxL_mem (l := y :: r) (by simp)
    unfold mxL
    split
    · refine ⟨List.mem_cons_of_mem _ h1, fun z hz => ?_⟩
      rcases List.mem_cons.mp hz with rfl | hz
      · omega
      · exact h2 z hz
    · refine ⟨List.mem_cons_self .., fun z hz => ?_⟩
      rcases List.mem_cons.mp hz with rfl | hz
      · omega
      · have := h2 z hz; omega
theorem mnL_mem : ∀ {l : List Int}, l ≠ [] → mnL l ∈ l ∧ ∀ y ∈ l, mnL l ≤ y
  | [], h => absurd rfl h
  | [x], _ => ⟨by simp [mnL], fun y hy => by simp at hy; subst hy; simp [mnL]⟩
  | x :: y :: r, _ => by
    obtain ⟨h1, h2⟩ := mnL_mem (l := y :: r) (by simp)
    unfold mnL
    split
    · refine ⟨List.mem_cons_of_mem _ h1, fun z hz => ?_⟩
      rcases List.mem_cons.mp hz with rfl | hz
      · omega
      · exact h2 z hz
    · refine ⟨List.mem_cons_self .., fun z hz => ?_⟩
      rcases List.mem_cons.mp hz with rfl | hz
      · omega
      · have := h2 z hz; omega
def bMaxL : List D → Option D
  | [.lst xs] => match intsOf xs with
    | some (n :: ns) => some (.int (mxL (n :: ns)))
    | _ => none
  | _ => none
def bMinL : List D → Option D
  | [.lst xs] => match intsOf xs with
    | some (n :: ns) => some (.int (mnL (n :: ns)))
    | _ => none
  | _ => none
theorem cd_maxL (hc : X.calm = true) : CallD G X (.builtin "max") bMaxL := ⟨_, cr_max hc, fun κ w s σ H vs ds d Q ok rs e q => by
  match ds, e with
  | [.lst xs], e =>
    have e : (match intsOf xs with | some (n :: ns) => some (D.int (mxL (n :: ns))) | _ => none) = some d := e
    cases e1 : intsOf xs with
    | none => rw [e1] at e; cases e
    | some l =>
      rw [e1] at e
      cases l with
      | nil => cases e
      | cons n ns =>
        cases e
        obtain ⟨v, rfl, r⟩ := rs.one
        cases r with
        | @lst a vs ds e r =>
          rw [intsOf_eq e1] at r
          rw [r.ints] at e
          refine ⟨a, n :: ns, rfl, .inl (.inl (ok.fok.sub _ _ e)), by simp, fun m h1 h2 => ?_⟩
          obtain ⟨h3, h4⟩ := mxL_mem (l := n :: ns) (by simp)
          have : m = mxL (n :: ns) := Int.le_antisymm (h4 m h1) (h2 _ h3)
          subst this
          exact q w _ H (.refl _) ok (.int _)⟩
theorem cd_minL (hc : X.calm = true) : CallD G X (.builtin "min") bMinL := ⟨_, cr_min hc, fun κ w s σ H vs ds d Q ok rs e q => by
  match ds, e with
  | [.lst xs], e =>
    have e : (match intsOf xs with | some (n :: ns) => some (D.int (mnL (n :: ns))) | _ => none) = some d := e
    cases e1 : intsOf xs with
    | none => rw [e1] at e; cases e
    | some l =>
      rw [e1] at e
      cases l with
      | nil => cases e
      | cons n ns =>
        cases e
        obtain ⟨v, rfl, r⟩ := rs.one
        cases r with
        | @lst a vs ds e r =>
          rw [intsOf_eq e1] at r
          rw [r.ints] at e
          refine ⟨a, n :: ns, rfl, .inl (.inl (ok.fok.sub _ _ e)), by simp, fun m h1 h2 => ?_⟩
          obtain ⟨h3, h4⟩ := mnL_mem (l := n :: ns) (by simp)
          have : m = mnL (n :: ns) := Int.le_antisymm (h2 _ h3) (h4 m h1)
          subst this
          exact q w _ H (.refl _) ok (.int _)⟩
/-! ### range(i, j, c) -/
def rngC (lo c : Int) (n : Nat) : List D := (List.range n).map fun (i : Nat) => D.int (lo + (i : Int) * c)
theorem itOk_rngC {w : Wd} (lo c : Int) (n : Nat) : ItOk G w (Itc lo c n) (rngC lo c n) := by
  intro w1 S H le fok i
  refine ⟨fun d hd => ?_, fun hn => ?_⟩
  · unfold rngC at hd
    rw [List.getElem?_map] at hd
    by_cases c : i < n
    · rw [List.getElem?_range c] at hd
      cases hd
      refine ⟨c, fun x H' ⟨hH, hx⟩ => ⟨w1, ?_, ?_, ?_⟩⟩
      · rw [hH]; exact .refl _ _
      · rw [hH]; exact fok
      · rw [hx]; exact .int _
    · rw [List.getElem?_eq_none (by rw [List.length_range]; omega)] at hd
      cases hd
  · have := List.getElem?_eq_none_iff.mp hn
    unfold rngC at this
    rw [List.length_map, List.length_range] at this
    exact this
def itR3 (f : DA) : DA := fun s => (f s).bind fun ds s1 => match ds with
  | [.int i, .int j, .int c] => if c ≠ 0 ∧ c.natAbs < 1073741824 ∧ Builtin.Range.small i j c = true ∧ 0 ≤ Builtin.Range.rangeSize i j c then .ok (rngC i c (Builtin.Range.rangeSize i j c).toNat) s1 else .stuck
  | _ => .stuck
theorem pdi_range3 {tg a b c : Expr} {f : DA} {p pos : Pos} (hg : Gl X "range") (hm : X.mg "range" = none) (ha : PDA G W X [a, b, c] f) (hs : starEach [a, b, c] X.env = (false, eval a X.env) :: starEach [b, c] X.env := by rfl) (hpl : (backTo pos (starEach [b, c] X.env)).any (·.1) = false := by rfl) :
    PDI G W X tg (.Call (.Name "range" p) [a, b, c] [] pos) (itR3 f) :=
  (pi_range3 hg hm ha hs hpl).imp fun σ H R ⟨κ, w, s, ok, q⟩ => ⟨κ, w, s, ok, (PostG.bindI q).imp fun v H1 ⟨d, s1, w1, le, ok1, r1, q1⟩ => by
    match d, q1, r1 with
    | [.int i, .int j, .int c], q1, .cons (.int _) (.cons (.int _) (.cons (.int _) .nil)) =>
      have q1 : PostI G W κ w1 σ (if c ≠ 0 ∧ c.natAbs < 1073741824 ∧ Builtin.Range.small i j c = true ∧ 0 ≤ Builtin.Range.rangeSize i j c then .ok (rngC i c (Builtin.Range.rangeSize i j c).toNat) s1 else .stuck) R := q1
      by_cases cc : c ≠ 0 ∧ c.natAbs < 1073741824 ∧ Builtin.Range.small i j c = true ∧ 0 ≤ Builtin.Range.rangeSize i j c
      · rw [if_pos cc] at q1
        exact ⟨i, j, c, _, rfl, ⟨cc.1, cc.2.1, cc.2.2.1, (Int.toNat_of_nonneg cc.2.2.2).symm⟩, q1 w1 _ H1 (.refl _) ok1 (itOk_rngC i c _)⟩
      · rw [if_neg cc] at q1
        exact q1.elim⟩
end
end DL
set_option maxRecDepth 100000
set_option maxHeartbeats 4000000
set_option autoImplicit false
namespace DL
open PySem PySem.Spec PyProof.Rows L2
/-! ### raise C(), the class with no __init__ of its own -/
abbrev veM : List Value := [.type "ValueError", .type "Exception", .type "BaseException", .type "object"]
def x0B (K : PySem.W.Frag) (C : Addr) : Bool := PySem.W.excIn K C veM "ValueError.__new__" && (PySem.W.keepIn K (.ref C) && ((PySem.W.subIn K (.ref C) (.type "BaseException") == some true) && (PySem.W.typeIn K (.ref C) == some (.type "type"))))
def sRaise0 (c : String) : DStm := fun s => .exc ⟨c, []⟩ s
@[simp] theorem r_sRaise0 (c : String) (s : DS) : sRaise0 c s = .exc ⟨c, []⟩ s := rfl
section
variable {G : Gam} {W : WX} {X : Cx}
theorem pmk_own0 {C : Addr} {x : Str} {p pos : Pos} (hB : x0B X.K C = true) (gC : X.mg x = some (.ref C)) (hg : Gl X x) (hdb : (x == ("__debug__" : Str)) = false := by decide) :
    PMk X (.Call (.Name x p) [] [] pos) (fun σ H Q => Q (.ref C) none H) := by
  unfold x0B at hB
  simp only [Bool.and_eq_true, beq_iff_eq] at hB
  obtain ⟨q, kC, b1, b2⟩ := hB
  intro pins s σ H Q I h
  refine wpAny_Call_Name_kw (ld_glob I hg gC ?_ hdb)
  refine PySem.W.callWith_K0 I.kIn kC ?_
  obtain ⟨bm, N, nm, qn, bs, hdct, sn, sub, ab, col, dd, k0, k1, k2, k3, k5, mN, hC, hN, hni, T⟩ := exc_obj I.kIn q
  refine wpAny_call_exc_subT PySem.F.excBase_ValueError T hC hN hni (fun h' e hm => ?_) (by show 0 ≤ sizeLine; rw [sizeLine_eq]; omega)
  exact mk_of I hm (raises_own b1 b2) h (I.hok.gone hm.new)
theorem pds_raise0 {c : String} {C : Addr} {x : Str} {p pos pos' : Pos} (hc : X.calm = true) (tk : Takes X W) (hct : G.ct c = some C) (hB : x0B X.K C = true) (hg : Gl X x) (hm : X.mg x = some (.ref C)) (hdb : (x == ("__debug__" : Str)) = false := by decide) :
    PDS G W X (.Raise (some (.Call (.Name x p) [] [] pos)) none pos') (sRaise0 c) :=
  (ps_raise hc tk (pmk_own0 hB hm hg hdb)).imp fun N σ H ⟨κ, w, s, ok, q⟩ => q w σ (.ref C) none H (.refl _) ok ⟨C, hct, rfl, .inl ⟨rfl, rfl⟩⟩
end
end DL
set_option maxRecDepth 100000
set_option maxHeartbeats 4000000
set_option autoImplicit false
namespace DL
open PySem PySem.Spec PyProof.Rows L2
/-! ### a comprehension whose element calls a def with a lambda of the maker: the maker's own state goes along -/
section
variable {X : Cx}
theorem lcK {elt tg iter : Expr} {ifs : List Expr} {scope : Scope} {own : List (Str × Nat)} {pos : Pos} {wi : TI} {g : TG} {tt : TT} {te : TE} (hc : X.calm = true) (hN : X.N.Nodup) (hi : PI X tg iter wi) (ok : BlkOk X.N X.env.scope scope own)
    (hg : ∀ (s : Shared) (H : Hp) (C : Addr) (cl : List (Str × Addr)) (fp : List Addr), PG (X.blk s H scope (compEnvC scope cl C X.env) fp) tg g) (ht : ∀ (s : Shared) (H : Hp) (C : Addr) (cl : List (Str × Addr)) (fp : List Addr), PTs (X.blk s H scope (compEnvC scope cl C X.env) fp) ifs tt)
    (he : ∀ (pins : List (Addr × Obj)) (σ : L2.St) (s : Shared) (H : Hp) (C : Addr) (cl : List (Str × Addr)) (fp : List Addr), Inv X pins σ H s → (∀ b ∈ fp, FpOk X pins H b) → PE (X.blk s H scope (compEnvC scope cl C X.env) fp) elt (fun σ' H' Q => L2.wipe σ' (own.map (·.2)) = L2.wipe σ (own.map (·.2)) ∧ te σ' H' Q)) (hs : ∀ x, foldedSetIterable iter X.env x = pure x := by intro _; rfl) :
    PE X (.ListComp elt [⟨tg, iter, ifs, 0⟩] scope pos) (tLc wi g tt te (own.map (·.2))) := by
  refine ⟨fun pins s σ H Q I h => ?_⟩
  rw [eval_ListComp]
  have fr : ∀ y ∈ scope.names, y.2 = .free → ∃ c, X.env.cells.lookup y.1 = some c := fun y hy e => (ok.free y hy e).elim (fun k => I.ok.has _ (.inl k)) fun k => I.ok.has _ (.inr k)
  refine wpAny_comprehension_free (use := none) rfl hs (closure_ok fr) ok.kind (fun y hy e => by rw [ok.uniq y hy, e])
    (thn (hi.run pins s σ H _ I h) fun xv s1 hx => thn hx fun itv s2 h2 => ?_)
  obtain ⟨it, fp, tn, J, H2, rfl, I2, T, st2, f2, q⟩ := h2
  refine wpAny_newObj_type (newEnv_comp ?_) (by show 0 ≤ sizeLine; decide)
  generalize hD : s2.heap.objs.size = D
  have nD : H2 D = none := I2.hok.fresh (Nat.le_of_eq hD)
  obtain ⟨Wv, ⟨m0, w0⟩, turn⟩ := q D nD
  generalize e3 : ({ s2 with heap := s2.heap.push { cls := .type "list", data := .seq ([] : List Value).toArray } } : Shared) = s3
  have hh : s3.heap = s2.heap.push { cls := .type "list", data := .seq ([] : List Value).toArray } := by rw [← e3]
  have I3 : Inv X pins σ (upd H2 D (.lst [])) s3 := by
    rw [← e3]
    refine I2.laid (t' := s2.toks) (fun b o e => Heap.get?_push_of_some _ e) (Nat.le_of_eq hD) ⟨Nat.zero_le _, [], 0, .nil, ?_⟩
    rw [← hD]
    exact Heap.get?_push_size _ rfl
  have lt2 : ∀ b ∈ fp, b < s2.heap.objs.size := fun b hb => let ⟨_, e, _⟩ := T.obj _ _ st2 b hb; Heap.lt_size e
  have f3 : ∀ b ∈ fp, FpOk X pins (upd H2 D (.lst [])) b ∧ b < s3.heap.objs.size := fun b hb =>
    ⟨⟨by rw [upd_ne (by rw [← hD]; exact Nat.ne_of_lt (lt2 b hb))]; exact (f2 b hb).1, (f2 b hb).2⟩, by rw [hh, Heap.size_push]; exact Nat.lt_succ_of_lt (lt2 b hb)⟩
  have st3 : tn 0 s3.heap := T.keep _ _ _ st2 fun b _ o e => by rw [hh]; exact Heap.get?_push_of_some _ e
  have I4 := block_start I3 ok hN f3
  show codeAny _ _ (.compStart (.ListComp elt [⟨tg, iter, ifs, 0⟩] scope pos) 0 (.ref it) (.ref D) (compEnvC scope (cellsFrom (s3.heap.objs.size + 1) scope.names (cloFrom X.env.cells scope.names [])) s3.heap.objs.size X.env)) (compPost (model X.prog X.w) X.A X.xe none (EP X pins σ Q) (.ref D) s3.heap.objs.size) { s3 with heap := pushCells (s3.heap.push { cls := .type "dict", data := .dict #[] }) scope.names }
  have pg := hg s3 (upd H2 D (.lst [])) s3.heap.objs.size (cellsFrom (s3.heap.objs.size + 1) scope.names (cloFrom X.env.cells scope.names [])) fp
  have pt := ht s3 (upd H2 D (.lst [])) s3.heap.objs.size (cellsFrom (s3.heap.objs.size + 1) scope.names (cloFrom X.env.cells scope.names [])) fp
  have pe := he pins σ s3 (upd H2 D (.lst [])) s3.heap.objs.size (cellsFrom (s3.heap.objs.size + 1) scope.names (cloFrom X.env.cells scope.names [])) fp I3 fun b hb => (f3 b hb).1
  have nfp : ∀ b ∈ fp, (upd H2 D (.lst [])) b = none := fun b hb => (f3 b hb).1.1
  generalize hce : compEnvC scope (cellsFrom (s3.heap.objs.size + 1) scope.names (cloFrom X.env.cells scope.names [])) s3.heap.objs.size X.env = ce at I4 pg pt pe ⊢
  have cL : ce.locals = s3.heap.objs.size := by subst hce; rfl
  generalize upd H2 D (.lst []) = H3 at I3 I4 pg pt pe w0 nfp f3
  generalize hs4 : ({ s3 with heap := pushCells (s3.heap.push { cls := .type "dict", data := .dict #[] }) scope.names } : Shared) = s4 at I4 ⊢
  have st4 : tn 0 s4.heap := T.keep _ _ _ st3 fun b _ o e => by rw [← hs4]; exact pushCells_keeps _ _ _ _ (Heap.get?_push_of_some _ e)
  have stat : ∀ {σ' : L2.St} {H' : Hp} {s' : Shared}, Inv (X.blk s3 H3 scope ce fp) [] σ' H' s' → (∀ b ∈ fp, H' b = none) → ∀ b ∈ fp, FpOk (X.blk s3 H3 scope ce fp) [] H' b := fun {σ' H' s'} I' hn b hb =>
    ⟨hn b hb, (I'.ok.exf b hb).1, I'.ok.exfs b hb, .inl hb, (I'.ok.exf b hb).2, fun p hp => absurd (show p ∈ ([] : List (Addr × Obj)) ++ [] from hp) (by simp)⟩
  have loop : codeAny (model X.prog X.w) X.A (.compLoop (.ListComp elt [⟨tg, iter, ifs, 0⟩] scope pos) 0 (.ref it) (.ref D) ce) (compPost (model X.prog X.w) X.A X.xe none (EP X pins σ Q) (.ref D) s3.heap.objs.size) s4 := by
    refine compLoop_any (fun n s' => ∃ i H', Inv (X.blk s3 H3 scope ce fp) [] (L2.wipe σ (own.map (·.2))) H' s' ∧ tn i s'.heap ∧ (∀ b ∈ fp, H' b = none) ∧ Wv i n H') ?_ m0 ⟨0, H3, I4, st4, nfp, w0⟩
    rintro n s5 ⟨i, H5, I5, st5, n5, w5⟩
    rcases turn i n H5 w5 with ⟨stop, qq⟩ | ⟨go, Nx, hNx, step⟩
    · refine thnF (T.done (X.blk s3 H3 scope ce fp) rfl rfl rfl hc i [] s5 _ H5 (fun _ _ => False) I5 (stat I5 n5) st5 stop) fun r s6 ⟨hr, I6⟩ => ?_
      subst hr
      have I7 : Inv X pins σ H5 s6 := I3.call' (ch := fp) I6.os I6.base I6.hok I6.bare fun b hb => ⟨(f3 b hb).1.2.2.2.1, (f3 b hb).1.2.1, (f3 b hb).1.2.2.2.2.1, (f3 b hb).1.2.2.2.2.2⟩
      have nC : H5 s3.heap.objs.size = none := by
        have z : H5 ce.locals = none := I6.free
        rw [cL] at z
        exact z
      obtain ⟨m, hn, _⟩ := I6.loc
      have hn : s6.heap.Ns ce.locals m := hn
      rw [cL] at hn
      obtain ⟨f0, f1, f2, f3, f4, f5⟩ := I3.fpOk (Nat.le_refl _) nC
      exact ⟨m, hn, fun h'' sb => ⟨.ref D, H5, I7.turned (t' := s6.toks) (fun b o hb e => (sb.2 b hb).trans e) f0 f1 f3 f4 f5, rfl, qq⟩⟩
    · refine thnF (T.item (X.blk s3 H3 scope ce fp) rfl rfl rfl hc i [] s5 _ H5 (fun _ _ => False) I5 (stat I5 n5) st5 go) fun r s6 ⟨u, hr, h6⟩ => ?_
      subst hr
      refine thnF h6 fun _ s7 ⟨x, H7, I7, r7, y7, st7, n7⟩ => ?_
      refine thnF (pg.run _ s7 _ H7 x u _ (I7.pinned (stat I7 n7) (T.obj _ _ st7)) r7 (step x H7 y7)) fun _ s8 ⟨σ8, H8, I8, hw8, q8⟩ => ?_
      refine thnF (pt.run _ s8 σ8 H8 _ I8 q8) fun b s9 ⟨H9, I9, q9⟩ => ?_
      have fin : ∀ {s' : Shared} {H' : Hp}, Inv (X.blk s3 H3 scope ce fp) ([] ++ pinsAt fp s7.heap) σ8 H' s' → Nx H' → ∃ m, m < n ∧ ∃ i H', Inv (X.blk s3 H3 scope ce fp) [] (L2.wipe σ (own.map (·.2))) H' s' ∧ tn i s'.heap ∧ (∀ b ∈ fp, H' b = none) ∧ Wv i m H' := fun {s' H'} I' nx => by
        obtain ⟨m', hm, w'⟩ := hNx H' nx
        have pin' : ∀ b ∈ fp, ∀ o, s7.heap.get? b = some o → s'.heap.get? b = some o ∧ H' b = none := fun b hb o e =>
          let z := I'.pin (b, o) (List.mem_append_right _ (List.mem_append_right _ (mem_pinsAt hb e)))
          ⟨z.1, z.2.1⟩
        refine ⟨m', hm, i + 1, H', (I'.unpinned (pins := [])).weak (by rw [← hw8, L2.wipe_length]) (fun j v e => by rw [← hw8] at e; exact (wipe_some e).1), T.keep _ _ _ st7 fun b hb o e => (pin' b hb o e).1, fun b hb => ?_, w'⟩
        obtain ⟨o, e, _⟩ := T.obj _ _ st7 b hb
        exact (pin' b hb o e).2
      cases b with
      | false =>
        simp only [Bool.false_eq_true, if_false] at q9 ⊢
        exact fin I9 q9
      | true =>
        simp only [if_true] at q9 ⊢
        refine thnF (pe.run _ s9 σ8 H9 _ I9 ⟨hw8, q9⟩) fun z s10 ⟨yv, H10, I10, r10, acc, hD10, hz10, nx⟩ => ?_
        exact app_ok (X := X.blk s3 H3 scope ce fp) I10 hD10 hz10 r10 fun s11 I11 => fin I11 nx
  exact codeAny_compStart_list loop (T.self X.A 0 _ _ _ st4 loop)
end

def eCallLB (n : Nat) (g : LamR → DFn) (bs : String → Option DE) (vs : List Nat) (fa : DA) : DE := fun s => (fa s).bind fun ds s1 => if ds.length = n then lift s1 (g (lamR bs (wipeD vs s1.sl)) ds s1.st) else .stuck
@[simp] theorem r_eCallLB (n : Nat) (g : LamR → DFn) (bs : String → Option DE) (vs : List Nat) (fa : DA) (s : DS) : eCallLB n g bs vs fa s = (fa s).bind fun ds s1 => if ds.length = n then lift s1 (g (lamR bs (wipeD vs s1.sl)) ds s1.st) else .stuck := rfl
section
variable {G : Gam} {W : WX} {X : Cx}
theorem pd_callLB {T : LamT} {bs : String → Option DE} {k n m i : Nat} {f : Addr} {fd : FuncData} {N ps : List Str} {body : LamR → DStm} {x qual a : Str} {st : Stmt} {p pos : Pos} {e : Expr} {es : List Expr} {fa : DA} {vs : List Nat}
    {pinsX : List (Addr × Obj)} {σX : L2.St} {sX : Shared} {HX : Hp} {scope : Scope} {cenv : Env} {fp : List Addr} (IX : Inv X pinsX σX HX sX) (hfp : ∀ b ∈ fp, FpOk X pinsX HX b) (hK : G.K = X.K) (F : Fun X.K x qual st f fd) (S : FnScope N ps (defScope st)) (hn : ps.length = n) (hm : N.length - n = m)
    (GL : ∀ n f w', G.lam n f w' → T.lam n f w') (hq : T.q = X.env.qual ++ "<lambda>") (hcl : T.cells = X.env.cells) (hbs : LamsOk G X T k bs)
    (hbody : ∀ w, BodyL (G.at w) X.prog X.w X.mg X.base (k + 1) N qual st f a i body) (hN : N[i]? = some a) (hv : Vis (defScope st) a)
    (hr : Room (k + 2) X.A) (hg : Gl (X.blk sX HX scope cenv fp) x) (hmg : X.mg x = some (.ref f)) (hb : Binds X.K fd ps []) (tk : Takes (X.blk sX HX scope cenv fp) WF) (ha : PDA G WF (X.blk sX HX scope cenv fp) (e :: es) fa) (hdb : (x == ("__debug__" : Str)) = false := by decide) (hda : (a == ("__debug__" : Str)) = false := by decide) (hcd : (a == ("__classdict__" : Str)) = false := by decide)
    (he : starEach (e :: es) cenv = (false, eval e cenv) :: starEach es cenv := by rfl) (hpl : (backTo pos (starEach es cenv)).any (·.1) = false := by rfl) :
    PE (X.blk sX HX scope cenv fp) (.Call (.Name x p) (e :: es) [] pos) (fun σ' H' Q => L2.wipe σ' vs = L2.wipe σX vs ∧ tD G WF (eCallLB n (fun Λ => fnD n (body Λ) m) bs vs fa) σ' H' Q) := by
  refine ⟨fun pins s σ H Q I ⟨hw, h⟩ => ?_⟩
  obtain ⟨κ, w, ds, ok, q⟩ := h
  refine wpAny_Call_Name_kw (ld_glob I hg hmg ?_ hdb)
  have hh : tDA G WF fa σ H fun vs' H1 => ∃ d s1 w1, w.le w1 ∧ Ok G κ w1 s1 σ H1 ∧ Reps G w1 vs' d ∧ PostG G WF (Rep G) κ w1 σ (if d.length = n then lift s1 (fnD n (body (lamR bs (wipeD vs s1.sl))) m d s1.st) else .stuck) Q := ⟨κ, w, ds, ok, PostG.bind q⟩
  refine PySem.W.callWith_K (h₀ := X.base) I.ok.mod.kin F.kp (thn (ha.run pos pins s σ H _ I hh) fun us s1 ⟨vs', H1, I1, r, d, s2, w1, le, ok1, rs, q1⟩ => ⟨I1.kIn, ?_⟩) he hpl
  by_cases c : d.length = n
  case neg => rw [if_neg c] at q1; exact q1.elim
  rw [if_pos c] at q1
  have q2 := postF_of ok1 q1
  have J : Inv X pinsX (L2.wipe σX vs) H1 s1 := (IX.call' (ch := fp) I1.os I1.base I1.hok I1.bare fun b hb => ⟨(hfp b hb).2.2.2.1, (hfp b hb).2.1, (hfp b hb).2.2.2.2.1, (hfp b hb).2.2.2.2.2⟩).weak (L2.wipe_length _ _) fun j v e => (wipe_some e).1
  have okW : Ok G κ w1 (wipeS vs s2) (L2.wipe σX vs) H1 := by rw [← hw]; exact ok1.wipe vs
  obtain ⟨oc, od, kV, doc, pm, an, cdv, ct, osl, rfl, lk, hcode⟩ := F.ex
  have hl : vs'.length = n := by rw [rs.length]; exact c
  have hul : us.length = ps.length := by rw [← r.length, hl, hn]
  have rc : codeAny (model X.prog X.w) X.A (.call (.ref f) ⟨us, []⟩) (CR (L2.CX X.prog X.w) X.stack X.prog X.w H1 s1 Q (WE WF σ)) s1 := by
    have hbd := hb s1 us I1.kIn (by simpa using hul)
    rw [List.append_nil] at hbd
    refine LamX.run_ofS (N := N) (ps := ps) (us := us) (vs := vs') lk hcode S hr I1.env0 hbd r (by rw [hl, hn]) fun hr' => ?_
    have hb0 := hbody w1 (lamR bs (wipeD vs s2.sl)) cdv X.A X.stack s1 H1 (WE WF σ) hr' (takes_of rfl rfl rfl rfl) (passes_of rfl) 
    have hK' : (G.at w1).K = X.K := hK
    rw [hK'] at hb0
    refine ⟨_, hb0 fun pn xe W' p1 p2 tk' => pd_act J okW GL hq hcl hbs tk' hr' hN hv hda hcd, ?_⟩
    rw [start_eq (m := m) (by rw [hl]; exact hm)]
    have fok' : FOk (G.at w1) w1 s2.st H1 := ok1.fok.sw (.inr fun _ _ z => ⟨z, .refl _⟩)
    have rs' : Reps (G.at w1) w1 vs' d := rs.sw (.inr fun _ _ z => ⟨z, .refl _⟩)
    refine ⟨⟨w1, H1, [], none⟩, w1, _, Ok.start fok' rs' m, ?_⟩
    unfold fnD at q2
    rw [if_pos c] at q2
    cases e : body (lamR bs (wipeD vs s2.sl)) ⟨d.map Sl.val ++ List.replicate m .un, s2.st⟩ with
    | stuck => rw [e] at q2; exact q2.elim
    | exc x s' =>
      rw [e] at q2
      exact fun w' σ' c dd H' le ok' rx => q2 w' c dd H' ok'.nx (ok'.fok.bk (.inr fun _ _ z => z.1)) (rx.bk (.inr fun _ _ z => z.1))
    | ok o s' =>
      rw [e] at q2
      cases o with
      | nx => exact fun w' σ' H' le ok' => q2 w' .non H' ok'.nx (ok'.fok.bk (.inr fun _ _ z => z.1)) .non
      | rt d => exact fun w' σ' v H' le ok' r' => q2 w' v H' ok'.nx (ok'.fok.bk (.inr fun _ _ z => z.1)) (r'.bk (.inr fun _ _ z => z.1))
      | bk => exact q2.elim
      | ct => exact q2.elim
  refine wpAny_call (codeAny_mono rc fun r s' hq => ?_)
  cases r with
  | error e => exact passAt tk σ pins H1 s1 e s' I1 hq
  | ok fl =>
    cases fl with
    | ret u => exact I1.after hq
    | next => exact False.elim hq
    | brk => exact False.elim hq
    | cont => exact False.elim hq
theorem pdo_lcL {elt tg iter : Expr} {ifs : List Expr} {scope : Scope} {own : List (Str × Nat)} {is : List Nat} {pos : Pos} {it : DA} {g : DG} {t : DT} {e : DE} (hc : X.calm = true) (hN : X.N.Nodup) (hi : PDI G W X tg iter it) (ok : BlkOk X.N X.env.scope scope own) (hs' : ∀ i ∈ is, i ∈ own.map (·.2))
    (hg : ∀ (s : Shared) (H : Hp) (C : Addr) (cl : List (Str × Addr)) (fp : List Addr), PDG G (X.blk s H scope (compEnvC scope cl C X.env) fp) tg is g) (ht : ∀ (s : Shared) (H : Hp) (C : Addr) (cl : List (Str × Addr)) (fp : List Addr), PTs (X.blk s H scope (compEnvC scope cl C X.env) fp) ifs (tDT G WF t))
    (he : ∀ (pins : List (Addr × Obj)) (σ : L2.St) (s : Shared) (H : Hp) (C : Addr) (cl : List (Str × Addr)) (fp : List Addr), Inv X pins σ H s → (∀ b ∈ fp, FpOk X pins H b) → PE (X.blk s H scope (compEnvC scope cl C X.env) fp) elt (fun σ' H' Q => L2.wipe σ' (own.map (·.2)) = L2.wipe σ (own.map (·.2)) ∧ tD G WF e σ' H' Q)) (hs : ∀ x, foldedSetIterable iter X.env x = pure x := by intro _; rfl) :
    PDo G W X (.ListComp elt [⟨tg, iter, ifs, 0⟩] scope pos) (aLc (own.map (·.2)) it g t e) :=
  (lcK hc hN hi ok hg ht he hs).imp fun σ H Q h => pdo_lc.lc_fin hs' h
end
end DL
set_option maxRecDepth 100000
set_option maxHeartbeats 4000000
set_option autoImplicit false
namespace DL
open PySem PySem.Spec PyProof.Rows L2 PySem.W
/-! ### o(..): an instance is called -/
section
variable {M : Model} {A : Around} {E : Value → Shared → Prop} {s : Shared} {env : Env} {pos : Pos} {x : Addr} {first : List Value} {Q : Value → Shared → Prop}
theorem callWithI_of {args : List (Bool × Sem Value)} {keywords : List (Option Str × Sem Value)} (hplain : (args.any (·.1) || keywords.any (·.1.isNone)) = false)
    (h : wpAny M A (evalArgs (.ref x) true args keywords) (fun a s₁ => (∃ (C : Addr) (ox : Obj) (od : Option Obj), PySem.W.InstAt s₁.heap x ox C od ∧ ox.data = .plain) ∧ wpAny M A (call (.ref x) (first ++ a.pos) a.kw) Q E s₁) E s) : wpAny M A (callWith pos (.ref x) first args keywords) Q E s := by
  unfold callWith
  refine wpAny_bind (wpAny_holding (wpAny_mono h (fun a s₁ h₁ => wpAny_bind (wpAny_standAt ?_)) fun _ _ y => y))
  obtain ⟨⟨C, ox, od, I, hd⟩, h2⟩ := h₁
  have L := PySem.W.kco_keeper (M := M) I hd
  simp only [hplain]
  refine wpAny_bind (L.here ?_)
  have tail : ∀ {t : Sem Value}, wpAny M A t Q E s₁ → wpAny M A (t >>= fun r => holding [r] point >>= fun _ => pure r) Q E s₁ :=
    fun ht => wpAny_bind (wpAny_mono ht (fun r s₂ hr => wpAny_bind (wpAny_holding (wpAny_point (wpAny_pure hr)))) fun _ _ y => y)
  exact tail (wpAny_operateT h2)
theorem callWithI {e : Expr} {rest : List Expr} (h : wpAny M A (spliced (backTo pos (starEach (e :: rest) env))) (fun vs s₁ => (∃ (C : Addr) (ox : Obj) (od : Option Obj), PySem.W.InstAt s₁.heap x ox C od ∧ ox.data = .plain) ∧ wpAny M A (call (.ref x) (first ++ vs)) Q E s₁) E s)
    (he : starEach (e :: rest) env = (false, eval e env) :: starEach rest env) (hplain : (backTo pos (starEach rest env)).any (·.1) = false) :
    wpAny M A (callWith pos (.ref x) first (backTo pos (starEach (e :: rest) env)) []) Q E s := by
  rw [he] at h ⊢
  exact callWithI_of (by show ((false || (backTo pos (starEach rest env)).any (·.1)) || false) = false; rw [hplain]; rfl) (PySem.Calls.evalArgs_plain h)
end
theorem fnIn_of {K : PySem.W.Frag} {x qual : Str} {st : Stmt} {f : Addr} {fd : FuncData} (F : Fun K x qual st f fd) : PySem.W.fnIn K f = true := by
  obtain ⟨oc, od, kV, doc, pm, an, cdv, ct, osl, _, lk, _⟩ := F.ex
  unfold PySem.W.fnIn
  rw [lk]
section
variable {G : Gam} {W : WX} {X : Cx}
def eCallI (c : String) (n : Nat) (g : DFn) (fo : DE) (fa : DA) : DE := fun s => (fo s).bind fun d s1 => match d with
  | .ins c' fs => if c' = c then (fa s1).bind fun ds s2 => if ds.length + 1 = n then lift s2 (g (.ins c' fs :: ds) s2.st) else .stuck
    else .stuck
  | _ => .stuck
theorem pd_callI (hK : G.K = X.K) {c : String} {n : Nat} {g : DFn} {fo : DE} {fa : DA} {C f : Addr} {k : Nat} {fd : FuncData} {ps : List Str} {o e : Expr} {es : List Expr} {pos : Pos} (he : PD G W X o fo) (hC : G.ct c = some C) (hm : Meth X.K C "__call__" f) (hfn : PySem.W.fnIn X.K f = true)
    (F : FnOk X.prog X.w X.K X.mg X.base (L2.CX X.prog X.w) k f fd ps (spG G n g)) (hr : Room k X.A) (hb : Binds X.K fd ps []) (tk : Takes X W) (ha : PDA G W X (e :: es) fa)
    (hst : starEach (e :: es) X.env = (false, eval e X.env) :: starEach es X.env := by rfl) (hpl : (backTo pos (starEach es X.env)).any (·.1) = false := by rfl)
    (ht : eval (.Call o (e :: es) [] pos) X.env = (do callWith pos (← eval o X.env) [] (backTo pos (starEach (e :: es) X.env)) (backToKw pos (keywordEach [] X.env))) := by rfl) :
    PD G W X (.Call o (e :: es) [] pos) (eCallI c n g fo fa) := by
  refine ⟨fun pins sh σ H Q I h => ?_⟩
  obtain ⟨κ, w, s, ok, q⟩ := h
  rw [ht]
  have hh : tD G W fo σ H fun v H1 => ∃ d s1 w1, w.le w1 ∧ Ok G κ w1 s1 σ H1 ∧ Rep G w1 v d ∧ PostG G W (Rep G) κ w1 σ (match d with
    | .ins c' fs => if c' = c then (fa s1).bind fun ds s2 => if ds.length + 1 = n then lift s2 (g (.ins c' fs :: ds) s2.st) else .stuck else .stuck
    | _ => .stuck) Q := ⟨κ, w, s, ok, PostG.bind q⟩
  refine wpAny_bind (thn (he.run pins sh σ H _ I hh) fun u s1 ⟨x, H1, I1, rx, d, t1, w1, le, ok1, r1, q1⟩ => ?_)
  cases d with
  | ins c' fs =>
    replace q1 : PostG G W (Rep G) κ w1 σ (if c' = c then (fa t1).bind fun ds s2 => if ds.length + 1 = n then lift s2 (g (.ins c' fs :: ds) s2.st) else .stuck else .stuck) Q := q1
    by_cases hc : c' = c
    · rw [if_pos hc] at q1
      subst hc
      cases r1 with
      | @ins a C' dx _ vs _ hC' hF rf =>
      rw [hC] at hC'
      cases hC'
      obtain rfl : u = Value.ref a := rx
      have hh2 : tDA G W fa σ H1 fun vs H2 => ∃ ds s2 w2, w1.le w2 ∧ Ok G κ w2 s2 σ H2 ∧ Reps G w2 vs ds ∧ PostG G W (Rep G) κ w2 σ (if ds.length + 1 = n then lift s2 (g (.ins c' fs :: ds) s2.st) else .stuck) Q := ⟨κ, w1, t1, ok1, PostG.bind q1⟩
      refine callWithI (first := []) (thn (ha.run pos pins s1 σ H1 _ I1 hh2) fun us s2 ⟨vs2, H2, I2, r2, ds, t2, w2, le2, ok2, rs2, q2⟩ => ?_) hst hpl
      obtain ⟨mA, J, _⟩ := ins_get I2.hok (ok2.fok.sub _ _ (le2.f _ _ hF))
      obtain ⟨od, J, _⟩ := J.look
      refine ⟨⟨C, _, _, J, rfl⟩, ?_⟩
      by_cases c3 : ds.length + 1 = n
      · rw [if_pos c3] at q2
        have rr : Reps G w2 (.ref a :: vs2) (.ins c' fs :: ds) := .cons (.ins hC (le2.f _ _ hF) (rf.mono le2)) rs2
        have hsp : spG G n g (.ref a :: vs2) H2 Q (WE W σ) := ⟨by rw [rr.length]; exact c3, w2, t2.st, _, ok2.fok, rr, postF_of ok2 q2⟩
        have hl := F.len _ _ _ _ hsp
        have rv : Vals (V.ref a :: vs2) (Value.ref a :: us) := .cons rfl r2
        have hl2 : (Value.ref a :: us).length = ps.length := by rw [← rv.length]; exact hl
        refine wpAny_call (PySem.W.kco_code (a := ⟨us, []⟩) I2.kIn J rfl hm.at_ hm.fn hfn (codeAny_mono (F.run X.A X.stack s2 H2 ⟨.ref a :: us, []⟩ (.ref a :: us) (.ref a :: vs2) Q (WE W σ) hr I2.env0 (by
          have := hb s2 (.ref a :: us) I2.kIn (by simpa using hl2)
          simpa using this) rv hsp) fun r s' hq => ?_))
        cases r with
        | error e => exact passAt tk σ pins H2 s2 e s' I2 hq
        | ok fl =>
          cases fl with
          | ret u => exact I2.after hq
          | next => exact False.elim hq
          | brk => exact False.elim hq
          | cont => exact False.elim hq
      · rw [if_neg c3] at q2
        exact q2.elim
    · rw [if_neg hc] at q1
      exact q1.elim
  | _ => exact q1.elim
/-! ### {} -/
def dNil : DD := fun s => .ok [] s
theorem pdod_nil {pos : Pos} : PDod G W X (.Dict [] [] pos) dNil :=
  pe_dnewK.imp fun σ H Q ⟨κ, w, s, ok, q⟩ => fun p hp => q w p [] _ (.refl _) (ok.fresh hp (.dK [])) (ok.apart hp) .nil
@[simp] theorem r_dNil (s : DS) : dNil s = .ok [] s := rfl
@[simp] theorem r_eCallI (c : String) (n : Nat) (g : DFn) (fo : DE) (fa : DA) (s : DS) : eCallI c n g fo fa s = (fo s).bind fun d s1 => match d with
  | .ins c' fs => if c' = c then (fa s1).bind fun ds s2 => if ds.length + 1 = n then lift s2 (g (.ins c' fs :: ds) s2.st) else .stuck else .stuck
  | _ => .stuck := rfl
end
end DL
set_option maxRecDepth 100000
set_option maxHeartbeats 4000000
set_option autoImplicit false
namespace DL
/-! ### readings, by simp -/
section
variable {s : DS} {st : List Cell} {sl : List Sl}
@[simp] theorem r_eC (d : D) (s : DS) : eC d s = .ok d s := rfl
@[simp] theorem r_eVar (i : Nat) (sl : List Sl) (st : List Cell) : eVar i ⟨sl, st⟩ = match sl[i]? with
  | some (.val d) => .ok d ⟨sl, st⟩
  | some (.ol xs) => .ok (.lst xs) ⟨sl.set i (.val (.lst xs)), st⟩
  | some (.od kvs) => .ok (.dic kvs) ⟨sl.set i (.val (.dic kvs)), st⟩
  | some (.oi c fs) => .ok (.ins c fs) ⟨sl.set i (.val (.ins c fs)), st⟩
  | _ => .stuck := rfl
@[simp] theorem r_eOp2 (o : D → D → Option D) (fa fb : DE) (s : DS) : eOp2 o fa fb s = (fa s).bind fun x s1 => (fb s1).bind fun y s2 => match o x y with | some d => .ok d s2 | none => .stuck := rfl
@[simp] theorem r_eOpX (o : DO2) (fa fb : DE) (s : DS) : eOpX o fa fb s = (fa s).bind fun x s1 => (fb s1).bind fun y s2 => o x y s2 := rfl
@[simp] theorem r_eB (f : DE) (s : DS) : eB f s = (f s).bind fun d s1 => match d with | .bl b => .ok b s1 | _ => .stuck := rfl
@[simp] theorem r_eTru (f : DE) (s : DS) : eTru f s = (f s).bind fun d s1 => match truD d with | some b => .ok b s1 | none => .stuck := rfl
@[simp] theorem r_bAnd (f g : DT) (s : DS) : bAnd f g s = (f s).bind fun b s1 => if b = true then g s1 else .ok false s1 := rfl
@[simp] theorem r_bOr (f g : DT) (s : DS) : bOr f g s = (f s).bind fun b s1 => if b = true then .ok true s1 else g s1 := rfl
@[simp] theorem r_bNot (f : DT) (s : DS) : bNot f s = (f s).bind fun b s1 => .ok (!b) s1 := rfl
@[simp] theorem r_bYes (s : DS) : bYes s = .ok true s := rfl
@[simp] theorem r_eAndT (f g : DE) (s : DS) : eAndT f g s = (f s).bind fun d s1 => match truD d with | some b => if b = true then g s1 else .ok d s1 | none => .stuck := rfl
@[simp] theorem r_eOrT (f g : DE) (s : DS) : eOrT f g s = (f s).bind fun d s1 => match truD d with | some b => if b = true then .ok d s1 else g s1 | none => .stuck := rfl
@[simp] theorem r_eNotT (f : DE) (s : DS) : eNotT f s = (f s).bind fun d s1 => match truD d with | some b => .ok (.bl (!b)) s1 | none => .stuck := rfl
@[simp] theorem r_eIf (c : DT) (f g : DE) (s : DS) : eIf c f g s = (c s).bind fun b s1 => if b = true then f s1 else g s1 := rfl
@[simp] theorem r_aNil (s : DS) : aNil s = .ok [] s := rfl
@[simp] theorem r_aCons (f : DE) (g : DA) (s : DS) : aCons f g s = (f s).bind fun d s1 => (g s1).bind fun ds s2 => .ok (d :: ds) s2 := rfl
@[simp] theorem r_eTup (g : DA) (s : DS) : eTup g s = (g s).bind fun ds s1 => if ds.length ≤ 1000 then .ok (.tup ds) s1 else .stuck := rfl
@[simp] theorem r_aMax (g : DA) (s : DS) : aMax g s = (g s).bind fun ds s1 => if ds.length ≤ 1000 then .ok ds s1 else .stuck := rfl
@[simp] theorem r_eFrz (f : DA) (s : DS) : eFrz f s = (f s).bind fun xs s1 => .ok (.lst xs) s1 := rfl
@[simp] theorem r_eFrzD (f : DD) (s : DS) : eFrzD f s = (f s).bind fun xs s1 => .ok (.dic xs) s1 := rfl
@[simp] theorem r_sPass (s : DS) : sPass s = .ok .nx s := rfl
@[simp] theorem r_sNever (s : DS) : sNever s = .stuck := rfl
@[simp] theorem r_sBreak (s : DS) : sBreak s = .ok .bk s := rfl
@[simp] theorem r_sCont (s : DS) : sCont s = .ok .ct s := rfl
@[simp] theorem r_sSeq (f g : DStm) (s : DS) : sSeq f g s = (f s).bind fun o s1 => match o with | .nx => g s1 | o => .ok o s1 := rfl
@[simp] theorem r_sExpr (f : DE) (s : DS) : sExpr f s = (f s).bind fun _ s1 => .ok .nx s1 := rfl
@[simp] theorem r_sRet (f : DE) (s : DS) : sRet f s = (f s).bind fun d s1 => .ok (.rt d) s1 := rfl
@[simp] theorem r_sIf (c : DT) (f g : DStm) (s : DS) : sIf c f g s = (c s).bind fun b s1 => if b = true then f s1 else g s1 := rfl
@[simp] theorem r_sSet (i : Nat) (f : DE) (s : DS) : sSet i f s = (f s).bind fun d s1 => .ok .nx ⟨s1.sl.set i (.val d), s1.st⟩ := rfl
@[simp] theorem r_sSetO (i : Nat) (f : DA) (s : DS) : sSetO i f s = (f s).bind fun xs s1 => .ok .nx ⟨s1.sl.set i (.ol xs), s1.st⟩ := rfl
@[simp] theorem r_gN (i : Nat) (d : D) (s : DS) : gN i d s = .ok () ⟨s.sl.set i (.val d), s.st⟩ := rfl
@[simp] theorem r_gsNil (s : DS) : gsNil [] s = .ok () s := rfl
@[simp] theorem r_gsCons (g : DG) (k : List D → DS → Res DS Unit) (d : D) (r : List D) (s : DS) : gsCons g k (d :: r) s = (g d s).bind fun _ s1 => k r s1 := rfl
@[simp] theorem r_gT (n : Nat) (g : List D → DS → Res DS Unit) (ds : List D) (s : DS) : gT n g (.tup ds) s = if ds.length = n then g ds s else .stuck := rfl
@[simp] theorem r_noX_ok {σ α : Type} (a : α) (t : σ) : noX (Res.ok a t) = .ok a t := rfl
@[simp] theorem r_noX_stuck {σ α : Type} : noX (Res.stuck : Res σ α) = .stuck := rfl
@[simp] theorem r_noX_exc {σ α : Type} (x : Xc) (t : σ) : noX (Res.exc x t : Res σ α) = .stuck := rfl
@[simp] theorem r_sAsgT (f : DE) (g : DG) (s : DS) : sAsgT f g s = (f s).bind fun d s1 => (noX (g d s1)).bind fun _ s2 => .ok .nx s2 := rfl
@[simp] theorem r_sPar (i j : Nat) (f : DA) (s : DS) : sPar i j f s = (f s).bind fun ds s1 => match ds with | [x, y] => .ok .nx ⟨(s1.sl.set i (.val x)).set j (.val y), s1.st⟩ | _ => .stuck := rfl
@[simp] theorem r_sPar3 (i j l : Nat) (f : DA) (s : DS) : sPar3 i j l f s = (f s).bind fun ds s1 => match ds with | [x, y, z] => .ok .nx ⟨((s1.sl.set i (.val x)).set j (.val y)).set l (.val z), s1.st⟩ | _ => .stuck := rfl
@[simp] theorem r_lo_nx (s : DS) (k : DS → Res DS Out) : loopOut (.ok .nx s) k = k s := rfl
@[simp] theorem r_lo_ct (s : DS) (k : DS → Res DS Out) : loopOut (.ok .ct s) k = k s := rfl
@[simp] theorem r_lo_bk (s : DS) (k : DS → Res DS Out) : loopOut (.ok .bk s) k = .ok .nx s := rfl
@[simp] theorem r_lo_rt (d : D) (s : DS) (k : DS → Res DS Out) : loopOut (.ok (.rt d) s) k = .ok (.rt d) s := rfl
@[simp] theorem r_lo_stuck (k : DS → Res DS Out) : loopOut .stuck k = .stuck := rfl
@[simp] theorem r_for_nil (g : DG) (b : DStm) (s : DS) : forL g b [] s = .ok .nx s := rfl
@[simp] theorem r_for_cons (g : DG) (b : DStm) (d : D) (r : List D) (s : DS) : forL g b (d :: r) s = (noX (g d s)).bind fun _ s1 => loopOut (b s1) (forL g b r) := rfl
@[simp] theorem r_sFor (it : DA) (g : DG) (b : DStm) (s : DS) : sFor it g b s = (it s).bind fun ds s1 => forL g b ds s1 := rfl
@[simp] theorem r_itSeq (f : DE) (s : DS) : itSeq f s = (f s).bind fun d s1 => match itemsD d with | some xs => .ok xs s1 | none => .stuck := rfl
@[simp] theorem r_itemsD_l (xs : List D) : itemsD (.lst xs) = some xs := rfl
@[simp] theorem r_itemsD_s (xs : List D) : itemsD (.scr xs) = some xs := rfl
@[simp] theorem r_itemsD_t (xs : List D) : itemsD (.tup xs) = some xs := rfl
@[simp] theorem r_itemsD_str (xs : Nm) : itemsD (.str xs) = some (xs.map fun c => .str [c]) := rfl
@[simp] theorem r_eCall (n : Nat) (g : DFn) (fa : DA) (s : DS) : eCall n g fa s = (fa s).bind fun ds s1 => if ds.length = n then lift s1 (g ds s1.st) else .stuck := rfl
@[simp] theorem r_lift_ok {α : Type} (s : DS) (d : α) (S : List Cell) : lift s (.ok d S) = .ok d ⟨s.sl, S⟩ := rfl
@[simp] theorem r_lift_exc {α : Type} (s : DS) (x : Xc) (S : List Cell) : lift s (.exc x S : Res (List Cell) α) = .exc x ⟨s.sl, S⟩ := rfl
@[simp] theorem r_lift_stuck {α : Type} (s : DS) : lift s (.stuck : Res (List Cell) α) = .stuck := rfl
@[simp] theorem r_eMake (c : String) (n : Nat) (g : DIn) (fa : DA) (s : DS) : eMake c n g fa s = (fa s).bind fun ds s1 => if ds.length = n then (lift s1 (g ds s1.st)).bind fun fs s2 => .ok (.ins c fs) s2 else .stuck := rfl
@[simp] theorem r_eMeth (c : String) (m : Nm) (n : Nat) (g : DFn) (fo : DE) (fa : DA) (s : DS) : eMeth c m n g fo fa s = (fo s).bind fun d s1 => match insOf d s1 with
  | some (c', fs) => if c' = c ∧ fs.lookup m = none then (fa s1).bind fun ds s2 => if ds.length + 1 = n then lift s2 (g (d :: ds) s2.st) else .stuck else .stuck
  | none => .stuck := rfl
@[simp] theorem r_eFld (cs : List String) (fn : Nm) (f : DE) (s : DS) : eFld cs fn f s = (f s).bind fun d s1 => match insOf d s1 with
  | some (c, fs) => if c ∈ cs then match fs.lookup fn with | some x => .ok x s1 | none => .stuck else .stuck
  | none => .stuck := rfl
@[simp] theorem r_insOf (c : String) (fs : List (Nm × D)) (s : DS) : insOf (.ins c fs) s = some (c, fs) := rfl
@[simp] theorem r_eInv (c : String) (g : DFn) (f : DE) (s : DS) : eInv c g f s = (f s).bind fun d s1 => match insOf d s1 with | some (c1, _) => if c1 = c then lift s1 (g [d] s1.st) else .stuck | none => .stuck := rfl
@[simp] theorem r_ownO (c c1 c2 : String) (f1 f2 : List (Nm × D)) (g : DFn) (s : DS) : ownO c g (.ins c1 f1) (.ins c2 f2) s = if c1 = c ∧ c2 = c then lift s (g [.ins c1 f1, .ins c2 f2] s.st) else .stuck := rfl
@[simp] theorem r_ownNe (c : String) (g : DFn) (x y : D) (s : DS) : ownNe c g x y s = negD (ownO c g x y s) := rfl
@[simp] theorem r_negD (b : Bool) (s : DS) : negD (.ok (.bl b) s) = .ok (.bl (!b)) s := rfl
@[simp] theorem r_eCB (o : List D → Option D) (fa : DA) (s : DS) : eCB o fa s = (fa s).bind fun ds s1 => match o ds with | some d => .ok d s1 | none => .stuck := rfl
@[simp] theorem r_eNeg (f : DE) (s : DS) : eNeg f s = (f s).bind fun d s1 => match d with | .int i => .ok (.int (-i)) s1 | _ => .stuck := rfl
@[simp] theorem r_eIx (fa fb : DE) (s : DS) : eIx fa fb s = (fa s).bind fun x s1 => (fb s1).bind fun y s2 => match y with | .int i => (match ixD x i with | some d => .ok d s2 | none => .stuck) | _ => .stuck := rfl
@[simp] theorem r_sFldO (c : String) (i : Nat) (fn : Nm) (f : DE) (s : DS) : sFldO c i fn f s = (f s).bind fun d s1 => match s1.sl[i]? with
  | some (.oi c' fs) => if c' = c ∧ fs.length < 1000 then .ok .nx ⟨s1.sl.set i (.oi c (putN fn d fs)), s1.st⟩ else .stuck
  | _ => .stuck := rfl
@[simp] theorem r_aList (fa : DA) (s : DS) : aList fa s = (fa s).bind fun ds s1 => match ds with | [d] => (match seqD d with | some xs => .ok xs s1 | none => .stuck) | _ => .stuck := rfl
@[simp] theorem r_seqD_l (xs : List D) : seqD (.lst xs) = some xs := rfl
@[simp] theorem r_seqD_s (xs : List D) : seqD (.scr xs) = some xs := rfl
@[simp] theorem r_seqD_t (xs : List D) : seqD (.tup xs) = some xs := rfl
@[simp] theorem r_oNone (s : DS) : oNone s = .ok none s := rfl
@[simp] theorem r_oSome (f : DE) (s : DS) : oSome f s = (f s).bind fun d s1 => match d with | .int i => .ok (some i) s1 | _ => .stuck := rfl
@[simp] theorem r_aSl (f : DE) (l h : DOp) (s : DS) : aSl f l h s = (f s).bind fun d s1 => (l s1).bind fun lo s2 => (h s2).bind fun hi s3 => match d with | .lst xs => .ok (cutD xs lo hi) s3 | .scr xs => .ok (cutD xs lo hi) s3 | _ => .stuck := rfl
@[simp] theorem r_eSlT (f : DE) (l h : DOp) (s : DS) : eSlT f l h s = (f s).bind fun d s1 => (l s1).bind fun lo s2 => (h s2).bind fun hi s3 => match d with | .tup xs => if (cutD xs lo hi).length ≠ xs.length then .ok (.tup (cutD xs lo hi)) s3 else .stuck | _ => .stuck := rfl
@[simp] theorem r_eSlA (f : DE) (l h : DOp) (s : DS) : eSlA f l h s = (f s).bind fun d s1 => (l s1).bind fun lo s2 => (h s2).bind fun hi s3 => match slD d lo hi with | some x => .ok x s3 | none => .stuck := rfl
@[simp] theorem r_slD_l (xs : List D) (lo hi : Option Int) : slD (.lst xs) lo hi = some (.lst (cutD xs lo hi)) := rfl
@[simp] theorem r_slD_s (xs : List D) (lo hi : Option Int) : slD (.scr xs) lo hi = some (.lst (cutD xs lo hi)) := rfl
@[simp] theorem r_slD_t (xs : List D) (lo hi : Option Int) : slD (.tup xs) lo hi = if (cutD xs lo hi).length ≠ xs.length then some (.tup (cutD xs lo hi)) else none := rfl
/-! data -/
@[simp] theorem r_iAdd (i j : Int) : iAdd (.int i) (.int j) = some (.int (i + j)) := rfl
@[simp] theorem r_dAdd (i j : Int) : dAdd (.int i) (.int j) = some (.int (i + j)) := rfl
@[simp] theorem r_iSub (i j : Int) : iSub (.int i) (.int j) = some (.int (i - j)) := rfl
@[simp] theorem r_dMul (i j : Int) : dMul (.int i) (.int j) = if mulOk i j = true then some (.int (i * j)) else none := rfl
@[simp] theorem r_iDiv (i j : Int) : iDiv (.int i) (.int j) = if divOk j = true then some (.int (i.fdiv j)) else none := rfl
@[simp] theorem r_iMod (i j : Int) : iMod (.int i) (.int j) = if j ≠ 0 then some (.int (i.fmod j)) else none := rfl
@[simp] theorem r_iPow (i j : Int) : iPow (.int i) (.int j) = if 0 ≤ j ∧ j ≤ 1000000 ∧ i.natAbs < 2 ^ 64 then some (.int (i ^ j.toNat)) else none := rfl
@[simp] theorem r_iLt (i j : Int) : iLt (.int i) (.int j) = some (.bl (decide (i < j))) := rfl
@[simp] theorem r_iLe (i j : Int) : iLe (.int i) (.int j) = some (.bl (decide (i ≤ j))) := rfl
@[simp] theorem r_iGt (i j : Int) : iGt (.int i) (.int j) = some (.bl (decide (j < i))) := rfl
@[simp] theorem r_iGe (i j : Int) : iGe (.int i) (.int j) = some (.bl (decide (j ≤ i))) := rfl
@[simp] theorem r_dEq_int (i j : Int) : dEq (.int i) (.int j) = some (.bl (decide (i = j))) := by
  show (if (true && true) = true then some (D.bl (i == j)) else none) = _
  simp [Bool.beq_eq_decide_eq]
@[simp] theorem r_dNe_int (i j : Int) : dNe (.int i) (.int j) = some (.bl (!decide (i = j))) := by
  show (if (true && true) = true then some (D.bl (!(i == j))) else none) = _
  simp [Bool.beq_eq_decide_eq]
@[simp] theorem r_dIsN (x : D) : dIsN x .non = some (.bl (isNonD x)) := rfl
@[simp] theorem r_dNotN (x : D) : dNotN x .non = some (.bl (!isNonD x)) := rfl
@[simp] theorem r_isNon : isNonD .non = true := rfl
@[simp] theorem r_isNon_t (xs : List D) : isNonD (.tup xs) = false := rfl
@[simp] theorem r_isNon_i (i : Int) : isNonD (.int i) = false := rfl
@[simp] theorem r_isNon_n (c : String) (fs : List (Nm × D)) : isNonD (.ins c fs) = false := rfl
@[simp] theorem r_isNon_l (xs : List D) : isNonD (.lst xs) = false := rfl
@[simp] theorem r_tru_bl (b : Bool) : truD (.bl b) = some b := rfl
@[simp] theorem r_tru_non : truD .non = some false := rfl
@[simp] theorem r_tru_int (i : Int) : truD (.int i) = some (i != 0) := rfl
@[simp] theorem r_tru_lst (xs : List D) : truD (.lst xs) = some (!xs.isEmpty) := rfl
@[simp] theorem r_tru_tup (xs : List D) : truD (.tup xs) = some (!xs.isEmpty) := rfl
@[simp] theorem r_bInt (i : Int) : bInt [.int i] = some (.int i) := rfl
@[simp] theorem r_bInt_b (b : Bool) : bInt [.bl b] = some (.int (if b then 1 else 0)) := rfl
@[simp] theorem r_bLen_l (xs : List D) : bLen [.lst xs] = some (.int xs.length) := rfl
@[simp] theorem r_bLen_s (xs : List D) : bLen [.scr xs] = some (.int xs.length) := rfl
@[simp] theorem r_bLen_t (xs : List D) : bLen [.tup xs] = some (.int xs.length) := rfl
@[simp] theorem r_bAbs (i : Int) : bAbs [.int i] = some (.int (if i < 0 then -i else i)) := rfl
@[simp] theorem r_bTup_l (xs : List D) : bTup [.lst xs] = some (.tup xs) := rfl
@[simp] theorem r_bTup_t (xs : List D) : bTup [.tup xs] = some (.tup xs) := rfl
@[simp] theorem r_bMax (i j : Int) : bMax2 [.int i, .int j] = some (.int (if j > i then j else i)) := rfl
@[simp] theorem r_bMin (i j : Int) : bMin2 [.int i, .int j] = some (.int (if j < i then j else i)) := rfl
@[simp] theorem r_ix_t (xs : List D) (i : Int) : ixD (.tup xs) i = L2.atI xs i := rfl
@[simp] theorem r_ix_l (xs : List D) (i : Int) : ixD (.lst xs) i = L2.atI xs i := rfl
@[simp] theorem r_ix_s (xs : List D) (i : Int) : ixD (.scr xs) i = L2.atI xs i := rfl
@[simp] theorem r_at0 {α : Type} (x : α) (r : List α) : L2.atI (x :: r) 0 = some x := L2.atI_nat (j := 0) rfl
@[simp] theorem r_at1 {α : Type} (x y : α) (r : List α) : L2.atI (x :: y :: r) 1 = some y := L2.atI_nat (j := 1) rfl
@[simp] theorem r_at2 {α : Type} (x y z : α) (r : List α) : L2.atI (x :: y :: z :: r) 2 = some z := L2.atI_nat (j := 2) rfl
@[simp] theorem r_at3 {α : Type} (x y z u : α) (r : List α) : L2.atI (x :: y :: z :: u :: r) 3 = some u := L2.atI_nat (j := 3) rfl
/-! isinstance -/
theorem mem_ty : ("int" ∈ tyNames) = True ∧ ("bool" ∈ tyNames) = True ∧ ("str" ∈ tyNames) = True ∧ ("list" ∈ tyNames) = True ∧ ("tuple" ∈ tyNames) = True ∧ ("dict" ∈ tyNames) = True ∧ ("NoneType" ∈ tyNames) = True := by simp [tyNames]
@[simp] theorem r_isi_int_int (cs : List String) (i : Int) : bIsi cs [.int i, .ty "int"] = some (.bl true) := by simp [bIsi, tyOfD, tyD, isOne, mem_ty, isTy]
@[simp] theorem r_isi_int_bool (cs : List String) (i : Int) : bIsi cs [.int i, .ty "bool"] = some (.bl false) := by simp [bIsi, tyOfD, tyD, isOne, mem_ty, isTy]
@[simp] theorem r_isi_ins_cls (cs : List String) (c : String) (fs : List (Nm × D)) (c' : String) (h : c ∈ cs := by simp) (h' : c' ∈ cs := by simp) : bIsi cs [.ins c fs, .cls c'] = some (.bl (c == c')) := by simp [bIsi, tyOfD, isOne, h, h']
@[simp] theorem r_isi_int_cls (cs : List String) (i : Int) (c' : String) (h' : c' ∈ cs := by simp) : bIsi cs [.int i, .cls c'] = some (.bl false) := by simp [bIsi, tyOfD, tyD, isOne, h', mem_ty]
@[simp] theorem r_isi_non_cls (cs : List String) (c' : String) (h' : c' ∈ cs := by simp) : bIsi cs [.non, .cls c'] = some (.bl false) := by simp [bIsi, tyOfD, tyD, isOne, h', mem_ty]
end
/-! ### bits -/
class Bd (x : Int) (n : outParam Nat) : Prop where
  lt : x.natAbs < 2 ^ n
theorem Bd.le {x : Int} {n m : Nat} (h : Bd x n) (hnm : n ≤ m) : Bd x m := ⟨Nat.lt_of_lt_of_le h.lt (Nat.pow_le_pow_right (by decide) hnm)⟩
instance bd_add {x y : Int} {m n : Nat} [h : Bd x m] [k : Bd y n] : Bd (x + y) (m + n + 1) := ⟨by
  have h1 := h.lt
  have h2 := k.lt
  have h3 : (2 : Nat) ^ m ≤ 2 ^ (m + n) := Nat.pow_le_pow_right (by decide) (by omega)
  have h4 : (2 : Nat) ^ n ≤ 2 ^ (m + n) := Nat.pow_le_pow_right (by decide) (by omega)
  have h5 : (2 : Nat) ^ (m + n + 1) = 2 ^ (m + n) * 2 := Nat.pow_succ ..
  omega⟩
instance bd_neg {x : Int} {m : Nat} [h : Bd x m] : Bd (-x) m := ⟨by rw [Int.natAbs_neg]; exact h.lt⟩
instance bd_sub {x y : Int} {m n : Nat} [h : Bd x m] [k : Bd y n] : Bd (x - y) (m + n + 1) := by
  rw [Int.sub_eq_add_neg]; exact bd_add
instance bd_mul {x y : Int} {m n : Nat} [h : Bd x m] [k : Bd y n] : Bd (x * y) (m + n) := ⟨by
  rw [Int.natAbs_mul, Nat.pow_add]
  exact Nat.mul_lt_mul'' h.lt k.lt⟩
instance bd_0 : Bd 0 0 := ⟨by decide⟩
instance bd_1 : Bd 1 1 := ⟨by decide⟩
theorem log2_lt {x : Int} {n : Nat} (h : Bd x n) : x.natAbs.log2 ≤ n := by
  have := h.lt
  by_cases e : x.natAbs = 0
  · rw [e]; simp
  · exact Nat.le_of_lt ((Nat.log2_lt e).mpr this)
theorem mulOk_of {x y : Int} {m n : Nat} (h : Bd x m) (k : Bd y n) (hl : m + n < 100000000) : mulOk x y = true := by
  unfold mulOk
  have h1 := log2_lt h
  have h2 := log2_lt k
  exact decide_eq_true (by omega)
@[simp] theorem mulOk_bd {x y : Int} {m n : Nat} [h : Bd x m] [k : Bd y n] (hl : m + n < 100000000) : mulOk x y = true := mulOk_of h k hl
theorem divOk_of {y : Int} {n : Nat} (k : Bd y n) (h0 : y ≠ 0) (hl : n < 9000) : divOk y = true := by
  unfold divOk
  exact decide_eq_true ⟨h0, Nat.lt_of_le_of_lt (log2_lt k) hl⟩
@[simp] theorem divOk_bd {y : Int} {n : Nat} [k : Bd y n] (h0 : y ≠ 0) (hl : n < 9000) : divOk y = true := divOk_of k h0 hl
@[simp] theorem divOk_2 : divOk 2 = true := by decide
end DL
set_option maxRecDepth 100000
set_option maxHeartbeats 4000000
set_option autoImplicit false
namespace DL
@[simp] theorem r_eDGet (fo fi : DE) (s : DS) : eDGet fo fi s = (fo s).bind fun d s1 => (fi s1).bind fun k s2 => match dictOf d s2, kOf k with
  | some kvs, some k => match dLook kvs k with
    | some x => .ok x s2
    | none => .stuck
  | _, _ => .stuck := rfl
@[simp] theorem r_dictOf_c (n : Nat) (sl : List Sl) (st : List Cell) : dictOf (.cell n) ⟨sl, st⟩ = match st[n]? with | some (.dic kvs) => some kvs | _ => none := rfl
@[simp] theorem r_dictOf_d (kvs : List (DK × D)) (s : DS) : dictOf (.dic kvs) s = some kvs := rfl
@[simp] theorem r_kOf_s (l : List Nat) : kOf (.str l) = some (.s l) := rfl
@[simp] theorem r_kOf_i (l : Int) : kOf (.int l) = some (.i l) := rfl
@[simp] theorem r_sDPutC (fo fi fv : DE) (s : DS) : sDPutC fo fi fv s = (fv s).bind fun x s1 => (fo s1).bind fun d s2 => (fi s2).bind fun k s3 => match d, kOf k with
  | .cell n, some k => match s3.st[n]? with
    | some (.dic kvs) => if kvs.length < 1000000 ∧ keysNd kvs = true then .ok .nx ⟨s3.sl, s3.st.set n (.dic (dPut kvs k x))⟩ else .stuck
    | _ => .stuck
  | _, _ => .stuck := rfl
@[simp] theorem r_eCellD (f : DD) (s : DS) : eCellD f s = (f s).bind fun xs s1 => .ok (.cell s1.st.length) ⟨s1.sl, s1.st ++ [.dic xs]⟩ := rfl
@[simp] theorem r_dDisp (fs : List (DE × DE)) (s : DS) : dDisp fs s = (pairsD fs s).bind fun ps s1 => match keyed ps with
  | some kvs => if kvs.length ≤ 15 ∧ keysNd kvs = true then .ok kvs s1 else .stuck
  | none => .stuck := rfl
@[simp] theorem r_pairs_nil (s : DS) : pairsD [] s = .ok [] s := rfl
@[simp] theorem r_pairs_cons (fk fv : DE) (r : List (DE × DE)) (s : DS) : pairsD ((fk, fv) :: r) s = (fk s).bind fun k s1 => (fv s1).bind fun x s2 => (pairsD r s2).bind fun ps s3 => .ok ((k, x) :: ps) s3 := rfl
@[simp] theorem r_keyed_nil : keyed [] = some [] := rfl
@[simp] theorem r_keyed_cons (k x : D) (r : List (D × D)) : keyed ((k, x) :: r) = match kOf k, keyed r with
    | some k, some r => some ((k, x) :: r)
    | _, _ => none := rfl
@[simp] theorem r_itR1 (f : DA) (s : DS) : itR1 f s = (f s).bind fun ds s1 => match ds with
  | [.int j] => if -(2 ^ 62) ≤ j ∧ j < 2 ^ 62 then .ok (rngL 0 j.toNat) s1 else .stuck
  | _ => .stuck := rfl
@[simp] theorem r_itEnum_l (f : DA) (s : DS) : itEnum f s = (f s).bind fun ds s1 => match ds with
  | [.lst xs] => .ok (enumL xs) s1
  | [.scr xs] => .ok (enumL xs) s1
  | _ => .stuck := rfl
@[simp] theorem r_itZip (f : DA) (s : DS) : itZip f s = (f s).bind fun ds s1 => match ds with
  | [.lst xs, .lst ys] => .ok (zipL xs ys) s1
  | [.tup xs, .tup ys] => .ok (zipL xs ys) s1
  | _ => .stuck := rfl
@[simp] theorem r_aLc (vs : List Nat) (it : DA) (g : DG) (t : DT) (e : DE) (s : DS) : aLc vs it g t e s = (it s).bind fun items s1 => (noX (lcL vs g t e items [] s1)).bind fun ys s2 => .ok ys ⟨unwipe vs s1.sl (wipeD vs s2.sl), s2.st⟩ := rfl
@[simp] theorem r_lc_nil (vs : List Nat) (g : DG) (t : DT) (e : DE) (acc : List D) (s : DS) : lcL vs g t e [] acc s = .ok acc s := rfl
@[simp] theorem r_lc_cons (vs : List Nat) (g : DG) (t : DT) (e : DE) (d : D) (r acc : List D) (s : DS) : lcL vs g t e (d :: r) acc s = (noX (g d (wipeS vs s))).bind fun _ s1 => (noX (t s1)).bind fun b s2 => if b = true then (noX (e s2)).bind fun y s3 => if acc.length < 1000000 then lcL vs g t e r (acc ++ [y]) s3 else .stuck
    else lcL vs g t e r acc s2 := rfl
@[simp] theorem r_wipe_nil (l : List Sl) : wipeD [] l = l := rfl
@[simp] theorem r_wipe_cons (v : Nat) (vs : List Nat) (l : List Sl) : wipeD (v :: vs) l = (wipeD vs l).set v .un := rfl
@[simp] theorem r_wipeS (vs : List Nat) (s : DS) : wipeS vs s = ⟨wipeD vs s.sl, s.st⟩ := rfl
@[simp] theorem r_unw_nil (o l : List Sl) : unwipe [] o l = l := rfl
@[simp] theorem r_unw_cons (v : Nat) (vs : List Nat) (o l : List Sl) : unwipe (v :: vs) o l = (unwipe vs o l).set v (match o[v]? with | some (.val d) => .val d | _ => .un) := rfl
@[simp] theorem r_sApp (i : Nat) (fa : DA) (s : DS) : sApp i fa s = match s.sl[i]? with
  | some (.ol _) => (fa s).bind fun ds s1 => match ds, s1.sl[i]? with
    | [d], some (.ol xs) => if xs.length < 1000000 then .ok .nx ⟨s1.sl.set i (.ol (xs ++ [d])), s1.st⟩ else .stuck
    | _, _ => .stuck
  | _ => .stuck := rfl
/-! data equality -/
open PySem in
theorem pys_ints (ns : List Int) : toPys (ns.map D.int) = some (ns.map PyData.int) := by
  induction ns with
  | nil => rfl
  | cons a r ih => simp [toPys, toPy, ih]
open PySem in
theorem can_ints (ns : List Int) : PyData.canLayAll0 (ns.map PyData.int) = true := by
  induction ns with
  | nil => rfl
  | cons a r ih => simp [PyData.canLayAll0, PyData.canLay0, ih]
open PySem in
theorem dep_ints (ns : List Int) : PyData.depthAll (ns.map PyData.int) = 0 := by
  induction ns with
  | nil => rfl
  | cons a r ih => simp [PyData.depthAll, PyData.depth, ih]
open PySem in
@[simp] theorem r_ne_nil (ns : List Int) : dNe (.lst (ns.map D.int)) (.lst []) = some (.bl (!ns.isEmpty)) := by
  cases ns with
  | nil => simp [dNe, toPy, toPys, SeqAt.shaped, PyData.canLay0, PyData.depth, PyData.depthAll, PyData.eqv, PyData.eqvAll, PyData.canLayAll0]
  | cons a r => simp [dNe, toPy, toPys, pys_ints, can_ints, dep_ints, SeqAt.shaped, PyData.canLay0, PyData.depth, PyData.depthAll, PyData.eqv, PyData.eqvAll, PyData.canLayAll0]
@[simp] theorem r_ne_nil0 : dNe (.lst []) (.lst []) = some (.bl false) := r_ne_nil []
/-! the draw pen -/
abbrev penD (cs : List Int) (c l : Int) : List (DK × D) := [(.s [99, 101, 108, 108, 115], .lst (cs.map D.int)), (.s [99, 111, 117, 110, 116], .int c), (.s [108, 101, 102, 116], .int l)]
def Pen (n : Nat) (S : List Cell) : Prop := ∃ cs c l, S = [.dic (penD cs c l)] ∧ 0 ≤ c ∧ c ≤ n ∧ 0 ≤ l
theorem Pen.mono {n m : Nat} {S : List Cell} (h : Pen n S) (hm : n ≤ m) : Pen m S := by
  obtain ⟨cs, c, l, h1, h2, h3, h4⟩ := h
  exact ⟨cs, c, l, h1, h2, by omega, h4⟩
theorem ix_mod (cs : List Int) (c : Int) (h : cs ≠ []) : ∃ x : Int, L2.atI (cs.map D.int) (c.fmod cs.length) = some (.int x) := by
  have hp : (0 : Int) < cs.length := by
    cases cs with
    | nil => exact absurd rfl h
    | cons a r => simp
  have h1 : 0 ≤ c.fmod cs.length := Int.fmod_nonneg_of_pos _ hp
  have h2 : c.fmod cs.length < cs.length := Int.fmod_lt_of_pos _ hp
  obtain ⟨k, hk⟩ := Int.eq_ofNat_of_zero_le h1
  rw [hk] at h2 ⊢
  have h3 : k < cs.length := by omega
  refine ⟨cs[k], ?_⟩
  have : (cs.map D.int)[k]? = some (D.int cs[k]) := by simp [h3]
  exact L2.atI_nat this
theorem Bd.of_range {x : Int} {m n : Nat} (h0 : 0 ≤ x) (h1 : x < m) (h : m ≤ 2 ^ n) : Bd x n := ⟨by omega⟩
end DL
set_option maxRecDepth 100000
set_option maxHeartbeats 4000000
set_option autoImplicit false
namespace DL
/-! more bounds -/
instance bd_half {x : Int} {n : Nat} [h : Bd x n] : Bd (x.fdiv 2) n := ⟨by
  have := h.lt
  rw [Int.fdiv_eq_ediv_of_nonneg _ (by decide)]
  omega⟩
instance bd_abs {x : Int} {n : Nat} [h : Bd x n] : Bd (if x < 0 then -x else x) n := ⟨by
  have := h.lt
  split
  · rw [Int.natAbs_neg]; exact this
  · exact this⟩
instance bd_ite {c : Prop} [Decidable c] {x y : Int} {m n : Nat} [h : Bd x m] [k : Bd y n] : Bd (if c then x else y) (m + n) := ⟨by
  split
  · exact Nat.lt_of_lt_of_le h.lt (Nat.pow_le_pow_right (by decide) (by omega))
  · exact Nat.lt_of_lt_of_le k.lt (Nat.pow_le_pow_right (by decide) (by omega))⟩
theorem Bd.of_le {x : Int} {y : Int} {n : Nat} (k : Bd y n) (h0 : 0 ≤ x) (h : x ≤ y) : Bd x n := ⟨by have := k.lt; omega⟩
theorem fdiv_le_abs (x y : Int) : (x.fdiv y).natAbs ≤ x.natAbs + 1 := by
  by_cases hy : y = 0
  · subst hy; simp
  have key : ∀ x y : Int, 0 < y → (x.fdiv y).natAbs ≤ x.natAbs + 1 := fun x y hy => by
    have h1 : y * x.fdiv y + x.fmod y = x := Int.mul_fdiv_add_fmod x y
    have h2 : 0 ≤ x.fmod y := Int.fmod_nonneg_of_pos _ hy
    have h3 : x.fmod y < y := Int.fmod_lt_of_pos _ hy
    generalize x.fdiv y = q at *
    by_cases c : 0 ≤ q
    · have := Int.mul_nonneg (show 0 ≤ y - 1 by omega) c
      rw [Int.sub_mul] at this
      omega
    · have := Int.mul_nonneg (show 0 ≤ y - 1 by omega) (show 0 ≤ -q - 1 by omega)
      rw [show (y - 1) * (-q - 1) = -(y * q) - y + q + 1 by grind] at this
      omega
  by_cases c : 0 < y
  · exact key x y c
  · have h := key (-x) (-y) (by omega)
    rw [show (-x).fdiv (-y) = x.fdiv y from Int.neg_fdiv_neg x y, Int.natAbs_neg] at h
    exact h
instance bd_fdiv {x y : Int} {n : Nat} [h : Bd x n] : Bd (x.fdiv y) (n + 1) := ⟨by
  have h1 := h.lt
  have h2 := fdiv_le_abs x y
  have h3 : (2 : Nat) ^ (n + 1) = 2 ^ n * 2 := Nat.pow_succ ..
  have h4 : 1 ≤ (2 : Nat) ^ n := Nat.one_le_two_pow
  omega⟩
/-! readings of DLu -/
@[simp] theorem r_eBits (f : DE) (s : DS) : eBits f s = (f s).bind fun d s1 => match d with | .int i => .ok (.int (PySem.Builtin.Int.intBits i : Nat)) s1 | _ => .stuck := rfl
@[simp] theorem r_sRaise (c : String) (f : Nm) (fa : DA) (s : DS) : sRaise c f fa s = (fa s).bind fun ds s1 => match ds with | [d] => .exc ⟨c, [(f, d)]⟩ s1 | _ => .stuck := rfl
@[simp] theorem r_iShl (i j : Int) : iShl (.int i) (.int j) = if 0 ≤ j ∧ j ≤ 1000000 ∧ i.natAbs < 2 ^ 64 then some (.int (i * 2 ^ j.toNat)) else none := rfl
@[simp] theorem r_inS (neg : Bool) (c : Nat) (l : Nm) : dIn neg (.str [c]) (.str l) = some (.bl (if neg then !decide (c ∈ l) else decide (c ∈ l))) := rfl
@[simp] theorem r_lo_exc (x : Xc) (s : DS) (k : DS → Res DS Out) : loopOut (.exc x s) k = .exc x s := rfl
theorem inF_ints (neg : Bool) (i : Int) (ns : List Int) : dIn neg (.int i) (.tup (ns.map D.int)) = some (.bl (if neg then !decide (i ∈ ns) else decide (i ∈ ns))) := by
  have h1 : (ns.map D.int).all flD = true := by simp [flD]
  have h2 : (ns.map D.int).any (fun z => eqFl z (.int i)) = decide (i ∈ ns) := by
    induction ns with
    | nil => rfl
    | cons a r ih =>
      simp only [List.map_cons, List.any_cons, ih (by simp [flD])]
      show ((a == i) || decide (i ∈ r)) = _
      by_cases e : a = i
      · subst e; simp
      · simp [e, Ne.symm e]
  simp [dIn, inS, inF, h1, h2, flD]
theorem inF_intsL (neg : Bool) (i : Int) (ns : List Int) : dIn neg (.int i) (.lst (ns.map D.int)) = some (.bl (if neg then !decide (i ∈ ns) else decide (i ∈ ns))) := by
  have h1 : (ns.map D.int).all flD = true := by simp [flD]
  have h2 : (ns.map D.int).any (fun z => eqFl z (.int i)) = decide (i ∈ ns) := by
    induction ns with
    | nil => rfl
    | cons a r ih =>
      simp only [List.map_cons, List.any_cons, ih (by simp [flD])]
      show ((a == i) || decide (i ∈ r)) = _
      by_cases e : a = i
      · subst e; simp
      · simp [e, Ne.symm e]
  simp [dIn, inS, inF, h1, h2, flD]
/-! + and * of sequences -/
@[simp] theorem r_dAdd_ll (xs ys : List D) : dAdd (.lst xs) (.lst ys) = lAdd (.lst xs) (.lst ys) := rfl
@[simp] theorem r_lAdd_ll (xs ys : List D) : lAdd (.lst xs) (.lst ys) = if xs.length + ys.length ≤ 1000000 then some (.lst (xs ++ ys)) else none := rfl
/-! loops -/
theorem forL_inv {g : DG} {b : DStm} {items : List D} (P : Nat → DS → Prop) (step : ∀ (i : Nat) (d : D) (s : DS), items[i]? = some d → P i s → ∃ s1 s2, g d s = .ok () s1 ∧ (b s1 = .ok .nx s2 ∨ b s1 = .ok .ct s2) ∧ P (i + 1) s2) :
    ∀ (l : List D) (i : Nat) (s : DS), (∀ j, l[j]? = items[i + j]?) → P i s → ∃ s', forL g b l s = .ok .nx s' ∧ P (i + l.length) s'
  | [], i, s, h, hp => ⟨s, rfl, hp⟩
  | d :: l, i, s, h, hp => by
    have h0 := h 0
    simp only [List.getElem?_cons_zero, Nat.add_zero] at h0
    obtain ⟨s1, s2, e1, e2, hp2⟩ := step i d s h0.symm hp
    obtain ⟨s', e3, hp3⟩ := forL_inv P step l (i + 1) s2 (fun j => by
      have := h (j + 1)
      rw [List.getElem?_cons_succ] at this
      rw [this]
      congr 1
      omega) hp2
    refine ⟨s', ?_, by rw [show i + (d :: l).length = i + 1 + l.length by simp; omega]; exact hp3⟩
    rw [r_for_cons, e1]
    rcases e2 with e2 | e2 <;> simp [e2, e3]
theorem for_inv {g : DG} {b : DStm} {items : List D} {s : DS} (P : Nat → DS → Prop) (h0 : P 0 s) (step : ∀ (i : Nat) (d : D) (s : DS), items[i]? = some d → P i s → ∃ s1 s2, g d s = .ok () s1 ∧ (b s1 = .ok .nx s2 ∨ b s1 = .ok .ct s2) ∧ P (i + 1) s2) :
    ∃ s', forL g b items s = .ok .nx s' ∧ P items.length s' := by
  obtain ⟨s', e, hp⟩ := forL_inv P step items 0 s (fun j => by simp) h0
  exact ⟨s', e, by simpa using hp⟩
@[simp] theorem rngL_len (lo : Int) (n : Nat) : (rngL lo n).length = n := by simp [rngL]
theorem rngL_get {lo : Int} {n i : Nat} {d : D} (h : (rngL lo n)[i]? = some d) : i < n ∧ d = .int (lo + i) := by
  unfold rngL at h
  rw [List.getElem?_map] at h
  cases e : (List.range n)[i]? with
  | none => rw [e] at h; cases h
  | some k =>
    rw [e] at h
    cases h
    have hi : i < n := by simpa using (List.getElem?_eq_some_iff.mp e).1
    rw [List.getElem?_range hi] at e
    cases e
    exact ⟨hi, rfl⟩
end DL
set_option maxRecDepth 100000
set_option maxHeartbeats 4000000
set_option autoImplicit false
namespace DL
open PySem
/-! ### == of plain data, by data alone -/
mutual
def plD : D → Bool
  | .non => true
  | .bl _ => true
  | .int _ => true
  | .str l => l.all (· < 0x110000)
  | .tup xs => plDs xs
  | .lst xs => plDs xs
  | .scr xs => plDs xs
  | _ => false
def plDs : List D → Bool
  | [] => true
  | x :: r => plD x && plDs r
end
mutual
def dpD : D → Nat
  | .tup xs => dpDs xs + 1
  | .lst xs => dpDs xs + 1
  | .scr xs => dpDs xs + 1
  | _ => 0
def dpDs : List D → Nat
  | [] => 0
  | x :: r => max (dpD x) (dpDs r)
end
mutual
def eqPl : D → D → Bool
  | .non, .non => true
  | .bl a, .bl b => a == b
  | .bl a, .int j => decide ((if a then (1 : Int) else 0) = j)
  | .int i, .bl b => decide (i = if b then (1 : Int) else 0)
  | .int i, .int j => decide (i = j)
  | .str a, .str b => decide (a = b)
  | .tup xs, .tup ys => eqPls xs ys
  | .lst xs, .lst ys => eqPls xs ys
  | .scr xs, .lst ys => eqPls xs ys
  | .lst xs, .scr ys => eqPls xs ys
  | .scr xs, .scr ys => eqPls xs ys
  | _, _ => false
def eqPls : List D → List D → Bool
  | [], [] => true
  | x :: xs, y :: ys => eqPl x y && eqPls xs ys
  | _, _ => false
end
theorem strOk_nm (l : Nm) : PyData.strOk (nm l) = l.all (· < 0x110000) := by simp [PyData.strOk, nm]
mutual
theorem toPy_pl : ∀ d : D, plD d = true → ∃ p, toPy d = some p ∧ p.canLay0 = true ∧ p.depth = dpD d
  | .non, _ => ⟨.none, rfl, rfl, rfl⟩
  | .bl b, _ => ⟨.bool b, rfl, rfl, rfl⟩
  | .int i, _ => ⟨.int i, rfl, rfl, rfl⟩
  | .str l, h => ⟨.str (nm l), rfl, by simp only [plD] at h; simp only [PyData.canLay0, strOk_nm]; exact h, rfl⟩
  | .tup xs, h => by
    obtain ⟨ps, h1, h2, h3⟩ := toPys_pl xs h
    exact ⟨.tuple ps, by simp [toPy, h1], h2, by simp [PyData.depth, dpD, h3]⟩
  | .lst xs, h => by
    obtain ⟨ps, h1, h2, h3⟩ := toPys_pl xs h
    exact ⟨.list ps, by simp [toPy, h1], h2, by simp [PyData.depth, dpD, h3]⟩
  | .scr xs, h => by
    obtain ⟨ps, h1, h2, h3⟩ := toPys_pl xs h
    exact ⟨.list ps, by simp [toPy, h1], h2, by simp [PyData.depth, dpD, h3]⟩
  | .dic _, h => by simp [plD] at h
  | .ins _ _, h => by simp [plD] at h
  | .cell _, h => by simp [plD] at h
  | .cls _, h => by simp [plD] at h
  | .ty _, h => by simp [plD] at h
  | .fn _, h => by simp [plD] at h
  | .lam _, h => by simp [plD] at h
theorem toPys_pl : ∀ ds : List D, plDs ds = true → ∃ ps, toPys ds = some ps ∧ PyData.canLayAll0 ps = true ∧ PyData.depthAll ps = dpDs ds
  | [], _ => ⟨[], rfl, rfl, rfl⟩
  | d :: r, h => by
    simp only [plDs, Bool.and_eq_true] at h
    obtain ⟨p, h1, h2, h3⟩ := toPy_pl d h.1
    obtain ⟨ps, h4, h5, h6⟩ := toPys_pl r h.2
    exact ⟨p :: ps, by simp [toPys, h1, h4], by simp [PyData.canLayAll0, h2, h5], by simp [PyData.depthAll, dpDs, h3, h6]⟩
end
theorem nm_beq (a b : Nm) : (nm a == nm b) = decide (a = b) := by
  by_cases e : a = b
  · subst e; simp
  · rw [beq_eq_false_iff_ne.mpr fun z => e (nm_inj z)]; simp [e]
theorem dec_beq (a b : Int) : (a == b) = decide (a = b) := by simp [Bool.beq_eq_decide_eq]
mutual
theorem eqv_pl : ∀ (x y : D) (p q : PyData), toPy x = some p → toPy y = some q → PyData.eqv p q = eqPl x y := by
  intro x y p q h1 h2
  cases x <;> cases y <;> first
    | (simp [toPy] at h1; done)
    | (simp [toPy] at h2; done)
    | (simp only [toPy, Option.some.injEq] at h1 h2; subst h1; subst h2; first | rfl | exact dec_beq _ _ | exact nm_beq _ _ | (simp [PyData.eqv, eqPl]; done))
    | (simp only [toPy, Option.map_eq_some_iff, Option.some.injEq] at h1 h2
       first
         | (obtain ⟨ps, e1, rfl⟩ := h1; obtain ⟨qs, e2, rfl⟩ := h2; first | exact eqvs_pl _ _ _ _ e1 e2 | rfl)
         | (obtain ⟨ps, e1, rfl⟩ := h1; subst h2; rfl)
         | (obtain ⟨qs, e2, rfl⟩ := h2; subst h1; rfl))
theorem eqvs_pl : ∀ (xs ys : List D) (ps qs : List PyData), toPys xs = some ps → toPys ys = some qs → PyData.eqvAll ps qs = eqPls xs ys
  | [], [], ps, qs, h1, h2 => by cases h1; cases h2; rfl
  | [], y :: ys, ps, qs, h1, h2 => by
    cases h1
    simp only [toPys, Option.bind_eq_some_iff, Option.map_eq_some_iff] at h2
    obtain ⟨p, _, q, _, rfl⟩ := h2
    rfl
  | x :: xs, [], ps, qs, h1, h2 => by
    cases h2
    simp only [toPys, Option.bind_eq_some_iff, Option.map_eq_some_iff] at h1
    obtain ⟨p, _, q, _, rfl⟩ := h1
    rfl
  | x :: xs, y :: ys, ps, qs, h1, h2 => by
    simp only [toPys, Option.bind_eq_some_iff, Option.map_eq_some_iff] at h1 h2
    obtain ⟨p, e1, q, e2, rfl⟩ := h1
    obtain ⟨p', e3, q', e4, rfl⟩ := h2
    simp only [PyData.eqvAll, eqPls, eqv_pl x y p p' e1 e3, eqvs_pl xs ys q q' e2 e4]
end
def plOk (d : D) : Prop := plD d = true ∧ dpD d ≤ 64
theorem dEq_pl (x y : D) (h : plOk x) (k : plOk y) : dEq x y = some (.bl (eqPl x y)) := by
  obtain ⟨p, a1, a2, a3⟩ := toPy_pl x h.1
  obtain ⟨q, b1, b2, b3⟩ := toPy_pl y k.1
  have s1 : SeqAt.shaped p = true := by
    unfold SeqAt.shaped
    rw [a2, a3]
    simp [h.2]
  have s2 : SeqAt.shaped q = true := by
    unfold SeqAt.shaped
    rw [b2, b3]
    simp [k.2]
  unfold dEq
  rw [a1, b1]
  simp only [s1, s2, Bool.and_self, if_true, eqv_pl x y p q a1 b1]
theorem dNe_pl (x y : D) (h : plOk x) (k : plOk y) : dNe x y = some (.bl (!eqPl x y)) := by
  obtain ⟨p, a1, a2, a3⟩ := toPy_pl x h.1
  obtain ⟨q, b1, b2, b3⟩ := toPy_pl y k.1
  have s1 : SeqAt.shaped p = true := by
    unfold SeqAt.shaped
    rw [a2, a3]
    simp [h.2]
  have s2 : SeqAt.shaped q = true := by
    unfold SeqAt.shaped
    rw [b2, b3]
    simp [k.2]
  unfold dNe
  rw [a1, b1]
  simp only [s1, s2, Bool.and_self, if_true, eqv_pl x y p q a1 b1]
@[simp] theorem pl_non : plOk .non := ⟨rfl, by simp [dpD]⟩
@[simp] theorem pl_bl (b : Bool) : plOk (.bl b) := ⟨rfl, by simp [dpD]⟩
@[simp] theorem pl_int (i : Int) : plOk (.int i) := ⟨rfl, by simp [dpD]⟩
theorem pl_str (l : Nm) (h : l.all (· < 0x110000) = true) : plOk (.str l) := ⟨h, by simp [dpD]⟩
/-- flat items -/
def plF (d : D) : Prop := plD d = true ∧ dpD d ≤ 60
def plFs (ds : List D) : Prop := plDs ds = true ∧ dpDs ds ≤ 60
@[simp] theorem plFs_nil : plFs [] ↔ True := by simp [plFs, plDs, dpDs]
@[simp] theorem plFs_cons (d : D) (r : List D) : plFs (d :: r) ↔ plF d ∧ plFs r := by
  simp only [plFs, plF, plDs, dpDs, Bool.and_eq_true, Nat.max_le]
  constructor <;> intro h <;> simp [h]
@[simp] theorem plF_non : plF .non ↔ True := by simp [plF, plD, dpD]
@[simp] theorem plF_bl (b : Bool) : plF (.bl b) ↔ True := by simp [plF, plD, dpD]
@[simp] theorem plF_int (i : Int) : plF (.int i) ↔ True := by simp [plF, plD, dpD]
@[simp] theorem plF_str (l : Nm) : plF (.str l) ↔ l.all (· < 0x110000) = true := by simp [plF, plD, dpD]
theorem plF_tup3 (x y z : Int) : plF (.tup [.int x, .int y, .int z]) := by simp [plF, plD, plDs, dpD, dpDs]
theorem plFs_ints (ns : List Int) : plFs (ns.map D.int) := by
  induction ns with
  | nil => simp
  | cons a r ih => simp [ih]
theorem pl_tup (xs : List D) (h : plFs xs) : plOk (.tup xs) := ⟨h.1, by have := h.2; simp only [dpD]; omega⟩
theorem pl_lst (xs : List D) (h : plFs xs) : plOk (.lst xs) := ⟨h.1, by have := h.2; simp only [dpD]; omega⟩
theorem plF.ok {d : D} (h : plF d) : plOk d := ⟨h.1, by have := h.2; omega⟩
@[simp] theorem dEq_tt (xs ys : List D) (h : plFs xs) (k : plFs ys) : dEq (.tup xs) (.tup ys) = some (.bl (eqPls xs ys)) := dEq_pl _ _ (pl_tup _ h) (pl_tup _ k)
@[simp] theorem dNe_tt (xs ys : List D) (h : plFs xs) (k : plFs ys) : dNe (.tup xs) (.tup ys) = some (.bl (!eqPls xs ys)) := dNe_pl _ _ (pl_tup _ h) (pl_tup _ k)
@[simp] theorem dEq_ll (xs ys : List D) (h : plFs xs) (k : plFs ys) : dEq (.lst xs) (.lst ys) = some (.bl (eqPls xs ys)) := dEq_pl _ _ (pl_lst _ h) (pl_lst _ k)
@[simp] theorem dNe_ll (xs ys : List D) (h : plFs xs) (k : plFs ys) : dNe (.lst xs) (.lst ys) = some (.bl (!eqPls xs ys)) := dNe_pl _ _ (pl_lst _ h) (pl_lst _ k)
@[simp] theorem dEq_ss (a b : Nm) (h : a.all (· < 0x110000) = true) (k : b.all (· < 0x110000) = true) : dEq (.str a) (.str b) = some (.bl (decide (a = b))) := dEq_pl _ _ (pl_str _ h) (pl_str _ k)
@[simp] theorem dNe_ss (a b : Nm) (h : a.all (· < 0x110000) = true) (k : b.all (· < 0x110000) = true) : dNe (.str a) (.str b) = some (.bl (!decide (a = b))) := dNe_pl _ _ (pl_str _ h) (pl_str _ k)
@[simp] theorem dEq_nt (xs : List D) (h : plFs xs) : dEq .non (.tup xs) = some (.bl false) := dEq_pl _ _ pl_non (pl_tup _ h)
@[simp] theorem dEq_tn (xs : List D) (h : plFs xs) : dEq (.tup xs) .non = some (.bl false) := dEq_pl _ _ (pl_tup _ h) pl_non
@[simp] theorem dNe_nt (xs : List D) (h : plFs xs) : dNe .non (.tup xs) = some (.bl true) := dNe_pl _ _ pl_non (pl_tup _ h)
@[simp] theorem dNe_tn (xs : List D) (h : plFs xs) : dNe (.tup xs) .non = some (.bl true) := dNe_pl _ _ (pl_tup _ h) pl_non
@[simp] theorem dEq_nn : dEq .non .non = some (.bl true) := dEq_pl _ _ pl_non pl_non
@[simp] theorem dNe_nn : dNe .non .non = some (.bl false) := dNe_pl _ _ pl_non pl_non
@[simp] theorem eqPls_nil : eqPls [] [] = true := by simp [eqPls]
@[simp] theorem eqPls_cons (x y : D) (xs ys : List D) : eqPls (x :: xs) (y :: ys) = (eqPl x y && eqPls xs ys) := by simp [eqPls]
@[simp] theorem eqPls_nc (y : D) (ys : List D) : eqPls [] (y :: ys) = false := by simp [eqPls]
@[simp] theorem eqPls_cn (y : D) (ys : List D) : eqPls (y :: ys) [] = false := by simp [eqPls]
@[simp] theorem eqPl_int (i j : Int) : eqPl (.int i) (.int j) = decide (i = j) := by simp [eqPl]
@[simp] theorem eqPl_str (i j : Nm) : eqPl (.str i) (.str j) = decide (i = j) := by simp [eqPl]
@[simp] theorem eqPl_tup (i j : List D) : eqPl (.tup i) (.tup j) = eqPls i j := by simp [eqPl]
@[simp] theorem eqPl_lst (i j : List D) : eqPl (.lst i) (.lst j) = eqPls i j := by simp [eqPl]
@[simp] theorem eqPl_nn : eqPl .non .non = true := by simp [eqPl]
@[simp] theorem eqPl_bb (a b : Bool) : eqPl (.bl a) (.bl b) = (a == b) := by simp [eqPl]
mutual
theorem eqPl_refl : ∀ d : D, plD d = true → eqPl d d = true
  | .non, _ => by simp
  | .bl b, _ => by simp
  | .int i, _ => by simp
  | .str l, _ => by simp
  | .tup xs, h => by simp only [eqPl]; exact eqPls_refl xs h
  | .lst xs, h => by simp only [eqPl]; exact eqPls_refl xs h
  | .scr xs, h => by simp only [eqPl]; exact eqPls_refl xs h
  | .dic _, h => by simp [plD] at h
  | .ins _ _, h => by simp [plD] at h
  | .cell _, h => by simp [plD] at h
  | .cls _, h => by simp [plD] at h
  | .ty _, h => by simp [plD] at h
  | .fn _, h => by simp [plD] at h
  | .lam _, h => by simp [plD] at h
theorem eqPls_refl : ∀ ds : List D, plDs ds = true → eqPls ds ds = true
  | [], _ => by simp
  | d :: r, h => by
    simp only [plDs, Bool.and_eq_true] at h
    simp only [eqPls, eqPl_refl d h.1, eqPls_refl r h.2, Bool.and_self]
end
end DL
set_option maxRecDepth 100000
set_option maxHeartbeats 4000000
set_option autoImplicit false
namespace DL
/-! ### readings of DLk -/
@[simp] theorem r_eIxO (i : Nat) (fb : DE) (s : DS) : eIxO i fb s = match s.sl[i]? with
  | some (.ol _) => (fb s).bind fun y s1 => match y, s1.sl[i]? with
    | .int k, some (.ol xs) => (match L2.atI xs k with | some d => .ok d s1 | none => .stuck)
    | _, _ => .stuck
  | some (.val x) => (fb s).bind fun y s1 => match y with
    | .int k => (match ixD x k with | some d => .ok d s1 | none => .stuck)
    | _ => .stuck
  | _ => .stuck := rfl
@[simp] theorem r_eTruO (i : Nat) (s : DS) : eTruO i s = match s.sl[i]? with
  | some (.ol xs) => .ok (!xs.isEmpty) s
  | some (.val d) => (match truD d with | some b => .ok b s | none => .stuck)
  | _ => .stuck := rfl
@[simp] theorem r_sIxO (i : Nat) (fi fv : DE) (s : DS) : sIxO i fi fv s = (fv s).bind fun d s1 => match s1.sl[i]? with
  | some (.ol _) => (fi s1).bind fun y s2 => match y, s2.sl[i]? with
    | .int k, some (.ol xs) => (match L2.ixN xs.length k with | some j => .ok .nx ⟨s2.sl.set i (.ol (xs.set j d)), s2.st⟩ | none => .stuck)
    | _, _ => .stuck
  | _ => .stuck := rfl
@[simp] theorem r_eProp (c : String) (g : DFn) (f : DE) (s : DS) : eProp c g f s = (f s).bind fun d s1 => match insOf d s1 with
  | some (c1, _) => if c1 = c then noX (lift s1 (g [d] s1.st)) else .stuck
  | none => .stuck := rfl
@[simp] theorem r_eChain (o o' : D → D → Option D) (fa fb fc : DE) (s : DS) : eChain o o' fa fb fc s = (fa s).bind fun x s1 => (fb s1).bind fun y s2 => match o x y with
  | some (.bl true) => (fc s2).bind fun z s3 => match o' y z with
    | some d => .ok d s3
    | none => .stuck
  | some (.bl false) => .ok (.bl false) s2
  | _ => .stuck := rfl
@[simp] theorem r_eSix (fo : DE) (fa : DA) (s : DS) : eSix fo fa s = (fo s).bind fun x s1 => match x with
  | .str a => (fa s1).bind fun ds s2 => match ds with
    | [.str b] => (match PySem.Txt.index0 (nm a) (nm b) with | some k => .ok (.int (k : Nat)) s2 | none => .stuck)
    | _ => .stuck
  | _ => .stuck := rfl
@[simp] theorem r_eBM (T : String) (o : D → List D → Option D) (fo : DE) (fa : DA) (s : DS) : eBM T o fo fa s = (fo s).bind fun x s1 => if MtD.tyOk T x = true then (fa s1).bind fun ds s2 => match o x ds with
  | some d => .ok d s2
  | none => .stuck
  else .stuck := rfl
@[simp] theorem r_tyOk_s (T : String) (l : Nm) : MtD.tyOk T (.str l) = (T == "str") := rfl
@[simp] theorem r_mJoin (a : Nm) (ds : List D) : mJoin (.str a) [.lst ds] = match strsOf ds with
    | some ls => if (ls.map (·.length)).sum + ls.length * a.length ≤ 16777216 then some (.str (TL.joinL a ls)) else none
    | none => none := rfl
@[simp] theorem r_bDivmod (i j : Int) : bDivmod [.int i, .int j] = if 0 < j ∧ divOk j = true then some (.tup [.int (i.fdiv j), .int (i.fmod j)]) else none := rfl
@[simp] theorem r_eFz (i : Nat) (f : DE) (s : DS) : eFz i f s = match s.sl[i]? with
  | some (.ol xs) => f ⟨s.sl.set i (.val (.lst xs)), s.st⟩
  | some (.od kvs) => f ⟨s.sl.set i (.val (.dic kvs)), s.st⟩
  | some (.oi c fs) => f ⟨s.sl.set i (.val (.ins c fs)), s.st⟩
  | _ => f s := rfl
/-! ### lambdas, tries -/
@[simp] theorem r_eLam (n : Nat) (tk k : String) (s : DS) : eLam n tk k s = match s.st[n]? with
  | some (.tab t) => if t = tk then .ok (.lam k) s else .stuck
  | _ => .stuck := rfl
@[simp] theorem r_eAct (Λ : LamR) (i : Nat) (s : DS) : eAct Λ i s = match s.sl[i]? with
  | some (.val (.lam k)) => lift s (Λ k s.st)
  | _ => .stuck := rfl
@[simp] theorem r_eCallL (n : Nat) (g : LamR → DFn) (bs : String → Option DE) (fa : DA) (s : DS) : eCallL n g bs fa s = (fa s).bind fun ds s1 => if ds.length = n then lift s1 (g (lamR bs s1.sl) ds s1.st) else .stuck := rfl
@[simp] theorem r_lamR (bs : String → Option DE) (sl : List Sl) (k : String) (st : List Cell) : lamR bs sl k st = match bs k with
  | some b => lamRun b sl st
  | none => .stuck := rfl
@[simp] theorem r_lamRun (b : DE) (sl : List Sl) (st : List Cell) : lamRun b sl st = match b ⟨sl.map stripS, st⟩ with
  | .ok d s' => .ok d s'.st
  | .exc x s' => .exc x s'.st
  | .stuck => .stuck := rfl
@[simp] theorem r_strip_v (d : D) : stripS (.val d) = .val d := rfl
@[simp] theorem r_strip_u : stripS .un = .un := rfl
@[simp] theorem r_strip_l (xs : List D) : stripS (.ol xs) = .un := rfl
@[simp] theorem r_sTry (b : DStm) (hs : List HdR) (s : DS) : sTry b hs s = match b s with
  | .exc x s1 => catchD hs x s1
  | r => r := rfl
@[simp] theorem r_catch_nil (x : Xc) (s : DS) : catchD [] x s = .exc x s := rfl
@[simp] theorem r_catch_none (c : PySem.Value) (m : String → Option Bool) (f : Xc → DStm) (r : List HdR) (x : Xc) (s : DS) : catchD (⟨c, none, m, f⟩ :: r) x s = match m x.cls with
    | some true => noX (f x s)
    | some false => catchD r x s
    | none => .stuck := rfl
@[simp] theorem r_catch_some (c : PySem.Value) (i : Nat) (m : String → Option Bool) (f : Xc → DStm) (r : List HdR) (x : Xc) (s : DS) : catchD (⟨c, some i, m, f⟩ :: r) x s = match m x.cls with
    | some true => if i < s.sl.length then unD i (noX (f x ⟨s.sl.set i .un, s.st⟩)) else .stuck
    | some false => catchD r x s
    | none => .stuck := rfl
@[simp] theorem r_unD (i : Nat) (r : Res DS Out) : unD i r = r.bind fun o s => .ok o ⟨s.sl.set i .un, s.st⟩ := rfl
@[simp] theorem r_hmT (yes no : List String) (k : String) : hmT yes no k = if k ∈ yes then some true else if k ∈ no then some false else none := rfl
@[simp] theorem r_eXf (c : String) (f : Nm) (x : Xc) (s : DS) : eXf c f x s = if x.cls = c then match x.fs.lookup f with | some d => .ok d s | none => .stuck else .stuck := rfl
/-! ### indexes from behind -/
theorem ixN_last {n : Nat} (h : 0 < n) : L2.ixN n (-1) = some (n - 1) := by
  unfold L2.ixN
  rw [if_neg (by omega), if_pos (by omega)]
  congr 1
  omega
theorem at_neg1 {α : Type} (xs : List α) (x : α) : L2.atI (xs ++ [x]) (-1) = some x := by
  unfold L2.atI
  rw [ixN_last (by simp)]
  simp
theorem set_last {α : Type} (xs : List α) (x y : α) : (xs ++ [x]).set ((xs ++ [x]).length - 1) y = xs ++ [y] := by
  simp
theorem at_nat {α : Type} {xs : List α} {i : Nat} {x : α} (h : xs[i]? = some x) : L2.atI xs (i : Int) = some x := L2.atI_nat h
/-! ### comprehensions that leave the store -/
theorem lc_gen {vs : List Nat} {g : DG} {t : DT} {e : DE} {s0 : DS} (τ : D → Bool) (f : D → D) : ∀ (items acc : List D), (∀ d ∈ items, ∃ s1 s2, g d (wipeS vs s0) = .ok () s1 ∧ t s1 = .ok (τ d) s2 ∧ (τ d = true → ∃ s3, e s2 = .ok (f d) s3 ∧ wipeS vs s3 = wipeS vs s0) ∧ (τ d = false → wipeS vs s2 = wipeS vs s0)) →
    items.length + acc.length ≤ 1000000 → ∀ s, wipeS vs s = wipeS vs s0 → ∃ s', lcL vs g t e items acc s = .ok (acc ++ (items.filter τ).map f) s' ∧ wipeS vs s' = wipeS vs s0
  | [], acc, _, _, s, hs => ⟨s, by simp, hs⟩
  | d :: r, acc, h, hl, s, hs => by
    obtain ⟨s1, s2, e1, e2, e3, e4⟩ := h d (List.mem_cons_self ..)
    have hr := fun d hd => h d (List.mem_cons_of_mem _ hd)
    simp only [List.length_cons] at hl
    rw [r_lc_cons, hs, e1]
    cases hτ : τ d with
    | true =>
      obtain ⟨s3, e5, e6⟩ := e3 hτ
      obtain ⟨s', e7, e8⟩ := lc_gen τ f r (acc ++ [f d]) hr (by simp; omega) s3 e6
      refine ⟨s', ?_, e8⟩
      have : acc.length < 1000000 := by omega
      simp [e2, hτ, e5, this, e7]
    | false =>
      obtain ⟨s', e7, e8⟩ := lc_gen τ f r acc hr (by omega) s2 (e4 hτ)
      refine ⟨s', ?_, e8⟩
      simp [e2, hτ, e7]
theorem aLc_gen {vs : List Nat} {it : DA} {g : DG} {t : DT} {e : DE} {s s0 : DS} {items : List D} (τ : D → Bool) (f : D → D) (hi : it s = .ok items s0) (h : ∀ d ∈ items, ∃ s1 s2, g d (wipeS vs s0) = .ok () s1 ∧ t s1 = .ok (τ d) s2 ∧ (τ d = true → ∃ s3, e s2 = .ok (f d) s3 ∧ wipeS vs s3 = wipeS vs s0) ∧ (τ d = false → wipeS vs s2 = wipeS vs s0))
    (hl : items.length ≤ 1000000) : aLc vs it g t e s = .ok ((items.filter τ).map f) ⟨unwipe vs s0.sl (wipeD vs s0.sl), s0.st⟩ := by
  obtain ⟨s', e1, e2⟩ := lc_gen τ f items [] h (by simpa using hl) s0 rfl
  have e3 : wipeD vs s'.sl = wipeD vs s0.sl := congrArg DS.sl e2
  have e4 : s'.st = s0.st := by have := congrArg DS.st e2; simpa using this
  rw [r_aLc, hi]
  simp [e1, e3, e4]
theorem aLc_map {vs : List Nat} {it : DA} {g : DG} {e : DE} {s s0 : DS} {items : List D} (f : D → D) (hi : it s = .ok items s0) (h : ∀ d ∈ items, ∃ s1 s3, g d (wipeS vs s0) = .ok () s1 ∧ e s1 = .ok (f d) s3 ∧ wipeS vs s3 = wipeS vs s0)
    (hl : items.length ≤ 1000000) : aLc vs it g bYes e s = .ok (items.map f) ⟨unwipe vs s0.sl (wipeD vs s0.sl), s0.st⟩ := by
  have := aLc_gen (vs := vs) (it := it) (g := g) (t := bYes) (e := e) (s := s) (fun _ => true) f hi (fun d hd => by
    obtain ⟨s1, s3, e1, e2, e3⟩ := h d hd
    exact ⟨s1, s1, e1, rfl, fun _ => ⟨s3, e2, e3⟩, fun z => nomatch z⟩) hl
  rwa [List.filter_eq_self.mpr (fun _ _ => rfl)] at this
/-! comprehensions that draw: by an invariant of the store -/
theorem lc_inv {vs : List Nat} {g : DG} {e : DE} {s0 : List Sl} {items : List D} (P : Nat → List D → List Cell → Prop) (step : ∀ (i : Nat) (d : D) (acc : List D) (S : List Cell), items[i]? = some d → P i acc S → ∃ s1 y s3, g d ⟨wipeD vs s0, S⟩ = .ok () s1 ∧ e s1 = .ok y s3 ∧ wipeD vs s3.sl = wipeD vs s0 ∧ P (i + 1) (acc ++ [y]) s3.st) :
    ∀ (l : List D) (i : Nat) (acc : List D) (s : DS), (∀ j, l[j]? = items[i + j]?) → l.length + acc.length ≤ 1000000 → wipeD vs s.sl = wipeD vs s0 → P i acc s.st → ∃ ys s', lcL vs g bYes e l acc s = .ok ys s' ∧ wipeD vs s'.sl = wipeD vs s0 ∧ P (i + l.length) ys s'.st
  | [], i, acc, s, h, _, hs, hp => ⟨acc, s, rfl, hs, hp⟩
  | d :: l, i, acc, s, h, hl, hs, hp => by
    have h0 := h 0
    simp only [List.getElem?_cons_zero, Nat.add_zero] at h0
    simp only [List.length_cons] at hl
    obtain ⟨s1, y, s3, e1, e2, e3, hp2⟩ := step i d acc s.st h0.symm hp
    obtain ⟨ys, s', e4, e5, hp3⟩ := lc_inv P step l (i + 1) (acc ++ [y]) s3 (fun j => by
      have := h (j + 1)
      rw [List.getElem?_cons_succ] at this
      rw [this]
      congr 1
      omega) (by simp; omega) e3 hp2
    refine ⟨ys, s', ?_, e5, by rw [show i + (d :: l).length = i + 1 + l.length by simp; omega]; exact hp3⟩
    have : acc.length < 1000000 := by omega
    rw [r_lc_cons, show wipeS vs s = ⟨wipeD vs s0, s.st⟩ by simp [hs], e1]
    simp [e2, this, e4]
theorem aLc_inv {vs : List Nat} {it : DA} {g : DG} {e : DE} {s : DS} {s0 : DS} {items : List D} (P : Nat → List D → List Cell → Prop) (hi : it s = .ok items s0) (h0 : P 0 [] s0.st) (step : ∀ (i : Nat) (d : D) (acc : List D) (S : List Cell), items[i]? = some d → P i acc S → ∃ s1 y s3, g d ⟨wipeD vs s0.sl, S⟩ = .ok () s1 ∧ e s1 = .ok y s3 ∧ wipeD vs s3.sl = wipeD vs s0.sl ∧ P (i + 1) (acc ++ [y]) s3.st)
    (hl : items.length ≤ 1000000) : ∃ ys S', aLc vs it g bYes e s = .ok ys ⟨unwipe vs s0.sl (wipeD vs s0.sl), S'⟩ ∧ P items.length ys S' := by
  obtain ⟨ys, s', e1, e2, hp⟩ := lc_inv P step items 0 [] s0 (fun j => by simp) (by simpa using hl) rfl h0
  refine ⟨ys, s'.st, ?_, by simpa using hp⟩
  rw [r_aLc, hi]
  simp [e1, e2]
/-! isinstance(x, (list, tuple)) -/
def isLT (cs : List String) : D → Option Bool
  | .lst _ => some true
  | .scr _ => some true
  | .tup _ => some true
  | .ins c _ => if c ∈ cs then some false else none
  | .non => some false
  | .bl _ => some false
  | .int _ => some false
  | .str _ => some false
  | .dic _ => some false
  | _ => none
theorem isLT_eq (cs : List String) (d : D) : ((tyOfD cs d).bind fun t => isAny cs t [.ty "list", .ty "tuple"]) = isLT cs d := by
  cases d <;> simp [isLT, tyOfD, tyD, isAny, isOne, mem_ty, isTy]
  split <;> simp [isAny, isOne, mem_ty]
@[simp] theorem r_isLT (cs : List String) (fe : DE) (s : DS) : eIsT cs fe (aCons (eC (.ty "list")) (aCons (eC (.ty "tuple")) aNil)) s = (fe s).bind fun d s1 => match isLT cs d with
  | some b => .ok (.bl b) s1
  | none => .stuck := by
  unfold eIsT
  simp [clsD, isLT_eq]
  all_goals rfl
/-! x != [] of an own list -/
@[simp] theorem r_eNeO (i : Nat) (s : DS) : eNeO i s = match s.sl[i]? with
  | some (.ol xs) => (match dNe (.lst xs) (.lst []) with | some (.bl b) => .ok b s | _ => .stuck)
  | some (.val d) => (match dNe d (.lst []) with | some (.bl b) => .ok b s | _ => .stuck)
  | _ => .stuck := rfl
@[simp] theorem r_sPar3O (i j l : Nat) (f1 f2 : DA) (f3 : DE) (s : DS) : sPar3O i j l f1 f2 f3 s = match f1 s with
  | .ok xs s1 => match f2 s1 with
    | .ok ys s2 => match f3 s2 with
      | .ok d s3 => .ok .nx ⟨((s3.sl.set i (.ol xs)).set j (.ol ys)).set l (.val d), s3.st⟩
      | _ => .stuck
    | _ => .stuck
  | _ => .stuck := rfl
@[simp] theorem r_dIsB (a b : Bool) : dIsB (.bl a) (.bl b) = some (.bl (decide (a = b))) := rfl
@[simp] theorem r_dNotB (a b : Bool) : dNotB (.bl a) (.bl b) = some (.bl (!decide (a = b))) := rfl
@[simp] theorem r_gTA_t (n : Nat) (g : List D → DS → Res DS Unit) (ds : List D) (s : DS) : gTA n g (.tup ds) s = if ds.length = n then g ds s else .stuck := rfl
@[simp] theorem r_gTA_l (n : Nat) (g : List D → DS → Res DS Unit) (ds : List D) (s : DS) : gTA n g (.lst ds) s = if ds.length = n then g ds s else .stuck := rfl
@[simp] theorem r_sMul (l : Nm) (n : Int) : sMul (.str l) (.int n) = if l.length ≤ 100 ∧ -100000 ≤ n ∧ n ≤ 100000 then some (.str (List.replicate n.toNat l).flatten) else none := rfl
@[simp] theorem r_tAdd (a b : List D) : tAdd (.tup a) (.tup b) = if a.length + b.length ≤ 1000000 then some (.tup (a ++ b)) else none := rfl
/-! equality of truth values, refusals -/
@[simp] theorem dNe_bb (a b : Bool) : dNe (.bl a) (.bl b) = some (.bl (!(a == b))) := by
  rw [dNe_pl _ _ (pl_bl a) (pl_bl b)]
  cases a <;> cases b <;> rfl
@[simp] theorem dEq_bb (a b : Bool) : dEq (.bl a) (.bl b) = some (.bl (a == b)) := by
  rw [dEq_pl _ _ (pl_bl a) (pl_bl b)]
  cases a <;> cases b <;> rfl
theorem ne_refl {xs : List D} (h : plFs xs) : dNe (.tup xs) (.tup xs) = some (.bl false) := by
  rw [dNe_tt _ _ h h, eqPls_refl _ h.1]; rfl
theorem noLams_int (cs : List Int) : noLams (cs.map D.int) = true := by
  induction cs with
  | nil => rfl
  | cons c cs ih => simp [noLams, noLam, ih]
/-! ### texts put together -/
theorem joinL_ones : ∀ l : List Nat, TL.joinL [] (l.map fun c => [c]) = l
  | [] => rfl
  | [c] => rfl
  | c :: d :: r => by
    have := joinL_ones (d :: r)
    simp only [List.map_cons] at this ⊢
    simp [TL.joinL, this]
theorem strsOf_ones (l : List Nat) : strsOf (l.map fun c => D.str [c]) = some (l.map fun c => [c]) := by
  induction l with
  | nil => rfl
  | cons c l ih => simp [strsOf, ih]
theorem sum_ones (l : List Nat) : ((l.map fun c => [c]).map (·.length)).sum = l.length := by
  induction l with
  | nil => rfl
  | cons c l ih => simp only [List.map_cons, List.sum_cons, ih, List.length_cons, List.length_nil]; omega
theorem join_ones (l : List Nat) (h : l.length ≤ 10000) : mJoin (.str []) [.lst (l.map fun c => D.str [c])] = some (.str l) := by
  rw [r_mJoin, strsOf_ones]
  simp only [sum_ones, joinL_ones, List.length_nil, Nat.mul_zero, Nat.add_zero]
  rw [if_pos (by omega)]
theorem joinL_nil : ∀ ls : List (List Nat), TL.joinL [] ls = ls.flatten
  | [] => rfl
  | [c] => by simp [TL.joinL]
  | c :: d :: r => by
    have := joinL_nil (d :: r)
    simp only [TL.joinL, this, List.flatten_cons, List.nil_append]
theorem strsOf_map {α : Type} (f : α → List Nat) (l : List α) : strsOf (l.map fun x => D.str (f x)) = some (l.map f) := by
  induction l with
  | nil => rfl
  | cons c l ih => simp [strsOf, ih]
theorem join_map {α : Type} (f : α → List Nat) (l : List α) (h : (l.map f).flatten.length ≤ 10000) : mJoin (.str []) [.lst (l.map fun x => D.str (f x))] = some (.str (l.map f).flatten) := by
  rw [r_mJoin, strsOf_map]
  rw [List.length_flatten] at h
  simp only [joinL_nil, List.length_nil, Nat.mul_zero, Nat.add_zero]
  rw [if_pos (Nat.le_trans h (by decide))]
theorem filter_first {α : Type} (τ : α → Bool) : ∀ (l : List α) (f : Nat) (x : α), l[f]? = some x → τ x = true → (∀ i y, i < f → l[i]? = some y → τ y = false) → ∃ r, l.filter τ = x :: r ∧ (∀ z ∈ r, z ∈ l)
  | [], f, x, h, _, _ => by simp at h
  | y :: l, 0, x, h, h1, h2 => by
    simp only [List.getElem?_cons_zero, Option.some.injEq] at h
    subst h
    exact ⟨l.filter τ, by rw [List.filter_cons_of_pos h1], fun z hz => List.mem_cons_of_mem _ (List.mem_filter.mp hz).1⟩
  | y :: l, f + 1, x, h, h1, h2 => by
    have e := h2 0 y (by omega) rfl
    obtain ⟨r, hr, hm⟩ := filter_first τ l f x (by simpa using h) h1 fun i z hi hz => h2 (i + 1) z (by omega) (by simpa using hz)
    exact ⟨r, by rw [List.filter_cons_of_neg (by rw [e]; decide)]; exact hr, fun z hz => List.mem_cons_of_mem _ (hm z hz)⟩
end DL
set_option maxRecDepth 100000
set_option maxHeartbeats 4000000
set_option autoImplicit false
namespace DL
open PySem PySem.Spec PyProof.Rows L2
/-! ### < of ints and of tuples of them, to any depth -/
mutual
def ltv : PyData → PyData → Bool
  | .int i, .int j => decide (i < j)
  | .tuple xs, .tuple ys => ltvs xs ys
  | _, _ => false
def ltvs : List PyData → List PyData → Bool
  | [], [] => false
  | [], _ :: _ => true
  | _ :: _, [] => false
  | x :: xs, y :: ys => if PyData.eqv x y = true then ltvs xs ys else ltv x y
end
mutual
def cmpv : PyData → PyData → Bool
  | .int _, .int _ => true
  | .tuple xs, .tuple ys => cmpvs xs ys
  | _, _ => false
def cmpvs : List PyData → List PyData → Bool
  | [], _ => true
  | _ :: _, [] => true
  | x :: xs, y :: ys => (PyData.eqv x y || cmpv x y) && cmpvs xs ys
end
theorem lex_shift (e r : Nat → Bool) (z : Bool) : ∀ (k i : Nat), Ob.lexAt e r z (i + 1) k = Ob.lexAt (fun j => e (j + 1)) (fun j => r (j + 1)) z i k
  | 0, _ => rfl
  | k + 1, i => by rw [Ob.lexAt_succ, Ob.lexAt_succ, lex_shift e r z k (i + 1)]
def eAt (xs ys : List PyData) (j : Nat) : Bool := PyData.eqv (xs.getD j .none) (ys.getD j .none)
def lAt (xs ys : List PyData) (j : Nat) : Bool := ltv (xs.getD j .none) (ys.getD j .none)
theorem lex_ltvs : ∀ (xs ys : List PyData), Ob.lexAt (eAt xs ys) (lAt xs ys) (decide (xs.length < ys.length)) 0 (min xs.length ys.length) = ltvs xs ys
  | [], [] => by simp [ltvs, Ob.lexAt_zero]
  | [], y :: ys => by simp [ltvs, Ob.lexAt_zero]
  | x :: xs, [] => by simp [ltvs, Ob.lexAt_zero]
  | x :: xs, y :: ys => by
    have hm : min (x :: xs).length (y :: ys).length = min xs.length ys.length + 1 := by simp only [List.length_cons]; omega
    rw [hm, Ob.lexAt_succ, ltvs]
    by_cases c : PyData.eqv x y = true
    · have e0 : eAt (x :: xs) (y :: ys) 0 = true := c
      rw [if_pos c, if_pos e0, lex_shift, ← lex_ltvs xs ys]
      have hd : decide ((x :: xs).length < (y :: ys).length) = decide (xs.length < ys.length) := by simp
      rw [hd]
      rfl
    · have e0 : ¬ eAt (x :: xs) (y :: ys) 0 = true := c
      rw [if_neg c, if_neg e0]
      rfl
theorem cmpvs_get : ∀ (xs ys : List PyData), cmpvs xs ys = true → ∀ j, j < xs.length → j < ys.length → eAt xs ys j = false → cmpv (xs.getD j .none) (ys.getD j .none) = true
  | [], _, _, j, h1, _, _ => by simp at h1
  | _ :: _, [], _, j, _, h2, _ => by simp at h2
  | x :: xs, y :: ys, h, j, h1, h2, h3 => by
    rw [cmpvs, Bool.and_eq_true, Bool.or_eq_true] at h
    cases j with
    | zero =>
      have h3 : PyData.eqv x y = false := h3
      rcases h.1 with z | z
      · rw [h3] at z; cases z
      · exact z
    | succ j => exact cmpvs_get xs ys h.2 j (by simpa using h1) (by simpa using h2) h3
theorem rall_get {h : Heap} : ∀ {vs : List Value} {ps : List PyData} {as : List Addr}, ReadsAll h vs ps as → vs.length = ps.length ∧ ∀ j (hj : j < vs.length), ∃ as', Reads h vs[j] (ps.getD j .none) as'
  | _, _, _, .nil => ⟨rfl, fun j hj => by simp at hj⟩
  | _, _, _, .cons a r => by
    obtain ⟨h1, h2⟩ := rall_get r
    refine ⟨by simp [h1], fun j hj => ?_⟩
    cases j with
    | zero => exact ⟨_, a⟩
    | succ j => exact h2 j (by simpa using hj)
theorem canAll_get : ∀ {ps : List PyData}, PyData.canLayAll0 ps = true → ∀ j, j < ps.length → (ps.getD j .none).canLay0 = true
  | [], _, j, hj => by simp at hj
  | p :: ps, h, j, hj => by
    rw [PyData.canLayAll0, Bool.and_eq_true] at h
    cases j with
    | zero => exact h.1
    | succ j => exact canAll_get h.2 j (by simpa using hj)
theorem depAll_get : ∀ {ps : List PyData} (j : Nat), (ps.getD j .none).depth ≤ PyData.depthAll ps
  | [], j => by simp [PyData.depth]
  | p :: ps, 0 => by simp [PyData.depthAll]; omega
  | p :: ps, j + 1 => by
    have := depAll_get (ps := ps) j
    simp only [PyData.depthAll, List.getD_cons_succ]
    omega
theorem lt_reads : ∀ (n : Nat) (da db : PyData) (A : Around) (s : Shared) (a b : Value) (as bs : List Addr), da.depth ≤ n → Reads s.heap a da as → Reads s.heap b db bs → da.canLay0 = true → db.canLay0 = true → cmpv da db = true →
    A.units + da.depth < cLine → Ob.RcOp .Lt A s a b (ltv da db) := by
  intro n
  induction n with
  | zero =>
    intro da db A s a b as bs hn ra rb ca cb hc hu
    cases ra with
    | int i t =>
      cases rb with
      | int j u => exact Ob.RcOp.lt_int _ _ _ _
      | _ => simp [cmpv] at hc
    | @tuple a o vs n xs as h1 h2 h3 h4 => simp [PyData.depth] at hn
    | _ => simp [cmpv] at hc
  | succ n ih =>
    intro da db A s a b as bs hn ra rb ca cb hc hu
    cases ra with
    | int i t =>
      cases rb with
      | int j u => exact Ob.RcOp.lt_int _ _ _ _
      | _ => simp [cmpv] at hc
    | @tuple a o vs m xs as h1 h2 h3 h4 =>
      cases rb with
      | @tuple b o' vs' m' ys bs k1 k2 k3 k4 =>
        obtain ⟨l1, g1⟩ := rall_get h4
        obtain ⟨l2, g2⟩ := rall_get k4
        have hd : (PyData.tuple xs).depth = PyData.depthAll xs + 1 := by simp [PyData.depth] <;> omega
        rw [hd] at hn hu
        have hc : cmpvs xs ys = true := by simpa [cmpv] using hc
        have ca : PyData.canLayAll0 xs = true := by simpa [PyData.canLay0] using ca
        have cb : PyData.canLayAll0 ys = true := by simpa [PyData.canLay0] using cb
        have s1 : vs.size = xs.length := by rw [← l1]; simp
        have s2 : vs'.size = ys.length := by rw [← l2]; simp
        have ui : A.in1.units = A.units + 1 := rfl
        have key := Ob.RcOp.tuples_lt (A := A) (s := s) (l := a) (b := b) (items := vs) (items2 := vs') (e := eAt xs ys) (r := lAt xs ys) ⟨_, h1, h2, _, h3⟩ ⟨_, k1, k2, _, k3⟩ (by omega)
          (fun j j1 j2 => by
            obtain ⟨a1, r1⟩ := g1 j (by simpa using j1)
            obtain ⟨a2, r2⟩ := g2 j (by simpa using j2)
            have q := SeqAt.eqAt_reads _ _ A.in1 s _ _ _ _ r1 r2 (canAll_get ca j (by omega)) (canAll_get cb j (by omega)) (by
              have := depAll_get (ps := xs) j
              omega)
            simpa [eAt] using q)
          (fun j j1 j2 he => by
            obtain ⟨a1, r1⟩ := g1 j (by simpa using j1)
            obtain ⟨a2, r2⟩ := g2 j (by simpa using j2)
            have dj := depAll_get (ps := xs) j
            have q := ih _ _ A.in1 s _ _ _ _ (by omega) r1 r2 (canAll_get ca j (by omega)) (canAll_get cb j (by omega)) (cmpvs_get xs ys hc j (by omega) (by omega) he) (by omega)
            simpa [lAt] using q)
        rw [s1, s2, lex_ltvs] at key
        exact key
      | _ => simp [cmpv] at hc
    | _ => simp [cmpv] at hc
def dLt : D → D → Option D := fun x y => match toPy x, toPy y with
  | some p, some q => if SeqAt.shaped p && SeqAt.shaped q && cmpv p q then some (.bl (ltv p q)) else none
  | _, _ => none
def rLtD (K : PySem.W.Frag) : R2 := fun x y H Q => ∃ p q, Dp K H x p ∧ Dp K H y q ∧ SeqAt.shaped p = true ∧ SeqAt.shaped q = true ∧ cmpv p q = true ∧ Q (.bl (ltv p q)) H
theorem op_ltD {X : Cx} (hu : X.A.units + 64 < cLine) : OpR X (compareOp .Lt) (rLtD X.K) := by
  intro pins s σ H x y v u Q I rx ry h
  obtain ⟨d, e, hd, he, sd, se, hc, q⟩ := h
  obtain ⟨as, r1⟩ := Dp.reads I d x v hd rx
  obtain ⟨bs, r2⟩ := Dp.reads I e y u he ry
  have dd := SeqAt.depth_of_shaped sd
  have z : wpAny (model X.prog X.w) X.A (compareOp .Lt v u) (EP X pins σ Q) X.xe s := lt_reads _ _ _ X.A s _ _ _ _ (Nat.le_refl _) r1 r2 (SeqAt.canLay_of_shaped sd) (SeqAt.canLay_of_shaped se) hc (by omega) X.prog X.w X.xe (EP X pins σ Q) ⟨.bl _, H, I, rfl, q⟩
  exact z
theorem opd_ltD {G : Gam} {X : Cx} (hK : G.K = X.K) (hu : X.A.units + 64 < cLine) : OpD G X (compareOp .Lt) dLt := ⟨_, op_ltD hu, fun κ w s σ H x y dx dy d Q ok rx ry e q => by
  unfold dLt at e
  cases e1 : toPy dx with
  | none => simp [e1] at e
  | some p =>
    cases e2 : toPy dy with
    | none => simp [e1, e2] at e
    | some p' =>
      simp only [e1, e2] at e
      split at e
      · rename_i c
        cases e
        rw [Bool.and_eq_true, Bool.and_eq_true] at c
        exact ⟨p, p', rx.py hK ok e1, ry.py hK ok e2, c.1.1, c.1.2, c.2, q w _ H (.refl _) ok (.bl _)⟩
      · cases e⟩
@[simp] theorem r_dLt_int (i j : Int) : dLt (.int i) (.int j) = some (.bl (decide (i < j))) := by
  simp [dLt, toPy, SeqAt.shaped, PyData.canLay0, PyData.depth, cmpv, ltv]
end DL
set_option maxRecDepth 100000
set_option maxHeartbeats 4000000
set_option autoImplicit false
namespace DL
open PySem PySem.Spec PyProof.Rows L2 RZ
section
variable {G : Gam} {W : WX} {X : Cx}
/-! ### list comprehensions of two fors -/
def lcL2 (vs vs1 : List Nat) (g : DG) (t : DT) (it1 : DA) (g1 : DG) (t1 : DT) (e : DE) : List D → List D → DS → Res DS (List D)
  | [], acc, s => .ok acc s
  | d :: r, acc, s => (noX (g d (wipeS vs s))).bind fun _ s1 => (noX (t s1)).bind fun b s2 => if b = true then (noX (it1 s2)).bind fun items s3 => (noX (lcL vs1 g1 t1 e items acc s3)).bind fun acc' s4 => lcL2 vs vs1 g t it1 g1 t1 e r acc' s4
    else lcL2 vs vs1 g t it1 g1 t1 e r acc s2
def aLc2 (vs vs1 : List Nat) (it : DA) (g : DG) (t : DT) (it1 : DA) (g1 : DG) (t1 : DT) (e : DE) : DA := fun s => (it s).bind fun items s1 => (noX (lcL2 vs vs1 g t it1 g1 t1 e items [] s1)).bind fun ys s2 => .ok ys ⟨unwipe vs s1.sl (wipeD vs s2.sl), s2.st⟩
theorem wipeD_at {vs : List Nat} {l : List Sl} {i : Nat} (hi : i ∈ vs) : (wipeD vs l)[i]? = if i < l.length then some .un else none := by
  induction vs with
  | nil => simp at hi
  | cons v r ih =>
    unfold wipeD
    by_cases e : v = i
    · subst e
      by_cases c : v < l.length
      · rw [List.getElem?_set_self (by rw [wipeD_length]; exact c), if_pos c]
      · rw [if_neg c, List.getElem?_eq_none (by rw [List.length_set, wipeD_length]; omega)]
    · rw [List.getElem?_set_ne e]
      exact ih (by rcases List.mem_cons.mp hi with z | z; exact absurd z.symm e; exact z)
theorem wipeD_notin {vs : List Nat} {l : List Sl} {i : Nat} (hi : i ∉ vs) : (wipeD vs l)[i]? = l[i]? := by
  induction vs with
  | nil => rfl
  | cons v r ih =>
    unfold wipeD
    rw [List.getElem?_set_ne (fun z => hi (by rw [z]; exact List.mem_cons_self))]
    exact ih fun z => hi (List.mem_cons_of_mem _ z)
theorem wipeD_sub {vs vs1 : List Nat} (h : ∀ i ∈ vs1, i ∈ vs) (l : List Sl) : wipeD vs (wipeD vs1 l) = wipeD vs l := by
  apply List.ext_getElem?
  intro i
  by_cases hi : i ∈ vs
  · rw [wipeD_at hi, wipeD_at hi, wipeD_length]
  · rw [wipeD_notin hi, wipeD_notin hi, wipeD_notin fun z => hi (h i z)]
theorem wipe_at {vs : List Nat} {τ : L2.St} {i : Nat} (hi : i ∈ vs) : (L2.wipe τ vs)[i]? = if i < τ.length then some none else none := by
  induction vs with
  | nil => simp at hi
  | cons v r ih =>
    unfold L2.wipe
    by_cases e : v = i
    · subst e
      by_cases c : v < τ.length
      · rw [List.getElem?_set_self (by rw [wipe_length]; exact c), if_pos c]
      · rw [if_neg c, List.getElem?_eq_none (by rw [List.length_set, wipe_length]; omega)]
    · rw [List.getElem?_set_ne e]
      exact ih (by rcases List.mem_cons.mp hi with z | z; exact absurd z.symm e; exact z)
theorem wipe_sub {vs vs1 : List Nat} (h : ∀ i ∈ vs1, i ∈ vs) (τ : L2.St) : L2.wipe (L2.wipe τ vs1) vs = L2.wipe τ vs := by
  apply List.ext_getElem?
  intro i
  by_cases hi : i ∈ vs
  · rw [wipe_at hi, wipe_at hi, wipe_length]
  · rw [wipe_out' hi, wipe_out' hi, wipe_out' fun z => hi (h i z)]
/-- the inner loop: from a list begun -/
theorem lcin_of {vs is : List Nat} (hs : ∀ i ∈ is, i ∈ vs) {κ : Bs} {w : Wd} {J : It} {g : DG} {t : DT} {e : DE} {items : List D} (hJ : ItOk G w J items) {s0 : DS} {σ : L2.St} {H1 : Hp} {Nx0 : Hp → Prop} {Dp : Addr} {acc0 : List V} {accD0 : List D} (hγ : ∀ q ∈ κ.γ, q.1 ≠ Dp) (ok : Ok G (κ.plus Dp (.lst acc0)) w s0 σ H1) (ra0 : Reps G w acc0 accD0)
    (q : match noX (lcL vs g t e items accD0 s0) with
      | .ok ys s2 => ∀ w2 acc H2, w.le w2 → Ok G (κ.plus Dp (.lst acc)) w2 (wipeS vs s2) (L2.wipe σ vs) H2 → Reps G w2 acc ys → Nx0 H2
      | _ => False) :
    ∃ Wv : Nat → Nat → Hp → Prop, (∃ m, Wv 0 m H1) ∧ ∀ i m H, Wv i m H →
      (J.stop i H ∧ Nx0 H) ∨ (J.go i H ∧ ∃ Nx : Hp → Prop, (∀ H', Nx H' → ∃ m', m' < m ∧ Wv (i + 1) m' H') ∧ ∀ x H', J.yld i H x H' → tDG G is g x (L2.wipe σ vs) H' fun σ2 H2 => L2.wipe σ2 vs = L2.wipe σ vs ∧ tDT G WF t σ2 H2 fun b H3 =>
        if b = true then tD G WF e σ2 H3 fun y H4 => ∃ acc, H4 Dp = some (.lst acc) ∧ acc.length < sizeLine ∧ Nx (upd H4 Dp (.lst (acc ++ [y]))) else Nx H3) := by
  -- the loop's own states: before the first turn the slots are not wiped yet
  refine ⟨fun i m H => (∃ w' s' acc accD, w.le w' ∧ (Ok G (κ.plus Dp (.lst acc)) w' (wipeS vs s') (L2.wipe σ vs) H) ∧ Reps G w' acc accD ∧ (items.drop i).length = m ∧
    (match noX (lcL vs g t e (items.drop i) accD s') with
      | .ok ys s2 => ∀ w2 acc H2, w'.le w2 → Ok G (κ.plus Dp (.lst acc)) w2 (wipeS vs s2) (L2.wipe σ vs) H2 → Reps G w2 acc ys → Nx0 H2
      | _ => False)), ⟨items.length, w, s0, acc0, accD0, .refl _, ok.wipe vs, ra0, by simp, ?_⟩, ?_⟩
  · rw [List.drop_zero]
    exact q
  · rintro i m H ⟨w', s', acc, accD, le', ok', ra, hm, q'⟩
    cases ed : items.drop i with
    | nil =>
      rw [ed] at q'
      have hn : items[i]? = none := by
        have := congrArg (fun l => l[0]?) ed
        simpa using this
      exact .inl ⟨(hJ w' _ H le' ok'.fok i).2 hn, q' w' acc H (.refl _) ok' ra⟩
    | cons d r =>
      rw [ed] at q' hm
      obtain ⟨h1, h2⟩ := drop_get ed
      obtain ⟨go, yl⟩ := (hJ w' _ H le' ok'.fok i).1 d h1
      refine .inr ⟨go, fun H2 => ∃ w2 s2 acc accD, w.le w2 ∧ Ok G (κ.plus Dp (.lst acc)) w2 (wipeS vs s2) (L2.wipe σ vs) H2 ∧ Reps G w2 acc accD ∧
        (match noX (lcL vs g t e r accD s2) with
          | .ok ys s3 => ∀ w3 acc H3, w2.le w3 → Ok G (κ.plus Dp (.lst acc)) w3 (wipeS vs s3) (L2.wipe σ vs) H3 → Reps G w3 acc ys → Nx0 H3
          | _ => False), fun H2 ⟨w2, s2, acc2, accD2, l2, o2, r2, q2⟩ => ?_, fun x H' hy => ?_⟩
      · exact ⟨r.length, by rw [← hm]; exact Nat.lt_succ_self _, w2, s2, acc2, accD2, l2, o2, r2, by rw [h2], by rw [h2]; exact q2⟩
      · obtain ⟨w2, nx, fok, rx⟩ := yl x H' hy
        have ok2 : Ok G (κ.plus Dp (.lst acc)) w2 (wipeS vs s') (L2.wipe σ vs) H' := ok'.step nx fok
        refine ⟨κ.plus Dp (.lst acc), w2, wipeS vs s', d, ok2, rx, PostT.ofNoX ?_⟩
        unfold lcL at q'
        cases e1 : noX (g d (wipeS vs s')) with
        | stuck => rw [e1] at q'; exact q'.elim
        | exc x s => exact absurd e1 (noX_exc _ _ _)
        | ok u s1 =>
          rw [e1] at q'
          rw [Res.bind_ok] at q'
          intro w3 σ3 H3 l3 o3 hσ
          have hw : L2.wipe σ3 vs = L2.wipe σ vs := wipe_same hσ.1 hσ.2 hs
          refine ⟨hw, κ.plus Dp (.lst acc), w3, s1, o3, ?_⟩
          cases e2 : t s1 with
          | stuck => rw [e2] at q'; exact q'.elim
          | exc x s => rw [e2] at q'; exact q'.elim
          | ok b s2 =>
            rw [e2] at q'
            intro w4 b' H4 l4 o4 eb
            subst eb
            have lw : w'.le w4 := (nx.le.trans l3).trans l4
            cases b' with
            | false =>
              rw [if_neg (fun z => nomatch z)]
              refine ⟨w4, s2, acc, accD, le'.trans lw, by rw [← hw]; exact o4.wipe vs, ra.mono lw, ?_⟩
              replace q' : (match noX (lcL vs g t e r accD s2) with
                | .ok ys s3 => ∀ w3 acc H3, w'.le w3 → Ok G (κ.plus Dp (.lst acc)) w3 (wipeS vs s3) (L2.wipe σ vs) H3 → Reps G w3 acc ys → Nx0 H3
                | _ => False) := q'
              cases e3 : noX (lcL vs g t e r accD s2) with
              | stuck => rw [e3] at q'; exact q'.elim
              | exc x s => rw [e3] at q'; exact q'.elim
              | ok ys s3 => rw [e3] at q'; exact fun w5 acc5 H5 l5 o5 r5 => q' w5 acc5 H5 (lw.trans l5) o5 r5
            | true =>
              rw [if_pos rfl]
              refine ⟨κ.plus Dp (.lst acc), w4, s2, o4, ?_⟩
              replace q' : (match noX ((noX (e s2)).bind fun y s3 => if accD.length < 1000000 then lcL vs g t e r (accD ++ [y]) s3 else .stuck) with
                | .ok ys s3 => ∀ w3 acc H3, w'.le w3 → Ok G (κ.plus Dp (.lst acc)) w3 (wipeS vs s3) (L2.wipe σ vs) H3 → Reps G w3 acc ys → Nx0 H3
                | _ => False) := q'
              cases e3 : e s2 with
              | stuck => rw [e3] at q'; exact q'.elim
              | exc x s => rw [e3] at q'; exact q'.elim
              | ok y s3 =>
                rw [e3] at q'
                intro w5 v5 H5 l5 o5 r5
                replace q' : (match noX (if accD.length < 1000000 then lcL vs g t e r (accD ++ [y]) s3 else .stuck) with
                  | .ok ys s3 => ∀ w3 acc H3, w'.le w3 → Ok G (κ.plus Dp (.lst acc)) w3 (wipeS vs s3) (L2.wipe σ vs) H3 → Reps G w3 acc ys → Nx0 H3
                  | _ => False) := q'
                by_cases c : accD.length < 1000000
                · rw [if_pos c] at q'
                  refine ⟨acc, (o5.gam (Dp, .lst acc) List.mem_cons_self).1, by rw [ra.length, sizeLine_eq]; omega, w5, s3, acc ++ [v5], accD ++ [y], le'.trans (lw.trans l5), ?_, ((ra.mono lw).mono l5).append (.cons r5 .nil), ?_⟩
                  · rw [← hw]
                    exact (o5.swap hγ).wipe vs
                  · cases e4 : noX (lcL vs g t e r (accD ++ [y]) s3) with
                    | stuck => rw [e4] at q'; exact q'.elim
                    | exc x s => rw [e4] at q'; exact q'.elim
                    | ok ys s4 => rw [e4] at q'; exact fun w6 acc6 H6 l6 o6 r6 => q' w6 acc6 H6 ((lw.trans l5).trans l6) o6 r6
                · rw [if_neg c] at q'
                  exact q'.elim
theorem lc2_of {vs is vs1 is1 : List Nat} (hs : ∀ i ∈ is, i ∈ vs) (hs1 : ∀ i ∈ is1, i ∈ vs1) (hv : ∀ i ∈ vs1, i ∈ vs) {κ : Bs} {w : Wd} {J : It} {g : DG} {t : DT} {it1 : DA} {g1 : DG} {t1 : DT} {e : DE} {items : List D} (hJ : ItOk G w J items) {s0 : DS} {σ : L2.St} {H1 : Hp} {Q : VK} (ok : Ok G κ w s0 σ H1) {Dp : Addr} (hD : H1 Dp = none)
    (q : match noX (lcL2 vs vs1 g t it1 g1 t1 e items [] s0) with
      | .ok ys s2 => ∀ w2 acc H2, w.le w2 → Ok G (κ.plus Dp (.lst acc)) w2 (wipeS vs s2) (L2.wipe σ vs) H2 → Reps G w2 acc ys → Q (.ref Dp) H2
      | _ => False) :
    ∃ Wv : Nat → Nat → Hp → Prop, (∃ m, Wv 0 m (upd H1 Dp (.lst []))) ∧ ∀ i m H, Wv i m H →
      (J.stop i H ∧ Q (.ref Dp) H) ∨ (J.go i H ∧ ∃ Nx : Hp → Prop, (∀ H', Nx H' → ∃ m', m' < m ∧ Wv (i + 1) m' H') ∧ ∀ x H', J.yld i H x H' → tDG G is g x (L2.wipe σ vs) H' fun σ2 H2 => L2.wipe σ2 vs = L2.wipe σ vs ∧ tDT G WF t σ2 H2 fun b H3 =>
        if b = true then tDI G WF it1 σ2 H3 fun J1 H4 => ∃ W1 : Nat → Nat → Hp → Prop, (∃ m, W1 0 m H4) ∧ ∀ j k H, W1 j k H →
          (J1.stop j H ∧ Nx H) ∨ (J1.go j H ∧ ∃ Nx1 : Hp → Prop, (∀ H', Nx1 H' → ∃ k', k' < k ∧ W1 (j + 1) k' H') ∧ ∀ x H', J1.yld j H x H' → tDG G is1 g1 x (L2.wipe σ2 vs1) H' fun σ3 H5 => L2.wipe σ3 vs1 = L2.wipe σ2 vs1 ∧ tDT G WF t1 σ3 H5 fun b H6 =>
            if b = true then tD G WF e σ3 H6 fun y H7 => ∃ acc, H7 Dp = some (.lst acc) ∧ acc.length < sizeLine ∧ Nx1 (upd H7 Dp (.lst (acc ++ [y]))) else Nx1 H6)
        else Nx H3) := by
  have hγ := ok.apart hD
  refine ⟨fun i m H => ∃ w' s' acc accD, w.le w' ∧ Ok G (κ.plus Dp (.lst acc)) w' (wipeS vs s') (L2.wipe σ vs) H ∧ Reps G w' acc accD ∧ (items.drop i).length = m ∧
    (match noX (lcL2 vs vs1 g t it1 g1 t1 e (items.drop i) accD s') with
      | .ok ys s2 => ∀ w2 acc H2, w'.le w2 → Ok G (κ.plus Dp (.lst acc)) w2 (wipeS vs s2) (L2.wipe σ vs) H2 → Reps G w2 acc ys → Q (.ref Dp) H2
      | _ => False), ⟨items.length, w, s0, [], [], .refl _, (ok.fresh hD _).wipe vs, .nil, by simp, ?_⟩, ?_⟩
  · rw [List.drop_zero]
    exact q
  · rintro i m H ⟨w', s', acc, accD, le', ok', ra, hm, q'⟩
    cases ed : items.drop i with
    | nil =>
      rw [ed] at q'
      have hn : items[i]? = none := by
        have := congrArg (fun l => l[0]?) ed
        simpa using this
      exact .inl ⟨(hJ w' _ H le' ok'.fok i).2 hn, q' w' acc H (.refl _) ok' ra⟩
    | cons d r =>
      rw [ed] at q' hm
      obtain ⟨h1, h2⟩ := drop_get ed
      obtain ⟨go, yl⟩ := (hJ w' _ H le' ok'.fok i).1 d h1
      refine .inr ⟨go, fun H2 => ∃ w2 s2 acc accD, w.le w2 ∧ Ok G (κ.plus Dp (.lst acc)) w2 (wipeS vs s2) (L2.wipe σ vs) H2 ∧ Reps G w2 acc accD ∧
        (match noX (lcL2 vs vs1 g t it1 g1 t1 e r accD s2) with
          | .ok ys s3 => ∀ w3 acc H3, w2.le w3 → Ok G (κ.plus Dp (.lst acc)) w3 (wipeS vs s3) (L2.wipe σ vs) H3 → Reps G w3 acc ys → Q (.ref Dp) H3
          | _ => False), fun H2 ⟨w2, s2, acc2, accD2, l2, o2, r2, q2⟩ => ?_, fun x H' hy => ?_⟩
      · exact ⟨r.length, by rw [← hm]; exact Nat.lt_succ_self _, w2, s2, acc2, accD2, l2, o2, r2, by rw [h2], by rw [h2]; exact q2⟩
      · obtain ⟨w2, nx, fok, rx⟩ := yl x H' hy
        have ok2 : Ok G (κ.plus Dp (.lst acc)) w2 (wipeS vs s') (L2.wipe σ vs) H' := ok'.step nx fok
        refine ⟨κ.plus Dp (.lst acc), w2, wipeS vs s', d, ok2, rx, PostT.ofNoX ?_⟩
        unfold lcL2 at q'
        cases e1 : noX (g d (wipeS vs s')) with
        | stuck => rw [e1] at q'; exact q'.elim
        | exc x s => exact absurd e1 (noX_exc _ _ _)
        | ok u s1 =>
          rw [e1] at q'
          rw [Res.bind_ok] at q'
          intro w3 σ3 H3 l3 o3 hσ
          have hw : L2.wipe σ3 vs = L2.wipe σ vs := wipe_same hσ.1 hσ.2 hs
          refine ⟨hw, κ.plus Dp (.lst acc), w3, s1, o3, ?_⟩
          cases e2 : t s1 with
          | stuck => rw [e2] at q'; exact q'.elim
          | exc x s => rw [e2] at q'; exact q'.elim
          | ok b s2 =>
            rw [e2] at q'
            intro w4 b' H4 l4 o4 eb
            subst eb
            have lw : w'.le w4 := (nx.le.trans l3).trans l4
            cases b' with
            | false =>
              rw [if_neg (fun z => nomatch z)]
              refine ⟨w4, s2, acc, accD, le'.trans lw, by rw [← hw]; exact o4.wipe vs, ra.mono lw, ?_⟩
              replace q' : (match noX (lcL2 vs vs1 g t it1 g1 t1 e r accD s2) with
                | .ok ys s3 => ∀ w3 acc H3, w'.le w3 → Ok G (κ.plus Dp (.lst acc)) w3 (wipeS vs s3) (L2.wipe σ vs) H3 → Reps G w3 acc ys → Q (.ref Dp) H3
                | _ => False) := q'
              cases e3 : noX (lcL2 vs vs1 g t it1 g1 t1 e r accD s2) with
              | stuck => rw [e3] at q'; exact q'.elim
              | exc x s => rw [e3] at q'; exact q'.elim
              | ok ys s3 => rw [e3] at q'; exact fun w5 acc5 H5 l5 o5 r5 => q' w5 acc5 H5 (lw.trans l5) o5 r5
            | true =>
              rw [if_pos rfl]
              refine ⟨κ.plus Dp (.lst acc), w4, s2, o4, ?_⟩
              replace q' : (match noX ((noX (it1 s2)).bind fun items s3 => (noX (lcL vs1 g1 t1 e items accD s3)).bind fun acc' s4 => lcL2 vs vs1 g t it1 g1 t1 e r acc' s4) with
                | .ok ys s3 => ∀ w3 acc H3, w'.le w3 → Ok G (κ.plus Dp (.lst acc)) w3 (wipeS vs s3) (L2.wipe σ vs) H3 → Reps G w3 acc ys → Q (.ref Dp) H3
                | _ => False) := q'
              cases e3 : it1 s2 with
              | stuck => rw [e3] at q'; exact q'.elim
              | exc x s => rw [e3] at q'; exact q'.elim
              | ok its s3 =>
                rw [e3] at q'
                intro w5 J1 H5 l5 o5 hJ1
                replace q' : (match noX ((noX (lcL vs1 g1 t1 e its accD s3)).bind fun acc' s4 => lcL2 vs vs1 g t it1 g1 t1 e r acc' s4) with
                  | .ok ys s3 => ∀ w3 acc H3, w'.le w3 → Ok G (κ.plus Dp (.lst acc)) w3 (wipeS vs s3) (L2.wipe σ vs) H3 → Reps G w3 acc ys → Q (.ref Dp) H3
                  | _ => False) := q'
                refine lcin_of hs1 hJ1 hγ o5 ((ra.mono lw).mono l5) ?_
                cases e4 : noX (lcL vs1 g1 t1 e its accD s3) with
                | stuck => rw [e4] at q'; exact q'.elim
                | exc x s => exact absurd e4 (noX_exc _ _ _)
                | ok acc' s4 =>
                  rw [e4] at q'
                  rw [Res.bind_ok] at q'
                  intro w6 acc6 H6 l6 o6 r6
                  refine ⟨w6, s4, acc6, acc', le'.trans ((lw.trans l5).trans l6), ?_, r6, ?_⟩
                  · have o7 := o6.wipe vs
                    rw [wipe_sub hv, hw] at o7
                    have : wipeS vs (wipeS vs1 s4) = wipeS vs s4 := by unfold wipeS; rw [wipeD_sub hv]
                    rw [this] at o7
                    exact o7
                  · cases e5 : noX (lcL2 vs vs1 g t it1 g1 t1 e r acc' s4) with
                    | stuck => rw [e5] at q'; exact q'.elim
                    | exc x s => rw [e5] at q'; exact q'.elim
                    | ok ys s5 => rw [e5] at q'; exact fun w8 acc8 H8 l8 o8 r8 => q' w8 acc8 H8 (((lw.trans l5).trans l6).trans l8) o8 r8
theorem lc2_fin {vs vs1 is is1 : List Nat} (hs' : ∀ i ∈ is, i ∈ vs) (hv : ∀ i ∈ vs1, i ∈ vs) (hs1' : ∀ i ∈ is1, i ∈ vs1) {it it1 : DA} {g g1 : DG} {t t1 : DT} {e : DE} {σ : L2.St} {H : Hp} {Q : VK} (h : tDo G W (aLc2 vs vs1 it g t it1 g1 t1 e) σ H Q) : tLc2 (tDI G W it) (tDG G is g) (tDT G WF t) (tDI G WF it1) (tDG G is1 g1) (tDT G WF t1) (tD G WF e) vs vs1 σ H Q := by
    obtain ⟨κ, w, s, ok, q⟩ := h
    refine ⟨κ, w, s, ok, ?_⟩
    unfold aLc2 at q
    cases e1 : it s with
    | stuck => rw [e1] at q; exact q.elim
    | exc x s' => rw [e1] at q; exact q
    | ok items s1 =>
      rw [e1] at q
      rw [Res.bind_ok] at q
      intro w1 J H1 l1 o1 hJ D hD
      refine lc2_of hs' hs1' hv hJ o1 hD ?_
      cases e2 : noX (lcL2 vs vs1 g t it1 g1 t1 e items [] s1) with
      | stuck => rw [e2] at q; exact q.elim
      | exc x s' => exact absurd e2 (noX_exc _ _ _)
      | ok ys s2 =>
        rw [e2] at q
        intro w2 acc H2 l2 o2 r2
        exact q w2 D acc H2 (l1.trans l2) (Ok.unwipe o1 l2 o2 rfl) (o1.apart hD) r2
theorem pdo_lc2 {elt tg iter tg1 iter1 : Expr} {ifs ifs1 : List Expr} {scope : Scope} {own : List (Str × Nat)} {is vs1 is1 : List Nat} {pos : Pos} {it it1 : DA} {g g1 : DG} {t t1 : DT} {e : DE} (hc : X.calm = true) (hN : X.N.Nodup) (hi : PDI G W X tg iter it) (ok : BlkOk X.N X.env.scope scope own) (hs' : ∀ i ∈ is, i ∈ own.map (·.2)) (hv : ∀ i ∈ vs1, i ∈ own.map (·.2)) (hs1' : ∀ i ∈ is1, i ∈ vs1)
    (hg : ∀ (s : Shared) (H : Hp) (C : Addr) (cl : List (Str × Addr)) (fp : List Addr), PDG G (X.blk s H scope (compEnvC scope cl C X.env) fp) tg is g) (ht : ∀ (s : Shared) (H : Hp) (C : Addr) (cl : List (Str × Addr)) (fp : List Addr), PTs (X.blk s H scope (compEnvC scope cl C X.env) fp) ifs (tDT G WF t))
    (hi1 : ∀ (s : Shared) (H : Hp) (C : Addr) (cl : List (Str × Addr)) (fp : List Addr), PDI G WF (X.blk s H scope (compEnvC scope cl C X.env) fp) tg1 iter1 it1)
    (hg1 : ∀ (s : Shared) (H : Hp) (C : Addr) (cl : List (Str × Addr)) (fp : List Addr), PDG G (X.blk s H scope (compEnvC scope cl C X.env) fp) tg1 is1 g1) (ht1 : ∀ (s : Shared) (H : Hp) (C : Addr) (cl : List (Str × Addr)) (fp : List Addr), PTs (X.blk s H scope (compEnvC scope cl C X.env) fp) ifs1 (tDT G WF t1))
    (he : ∀ (s : Shared) (H : Hp) (C : Addr) (cl : List (Str × Addr)) (fp : List Addr), PD G WF (X.blk s H scope (compEnvC scope cl C X.env) fp) elt e) (hs : ∀ x, foldedSetIterable iter X.env x = pure x := by intro _; rfl) (hs1 : ∀ env x, foldedSetIterable iter1 env x = pure x := by intro _ _; rfl) :
    PDo G W X (.ListComp elt [⟨tg, iter, ifs, 0⟩, ⟨tg1, iter1, ifs1, 0⟩] scope pos) (aLc2 (own.map (·.2)) vs1 it g t it1 g1 t1 e) :=
  (pe_lc2 hc hN hi ok hv hg ht hi1 hg1 ht1 he hs hs1).imp fun σ H Q h => lc2_fin hs' hv hs1' h
theorem pds_setLc2 {i : Nat} {y : Str} {py : Pos} {spos : Pos} {elt tg iter tg1 iter1 : Expr} {ifs ifs1 : List Expr} {scope : Scope} {own : List (Str × Nat)} {is vs1 is1 : List Nat} {pos : Pos} {it it1 : DA} {g g1 : DG} {t t1 : DT} {e : DE} (hc : X.calm = true) (hN : X.N.Nodup) (hy : X.N[i]? = some y) (hyl : X.env.scope.names.lookup y = some .local)
    (hsw : swapsWith (.ListComp elt [⟨tg, iter, ifs, 0⟩, ⟨tg1, iter1, ifs1, 0⟩] scope pos) (some (.Name y py)) spos.line X.env = pure true) (hi : PDI G W X tg iter it) (ok : BlkOk X.N X.env.scope scope own) (hs' : ∀ i ∈ is, i ∈ own.map (·.2)) (hv : ∀ i ∈ vs1, i ∈ own.map (·.2)) (hs1' : ∀ i ∈ is1, i ∈ vs1)
    (hg : ∀ (s : Shared) (H : Hp) (C : Addr) (cl : List (Str × Addr)) (fp : List Addr), PDG G (X.blk s H scope (compEnvC scope cl C X.env) fp) tg is g) (ht : ∀ (s : Shared) (H : Hp) (C : Addr) (cl : List (Str × Addr)) (fp : List Addr), PTs (X.blk s H scope (compEnvC scope cl C X.env) fp) ifs (tDT G WF t))
    (hi1 : ∀ (s : Shared) (H : Hp) (C : Addr) (cl : List (Str × Addr)) (fp : List Addr), PDI G WF (X.blk s H scope (compEnvC scope cl C X.env) fp) tg1 iter1 it1)
    (hg1 : ∀ (s : Shared) (H : Hp) (C : Addr) (cl : List (Str × Addr)) (fp : List Addr), PDG G (X.blk s H scope (compEnvC scope cl C X.env) fp) tg1 is1 g1) (ht1 : ∀ (s : Shared) (H : Hp) (C : Addr) (cl : List (Str × Addr)) (fp : List Addr), PTs (X.blk s H scope (compEnvC scope cl C X.env) fp) ifs1 (tDT G WF t1))
    (he : ∀ (s : Shared) (H : Hp) (C : Addr) (cl : List (Str × Addr)) (fp : List Addr), PD G WF (X.blk s H scope (compEnvC scope cl C X.env) fp) elt e) (hs : ∀ x, foldedSetIterable iter X.env x = pure x := by intro _; rfl) (hs1 : ∀ env x, foldedSetIterable iter1 env x = pure x := by intro _ _; rfl) :
    PDS G W X (.Assign [.Name y py] (.ListComp elt [⟨tg, iter, ifs, 0⟩, ⟨tg1, iter1, ifs1, 0⟩] scope pos) spos) (sSetO i (aLc2 (own.map (·.2)) vs1 it g t it1 g1 t1 e)) :=
  (ps_setLc2 hc hN hy hyl hsw hi ok hv hg ht hi1 hg1 ht1 he hs hs1).imp fun N σ H q => by
    have q := setO_of q
    exact lc2_fin hs' hv hs1' q
@[simp] theorem r_aLc2 (vs vs1 : List Nat) (it : DA) (g : DG) (t : DT) (it1 : DA) (g1 : DG) (t1 : DT) (e : DE) (s : DS) : aLc2 vs vs1 it g t it1 g1 t1 e s = (it s).bind fun items s1 => (noX (lcL2 vs vs1 g t it1 g1 t1 e items [] s1)).bind fun ys s2 => .ok ys ⟨unwipe vs s1.sl (wipeD vs s2.sl), s2.st⟩ := rfl
end
end DL
set_option maxRecDepth 100000
set_option maxHeartbeats 4000000
set_option autoImplicit false
namespace DLN
open PySem PySem.Spec PyProof.Rows L2
/-! ### enumerate of a tuple -/
section
variable {prog : Program} {w : World} {A : Around} {E : Value → Shared → Prop} {s : Shared}
open AutoSeq1 (wpAny_loadPart')
theorem drawsT {it l : Addr} {items : Array Value} (hh : A.handled = none) (hne : it ≠ l) : Draws prog w A it [it, l] items.size (fun i v => items[i]? = some v) (fun i h => h.IsTupleIter it l i ∧ h.IsTuple l items) where
  live := fun i h st => by obtain ⟨⟨o, e, _⟩, _⟩ := st; exact ⟨o, e⟩
  frame := fun i h h' st k => ⟨st.1.at fun o e => k it (by simp) o e, st.2.at fun o e => k l (by simp) o e⟩
  item := fun i s Q E hi st hQ => by
    obtain ⟨h1, h2⟩ := st
    have hx : items[i]? = some items[i] := Array.getElem?_eq_getElem hi
    exact RZ.nextOf_tuple_item h1 h2 hx fun h' a b => hQ items[i] h' s.toks hx ⟨a, h2.at fun o e => (b.2 l (Ne.symm hne)).trans e⟩ b
  done := fun s Q E st hE => RZ.nextOf_tuple_end hh st.1 st.2 (by simp) hE
theorem meets_enumerate_newT (l : Addr) (items : Array Value) (n : Nat) (dct : Option Addr) (sl : Array (Option Value)) :
    Meets (Builtin.«enumerate.__new__» ⟨[.type "enumerate", .ref l], []⟩) (fun _ R s => s.heap.get? l = some { cls := .type "tuple", dict := dct, data := .seq items n, slots := sl } ∧
      R (.ok (.ret (.ref (s.heap.push { cls := .type "tuple_iterator", data := .fields #[.ref l, .int 0 0] }).objs.size)))
        { s with heap := (s.heap.push { cls := .type "tuple_iterator", data := .fields #[.ref l, .int 0 0] }).push { cls := .type "enumerate", data := .fields #[.none, .bool false, .ref s.heap.objs.size, rawInt 0, .none, .none] } }) :=
  .of_wp fun prog w A R s h => by
    obtain ⟨hp, g, d, tk, os⟩ := s; obtain ⟨hl, h⟩ := h
    have hsub := sub_enumerate
    have hL : Heap.IsTuple (Shared.heap ⟨hp, g, d, tk, os⟩) l items := ⟨_, hl, rfl, n, rfl⟩
    wp_walk using wpAny_loadPart' hl
    refine wpAny_stack_any fun st => wpAny_pure ?_
    split
    · rename_i c _ _ _ _ _
      cases (c == Value.type "enumerate")
      · wp_walk using wpAny_loadPart' hl, wpAny_pyIter_tuple hL
        exact ⟨_, rfl, h⟩
      · wp_walk using wpAny_loadPart' hl, wpAny_pyIter_tuple hL
        exact ⟨_, rfl, h⟩
    · wp_walk using wpAny_loadPart' hl, wpAny_pyIter_tuple hL
      exact ⟨_, rfl, h⟩
theorem call_enumerate_tuple {l : Addr} {items : Array Value} {Q : Value → Shared → Prop} (hL : s.heap.IsTuple l items)
    (h : ∀ h', IsEnum h' (s.heap.objs.size + 1) s.heap.objs.size 0 .none → h'.IsTupleIter s.heap.objs.size l 0 → h'.objs.size = s.heap.objs.size + 2 →
      (∀ b o, s.heap.get? b = some o → h'.get? b = some o) → Q (.ref (s.heap.objs.size + 1)) { s with heap := h' }) :
    wpAny (model prog w) A (call (.type "enumerate") [.ref l]) Q E s := by
  obtain ⟨⟨c, dct, dt, sl⟩, hl, hc, n, hd⟩ := hL
  replace hc : c = .type "tuple" := hc
  replace hd : dt = .seq items n := hd
  subst hc hd
  refine callType_new F.called_enumerate (by decide) (F.typeCall_enumerate_1 _) (F.newCall_enumerate_1 _) (fun obj => F.args_object_init_2 obj _) F.entry_enumerate_new
    (meets_enumerate_newT l items n dct sl) ⟨hl, ?_⟩
  have hz : (s.heap.push { cls := .type "tuple_iterator", data := .fields #[.ref l, .int 0 0] }).objs.size = s.heap.objs.size + 1 := Heap.size_push ..
  show _ ∧ _
  rw [hz]
  have he : IsEnum ((s.heap.push { cls := .type "tuple_iterator", data := .fields #[.ref l, .int 0 0] }).push
      { cls := .type "enumerate", data := .fields #[.none, .bool false, .ref s.heap.objs.size, rawInt 0, .none, .none] }) (s.heap.objs.size + 1) s.heap.objs.size 0 .none := by
    have := Heap.get?_push_size (s.heap.push { cls := .type "tuple_iterator", data := .fields #[.ref l, .int 0 0] })
      (o := { cls := .type "enumerate", data := .fields #[.none, .bool false, .ref s.heap.objs.size, rawInt 0, .none, .none] }) rfl
    rw [hz] at this; exact this
  refine ⟨⟨_, he, rfl⟩, h _ he ⟨_, Heap.get?_push_of_some _ (Heap.get?_push_size _ rfl), rfl, rfl⟩ (by rw [Heap.size_push, hz]) fun b o x => Heap.get?_push_of_some _ (Heap.get?_push_of_some _ x)⟩
end
def IteT (K : PySem.W.Frag) (a : Addr) : It :=
  ⟨fun i H => ∃ (xs : List V) (x : V), SqT K H a xs ∧ xs[i]? = some x, fun i H v H' => ∃ T x, v = .ref T ∧ H T = none ∧ H' = upd H T (.tup [.int (i : Nat), x]) ∧ ∀ xs, SqT K H a xs → xs[i]? = some x, fun i H => ∃ xs : List V, SqT K H a xs ∧ xs.length ≤ i⟩
theorem turn_enumT {P : Program} {w : World} {K : PySem.W.Frag} {elts : List Expr} {kk : Nat} {tpos : Pos} (a e it : Addr) :
    Turn P w K (.Tuple elts kk tpos) (IteT K a) [e, it] e (fun i h => (∃ old, IsEnum h e it ((i : Nat) : Int) old) ∧ h.IsTupleIter it a i ∧ e ≠ it) where
  mem := by simp
  obj := fun i h st b hb => by
    obtain ⟨⟨old, he⟩, ⟨o, ho, hc, hd⟩, _⟩ := st
    have e' : b = e ∨ b = it := by simpa using hb
    rcases e' with z | z
    · rw [z]; exact ⟨_, he, fun v q => nomatch q⟩
    · rw [z]; exact ⟨o, ho, fun v q => by rw [hd] at q; cases q⟩
  keep := fun i h h' st k => let ⟨⟨old, he⟩, hi, hne⟩ := st; ⟨⟨old, k e (by simp) _ he⟩, hi.at fun o q => k it (by simp) o q, hne⟩
  item := by
    intro X hP hw hK hc i pins s σ H E I hf st hg
    subst hP hw hK
    obtain ⟨⟨old, he⟩, hit, hne⟩ := st
    obtain ⟨xs, x, hq, hx⟩ := hg
    obtain ⟨its, rv, p, hz⟩ := I.tuple hq
    obtain ⟨u, hu, ru⟩ := rv.get hx
    have hel : e < s.heap.objs.size := Heap.lt_size he
    have hil : it < s.heap.objs.size := by obtain ⟨_, q, _⟩ := hit; exact Heap.lt_size q
    have hea : e ≠ a := fun z => by
      subst z
      obtain ⟨o, ho, hc', _⟩ := p
      rw [he] at ho
      cases ho
      simp at hc'
    have hia : it ≠ a := fun z => by
      subst z
      obtain ⟨o, ho, hc', _⟩ := p
      obtain ⟨o2, ho2, hc2, _⟩ := hit
      rw [ho2] at ho
      cases ho
      rw [hc2] at hc'
      simp at hc'
    have hlt : i < its.toArray.size := by
      have := List.getElem?_eq_some_iff.mp hu
      simpa using this.1
    refine wpAny_pyNext_enum_itemD (drawsT (I.ok.hd hc) hia) he ⟨hit, p⟩ hlt hne (by simp [hne, hea]) fun u' h' tk hP ho hit' hT hsz hk => ?_
    have eu : u' = u := by
      have h1 : its.toArray[i]? = some u' := hP
      have h2 : its.toArray[i]? = some u := by simpa using hu
      rw [h1] at h2
      exact Option.some.inj h2
    subst eu
    refine ⟨_, rfl, wpAny_letOwnedTupleGo_enum (s := { s with heap := h', toks := tk + 1 }) ho fun h'' he' sb => ?_⟩
    have hT2 : h''.get? s.heap.objs.size = some { cls := .type "tuple", data := .seq #[.int i tk, u'] } := (sb.2 _ (Nat.ne_of_gt hel)).trans hT
    have new : ObjOk X.prog X.w (upd H s.heap.objs.size (.tup [.int (i : Nat), x])) h'' s.heap.objs.size (.tup [.int (i : Nat), x]) :=
      ⟨by show 2 ≤ sizeLine; decide, [.int i tk, u'], .cons ⟨_, rfl⟩ (.cons ru .nil), ⟨_, hT2, rfl, _, rfl⟩⟩
    have I1 : Inv X pins σ (upd H s.heap.objs.size (.tup [.int (i : Nat), x])) { s with heap := h'', toks := tk + 1 } :=
      I.turnedNew (ch := [e, it]) (fun b ob hb q => (sb.2 b (fun z => hb (by simp [z]))).trans (hk b ob (fun z => hb (by simp [z])) (fun z => hb (by simp [z])) q)) hf (Nat.le_refl _) new
    refine ⟨.ref s.heap.objs.size, _, I1, rfl, ⟨_, x, rfl, I.hok.fresh (Nat.le_refl _), rfl, fun ys hy => by rw [I.tuple_inj hy hq]; exact hx⟩, ⟨⟨u', ?_⟩, hit'.1.at fun o q => (sb.2 it (Ne.symm hne)).trans q, hne⟩, fun b hb => ?_⟩
    · have e1 : ((i + 1 : Nat) : Int) = (i : Int) + 1 := by omega
      rw [e1]; exact he'
    · have hb' : b < s.heap.objs.size := by
        have e' : b = e ∨ b = it := by simpa using hb
        rcases e' with z | z
        · rw [z]; exact hel
        · rw [z]; exact hil
      rw [upd_ne (Nat.ne_of_lt hb')]
      exact (hf b hb).1
  done := by
    intro X hP hw hK hc i pins s σ H E I hf st hg
    subst hP hw hK
    obtain ⟨⟨old, he⟩, hit, hne⟩ := st
    obtain ⟨xs, hq, hx⟩ := hg
    obtain ⟨its, rv, p, hz⟩ := I.tuple hq
    obtain ⟨f0, f1, f2, f3, f4, f5⟩ := hf it (by simp)
    have hl := rv.length
    have hn : its.toArray[i]? = none := by simp; omega
    have hT : s.TypeIs (.ref e) "enumerate" := ⟨_, he, rfl⟩
    unfold pyNext
    refine wpAny_bind (wpAny_attempt (wpAny_callSpecial?_slot (name := Str.ofString "__next__") hT F.slot_enumerate_next
      (wpAny_call_entry F.slot_enumerate_next hT F.entry_enumerate_next ?_ (F.args_enumerate_next_1 _))))
    show wpAny _ _ (field (.ref e) 2 >>= _) _ _ _
    refine wpAny_bind (wpAny_field he rfl (x := .ref it) rfl ?_)
    refine wpAny_bind (RZ.nextOf_tuple_end (I.ok.hd hc) hit p hn fun h' x he' hx' => ?_)
    obtain ⟨o, ho, hc⟩ := hx'
    refine wpAny_bind (wpAny_isInstance (T := "StopIteration") (b := true) ⟨o, ho, hc⟩ isSubtype_stop ?_)
    exact wpAny_pure ⟨rfl, I.turned (t' := s.toks) (fun b o hb q => he' b o hb q) f0 f1 f3 f4 f5⟩
  self := fun A i s Q E st h => let ⟨⟨_, he⟩, _⟩ := st; wpAny_pyIter_enum he h
/-- a list, or a tuple -/
def iEnumX (K : PySem.W.Frag) (ta : TA) : TI := fun σ H R => ta σ H fun vs H1 => ∃ a xs, vs = [.ref a] ∧ ((SqL K H1 a xs ∧ R (Ite K a) H1) ∨ (SqT K H1 a xs ∧ R (IteT K a) H1))
theorem pi_enumX {X : Cx} {e : Expr} {ta : TA} {p pos tpos : Pos} {elts : List Expr} {kk : Nat} (hg : Gl X "enumerate") (hm : X.mg "enumerate" = none) (ha : PA X [e] ta) (hs : starEach [e] X.env = [(false, eval e X.env)] := by rfl) :
    PI X (.Tuple elts kk tpos) (.Call (.Name "enumerate" p) [e] [] pos) (iEnumX X.K ta) := by
  refine ⟨fun pins s σ H R I h => ?_⟩
  refine Call_ (ld_blt I hg hm boot_enumerate (PyProof.Rows.callWith_type1 (thn (ha.run pos pins s σ H _ I h) fun us s1 ⟨vs, H1, I1, r1, q1⟩ => ?_) hs rfl))
  obtain ⟨a, xs, ex, q1⟩ := q1
  subst ex
  cases r1 with
  | cons r rr =>
    cases rr
    cases r
    have fin : ∀ b ∈ [s1.heap.objs.size + 1, s1.heap.objs.size], FpOk X pins H1 b := fun b hb => by
      have e' : b = s1.heap.objs.size + 1 ∨ b = s1.heap.objs.size := by simpa using hb
      have hle : s1.heap.objs.size ≤ b := by
        rcases e' with z | z
        · rw [z]; exact Nat.le_add_right _ _
        · rw [z]; exact Nat.le_refl _
      exact I1.fpOk hle (I1.hok.fresh hle)
    rcases q1 with ⟨hq, q⟩ | ⟨hq, q⟩
    · obtain ⟨its, rv, p', hz⟩ := I1.list hq
      refine call_enumerate_list p'.isList fun h' he hit hsz hk => wpAny_pyIter_enum he ?_
      have I2 : Inv X pins σ H1 { s1 with heap := h' } := I1.kept (t' := s1.toks) hk
      exact ⟨s1.heap.objs.size + 1, [s1.heap.objs.size + 1, s1.heap.objs.size], _, _, H1, rfl, I2, turn_enum a (s1.heap.objs.size + 1) s1.heap.objs.size, ⟨⟨.none, he⟩, hit, Nat.succ_ne_self _⟩, fin, q⟩
    · obtain ⟨its, rv, p', hz⟩ := I1.tuple hq
      refine call_enumerate_tuple p' fun h' he hit hsz hk => wpAny_pyIter_enum he ?_
      have I2 : Inv X pins σ H1 { s1 with heap := h' } := I1.kept (t' := s1.toks) hk
      exact ⟨s1.heap.objs.size + 1, [s1.heap.objs.size + 1, s1.heap.objs.size], _, _, H1, rfl, I2, turn_enumT a (s1.heap.objs.size + 1) s1.heap.objs.size, ⟨⟨.none, he⟩, hit, Nat.succ_ne_self _⟩, fin, q⟩
end DLN
namespace DL
open PySem PySem.Spec PyProof.Rows L2 DLN
section
variable {G : Gam} {W : WX} {X : Cx}
theorem itOk_enumT (hK : G.K = X.K) {w : Wd} {a : Addr} {vs : List V} {ds : List D} (e : SqT G.K w.F a vs) (r : Reps G w vs ds) : ItOk G w (IteT X.K a) (enumL ds) := by
  intro w1 S H le fok i
  have q : SqT X.K H a vs := hK ▸ SqT.le (SqT.le e le.f) fok.sub
  refine ⟨fun d hd => ?_, fun hn => ?_⟩
  · obtain ⟨x, h1, rfl⟩ := enumL_get hd
    obtain ⟨y, h2, h3⟩ := r.get h1
    refine ⟨⟨vs, y, q, h2⟩, fun v H' ⟨T, x', hv, hT, hH, hx⟩ => ?_⟩
    have := hx vs q
    rw [h2] at this
    cases this
    obtain ⟨f2, n2⟩ := fok.alloc hT (.tup [.int (i : Nat), y])
    subst hH
    subst hv
    exact ⟨_, n2, f2, .tup (.inl (.inl upd_same)) (.cons (.int _) (.cons ((h3.mono le).mono n2.le) .nil))⟩
  · refine ⟨vs, q, ?_⟩
    have := List.getElem?_eq_none_iff.mp hn
    unfold enumL at this
    rw [List.length_zipWith, List.length_range] at this
    rw [r.length]
    omega
def itEnumX (f : DA) : DA := fun s => (f s).bind fun ds s1 => match ds with
  | [.lst xs] => .ok (enumL xs) s1
  | [.scr xs] => .ok (enumL xs) s1
  | [.tup xs] => .ok (enumL xs) s1
  | _ => .stuck
theorem pdi_enumX (hK : G.K = X.K) {e : Expr} {fa : DA} {p pos tpos : Pos} {elts : List Expr} {kk : Nat} (hg : Gl X "enumerate") (hm : X.mg "enumerate" = none) (ha : PDA G W X [e] fa) (hs : starEach [e] X.env = [(false, eval e X.env)] := by rfl) :
    PDI G W X (.Tuple elts kk tpos) (.Call (.Name "enumerate" p) [e] [] pos) (itEnumX fa) :=
  (pi_enumX hg hm ha hs).imp fun σ H R ⟨κ, w, s, ok, q⟩ => ⟨κ, w, s, ok, (PostG.bindI q).imp fun v H1 ⟨d, s1, w1, le, ok1, r1, q1⟩ => by
    match d, q1 with
    | [.lst xs], q1 =>
      obtain ⟨v, rfl, r⟩ := r1.one
      cases r with
      | @lst a vs ds e r =>
        have e' : SqL G.K w1.F a vs := .inl (.inl e)
        exact ⟨a, vs, rfl, .inl ⟨hK ▸ SqL.le e' ok1.fok.sub, q1 w1 _ H1 (.refl _) ok1 (itOk_enum hK e' r)⟩⟩
    | [.scr xs], q1 =>
      obtain ⟨v, rfl, r⟩ := r1.one
      cases r with
      | @scr a vs ds e r => exact ⟨a, vs, rfl, .inl ⟨hK ▸ SqL.le e ok1.fok.sub, q1 w1 _ H1 (.refl _) ok1 (itOk_enum hK e r)⟩⟩
    | [.tup xs], q1 =>
      obtain ⟨v, rfl, r⟩ := r1.one
      cases r with
      | @tup a vs ds e r => exact ⟨a, vs, rfl, .inr ⟨hK ▸ SqT.le e ok1.fok.sub, q1 w1 _ H1 (.refl _) ok1 (itOk_enumT hK e r)⟩⟩⟩
@[simp] theorem r_itEnumX (f : DA) (s : DS) : itEnumX f s = (f s).bind fun ds s1 => match ds with
  | [.lst xs] => .ok (enumL xs) s1
  | [.scr xs] => .ok (enumL xs) s1
  | [.tup xs] => .ok (enumL xs) s1
  | _ => .stuck := rfl
end
end DL
set_option maxRecDepth 100000
set_option maxHeartbeats 4000000
namespace W_k49
open PySem PySem.Spec PyProof.Rows L2 DL
noncomputable section
def topS (i : Nat) : Stmt := PySem.Challenge.pw_areawalks_k49_whole_alike_places.main.body.getD i (.Pass ⟨0, 0, 0, 0⟩)
theorem s_0 : ("left" : Str) = nm [108, 101, 102, 116] := by decide +kernel
theorem s_1 : ("count" : Str) = nm [99, 111, 117, 110, 116] := by decide +kernel
theorem s_2 : ("cells" : Str) = nm [99, 101, 108, 108, 115] := by decide +kernel
theorem s_3 : ("value" : Str) = nm [118, 97, 108, 117, 101] := by decide +kernel
theorem s_4 : ("x" : Str) = nm [120] := by decide +kernel
theorem s_5 : ("y" : Str) = nm [121] := by decide +kernel
theorem s_6 : ("area" : Str) = nm [97, 114, 101, 97] := by decide +kernel
theorem s_7 : ("north" : Str) = nm [110, 111, 114, 116, 104] := by decide +kernel
theorem s_8 : ("east" : Str) = nm [101, 97, 115, 116] := by decide +kernel
theorem s_9 : ("power" : Str) = nm [112, 111, 119, 101, 114] := by decide +kernel
theorem s_10 : ("twist" : Str) = nm [116, 119, 105, 115, 116] := by decide +kernel
theorem s_11 : ("lifted" : Str) = nm [108, 105, 102, 116, 101, 100] := by decide +kernel
theorem s_12 : ("number" : Str) = nm [110, 117, 109, 98, 101, 114] := by decide +kernel
abbrev xst_BadNumber : Stmt := inClass (topS 3) 0
theorem xsh_BadNumber : XSh xst_BadNumber "self" "value" "value" := ⟨_, _, _, _, _, _, _, _, _, _, _, rfl, rfl, rfl, rfl, rfl, rfl, rfl, by decide +kernel, rfl, rfl, rfl, by decide⟩
abbrev xst_BadPlace : Stmt := inClass (topS 4) 0
theorem xsh_BadPlace : XSh xst_BadPlace "self" "value" "value" := ⟨_, _, _, _, _, _, _, _, _, _, _, rfl, rfl, rfl, rfl, rfl, rfl, rfl, by decide +kernel, rfl, rfl, rfl, by decide⟩
abbrev xst_NotOnto : Stmt := inClass (topS 6) 0
theorem xsh_NotOnto : XSh xst_NotOnto "self" "number" "number" := ⟨_, _, _, _, _, _, _, _, _, _, _, rfl, rfl, rfl, rfl, rfl, rfl, rfl, by decide +kernel, rfl, rfl, rfl, by decide⟩
/-! _law_begin -/
abbrev st__law_begin : Stmt := topS 35
theorem sc__law_begin : FnScope ["_law_script"] ["_law_script"] (defScope st__law_begin) := ⟨rfl, rfl, rfl, by decide +kernel, rfl, by decide +kernel, by decide +kernel⟩
/-! _law_draw -/
abbrev st__law_draw : Stmt := topS 36
theorem sc__law_draw : FnScope ["_law_pen", "_law_span", "_law_digit", "_law_count", "_law_cell", "_law_first", "_law_blend"] ["_law_pen", "_law_span"] (defScope st__law_draw) := ⟨rfl, rfl, rfl, by decide +kernel, rfl, by decide +kernel, by decide +kernel⟩
/-! _law_gcd -/
abbrev st__law_gcd : Stmt := topS 44
theorem sc__law_gcd : FnScope ["_law_one", "_law_other", "_law_again"] ["_law_one", "_law_other"] (defScope st__law_gcd) := ⟨rfl, rfl, rfl, by decide +kernel, rfl, by decide +kernel, by decide +kernel⟩
/-! _law_made -/
abbrev st__law_made : Stmt := topS 50
theorem sc__law_made : FnScope ["_law_a", "_law_b", "_law_old", "_law_new", "_law_again", "_law_times_here"] ["_law_a", "_law_b"] (defScope st__law_made) := ⟨rfl, rfl, rfl, by decide +kernel, rfl, by decide +kernel, by decide +kernel⟩
/-! _law_join -/
abbrev st__law_join : Stmt := topS 38
theorem sc__law_join : FnScope ["_law_one", "_law_other", "_law_x", "_law_y", "_law_area", "_law_s", "_law_t", "_law_more"] ["_law_one", "_law_other"] (defScope st__law_join) := ⟨rfl, rfl, rfl, by decide +kernel, rfl, by decide +kernel, by decide +kernel⟩
/-! _law_times -/
abbrev st__law_times : Stmt := topS 39
theorem sc__law_times : FnScope ["_law_one", "_law_number", "_law_x", "_law_y", "_law_area", "_law_half"] ["_law_one", "_law_number"] (defScope st__law_times) := ⟨rfl, rfl, rfl, by decide +kernel, rfl, by decide +kernel, by decide +kernel⟩
/-! _law_twist -/
abbrev st__law_twist : Stmt := topS 43
theorem sc__law_twist : FnScope ["_law_one", "_law_other"] ["_law_one", "_law_other"] (defScope st__law_twist) := ⟨rfl, rfl, rfl, by decide +kernel, rfl, by decide +kernel, by decide +kernel⟩
/-! _law_renamed -/
abbrev st__law_renamed : Stmt := topS 45
theorem sc__law_renamed : FnScope ["_law_six_here", "_law_row_here", "_law_moved"] ["_law_six_here", "_law_row_here"] (defScope st__law_renamed) := ⟨rfl, rfl, rfl, by decide +kernel, rfl, by decide +kernel, by decide +kernel⟩
/-! _law_straight -/
abbrev st__law_straight : Stmt := topS 51
theorem sc__law_straight : FnScope ["_law_row_here", "_law_side", "_law_p", "_law_r", "_law_found"] ["_law_row_here"] (defScope st__law_straight) := ⟨rfl, rfl, rfl, by decide +kernel, rfl, by decide +kernel, by decide +kernel⟩
/-! _law_due -/
abbrev st__law_due : Stmt := topS 52
theorem sc__law_due : FnScope ["_law_one", "_law_other", "_law_first", "_law_second"] ["_law_one", "_law_other"] (defScope st__law_due) := ⟨rfl, rfl, rfl, by decide +kernel, rfl, by decide +kernel, by decide +kernel⟩
/-! _law_pick -/
abbrev st__law_pick : Stmt := topS 37
theorem sc__law_pick : FnScope ["_law_pen", "_law_some"] ["_law_pen", "_law_some"] (defScope st__law_pick) := ⟨rfl, rfl, rfl, by decide +kernel, rfl, by decide +kernel, by decide +kernel⟩
/-! _law_mid -/
abbrev st__law_mid : Stmt := topS 48
theorem sc__law_mid : FnScope ["_law_pen", "_law_small"] ["_law_pen"] (defScope st__law_mid) := ⟨rfl, rfl, rfl, by decide +kernel, rfl, by decide +kernel, by decide +kernel⟩
/-! _law_mid_drawn -/
abbrev st__law_mid_drawn : Stmt := topS 49
theorem sc__law_mid_drawn : FnScope ["_law_pen", "_law_row_here", "_law_way"] ["_law_pen"] (defScope st__law_mid_drawn) := ⟨rfl, rfl, rfl, by decide +kernel, rfl, by decide +kernel, by decide +kernel⟩
/-! _law_onto -/
abbrev st__law_onto : Stmt := topS 46
theorem sc__law_onto : FnScope ["_law_pen", "_law_one", "_law_other", "_law_again", "_law_k"] ["_law_pen"] (defScope st__law_onto) := ⟨rfl, rfl, rfl, by decide +kernel, rfl, by decide +kernel, by decide +kernel⟩
/-! is_integer -/
abbrev st_is_integer : Stmt := topS 8
theorem sc_is_integer : FnScope ["value"] ["value"] (defScope st_is_integer) := ⟨rfl, rfl, rfl, by decide +kernel, rfl, by decide +kernel, by decide +kernel⟩
/-! Place.__init__ -/
abbrev st_PlaceX_initX : Stmt := inClass (topS 12) 0
theorem sc_PlaceX_initX : FnScope ["self", "x", "y", "area", "value"] ["self", "x", "y", "area"] (defScope st_PlaceX_initX) := ⟨rfl, rfl, rfl, by decide +kernel, rfl, by decide +kernel, by decide +kernel⟩
/-! _law_place -/
abbrev st__law_place : Stmt := topS 40
theorem sc__law_place : FnScope ["_law_row_here"] ["_law_row_here"] (defScope st__law_place) := ⟨rfl, rfl, rfl, by decide +kernel, rfl, by decide +kernel, by decide +kernel⟩
/-! _law_whole -/
abbrev st__law_whole : Stmt := topS 41
theorem sc__law_whole : FnScope ["_law_value"] ["_law_value"] (defScope st__law_whole) := ⟨rfl, rfl, rfl, by decide +kernel, rfl, by decide +kernel, by decide +kernel⟩
/-! _law_row -/
abbrev st__law_row : Stmt := topS 42
theorem sc__law_row : FnScope ["_law_place_here", "_law_parts", "_law_part"] ["_law_place_here"] (defScope st__law_row) := ⟨rfl, rfl, rfl, by decide +kernel, rfl, by decide +kernel, by decide +kernel⟩
/-! _law_six -/
abbrev st__law_six : Stmt := topS 47
theorem sc__law_six : FnScope ["_law_renaming"] ["_law_renaming"] (defScope st__law_six) := ⟨rfl, rfl, rfl, by decide +kernel, rfl, by decide +kernel, by decide +kernel⟩
/-! Place.__eq__ -/
abbrev st_PlaceX_eqX : Stmt := inClass (topS 12) 1
theorem sc_PlaceX_eqX : FnScope ["self", "other"] ["self", "other"] (defScope st_PlaceX_eqX) := ⟨rfl, rfl, rfl, by decide +kernel, rfl, by decide +kernel, by decide +kernel⟩
/-! Place.lifted -/
abbrev st_Place_lifted : Stmt := inClass (topS 12) 6
theorem sc_Place_lifted : FnScope ["self", "storeys"] ["self", "storeys"] (defScope st_Place_lifted) := ⟨rfl, rfl, rfl, by decide +kernel, rfl, by decide +kernel, by decide +kernel⟩
/-! need_place -/
abbrev st_need_place : Stmt := topS 13
theorem sc_need_place : FnScope ["value"] ["value"] (defScope st_need_place) := ⟨rfl, rfl, rfl, by decide +kernel, rfl, by decide +kernel, by decide +kernel⟩
/-! Place.twist -/
abbrev st_Place_twist : Stmt := inClass (topS 12) 7
theorem sc_Place_twist : FnScope ["self", "other"] ["self", "other"] (defScope st_Place_twist) := ⟨rfl, rfl, rfl, by decide +kernel, rfl, by decide +kernel, by decide +kernel⟩
/-! Renaming.__init__ -/
abbrev st_RenamingX_initX : Stmt := inClass (topS 19) 0
theorem sc_RenamingX_initX : FnScope ["self", "east", "north"] ["self", "east", "north"] (defScope st_RenamingX_initX) := ⟨rfl, rfl, rfl, by decide +kernel, rfl, by decide +kernel, by decide +kernel⟩
/-! Place.__mul__ -/
abbrev st_PlaceX_mulX : Stmt := inClass (topS 12) 2
theorem sc_PlaceX_mulX : FnScope ["self", "other"] ["self", "other"] (defScope st_PlaceX_mulX) := ⟨rfl, rfl, rfl, by decide +kernel, rfl, by decide +kernel, by decide +kernel⟩
/-! pairs_below -/
abbrev st_pairs_below : Stmt := topS 10
theorem sc_pairs_below : FnScope ["number"] ["number"] (defScope st_pairs_below) := ⟨rfl, rfl, rfl, by decide +kernel, rfl, by decide +kernel, by decide +kernel⟩
/-! Place.power -/
abbrev st_Place_power : Stmt := inClass (topS 12) 4
theorem sc_Place_power : FnScope ["self", "number"] ["self", "number"] (defScope st_Place_power) := ⟨rfl, rfl, rfl, by decide +kernel, rfl, by decide +kernel, by decide +kernel⟩
/-! led_by -/
abbrev st_led_by : Stmt := topS 18
theorem sc_led_by : FnScope ["east", "north", "place", "moved"] ["east", "north", "place"] (defScope st_led_by) := ⟨rfl, rfl, rfl, by decide +kernel, rfl, by decide +kernel, by decide +kernel⟩
/-! Renaming.__invert__ -/
abbrev st_RenamingX_invertX : Stmt := inClass (topS 19) 4
theorem sc_RenamingX_invertX : FnScope ["self", "sign", "east", "north"] ["self"] (defScope st_RenamingX_invertX) := ⟨rfl, rfl, rfl, by decide +kernel, rfl, by decide +kernel, by decide +kernel⟩
/-! Renaming.__mul__ -/
abbrev st_RenamingX_mulX : Stmt := inClass (topS 19) 3
theorem sc_RenamingX_mulX : FnScope ["self", "other"] ["self", "other"] (defScope st_RenamingX_mulX) := ⟨rfl, rfl, rfl, by decide +kernel, rfl, by decide +kernel, by decide +kernel⟩
/-! figures_of -/
abbrev st_figures_of : Stmt := topS 27
theorem sc_figures_of : FnScope ["places", "place"] ["places"] (defScope st_figures_of) := ⟨rfl, rfl, rfl, by decide +kernel, rfl, by decide +kernel, by decide +kernel⟩
/-! first_at -/
abbrev st_first_at : Stmt := topS 22
theorem sc_first_at : FnScope ["places", "asked", "index", "place"] ["places", "asked"] (defScope st_first_at) := ⟨rfl, rfl, rfl, by decide +kernel, rfl, by decide +kernel, by decide +kernel⟩
/-! Renaming.__call__ -/
abbrev st_RenamingX_callX : Stmt := inClass (topS 19) 2
theorem sc_RenamingX_callX : FnScope ["self", "place"] ["self", "place"] (defScope st_RenamingX_callX) := ⟨rfl, rfl, rfl, by decide +kernel, rfl, by decide +kernel, by decide +kernel⟩
/-! renamed_all -/
abbrev st_renamed_all : Stmt := topS 23
theorem sc_renamed_all : FnScope ["renaming", "places", "place"] ["renaming", "places"] (defScope st_renamed_all) := ⟨rfl, rfl, rfl, by decide +kernel, rfl, by decide +kernel, by decide +kernel⟩
/-! same_names -/
abbrev st_same_names : Stmt := topS 20
theorem sc_same_names : FnScope [] [] (defScope st_same_names) := ⟨rfl, rfl, rfl, by decide +kernel, rfl, by decide +kernel, by decide +kernel⟩
/-! leaned_north -/
abbrev st_leaned_north : Stmt := topS 25
theorem sc_leaned_north : FnScope ["places", "index", "x", "y", "north", "renaming"] ["places"] (defScope st_leaned_north) := ⟨rfl, rfl, rfl, by decide +kernel, rfl, by decide +kernel, by decide +kernel⟩
/-! lowered_areas -/
abbrev st_lowered_areas : Stmt := topS 26
theorem sc_lowered_areas : FnScope ["places", "index", "below", "east", "north", "renaming"] ["places"] (defScope st_lowered_areas) := ⟨rfl, rfl, rfl, by decide +kernel, rfl, by decide +kernel, by decide +kernel⟩
/-! bezout_of -/
abbrev st_bezout_of : Stmt := topS 9
theorem sc_bezout_of : FnScope ["one", "other", "row", "below", "times"] ["one", "other"] (defScope st_bezout_of) := ⟨rfl, rfl, rfl, by decide +kernel, rfl, by decide +kernel, by decide +kernel⟩
/-! turned_east -/
abbrev st_turned_east : Stmt := topS 24
theorem sc_turned_east : FnScope ["places", "index", "x", "y", "side", "east", "north", "renaming"] ["places"] (defScope st_turned_east) := ⟨rfl, rfl, rfl, by decide +kernel, rfl, by decide +kernel, by decide +kernel⟩
/-! least_list -/
abbrev st_least_list : Stmt := topS 28
theorem sc_least_list : FnScope ["places", "first", "found", "second", "third", "lower", "best", "glass", "other"] ["places"] (defScope st_least_list) := ⟨rfl, rfl, rfl, by decide +kernel, rfl, by decide +kernel, by decide +kernel⟩
/-! need_places -/
abbrev st_need_places : Stmt := topS 14
theorem sc_need_places : FnScope ["values", "value"] ["values"] (defScope st_need_places) := ⟨rfl, rfl, rfl, by decide +kernel, rfl, by decide +kernel, by decide +kernel⟩
/-! alike -/
abbrev st_alike : Stmt := topS 30
theorem sc_alike : FnScope ["places", "others", "first", "one", "second", "other"] ["places", "others"] (defScope st_alike) := ⟨rfl, rfl, rfl, by decide +kernel, rfl, by decide +kernel, by decide +kernel⟩
/-! orders_of -/
abbrev st_orders_of : Stmt := topS 31
theorem sc_orders_of : FnScope ["number", "found", "step", "order", "at"] ["number"] (defScope st_orders_of) := ⟨rfl, rfl, rfl, by decide +kernel, rfl, by decide +kernel, by decide +kernel⟩
/-! alike_lots -/
abbrev st_alike_lots : Stmt := topS 33
theorem sc_alike_lots : FnScope ["places", "others", "order", "renaming", "at"] ["places", "others"] (defScope st_alike_lots) := ⟨rfl, rfl, rfl, by decide +kernel, rfl, by decide +kernel, by decide +kernel⟩
/-! list_key -/
abbrev st_list_key : Stmt := topS 29
theorem sc_list_key : FnScope ["places"] ["places"] (defScope st_list_key) := ⟨rfl, rfl, rfl, by decide +kernel, rfl, by decide +kernel, by decide +kernel⟩
/-! lot_key -/
abbrev st_lot_key : Stmt := topS 32
theorem sc_lot_key : FnScope ["places", "best", "order", "key", "at"] ["places"] (defScope st_lot_key) := ⟨rfl, rfl, rfl, by decide +kernel, rfl, by decide +kernel, by decide +kernel⟩
/-! law -/
abbrev st_law : Stmt := topS 53
theorem sc_law : FnScope ["_law_script", "_law_pen", "_law_again", "_law_many", "_law_one", "_law_other", "_law_way", "_law_place_here", "_law_goal", "_law_due_here", "_law_told", "_law_six_here"] ["_law_script"] (defScope st_law) := ⟨rfl, rfl, rfl, by decide +kernel, rfl, by decide +kernel, by decide +kernel⟩
def b__law_begin : DStm := sRet (eCellD (dDisp [(eC (.str [99, 101, 108, 108, 115]), eFrz (aList (aCons (eSlA (eVar 0) (oNone) (oSome (eC (.int 63)))) (aNil)))), (eC (.str [99, 111, 117, 110, 116]), eC (.int 0)), (eC (.str [108, 101, 102, 116]), eC (.int 0))]))
def g__law_begin : DFn := fnD 1 b__law_begin 0
def b__law_draw : DStm := sSeq (sIf (eB (eOp2 iGe (eDGet (eVar 0) (eC (.str [108, 101, 102, 116]))) (eVar 1))) (sSeq (sSet 2 (eOp2 iMod (eCB (bInt) (aCons (eDGet (eVar 0) (eC (.str [108, 101, 102, 116]))) (aNil))) (eVar 1)))
    (sSeq (sDPutC (eVar 0) (eC (.str [108, 101, 102, 116])) (eOp2 iDiv (eDGet (eVar 0) (eC (.str [108, 101, 102, 116]))) (eVar 1)))
    (sRet (eVar 2)))) (sPass))
    (sSeq (sSet 3 (eDGet (eVar 0) (eC (.str [99, 111, 117, 110, 116]))))
    (sSeq (sDPutC (eVar 0) (eC (.str [99, 111, 117, 110, 116])) (eOp2 dAdd (eVar 3) (eC (.int 1))))
    (sSeq (sSet 4 (eOp2 dAdd (eOp2 dMul (eC (.int 83)) (eVar 3)) (eC (.int 29))))
    (sSeq (sIf (eB (eOp2 dNe (eDGet (eVar 0) (eC (.str [99, 101, 108, 108, 115]))) (eFrz (aMax (aNil))))) (sSet 4 (eIx (eDGet (eVar 0) (eC (.str [99, 101, 108, 108, 115]))) (eOp2 iMod (eCB (bInt) (aCons (eVar 3) (aNil))) (eCB (bLen) (aCons (eDGet (eVar 0) (eC (.str [99, 101, 108, 108, 115]))) (aNil)))))) (sPass))
    (sSeq (sIf (bAnd (eB (eOp2 iLt (eVar 3) (eCB (bLen) (aCons (eDGet (eVar 0) (eC (.str [99, 101, 108, 108, 115]))) (aNil))))) (eB (eOp2 iGe (eVar 4) (eOp2 iPow (eC (.int 10)) (eC (.int 18)))))) (sSeq (sDPutC (eVar 0) (eC (.str [108, 101, 102, 116])) (eOp2 iDiv (eOp2 iSub (eVar 4) (eOp2 iPow (eC (.int 10)) (eC (.int 18)))) (eVar 1)))
    (sRet (eOp2 iMod (eCB (bInt) (aCons (eOp2 iSub (eVar 4) (eOp2 iPow (eC (.int 10)) (eC (.int 18)))) (aNil))) (eVar 1)))) (sPass))
    (sSeq (sSet 5 (eOp2 dAdd (eOp2 dMul (eOp2 iMod (eCB (bInt) (aCons (eVar 4) (aNil))) (eC (.int 2147482811))) (eC (.int 60013))) (eOp2 dMul (eOp2 dMul (eC (.int 35023)) (eVar 3)) (eVar 3))))
    (sSeq (sSet 6 (eOp2 iMod (eCB (bInt) (aCons (eOp2 dAdd (eOp2 dAdd (eVar 5) (eOp2 dMul (eC (.int 151)) (eVar 3))) (eC (.int 23))) (aNil))) (eC (.int 2147482873))))
    (sSeq (sSet 6 (eOp2 iMod (eCB (bInt) (aCons (eOp2 dMul (eVar 6) (eOp2 dAdd (eVar 6) (eC (.int 90007)))) (aNil))) (eC (.int 2147482951))))
    (sRet (eOp2 iMod (eCB (bInt) (aCons (eOp2 iDiv (eOp2 iMod (eCB (bInt) (aCons (eOp2 dAdd (eOp2 dMul (eVar 6) (eVar 6)) (eOp2 dMul (eC (.int 41)) (eVar 6))) (aNil))) (eC (.int 2147483033))) (eC (.int 64))) (aNil))) (eVar 1)))))))))))
def g__law_draw : DFn := fnD 2 b__law_draw 5
def w__law_gcd_0 : DStm := sSeq (sIf (eB (eOp2 dEq (eVar 1) (eC (.int 0)))) (sBreak) (sPass))
    (sPar 0 1 (aCons (eVar 1) (aCons (eOp2 iMod (eCB (bInt) (aCons (eVar 0) (aNil))) (eVar 1)) (aNil))))
def b__law_gcd : DStm := sSeq (sPar 0 1 (aCons (eCB (bAbs) (aCons (eVar 0) (aNil))) (aCons (eCB (bAbs) (aCons (eVar 1) (aNil))) (aNil))))
    (sSeq (sFor (itR1 (aCons (eC (.int 3000)) (aNil))) (gN 2) (w__law_gcd_0))
    (sRet (eVar 0)))
def g__law_gcd : DFn := fnD 2 b__law_gcd 1
def w__law_made_0 : DStm := sSeq (sIf (eB (eOp2 dEq (eIx (eVar 3) (eC (.int 0))) (eC (.int 0)))) (sBreak) (sPass))
    (sSeq (sSet 5 (eOp2 iDiv (eIx (eVar 2) (eC (.int 0))) (eIx (eVar 3) (eC (.int 0)))))
    (sPar 2 3 (aCons (eVar 3) (aCons (eTup (aCons (eOp2 iSub (eIx (eVar 2) (eC (.int 0))) (eOp2 dMul (eVar 5) (eIx (eVar 3) (eC (.int 0))))) (aCons (eOp2 iSub (eIx (eVar 2) (eC (.int 1))) (eOp2 dMul (eVar 5) (eIx (eVar 3) (eC (.int 1))))) (aCons (eOp2 iSub (eIx (eVar 2) (eC (.int 2))) (eOp2 dMul (eVar 5) (eIx (eVar 3) (eC (.int 2))))) (aNil))))) (aNil)))))
def b__law_made : DStm := sSeq (sPar 2 3 (aCons (eTup (aCons (eVar 0) (aCons (eC (.int 1)) (aCons (eC (.int 0)) (aNil))))) (aCons (eTup (aCons (eVar 1) (aCons (eC (.int 0)) (aCons (eC (.int 1)) (aNil))))) (aNil))))
    (sSeq (sFor (itR1 (aCons (eC (.int 3000)) (aNil))) (gN 4) (w__law_made_0))
    (sSeq (sIf (eB (eOp2 iLt (eIx (eVar 2) (eC (.int 0))) (eC (.int 0)))) (sRet (eTup (aCons (eNeg (eIx (eVar 2) (eC (.int 1)))) (aCons (eNeg (eIx (eVar 2) (eC (.int 2)))) (aNil))))) (sPass))
    (sRet (eTup (aCons (eIx (eVar 2) (eC (.int 1))) (aCons (eIx (eVar 2) (eC (.int 2))) (aNil)))))))
def g__law_made : DFn := fnD 2 b__law_made 4
def b__law_join : DStm := sSeq (sAsgT (eVar 0) (gT 3 (gsCons (gN 2) (gsCons (gN 3) (gsCons (gN 4) (gsNil))))))
    (sSeq (sAsgT (eVar 1) (gT 3 (gsCons (gN 5) (gsCons (gN 6) (gsCons (gN 7) (gsNil))))))
    (sRet (eTup (aCons (eOp2 dAdd (eVar 2) (eVar 5)) (aCons (eOp2 dAdd (eVar 3) (eVar 6)) (aCons (eOp2 dAdd (eOp2 dAdd (eVar 4) (eVar 7)) (eOp2 dMul (eVar 2) (eVar 6))) (aNil)))))))
def g__law_join : DFn := fnD 2 b__law_join 6
def b__law_times : DStm := sSeq (sAsgT (eVar 0) (gT 3 (gsCons (gN 2) (gsCons (gN 3) (gsCons (gN 4) (gsNil))))))
    (sSeq (sSet 5 (eOp2 iDiv (eOp2 dMul (eVar 1) (eOp2 iSub (eVar 1) (eC (.int 1)))) (eC (.int 2))))
    (sRet (eTup (aCons (eOp2 dMul (eVar 1) (eVar 2)) (aCons (eOp2 dMul (eVar 1) (eVar 3)) (aCons (eOp2 dAdd (eOp2 dMul (eVar 1) (eVar 4)) (eOp2 dMul (eOp2 dMul (eVar 5) (eVar 2)) (eVar 3))) (aNil)))))))
def g__law_times : DFn := fnD 2 b__law_times 4
def b__law_twist : DStm := sRet (eOp2 iSub (eOp2 dMul (eIx (eVar 0) (eC (.int 0))) (eIx (eVar 1) (eC (.int 1)))) (eOp2 dMul (eIx (eVar 1) (eC (.int 0))) (eIx (eVar 0) (eC (.int 1)))))
def g__law_twist : DFn := fnD 2 b__law_twist 0
def b__law_renamed : DStm := sSeq (sSet 2 (eCall 2 g__law_join (aCons (eCall 2 g__law_times (aCons (eIx (eVar 0) (eC (.int 1))) (aCons (eIx (eVar 1) (eC (.int 1))) (aNil)))) (aCons (eCall 2 g__law_times (aCons (eIx (eVar 0) (eC (.int 0))) (aCons (eIx (eVar 1) (eC (.int 0))) (aNil)))) (aNil)))))
    (sRet (eTup (aCons (eIx (eVar 2) (eC (.int 0))) (aCons (eIx (eVar 2) (eC (.int 1))) (aCons (eOp2 dAdd (eIx (eVar 2) (eC (.int 2))) (eOp2 dMul (eCall 2 g__law_twist (aCons (eIx (eVar 0) (eC (.int 0))) (aCons (eIx (eVar 0) (eC (.int 1))) (aNil)))) (eIx (eVar 1) (eC (.int 2))))) (aNil))))))
def g__law_renamed : DFn := fnD 2 b__law_renamed 1
def b__law_straight : DStm := sSeq (sSet 1 (eCall 2 g__law_gcd (aCons (eIx (eVar 0) (eC (.int 0))) (aCons (eIx (eVar 0) (eC (.int 1))) (aNil)))))
    (sSeq (sIf (eB (eOp2 dEq (eVar 1) (eC (.int 0)))) (sRet (eTup (aCons (eC (.int 0)) (aCons (eIx (eVar 0) (eC (.int 2))) (aNil))))) (sPass))
    (sSeq (sAsgT (eCall 2 g__law_made (aCons (eIx (eVar 0) (eC (.int 0))) (aCons (eIx (eVar 0) (eC (.int 1))) (aNil)))) (gT 2 (gsCons (gN 2) (gsCons (gN 3) (gsNil)))))
    (sSeq (sSet 4 (eCall 2 g__law_renamed (aCons (eTup (aCons (eTup (aCons (eVar 2) (aCons (eOp2 iDiv (eNeg (eIx (eVar 0) (eC (.int 1)))) (eVar 1)) (aCons (eC (.int 0)) (aNil))))) (aCons (eTup (aCons (eVar 3) (aCons (eOp2 iDiv (eIx (eVar 0) (eC (.int 0))) (eVar 1)) (aCons (eC (.int 0)) (aNil))))) (aNil)))) (aCons (eVar 0) (aNil)))))
    (sRet (eTup (aCons (eVar 1) (aCons (eIx (eVar 4) (eC (.int 2))) (aNil))))))))
def g__law_straight : DFn := fnD 1 b__law_straight 4
def b__law_due : DStm := sSeq (sPar 2 3 (aCons (eCall 1 g__law_straight (aCons (eVar 0) (aNil))) (aCons (eCall 1 g__law_straight (aCons (eVar 1) (aNil))) (aNil))))
    (sSeq (sIf (eB (eOp2 dNe (eIx (eVar 2) (eC (.int 0))) (eIx (eVar 3) (eC (.int 0))))) (sRet (eC (.bl false))) (sPass))
    (sSeq (sIf (eB (eOp2 dEq (eIx (eVar 2) (eC (.int 0))) (eC (.int 0)))) (sRet (eOp2 dEq (eCB (bAbs) (aCons (eIx (eVar 2) (eC (.int 1))) (aNil))) (eCB (bAbs) (aCons (eIx (eVar 3) (eC (.int 1))) (aNil))))) (sPass))
    (sRet (eOrT (eOp2 dEq (eOp2 iMod (eCB (bInt) (aCons (eOp2 iSub (eIx (eVar 2) (eC (.int 1))) (eIx (eVar 3) (eC (.int 1)))) (aNil))) (eIx (eVar 2) (eC (.int 0)))) (eC (.int 0))) (eOp2 dEq (eOp2 iMod (eCB (bInt) (aCons (eOp2 dAdd (eIx (eVar 2) (eC (.int 1))) (eIx (eVar 3) (eC (.int 1)))) (aNil))) (eIx (eVar 2) (eC (.int 0)))) (eC (.int 0)))))))
def g__law_due : DFn := fnD 2 b__law_due 2
def b__law_pick : DStm := sRet (eIx (eVar 1) (eCall 2 g__law_draw (aCons (eVar 0) (aCons (eCB (bLen) (aCons (eVar 1) (aNil))) (aNil)))))
def g__law_pick : DFn := fnD 2 b__law_pick 0
def b__law_mid : DStm := sSeq (sSet 1 (eOp2 iSub (eCall 2 g__law_draw (aCons (eVar 0) (aCons (eC (.int 13)) (aNil)))) (eC (.int 6))))
    (sRet (eOp2 dAdd (eVar 1) (eCall 2 g__law_pick (aCons (eVar 0) (aCons (eFrz (aMax (aCons (eC (.int 0)) (aCons (eC (.int 0)) (aCons (eC (.int 0)) (aCons (eOp2 iPow (eC (.int 10)) (eC (.int 6))) (aCons (eNeg (eOp2 iPow (eC (.int 10)) (eC (.int 15)))) (aNil)))))))) (aNil))))))
def g__law_mid : DFn := fnD 1 b__law_mid 1
def b__law_mid_drawn : DStm := sSeq (sSet 1 (eTup (aCons (eCall 1 g__law_mid (aCons (eVar 0) (aNil))) (aCons (eCall 1 g__law_mid (aCons (eVar 0) (aNil))) (aCons (eOp2 dMul (eCall 1 g__law_mid (aCons (eVar 0) (aNil))) (eCall 2 g__law_pick (aCons (eVar 0) (aCons (eFrz (aMax (aCons (eC (.int 1)) (aCons (eC (.int 1)) (aCons (eOp2 dAdd (eOp2 iPow (eC (.int 10)) (eC (.int 15))) (eC (.int 1))) (aNil)))))) (aNil))))) (aNil))))))
    (sSeq (sSet 2 (eCall 2 g__law_draw (aCons (eVar 0) (aCons (eC (.int 6)) (aNil)))))
    (sSeq (sIf (eB (eOp2 dEq (eVar 2) (eC (.int 0)))) (sSet 1 (eTup (aCons (eC (.int 0)) (aCons (eC (.int 0)) (aCons (eIx (eVar 1) (eC (.int 2))) (aNil)))))) (sPass))
    (sSeq (sIf (eB (eOp2 dEq (eVar 2) (eC (.int 1)))) (sSet 1 (eCall 2 g__law_pick (aCons (eVar 0) (aCons (eFrz (aMax (aCons (eTup (aCons (eIx (eVar 1) (eC (.int 0))) (aCons (eC (.int 0)) (aCons (eIx (eVar 1) (eC (.int 2))) (aNil))))) (aCons (eTup (aCons (eC (.int 0)) (aCons (eIx (eVar 1) (eC (.int 1))) (aCons (eIx (eVar 1) (eC (.int 2))) (aNil))))) (aNil))))) (aNil))))) (sPass))
    (sRet (eVar 1)))))
def g__law_mid_drawn : DFn := fnD 1 b__law_mid_drawn 2
def w__law_onto_0 : DStm := sSeq (sSet 4 (eCall 2 g__law_pick (aCons (eVar 0) (aCons (eFrz (aMax (aCons (eC (.int 1)) (aCons (eNeg (eC (.int 1))) (aCons (eC (.int 2)) (aCons (eNeg (eC (.int 3))) (aCons (eC (.int 1000)) (aNil)))))))) (aNil)))))
    (sAsgT (eCall 2 g__law_pick (aCons (eVar 0) (aCons (eFrz (aMax (aCons (eTup (aCons (eVar 2) (aCons (eVar 1) (aNil)))) (aCons (eTup (aCons (eVar 1) (aCons (eTup (aCons (eOp2 dAdd (eIx (eVar 2) (eC (.int 0))) (eOp2 dMul (eVar 4) (eIx (eVar 1) (eC (.int 0))))) (aCons (eOp2 dAdd (eIx (eVar 2) (eC (.int 1))) (eOp2 dMul (eVar 4) (eIx (eVar 1) (eC (.int 1))))) (aNil)))) (aNil)))) (aNil))))) (aNil)))) (gT 2 (gsCons (gN 1) (gsCons (gN 2) (gsNil)))))
def b__law_onto : DStm := sSeq (sPar 1 2 (aCons (eTup (aCons (eC (.int 1)) (aCons (eC (.int 0)) (aNil)))) (aCons (eTup (aCons (eC (.int 0)) (aCons (eCall 2 g__law_pick (aCons (eVar 0) (aCons (eFrz (aMax (aCons (eC (.int 1)) (aCons (eNeg (eC (.int 1))) (aNil))))) (aNil)))) (aNil)))) (aNil))))
    (sSeq (sFor (itR1 (aCons (eCall 2 g__law_draw (aCons (eVar 0) (aCons (eC (.int 5)) (aNil)))) (aNil))) (gN 3) (w__law_onto_0))
    (sRet (eTup (aCons (eTup (aCons (eIx (eVar 1) (eC (.int 0))) (aCons (eIx (eVar 1) (eC (.int 1))) (aCons (eCall 1 g__law_mid (aCons (eVar 0) (aNil))) (aNil))))) (aCons (eTup (aCons (eIx (eVar 2) (eC (.int 0))) (aCons (eIx (eVar 2) (eC (.int 1))) (aCons (eCall 1 g__law_mid (aCons (eVar 0) (aNil))) (aNil))))) (aNil))))))
def g__law_onto : DFn := fnD 1 b__law_onto 4
def b_is_integer : DStm := sRet (eAndT (eCB (bIsi ["Place", "Renaming"]) (aCons (eVar 0) (aCons (eC (.ty "int")) (aNil)))) (eNotT (eCB (bIsi ["Place", "Renaming"]) (aCons (eVar 0) (aCons (eC (.ty "bool")) (aNil))))))
def g_is_integer : DFn := fnD 1 b_is_integer 0
def w_PlaceX_initX_0 : DStm := sIf (bNot (eTru (eCall 1 g_is_integer (aCons (eVar 4) (aNil))))) (sRaise "BadNumber" [118, 97, 108, 117, 101] (aCons (eVar 4) (aNil))) (sPass)
def b_PlaceX_initX : DStm := sSeq (sFor (itSeq (eTup (aCons (eVar 1) (aCons (eVar 2) (aCons (eVar 3) (aNil)))))) (gN 4) (w_PlaceX_initX_0))
    (sSeq (sFldO "Place" 0 [120] (eVar 1))
    (sSeq (sFldO "Place" 0 [121] (eVar 2))
    (sFldO "Place" 0 [97, 114, 101, 97] (eVar 3))))
def g_PlaceX_initX : DIn := inD "Place" 3 b_PlaceX_initX 1
def b__law_place : DStm := sRet (eMake "Place" 3 g_PlaceX_initX (aCons (eIx (eVar 0) (eC (.int 0))) (aCons (eIx (eVar 0) (eC (.int 1))) (aCons (eIx (eVar 0) (eC (.int 2))) (aNil)))))
def g__law_place : DFn := fnD 1 b__law_place 0
def b__law_whole : DStm := sRet (eAndT (eCB (bIsi ["Place", "Renaming"]) (aCons (eVar 0) (aCons (eC (.ty "int")) (aNil)))) (eNotT (eCB (bIsi ["Place", "Renaming"]) (aCons (eVar 0) (aCons (eC (.ty "bool")) (aNil))))))
def g__law_whole : DFn := fnD 1 b__law_whole 0
def e__law_row_0 : DE := eCall 1 g__law_whole (aCons (eVar 2) (aNil))
def b__law_row : DStm := sSeq (sIf (bNot (eTru (eCB (bIsi ["Place", "Renaming"]) (aCons (eVar 0) (aCons (eC (.cls "Place")) (aNil)))))) (sRet (eC .non)) (sPass))
    (sSeq (sSet 1 (eTup (aCons (eFld ["Place"] [120] (eVar 0)) (aCons (eFld ["Place"] [121] (eVar 0)) (aCons (eFld ["Place"] [97, 114, 101, 97] (eVar 0)) (aNil))))))
    (sSeq (sIf (bNot (eTru (eCB (bAll) (aCons (eFrz (aLc [2] (itSeq (eVar 1)) (gN 2) (bYes) (e__law_row_0))) (aNil))))) (sRet (eC .non)) (sPass))
    (sRet (eVar 1))))
def g__law_row : DFn := fnD 1 b__law_row 2
def b__law_six : DStm := sSeq (sIf (bNot (eTru (eCB (bIsi ["Place", "Renaming"]) (aCons (eVar 0) (aCons (eC (.cls "Renaming")) (aNil)))))) (sRet (eC .non)) (sPass))
    (sRet (eTup (aCons (eCall 1 g__law_row (aCons (eFld ["Renaming"] [101, 97, 115, 116] (eVar 0)) (aNil))) (aCons (eCall 1 g__law_row (aCons (eFld ["Renaming"] [110, 111, 114, 116, 104] (eVar 0)) (aNil))) (aNil)))))
def g__law_six : DFn := fnD 1 b__law_six 0
def b_PlaceX_eqX : DStm := sSeq (sIf (bNot (eTru (eCB (bIsi ["Place", "Renaming"]) (aCons (eVar 1) (aCons (eC (.cls "Place")) (aNil)))))) (sRet (eC (.bl false))) (sPass))
    (sRet (eOp2 dEq (eTup (aCons (eFld ["Place"] [120] (eVar 0)) (aCons (eFld ["Place"] [121] (eVar 0)) (aCons (eFld ["Place"] [97, 114, 101, 97] (eVar 0)) (aNil))))) (eTup (aCons (eFld ["Place"] [120] (eVar 1)) (aCons (eFld ["Place"] [121] (eVar 1)) (aCons (eFld ["Place"] [97, 114, 101, 97] (eVar 1)) (aNil)))))))
def g_PlaceX_eqX : DFn := fnD 2 b_PlaceX_eqX 0
def b_Place_lifted : DStm := sSeq (sIf (bNot (eTru (eCall 1 g_is_integer (aCons (eVar 1) (aNil))))) (sRaise "BadNumber" [118, 97, 108, 117, 101] (aCons (eVar 1) (aNil))) (sPass))
    (sRet (eMake "Place" 3 g_PlaceX_initX (aCons (eFld ["Place"] [120] (eVar 0)) (aCons (eFld ["Place"] [121] (eVar 0)) (aCons (eOp2 dAdd (eFld ["Place"] [97, 114, 101, 97] (eVar 0)) (eVar 1)) (aNil))))))
def g_Place_lifted : DFn := fnD 2 b_Place_lifted 0
def b_need_place : DStm := sIf (bNot (eTru (eCB (bIsi ["Place", "Renaming"]) (aCons (eVar 0) (aCons (eC (.cls "Place")) (aNil)))))) (sRaise "BadPlace" [118, 97, 108, 117, 101] (aCons (eVar 0) (aNil))) (sPass)
def g_need_place : DFn := fnD 1 b_need_place 0
def b_Place_twist : DStm := sSeq (sExpr (eCall 1 g_need_place (aCons (eVar 1) (aNil))))
    (sRet (eOp2 iSub (eOp2 dMul (eFld ["Place"] [120] (eVar 0)) (eFld ["Place"] [121] (eVar 1))) (eOp2 dMul (eFld ["Place"] [120] (eVar 1)) (eFld ["Place"] [121] (eVar 0)))))
def g_Place_twist : DFn := fnD 2 b_Place_twist 0
def b_RenamingX_initX : DStm := sSeq (sExpr (eCall 1 g_need_place (aCons (eVar 1) (aNil))))
    (sSeq (sExpr (eCall 1 g_need_place (aCons (eVar 2) (aNil))))
    (sSeq (sFldO "Renaming" 0 [101, 97, 115, 116] (eVar 1))
    (sFldO "Renaming" 0 [110, 111, 114, 116, 104] (eVar 2))))
def g_RenamingX_initX : DIn := inD "Renaming" 2 b_RenamingX_initX 0
def b_PlaceX_mulX : DStm := sSeq (sIf (bNot (eTru (eCB (bIsi ["Place", "Renaming"]) (aCons (eVar 1) (aCons (eC (.cls "Place")) (aNil)))))) (sRaise "BadPlace" [118, 97, 108, 117, 101] (aCons (eVar 1) (aNil))) (sPass))
    (sRet (eMake "Place" 3 g_PlaceX_initX (aCons (eOp2 dAdd (eFld ["Place"] [120] (eVar 0)) (eFld ["Place"] [120] (eVar 1))) (aCons (eOp2 dAdd (eFld ["Place"] [121] (eVar 0)) (eFld ["Place"] [121] (eVar 1))) (aCons (eOp2 dAdd (eOp2 dAdd (eFld ["Place"] [97, 114, 101, 97] (eVar 0)) (eFld ["Place"] [97, 114, 101, 97] (eVar 1))) (eOp2 dMul (eFld ["Place"] [120] (eVar 0)) (eFld ["Place"] [121] (eVar 1)))) (aNil))))))
def g_PlaceX_mulX : DFn := fnD 2 b_PlaceX_mulX 0
def b_pairs_below : DStm := sRet (eOp2 iDiv (eOp2 dMul (eVar 0) (eOp2 iSub (eVar 0) (eC (.int 1)))) (eC (.int 2)))
def g_pairs_below : DFn := fnD 1 b_pairs_below 0
def b_Place_power : DStm := sSeq (sIf (bNot (eTru (eCall 1 g_is_integer (aCons (eVar 1) (aNil))))) (sRaise "BadNumber" [118, 97, 108, 117, 101] (aCons (eVar 1) (aNil))) (sPass))
    (sRet (eMake "Place" 3 g_PlaceX_initX (aCons (eOp2 dMul (eVar 1) (eFld ["Place"] [120] (eVar 0))) (aCons (eOp2 dMul (eVar 1) (eFld ["Place"] [121] (eVar 0))) (aCons (eOp2 dAdd (eOp2 dMul (eVar 1) (eFld ["Place"] [97, 114, 101, 97] (eVar 0))) (eOp2 dMul (eOp2 dMul (eCall 1 g_pairs_below (aCons (eVar 1) (aNil))) (eFld ["Place"] [120] (eVar 0))) (eFld ["Place"] [121] (eVar 0)))) (aNil))))))
def g_Place_power : DFn := fnD 2 b_Place_power 0
def b_led_by : DStm := sSeq (sSet 3 (eOpX (ownO "Place" g_PlaceX_mulX) (eMeth "Place" [112, 111, 119, 101, 114] 2 g_Place_power (eVar 1) (aCons (eFld ["Place"] [121] (eVar 2)) (aNil))) (eMeth "Place" [112, 111, 119, 101, 114] 2 g_Place_power (eVar 0) (aCons (eFld ["Place"] [120] (eVar 2)) (aNil)))))
    (sRet (eMeth "Place" [108, 105, 102, 116, 101, 100] 2 g_Place_lifted (eVar 3) (aCons (eOp2 dMul (eMeth "Place" [116, 119, 105, 115, 116] 2 g_Place_twist (eVar 0) (aCons (eVar 1) (aNil))) (eFld ["Place"] [97, 114, 101, 97] (eVar 2))) (aNil))))
def g_led_by : DFn := fnD 3 b_led_by 1
def b_RenamingX_invertX : DStm := sSeq (sSet 1 (eMeth "Place" [116, 119, 105, 115, 116] 2 g_Place_twist (eFld ["Renaming"] [101, 97, 115, 116] (eVar 0)) (aCons (eFld ["Renaming"] [110, 111, 114, 116, 104] (eVar 0)) (aNil))))
    (sSeq (sIf (eB (eOp2 (dIn true) (eVar 1) (eTup (aCons (eC (.int 1)) (aCons (eNeg (eC (.int 1))) (aNil)))))) (sRaise "NotOnto" [110, 117, 109, 98, 101, 114] (aCons (eVar 1) (aNil))) (sPass))
    (sSeq (sSet 2 (eMake "Place" 3 g_PlaceX_initX (aCons (eOp2 dMul (eVar 1) (eFld ["Place"] [121] (eFld ["Renaming"] [110, 111, 114, 116, 104] (eVar 0)))) (aCons (eOp2 dMul (eNeg (eVar 1)) (eFld ["Place"] [121] (eFld ["Renaming"] [101, 97, 115, 116] (eVar 0)))) (aCons (eC (.int 0)) (aNil))))))
    (sSeq (sSet 3 (eMake "Place" 3 g_PlaceX_initX (aCons (eOp2 dMul (eNeg (eVar 1)) (eFld ["Place"] [120] (eFld ["Renaming"] [110, 111, 114, 116, 104] (eVar 0)))) (aCons (eOp2 dMul (eVar 1) (eFld ["Place"] [120] (eFld ["Renaming"] [101, 97, 115, 116] (eVar 0)))) (aCons (eC (.int 0)) (aNil))))))
    (sSeq (sSet 2 (eMeth "Place" [108, 105, 102, 116, 101, 100] 2 g_Place_lifted (eVar 2) (aCons (eOp2 dMul (eNeg (eVar 1)) (eFld ["Place"] [97, 114, 101, 97] (eCall 3 g_led_by (aCons (eFld ["Renaming"] [101, 97, 115, 116] (eVar 0)) (aCons (eFld ["Renaming"] [110, 111, 114, 116, 104] (eVar 0)) (aCons (eVar 2) (aNil))))))) (aNil))))
    (sRet (eMake "Renaming" 2 g_RenamingX_initX (aCons (eVar 2) (aCons (eMeth "Place" [108, 105, 102, 116, 101, 100] 2 g_Place_lifted (eVar 3) (aCons (eOp2 dMul (eNeg (eVar 1)) (eFld ["Place"] [97, 114, 101, 97] (eCall 3 g_led_by (aCons (eFld ["Renaming"] [101, 97, 115, 116] (eVar 0)) (aCons (eFld ["Renaming"] [110, 111, 114, 116, 104] (eVar 0)) (aCons (eVar 3) (aNil))))))) (aNil))) (aNil)))))))))
def g_RenamingX_invertX : DFn := fnD 1 b_RenamingX_invertX 3
def b_RenamingX_mulX : DStm := sRet (eMake "Renaming" 2 g_RenamingX_initX (aCons (eCall 3 g_led_by (aCons (eFld ["Renaming"] [101, 97, 115, 116] (eVar 0)) (aCons (eFld ["Renaming"] [110, 111, 114, 116, 104] (eVar 0)) (aCons (eFld ["Renaming"] [101, 97, 115, 116] (eVar 1)) (aNil))))) (aCons (eCall 3 g_led_by (aCons (eFld ["Renaming"] [101, 97, 115, 116] (eVar 0)) (aCons (eFld ["Renaming"] [110, 111, 114, 116, 104] (eVar 0)) (aCons (eFld ["Renaming"] [110, 111, 114, 116, 104] (eVar 1)) (aNil))))) (aNil))))
def g_RenamingX_mulX : DFn := fnD 2 b_RenamingX_mulX 0
def e_figures_of_0 : DE := eTup (aCons (eFld ["Place"] [120] (eVar 1)) (aCons (eFld ["Place"] [121] (eVar 1)) (aCons (eFld ["Place"] [97, 114, 101, 97] (eVar 1)) (aNil))))
def b_figures_of : DStm := sRet (eCB (bTup) (aCons (eFrz (aLc [1] (itSeq (eVar 0)) (gN 1) (bYes) (e_figures_of_0))) (aNil)))
def g_figures_of : DFn := fnD 1 b_figures_of 1
def w_first_at_0 : DStm := sIf (bOr (bAnd (eB (eOp2 dEq (eVar 1) (eC (.str [120])))) (bOr (eB (eOp2 dNe (eFld ["Place"] [120] (eVar 3)) (eC (.int 0)))) (eB (eOp2 dNe (eFld ["Place"] [121] (eVar 3)) (eC (.int 0)))))) (bAnd (eB (eOp2 dEq (eVar 1) (eC (.str [121])))) (eB (eOp2 dNe (eFld ["Place"] [121] (eVar 3)) (eC (.int 0)))))) (sRet (eVar 2)) (sPass)
def b_first_at : DStm := sSeq (sFor (itEnumX (aCons (eVar 0) (aNil))) (gT 2 (gsCons (gN 2) (gsCons (gN 3) (gsNil)))) (w_first_at_0))
    (sRet (eC .non))
def g_first_at : DFn := fnD 2 b_first_at 2
def b_RenamingX_callX : DStm := sSeq (sExpr (eCall 1 g_need_place (aCons (eVar 1) (aNil))))
    (sRet (eCall 3 g_led_by (aCons (eFld ["Renaming"] [101, 97, 115, 116] (eVar 0)) (aCons (eFld ["Renaming"] [110, 111, 114, 116, 104] (eVar 0)) (aCons (eVar 1) (aNil))))))
def g_RenamingX_callX : DFn := fnD 2 b_RenamingX_callX 0
def e_renamed_all_0 : DE := eCallI "Renaming" 2 g_RenamingX_callX (eVar 0) (aCons (eVar 2) (aNil))
def b_renamed_all : DStm := sRet (eFrz (aLc [2] (itSeq (eVar 1)) (gN 2) (bYes) (e_renamed_all_0)))
def g_renamed_all : DFn := fnD 2 b_renamed_all 1
def b_same_names : DStm := sRet (eMake "Renaming" 2 g_RenamingX_initX (aCons (eMake "Place" 3 g_PlaceX_initX (aCons (eC (.int 1)) (aCons (eC (.int 0)) (aCons (eC (.int 0)) (aNil))))) (aCons (eMake "Place" 3 g_PlaceX_initX (aCons (eC (.int 0)) (aCons (eC (.int 1)) (aCons (eC (.int 0)) (aNil))))) (aNil))))
def g_same_names : DFn := fnD 0 b_same_names 0
def b_leaned_north : DStm := sSeq (sSet 1 (eCall 2 g_first_at (aCons (eVar 0) (aCons (eC (.str [121])) (aNil)))))
    (sSeq (sIf (eB (eOp2 dIsN (eVar 1) (eC .non))) (sRet (eTup (aCons (eCall 0 g_same_names aNil) (aCons (eFrz (aList (aCons (eVar 0) (aNil)))) (aNil))))) (sPass))
    (sSeq (sPar 2 3 (aCons (eFld ["Place"] [120] (eIx (eVar 0) (eVar 1))) (aCons (eFld ["Place"] [121] (eIx (eVar 0) (eVar 1))) (aNil))))
    (sSeq (sSet 4 (eIf (eB (eOp2 iGt (eVar 3) (eC (.int 0)))) (eMake "Place" 3 g_PlaceX_initX (aCons (eNeg (eOp2 iDiv (eVar 2) (eVar 3))) (aCons (eC (.int 1)) (aCons (eC (.int 0)) (aNil))))) (eMake "Place" 3 g_PlaceX_initX (aCons (eOp2 iDiv (eVar 2) (eNeg (eVar 3))) (aCons (eNeg (eC (.int 1))) (aCons (eC (.int 0)) (aNil)))))))
    (sSeq (sSet 5 (eMake "Renaming" 2 g_RenamingX_initX (aCons (eMake "Place" 3 g_PlaceX_initX (aCons (eC (.int 1)) (aCons (eC (.int 0)) (aCons (eC (.int 0)) (aNil))))) (aCons (eVar 4) (aNil)))))
    (sRet (eTup (aCons (eVar 5) (aCons (eCall 2 g_renamed_all (aCons (eVar 5) (aCons (eVar 0) (aNil)))) (aNil)))))))))
def g_leaned_north : DFn := fnD 1 b_leaned_north 5
def b_lowered_areas : DStm := sSeq (sPar 1 2 (aCons (eCall 2 g_first_at (aCons (eVar 0) (aCons (eC (.str [120])) (aNil)))) (aCons (eCall 2 g_first_at (aCons (eVar 0) (aCons (eC (.str [121])) (aNil)))) (aNil))))
    (sSeq (sIf (eB (eOp2 dIsN (eVar 1) (eC .non))) (sRet (eTup (aCons (eCall 0 g_same_names aNil) (aCons (eFrz (aList (aCons (eVar 0) (aNil)))) (aNil))))) (sPass))
    (sSeq (sSet 3 (eNeg (eOp2 iDiv (eFld ["Place"] [97, 114, 101, 97] (eIx (eVar 0) (eVar 1))) (eFld ["Place"] [120] (eIx (eVar 0) (eVar 1))))))
    (sSeq (sSet 4 (eC (.int 0)))
    (sSeq (sIf (eB (eOp2 dNotN (eVar 2) (eC .non))) (sSet 4 (eNeg (eOp2 iDiv (eOp2 dAdd (eFld ["Place"] [97, 114, 101, 97] (eIx (eVar 0) (eVar 2))) (eOp2 dMul (eVar 3) (eFld ["Place"] [120] (eIx (eVar 0) (eVar 2))))) (eFld ["Place"] [121] (eIx (eVar 0) (eVar 2)))))) (sPass))
    (sSeq (sSet 5 (eMake "Renaming" 2 g_RenamingX_initX (aCons (eMake "Place" 3 g_PlaceX_initX (aCons (eC (.int 1)) (aCons (eC (.int 0)) (aCons (eVar 3) (aNil))))) (aCons (eMake "Place" 3 g_PlaceX_initX (aCons (eC (.int 0)) (aCons (eC (.int 1)) (aCons (eVar 4) (aNil))))) (aNil)))))
    (sRet (eTup (aCons (eVar 5) (aCons (eCall 2 g_renamed_all (aCons (eVar 5) (aCons (eVar 0) (aNil)))) (aNil))))))))))
def g_lowered_areas : DFn := fnD 1 b_lowered_areas 5
def c_bezout_of_0 : DT := eB (eOp2 iGt (eIx (eVar 3) (eC (.int 0))) (eC (.int 0)))
def w_bezout_of_0 : DStm := sSeq (sSet 4 (eOp2 iDiv (eIx (eVar 2) (eC (.int 0))) (eIx (eVar 3) (eC (.int 0)))))
    (sPar 2 3 (aCons (eVar 3) (aCons (eTup (aCons (eOp2 iSub (eIx (eVar 2) (eC (.int 0))) (eOp2 dMul (eVar 4) (eIx (eVar 3) (eC (.int 0))))) (aCons (eOp2 iSub (eIx (eVar 2) (eC (.int 1))) (eOp2 dMul (eVar 4) (eIx (eVar 3) (eC (.int 1))))) (aCons (eOp2 iSub (eIx (eVar 2) (eC (.int 2))) (eOp2 dMul (eVar 4) (eIx (eVar 3) (eC (.int 2))))) (aNil))))) (aNil))))
def b_bezout_of : DStm := sSeq (sPar 2 3 (aCons (eTup (aCons (eCB (bAbs) (aCons (eVar 0) (aNil))) (aCons (eIf (eB (eOp2 iGe (eVar 0) (eC (.int 0)))) (eC (.int 1)) (eNeg (eC (.int 1)))) (aCons (eC (.int 0)) (aNil))))) (aCons (eTup (aCons (eCB (bAbs) (aCons (eVar 1) (aNil))) (aCons (eC (.int 0)) (aCons (eIf (eB (eOp2 iGe (eVar 1) (eC (.int 0)))) (eC (.int 1)) (eNeg (eC (.int 1)))) (aNil))))) (aNil))))
    (sSeq (sWhile (c_bezout_of_0) (w_bezout_of_0))
    (sRet (eVar 2)))
def g_bezout_of : DFn := fnD 2 b_bezout_of 3
def b_turned_east : DStm := sSeq (sSet 1 (eCall 2 g_first_at (aCons (eVar 0) (aCons (eC (.str [120])) (aNil)))))
    (sSeq (sIf (eB (eOp2 dIsN (eVar 1) (eC .non))) (sRet (eTup (aCons (eCall 0 g_same_names aNil) (aCons (eFrz (aList (aCons (eVar 0) (aNil)))) (aNil))))) (sPass))
    (sSeq (sPar 2 3 (aCons (eFld ["Place"] [120] (eIx (eVar 0) (eVar 1))) (aCons (eFld ["Place"] [121] (eIx (eVar 0) (eVar 1))) (aNil))))
    (sSeq (sAsgT (eCall 2 g_bezout_of (aCons (eVar 2) (aCons (eVar 3) (aNil)))) (gT 3 (gsCons (gN 4) (gsCons (gN 5) (gsCons (gN 6) (gsNil))))))
    (sSeq (sSet 7 (eMake "Renaming" 2 g_RenamingX_initX (aCons (eMake "Place" 3 g_PlaceX_initX (aCons (eVar 5) (aCons (eOp2 iDiv (eNeg (eVar 3)) (eVar 4)) (aCons (eC (.int 0)) (aNil))))) (aCons (eMake "Place" 3 g_PlaceX_initX (aCons (eVar 6) (aCons (eOp2 iDiv (eVar 2) (eVar 4)) (aCons (eC (.int 0)) (aNil))))) (aNil)))))
    (sRet (eTup (aCons (eVar 7) (aCons (eCall 2 g_renamed_all (aCons (eVar 7) (aCons (eVar 0) (aNil)))) (aNil)))))))))
def g_turned_east : DFn := fnD 1 b_turned_east 7
def b_least_list : DStm := sSeq (sAsgT (eCall 1 g_turned_east (aCons (eVar 0) (aNil))) (gT 2 (gsCons (gN 1) (gsCons (gN 2) (gsNil)))))
    (sSeq (sAsgT (eCall 1 g_leaned_north (aCons (eVar 2) (aNil))) (gT 2 (gsCons (gN 3) (gsCons (gN 2) (gsNil)))))
    (sSeq (sAsgT (eCall 1 g_lowered_areas (aCons (eVar 2) (aNil))) (gT 2 (gsCons (gN 4) (gsCons (gN 5) (gsNil)))))
    (sSeq (sSet 6 (eOpX (ownO "Renaming" g_RenamingX_mulX) (eOpX (ownO "Renaming" g_RenamingX_mulX) (eVar 4) (eVar 3)) (eVar 1)))
    (sSeq (sIf (eB (eOp2 dIsN (eCall 2 g_first_at (aCons (eVar 2) (aCons (eC (.str [121])) (aNil)))) (eC .non))) (sSeq (sSet 7 (eMake "Renaming" 2 g_RenamingX_initX (aCons (eMake "Place" 3 g_PlaceX_initX (aCons (eC (.int 1)) (aCons (eC (.int 0)) (aCons (eC (.int 0)) (aNil))))) (aCons (eMake "Place" 3 g_PlaceX_initX (aCons (eC (.int 0)) (aCons (eNeg (eC (.int 1))) (aCons (eC (.int 0)) (aNil))))) (aNil)))))
    (sSeq (sAsgT (eCall 1 g_lowered_areas (aCons (eCall 2 g_renamed_all (aCons (eVar 7) (aCons (eVar 2) (aNil)))) (aNil))) (gT 2 (gsCons (gN 4) (gsCons (gN 8) (gsNil)))))
    (sIf (eB (eOp2 dLt (eCall 1 g_figures_of (aCons (eVar 8) (aNil))) (eCall 1 g_figures_of (aCons (eVar 5) (aNil))))) (sRet (eTup (aCons (eOpX (ownO "Renaming" g_RenamingX_mulX) (eOpX (ownO "Renaming" g_RenamingX_mulX) (eOpX (ownO "Renaming" g_RenamingX_mulX) (eVar 4) (eVar 7)) (eVar 3)) (eVar 1)) (aCons (eVar 8) (aNil))))) (sPass)))) (sPass))
    (sRet (eTup (aCons (eVar 6) (aCons (eVar 5) (aNil)))))))))
def g_least_list : DFn := fnD 1 b_least_list 8
def w_need_places_0 : DStm := sExpr (eCall 1 g_need_place (aCons (eVar 1) (aNil)))
def b_need_places : DStm := sFor (itSeq (eVar 0)) (gN 1) (w_need_places_0)
def g_need_places : DFn := fnD 1 b_need_places 1
def b_alike : DStm := sSeq (sExpr (eCall 1 g_need_places (aCons (eVar 0) (aNil))))
    (sSeq (sExpr (eCall 1 g_need_places (aCons (eVar 1) (aNil))))
    (sSeq (sIf (eB (eOp2 dNe (eCB (bLen) (aCons (eVar 0) (aNil))) (eCB (bLen) (aCons (eVar 1) (aNil))))) (sNever) (sPass))
    (sSeq (sAsgT (eCall 1 g_least_list (aCons (eVar 0) (aNil))) (gT 2 (gsCons (gN 2) (gsCons (gN 3) (gsNil)))))
    (sSeq (sAsgT (eCall 1 g_least_list (aCons (eVar 1) (aNil))) (gT 2 (gsCons (gN 4) (gsCons (gN 5) (gsNil)))))
    (sRet (eIf (eB (eOpX (deepO (ownInt [("Place", [[120], [121], [97, 114, 101, 97]])]) 5) (eVar 3) (eVar 5))) (eOpX (ownO "Renaming" g_RenamingX_mulX) (eInv "Renaming" g_RenamingX_invertX (eVar 4)) (eVar 2)) (eC .non)))))))
def g_alike : DFn := fnD 2 b_alike 4
def e_orders_of_0 : DE := eOp2 dAdd (eVar 3) (eFrz (aMax (aCons (eVar 4) (aNil))))
def w_orders_of_1 : DStm := sSetO 1 (aLc2 [3, 4] [4] (itSeq (eVar 1)) (gN 3) (bYes) (itR1 (aCons (eVar 0) (aNil))) (gN 4) (eB (eOp2 (dIn true) (eVar 4) (eVar 3))) (e_orders_of_0))
def b_orders_of : DStm := sSeq (sSet 1 (eFrz (aMax (aCons (eFrz (aMax (aNil))) (aNil)))))
    (sSeq (sFor (itR1 (aCons (eVar 0) (aNil))) (gN 2) (w_orders_of_1))
    (sRet (eVar 1)))
def g_orders_of : DFn := fnD 1 b_orders_of 4
def e_alike_lots_0 : DE := eIx (eVar 1) (eVar 4)
def w_alike_lots_1 : DStm := sSeq (sSet 3 (eCall 2 g_alike (aCons (eVar 0) (aCons (eFrz (aLc [4] (itSeq (eVar 2)) (gN 4) (bYes) (e_alike_lots_0))) (aNil)))))
    (sIf (eB (eOp2 dNotN (eVar 3) (eC .non))) (sRet (eTup (aCons (eVar 3) (aCons (eVar 2) (aNil))))) (sPass))
def b_alike_lots : DStm := sSeq (sExpr (eCall 1 g_need_places (aCons (eVar 0) (aNil))))
    (sSeq (sExpr (eCall 1 g_need_places (aCons (eVar 1) (aNil))))
    (sSeq (sIf (eB (eOp2 dNe (eCB (bLen) (aCons (eVar 0) (aNil))) (eCB (bLen) (aCons (eVar 1) (aNil))))) (sNever) (sPass))
    (sSeq (sFor (itSeq (eCall 1 g_orders_of (aCons (eCB (bLen) (aCons (eVar 1) (aNil))) (aNil)))) (gN 2) (w_alike_lots_1))
    (sRet (eC .non)))))
def g_alike_lots : DFn := fnD 2 b_alike_lots 3
def b_list_key : DStm := sSeq (sExpr (eCall 1 g_need_places (aCons (eVar 0) (aNil))))
    (sRet (eCall 1 g_figures_of (aCons (eIx (eCall 1 g_least_list (aCons (eVar 0) (aNil))) (eC (.int 1))) (aNil))))
def g_list_key : DFn := fnD 1 b_list_key 0
def e_lot_key_0 : DE := eIx (eVar 0) (eVar 4)
def w_lot_key_1 : DStm := sSeq (sSet 3 (eCall 1 g_list_key (aCons (eFrz (aLc [4] (itSeq (eVar 2)) (gN 4) (bYes) (e_lot_key_0))) (aNil))))
    (sIf (bOr (eB (eOp2 dIsN (eVar 1) (eC .non))) (eB (eOp2 dLt (eVar 3) (eVar 1)))) (sSet 1 (eVar 3)) (sPass))
def b_lot_key : DStm := sSeq (sExpr (eCall 1 g_need_places (aCons (eVar 0) (aNil))))
    (sSeq (sSet 1 (eC .non))
    (sSeq (sFor (itSeq (eCall 1 g_orders_of (aCons (eCB (bLen) (aCons (eVar 0) (aNil))) (aNil)))) (gN 2) (w_lot_key_1))
    (sRet (eVar 1))))
def g_lot_key : DFn := fnD 1 b_lot_key 4
def w_law_0 : DStm := sSeq (sSet 3 (eCall 2 g__law_pick (aCons (eVar 1) (aCons (eFrz (aMax (aCons (eC (.int 1)) (aCons (eC (.int 2)) (aCons (eC (.int 3)) (aCons (eC (.int 4)) (aCons (eC (.int 6)) (aCons (eC (.int 12)) (aCons (eOp2 iPow (eC (.int 10)) (eC (.int 6))) (aNil)))))))))) (aNil)))))
    (sSeq (sSet 4 (eCall 1 g__law_mid_drawn (aCons (eVar 1) (aNil))))
    (sSeq (sSet 4 (eTup (aCons (eOp2 dMul (eVar 3) (eIx (eVar 4) (eC (.int 0)))) (aCons (eOp2 dMul (eVar 3) (eIx (eVar 4) (eC (.int 1)))) (aCons (eIx (eVar 4) (eC (.int 2))) (aNil))))))
    (sSeq (sSet 5 (eCall 2 g__law_renamed (aCons (eCall 1 g__law_onto (aCons (eVar 1) (aNil))) (aCons (eVar 4) (aNil)))))
    (sSeq (sSet 6 (eCall 2 g__law_draw (aCons (eVar 1) (aCons (eC (.int 5)) (aNil)))))
    (sSeq (sIf (eB (eOp2 dEq (eVar 6) (eC (.int 0)))) (sSet 5 (eTup (aCons (eIx (eVar 5) (eC (.int 0))) (aCons (eIx (eVar 5) (eC (.int 1))) (aCons (eOp2 dAdd (eIx (eVar 5) (eC (.int 2))) (eCall 2 g__law_pick (aCons (eVar 1) (aCons (eFrz (aMax (aCons (eC (.int 1)) (aCons (eNeg (eC (.int 1))) (aCons (eOp2 iDiv (eVar 3) (eC (.int 2))) (aNil)))))) (aNil))))) (aNil)))))) (sPass))
    (sSeq (sIf (eB (eOp2 dEq (eVar 6) (eC (.int 1)))) (sSet 5 (eTup (aCons (eIx (eVar 5) (eC (.int 0))) (aCons (eIx (eVar 5) (eC (.int 1))) (aCons (eNeg (eIx (eVar 5) (eC (.int 2)))) (aNil)))))) (sPass))
    (sSeq (sIf (eB (eOp2 dEq (eVar 6) (eC (.int 2)))) (sSet 5 (eTup (aCons (eCall 2 g__law_gcd (aCons (eIx (eVar 4) (eC (.int 0))) (aCons (eIx (eVar 4) (eC (.int 1))) (aNil)))) (aCons (eC (.int 0)) (aCons (eCall 2 g__law_pick (aCons (eVar 1) (aCons (eFrz (aMax (aCons (eIx (eVar 4) (eC (.int 2))) (aCons (eIx (eCall 1 g__law_straight (aCons (eVar 4) (aNil))) (eC (.int 1))) (aNil))))) (aNil)))) (aNil)))))) (sPass))
    (sSeq (sIf (eB (eOp2 dEq (eVar 6) (eC (.int 3)))) (sSet 5 (eCall 2 g__law_pick (aCons (eVar 1) (aCons (eFrz (aMax (aCons (eCall 1 g__law_mid_drawn (aCons (eVar 1) (aNil))) (aCons (eVar 4) (aNil))))) (aNil))))) (sPass))
    (sSeq (sPar3 7 8 9 (aCons (eCall 1 g__law_place (aCons (eVar 4) (aNil))) (aCons (eCall 1 g__law_place (aCons (eVar 5) (aNil))) (aCons (eCall 2 g__law_due (aCons (eVar 4) (aCons (eVar 5) (aNil)))) (aNil)))))
    (sSeq (sSet 10 (eCall 2 g_alike (aCons (eFrz (aMax (aCons (eVar 7) (aNil)))) (aCons (eTup (aCons (eVar 8) (aNil))) (aNil)))))
    (sSeq (sIf (bOr (eB (eOp2 dNe (eOp2 dNotN (eVar 10) (eC .non)) (eVar 9))) (eB (eOp2 dNe (eOp2 dEq (eCall 1 g_list_key (aCons (eFrz (aMax (aCons (eVar 7) (aNil)))) (aNil))) (eCall 1 g_list_key (aCons (eTup (aCons (eVar 8) (aNil))) (aNil)))) (eVar 9)))) (sRet (eC (.bl false))) (sPass))
    (sSeq (sIf (bOr (eB (eOp2 dNe (eOp2 dNotN (eCall 2 g_alike_lots (aCons (eFrz (aMax (aCons (eVar 7) (aNil)))) (aCons (eFrz (aMax (aCons (eVar 8) (aNil)))) (aNil)))) (eC .non)) (eVar 9))) (eB (eOp2 dNe (eOp2 dEq (eCall 1 g_lot_key (aCons (eFrz (aMax (aCons (eVar 7) (aNil)))) (aNil))) (eCall 1 g_lot_key (aCons (eFrz (aMax (aCons (eVar 8) (aNil)))) (aNil)))) (eVar 9)))) (sRet (eC (.bl false))) (sPass))
    (sSeq (sIf (eTru (eVar 9)) (sSeq (sSet 11 (eCall 1 g__law_six (aCons (eVar 10) (aNil))))
    (sIf (bOr (eB (eOp2 dIsN (eVar 11) (eC .non))) (bOr (eB (eOp2 (dIn true) (eCall 2 g__law_twist (aCons (eIx (eVar 11) (eC (.int 0))) (aCons (eIx (eVar 11) (eC (.int 1))) (aNil)))) (eTup (aCons (eC (.int 1)) (aCons (eNeg (eC (.int 1))) (aNil)))))) (eB (eOp2 dNe (eCall 2 g__law_renamed (aCons (eVar 11) (aCons (eVar 4) (aNil)))) (eVar 5))))) (sRet (eC (.bl false))) (sPass))) (sPass))
    (sIf (bOr (bNot (eTru (eCB (bIsi ["Place", "Renaming"]) (aCons (eCall 1 g_list_key (aCons (eFrz (aMax (aCons (eVar 7) (aNil)))) (aNil))) (aCons (eC (.ty "tuple")) (aNil)))))) (bNot (eTru (eCB (bIsi ["Place", "Renaming"]) (aCons (eCall 1 g_lot_key (aCons (eFrz (aMax (aCons (eVar 7) (aNil)))) (aNil))) (aCons (eC (.ty "tuple")) (aNil))))))) (sRet (eC (.bl false))) (sPass)))))))))))))))
def b_law : DStm := sSeq (sSet 1 (eCall 1 g__law_begin (aCons (eVar 0) (aNil))))
    (sSeq (sFor (itR1 (aCons (eC (.int 4)) (aNil))) (gN 2) (w_law_0))
    (sRet (eC (.bl true))))
def g_law : DFn := fnD 1 b_law 11
structure Ev (P : Program) (G : Gam) (mg : Str → Option Value) (base : Heap) where
  C_Place : Addr
  ct_Place : G.ct "Place" = some C_Place
  cl_Place : Cls G.K C_Place
  m_Place : mg "Place" = some (.ref C_Place)
  sf_Place : PySem.W.selfFirst G.K C_Place = true
  ne_Place : PySem.W.findIn G.K (.ref C_Place) "__ne__" = some (some (.builtin "object.__ne__"))
  mo_Place : PySem.W.mroIn G.K C_Place (.type "object") = some true
  na_Place_x : NoAttr G.K C_Place "x"
  na_Place_y : NoAttr G.K C_Place "y"
  na_Place_area : NoAttr G.K C_Place "area"
  C_Renaming : Addr
  ct_Renaming : G.ct "Renaming" = some C_Renaming
  cl_Renaming : Cls G.K C_Renaming
  m_Renaming : mg "Renaming" = some (.ref C_Renaming)
  sf_Renaming : PySem.W.selfFirst G.K C_Renaming = true
  ne_Renaming : PySem.W.findIn G.K (.ref C_Renaming) "__ne__" = some (some (.builtin "object.__ne__"))
  mo_Renaming : PySem.W.mroIn G.K C_Renaming (.type "object") = some true
  na_Renaming_east : NoAttr G.K C_Renaming "east"
  na_Renaming_north : NoAttr G.K C_Renaming "north"
  C_BadNumber : Addr
  ct_BadNumber : G.ct "BadNumber" = some C_BadNumber
  m_BadNumber : mg "BadNumber" = some (.ref C_BadNumber)
  fI_BadNumber : Addr
  xfd_BadNumber : FuncData
  X_BadNumber : XFacts P G mg "BadNumber" C_BadNumber fI_BadNumber xfd_BadNumber "self" "value" "value"
  C_BadPlace : Addr
  ct_BadPlace : G.ct "BadPlace" = some C_BadPlace
  m_BadPlace : mg "BadPlace" = some (.ref C_BadPlace)
  fI_BadPlace : Addr
  xfd_BadPlace : FuncData
  X_BadPlace : XFacts P G mg "BadPlace" C_BadPlace fI_BadPlace xfd_BadPlace "self" "value" "value"
  C_NotOnto : Addr
  ct_NotOnto : G.ct "NotOnto" = some C_NotOnto
  m_NotOnto : mg "NotOnto" = some (.ref C_NotOnto)
  fI_NotOnto : Addr
  xfd_NotOnto : FuncData
  X_NotOnto : XFacts P G mg "NotOnto" C_NotOnto fI_NotOnto xfd_NotOnto "self" "number" "number"
  C_Uneven : Addr
  ct_Uneven : G.ct "Uneven" = some C_Uneven
  m_Uneven : mg "Uneven" = some (.ref C_Uneven)
  a__law_begin : Addr
  fd__law_begin : FuncData
  F__law_begin : Fun G.K "_law_begin" "_law_begin" st__law_begin a__law_begin fd__law_begin
  b__law_begin : L2.Binds G.K fd__law_begin ["_law_script"] []
  m__law_begin : mg "_law_begin" = some (.ref a__law_begin)
  a__law_draw : Addr
  fd__law_draw : FuncData
  F__law_draw : Fun G.K "_law_draw" "_law_draw" st__law_draw a__law_draw fd__law_draw
  b__law_draw : L2.Binds G.K fd__law_draw ["_law_pen", "_law_span"] []
  m__law_draw : mg "_law_draw" = some (.ref a__law_draw)
  a__law_gcd : Addr
  fd__law_gcd : FuncData
  F__law_gcd : Fun G.K "_law_gcd" "_law_gcd" st__law_gcd a__law_gcd fd__law_gcd
  b__law_gcd : L2.Binds G.K fd__law_gcd ["_law_one", "_law_other"] []
  m__law_gcd : mg "_law_gcd" = some (.ref a__law_gcd)
  a__law_made : Addr
  fd__law_made : FuncData
  F__law_made : Fun G.K "_law_made" "_law_made" st__law_made a__law_made fd__law_made
  b__law_made : L2.Binds G.K fd__law_made ["_law_a", "_law_b"] []
  m__law_made : mg "_law_made" = some (.ref a__law_made)
  a__law_join : Addr
  fd__law_join : FuncData
  F__law_join : Fun G.K "_law_join" "_law_join" st__law_join a__law_join fd__law_join
  b__law_join : L2.Binds G.K fd__law_join ["_law_one", "_law_other"] []
  m__law_join : mg "_law_join" = some (.ref a__law_join)
  a__law_times : Addr
  fd__law_times : FuncData
  F__law_times : Fun G.K "_law_times" "_law_times" st__law_times a__law_times fd__law_times
  b__law_times : L2.Binds G.K fd__law_times ["_law_one", "_law_number"] []
  m__law_times : mg "_law_times" = some (.ref a__law_times)
  a__law_twist : Addr
  fd__law_twist : FuncData
  F__law_twist : Fun G.K "_law_twist" "_law_twist" st__law_twist a__law_twist fd__law_twist
  b__law_twist : L2.Binds G.K fd__law_twist ["_law_one", "_law_other"] []
  m__law_twist : mg "_law_twist" = some (.ref a__law_twist)
  a__law_renamed : Addr
  fd__law_renamed : FuncData
  F__law_renamed : Fun G.K "_law_renamed" "_law_renamed" st__law_renamed a__law_renamed fd__law_renamed
  b__law_renamed : L2.Binds G.K fd__law_renamed ["_law_six_here", "_law_row_here"] []
  m__law_renamed : mg "_law_renamed" = some (.ref a__law_renamed)
  a__law_straight : Addr
  fd__law_straight : FuncData
  F__law_straight : Fun G.K "_law_straight" "_law_straight" st__law_straight a__law_straight fd__law_straight
  b__law_straight : L2.Binds G.K fd__law_straight ["_law_row_here"] []
  m__law_straight : mg "_law_straight" = some (.ref a__law_straight)
  a__law_due : Addr
  fd__law_due : FuncData
  F__law_due : Fun G.K "_law_due" "_law_due" st__law_due a__law_due fd__law_due
  b__law_due : L2.Binds G.K fd__law_due ["_law_one", "_law_other"] []
  m__law_due : mg "_law_due" = some (.ref a__law_due)
  a__law_pick : Addr
  fd__law_pick : FuncData
  F__law_pick : Fun G.K "_law_pick" "_law_pick" st__law_pick a__law_pick fd__law_pick
  b__law_pick : L2.Binds G.K fd__law_pick ["_law_pen", "_law_some"] []
  m__law_pick : mg "_law_pick" = some (.ref a__law_pick)
  a__law_mid : Addr
  fd__law_mid : FuncData
  F__law_mid : Fun G.K "_law_mid" "_law_mid" st__law_mid a__law_mid fd__law_mid
  b__law_mid : L2.Binds G.K fd__law_mid ["_law_pen"] []
  m__law_mid : mg "_law_mid" = some (.ref a__law_mid)
  a__law_mid_drawn : Addr
  fd__law_mid_drawn : FuncData
  F__law_mid_drawn : Fun G.K "_law_mid_drawn" "_law_mid_drawn" st__law_mid_drawn a__law_mid_drawn fd__law_mid_drawn
  b__law_mid_drawn : L2.Binds G.K fd__law_mid_drawn ["_law_pen"] []
  m__law_mid_drawn : mg "_law_mid_drawn" = some (.ref a__law_mid_drawn)
  a__law_onto : Addr
  fd__law_onto : FuncData
  F__law_onto : Fun G.K "_law_onto" "_law_onto" st__law_onto a__law_onto fd__law_onto
  b__law_onto : L2.Binds G.K fd__law_onto ["_law_pen"] []
  m__law_onto : mg "_law_onto" = some (.ref a__law_onto)
  a_is_integer : Addr
  fd_is_integer : FuncData
  F_is_integer : Fun G.K "is_integer" "is_integer" st_is_integer a_is_integer fd_is_integer
  b_is_integer : L2.Binds G.K fd_is_integer ["value"] []
  m_is_integer : mg "is_integer" = some (.ref a_is_integer)
  a_PlaceX_initX : Addr
  fd_PlaceX_initX : FuncData
  F_PlaceX_initX : Fun G.K "__init__" "Place.__init__" st_PlaceX_initX a_PlaceX_initX fd_PlaceX_initX
  b_PlaceX_initX : L2.Binds G.K fd_PlaceX_initX ["self", "x", "y", "area"] []
  M_PlaceX_initX : Meth G.K C_Place "__init__" a_PlaceX_initX
  a__law_place : Addr
  fd__law_place : FuncData
  F__law_place : Fun G.K "_law_place" "_law_place" st__law_place a__law_place fd__law_place
  b__law_place : L2.Binds G.K fd__law_place ["_law_row_here"] []
  m__law_place : mg "_law_place" = some (.ref a__law_place)
  a__law_whole : Addr
  fd__law_whole : FuncData
  F__law_whole : Fun G.K "_law_whole" "_law_whole" st__law_whole a__law_whole fd__law_whole
  b__law_whole : L2.Binds G.K fd__law_whole ["_law_value"] []
  m__law_whole : mg "_law_whole" = some (.ref a__law_whole)
  a__law_row : Addr
  fd__law_row : FuncData
  F__law_row : Fun G.K "_law_row" "_law_row" st__law_row a__law_row fd__law_row
  b__law_row : L2.Binds G.K fd__law_row ["_law_place_here"] []
  m__law_row : mg "_law_row" = some (.ref a__law_row)
  a__law_six : Addr
  fd__law_six : FuncData
  F__law_six : Fun G.K "_law_six" "_law_six" st__law_six a__law_six fd__law_six
  b__law_six : L2.Binds G.K fd__law_six ["_law_renaming"] []
  m__law_six : mg "_law_six" = some (.ref a__law_six)
  a_PlaceX_eqX : Addr
  fd_PlaceX_eqX : FuncData
  F_PlaceX_eqX : Fun G.K "__eq__" "Place.__eq__" st_PlaceX_eqX a_PlaceX_eqX fd_PlaceX_eqX
  b_PlaceX_eqX : L2.Binds G.K fd_PlaceX_eqX ["self", "other"] []
  M_PlaceX_eqX : Meth G.K C_Place "__eq__" a_PlaceX_eqX
  a_Place_lifted : Addr
  fd_Place_lifted : FuncData
  F_Place_lifted : Fun G.K "lifted" "Place.lifted" st_Place_lifted a_Place_lifted fd_Place_lifted
  b_Place_lifted : L2.Binds G.K fd_Place_lifted ["self", "storeys"] []
  M_Place_lifted : Meth G.K C_Place "lifted" a_Place_lifted
  a_need_place : Addr
  fd_need_place : FuncData
  F_need_place : Fun G.K "need_place" "need_place" st_need_place a_need_place fd_need_place
  b_need_place : L2.Binds G.K fd_need_place ["value"] []
  m_need_place : mg "need_place" = some (.ref a_need_place)
  a_Place_twist : Addr
  fd_Place_twist : FuncData
  F_Place_twist : Fun G.K "twist" "Place.twist" st_Place_twist a_Place_twist fd_Place_twist
  b_Place_twist : L2.Binds G.K fd_Place_twist ["self", "other"] []
  M_Place_twist : Meth G.K C_Place "twist" a_Place_twist
  a_RenamingX_initX : Addr
  fd_RenamingX_initX : FuncData
  F_RenamingX_initX : Fun G.K "__init__" "Renaming.__init__" st_RenamingX_initX a_RenamingX_initX fd_RenamingX_initX
  b_RenamingX_initX : L2.Binds G.K fd_RenamingX_initX ["self", "east", "north"] []
  M_RenamingX_initX : Meth G.K C_Renaming "__init__" a_RenamingX_initX
  a_PlaceX_mulX : Addr
  fd_PlaceX_mulX : FuncData
  F_PlaceX_mulX : Fun G.K "__mul__" "Place.__mul__" st_PlaceX_mulX a_PlaceX_mulX fd_PlaceX_mulX
  b_PlaceX_mulX : L2.Binds G.K fd_PlaceX_mulX ["self", "other"] []
  M_PlaceX_mulX : Meth G.K C_Place "__mul__" a_PlaceX_mulX
  a_pairs_below : Addr
  fd_pairs_below : FuncData
  F_pairs_below : Fun G.K "pairs_below" "pairs_below" st_pairs_below a_pairs_below fd_pairs_below
  b_pairs_below : L2.Binds G.K fd_pairs_below ["number"] []
  m_pairs_below : mg "pairs_below" = some (.ref a_pairs_below)
  a_Place_power : Addr
  fd_Place_power : FuncData
  F_Place_power : Fun G.K "power" "Place.power" st_Place_power a_Place_power fd_Place_power
  b_Place_power : L2.Binds G.K fd_Place_power ["self", "number"] []
  M_Place_power : Meth G.K C_Place "power" a_Place_power
  a_led_by : Addr
  fd_led_by : FuncData
  F_led_by : Fun G.K "led_by" "led_by" st_led_by a_led_by fd_led_by
  b_led_by : L2.Binds G.K fd_led_by ["east", "north", "place"] []
  m_led_by : mg "led_by" = some (.ref a_led_by)
  a_RenamingX_invertX : Addr
  fd_RenamingX_invertX : FuncData
  F_RenamingX_invertX : Fun G.K "__invert__" "Renaming.__invert__" st_RenamingX_invertX a_RenamingX_invertX fd_RenamingX_invertX
  b_RenamingX_invertX : L2.Binds G.K fd_RenamingX_invertX ["self"] []
  M_RenamingX_invertX : Meth G.K C_Renaming "__invert__" a_RenamingX_invertX
  a_RenamingX_mulX : Addr
  fd_RenamingX_mulX : FuncData
  F_RenamingX_mulX : Fun G.K "__mul__" "Renaming.__mul__" st_RenamingX_mulX a_RenamingX_mulX fd_RenamingX_mulX
  b_RenamingX_mulX : L2.Binds G.K fd_RenamingX_mulX ["self", "other"] []
  M_RenamingX_mulX : Meth G.K C_Renaming "__mul__" a_RenamingX_mulX
  a_figures_of : Addr
  fd_figures_of : FuncData
  F_figures_of : Fun G.K "figures_of" "figures_of" st_figures_of a_figures_of fd_figures_of
  b_figures_of : L2.Binds G.K fd_figures_of ["places"] []
  m_figures_of : mg "figures_of" = some (.ref a_figures_of)
  a_first_at : Addr
  fd_first_at : FuncData
  F_first_at : Fun G.K "first_at" "first_at" st_first_at a_first_at fd_first_at
  b_first_at : L2.Binds G.K fd_first_at ["places", "asked"] []
  m_first_at : mg "first_at" = some (.ref a_first_at)
  a_RenamingX_callX : Addr
  fd_RenamingX_callX : FuncData
  F_RenamingX_callX : Fun G.K "__call__" "Renaming.__call__" st_RenamingX_callX a_RenamingX_callX fd_RenamingX_callX
  b_RenamingX_callX : L2.Binds G.K fd_RenamingX_callX ["self", "place"] []
  M_RenamingX_callX : Meth G.K C_Renaming "__call__" a_RenamingX_callX
  a_renamed_all : Addr
  fd_renamed_all : FuncData
  F_renamed_all : Fun G.K "renamed_all" "renamed_all" st_renamed_all a_renamed_all fd_renamed_all
  b_renamed_all : L2.Binds G.K fd_renamed_all ["renaming", "places"] []
  m_renamed_all : mg "renamed_all" = some (.ref a_renamed_all)
  a_same_names : Addr
  fd_same_names : FuncData
  F_same_names : Fun G.K "same_names" "same_names" st_same_names a_same_names fd_same_names
  b_same_names : L2.Binds G.K fd_same_names [] []
  m_same_names : mg "same_names" = some (.ref a_same_names)
  a_leaned_north : Addr
  fd_leaned_north : FuncData
  F_leaned_north : Fun G.K "leaned_north" "leaned_north" st_leaned_north a_leaned_north fd_leaned_north
  b_leaned_north : L2.Binds G.K fd_leaned_north ["places"] []
  m_leaned_north : mg "leaned_north" = some (.ref a_leaned_north)
  a_lowered_areas : Addr
  fd_lowered_areas : FuncData
  F_lowered_areas : Fun G.K "lowered_areas" "lowered_areas" st_lowered_areas a_lowered_areas fd_lowered_areas
  b_lowered_areas : L2.Binds G.K fd_lowered_areas ["places"] []
  m_lowered_areas : mg "lowered_areas" = some (.ref a_lowered_areas)
  a_bezout_of : Addr
  fd_bezout_of : FuncData
  F_bezout_of : Fun G.K "bezout_of" "bezout_of" st_bezout_of a_bezout_of fd_bezout_of
  b_bezout_of : L2.Binds G.K fd_bezout_of ["one", "other"] []
  m_bezout_of : mg "bezout_of" = some (.ref a_bezout_of)
  a_turned_east : Addr
  fd_turned_east : FuncData
  F_turned_east : Fun G.K "turned_east" "turned_east" st_turned_east a_turned_east fd_turned_east
  b_turned_east : L2.Binds G.K fd_turned_east ["places"] []
  m_turned_east : mg "turned_east" = some (.ref a_turned_east)
  a_least_list : Addr
  fd_least_list : FuncData
  F_least_list : Fun G.K "least_list" "least_list" st_least_list a_least_list fd_least_list
  b_least_list : L2.Binds G.K fd_least_list ["places"] []
  m_least_list : mg "least_list" = some (.ref a_least_list)
  a_need_places : Addr
  fd_need_places : FuncData
  F_need_places : Fun G.K "need_places" "need_places" st_need_places a_need_places fd_need_places
  b_need_places : L2.Binds G.K fd_need_places ["values"] []
  m_need_places : mg "need_places" = some (.ref a_need_places)
  a_alike : Addr
  fd_alike : FuncData
  F_alike : Fun G.K "alike" "alike" st_alike a_alike fd_alike
  b_alike : L2.Binds G.K fd_alike ["places", "others"] []
  m_alike : mg "alike" = some (.ref a_alike)
  a_orders_of : Addr
  fd_orders_of : FuncData
  F_orders_of : Fun G.K "orders_of" "orders_of" st_orders_of a_orders_of fd_orders_of
  b_orders_of : L2.Binds G.K fd_orders_of ["number"] []
  m_orders_of : mg "orders_of" = some (.ref a_orders_of)
  a_alike_lots : Addr
  fd_alike_lots : FuncData
  F_alike_lots : Fun G.K "alike_lots" "alike_lots" st_alike_lots a_alike_lots fd_alike_lots
  b_alike_lots : L2.Binds G.K fd_alike_lots ["places", "others"] []
  m_alike_lots : mg "alike_lots" = some (.ref a_alike_lots)
  a_list_key : Addr
  fd_list_key : FuncData
  F_list_key : Fun G.K "list_key" "list_key" st_list_key a_list_key fd_list_key
  b_list_key : L2.Binds G.K fd_list_key ["places"] []
  m_list_key : mg "list_key" = some (.ref a_list_key)
  a_lot_key : Addr
  fd_lot_key : FuncData
  F_lot_key : Fun G.K "lot_key" "lot_key" st_lot_key a_lot_key fd_lot_key
  b_lot_key : L2.Binds G.K fd_lot_key ["places"] []
  m_lot_key : mg "lot_key" = some (.ref a_lot_key)
  a_law : Addr
  fd_law : FuncData
  F_law : Fun G.K "law" "law" st_law a_law fd_law
  b_law : L2.Binds G.K fd_law ["_law_script"] []
  m_law : mg "law" = some (.ref a_law)
  mk_Place : Mk G.K C_Place a_PlaceX_initX
  mk_Renaming : Mk G.K C_Renaming a_RenamingX_initX
  f_area : FldOk G ["Place"] [97, 114, 101, 97]
  f_east : FldOk G ["Renaming"] [101, 97, 115, 116]
  f_north : FldOk G ["Renaming"] [110, 111, 114, 116, 104]
  f_x : FldOk G ["Place"] [120]
  f_y : FldOk G ["Place"] [121]
  z_abs : mg "abs" = none
  z_all : mg "all" = none
  z_bool : mg "bool" = none
  z_enumerate : mg "enumerate" = none
  z_int : mg "int" = none
  z_isinstance : mg "isinstance" = none
  z_len : mg "len" = none
  z_list : mg "list" = none
  z_range : mg "range" = none
  z_tuple : mg "tuple" = none
  iso : IsOk G ["Place", "Renaming"]
  tabs : G.tab = tabG []
def Ev.sw {P : Program} {G : Gam} {mg : Str → Option Value} {base : Heap} (e : Ev P G mg base) (lam : String → Addr → Wd → Prop) (lamM : ∀ (k : String) (f : Addr) (w w' : Wd), w.le w' → lam k f w → lam k f w') : Ev P (G.sw lam lamM) mg base := {
  C_Place := e.C_Place
  ct_Place := e.ct_Place
  cl_Place := e.cl_Place
  m_Place := e.m_Place
  sf_Place := e.sf_Place
  ne_Place := e.ne_Place
  mo_Place := e.mo_Place
  na_Place_x := e.na_Place_x
  na_Place_y := e.na_Place_y
  na_Place_area := e.na_Place_area
  C_Renaming := e.C_Renaming
  ct_Renaming := e.ct_Renaming
  cl_Renaming := e.cl_Renaming
  m_Renaming := e.m_Renaming
  sf_Renaming := e.sf_Renaming
  ne_Renaming := e.ne_Renaming
  mo_Renaming := e.mo_Renaming
  na_Renaming_east := e.na_Renaming_east
  na_Renaming_north := e.na_Renaming_north
  C_BadNumber := e.C_BadNumber
  ct_BadNumber := e.ct_BadNumber
  m_BadNumber := e.m_BadNumber
  fI_BadNumber := e.fI_BadNumber
  xfd_BadNumber := e.xfd_BadNumber
  X_BadNumber := ⟨⟨e.X_BadNumber.T.ct, e.X_BadNumber.T.ini, e.X_BadNumber.T.ty, e.X_BadNumber.T.cls⟩, e.X_BadNumber.I, e.X_BadNumber.F, e.X_BadNumber.B⟩
  C_BadPlace := e.C_BadPlace
  ct_BadPlace := e.ct_BadPlace
  m_BadPlace := e.m_BadPlace
  fI_BadPlace := e.fI_BadPlace
  xfd_BadPlace := e.xfd_BadPlace
  X_BadPlace := ⟨⟨e.X_BadPlace.T.ct, e.X_BadPlace.T.ini, e.X_BadPlace.T.ty, e.X_BadPlace.T.cls⟩, e.X_BadPlace.I, e.X_BadPlace.F, e.X_BadPlace.B⟩
  C_NotOnto := e.C_NotOnto
  ct_NotOnto := e.ct_NotOnto
  m_NotOnto := e.m_NotOnto
  fI_NotOnto := e.fI_NotOnto
  xfd_NotOnto := e.xfd_NotOnto
  X_NotOnto := ⟨⟨e.X_NotOnto.T.ct, e.X_NotOnto.T.ini, e.X_NotOnto.T.ty, e.X_NotOnto.T.cls⟩, e.X_NotOnto.I, e.X_NotOnto.F, e.X_NotOnto.B⟩
  C_Uneven := e.C_Uneven
  ct_Uneven := e.ct_Uneven
  m_Uneven := e.m_Uneven
  a__law_begin := e.a__law_begin
  fd__law_begin := e.fd__law_begin
  F__law_begin := e.F__law_begin
  b__law_begin := e.b__law_begin
  m__law_begin := e.m__law_begin
  a__law_draw := e.a__law_draw
  fd__law_draw := e.fd__law_draw
  F__law_draw := e.F__law_draw
  b__law_draw := e.b__law_draw
  m__law_draw := e.m__law_draw
  a__law_gcd := e.a__law_gcd
  fd__law_gcd := e.fd__law_gcd
  F__law_gcd := e.F__law_gcd
  b__law_gcd := e.b__law_gcd
  m__law_gcd := e.m__law_gcd
  a__law_made := e.a__law_made
  fd__law_made := e.fd__law_made
  F__law_made := e.F__law_made
  b__law_made := e.b__law_made
  m__law_made := e.m__law_made
  a__law_join := e.a__law_join
  fd__law_join := e.fd__law_join
  F__law_join := e.F__law_join
  b__law_join := e.b__law_join
  m__law_join := e.m__law_join
  a__law_times := e.a__law_times
  fd__law_times := e.fd__law_times
  F__law_times := e.F__law_times
  b__law_times := e.b__law_times
  m__law_times := e.m__law_times
  a__law_twist := e.a__law_twist
  fd__law_twist := e.fd__law_twist
  F__law_twist := e.F__law_twist
  b__law_twist := e.b__law_twist
  m__law_twist := e.m__law_twist
  a__law_renamed := e.a__law_renamed
  fd__law_renamed := e.fd__law_renamed
  F__law_renamed := e.F__law_renamed
  b__law_renamed := e.b__law_renamed
  m__law_renamed := e.m__law_renamed
  a__law_straight := e.a__law_straight
  fd__law_straight := e.fd__law_straight
  F__law_straight := e.F__law_straight
  b__law_straight := e.b__law_straight
  m__law_straight := e.m__law_straight
  a__law_due := e.a__law_due
  fd__law_due := e.fd__law_due
  F__law_due := e.F__law_due
  b__law_due := e.b__law_due
  m__law_due := e.m__law_due
  a__law_pick := e.a__law_pick
  fd__law_pick := e.fd__law_pick
  F__law_pick := e.F__law_pick
  b__law_pick := e.b__law_pick
  m__law_pick := e.m__law_pick
  a__law_mid := e.a__law_mid
  fd__law_mid := e.fd__law_mid
  F__law_mid := e.F__law_mid
  b__law_mid := e.b__law_mid
  m__law_mid := e.m__law_mid
  a__law_mid_drawn := e.a__law_mid_drawn
  fd__law_mid_drawn := e.fd__law_mid_drawn
  F__law_mid_drawn := e.F__law_mid_drawn
  b__law_mid_drawn := e.b__law_mid_drawn
  m__law_mid_drawn := e.m__law_mid_drawn
  a__law_onto := e.a__law_onto
  fd__law_onto := e.fd__law_onto
  F__law_onto := e.F__law_onto
  b__law_onto := e.b__law_onto
  m__law_onto := e.m__law_onto
  a_is_integer := e.a_is_integer
  fd_is_integer := e.fd_is_integer
  F_is_integer := e.F_is_integer
  b_is_integer := e.b_is_integer
  m_is_integer := e.m_is_integer
  a_PlaceX_initX := e.a_PlaceX_initX
  fd_PlaceX_initX := e.fd_PlaceX_initX
  F_PlaceX_initX := e.F_PlaceX_initX
  b_PlaceX_initX := e.b_PlaceX_initX
  M_PlaceX_initX := e.M_PlaceX_initX
  a__law_place := e.a__law_place
  fd__law_place := e.fd__law_place
  F__law_place := e.F__law_place
  b__law_place := e.b__law_place
  m__law_place := e.m__law_place
  a__law_whole := e.a__law_whole
  fd__law_whole := e.fd__law_whole
  F__law_whole := e.F__law_whole
  b__law_whole := e.b__law_whole
  m__law_whole := e.m__law_whole
  a__law_row := e.a__law_row
  fd__law_row := e.fd__law_row
  F__law_row := e.F__law_row
  b__law_row := e.b__law_row
  m__law_row := e.m__law_row
  a__law_six := e.a__law_six
  fd__law_six := e.fd__law_six
  F__law_six := e.F__law_six
  b__law_six := e.b__law_six
  m__law_six := e.m__law_six
  a_PlaceX_eqX := e.a_PlaceX_eqX
  fd_PlaceX_eqX := e.fd_PlaceX_eqX
  F_PlaceX_eqX := e.F_PlaceX_eqX
  b_PlaceX_eqX := e.b_PlaceX_eqX
  M_PlaceX_eqX := e.M_PlaceX_eqX
  a_Place_lifted := e.a_Place_lifted
  fd_Place_lifted := e.fd_Place_lifted
  F_Place_lifted := e.F_Place_lifted
  b_Place_lifted := e.b_Place_lifted
  M_Place_lifted := e.M_Place_lifted
  a_need_place := e.a_need_place
  fd_need_place := e.fd_need_place
  F_need_place := e.F_need_place
  b_need_place := e.b_need_place
  m_need_place := e.m_need_place
  a_Place_twist := e.a_Place_twist
  fd_Place_twist := e.fd_Place_twist
  F_Place_twist := e.F_Place_twist
  b_Place_twist := e.b_Place_twist
  M_Place_twist := e.M_Place_twist
  a_RenamingX_initX := e.a_RenamingX_initX
  fd_RenamingX_initX := e.fd_RenamingX_initX
  F_RenamingX_initX := e.F_RenamingX_initX
  b_RenamingX_initX := e.b_RenamingX_initX
  M_RenamingX_initX := e.M_RenamingX_initX
  a_PlaceX_mulX := e.a_PlaceX_mulX
  fd_PlaceX_mulX := e.fd_PlaceX_mulX
  F_PlaceX_mulX := e.F_PlaceX_mulX
  b_PlaceX_mulX := e.b_PlaceX_mulX
  M_PlaceX_mulX := e.M_PlaceX_mulX
  a_pairs_below := e.a_pairs_below
  fd_pairs_below := e.fd_pairs_below
  F_pairs_below := e.F_pairs_below
  b_pairs_below := e.b_pairs_below
  m_pairs_below := e.m_pairs_below
  a_Place_power := e.a_Place_power
  fd_Place_power := e.fd_Place_power
  F_Place_power := e.F_Place_power
  b_Place_power := e.b_Place_power
  M_Place_power := e.M_Place_power
  a_led_by := e.a_led_by
  fd_led_by := e.fd_led_by
  F_led_by := e.F_led_by
  b_led_by := e.b_led_by
  m_led_by := e.m_led_by
  a_RenamingX_invertX := e.a_RenamingX_invertX
  fd_RenamingX_invertX := e.fd_RenamingX_invertX
  F_RenamingX_invertX := e.F_RenamingX_invertX
  b_RenamingX_invertX := e.b_RenamingX_invertX
  M_RenamingX_invertX := e.M_RenamingX_invertX
  a_RenamingX_mulX := e.a_RenamingX_mulX
  fd_RenamingX_mulX := e.fd_RenamingX_mulX
  F_RenamingX_mulX := e.F_RenamingX_mulX
  b_RenamingX_mulX := e.b_RenamingX_mulX
  M_RenamingX_mulX := e.M_RenamingX_mulX
  a_figures_of := e.a_figures_of
  fd_figures_of := e.fd_figures_of
  F_figures_of := e.F_figures_of
  b_figures_of := e.b_figures_of
  m_figures_of := e.m_figures_of
  a_first_at := e.a_first_at
  fd_first_at := e.fd_first_at
  F_first_at := e.F_first_at
  b_first_at := e.b_first_at
  m_first_at := e.m_first_at
  a_RenamingX_callX := e.a_RenamingX_callX
  fd_RenamingX_callX := e.fd_RenamingX_callX
  F_RenamingX_callX := e.F_RenamingX_callX
  b_RenamingX_callX := e.b_RenamingX_callX
  M_RenamingX_callX := e.M_RenamingX_callX
  a_renamed_all := e.a_renamed_all
  fd_renamed_all := e.fd_renamed_all
  F_renamed_all := e.F_renamed_all
  b_renamed_all := e.b_renamed_all
  m_renamed_all := e.m_renamed_all
  a_same_names := e.a_same_names
  fd_same_names := e.fd_same_names
  F_same_names := e.F_same_names
  b_same_names := e.b_same_names
  m_same_names := e.m_same_names
  a_leaned_north := e.a_leaned_north
  fd_leaned_north := e.fd_leaned_north
  F_leaned_north := e.F_leaned_north
  b_leaned_north := e.b_leaned_north
  m_leaned_north := e.m_leaned_north
  a_lowered_areas := e.a_lowered_areas
  fd_lowered_areas := e.fd_lowered_areas
  F_lowered_areas := e.F_lowered_areas
  b_lowered_areas := e.b_lowered_areas
  m_lowered_areas := e.m_lowered_areas
  a_bezout_of := e.a_bezout_of
  fd_bezout_of := e.fd_bezout_of
  F_bezout_of := e.F_bezout_of
  b_bezout_of := e.b_bezout_of
  m_bezout_of := e.m_bezout_of
  a_turned_east := e.a_turned_east
  fd_turned_east := e.fd_turned_east
  F_turned_east := e.F_turned_east
  b_turned_east := e.b_turned_east
  m_turned_east := e.m_turned_east
  a_least_list := e.a_least_list
  fd_least_list := e.fd_least_list
  F_least_list := e.F_least_list
  b_least_list := e.b_least_list
  m_least_list := e.m_least_list
  a_need_places := e.a_need_places
  fd_need_places := e.fd_need_places
  F_need_places := e.F_need_places
  b_need_places := e.b_need_places
  m_need_places := e.m_need_places
  a_alike := e.a_alike
  fd_alike := e.fd_alike
  F_alike := e.F_alike
  b_alike := e.b_alike
  m_alike := e.m_alike
  a_orders_of := e.a_orders_of
  fd_orders_of := e.fd_orders_of
  F_orders_of := e.F_orders_of
  b_orders_of := e.b_orders_of
  m_orders_of := e.m_orders_of
  a_alike_lots := e.a_alike_lots
  fd_alike_lots := e.fd_alike_lots
  F_alike_lots := e.F_alike_lots
  b_alike_lots := e.b_alike_lots
  m_alike_lots := e.m_alike_lots
  a_list_key := e.a_list_key
  fd_list_key := e.fd_list_key
  F_list_key := e.F_list_key
  b_list_key := e.b_list_key
  m_list_key := e.m_list_key
  a_lot_key := e.a_lot_key
  fd_lot_key := e.fd_lot_key
  F_lot_key := e.F_lot_key
  b_lot_key := e.b_lot_key
  m_lot_key := e.m_lot_key
  a_law := e.a_law
  fd_law := e.fd_law
  F_law := e.F_law
  b_law := e.b_law
  m_law := e.m_law
  mk_Place := e.mk_Place
  mk_Renaming := e.mk_Renaming
  f_area := e.f_area
  f_east := e.f_east
  f_north := e.f_north
  f_x := e.f_x
  f_y := e.f_y
  z_abs := e.z_abs
  z_all := e.z_all
  z_bool := e.z_bool
  z_enumerate := e.z_enumerate
  z_int := e.z_int
  z_isinstance := e.z_isinstance
  z_len := e.z_len
  z_list := e.z_list
  z_range := e.z_range
  z_tuple := e.z_tuple
  iso := ⟨e.iso.1, e.iso.2, e.iso.3⟩
  tabs := e.tabs }
theorem Ev.kk {P : Program} {G : Gam} {mg : Str → Option Value} {base : Heap} (e : Ev P G mg base) : G.K = G.K := rfl
theorem own_eq_Place (fs gs : List (Nm × D)) (l m : List (Nm × Int)) (st : List Cell) (h1 : intF fs = some l) (h2 : intF gs = some m) (h3 : l.map (·.1) = [[120], [121], [97, 114, 101, 97]]) (h4 : m.map (·.1) = [[120], [121], [97, 114, 101, 97]]) : g_PlaceX_eqX [.ins "Place" fs, .ins "Place" gs] st = .ok (.bl (decide (l = m))) st := by
  obtain ⟨a, b, c, rfl, rfl⟩ := intF3 h1 h3
  obtain ⟨a2, b2, c2, rfl, rfl⟩ := intF3 h2 h4
  simp [g_PlaceX_eqX, b_PlaceX_eqX, fnD, List.lookup]
section
variable {P : Program} {w0 : World} {G : Gam} {mg : Str → Option Value} {base : Heap}
theorem ok__law_begin (e : Ev P G mg base) : FnOk P w0 G.K mg base (L2.CX P w0) 1 e.a__law_begin e.fd__law_begin ["_law_script"] (spG G 1 g__law_begin) :=
  fn_okD e.F__law_begin sc__law_begin rfl rfl fun cdv A outer s H E hr tk ps => pdss_one (pds_ret (pdod_cell (pdod_disp (fs := [(eC (.str [99, 101, 108, 108, 115]), eFrz (aList (aCons (eSlA (eVar 0) (oNone) (oSome (eC (.int 63)))) (aNil)))), (eC (.str [99, 111, 117, 110, 116]), eC (.int 0)), (eC (.str [108, 101, 102, 116]), eC (.int 0))]) (pps_cons (pd_str s_2) (pdo_frz (pdo_list rfl (by rfl) e.z_list boot_list (pda_cons (pd_slA rfl (pd_var (pv 0)) (pdo_none) (pdo_some (pd_int))) (pda_nil)))) (pps_cons (pd_str s_1) (pd_int) (pps_cons (pd_str s_0) (pd_int) (pps_nil)))) (by rfl) (by rfl) (fun z => by cases z) (by decide))))
theorem ok__law_draw (e : Ev P G mg base) : FnOk P w0 G.K mg base (L2.CX P w0) 1 e.a__law_draw e.fd__law_draw ["_law_pen", "_law_span"] (spG G 2 g__law_draw) :=
  fn_okD e.F__law_draw sc__law_draw rfl rfl fun cdv A outer s H E hr tk ps => pdss_cons (pds_if (ptd_cmp (opd_ge) (pd_dget (hu_of hr) (pd_var (pv 0)) (pd_str s_0) (fun _ _ => rfl)) (pd_var (pv 1)) (nomark _)) (pdss_cons (pds_set (i := 2) sc__law_draw.nd rfl (.inl rfl) (pd_op (opd_mod) (pd_callTy cd_int (by rfl) e.z_int (by decide +kernel) (pda_cons (pd_dget (hu_of hr) (pd_var (pv 0)) (pd_str s_0) (fun _ _ => rfl)) (pda_nil))) (pd_var (pv 1))))
    (pdss_cons (pds_dputC (hu_of hr) (pd_var (pv 0)) (pd_str s_0) (pd_op (opd_div) (pd_dget (hu_of hr) (pd_var (pv 0)) (pd_str s_0) (fun _ _ => rfl)) (pd_var (pv 1))))
    (pdss_one (pds_ret (pd_var (pv 2)))))) (pdss_nil))
    (pdss_cons (pds_set (i := 3) sc__law_draw.nd rfl (.inl rfl) (pd_dget (hu_of hr) (pd_var (pv 0)) (pd_str s_1) (fun _ _ => rfl)))
    (pdss_cons (pds_dputC (hu_of hr) (pd_var (pv 0)) (pd_str s_1) (pd_op (opd_addA e.kk) (pd_var (pv 3)) (pd_int)))
    (pdss_cons (pds_set (i := 4) sc__law_draw.nd rfl (.inl rfl) (pd_op (opd_addA e.kk) (pd_op (opd_mulA) (pd_int) (pd_var (pv 3))) (pd_int)))
    (pdss_cons (pds_if (ptd_cmp (opd_ne e.kk hr.units) (pd_dget (hu_of hr) (pd_var (pv 0)) (pd_str s_2) (fun _ _ => rfl)) (pdo_frz (pdo_lst (pda_nil))) (nomark _)) (pdss_one (pds_set (i := 4) sc__law_draw.nd rfl (.inl rfl) (pd_ix e.kk (pd_dget (hu_of hr) (pd_var (pv 0)) (pd_str s_2) (fun _ _ => rfl)) (pd_op (opd_mod) (pd_callTy cd_int (by rfl) e.z_int (by decide +kernel) (pda_cons (pd_var (pv 3)) (pda_nil))) (pd_callB (cd_len rfl) (by rfl) e.z_len (by decide +kernel) (pda_cons (pd_dget (hu_of hr) (pd_var (pv 0)) (pd_str s_2) (fun _ _ => rfl)) (pda_nil)))) (fun _ _ => rfl)))) (pdss_nil))
    (pdss_cons (pds_if ((pwd_and (ptd_cmp (opd_lt) (pd_var (pv 3)) (pd_callB (cd_len rfl) (by rfl) e.z_len (by decide +kernel) (pda_cons (pd_dget (hu_of hr) (pd_var (pv 0)) (pd_str s_2) (fun _ _ => rfl)) (pda_nil))) (nomark _)) (pwd_and1 (ptd_cmp (opd_ge) (pd_var (pv 4)) (pd_op (opd_pow) (pd_int) (pd_int)) (nomark _)))).pt) (pdss_cons (pds_dputC (hu_of hr) (pd_var (pv 0)) (pd_str s_0) (pd_op (opd_div) (pd_op (opd_sub) (pd_var (pv 4)) (pd_op (opd_pow) (pd_int) (pd_int))) (pd_var (pv 1))))
    (pdss_one (pds_ret (pd_op (opd_mod) (pd_callTy cd_int (by rfl) e.z_int (by decide +kernel) (pda_cons (pd_op (opd_sub) (pd_var (pv 4)) (pd_op (opd_pow) (pd_int) (pd_int))) (pda_nil))) (pd_var (pv 1)))))) (pdss_nil))
    (pdss_cons (pds_set (i := 5) sc__law_draw.nd rfl (.inl rfl) (pd_op (opd_addA e.kk) (pd_op (opd_mulA) (pd_op (opd_mod) (pd_callTy cd_int (by rfl) e.z_int (by decide +kernel) (pda_cons (pd_var (pv 4)) (pda_nil))) (pd_int)) (pd_int)) (pd_op (opd_mulA) (pd_op (opd_mulA) (pd_int) (pd_var (pv 3))) (pd_var (pv 3)))))
    (pdss_cons (pds_set (i := 6) sc__law_draw.nd rfl (.inl rfl) (pd_op (opd_mod) (pd_callTy cd_int (by rfl) e.z_int (by decide +kernel) (pda_cons (pd_op (opd_addA e.kk) (pd_op (opd_addA e.kk) (pd_var (pv 5)) (pd_op (opd_mulA) (pd_int) (pd_var (pv 3)))) (pd_int)) (pda_nil))) (pd_int)))
    (pdss_cons (pds_set (i := 6) sc__law_draw.nd rfl (.inl rfl) (pd_op (opd_mod) (pd_callTy cd_int (by rfl) e.z_int (by decide +kernel) (pda_cons (pd_op (opd_mulA) (pd_var (pv 6)) (pd_op (opd_addA e.kk) (pd_var (pv 6)) (pd_int))) (pda_nil))) (pd_int)))
    (pdss_one (pds_ret (pd_op (opd_mod) (pd_callTy cd_int (by rfl) e.z_int (by decide +kernel) (pda_cons (pd_op (opd_div) (pd_op (opd_mod) (pd_callTy cd_int (by rfl) e.z_int (by decide +kernel) (pda_cons (pd_op (opd_addA e.kk) (pd_op (opd_mulA) (pd_var (pv 6)) (pd_var (pv 6))) (pd_op (opd_mulA) (pd_int) (pd_var (pv 6)))) (pda_nil))) (pd_int)) (pd_int)) (pda_nil))) (pd_var (pv 1)))))))))))))
theorem ok__law_gcd (e : Ev P G mg base) : FnOk P w0 G.K mg base (L2.CX P w0) 1 e.a__law_gcd e.fd__law_gcd ["_law_one", "_law_other"] (spG G 2 g__law_gcd) :=
  fn_okD e.F__law_gcd sc__law_gcd rfl rfl fun cdv A outer s H E hr tk ps => pdss_cons (pds_par (i := 0) (j := 1) rfl sc__law_gcd.nd rfl rfl (by decide) rfl rfl (pda_cons (pd_callB cd_abs (by rfl) e.z_abs (by decide +kernel) (pda_cons (pd_var (pv 0)) (pda_nil))) (pda_cons (pd_callB cd_abs (by rfl) e.z_abs (by decide +kernel) (pda_cons (pd_var (pv 1)) (pda_nil))) (pda_nil))) (by rfl))
    (pdss_cons (pds_for ps rfl (pdi_range1 (by rfl) e.z_range (pda_cons (pd_int) (pda_nil))) (pdg_name (i := 2) sc__law_gcd.nd rfl (.inl rfl)) (pdss_cons (pds_if (ptd_cmp (opd_eq e.kk hr.units) (pd_var (pv 1)) (pd_int) (nomark _)) (pdss_one (pds_break)) (pdss_nil))
    (pdss_one (pds_par (i := 0) (j := 1) rfl sc__law_gcd.nd rfl rfl (by decide) rfl rfl (pda_cons (pd_var (pv 1)) (pda_cons (pd_op (opd_mod) (pd_callTy cd_int (by rfl) e.z_int (by decide +kernel) (pda_cons (pd_var (pv 0)) (pda_nil))) (pd_var (pv 1))) (pda_nil))) (by rfl)))))
    (pdss_one (pds_ret (pd_var (pv 0)))))
theorem ok__law_made (e : Ev P G mg base) : FnOk P w0 G.K mg base (L2.CX P w0) 1 e.a__law_made e.fd__law_made ["_law_a", "_law_b"] (spG G 2 g__law_made) :=
  fn_okD e.F__law_made sc__law_made rfl rfl fun cdv A outer s H E hr tk ps => pdss_cons (pds_par (i := 2) (j := 3) rfl sc__law_made.nd rfl rfl (by decide) rfl rfl (pda_cons (pd_tup (pda_cons (pd_var (pv 0)) (pda_cons (pd_int) (pda_cons (pd_int) (pda_nil))))) (pda_cons (pd_tup (pda_cons (pd_var (pv 1)) (pda_cons (pd_int) (pda_cons (pd_int) (pda_nil))))) (pda_nil))) (by rfl))
    (pdss_cons (pds_for ps rfl (pdi_range1 (by rfl) e.z_range (pda_cons (pd_int) (pda_nil))) (pdg_name (i := 4) sc__law_made.nd rfl (.inl rfl)) (pdss_cons (pds_if (ptd_cmp (opd_eq e.kk hr.units) (pd_ix e.kk (pd_var (pv 3)) (pd_int) (fun _ _ => rfl)) (pd_int) (nomark _)) (pdss_one (pds_break)) (pdss_nil))
    (pdss_cons (pds_set (i := 5) sc__law_made.nd rfl (.inl rfl) (pd_op (opd_div) (pd_ix e.kk (pd_var (pv 2)) (pd_int) (fun _ _ => rfl)) (pd_ix e.kk (pd_var (pv 3)) (pd_int) (fun _ _ => rfl))))
    (pdss_one (pds_par (i := 2) (j := 3) rfl sc__law_made.nd rfl rfl (by decide) rfl rfl (pda_cons (pd_var (pv 3)) (pda_cons (pd_tup (pda_cons (pd_op (opd_sub) (pd_ix e.kk (pd_var (pv 2)) (pd_int) (fun _ _ => rfl)) (pd_op (opd_mulA) (pd_var (pv 5)) (pd_ix e.kk (pd_var (pv 3)) (pd_int) (fun _ _ => rfl)))) (pda_cons (pd_op (opd_sub) (pd_ix e.kk (pd_var (pv 2)) (pd_int) (fun _ _ => rfl)) (pd_op (opd_mulA) (pd_var (pv 5)) (pd_ix e.kk (pd_var (pv 3)) (pd_int) (fun _ _ => rfl)))) (pda_cons (pd_op (opd_sub) (pd_ix e.kk (pd_var (pv 2)) (pd_int) (fun _ _ => rfl)) (pd_op (opd_mulA) (pd_var (pv 5)) (pd_ix e.kk (pd_var (pv 3)) (pd_int) (fun _ _ => rfl)))) (pda_nil))))) (pda_nil))) (by rfl))))))
    (pdss_cons (pds_if (ptd_cmp (opd_lt) (pd_ix e.kk (pd_var (pv 2)) (pd_int) (fun _ _ => rfl)) (pd_int) (nomark _)) (pdss_one (pds_ret (pd_tup (pda_cons (pd_neg (pd_ix e.kk (pd_var (pv 2)) (pd_int) (fun _ _ => rfl))) (pda_cons (pd_neg (pd_ix e.kk (pd_var (pv 2)) (pd_int) (fun _ _ => rfl))) (pda_nil)))))) (pdss_nil))
    (pdss_one (pds_ret (pd_tup (pda_cons (pd_ix e.kk (pd_var (pv 2)) (pd_int) (fun _ _ => rfl)) (pda_cons (pd_ix e.kk (pd_var (pv 2)) (pd_int) (fun _ _ => rfl)) (pda_nil))))))))
theorem ok__law_join (e : Ev P G mg base) : FnOk P w0 G.K mg base (L2.CX P w0) 1 e.a__law_join e.fd__law_join ["_law_one", "_law_other"] (spG G 2 g__law_join) :=
  fn_okD e.F__law_join sc__law_join rfl rfl fun cdv A outer s H E hr tk ps => pdss_cons (pds_asg (pd_var (pv 0)) (pdg_tup rfl rfl (pdgs_cons (pdg_name (i := 2) sc__law_join.nd rfl (.inl rfl)) (pdgs_cons (pdg_name (i := 3) sc__law_join.nd rfl (.inl rfl)) (pdgs_cons (pdg_name (i := 4) sc__law_join.nd rfl (.inl rfl)) (pdgs_nil))))))
    (pdss_cons (pds_asg (pd_var (pv 1)) (pdg_tup rfl rfl (pdgs_cons (pdg_name (i := 5) sc__law_join.nd rfl (.inl rfl)) (pdgs_cons (pdg_name (i := 6) sc__law_join.nd rfl (.inl rfl)) (pdgs_cons (pdg_name (i := 7) sc__law_join.nd rfl (.inl rfl)) (pdgs_nil))))))
    (pdss_one (pds_ret (pd_tup (pda_cons (pd_op (opd_addA e.kk) (pd_var (pv 2)) (pd_var (pv 5))) (pda_cons (pd_op (opd_addA e.kk) (pd_var (pv 3)) (pd_var (pv 6))) (pda_cons (pd_op (opd_addA e.kk) (pd_op (opd_addA e.kk) (pd_var (pv 4)) (pd_var (pv 7))) (pd_op (opd_mulA) (pd_var (pv 2)) (pd_var (pv 6)))) (pda_nil))))))))
theorem ok__law_times (e : Ev P G mg base) : FnOk P w0 G.K mg base (L2.CX P w0) 1 e.a__law_times e.fd__law_times ["_law_one", "_law_number"] (spG G 2 g__law_times) :=
  fn_okD e.F__law_times sc__law_times rfl rfl fun cdv A outer s H E hr tk ps => pdss_cons (pds_asg (pd_var (pv 0)) (pdg_tup rfl rfl (pdgs_cons (pdg_name (i := 2) sc__law_times.nd rfl (.inl rfl)) (pdgs_cons (pdg_name (i := 3) sc__law_times.nd rfl (.inl rfl)) (pdgs_cons (pdg_name (i := 4) sc__law_times.nd rfl (.inl rfl)) (pdgs_nil))))))
    (pdss_cons (pds_set (i := 5) sc__law_times.nd rfl (.inl rfl) (pd_op (opd_div) (pd_op (opd_mulA) (pd_var (pv 1)) (pd_op (opd_sub) (pd_var (pv 1)) (pd_int))) (pd_int)))
    (pdss_one (pds_ret (pd_tup (pda_cons (pd_op (opd_mulA) (pd_var (pv 1)) (pd_var (pv 2))) (pda_cons (pd_op (opd_mulA) (pd_var (pv 1)) (pd_var (pv 3))) (pda_cons (pd_op (opd_addA e.kk) (pd_op (opd_mulA) (pd_var (pv 1)) (pd_var (pv 4))) (pd_op (opd_mulA) (pd_op (opd_mulA) (pd_var (pv 5)) (pd_var (pv 2))) (pd_var (pv 3)))) (pda_nil))))))))
theorem ok__law_twist (e : Ev P G mg base) : FnOk P w0 G.K mg base (L2.CX P w0) 1 e.a__law_twist e.fd__law_twist ["_law_one", "_law_other"] (spG G 2 g__law_twist) :=
  fn_okD e.F__law_twist sc__law_twist rfl rfl fun cdv A outer s H E hr tk ps => pdss_one (pds_ret (pd_op (opd_sub) (pd_op (opd_mulA) (pd_ix e.kk (pd_var (pv 0)) (pd_int) (fun _ _ => rfl)) (pd_ix e.kk (pd_var (pv 1)) (pd_int) (fun _ _ => rfl))) (pd_op (opd_mulA) (pd_ix e.kk (pd_var (pv 1)) (pd_int) (fun _ _ => rfl)) (pd_ix e.kk (pd_var (pv 0)) (pd_int) (fun _ _ => rfl)))))
theorem ok__law_renamed (e : Ev P G mg base) : FnOk P w0 G.K mg base (L2.CX P w0) 3 e.a__law_renamed e.fd__law_renamed ["_law_six_here", "_law_row_here"] (spG G 2 g__law_renamed) :=
  fn_okD e.F__law_renamed sc__law_renamed rfl rfl fun cdv A outer s H E hr tk ps => pdss_cons (pds_set (i := 2) sc__law_renamed.nd rfl (.inl rfl) (pd_call (ok__law_join e) (hr.mono (by decide)) (by rfl) e.m__law_join e.F__law_join.kp e.b__law_join tk (pda_cons (pd_call (ok__law_times e) (hr.mono (by decide)) (by rfl) e.m__law_times e.F__law_times.kp e.b__law_times tk (pda_cons (pd_ix e.kk (pd_var (pv 0)) (pd_int) (fun _ _ => rfl)) (pda_cons (pd_ix e.kk (pd_var (pv 1)) (pd_int) (fun _ _ => rfl)) (pda_nil)))) (pda_cons (pd_call (ok__law_times e) (hr.mono (by decide)) (by rfl) e.m__law_times e.F__law_times.kp e.b__law_times tk (pda_cons (pd_ix e.kk (pd_var (pv 0)) (pd_int) (fun _ _ => rfl)) (pda_cons (pd_ix e.kk (pd_var (pv 1)) (pd_int) (fun _ _ => rfl)) (pda_nil)))) (pda_nil)))))
    (pdss_one (pds_ret (pd_tup (pda_cons (pd_ix e.kk (pd_var (pv 2)) (pd_int) (fun _ _ => rfl)) (pda_cons (pd_ix e.kk (pd_var (pv 2)) (pd_int) (fun _ _ => rfl)) (pda_cons (pd_op (opd_addA e.kk) (pd_ix e.kk (pd_var (pv 2)) (pd_int) (fun _ _ => rfl)) (pd_op (opd_mulA) (pd_call (ok__law_twist e) (hr.mono (by decide)) (by rfl) e.m__law_twist e.F__law_twist.kp e.b__law_twist tk (pda_cons (pd_ix e.kk (pd_var (pv 0)) (pd_int) (fun _ _ => rfl)) (pda_cons (pd_ix e.kk (pd_var (pv 0)) (pd_int) (fun _ _ => rfl)) (pda_nil)))) (pd_ix e.kk (pd_var (pv 1)) (pd_int) (fun _ _ => rfl)))) (pda_nil)))))))
theorem ok__law_straight (e : Ev P G mg base) : FnOk P w0 G.K mg base (L2.CX P w0) 5 e.a__law_straight e.fd__law_straight ["_law_row_here"] (spG G 1 g__law_straight) :=
  fn_okD e.F__law_straight sc__law_straight rfl rfl fun cdv A outer s H E hr tk ps => pdss_cons (pds_set (i := 1) sc__law_straight.nd rfl (.inl rfl) (pd_call (ok__law_gcd e) (hr.mono (by decide)) (by rfl) e.m__law_gcd e.F__law_gcd.kp e.b__law_gcd tk (pda_cons (pd_ix e.kk (pd_var (pv 0)) (pd_int) (fun _ _ => rfl)) (pda_cons (pd_ix e.kk (pd_var (pv 0)) (pd_int) (fun _ _ => rfl)) (pda_nil)))))
    (pdss_cons (pds_if (ptd_cmp (opd_eq e.kk hr.units) (pd_var (pv 1)) (pd_int) (nomark _)) (pdss_one (pds_ret (pd_tup (pda_cons (pd_int) (pda_cons (pd_ix e.kk (pd_var (pv 0)) (pd_int) (fun _ _ => rfl)) (pda_nil)))))) (pdss_nil))
    (pdss_cons (pds_asg (pd_call (ok__law_made e) (hr.mono (by decide)) (by rfl) e.m__law_made e.F__law_made.kp e.b__law_made tk (pda_cons (pd_ix e.kk (pd_var (pv 0)) (pd_int) (fun _ _ => rfl)) (pda_cons (pd_ix e.kk (pd_var (pv 0)) (pd_int) (fun _ _ => rfl)) (pda_nil)))) (pdg_tup rfl rfl (pdgs_cons (pdg_name (i := 2) sc__law_straight.nd rfl (.inl rfl)) (pdgs_cons (pdg_name (i := 3) sc__law_straight.nd rfl (.inl rfl)) (pdgs_nil)))))
    (pdss_cons (pds_set (i := 4) sc__law_straight.nd rfl (.inl rfl) (pd_call (ok__law_renamed e) (hr.mono (by decide)) (by rfl) e.m__law_renamed e.F__law_renamed.kp e.b__law_renamed tk (pda_cons (pd_tup (pda_cons (pd_tup (pda_cons (pd_var (pv 2)) (pda_cons (pd_op (opd_div) (pd_neg (pd_ix e.kk (pd_var (pv 0)) (pd_int) (fun _ _ => rfl))) (pd_var (pv 1))) (pda_cons (pd_int) (pda_nil))))) (pda_cons (pd_tup (pda_cons (pd_var (pv 3)) (pda_cons (pd_op (opd_div) (pd_ix e.kk (pd_var (pv 0)) (pd_int) (fun _ _ => rfl)) (pd_var (pv 1))) (pda_cons (pd_int) (pda_nil))))) (pda_nil)))) (pda_cons (pd_var (pv 0)) (pda_nil)))))
    (pdss_one (pds_ret (pd_tup (pda_cons (pd_var (pv 1)) (pda_cons (pd_ix e.kk (pd_var (pv 4)) (pd_int) (fun _ _ => rfl)) (pda_nil)))))))))
theorem ok__law_due (e : Ev P G mg base) : FnOk P w0 G.K mg base (L2.CX P w0) 7 e.a__law_due e.fd__law_due ["_law_one", "_law_other"] (spG G 2 g__law_due) :=
  fn_okD e.F__law_due sc__law_due rfl rfl fun cdv A outer s H E hr tk ps => pdss_cons (pds_par (i := 2) (j := 3) rfl sc__law_due.nd rfl rfl (by decide) rfl rfl (pda_cons (pd_call (ok__law_straight e) (hr.mono (by decide)) (by rfl) e.m__law_straight e.F__law_straight.kp e.b__law_straight tk (pda_cons (pd_var (pv 0)) (pda_nil))) (pda_cons (pd_call (ok__law_straight e) (hr.mono (by decide)) (by rfl) e.m__law_straight e.F__law_straight.kp e.b__law_straight tk (pda_cons (pd_var (pv 1)) (pda_nil))) (pda_nil))) (by rfl))
    (pdss_cons (pds_if (ptd_cmp (opd_ne e.kk hr.units) (pd_ix e.kk (pd_var (pv 2)) (pd_int) (fun _ _ => rfl)) (pd_ix e.kk (pd_var (pv 3)) (pd_int) (fun _ _ => rfl)) (nomark _)) (pdss_one (pds_ret (pd_bl))) (pdss_nil))
    (pdss_cons (pds_if (ptd_cmp (opd_eq e.kk hr.units) (pd_ix e.kk (pd_var (pv 2)) (pd_int) (fun _ _ => rfl)) (pd_int) (nomark _)) (pdss_one (pds_ret (pd_cmp (opd_eq e.kk hr.units) (pd_callB cd_abs (by rfl) e.z_abs (by decide +kernel) (pda_cons (pd_ix e.kk (pd_var (pv 2)) (pd_int) (fun _ _ => rfl)) (pda_nil))) (pd_callB cd_abs (by rfl) e.z_abs (by decide +kernel) (pda_cons (pd_ix e.kk (pd_var (pv 3)) (pd_int) (fun _ _ => rfl)) (pda_nil))) (nomark _)))) (pdss_nil))
    (pdss_one (pds_ret (pd_orT e.kk (pd_cmp (opd_eq e.kk hr.units) (pd_op (opd_mod) (pd_callTy cd_int (by rfl) e.z_int (by decide +kernel) (pda_cons (pd_op (opd_sub) (pd_ix e.kk (pd_var (pv 2)) (pd_int) (fun _ _ => rfl)) (pd_ix e.kk (pd_var (pv 3)) (pd_int) (fun _ _ => rfl))) (pda_nil))) (pd_ix e.kk (pd_var (pv 2)) (pd_int) (fun _ _ => rfl))) (pd_int) (nomark _)) (pd_one (pd_cmp (opd_eq e.kk hr.units) (pd_op (opd_mod) (pd_callTy cd_int (by rfl) e.z_int (by decide +kernel) (pda_cons (pd_op (opd_addA e.kk) (pd_ix e.kk (pd_var (pv 2)) (pd_int) (fun _ _ => rfl)) (pd_ix e.kk (pd_var (pv 3)) (pd_int) (fun _ _ => rfl))) (pda_nil))) (pd_ix e.kk (pd_var (pv 2)) (pd_int) (fun _ _ => rfl))) (pd_int) (nomark _))))))))
theorem ok__law_pick (e : Ev P G mg base) : FnOk P w0 G.K mg base (L2.CX P w0) 3 e.a__law_pick e.fd__law_pick ["_law_pen", "_law_some"] (spG G 2 g__law_pick) :=
  fn_okD e.F__law_pick sc__law_pick rfl rfl fun cdv A outer s H E hr tk ps => pdss_one (pds_ret (pd_ix e.kk (pd_var (pv 1)) (pd_call (ok__law_draw e) (hr.mono (by decide)) (by rfl) e.m__law_draw e.F__law_draw.kp e.b__law_draw tk (pda_cons (pd_var (pv 0)) (pda_cons (pd_callB (cd_len rfl) (by rfl) e.z_len (by decide +kernel) (pda_cons (pd_var (pv 1)) (pda_nil))) (pda_nil)))) (fun _ _ => rfl)))
theorem ok__law_mid (e : Ev P G mg base) : FnOk P w0 G.K mg base (L2.CX P w0) 5 e.a__law_mid e.fd__law_mid ["_law_pen"] (spG G 1 g__law_mid) :=
  fn_okD e.F__law_mid sc__law_mid rfl rfl fun cdv A outer s H E hr tk ps => pdss_cons (pds_set (i := 1) sc__law_mid.nd rfl (.inl rfl) (pd_op (opd_sub) (pd_call (ok__law_draw e) (hr.mono (by decide)) (by rfl) e.m__law_draw e.F__law_draw.kp e.b__law_draw tk (pda_cons (pd_var (pv 0)) (pda_cons (pd_int) (pda_nil)))) (pd_int)))
    (pdss_one (pds_ret (pd_op (opd_addA e.kk) (pd_var (pv 1)) (pd_call (ok__law_pick e) (hr.mono (by decide)) (by rfl) e.m__law_pick e.F__law_pick.kp e.b__law_pick tk (pda_cons (pd_var (pv 0)) (pda_cons (pdo_frz (pdo_lst (pda_cons (pd_int) (pda_cons (pd_int) (pda_cons (pd_int) (pda_cons (pd_op (opd_pow) (pd_int) (pd_int)) (pda_cons (pd_neg (pd_op (opd_pow) (pd_int) (pd_int))) (pda_nil)))))))) (pda_nil)))))))
theorem ok__law_mid_drawn (e : Ev P G mg base) : FnOk P w0 G.K mg base (L2.CX P w0) 7 e.a__law_mid_drawn e.fd__law_mid_drawn ["_law_pen"] (spG G 1 g__law_mid_drawn) :=
  fn_okD e.F__law_mid_drawn sc__law_mid_drawn rfl rfl fun cdv A outer s H E hr tk ps => pdss_cons (pds_set (i := 1) sc__law_mid_drawn.nd rfl (.inl rfl) (pd_tup (pda_cons (pd_call (ok__law_mid e) (hr.mono (by decide)) (by rfl) e.m__law_mid e.F__law_mid.kp e.b__law_mid tk (pda_cons (pd_var (pv 0)) (pda_nil))) (pda_cons (pd_call (ok__law_mid e) (hr.mono (by decide)) (by rfl) e.m__law_mid e.F__law_mid.kp e.b__law_mid tk (pda_cons (pd_var (pv 0)) (pda_nil))) (pda_cons (pd_op (opd_mulA) (pd_call (ok__law_mid e) (hr.mono (by decide)) (by rfl) e.m__law_mid e.F__law_mid.kp e.b__law_mid tk (pda_cons (pd_var (pv 0)) (pda_nil))) (pd_call (ok__law_pick e) (hr.mono (by decide)) (by rfl) e.m__law_pick e.F__law_pick.kp e.b__law_pick tk (pda_cons (pd_var (pv 0)) (pda_cons (pdo_frz (pdo_lst (pda_cons (pd_int) (pda_cons (pd_int) (pda_cons (pd_op (opd_addA e.kk) (pd_op (opd_pow) (pd_int) (pd_int)) (pd_int)) (pda_nil)))))) (pda_nil))))) (pda_nil))))))
    (pdss_cons (pds_set (i := 2) sc__law_mid_drawn.nd rfl (.inl rfl) (pd_call (ok__law_draw e) (hr.mono (by decide)) (by rfl) e.m__law_draw e.F__law_draw.kp e.b__law_draw tk (pda_cons (pd_var (pv 0)) (pda_cons (pd_int) (pda_nil)))))
    (pdss_cons (pds_if (ptd_cmp (opd_eq e.kk hr.units) (pd_var (pv 2)) (pd_int) (nomark _)) (pdss_one (pds_set (i := 1) sc__law_mid_drawn.nd rfl (.inl rfl) (pd_tup (pda_cons (pd_int) (pda_cons (pd_int) (pda_cons (pd_ix e.kk (pd_var (pv 1)) (pd_int) (fun _ _ => rfl)) (pda_nil))))))) (pdss_nil))
    (pdss_cons (pds_if (ptd_cmp (opd_eq e.kk hr.units) (pd_var (pv 2)) (pd_int) (nomark _)) (pdss_one (pds_set (i := 1) sc__law_mid_drawn.nd rfl (.inl rfl) (pd_call (ok__law_pick e) (hr.mono (by decide)) (by rfl) e.m__law_pick e.F__law_pick.kp e.b__law_pick tk (pda_cons (pd_var (pv 0)) (pda_cons (pdo_frz (pdo_lst (pda_cons (pd_tup (pda_cons (pd_ix e.kk (pd_var (pv 1)) (pd_int) (fun _ _ => rfl)) (pda_cons (pd_int) (pda_cons (pd_ix e.kk (pd_var (pv 1)) (pd_int) (fun _ _ => rfl)) (pda_nil))))) (pda_cons (pd_tup (pda_cons (pd_int) (pda_cons (pd_ix e.kk (pd_var (pv 1)) (pd_int) (fun _ _ => rfl)) (pda_cons (pd_ix e.kk (pd_var (pv 1)) (pd_int) (fun _ _ => rfl)) (pda_nil))))) (pda_nil))))) (pda_nil)))))) (pdss_nil))
    (pdss_one (pds_ret (pd_var (pv 1)))))))
theorem ok__law_onto (e : Ev P G mg base) : FnOk P w0 G.K mg base (L2.CX P w0) 7 e.a__law_onto e.fd__law_onto ["_law_pen"] (spG G 1 g__law_onto) :=
  fn_okD e.F__law_onto sc__law_onto rfl rfl fun cdv A outer s H E hr tk ps => pdss_cons (pds_par (i := 1) (j := 2) rfl sc__law_onto.nd rfl rfl (by decide) rfl rfl (pda_cons (pd_tup (pda_cons (pd_int) (pda_cons (pd_int) (pda_nil)))) (pda_cons (pd_tup (pda_cons (pd_int) (pda_cons (pd_call (ok__law_pick e) (hr.mono (by decide)) (by rfl) e.m__law_pick e.F__law_pick.kp e.b__law_pick tk (pda_cons (pd_var (pv 0)) (pda_cons (pdo_frz (pdo_lst (pda_cons (pd_int) (pda_cons (pd_neg (pd_int)) (pda_nil))))) (pda_nil)))) (pda_nil)))) (pda_nil))) (by rfl))
    (pdss_cons (pds_for ps rfl (pdi_range1 (by rfl) e.z_range (pda_cons (pd_call (ok__law_draw e) (hr.mono (by decide)) (by rfl) e.m__law_draw e.F__law_draw.kp e.b__law_draw tk (pda_cons (pd_var (pv 0)) (pda_cons (pd_int) (pda_nil)))) (pda_nil))) (pdg_name (i := 3) sc__law_onto.nd rfl (.inl rfl)) (pdss_cons (pds_set (i := 4) sc__law_onto.nd rfl (.inl rfl) (pd_call (ok__law_pick e) (hr.mono (by decide)) (by rfl) e.m__law_pick e.F__law_pick.kp e.b__law_pick tk (pda_cons (pd_var (pv 0)) (pda_cons (pdo_frz (pdo_lst (pda_cons (pd_int) (pda_cons (pd_neg (pd_int)) (pda_cons (pd_int) (pda_cons (pd_neg (pd_int)) (pda_cons (pd_int) (pda_nil)))))))) (pda_nil)))))
    (pdss_one (pds_asg (pd_call (ok__law_pick e) (hr.mono (by decide)) (by rfl) e.m__law_pick e.F__law_pick.kp e.b__law_pick tk (pda_cons (pd_var (pv 0)) (pda_cons (pdo_frz (pdo_lst (pda_cons (pd_tup (pda_cons (pd_var (pv 2)) (pda_cons (pd_var (pv 1)) (pda_nil)))) (pda_cons (pd_tup (pda_cons (pd_var (pv 1)) (pda_cons (pd_tup (pda_cons (pd_op (opd_addA e.kk) (pd_ix e.kk (pd_var (pv 2)) (pd_int) (fun _ _ => rfl)) (pd_op (opd_mulA) (pd_var (pv 4)) (pd_ix e.kk (pd_var (pv 1)) (pd_int) (fun _ _ => rfl)))) (pda_cons (pd_op (opd_addA e.kk) (pd_ix e.kk (pd_var (pv 2)) (pd_int) (fun _ _ => rfl)) (pd_op (opd_mulA) (pd_var (pv 4)) (pd_ix e.kk (pd_var (pv 1)) (pd_int) (fun _ _ => rfl)))) (pda_nil)))) (pda_nil)))) (pda_nil))))) (pda_nil)))) (pdg_tup rfl rfl (pdgs_cons (pdg_name (i := 1) sc__law_onto.nd rfl (.inl rfl)) (pdgs_cons (pdg_name (i := 2) sc__law_onto.nd rfl (.inl rfl)) (pdgs_nil))))))))
    (pdss_one (pds_ret (pd_tup (pda_cons (pd_tup (pda_cons (pd_ix e.kk (pd_var (pv 1)) (pd_int) (fun _ _ => rfl)) (pda_cons (pd_ix e.kk (pd_var (pv 1)) (pd_int) (fun _ _ => rfl)) (pda_cons (pd_call (ok__law_mid e) (hr.mono (by decide)) (by rfl) e.m__law_mid e.F__law_mid.kp e.b__law_mid tk (pda_cons (pd_var (pv 0)) (pda_nil))) (pda_nil))))) (pda_cons (pd_tup (pda_cons (pd_ix e.kk (pd_var (pv 2)) (pd_int) (fun _ _ => rfl)) (pda_cons (pd_ix e.kk (pd_var (pv 2)) (pd_int) (fun _ _ => rfl)) (pda_cons (pd_call (ok__law_mid e) (hr.mono (by decide)) (by rfl) e.m__law_mid e.F__law_mid.kp e.b__law_mid tk (pda_cons (pd_var (pv 0)) (pda_nil))) (pda_nil))))) (pda_nil)))))))
theorem ok_is_integer (e : Ev P G mg base) : FnOk P w0 G.K mg base (L2.CX P w0) 1 e.a_is_integer e.fd_is_integer ["value"] (spG G 1 g_is_integer) :=
  fn_okD e.F_is_integer sc_is_integer rfl rfl fun cdv A outer s H E hr tk ps => pdss_one (pds_ret (pd_andT e.kk (pd_callB (cd_isi rfl e.iso) (by rfl) e.z_isinstance (by decide +kernel) (pda_cons (pd_var (pv 0)) (pda_cons (pd_bltn (by rfl) e.z_int boot_int) (pda_nil)))) (pd_one (pd_notT e.kk (pd_callB (cd_isi rfl e.iso) (by rfl) e.z_isinstance (by decide +kernel) (pda_cons (pd_var (pv 0)) (pda_cons (pd_bltn (by rfl) e.z_bool boot_bool) (pda_nil))))))))
theorem ok_PlaceX_initX (e : Ev P G mg base) : FnOk P w0 G.K mg base (L2.CX P w0) 3 e.a_PlaceX_initX e.fd_PlaceX_initX ["self", "x", "y", "area"] (spI G "Place" 3 g_PlaceX_initX) :=
  in_okD e.F_PlaceX_initX sc_PlaceX_initX rfl rfl fun cdv A outer s H E hr tk ps => pdss_cons (pds_for ps rfl (pdi_seq rfl (pd_tup (pda_cons (pd_var (pv 1)) (pda_cons (pd_var (pv 2)) (pda_cons (pd_var (pv 3)) (pda_nil)))))) (pdg_name (i := 4) sc_PlaceX_initX.nd rfl (.inl rfl)) (pdss_one (pds_if (ptd_not (ptd_truth e.kk (pd_call (ok_is_integer e) (hr.mono (by decide)) (by rfl) e.m_is_integer e.F_is_integer.kp e.b_is_integer tk (pda_cons (pd_var (pv 4)) (pda_nil))))) (pdss_one (pds_raise rfl tk e.X_BadNumber.T e.X_BadNumber.I s_3 e.X_BadNumber.B (hr.mono (by decide)) (by rfl) e.m_BadNumber (pda_cons (pd_var (pv 4)) (pda_nil)))) (pdss_nil))))
    (pdss_cons (pds_fld rfl (pv 0) s_4 e.ct_Place e.cl_Place (e.na_Place_x) (pd_var (pv 1)))
    (pdss_cons (pds_fld rfl (pv 0) s_5 e.ct_Place e.cl_Place (e.na_Place_y) (pd_var (pv 2)))
    (pdss_one (pds_fld rfl (pv 0) s_6 e.ct_Place e.cl_Place (e.na_Place_area) (pd_var (pv 3))))))
theorem ok__law_place (e : Ev P G mg base) : FnOk P w0 G.K mg base (L2.CX P w0) 5 e.a__law_place e.fd__law_place ["_law_row_here"] (spG G 1 g__law_place) :=
  fn_okD e.F__law_place sc__law_place rfl rfl fun cdv A outer s H E hr tk ps => pdss_one (pds_ret (pd_make e.mk_Place e.ct_Place (ok_PlaceX_initX e) (hr.mono (by decide)) (by rfl) e.m_Place e.b_PlaceX_initX tk (pda_cons (pd_ix e.kk (pd_var (pv 0)) (pd_int) (fun _ _ => rfl)) (pda_cons (pd_ix e.kk (pd_var (pv 0)) (pd_int) (fun _ _ => rfl)) (pda_cons (pd_ix e.kk (pd_var (pv 0)) (pd_int) (fun _ _ => rfl)) (pda_nil))))))
theorem ok__law_whole (e : Ev P G mg base) : FnOk P w0 G.K mg base (L2.CX P w0) 1 e.a__law_whole e.fd__law_whole ["_law_value"] (spG G 1 g__law_whole) :=
  fn_okD e.F__law_whole sc__law_whole rfl rfl fun cdv A outer s H E hr tk ps => pdss_one (pds_ret (pd_andT e.kk (pd_callB (cd_isi rfl e.iso) (by rfl) e.z_isinstance (by decide +kernel) (pda_cons (pd_var (pv 0)) (pda_cons (pd_bltn (by rfl) e.z_int boot_int) (pda_nil)))) (pd_one (pd_notT e.kk (pd_callB (cd_isi rfl e.iso) (by rfl) e.z_isinstance (by decide +kernel) (pda_cons (pd_var (pv 0)) (pda_cons (pd_bltn (by rfl) e.z_bool boot_bool) (pda_nil))))))))
theorem ok__law_row (e : Ev P G mg base) : FnOk P w0 G.K mg base (L2.CX P w0) 3 e.a__law_row e.fd__law_row ["_law_place_here"] (spG G 1 g__law_row) :=
  fn_okD e.F__law_row sc__law_row rfl rfl fun cdv A outer s H E hr tk ps => pdss_cons (pds_if (ptd_not (ptd_truth e.kk (pd_callB (cd_isi rfl e.iso) (by rfl) e.z_isinstance (by decide +kernel) (pda_cons (pd_var (pv 0)) (pda_cons (pd_cls (by rfl) e.m_Place e.ct_Place) (pda_nil)))))) (pdss_one (pds_ret (pd_non))) (pdss_nil))
    (pdss_cons (pds_set (i := 1) sc__law_row.nd rfl (.inl rfl) (pd_tup (pda_cons (pd_fld rfl s_4 e.f_x (pd_var (pv 0))) (pda_cons (pd_fld rfl s_5 e.f_y (pd_var (pv 0))) (pda_cons (pd_fld rfl s_6 e.f_area (pd_var (pv 0))) (pda_nil))))))
    (pdss_cons (pds_if (ptd_not (ptd_truth e.kk (pd_callB (cd_all rfl) (by rfl) e.z_all (by decide +kernel) (pda_cons (pdo_frz (pdo_lc (own := [("_law_part", 2)]) rfl sc__law_row.nd (pdi_seq rfl (pd_var (pv 1))) (by exact blkOk_by (N := ["_law_place_here", "_law_parts", "_law_part"]) (sc := defScope st__law_row) (own := [("_law_part", 2)]) (by decide +kernel)) (by decide) (fun _ _ _ _ _ => pdg_name (i := 2) sc__law_row.nd rfl (.inl rfl)) (fun _ _ _ _ _ => ptds_nil) (fun _ _ _ _ _ => pd_call (ok__law_whole e) (hr.mono (by decide)) (by rfl) e.m__law_whole e.F__law_whole.kp e.b__law_whole takes0 (pda_cons (pd_var (pv 2)) (pda_nil))))) (pda_nil))))) (pdss_one (pds_ret (pd_non))) (pdss_nil))
    (pdss_one (pds_ret (pd_var (pv 1))))))
theorem ok__law_six (e : Ev P G mg base) : FnOk P w0 G.K mg base (L2.CX P w0) 5 e.a__law_six e.fd__law_six ["_law_renaming"] (spG G 1 g__law_six) :=
  fn_okD e.F__law_six sc__law_six rfl rfl fun cdv A outer s H E hr tk ps => pdss_cons (pds_if (ptd_not (ptd_truth e.kk (pd_callB (cd_isi rfl e.iso) (by rfl) e.z_isinstance (by decide +kernel) (pda_cons (pd_var (pv 0)) (pda_cons (pd_cls (by rfl) e.m_Renaming e.ct_Renaming) (pda_nil)))))) (pdss_one (pds_ret (pd_non))) (pdss_nil))
    (pdss_one (pds_ret (pd_tup (pda_cons (pd_call (ok__law_row e) (hr.mono (by decide)) (by rfl) e.m__law_row e.F__law_row.kp e.b__law_row tk (pda_cons (pd_fld rfl s_8 e.f_east (pd_var (pv 0))) (pda_nil))) (pda_cons (pd_call (ok__law_row e) (hr.mono (by decide)) (by rfl) e.m__law_row e.F__law_row.kp e.b__law_row tk (pda_cons (pd_fld rfl s_7 e.f_north (pd_var (pv 0))) (pda_nil))) (pda_nil))))))
theorem ok_PlaceX_eqX (e : Ev P G mg base) : FnOk P w0 G.K mg base (L2.CX P w0) 1 e.a_PlaceX_eqX e.fd_PlaceX_eqX ["self", "other"] (spG G 2 g_PlaceX_eqX) :=
  fn_okD e.F_PlaceX_eqX sc_PlaceX_eqX rfl rfl fun cdv A outer s H E hr tk ps => pdss_cons (pds_if (ptd_not (ptd_truth e.kk (pd_callB (cd_isi rfl e.iso) (by rfl) e.z_isinstance (by decide +kernel) (pda_cons (pd_var (pv 1)) (pda_cons (pd_cls (by rfl) e.m_Place e.ct_Place) (pda_nil)))))) (pdss_one (pds_ret (pd_bl))) (pdss_nil))
    (pdss_one (pds_ret (pd_cmp (opd_eq e.kk hr.units) (pd_tup (pda_cons (pd_fld rfl s_4 e.f_x (pd_var (pv 0))) (pda_cons (pd_fld rfl s_5 e.f_y (pd_var (pv 0))) (pda_cons (pd_fld rfl s_6 e.f_area (pd_var (pv 0))) (pda_nil))))) (pd_tup (pda_cons (pd_fld rfl s_4 e.f_x (pd_var (pv 1))) (pda_cons (pd_fld rfl s_5 e.f_y (pd_var (pv 1))) (pda_cons (pd_fld rfl s_6 e.f_area (pd_var (pv 1))) (pda_nil))))) (nomark _))))
theorem ok_Place_lifted (e : Ev P G mg base) : FnOk P w0 G.K mg base (L2.CX P w0) 5 e.a_Place_lifted e.fd_Place_lifted ["self", "storeys"] (spG G 2 g_Place_lifted) :=
  fn_okD e.F_Place_lifted sc_Place_lifted rfl rfl fun cdv A outer s H E hr tk ps => pdss_cons (pds_if (ptd_not (ptd_truth e.kk (pd_call (ok_is_integer e) (hr.mono (by decide)) (by rfl) e.m_is_integer e.F_is_integer.kp e.b_is_integer tk (pda_cons (pd_var (pv 1)) (pda_nil))))) (pdss_one (pds_raise rfl tk e.X_BadNumber.T e.X_BadNumber.I s_3 e.X_BadNumber.B (hr.mono (by decide)) (by rfl) e.m_BadNumber (pda_cons (pd_var (pv 1)) (pda_nil)))) (pdss_nil))
    (pdss_one (pds_ret (pd_make e.mk_Place e.ct_Place (ok_PlaceX_initX e) (hr.mono (by decide)) (by rfl) e.m_Place e.b_PlaceX_initX tk (pda_cons (pd_fld rfl s_4 e.f_x (pd_var (pv 0))) (pda_cons (pd_fld rfl s_5 e.f_y (pd_var (pv 0))) (pda_cons (pd_op (opd_addA e.kk) (pd_fld rfl s_6 e.f_area (pd_var (pv 0))) (pd_var (pv 1))) (pda_nil)))))))
theorem ok_need_place (e : Ev P G mg base) : FnOk P w0 G.K mg base (L2.CX P w0) 3 e.a_need_place e.fd_need_place ["value"] (spG G 1 g_need_place) :=
  fn_okD e.F_need_place sc_need_place rfl rfl fun cdv A outer s H E hr tk ps => pdss_one (pds_if (ptd_not (ptd_truth e.kk (pd_callB (cd_isi rfl e.iso) (by rfl) e.z_isinstance (by decide +kernel) (pda_cons (pd_var (pv 0)) (pda_cons (pd_cls (by rfl) e.m_Place e.ct_Place) (pda_nil)))))) (pdss_one (pds_raise rfl tk e.X_BadPlace.T e.X_BadPlace.I s_3 e.X_BadPlace.B (hr.mono (by decide)) (by rfl) e.m_BadPlace (pda_cons (pd_var (pv 0)) (pda_nil)))) (pdss_nil))
theorem ok_Place_twist (e : Ev P G mg base) : FnOk P w0 G.K mg base (L2.CX P w0) 5 e.a_Place_twist e.fd_Place_twist ["self", "other"] (spG G 2 g_Place_twist) :=
  fn_okD e.F_Place_twist sc_Place_twist rfl rfl fun cdv A outer s H E hr tk ps => pdss_cons (pds_expr (pd_call (ok_need_place e) (hr.mono (by decide)) (by rfl) e.m_need_place e.F_need_place.kp e.b_need_place tk (pda_cons (pd_var (pv 1)) (pda_nil))))
    (pdss_one (pds_ret (pd_op (opd_sub) (pd_op (opd_mulA) (pd_fld rfl s_4 e.f_x (pd_var (pv 0))) (pd_fld rfl s_5 e.f_y (pd_var (pv 1)))) (pd_op (opd_mulA) (pd_fld rfl s_4 e.f_x (pd_var (pv 1))) (pd_fld rfl s_5 e.f_y (pd_var (pv 0)))))))
theorem ok_RenamingX_initX (e : Ev P G mg base) : FnOk P w0 G.K mg base (L2.CX P w0) 5 e.a_RenamingX_initX e.fd_RenamingX_initX ["self", "east", "north"] (spI G "Renaming" 2 g_RenamingX_initX) :=
  in_okD e.F_RenamingX_initX sc_RenamingX_initX rfl rfl fun cdv A outer s H E hr tk ps => pdss_cons (pds_expr (pd_call (ok_need_place e) (hr.mono (by decide)) (by rfl) e.m_need_place e.F_need_place.kp e.b_need_place tk (pda_cons (pd_var (pv 1)) (pda_nil))))
    (pdss_cons (pds_expr (pd_call (ok_need_place e) (hr.mono (by decide)) (by rfl) e.m_need_place e.F_need_place.kp e.b_need_place tk (pda_cons (pd_var (pv 2)) (pda_nil))))
    (pdss_cons (pds_fld rfl (pv 0) s_8 e.ct_Renaming e.cl_Renaming (e.na_Renaming_east) (pd_var (pv 1)))
    (pdss_one (pds_fld rfl (pv 0) s_7 e.ct_Renaming e.cl_Renaming (e.na_Renaming_north) (pd_var (pv 2))))))
theorem ok_PlaceX_mulX (e : Ev P G mg base) : FnOk P w0 G.K mg base (L2.CX P w0) 5 e.a_PlaceX_mulX e.fd_PlaceX_mulX ["self", "other"] (spG G 2 g_PlaceX_mulX) :=
  fn_okD e.F_PlaceX_mulX sc_PlaceX_mulX rfl rfl fun cdv A outer s H E hr tk ps => pdss_cons (pds_if (ptd_not (ptd_truth e.kk (pd_callB (cd_isi rfl e.iso) (by rfl) e.z_isinstance (by decide +kernel) (pda_cons (pd_var (pv 1)) (pda_cons (pd_cls (by rfl) e.m_Place e.ct_Place) (pda_nil)))))) (pdss_one (pds_raise rfl tk e.X_BadPlace.T e.X_BadPlace.I s_3 e.X_BadPlace.B (hr.mono (by decide)) (by rfl) e.m_BadPlace (pda_cons (pd_var (pv 1)) (pda_nil)))) (pdss_nil))
    (pdss_one (pds_ret (pd_make e.mk_Place e.ct_Place (ok_PlaceX_initX e) (hr.mono (by decide)) (by rfl) e.m_Place e.b_PlaceX_initX tk (pda_cons (pd_op (opd_addA e.kk) (pd_fld rfl s_4 e.f_x (pd_var (pv 0))) (pd_fld rfl s_4 e.f_x (pd_var (pv 1)))) (pda_cons (pd_op (opd_addA e.kk) (pd_fld rfl s_5 e.f_y (pd_var (pv 0))) (pd_fld rfl s_5 e.f_y (pd_var (pv 1)))) (pda_cons (pd_op (opd_addA e.kk) (pd_op (opd_addA e.kk) (pd_fld rfl s_6 e.f_area (pd_var (pv 0))) (pd_fld rfl s_6 e.f_area (pd_var (pv 1)))) (pd_op (opd_mulA) (pd_fld rfl s_4 e.f_x (pd_var (pv 0))) (pd_fld rfl s_5 e.f_y (pd_var (pv 1))))) (pda_nil)))))))
theorem ok_pairs_below (e : Ev P G mg base) : FnOk P w0 G.K mg base (L2.CX P w0) 1 e.a_pairs_below e.fd_pairs_below ["number"] (spG G 1 g_pairs_below) :=
  fn_okD e.F_pairs_below sc_pairs_below rfl rfl fun cdv A outer s H E hr tk ps => pdss_one (pds_ret (pd_op (opd_div) (pd_op (opd_mulA) (pd_var (pv 0)) (pd_op (opd_sub) (pd_var (pv 0)) (pd_int))) (pd_int)))
theorem ok_Place_power (e : Ev P G mg base) : FnOk P w0 G.K mg base (L2.CX P w0) 5 e.a_Place_power e.fd_Place_power ["self", "number"] (spG G 2 g_Place_power) :=
  fn_okD e.F_Place_power sc_Place_power rfl rfl fun cdv A outer s H E hr tk ps => pdss_cons (pds_if (ptd_not (ptd_truth e.kk (pd_call (ok_is_integer e) (hr.mono (by decide)) (by rfl) e.m_is_integer e.F_is_integer.kp e.b_is_integer tk (pda_cons (pd_var (pv 1)) (pda_nil))))) (pdss_one (pds_raise rfl tk e.X_BadNumber.T e.X_BadNumber.I s_3 e.X_BadNumber.B (hr.mono (by decide)) (by rfl) e.m_BadNumber (pda_cons (pd_var (pv 1)) (pda_nil)))) (pdss_nil))
    (pdss_one (pds_ret (pd_make e.mk_Place e.ct_Place (ok_PlaceX_initX e) (hr.mono (by decide)) (by rfl) e.m_Place e.b_PlaceX_initX tk (pda_cons (pd_op (opd_mulA) (pd_var (pv 1)) (pd_fld rfl s_4 e.f_x (pd_var (pv 0)))) (pda_cons (pd_op (opd_mulA) (pd_var (pv 1)) (pd_fld rfl s_5 e.f_y (pd_var (pv 0)))) (pda_cons (pd_op (opd_addA e.kk) (pd_op (opd_mulA) (pd_var (pv 1)) (pd_fld rfl s_6 e.f_area (pd_var (pv 0)))) (pd_op (opd_mulA) (pd_op (opd_mulA) (pd_call (ok_pairs_below e) (hr.mono (by decide)) (by rfl) e.m_pairs_below e.F_pairs_below.kp e.b_pairs_below tk (pda_cons (pd_var (pv 1)) (pda_nil))) (pd_fld rfl s_4 e.f_x (pd_var (pv 0)))) (pd_fld rfl s_5 e.f_y (pd_var (pv 0))))) (pda_nil)))))))
theorem ok_led_by (e : Ev P G mg base) : FnOk P w0 G.K mg base (L2.CX P w0) 7 e.a_led_by e.fd_led_by ["east", "north", "place"] (spG G 3 g_led_by) :=
  fn_okD e.F_led_by sc_led_by rfl rfl fun cdv A outer s H E hr tk ps => pdss_cons (pds_set (i := 3) sc_led_by.nd rfl (.inl rfl) (pd_opX (opx_own (op := .Mult) (by decide +kernel) e.ct_Place e.M_PlaceX_mulX.at_ e.M_PlaceX_mulX.fn e.sf_Place (ok_PlaceX_mulX e) (hr.mono (by decide)) e.b_PlaceX_mulX tk) (pd_meth rfl (pd_var (pv 1)) e.ct_Place e.cl_Place s_9 e.M_Place_power (ok_Place_power e) (hr.mono (by decide)) e.b_Place_power tk (pda_cons (pd_fld rfl s_5 e.f_y (pd_var (pv 2))) (pda_nil))) (pd_meth rfl (pd_var (pv 0)) e.ct_Place e.cl_Place s_9 e.M_Place_power (ok_Place_power e) (hr.mono (by decide)) e.b_Place_power tk (pda_cons (pd_fld rfl s_4 e.f_x (pd_var (pv 2))) (pda_nil)))))
    (pdss_one (pds_ret (pd_meth rfl (pd_var (pv 3)) e.ct_Place e.cl_Place s_11 e.M_Place_lifted (ok_Place_lifted e) (hr.mono (by decide)) e.b_Place_lifted tk (pda_cons (pd_op (opd_mulA) (pd_meth rfl (pd_var (pv 0)) e.ct_Place e.cl_Place s_10 e.M_Place_twist (ok_Place_twist e) (hr.mono (by decide)) e.b_Place_twist tk (pda_cons (pd_var (pv 1)) (pda_nil))) (pd_fld rfl s_6 e.f_area (pd_var (pv 2)))) (pda_nil)))))
theorem ok_RenamingX_invertX (e : Ev P G mg base) : FnOk P w0 G.K mg base (L2.CX P w0) 9 e.a_RenamingX_invertX e.fd_RenamingX_invertX ["self"] (spG G 1 g_RenamingX_invertX) :=
  fn_okD e.F_RenamingX_invertX sc_RenamingX_invertX rfl rfl fun cdv A outer s H E hr tk ps => pdss_cons (pds_set (i := 1) sc_RenamingX_invertX.nd rfl (.inl rfl) (pd_meth rfl (pd_fld rfl s_8 e.f_east (pd_var (pv 0))) e.ct_Place e.cl_Place s_10 e.M_Place_twist (ok_Place_twist e) (hr.mono (by decide)) e.b_Place_twist tk (pda_cons (pd_fld rfl s_7 e.f_north (pd_var (pv 0))) (pda_nil))))
    (pdss_cons (pds_if (ptd_cmp (opd_notIn e.kk (room65 hr)) (pd_var (pv 1)) (pd_tup (pda_cons (pd_int) (pda_cons (pd_neg (pd_int)) (pda_nil)))) (by rfl)) (pdss_one (pds_raise rfl tk e.X_NotOnto.T e.X_NotOnto.I s_12 e.X_NotOnto.B (hr.mono (by decide)) (by rfl) e.m_NotOnto (pda_cons (pd_var (pv 1)) (pda_nil)))) (pdss_nil))
    (pdss_cons (pds_set (i := 2) sc_RenamingX_invertX.nd rfl (.inl rfl) (pd_make e.mk_Place e.ct_Place (ok_PlaceX_initX e) (hr.mono (by decide)) (by rfl) e.m_Place e.b_PlaceX_initX tk (pda_cons (pd_op (opd_mulA) (pd_var (pv 1)) (pd_fld rfl s_5 e.f_y (pd_fld rfl s_7 e.f_north (pd_var (pv 0))))) (pda_cons (pd_op (opd_mulA) (pd_neg (pd_var (pv 1))) (pd_fld rfl s_5 e.f_y (pd_fld rfl s_8 e.f_east (pd_var (pv 0))))) (pda_cons (pd_int) (pda_nil))))))
    (pdss_cons (pds_set (i := 3) sc_RenamingX_invertX.nd rfl (.inl rfl) (pd_make e.mk_Place e.ct_Place (ok_PlaceX_initX e) (hr.mono (by decide)) (by rfl) e.m_Place e.b_PlaceX_initX tk (pda_cons (pd_op (opd_mulA) (pd_neg (pd_var (pv 1))) (pd_fld rfl s_4 e.f_x (pd_fld rfl s_7 e.f_north (pd_var (pv 0))))) (pda_cons (pd_op (opd_mulA) (pd_var (pv 1)) (pd_fld rfl s_4 e.f_x (pd_fld rfl s_8 e.f_east (pd_var (pv 0))))) (pda_cons (pd_int) (pda_nil))))))
    (pdss_cons (pds_set (i := 2) sc_RenamingX_invertX.nd rfl (.inl rfl) (pd_meth rfl (pd_var (pv 2)) e.ct_Place e.cl_Place s_11 e.M_Place_lifted (ok_Place_lifted e) (hr.mono (by decide)) e.b_Place_lifted tk (pda_cons (pd_op (opd_mulA) (pd_neg (pd_var (pv 1))) (pd_fld rfl s_6 e.f_area (pd_call (ok_led_by e) (hr.mono (by decide)) (by rfl) e.m_led_by e.F_led_by.kp e.b_led_by tk (pda_cons (pd_fld rfl s_8 e.f_east (pd_var (pv 0))) (pda_cons (pd_fld rfl s_7 e.f_north (pd_var (pv 0))) (pda_cons (pd_var (pv 2)) (pda_nil))))))) (pda_nil))))
    (pdss_one (pds_ret (pd_make e.mk_Renaming e.ct_Renaming (ok_RenamingX_initX e) (hr.mono (by decide)) (by rfl) e.m_Renaming e.b_RenamingX_initX tk (pda_cons (pd_var (pv 2)) (pda_cons (pd_meth rfl (pd_var (pv 3)) e.ct_Place e.cl_Place s_11 e.M_Place_lifted (ok_Place_lifted e) (hr.mono (by decide)) e.b_Place_lifted tk (pda_cons (pd_op (opd_mulA) (pd_neg (pd_var (pv 1))) (pd_fld rfl s_6 e.f_area (pd_call (ok_led_by e) (hr.mono (by decide)) (by rfl) e.m_led_by e.F_led_by.kp e.b_led_by tk (pda_cons (pd_fld rfl s_8 e.f_east (pd_var (pv 0))) (pda_cons (pd_fld rfl s_7 e.f_north (pd_var (pv 0))) (pda_cons (pd_var (pv 3)) (pda_nil))))))) (pda_nil))) (pda_nil))))))))))
theorem ok_RenamingX_mulX (e : Ev P G mg base) : FnOk P w0 G.K mg base (L2.CX P w0) 9 e.a_RenamingX_mulX e.fd_RenamingX_mulX ["self", "other"] (spG G 2 g_RenamingX_mulX) :=
  fn_okD e.F_RenamingX_mulX sc_RenamingX_mulX rfl rfl fun cdv A outer s H E hr tk ps => pdss_one (pds_ret (pd_make e.mk_Renaming e.ct_Renaming (ok_RenamingX_initX e) (hr.mono (by decide)) (by rfl) e.m_Renaming e.b_RenamingX_initX tk (pda_cons (pd_call (ok_led_by e) (hr.mono (by decide)) (by rfl) e.m_led_by e.F_led_by.kp e.b_led_by tk (pda_cons (pd_fld rfl s_8 e.f_east (pd_var (pv 0))) (pda_cons (pd_fld rfl s_7 e.f_north (pd_var (pv 0))) (pda_cons (pd_fld rfl s_8 e.f_east (pd_var (pv 1))) (pda_nil))))) (pda_cons (pd_call (ok_led_by e) (hr.mono (by decide)) (by rfl) e.m_led_by e.F_led_by.kp e.b_led_by tk (pda_cons (pd_fld rfl s_8 e.f_east (pd_var (pv 0))) (pda_cons (pd_fld rfl s_7 e.f_north (pd_var (pv 0))) (pda_cons (pd_fld rfl s_7 e.f_north (pd_var (pv 1))) (pda_nil))))) (pda_nil)))))
theorem ok_figures_of (e : Ev P G mg base) : FnOk P w0 G.K mg base (L2.CX P w0) 1 e.a_figures_of e.fd_figures_of ["places"] (spG G 1 g_figures_of) :=
  fn_okD e.F_figures_of sc_figures_of rfl rfl fun cdv A outer s H E hr tk ps => pdss_one (pds_ret (pd_callTy (cd_tup rfl) (by rfl) e.z_tuple (by decide +kernel) (pda_cons (pdo_frz (pdo_lc (own := [("place", 1)]) rfl sc_figures_of.nd (pdi_seq rfl (pd_var (pv 0))) (by exact blkOk_by (N := ["places", "place"]) (sc := defScope st_figures_of) (own := [("place", 1)]) (by decide +kernel)) (by decide) (fun _ _ _ _ _ => pdg_name (i := 1) sc_figures_of.nd rfl (.inl rfl)) (fun _ _ _ _ _ => ptds_nil) (fun _ _ _ _ _ => pd_tup (pda_cons (pd_fld rfl s_4 e.f_x (pd_var (pv 1))) (pda_cons (pd_fld rfl s_5 e.f_y (pd_var (pv 1))) (pda_cons (pd_fld rfl s_6 e.f_area (pd_var (pv 1))) (pda_nil))))))) (pda_nil))))
theorem ok_first_at (e : Ev P G mg base) : FnOk P w0 G.K mg base (L2.CX P w0) 1 e.a_first_at e.fd_first_at ["places", "asked"] (spG G 2 g_first_at) :=
  fn_okD e.F_first_at sc_first_at rfl rfl fun cdv A outer s H E hr tk ps => pdss_cons (pds_for ps rfl (pdi_enumX rfl (by rfl) e.z_enumerate (pda_cons (pd_var (pv 0)) (pda_nil))) (pdg_tup rfl rfl (pdgs_cons (pdg_name (i := 2) sc_first_at.nd rfl (.inl rfl)) (pdgs_cons (pdg_name (i := 3) sc_first_at.nd rfl (.inl rfl)) (pdgs_nil)))) (pdss_one (pds_if ((pwd_or ((pwd_and (ptd_cmp (opd_eq e.kk hr.units) (pd_var (pv 1)) (pd_str s_4) (nomark _)) (pwd_and1 ((pwd_or (ptd_cmp (opd_ne e.kk hr.units) (pd_fld rfl s_4 e.f_x (pd_var (pv 3))) (pd_int) (nomark _)) (pwd_or1 (ptd_cmp (opd_ne e.kk hr.units) (pd_fld rfl s_5 e.f_y (pd_var (pv 3))) (pd_int) (nomark _)))).pt))).pt) (pwd_or1 ((pwd_and (ptd_cmp (opd_eq e.kk hr.units) (pd_var (pv 1)) (pd_str s_5) (nomark _)) (pwd_and1 (ptd_cmp (opd_ne e.kk hr.units) (pd_fld rfl s_5 e.f_y (pd_var (pv 3))) (pd_int) (nomark _)))).pt))).pt) (pdss_one (pds_ret (pd_var (pv 2)))) (pdss_nil))))
    (pdss_one (pds_ret (pd_non)))
theorem ok_RenamingX_callX (e : Ev P G mg base) : FnOk P w0 G.K mg base (L2.CX P w0) 9 e.a_RenamingX_callX e.fd_RenamingX_callX ["self", "place"] (spG G 2 g_RenamingX_callX) :=
  fn_okD e.F_RenamingX_callX sc_RenamingX_callX rfl rfl fun cdv A outer s H E hr tk ps => pdss_cons (pds_expr (pd_call (ok_need_place e) (hr.mono (by decide)) (by rfl) e.m_need_place e.F_need_place.kp e.b_need_place tk (pda_cons (pd_var (pv 1)) (pda_nil))))
    (pdss_one (pds_ret (pd_call (ok_led_by e) (hr.mono (by decide)) (by rfl) e.m_led_by e.F_led_by.kp e.b_led_by tk (pda_cons (pd_fld rfl s_8 e.f_east (pd_var (pv 0))) (pda_cons (pd_fld rfl s_7 e.f_north (pd_var (pv 0))) (pda_cons (pd_var (pv 1)) (pda_nil)))))))
theorem ok_renamed_all (e : Ev P G mg base) : FnOk P w0 G.K mg base (L2.CX P w0) 11 e.a_renamed_all e.fd_renamed_all ["renaming", "places"] (spG G 2 g_renamed_all) :=
  fn_okD e.F_renamed_all sc_renamed_all rfl rfl fun cdv A outer s H E hr tk ps => pdss_one (pds_ret (pdo_frz (pdo_lc (own := [("place", 2)]) rfl sc_renamed_all.nd (pdi_seq rfl (pd_var (pv 1))) (by exact blkOk_by (N := ["renaming", "places", "place"]) (sc := defScope st_renamed_all) (own := [("place", 2)]) (by decide +kernel)) (by decide) (fun _ _ _ _ _ => pdg_name (i := 2) sc_renamed_all.nd rfl (.inl rfl)) (fun _ _ _ _ _ => ptds_nil) (fun _ _ _ _ _ => pd_callI rfl (pd_var (pv 0)) e.ct_Renaming e.M_RenamingX_callX (fnIn_of e.F_RenamingX_callX) (ok_RenamingX_callX e) (hr.mono (by decide)) e.b_RenamingX_callX takes0 (pda_cons (pd_var (pv 2)) (pda_nil))))))
theorem ok_same_names (e : Ev P G mg base) : FnOk P w0 G.K mg base (L2.CX P w0) 7 e.a_same_names e.fd_same_names [] (spG G 0 g_same_names) :=
  fn_okD e.F_same_names sc_same_names rfl rfl fun cdv A outer s H E hr tk ps => pdss_one (pds_ret (pd_make e.mk_Renaming e.ct_Renaming (ok_RenamingX_initX e) (hr.mono (by decide)) (by rfl) e.m_Renaming e.b_RenamingX_initX tk (pda_cons (pd_make e.mk_Place e.ct_Place (ok_PlaceX_initX e) (hr.mono (by decide)) (by rfl) e.m_Place e.b_PlaceX_initX tk (pda_cons (pd_int) (pda_cons (pd_int) (pda_cons (pd_int) (pda_nil))))) (pda_cons (pd_make e.mk_Place e.ct_Place (ok_PlaceX_initX e) (hr.mono (by decide)) (by rfl) e.m_Place e.b_PlaceX_initX tk (pda_cons (pd_int) (pda_cons (pd_int) (pda_cons (pd_int) (pda_nil))))) (pda_nil)))))
theorem ok_leaned_north (e : Ev P G mg base) : FnOk P w0 G.K mg base (L2.CX P w0) 13 e.a_leaned_north e.fd_leaned_north ["places"] (spG G 1 g_leaned_north) :=
  fn_okD e.F_leaned_north sc_leaned_north rfl rfl fun cdv A outer s H E hr tk ps => pdss_cons (pds_set (i := 1) sc_leaned_north.nd rfl (.inl rfl) (pd_call (ok_first_at e) (hr.mono (by decide)) (by rfl) e.m_first_at e.F_first_at.kp e.b_first_at tk (pda_cons (pd_var (pv 0)) (pda_cons (pd_str s_5) (pda_nil)))))
    (pdss_cons (pds_if (ptd_cmp (opd_isN) (pd_var (pv 1)) (pd_non) (nomark _)) (pdss_one (pds_ret (pd_tup (pda_cons (pd_call0 (ok_same_names e) (hr.mono (by decide)) (by rfl) e.m_same_names e.F_same_names.kp e.b_same_names tk) (pda_cons (pdo_frz (pdo_list rfl (by rfl) e.z_list boot_list (pda_cons (pd_var (pv 0)) (pda_nil)))) (pda_nil)))))) (pdss_nil))
    (pdss_cons (pds_par (i := 2) (j := 3) rfl sc_leaned_north.nd rfl rfl (by decide) rfl rfl (pda_cons (pd_fld rfl s_4 e.f_x (pd_ix e.kk (pd_var (pv 0)) (pd_var (pv 1)) (fun _ _ => rfl))) (pda_cons (pd_fld rfl s_5 e.f_y (pd_ix e.kk (pd_var (pv 0)) (pd_var (pv 1)) (fun _ _ => rfl))) (pda_nil))) (by rfl))
    (pdss_cons (pds_set (i := 4) sc_leaned_north.nd rfl (.inl rfl) (pd_ifExp (ptd_cmp (opd_gt) (pd_var (pv 3)) (pd_int) (nomark _)) (pd_make e.mk_Place e.ct_Place (ok_PlaceX_initX e) (hr.mono (by decide)) (by rfl) e.m_Place e.b_PlaceX_initX tk (pda_cons (pd_neg (pd_op (opd_div) (pd_var (pv 2)) (pd_var (pv 3)))) (pda_cons (pd_int) (pda_cons (pd_int) (pda_nil))))) (pd_make e.mk_Place e.ct_Place (ok_PlaceX_initX e) (hr.mono (by decide)) (by rfl) e.m_Place e.b_PlaceX_initX tk (pda_cons (pd_op (opd_div) (pd_var (pv 2)) (pd_neg (pd_var (pv 3)))) (pda_cons (pd_neg (pd_int)) (pda_cons (pd_int) (pda_nil)))))))
    (pdss_cons (pds_set (i := 5) sc_leaned_north.nd rfl (.inl rfl) (pd_make e.mk_Renaming e.ct_Renaming (ok_RenamingX_initX e) (hr.mono (by decide)) (by rfl) e.m_Renaming e.b_RenamingX_initX tk (pda_cons (pd_make e.mk_Place e.ct_Place (ok_PlaceX_initX e) (hr.mono (by decide)) (by rfl) e.m_Place e.b_PlaceX_initX tk (pda_cons (pd_int) (pda_cons (pd_int) (pda_cons (pd_int) (pda_nil))))) (pda_cons (pd_var (pv 4)) (pda_nil)))))
    (pdss_one (pds_ret (pd_tup (pda_cons (pd_var (pv 5)) (pda_cons (pd_call (ok_renamed_all e) (hr.mono (by decide)) (by rfl) e.m_renamed_all e.F_renamed_all.kp e.b_renamed_all tk (pda_cons (pd_var (pv 5)) (pda_cons (pd_var (pv 0)) (pda_nil)))) (pda_nil))))))))))
theorem ok_lowered_areas (e : Ev P G mg base) : FnOk P w0 G.K mg base (L2.CX P w0) 13 e.a_lowered_areas e.fd_lowered_areas ["places"] (spG G 1 g_lowered_areas) :=
  fn_okD e.F_lowered_areas sc_lowered_areas rfl rfl fun cdv A outer s H E hr tk ps => pdss_cons (pds_par (i := 1) (j := 2) rfl sc_lowered_areas.nd rfl rfl (by decide) rfl rfl (pda_cons (pd_call (ok_first_at e) (hr.mono (by decide)) (by rfl) e.m_first_at e.F_first_at.kp e.b_first_at tk (pda_cons (pd_var (pv 0)) (pda_cons (pd_str s_4) (pda_nil)))) (pda_cons (pd_call (ok_first_at e) (hr.mono (by decide)) (by rfl) e.m_first_at e.F_first_at.kp e.b_first_at tk (pda_cons (pd_var (pv 0)) (pda_cons (pd_str s_5) (pda_nil)))) (pda_nil))) (by rfl))
    (pdss_cons (pds_if (ptd_cmp (opd_isN) (pd_var (pv 1)) (pd_non) (nomark _)) (pdss_one (pds_ret (pd_tup (pda_cons (pd_call0 (ok_same_names e) (hr.mono (by decide)) (by rfl) e.m_same_names e.F_same_names.kp e.b_same_names tk) (pda_cons (pdo_frz (pdo_list rfl (by rfl) e.z_list boot_list (pda_cons (pd_var (pv 0)) (pda_nil)))) (pda_nil)))))) (pdss_nil))
    (pdss_cons (pds_set (i := 3) sc_lowered_areas.nd rfl (.inl rfl) (pd_neg (pd_op (opd_div) (pd_fld rfl s_6 e.f_area (pd_ix e.kk (pd_var (pv 0)) (pd_var (pv 1)) (fun _ _ => rfl))) (pd_fld rfl s_4 e.f_x (pd_ix e.kk (pd_var (pv 0)) (pd_var (pv 1)) (fun _ _ => rfl))))))
    (pdss_cons (pds_set (i := 4) sc_lowered_areas.nd rfl (.inl rfl) (pd_int))
    (pdss_cons (pds_if (ptd_cmp (opd_notN) (pd_var (pv 2)) (pd_non) (nomark _)) (pdss_one (pds_set (i := 4) sc_lowered_areas.nd rfl (.inl rfl) (pd_neg (pd_op (opd_div) (pd_op (opd_addA e.kk) (pd_fld rfl s_6 e.f_area (pd_ix e.kk (pd_var (pv 0)) (pd_var (pv 2)) (fun _ _ => rfl))) (pd_op (opd_mulA) (pd_var (pv 3)) (pd_fld rfl s_4 e.f_x (pd_ix e.kk (pd_var (pv 0)) (pd_var (pv 2)) (fun _ _ => rfl))))) (pd_fld rfl s_5 e.f_y (pd_ix e.kk (pd_var (pv 0)) (pd_var (pv 2)) (fun _ _ => rfl))))))) (pdss_nil))
    (pdss_cons (pds_set (i := 5) sc_lowered_areas.nd rfl (.inl rfl) (pd_make e.mk_Renaming e.ct_Renaming (ok_RenamingX_initX e) (hr.mono (by decide)) (by rfl) e.m_Renaming e.b_RenamingX_initX tk (pda_cons (pd_make e.mk_Place e.ct_Place (ok_PlaceX_initX e) (hr.mono (by decide)) (by rfl) e.m_Place e.b_PlaceX_initX tk (pda_cons (pd_int) (pda_cons (pd_int) (pda_cons (pd_var (pv 3)) (pda_nil))))) (pda_cons (pd_make e.mk_Place e.ct_Place (ok_PlaceX_initX e) (hr.mono (by decide)) (by rfl) e.m_Place e.b_PlaceX_initX tk (pda_cons (pd_int) (pda_cons (pd_int) (pda_cons (pd_var (pv 4)) (pda_nil))))) (pda_nil)))))
    (pdss_one (pds_ret (pd_tup (pda_cons (pd_var (pv 5)) (pda_cons (pd_call (ok_renamed_all e) (hr.mono (by decide)) (by rfl) e.m_renamed_all e.F_renamed_all.kp e.b_renamed_all tk (pda_cons (pd_var (pv 5)) (pda_cons (pd_var (pv 0)) (pda_nil)))) (pda_nil)))))))))))
theorem ok_bezout_of (e : Ev P G mg base) : FnOk P w0 G.K mg base (L2.CX P w0) 1 e.a_bezout_of e.fd_bezout_of ["one", "other"] (spG G 2 g_bezout_of) :=
  fn_okD e.F_bezout_of sc_bezout_of rfl rfl fun cdv A outer s H E hr tk ps => pdss_cons (pds_par (i := 2) (j := 3) rfl sc_bezout_of.nd rfl rfl (by decide) rfl rfl (pda_cons (pd_tup (pda_cons (pd_callB cd_abs (by rfl) e.z_abs (by decide +kernel) (pda_cons (pd_var (pv 0)) (pda_nil))) (pda_cons (pd_ifExp (ptd_cmp (opd_ge) (pd_var (pv 0)) (pd_int) (nomark _)) (pd_int) (pd_neg (pd_int))) (pda_cons (pd_int) (pda_nil))))) (pda_cons (pd_tup (pda_cons (pd_callB cd_abs (by rfl) e.z_abs (by decide +kernel) (pda_cons (pd_var (pv 1)) (pda_nil))) (pda_cons (pd_int) (pda_cons (pd_ifExp (ptd_cmp (opd_ge) (pd_var (pv 1)) (pd_int) (nomark _)) (pd_int) (pd_neg (pd_int))) (pda_nil))))) (pda_nil))) (by rfl))
    (pdss_cons (pds_while ps (ptd_cmp (opd_gt) (pd_ix e.kk (pd_var (pv 3)) (pd_int) (fun _ _ => rfl)) (pd_int) (nomark _)) (pdss_cons (pds_set (i := 4) sc_bezout_of.nd rfl (.inl rfl) (pd_op (opd_div) (pd_ix e.kk (pd_var (pv 2)) (pd_int) (fun _ _ => rfl)) (pd_ix e.kk (pd_var (pv 3)) (pd_int) (fun _ _ => rfl))))
    (pdss_one (pds_par (i := 2) (j := 3) rfl sc_bezout_of.nd rfl rfl (by decide) rfl rfl (pda_cons (pd_var (pv 3)) (pda_cons (pd_tup (pda_cons (pd_op (opd_sub) (pd_ix e.kk (pd_var (pv 2)) (pd_int) (fun _ _ => rfl)) (pd_op (opd_mulA) (pd_var (pv 4)) (pd_ix e.kk (pd_var (pv 3)) (pd_int) (fun _ _ => rfl)))) (pda_cons (pd_op (opd_sub) (pd_ix e.kk (pd_var (pv 2)) (pd_int) (fun _ _ => rfl)) (pd_op (opd_mulA) (pd_var (pv 4)) (pd_ix e.kk (pd_var (pv 3)) (pd_int) (fun _ _ => rfl)))) (pda_cons (pd_op (opd_sub) (pd_ix e.kk (pd_var (pv 2)) (pd_int) (fun _ _ => rfl)) (pd_op (opd_mulA) (pd_var (pv 4)) (pd_ix e.kk (pd_var (pv 3)) (pd_int) (fun _ _ => rfl)))) (pda_nil))))) (pda_nil))) (by rfl)))))
    (pdss_one (pds_ret (pd_var (pv 2)))))
theorem ok_turned_east (e : Ev P G mg base) : FnOk P w0 G.K mg base (L2.CX P w0) 13 e.a_turned_east e.fd_turned_east ["places"] (spG G 1 g_turned_east) :=
  fn_okD e.F_turned_east sc_turned_east rfl rfl fun cdv A outer s H E hr tk ps => pdss_cons (pds_set (i := 1) sc_turned_east.nd rfl (.inl rfl) (pd_call (ok_first_at e) (hr.mono (by decide)) (by rfl) e.m_first_at e.F_first_at.kp e.b_first_at tk (pda_cons (pd_var (pv 0)) (pda_cons (pd_str s_4) (pda_nil)))))
    (pdss_cons (pds_if (ptd_cmp (opd_isN) (pd_var (pv 1)) (pd_non) (nomark _)) (pdss_one (pds_ret (pd_tup (pda_cons (pd_call0 (ok_same_names e) (hr.mono (by decide)) (by rfl) e.m_same_names e.F_same_names.kp e.b_same_names tk) (pda_cons (pdo_frz (pdo_list rfl (by rfl) e.z_list boot_list (pda_cons (pd_var (pv 0)) (pda_nil)))) (pda_nil)))))) (pdss_nil))
    (pdss_cons (pds_par (i := 2) (j := 3) rfl sc_turned_east.nd rfl rfl (by decide) rfl rfl (pda_cons (pd_fld rfl s_4 e.f_x (pd_ix e.kk (pd_var (pv 0)) (pd_var (pv 1)) (fun _ _ => rfl))) (pda_cons (pd_fld rfl s_5 e.f_y (pd_ix e.kk (pd_var (pv 0)) (pd_var (pv 1)) (fun _ _ => rfl))) (pda_nil))) (by rfl))
    (pdss_cons (pds_asg (pd_call (ok_bezout_of e) (hr.mono (by decide)) (by rfl) e.m_bezout_of e.F_bezout_of.kp e.b_bezout_of tk (pda_cons (pd_var (pv 2)) (pda_cons (pd_var (pv 3)) (pda_nil)))) (pdg_tup rfl rfl (pdgs_cons (pdg_name (i := 4) sc_turned_east.nd rfl (.inl rfl)) (pdgs_cons (pdg_name (i := 5) sc_turned_east.nd rfl (.inl rfl)) (pdgs_cons (pdg_name (i := 6) sc_turned_east.nd rfl (.inl rfl)) (pdgs_nil))))))
    (pdss_cons (pds_set (i := 7) sc_turned_east.nd rfl (.inl rfl) (pd_make e.mk_Renaming e.ct_Renaming (ok_RenamingX_initX e) (hr.mono (by decide)) (by rfl) e.m_Renaming e.b_RenamingX_initX tk (pda_cons (pd_make e.mk_Place e.ct_Place (ok_PlaceX_initX e) (hr.mono (by decide)) (by rfl) e.m_Place e.b_PlaceX_initX tk (pda_cons (pd_var (pv 5)) (pda_cons (pd_op (opd_div) (pd_neg (pd_var (pv 3))) (pd_var (pv 4))) (pda_cons (pd_int) (pda_nil))))) (pda_cons (pd_make e.mk_Place e.ct_Place (ok_PlaceX_initX e) (hr.mono (by decide)) (by rfl) e.m_Place e.b_PlaceX_initX tk (pda_cons (pd_var (pv 6)) (pda_cons (pd_op (opd_div) (pd_var (pv 2)) (pd_var (pv 4))) (pda_cons (pd_int) (pda_nil))))) (pda_nil)))))
    (pdss_one (pds_ret (pd_tup (pda_cons (pd_var (pv 7)) (pda_cons (pd_call (ok_renamed_all e) (hr.mono (by decide)) (by rfl) e.m_renamed_all e.F_renamed_all.kp e.b_renamed_all tk (pda_cons (pd_var (pv 7)) (pda_cons (pd_var (pv 0)) (pda_nil)))) (pda_nil))))))))))
theorem ok_least_list (e : Ev P G mg base) : FnOk P w0 G.K mg base (L2.CX P w0) 15 e.a_least_list e.fd_least_list ["places"] (spG G 1 g_least_list) :=
  fn_okD e.F_least_list sc_least_list rfl rfl fun cdv A outer s H E hr tk ps => pdss_cons (pds_asg (pd_call (ok_turned_east e) (hr.mono (by decide)) (by rfl) e.m_turned_east e.F_turned_east.kp e.b_turned_east tk (pda_cons (pd_var (pv 0)) (pda_nil))) (pdg_tup rfl rfl (pdgs_cons (pdg_name (i := 1) sc_least_list.nd rfl (.inl rfl)) (pdgs_cons (pdg_name (i := 2) sc_least_list.nd rfl (.inl rfl)) (pdgs_nil)))))
    (pdss_cons (pds_asg (pd_call (ok_leaned_north e) (hr.mono (by decide)) (by rfl) e.m_leaned_north e.F_leaned_north.kp e.b_leaned_north tk (pda_cons (pd_var (pv 2)) (pda_nil))) (pdg_tup rfl rfl (pdgs_cons (pdg_name (i := 3) sc_least_list.nd rfl (.inl rfl)) (pdgs_cons (pdg_name (i := 2) sc_least_list.nd rfl (.inl rfl)) (pdgs_nil)))))
    (pdss_cons (pds_asg (pd_call (ok_lowered_areas e) (hr.mono (by decide)) (by rfl) e.m_lowered_areas e.F_lowered_areas.kp e.b_lowered_areas tk (pda_cons (pd_var (pv 2)) (pda_nil))) (pdg_tup rfl rfl (pdgs_cons (pdg_name (i := 4) sc_least_list.nd rfl (.inl rfl)) (pdgs_cons (pdg_name (i := 5) sc_least_list.nd rfl (.inl rfl)) (pdgs_nil)))))
    (pdss_cons (pds_set (i := 6) sc_least_list.nd rfl (.inl rfl) (pd_opX (opx_own (op := .Mult) (by decide +kernel) e.ct_Renaming e.M_RenamingX_mulX.at_ e.M_RenamingX_mulX.fn e.sf_Renaming (ok_RenamingX_mulX e) (hr.mono (by decide)) e.b_RenamingX_mulX tk) (pd_opX (opx_own (op := .Mult) (by decide +kernel) e.ct_Renaming e.M_RenamingX_mulX.at_ e.M_RenamingX_mulX.fn e.sf_Renaming (ok_RenamingX_mulX e) (hr.mono (by decide)) e.b_RenamingX_mulX tk) (pd_var (pv 4)) (pd_var (pv 3))) (pd_var (pv 1))))
    (pdss_cons (pds_if (ptd_cmp (opd_isN) (pd_call (ok_first_at e) (hr.mono (by decide)) (by rfl) e.m_first_at e.F_first_at.kp e.b_first_at tk (pda_cons (pd_var (pv 2)) (pda_cons (pd_str s_5) (pda_nil)))) (pd_non) (nomark _)) (pdss_cons (pds_set (i := 7) sc_least_list.nd rfl (.inl rfl) (pd_make e.mk_Renaming e.ct_Renaming (ok_RenamingX_initX e) (hr.mono (by decide)) (by rfl) e.m_Renaming e.b_RenamingX_initX tk (pda_cons (pd_make e.mk_Place e.ct_Place (ok_PlaceX_initX e) (hr.mono (by decide)) (by rfl) e.m_Place e.b_PlaceX_initX tk (pda_cons (pd_int) (pda_cons (pd_int) (pda_cons (pd_int) (pda_nil))))) (pda_cons (pd_make e.mk_Place e.ct_Place (ok_PlaceX_initX e) (hr.mono (by decide)) (by rfl) e.m_Place e.b_PlaceX_initX tk (pda_cons (pd_int) (pda_cons (pd_neg (pd_int)) (pda_cons (pd_int) (pda_nil))))) (pda_nil)))))
    (pdss_cons (pds_asg (pd_call (ok_lowered_areas e) (hr.mono (by decide)) (by rfl) e.m_lowered_areas e.F_lowered_areas.kp e.b_lowered_areas tk (pda_cons (pd_call (ok_renamed_all e) (hr.mono (by decide)) (by rfl) e.m_renamed_all e.F_renamed_all.kp e.b_renamed_all tk (pda_cons (pd_var (pv 7)) (pda_cons (pd_var (pv 2)) (pda_nil)))) (pda_nil))) (pdg_tup rfl rfl (pdgs_cons (pdg_name (i := 4) sc_least_list.nd rfl (.inl rfl)) (pdgs_cons (pdg_name (i := 8) sc_least_list.nd rfl (.inl rfl)) (pdgs_nil)))))
    (pdss_one (pds_if (ptd_cmp (opd_ltD e.kk hr.units) (pd_call (ok_figures_of e) (hr.mono (by decide)) (by rfl) e.m_figures_of e.F_figures_of.kp e.b_figures_of tk (pda_cons (pd_var (pv 8)) (pda_nil))) (pd_call (ok_figures_of e) (hr.mono (by decide)) (by rfl) e.m_figures_of e.F_figures_of.kp e.b_figures_of tk (pda_cons (pd_var (pv 5)) (pda_nil))) (nomark _)) (pdss_one (pds_ret (pd_tup (pda_cons (pd_opX (opx_own (op := .Mult) (by decide +kernel) e.ct_Renaming e.M_RenamingX_mulX.at_ e.M_RenamingX_mulX.fn e.sf_Renaming (ok_RenamingX_mulX e) (hr.mono (by decide)) e.b_RenamingX_mulX tk) (pd_opX (opx_own (op := .Mult) (by decide +kernel) e.ct_Renaming e.M_RenamingX_mulX.at_ e.M_RenamingX_mulX.fn e.sf_Renaming (ok_RenamingX_mulX e) (hr.mono (by decide)) e.b_RenamingX_mulX tk) (pd_opX (opx_own (op := .Mult) (by decide +kernel) e.ct_Renaming e.M_RenamingX_mulX.at_ e.M_RenamingX_mulX.fn e.sf_Renaming (ok_RenamingX_mulX e) (hr.mono (by decide)) e.b_RenamingX_mulX tk) (pd_var (pv 4)) (pd_var (pv 7))) (pd_var (pv 3))) (pd_var (pv 1))) (pda_cons (pd_var (pv 8)) (pda_nil)))))) (pdss_nil))))) (pdss_nil))
    (pdss_one (pds_ret (pd_tup (pda_cons (pd_var (pv 6)) (pda_cons (pd_var (pv 5)) (pda_nil))))))))))
theorem ok_need_places (e : Ev P G mg base) : FnOk P w0 G.K mg base (L2.CX P w0) 5 e.a_need_places e.fd_need_places ["values"] (spG G 1 g_need_places) :=
  fn_okD e.F_need_places sc_need_places rfl rfl fun cdv A outer s H E hr tk ps => pdss_one (pds_for ps rfl (pdi_seq rfl (pd_var (pv 0))) (pdg_name (i := 1) sc_need_places.nd rfl (.inl rfl)) (pdss_one (pds_expr (pd_call (ok_need_place e) (hr.mono (by decide)) (by rfl) e.m_need_place e.F_need_place.kp e.b_need_place tk (pda_cons (pd_var (pv 1)) (pda_nil))))))
theorem ok_alike (e : Ev P G mg base) : FnOk P w0 G.K mg base (L2.CX P w0) 17 e.a_alike e.fd_alike ["places", "others"] (spG G 2 g_alike) :=
  fn_okD e.F_alike sc_alike rfl rfl fun cdv A outer s H E hr tk ps => pdss_cons (pds_expr (pd_call (ok_need_places e) (hr.mono (by decide)) (by rfl) e.m_need_places e.F_need_places.kp e.b_need_places tk (pda_cons (pd_var (pv 0)) (pda_nil))))
    (pdss_cons (pds_expr (pd_call (ok_need_places e) (hr.mono (by decide)) (by rfl) e.m_need_places e.F_need_places.kp e.b_need_places tk (pda_cons (pd_var (pv 1)) (pda_nil))))
    (pdss_cons (pds_if (ptd_cmp (opd_ne e.kk hr.units) (pd_callB (cd_len rfl) (by rfl) e.z_len (by decide +kernel) (pda_cons (pd_var (pv 0)) (pda_nil))) (pd_callB (cd_len rfl) (by rfl) e.z_len (by decide +kernel) (pda_cons (pd_var (pv 1)) (pda_nil))) (nomark _)) (pdss_one (pds_never)) (pdss_nil))
    (pdss_cons (pds_asg (pd_call (ok_least_list e) (hr.mono (by decide)) (by rfl) e.m_least_list e.F_least_list.kp e.b_least_list tk (pda_cons (pd_var (pv 0)) (pda_nil))) (pdg_tup rfl rfl (pdgs_cons (pdg_name (i := 2) sc_alike.nd rfl (.inl rfl)) (pdgs_cons (pdg_name (i := 3) sc_alike.nd rfl (.inl rfl)) (pdgs_nil)))))
    (pdss_cons (pds_asg (pd_call (ok_least_list e) (hr.mono (by decide)) (by rfl) e.m_least_list e.F_least_list.kp e.b_least_list tk (pda_cons (pd_var (pv 1)) (pda_nil))) (pdg_tup rfl rfl (pdgs_cons (pdg_name (i := 4) sc_alike.nd rfl (.inl rfl)) (pdgs_cons (pdg_name (i := 5) sc_alike.nd rfl (.inl rfl)) (pdgs_nil)))))
    (pdss_one (pds_ret (pd_ifExp (ptd_cmpX (opx_deep (k := 1) rfl (ownInt_ok takes0 (fun c ns h => by obtain ⟨rfl, rfl⟩ := lookup_one h; exact ⟨e.C_Place, _, _, _, g_PlaceX_eqX, e.ct_Place, e.M_PlaceX_eqX.at_, e.M_PlaceX_eqX.fn, ok_PlaceX_eqX e, e.b_PlaceX_eqX, own_eq_Place⟩)) (hr.mono (by decide))) (pd_var (pv 3)) (pd_var (pv 5)) (nomark _)) (pd_opX (opx_own (op := .Mult) (by decide +kernel) e.ct_Renaming e.M_RenamingX_mulX.at_ e.M_RenamingX_mulX.fn e.sf_Renaming (ok_RenamingX_mulX e) (hr.mono (by decide)) e.b_RenamingX_mulX tk) (pd_inv e.ct_Renaming e.M_RenamingX_invertX.at_ e.M_RenamingX_invertX.fn (ok_RenamingX_invertX e) (hr.mono (by decide)) e.b_RenamingX_invertX tk (pd_var (pv 4))) (pd_var (pv 2))) (pd_non))))))))
theorem ok_orders_of (e : Ev P G mg base) : FnOk P w0 G.K mg base (L2.CX P w0) 1 e.a_orders_of e.fd_orders_of ["number"] (spG G 1 g_orders_of) :=
  fn_okD e.F_orders_of sc_orders_of rfl rfl fun cdv A outer s H E hr tk ps => pdss_cons (pds_set (i := 1) sc_orders_of.nd rfl (.inl rfl) (pdo_frz (pdo_lst (pda_cons (pdo_frz (pdo_lst (pda_nil))) (pda_nil)))))
    (pdss_cons (pds_for ps rfl (pdi_range1 (by rfl) e.z_range (pda_cons (pd_var (pv 0)) (pda_nil))) (pdg_name (i := 2) sc_orders_of.nd rfl (.inl rfl)) (pdss_one (pds_setLc2 (i := 1) (own := [("order", 3), ("at", 4)]) (vs1 := [4]) rfl sc_orders_of.nd rfl rfl (sw_true rfl rfl rfl (by decide +kernel)) (pdi_seq rfl (pd_var (pv 1))) (by exact blkOk_by (N := ["number", "found", "step", "order", "at"]) (sc := defScope st_orders_of) (own := [("order", 3), ("at", 4)]) (by decide +kernel)) (by decide) (by decide) (by decide) (fun _ _ _ _ _ => pdg_name (i := 3) sc_orders_of.nd rfl (.inl rfl)) (fun _ _ _ _ _ => ptds_nil) (fun _ _ _ _ _ => pdi_range1 (by rfl) e.z_range (pda_cons (pd_var (pv 0)) (pda_nil))) (fun _ _ _ _ _ => pdg_name (i := 4) sc_orders_of.nd rfl (.inl rfl)) (fun _ _ _ _ _ => ptds_one (ptd_cmp (opd_notIn e.kk (room65 hr)) (pd_var (pv 4)) (pd_var (pv 3)) (by rfl))) (fun _ _ _ _ _ => pd_op (opd_addA e.kk) (pd_var (pv 3)) (pdo_frz (pdo_lst (pda_cons (pd_var (pv 4)) (pda_nil))))))))
    (pdss_one (pds_ret (pd_var (pv 1)))))
theorem ok_alike_lots (e : Ev P G mg base) : FnOk P w0 G.K mg base (L2.CX P w0) 19 e.a_alike_lots e.fd_alike_lots ["places", "others"] (spG G 2 g_alike_lots) :=
  fn_okD e.F_alike_lots sc_alike_lots rfl rfl fun cdv A outer s H E hr tk ps => pdss_cons (pds_expr (pd_call (ok_need_places e) (hr.mono (by decide)) (by rfl) e.m_need_places e.F_need_places.kp e.b_need_places tk (pda_cons (pd_var (pv 0)) (pda_nil))))
    (pdss_cons (pds_expr (pd_call (ok_need_places e) (hr.mono (by decide)) (by rfl) e.m_need_places e.F_need_places.kp e.b_need_places tk (pda_cons (pd_var (pv 1)) (pda_nil))))
    (pdss_cons (pds_if (ptd_cmp (opd_ne e.kk hr.units) (pd_callB (cd_len rfl) (by rfl) e.z_len (by decide +kernel) (pda_cons (pd_var (pv 0)) (pda_nil))) (pd_callB (cd_len rfl) (by rfl) e.z_len (by decide +kernel) (pda_cons (pd_var (pv 1)) (pda_nil))) (nomark _)) (pdss_one (pds_never)) (pdss_nil))
    (pdss_cons (pds_for ps rfl (pdi_seq rfl (pd_call (ok_orders_of e) (hr.mono (by decide)) (by rfl) e.m_orders_of e.F_orders_of.kp e.b_orders_of tk (pda_cons (pd_callB (cd_len rfl) (by rfl) e.z_len (by decide +kernel) (pda_cons (pd_var (pv 1)) (pda_nil))) (pda_nil)))) (pdg_name (i := 2) sc_alike_lots.nd rfl (.inl rfl)) (pdss_cons (pds_set (i := 3) sc_alike_lots.nd rfl (.inl rfl) (pd_call (ok_alike e) (hr.mono (by decide)) (by rfl) e.m_alike e.F_alike.kp e.b_alike tk (pda_cons (pd_var (pv 0)) (pda_cons (pdo_frz (pdo_lc (own := [("at", 4)]) rfl sc_alike_lots.nd (pdi_seq rfl (pd_var (pv 2))) (by exact blkOk_by (N := ["places", "others", "order", "renaming", "at"]) (sc := defScope st_alike_lots) (own := [("at", 4)]) (by decide +kernel)) (by decide) (fun _ _ _ _ _ => pdg_name (i := 4) sc_alike_lots.nd rfl (.inl rfl)) (fun _ _ _ _ _ => ptds_nil) (fun _ _ _ _ _ => pd_ix e.kk (pd_var (pv 1)) (pd_var (pv 4)) (fun _ _ => rfl)))) (pda_nil)))))
    (pdss_one (pds_if (ptd_cmp (opd_notN) (pd_var (pv 3)) (pd_non) (nomark _)) (pdss_one (pds_ret (pd_tup (pda_cons (pd_var (pv 3)) (pda_cons (pd_var (pv 2)) (pda_nil)))))) (pdss_nil)))))
    (pdss_one (pds_ret (pd_non))))))
theorem ok_list_key (e : Ev P G mg base) : FnOk P w0 G.K mg base (L2.CX P w0) 17 e.a_list_key e.fd_list_key ["places"] (spG G 1 g_list_key) :=
  fn_okD e.F_list_key sc_list_key rfl rfl fun cdv A outer s H E hr tk ps => pdss_cons (pds_expr (pd_call (ok_need_places e) (hr.mono (by decide)) (by rfl) e.m_need_places e.F_need_places.kp e.b_need_places tk (pda_cons (pd_var (pv 0)) (pda_nil))))
    (pdss_one (pds_ret (pd_call (ok_figures_of e) (hr.mono (by decide)) (by rfl) e.m_figures_of e.F_figures_of.kp e.b_figures_of tk (pda_cons (pd_ix e.kk (pd_call (ok_least_list e) (hr.mono (by decide)) (by rfl) e.m_least_list e.F_least_list.kp e.b_least_list tk (pda_cons (pd_var (pv 0)) (pda_nil))) (pd_int) (fun _ _ => rfl)) (pda_nil)))))
theorem ok_lot_key (e : Ev P G mg base) : FnOk P w0 G.K mg base (L2.CX P w0) 19 e.a_lot_key e.fd_lot_key ["places"] (spG G 1 g_lot_key) :=
  fn_okD e.F_lot_key sc_lot_key rfl rfl fun cdv A outer s H E hr tk ps => pdss_cons (pds_expr (pd_call (ok_need_places e) (hr.mono (by decide)) (by rfl) e.m_need_places e.F_need_places.kp e.b_need_places tk (pda_cons (pd_var (pv 0)) (pda_nil))))
    (pdss_cons (pds_set (i := 1) sc_lot_key.nd rfl (.inl rfl) (pd_non))
    (pdss_cons (pds_for ps rfl (pdi_seq rfl (pd_call (ok_orders_of e) (hr.mono (by decide)) (by rfl) e.m_orders_of e.F_orders_of.kp e.b_orders_of tk (pda_cons (pd_callB (cd_len rfl) (by rfl) e.z_len (by decide +kernel) (pda_cons (pd_var (pv 0)) (pda_nil))) (pda_nil)))) (pdg_name (i := 2) sc_lot_key.nd rfl (.inl rfl)) (pdss_cons (pds_set (i := 3) sc_lot_key.nd rfl (.inl rfl) (pd_call (ok_list_key e) (hr.mono (by decide)) (by rfl) e.m_list_key e.F_list_key.kp e.b_list_key tk (pda_cons (pdo_frz (pdo_lc (own := [("at", 4)]) rfl sc_lot_key.nd (pdi_seq rfl (pd_var (pv 2))) (by exact blkOk_by (N := ["places", "best", "order", "key", "at"]) (sc := defScope st_lot_key) (own := [("at", 4)]) (by decide +kernel)) (by decide) (fun _ _ _ _ _ => pdg_name (i := 4) sc_lot_key.nd rfl (.inl rfl)) (fun _ _ _ _ _ => ptds_nil) (fun _ _ _ _ _ => pd_ix e.kk (pd_var (pv 0)) (pd_var (pv 4)) (fun _ _ => rfl)))) (pda_nil))))
    (pdss_one (pds_if ((pwd_or (ptd_cmp (opd_isN) (pd_var (pv 1)) (pd_non) (nomark _)) (pwd_or1 (ptd_cmp (opd_ltD e.kk hr.units) (pd_var (pv 3)) (pd_var (pv 1)) (nomark _)))).pt) (pdss_one (pds_set (i := 1) sc_lot_key.nd rfl (.inl rfl) (pd_var (pv 3)))) (pdss_nil)))))
    (pdss_one (pds_ret (pd_var (pv 1))))))
theorem ok_law (e : Ev P G mg base) : FnOk P w0 G.K mg base (L2.CX P w0) 21 e.a_law e.fd_law ["_law_script"] (spG G 1 g_law) :=
  fn_okD e.F_law sc_law rfl rfl fun cdv A outer s H E hr tk ps => pdss_cons (pds_set (i := 1) sc_law.nd rfl (.inl rfl) (pd_call (ok__law_begin e) (hr.mono (by decide)) (by rfl) e.m__law_begin e.F__law_begin.kp e.b__law_begin tk (pda_cons (pd_var (pv 0)) (pda_nil))))
    (pdss_cons (pds_for ps rfl (pdi_range1 (by rfl) e.z_range (pda_cons (pd_int) (pda_nil))) (pdg_name (i := 2) sc_law.nd rfl (.inl rfl)) (pdss_cons (pds_set (i := 3) sc_law.nd rfl (.inl rfl) (pd_call (ok__law_pick e) (hr.mono (by decide)) (by rfl) e.m__law_pick e.F__law_pick.kp e.b__law_pick tk (pda_cons (pd_var (pv 1)) (pda_cons (pdo_frz (pdo_lst (pda_cons (pd_int) (pda_cons (pd_int) (pda_cons (pd_int) (pda_cons (pd_int) (pda_cons (pd_int) (pda_cons (pd_int) (pda_cons (pd_op (opd_pow) (pd_int) (pd_int)) (pda_nil)))))))))) (pda_nil)))))
    (pdss_cons (pds_set (i := 4) sc_law.nd rfl (.inl rfl) (pd_call (ok__law_mid_drawn e) (hr.mono (by decide)) (by rfl) e.m__law_mid_drawn e.F__law_mid_drawn.kp e.b__law_mid_drawn tk (pda_cons (pd_var (pv 1)) (pda_nil))))
    (pdss_cons (pds_set (i := 4) sc_law.nd rfl (.inl rfl) (pd_tup (pda_cons (pd_op (opd_mulA) (pd_var (pv 3)) (pd_ix e.kk (pd_var (pv 4)) (pd_int) (fun _ _ => rfl))) (pda_cons (pd_op (opd_mulA) (pd_var (pv 3)) (pd_ix e.kk (pd_var (pv 4)) (pd_int) (fun _ _ => rfl))) (pda_cons (pd_ix e.kk (pd_var (pv 4)) (pd_int) (fun _ _ => rfl)) (pda_nil))))))
    (pdss_cons (pds_set (i := 5) sc_law.nd rfl (.inl rfl) (pd_call (ok__law_renamed e) (hr.mono (by decide)) (by rfl) e.m__law_renamed e.F__law_renamed.kp e.b__law_renamed tk (pda_cons (pd_call (ok__law_onto e) (hr.mono (by decide)) (by rfl) e.m__law_onto e.F__law_onto.kp e.b__law_onto tk (pda_cons (pd_var (pv 1)) (pda_nil))) (pda_cons (pd_var (pv 4)) (pda_nil)))))
    (pdss_cons (pds_set (i := 6) sc_law.nd rfl (.inl rfl) (pd_call (ok__law_draw e) (hr.mono (by decide)) (by rfl) e.m__law_draw e.F__law_draw.kp e.b__law_draw tk (pda_cons (pd_var (pv 1)) (pda_cons (pd_int) (pda_nil)))))
    (pdss_cons (pds_if (ptd_cmp (opd_eq e.kk hr.units) (pd_var (pv 6)) (pd_int) (nomark _)) (pdss_one (pds_set (i := 5) sc_law.nd rfl (.inl rfl) (pd_tup (pda_cons (pd_ix e.kk (pd_var (pv 5)) (pd_int) (fun _ _ => rfl)) (pda_cons (pd_ix e.kk (pd_var (pv 5)) (pd_int) (fun _ _ => rfl)) (pda_cons (pd_op (opd_addA e.kk) (pd_ix e.kk (pd_var (pv 5)) (pd_int) (fun _ _ => rfl)) (pd_call (ok__law_pick e) (hr.mono (by decide)) (by rfl) e.m__law_pick e.F__law_pick.kp e.b__law_pick tk (pda_cons (pd_var (pv 1)) (pda_cons (pdo_frz (pdo_lst (pda_cons (pd_int) (pda_cons (pd_neg (pd_int)) (pda_cons (pd_op (opd_div) (pd_var (pv 3)) (pd_int)) (pda_nil)))))) (pda_nil))))) (pda_nil))))))) (pdss_nil))
    (pdss_cons (pds_if (ptd_cmp (opd_eq e.kk hr.units) (pd_var (pv 6)) (pd_int) (nomark _)) (pdss_one (pds_set (i := 5) sc_law.nd rfl (.inl rfl) (pd_tup (pda_cons (pd_ix e.kk (pd_var (pv 5)) (pd_int) (fun _ _ => rfl)) (pda_cons (pd_ix e.kk (pd_var (pv 5)) (pd_int) (fun _ _ => rfl)) (pda_cons (pd_neg (pd_ix e.kk (pd_var (pv 5)) (pd_int) (fun _ _ => rfl))) (pda_nil))))))) (pdss_nil))
    (pdss_cons (pds_if (ptd_cmp (opd_eq e.kk hr.units) (pd_var (pv 6)) (pd_int) (nomark _)) (pdss_one (pds_set (i := 5) sc_law.nd rfl (.inl rfl) (pd_tup (pda_cons (pd_call (ok__law_gcd e) (hr.mono (by decide)) (by rfl) e.m__law_gcd e.F__law_gcd.kp e.b__law_gcd tk (pda_cons (pd_ix e.kk (pd_var (pv 4)) (pd_int) (fun _ _ => rfl)) (pda_cons (pd_ix e.kk (pd_var (pv 4)) (pd_int) (fun _ _ => rfl)) (pda_nil)))) (pda_cons (pd_int) (pda_cons (pd_call (ok__law_pick e) (hr.mono (by decide)) (by rfl) e.m__law_pick e.F__law_pick.kp e.b__law_pick tk (pda_cons (pd_var (pv 1)) (pda_cons (pdo_frz (pdo_lst (pda_cons (pd_ix e.kk (pd_var (pv 4)) (pd_int) (fun _ _ => rfl)) (pda_cons (pd_ix e.kk (pd_call (ok__law_straight e) (hr.mono (by decide)) (by rfl) e.m__law_straight e.F__law_straight.kp e.b__law_straight tk (pda_cons (pd_var (pv 4)) (pda_nil))) (pd_int) (fun _ _ => rfl)) (pda_nil))))) (pda_nil)))) (pda_nil))))))) (pdss_nil))
    (pdss_cons (pds_if (ptd_cmp (opd_eq e.kk hr.units) (pd_var (pv 6)) (pd_int) (nomark _)) (pdss_one (pds_set (i := 5) sc_law.nd rfl (.inl rfl) (pd_call (ok__law_pick e) (hr.mono (by decide)) (by rfl) e.m__law_pick e.F__law_pick.kp e.b__law_pick tk (pda_cons (pd_var (pv 1)) (pda_cons (pdo_frz (pdo_lst (pda_cons (pd_call (ok__law_mid_drawn e) (hr.mono (by decide)) (by rfl) e.m__law_mid_drawn e.F__law_mid_drawn.kp e.b__law_mid_drawn tk (pda_cons (pd_var (pv 1)) (pda_nil))) (pda_cons (pd_var (pv 4)) (pda_nil))))) (pda_nil)))))) (pdss_nil))
    (pdss_cons (pds_par3 (i := 7) (j := 8) (l := 9) rfl sc_law.nd rfl rfl rfl (by decide) (by decide) (by decide) rfl rfl rfl (pda_cons (pd_call (ok__law_place e) (hr.mono (by decide)) (by rfl) e.m__law_place e.F__law_place.kp e.b__law_place tk (pda_cons (pd_var (pv 4)) (pda_nil))) (pda_cons (pd_call (ok__law_place e) (hr.mono (by decide)) (by rfl) e.m__law_place e.F__law_place.kp e.b__law_place tk (pda_cons (pd_var (pv 5)) (pda_nil))) (pda_cons (pd_call (ok__law_due e) (hr.mono (by decide)) (by rfl) e.m__law_due e.F__law_due.kp e.b__law_due tk (pda_cons (pd_var (pv 4)) (pda_cons (pd_var (pv 5)) (pda_nil)))) (pda_nil)))) (by rfl))
    (pdss_cons (pds_set (i := 10) sc_law.nd rfl (.inl rfl) (pd_call (ok_alike e) (hr.mono (by decide)) (by rfl) e.m_alike e.F_alike.kp e.b_alike tk (pda_cons (pdo_frz (pdo_lst (pda_cons (pd_var (pv 7)) (pda_nil)))) (pda_cons (pd_tup (pda_cons (pd_var (pv 8)) (pda_nil))) (pda_nil)))))
    (pdss_cons (pds_if ((pwd_or (ptd_cmp (opd_ne e.kk hr.units) (pd_cmp (opd_notN) (pd_var (pv 10)) (pd_non) (nomark _)) (pd_var (pv 9)) (nomark _)) (pwd_or1 (ptd_cmp (opd_ne e.kk hr.units) (pd_cmp (opd_eq e.kk hr.units) (pd_call (ok_list_key e) (hr.mono (by decide)) (by rfl) e.m_list_key e.F_list_key.kp e.b_list_key tk (pda_cons (pdo_frz (pdo_lst (pda_cons (pd_var (pv 7)) (pda_nil)))) (pda_nil))) (pd_call (ok_list_key e) (hr.mono (by decide)) (by rfl) e.m_list_key e.F_list_key.kp e.b_list_key tk (pda_cons (pd_tup (pda_cons (pd_var (pv 8)) (pda_nil))) (pda_nil))) (nomark _)) (pd_var (pv 9)) (nomark _)))).pt) (pdss_one (pds_ret (pd_bl))) (pdss_nil))
    (pdss_cons (pds_if ((pwd_or (ptd_cmp (opd_ne e.kk hr.units) (pd_cmp (opd_notN) (pd_call (ok_alike_lots e) (hr.mono (by decide)) (by rfl) e.m_alike_lots e.F_alike_lots.kp e.b_alike_lots tk (pda_cons (pdo_frz (pdo_lst (pda_cons (pd_var (pv 7)) (pda_nil)))) (pda_cons (pdo_frz (pdo_lst (pda_cons (pd_var (pv 8)) (pda_nil)))) (pda_nil)))) (pd_non) (nomark _)) (pd_var (pv 9)) (nomark _)) (pwd_or1 (ptd_cmp (opd_ne e.kk hr.units) (pd_cmp (opd_eq e.kk hr.units) (pd_call (ok_lot_key e) (hr.mono (by decide)) (by rfl) e.m_lot_key e.F_lot_key.kp e.b_lot_key tk (pda_cons (pdo_frz (pdo_lst (pda_cons (pd_var (pv 7)) (pda_nil)))) (pda_nil))) (pd_call (ok_lot_key e) (hr.mono (by decide)) (by rfl) e.m_lot_key e.F_lot_key.kp e.b_lot_key tk (pda_cons (pdo_frz (pdo_lst (pda_cons (pd_var (pv 8)) (pda_nil)))) (pda_nil))) (nomark _)) (pd_var (pv 9)) (nomark _)))).pt) (pdss_one (pds_ret (pd_bl))) (pdss_nil))
    (pdss_cons (pds_if (ptd_truth e.kk (pd_var (pv 9))) (pdss_cons (pds_set (i := 11) sc_law.nd rfl (.inl rfl) (pd_call (ok__law_six e) (hr.mono (by decide)) (by rfl) e.m__law_six e.F__law_six.kp e.b__law_six tk (pda_cons (pd_var (pv 10)) (pda_nil))))
    (pdss_one (pds_if ((pwd_or (ptd_cmp (opd_isN) (pd_var (pv 11)) (pd_non) (nomark _)) (pwd_or (ptd_cmp (opd_notIn e.kk (room65 hr)) (pd_call (ok__law_twist e) (hr.mono (by decide)) (by rfl) e.m__law_twist e.F__law_twist.kp e.b__law_twist tk (pda_cons (pd_ix e.kk (pd_var (pv 11)) (pd_int) (fun _ _ => rfl)) (pda_cons (pd_ix e.kk (pd_var (pv 11)) (pd_int) (fun _ _ => rfl)) (pda_nil)))) (pd_tup (pda_cons (pd_int) (pda_cons (pd_neg (pd_int)) (pda_nil)))) (by rfl)) (pwd_or1 (ptd_cmp (opd_ne e.kk hr.units) (pd_call (ok__law_renamed e) (hr.mono (by decide)) (by rfl) e.m__law_renamed e.F__law_renamed.kp e.b__law_renamed tk (pda_cons (pd_var (pv 11)) (pda_cons (pd_var (pv 4)) (pda_nil)))) (pd_var (pv 5)) (nomark _))))).pt) (pdss_one (pds_ret (pd_bl))) (pdss_nil)))) (pdss_nil))
    (pdss_one (pds_if ((pwd_or (ptd_not (ptd_truth e.kk (pd_callB (cd_isi rfl e.iso) (by rfl) e.z_isinstance (by decide +kernel) (pda_cons (pd_call (ok_list_key e) (hr.mono (by decide)) (by rfl) e.m_list_key e.F_list_key.kp e.b_list_key tk (pda_cons (pdo_frz (pdo_lst (pda_cons (pd_var (pv 7)) (pda_nil)))) (pda_nil))) (pda_cons (pd_bltn (by rfl) e.z_tuple boot_tuple) (pda_nil)))))) (pwd_or1 (ptd_not (ptd_truth e.kk (pd_callB (cd_isi rfl e.iso) (by rfl) e.z_isinstance (by decide +kernel) (pda_cons (pd_call (ok_lot_key e) (hr.mono (by decide)) (by rfl) e.m_lot_key e.F_lot_key.kp e.b_lot_key tk (pda_cons (pdo_frz (pdo_lst (pda_cons (pd_var (pv 7)) (pda_nil)))) (pda_nil))) (pda_cons (pd_bltn (by rfl) e.z_tuple boot_tuple) (pda_nil)))))))).pt) (pdss_one (pds_ret (pd_bl))) (pdss_nil))))))))))))))))))
    (pdss_one (pds_ret (pd_bl))))
end
theorem all_mk {l : PySem.W.OpenLaw} {w : World} {q : Program} {K : PySem.W.Frag} {h : Heap} {mg : Str → Option Value} {fa : Addr} {C_Place : Addr} {C_Renaming : Addr} {C_BadNumber : Addr} {fI_BadNumber NS_BadNumber cda_BadNumber cc_BadNumber : Addr} {xnm_BadNumber xq_BadNumber xfile_BadNumber : Str} {xbs_BadNumber xbm_BadNumber xsub_BadNumber : List Value} {xsn_BadNumber : List Str} {xab_BadNumber : Bool} {xcol_BadNumber : Option Bool} {xdd_BadNumber : Option Addr} {xk0_BadNumber xk1_BadNumber xk2_BadNumber xk3_BadNumber xk5_BadNumber : Option Value} {xoc_BadNumber xkV_BadNumber xdoc_BadNumber xpm_BadNumber xct_BadNumber xccl_BadNumber xcl_BadNumber : Value} {xod_BadNumber xan_BadNumber xcdd_BadNumber xcld_BadNumber : Option Addr} {xosl_BadNumber xccs_BadNumber xcsl_BadNumber : Array (Option Value)} {xvs_BadNumber : Array Value} {xtf_BadNumber : Tok} {C_BadPlace : Addr} {fI_BadPlace NS_BadPlace cda_BadPlace cc_BadPlace : Addr} {xnm_BadPlace xq_BadPlace xfile_BadPlace : Str} {xbs_BadPlace xbm_BadPlace xsub_BadPlace : List Value} {xsn_BadPlace : List Str} {xab_BadPlace : Bool} {xcol_BadPlace : Option Bool} {xdd_BadPlace : Option Addr} {xk0_BadPlace xk1_BadPlace xk2_BadPlace xk3_BadPlace xk5_BadPlace : Option Value} {xoc_BadPlace xkV_BadPlace xdoc_BadPlace xpm_BadPlace xct_BadPlace xccl_BadPlace xcl_BadPlace : Value} {xod_BadPlace xan_BadPlace xcdd_BadPlace xcld_BadPlace : Option Addr} {xosl_BadPlace xccs_BadPlace xcsl_BadPlace : Array (Option Value)} {xvs_BadPlace : Array Value} {xtf_BadPlace : Tok} {C_NotOnto : Addr} {fI_NotOnto NS_NotOnto cda_NotOnto cc_NotOnto : Addr} {xnm_NotOnto xq_NotOnto xfile_NotOnto : Str} {xbs_NotOnto xbm_NotOnto xsub_NotOnto : List Value} {xsn_NotOnto : List Str} {xab_NotOnto : Bool} {xcol_NotOnto : Option Bool} {xdd_NotOnto : Option Addr} {xk0_NotOnto xk1_NotOnto xk2_NotOnto xk3_NotOnto xk5_NotOnto : Option Value} {xoc_NotOnto xkV_NotOnto xdoc_NotOnto xpm_NotOnto xct_NotOnto xccl_NotOnto xcl_NotOnto : Value} {xod_NotOnto xan_NotOnto xcdd_NotOnto xcld_NotOnto : Option Addr} {xosl_NotOnto xccs_NotOnto xcsl_NotOnto : Array (Option Value)} {xvs_NotOnto : Array Value} {xtf_NotOnto : Tok} {C_Uneven : Addr} {a__law_begin : Addr} {od__law_begin an__law_begin : Option Addr} {sl__law_begin : Array (Option Value)} {oc__law_begin kV__law_begin dc__law_begin pm__law_begin cd__law_begin ct__law_begin : Value} {a__law_draw : Addr} {od__law_draw an__law_draw : Option Addr} {sl__law_draw : Array (Option Value)} {oc__law_draw kV__law_draw dc__law_draw pm__law_draw cd__law_draw ct__law_draw : Value} {a__law_gcd : Addr} {od__law_gcd an__law_gcd : Option Addr} {sl__law_gcd : Array (Option Value)} {oc__law_gcd kV__law_gcd dc__law_gcd pm__law_gcd cd__law_gcd ct__law_gcd : Value} {a__law_made : Addr} {od__law_made an__law_made : Option Addr} {sl__law_made : Array (Option Value)} {oc__law_made kV__law_made dc__law_made pm__law_made cd__law_made ct__law_made : Value} {a__law_join : Addr} {od__law_join an__law_join : Option Addr} {sl__law_join : Array (Option Value)} {oc__law_join kV__law_join dc__law_join pm__law_join cd__law_join ct__law_join : Value} {a__law_times : Addr} {od__law_times an__law_times : Option Addr} {sl__law_times : Array (Option Value)} {oc__law_times kV__law_times dc__law_times pm__law_times cd__law_times ct__law_times : Value} {a__law_twist : Addr} {od__law_twist an__law_twist : Option Addr} {sl__law_twist : Array (Option Value)} {oc__law_twist kV__law_twist dc__law_twist pm__law_twist cd__law_twist ct__law_twist : Value} {a__law_renamed : Addr} {od__law_renamed an__law_renamed : Option Addr} {sl__law_renamed : Array (Option Value)} {oc__law_renamed kV__law_renamed dc__law_renamed pm__law_renamed cd__law_renamed ct__law_renamed : Value} {a__law_straight : Addr} {od__law_straight an__law_straight : Option Addr} {sl__law_straight : Array (Option Value)} {oc__law_straight kV__law_straight dc__law_straight pm__law_straight cd__law_straight ct__law_straight : Value} {a__law_due : Addr} {od__law_due an__law_due : Option Addr} {sl__law_due : Array (Option Value)} {oc__law_due kV__law_due dc__law_due pm__law_due cd__law_due ct__law_due : Value} {a__law_pick : Addr} {od__law_pick an__law_pick : Option Addr} {sl__law_pick : Array (Option Value)} {oc__law_pick kV__law_pick dc__law_pick pm__law_pick cd__law_pick ct__law_pick : Value} {a__law_mid : Addr} {od__law_mid an__law_mid : Option Addr} {sl__law_mid : Array (Option Value)} {oc__law_mid kV__law_mid dc__law_mid pm__law_mid cd__law_mid ct__law_mid : Value} {a__law_mid_drawn : Addr} {od__law_mid_drawn an__law_mid_drawn : Option Addr} {sl__law_mid_drawn : Array (Option Value)} {oc__law_mid_drawn kV__law_mid_drawn dc__law_mid_drawn pm__law_mid_drawn cd__law_mid_drawn ct__law_mid_drawn : Value} {a__law_onto : Addr} {od__law_onto an__law_onto : Option Addr} {sl__law_onto : Array (Option Value)} {oc__law_onto kV__law_onto dc__law_onto pm__law_onto cd__law_onto ct__law_onto : Value} {a_is_integer : Addr} {od_is_integer an_is_integer : Option Addr} {sl_is_integer : Array (Option Value)} {oc_is_integer kV_is_integer dc_is_integer pm_is_integer cd_is_integer ct_is_integer : Value} {a_PlaceX_initX : Addr} {od_PlaceX_initX an_PlaceX_initX : Option Addr} {sl_PlaceX_initX : Array (Option Value)} {oc_PlaceX_initX kV_PlaceX_initX dc_PlaceX_initX pm_PlaceX_initX cd_PlaceX_initX ct_PlaceX_initX : Value} {a__law_place : Addr} {od__law_place an__law_place : Option Addr} {sl__law_place : Array (Option Value)} {oc__law_place kV__law_place dc__law_place pm__law_place cd__law_place ct__law_place : Value} {a__law_whole : Addr} {od__law_whole an__law_whole : Option Addr} {sl__law_whole : Array (Option Value)} {oc__law_whole kV__law_whole dc__law_whole pm__law_whole cd__law_whole ct__law_whole : Value} {a__law_row : Addr} {od__law_row an__law_row : Option Addr} {sl__law_row : Array (Option Value)} {oc__law_row kV__law_row dc__law_row pm__law_row cd__law_row ct__law_row : Value} {a__law_six : Addr} {od__law_six an__law_six : Option Addr} {sl__law_six : Array (Option Value)} {oc__law_six kV__law_six dc__law_six pm__law_six cd__law_six ct__law_six : Value} {a_PlaceX_eqX : Addr} {od_PlaceX_eqX an_PlaceX_eqX : Option Addr} {sl_PlaceX_eqX : Array (Option Value)} {oc_PlaceX_eqX kV_PlaceX_eqX dc_PlaceX_eqX pm_PlaceX_eqX cd_PlaceX_eqX ct_PlaceX_eqX : Value} {a_Place_lifted : Addr} {od_Place_lifted an_Place_lifted : Option Addr} {sl_Place_lifted : Array (Option Value)} {oc_Place_lifted kV_Place_lifted dc_Place_lifted pm_Place_lifted cd_Place_lifted ct_Place_lifted : Value} {a_need_place : Addr} {od_need_place an_need_place : Option Addr} {sl_need_place : Array (Option Value)} {oc_need_place kV_need_place dc_need_place pm_need_place cd_need_place ct_need_place : Value} {a_Place_twist : Addr} {od_Place_twist an_Place_twist : Option Addr} {sl_Place_twist : Array (Option Value)} {oc_Place_twist kV_Place_twist dc_Place_twist pm_Place_twist cd_Place_twist ct_Place_twist : Value} {a_RenamingX_initX : Addr} {od_RenamingX_initX an_RenamingX_initX : Option Addr} {sl_RenamingX_initX : Array (Option Value)} {oc_RenamingX_initX kV_RenamingX_initX dc_RenamingX_initX pm_RenamingX_initX cd_RenamingX_initX ct_RenamingX_initX : Value} {a_PlaceX_mulX : Addr} {od_PlaceX_mulX an_PlaceX_mulX : Option Addr} {sl_PlaceX_mulX : Array (Option Value)} {oc_PlaceX_mulX kV_PlaceX_mulX dc_PlaceX_mulX pm_PlaceX_mulX cd_PlaceX_mulX ct_PlaceX_mulX : Value} {a_pairs_below : Addr} {od_pairs_below an_pairs_below : Option Addr} {sl_pairs_below : Array (Option Value)} {oc_pairs_below kV_pairs_below dc_pairs_below pm_pairs_below cd_pairs_below ct_pairs_below : Value} {a_Place_power : Addr} {od_Place_power an_Place_power : Option Addr} {sl_Place_power : Array (Option Value)} {oc_Place_power kV_Place_power dc_Place_power pm_Place_power cd_Place_power ct_Place_power : Value} {a_led_by : Addr} {od_led_by an_led_by : Option Addr} {sl_led_by : Array (Option Value)} {oc_led_by kV_led_by dc_led_by pm_led_by cd_led_by ct_led_by : Value} {a_RenamingX_invertX : Addr} {od_RenamingX_invertX an_RenamingX_invertX : Option Addr} {sl_RenamingX_invertX : Array (Option Value)} {oc_RenamingX_invertX kV_RenamingX_invertX dc_RenamingX_invertX pm_RenamingX_invertX cd_RenamingX_invertX ct_RenamingX_invertX : Value} {a_RenamingX_mulX : Addr} {od_RenamingX_mulX an_RenamingX_mulX : Option Addr} {sl_RenamingX_mulX : Array (Option Value)} {oc_RenamingX_mulX kV_RenamingX_mulX dc_RenamingX_mulX pm_RenamingX_mulX cd_RenamingX_mulX ct_RenamingX_mulX : Value} {a_figures_of : Addr} {od_figures_of an_figures_of : Option Addr} {sl_figures_of : Array (Option Value)} {oc_figures_of kV_figures_of dc_figures_of pm_figures_of cd_figures_of ct_figures_of : Value} {a_first_at : Addr} {od_first_at an_first_at : Option Addr} {sl_first_at : Array (Option Value)} {oc_first_at kV_first_at dc_first_at pm_first_at cd_first_at ct_first_at : Value} {a_RenamingX_callX : Addr} {od_RenamingX_callX an_RenamingX_callX : Option Addr} {sl_RenamingX_callX : Array (Option Value)} {oc_RenamingX_callX kV_RenamingX_callX dc_RenamingX_callX pm_RenamingX_callX cd_RenamingX_callX ct_RenamingX_callX : Value} {a_renamed_all : Addr} {od_renamed_all an_renamed_all : Option Addr} {sl_renamed_all : Array (Option Value)} {oc_renamed_all kV_renamed_all dc_renamed_all pm_renamed_all cd_renamed_all ct_renamed_all : Value} {a_same_names : Addr} {od_same_names an_same_names : Option Addr} {sl_same_names : Array (Option Value)} {oc_same_names kV_same_names dc_same_names pm_same_names cd_same_names ct_same_names : Value} {a_leaned_north : Addr} {od_leaned_north an_leaned_north : Option Addr} {sl_leaned_north : Array (Option Value)} {oc_leaned_north kV_leaned_north dc_leaned_north pm_leaned_north cd_leaned_north ct_leaned_north : Value} {a_lowered_areas : Addr} {od_lowered_areas an_lowered_areas : Option Addr} {sl_lowered_areas : Array (Option Value)} {oc_lowered_areas kV_lowered_areas dc_lowered_areas pm_lowered_areas cd_lowered_areas ct_lowered_areas : Value} {a_bezout_of : Addr} {od_bezout_of an_bezout_of : Option Addr} {sl_bezout_of : Array (Option Value)} {oc_bezout_of kV_bezout_of dc_bezout_of pm_bezout_of cd_bezout_of ct_bezout_of : Value} {a_turned_east : Addr} {od_turned_east an_turned_east : Option Addr} {sl_turned_east : Array (Option Value)} {oc_turned_east kV_turned_east dc_turned_east pm_turned_east cd_turned_east ct_turned_east : Value} {a_least_list : Addr} {od_least_list an_least_list : Option Addr} {sl_least_list : Array (Option Value)} {oc_least_list kV_least_list dc_least_list pm_least_list cd_least_list ct_least_list : Value} {a_need_places : Addr} {od_need_places an_need_places : Option Addr} {sl_need_places : Array (Option Value)} {oc_need_places kV_need_places dc_need_places pm_need_places cd_need_places ct_need_places : Value} {a_alike : Addr} {od_alike an_alike : Option Addr} {sl_alike : Array (Option Value)} {oc_alike kV_alike dc_alike pm_alike cd_alike ct_alike : Value} {a_orders_of : Addr} {od_orders_of an_orders_of : Option Addr} {sl_orders_of : Array (Option Value)} {oc_orders_of kV_orders_of dc_orders_of pm_orders_of cd_orders_of ct_orders_of : Value} {a_alike_lots : Addr} {od_alike_lots an_alike_lots : Option Addr} {sl_alike_lots : Array (Option Value)} {oc_alike_lots kV_alike_lots dc_alike_lots pm_alike_lots cd_alike_lots ct_alike_lots : Value} {a_list_key : Addr} {od_list_key an_list_key : Option Addr} {sl_list_key : Array (Option Value)} {oc_list_key kV_list_key dc_list_key pm_list_key cd_list_key ct_list_key : Value} {a_lot_key : Addr} {od_lot_key an_lot_key : Option Addr} {sl_lot_key : Array (Option Value)} {oc_lot_key kV_lot_key dc_lot_key pm_lot_key cd_lot_key ct_lot_key : Value} {a_law : Addr} {od_law an_law : Option Addr} {sl_law : Array (Option Value)} {oc_law kV_law dc_law pm_law cd_law ct_law : Value} (X : K.In h) (G0 : h.Ns mainGlobals mg) (hfa : mg "law" = some (.ref fa)) (TT : TabsT q K h)
    (aC_Place : PySem.W.nsIn K mainGlobals "Place" = some (some (.ref C_Place)))
    (cB_Place : clsB K C_Place ["x", "y", "area"] = true)
    (aC_Renaming : PySem.W.nsIn K mainGlobals "Renaming" = some (some (.ref C_Renaming)))
    (cB_Renaming : clsB K C_Renaming ["east", "north"] = true)
    (cc_Place_Renaming : PySem.W.kitOne K (.ref C_Place) (.ref C_Renaming) = some false)
    (cc_Renaming_Place : PySem.W.kitOne K (.ref C_Renaming) (.ref C_Place) = some false)
    (aC_BadNumber : PySem.W.nsIn K mainGlobals "BadNumber" = some (some (.ref C_BadNumber)))
    (xl_BadNumber : K.lookup C_BadNumber = some (excClassObj xnm_BadNumber xq_BadNumber C_BadNumber NS_BadNumber xbs_BadNumber xbm_BadNumber true xsn_BadNumber xsub_BadNumber xab_BadNumber xcol_BadNumber xdd_BadNumber xk0_BadNumber xk1_BadNumber xk2_BadNumber xk3_BadNumber xk5_BadNumber "ValueError.__new__"))
    (xr_BadNumber : PySem.HandSPX.refsVE xbm_BadNumber = true)
    (xi_BadNumber : PySem.W.findIn K (.ref C_BadNumber) "__init__" = some (some (.ref fI_BadNumber)))
    (xf_BadNumber : K.lookup fI_BadNumber = some ⟨xoc_BadNumber, xod_BadNumber, .func (PySem.W.fnX "__init__" "BadNumber.__init__" (defArgs xst_BadNumber) (defBody xst_BadNumber) (defScope xst_BadNumber) [("__class__", cc_BadNumber)] .none xkV_BadNumber xdoc_BadNumber xpm_BadNumber xan_BadNumber (.ref cda_BadNumber) xct_BadNumber), xosl_BadNumber⟩)
    (xc_BadNumber : PySem.W.codeIn K (.ref cda_BadNumber) "BadNumber.__init__" = true)
    (xd_BadNumber : K.lookup cda_BadNumber = some ⟨xccl_BadNumber, xcdd_BadNumber, .fields xvs_BadNumber, xccs_BadNumber⟩)
    (xv_BadNumber : xvs_BadNumber[2]? = some (.str xfile_BadNumber xtf_BadNumber))
    (xe_BadNumber : ((l.prog.main.file : Str) == xfile_BadNumber) = true)
    (xk_BadNumber : K.lookup cc_BadNumber = some ⟨xcl_BadNumber, xcld_BadNumber, .cell (some (.ref C_BadNumber)), xcsl_BadNumber⟩)
    (xB_BadNumber : xcB K C_BadNumber fI_BadNumber "value" = true)
    (aC_BadPlace : PySem.W.nsIn K mainGlobals "BadPlace" = some (some (.ref C_BadPlace)))
    (xl_BadPlace : K.lookup C_BadPlace = some (excClassObj xnm_BadPlace xq_BadPlace C_BadPlace NS_BadPlace xbs_BadPlace xbm_BadPlace true xsn_BadPlace xsub_BadPlace xab_BadPlace xcol_BadPlace xdd_BadPlace xk0_BadPlace xk1_BadPlace xk2_BadPlace xk3_BadPlace xk5_BadPlace "ValueError.__new__"))
    (xr_BadPlace : PySem.HandSPX.refsVE xbm_BadPlace = true)
    (xi_BadPlace : PySem.W.findIn K (.ref C_BadPlace) "__init__" = some (some (.ref fI_BadPlace)))
    (xf_BadPlace : K.lookup fI_BadPlace = some ⟨xoc_BadPlace, xod_BadPlace, .func (PySem.W.fnX "__init__" "BadPlace.__init__" (defArgs xst_BadPlace) (defBody xst_BadPlace) (defScope xst_BadPlace) [("__class__", cc_BadPlace)] .none xkV_BadPlace xdoc_BadPlace xpm_BadPlace xan_BadPlace (.ref cda_BadPlace) xct_BadPlace), xosl_BadPlace⟩)
    (xc_BadPlace : PySem.W.codeIn K (.ref cda_BadPlace) "BadPlace.__init__" = true)
    (xd_BadPlace : K.lookup cda_BadPlace = some ⟨xccl_BadPlace, xcdd_BadPlace, .fields xvs_BadPlace, xccs_BadPlace⟩)
    (xv_BadPlace : xvs_BadPlace[2]? = some (.str xfile_BadPlace xtf_BadPlace))
    (xe_BadPlace : ((l.prog.main.file : Str) == xfile_BadPlace) = true)
    (xk_BadPlace : K.lookup cc_BadPlace = some ⟨xcl_BadPlace, xcld_BadPlace, .cell (some (.ref C_BadPlace)), xcsl_BadPlace⟩)
    (xB_BadPlace : xcB K C_BadPlace fI_BadPlace "value" = true)
    (aC_NotOnto : PySem.W.nsIn K mainGlobals "NotOnto" = some (some (.ref C_NotOnto)))
    (xl_NotOnto : K.lookup C_NotOnto = some (excClassObj xnm_NotOnto xq_NotOnto C_NotOnto NS_NotOnto xbs_NotOnto xbm_NotOnto true xsn_NotOnto xsub_NotOnto xab_NotOnto xcol_NotOnto xdd_NotOnto xk0_NotOnto xk1_NotOnto xk2_NotOnto xk3_NotOnto xk5_NotOnto "ValueError.__new__"))
    (xr_NotOnto : PySem.HandSPX.refsVE xbm_NotOnto = true)
    (xi_NotOnto : PySem.W.findIn K (.ref C_NotOnto) "__init__" = some (some (.ref fI_NotOnto)))
    (xf_NotOnto : K.lookup fI_NotOnto = some ⟨xoc_NotOnto, xod_NotOnto, .func (PySem.W.fnX "__init__" "NotOnto.__init__" (defArgs xst_NotOnto) (defBody xst_NotOnto) (defScope xst_NotOnto) [("__class__", cc_NotOnto)] .none xkV_NotOnto xdoc_NotOnto xpm_NotOnto xan_NotOnto (.ref cda_NotOnto) xct_NotOnto), xosl_NotOnto⟩)
    (xc_NotOnto : PySem.W.codeIn K (.ref cda_NotOnto) "NotOnto.__init__" = true)
    (xd_NotOnto : K.lookup cda_NotOnto = some ⟨xccl_NotOnto, xcdd_NotOnto, .fields xvs_NotOnto, xccs_NotOnto⟩)
    (xv_NotOnto : xvs_NotOnto[2]? = some (.str xfile_NotOnto xtf_NotOnto))
    (xe_NotOnto : ((l.prog.main.file : Str) == xfile_NotOnto) = true)
    (xk_NotOnto : K.lookup cc_NotOnto = some ⟨xcl_NotOnto, xcld_NotOnto, .cell (some (.ref C_NotOnto)), xcsl_NotOnto⟩)
    (xB_NotOnto : xcB K C_NotOnto fI_NotOnto "number" = true)
    (aC_Uneven : PySem.W.nsIn K mainGlobals "Uneven" = some (some (.ref C_Uneven)))
    (xtop : (l.prog.main.scope.names.lookup ("super" : Str)).isSome = false)
    (xsup : PySem.W.nsIn K mainGlobals "super" = some none)
    (a1__law_begin : PySem.W.nsIn K mainGlobals "_law_begin" = some (some (.ref a__law_begin)))
    (l1__law_begin : K.lookup a__law_begin = some ⟨oc__law_begin, od__law_begin, .func (PySem.W.fnOf "_law_begin" "_law_begin" (defArgs st__law_begin) (defBody st__law_begin) (defScope st__law_begin) .none kV__law_begin dc__law_begin pm__law_begin an__law_begin cd__law_begin ct__law_begin), sl__law_begin⟩)
    (c1__law_begin : PySem.W.codeIn K cd__law_begin "_law_begin" = true)
    (k1__law_begin : PySem.W.keepIn K (.ref a__law_begin) = true)
    (a1__law_draw : PySem.W.nsIn K mainGlobals "_law_draw" = some (some (.ref a__law_draw)))
    (l1__law_draw : K.lookup a__law_draw = some ⟨oc__law_draw, od__law_draw, .func (PySem.W.fnOf "_law_draw" "_law_draw" (defArgs st__law_draw) (defBody st__law_draw) (defScope st__law_draw) .none kV__law_draw dc__law_draw pm__law_draw an__law_draw cd__law_draw ct__law_draw), sl__law_draw⟩)
    (c1__law_draw : PySem.W.codeIn K cd__law_draw "_law_draw" = true)
    (k1__law_draw : PySem.W.keepIn K (.ref a__law_draw) = true)
    (a1__law_gcd : PySem.W.nsIn K mainGlobals "_law_gcd" = some (some (.ref a__law_gcd)))
    (l1__law_gcd : K.lookup a__law_gcd = some ⟨oc__law_gcd, od__law_gcd, .func (PySem.W.fnOf "_law_gcd" "_law_gcd" (defArgs st__law_gcd) (defBody st__law_gcd) (defScope st__law_gcd) .none kV__law_gcd dc__law_gcd pm__law_gcd an__law_gcd cd__law_gcd ct__law_gcd), sl__law_gcd⟩)
    (c1__law_gcd : PySem.W.codeIn K cd__law_gcd "_law_gcd" = true)
    (k1__law_gcd : PySem.W.keepIn K (.ref a__law_gcd) = true)
    (a1__law_made : PySem.W.nsIn K mainGlobals "_law_made" = some (some (.ref a__law_made)))
    (l1__law_made : K.lookup a__law_made = some ⟨oc__law_made, od__law_made, .func (PySem.W.fnOf "_law_made" "_law_made" (defArgs st__law_made) (defBody st__law_made) (defScope st__law_made) .none kV__law_made dc__law_made pm__law_made an__law_made cd__law_made ct__law_made), sl__law_made⟩)
    (c1__law_made : PySem.W.codeIn K cd__law_made "_law_made" = true)
    (k1__law_made : PySem.W.keepIn K (.ref a__law_made) = true)
    (a1__law_join : PySem.W.nsIn K mainGlobals "_law_join" = some (some (.ref a__law_join)))
    (l1__law_join : K.lookup a__law_join = some ⟨oc__law_join, od__law_join, .func (PySem.W.fnOf "_law_join" "_law_join" (defArgs st__law_join) (defBody st__law_join) (defScope st__law_join) .none kV__law_join dc__law_join pm__law_join an__law_join cd__law_join ct__law_join), sl__law_join⟩)
    (c1__law_join : PySem.W.codeIn K cd__law_join "_law_join" = true)
    (k1__law_join : PySem.W.keepIn K (.ref a__law_join) = true)
    (a1__law_times : PySem.W.nsIn K mainGlobals "_law_times" = some (some (.ref a__law_times)))
    (l1__law_times : K.lookup a__law_times = some ⟨oc__law_times, od__law_times, .func (PySem.W.fnOf "_law_times" "_law_times" (defArgs st__law_times) (defBody st__law_times) (defScope st__law_times) .none kV__law_times dc__law_times pm__law_times an__law_times cd__law_times ct__law_times), sl__law_times⟩)
    (c1__law_times : PySem.W.codeIn K cd__law_times "_law_times" = true)
    (k1__law_times : PySem.W.keepIn K (.ref a__law_times) = true)
    (a1__law_twist : PySem.W.nsIn K mainGlobals "_law_twist" = some (some (.ref a__law_twist)))
    (l1__law_twist : K.lookup a__law_twist = some ⟨oc__law_twist, od__law_twist, .func (PySem.W.fnOf "_law_twist" "_law_twist" (defArgs st__law_twist) (defBody st__law_twist) (defScope st__law_twist) .none kV__law_twist dc__law_twist pm__law_twist an__law_twist cd__law_twist ct__law_twist), sl__law_twist⟩)
    (c1__law_twist : PySem.W.codeIn K cd__law_twist "_law_twist" = true)
    (k1__law_twist : PySem.W.keepIn K (.ref a__law_twist) = true)
    (a1__law_renamed : PySem.W.nsIn K mainGlobals "_law_renamed" = some (some (.ref a__law_renamed)))
    (l1__law_renamed : K.lookup a__law_renamed = some ⟨oc__law_renamed, od__law_renamed, .func (PySem.W.fnOf "_law_renamed" "_law_renamed" (defArgs st__law_renamed) (defBody st__law_renamed) (defScope st__law_renamed) .none kV__law_renamed dc__law_renamed pm__law_renamed an__law_renamed cd__law_renamed ct__law_renamed), sl__law_renamed⟩)
    (c1__law_renamed : PySem.W.codeIn K cd__law_renamed "_law_renamed" = true)
    (k1__law_renamed : PySem.W.keepIn K (.ref a__law_renamed) = true)
    (a1__law_straight : PySem.W.nsIn K mainGlobals "_law_straight" = some (some (.ref a__law_straight)))
    (l1__law_straight : K.lookup a__law_straight = some ⟨oc__law_straight, od__law_straight, .func (PySem.W.fnOf "_law_straight" "_law_straight" (defArgs st__law_straight) (defBody st__law_straight) (defScope st__law_straight) .none kV__law_straight dc__law_straight pm__law_straight an__law_straight cd__law_straight ct__law_straight), sl__law_straight⟩)
    (c1__law_straight : PySem.W.codeIn K cd__law_straight "_law_straight" = true)
    (k1__law_straight : PySem.W.keepIn K (.ref a__law_straight) = true)
    (a1__law_due : PySem.W.nsIn K mainGlobals "_law_due" = some (some (.ref a__law_due)))
    (l1__law_due : K.lookup a__law_due = some ⟨oc__law_due, od__law_due, .func (PySem.W.fnOf "_law_due" "_law_due" (defArgs st__law_due) (defBody st__law_due) (defScope st__law_due) .none kV__law_due dc__law_due pm__law_due an__law_due cd__law_due ct__law_due), sl__law_due⟩)
    (c1__law_due : PySem.W.codeIn K cd__law_due "_law_due" = true)
    (k1__law_due : PySem.W.keepIn K (.ref a__law_due) = true)
    (a1__law_pick : PySem.W.nsIn K mainGlobals "_law_pick" = some (some (.ref a__law_pick)))
    (l1__law_pick : K.lookup a__law_pick = some ⟨oc__law_pick, od__law_pick, .func (PySem.W.fnOf "_law_pick" "_law_pick" (defArgs st__law_pick) (defBody st__law_pick) (defScope st__law_pick) .none kV__law_pick dc__law_pick pm__law_pick an__law_pick cd__law_pick ct__law_pick), sl__law_pick⟩)
    (c1__law_pick : PySem.W.codeIn K cd__law_pick "_law_pick" = true)
    (k1__law_pick : PySem.W.keepIn K (.ref a__law_pick) = true)
    (a1__law_mid : PySem.W.nsIn K mainGlobals "_law_mid" = some (some (.ref a__law_mid)))
    (l1__law_mid : K.lookup a__law_mid = some ⟨oc__law_mid, od__law_mid, .func (PySem.W.fnOf "_law_mid" "_law_mid" (defArgs st__law_mid) (defBody st__law_mid) (defScope st__law_mid) .none kV__law_mid dc__law_mid pm__law_mid an__law_mid cd__law_mid ct__law_mid), sl__law_mid⟩)
    (c1__law_mid : PySem.W.codeIn K cd__law_mid "_law_mid" = true)
    (k1__law_mid : PySem.W.keepIn K (.ref a__law_mid) = true)
    (a1__law_mid_drawn : PySem.W.nsIn K mainGlobals "_law_mid_drawn" = some (some (.ref a__law_mid_drawn)))
    (l1__law_mid_drawn : K.lookup a__law_mid_drawn = some ⟨oc__law_mid_drawn, od__law_mid_drawn, .func (PySem.W.fnOf "_law_mid_drawn" "_law_mid_drawn" (defArgs st__law_mid_drawn) (defBody st__law_mid_drawn) (defScope st__law_mid_drawn) .none kV__law_mid_drawn dc__law_mid_drawn pm__law_mid_drawn an__law_mid_drawn cd__law_mid_drawn ct__law_mid_drawn), sl__law_mid_drawn⟩)
    (c1__law_mid_drawn : PySem.W.codeIn K cd__law_mid_drawn "_law_mid_drawn" = true)
    (k1__law_mid_drawn : PySem.W.keepIn K (.ref a__law_mid_drawn) = true)
    (a1__law_onto : PySem.W.nsIn K mainGlobals "_law_onto" = some (some (.ref a__law_onto)))
    (l1__law_onto : K.lookup a__law_onto = some ⟨oc__law_onto, od__law_onto, .func (PySem.W.fnOf "_law_onto" "_law_onto" (defArgs st__law_onto) (defBody st__law_onto) (defScope st__law_onto) .none kV__law_onto dc__law_onto pm__law_onto an__law_onto cd__law_onto ct__law_onto), sl__law_onto⟩)
    (c1__law_onto : PySem.W.codeIn K cd__law_onto "_law_onto" = true)
    (k1__law_onto : PySem.W.keepIn K (.ref a__law_onto) = true)
    (a1_is_integer : PySem.W.nsIn K mainGlobals "is_integer" = some (some (.ref a_is_integer)))
    (l1_is_integer : K.lookup a_is_integer = some ⟨oc_is_integer, od_is_integer, .func (PySem.W.fnOf "is_integer" "is_integer" (defArgs st_is_integer) (defBody st_is_integer) (defScope st_is_integer) .none kV_is_integer dc_is_integer pm_is_integer an_is_integer cd_is_integer ct_is_integer), sl_is_integer⟩)
    (c1_is_integer : PySem.W.codeIn K cd_is_integer "is_integer" = true)
    (k1_is_integer : PySem.W.keepIn K (.ref a_is_integer) = true)
    (a1_PlaceX_initX : PySem.W.findIn K (.ref C_Place) "__init__" = some (some (.ref a_PlaceX_initX)))
    (i1_PlaceX_initX : PySem.W.isFn K (.ref a_PlaceX_initX) = true)
    (l1_PlaceX_initX : K.lookup a_PlaceX_initX = some ⟨oc_PlaceX_initX, od_PlaceX_initX, .func (PySem.W.fnOf "__init__" "Place.__init__" (defArgs st_PlaceX_initX) (defBody st_PlaceX_initX) (defScope st_PlaceX_initX) .none kV_PlaceX_initX dc_PlaceX_initX pm_PlaceX_initX an_PlaceX_initX cd_PlaceX_initX ct_PlaceX_initX), sl_PlaceX_initX⟩)
    (c1_PlaceX_initX : PySem.W.codeIn K cd_PlaceX_initX "Place.__init__" = true)
    (k1_PlaceX_initX : PySem.W.keepIn K (.ref a_PlaceX_initX) = true)
    (a1__law_place : PySem.W.nsIn K mainGlobals "_law_place" = some (some (.ref a__law_place)))
    (l1__law_place : K.lookup a__law_place = some ⟨oc__law_place, od__law_place, .func (PySem.W.fnOf "_law_place" "_law_place" (defArgs st__law_place) (defBody st__law_place) (defScope st__law_place) .none kV__law_place dc__law_place pm__law_place an__law_place cd__law_place ct__law_place), sl__law_place⟩)
    (c1__law_place : PySem.W.codeIn K cd__law_place "_law_place" = true)
    (k1__law_place : PySem.W.keepIn K (.ref a__law_place) = true)
    (a1__law_whole : PySem.W.nsIn K mainGlobals "_law_whole" = some (some (.ref a__law_whole)))
    (l1__law_whole : K.lookup a__law_whole = some ⟨oc__law_whole, od__law_whole, .func (PySem.W.fnOf "_law_whole" "_law_whole" (defArgs st__law_whole) (defBody st__law_whole) (defScope st__law_whole) .none kV__law_whole dc__law_whole pm__law_whole an__law_whole cd__law_whole ct__law_whole), sl__law_whole⟩)
    (c1__law_whole : PySem.W.codeIn K cd__law_whole "_law_whole" = true)
    (k1__law_whole : PySem.W.keepIn K (.ref a__law_whole) = true)
    (a1__law_row : PySem.W.nsIn K mainGlobals "_law_row" = some (some (.ref a__law_row)))
    (l1__law_row : K.lookup a__law_row = some ⟨oc__law_row, od__law_row, .func (PySem.W.fnOf "_law_row" "_law_row" (defArgs st__law_row) (defBody st__law_row) (defScope st__law_row) .none kV__law_row dc__law_row pm__law_row an__law_row cd__law_row ct__law_row), sl__law_row⟩)
    (c1__law_row : PySem.W.codeIn K cd__law_row "_law_row" = true)
    (k1__law_row : PySem.W.keepIn K (.ref a__law_row) = true)
    (a1__law_six : PySem.W.nsIn K mainGlobals "_law_six" = some (some (.ref a__law_six)))
    (l1__law_six : K.lookup a__law_six = some ⟨oc__law_six, od__law_six, .func (PySem.W.fnOf "_law_six" "_law_six" (defArgs st__law_six) (defBody st__law_six) (defScope st__law_six) .none kV__law_six dc__law_six pm__law_six an__law_six cd__law_six ct__law_six), sl__law_six⟩)
    (c1__law_six : PySem.W.codeIn K cd__law_six "_law_six" = true)
    (k1__law_six : PySem.W.keepIn K (.ref a__law_six) = true)
    (a1_PlaceX_eqX : PySem.W.findIn K (.ref C_Place) "__eq__" = some (some (.ref a_PlaceX_eqX)))
    (i1_PlaceX_eqX : PySem.W.isFn K (.ref a_PlaceX_eqX) = true)
    (l1_PlaceX_eqX : K.lookup a_PlaceX_eqX = some ⟨oc_PlaceX_eqX, od_PlaceX_eqX, .func (PySem.W.fnOf "__eq__" "Place.__eq__" (defArgs st_PlaceX_eqX) (defBody st_PlaceX_eqX) (defScope st_PlaceX_eqX) .none kV_PlaceX_eqX dc_PlaceX_eqX pm_PlaceX_eqX an_PlaceX_eqX cd_PlaceX_eqX ct_PlaceX_eqX), sl_PlaceX_eqX⟩)
    (c1_PlaceX_eqX : PySem.W.codeIn K cd_PlaceX_eqX "Place.__eq__" = true)
    (k1_PlaceX_eqX : PySem.W.keepIn K (.ref a_PlaceX_eqX) = true)
    (a1_Place_lifted : PySem.W.findIn K (.ref C_Place) "lifted" = some (some (.ref a_Place_lifted)))
    (i1_Place_lifted : PySem.W.isFn K (.ref a_Place_lifted) = true)
    (l1_Place_lifted : K.lookup a_Place_lifted = some ⟨oc_Place_lifted, od_Place_lifted, .func (PySem.W.fnOf "lifted" "Place.lifted" (defArgs st_Place_lifted) (defBody st_Place_lifted) (defScope st_Place_lifted) .none kV_Place_lifted dc_Place_lifted pm_Place_lifted an_Place_lifted cd_Place_lifted ct_Place_lifted), sl_Place_lifted⟩)
    (c1_Place_lifted : PySem.W.codeIn K cd_Place_lifted "Place.lifted" = true)
    (k1_Place_lifted : PySem.W.keepIn K (.ref a_Place_lifted) = true)
    (a1_need_place : PySem.W.nsIn K mainGlobals "need_place" = some (some (.ref a_need_place)))
    (l1_need_place : K.lookup a_need_place = some ⟨oc_need_place, od_need_place, .func (PySem.W.fnOf "need_place" "need_place" (defArgs st_need_place) (defBody st_need_place) (defScope st_need_place) .none kV_need_place dc_need_place pm_need_place an_need_place cd_need_place ct_need_place), sl_need_place⟩)
    (c1_need_place : PySem.W.codeIn K cd_need_place "need_place" = true)
    (k1_need_place : PySem.W.keepIn K (.ref a_need_place) = true)
    (a1_Place_twist : PySem.W.findIn K (.ref C_Place) "twist" = some (some (.ref a_Place_twist)))
    (i1_Place_twist : PySem.W.isFn K (.ref a_Place_twist) = true)
    (l1_Place_twist : K.lookup a_Place_twist = some ⟨oc_Place_twist, od_Place_twist, .func (PySem.W.fnOf "twist" "Place.twist" (defArgs st_Place_twist) (defBody st_Place_twist) (defScope st_Place_twist) .none kV_Place_twist dc_Place_twist pm_Place_twist an_Place_twist cd_Place_twist ct_Place_twist), sl_Place_twist⟩)
    (c1_Place_twist : PySem.W.codeIn K cd_Place_twist "Place.twist" = true)
    (k1_Place_twist : PySem.W.keepIn K (.ref a_Place_twist) = true)
    (a1_RenamingX_initX : PySem.W.findIn K (.ref C_Renaming) "__init__" = some (some (.ref a_RenamingX_initX)))
    (i1_RenamingX_initX : PySem.W.isFn K (.ref a_RenamingX_initX) = true)
    (l1_RenamingX_initX : K.lookup a_RenamingX_initX = some ⟨oc_RenamingX_initX, od_RenamingX_initX, .func (PySem.W.fnOf "__init__" "Renaming.__init__" (defArgs st_RenamingX_initX) (defBody st_RenamingX_initX) (defScope st_RenamingX_initX) .none kV_RenamingX_initX dc_RenamingX_initX pm_RenamingX_initX an_RenamingX_initX cd_RenamingX_initX ct_RenamingX_initX), sl_RenamingX_initX⟩)
    (c1_RenamingX_initX : PySem.W.codeIn K cd_RenamingX_initX "Renaming.__init__" = true)
    (k1_RenamingX_initX : PySem.W.keepIn K (.ref a_RenamingX_initX) = true)
    (a1_PlaceX_mulX : PySem.W.findIn K (.ref C_Place) "__mul__" = some (some (.ref a_PlaceX_mulX)))
    (i1_PlaceX_mulX : PySem.W.isFn K (.ref a_PlaceX_mulX) = true)
    (l1_PlaceX_mulX : K.lookup a_PlaceX_mulX = some ⟨oc_PlaceX_mulX, od_PlaceX_mulX, .func (PySem.W.fnOf "__mul__" "Place.__mul__" (defArgs st_PlaceX_mulX) (defBody st_PlaceX_mulX) (defScope st_PlaceX_mulX) .none kV_PlaceX_mulX dc_PlaceX_mulX pm_PlaceX_mulX an_PlaceX_mulX cd_PlaceX_mulX ct_PlaceX_mulX), sl_PlaceX_mulX⟩)
    (c1_PlaceX_mulX : PySem.W.codeIn K cd_PlaceX_mulX "Place.__mul__" = true)
    (k1_PlaceX_mulX : PySem.W.keepIn K (.ref a_PlaceX_mulX) = true)
    (a1_pairs_below : PySem.W.nsIn K mainGlobals "pairs_below" = some (some (.ref a_pairs_below)))
    (l1_pairs_below : K.lookup a_pairs_below = some ⟨oc_pairs_below, od_pairs_below, .func (PySem.W.fnOf "pairs_below" "pairs_below" (defArgs st_pairs_below) (defBody st_pairs_below) (defScope st_pairs_below) .none kV_pairs_below dc_pairs_below pm_pairs_below an_pairs_below cd_pairs_below ct_pairs_below), sl_pairs_below⟩)
    (c1_pairs_below : PySem.W.codeIn K cd_pairs_below "pairs_below" = true)
    (k1_pairs_below : PySem.W.keepIn K (.ref a_pairs_below) = true)
    (a1_Place_power : PySem.W.findIn K (.ref C_Place) "power" = some (some (.ref a_Place_power)))
    (i1_Place_power : PySem.W.isFn K (.ref a_Place_power) = true)
    (l1_Place_power : K.lookup a_Place_power = some ⟨oc_Place_power, od_Place_power, .func (PySem.W.fnOf "power" "Place.power" (defArgs st_Place_power) (defBody st_Place_power) (defScope st_Place_power) .none kV_Place_power dc_Place_power pm_Place_power an_Place_power cd_Place_power ct_Place_power), sl_Place_power⟩)
    (c1_Place_power : PySem.W.codeIn K cd_Place_power "Place.power" = true)
    (k1_Place_power : PySem.W.keepIn K (.ref a_Place_power) = true)
    (a1_led_by : PySem.W.nsIn K mainGlobals "led_by" = some (some (.ref a_led_by)))
    (l1_led_by : K.lookup a_led_by = some ⟨oc_led_by, od_led_by, .func (PySem.W.fnOf "led_by" "led_by" (defArgs st_led_by) (defBody st_led_by) (defScope st_led_by) .none kV_led_by dc_led_by pm_led_by an_led_by cd_led_by ct_led_by), sl_led_by⟩)
    (c1_led_by : PySem.W.codeIn K cd_led_by "led_by" = true)
    (k1_led_by : PySem.W.keepIn K (.ref a_led_by) = true)
    (a1_RenamingX_invertX : PySem.W.findIn K (.ref C_Renaming) "__invert__" = some (some (.ref a_RenamingX_invertX)))
    (i1_RenamingX_invertX : PySem.W.isFn K (.ref a_RenamingX_invertX) = true)
    (l1_RenamingX_invertX : K.lookup a_RenamingX_invertX = some ⟨oc_RenamingX_invertX, od_RenamingX_invertX, .func (PySem.W.fnOf "__invert__" "Renaming.__invert__" (defArgs st_RenamingX_invertX) (defBody st_RenamingX_invertX) (defScope st_RenamingX_invertX) .none kV_RenamingX_invertX dc_RenamingX_invertX pm_RenamingX_invertX an_RenamingX_invertX cd_RenamingX_invertX ct_RenamingX_invertX), sl_RenamingX_invertX⟩)
    (c1_RenamingX_invertX : PySem.W.codeIn K cd_RenamingX_invertX "Renaming.__invert__" = true)
    (k1_RenamingX_invertX : PySem.W.keepIn K (.ref a_RenamingX_invertX) = true)
    (a1_RenamingX_mulX : PySem.W.findIn K (.ref C_Renaming) "__mul__" = some (some (.ref a_RenamingX_mulX)))
    (i1_RenamingX_mulX : PySem.W.isFn K (.ref a_RenamingX_mulX) = true)
    (l1_RenamingX_mulX : K.lookup a_RenamingX_mulX = some ⟨oc_RenamingX_mulX, od_RenamingX_mulX, .func (PySem.W.fnOf "__mul__" "Renaming.__mul__" (defArgs st_RenamingX_mulX) (defBody st_RenamingX_mulX) (defScope st_RenamingX_mulX) .none kV_RenamingX_mulX dc_RenamingX_mulX pm_RenamingX_mulX an_RenamingX_mulX cd_RenamingX_mulX ct_RenamingX_mulX), sl_RenamingX_mulX⟩)
    (c1_RenamingX_mulX : PySem.W.codeIn K cd_RenamingX_mulX "Renaming.__mul__" = true)
    (k1_RenamingX_mulX : PySem.W.keepIn K (.ref a_RenamingX_mulX) = true)
    (a1_figures_of : PySem.W.nsIn K mainGlobals "figures_of" = some (some (.ref a_figures_of)))
    (l1_figures_of : K.lookup a_figures_of = some ⟨oc_figures_of, od_figures_of, .func (PySem.W.fnOf "figures_of" "figures_of" (defArgs st_figures_of) (defBody st_figures_of) (defScope st_figures_of) .none kV_figures_of dc_figures_of pm_figures_of an_figures_of cd_figures_of ct_figures_of), sl_figures_of⟩)
    (c1_figures_of : PySem.W.codeIn K cd_figures_of "figures_of" = true)
    (k1_figures_of : PySem.W.keepIn K (.ref a_figures_of) = true)
    (a1_first_at : PySem.W.nsIn K mainGlobals "first_at" = some (some (.ref a_first_at)))
    (l1_first_at : K.lookup a_first_at = some ⟨oc_first_at, od_first_at, .func (PySem.W.fnOf "first_at" "first_at" (defArgs st_first_at) (defBody st_first_at) (defScope st_first_at) .none kV_first_at dc_first_at pm_first_at an_first_at cd_first_at ct_first_at), sl_first_at⟩)
    (c1_first_at : PySem.W.codeIn K cd_first_at "first_at" = true)
    (k1_first_at : PySem.W.keepIn K (.ref a_first_at) = true)
    (a1_RenamingX_callX : PySem.W.findIn K (.ref C_Renaming) "__call__" = some (some (.ref a_RenamingX_callX)))
    (i1_RenamingX_callX : PySem.W.isFn K (.ref a_RenamingX_callX) = true)
    (l1_RenamingX_callX : K.lookup a_RenamingX_callX = some ⟨oc_RenamingX_callX, od_RenamingX_callX, .func (PySem.W.fnOf "__call__" "Renaming.__call__" (defArgs st_RenamingX_callX) (defBody st_RenamingX_callX) (defScope st_RenamingX_callX) .none kV_RenamingX_callX dc_RenamingX_callX pm_RenamingX_callX an_RenamingX_callX cd_RenamingX_callX ct_RenamingX_callX), sl_RenamingX_callX⟩)
    (c1_RenamingX_callX : PySem.W.codeIn K cd_RenamingX_callX "Renaming.__call__" = true)
    (k1_RenamingX_callX : PySem.W.keepIn K (.ref a_RenamingX_callX) = true)
    (a1_renamed_all : PySem.W.nsIn K mainGlobals "renamed_all" = some (some (.ref a_renamed_all)))
    (l1_renamed_all : K.lookup a_renamed_all = some ⟨oc_renamed_all, od_renamed_all, .func (PySem.W.fnOf "renamed_all" "renamed_all" (defArgs st_renamed_all) (defBody st_renamed_all) (defScope st_renamed_all) .none kV_renamed_all dc_renamed_all pm_renamed_all an_renamed_all cd_renamed_all ct_renamed_all), sl_renamed_all⟩)
    (c1_renamed_all : PySem.W.codeIn K cd_renamed_all "renamed_all" = true)
    (k1_renamed_all : PySem.W.keepIn K (.ref a_renamed_all) = true)
    (a1_same_names : PySem.W.nsIn K mainGlobals "same_names" = some (some (.ref a_same_names)))
    (l1_same_names : K.lookup a_same_names = some ⟨oc_same_names, od_same_names, .func (PySem.W.fnOf "same_names" "same_names" (defArgs st_same_names) (defBody st_same_names) (defScope st_same_names) .none kV_same_names dc_same_names pm_same_names an_same_names cd_same_names ct_same_names), sl_same_names⟩)
    (c1_same_names : PySem.W.codeIn K cd_same_names "same_names" = true)
    (k1_same_names : PySem.W.keepIn K (.ref a_same_names) = true)
    (a1_leaned_north : PySem.W.nsIn K mainGlobals "leaned_north" = some (some (.ref a_leaned_north)))
    (l1_leaned_north : K.lookup a_leaned_north = some ⟨oc_leaned_north, od_leaned_north, .func (PySem.W.fnOf "leaned_north" "leaned_north" (defArgs st_leaned_north) (defBody st_leaned_north) (defScope st_leaned_north) .none kV_leaned_north dc_leaned_north pm_leaned_north an_leaned_north cd_leaned_north ct_leaned_north), sl_leaned_north⟩)
    (c1_leaned_north : PySem.W.codeIn K cd_leaned_north "leaned_north" = true)
    (k1_leaned_north : PySem.W.keepIn K (.ref a_leaned_north) = true)
    (a1_lowered_areas : PySem.W.nsIn K mainGlobals "lowered_areas" = some (some (.ref a_lowered_areas)))
    (l1_lowered_areas : K.lookup a_lowered_areas = some ⟨oc_lowered_areas, od_lowered_areas, .func (PySem.W.fnOf "lowered_areas" "lowered_areas" (defArgs st_lowered_areas) (defBody st_lowered_areas) (defScope st_lowered_areas) .none kV_lowered_areas dc_lowered_areas pm_lowered_areas an_lowered_areas cd_lowered_areas ct_lowered_areas), sl_lowered_areas⟩)
    (c1_lowered_areas : PySem.W.codeIn K cd_lowered_areas "lowered_areas" = true)
    (k1_lowered_areas : PySem.W.keepIn K (.ref a_lowered_areas) = true)
    (a1_bezout_of : PySem.W.nsIn K mainGlobals "bezout_of" = some (some (.ref a_bezout_of)))
    (l1_bezout_of : K.lookup a_bezout_of = some ⟨oc_bezout_of, od_bezout_of, .func (PySem.W.fnOf "bezout_of" "bezout_of" (defArgs st_bezout_of) (defBody st_bezout_of) (defScope st_bezout_of) .none kV_bezout_of dc_bezout_of pm_bezout_of an_bezout_of cd_bezout_of ct_bezout_of), sl_bezout_of⟩)
    (c1_bezout_of : PySem.W.codeIn K cd_bezout_of "bezout_of" = true)
    (k1_bezout_of : PySem.W.keepIn K (.ref a_bezout_of) = true)
    (a1_turned_east : PySem.W.nsIn K mainGlobals "turned_east" = some (some (.ref a_turned_east)))
    (l1_turned_east : K.lookup a_turned_east = some ⟨oc_turned_east, od_turned_east, .func (PySem.W.fnOf "turned_east" "turned_east" (defArgs st_turned_east) (defBody st_turned_east) (defScope st_turned_east) .none kV_turned_east dc_turned_east pm_turned_east an_turned_east cd_turned_east ct_turned_east), sl_turned_east⟩)
    (c1_turned_east : PySem.W.codeIn K cd_turned_east "turned_east" = true)
    (k1_turned_east : PySem.W.keepIn K (.ref a_turned_east) = true)
    (a1_least_list : PySem.W.nsIn K mainGlobals "least_list" = some (some (.ref a_least_list)))
    (l1_least_list : K.lookup a_least_list = some ⟨oc_least_list, od_least_list, .func (PySem.W.fnOf "least_list" "least_list" (defArgs st_least_list) (defBody st_least_list) (defScope st_least_list) .none kV_least_list dc_least_list pm_least_list an_least_list cd_least_list ct_least_list), sl_least_list⟩)
    (c1_least_list : PySem.W.codeIn K cd_least_list "least_list" = true)
    (k1_least_list : PySem.W.keepIn K (.ref a_least_list) = true)
    (a1_need_places : PySem.W.nsIn K mainGlobals "need_places" = some (some (.ref a_need_places)))
    (l1_need_places : K.lookup a_need_places = some ⟨oc_need_places, od_need_places, .func (PySem.W.fnOf "need_places" "need_places" (defArgs st_need_places) (defBody st_need_places) (defScope st_need_places) .none kV_need_places dc_need_places pm_need_places an_need_places cd_need_places ct_need_places), sl_need_places⟩)
    (c1_need_places : PySem.W.codeIn K cd_need_places "need_places" = true)
    (k1_need_places : PySem.W.keepIn K (.ref a_need_places) = true)
    (a1_alike : PySem.W.nsIn K mainGlobals "alike" = some (some (.ref a_alike)))
    (l1_alike : K.lookup a_alike = some ⟨oc_alike, od_alike, .func (PySem.W.fnOf "alike" "alike" (defArgs st_alike) (defBody st_alike) (defScope st_alike) .none kV_alike dc_alike pm_alike an_alike cd_alike ct_alike), sl_alike⟩)
    (c1_alike : PySem.W.codeIn K cd_alike "alike" = true)
    (k1_alike : PySem.W.keepIn K (.ref a_alike) = true)
    (a1_orders_of : PySem.W.nsIn K mainGlobals "orders_of" = some (some (.ref a_orders_of)))
    (l1_orders_of : K.lookup a_orders_of = some ⟨oc_orders_of, od_orders_of, .func (PySem.W.fnOf "orders_of" "orders_of" (defArgs st_orders_of) (defBody st_orders_of) (defScope st_orders_of) .none kV_orders_of dc_orders_of pm_orders_of an_orders_of cd_orders_of ct_orders_of), sl_orders_of⟩)
    (c1_orders_of : PySem.W.codeIn K cd_orders_of "orders_of" = true)
    (k1_orders_of : PySem.W.keepIn K (.ref a_orders_of) = true)
    (a1_alike_lots : PySem.W.nsIn K mainGlobals "alike_lots" = some (some (.ref a_alike_lots)))
    (l1_alike_lots : K.lookup a_alike_lots = some ⟨oc_alike_lots, od_alike_lots, .func (PySem.W.fnOf "alike_lots" "alike_lots" (defArgs st_alike_lots) (defBody st_alike_lots) (defScope st_alike_lots) .none kV_alike_lots dc_alike_lots pm_alike_lots an_alike_lots cd_alike_lots ct_alike_lots), sl_alike_lots⟩)
    (c1_alike_lots : PySem.W.codeIn K cd_alike_lots "alike_lots" = true)
    (k1_alike_lots : PySem.W.keepIn K (.ref a_alike_lots) = true)
    (a1_list_key : PySem.W.nsIn K mainGlobals "list_key" = some (some (.ref a_list_key)))
    (l1_list_key : K.lookup a_list_key = some ⟨oc_list_key, od_list_key, .func (PySem.W.fnOf "list_key" "list_key" (defArgs st_list_key) (defBody st_list_key) (defScope st_list_key) .none kV_list_key dc_list_key pm_list_key an_list_key cd_list_key ct_list_key), sl_list_key⟩)
    (c1_list_key : PySem.W.codeIn K cd_list_key "list_key" = true)
    (k1_list_key : PySem.W.keepIn K (.ref a_list_key) = true)
    (a1_lot_key : PySem.W.nsIn K mainGlobals "lot_key" = some (some (.ref a_lot_key)))
    (l1_lot_key : K.lookup a_lot_key = some ⟨oc_lot_key, od_lot_key, .func (PySem.W.fnOf "lot_key" "lot_key" (defArgs st_lot_key) (defBody st_lot_key) (defScope st_lot_key) .none kV_lot_key dc_lot_key pm_lot_key an_lot_key cd_lot_key ct_lot_key), sl_lot_key⟩)
    (c1_lot_key : PySem.W.codeIn K cd_lot_key "lot_key" = true)
    (k1_lot_key : PySem.W.keepIn K (.ref a_lot_key) = true)
    (a1_law : PySem.W.nsIn K mainGlobals "law" = some (some (.ref a_law)))
    (l1_law : K.lookup a_law = some ⟨oc_law, od_law, .func (PySem.W.fnOf "law" "law" (defArgs st_law) (defBody st_law) (defScope st_law) .none kV_law dc_law pm_law an_law cd_law ct_law), sl_law⟩)
    (c1_law : PySem.W.codeIn K cd_law "law" = true)
    (k1_law : PySem.W.keepIn K (.ref a_law) = true)
    (z1_abs : PySem.W.nsIn K mainGlobals "abs" = some none)
    (z1_all : PySem.W.nsIn K mainGlobals "all" = some none)
    (z1_bool : PySem.W.nsIn K mainGlobals "bool" = some none)
    (z1_enumerate : PySem.W.nsIn K mainGlobals "enumerate" = some none)
    (z1_int : PySem.W.nsIn K mainGlobals "int" = some none)
    (z1_isinstance : PySem.W.nsIn K mainGlobals "isinstance" = some none)
    (z1_len : PySem.W.nsIn K mainGlobals "len" = some none)
    (z1_list : PySem.W.nsIn K mainGlobals "list" = some none)
    (z1_range : PySem.W.nsIn K mainGlobals "range" = some none)
    (z1_tuple : PySem.W.nsIn K mainGlobals "tuple" = some none)
    (hl : ∀ ns : List Int, ns.length ≤ 63 → (∀ z ∈ ns, Builtin.Int.intBits z ≤ 1048576) → ∃ S, g_law [.scr (ns.map D.int)] [] = .ok (.bl true) S) :
    LamX.LawAtS l w K (L2.CX l.prog w) 21 63 "_law_script" mg fa h := by
  have e := hfa.symm.trans (PySem.W.mg_of X G0 a1_law)
  cases e
  let G : Gam := { K := K, ct := fun c => if c = "Place" then some C_Place else if c = "Renaming" then some C_Renaming else if c = "BadNumber" then some C_BadNumber else if c = "BadPlace" then some C_BadPlace else if c = "NotOnto" then some C_NotOnto else if c = "Uneven" then some C_Uneven else none, ft := fun c => none, tab := tabG [], tabM := tabG_mono _ }
  have cF_Place := clsF cB_Place
  have cF_Renaming := clsF cB_Renaming
  have ct_Place : G.ct "Place" = some C_Place := by simp [G]
  have ct_Renaming : G.ct "Renaming" = some C_Renaming := by simp [G]
  have ct_BadNumber : G.ct "BadNumber" = some C_BadNumber := by simp [G]
  have ct_BadPlace : G.ct "BadPlace" = some C_BadPlace := by simp [G]
  have ct_NotOnto : G.ct "NotOnto" = some C_NotOnto := by simp [G]
  have ct_Uneven : G.ct "Uneven" = some C_Uneven := by simp [G]
  have F__law_begin := fun_mk (st := st__law_begin) l1__law_begin c1__law_begin k1__law_begin
  have F__law_draw := fun_mk (st := st__law_draw) l1__law_draw c1__law_draw k1__law_draw
  have F__law_gcd := fun_mk (st := st__law_gcd) l1__law_gcd c1__law_gcd k1__law_gcd
  have F__law_made := fun_mk (st := st__law_made) l1__law_made c1__law_made k1__law_made
  have F__law_join := fun_mk (st := st__law_join) l1__law_join c1__law_join k1__law_join
  have F__law_times := fun_mk (st := st__law_times) l1__law_times c1__law_times k1__law_times
  have F__law_twist := fun_mk (st := st__law_twist) l1__law_twist c1__law_twist k1__law_twist
  have F__law_renamed := fun_mk (st := st__law_renamed) l1__law_renamed c1__law_renamed k1__law_renamed
  have F__law_straight := fun_mk (st := st__law_straight) l1__law_straight c1__law_straight k1__law_straight
  have F__law_due := fun_mk (st := st__law_due) l1__law_due c1__law_due k1__law_due
  have F__law_pick := fun_mk (st := st__law_pick) l1__law_pick c1__law_pick k1__law_pick
  have F__law_mid := fun_mk (st := st__law_mid) l1__law_mid c1__law_mid k1__law_mid
  have F__law_mid_drawn := fun_mk (st := st__law_mid_drawn) l1__law_mid_drawn c1__law_mid_drawn k1__law_mid_drawn
  have F__law_onto := fun_mk (st := st__law_onto) l1__law_onto c1__law_onto k1__law_onto
  have F_is_integer := fun_mk (st := st_is_integer) l1_is_integer c1_is_integer k1_is_integer
  have F_PlaceX_initX := fun_mk (st := st_PlaceX_initX) l1_PlaceX_initX c1_PlaceX_initX k1_PlaceX_initX
  have F__law_place := fun_mk (st := st__law_place) l1__law_place c1__law_place k1__law_place
  have F__law_whole := fun_mk (st := st__law_whole) l1__law_whole c1__law_whole k1__law_whole
  have F__law_row := fun_mk (st := st__law_row) l1__law_row c1__law_row k1__law_row
  have F__law_six := fun_mk (st := st__law_six) l1__law_six c1__law_six k1__law_six
  have F_PlaceX_eqX := fun_mk (st := st_PlaceX_eqX) l1_PlaceX_eqX c1_PlaceX_eqX k1_PlaceX_eqX
  have F_Place_lifted := fun_mk (st := st_Place_lifted) l1_Place_lifted c1_Place_lifted k1_Place_lifted
  have F_need_place := fun_mk (st := st_need_place) l1_need_place c1_need_place k1_need_place
  have F_Place_twist := fun_mk (st := st_Place_twist) l1_Place_twist c1_Place_twist k1_Place_twist
  have F_RenamingX_initX := fun_mk (st := st_RenamingX_initX) l1_RenamingX_initX c1_RenamingX_initX k1_RenamingX_initX
  have F_PlaceX_mulX := fun_mk (st := st_PlaceX_mulX) l1_PlaceX_mulX c1_PlaceX_mulX k1_PlaceX_mulX
  have F_pairs_below := fun_mk (st := st_pairs_below) l1_pairs_below c1_pairs_below k1_pairs_below
  have F_Place_power := fun_mk (st := st_Place_power) l1_Place_power c1_Place_power k1_Place_power
  have F_led_by := fun_mk (st := st_led_by) l1_led_by c1_led_by k1_led_by
  have F_RenamingX_invertX := fun_mk (st := st_RenamingX_invertX) l1_RenamingX_invertX c1_RenamingX_invertX k1_RenamingX_invertX
  have F_RenamingX_mulX := fun_mk (st := st_RenamingX_mulX) l1_RenamingX_mulX c1_RenamingX_mulX k1_RenamingX_mulX
  have F_figures_of := fun_mk (st := st_figures_of) l1_figures_of c1_figures_of k1_figures_of
  have F_first_at := fun_mk (st := st_first_at) l1_first_at c1_first_at k1_first_at
  have F_RenamingX_callX := fun_mk (st := st_RenamingX_callX) l1_RenamingX_callX c1_RenamingX_callX k1_RenamingX_callX
  have F_renamed_all := fun_mk (st := st_renamed_all) l1_renamed_all c1_renamed_all k1_renamed_all
  have F_same_names := fun_mk (st := st_same_names) l1_same_names c1_same_names k1_same_names
  have F_leaned_north := fun_mk (st := st_leaned_north) l1_leaned_north c1_leaned_north k1_leaned_north
  have F_lowered_areas := fun_mk (st := st_lowered_areas) l1_lowered_areas c1_lowered_areas k1_lowered_areas
  have F_bezout_of := fun_mk (st := st_bezout_of) l1_bezout_of c1_bezout_of k1_bezout_of
  have F_turned_east := fun_mk (st := st_turned_east) l1_turned_east c1_turned_east k1_turned_east
  have F_least_list := fun_mk (st := st_least_list) l1_least_list c1_least_list k1_least_list
  have F_need_places := fun_mk (st := st_need_places) l1_need_places c1_need_places k1_need_places
  have F_alike := fun_mk (st := st_alike) l1_alike c1_alike k1_alike
  have F_orders_of := fun_mk (st := st_orders_of) l1_orders_of c1_orders_of k1_orders_of
  have F_alike_lots := fun_mk (st := st_alike_lots) l1_alike_lots c1_alike_lots k1_alike_lots
  have F_list_key := fun_mk (st := st_list_key) l1_list_key c1_list_key k1_list_key
  have F_lot_key := fun_mk (st := st_lot_key) l1_lot_key c1_lot_key k1_lot_key
  have F_law := fun_mk (st := st_law) l1_law c1_law k1_law
  have mkE : ∀ base : Heap, (∀ m ∈ ([] : List (String × Addr × Addr)), LamX.TabB base mg m.2.1 m.2.2) → ∃ e : Ev l.prog G mg base, e.a_law = fa ∧ e.fd_law = (PySem.W.fnOf "law" "law" (defArgs st_law) (defBody st_law) (defScope st_law) .none kV_law dc_law pm_law an_law cd_law ct_law) := fun base tb => ⟨{
    C_Place := C_Place
    ct_Place := ct_Place
    cl_Place := cF_Place.cl
    m_Place := PySem.W.mg_of X G0 aC_Place
    sf_Place := cF_Place.sf
    ne_Place := cF_Place.ne
    mo_Place := cF_Place.mo
    na_Place_x := cF_Place.na _ (by simp)
    na_Place_y := cF_Place.na _ (by simp)
    na_Place_area := cF_Place.na _ (by simp)
    C_Renaming := C_Renaming
    ct_Renaming := ct_Renaming
    cl_Renaming := cF_Renaming.cl
    m_Renaming := PySem.W.mg_of X G0 aC_Renaming
    sf_Renaming := cF_Renaming.sf
    ne_Renaming := cF_Renaming.ne
    mo_Renaming := cF_Renaming.mo
    na_Renaming_east := cF_Renaming.na _ (by simp)
    na_Renaming_north := cF_Renaming.na _ (by simp)
    C_BadNumber := C_BadNumber
    ct_BadNumber := ct_BadNumber
    m_BadNumber := PySem.W.mg_of X G0 aC_BadNumber
    fI_BadNumber := fI_BadNumber
    xfd_BadNumber := _
    X_BadNumber := xfacts_of (G := G) ct_BadNumber xl_BadNumber xr_BadNumber xi_BadNumber xf_BadNumber xc_BadNumber xd_BadNumber xv_BadNumber xe_BadNumber xk_BadNumber xB_BadNumber xtop (PySem.W.mg_none_of X G0 xsup) xsh_BadNumber (by decide) (by decide) (by decide) (fun us hl => match us, hl with | [_, _], _ => rfl)
    C_BadPlace := C_BadPlace
    ct_BadPlace := ct_BadPlace
    m_BadPlace := PySem.W.mg_of X G0 aC_BadPlace
    fI_BadPlace := fI_BadPlace
    xfd_BadPlace := _
    X_BadPlace := xfacts_of (G := G) ct_BadPlace xl_BadPlace xr_BadPlace xi_BadPlace xf_BadPlace xc_BadPlace xd_BadPlace xv_BadPlace xe_BadPlace xk_BadPlace xB_BadPlace xtop (PySem.W.mg_none_of X G0 xsup) xsh_BadPlace (by decide) (by decide) (by decide) (fun us hl => match us, hl with | [_, _], _ => rfl)
    C_NotOnto := C_NotOnto
    ct_NotOnto := ct_NotOnto
    m_NotOnto := PySem.W.mg_of X G0 aC_NotOnto
    fI_NotOnto := fI_NotOnto
    xfd_NotOnto := _
    X_NotOnto := xfacts_of (G := G) ct_NotOnto xl_NotOnto xr_NotOnto xi_NotOnto xf_NotOnto xc_NotOnto xd_NotOnto xv_NotOnto xe_NotOnto xk_NotOnto xB_NotOnto xtop (PySem.W.mg_none_of X G0 xsup) xsh_NotOnto (by decide) (by decide) (by decide) (fun us hl => match us, hl with | [_, _], _ => rfl)
    C_Uneven := C_Uneven
    ct_Uneven := ct_Uneven
    m_Uneven := PySem.W.mg_of X G0 aC_Uneven
    a__law_begin := a__law_begin
    fd__law_begin := _
    F__law_begin := F__law_begin
    b__law_begin := F__law_begin.binds (ps := ["_law_script"]) fun _ _ _ _ _ _ us hl => match us, hl with | [_], _ => rfl
    m__law_begin := PySem.W.mg_of X G0 a1__law_begin
    a__law_draw := a__law_draw
    fd__law_draw := _
    F__law_draw := F__law_draw
    b__law_draw := F__law_draw.binds (ps := ["_law_pen", "_law_span"]) fun _ _ _ _ _ _ us hl => match us, hl with | [_, _], _ => rfl
    m__law_draw := PySem.W.mg_of X G0 a1__law_draw
    a__law_gcd := a__law_gcd
    fd__law_gcd := _
    F__law_gcd := F__law_gcd
    b__law_gcd := F__law_gcd.binds (ps := ["_law_one", "_law_other"]) fun _ _ _ _ _ _ us hl => match us, hl with | [_, _], _ => rfl
    m__law_gcd := PySem.W.mg_of X G0 a1__law_gcd
    a__law_made := a__law_made
    fd__law_made := _
    F__law_made := F__law_made
    b__law_made := F__law_made.binds (ps := ["_law_a", "_law_b"]) fun _ _ _ _ _ _ us hl => match us, hl with | [_, _], _ => rfl
    m__law_made := PySem.W.mg_of X G0 a1__law_made
    a__law_join := a__law_join
    fd__law_join := _
    F__law_join := F__law_join
    b__law_join := F__law_join.binds (ps := ["_law_one", "_law_other"]) fun _ _ _ _ _ _ us hl => match us, hl with | [_, _], _ => rfl
    m__law_join := PySem.W.mg_of X G0 a1__law_join
    a__law_times := a__law_times
    fd__law_times := _
    F__law_times := F__law_times
    b__law_times := F__law_times.binds (ps := ["_law_one", "_law_number"]) fun _ _ _ _ _ _ us hl => match us, hl with | [_, _], _ => rfl
    m__law_times := PySem.W.mg_of X G0 a1__law_times
    a__law_twist := a__law_twist
    fd__law_twist := _
    F__law_twist := F__law_twist
    b__law_twist := F__law_twist.binds (ps := ["_law_one", "_law_other"]) fun _ _ _ _ _ _ us hl => match us, hl with | [_, _], _ => rfl
    m__law_twist := PySem.W.mg_of X G0 a1__law_twist
    a__law_renamed := a__law_renamed
    fd__law_renamed := _
    F__law_renamed := F__law_renamed
    b__law_renamed := F__law_renamed.binds (ps := ["_law_six_here", "_law_row_here"]) fun _ _ _ _ _ _ us hl => match us, hl with | [_, _], _ => rfl
    m__law_renamed := PySem.W.mg_of X G0 a1__law_renamed
    a__law_straight := a__law_straight
    fd__law_straight := _
    F__law_straight := F__law_straight
    b__law_straight := F__law_straight.binds (ps := ["_law_row_here"]) fun _ _ _ _ _ _ us hl => match us, hl with | [_], _ => rfl
    m__law_straight := PySem.W.mg_of X G0 a1__law_straight
    a__law_due := a__law_due
    fd__law_due := _
    F__law_due := F__law_due
    b__law_due := F__law_due.binds (ps := ["_law_one", "_law_other"]) fun _ _ _ _ _ _ us hl => match us, hl with | [_, _], _ => rfl
    m__law_due := PySem.W.mg_of X G0 a1__law_due
    a__law_pick := a__law_pick
    fd__law_pick := _
    F__law_pick := F__law_pick
    b__law_pick := F__law_pick.binds (ps := ["_law_pen", "_law_some"]) fun _ _ _ _ _ _ us hl => match us, hl with | [_, _], _ => rfl
    m__law_pick := PySem.W.mg_of X G0 a1__law_pick
    a__law_mid := a__law_mid
    fd__law_mid := _
    F__law_mid := F__law_mid
    b__law_mid := F__law_mid.binds (ps := ["_law_pen"]) fun _ _ _ _ _ _ us hl => match us, hl with | [_], _ => rfl
    m__law_mid := PySem.W.mg_of X G0 a1__law_mid
    a__law_mid_drawn := a__law_mid_drawn
    fd__law_mid_drawn := _
    F__law_mid_drawn := F__law_mid_drawn
    b__law_mid_drawn := F__law_mid_drawn.binds (ps := ["_law_pen"]) fun _ _ _ _ _ _ us hl => match us, hl with | [_], _ => rfl
    m__law_mid_drawn := PySem.W.mg_of X G0 a1__law_mid_drawn
    a__law_onto := a__law_onto
    fd__law_onto := _
    F__law_onto := F__law_onto
    b__law_onto := F__law_onto.binds (ps := ["_law_pen"]) fun _ _ _ _ _ _ us hl => match us, hl with | [_], _ => rfl
    m__law_onto := PySem.W.mg_of X G0 a1__law_onto
    a_is_integer := a_is_integer
    fd_is_integer := _
    F_is_integer := F_is_integer
    b_is_integer := F_is_integer.binds (ps := ["value"]) fun _ _ _ _ _ _ us hl => match us, hl with | [_], _ => rfl
    m_is_integer := PySem.W.mg_of X G0 a1_is_integer
    a_PlaceX_initX := a_PlaceX_initX
    fd_PlaceX_initX := _
    F_PlaceX_initX := F_PlaceX_initX
    b_PlaceX_initX := F_PlaceX_initX.binds (ps := ["self", "x", "y", "area"]) fun _ _ _ _ _ _ us hl => match us, hl with | [_, _, _, _], _ => rfl
    M_PlaceX_initX := ⟨a1_PlaceX_initX, i1_PlaceX_initX, k1_PlaceX_initX⟩
    a__law_place := a__law_place
    fd__law_place := _
    F__law_place := F__law_place
    b__law_place := F__law_place.binds (ps := ["_law_row_here"]) fun _ _ _ _ _ _ us hl => match us, hl with | [_], _ => rfl
    m__law_place := PySem.W.mg_of X G0 a1__law_place
    a__law_whole := a__law_whole
    fd__law_whole := _
    F__law_whole := F__law_whole
    b__law_whole := F__law_whole.binds (ps := ["_law_value"]) fun _ _ _ _ _ _ us hl => match us, hl with | [_], _ => rfl
    m__law_whole := PySem.W.mg_of X G0 a1__law_whole
    a__law_row := a__law_row
    fd__law_row := _
    F__law_row := F__law_row
    b__law_row := F__law_row.binds (ps := ["_law_place_here"]) fun _ _ _ _ _ _ us hl => match us, hl with | [_], _ => rfl
    m__law_row := PySem.W.mg_of X G0 a1__law_row
    a__law_six := a__law_six
    fd__law_six := _
    F__law_six := F__law_six
    b__law_six := F__law_six.binds (ps := ["_law_renaming"]) fun _ _ _ _ _ _ us hl => match us, hl with | [_], _ => rfl
    m__law_six := PySem.W.mg_of X G0 a1__law_six
    a_PlaceX_eqX := a_PlaceX_eqX
    fd_PlaceX_eqX := _
    F_PlaceX_eqX := F_PlaceX_eqX
    b_PlaceX_eqX := F_PlaceX_eqX.binds (ps := ["self", "other"]) fun _ _ _ _ _ _ us hl => match us, hl with | [_, _], _ => rfl
    M_PlaceX_eqX := ⟨a1_PlaceX_eqX, i1_PlaceX_eqX, k1_PlaceX_eqX⟩
    a_Place_lifted := a_Place_lifted
    fd_Place_lifted := _
    F_Place_lifted := F_Place_lifted
    b_Place_lifted := F_Place_lifted.binds (ps := ["self", "storeys"]) fun _ _ _ _ _ _ us hl => match us, hl with | [_, _], _ => rfl
    M_Place_lifted := ⟨a1_Place_lifted, i1_Place_lifted, k1_Place_lifted⟩
    a_need_place := a_need_place
    fd_need_place := _
    F_need_place := F_need_place
    b_need_place := F_need_place.binds (ps := ["value"]) fun _ _ _ _ _ _ us hl => match us, hl with | [_], _ => rfl
    m_need_place := PySem.W.mg_of X G0 a1_need_place
    a_Place_twist := a_Place_twist
    fd_Place_twist := _
    F_Place_twist := F_Place_twist
    b_Place_twist := F_Place_twist.binds (ps := ["self", "other"]) fun _ _ _ _ _ _ us hl => match us, hl with | [_, _], _ => rfl
    M_Place_twist := ⟨a1_Place_twist, i1_Place_twist, k1_Place_twist⟩
    a_RenamingX_initX := a_RenamingX_initX
    fd_RenamingX_initX := _
    F_RenamingX_initX := F_RenamingX_initX
    b_RenamingX_initX := F_RenamingX_initX.binds (ps := ["self", "east", "north"]) fun _ _ _ _ _ _ us hl => match us, hl with | [_, _, _], _ => rfl
    M_RenamingX_initX := ⟨a1_RenamingX_initX, i1_RenamingX_initX, k1_RenamingX_initX⟩
    a_PlaceX_mulX := a_PlaceX_mulX
    fd_PlaceX_mulX := _
    F_PlaceX_mulX := F_PlaceX_mulX
    b_PlaceX_mulX := F_PlaceX_mulX.binds (ps := ["self", "other"]) fun _ _ _ _ _ _ us hl => match us, hl with | [_, _], _ => rfl
    M_PlaceX_mulX := ⟨a1_PlaceX_mulX, i1_PlaceX_mulX, k1_PlaceX_mulX⟩
    a_pairs_below := a_pairs_below
    fd_pairs_below := _
    F_pairs_below := F_pairs_below
    b_pairs_below := F_pairs_below.binds (ps := ["number"]) fun _ _ _ _ _ _ us hl => match us, hl with | [_], _ => rfl
    m_pairs_below := PySem.W.mg_of X G0 a1_pairs_below
    a_Place_power := a_Place_power
    fd_Place_power := _
    F_Place_power := F_Place_power
    b_Place_power := F_Place_power.binds (ps := ["self", "number"]) fun _ _ _ _ _ _ us hl => match us, hl with | [_, _], _ => rfl
    M_Place_power := ⟨a1_Place_power, i1_Place_power, k1_Place_power⟩
    a_led_by := a_led_by
    fd_led_by := _
    F_led_by := F_led_by
    b_led_by := F_led_by.binds (ps := ["east", "north", "place"]) fun _ _ _ _ _ _ us hl => match us, hl with | [_, _, _], _ => rfl
    m_led_by := PySem.W.mg_of X G0 a1_led_by
    a_RenamingX_invertX := a_RenamingX_invertX
    fd_RenamingX_invertX := _
    F_RenamingX_invertX := F_RenamingX_invertX
    b_RenamingX_invertX := F_RenamingX_invertX.binds (ps := ["self"]) fun _ _ _ _ _ _ us hl => match us, hl with | [_], _ => rfl
    M_RenamingX_invertX := ⟨a1_RenamingX_invertX, i1_RenamingX_invertX, k1_RenamingX_invertX⟩
    a_RenamingX_mulX := a_RenamingX_mulX
    fd_RenamingX_mulX := _
    F_RenamingX_mulX := F_RenamingX_mulX
    b_RenamingX_mulX := F_RenamingX_mulX.binds (ps := ["self", "other"]) fun _ _ _ _ _ _ us hl => match us, hl with | [_, _], _ => rfl
    M_RenamingX_mulX := ⟨a1_RenamingX_mulX, i1_RenamingX_mulX, k1_RenamingX_mulX⟩
    a_figures_of := a_figures_of
    fd_figures_of := _
    F_figures_of := F_figures_of
    b_figures_of := F_figures_of.binds (ps := ["places"]) fun _ _ _ _ _ _ us hl => match us, hl with | [_], _ => rfl
    m_figures_of := PySem.W.mg_of X G0 a1_figures_of
    a_first_at := a_first_at
    fd_first_at := _
    F_first_at := F_first_at
    b_first_at := F_first_at.binds (ps := ["places", "asked"]) fun _ _ _ _ _ _ us hl => match us, hl with | [_, _], _ => rfl
    m_first_at := PySem.W.mg_of X G0 a1_first_at
    a_RenamingX_callX := a_RenamingX_callX
    fd_RenamingX_callX := _
    F_RenamingX_callX := F_RenamingX_callX
    b_RenamingX_callX := F_RenamingX_callX.binds (ps := ["self", "place"]) fun _ _ _ _ _ _ us hl => match us, hl with | [_, _], _ => rfl
    M_RenamingX_callX := ⟨a1_RenamingX_callX, i1_RenamingX_callX, k1_RenamingX_callX⟩
    a_renamed_all := a_renamed_all
    fd_renamed_all := _
    F_renamed_all := F_renamed_all
    b_renamed_all := F_renamed_all.binds (ps := ["renaming", "places"]) fun _ _ _ _ _ _ us hl => match us, hl with | [_, _], _ => rfl
    m_renamed_all := PySem.W.mg_of X G0 a1_renamed_all
    a_same_names := a_same_names
    fd_same_names := _
    F_same_names := F_same_names
    b_same_names := F_same_names.binds (ps := []) fun _ _ _ _ _ _ us hl => match us, hl with | [], _ => rfl
    m_same_names := PySem.W.mg_of X G0 a1_same_names
    a_leaned_north := a_leaned_north
    fd_leaned_north := _
    F_leaned_north := F_leaned_north
    b_leaned_north := F_leaned_north.binds (ps := ["places"]) fun _ _ _ _ _ _ us hl => match us, hl with | [_], _ => rfl
    m_leaned_north := PySem.W.mg_of X G0 a1_leaned_north
    a_lowered_areas := a_lowered_areas
    fd_lowered_areas := _
    F_lowered_areas := F_lowered_areas
    b_lowered_areas := F_lowered_areas.binds (ps := ["places"]) fun _ _ _ _ _ _ us hl => match us, hl with | [_], _ => rfl
    m_lowered_areas := PySem.W.mg_of X G0 a1_lowered_areas
    a_bezout_of := a_bezout_of
    fd_bezout_of := _
    F_bezout_of := F_bezout_of
    b_bezout_of := F_bezout_of.binds (ps := ["one", "other"]) fun _ _ _ _ _ _ us hl => match us, hl with | [_, _], _ => rfl
    m_bezout_of := PySem.W.mg_of X G0 a1_bezout_of
    a_turned_east := a_turned_east
    fd_turned_east := _
    F_turned_east := F_turned_east
    b_turned_east := F_turned_east.binds (ps := ["places"]) fun _ _ _ _ _ _ us hl => match us, hl with | [_], _ => rfl
    m_turned_east := PySem.W.mg_of X G0 a1_turned_east
    a_least_list := a_least_list
    fd_least_list := _
    F_least_list := F_least_list
    b_least_list := F_least_list.binds (ps := ["places"]) fun _ _ _ _ _ _ us hl => match us, hl with | [_], _ => rfl
    m_least_list := PySem.W.mg_of X G0 a1_least_list
    a_need_places := a_need_places
    fd_need_places := _
    F_need_places := F_need_places
    b_need_places := F_need_places.binds (ps := ["values"]) fun _ _ _ _ _ _ us hl => match us, hl with | [_], _ => rfl
    m_need_places := PySem.W.mg_of X G0 a1_need_places
    a_alike := a_alike
    fd_alike := _
    F_alike := F_alike
    b_alike := F_alike.binds (ps := ["places", "others"]) fun _ _ _ _ _ _ us hl => match us, hl with | [_, _], _ => rfl
    m_alike := PySem.W.mg_of X G0 a1_alike
    a_orders_of := a_orders_of
    fd_orders_of := _
    F_orders_of := F_orders_of
    b_orders_of := F_orders_of.binds (ps := ["number"]) fun _ _ _ _ _ _ us hl => match us, hl with | [_], _ => rfl
    m_orders_of := PySem.W.mg_of X G0 a1_orders_of
    a_alike_lots := a_alike_lots
    fd_alike_lots := _
    F_alike_lots := F_alike_lots
    b_alike_lots := F_alike_lots.binds (ps := ["places", "others"]) fun _ _ _ _ _ _ us hl => match us, hl with | [_, _], _ => rfl
    m_alike_lots := PySem.W.mg_of X G0 a1_alike_lots
    a_list_key := a_list_key
    fd_list_key := _
    F_list_key := F_list_key
    b_list_key := F_list_key.binds (ps := ["places"]) fun _ _ _ _ _ _ us hl => match us, hl with | [_], _ => rfl
    m_list_key := PySem.W.mg_of X G0 a1_list_key
    a_lot_key := a_lot_key
    fd_lot_key := _
    F_lot_key := F_lot_key
    b_lot_key := F_lot_key.binds (ps := ["places"]) fun _ _ _ _ _ _ us hl => match us, hl with | [_], _ => rfl
    m_lot_key := PySem.W.mg_of X G0 a1_lot_key
    a_law := fa
    fd_law := _
    F_law := F_law
    b_law := F_law.binds (ps := ["_law_script"]) fun _ _ _ _ _ _ us hl => match us, hl with | [_], _ => rfl
    m_law := PySem.W.mg_of X G0 a1_law
    mk_Place := ⟨cF_Place.makes, a1_PlaceX_initX, i1_PlaceX_initX, cF_Place.kp⟩
    mk_Renaming := ⟨cF_Renaming.makes, a1_RenamingX_initX, i1_RenamingX_initX, cF_Renaming.kp⟩
    f_area := fun c hc C hC => by
      simp only [List.mem_cons, List.not_mem_nil, or_false] at hc
      (subst hc; rw [ct_Place] at hC; cases hC; exact ⟨cF_Place.cl, by rw [← s_6]; exact cF_Place.na _ (by simp)⟩)
    f_east := fun c hc C hC => by
      simp only [List.mem_cons, List.not_mem_nil, or_false] at hc
      (subst hc; rw [ct_Renaming] at hC; cases hC; exact ⟨cF_Renaming.cl, by rw [← s_8]; exact cF_Renaming.na _ (by simp)⟩)
    f_north := fun c hc C hC => by
      simp only [List.mem_cons, List.not_mem_nil, or_false] at hc
      (subst hc; rw [ct_Renaming] at hC; cases hC; exact ⟨cF_Renaming.cl, by rw [← s_7]; exact cF_Renaming.na _ (by simp)⟩)
    f_x := fun c hc C hC => by
      simp only [List.mem_cons, List.not_mem_nil, or_false] at hc
      (subst hc; rw [ct_Place] at hC; cases hC; exact ⟨cF_Place.cl, by rw [← s_4]; exact cF_Place.na _ (by simp)⟩)
    f_y := fun c hc C hC => by
      simp only [List.mem_cons, List.not_mem_nil, or_false] at hc
      (subst hc; rw [ct_Place] at hC; cases hC; exact ⟨cF_Place.cl, by rw [← s_5]; exact cF_Place.na _ (by simp)⟩)
    z_abs := PySem.W.mg_none_of X G0 z1_abs
    z_all := PySem.W.mg_none_of X G0 z1_all
    z_bool := PySem.W.mg_none_of X G0 z1_bool
    z_enumerate := PySem.W.mg_none_of X G0 z1_enumerate
    z_int := PySem.W.mg_none_of X G0 z1_int
    z_isinstance := PySem.W.mg_none_of X G0 z1_isinstance
    z_len := PySem.W.mg_none_of X G0 z1_len
    z_list := PySem.W.mg_none_of X G0 z1_list
    z_range := PySem.W.mg_none_of X G0 z1_range
    z_tuple := PySem.W.mg_none_of X G0 z1_tuple
    iso := isOk_of (fun c hc => by
      simp only [List.mem_cons, List.not_mem_nil, or_false] at hc
      rcases hc with hc | hc
      · (subst hc; exact ⟨C_Place, _, ct_Place, cF_Place⟩)
      · (subst hc; exact ⟨C_Renaming, _, ct_Renaming, cF_Renaming⟩)) fun c hc c2 hc2 C1 C2 h1 h2 => by
      simp only [List.mem_cons, List.not_mem_nil, or_false] at hc hc2
      rcases hc with hc | hc <;> rcases hc2 with hc2 | hc2
      · subst hc; subst hc2; rw [ct_Place] at h1; rw [ct_Place] at h2; cases h1; cases h2; exact kit_self
      · subst hc; subst hc2; rw [ct_Place] at h1; rw [ct_Renaming] at h2; cases h1; cases h2; exact cc_Place_Renaming
      · subst hc; subst hc2; rw [ct_Renaming] at h1; rw [ct_Place] at h2; cases h1; cases h2; exact cc_Renaming_Place
      · subst hc; subst hc2; rw [ct_Renaming] at h1; rw [ct_Renaming] at h2; cases h1; cases h2; exact kit_self
    tabs := rfl }, rfl, rfl⟩
  exact lawAt_of (G := G) (g := g_law) (fd := (PySem.W.fnOf "law" "law" (defArgs st_law) (defBody st_law) (defScope st_law) .none kV_law dc_law pm_law an_law cd_law ct_law)) [] (fun m hm => by simp at hm) (fun m hm => by simp at hm) (List.nodup_nil) (fun s v => .of_eq rfl) (fun base tb => by
    obtain ⟨e, e1, e2⟩ := mkE base tb
    have o := ok_law (w0 := w) e
    rw [e1, e2] at o
    exact o) (fun m hm => by simp at hm) hl
end
end W_k49
set_option maxHeartbeats 4000000
/-! roots of places: the plain law -/
namespace RT
@[ext] structure Q3 where
  x : Int
  y : Int
  a : Int
def hlf (k : Int) : Int := (k * (k - 1)).fdiv 2
theorem hlf2 (k : Int) : 2 * hlf k = k * (k - 1) := by
  unfold hlf
  have h : (k * (k - 1)) % 2 = 0 := by
    rcases Int.emod_two_eq k with h | h
    · rw [Int.mul_emod, h]; simp
    · have : (k - 1) % 2 = 0 := by omega
      rw [Int.mul_emod, this]; simp
  rw [Int.fdiv_eq_ediv_of_nonneg _ (by decide)]
  omega
def pw (p : Q3) (k : Int) : Q3 := ⟨k * p.x, k * p.y, k * p.a + hlf k * p.x * p.y⟩
theorem hlf_mul (n m : Int) : m * hlf n + hlf m * (n * n) = hlf (n * m) := by
  have h1 := hlf2 n
  have h2 := hlf2 m
  have h3 := hlf2 (n * m)
  have : 2 * (m * hlf n + hlf m * (n * n)) = 2 * hlf (n * m) := by grind
  omega
theorem pw_pw (p : Q3) (n m : Int) : pw (pw p n) m = pw p (n * m) := by
  have h := hlf_mul n m
  ext <;> simp only [pw]
  · grind
  · grind
  · rw [← h]; grind
theorem pw_inj {p q : Q3} {m : Int} (hm : m ≠ 0) (h : pw p m = pw q m) : p = q := by
  have h1 : m * p.x = m * q.x := congrArg Q3.x h
  have h2 : m * p.y = m * q.y := congrArg Q3.y h
  have h3 : m * p.a + hlf m * p.x * p.y = m * q.a + hlf m * q.x * q.y := congrArg Q3.a h
  have e1 := Int.eq_of_mul_eq_mul_left hm h1
  have e2 := Int.eq_of_mul_eq_mul_left hm h2
  rw [e1, e2] at h3
  have e3 := Int.eq_of_mul_eq_mul_left hm (show m * p.a = m * q.a by omega)
  exact Q3.ext e1 e2 e3
theorem hlf_one : hlf 1 = 0 := by decide
theorem pw_one (p : Q3) : pw p 1 = p := by
  ext <;> simp [pw, hlf_one]
/-- N is the greatest number of times, and each other divides it -/
structure Big (P : Q3) (N : Int) : Prop where
  pos : 1 ≤ N
  has : ∃ B, pw B N = P
  all : ∀ n C, 1 ≤ n → pw C n = P → n ∣ N
theorem Big.iff {P : Q3} {N n : Int} (h : Big P N) (hn : 1 ≤ n) : (∃ C, pw C n = P) ↔ n ∣ N := by
  constructor
  · rintro ⟨C, e⟩; exact h.all n C hn e
  · rintro ⟨m, e⟩
    obtain ⟨B, hB⟩ := h.has
    exact ⟨pw B m, by rw [pw_pw, Int.mul_comm m n, ← e, hB]⟩
theorem Big.uniq {P : Q3} {N M : Int} (h : Big P N) (k : Big P M) : N = M := by
  obtain ⟨B, hB⟩ := h.has
  obtain ⟨C, hC⟩ := k.has
  exact Int.dvd_antisymm (by have := h.pos; omega) (by have := k.pos; omega) (k.all N B h.pos hB) (h.all M C k.pos hC)
theorem Big.pow {P : Q3} {N N' m : Int} (h : Big P N) (hm : m ≠ 0) (k : Big (pw P m) N') : N' = N * m.natAbs := by
  obtain ⟨B, hB⟩ := h.has
  obtain ⟨C, hC⟩ := k.has
  obtain ⟨s, hs1, hs2⟩ : ∃ s : Int, s * s = 1 ∧ (m.natAbs : Int) = s * m := by
    by_cases c : 0 ≤ m
    · exact ⟨1, rfl, by omega⟩
    · exact ⟨-1, rfl, by omega⟩
  have M0 : 1 ≤ (m.natAbs : Int) := by omega
  have p1 := h.pos
  have d1 : N * m.natAbs ∣ N' := by
    refine k.all _ (pw B s) ?_ ?_
    · have := Int.mul_le_mul p1 M0 (by decide) (by omega); omega
    · rw [pw_pw, ← hB, pw_pw]
      congr 1
      rw [hs2]
      grind
  obtain ⟨j, hj⟩ := d1
  have j1 : 1 ≤ j := by
    have := k.pos
    have h0 : 0 < N * (m.natAbs : Int) := Int.mul_pos (by omega) (by omega)
    rcases Int.lt_or_le 0 j with c | c
    · omega
    · have := Int.mul_nonpos_of_nonneg_of_nonpos (Int.le_of_lt h0) c
      omega
  have e : pw (pw C (N * j * s)) m = pw P m := by
    rw [pw_pw, ← hC]
    congr 1
    rw [hj, hs2]
    grind
  have e2 := pw_inj hm e
  have d2 : N * j ∣ N := h.all _ (pw C s) (by have := Int.mul_le_mul p1 j1 (by decide) (by omega); omega) (by rw [pw_pw, ← e2]; congr 1; grind)
  have j2 : j ∣ 1 := by
    obtain ⟨q, hq⟩ := d2
    exact ⟨q, Int.eq_of_mul_eq_mul_left (show N ≠ 0 by omega) (by grind)⟩
  have : j = 1 := Int.eq_one_of_dvd_one (by omega) j2
  subst this
  rw [hj]; omega
/-! ### when there is a root -/
theorem rt_iff {P : Q3} {g X Y n h : Int} (hx : P.x = g * X) (hy : P.y = g * Y) (hg : g = n * h) (hn : n ≠ 0) : (∃ C, pw C n = P) ↔ n ∣ P.a - hlf n * (h * X) * (h * Y) := by
  constructor
  · rintro ⟨C, e⟩
    have e1 : n * C.x = P.x := congrArg Q3.x e
    have e2 : n * C.y = P.y := congrArg Q3.y e
    have e3 : n * C.a + hlf n * C.x * C.y = P.a := congrArg Q3.a e
    have x1 : C.x = h * X := Int.eq_of_mul_eq_mul_left hn (by rw [e1, hx, hg]; grind)
    have y1 : C.y = h * Y := Int.eq_of_mul_eq_mul_left hn (by rw [e2, hy, hg]; grind)
    exact ⟨C.a, by rw [← e3, x1, y1]; omega⟩
  · rintro ⟨c, e⟩
    refine ⟨⟨h * X, h * Y, c⟩, ?_⟩
    ext <;> simp only [pw]
    · rw [hx, hg]; grind
    · rw [hy, hg]; grind
    · omega
theorem rt_dvd {P C : Q3} {n : Int} (e : pw C n = P) : n ∣ P.x ∧ n ∣ P.y := ⟨⟨C.x, (congrArg Q3.x e).symm⟩, ⟨C.y, (congrArg Q3.y e).symm⟩⟩
theorem odd_iff {n a u v : Int} (h : n % 2 = 1) : n ∣ a - hlf n * u * v ↔ n ∣ a := by
  have h2 := hlf2 n
  have : hlf n = n * ((n - 1) / 2) := by
    have e : n - 1 = 2 * ((n - 1) / 2) := by omega
    have : 2 * hlf n = 2 * (n * ((n - 1) / 2)) := by rw [h2]; grind
    omega
  have d : n ∣ hlf n * u * v := ⟨((n - 1) / 2) * u * v, by rw [this]; grind⟩
  constructor
  · intro k; have := Int.dvd_add k d; rwa [Int.sub_add_cancel] at this
  · intro k; exact Int.dvd_sub k d
theorem even_iff {n a u v w : Int} (h : u * v = 2 * w) : n ∣ a - hlf n * u * v ↔ n ∣ a := by
  have h2 := hlf2 n
  have d : n ∣ hlf n * u * v := ⟨(n - 1) * w, by
    have : hlf n * u * v = 2 * hlf n * w := by grind
    rw [this, h2]; grind⟩
  constructor
  · intro k; have := Int.dvd_add k d; rwa [Int.sub_add_cancel] at this
  · intro k; exact Int.dvd_sub k d
theorem half_iff {j a u v : Int} (hj : j ≠ 0) (h : (u * v) % 2 = 1) : 2 * j ∣ a - hlf (2 * j) * u * v ↔ ∃ f, a = j * f ∧ f % 2 = 1 := by
  have h2 := hlf2 (2 * j)
  have e : hlf (2 * j) = j * (2 * j - 1) := by
    have : 2 * hlf (2 * j) = 2 * (j * (2 * j - 1)) := by rw [h2]; grind
    omega
  have o : ((2 * j - 1) * (u * v)) % 2 = 1 := by rw [Int.mul_emod, h]; omega
  have e2 : hlf (2 * j) * u * v = j * ((2 * j - 1) * (u * v)) := by rw [e]; grind
  rw [e2]
  generalize (2 * j - 1) * (u * v) = z at o
  constructor
  · rintro ⟨c, hc⟩
    exact ⟨2 * c + z, by grind, by omega⟩
  · rintro ⟨f, rfl, hf⟩
    refine ⟨(f - z) / 2, ?_⟩
    have : f - z = 2 * ((f - z) / 2) := by omega
    have : j * f - j * z = j * (f - z) := by grind
    rw [this]
    grind
/-! ### twos -/
structure V2 (m : Int) (t : Nat) : Prop where
  yes : (2 : Int) ^ t ∣ m
  no : ¬ (2 : Int) ^ (t + 1) ∣ m
theorem two_cancel : ∀ (t : Nat) {n e : Int}, e % 2 = 1 → (2 : Int) ^ t ∣ n * e → (2 : Int) ^ t ∣ n
  | 0, n, e, _, _ => ⟨n, by simp⟩
  | t + 1, n, e, he, h => by
    have e2 : n % 2 = 0 := by
      obtain ⟨c, hc⟩ := h
      have : (n * e) % 2 = 0 := by
        rw [hc, Int.pow_succ]
        have : (2 : Int) ^ t * 2 * c = 2 * (2 ^ t * c) := by grind
        omega
      rw [Int.mul_emod, he] at this
      omega
    obtain ⟨k, hk⟩ : ∃ k, n = 2 * k := ⟨n / 2, by omega⟩
    have h' : (2 : Int) ^ t ∣ k * e := by
      obtain ⟨c, hc⟩ := h
      refine ⟨c, Int.eq_of_mul_eq_mul_left (show (2 : Int) ≠ 0 by decide) ?_⟩
      rw [hk, Int.pow_succ] at hc
      grind
    obtain ⟨c, hc⟩ := two_cancel t he h'
    exact ⟨c, by rw [hk, hc, Int.pow_succ]; grind⟩
theorem two_half {t : Nat} {a : Int} (h : (2 : Int) ^ (t + 1) ∣ 2 * a) : (2 : Int) ^ t ∣ a := by
  obtain ⟨c, hc⟩ := h
  exact ⟨c, Int.eq_of_mul_eq_mul_left (show (2 : Int) ≠ 0 by decide) (by rw [hc, Int.pow_succ]; grind)⟩
theorem two_dbl {t : Nat} {a : Int} (h : (2 : Int) ^ t ∣ a) : (2 : Int) ^ (t + 1) ∣ 2 * a := by
  obtain ⟨c, hc⟩ := h
  exact ⟨c, by rw [hc, Int.pow_succ]; grind⟩
theorem odd_mul {u v : Int} : (u * v) % 2 = 1 ↔ u % 2 = 1 ∧ v % 2 = 1 := by
  rcases Int.emod_two_eq u with h | h <;> rcases Int.emod_two_eq v with k | k <;> rw [Int.mul_emod, h, k] <;> simp
theorem dvd_of_le_two {t : Nat} {m : Int} (h : (2 : Int) ^ (t + 1) ∣ m) : m % 2 = 0 := by
  obtain ⟨c, hc⟩ := h
  have : m = 2 * (2 ^ t * c) := by rw [hc, Int.pow_succ]; grind
  omega
end RT
namespace RT
/-! ### the greatest one -/
theorem gdvd {P : Q3} {n : Int} (h1 : n ∣ P.x) (h2 : n ∣ P.y) : n ∣ (Int.gcd P.x P.y : Int) := Int.dvd_coe_gcd h1 h2
/-- all n with n | g: the plain case -/
theorem big_plain {P : Q3} {g d X Y : Int} (g0 : 0 < g) (hx : P.x = g * X) (hy : P.y = g * Y) (hg : ∀ n, n ∣ P.x → n ∣ P.y → n ∣ g) (d0 : 0 < d) (hd1 : d ∣ g) (hd2 : d ∣ P.a) (hd : ∀ n, n ∣ g → n ∣ P.a → n ∣ d)
    (h : ∀ n h, g = n * h → (n % 2 = 1 ∨ ∃ w, (h * X) * (h * Y) = 2 * w)) : Big P d := by
  have key : ∀ n h', g = n * h' → n ≠ 0 → ((∃ C, pw C n = P) ↔ n ∣ P.a) := fun n h' e hn => by
    rw [rt_iff hx hy e hn]
    rcases h n h' e with o | ⟨w, hw⟩
    · exact odd_iff o
    · exact even_iff hw
  refine ⟨d0, ?_, fun n C hn e => ?_⟩
  · obtain ⟨h', e⟩ := hd1
    exact (key d h' e (by omega)).mpr hd2
  · obtain ⟨q1, q2⟩ := rt_dvd e
    have q := hg n q1 q2
    obtain ⟨h', e'⟩ := q
    exact hd n ⟨h', e'⟩ ((key n h' e' (by omega)).mp ⟨C, e⟩)
theorem hh_odd {h X Y : Int} (hX : X % 2 = 1) (hY : Y % 2 = 1) (hh : h % 2 = 1) : ((h * X) * (h * Y)) % 2 = 1 := odd_mul.mpr ⟨odd_mul.mpr ⟨hh, hX⟩, odd_mul.mpr ⟨hh, hY⟩⟩
theorem hh_even {h X Y : Int} (hh : h % 2 = 0) : ∃ w, (h * X) * (h * Y) = 2 * w := ⟨(h / 2) * X * (h * Y), by
  have : h = 2 * (h / 2) := by omega
  grind⟩
section
variable {P : Q3} {g d X Y : Int} {t : Nat} (g0 : 0 < g) (hx : P.x = g * X) (hy : P.y = g * Y) (hg : ∀ n, n ∣ P.x → n ∣ P.y → n ∣ g) (d0 : 0 < d) (hd1 : d ∣ g) (hd2 : d ∣ P.a) (hd : ∀ n, n ∣ g → n ∣ P.a → n ∣ d) (hX : X % 2 = 1) (hY : Y % 2 = 1) (ht : V2 g (t + 1))
include g0 hx hy hg d0 hd1 hd2 hd hX hY ht
/-- a root: the two kinds -/
theorem kinds {n h : Int} (e : g = n * h) (hn : 1 ≤ n) : (∃ C, pw C n = P) ↔ (h % 2 = 0 ∧ n ∣ P.a) ∨ (h % 2 = 1 ∧ ∃ j f, n = 2 * j ∧ P.a = j * f ∧ f % 2 = 1) := by
  rw [rt_iff hx hy e (by omega)]
  rcases Int.emod_two_eq h with c | c
  · obtain ⟨w, hw⟩ := hh_even (X := X) (Y := Y) c
    rw [even_iff hw]
    constructor
    · intro k; exact .inl ⟨c, k⟩
    · rintro (⟨_, k⟩ | ⟨k, _⟩)
      · exact k
      · omega
  · have ne : n % 2 = 0 := by
      have h1 : (2 : Int) ^ (t + 1) ∣ n * h := by rw [← e]; exact ht.yes
      exact dvd_of_le_two (two_cancel _ c h1)
    obtain ⟨j, hj⟩ : ∃ j, n = 2 * j := ⟨n / 2, by omega⟩
    subst hj
    rw [half_iff (by omega) (hh_odd hX hY c)]
    constructor
    · rintro ⟨f, k1, k2⟩; exact .inr ⟨c, j, f, rfl, k1, k2⟩
    · rintro (⟨k, _⟩ | ⟨_, j', f, k1, k2, k3⟩)
      · omega
      · have : j = j' := by omega
        subst this
        exact ⟨f, k2, k3⟩
/-- the area has just one two fewer -/
theorem big_dbl (ha : V2 P.a t) : Big P (d * 2) := by
  have K := fun {n h} => @kinds P g d X Y t g0 hx hy hg d0 hd1 hd2 hd hX hY ht n h
  have t1 : (2 : Int) ^ t ∣ g := by
    obtain ⟨c, hc⟩ := ht.yes
    exact ⟨2 * c, by rw [hc, Int.pow_succ]; grind⟩
  have td : (2 : Int) ^ t ∣ d := hd _ t1 ha.yes
  have ntd : ¬ (2 : Int) ^ (t + 1) ∣ d := fun h => ha.no (Int.dvd_trans h hd2)
  refine ⟨by omega, ?_, fun n C hn e => ?_⟩
  · obtain ⟨e, he⟩ := hd1
    have ev : e % 2 = 0 := by
      rcases Int.emod_two_eq e with c | c
      · exact c
      · exact absurd (two_cancel _ c (by rw [← he]; exact ht.yes)) ntd
    obtain ⟨h, hh⟩ : ∃ h, e = 2 * h := ⟨e / 2, by omega⟩
    have eg : g = (d * 2) * h := by rw [he, hh]; grind
    refine (K eg (by omega)).mpr ?_
    rcases Int.emod_two_eq h with c | c
    · exfalso
      refine ht.no ?_
      obtain ⟨u, hu⟩ := td
      exact ⟨u * (h / 2), by
        have : h = 2 * (h / 2) := by omega
        rw [eg, hu, Int.pow_succ, Int.pow_succ]; grind⟩
    · obtain ⟨f, hf⟩ := hd2
      refine .inr ⟨c, d, f, by omega, hf, ?_⟩
      rcases Int.emod_two_eq f with c2 | c2
      · exfalso
        refine ha.no ?_
        obtain ⟨u, hu⟩ := td
        exact ⟨u * (f / 2), by
          have : f = 2 * (f / 2) := by omega
          rw [hf, hu, Int.pow_succ]; grind⟩
      · exact c2
  · obtain ⟨q1, q2⟩ := rt_dvd e
    obtain ⟨h, eg⟩ := hg n q1 q2
    rcases (K eg hn).mp ⟨C, e⟩ with ⟨_, k⟩ | ⟨_, j, f, rfl, k, _⟩
    · exact Int.dvd_mul_of_dvd_left (hd n ⟨h, eg⟩ k)
    · have := hd j ⟨2 * h, by rw [eg]; grind⟩ ⟨f, k⟩
      rw [Int.mul_comm d 2]
      exact Int.mul_dvd_mul_left 2 this
/-- the area has all the twos of the side, or is 0 -/
theorem big_half (ha : (2 : Int) ^ (t + 1) ∣ P.a) : Big P (d / 2) := by
  have K := fun {n h} => @kinds P g d X Y t g0 hx hy hg d0 hd1 hd2 hd hX hY ht n h
  have td : (2 : Int) ^ (t + 1) ∣ d := hd _ ht.yes ha
  have d2 : d % 2 = 0 := dvd_of_le_two td
  obtain ⟨e, he⟩ := hd1
  obtain ⟨k, hk⟩ : ∃ k, d = 2 * k := ⟨d / 2, by omega⟩
  have dk : d / 2 = k := by omega
  rw [dk]
  refine ⟨by omega, ?_, fun n C hn e' => ?_⟩
  · have eg : g = k * (2 * e) := by rw [he, hk]; grind
    exact (K eg (by omega)).mpr (.inl ⟨by omega, Int.dvd_trans ⟨2, by omega⟩ hd2⟩)
  · obtain ⟨q1, q2⟩ := rt_dvd e'
    obtain ⟨h, eg⟩ := hg n q1 q2
    rcases (K eg hn).mp ⟨C, e'⟩ with ⟨c, q⟩ | ⟨c, j, f, rfl, q, f1⟩
    · obtain ⟨u, hu⟩ := hd n ⟨h, eg⟩ q
      rcases Int.emod_two_eq u with c2 | c2
      · exact ⟨u / 2, by
          have h1 : u = 2 * (u / 2) := by omega
          have : 2 * k = 2 * (n * (u / 2)) := by rw [← hk, hu]; grind
          omega⟩
      · exfalso
        have := two_cancel _ c2 (by rw [← hu]; exact td)
        refine ht.no ?_
        obtain ⟨v, hv⟩ := this
        exact ⟨v * (h / 2), by
          have : h = 2 * (h / 2) := by omega
          rw [eg, hv, Int.pow_succ]; grind⟩
    · exfalso
      rw [q] at ha
      have h1 := two_dbl (two_cancel _ f1 ha)
      exact ht.no (Int.dvd_trans h1 ⟨h, eg⟩)
/-- the area has fewer twos -/
theorem big_few (ha : ¬ (2 : Int) ^ t ∣ P.a) : Big P d := by
  have K := fun {n h} => @kinds P g d X Y t g0 hx hy hg d0 hd1 hd2 hd hX hY ht n h
  refine ⟨d0, ?_, fun n C hn e => ?_⟩
  · obtain ⟨h, eg⟩ := hd1
    refine (K eg (by omega)).mpr (.inl ⟨?_, hd2⟩)
    rcases Int.emod_two_eq h with c | c
    · exact c
    · exfalso
      refine ha (Int.dvd_trans ?_ hd2)
      have := two_cancel _ c (by rw [← eg]; exact ht.yes)
      obtain ⟨v, hv⟩ := this
      exact ⟨2 * v, by rw [hv, Int.pow_succ]; grind⟩
  · obtain ⟨q1, q2⟩ := rt_dvd e
    obtain ⟨h, eg⟩ := hg n q1 q2
    rcases (K eg hn).mp ⟨C, e⟩ with ⟨_, k⟩ | ⟨c, j, f, rfl, k, _⟩
    · exact hd n ⟨h, eg⟩ k
    · exfalso
      have := two_half (two_cancel _ c (by rw [← eg]; exact ht.yes))
      exact ha (Int.dvd_trans this ⟨f, k⟩)
end
end RT
set_option maxRecDepth 100000
set_option maxHeartbeats 4000000
namespace GR
open RT
/-! ### places as a group: plain laws -/
def mul (p q : Q3) : Q3 := ⟨p.x + q.x, p.y + q.y, p.a + q.a + p.x * q.y⟩
def inv (p : Q3) : Q3 := ⟨-p.x, -p.y, p.x * p.y - p.a⟩
def one : Q3 := ⟨0, 0, 0⟩
def tw (p q : Q3) : Int := p.x * q.y - q.x * p.y
def up (p : Q3) (k : Int) : Q3 := ⟨p.x, p.y, p.a + k⟩
def seen (p h : Q3) : Q3 := ⟨p.x, p.y, p.a + tw h p⟩
theorem mul_assoc (p q r : Q3) : mul (mul p q) r = mul p (mul q r) := by ext <;> simp only [mul] <;> grind
theorem one_mul (p : Q3) : mul one p = p := by ext <;> simp only [mul, one] <;> grind
theorem mul_one (p : Q3) : mul p one = p := by ext <;> simp only [mul, one] <;> grind
theorem inv_mul (p : Q3) : mul (inv p) p = one := by ext <;> simp only [mul, inv, one] <;> grind
theorem mul_inv (p : Q3) : mul p (inv p) = one := by ext <;> simp only [mul, inv, one] <;> grind
theorem inv_inv (p : Q3) : inv (inv p) = p := by ext <;> simp only [inv] <;> grind
theorem inv_prod (p q : Q3) : inv (mul p q) = mul (inv q) (inv p) := by ext <;> simp only [mul, inv] <;> grind
theorem inv_one : inv one = one := by ext <;> simp only [inv, one] <;> grind
theorem seen_eq (p h : Q3) : seen p h = mul (mul h p) (inv h) := by ext <;> simp only [mul, inv, seen, tw] <;> grind
theorem seen_seen (p g h : Q3) : seen (seen p g) h = seen p (mul h g) := by ext <;> simp only [mul, seen, tw] <;> grind
theorem seen_back (p g : Q3) : seen (seen p g) (inv g) = p := by ext <;> simp only [inv, seen, tw] <;> grind
theorem seen_mul (p q g : Q3) : seen (mul p q) g = mul (seen p g) (seen q g) := by ext <;> simp only [mul, seen, tw] <;> grind
theorem seen_up (p : Q3) (k : Int) : seen p ⟨0, 0, k⟩ = p := by ext <;> simp only [seen, tw] <;> grind
theorem seen_pw (p : Q3) (k : Int) : seen p (pw p k) = p := by ext <;> simp only [seen, tw, pw] <;> grind
theorem seen_self (p : Q3) : seen p p = p := by ext <;> simp only [seen, tw] <;> grind
theorem seen_inv (p : Q3) : seen p (inv p) = p := by ext <;> simp only [seen, tw, inv] <;> grind
theorem pw_add (p : Q3) (m n : Int) : pw p (m + n) = mul (pw p m) (pw p n) := by
  have h1 := hlf2 m
  have h2 := hlf2 n
  have h3 := hlf2 (m + n)
  ext <;> simp only [pw, mul]
  · grind
  · grind
  · have : hlf (m + n) = hlf m + hlf n + m * n := by grind
    rw [this]; grind
theorem hlf_neg (n : Int) : hlf (-n) = n * n - hlf n := by
  have h1 := hlf2 n
  have h2 := hlf2 (-n)
  grind
theorem pw_neg (p : Q3) (n : Int) : pw p (-n) = inv (pw p n) := by
  ext <;> simp only [pw, inv]
  · grind
  · grind
  · rw [hlf_neg]; grind
theorem pw_zero (p : Q3) : pw p 0 = one := by
  have : hlf 0 = 0 := by decide
  ext <;> simp [pw, one, this]
theorem pw_neg1 (p : Q3) : pw p (-1) = inv p := by rw [pw_neg, pw_one]
/-! renamings: E, N the images of the steps east and north -/
def ren (E N p : Q3) : Q3 := up (mul (pw N p.y) (pw E p.x)) (tw E N * p.a)
theorem hlf_add (m n : Int) : hlf (m + n) = hlf m + hlf n + m * n := by
  have h1 := hlf2 m
  have h2 := hlf2 n
  have h3 := hlf2 (m + n)
  grind
theorem ren_mul (E N p q : Q3) : ren E N (mul p q) = mul (ren E N p) (ren E N q) := by
  ext <;> simp only [ren, up, mul, pw, tw]
  · grind
  · grind
  · rw [hlf_add, hlf_add]; grind
theorem ren_one (E N : Q3) : ren E N one = one := by
  have h : hlf 0 = 0 := by decide
  ext <;> simp [ren, up, mul, pw, tw, one, h]
theorem mul_left {p q r : Q3} (h : mul p q = mul p r) : q = r := by
  have := congrArg (mul (inv p)) h
  rwa [← mul_assoc, ← mul_assoc, inv_mul, one_mul, one_mul] at this
theorem ren_inv (E N p : Q3) : ren E N (inv p) = inv (ren E N p) := by
  apply mul_left (p := ren E N p)
  rw [← ren_mul, mul_inv, mul_inv, ren_one]
theorem ren_e (E N : Q3) : ren E N ⟨1, 0, 0⟩ = E := by
  have h : hlf 0 = 0 := by decide
  have h1 : hlf 1 = 0 := by decide
  ext <;> simp [ren, up, mul, pw, tw, h, h1]
theorem ren_n (E N : Q3) : ren E N ⟨0, 1, 0⟩ = N := by
  have h : hlf 0 = 0 := by decide
  have h1 : hlf 1 = 0 := by decide
  ext <;> simp [ren, up, mul, pw, tw, h, h1]
/-! walks of letters -/
inductive L4 where
  | e | n | w | s
  deriving DecidableEq
def L4.cp : L4 → Nat
  | .e => 101
  | .n => 110
  | .w => 119
  | .s => 115
def L4.back : L4 → L4
  | .e => .w
  | .n => .s
  | .w => .e
  | .s => .n
def L4.st : L4 → Q3
  | .e => ⟨1, 0, 0⟩
  | .n => ⟨0, 1, 0⟩
  | .w => ⟨-1, 0, 0⟩
  | .s => ⟨0, -1, 0⟩
def endF (f : L4 → Q3) (p : Q3) (ls : List L4) : Q3 := ls.foldl (fun q l => mul q (f l)) p
theorem endF_mul (f : L4 → Q3) : ∀ (ls : List L4) (p : Q3), endF f p ls = mul p (endF f one ls)
  | [], p => by simp only [endF, List.foldl_nil, mul_one]
  | l :: ls, p => by
    have h1 := endF_mul f ls (mul p (f l))
    have h2 := endF_mul f ls (mul one (f l))
    simp only [endF, List.foldl_cons] at h1 h2 ⊢
    rw [h1, h2, one_mul, mul_assoc]
def endL (ls : List L4) : Q3 := endF L4.st one ls
theorem endL_app (a b : List L4) : endL (a ++ b) = mul (endL a) (endL b) := by
  unfold endL
  rw [← endF_mul]
  simp only [endF, List.foldl_append]
theorem back_st (l : L4) : l.back.st = inv l.st := by cases l <;> ext <;> simp [L4.back, L4.st, inv]
theorem endL_back (a : List L4) : endL (a.reverse.map L4.back) = inv (endL a) := by
  induction a with
  | nil => simp [endL, endF, inv_one]
  | cons l a ih =>
    have h1 : endL (l :: a) = mul l.st (endL a) := by
      show endF _ (mul one l.st) a = _
      rw [endF_mul, one_mul]; rfl
    rw [List.reverse_cons, List.map_append, endL_app, ih, h1, inv_prod]
    congr 1
    show mul one l.back.st = _
    rw [one_mul, back_st]
/-- how far so many letters come -/
theorem end_bd (f : L4 → Q3) (B C : Nat) (hf : ∀ l, (f l).x.natAbs ≤ B ∧ (f l).y.natAbs ≤ B ∧ (f l).a.natAbs ≤ C) : ∀ (ls : List L4) (p : Q3) (k : Nat), p.x.natAbs ≤ k * B → p.y.natAbs ≤ k * B → p.a.natAbs ≤ k * C + k * k * (B * B) →
    (endF f p ls).x.natAbs ≤ (k + ls.length) * B ∧ (endF f p ls).y.natAbs ≤ (k + ls.length) * B ∧ (endF f p ls).a.natAbs ≤ (k + ls.length) * C + (k + ls.length) * (k + ls.length) * (B * B)
  | [], p, k, h1, h2, h3 => ⟨h1, h2, h3⟩
  | l :: ls, p, k, h1, h2, h3 => by
    obtain ⟨b1, b2, b3⟩ := hf l
    have e1 : (k + 1) * B = k * B + B := by rw [Nat.add_mul, Nat.one_mul]
    have e2 : (k + 1) * C = k * C + C := by rw [Nat.add_mul, Nat.one_mul]
    have e3 : (k + 1) * (k + 1) * (B * B) = k * k * (B * B) + 2 * (k * (B * B)) + B * B := by grind
    have e4 : (p.x * (f l).y).natAbs ≤ k * (B * B) := by
      rw [Int.natAbs_mul]
      have := Nat.mul_le_mul h1 b2
      rwa [Nat.mul_assoc] at this
    have := end_bd f B C hf ls (mul p (f l)) (k + 1) (by simp only [mul]; omega) (by simp only [mul]; omega) (by simp only [mul]; omega)
    rw [show k + (l :: ls).length = k + 1 + ls.length by simp; omega]
    exact this
theorem ren_same (p : Q3) : ren ⟨1, 0, 0⟩ ⟨0, 1, 0⟩ p = p := by
  ext <;> simp only [ren, up, mul, pw, tw] <;> grind
theorem ren_view (p h : Q3) : ren ⟨1, 0, -h.y⟩ ⟨0, 1, h.x⟩ p = seen p h := by
  ext <;> simp only [ren, up, mul, pw, tw, seen] <;> grind
theorem ren_up (E N : Q3) (k : Int) : ren E N ⟨0, 0, k⟩ = ⟨0, 0, tw E N * k⟩ := by
  have h : hlf 0 = 0 := by decide
  ext <;> simp [ren, up, mul, pw, tw, h]
def img (E N : Q3) : L4 → Q3
  | .e => E
  | .n => N
  | .w => inv E
  | .s => inv N
theorem ren_st (E N : Q3) (l : L4) : ren E N l.st = img E N l := by
  cases l
  · exact ren_e E N
  · exact ren_n E N
  · show ren E N ⟨-1, 0, 0⟩ = inv E
    rw [show (⟨-1, 0, 0⟩ : Q3) = inv ⟨1, 0, 0⟩ by ext <;> simp [inv], ren_inv, ren_e]
  · show ren E N ⟨0, -1, 0⟩ = inv N
    rw [show (⟨0, -1, 0⟩ : Q3) = inv ⟨0, 1, 0⟩ by ext <;> simp [inv], ren_inv, ren_n]
theorem ren_endF (E N : Q3) : ∀ (ls : List L4) (p : Q3), ren E N (endF L4.st p ls) = endF (img E N) (ren E N p) ls
  | [], p => rfl
  | l :: ls, p => by
    show ren E N (endF L4.st (mul p l.st) ls) = endF (img E N) (mul (ren E N p) (img E N l)) ls
    rw [ren_endF E N ls, ren_mul, ren_st]
theorem ren_end (E N : Q3) (ls : List L4) : ren E N (endL ls) = endF (img E N) one ls := by
  have := ren_endF E N ls one
  rwa [ren_one] at this
theorem ren_ren (A B E N p : Q3) : ren A B (ren E N p) = ren (ren A B E) (ren A B N) p := by
  have hh : ∀ k : Int, hlf (k * 2) = 2 * hlf k + k * k := fun k => by
    have h1 := hlf2 k
    have h2 := hlf2 (k * 2)
    grind
  have key : ∀ (q : Q3) (k : Int), ren A B (pw q k) = pw (ren A B q) k := fun q k => by
    have h1 := hlf2 k
    ext <;> simp only [ren, up, mul, pw, tw]
    · grind
    · grind
    · have e1 := hlf2 (k * q.y)
      have e2 := hlf2 (k * q.x)
      have e3 := hlf2 q.x
      have e4 := hlf2 q.y
      have e5 := hlf_mul q.y k
      have e6 := hlf_mul q.x k
      rw [Int.mul_comm k q.y, Int.mul_comm k q.x, ← e5, ← e6]
      generalize hlf k = H at *
      generalize hlf q.x = HX at *
      generalize hlf q.y = HY at *
      have this : k * k = 2 * H + k := by grind
      clear e1 e2 e3 e4 e5 e6 h1 hh
      have t : q.y * k * B.x * (q.x * k * A.y) = (k * k) * (q.x * q.y * B.x * A.y) := by grind
      rw [t, this]
      clear t this
      grind
  have up_mul : ∀ (q : Q3) (k : Int), up q k = mul q ⟨0, 0, k⟩ := fun q k => by ext <;> simp [up, mul]
  have e0 : ∀ X Y q : Q3, ren X Y q = mul (mul (pw Y q.y) (pw X q.x)) ⟨0, 0, tw X Y * q.a⟩ := fun X Y q => by rw [← up_mul]; rfl
  rw [e0 E N p, ren_mul, ren_mul, key, key, ren_up, e0 (ren A B E) (ren A B N) p]
  congr 1
  ext
  · rfl
  · rfl
  · simp only [tw, ren, up, mul, pw]
    grind
end GR
set_option maxRecDepth 100000
set_option maxHeartbeats 4000000
namespace GR
open RT DL
/-! ### how many bits places have -/
structure B3 (n : Nat) (p : Q3) : Prop where
  x : Bd p.x n
  y : Bd p.y n
  a : Bd p.a n
theorem B3.le {n m : Nat} {p : Q3} (h : B3 n p) (k : n ≤ m) : B3 m p := ⟨h.x.le k, h.y.le k, h.a.le k⟩
theorem two_mul_pow (n : Nat) : (2 : Nat) ^ (2 * n) = 2 ^ n * 2 ^ n := by rw [← Nat.pow_add]; congr 1; omega
theorem pow_ge (n : Nat) : (2 : Nat) ^ n ≤ 2 ^ (2 * n) := Nat.pow_le_pow_right (by decide) (by omega)
theorem bd_prod {x y : Int} {n : Nat} (h : Bd x n) (k : Bd y n) : (x * y).natAbs < 2 ^ (2 * n) := by
  rw [Int.natAbs_mul, two_mul_pow]
  exact Nat.mul_lt_mul'' h.lt k.lt
theorem B3.mul {n : Nat} {p q : Q3} (h : B3 n p) (k : B3 n q) : B3 (2 * n + 2) (mul p q) := by
  have e : (2 : Nat) ^ (2 * n + 2) = 4 * 2 ^ (2 * n) := by rw [Nat.pow_succ, Nat.pow_succ]; omega
  have g := pow_ge n
  have h1 := h.x.lt
  have h2 := h.y.lt
  have h3 := h.a.lt
  have k1 := k.x.lt
  have k2 := k.y.lt
  have k3 := k.a.lt
  have m := bd_prod h.x k.y
  refine ⟨⟨?_⟩, ⟨?_⟩, ⟨?_⟩⟩ <;> simp only [GR.mul] <;> omega
theorem B3.inv {n : Nat} {p : Q3} (h : B3 n p) : B3 (2 * n + 1) (inv p) := by
  have e : (2 : Nat) ^ (2 * n + 1) = 2 * 2 ^ (2 * n) := by rw [Nat.pow_succ]; omega
  have g := pow_ge n
  have h1 := h.x.lt
  have h2 := h.y.lt
  have h3 := h.a.lt
  have m := bd_prod h.x h.y
  refine ⟨⟨?_⟩, ⟨?_⟩, ⟨?_⟩⟩ <;> simp only [GR.inv] <;> omega
theorem B3.seen {n : Nat} {p q : Q3} (h : B3 n p) (k : B3 n q) : B3 (2 * n + 2) (seen p q) := by
  have e : (2 : Nat) ^ (2 * n + 2) = 4 * 2 ^ (2 * n) := by rw [Nat.pow_succ, Nat.pow_succ]; omega
  have g := pow_ge n
  have h1 := h.x.lt
  have h2 := h.y.lt
  have h3 := h.a.lt
  have m := bd_prod k.x h.y
  have m2 := bd_prod h.x k.y
  refine ⟨⟨?_⟩, ⟨?_⟩, ⟨?_⟩⟩ <;> simp only [GR.seen, GR.tw] <;> omega
theorem bd_tw {n : Nat} {p q : Q3} (h : B3 n p) (k : B3 n q) : Bd (tw p q) (2 * n + 1) := by
  have e : (2 : Nat) ^ (2 * n + 1) = 2 * 2 ^ (2 * n) := by rw [Nat.pow_succ]; omega
  have m := bd_prod h.x k.y
  have m2 := bd_prod k.x h.y
  refine ⟨?_⟩
  simp only [tw]
  omega
theorem bd_hlf {k : Int} {m : Nat} (hk : Bd k m) : Bd (hlf k) (2 * m + 1) := by
  have h := hk.lt
  have e : (2 : Nat) ^ (2 * m + 1) = 2 * 2 ^ (2 * m) := by rw [Nat.pow_succ]; omega
  have h2 := hlf2 k
  have m2 := bd_prod hk hk
  have g := pow_ge m
  refine ⟨?_⟩
  rw [Int.mul_sub, Int.mul_one] at h2
  omega
theorem B3.pw {n m : Nat} {p : Q3} {k : Int} (h : B3 n p) (hk : Bd k m) : B3 (2 * n + 2 * m + 2) (pw p k) := by
  have b1 : Bd (k * p.x) (m + n) := @bd_mul _ _ _ _ hk h.x
  have b2 : Bd (k * p.y) (m + n) := @bd_mul _ _ _ _ hk h.y
  have b3 : Bd (k * p.a) (m + n) := @bd_mul _ _ _ _ hk h.a
  have b4 : Bd (hlf k * p.x * p.y) (2 * m + 1 + n + n) := @bd_mul _ _ _ _ (@bd_mul _ _ _ _ (bd_hlf hk) h.x) h.y
  refine ⟨b1.le (by omega), b2.le (by omega), ⟨?_⟩⟩
  have h1 := (b3.le (show m + n ≤ 2 * n + 2 * m + 1 by omega)).lt
  have h2 := (b4.le (show 2 * m + 1 + n + n ≤ 2 * n + 2 * m + 1 by omega)).lt
  have h3 : (2 : Nat) ^ (2 * n + 2 * m + 2) = 2 * 2 ^ (2 * n + 2 * m + 1) := by rw [Nat.pow_succ]; omega
  show (k * p.a + hlf k * p.x * p.y).natAbs < _
  omega
theorem B3.up {n : Nat} {p : Q3} {k : Int} (h : B3 n p) (hk : Bd k n) : B3 (n + 1) (up p k) := by
  have e : (2 : Nat) ^ (n + 1) = 2 * 2 ^ n := by rw [Nat.pow_succ]; omega
  have h1 := h.x.lt
  have h2 := h.y.lt
  have h3 := h.a.lt
  have h4 := hk.lt
  refine ⟨⟨?_⟩, ⟨?_⟩, ⟨?_⟩⟩ <;> simp only [GR.up] <;> omega
theorem B3.ren {n : Nat} {E N p : Q3} (h1 : B3 n E) (h2 : B3 n N) (h3 : B3 n p) : B3 (10 * n + 10) (ren E N p) := by
  have a := (h2.pw h3.y).mul (h1.pw h3.x)
  have t := bd_tw h1 h2
  have u : Bd (tw E N * p.a) (2 * n + 1 + n) := @bd_mul _ _ _ _ t h3.a
  exact ((a.le (show _ ≤ 10 * n + 9 by omega)).up (u.le (show _ ≤ 10 * n + 9 by omega))).le (by omega)
instance : DecidableEq RT.Q3 := fun p q => decidable_of_iff (p.x = q.x ∧ p.y = q.y ∧ p.a = q.a) Q3.ext_iff.symm
theorem bd_prod2 {x y : Int} {n m : Nat} (h : Bd x n) (k : Bd y m) : (x * y).natAbs < 2 ^ (n + m) := by
  rw [Int.natAbs_mul, Nat.pow_add]
  exact Nat.mul_lt_mul'' h.lt k.lt
theorem B3.ren2 {n m : Nat} {E N p : Q3} (h1 : B3 n E) (h2 : B3 n N) (h3 : B3 m p) : B3 (2 * n + 2 * m + 6) (GR.ren E N p) := by
  have e : (2 : Nat) ^ (2 * n + 2 * m + 6) = 64 * 2 ^ (2 * n + 2 * m) := by rw [Nat.pow_add]; omega
  have q1 := bd_prod2 h3.y h2.x
  have q2 := bd_prod2 h3.x h1.x
  have q3 := bd_prod2 h3.y h2.y
  have q4 := bd_prod2 h3.x h1.y
  have q5 := bd_prod2 h3.y h2.a
  have q6 := bd_prod2 h3.x h1.a
  have q7 := bd_prod2 (@bd_mul _ _ _ _ (bd_hlf h3.y) h2.x) h2.y
  have q8 := bd_prod2 (@bd_mul _ _ _ _ (bd_hlf h3.x) h1.x) h1.y
  have q9 := bd_prod2 (@bd_mul _ _ _ _ h3.y h2.x) (@bd_mul _ _ _ _ h3.x h1.y)
  have q10 := bd_prod2 (bd_tw h1 h2) h3.a
  have l1 : (2 : Nat) ^ (m + n) ≤ 2 ^ (2 * n + 2 * m) := Nat.pow_le_pow_right (by decide) (by omega)
  have l2 : (2 : Nat) ^ (2 * m + 1 + n + n) = 2 * 2 ^ (2 * n + 2 * m) := by rw [show 2 * m + 1 + n + n = 2 * n + 2 * m + 1 by omega, Nat.pow_succ]; omega
  have l3 : (2 : Nat) ^ (m + n + (m + n)) = 2 ^ (2 * n + 2 * m) := by congr 1; omega
  have l4 : (2 : Nat) ^ (2 * n + 1 + m) ≤ 2 * 2 ^ (2 * n + 2 * m) := Nat.le_trans (Nat.pow_le_pow_right (by decide) (show 2 * n + 1 + m ≤ 2 * n + 2 * m + 1 by omega)) (by rw [Nat.pow_succ]; omega)
  rw [l2] at q7 q8
  rw [l3] at q9
  have ez : (2 : Nat) ^ (n + m) = 2 ^ (m + n) := by rw [Nat.add_comm]
  generalize (2 : Nat) ^ (2 * n + 2 * m) = Z at *
  refine ⟨⟨?_⟩, ⟨?_⟩, ⟨?_⟩⟩ <;> simp only [GR.ren, GR.up, GR.mul, RT.pw] <;> omega
theorem one_bd (n : Nat) : B3 n one := ⟨⟨Nat.two_pow_pos n⟩, ⟨Nat.two_pow_pos n⟩, ⟨Nat.two_pow_pos n⟩⟩
abbrev tP (p : Q3) : D := .tup [.int p.x, .int p.y, .int p.a]
abbrev pP (p : Q3) : D := .ins "Place" [([120], .int p.x), ([121], .int p.y), ([97, 114, 101, 97], .int p.a)]
theorem ne_self (p : Q3) : dNe (tP p) (tP p) = some (.bl false) := by simp [eqPl, eqPls]
theorem eq_self (p : Q3) : dEq (tP p) (tP p) = some (.bl true) := by simp [eqPl, eqPls]
abbrev lD (l : L4) : D := .str [l.cp]
end GR
namespace DL
theorem rngL_succ (m : Int) (k : Nat) : rngL m (k + 1) = .int m :: rngL (m + 1) k := by
  unfold rngL
  rw [List.range_succ_eq_map, List.map_cons, List.map_map]
  simp only [Int.natCast_zero, Int.add_zero, List.cons.injEq, true_and]
  apply List.map_congr_left
  intro i _
  show D.int (m + ((i + 1 : Nat) : Int)) = D.int (m + 1 + (i : Int))
  congr 1
  omega
end DL
set_option maxRecDepth 100000
set_option maxHeartbeats 4000000
namespace GR
open RT DL
/-! ### renamings put together; which orders there are -/
@[ext] structure Rn where
  E : Q3
  N : Q3
  deriving DecidableEq
def comp (A B : Rn) : Rn := ⟨ren A.E A.N B.E, ren A.E A.N B.N⟩
def idR : Rn := ⟨⟨1, 0, 0⟩, ⟨0, 1, 0⟩⟩
theorem comp_assoc (A B C : Rn) : comp (comp A B) C = comp A (comp B C) := by
  ext1 <;> exact (ren_ren _ _ _ _ _).symm
theorem id_comp (A : Rn) : comp idR A = A := by ext1 <;> exact ren_same _
theorem comp_id (A : Rn) : comp A idR = A := by
  ext1
  · exact ren_e _ _
  · exact ren_n _ _
def np (A : Rn) : Nat → Rn
  | 0 => idR
  | k + 1 => comp A (np A k)
theorem np_one (A : Rn) : np A 1 = A := comp_id A
theorem np_add (A : Rn) (m n : Nat) : np A (m + n) = comp (np A m) (np A n) := by
  induction m with
  | zero => rw [Nat.zero_add]; exact (id_comp _).symm
  | succ m ih => rw [show m + 1 + n = m + n + 1 by omega]; show comp A (np A (m + n)) = comp (comp A (np A m)) (np A n); rw [ih, comp_assoc]
theorem np_mul (A : Rn) (m n : Nat) : np (np A m) n = np A (m * n) := by
  induction n with
  | zero => rfl
  | succ n ih =>
    rw [show m * (n + 1) = m + m * n by rw [Nat.mul_succ, Nat.add_comm], np_add A m (m * n), ← ih]
    rfl
theorem np_id (n : Nat) : np idR n = idR := by
  induction n with
  | zero => rfl
  | succ n ih => show comp idR (np idR n) = idR; rw [ih, id_comp]
def fac (A : Rn) : Int := tw A.E A.N
theorem fac_comp (A B : Rn) : fac (comp A B) = fac A * fac B := by
  simp only [fac, comp, tw, ren, up, mul, pw]; grind
theorem fac_np (A : Rn) (n : Nat) : fac (np A n) = fac A ^ n := by
  induction n with
  | zero => simp [np, fac, idR, tw]
  | succ n ih => show fac (comp A (np A n)) = _; rw [fac_comp, ih, Int.pow_succ, Int.mul_comm]
def uw (t D : Int) : Nat → Int × Int
  | 0 => (0, 1)
  | k + 1 => (t * (uw t D k).1 + (uw t D k).2, -D * (uw t D k).1)
def trc (A : Rn) : Int := A.E.x + A.N.y
theorem lin_np (A : Rn) (k : Nat) : (np A k).E.x = (uw (trc A) (fac A) k).1 * A.E.x + (uw (trc A) (fac A) k).2 ∧ (np A k).N.x = (uw (trc A) (fac A) k).1 * A.N.x ∧ (np A k).E.y = (uw (trc A) (fac A) k).1 * A.E.y ∧ (np A k).N.y = (uw (trc A) (fac A) k).1 * A.N.y + (uw (trc A) (fac A) k).2 := by
  induction k with
  | zero => simp [np, idR, uw]
  | succ k ih =>
    obtain ⟨h1, h2, h3, h4⟩ := ih
    have e1 : (np A (k + 1)).E.x = (np A k).E.y * A.N.x + (np A k).E.x * A.E.x := by simp only [np, comp, ren, up, mul, pw]
    have e2 : (np A (k + 1)).N.x = (np A k).N.y * A.N.x + (np A k).N.x * A.E.x := by simp only [np, comp, ren, up, mul, pw]
    have e3 : (np A (k + 1)).E.y = (np A k).E.y * A.N.y + (np A k).E.x * A.E.y := by simp only [np, comp, ren, up, mul, pw]
    have e4 : (np A (k + 1)).N.y = (np A k).N.y * A.N.y + (np A k).N.x * A.E.y := by simp only [np, comp, ren, up, mul, pw]
    rw [e1, e2, e3, e4, h1, h2, h3, h4]
    simp only [uw]
    generalize (uw (trc A) (fac A) k).1 = u
    generalize (uw (trc A) (fac A) k).2 = w
    simp only [trc, fac, tw]
    refine ⟨?_, ?_, ?_, ?_⟩ <;> grind
theorem uw_pos {t : Int} (ht : 2 ≤ t.natAbs) (k : Nat) : (uw t 1 k).1.natAbs < (uw t 1 (k + 1)).1.natAbs := by
  induction k with
  | zero => simp [uw]
  | succ k ih =>
    have e : (uw t 1 (k + 2)).1 = t * (uw t 1 (k + 1)).1 - (uw t 1 k).1 := by simp only [uw]; grind
    have : 2 * (uw t 1 (k + 1)).1.natAbs ≤ (t * (uw t 1 (k + 1)).1).natAbs := by rw [Int.natAbs_mul]; exact Nat.mul_le_mul_right _ ht
    rw [e]
    omega
theorem uw_neg {t : Int} (ht : t ≠ 0) (k : Nat) : (uw t (-1) (k + 1)).1 ≠ 0 ∧ 0 ≤ t * (uw t (-1) k).1 * (uw t (-1) (k + 1)).1 := by
  induction k with
  | zero => simp [uw]
  | succ k ih =>
    obtain ⟨h1, h2⟩ := ih
    have e : (uw t (-1) (k + 2)).1 = t * (uw t (-1) (k + 1)).1 + (uw t (-1) k).1 := by simp only [uw]; grind
    have e2 : t * (uw t (-1) (k + 1)).1 * (uw t (-1) (k + 2)).1 = (t * (uw t (-1) (k + 1)).1) * (t * (uw t (-1) (k + 1)).1) + t * (uw t (-1) k).1 * (uw t (-1) (k + 1)).1 := by rw [e]; grind
    have ne : t * (uw t (-1) (k + 1)).1 ≠ 0 := fun z => by
      rcases Int.mul_eq_zero.mp z with z | z
      · exact ht z
      · exact h1 z
    have p : 0 < (t * (uw t (-1) (k + 1)).1) * (t * (uw t (-1) (k + 1)).1) := by
      rcases Int.lt_or_gt_of_ne ne with z | z
      · exact Int.mul_pos_of_neg_of_neg z z
      · exact Int.mul_pos z z
    refine ⟨fun z => ?_, by show (0 : Int) ≤ t * (uw t (-1) (k + 1)).1 * (uw t (-1) (k + 2)).1; omega⟩
    have z : (uw t (-1) (k + 2)).1 = 0 := z
    rw [z, Int.mul_zero] at e2
    omega
theorem lin_id {A : Rn} {m : Nat} (h1 : (uw (trc A) (fac A) m).1 = 0) (h2 : (uw (trc A) (fac A) m).2 = 1) : (np A m).E.x = 1 ∧ (np A m).N.x = 0 ∧ (np A m).E.y = 0 ∧ (np A m).N.y = 1 := by
  obtain ⟨e1, e2, e3, e4⟩ := lin_np A m
  rw [h1, h2] at *
  refine ⟨?_, ?_, ?_, ?_⟩ <;> omega
/-- a step of linear part one -/
theorem shear_np {A : Rn} (h1 : A.E.x = 1) (h2 : A.N.x = 0) (h3 : A.E.y = 0) (h4 : A.N.y = 1) (n : Nat) : np A n = ⟨⟨1, 0, n * A.E.a⟩, ⟨0, 1, n * A.N.a⟩⟩ := by
  induction n with
  | zero => simp [np, idR]
  | succ n ih =>
    show comp A (np A n) = _
    rw [ih]
    have z0 : hlf 0 = 0 := by decide
    have z1 : hlf 1 = 0 := by decide
    have c : ((n + 1 : Nat) : Int) = n + 1 := by omega
    ext <;> simp [comp, ren, up, mul, pw, tw, h1, h2, h3, h4, z0, z1, c] <;> grind
theorem full {A : Rn} {m n : Nat} (hn : 1 ≤ n) (e : np A n = idR) (h1 : (np A m).E.x = 1) (h2 : (np A m).N.x = 0) (h3 : (np A m).E.y = 0) (h4 : (np A m).N.y = 1) : np A m = idR := by
  have s := shear_np h1 h2 h3 h4 n
  rw [np_mul, Nat.mul_comm, ← np_mul, e, np_id] at s
  have q1 : (0 : Int) = n * (np A m).E.a := congrArg (fun r : Rn => r.E.a) s
  have q2 : (0 : Int) = n * (np A m).N.a := congrArg (fun r : Rn => r.N.a) s
  have n0 : (n : Int) ≠ 0 := by omega
  have a1 := (Int.mul_eq_zero.mp q1.symm).resolve_left n0
  have a2 := (Int.mul_eq_zero.mp q2.symm).resolve_left n0
  ext <;> simp only [idR] <;> assumption
theorem pow_one {D : Int} {n : Nat} (hn : 1 ≤ n) (h : D ^ n = 1) : D = 1 ∨ D = -1 := by
  have : D.natAbs ^ n = 1 := by rw [← Int.natAbs_pow, h]; rfl
  have : D.natAbs = 1 := by
    rcases Nat.lt_or_ge 1 D.natAbs with c | c
    · have : 1 < D.natAbs ^ n := Nat.one_lt_pow (by omega) c
      omega
    · rcases Nat.eq_zero_or_pos D.natAbs with z | z
      · rw [z, Nat.zero_pow (by omega)] at this; omega
      · omega
  omega
theorem orders {A : Rn} {n : Nat} (hn : 1 ≤ n) (e : np A n = idR) : ∃ m, (m = 1 ∨ m = 2 ∨ m = 3 ∨ m = 4 ∨ m = 6) ∧ np A m = idR := by
  have hD : fac A = 1 ∨ fac A = -1 := by
    refine pow_one hn ?_
    rw [← fac_np, e]; rfl
  obtain ⟨l1, l2, l3, l4⟩ := lin_np A n
  rw [e] at l1 l2 l3 l4
  simp only [idR] at l1 l2 l3 l4
  have fin : ∀ m, (m = 1 ∨ m = 2 ∨ m = 3 ∨ m = 4 ∨ m = 6) → (uw (trc A) (fac A) m).1 = 0 → (uw (trc A) (fac A) m).2 = 1 → ∃ m, (m = 1 ∨ m = 2 ∨ m = 3 ∨ m = 4 ∨ m = 6) ∧ np A m = idR := fun m hm h1 h2 => by
    obtain ⟨q1, q2, q3, q4⟩ := lin_id h1 h2
    exact ⟨m, hm, full hn e q1 q2 q3 q4⟩
  by_cases hu : (uw (trc A) (fac A) n).1 = 0
  · rcases hD with hD | hD
    · rw [hD] at hu fin
      by_cases ht : 2 ≤ (trc A).natAbs
      · exfalso
        have := uw_pos ht (n - 1)
        rw [show n - 1 + 1 = n by omega, hu] at this
        simp at this
      · have : trc A = 0 ∨ trc A = 1 ∨ trc A = -1 := by omega
        rcases this with z | z | z <;> rw [z] at fin
        · exact fin 4 (by omega) (by decide) (by decide)
        · exact fin 6 (by omega) (by decide) (by decide)
        · exact fin 3 (by omega) (by decide) (by decide)
    · rw [hD] at hu fin
      by_cases ht : trc A = 0
      · rw [ht] at fin
        exact fin 2 (by omega) (by decide) (by decide)
      · exfalso
        have := (uw_neg ht (n - 1)).1
        rw [show n - 1 + 1 = n by omega] at this
        exact this hu
  · have b0 : A.N.x = 0 := (Int.mul_eq_zero.mp l2.symm).resolve_left hu
    have c0 : A.E.y = 0 := (Int.mul_eq_zero.mp l3.symm).resolve_left hu
    have ad : A.E.x = A.N.y := by
      have : (uw (trc A) (fac A) n).1 * (A.E.x - A.N.y) = 0 := by rw [Int.mul_sub]; omega
      have := (Int.mul_eq_zero.mp this).resolve_left hu
      omega
    have hf : fac A = A.E.x * A.E.x := by simp only [fac, tw, b0, c0, ← ad]; grind
    have ha : A.E.x = 1 ∨ A.E.x = -1 := by
      rcases hD with hD | hD
      · have : A.E.x.natAbs * A.E.x.natAbs = 1 := by rw [← Int.natAbs_mul, ← hf, hD]; rfl
        have := Nat.eq_one_of_mul_eq_one_right this
        omega
      · have : 0 ≤ A.E.x * A.E.x := by
          rcases Int.le_total 0 A.E.x with z | z
          · exact Int.mul_nonneg z z
          · exact Int.mul_nonneg_of_nonpos_of_nonpos z z
        omega
    rcases ha with ha | ha
    · refine ⟨1, .inl rfl, full hn e ?_ ?_ ?_ ?_⟩ <;> rw [np_one] <;> omega
    · obtain ⟨e1, e2, e3, e4⟩ := lin_np A 2
      have ht : trc A = -2 := by simp only [trc]; omega
      have hf1 : fac A = 1 := by rw [hf, ha]; rfl
      rw [ht, hf1] at e1 e2 e3 e4
      have u2 : (uw (-2) 1 2).1 = -2 := by decide
      have w2 : (uw (-2) 1 2).2 = -1 := by decide
      rw [u2] at e1 e2 e3 e4
      rw [w2] at e1 e4
      refine ⟨2, .inr (.inl rfl), full hn e ?_ ?_ ?_ ?_⟩ <;> omega
/-! what undoes a renaming of the factor 1 or -1 -/
def invR (A : Rn) : Rn :=
  let s := fac A
  let e : Q3 := ⟨s * A.N.y, -s * A.E.y, 0⟩
  let n : Q3 := ⟨-s * A.N.x, s * A.E.x, 0⟩
  ⟨up e (-s * (ren A.E A.N e).a), up n (-s * (ren A.E A.N n).a)⟩
theorem ren_lift (E N p : Q3) (k : Int) : ren E N (up p k) = up (ren E N p) (tw E N * k) := by
  ext <;> simp only [ren, up, mul, pw]
  grind
theorem invR_right {A : Rn} (h : fac A = 1 ∨ fac A = -1) : comp A (invR A) = idR := by
  have ss : fac A * fac A = 1 := by rcases h with h | h <;> rw [h] <;> rfl
  have e1 : ∀ p : Q3, ren A.E A.N (up p (-fac A * (ren A.E A.N p).a)) = ⟨(ren A.E A.N p).x, (ren A.E A.N p).y, 0⟩ := fun p => by
    rw [ren_lift]
    ext
    · rfl
    · rfl
    · show (ren A.E A.N p).a + fac A * (-fac A * (ren A.E A.N p).a) = 0
      have : fac A * (-fac A * (ren A.E A.N p).a) = -(fac A * fac A) * (ren A.E A.N p).a := by grind
      rw [this, ss]; omega
  ext1
  · show ren A.E A.N (up ⟨fac A * A.N.y, -fac A * A.E.y, 0⟩ _) = ⟨1, 0, 0⟩
    rw [e1]
    ext
    · show (-fac A * A.E.y) * A.N.x + (fac A * A.N.y) * A.E.x = 1
      have : (-fac A * A.E.y) * A.N.x + (fac A * A.N.y) * A.E.x = fac A * fac A := by simp only [fac, tw]; grind
      rw [this, ss]
    · show (-fac A * A.E.y) * A.N.y + (fac A * A.N.y) * A.E.y = 0
      grind
    · rfl
  · show ren A.E A.N (up ⟨-fac A * A.N.x, fac A * A.E.x, 0⟩ _) = ⟨0, 1, 0⟩
    rw [e1]
    ext
    · show (fac A * A.E.x) * A.N.x + (-fac A * A.N.x) * A.E.x = 0
      grind
    · show (fac A * A.E.x) * A.N.y + (-fac A * A.N.x) * A.E.y = 1
      have : (fac A * A.E.x) * A.N.y + (-fac A * A.N.x) * A.E.y = fac A * fac A := by simp only [fac, tw]; grind
      rw [this, ss]
    · rfl
theorem fac_inv {A : Rn} (h : fac A = 1 ∨ fac A = -1) : fac (invR A) = 1 ∨ fac (invR A) = -1 := by
  have := congrArg fac (invR_right h)
  rw [fac_comp] at this
  have e : fac idR = 1 := by decide
  rw [e] at this
  rcases h with h | h <;> rw [h] at this <;> omega
theorem invR_left {A : Rn} (h : fac A = 1 ∨ fac A = -1) : comp (invR A) A = idR := by
  have h1 := invR_right h
  have h2 := invR_right (fac_inv h)
  have : invR (invR A) = A := by
    have := comp_assoc A (invR A) (invR (invR A))
    rw [h1, h2, id_comp, comp_id] at this
    exact this
  rw [this] at h2
  exact h2
structure BR (n : Nat) (A : Rn) : Prop where
  e : B3 n A.E
  n : B3 n A.N
theorem BR.le {n m : Nat} {A : Rn} (h : BR n A) (k : n ≤ m) : BR m A := ⟨h.e.le k, h.n.le k⟩
theorem BR.comp {n m : Nat} {A B : Rn} (h : BR n A) (k : BR m B) : BR (2 * n + 2 * m + 6) (comp A B) := ⟨h.e.ren2 h.n k.e, h.e.ren2 h.n k.n⟩
theorem BR.id (n : Nat) : BR (n + 1) idR := by
  have h : 1 < 2 ^ (n + 1) := by have := Nat.one_le_two_pow (n := n); rw [Nat.pow_succ]; omega
  exact ⟨⟨⟨by simp [idR]; try omega⟩, ⟨by simp [idR]; try omega⟩, ⟨by simp [idR]; try omega⟩⟩, ⟨⟨by simp [idR]; try omega⟩, ⟨by simp [idR]; try omega⟩, ⟨by simp [idR]; try omega⟩⟩⟩
theorem BR.np0 {n : Nat} {A : Rn} (h : BR n A) : ∀ k : Nat, BR ((2 ^ (k + 1) - 1) * (2 * n + 8)) (np A k)
  | 0 => (BR.id (2 * n + 7)).le (by omega)
  | k + 1 => ((h.comp (BR.np0 h k)).le (by
      have h1 : 1 ≤ 2 ^ (k + 1) := Nat.one_le_two_pow
      have h2 : 2 ^ (k + 2) - 1 = 2 * (2 ^ (k + 1) - 1) + 1 := by rw [Nat.pow_succ 2 (k + 1)]; omega
      rw [h2, Nat.add_mul, Nat.one_mul, Nat.mul_assoc]
      omega))
theorem BR.np {n : Nat} {A : Rn} (h : BR n A) (k : Nat) : BR (2 ^ (k + 1) * (2 * n + 8)) (np A k) := (h.np0 k).le (Nat.mul_le_mul_right _ (Nat.sub_le _ _))
theorem BR.inv {n : Nat} {A : Rn} (h : BR n A) (hf : fac A = 1 ∨ fac A = -1) : BR (4 * n + 10) (invR A) := by
  have bs : (fac A).natAbs = 1 := by rcases hf with z | z <;> rw [z] <;> rfl
  have sm : ∀ z : Int, (fac A * z).natAbs = z.natAbs ∧ (-fac A * z).natAbs = z.natAbs := fun z => by
    rw [Int.natAbs_mul, Int.natAbs_mul, Int.natAbs_neg, bs]; omega
  have e1 : B3 n ⟨fac A * A.N.y, -fac A * A.E.y, 0⟩ := ⟨⟨by show (fac A * A.N.y).natAbs < _; rw [(sm _).1]; exact h.n.y.lt⟩, ⟨by show (-fac A * A.E.y).natAbs < _; rw [(sm _).2]; exact h.e.y.lt⟩, ⟨Nat.two_pow_pos n⟩⟩
  have e2 : B3 n ⟨-fac A * A.N.x, fac A * A.E.x, 0⟩ := ⟨⟨by show (-fac A * A.N.x).natAbs < _; rw [(sm _).2]; exact h.n.x.lt⟩, ⟨by show (fac A * A.E.x).natAbs < _; rw [(sm _).1]; exact h.e.x.lt⟩, ⟨Nat.two_pow_pos n⟩⟩
  have r1 := h.e.ren2 h.n e1
  have r2 := h.e.ren2 h.n e2
  have u1 := (e1.le (show n ≤ 2 * n + 2 * n + 6 by omega)).up (k := -fac A * (ren A.E A.N ⟨fac A * A.N.y, -fac A * A.E.y, 0⟩).a) ⟨by rw [(sm _).2]; exact r1.a.lt⟩
  have u2 := (e2.le (show n ≤ 2 * n + 2 * n + 6 by omega)).up (k := -fac A * (ren A.E A.N ⟨-fac A * A.N.x, fac A * A.E.x, 0⟩).a) ⟨by rw [(sm _).2]; exact r2.a.lt⟩
  exact ⟨u1.le (by omega), u2.le (by omega)⟩
/-- the least of some numbers after which nothing is renamed -/
theorem find_orders (A : Rn) : ([1, 2, 3, 4, 6] : List Nat).find? (fun k => decide (np A k = idR)) = ([1, 2, 3, 4, 5, 6, 7, 8, 9, 10, 11, 12] : List Nat).find? (fun k => decide (np A k = idR)) := by
  by_cases h : ∃ n, 1 ≤ n ∧ n ≤ 12 ∧ np A n = idR
  · obtain ⟨n, h1, h2, e⟩ := h
    obtain ⟨m, hm, em⟩ := orders h1 e
    by_cases a1 : np A 1 = idR
    · simp [a1]
    · by_cases a2 : np A 2 = idR
      · simp [a1, a2]
      · by_cases a3 : np A 3 = idR
        · simp [a1, a2, a3]
        · by_cases a4 : np A 4 = idR
          · simp [a1, a2, a3, a4]
          · have a6 : np A 6 = idR := by
              rcases hm with rfl | rfl | rfl | rfl | rfl
              · exact absurd em a1
              · exact absurd em a2
              · exact absurd em a3
              · exact absurd em a4
              · exact em
            have a5 : np A 5 ≠ idR := fun z => a1 (by
              have : np A 6 = comp A (np A 5) := rfl
              rw [z, comp_id, a6] at this
              rw [np_one]
              exact this.symm)
            simp [a1, a2, a3, a4, a5, a6]
  · have no : ∀ n, 1 ≤ n → n ≤ 12 → np A n ≠ idR := fun n h1 h2 z => h ⟨n, h1, h2, z⟩
    simp [no 1 (by decide) (by decide), no 2 (by decide) (by decide), no 3 (by decide) (by decide), no 4 (by decide) (by decide), no 5 (by decide) (by decide), no 6 (by decide) (by decide), no 7 (by decide) (by decide), no 8 (by decide) (by decide), no 9 (by decide) (by decide), no 10 (by decide) (by decide), no 11 (by decide) (by decide), no 12 (by decide) (by decide)]
end GR
set_option maxRecDepth 100000
set_option maxHeartbeats 4000000
namespace BZ
open DL
/-! ### divisors of two numbers with what makes them (plain law) -/
def ab (x : Int) : Int := if x < 0 then -x else x
theorem ab_nn (x : Int) : 0 ≤ ab x := by unfold ab; split <;> omega
theorem ab_le (x : Int) : ab x = x ∨ ab x = -x := by unfold ab; split <;> omega
theorem ab_nat (x : Int) : ab x = (x.natAbs : Int) := by unfold ab; split <;> omega
def sg (x : Int) : Int := if 0 ≤ x then 1 else -1
theorem sg_ab (x : Int) : sg x * x = ab x := by unfold sg ab; split <;> split <;> omega
theorem gcd_step {x y : Int} (h1 : 0 ≤ x) (h2 : 0 ≤ y) : Int.gcd y (x.fmod y) = Int.gcd x y := by
  rw [Int.fmod_eq_emod_of_nonneg _ h2]
  obtain ⟨m, rfl⟩ := Int.eq_ofNat_of_zero_le h1
  obtain ⟨n, rfl⟩ := Int.eq_ofNat_of_zero_le h2
  rw [← Int.natCast_emod]
  simp only [Int.gcd_natCast_natCast]
  rw [Nat.gcd_comm n, ← Nat.gcd_rec, Nat.gcd_comm]
structure Bz (a b r0 s0 t0 r1 s1 t1 : Int) : Prop where
  n0 : 0 ≤ r0
  n1 : 0 ≤ r1
  e0 : s0 * a + t0 * b = r0
  e1 : s1 * a + t1 * b = r1
  g : Int.gcd r0 r1 = Int.gcd a b
  s : r0 * ab s1 + r1 * ab s0 ≤ ab b
  t : r0 * ab t1 + r1 * ab t0 ≤ ab a
  bs : ab s0 ≤ ab b + 1
  bt : ab t0 ≤ ab a + 1
  z : 1 ≤ r0 ∨ (ab s1 ≤ 1 ∧ ab t1 ≤ 1)
  l0 : r0 ≤ ab a + ab b
  l1 : r1 ≤ ab b
theorem Bz.init (a b : Int) : Bz a b (ab a) (sg a) 0 (ab b) 0 (sg b) := by
  have ha := ab_nn a
  have hb := ab_nn b
  have s1 : ab (sg a) = 1 := by unfold sg ab; split <;> simp
  have s2 : ab (sg b) = 1 := by unfold sg ab; split <;> simp
  have z : ab 0 = 0 := rfl
  refine ⟨ha, hb, by rw [sg_ab]; omega, by rw [sg_ab]; omega, ?_, ?_, ?_, ?_, ?_, ?_, by omega, by omega⟩
  · rw [ab_nat, ab_nat]; simp [Int.gcd]
  · rw [z, s1]; omega
  · rw [z, s2]; omega
  · rw [s1]; omega
  · rw [z]; omega
  · right; rw [z, s2]; omega
theorem ab_tri (x y : Int) : ab (x - y) ≤ ab x + ab y := by unfold ab; split <;> split <;> split <;> omega
theorem ab_mul (x y : Int) : ab (x * y) = ab x * ab y := by rw [ab_nat, ab_nat, ab_nat, Int.natAbs_mul]; simp
theorem Bz.step {a b r0 s0 t0 r1 s1 t1 : Int} (h : Bz a b r0 s0 t0 r1 s1 t1) (p : 0 < r1) : Bz a b r1 s1 t1 (r0 - r0.fdiv r1 * r1) (s0 - r0.fdiv r1 * s1) (t0 - r0.fdiv r1 * t1) ∧ r0 - r0.fdiv r1 * r1 < r1 := by
  have hm : r0 - r0.fdiv r1 * r1 = r0.fmod r1 := by
    have := Int.mul_fdiv_add_fmod r0 r1
    rw [Int.mul_comm] at this
    omega
  have m0 := Int.fmod_nonneg_of_pos r0 p
  have m1 := Int.fmod_lt_of_pos r0 p
  have q0 : 0 ≤ r0.fdiv r1 := Int.fdiv_nonneg h.n0 (by omega)
  have aq : ab (r0.fdiv r1) = r0.fdiv r1 := by unfold ab; rw [if_neg (by omega)]
  have n0 := h.n0
  have e0 := h.e0
  have e1 := h.e1
  have hs := h.s
  have ht := h.t
  have ns := ab_nn s0
  have nt := ab_nn t0
  have ns1 := ab_nn s1
  have nt1 := ab_nn t1
  have nb := ab_nn b
  have na := ab_nn a
  have bb : ∀ x y z : Int, 0 ≤ x → 0 ≤ y → r0 * x + r1 * y ≤ z → (1 ≤ r0 ∨ x ≤ 1) → 0 ≤ z → x ≤ z + 1 := fun x y z hx hy hz hc h0 => by
    have p1 := Int.mul_nonneg (show 0 ≤ r1 by omega) hy
    rcases hc with c | c
    · have := Int.mul_le_mul_of_nonneg_right c hx
      omega
    · omega
  refine ⟨⟨h.n1, by rw [hm]; exact m0, e1, by rw [← e0, ← e1]; grind, ?_, ?_, ?_, ?_, ?_, .inl p, by have := h.l1; omega, by have := h.l1; omega⟩, by rw [hm]; exact m1⟩
  · rw [hm, ← h.g]
    exact gcd_step h.n0 h.n1
  · have t1 := ab_tri s0 (r0.fdiv r1 * s1)
    rw [ab_mul, aq] at t1
    have t2 := Int.mul_le_mul_of_nonneg_left t1 h.n1
    have : r1 * (ab s0 + r0.fdiv r1 * ab s1) + (r0 - r0.fdiv r1 * r1) * ab s1 = r0 * ab s1 + r1 * ab s0 := by grind
    omega
  · have t1' := ab_tri t0 (r0.fdiv r1 * t1)
    rw [ab_mul, aq] at t1'
    have t2 := Int.mul_le_mul_of_nonneg_left t1' h.n1
    have : r1 * (ab t0 + r0.fdiv r1 * ab t1) + (r0 - r0.fdiv r1 * r1) * ab t1 = r0 * ab t1 + r1 * ab t0 := by grind
    omega
  · exact bb _ _ _ ns1 ns hs (by rcases h.z with c | c; exact .inl c; exact .inr c.1) nb
  · exact bb _ _ _ nt1 nt ht (by rcases h.z with c | c; exact .inl c; exact .inr c.2) na
structure Bf (a b g s t : Int) : Prop where
  hg : g = Int.gcd a b
  e : s * a + t * b = g
  bs : ab s ≤ ab b + 1
  bt : ab t ≤ ab a + 1
theorem Bz.fin {a b r0 s0 t0 r1 s1 t1 : Int} (h : Bz a b r0 s0 t0 r1 s1 t1) (z : r1 = 0) : Bf a b r0 s0 t0 := by
  refine ⟨?_, h.e0, h.bs, h.bt⟩
  have := h.g
  rw [z, Int.gcd_zero_right] at this
  rw [← this]
  have := h.n0
  omega
theorem Bf.bs' {a b g s t : Int} (h : Bf a b g s t) {n : Nat} (k : Bd b n) : Bd s (n + 1) := ⟨by
  have h1 := h.bs
  rw [ab_nat, ab_nat] at h1
  have h2 := k.lt
  have : (2 : Nat) ^ (n + 1) = 2 * 2 ^ n := by rw [Nat.pow_succ]; omega
  omega⟩
theorem Bf.bt' {a b g s t : Int} (h : Bf a b g s t) {n : Nat} (k : Bd a n) : Bd t (n + 1) := ⟨by
  have h1 := h.bt
  rw [ab_nat, ab_nat] at h1
  have h2 := k.lt
  have : (2 : Nat) ^ (n + 1) = 2 * 2 ^ n := by rw [Nat.pow_succ]; omega
  omega⟩
theorem bd_gcd {a b : Int} {n : Nat} (h : Bd a n) (k : Bd b n) : Bd (Int.gcd a b : Int) n := ⟨by
  rw [Int.natAbs_natCast]
  by_cases z : a = 0
  · subst z
    rw [Int.gcd_zero_left]; exact k.lt
  · have := Nat.le_of_dvd (by omega) (Int.natAbs_dvd_natAbs.mpr (Int.gcd_dvd_left (a := a) (b := b)))
    have h1 := h.lt
    rw [Int.natAbs_natCast] at this
    omega⟩
theorem bez_run {a b : Int} : ∀ (k : Nat) (r0 s0 t0 r1 s1 t1 : Int), r1.toNat ≤ k → Bz a b r0 s0 t0 r1 s1 t1 → ∃ g s t, Bf a b g s t
  | 0, r0, s0, t0, r1, s1, t1, hk, h => ⟨r0, s0, t0, h.fin (by have := h.n1; omega)⟩
  | k + 1, r0, s0, t0, r1, s1, t1, hk, h => by
    by_cases c : 0 < r1
    · have st := h.step c
      exact bez_run k _ _ _ _ _ _ (by have := st.2; omega) st.1
    · exact ⟨r0, s0, t0, h.fin (by have := h.n1; omega)⟩
theorem bezout_ex (a b : Int) : ∃ s t, s * a + t * b = (Int.gcd a b : Int) := by
  obtain ⟨g, s, t, f⟩ := bez_run _ _ _ _ _ _ _ (Nat.le_refl _) (Bz.init a b)
  exact ⟨s, t, by rw [f.e, f.hg]⟩
end BZ
set_option maxRecDepth 100000
set_option maxHeartbeats 4000000
namespace SV
open DL BZ
/-! ### rows of numbers, less one another (plain law) -/
abbrev Row := List Int
def en (r : Row) (i : Nat) : Int := r.getD i 0
def less (r o : Row) (t : Int) : Row := List.zipWith (fun x y => x - t * y) r o
theorem less_len {r o : Row} (h : r.length = o.length) (t : Int) : (less r o t).length = r.length := by
  simp [less, h]
theorem less_get {r o : Row} (h : r.length = o.length) (t : Int) (i : Nat) : en (less r o t) i = en r i - t * en o i := by
  unfold en less
  rw [List.getD_eq_getElem?_getD, List.getD_eq_getElem?_getD, List.getD_eq_getElem?_getD, List.getElem?_zipWith]
  by_cases hi : i < r.length
  · have ho : i < o.length := by omega
    rw [List.getElem?_eq_getElem hi, List.getElem?_eq_getElem ho]
    rfl
  · rw [List.getElem?_eq_none (by omega), List.getElem?_eq_none (by omega)]
    simp
def Sat (r : Row) (m n : Int) : Prop := en r 0 * m + en r 1 * n = en r 2
theorem sat_less {r o : Row} (h : r.length = o.length) (t m n : Int) (ho : Sat o m n) : Sat (less r o t) m n ↔ Sat r m n := by
  unfold Sat at *
  rw [less_get h, less_get h, less_get h]
  have e : (en r 0 - t * en o 0) * m + (en r 1 - t * en o 1) * n = en r 0 * m + en r 1 * n - t * (en o 0 * m + en o 1 * n) := by grind
  rw [e, ho]
  omega
/-- what goes over from rows to rows less others -/
def Closed (L : Nat) (P : Row → Prop) : Prop := ∀ (x y : Row) (t : Int), x.length = L → y.length = L → P x → P y → P (less x y t)
/-- bits -/
def RB (n : Nat) (r : Row) : Prop := ∀ i, Bd (en r i) n
theorem RB.le {n m : Nat} {r : Row} (h : RB n r) (k : n ≤ m) : RB m r := fun i => (h i).le k
/-- where two rows stand behind division began -/
structure Mid (c M : Nat) (h r : Row) : Prop where
  nz : en h c ≠ 0
  sg : 0 ≤ en h c * en r c
  x : ∀ i, (en h i).natAbs ≤ M
  d : ∀ i, (en r c).natAbs * (en h i).natAbs + (en h c).natAbs * (en r i).natAbs ≤ M
theorem Mid.y {c M : Nat} {h r : Row} (k : Mid c M h r) (i : Nat) : (en r i).natAbs ≤ M := by
  have h1 := k.d i
  have h2 : 1 * (en r i).natAbs ≤ (en h c).natAbs * (en r i).natAbs := Nat.mul_le_mul_right _ (by have := k.nz; omega)
  omega
theorem mod_abs {a b : Int} (hb : b ≠ 0) : (a.fmod b).natAbs < b.natAbs ∧ 0 ≤ b * a.fmod b := by
  rcases Int.lt_or_gt_of_ne hb with c | c
  · have e : a.fmod b = -((-a).fmod (-b)) := by
      have m1 := Int.mul_fdiv_add_fmod a b
      have m2 := Int.mul_fdiv_add_fmod (-a) (-b)
      rw [Int.neg_fdiv_neg, Int.neg_mul] at m2
      omega
    have f1 := Int.fmod_nonneg_of_pos (-a) (show 0 < -b by omega)
    have f2 := Int.fmod_lt_of_pos (-a) (show 0 < -b by omega)
    exact ⟨by omega, by rw [e]; exact Int.mul_nonneg_of_nonpos_of_nonpos (by omega) (by omega)⟩
  · have f1 := Int.fmod_nonneg_of_pos a c
    have f2 := Int.fmod_lt_of_pos a c
    exact ⟨by omega, Int.mul_nonneg (by omega) f1⟩
theorem less_c {h r : Row} (hl : h.length = r.length) (c : Nat) : en (less h r ((en h c).fdiv (en r c))) c = (en h c).fmod (en r c) := by
  rw [less_get hl]
  have := Int.mul_fdiv_add_fmod (en h c) (en r c)
  rw [Int.mul_comm] at this
  omega
theorem abs_sub_mul (x q y : Int) : (x - q * y).natAbs ≤ x.natAbs + q.natAbs * y.natAbs := by
  have : (q * y).natAbs = q.natAbs * y.natAbs := Int.natAbs_mul q y
  omega
/-- the first division -/
theorem Mid.first {c n b : Nat} {h r : Row} (hl : h.length = r.length) (bh : RB n h) (br : RB n r) (ch : Bd (en h c) b) (cr : Bd (en r c) b) (nz : en r c ≠ 0) : Mid c (2 ^ (n + b + 2)) r (less h r ((en h c).fdiv (en r c))) := by
  have m := mod_abs (a := en h c) nz
  have lc := less_c hl c
  have e4 : (2 : Nat) ^ (n + b + 2) = 4 * (2 ^ b * 2 ^ n) := by rw [Nat.pow_add, Nat.pow_add, Nat.mul_comm (2 ^ n)]; omega
  have p1 : 1 ≤ 2 ^ b := Nat.one_le_two_pow
  refine ⟨nz, by rw [lc]; exact m.2, fun i => ?_, fun i => ?_⟩
  · have := (br i).lt
    have := Nat.mul_le_mul_right (2 ^ n) p1
    omega
  · rw [lc, less_get hl]
    have t := abs_sub_mul (en h i) ((en h c).fdiv (en r c)) (en r i)
    have q : ((en h c).fdiv (en r c)).natAbs * (en r c).natAbs ≤ (en h c).natAbs + (en r c).natAbs := by
      have e := Int.mul_fdiv_add_fmod (en h c) (en r c)
      rw [← Int.natAbs_mul, Int.mul_comm]
      omega
    have x := (bh i).lt
    have y := (br i).lt
    have hc := ch.lt
    have rc := cr.lt
    have s1 := Nat.mul_le_mul (Nat.le_of_lt m.1) (Nat.le_refl (en r i).natAbs)
    have s2 := Nat.mul_le_mul_left (en r c).natAbs t
    have s3 : (en r c).natAbs * ((en h i).natAbs + ((en h c).fdiv (en r c)).natAbs * (en r i).natAbs) = (en r c).natAbs * (en h i).natAbs + ((en h c).fdiv (en r c)).natAbs * (en r c).natAbs * (en r i).natAbs := by
      rw [Nat.mul_add, ← Nat.mul_assoc, Nat.mul_comm (en r c).natAbs ((en h c).fdiv (en r c)).natAbs]
    have s4 := Nat.mul_le_mul_right (en r i).natAbs q
    rw [Nat.add_mul] at s4
    have w1 := Nat.mul_le_mul (Nat.le_of_lt rc) (Nat.le_of_lt x)
    have w2 := Nat.mul_le_mul (Nat.le_of_lt rc) (Nat.le_of_lt y)
    have w3 := Nat.mul_le_mul (Nat.le_of_lt hc) (Nat.le_of_lt y)
    omega
theorem div_abs {a b : Int} (hb : b ≠ 0) (s : 0 ≤ a * b) : (a.fdiv b).natAbs * b.natAbs + (a.fmod b).natAbs = a.natAbs := by
  have e := Int.mul_fdiv_add_fmod a b
  have m := mod_abs (a := a) hb
  rw [← Int.natAbs_mul, Int.mul_comm (a.fdiv b) b]
  rcases Int.lt_or_gt_of_ne hb with c | c
  · have ha : a ≤ 0 := by
      by_cases p : 0 < a
      · have := Int.mul_neg_of_pos_of_neg p c; omega
      · omega
    have f1 : a.fmod b ≤ 0 := by
      by_cases p : 0 < a.fmod b
      · have := Int.mul_neg_of_pos_of_neg p c
        rw [Int.mul_comm] at this
        omega
      · omega
    have q : 0 ≤ a.fdiv b := by
      rw [← Int.neg_fdiv_neg]
      exact Int.fdiv_nonneg (by omega) (by omega)
    have := Int.mul_nonpos_of_nonpos_of_nonneg (show b ≤ 0 by omega) q
    omega
  · have ha : 0 ≤ a := by
      by_cases p : a < 0
      · have := Int.mul_neg_of_neg_of_pos p c; omega
      · omega
    have f1 := Int.fmod_nonneg_of_pos a c
    have q : 0 ≤ a.fdiv b := Int.fdiv_nonneg ha (by omega)
    have := Int.mul_nonneg (show 0 ≤ b by omega) q
    omega
/-- one more division -/
theorem Mid.step {c M : Nat} {h r : Row} (hl : h.length = r.length) (k : Mid c M h r) (nz : en r c ≠ 0) : Mid c M r (less h r ((en h c).fdiv (en r c))) := by
  have m := mod_abs (a := en h c) nz
  have lc := less_c hl c
  have q := div_abs nz k.sg
  refine ⟨nz, by rw [lc]; exact m.2, k.y, fun i => ?_⟩
  rw [lc, less_get hl]
  have t := abs_sub_mul (en h i) ((en h c).fdiv (en r c)) (en r i)
  have s2 := Nat.mul_le_mul_left (en r c).natAbs t
  have s3 : (en r c).natAbs * ((en h i).natAbs + ((en h c).fdiv (en r c)).natAbs * (en r i).natAbs) = (en r c).natAbs * (en h i).natAbs + ((en h c).fdiv (en r c)).natAbs * (en r c).natAbs * (en r i).natAbs := by
    rw [Nat.mul_add, ← Nat.mul_assoc, Nat.mul_comm (en r c).natAbs ((en h c).fdiv (en r c)).natAbs]
  have d := k.d i
  have s4 : (en h c).natAbs * (en r i).natAbs = ((en h c).fdiv (en r c)).natAbs * (en r c).natAbs * (en r i).natAbs + ((en h c).fmod (en r c)).natAbs * (en r i).natAbs := by
    rw [← Nat.add_mul, q]
  omega
/-- what division of two rows ends with -/
structure Eu (c L B b : Nat) (h r h' r' : Row) : Prop where
  lh : h'.length = L
  lr : r'.length = L
  z : en r' c = 0
  nz : en h' c ≠ 0
  cb : Bd (en h' c) b
  cl : ∀ P, Closed L P → P h → P r → P h' ∧ P r'
  sat : ∀ m n, (Sat h m n ∧ Sat r m n) ↔ (Sat h' m n ∧ Sat r' m n)
  bh : RB B h'
  br : RB B r'
/-- what a row of rows is led to in a column -/
structure HR (c L B b : Nat) (rows : List Row) (ho : Option Row) (left : List Row) : Prop where
  lh : ∀ h, ho = some h → h.length = L ∧ en h c ≠ 0 ∧ Bd (en h c) b ∧ RB B h
  ll : ∀ r ∈ left, r.length = L ∧ en r c = 0 ∧ RB B r
  cl : ∀ P, Closed L P → (∀ r ∈ rows, P r) → (∀ h, ho = some h → P h) ∧ ∀ r ∈ left, P r
  sat : ∀ m n, (∀ r ∈ rows, Sat r m n) ↔ ((∀ h, ho = some h → Sat h m n) ∧ ∀ r ∈ left, Sat r m n)
  z : ho = none → ∀ r ∈ rows, en r c = 0
theorem HR.nil (c L B b : Nat) : HR c L B b [] none [] :=
  ⟨fun h e => (nomatch e), fun r h => by simp at h, fun P _ _ => ⟨fun h e => (nomatch e), fun r h => by simp at h⟩, fun m n => by simp, fun _ r h => by simp at h⟩
theorem HR.le {c L B C b : Nat} {rows : List Row} {ho : Option Row} {left : List Row} (h : HR c L B b rows ho left) (k : B ≤ C) : HR c L C b rows ho left :=
  ⟨fun x e => ⟨(h.lh x e).1, (h.lh x e).2.1, (h.lh x e).2.2.1, (h.lh x e).2.2.2.le k⟩, fun r e => ⟨(h.ll r e).1, (h.ll r e).2.1, (h.ll r e).2.2.le k⟩, h.cl, h.sat, h.z⟩
theorem all_app {P : Row → Prop} {a b : List Row} : (∀ r ∈ a ++ b, P r) ↔ (∀ r ∈ a, P r) ∧ ∀ r ∈ b, P r := by
  simp only [List.mem_append, or_imp, forall_and]
theorem all_one {P : Row → Prop} {a : Row} : (∀ r ∈ [a], P r) ↔ P a := by simp
theorem HR.skip {c L B b : Nat} {rows : List Row} {ho : Option Row} {left : List Row} (h : HR c L B b rows ho left) {r : Row} (hr : r.length = L) (hz : en r c = 0) (hb : RB B r) : HR c L B b (rows ++ [r]) ho (left ++ [r]) := by
  refine ⟨h.lh, fun x hx => ?_, fun P hP ha => ?_, fun m n => ?_, fun e x hx => ?_⟩
  · rcases List.mem_append.mp hx with q | q
    · exact h.ll x q
    · simp only [List.mem_singleton] at q
      subst q
      exact ⟨hr, hz, hb⟩
  · rw [all_app, all_one] at ha
    have := h.cl P hP ha.1
    exact ⟨this.1, all_app.mpr ⟨this.2, all_one.mpr ha.2⟩⟩
  · rw [all_app, all_one, all_app, all_one, h.sat, and_assoc]
  · rcases List.mem_append.mp hx with q | q
    · exact h.z e x q
    · simp only [List.mem_singleton] at q
      subst q
      exact hz
theorem HR.fst {c L B b : Nat} {rows : List Row} {left : List Row} (h : HR c L B b rows none left) {r : Row} (hr : r.length = L) (hz : en r c ≠ 0) (hb : RB B r) (cb : Bd (en r c) b) : HR c L B b (rows ++ [r]) (some r) left := by
  refine ⟨fun x e => by cases e; exact ⟨hr, hz, cb, hb⟩, h.ll, fun P hP ha => ?_, fun m n => ?_, fun e => (nomatch e)⟩
  · rw [all_app, all_one] at ha
    have := h.cl P hP ha.1
    exact ⟨fun x e => by cases e; exact ha.2, this.2⟩
  · rw [all_app, all_one, h.sat]
    constructor
    · rintro ⟨⟨_, a⟩, b⟩
      exact ⟨fun x e => by cases e; exact b, a⟩
    · rintro ⟨a, b⟩
      exact ⟨⟨fun x e => (nomatch e), b⟩, a r rfl⟩
theorem HR.eu {c L B C b : Nat} {rows : List Row} {x : Row} {left : List Row} (h : HR c L B b rows (some x) left) {r h' r' : Row} (k : Eu c L C b x r h' r') (hC : B ≤ C) : HR c L C b (rows ++ [r]) (some h') (left ++ [r']) := by
  refine ⟨fun y e => by cases e; exact ⟨k.lh, k.nz, k.cb, k.bh⟩, fun y hy => ?_, fun P hP ha => ?_, fun m n => ?_, fun e => (nomatch e)⟩
  · rcases List.mem_append.mp hy with q | q
    · exact ⟨(h.ll y q).1, (h.ll y q).2.1, (h.ll y q).2.2.le hC⟩
    · simp only [List.mem_singleton] at q
      subst q
      exact ⟨k.lr, k.z, k.br⟩
  · rw [all_app, all_one] at ha
    have q := h.cl P hP ha.1
    have w := k.cl P hP (q.1 x rfl) ha.2
    exact ⟨fun y e => by cases e; exact w.1, all_app.mpr ⟨q.2, all_one.mpr w.2⟩⟩
  · rw [all_app, all_one, h.sat, all_app, all_one]
    have s := k.sat m n
    constructor
    · rintro ⟨⟨a, b⟩, d⟩
      have := s.mp ⟨a x rfl, d⟩
      exact ⟨fun y e => by cases e; exact this.1, b, this.2⟩
    · rintro ⟨a, b, d⟩
      have := s.mpr ⟨a h' rfl, d⟩
      exact ⟨⟨fun y e => by cases e; exact this.1, b⟩, this.2⟩
/-! sums of products, told rows -/
def dot : List Int → List Int → Int
  | x :: xs, y :: ys => x * y + dot xs ys
  | _, _ => 0
theorem dot_nil (xs : List Int) : dot xs [] = 0 := by cases xs <;> rfl
theorem dot_less (t : Int) : ∀ (u v A : List Int), u.length = v.length → dot (less u v t) A = dot u A - t * dot v A
  | [], [], A, _ => by simp [less, dot]
  | x :: u, y :: v, [], _ => by simp [dot_nil]
  | x :: u, y :: v, a :: A, h => by
    have := dot_less t u v A (by simpa using h)
    simp only [less, List.zipWith_cons_cons, dot] at this ⊢
    rw [this]
    grind
def unit (N i : Nat) : List Int := (List.range N).map fun j => if i = j then 1 else 0
theorem unit_succ (N i : Nat) : unit (N + 1) (i + 1) = 0 :: unit N i := by
  simp [unit, List.range_succ_eq_map, Function.comp_def]
theorem unit_zero (N : Nat) : unit (N + 1) 0 = 1 :: List.replicate N 0 := by
  rw [unit, List.range_succ_eq_map, List.map_cons, List.map_map]
  simp only [if_true, List.cons.injEq, true_and]
  apply List.ext_getElem
  · simp
  · intro i h1 h2
    simp
theorem dot_zero : ∀ (N : Nat) (A : List Int), dot (List.replicate N 0) A = 0
  | 0, A => rfl
  | N + 1, [] => rfl
  | N + 1, a :: A => by rw [List.replicate_succ, dot, dot_zero N A]; simp
theorem dot_unit : ∀ (N i : Nat) (A : List Int), A.length = N → i < N → dot (unit N i) A = A.getD i 0
  | N + 1, 0, a :: A, _, _ => by rw [unit_zero, dot, dot_zero]; simp
  | N + 1, i + 1, a :: A, h, hi => by
    rw [unit_succ, dot, dot_unit N i A (by simpa using h) (by omega)]
    simp
theorem unit_len (N i : Nat) : (unit N i).length = N := by simp [unit]
def trow (A B G : List Int) (i : Nat) : Row := A.getD i 0 :: B.getD i 0 :: G.getD i 0 :: unit A.length i
theorem trow_len (A B G : List Int) (i : Nat) : (trow A B G i).length = A.length + 3 := by simp [trow, unit_len]
def Lin (A B G : List Int) (r : Row) : Prop := dot (r.drop 3) A = en r 0 ∧ dot (r.drop 3) B = en r 1 ∧ dot (r.drop 3) G = en r 2
theorem lin_closed (A B G : List Int) (L : Nat) : Closed L (Lin A B G) := fun x y t hx hy h k => by
  have hl : x.length = y.length := by omega
  have d : (less x y t).drop 3 = less (x.drop 3) (y.drop 3) t := by unfold less; rw [List.drop_zipWith]
  have hd : (x.drop 3).length = (y.drop 3).length := by simp [hl]
  unfold Lin at *
  rw [d, dot_less t _ _ A hd, dot_less t _ _ B hd, dot_less t _ _ G hd, less_get hl, less_get hl, less_get hl, h.1, h.2.1, h.2.2, k.1, k.2.1, k.2.2]
  exact ⟨rfl, rfl, rfl⟩
theorem lin_trow {A B G : List Int} {i : Nat} (h1 : B.length = A.length) (h2 : G.length = A.length) (hi : i < A.length) : Lin A B G (trow A B G i) := by
  unfold Lin trow
  simp only [List.drop_succ_cons, List.drop_zero]
  rw [dot_unit _ _ _ rfl hi, dot_unit _ _ _ h1 hi, dot_unit _ _ _ h2 hi]
  exact ⟨rfl, rfl, rfl⟩
def SatAll (A B G : List Int) (m n : Int) : Prop := ∀ i, i < A.length → A.getD i 0 * m + B.getD i 0 * n = G.getD i 0
def tab (A B G : List Int) : List Row := (List.range A.length).map (trow A B G)
theorem satAll_iff (A B G : List Int) (m n : Int) : (∀ r ∈ tab A B G, Sat r m n) ↔ SatAll A B G m n := by
  unfold tab SatAll
  simp only [List.mem_map, List.mem_range, forall_exists_index, and_imp, forall_apply_eq_imp_iff₂]
  exact Iff.rfl
/-- what is told of rows and goals -/
inductive Sol where
  | bar (tp : Bool) (ns : List Int) (m : Int)
  | all
  | one (p k : Int × Int)
  | two (p : Int × Int)
def SolOk (A B G : List Int) (w : Nat) : Sol → Prop
  | .bar _ ns m => ns.length = A.length ∧ 0 ≤ m ∧ m ∣ dot ns A ∧ m ∣ dot ns B ∧ ¬ m ∣ dot ns G ∧ (∀ x ∈ ns, Bd x w) ∧ Bd m w
  | .all => ∀ m n, SatAll A B G m n
  | .one p k => (∀ m n, SatAll A B G m n ↔ ∃ t, m = p.1 + t * k.1 ∧ n = p.2 + t * k.2) ∧ Int.gcd k.1 k.2 = 1 ∧ Bd p.1 w ∧ Bd p.2 w ∧ Bd k.1 8000 ∧ Bd k.2 8000
  | .two p => (∀ m n, SatAll A B G m n ↔ m = p.1 ∧ n = p.2) ∧ Bd p.1 w ∧ Bd p.2 w
/-! one equation, two equations -/
theorem gcd_one {s t X Y : Int} (h : s * X + t * Y = 1) : Int.gcd Y (-X) = 1 := by
  have h1 : ((Int.gcd Y (-X) : Nat) : Int) ∣ Y := Int.gcd_dvd_left ..
  have h2 : ((Int.gcd Y (-X) : Nat) : Int) ∣ X := Int.dvd_neg.mp (Int.gcd_dvd_right ..)
  have h3 : ((Int.gcd Y (-X) : Nat) : Int) ∣ 1 := by
    rw [← h]
    exact Int.dvd_add (Int.dvd_mul_of_dvd_right h2) (Int.dvd_mul_of_dvd_right h1)
  have := Int.le_of_dvd (by decide) h3
  have h4 : Int.gcd Y (-X) ≠ 0 := fun z => by rw [z] at h3; exact absurd h3 (by decide)
  omega
theorem one_sat {a b g G s t K X Y : Int} (G0 : G ≠ 0) (ha : a = G * X) (hb : b = G * Y) (hg : g = G * K) (e : s * a + t * b = G) (m n : Int) : a * m + b * n = g ↔ ∃ u, m = s * K + u * Y ∧ n = t * K + u * -X := by
  have e1 : s * X + t * Y = 1 := Int.eq_of_mul_eq_mul_left G0 (by
    have : G * (s * X + t * Y) = s * (G * X) + t * (G * Y) := by grind
    rw [this, ← ha, ← hb, e, Int.mul_one])
  rw [ha, hb, hg]
  constructor
  · intro h
    have h1 : X * m + Y * n = K := Int.eq_of_mul_eq_mul_left G0 (by
      have : G * (X * m + Y * n) = G * X * m + G * Y * n := by grind
      rw [this, h])
    refine ⟨t * m - s * n, ?_, ?_⟩
    · have : s * K + (t * m - s * n) * Y = m * (s * X + t * Y) := by rw [← h1]; grind
      rw [this, e1, Int.mul_one]
    · have : t * K + (t * m - s * n) * -X = n * (s * X + t * Y) := by rw [← h1]; grind
      rw [this, e1, Int.mul_one]
  · rintro ⟨u, rfl, rfl⟩
    have : G * X * (s * K + u * Y) + G * Y * (t * K + u * -X) = G * K * (s * X + t * Y) := by grind
    rw [this, e1, Int.mul_one]
theorem two_sat {f0 f1 f2 h1 h2 d l : Int} (n0 : f0 ≠ 0) (n1 : h1 ≠ 0) (hd : h2 = h1 * d) (hl : f2 - f1 * d = f0 * l) (m n : Int) : (f0 * m + f1 * n = f2 ∧ (0 : Int) * m + h1 * n = h2) ↔ m = l ∧ n = d := by
  constructor
  · rintro ⟨a, b⟩
    have e : n = d := Int.eq_of_mul_eq_mul_left n1 (by rw [← hd, ← b]; simp)
    subst e
    exact ⟨Int.eq_of_mul_eq_mul_left n0 (by omega), rfl⟩
  · rintro ⟨rfl, rfl⟩
    constructor
    · omega
    · rw [hd]; simp
theorem dot_nums (u v : Int) : ∀ (x y A : List Int), x.length = y.length → dot (List.zipWith (fun a b => u * a - v * b) x y) A = u * dot x A - v * dot y A
  | [], [], A, _ => by simp [dot]
  | x :: xs, y :: ys, [], _ => by simp [dot_nil]
  | x :: xs, y :: ys, a :: A, h => by
    have := dot_nums u v xs ys A (by simpa using h)
    simp only [List.zipWith_cons_cons, dot]
    rw [this]
    grind
theorem en_mem {r : Row} {n : Nat} (h : RB n r) : ∀ x ∈ r, Bd x n := fun x hx => by
  obtain ⟨i, hi, rfl⟩ := List.mem_iff_getElem.mp hx
  have := h i
  unfold en at this
  rw [List.getD_eq_getElem?_getD, List.getElem?_eq_getElem hi] at this
  exact this
theorem rb_of {r : Row} {n : Nat} (h : ∀ x ∈ r, Bd x n) : RB n r := fun i => by
  unfold en
  rw [List.getD_eq_getElem?_getD]
  cases e : r[i]? with
  | none => exact ⟨Nat.two_pow_pos n⟩
  | some x => exact h x (List.mem_of_getElem? e)
theorem getD_bd {A : List Int} {n : Nat} (h : ∀ x ∈ A, Bd x n) (i : Nat) : Bd (A.getD i 0) n := rb_of h i
theorem trow_bd {A B G : List Int} {n : Nat} (hn : 1 ≤ n) (h1 : ∀ x ∈ A, Bd x n) (h2 : ∀ x ∈ B, Bd x n) (h3 : ∀ x ∈ G, Bd x n) (i : Nat) : RB n (trow A B G i) := rb_of fun x hx => by
  unfold trow at hx
  simp only [List.mem_cons] at hx
  have p : 2 ≤ 2 ^ n := by
    have := Nat.pow_le_pow_right (show 0 < 2 by decide) hn
    omega
  rcases hx with rfl | rfl | rfl | hx
  · exact getD_bd h1 i
  · exact getD_bd h2 i
  · exact getD_bd h3 i
  · unfold unit at hx
    simp only [List.mem_map] at hx
    obtain ⟨j, _, rfl⟩ := hx
    split
    · exact ⟨by show 1 < _; omega⟩
    · exact ⟨by show 0 < _; omega⟩
end SV
set_option maxRecDepth 100000
set_option maxHeartbeats 4000000
namespace PW
open DL RT GR BZ SV
/-! ### all pairs of powers, in one form (plain law) -/
abbrev Told := Option ((Int × Int) × List (Int × Int))
def Canon (S : Int → Int → Prop) : Told → Prop
  | none => ∀ m n, ¬ S m n
  | some (p, []) => ∀ m n, S m n ↔ m = p.1 ∧ n = p.2
  | some (p, [k]) => (∀ m n, S m n ↔ ∃ t, m = p.1 + t * k.1 ∧ n = p.2 + t * k.2) ∧ (0 < k.1 ∨ (k.1 = 0 ∧ 0 < k.2)) ∧ (0 < k.1 → 0 ≤ p.1 ∧ p.1 < k.1) ∧ (k.1 = 0 → 0 ≤ p.2 ∧ p.2 < k.2)
  | some (p, [a, b]) => p = (0, 0) ∧ a = (1, 0) ∧ b = (0, 1) ∧ ∀ m n, S m n
  | some (_, _ :: _ :: _ :: _) => False
theorem unit_pm {u v : Int} (h : u * v = 1) : u = 1 ∨ u = -1 := by
  have h1 := congrArg Int.natAbs h
  rw [Int.natAbs_mul] at h1
  have h2 : u.natAbs = 1 := Nat.eq_one_of_dvd_one ⟨v.natAbs, h1.symm⟩
  omega
theorem Canon.congr {S S' : Int → Int → Prop} {T : Told} (h : Canon S T) (e : ∀ m n, S' m n ↔ S m n) : Canon S' T := by
  have : S' = S := by funext m n; exact propext (e m n)
  rw [this]; exact h
theorem line_eq {S : Int → Int → Prop} {p k q l : Int × Int} (h : Canon S (some (p, [k]))) (g : Canon S (some (q, [l]))) : p = q ∧ k = l := by
  obtain ⟨h1, h2, h3, h4⟩ := h
  obtain ⟨g1, g2, g3, g4⟩ := g
  obtain ⟨t, a1, a2⟩ := (g1 p.1 p.2).mp ((h1 p.1 p.2).mpr ⟨0, by simp, by simp⟩)
  obtain ⟨u, b1, b2⟩ := (g1 (p.1 + k.1) (p.2 + k.2)).mp ((h1 _ _).mpr ⟨1, by simp, by simp⟩)
  obtain ⟨v, c1, c2⟩ := (h1 (q.1 + l.1) (q.2 + l.2)).mp ((g1 _ _).mpr ⟨1, by simp, by simp⟩)
  obtain ⟨w, d1, d2⟩ := (h1 q.1 q.2).mp ((g1 q.1 q.2).mpr ⟨0, by simp, by simp⟩)
  have k1 : k.1 = (u - t) * l.1 := by rw [Int.sub_mul]; omega
  have k2 : k.2 = (u - t) * l.2 := by rw [Int.sub_mul]; omega
  have l1 : l.1 = (v - w) * k.1 := by rw [Int.sub_mul]; omega
  have l2 : l.2 = (v - w) * k.2 := by rw [Int.sub_mul]; omega
  have uv : (u - t) * (v - w) = 1 := by
    by_cases z : k.1 = 0
    · have z2 : k.2 ≠ 0 := by omega
      refine Int.eq_of_mul_eq_mul_right z2 ?_
      rw [Int.one_mul, Int.mul_assoc, ← l2, ← k2]
    · refine Int.eq_of_mul_eq_mul_right z ?_
      rw [Int.one_mul, Int.mul_assoc, ← l1, ← k1]
  have ekl : k = l := by
    rcases unit_pm uv with e | e
    · rw [e, Int.one_mul] at k1 k2
      exact Prod.ext k1 k2
    · rw [e] at k1 k2
      omega
  subst ekl
  refine ⟨?_, rfl⟩
  have t0 : t = 0 := by
    have key : ∀ x y z : Int, 0 < z → 0 ≤ x → x < z → 0 ≤ y → y < z → x = y + t * z → t = 0 := fun x y z hz x0 x1 y0 y1 e => by
      by_cases c : 1 ≤ t
      · have := Int.mul_le_mul_of_nonneg_right c (show 0 ≤ z by omega)
        omega
      · by_cases c2 : t ≤ -1
        · have := Int.mul_le_mul_of_nonneg_right c2 (show 0 ≤ z by omega)
          omega
        · omega
    rcases h2 with z | ⟨z, z2⟩
    · exact key _ _ _ z (h3 z).1 (h3 z).2 (g3 z).1 (g3 z).2 a1
    · exact key _ _ _ z2 (h4 z).1 (h4 z).2 (g4 z).1 (g4 z).2 a2
  rw [t0] at a1 a2
  exact Prod.ext (by omega) (by omega)
theorem Canon.uniq {S : Int → Int → Prop} : ∀ {T T' : Told}, Canon S T → Canon S T' → T = T'
  | none, none, _, _ => rfl
  | none, some (p, []), h, g => absurd ((g p.1 p.2).mpr ⟨rfl, rfl⟩) (h _ _)
  | none, some (p, [k]), h, g => absurd ((g.1 p.1 p.2).mpr ⟨0, by simp, by simp⟩) (h _ _)
  | none, some (p, [a, b]), h, g => absurd (g.2.2.2 0 0) (h _ _)
  | some (p, []), none, h, g => absurd ((h p.1 p.2).mpr ⟨rfl, rfl⟩) (g _ _)
  | some (p, [k]), none, h, g => absurd ((h.1 p.1 p.2).mpr ⟨0, by simp, by simp⟩) (g _ _)
  | some (p, [a, b]), none, h, g => absurd (h.2.2.2 0 0) (g _ _)
  | some (p, []), some (q, []), h, g => by
    have := (g p.1 p.2).mp ((h _ _).mpr ⟨rfl, rfl⟩)
    rw [Prod.ext this.1 this.2]
  | some (p, []), some (q, [k]), h, g => by
    have a := (h _ _).mp ((g.1 q.1 q.2).mpr ⟨0, by simp, by simp⟩)
    have b := (h _ _).mp ((g.1 (q.1 + k.1) (q.2 + k.2)).mpr ⟨1, by simp, by simp⟩)
    have := g.2.1
    omega
  | some (q, [k]), some (p, []), g, h => by
    have a := (h _ _).mp ((g.1 q.1 q.2).mpr ⟨0, by simp, by simp⟩)
    have b := (h _ _).mp ((g.1 (q.1 + k.1) (q.2 + k.2)).mpr ⟨1, by simp, by simp⟩)
    have := g.2.1
    omega
  | some (p, []), some (q, [a, b]), h, g => by
    have a := (h _ _).mp (g.2.2.2 0 0)
    have b := (h _ _).mp (g.2.2.2 1 0)
    omega
  | some (q, [a, b]), some (p, []), g, h => by
    have a := (h _ _).mp (g.2.2.2 0 0)
    have b := (h _ _).mp (g.2.2.2 1 0)
    omega
  | some (p, [k]), some (q, [l]), h, g => by
    obtain ⟨e1, e2⟩ := line_eq h g
    rw [e1, e2]
  | some (p, [k]), some (q, [a, b]), h, g => (no_all h g.2.2.2).elim
  | some (q, [a, b]), some (p, [k]), g, h => (no_all h g.2.2.2).elim
  | some (p, [a, b]), some (q, [c, d]), h, g => by
    rw [h.1, h.2.1, h.2.2.1, g.1, g.2.1, g.2.2.1]
where
  no_all {S : Int → Int → Prop} {p k : Int × Int} (h : Canon S (some (p, [k]))) (g : ∀ m n, S m n) : False := by
    obtain ⟨t, a1, a2⟩ := (h.1 _ _).mp (g 0 0)
    obtain ⟨u, b1, b2⟩ := (h.1 _ _).mp (g 1 0)
    obtain ⟨v, c1, c2⟩ := (h.1 _ _).mp (g 0 1)
    have e1 : (u - t) * k.1 = 1 := by rw [Int.sub_mul]; omega
    have e2 : (u - t) * k.2 = 0 := by rw [Int.sub_mul]; omega
    have e3 : (v - t) * k.1 = 0 := by rw [Int.sub_mul]; omega
    have e4 : (v - t) * k.2 = 1 := by rw [Int.sub_mul]; omega
    rcases Int.mul_eq_zero.mp e2 with z | z
    · rw [z] at e1; simp at e1
    · rw [z] at e4; simp at e4
/-- a line in the one form -/
def setl (p k : Int × Int) : (Int × Int) × (Int × Int) :=
  let k' : Int × Int := if k.1 < 0 ∨ (k.1 = 0 ∧ k.2 < 0) then (-k.1, -k.2) else k
  let t := if 0 < k'.1 then p.1.fdiv k'.1 else p.2.fdiv k'.2
  ((p.1 - t * k'.1, p.2 - t * k'.2), k')
theorem setl_ok {S : Int → Int → Prop} {p k : Int × Int} (h : ∀ m n, S m n ↔ ∃ t, m = p.1 + t * k.1 ∧ n = p.2 + t * k.2) (nz : k.1 ≠ 0 ∨ k.2 ≠ 0) : Canon S (some ((setl p k).1, [(setl p k).2])) := by
  unfold setl
  simp only
  generalize hk : (if k.1 < 0 ∨ (k.1 = 0 ∧ k.2 < 0) then (-k.1, -k.2) else k) = k'
  have sg : 0 < k'.1 ∨ (k'.1 = 0 ∧ 0 < k'.2) := by
    subst hk
    split
    · show 0 < -k.1 ∨ (-k.1 = 0 ∧ 0 < -k.2)
      omega
    · omega
  have h' : ∀ m n, S m n ↔ ∃ t, m = p.1 + t * k'.1 ∧ n = p.2 + t * k'.2 := fun m n => by
    rw [h]
    subst hk
    split
    · constructor
      · rintro ⟨t, a, b⟩
        exact ⟨-t, by simp only; grind, by simp only; grind⟩
      · rintro ⟨t, a, b⟩
        exact ⟨-t, by grind, by grind⟩
    · exact Iff.rfl
  generalize ht : (if 0 < k'.1 then p.1.fdiv k'.1 else p.2.fdiv k'.2) = t
  refine ⟨fun m n => ?_, sg, fun c => ?_, fun c => ?_⟩
  · rw [h']
    constructor
    · rintro ⟨u, a, b⟩
      exact ⟨u + t, by simp only; grind, by simp only; grind⟩
    · rintro ⟨u, a, b⟩
      exact ⟨u - t, by grind, by grind⟩
  · rw [if_pos c] at ht
    subst ht
    have m := Int.mul_fdiv_add_fmod p.1 k'.1
    have m1 := Int.fmod_nonneg_of_pos p.1 c
    have m2 := Int.fmod_lt_of_pos p.1 c
    rw [Int.mul_comm] at m
    simp only
    omega
  · have c2 : 0 < k'.2 := by omega
    rw [if_neg (by omega)] at ht
    subst ht
    have m := Int.mul_fdiv_add_fmod p.2 k'.2
    have m1 := Int.fmod_nonneg_of_pos p.2 c2
    have m2 := Int.fmod_lt_of_pos p.2 c2
    rw [Int.mul_comm] at m
    simp only
    omega
/-- bars leave no pair -/
theorem dot_sat (m n : Int) : ∀ (ns A B G : List Int), B.length = A.length → G.length = A.length → ns.length = A.length → SatAll A B G m n → dot ns G = dot ns A * m + dot ns B * n
  | [], _, _, _, _, _, _, _ => by simp [dot]
  | x :: ns, [], _, _, _, _, h, _ => by simp at h
  | x :: ns, a :: A, [], _, h, _, _, _ => by simp at h
  | x :: ns, a :: A, b :: B, [], _, h, _, _ => by simp at h
  | x :: ns, a :: A, b :: B, g :: G, h1, h2, h3, h => by
    have h0 := h 0 (by simp)
    have ih := dot_sat m n ns A B G (by simpa using h1) (by simpa using h2) (by simpa using h3) (fun i hi => h (i + 1) (by simpa using hi))
    have h0 : a * m + b * n = g := h0
    simp only [dot]
    rw [ih, ← h0]
    grind
theorem bar_no {A B G ns : List Int} {Q : Int} {w : Nat} {tp : Bool} (hB : B.length = A.length) (hG : G.length = A.length) (h : SolOk A B G w (.bar tp ns Q)) (m n : Int) : ¬ SatAll A B G m n := fun s => by
  obtain ⟨h1, h2, h3, h4, h5, _⟩ := h
  rw [dot_sat m n ns A B G hB hG h1 s] at h5
  exact h5 (Int.dvd_add (Int.dvd_mul_of_dvd_left h3) (Int.dvd_mul_of_dvd_left h4))
/-! one direction -/
theorem pw_up (p : Q3) (s m : Int) : pw (up p s) m = up (pw p m) (m * s) := by ext <;> simp only [pw, up] <;> grind
theorem mul_up (p q : Q3) (s t : Int) : mul (up p s) (up q t) = up (mul p q) (s + t) := by ext <;> simp only [mul, up] <;> grind
theorem up_inj {B : Q3} {t t' s s' : Int} (hB : B.x ≠ 0 ∨ B.y ≠ 0) (h : up (pw B t) s = up (pw B t') s') : t = t' ∧ s = s' := by
  have hx : t * B.x = t' * B.x := congrArg Q3.x h
  have hy : t * B.y = t' * B.y := congrArg Q3.y h
  have ha := congrArg Q3.a h
  have e : t = t' := by
    rcases hB with z | z
    · exact Int.eq_of_mul_eq_mul_right z hx
    · exact Int.eq_of_mul_eq_mul_right z hy
  subst e
  refine ⟨rfl, ?_⟩
  simp only [up] at ha
  omega
/-- the figures of a place over a primitive one -/
def times (B p : Q3) : Int := if B.x ≠ 0 then p.x.fdiv B.x else p.y.fdiv B.y
def storeys (B p : Q3) : Int := p.a - (pw B (times B p)).a
theorem figs {B p : Q3} {s t : Int} (h : s * B.x + t * B.y = 1) (hw : tw B p = 0) : p = up (pw B (times B p)) (storeys B p) := by
  have hw : B.x * p.y = p.x * B.y := by simp only [tw] at hw; omega
  obtain ⟨m, hm⟩ : ∃ m, m = s * p.x + t * p.y := ⟨_, rfl⟩
  have ex : p.x = m * B.x := by
    have : p.x * (s * B.x + t * B.y) = s * p.x * B.x + t * (p.x * B.y) := by grind
    rw [h, ← hw] at this
    rw [hm]
    grind
  have ey : p.y = m * B.y := by
    have : p.y * (s * B.x + t * B.y) = s * (B.x * p.y) + t * p.y * B.y := by grind
    rw [h, hw] at this
    rw [hm]
    grind
  have tm : times B p = m := by
    unfold times
    split
    · rename_i z
      rw [ex, Int.mul_fdiv_cancel _ z]
    · rename_i z
      have z : B.x = 0 := Decidable.not_not.mp z
      have z2 : B.y ≠ 0 := fun w => by rw [z, w] at h; simp at h
      rw [ey, Int.mul_fdiv_cancel _ z2]
  ext
  · simp only [up, pw]; rw [tm]; exact ex
  · simp only [up, pw]; rw [tm]; exact ey
  · simp only [up, storeys]; omega
theorem tw_up (B : Q3) (t s : Int) : tw B (up (pw B t) s) = 0 := by simp only [tw, up, pw]; grind
theorem figs_of {B : Q3} (hB : B.x ≠ 0 ∨ B.y ≠ 0) (t s : Int) : times B (up (pw B t) s) = t ∧ storeys B (up (pw B t) s) = s := by
  have tm : times B (up (pw B t) s) = t := by
    unfold times
    split
    · rename_i z
      exact Int.mul_fdiv_cancel _ z
    · rename_i z
      exact Int.mul_fdiv_cancel _ (by omega)
  refine ⟨tm, ?_⟩
  unfold storeys
  rw [tm]
  simp only [up]
  omega
theorem prod_figs (B : Q3) (t s t' s' m n : Int) : mul (pw (up (pw B t) s) m) (pw (up (pw B t') s') n) = up (pw B (t * m + t' * n)) (s * m + s' * n) := by
  rw [pw_up, pw_up, mul_up, pw_pw, pw_pw, ← pw_add]
  rw [Int.mul_comm m s, Int.mul_comm n s']
theorem dir_iff {B : Q3} (hB : B.x ≠ 0 ∨ B.y ≠ 0) (t s t' s' t'' s'' m n : Int) : mul (pw (up (pw B t) s) m) (pw (up (pw B t') s') n) = up (pw B t'') s'' ↔ (t * m + t' * n = t'' ∧ s * m + s' * n = s'') := by
  rw [prod_figs]
  constructor
  · exact up_inj hB
  · rintro ⟨rfl, rfl⟩; rfl
end PW
set_option maxRecDepth 100000
set_option maxHeartbeats 4000000
namespace RE
open RT GR
theorem ren_seen (E N p h : Q3) : ren E N (seen p h) = seen (ren E N p) (ren E N h) := by
  rw [seen_eq, seen_eq, ren_mul, ren_mul, ren_inv]
theorem ren_x (E N p : Q3) : (ren E N p).x = p.y * N.x + p.x * E.x := rfl
theorem ren_y (E N p : Q3) : (ren E N p).y = p.y * N.y + p.x * E.y := rfl
theorem tw_ren (E N p q : Q3) : tw (ren E N p) (ren E N q) = tw E N * tw p q := by
  simp only [tw, ren_x, ren_y]; grind
theorem ren_pwN (E N p : Q3) : ∀ n : Nat, ren E N (pw p n) = pw (ren E N p) n
  | 0 => by rw [show ((0 : Nat) : Int) = 0 from rfl, pw_zero, pw_zero, ren_one]
  | n + 1 => by
    rw [show ((n + 1 : Nat) : Int) = (n : Int) + 1 by omega, pw_add, pw_add, ren_mul, ren_pwN E N p n, pw_one, pw_one]
theorem ren_pw (E N p : Q3) (n : Int) : ren E N (pw p n) = pw (ren E N p) n := by
  rcases Int.lt_or_le n 0 with c | c
  · obtain ⟨m, rfl⟩ : ∃ m : Nat, n = -(m : Int) := ⟨(-n).toNat, by omega⟩
    rw [pw_neg, pw_neg, ren_inv, ren_pwN]
  · obtain ⟨m, rfl⟩ := Int.eq_ofNat_of_zero_le c
    exact ren_pwN E N p m
/-! unimodular renamings -/
theorem back {E N : Q3} (h : tw E N = 1 ∨ tw E N = -1) (p : Q3) : ren (invR ⟨E, N⟩).E (invR ⟨E, N⟩).N (ren E N p) = p := by
  have e := invR_left (A := ⟨E, N⟩) h
  have e1 := congrArg Rn.E e
  have e2 := congrArg Rn.N e
  rw [ren_ren]
  have e1 : ren (invR ⟨E, N⟩).E (invR ⟨E, N⟩).N E = ⟨1, 0, 0⟩ := e1
  have e2 : ren (invR ⟨E, N⟩).E (invR ⟨E, N⟩).N N = ⟨0, 1, 0⟩ := e2
  rw [e1, e2, ren_same]
theorem forth {E N : Q3} (h : tw E N = 1 ∨ tw E N = -1) (p : Q3) : ren E N (ren (invR ⟨E, N⟩).E (invR ⟨E, N⟩).N p) = p := by
  have e := invR_right (A := ⟨E, N⟩) h
  have e1 : ren E N (invR ⟨E, N⟩).E = ⟨1, 0, 0⟩ := congrArg Rn.E e
  have e2 : ren E N (invR ⟨E, N⟩).N = ⟨0, 1, 0⟩ := congrArg Rn.N e
  rw [ren_ren, e1, e2, ren_same]
theorem ren_inj {E N : Q3} (h : tw E N = 1 ∨ tw E N = -1) {p q : Q3} (e : ren E N p = ren E N q) : p = q := by
  rw [← back h p, e, back h q]
/-! gcds -/
theorem gcd_fwd (E N p : Q3) {b : Int} (h : (Int.gcd p.x p.y : Int) ∣ b) : (Int.gcd (ren E N p).x (ren E N p).y : Int) ∣ tw E N * b := by
  obtain ⟨g, hg⟩ : ∃ g : Int, (Int.gcd (ren E N p).x (ren E N p).y : Int) = g := ⟨_, rfl⟩
  have g1 : g ∣ (ren E N p).x := by rw [← hg]; exact Int.gcd_dvd_left _ _
  have g2 : g ∣ (ren E N p).y := by rw [← hg]; exact Int.gcd_dvd_right _ _
  rw [hg]
  rw [ren_x] at g1
  rw [ren_y] at g2
  have h1 : g ∣ tw E N * p.x := by
    have : tw E N * p.x = (p.y * N.x + p.x * E.x) * N.y - (p.y * N.y + p.x * E.y) * N.x := by simp only [tw]; grind
    rw [this]
    exact Int.dvd_sub (Int.dvd_mul_of_dvd_left g1) (Int.dvd_mul_of_dvd_left g2)
  have h2 : g ∣ tw E N * p.y := by
    have : tw E N * p.y = (p.y * N.y + p.x * E.y) * E.x - (p.y * N.x + p.x * E.x) * E.y := by simp only [tw]; grind
    rw [this]
    exact Int.dvd_sub (Int.dvd_mul_of_dvd_left g2) (Int.dvd_mul_of_dvd_left g1)
  have h3 : g ∣ (Int.gcd (tw E N * p.x) (tw E N * p.y) : Int) := Int.dvd_coe_gcd h1 h2
  have h4 : Int.gcd (tw E N * p.x) (tw E N * p.y) = (tw E N).natAbs * Int.gcd p.x p.y := Int.gcd_mul_left _ _ _
  rw [h4] at h3
  have h5 : g ∣ tw E N * (Int.gcd p.x p.y : Int) := by
    rcases Int.natAbs_eq (tw E N) with c | c
    · rw [c]; simpa using h3
    · rw [c, Int.neg_mul]
      exact Int.dvd_neg.mpr (by simpa using h3)
  exact Int.dvd_trans h5 (Int.mul_dvd_mul_left _ h)
theorem gcd_bwd {E N : Q3} (hD : tw E N = 1 ∨ tw E N = -1) (p : Q3) {b : Int} (h : (Int.gcd (ren E N p).x (ren E N p).y : Int) ∣ tw E N * b) : (Int.gcd p.x p.y : Int) ∣ b := by
  have a1 : (Int.gcd p.x p.y : Int) ∣ p.x := Int.gcd_dvd_left _ _
  have a2 : (Int.gcd p.x p.y : Int) ∣ p.y := Int.gcd_dvd_right _ _
  have g1 : (Int.gcd p.x p.y : Int) ∣ (ren E N p).x := by rw [ren_x]; exact Int.dvd_add (Int.dvd_mul_of_dvd_left a2) (Int.dvd_mul_of_dvd_left a1)
  have g2 : (Int.gcd p.x p.y : Int) ∣ (ren E N p).y := by rw [ren_y]; exact Int.dvd_add (Int.dvd_mul_of_dvd_left a2) (Int.dvd_mul_of_dvd_left a1)
  have g3 := Int.dvd_trans (Int.dvd_coe_gcd g1 g2) h
  rcases hD with e | e
  · rw [e, Int.one_mul] at g3; exact g3
  · rw [e, Int.neg_mul, Int.one_mul] at g3; exact Int.dvd_neg.mp g3
/-! roots -/
theorem root_uniq {C C' : Q3} {n : Int} (hn : n ≠ 0) (e : pw C n = pw C' n) : C = C' := by
  have hx : n * C.x = n * C'.x := congrArg Q3.x e
  have hy : n * C.y = n * C'.y := congrArg Q3.y e
  have ha : n * C.a + hlf n * C.x * C.y = n * C'.a + hlf n * C'.x * C'.y := congrArg Q3.a e
  have ex := Int.eq_of_mul_eq_mul_left hn hx
  have ey := Int.eq_of_mul_eq_mul_left hn hy
  rw [ex, ey] at ha
  have ea := Int.eq_of_mul_eq_mul_left hn (show n * C.a = n * C'.a by omega)
  ext
  · exact ex
  · exact ey
  · exact ea
theorem big_ren {E N P : Q3} {k : Int} (hD : tw E N = 1 ∨ tw E N = -1) (h : Big P k) : Big (ren E N P) k := by
  refine ⟨h.pos, ?_, fun n C hn e => ?_⟩
  · obtain ⟨B, hB⟩ := h.has
    exact ⟨ren E N B, by rw [← ren_pw, hB]⟩
  · refine h.all n (ren (invR ⟨E, N⟩).E (invR ⟨E, N⟩).N C) hn ?_
    rw [← ren_pw, e, back hD]
theorem no_root {E N P : Q3} {n : Int} (hD : tw E N = 1 ∨ tw E N = -1) (h : ¬ ∃ C, pw C n = P) : ¬ ∃ C, pw C n = ren E N P := fun ⟨C, e⟩ => by
  refine h ⟨ren (invR ⟨E, N⟩).E (invR ⟨E, N⟩).N C, ?_⟩
  rw [← ren_pw, e, back hD]
theorem pairs_ren {E N P Q R : Q3} (hD : tw E N = 1 ∨ tw E N = -1) (m n : Int) : GR.mul (pw (ren E N P) m) (pw (ren E N Q) n) = ren E N R ↔ GR.mul (pw P m) (pw Q n) = R := by
  rw [← ren_pw, ← ren_pw, ← ren_mul]
  exact ⟨ren_inj hD, fun h => by rw [h]⟩
end RE
set_option maxRecDepth 100000
set_option maxHeartbeats 4000000
namespace AK
open RT GR RE PW
/-! ### the one least form of a place (plain law) -/
/-- what turns a place (g u, g v, a) to the east, when s u + t v = 1 -/
abbrev tE (s v : Int) : Q3 := ⟨s, -v, 0⟩
abbrev tN (t u : Int) : Q3 := ⟨t, u, 0⟩
theorem tw_turn {s t u v : Int} (h : s * u + t * v = 1) : tw (tE s v) (tN t u) = 1 := by simp only [tw]; grind
def ta (g u v a s t : Int) : Int := a + hlf (g * v) * t * u - hlf (g * u) * s * v - g * v * t * (g * u * v)
theorem turn_east {g u v a s t : Int} (h : s * u + t * v = 1) : ren (tE s v) (tN t u) ⟨g * u, g * v, a⟩ = ⟨g, 0, ta g u v a s t⟩ := by
  have e := tw_turn h
  ext
  · rw [ren_x]; simp only; grind
  · rw [ren_y]; simp only; grind
  · simp only [ren, up, mul, pw, ta]
    rw [e]
    grind
theorem even3 (u v : Int) : ∃ k, u * v * (u + v) = 2 * k := by
  rcases Int.emod_two_eq u with a | a
  · exact ⟨u / 2 * v * (u + v), by have : u = 2 * (u / 2) := by omega
                                   grind⟩
  · rcases Int.emod_two_eq v with b | b
    · exact ⟨u * (v / 2) * (u + v), by have : v = 2 * (v / 2) := by omega
                                       grind⟩
    · exact ⟨u * v * ((u + v) / 2), by have : u + v = 2 * ((u + v) / 2) := by omega
                                       grind⟩
/-- the turned area is the same by g, whatever turns -/
theorem ta_cong {g u v a s t s' t' : Int} (h : s * u + t * v = 1) (h' : s' * u + t' * v = 1) : g ∣ ta g u v a s' t' - ta g u v a s t := by
  obtain ⟨k, hk⟩ : ∃ k, k = s' * t - s * t' := ⟨_, rfl⟩
  have e1 : s' = s + k * v := by
    have : k * v = s' * (t * v) - s * (t' * v) := by rw [hk]; grind
    have a1 : t * v = 1 - s * u := by omega
    have a2 : t' * v = 1 - s' * u := by omega
    rw [a1, a2] at this
    grind
  have e2 : t' = t - k * u := by
    have : k * u = t * (s' * u) - t' * (s * u) := by rw [hk]; grind
    have a1 : s * u = 1 - t * v := by omega
    have a2 : s' * u = 1 - t' * v := by omega
    rw [a1, a2] at this
    grind
  obtain ⟨w, hw⟩ := even3 u v
  have q1 := hlf2 (g * v)
  have q2 := hlf2 (g * u)
  refine ⟨k * w, ?_⟩
  have : 2 * (ta g u v a s' t' - ta g u v a s t) = 2 * (g * (k * w)) := by
    rw [e1, e2]
    simp only [ta]
    have r1 : 2 * (g * (k * w)) = g * k * (2 * w) := by grind
    rw [r1, ← hw]
    generalize hlf (g * v) = A at *
    generalize hlf (g * u) = B at *
    have z1 : 2 * (a + A * (t - k * u) * u - B * (s + k * v) * v - g * v * (t - k * u) * (g * u * v) - (a + A * t * u - B * s * v - g * v * t * (g * u * v))) = -k * u * u * (2 * A) - k * v * v * (2 * B) + 2 * g * g * k * u * u * v * v := by grind
    rw [z1, q1, q2]
    grind
  omega
/-- the least of the two rests -/
def lr (g a : Int) : Int := if (-a).fmod g < a.fmod g then (-a).fmod g else a.fmod g
theorem fmod_cong {g a b : Int} (hg : 0 < g) (h : g ∣ a - b) : a.fmod g = b.fmod g := by
  obtain ⟨k, hk⟩ := h
  have : a = b + g * k := by omega
  rw [this, Int.add_mul_fmod_self_left]
theorem of_fmod {g a b : Int} (h : a.fmod g = b.fmod g) : g ∣ a - b := by
  have h1 := Int.mul_fdiv_add_fmod a g
  have h2 := Int.mul_fdiv_add_fmod b g
  exact ⟨a.fdiv g - b.fdiv g, by rw [Int.mul_sub]; omega⟩
theorem lr_iff {g a b : Int} (hg : 0 < g) : lr g a = lr g b ↔ (g ∣ a - b ∨ g ∣ a + b) := by
  constructor
  · intro h
    unfold lr at h
    split at h <;> split at h
    · left
      have := of_fmod h
      have e : a - b = -(-a - -b) := by omega
      rw [e]; exact Int.dvd_neg.mpr this
    · right
      have := of_fmod h
      have e : a + b = -(-a - b) := by omega
      rw [e]; exact Int.dvd_neg.mpr this
    · right
      have := of_fmod h
      have e : a + b = a - -b := by omega
      rw [e]; exact this
    · exact .inl (of_fmod h)
  · rintro (h | h)
    · have e1 := fmod_cong hg h
      have e2 : (-a).fmod g = (-b).fmod g := fmod_cong hg (by
        have e : -a - -b = -(a - b) := by omega
        rw [e]; exact Int.dvd_neg.mpr h)
      unfold lr
      rw [e1, e2]
    · have e1 : a.fmod g = (-b).fmod g := fmod_cong hg (by
        have e : a - -b = a + b := by omega
        rw [e]; exact h)
      have e2 : (-a).fmod g = b.fmod g := fmod_cong hg (by
        have e : -a - b = -(a + b) := by omega
        rw [e]; exact Int.dvd_neg.mpr h)
      unfold lr
      rw [e1, e2]
      split <;> split <;> omega
/-- lifted along the east line -/
theorem low_east (g a e n : Int) : ren ⟨1, 0, e⟩ ⟨0, 1, n⟩ ⟨g, 0, a⟩ = ⟨g, 0, a + e * g⟩ := by
  ext <;> simp [ren, up, mul, pw, tw, hlf]
  grind
theorem glass_east (g a : Int) : ren ⟨1, 0, 0⟩ ⟨0, -1, 0⟩ ⟨g, 0, a⟩ = ⟨g, 0, -a⟩ := by
  ext <;> simp [ren, up, mul, pw, tw, hlf]
theorem low_mod (g a : Int) : a + -(a.fdiv g) * g = a.fmod g := by
  have := Int.mul_fdiv_add_fmod a g
  rw [Int.mul_comm] at this
  rw [Int.neg_mul]
  omega
end AK
set_option maxRecDepth 100000
set_option maxHeartbeats 4000000
namespace W_k49
open DL
instance : Bd (2 : Int) 2 := ⟨by decide⟩
instance : Bd (3 : Int) 2 := ⟨by decide⟩
instance : Bd (4 : Int) 3 := ⟨by decide⟩
instance : Bd (5 : Int) 3 := ⟨by decide⟩
instance : Bd (6 : Int) 3 := ⟨by decide⟩
instance : Bd (10 : Int) 4 := ⟨by decide⟩
instance : Bd (12 : Int) 4 := ⟨by decide⟩
instance : Bd (13 : Int) 4 := ⟨by decide⟩
instance : Bd (15 : Int) 4 := ⟨by decide⟩
instance : Bd (18 : Int) 5 := ⟨by decide⟩
instance : Bd (23 : Int) 5 := ⟨by decide⟩
instance : Bd (29 : Int) 5 := ⟨by decide⟩
instance : Bd (41 : Int) 6 := ⟨by decide⟩
instance : Bd (63 : Int) 6 := ⟨by decide⟩
instance : Bd (64 : Int) 7 := ⟨by decide⟩
instance : Bd (83 : Int) 7 := ⟨by decide⟩
instance : Bd (151 : Int) 8 := ⟨by decide⟩
instance : Bd (1000 : Int) 10 := ⟨by decide⟩
instance : Bd (3000 : Int) 12 := ⟨by decide⟩
instance : Bd (35023 : Int) 16 := ⟨by decide⟩
instance : Bd (60013 : Int) 16 := ⟨by decide⟩
instance : Bd (90007 : Int) 17 := ⟨by decide⟩
instance : Bd (1000000 : Int) 20 := ⟨by decide⟩
instance : Bd (2147482811 : Int) 31 := ⟨by decide⟩
instance : Bd (2147482873 : Int) 31 := ⟨by decide⟩
instance : Bd (2147482951 : Int) 31 := ⟨by decide⟩
instance : Bd (2147483033 : Int) 31 := ⟨by decide⟩
instance : Bd (1000000000000000 : Int) 50 := ⟨by decide⟩
instance : Bd (1000000000000001 : Int) 50 := ⟨by decide⟩
instance : Bd (1000000000000000000 : Int) 60 := ⟨by decide⟩
abbrev penD (cs : List Int) (c l : Int) : List (DK × D) := [(.s [99, 101, 108, 108, 115], .lst (cs.map D.int)), (.s [99, 111, 117, 110, 116], .int c), (.s [108, 101, 102, 116], .int l)]
def Pen (n : Nat) (S : List Cell) : Prop := ∃ cs c l, S = [.dic (penD cs c l)] ∧ 0 ≤ c ∧ c ≤ n ∧ 0 ≤ l
theorem Pen.mono {n m : Nat} {S : List Cell} (h : Pen n S) (hm : n ≤ m) : Pen m S := by
  obtain ⟨cs, c, l, h1, h2, h3, h4⟩ := h
  exact ⟨cs, c, l, h1, h2, by omega, h4⟩
theorem draw_ok {n : Nat} {S : List Cell} {p : Int} (hS : Pen n S) (hn : n < 2 ^ 20) (hp : 0 < p) (hp2 : p < 2 ^ 60) : ∃ d S', g__law_draw [.cell 0, .int p] S = .ok (.int d) S' ∧ 0 ≤ d ∧ d < p ∧ Pen (n + 1) S' := by
  obtain ⟨cs, c, l, rfl, c0, c1, l0⟩ := hS
  have bp : Bd p 60 := ⟨by omega⟩
  have bc : Bd c 20 := ⟨by omega⟩
  have dp : divOk p = true := divOk_of bp (by omega) (by omega)
  have hp' : p ≠ 0 := by omega
  have m1 := fun x : Int => Int.fmod_nonneg_of_pos x hp
  have m2 := fun x : Int => Int.fmod_lt_of_pos x hp
  have ndk : ∀ (a b c : D), keysNd [(.s [99, 101, 108, 108, 115], a), (.s [99, 111, 117, 110, 116], b), (.s [108, 101, 102, 116], c)] = true := fun a b c => rfl
  have mc (x : Int) : mulOk (x.fmod 2147482811) 60013 = true := by
    have : Bd (x.fmod 2147482811) 31 := .of_range (m := 2147482811) (Int.fmod_nonneg_of_pos _ (by decide)) (Int.fmod_lt_of_pos _ (by decide)) (by decide)
    exact mulOk_bd (by decide)
  have mb (x : Int) : mulOk (x.fmod 2147482873) (x.fmod 2147482873 + 90007) = true := by
    have : Bd (x.fmod 2147482873) 31 := .of_range (m := 2147482873) (Int.fmod_nonneg_of_pos _ (by decide)) (Int.fmod_lt_of_pos _ (by decide)) (by decide)
    exact mulOk_bd (by decide)
  have me (x : Int) : mulOk (x.fmod 2147482951) (x.fmod 2147482951) = true := by
    have : Bd (x.fmod 2147482951) 31 := .of_range (m := 2147482951) (Int.fmod_nonneg_of_pos _ (by decide)) (Int.fmod_lt_of_pos _ (by decide)) (by decide)
    exact mulOk_bd (by decide)
  have mf (x : Int) : mulOk 41 (x.fmod 2147482951) = true := by
    have : Bd (x.fmod 2147482951) 31 := .of_range (m := 2147482951) (Int.fmod_nonneg_of_pos _ (by decide)) (Int.fmod_lt_of_pos _ (by decide)) (by decide)
    exact mulOk_bd (by decide)
  have q0 : mulOk 83 c = true := mulOk_bd (by decide)
  have q1 : mulOk 35023 c = true := mulOk_bd (by decide)
  have q2 : mulOk 151 c = true := mulOk_bd (by decide)
  have qs : mulOk (35023 * c) c = true := mulOk_bd (by decide)
  have qd : divOk 64 = true := by decide
  by_cases a1 : p ≤ l
  · simp [g__law_draw, b__law_draw, fnD, dLook, dPut, dp, hp', ndk, a1]
    exact ⟨_, _, ⟨rfl, rfl⟩, m1 _, m2 _, cs, c, _, rfl, c0, by omega, Int.fdiv_nonneg l0 (by omega)⟩
  · by_cases a2 : cs = []
    · subst a2
      have a3 : ¬ c < 0 := by omega
      simp [g__law_draw, b__law_draw, fnD, dLook, dPut, dp, hp', ndk, a1, q0, q1, q2, qs, qd, mc, mb, me, mf, a3]
      exact ⟨_, _, ⟨rfl, rfl⟩, m1 _, m2 _, [], c + 1, l, rfl, by omega, by omega, l0⟩
    · obtain ⟨x, hx⟩ := ix_mod cs c a2
      by_cases a3 : c < cs.length ∧ 1000000000000000000 ≤ x
      · simp [g__law_draw, b__law_draw, fnD, dLook, dPut, dp, hp', ndk, a1, q0, q1, q2, qs, qd, mc, mb, me, mf, a2, hx, a3]
        exact ⟨_, _, ⟨rfl, rfl⟩, m1 _, m2 _, cs, c + 1, _, rfl, by omega, by omega, Int.fdiv_nonneg (by omega) (by omega)⟩
      · by_cases a4 : c < cs.length
        · have a5 : ¬ 1000000000000000000 ≤ x := fun h => a3 ⟨a4, h⟩
          simp [g__law_draw, b__law_draw, fnD, dLook, dPut, dp, hp', ndk, a1, q0, q1, q2, qs, qd, mc, mb, me, mf, a2, hx, a4, a5]
          exact ⟨_, _, ⟨rfl, rfl⟩, m1 _, m2 _, cs, c + 1, l, rfl, by omega, by omega, l0⟩
        · simp [g__law_draw, b__law_draw, fnD, dLook, dPut, dp, hp', ndk, a1, q0, q1, q2, qs, qd, mc, mb, me, mf, a2, hx, a4]
          exact ⟨_, _, ⟨rfl, rfl⟩, m1 _, m2 _, cs, c + 1, l, rfl, by omega, by omega, l0⟩
theorem begin_ok (ns : List Int) : ∃ S, g__law_begin [.scr (ns.map D.int)] [] = .ok (.cell 0) S ∧ Pen 0 S := by
  have e : cutD (ns.map D.int) none (some 63) = (cutD ns none (some 63)).map D.int := by
    simp [cutD, List.map_drop, List.map_take]
  have k : ∀ a b c : D, keysNd [(.s [99, 101, 108, 108, 115], a), (.s [99, 111, 117, 110, 116], b), (.s [108, 101, 102, 116], c)] = true := fun a b c => rfl
  simp [g__law_begin, b__law_begin, fnD, e, k]
  exact ⟨_, 0, 0, rfl, by decide, by decide, by decide⟩
theorem pick_ok {n : Nat} {S : List Cell} {xs : List D} (hS : Pen n S) (hn : n < 2 ^ 20) (h0 : xs ≠ []) (h1 : xs.length < 1000) : ∃ d S', g__law_pick [.cell 0, .lst xs] S = .ok d S' ∧ d ∈ xs ∧ Pen (n + 1) S' := by
  have hl : (0 : Int) < xs.length := by
    cases xs with
    | nil => exact absurd rfl h0
    | cons a r => simp
  obtain ⟨d, S', e, d0, d1, hP⟩ := draw_ok hS hn hl (by omega)
  obtain ⟨k, rfl⟩ := Int.eq_ofNat_of_zero_le d0
  have hk : k < xs.length := by omega
  have : L2.atI xs (k : Int) = some xs[k] := L2.atI_nat (by simp [hk])
  refine ⟨xs[k], S', ?_, List.getElem_mem _, hP⟩
  simp [g__law_pick, b__law_pick, fnD, e, this]
end W_k49
set_option maxRecDepth 100000
set_option maxHeartbeats 4000000
set_option exponentiation.threshold 4000
namespace W_k49
open DL RT GR
/-! ### places, rows: as Q3 -/
@[simp] theorem is_integer_ok (i : Int) (S : List Cell) : g_is_integer [.int i] S = .ok (.bl true) S := by
  simp [g_is_integer, b_is_integer, fnD]
@[simp] theorem init_ok (x y a : Int) (S : List Cell) : g_PlaceX_initX [.int x, .int y, .int a] S = .ok [([120], .int x), ([121], .int y), ([97, 114, 101, 97], .int a)] S := by
  simp [g_PlaceX_initX, b_PlaceX_initX, w_PlaceX_initX_0, inD, inFin, putN]
@[simp] theorem place_q (p : Q3) (S : List Cell) : g__law_place [tP p] S = .ok (pP p) S := by
  simp [g__law_place, b__law_place, fnD]
@[simp] theorem need_q (p : Q3) (S : List Cell) : g_need_place [pP p] S = .ok .non S := by
  simp [g_need_place, b_need_place, fnD]
@[simp] theorem whole_ok (i : Int) (S : List Cell) : g__law_whole [.int i] S = .ok (.bl true) S := by
  simp [g__law_whole, b__law_whole, fnD]
@[simp] theorem row_q (p : Q3) (S : List Cell) : g__law_row [pP p] S = .ok (tP p) S := by
  simp [g__law_row, b__law_row, e__law_row_0, fnD, List.lookup, bAll, blsOf]
@[simp] theorem row_non (S : List Cell) : g__law_row [.non] S = .ok .non S := by
  simp [g__law_row, b__law_row, fnD]
theorem pairs_ok (k : Int) {m : Nat} (hk : Bd k m) (S : List Cell) (h : m < 40000000) : g_pairs_below [.int k] S = .ok (.int (RT.hlf k)) S := by
  have b4 : Bd (k - 1) (m + 1) := ⟨by have := hk.lt; rw [Nat.pow_succ]; have := Nat.one_le_two_pow (n := m); omega⟩
  have m1 : mulOk k (k - 1) = true := mulOk_of hk b4 (by omega)
  simp [g_pairs_below, b_pairs_below, fnD, m1, RT.hlf]
theorem times_q {p : Q3} {k : Int} {n m : Nat} (hp : B3 n p) (hk : Bd k m) (S : List Cell) (h : 2 * n + 4 * m < 90000000) : g__law_times [tP p, .int k] S = .ok (tP (RT.pw p k)) S := by
  have b4 : Bd (k - 1) (m + 1) := ⟨by have := hk.lt; rw [Nat.pow_succ]; have := Nat.one_le_two_pow (n := m); omega⟩
  have m1 : mulOk k (k - 1) = true := mulOk_of hk b4 (by omega)
  have m2 : mulOk k p.x = true := mulOk_of hk hp.x (by omega)
  have m3 : mulOk k p.y = true := mulOk_of hk hp.y (by omega)
  have m4 : mulOk k p.a = true := mulOk_of hk hp.a (by omega)
  have bh := bd_hlf hk
  have m5 : mulOk (RT.hlf k) p.x = true := mulOk_of bh hp.x (by omega)
  have m6 : mulOk (RT.hlf k * p.x) p.y = true := mulOk_of (@bd_mul _ _ _ _ bh hp.x) hp.y (by omega)
  simp only [RT.hlf] at m5 m6
  simp [g__law_times, b__law_times, fnD, m1, m2, m3, m4, m5, m6, RT.pw, RT.hlf]
theorem power_q {p : Q3} {k : Int} {n m : Nat} (hp : B3 n p) (hk : Bd k m) (S : List Cell) (h : 2 * n + 4 * m < 90000000) : g_Place_power [pP p, .int k] S = .ok (pP (RT.pw p k)) S := by
  have m2 : mulOk k p.x = true := mulOk_of hk hp.x (by omega)
  have m3 : mulOk k p.y = true := mulOk_of hk hp.y (by omega)
  have m4 : mulOk k p.a = true := mulOk_of hk hp.a (by omega)
  have bh := bd_hlf hk
  have m5 : mulOk (RT.hlf k) p.x = true := mulOk_of bh hp.x (by omega)
  have m6 : mulOk (RT.hlf k * p.x) p.y = true := mulOk_of (@bd_mul _ _ _ _ bh hp.x) hp.y (by omega)
  have q := pairs_ok k hk S (by omega)
  simp only [RT.hlf] at q m5 m6
  simp [g_Place_power, b_Place_power, fnD, m2, m3, m4, m5, m6, q, List.lookup, RT.pw, RT.hlf]
theorem join_q {p q : Q3} {n : Nat} (hp : B3 n p) (hq : B3 n q) (S : List Cell) (h : n < 40000000) : g__law_join [tP p, tP q] S = .ok (tP (GR.mul p q)) S := by
  have m1 : mulOk p.x q.y = true := mulOk_of hp.x hq.y (by omega)
  simp [g__law_join, b__law_join, fnD, m1, GR.mul]
theorem mul_q {p q : Q3} {n : Nat} (hp : B3 n p) (hq : B3 n q) (S : List Cell) (h : n < 40000000) : g_PlaceX_mulX [pP p, pP q] S = .ok (pP (GR.mul p q)) S := by
  have m1 : mulOk p.x q.y = true := mulOk_of hp.x hq.y (by omega)
  simp [g_PlaceX_mulX, b_PlaceX_mulX, fnD, m1, List.lookup, GR.mul]
theorem peq_q (p q : Q3) (S : List Cell) : g_PlaceX_eqX [pP p, pP q] S = .ok (.bl (decide (p = q))) S := by
  have : decide (p = q) = decide (p.x = q.x ∧ p.y = q.y ∧ p.a = q.a) := decide_eq_decide.mpr Q3.ext_iff
  rw [this]
  simp [g_PlaceX_eqX, b_PlaceX_eqX, fnD, List.lookup]
theorem lifted_q (p : Q3) (k : Int) (S : List Cell) : g_Place_lifted [pP p, .int k] S = .ok (pP (GR.up p k)) S := by
  simp [g_Place_lifted, b_Place_lifted, fnD, List.lookup, GR.up]
theorem twist_q {p q : Q3} {n : Nat} (hp : B3 n p) (hq : B3 n q) (S : List Cell) (h : n < 40000000) : g_Place_twist [pP p, pP q] S = .ok (.int (GR.tw p q)) S := by
  have m1 : mulOk p.x q.y = true := mulOk_of hp.x hq.y (by omega)
  have m2 : mulOk q.x p.y = true := mulOk_of hq.x hp.y (by omega)
  simp [g_Place_twist, b_Place_twist, fnD, m1, m2, List.lookup, GR.tw]
theorem ltwist_q {p q : Q3} {n : Nat} (hp : B3 n p) (hq : B3 n q) (S : List Cell) (h : n < 40000000) : g__law_twist [tP p, tP q] S = .ok (.int (GR.tw p q)) S := by
  have m1 : mulOk p.x q.y = true := mulOk_of hp.x hq.y (by omega)
  have m2 : mulOk q.x p.y = true := mulOk_of hq.x hp.y (by omega)
  simp [g__law_twist, b__law_twist, fnD, m1, m2, GR.tw]
/-! ### walks of letters -/
def toL (z : Int) : L4 := if z.fmod 4 = 0 then .e else if z.fmod 4 = 1 then .n else if z.fmod 4 = 2 then .w else .s
theorem fm4 (z : Int) : z.fmod 4 = 0 ∨ z.fmod 4 = 1 ∨ z.fmod 4 = 2 ∨ z.fmod 4 = 3 := by
  have h1 := Int.fmod_nonneg_of_pos z (show (0 : Int) < 4 by decide)
  have h2 := Int.fmod_lt_of_pos z (show (0 : Int) < 4 by decide)
  omega
theorem st_bd (l : L4) (n : Nat) : B3 (n + 1) l.st := by
  have h : 1 < 2 ^ (n + 1) := by have := Nat.one_le_two_pow (n := n); rw [Nat.pow_succ]; omega
  cases l <;> exact ⟨⟨by simp [L4.st]; try omega⟩, ⟨by simp [L4.st]; try omega⟩, ⟨by simp [L4.st]; try omega⟩⟩
theorem end_b3 (ls : List L4) (h : ls.length ≤ 500) : B3 30 (endL ls) := by
  have := end_bd L4.st 1 0 (fun l => by cases l <;> simp [L4.st]) ls GR.one 0 (by decide) (by decide) (by decide)
  simp only [Nat.zero_add, Nat.mul_one, Nat.mul_zero] at this
  obtain ⟨h1, h2, h3⟩ := this
  have h4 : ls.length * ls.length ≤ 500 * 500 := Nat.mul_le_mul h h
  exact ⟨⟨by unfold endL; omega⟩, ⟨by unfold endL; omega⟩, ⟨by unfold endL; omega⟩⟩
end W_k49
set_option maxRecDepth 100000
set_option maxHeartbeats 4000000
set_option exponentiation.threshold 4000
namespace W_k49
open DL RT GR
theorem mid_ok {n : Nat} {S : List Cell} (hS : Pen n S) (hn : n + 2 < 2 ^ 20) : ∃ d S', g__law_mid [.cell 0] S = .ok (.int d) S' ∧ Bd d 60 ∧ Pen (n + 2) S' := by
  obtain ⟨d, S1, e, d0, d1, hP⟩ := draw_ok hS (by omega) (p := 13) (by decide) (by decide)
  obtain ⟨k, S2, e2, hk, hP2⟩ := pick_ok (xs := [.int 0, .int 0, .int 0, .int 1000000, .int (-1000000000000000)]) hP (by omega) (by simp) (by simp)
  have : ∃ z, k = .int z ∧ Bd (d - 6 + z) 60 := by
    simp at hk
    rcases hk with rfl | rfl | rfl
    all_goals exact ⟨_, rfl, ⟨by omega⟩⟩
  obtain ⟨z, rfl, hz⟩ := this
  refine ⟨d - 6 + z, S2, ?_, hz, hP2⟩
  simp [g__law_mid, b__law_mid, fnD, e, e2]
theorem mid_drawn_q {n : Nat} {S : List Cell} (hS : Pen n S) (hn : n + 9 < 2 ^ 20) : ∃ p S', g__law_mid_drawn [.cell 0] S = .ok (tP p) S' ∧ B3 110 p ∧ Bd p.x 60 ∧ Bd p.y 60 ∧ Pen (n + 9) S' := by
  obtain ⟨x, S1, e1, b1, P1⟩ := mid_ok hS (by omega)
  obtain ⟨y, S2, e2, b2, P2⟩ := mid_ok P1 (by omega)
  obtain ⟨a, S3, e3, b3, P3⟩ := mid_ok P2 (by omega)
  obtain ⟨k, S4, e4, hk, P4⟩ := pick_ok (xs := [.int 1, .int 1, .int 1000000000000001]) P3 (by omega) (by simp) (by simp)
  have : ∃ z, k = .int z ∧ Bd z 50 := by
    simp at hk
    rcases hk with rfl | rfl
    all_goals exact ⟨_, rfl, ⟨by omega⟩⟩
  obtain ⟨z, rfl, hz⟩ := this
  have mz : mulOk a z = true := mulOk_bd (by decide)
  have baz : Bd (a * z) 110 := (bd_mul (m := 60) (n := 50) : Bd (a * z) (60 + 50))
  have b0 : Bd (0 : Int) 60 := bd_0.le (by decide)
  obtain ⟨w, S5, e5, w0, w1, P5⟩ := draw_ok P4 (by omega) (p := 6) (by decide) (by decide)
  by_cases h0 : w = 0
  · refine ⟨⟨0, 0, a * z⟩, S5, ?_, ⟨b0.le (by decide), b0.le (by decide), baz⟩, b0, b0, P5.mono (by omega)⟩
    simp [g__law_mid_drawn, b__law_mid_drawn, fnD, e1, e2, e3, e4, e5, mz, h0]
  · by_cases h1 : w = 1
    · obtain ⟨k, S6, e6, hk, P6⟩ := pick_ok (xs := [tP ⟨x, 0, a * z⟩, tP ⟨0, y, a * z⟩]) P5 (by omega) (by simp) (by simp)
      have : ∃ p, k = tP p ∧ B3 110 p ∧ Bd p.x 60 ∧ Bd p.y 60 := by
        simp only [List.mem_cons, List.not_mem_nil, or_false] at hk
        rcases hk with rfl | rfl
        · exact ⟨⟨x, 0, a * z⟩, rfl, ⟨b1.le (by decide), b0.le (by decide), baz⟩, b1, b0⟩
        · exact ⟨⟨0, y, a * z⟩, rfl, ⟨b0.le (by decide), b2.le (by decide), baz⟩, b0, b2⟩
      obtain ⟨p, rfl, c1, c2, c3⟩ := this
      refine ⟨p, S6, ?_, c1, c2, c3, P6.mono (by omega)⟩
      simp [g__law_mid_drawn, b__law_mid_drawn, fnD, e1, e2, e3, e4, e5, mz, h1, e6]
    · refine ⟨⟨x, y, a * z⟩, S5, ?_, ⟨b1.le (by decide), b2.le (by decide), baz⟩, b1, b2, P5.mono (by omega)⟩
      simp [g__law_mid_drawn, b__law_mid_drawn, fnD, e1, e2, e3, e4, e5, mz, h0, h1]
end W_k49
set_option maxRecDepth 100000
set_option maxHeartbeats 4000000
set_option exponentiation.threshold 4000
namespace W_k49
open DL RT GR
/-! ### renamings -/
abbrev rD (E N : Q3) : D := .ins "Renaming" [([101, 97, 115, 116], pP E), ([110, 111, 114, 116, 104], pP N)]
abbrev sD (E N : Q3) : D := .tup [tP E, tP N]
@[simp] theorem rinit_q (E N : Q3) (S : List Cell) : g_RenamingX_initX [pP E, pP N] S = .ok [([101, 97, 115, 116], pP E), ([110, 111, 114, 116, 104], pP N)] S := by
  simp [g_RenamingX_initX, b_RenamingX_initX, inD, inFin, putN]
theorem led_q {E N p : Q3} {n : Nat} (hE : B3 n E) (hN : B3 n N) (hp : B3 n p) (S : List Cell) (h : n < 9000000) : g_led_by [pP E, pP N, pP p] S = .ok (pP (ren E N p)) S := by
  have e1 := power_q hN hp.y S (by omega)
  have e2 := power_q hE hp.x S (by omega)
  have e3 := mul_q (hN.pw hp.y) (hE.pw hp.x) S (by omega)
  have e4 := twist_q hE hN S (by omega)
  have m1 : mulOk (tw E N) p.a = true := mulOk_of (bd_tw hE hN) hp.a (by omega)
  have e5 := lifted_q (GR.mul (pw N p.y) (pw E p.x)) (tw E N * p.a) S
  show _ = Res.ok (pP (GR.up (GR.mul (pw N p.y) (pw E p.x)) (tw E N * p.a))) S
  generalize GR.up (GR.mul (pw N p.y) (pw E p.x)) (tw E N * p.a) = Z at *
  generalize GR.mul (pw N p.y) (pw E p.x) = Z1 at *
  generalize tw E N = T at *
  generalize pw N p.y = Z2 at *
  generalize pw E p.x = Z3 at *
  simp [g_led_by, b_led_by, fnD, List.lookup, e1, e2, e3, e4, m1, e5]
theorem call_q {E N p : Q3} {n : Nat} (hE : B3 n E) (hN : B3 n N) (hp : B3 n p) (S : List Cell) (h : n < 9000000) : g_RenamingX_callX [rD E N, pP p] S = .ok (pP (ren E N p)) S := by
  have e := led_q hE hN hp S h
  generalize ren E N p = Z at *
  simp [g_RenamingX_callX, b_RenamingX_callX, fnD, List.lookup, e]
@[simp] theorem six_q (E N : Q3) (S : List Cell) : g__law_six [rD E N] S = .ok (sD E N) S := by
  simp [g__law_six, b__law_six, fnD, List.lookup]
@[simp] theorem same_q (S : List Cell) : g_same_names [] S = .ok (rD ⟨1, 0, 0⟩ ⟨0, 1, 0⟩) S := by
  have e := rinit_q ⟨1, 0, 0⟩ ⟨0, 1, 0⟩ S
  simp [g_same_names, b_same_names, fnD, e]
theorem renamed_q {E N p : Q3} {n : Nat} (hE : B3 n E) (hN : B3 n N) (hp : B3 n p) (S : List Cell) (h : n < 9000000) : g__law_renamed [sD E N, tP p] S = .ok (tP (ren E N p)) S := by
  have e1 := times_q hN hp.y S (by omega)
  have e2 := times_q hE hp.x S (by omega)
  have e3 := join_q (hN.pw hp.y) (hE.pw hp.x) S (by omega)
  have e4 := ltwist_q hE hN S (by omega)
  have m1 : mulOk (tw E N) p.a = true := mulOk_of (bd_tw hE hN) hp.a (by omega)
  show _ = Res.ok (tP (GR.up (GR.mul (pw N p.y) (pw E p.x)) (tw E N * p.a))) S
  generalize GR.mul (pw N p.y) (pw E p.x) = Z1 at *
  generalize tw E N = T at *
  generalize pw N p.y = Z2 at *
  generalize pw E p.x = Z3 at *
  simp [g__law_renamed, b__law_renamed, fnD, e1, e2, e3, e4, m1, GR.up]
/-! the drawn ones of the factor 1 or -1 -/
abbrev t2 (x y : Int) : D := .tup [.int x, .int y]
theorem onto_loop {m : Nat} {S : List Cell} {a b c d : Int} {k : Nat} (hk : k ≤ 5) {x3 x4 : Sl} (n : Nat) (hS : Pen n S) (hn : n + 2 * k < 2 ^ 19) (B : Nat) (h1 : a.natAbs ≤ B ∧ b.natAbs ≤ B ∧ c.natAbs ≤ B ∧ d.natAbs ≤ B) (hB : B * 1001 ^ k ≤ 2 ^ 60) (hd : a * d - c * b = 1 ∨ a * d - c * b = -1) :
    ∃ a' b' c' d' y3 y4 S', forL (gN 3) w__law_onto_0 (rngL m k) ⟨[.val (.cell 0), .val (t2 a b), .val (t2 c d), x3, x4], S⟩ = .ok .nx ⟨[.val (.cell 0), .val (t2 a' b'), .val (t2 c' d'), y3, y4], S'⟩ ∧
      (a'.natAbs ≤ B * 1001 ^ k ∧ b'.natAbs ≤ B * 1001 ^ k ∧ c'.natAbs ≤ B * 1001 ^ k ∧ d'.natAbs ≤ B * 1001 ^ k) ∧ (a' * d' - c' * b' = 1 ∨ a' * d' - c' * b' = -1) ∧ Pen (n + 2 * k) S' := by
  induction k generalizing m S a b c d x3 x4 n B with
  | zero => exact ⟨a, b, c, d, x3, x4, S, by simp [rngL], by simpa using h1, hd, hS⟩
  | succ k ih =>
    obtain ⟨K, S1, e1, hK, P1⟩ := pick_ok (xs := [.int 1, .int (-1), .int 2, .int (-3), .int 1000]) hS (by omega) (by simp) (by simp)
    have : ∃ K', K = .int K' ∧ K'.natAbs ≤ 1000 := by
      simp only [List.mem_cons, List.not_mem_nil, or_false] at hK
      rcases hK with rfl | rfl | rfl | rfl | rfl <;> exact ⟨_, rfl, by decide⟩
    obtain ⟨K', rfl, bK⟩ := this
    have bB : B ≤ 2 ^ 60 := by
      have : 1 ≤ 1001 ^ (k + 1) := Nat.one_le_pow _ _ (by decide)
      have := Nat.mul_le_mul_left B this
      omega
    have pa : (K' * a).natAbs ≤ 1000 * B := by rw [Int.natAbs_mul]; exact Nat.mul_le_mul bK h1.1
    have pb : (K' * b).natAbs ≤ 1000 * B := by rw [Int.natAbs_mul]; exact Nat.mul_le_mul bK h1.2.1
    have ma : mulOk K' a = true := mulOk_of (show Bd K' 10 from ⟨by omega⟩) (show Bd a 61 from ⟨by omega⟩) (by decide)
    have mb : mulOk K' b = true := mulOk_of (show Bd K' 10 from ⟨by omega⟩) (show Bd b 61 from ⟨by omega⟩) (by decide)
    obtain ⟨q, S2, e2, hq, P2⟩ := pick_ok (xs := [.tup [t2 c d, t2 a b], .tup [t2 a b, t2 (c + K' * a) (d + K' * b)]]) P1 (by omega) (by simp) (by simp)
    have : ∃ a1 b1 c1 d1, q = .tup [t2 a1 b1, t2 c1 d1] ∧ (a1.natAbs ≤ B * 1001 ∧ b1.natAbs ≤ B * 1001 ∧ c1.natAbs ≤ B * 1001 ∧ d1.natAbs ≤ B * 1001) ∧ (a1 * d1 - c1 * b1 = 1 ∨ a1 * d1 - c1 * b1 = -1) := by
      simp only [List.mem_cons, List.not_mem_nil, or_false] at hq
      rcases hq with rfl | rfl
      · exact ⟨c, d, a, b, rfl, by omega, by
          have : c * b - a * d = -(a * d - c * b) := by omega
          omega⟩
      · refine ⟨a, b, c + K' * a, d + K' * b, rfl, by omega, ?_⟩
        have : a * (d + K' * b) - (c + K' * a) * b = a * d - c * b := by grind
        rw [this]; exact hd
    obtain ⟨a1, b1, c1, d1, rfl, g1, g2⟩ := this
    have e9 : B * 1001 * 1001 ^ k = B * 1001 ^ (k + 1) := by rw [Nat.pow_succ, Nat.mul_assoc, Nat.mul_comm 1001]
    obtain ⟨a', b', c', d', y3, y4, S', e, f1, f2, P3⟩ := ih (m := m + 1) (x3 := .val (.int (m : Int))) (x4 := .val (.int K')) (by omega) (n + 2) P2 (by omega) (B * 1001) g1 (by rw [e9]; exact hB) g2
    rw [e9] at f1
    refine ⟨a', b', c', d', y3, y4, S', ?_, f1, f2, by rw [show n + 2 * (k + 1) = n + 2 + 2 * k by omega]; exact P3⟩
    have rs : rngL (m : Int) (k + 1) = .int (m : Int) :: rngL ((m + 1 : Nat) : Int) k := by rw [rngL_succ, show ((m + 1 : Nat) : Int) = (m : Int) + 1 by omega]
    rw [rs, r_for_cons, ← e]
    have cc : ∀ (s : DS), loopOut (Res.ok Out.nx s) (forL (gN 3) w__law_onto_0 (rngL ((m + 1 : Nat) : Int) k)) = forL (gN 3) w__law_onto_0 (rngL ((m + 1 : Nat) : Int) k) s := fun s => rfl
    generalize forL (gN 3) w__law_onto_0 (rngL ((m + 1 : Nat) : Int) k) = F at *
    simp [w__law_onto_0, e1, e2, ma, mb, cc]
theorem onto_q {n : Nat} {S : List Cell} (hS : Pen n S) (hn : n + 20 < 2 ^ 19) : ∃ E N S', g__law_onto [.cell 0] S = .ok (sD E N) S' ∧ B3 60 E ∧ B3 60 N ∧ (tw E N = 1 ∨ tw E N = -1) ∧ Pen (n + 16) S' := by
  obtain ⟨s, S1, e1, hs, P1⟩ := pick_ok (xs := [.int 1, .int (-1)]) hS (by omega) (by simp) (by simp)
  have : ∃ s', s = .int s' ∧ (s' = 1 ∨ s' = -1) := by
    simp only [List.mem_cons, List.not_mem_nil, or_false] at hs
    rcases hs with rfl | rfl
    · exact ⟨_, rfl, .inl rfl⟩
    · exact ⟨_, rfl, .inr rfl⟩
  obtain ⟨s', rfl, hs'⟩ := this
  obtain ⟨k, S2, e2, k0, k1, P2⟩ := draw_ok P1 (by omega) (p := 5) (by decide) (by decide)
  obtain ⟨K, rfl⟩ := Int.eq_ofNat_of_zero_le k0
  have hK : K ≤ 4 := by omega
  have pw4 : 1001 ^ K ≤ 1001 ^ 4 := Nat.pow_le_pow_right (by decide) hK
  obtain ⟨a, b, c, d, y3, y4, S3, e3, ⟨h1, h2, h3, h4⟩, hd, P3⟩ := onto_loop (m := 0) (k := K) (x3 := .un) (x4 := .un) (a := 1) (b := 0) (c := 0) (d := s') (by omega) (n + 2) P2 (by omega) 1 (by omega) (by omega) (by omega)
  obtain ⟨u, S4, e4, b4, P4⟩ := mid_ok P3 (by omega)
  obtain ⟨v, S5, e5, b5, P5⟩ := mid_ok P4 (by omega)
  refine ⟨⟨a, b, u⟩, ⟨c, d, v⟩, S5, ?_, ⟨⟨by show a.natAbs < _; omega⟩, ⟨by show b.natAbs < _; omega⟩, b4⟩, ⟨⟨by show c.natAbs < _; omega⟩, ⟨by show d.natAbs < _; omega⟩, b5⟩, hd, P5.mono (by omega)⟩
  have hr : (0 : Int) ≤ 4611686018427387904 := by decide
  have rng : itR1 (aCons (eCall 2 g__law_draw (aCons (eVar 0) (aCons (eC (.int 5)) (aNil)))) (aNil)) ⟨[.val (.cell 0), .val (t2 1 0), .val (t2 0 s'), .un, .un], S1⟩ = .ok (rngL ((0 : Nat) : Int) K) ⟨[.val (.cell 0), .val (t2 1 0), .val (t2 0 s'), .un, .un], S2⟩ := by
    obtain ⟨z, hz⟩ : ∃ z : Int, (K : Int) = z := ⟨_, rfl⟩
    have hz2 : K = z.toNat := by omega
    rw [hz] at e2
    have i1 : -4611686018427387904 ≤ z ∧ z < 4611686018427387904 := by omega
    subst hz2
    simp [e2, i1]
  generalize rngL ((0 : Nat) : Int) K = R at *
  simp [-r_itR1, g__law_onto, b__law_onto, fnD, e1, rng, e3, e4, e5]
end W_k49
set_option maxRecDepth 100000
set_option maxHeartbeats 4000000
set_option exponentiation.threshold 4000
namespace W_k49
open DL BZ
abbrev t3 (x y z : Int) : D := .tup [.int x, .int y, .int z]
theorem bez_c (x0 x1 z : Sl) (r0 s0 t0 r1 s1 t1 : Int) (S : List Cell) : c_bezout_of_0 ⟨[x0, x1, .val (t3 r0 s0 t0), .val (t3 r1 s1 t1), z], S⟩ = .ok (decide (0 < r1)) ⟨[x0, x1, .val (t3 r0 s0 t0), .val (t3 r1 s1 t1), z], S⟩ := by
  simp [c_bezout_of_0]
theorem bez_w (x0 x1 z : Sl) (r0 s0 t0 r1 s1 t1 : Int) (S : List Cell) (d : divOk r1 = true) (h : r1 ≠ 0) (m1 : mulOk (r0.fdiv r1) r1 = true) (m2 : mulOk (r0.fdiv r1) s1 = true) (m3 : mulOk (r0.fdiv r1) t1 = true) :
    w_bezout_of_0 ⟨[x0, x1, .val (t3 r0 s0 t0), .val (t3 r1 s1 t1), z], S⟩ = .ok .nx ⟨[x0, x1, .val (t3 r1 s1 t1), .val (t3 (r0 - r0.fdiv r1 * r1) (s0 - r0.fdiv r1 * s1) (t0 - r0.fdiv r1 * t1)), .val (.int (r0.fdiv r1))], S⟩ := by
  simp [w_bezout_of_0, d, h, m1, m2, m3]
theorem bez_loop {a b : Int} {n : Nat} (ba : Bd a n) (bb : Bd b n) (hn : n ≤ 8000) (x0 x1 : Sl) (S : List Cell) : ∀ (k : Nat) (r0 s0 t0 r1 s1 t1 : Int) (z : Sl), r1.toNat ≤ k → Bz a b r0 s0 t0 r1 s1 t1 →
    ∃ g s t y z', sWhile c_bezout_of_0 w_bezout_of_0 ⟨[x0, x1, .val (t3 r0 s0 t0), .val (t3 r1 s1 t1), z], S⟩ = .ok .nx ⟨[x0, x1, .val (t3 g s t), y, z'], S⟩ ∧ Bf a b g s t
  | 0, r0, s0, t0, r1, s1, t1, z, hk, h => by
    have n1 := h.n1
    have z1 : r1 = 0 := by omega
    refine ⟨r0, s0, t0, .val (t3 r1 s1 t1), z, ?_, h.fin z1⟩
    rw [sWhile_eq, bez_c]
    simp [z1]
  | k + 1, r0, s0, t0, r1, s1, t1, z, hk, h => by
    by_cases c : 0 < r1
    · have st := h.step c
      have pa := ba.lt
      have pb := bb.lt
      have l0 := h.l0
      have l1 := h.l1
      have n0 := h.n0
      have q1 := st.1.bs
      have q2 := st.1.bt
      rw [ab_nat, ab_nat] at l0 q1 q2
      rw [ab_nat] at l1
      have e1 : (2 : Nat) ^ (n + 1) = 2 * 2 ^ n := by rw [Nat.pow_succ]; omega
      have b1 : Bd r1 n := ⟨by omega⟩
      have b0 : Bd r0 (n + 1) := ⟨by omega⟩
      have bs : Bd s1 (n + 1) := ⟨by omega⟩
      have bt : Bd t1 (n + 1) := ⟨by omega⟩
      have bq : Bd (r0.fdiv r1) (n + 1 + 1) := @bd_fdiv _ _ _ b0
      have w := bez_w x0 x1 z r0 s0 t0 r1 s1 t1 S (divOk_of b1 (by omega) (by omega)) (by omega) (mulOk_of bq b1 (by omega)) (mulOk_of bq bs (by omega)) (mulOk_of bq bt (by omega))
      obtain ⟨g, s, t, y, z', e, f⟩ := bez_loop ba bb hn x0 x1 S k r1 s1 t1 (r0 - r0.fdiv r1 * r1) (s0 - r0.fdiv r1 * s1) (t0 - r0.fdiv r1 * t1) (.val (.int (r0.fdiv r1))) (by have := st.2; omega) st.1
      refine ⟨g, s, t, y, z', ?_, f⟩
      rw [sWhile_eq, bez_c, Res.bind_ok, if_pos (decide_eq_true c), w]
      exact e
    · have n1 := h.n1
      have z1 : r1 = 0 := by omega
      refine ⟨r0, s0, t0, .val (t3 r1 s1 t1), z, ?_, h.fin z1⟩
      rw [sWhile_eq, bez_c]
      simp [z1]
theorem bez_body {a b : Int} {S : List Cell} {g s t : Int} {y z' : Sl} (e : sWhile c_bezout_of_0 w_bezout_of_0 ⟨[.val (.int a), .val (.int b), .val (t3 (ab a) (sg a) 0), .val (t3 (ab b) 0 (sg b)), .un], S⟩ = .ok .nx ⟨[.val (.int a), .val (.int b), .val (t3 g s t), y, z'], S⟩) :
    g_bezout_of [.int a, .int b] S = .ok (t3 g s t) S := by
  unfold ab sg at e
  by_cases ha : 0 ≤ a <;> by_cases hb : 0 ≤ b
  · rw [if_neg (show ¬ a < 0 by omega), if_neg (show ¬ b < 0 by omega), if_pos ha, if_pos hb] at e
    simp [g_bezout_of, b_bezout_of, fnD, ha, hb, show ¬ a < 0 by omega, show ¬ b < 0 by omega, e]
  · rw [if_neg (show ¬ a < 0 by omega), if_pos (show b < 0 by omega), if_pos ha, if_neg hb] at e
    simp [g_bezout_of, b_bezout_of, fnD, ha, hb, show ¬ a < 0 by omega, show b < 0 by omega, e]
  · rw [if_pos (show a < 0 by omega), if_neg (show ¬ b < 0 by omega), if_neg ha, if_pos hb] at e
    simp [g_bezout_of, b_bezout_of, fnD, ha, hb, show a < 0 by omega, show ¬ b < 0 by omega, e]
  · rw [if_pos (show a < 0 by omega), if_pos (show b < 0 by omega), if_neg ha, if_neg hb] at e
    simp [g_bezout_of, b_bezout_of, fnD, ha, hb, show a < 0 by omega, show b < 0 by omega, e]
theorem bez_ok {a b : Int} {n : Nat} (ba : Bd a n) (bb : Bd b n) (hn : n ≤ 8000) (S : List Cell) : ∃ g s t, g_bezout_of [.int a, .int b] S = .ok (t3 g s t) S ∧ Bf a b g s t := by
  obtain ⟨g, s, t, y, z', e, f⟩ := bez_loop ba bb hn (.val (.int a)) (.val (.int b)) S _ _ _ _ _ _ _ .un (Nat.le_refl _) (Bz.init a b)
  exact ⟨g, s, t, bez_body e, f⟩
/-! the law's own divisor -/
theorem gcd_brk (x : Int) (z : Sl) (S : List Cell) : w__law_gcd_0 ⟨[.val (.int x), .val (.int 0), z], S⟩ = .ok .bk ⟨[.val (.int x), .val (.int 0), z], S⟩ := by
  simp [w__law_gcd_0]
theorem gcd_go (x y : Int) (z : Sl) (S : List Cell) (h : y ≠ 0) (d : divOk y = true) : w__law_gcd_0 ⟨[.val (.int x), .val (.int y), z], S⟩ = .ok .nx ⟨[.val (.int y), .val (.int (x.fmod y)), z], S⟩ := by
  simp [w__law_gcd_0, h, d]
theorem gcd_fin (S : List Cell) (x : Int) (hx : 0 ≤ x) : ∀ (l : List D) (z : Sl), ∃ z', forL (gN 2) w__law_gcd_0 l ⟨[.val (.int x), .val (.int 0), z], S⟩ = .ok .nx ⟨[.val (.int (Int.gcd x 0)), .val (.int 0), z'], S⟩
  | [], z => ⟨z, by rw [Int.gcd_zero_right]; simp; omega⟩
  | d :: l, z => ⟨.val d, by
    have e := gcd_brk x (.val d) S
    rw [Int.gcd_zero_right, r_for_cons]
    show loopOut (w__law_gcd_0 ⟨[.val (.int x), .val (.int 0), .val d], S⟩) (forL (gN 2) w__law_gcd_0 l) = _
    rw [e, show ((x.natAbs : Nat) : Int) = x by omega]
    rfl⟩
theorem half_mod {y r : Int} (h0 : 0 < r) (h1 : r < y) : 2 * y.fmod r < y := by
  have m1 := Int.fmod_lt_of_pos y h0
  have m2 := Int.mul_fdiv_add_fmod y r
  have q : 1 ≤ y.fdiv r := by
    have := Int.fdiv_nonneg (show 0 ≤ y by omega) (show 0 ≤ r by omega)
    by_cases c : y.fdiv r = 0
    · rw [c, Int.mul_zero] at m2; omega
    · omega
  have := Int.mul_le_mul_of_nonneg_left q (show 0 ≤ r by omega)
  omega
theorem gcd_loop {k : Nat} (hk : k ≤ 8000) (S : List Cell) : ∀ (n : Nat) (l : List D) (x y : Int) (z : Sl), 2 * n ≤ l.length → 0 ≤ x → 0 ≤ y → y < 2 ^ n → Bd y k →
    ∃ z', forL (gN 2) w__law_gcd_0 l ⟨[.val (.int x), .val (.int y), z], S⟩ = .ok .nx ⟨[.val (.int (Int.gcd x y)), .val (.int 0), z'], S⟩
  | 0, l, x, y, z, _, hx, hy, h, _ => by
    have : y = 0 := by simp at h; omega
    subst this
    exact gcd_fin S x hx l z
  | n + 1, l, x, y, z, hl, hx, hy, h, bY => by
    by_cases c : y = 0
    · subst c
      exact gcd_fin S x hx l z
    · match l, hl with
      | d1 :: d2 :: l, hl =>
        simp only [List.length_cons] at hl
        have m0 : 0 ≤ x.fmod y := Int.fmod_nonneg_of_pos _ (by omega)
        have m1 : x.fmod y < y := Int.fmod_lt_of_pos _ (by omega)
        have dv : divOk y = true := divOk_of bY c (by omega)
        have bm : Bd (x.fmod y) k := bY.of_le m0 (by omega)
        have g1 := gcd_go x y (.val d1) S c dv
        by_cases c2 : x.fmod y = 0
        · obtain ⟨z', e⟩ := gcd_fin S y hy (d2 :: l) (.val d1)
          refine ⟨z', ?_⟩
          rw [r_for_cons]
          show loopOut (w__law_gcd_0 ⟨[.val (.int x), .val (.int y), .val d1], S⟩) _ = _
          rw [g1, c2, ← gcd_step hx hy, c2]
          exact e
        · have g2 := gcd_go y (x.fmod y) (.val d2) S c2 (divOk_of bm c2 (by omega))
          have m2 : 0 ≤ y.fmod (x.fmod y) := Int.fmod_nonneg_of_pos _ (by omega)
          have hm := half_mod (y := y) (r := x.fmod y) (by omega) m1
          have m3 : y.fmod (x.fmod y) < x.fmod y := Int.fmod_lt_of_pos _ (by omega)
          obtain ⟨z', e⟩ := gcd_loop hk S n l (x.fmod y) (y.fmod (x.fmod y)) (.val d2) (by omega) m0 m2 (by
            have : (2 : Int) ^ (n + 1) = 2 * 2 ^ n := by rw [Int.pow_succ]; omega
            omega) (bm.of_le m2 (by omega))
          rw [gcd_step hy m0, gcd_step hx hy] at e
          refine ⟨z', ?_⟩
          rw [r_for_cons]
          show loopOut (w__law_gcd_0 ⟨[.val (.int x), .val (.int y), .val d1], S⟩) _ = _
          rw [g1]
          show forL (gN 2) w__law_gcd_0 (d2 :: l) _ = _
          rw [r_for_cons]
          show loopOut (w__law_gcd_0 ⟨[.val (.int y), .val (.int (x.fmod y)), .val d2], S⟩) _ = _
          rw [g2]
          exact e
theorem gcd_body {x y : Int} {S : List Cell} {X Y G : Int} {z' : Sl} (hx : (if x < 0 then -x else x) = X) (hy : (if y < 0 then -y else y) = Y) (e : forL (gN 2) w__law_gcd_0 (rngL 0 3000) ⟨[.val (.int X), .val (.int Y), .un], S⟩ = .ok .nx ⟨[.val (.int G), .val (.int 0), z'], S⟩) : g__law_gcd [.int x, .int y] S = .ok (.int G) S := by
  simp [g__law_gcd, b__law_gcd, fnD, hx, hy, e]
theorem lgcd_q {x y : Int} {k : Nat} (hk : k ≤ 1500) (bY : Bd y k) (S : List Cell) : g__law_gcd [.int x, .int y] S = .ok (.int (Int.gcd x y)) S := by
  have hx : (if x < 0 then -x else x) = (x.natAbs : Int) := by omega
  have hy : (if y < 0 then -y else y) = (y.natAbs : Int) := by omega
  have b := bY.lt
  obtain ⟨z', e⟩ := gcd_loop (k := k) (by omega) S k (rngL 0 3000) x.natAbs y.natAbs .un (by rw [rngL_len]; omega) (by omega) (by omega) (by
    have : ((2 ^ k : Nat) : Int) = (2 : Int) ^ k := by simp
    omega) ⟨by rw [Int.natAbs_natCast]; exact b⟩
  exact gcd_body hx hy e
end W_k49
set_option maxRecDepth 100000
set_option maxHeartbeats 4000000
set_option exponentiation.threshold 4000
namespace W_k49
open DL RT GR BZ SV PW
/-! ### what makes a divisor -/
abbrev m3 (r : Row) : D := .tup [.int (en r 0), .int (en r 1), .int (en r 2)]
structure Mk (a b : Int) (h r : Row) : Prop where
  lh : h.length = 3
  lr : r.length = 3
  eh : en h 1 * a + en h 2 * b = en h 0
  er : en r 1 * a + en r 2 * b = en r 0
  dv : ∀ d : Int, d ∣ en h 0 → d ∣ en r 0 → d ∣ a ∧ d ∣ b
theorem Mk.step {a b : Int} {h r : Row} (k : Mk a b h r) (t : Int) : Mk a b r (less h r t) := by
  have l : h.length = r.length := by rw [k.lh, k.lr]
  refine ⟨k.lr, by rw [less_len l]; exact k.lh, k.er, ?_, fun d h1 h2 => ?_⟩
  · rw [less_get l, less_get l, less_get l, ← k.eh, ← k.er]; grind
  · rw [less_get l] at h2
    refine k.dv d ?_ h1
    have : en h 0 = (en h 0 - t * en r 0) + t * en r 0 := by omega
    rw [this]
    exact Int.dvd_add h2 (Int.dvd_mul_of_dvd_right h1)
theorem made_brk (h : Row) {r : Row} (x0 x1 x4 x5 : Sl) (S : List Cell) (z : en r 0 = 0) : w__law_made_0 ⟨[x0, x1, .val (m3 h), .val (m3 r), x4, x5], S⟩ = .ok .bk ⟨[x0, x1, .val (m3 h), .val (m3 r), x4, x5], S⟩ := by
  simp [w__law_made_0, z]
theorem made_go {h r : Row} (l : h.length = r.length) (x0 x1 x4 x5 : Sl) (S : List Cell) (z : en r 0 ≠ 0) (d : divOk (en r 0) = true) (m0 : mulOk ((en h 0).fdiv (en r 0)) (en r 0) = true) (m1 : mulOk ((en h 0).fdiv (en r 0)) (en r 1) = true) (m2 : mulOk ((en h 0).fdiv (en r 0)) (en r 2) = true) :
    w__law_made_0 ⟨[x0, x1, .val (m3 h), .val (m3 r), x4, x5], S⟩ = .ok .nx ⟨[x0, x1, .val (m3 r), .val (m3 (less h r ((en h 0).fdiv (en r 0)))), x4, .val (.int ((en h 0).fdiv (en r 0)))], S⟩ := by
  have e0 := less_get l ((en h 0).fdiv (en r 0)) 0
  have e1 := less_get l ((en h 0).fdiv (en r 0)) 1
  have e2 := less_get l ((en h 0).fdiv (en r 0)) 2
  simp [w__law_made_0, z, d, m0, m1, m2, e0, e1, e2]
theorem made_fin {h r : Row} (x0 x1 : Sl) (S : List Cell) (z : en r 0 = 0) : ∀ (l : List D) (x4 x5 : Sl), ∃ y4 y5, forL (gN 4) w__law_made_0 l ⟨[x0, x1, .val (m3 h), .val (m3 r), x4, x5], S⟩ = .ok .nx ⟨[x0, x1, .val (m3 h), .val (m3 r), y4, y5], S⟩
  | [], x4, x5 => ⟨x4, x5, rfl⟩
  | d :: l, x4, x5 => ⟨.val d, x5, by
    have e := made_brk h x0 x1 (.val d) x5 S z
    rw [r_for_cons]
    show loopOut (w__law_made_0 ⟨[x0, x1, .val (m3 h), .val (m3 r), .val d, x5], S⟩) (forL (gN 4) w__law_made_0 l) = _
    rw [e]
    rfl⟩
theorem half_rem {a b : Int} (hb : b ≠ 0) (s : 0 ≤ a * b) (lt : b.natAbs < a.natAbs) : 2 * (a.fmod b).natAbs < a.natAbs := by
  have e := div_abs hb s
  have m := (mod_abs (a := a) hb).1
  have q : 1 ≤ (a.fdiv b).natAbs := by
    by_cases z : (a.fdiv b).natAbs = 0
    · rw [z, Nat.zero_mul] at e; omega
    · omega
  have := Nat.mul_le_mul_right b.natAbs q
  omega
theorem made_loop {a b : Int} {B : Nat} (hB : B ≤ 7000) (x0 x1 : Sl) (S : List Cell) : ∀ (n : Nat) (l : List D) (h r : Row) (x4 x5 : Sl), 2 * n ≤ l.length → Mk a b h r → Mid 0 (2 ^ B) h r → (en r 0).natAbs < 2 ^ n →
    ∃ h' r' y4 y5, forL (gN 4) w__law_made_0 l ⟨[x0, x1, .val (m3 h), .val (m3 r), x4, x5], S⟩ = .ok .nx ⟨[x0, x1, .val (m3 h'), .val (m3 r'), y4, y5], S⟩ ∧ Mk a b h' r' ∧ en r' 0 = 0 ∧ ∀ i, (en h' i).natAbs ≤ 2 ^ B
  | 0, l, h, r, x4, x5, _, k, m, hr => by
    have z : en r 0 = 0 := by simp at hr; omega
    obtain ⟨y4, y5, e⟩ := made_fin (h := h) x0 x1 S z l x4 x5
    exact ⟨h, r, y4, y5, e, k, z, m.x⟩
  | n + 1, l, h, r, x4, x5, hl, k, m, hr => by
    by_cases z : en r 0 = 0
    · obtain ⟨y4, y5, e⟩ := made_fin (h := h) x0 x1 S z l x4 x5
      exact ⟨h, r, y4, y5, e, k, z, m.x⟩
    · match l, hl with
      | d1 :: d2 :: l, hl =>
        simp only [List.length_cons] at hl
        have lhr : h.length = r.length := by rw [k.lh, k.lr]
        have e2 : (2 : Nat) ^ (B + 1) = 2 * 2 ^ B := by rw [Nat.pow_succ]; omega
        have p2 := Nat.two_pow_pos B
        have go : ∀ (h r : Row) (x4 x5 : Sl), h.length = r.length → Mid 0 (2 ^ B) h r → en r 0 ≠ 0 → w__law_made_0 ⟨[x0, x1, .val (m3 h), .val (m3 r), x4, x5], S⟩ = .ok .nx ⟨[x0, x1, .val (m3 r), .val (m3 (less h r ((en h 0).fdiv (en r 0)))), x4, .val (.int ((en h 0).fdiv (en r 0)))], S⟩ := fun h r x4 x5 lhr m z => by
          have by_ : RB (B + 1) r := fun i => ⟨by have := m.y i; omega⟩
          have bx : RB (B + 1) h := fun i => ⟨by have := m.x i; omega⟩
          have bq : Bd ((en h 0).fdiv (en r 0)) (B + 1 + 1) := @bd_fdiv _ _ _ (bx 0)
          exact made_go lhr x0 x1 x4 x5 S z (divOk_of (by_ 0) z (by omega)) (mulOk_of bq (by_ 0) (by omega)) (mulOk_of bq (by_ 1) (by omega)) (mulOk_of bq (by_ 2) (by omega))
        have g1 := go h r (.val d1) x5 lhr m z
        have m1 := m.step lhr z
        have k1 := k.step ((en h 0).fdiv (en r 0))
        have lc := less_c lhr 0
        have nb := (mod_abs (a := en h 0) z).1
        rw [← lc] at nb
        have st1 : ∀ X, loopOut (w__law_made_0 ⟨[x0, x1, .val (m3 h), .val (m3 r), .val d1, x5], S⟩) (forL (gN 4) w__law_made_0 (d2 :: l)) = X ↔ forL (gN 4) w__law_made_0 (d1 :: d2 :: l) ⟨[x0, x1, .val (m3 h), .val (m3 r), x4, x5], S⟩ = X := fun X => by rw [r_for_cons]; exact Iff.rfl
        generalize hr2 : less h r ((en h 0).fdiv (en r 0)) = r2 at *
        by_cases z2 : en r2 0 = 0
        · obtain ⟨y4, y5, e⟩ := made_fin (h := r) x0 x1 S z2 (d2 :: l) (.val d1) (.val (.int ((en h 0).fdiv (en r 0))))
          refine ⟨r, r2, y4, y5, ?_, k1, z2, m1.x⟩
          rw [← st1, g1]
          exact e
        · have lr2 : r.length = r2.length := by rw [k1.lh, k1.lr]
          have g2 := go r r2 (.val d2) (.val (.int ((en h 0).fdiv (en r 0)))) lr2 m1 z2
          have m2 := m1.step lr2 z2
          have k2 := k1.step ((en r 0).fdiv (en r2 0))
          have hf := half_rem z2 m1.sg nb
          rw [← less_c lr2 0] at hf
          obtain ⟨h', r', y4, y5, e, f1, f2, f3⟩ := made_loop hB x0 x1 S n l r2 (less r r2 ((en r 0).fdiv (en r2 0))) (.val d2) (.val (.int ((en r 0).fdiv (en r2 0)))) (by omega) k2 m2 (by
            have : (2 : Nat) ^ (n + 1) = 2 * 2 ^ n := by rw [Nat.pow_succ]; omega
            omega)
          refine ⟨h', r', y4, y5, ?_, f1, f2, f3⟩
          rw [← st1, g1]
          show forL (gN 4) w__law_made_0 (d2 :: l) _ = _
          rw [r_for_cons]
          show loopOut (w__law_made_0 ⟨[x0, x1, .val (m3 r), .val (m3 r2), .val d2, _], S⟩) (forL (gN 4) w__law_made_0 l) = _
          rw [g2]
          exact e
theorem made_body {a b : Int} {h r : Row} {y4 y5 : Sl} {S : List Cell} (e : forL (gN 4) w__law_made_0 (rngL 0 3000) ⟨[.val (.int a), .val (.int b), .val (.tup [.int a, .int 1, .int 0]), .val (.tup [.int b, .int 0, .int 1]), .un, .un], S⟩ = .ok .nx ⟨[.val (.int a), .val (.int b), .val (m3 h), .val (m3 r), y4, y5], S⟩) :
    g__law_made [.int a, .int b] S = .ok (if en h 0 < 0 then .tup [.int (-en h 1), .int (-en h 2)] else .tup [.int (en h 1), .int (en h 2)]) S := by
  by_cases c : en h 0 < 0 <;> simp [g__law_made, b__law_made, fnD, e, c]
theorem made_g {a b : Int} {n : Nat} (hn1 : 1 ≤ n) (hn : n ≤ 1000) (ba : Bd a n) (bb : Bd b n) (S : List Cell) : ∃ s t, g__law_made [.int a, .int b] S = .ok (.tup [.int s, .int t]) S ∧ s * a + t * b = Int.gcd a b ∧ Bd s (2 * n + 4) ∧ Bd t (2 * n + 4) := by
  have key : ∀ h r : Row, Mk a b h r → en r 0 = 0 → (∀ i, (en h i).natAbs ≤ 2 ^ (2 * n + 3)) → ∃ s t, (if en h 0 < 0 then D.tup [.int (-en h 1), .int (-en h 2)] else .tup [.int (en h 1), .int (en h 2)]) = .tup [.int s, .int t] ∧ s * a + t * b = Int.gcd a b ∧ Bd s (2 * n + 4) ∧ Bd t (2 * n + 4) := fun h r k z bx => by
    have d := k.dv (en h 0) (Int.dvd_refl _) (by rw [z]; exact Int.dvd_zero _)
    have d1 : en h 0 ∣ (Int.gcd a b : Int) := Int.dvd_coe_gcd d.1 d.2
    have d2 : (Int.gcd a b : Int) ∣ en h 0 := by
      rw [← k.eh]
      exact Int.dvd_add (Int.dvd_mul_of_dvd_right (Int.gcd_dvd_left _ _)) (Int.dvd_mul_of_dvd_right (Int.gcd_dvd_right _ _))
    have d3 : (en h 0).natAbs = Int.gcd a b := by
      have := Nat.dvd_antisymm (Int.natAbs_dvd_natAbs.mpr d1) (Int.natAbs_dvd_natAbs.mpr d2)
      rw [this]; rfl
    have e4 : (2 : Nat) ^ (2 * n + 4) = 2 * 2 ^ (2 * n + 3) := by rw [show 2 * n + 4 = 2 * n + 3 + 1 by omega, Nat.pow_succ]; omega
    have p := Nat.two_pow_pos (2 * n + 3)
    have b1 := bx 1
    have b2 := bx 2
    have e := k.eh
    by_cases u : en h 0 < 0
    · refine ⟨-en h 1, -en h 2, by rw [if_pos u], ?_, ⟨by omega⟩, ⟨by omega⟩⟩
      have : -en h 1 * a + -en h 2 * b = -(en h 1 * a + en h 2 * b) := by grind
      rw [this, e, ← d3]; omega
    · exact ⟨en h 1, en h 2, by rw [if_neg u], by rw [e, ← d3]; omega, ⟨by omega⟩, ⟨by omega⟩⟩
  have k0 : Mk a b [a, 1, 0] [b, 0, 1] := ⟨rfl, rfl, by simp [en], by simp [en], fun d h1 h2 => ⟨h1, h2⟩⟩
  have p2 : 2 ≤ 2 ^ n := by
    have := Nat.pow_le_pow_right (show 0 < 2 by decide) hn1
    omega
  have bd0 : Bd 0 n := ⟨by show 0 < _; omega⟩
  have bd1 : Bd 1 n := ⟨by show 1 < _; omega⟩
  have rbh : RB n [a, 1, 0] := rb_of fun x hx => by
    simp only [List.mem_cons, List.not_mem_nil, or_false] at hx
    rcases hx with rfl | rfl | rfl <;> assumption
  have rbr : RB n [b, 0, 1] := rb_of fun x hx => by
    simp only [List.mem_cons, List.not_mem_nil, or_false] at hx
    rcases hx with rfl | rfl | rfl <;> assumption
  by_cases z : b = 0
  · obtain ⟨y4, y5, e⟩ := made_fin (h := [a, 1, 0]) (r := [b, 0, 1]) (.val (.int a)) (.val (.int b)) S z (rngL 0 3000) .un .un
    have w := made_body e
    obtain ⟨s, t, e2, f⟩ := key [a, 1, 0] [b, 0, 1] k0 z (fun i => by
      have := (rbh i).lt
      have : (2 : Nat) ^ n ≤ 2 ^ (2 * n + 3) := Nat.pow_le_pow_right (by decide) (by omega)
      omega)
    rw [e2] at w
    exact ⟨s, t, w, f⟩
  · have m1 := Mid.first (c := 0) (n := n) (b := n) (h := [a, 1, 0]) (r := [b, 0, 1]) rfl rbh rbr ba bb z
    have k1 := k0.step (a.fdiv b)
    have nb := (mod_abs (a := a) z).1
    have lc : en (less [a, 1, 0] [b, 0, 1] (a.fdiv b)) 0 = a.fmod b := less_c (h := [a, 1, 0]) (r := [b, 0, 1]) rfl 0
    have bq : Bd (a.fdiv b) (n + 1) := @bd_fdiv _ _ _ ba
    have g1 := made_go (h := [a, 1, 0]) (r := [b, 0, 1]) rfl (.val (.int a)) (.val (.int b)) (.val (.int 0)) .un S z (divOk_of bb z (by omega)) (mulOk_of bq bb (by omega)) (mulOk_of bq bd0 (by omega)) (mulOk_of bq bd1 (by omega))
    obtain ⟨h', r', y4, y5, e, f1, f2, f3⟩ := made_loop (a := a) (b := b) (B := n + n + 2) (by omega) (.val (.int a)) (.val (.int b)) S n (rngL 1 2999) [b, 0, 1] (less [a, 1, 0] [b, 0, 1] (a.fdiv b)) (.val (.int 0)) (.val (.int (a.fdiv b))) (by rw [rngL_len]; omega) k1 m1 (by
      rw [lc]
      have := bb.lt
      omega)
    have e0 : forL (gN 4) w__law_made_0 (rngL 0 3000) ⟨[.val (.int a), .val (.int b), .val (.tup [.int a, .int 1, .int 0]), .val (.tup [.int b, .int 0, .int 1]), .un, .un], S⟩ = .ok .nx ⟨[.val (.int a), .val (.int b), .val (m3 h'), .val (m3 r'), y4, y5], S⟩ := by
      rw [show rngL 0 3000 = .int 0 :: rngL 1 2999 from rngL_succ 0 2999, r_for_cons]
      show loopOut (w__law_made_0 ⟨[.val (.int a), .val (.int b), .val (m3 [a, 1, 0]), .val (m3 [b, 0, 1]), .val (.int 0), .un], S⟩) (forL (gN 4) w__law_made_0 (rngL 1 2999)) = _
      rw [g1]
      exact e
    have w := made_body e0
    obtain ⟨s, t, e2, f⟩ := key h' r' f1 f2 (fun i => by
      have := f3 i
      have : (2 : Nat) ^ (n + n + 2) ≤ 2 ^ (2 * n + 3) := Nat.pow_le_pow_right (by decide) (by omega)
      omega)
    rw [e2] at w
    exact ⟨s, t, w, f⟩
end W_k49
set_option maxRecDepth 100000
set_option maxHeartbeats 4000000
set_option exponentiation.threshold 4000
namespace W_k49
open DL RT GR
abbrev rR (A : Rn) : D := rD A.E A.N
abbrev sR (A : Rn) : D := sD A.E A.N
theorem rmul_q {A B : Rn} {n : Nat} (h : BR n A) (k : BR n B) (S : List Cell) (hn : n < 9000000) : g_RenamingX_mulX [rR A, rR B] S = .ok (rR (comp A B)) S := by
  have e1 := led_q h.e h.n k.e S hn
  have e2 := led_q h.e h.n k.n S hn
  show _ = Res.ok (rD (ren A.E A.N B.E) (ren A.E A.N B.N)) S
  generalize ren A.E A.N B.E = Z1 at *
  generalize ren A.E A.N B.N = Z2 at *
  simp [g_RenamingX_mulX, b_RenamingX_mulX, fnD, List.lookup, e1, e2]
theorem in_no {s : Int} (h : ¬ (s = 1 ∨ s = -1)) : dIn true (.int s) (.tup [.int 1, .int (-1)]) = some (.bl true) := by
  have h1 : ¬ s = 1 := fun z => h (.inl z)
  have h2 : ¬ s = -1 := fun z => h (.inr z)
  have h3 : ¬ 1 = s := fun z => h1 z.symm
  have h4 : ¬ -1 = s := fun z => h2 z.symm
  simp [dIn, inS, inF, flD, eqFl, h1, h2, h3, h4]
theorem in_yes {s : Int} (h : s = 1 ∨ s = -1) : dIn true (.int s) (.tup [.int 1, .int (-1)]) = some (.bl false) := by
  rcases h with rfl | rfl <;> simp [dIn, inS, inF, flD, eqFl]
theorem rinv_q {A : Rn} {n : Nat} (h : BR n A) (S : List Cell) (hn : n < 1000000) (hf : fac A = 1 ∨ fac A = -1) : g_RenamingX_invertX [rR A] S = .ok (rR (invR A)) S := by
  have e1 := twist_q h.e h.n S (by omega)
  have q := in_yes hf
  have bs : (fac A).natAbs = 1 := by rcases hf with z | z <;> rw [z] <;> rfl
  have sm : ∀ z : Int, (fac A * z).natAbs = z.natAbs ∧ (-fac A * z).natAbs = z.natAbs := fun z => by
    rw [Int.natAbs_mul, Int.natAbs_mul, Int.natAbs_neg, bs]; omega
  have b1 : Bd (fac A) 1 := ⟨by omega⟩
  have b2 : Bd (-fac A) 1 := ⟨by omega⟩
  have p1 : B3 n ⟨fac A * A.N.y, -fac A * A.E.y, 0⟩ := ⟨⟨by show (fac A * A.N.y).natAbs < _; rw [(sm _).1]; exact h.n.y.lt⟩, ⟨by show (-fac A * A.E.y).natAbs < _; rw [(sm _).2]; exact h.e.y.lt⟩, ⟨Nat.two_pow_pos n⟩⟩
  have p2 : B3 n ⟨-fac A * A.N.x, fac A * A.E.x, 0⟩ := ⟨⟨by show (-fac A * A.N.x).natAbs < _; rw [(sm _).2]; exact h.n.x.lt⟩, ⟨by show (fac A * A.E.x).natAbs < _; rw [(sm _).1]; exact h.e.x.lt⟩, ⟨Nat.two_pow_pos n⟩⟩
  have m1 : mulOk (fac A) A.N.y = true := mulOk_of b1 h.n.y (by omega)
  have m2 : mulOk (-fac A) A.E.y = true := mulOk_of b2 h.e.y (by omega)
  have m3 : mulOk (-fac A) A.N.x = true := mulOk_of b2 h.n.x (by omega)
  have m4 : mulOk (fac A) A.E.x = true := mulOk_of b1 h.e.x (by omega)
  have l1 := led_q h.e h.n p1 S (by omega)
  have l2 := led_q h.e h.n p2 S (by omega)
  have r1 := (h.e.ren2 h.n p1).a
  have r2 := (h.e.ren2 h.n p2).a
  have m5 : mulOk (-fac A) (ren A.E A.N ⟨fac A * A.N.y, -fac A * A.E.y, 0⟩).a = true := mulOk_of b2 r1 (by omega)
  have m6 : mulOk (-fac A) (ren A.E A.N ⟨-fac A * A.N.x, fac A * A.E.x, 0⟩).a = true := mulOk_of b2 r2 (by omega)
  have f1 := lifted_q ⟨fac A * A.N.y, -fac A * A.E.y, 0⟩ (-fac A * (ren A.E A.N ⟨fac A * A.N.y, -fac A * A.E.y, 0⟩).a) S
  have f2 := lifted_q ⟨-fac A * A.N.x, fac A * A.E.x, 0⟩ (-fac A * (ren A.E A.N ⟨-fac A * A.N.x, fac A * A.E.x, 0⟩).a) S
  show _ = Res.ok (rD (GR.up ⟨fac A * A.N.y, -fac A * A.E.y, 0⟩ (-fac A * (ren A.E A.N ⟨fac A * A.N.y, -fac A * A.E.y, 0⟩).a)) (GR.up ⟨-fac A * A.N.x, fac A * A.E.x, 0⟩ (-fac A * (ren A.E A.N ⟨-fac A * A.N.x, fac A * A.E.x, 0⟩).a))) S
  rw [show tw A.E A.N = fac A from rfl] at e1
  generalize GR.up ⟨fac A * A.N.y, -fac A * A.E.y, 0⟩ (-fac A * (ren A.E A.N ⟨fac A * A.N.y, -fac A * A.E.y, 0⟩).a) = U1 at *
  generalize GR.up ⟨-fac A * A.N.x, fac A * A.E.x, 0⟩ (-fac A * (ren A.E A.N ⟨-fac A * A.N.x, fac A * A.E.x, 0⟩).a) = U2 at *
  generalize ren A.E A.N ⟨fac A * A.N.y, -fac A * A.E.y, 0⟩ = Z1 at *
  generalize ren A.E A.N ⟨-fac A * A.N.x, fac A * A.E.x, 0⟩ = Z2 at *
  generalize fac A = T at *
  clear sm p1 p2 r1 r2 bs b1 b2
  simp [g_RenamingX_invertX, b_RenamingX_invertX, fnD, List.lookup, e1, q, m1, m2, m3, m4, l1, l2, m5, m6, f1, f2]
end W_k49
set_option maxRecDepth 100000
set_option maxHeartbeats 4000000
set_option exponentiation.threshold 4000
namespace W_k49
open DL RT GR BZ SV PW RE AK
/-! ### the least form of one place -/
def One (p : Q3) (L : D) : Prop := L = .lst [pP p] ∨ L = .tup [pP p]
theorem first_x (p : Q3) {L : D} (h : One p L) (S : List Cell) : g_first_at [L, .str [120]] S = .ok (if p.x = 0 ∧ p.y = 0 then .non else .int 0) S := by
  have e1 : enumL [pP p] = [.tup [.int 0, pP p]] := rfl
  rcases h with rfl | rfl <;> by_cases a : p.x = 0 <;> by_cases b : p.y = 0 <;> simp [g_first_at, b_first_at, w_first_at_0, fnD, List.lookup, e1, a, b]
theorem first_y (p : Q3) {L : D} (h : One p L) (S : List Cell) : g_first_at [L, .str [121]] S = .ok (if p.y = 0 then .non else .int 0) S := by
  have e1 : enumL [pP p] = [.tup [.int 0, pP p]] := rfl
  rcases h with rfl | rfl <;> by_cases b : p.y = 0 <;> simp [g_first_at, b_first_at, w_first_at_0, fnD, List.lookup, e1, b]
theorem all_one {R : D} {p q : Q3} {L : D} (h : One p L) {S : List Cell} (hR : ∃ fs, R = .ins "Renaming" fs) (e : g_RenamingX_callX [R, pP p] S = .ok (pP q) S) : g_renamed_all [R, L] S = .ok (.lst [pP q]) S := by
  obtain ⟨fs, rfl⟩ := hR
  rcases h with rfl | rfl <;> simp [g_renamed_all, b_renamed_all, e_renamed_all_0, fnD, e]
theorem figs_one (p : Q3) (S : List Cell) : g_figures_of [.lst [pP p]] S = .ok (.tup [tP p]) S := by
  simp [g_figures_of, b_figures_of, e_figures_of_0, fnD, List.lookup]
abbrev idD : D := rD ⟨1, 0, 0⟩ ⟨0, 1, 0⟩
theorem turned_home {p : Q3} {L : D} (h : One p L) (hp : p.x = 0 ∧ p.y = 0) (S : List Cell) : g_turned_east [L] S = .ok (.tup [idD, .lst [pP p]]) S := by
  have e := first_x p h S
  rw [if_pos hp] at e
  have e2 := same_q S
  rcases h with rfl | rfl <;> simp [-same_q, g_turned_east, b_turned_east, fnD, e, e2]
theorem turned_go {p q : Q3} {L : D} {G s t : Int} {S : List Cell} (h : One p L) (hp : ¬ (p.x = 0 ∧ p.y = 0)) (e1 : g_bezout_of [.int p.x, .int p.y] S = .ok (t3 G s t) S) (d : divOk G = true) (nz : G ≠ 0) (e2 : g_renamed_all [rD ⟨s, (-p.y).fdiv G, 0⟩ ⟨t, p.x.fdiv G, 0⟩, L] S = .ok (.lst [pP q]) S) :
    g_turned_east [L] S = .ok (.tup [rD ⟨s, (-p.y).fdiv G, 0⟩ ⟨t, p.x.fdiv G, 0⟩, .lst [pP q]]) S := by
  have e := first_x p h S
  rw [if_neg hp] at e
  have i1 := init_ok s ((-p.y).fdiv G) 0 S
  have i2 := init_ok t (p.x.fdiv G) 0 S
  have i3 := rinit_q ⟨s, (-p.y).fdiv G, 0⟩ ⟨t, p.x.fdiv G, 0⟩ S
  rcases h with rfl | rfl <;> simp [-init_ok, -rinit_q, g_turned_east, b_turned_east, fnD, List.lookup, e, e1, d, nz, i1, i2, i3, e2]
theorem leaned_one {p : Q3} (hp : p.y = 0) (S : List Cell) : g_leaned_north [.lst [pP p]] S = .ok (.tup [idD, .lst [pP p]]) S := by
  have e := first_y p (.inl rfl) S
  rw [if_pos hp] at e
  have e2 := same_q S
  simp [-same_q, g_leaned_north, b_leaned_north, fnD, e, e2]
theorem lowered_home {p : Q3} (hp : p.x = 0 ∧ p.y = 0) (S : List Cell) : g_lowered_areas [.lst [pP p]] S = .ok (.tup [idD, .lst [pP p]]) S := by
  have e1 := first_x p (.inl rfl) S
  have e2 := first_y p (.inl rfl) S
  rw [if_pos hp] at e1
  rw [if_pos hp.2] at e2
  have e3 := same_q S
  simp [-same_q, g_lowered_areas, b_lowered_areas, fnD, e1, e2, e3]
theorem lowered_go {g a : Int} {q : Q3} {S : List Cell} (hg : g ≠ 0) (d : divOk g = true) (e : g_renamed_all [rD ⟨1, 0, -(a.fdiv g)⟩ ⟨0, 1, 0⟩, .lst [pP ⟨g, 0, a⟩]] S = .ok (.lst [pP q]) S) : g_lowered_areas [.lst [pP ⟨g, 0, a⟩]] S = .ok (.tup [rD ⟨1, 0, -(a.fdiv g)⟩ ⟨0, 1, 0⟩, .lst [pP q]]) S := by
  have e1 := first_x ⟨g, 0, a⟩ (.inl rfl) S
  have e2 := first_y ⟨g, 0, a⟩ (.inl rfl) S
  rw [if_neg (by simp [hg])] at e1
  rw [if_pos rfl] at e2
  have i1 := init_ok 1 0 (-(a.fdiv g)) S
  have i2 := init_ok 0 1 0 S
  have i3 := rinit_q ⟨1, 0, -(a.fdiv g)⟩ ⟨0, 1, 0⟩ S
  simp [-init_ok, -rinit_q, g_lowered_areas, b_lowered_areas, fnD, List.lookup, e1, e2, d, hg, i1, i2, i3, e]
end W_k49
set_option maxRecDepth 100000
set_option maxHeartbeats 4000000
set_option exponentiation.threshold 4000
namespace W_k49
open DL RT GR BZ SV PW RE AK
theorem lt_one (g a b : Int) : dLt (.tup [tP ⟨g, 0, a⟩]) (.tup [tP ⟨g, 0, b⟩]) = some (.bl (decide (a < b))) := by
  have h : ltv (.tuple [.tuple [.int g, .int 0, .int a]]) (.tuple [.tuple [.int g, .int 0, .int b]]) = decide (a < b) := by
    simp only [ltv, ltvs, PySem.PyData.eqv, PySem.PyData.eqvAll, Bool.and_true]
    by_cases h3 : a = b <;> simp [h3]
  have s1 : ∀ x y z : Int, PySem.SeqAt.shaped (.tuple [.tuple [.int x, .int y, .int z]]) = true := fun _ _ _ => rfl
  simp [dLt, toPy, toPys, s1, cmpv, cmpvs, h]
abbrev glass : Rn := ⟨⟨1, 0, 0⟩, ⟨0, -1, 0⟩⟩
theorem least_ev {L : D} {A B C1 C B2 C2 C3 C4 : Rn} {f f2 lo hi : Q3} {b : Bool} {S : List Cell} (t1 : g_turned_east [L] S = .ok (.tup [rR A, .lst [pP f]]) S) (hf : f.y = 0) (l1 : g_lowered_areas [.lst [pP f]] S = .ok (.tup [rR B, .lst [pP lo]]) S) (m1 : g_RenamingX_mulX [rR B, idD] S = .ok (rR C1) S) (m2 : g_RenamingX_mulX [rR C1, rR A] S = .ok (rR C) S)
    (gl : g_renamed_all [rR glass, .lst [pP f]] S = .ok (.lst [pP f2]) S) (l2 : g_lowered_areas [.lst [pP f2]] S = .ok (.tup [rR B2, .lst [pP hi]]) S) (lt : dLt (.tup [tP hi]) (.tup [tP lo]) = some (.bl b)) (m3 : g_RenamingX_mulX [rR B2, rR glass] S = .ok (rR C2) S) (m4 : g_RenamingX_mulX [rR C2, idD] S = .ok (rR C3) S) (m5 : g_RenamingX_mulX [rR C3, rR A] S = .ok (rR C4) S) :
    g_least_list [L] S = .ok (if b = true then .tup [rR C4, .lst [pP hi]] else .tup [rR C, .lst [pP lo]]) S := by
  have le := leaned_one hf S
  have fy := first_y f (.inl rfl) S
  rw [if_pos hf] at fy
  have g1 := figs_one hi S
  have g2 := figs_one lo S
  have i1 := init_ok 1 0 0 S
  have i2 := init_ok 0 (-1) 0 S
  have i3 := rinit_q ⟨1, 0, 0⟩ ⟨0, -1, 0⟩ S
  cases b
  · simp [-init_ok, -rinit_q, g_least_list, b_least_list, fnD, List.lookup, t1, le, l1, m1, m2, fy, i1, i2, i3, gl, l2, g1, g2, lt]
  · simp [-init_ok, -rinit_q, g_least_list, b_least_list, fnD, List.lookup, t1, le, l1, m1, m2, fy, i1, i2, i3, gl, l2, g1, g2, lt, m3, m4, m5]
end W_k49
set_option maxRecDepth 100000
set_option maxHeartbeats 4000000
set_option exponentiation.threshold 4000
namespace W_k49
open DL RT GR BZ SV PW RE AK
structure LF (p F : Q3) : Prop where
  home : p.x = 0 ∧ p.y = 0 → F = ⟨0, 0, -(p.a.natAbs : Int)⟩
  go : ¬ (p.x = 0 ∧ p.y = 0) → ∀ u v s t : Int, p.x = Int.gcd p.x p.y * u → p.y = Int.gcd p.x p.y * v → s * u + t * v = 1 → F = ⟨Int.gcd p.x p.y, 0, lr (Int.gcd p.x p.y) (ta (Int.gcd p.x p.y) u v p.a s t)⟩
theorem ren_comp (A B : Rn) (p : Q3) : ren (comp A B).E (comp A B).N p = ren A.E A.N (ren B.E B.N p) := (ren_ren _ _ _ _ _).symm
theorem ren_id (p : Q3) : ren idR.E idR.N p = p := ren_same p
theorem fac_id : fac idR = 1 := by decide
theorem fac_glass : fac glass = -1 := by decide
abbrev low (e : Int) : Rn := ⟨⟨1, 0, e⟩, ⟨0, 1, 0⟩⟩
theorem fac_low (e : Int) : fac (low e) = 1 := by simp [fac, tw]
theorem br_low {e : Int} {n : Nat} (h : Bd e (n + 1)) : BR (n + 1) (low e) := by
  have p := Nat.two_pow_pos n
  have e2 : (2 : Nat) ^ (n + 1) = 2 * 2 ^ n := by rw [Nat.pow_succ]; omega
  refine ⟨⟨⟨?_⟩, ⟨?_⟩, h⟩, ⟨⟨?_⟩, ⟨?_⟩, ⟨?_⟩⟩⟩
  · show (1 : Int).natAbs < _; simp <;> omega
  · show (0 : Int).natAbs < _; simp <;> omega
  · show (0 : Int).natAbs < _; simp <;> omega
  · show (1 : Int).natAbs < _; simp <;> omega
  · show (0 : Int).natAbs < _; simp <;> omega
theorem br_glass (n : Nat) : BR (n + 1) glass := by
  have p := Nat.two_pow_pos n
  have e2 : (2 : Nat) ^ (n + 1) = 2 * 2 ^ n := by rw [Nat.pow_succ]; omega
  refine ⟨⟨⟨?_⟩, ⟨?_⟩, ⟨?_⟩⟩, ⟨⟨?_⟩, ⟨?_⟩, ⟨?_⟩⟩⟩
  · show (1 : Int).natAbs < _; simp <;> omega
  · show (0 : Int).natAbs < _; simp <;> omega
  · show (0 : Int).natAbs < _; simp <;> omega
  · show (0 : Int).natAbs < _; simp <;> omega
  · show (-1 : Int).natAbs < _; simp <;> omega
  · show (0 : Int).natAbs < _; simp <;> omega
theorem least_q {p : Q3} {L : D} (bp : B3 1000 p) (h : One p L) (S : List Cell) : ∃ (A : Rn) (F : Q3), g_least_list [L] S = .ok (.tup [rR A, .lst [pP F]]) S ∧ (fac A = 1 ∨ fac A = -1) ∧ ren A.E A.N p = F ∧ LF p F ∧ BR 150000 A := by
  -- from a place turned to the east, both lowered forms
  have fin : ∀ (A B B2 : Rn) (g a lo hi : Int), g_turned_east [L] S = .ok (.tup [rR A, .lst [pP ⟨g, 0, a⟩]]) S → BR 1001 A → BR 4100 B → BR 4100 B2 → B3 4010 ⟨g, 0, a⟩ → (fac A = 1 ∨ fac A = -1) → fac B = 1 → fac B2 = 1 → ren A.E A.N p = ⟨g, 0, a⟩ → ren B.E B.N ⟨g, 0, a⟩ = ⟨g, 0, lo⟩ → ren B2.E B2.N ⟨g, 0, -a⟩ = ⟨g, 0, hi⟩ →
      g_lowered_areas [.lst [pP ⟨g, 0, a⟩]] S = .ok (.tup [rR B, .lst [pP ⟨g, 0, lo⟩]]) S → g_lowered_areas [.lst [pP ⟨g, 0, -a⟩]] S = .ok (.tup [rR B2, .lst [pP ⟨g, 0, hi⟩]]) S →
      ∃ C, g_least_list [L] S = .ok (.tup [rR C, .lst [pP ⟨g, 0, if hi < lo then hi else lo⟩]]) S ∧ (fac C = 1 ∨ fac C = -1) ∧ ren C.E C.N p = ⟨g, 0, if hi < lo then hi else lo⟩ ∧ BR 150000 C := fun A B B2 g a lo hi t1 bA bB bB2 bf fA fB fB2 rA rB rB2 l1 l2 => by
    have bi := BR.id 4099
    have m1 := rmul_q bB bi S (by decide)
    have m2 := rmul_q (n := 17000) ((bB.comp bi).le (by decide)) (bA.le (by decide)) S (by decide)
    have cg := call_q (n := 4100) ((br_glass 4099).e) ((br_glass 4099).n) (bf.le (by decide)) S (by decide)
    have cg2 : ren glass.E glass.N ⟨g, 0, a⟩ = ⟨g, 0, -a⟩ := glass_east g a
    have gl := all_one (R := rR glass) (.inl rfl) ⟨_, rfl⟩ cg
    rw [cg2] at gl
    have lt := lt_one g hi lo
    have m3 := rmul_q bB2 (br_glass 4099) S (by decide)
    have b3 := (bB2.comp (br_glass 4099)).le (show _ ≤ 17000 by decide)
    have m4 := rmul_q b3 (bi.le (by decide)) S (by decide)
    have b4 := (b3.comp (bi.le (show 4099 + 1 ≤ 17000 by decide))).le (show _ ≤ 70000 by decide)
    have m5 := rmul_q b4 (bA.le (by decide)) S (by decide)
    have e := least_ev t1 rfl l1 m1 m2 gl l2 lt m3 m4 m5
    by_cases c : hi < lo
    · rw [if_pos (decide_eq_true c)] at e
      refine ⟨_, by rw [if_pos c]; exact e, ?_, ?_, ?_⟩
      · rw [fac_comp, fac_comp, fac_comp, fB2, fac_glass, fac_id]
        rcases fA with z | z <;> rw [z] <;> decide
      · rw [ren_comp, ren_comp, ren_comp, rA, ren_id, cg2, rB2, if_pos c]
      · exact (b4.comp (bA.le (show 1001 ≤ 1001 by decide))).le (by decide)
    · rw [if_neg (by simpa using c)] at e
      refine ⟨_, by rw [if_neg c]; exact e, ?_, ?_, ?_⟩
      · rw [fac_comp, fac_comp, fB, fac_id]
        rcases fA with z | z <;> rw [z] <;> decide
      · rw [ren_comp, ren_comp, rA, ren_id, rB, if_neg c]
      · exact ((bB.comp bi).comp bA).le (by decide)
  by_cases hp : p.x = 0 ∧ p.y = 0
  · have ep : p = ⟨0, 0, p.a⟩ := by
      ext
      · exact hp.1
      · exact hp.2
      · rfl
    have t1 := turned_home h hp S
    rw [ep] at t1
    have l1 := lowered_home (p := ⟨0, 0, p.a⟩) ⟨rfl, rfl⟩ S
    have l2 := lowered_home (p := ⟨0, 0, -p.a⟩) ⟨rfl, rfl⟩ S
    obtain ⟨C, e, fC, rC, bC⟩ := fin idR idR idR 0 p.a p.a (-p.a) t1 ((BR.id 1000)) ((BR.id 4099)) ((BR.id 4099)) ⟨bd_0.le (by decide), bd_0.le (by decide), bp.a.le (by decide)⟩ (.inl fac_id) fac_id fac_id (by rw [ren_id]; exact ep) (ren_id _) (ren_id _) l1 l2
    refine ⟨C, _, e, fC, rC, ⟨fun _ => ?_, fun z => absurd hp z⟩, bC⟩
    by_cases c : -p.a < p.a
    · rw [if_pos c]; ext <;> simp only; omega
    · rw [if_neg c]; ext <;> simp only; omega
  · obtain ⟨G, s, t, eb, f⟩ := bez_ok (n := 1000) bp.x bp.y (by decide) S
    have hG := f.hg
    have G0 : 0 < G := by
      have : Int.gcd p.x p.y ≠ 0 := fun z => hp (Int.gcd_eq_zero_iff.mp z)
      omega
    obtain ⟨u, hu⟩ : G ∣ p.x := by rw [hG]; exact Int.gcd_dvd_left _ _
    obtain ⟨v, hv⟩ : G ∣ p.y := by rw [hG]; exact Int.gcd_dvd_right _ _
    have st : s * u + t * v = 1 := by
      have e := f.e
      rw [hu, hv] at e
      have : G * (s * u + t * v) = G * 1 := by
        have : G * (s * u + t * v) = s * (G * u) + t * (G * v) := by grind
        rw [this, e]; omega
      exact Int.eq_of_mul_eq_mul_left (by omega) this
    have q1 : p.x.fdiv G = u := by rw [hu]; exact Int.mul_fdiv_cancel_left _ (by omega)
    have q2 : (-p.y).fdiv G = -v := by rw [hv, ← Int.mul_neg]; exact Int.mul_fdiv_cancel_left _ (by omega)
    have bu : Bd u 1001 := by rw [← q1]; exact @bd_fdiv _ _ _ bp.x
    have bnv : Bd (-v) 1001 := by
      rw [← q2]
      have : Bd (-p.y) 1000 := ⟨by rw [Int.natAbs_neg]; exact bp.y.lt⟩
      exact @bd_fdiv _ _ _ this
    have e2 : (2 : Nat) ^ 1001 = 2 * 2 ^ 1000 := by decide
    have bs : Bd s 1001 := ⟨by have := bp.y.lt; have h1 := f.bs; unfold ab at h1; split at h1 <;> split at h1 <;> omega⟩
    have bt : Bd t 1001 := ⟨by have := bp.x.lt; have h1 := f.bt; unfold ab at h1; split at h1 <;> split at h1 <;> omega⟩
    have bG : Bd G 1000 := by
      rw [hG]
      exact ⟨by
        have := (bd_gcd bp.x bp.y).lt
        exact this⟩
    have bA : BR 1001 ⟨tE s v, tN t u⟩ := ⟨⟨bs, bnv, bd_0.le (by decide)⟩, ⟨bt, bu, bd_0.le (by decide)⟩⟩
    have c1 := call_q bA.e bA.n (bp.le (show 1000 ≤ 1001 by decide)) S (by decide)
    have ep : p = ⟨G * u, G * v, p.a⟩ := by
      ext
      · exact hu
      · exact hv
      · rfl
    have r1 : ren (tE s v) (tN t u) p = ⟨G, 0, ta G u v p.a s t⟩ := by
      rw [ep]; exact turn_east st
    have bf : B3 4010 ⟨G, 0, ta G u v p.a s t⟩ := by rw [← r1]; exact (bA.e.ren2 bA.n bp).le (by decide)
    rw [r1] at c1
    have t1 := turned_go h hp eb (divOk_of bG (by omega) (by decide)) (by omega) (q := ⟨G, 0, ta G u v p.a s t⟩) (by
      rw [q1, q2]
      exact all_one h ⟨_, rfl⟩ c1)
    rw [q1, q2] at t1
    obtain ⟨a, ha⟩ : ∃ a, ta G u v p.a s t = a := ⟨_, rfl⟩
    rw [ha] at t1 r1 bf
    have ba := bf.a
    simp only at ba
    have lw : ∀ z : Int, Bd z 4010 → BR 4100 (low (-(z.fdiv G))) ∧ ren (low (-(z.fdiv G))).E (low (-(z.fdiv G))).N ⟨G, 0, z⟩ = ⟨G, 0, z.fmod G⟩ ∧ g_lowered_areas [.lst [pP ⟨G, 0, z⟩]] S = .ok (.tup [rR (low (-(z.fdiv G))), .lst [pP ⟨G, 0, z.fmod G⟩]]) S := fun z bz => by
      have b1 : Bd (z.fdiv G) 4011 := @bd_fdiv _ _ _ bz
      have b2 : Bd (-(z.fdiv G)) 4100 := ⟨by rw [Int.natAbs_neg]; exact (b1.le (show 4011 ≤ 4100 by decide)).lt⟩
      have br : BR 4100 (low (-(z.fdiv G))) := br_low (n := 4099) b2
      have rr : ren (low (-(z.fdiv G))).E (low (-(z.fdiv G))).N ⟨G, 0, z⟩ = ⟨G, 0, z.fmod G⟩ := by
        rw [low_east, low_mod]
      have cc := call_q br.e br.n (⟨bG.le (by decide), bd_0.le (by decide), bz.le (by decide)⟩ : B3 4100 ⟨G, 0, z⟩) S (by decide)
      rw [rr] at cc
      exact ⟨br, rr, lowered_go (by omega) (divOk_of bG (by omega) (by decide)) (all_one (.inl rfl) ⟨_, rfl⟩ cc)⟩
    have bna : Bd (-a) 4010 := ⟨by rw [Int.natAbs_neg]; exact ba.lt⟩
    obtain ⟨w1, w2, w3⟩ := lw a ba
    obtain ⟨w4, w5, w6⟩ := lw (-a) bna
    obtain ⟨C, e, fC, rC, bC⟩ := fin ⟨tE s v, tN t u⟩ _ _ G a _ _ t1 bA w1 w4 bf (.inl (tw_turn st)) (fac_low _) (fac_low _) r1 w2 w5 w3 w6
    refine ⟨C, _, e, fC, rC, ⟨fun z => absurd z hp, fun _ u' v' s' t' hu' hv' st' => ?_⟩, bC⟩
    rw [← hG] at hu' hv' ⊢
    have eu : u' = u := Int.eq_of_mul_eq_mul_left (show G ≠ 0 by omega) (by rw [← hu', hu])
    have ev : v' = v := Int.eq_of_mul_eq_mul_left (show G ≠ 0 by omega) (by rw [← hv', hv])
    subst eu ev
    have cg := (lr_iff G0).mpr (.inl (ta_cong (g := G) (a := p.a) st st'))
    rw [cg, ha]
    rfl
end W_k49
set_option maxRecDepth 100000
set_option maxHeartbeats 4000000
set_option exponentiation.threshold 4000
namespace W_k49
open DL RT GR BZ SV PW RE AK
theorem needs_one {p : Q3} {L : D} (h : One p L) (S : List Cell) : g_need_places [L] S = .ok .non S := by
  rcases h with rfl | rfl <;> simp [g_need_places, b_need_places, w_need_places_0, fnD]
theorem len_one {p : Q3} {L : D} (h : One p L) : bLen [L] = some (.int 1) := by
  rcases h with rfl | rfl <;> simp
theorem deep_one (F F' : Q3) (s : DS) : deepO (ownInt [("Place", [[120], [121], [97, 114, 101, 97]])]) 5 (.lst [pP F]) (.lst [pP F']) s = .ok (.bl (decide (F = F'))) s := by
  have h0 : dEq (.lst [pP F]) (.lst [pP F']) = none := rfl
  have h : dEq (pP F) (pP F') = none := rfl
  have e : decide (F = F') = decide (F.x = F'.x ∧ F.y = F'.y ∧ F.a = F'.a) := decide_eq_decide.mpr Q3.ext_iff
  rw [e]
  by_cases a : F.x = F'.x <;> by_cases b : F.y = F'.y <;> by_cases c : F.a = F'.a <;> simp [deepO, eqDs, eqD, eqB, eqSt, ownInt, intF, List.lookup, h, h0, a, b, c]
theorem alike_ev {p q F F' : Q3} {L L' : D} {A A' B C : Rn} {S : List Cell} (h : One p L) (h' : One q L') (e1 : g_least_list [L] S = .ok (.tup [rR A, .lst [pP F]]) S) (e2 : g_least_list [L'] S = .ok (.tup [rR A', .lst [pP F']]) S) (i : g_RenamingX_invertX [rR A'] S = .ok (rR B) S) (m : g_RenamingX_mulX [rR B, rR A] S = .ok (rR C) S) :
    g_alike [L, L'] S = .ok (if F = F' then rR C else .non) S := by
  have n1 := needs_one h S
  have n2 := needs_one h' S
  have l1 := len_one h
  have l2 := len_one h'
  have d := deep_one F F'
  by_cases c : F = F'
  · have d2 : ∀ s, deepO (ownInt [("Place", [[120], [121], [97, 114, 101, 97]])]) 5 (.lst [pP F]) (.lst [pP F']) s = .ok (.bl true) s := fun s => by rw [d, decide_eq_true c]
    rw [if_pos c]
    simp [g_alike, b_alike, fnD, n1, n2, l1, l2, e1, e2, d2, i, m]
  · have d2 : ∀ s, deepO (ownInt [("Place", [[120], [121], [97, 114, 101, 97]])]) 5 (.lst [pP F]) (.lst [pP F']) s = .ok (.bl false) s := fun s => by rw [d, decide_eq_false c]
    rw [if_neg c]
    simp [g_alike, b_alike, fnD, n1, n2, l1, l2, e1, e2, d2]
theorem key_ev {p F : Q3} {L : D} {A : Rn} {S : List Cell} (h : One p L) (e1 : g_least_list [L] S = .ok (.tup [rR A, .lst [pP F]]) S) : g_list_key [L] S = .ok (.tup [tP F]) S := by
  have n1 := needs_one h S
  have f := figs_one F S
  simp [g_list_key, b_list_key, fnD, n1, e1, f]
theorem orders_1 (S : List Cell) : g_orders_of [.int 1] S = .ok (.lst [.lst [.int 0]]) S := by
  have r : rngL 0 1 = [.int 0] := rfl
  have ni : dIn true (.int 0) (.lst []) = some (.bl true) := by simp [dIn, inS, inF, flD, eqFl]
  simp [g_orders_of, b_orders_of, w_orders_of_1, e_orders_of_0, fnD, r, lcL2, lcL, ni, noX]
theorem lots_ev {p q : Q3} {V : D} {S : List Cell} (e : g_alike [.lst [pP p], .lst [pP q]] S = .ok V S) : ∃ W, g_alike_lots [.lst [pP p], .lst [pP q]] S = .ok W S ∧ isNonD W = isNonD V := by
  have n1 := needs_one (p := p) (.inl rfl) S
  have n2 := needs_one (p := q) (.inl rfl) S
  have o := orders_1 S
  have q1 : aLc [4] (itSeq (eVar 2)) (gN 4) (bYes) (e_alike_lots_0) ⟨[.val (.lst [pP p]), .val (.lst [pP q]), .val (.lst [.int 0]), .un, .un], S⟩ = .ok [pP q] ⟨[.val (.lst [pP p]), .val (.lst [pP q]), .val (.lst [.int 0]), .un, .un], S⟩ := by
    simp [e_alike_lots_0]
  cases c : isNonD V
  · refine ⟨.tup [V, .lst [.int 0]], ?_, rfl⟩
    simp [-r_aLc, g_alike_lots, b_alike_lots, w_alike_lots_1, fnD, n1, n2, o, q1, e, c]
  · refine ⟨.non, ?_, rfl⟩
    simp [-r_aLc, g_alike_lots, b_alike_lots, w_alike_lots_1, fnD, n1, n2, o, q1, e, c]
theorem lot_key_ev {p F : Q3} {S : List Cell} (e : g_list_key [.lst [pP p]] S = .ok (.tup [tP F]) S) : g_lot_key [.lst [pP p]] S = .ok (.tup [tP F]) S := by
  have n1 := needs_one (p := p) (.inl rfl) S
  have o := orders_1 S
  have q1 : aLc [4] (itSeq (eVar 2)) (gN 4) (bYes) (e_lot_key_0) ⟨[.val (.lst [pP p]), .val .non, .val (.lst [.int 0]), .un, .un], S⟩ = .ok [pP p] ⟨[.val (.lst [pP p]), .val .non, .val (.lst [.int 0]), .un, .un], S⟩ := by
    simp [e_lot_key_0]
  simp [-r_aLc, g_lot_key, b_lot_key, w_lot_key_1, fnD, n1, o, q1, e]
end W_k49
set_option maxRecDepth 100000
set_option maxHeartbeats 4000000
set_option exponentiation.threshold 4000
namespace W_k49
open DL RT GR BZ SV PW RE AK
/-! ### what the law itself finds -/
structure Str (p : Q3) (g a : Int) : Prop where
  hg : g = Int.gcd p.x p.y
  home : g = 0 → a = p.a
  go : g ≠ 0 → ∃ u v s t : Int, p.x = g * u ∧ p.y = g * v ∧ s * u + t * v = 1 ∧ a = ta g u v p.a s t
theorem straight_home {p : Q3} {S : List Cell} (e : g__law_gcd [.int p.x, .int p.y] S = .ok (.int 0) S) : g__law_straight [tP p] S = .ok (.tup [.int 0, .int p.a]) S := by
  simp [g__law_straight, b__law_straight, fnD, e]
theorem straight_go {p q : Q3} {g s t : Int} {S : List Cell} (e : g__law_gcd [.int p.x, .int p.y] S = .ok (.int g) S) (g0 : g ≠ 0) (d : divOk g = true) (e2 : g__law_made [.int p.x, .int p.y] S = .ok (.tup [.int s, .int t]) S) (e3 : g__law_renamed [sD ⟨s, (-p.y).fdiv g, 0⟩ ⟨t, p.x.fdiv g, 0⟩, tP p] S = .ok (tP q) S) : g__law_straight [tP p] S = .ok (.tup [.int g, .int q.a]) S := by
  simp [g__law_straight, b__law_straight, fnD, e, g0, d, e2, e3]
theorem straight_q {p : Q3} {n : Nat} (hn1 : 1 ≤ n) (hn : n ≤ 1000) (bp : B3 n p) (S : List Cell) : ∃ g a, g__law_straight [tP p] S = .ok (.tup [.int g, .int a]) S ∧ Str p g a ∧ Bd a (6 * n + 16) ∧ Bd g n := by
  have e := lgcd_q (x := p.x) (k := n) (by omega) bp.y S
  have bG : Bd (Int.gcd p.x p.y : Int) n := bd_gcd bp.x bp.y
  by_cases z : Int.gcd p.x p.y = 0
  · rw [z] at e
    exact ⟨0, p.a, straight_home e, ⟨by rw [z]; rfl, fun _ => rfl, fun h => absurd rfl h⟩, bp.a.le (by omega), bd_0.le (by omega)⟩
  · obtain ⟨G, hG⟩ : ∃ G : Int, (Int.gcd p.x p.y : Int) = G := ⟨_, rfl⟩
    have G0 : G ≠ 0 := by omega
    obtain ⟨s, t, em, st0, bs, bt⟩ := made_g hn1 hn bp.x bp.y S
    rw [hG] at e bG st0
    obtain ⟨u, hu⟩ : G ∣ p.x := by rw [← hG]; exact Int.gcd_dvd_left _ _
    obtain ⟨v, hv⟩ : G ∣ p.y := by rw [← hG]; exact Int.gcd_dvd_right _ _
    have st : s * u + t * v = 1 := by
      rw [hu, hv] at st0
      have : G * (s * u + t * v) = G * 1 := by
        have : G * (s * u + t * v) = s * (G * u) + t * (G * v) := by grind
        rw [this, st0]; omega
      exact Int.eq_of_mul_eq_mul_left G0 this
    have q1 : p.x.fdiv G = u := by rw [hu]; exact Int.mul_fdiv_cancel_left _ G0
    have q2 : (-p.y).fdiv G = -v := by rw [hv, ← Int.mul_neg]; exact Int.mul_fdiv_cancel_left _ G0
    have bu : Bd u (n + 1) := by rw [← q1]; exact @bd_fdiv _ _ _ bp.x
    have bnv : Bd (-v) (n + 1) := by
      rw [← q2]
      have : Bd (-p.y) n := ⟨by rw [Int.natAbs_neg]; exact bp.y.lt⟩
      exact @bd_fdiv _ _ _ this
    have b1 : B3 (2 * n + 5) (tE s v) := ⟨bs.le (by omega), bnv.le (by omega), bd_0.le (by omega)⟩
    have b2 : B3 (2 * n + 5) (tN t u) := ⟨bt.le (by omega), bu.le (by omega), bd_0.le (by omega)⟩
    have c1 := renamed_q b1 b2 (bp.le (show n ≤ 2 * n + 5 by omega)) S (by omega)
    have ep : p = ⟨G * u, G * v, p.a⟩ := by
      ext
      · exact hu
      · exact hv
      · rfl
    have r1 : ren (tE s v) (tN t u) p = ⟨G, 0, ta G u v p.a s t⟩ := by
      rw [ep]; exact turn_east st
    have bf : B3 (6 * n + 16) ⟨G, 0, ta G u v p.a s t⟩ := by rw [← r1]; exact (b1.ren2 b2 bp).le (by omega)
    rw [r1] at c1
    have := straight_go (q := ⟨G, 0, ta G u v p.a s t⟩) e G0 (divOk_of bG G0 (by omega)) em (by rw [q1, q2]; exact c1)
    exact ⟨G, _, this, ⟨hG.symm, fun h => absurd h G0, fun _ => ⟨u, v, s, t, hu, hv, st, rfl⟩⟩, bf.a, bG⟩
/-- whether two least forms are one -/
theorem due_iff {p q F F' : Q3} {g a g' a' : Int} (h : LF p F) (h' : LF q F') (s : Str p g a) (s' : Str q g' a') : F = F' ↔ (g = g' ∧ (g = 0 → a.natAbs = a'.natAbs) ∧ (g ≠ 0 → (g ∣ a - a' ∨ g ∣ a + a'))) := by
  have hm : ∀ {p : Q3} {g a : Int}, Str p g a → (g = 0 ↔ (p.x = 0 ∧ p.y = 0)) := fun {p g a} s => by
    rw [s.hg]
    constructor
    · intro z; exact Int.gcd_eq_zero_iff.mp (by omega)
    · intro z; rw [z.1, z.2]; rfl
  have gp : 0 ≤ g := by rw [s.hg]; omega
  have gp' : 0 ≤ g' := by rw [s'.hg]; omega
  have fo : ∀ {p F : Q3} {g a : Int}, LF p F → Str p g a → g ≠ 0 → F = ⟨g, 0, lr g a⟩ := fun {p F g a} h s g0 => by
    obtain ⟨u, v, x, y, e1, e2, e3, e4⟩ := s.go g0
    have := h.go (fun z => g0 ((hm s).mpr z)) u v x y (by rw [← s.hg]; exact e1) (by rw [← s.hg]; exact e2) e3
    rw [this, ← s.hg, e4]
  have ho : ∀ {p F : Q3} {g a : Int}, LF p F → Str p g a → g = 0 → F = ⟨0, 0, -(a.natAbs : Int)⟩ := fun {p F g a} h s g0 => by
    rw [h.home ((hm s).mp g0), s.home g0]
  by_cases z : g = 0 <;> by_cases z' : g' = 0
  · rw [ho h s z, ho h' s' z']
    constructor
    · intro e
      have := congrArg Q3.a e
      simp only at this
      exact ⟨by omega, fun _ => by omega, fun w => absurd z w⟩
    · rintro ⟨_, e, _⟩
      rw [e z]
  · rw [ho h s z, fo h' s' z']
    constructor
    · intro e
      have := congrArg Q3.x e
      simp only at this
      omega
    · rintro ⟨e, _, _⟩
      omega
  · rw [fo h s z, ho h' s' z']
    constructor
    · intro e
      have := congrArg Q3.x e
      simp only at this
      omega
    · rintro ⟨e, _, _⟩
      omega
  · rw [fo h s z, fo h' s' z']
    constructor
    · intro e
      have e1 := congrArg Q3.x e
      have e2 := congrArg Q3.a e
      simp only at e1 e2
      subst e1
      exact ⟨rfl, fun w => absurd w z, fun _ => (lr_iff (by omega)).mp e2⟩
    · rintro ⟨e, _, w⟩
      subst e
      rw [(lr_iff (show 0 < g by omega)).mpr (w z)]
theorem due_ev {p q : Q3} {g a g' a' : Int} {S : List Cell} (e1 : g__law_straight [tP p] S = .ok (.tup [.int g, .int a]) S) (e2 : g__law_straight [tP q] S = .ok (.tup [.int g', .int a']) S) (d : g ≠ 0 → divOk g = true) :
    g__law_due [tP p, tP q] S = .ok (.bl (decide (g = g' ∧ (g = 0 → a.natAbs = a'.natAbs) ∧ (g ≠ 0 → ((a - a').fmod g = 0 ∨ (a + a').fmod g = 0))))) S := by
  by_cases c : g = g'
  · subst c
    by_cases z : g = 0
    · have h : (if a < 0 then -a else a) = (a.natAbs : Int) := by omega
      have h' : (if a' < 0 then -a' else a') = (a'.natAbs : Int) := by omega
      have k : (a.natAbs : Int) = (a'.natAbs : Int) ↔ a.natAbs = a'.natAbs := by omega
      subst z
      simp [g__law_due, b__law_due, fnD, e1, e2, h, h']
      omega
    · have d := d z
      by_cases k1 : (a - a').fmod g = 0
      · simp [g__law_due, b__law_due, fnD, e1, e2, z, d, k1]
      · simp [g__law_due, b__law_due, fnD, e1, e2, z, d, k1]
  · simp [g__law_due, b__law_due, fnD, e1, e2, c]
end W_k49
set_option maxRecDepth 100000
set_option maxHeartbeats 4000000
set_option exponentiation.threshold 4000
namespace W_k49
open DL RT GR BZ SV PW RE AK
noncomputable abbrev ak0 : DStm := (sSet 3 (eCall 2 g__law_pick (aCons (eVar 1) (aCons (eFrz (aMax (aCons (eC (.int 1)) (aCons (eC (.int 2)) (aCons (eC (.int 3)) (aCons (eC (.int 4)) (aCons (eC (.int 6)) (aCons (eC (.int 12)) (aCons (eOp2 iPow (eC (.int 10)) (eC (.int 6))) (aNil)))))))))) (aNil)))))
noncomputable abbrev ak1 : DStm := (sSet 4 (eCall 1 g__law_mid_drawn (aCons (eVar 1) (aNil))))
noncomputable abbrev ak2 : DStm := (sSet 4 (eTup (aCons (eOp2 dMul (eVar 3) (eIx (eVar 4) (eC (.int 0)))) (aCons (eOp2 dMul (eVar 3) (eIx (eVar 4) (eC (.int 1)))) (aCons (eIx (eVar 4) (eC (.int 2))) (aNil))))))
noncomputable abbrev ak3 : DStm := (sSet 5 (eCall 2 g__law_renamed (aCons (eCall 1 g__law_onto (aCons (eVar 1) (aNil))) (aCons (eVar 4) (aNil)))))
noncomputable abbrev ak4 : DStm := (sSet 6 (eCall 2 g__law_draw (aCons (eVar 1) (aCons (eC (.int 5)) (aNil)))))
noncomputable abbrev ak5 : DStm := (sIf (eB (eOp2 dEq (eVar 6) (eC (.int 0)))) (sSet 5 (eTup (aCons (eIx (eVar 5) (eC (.int 0))) (aCons (eIx (eVar 5) (eC (.int 1))) (aCons (eOp2 dAdd (eIx (eVar 5) (eC (.int 2))) (eCall 2 g__law_pick (aCons (eVar 1) (aCons (eFrz (aMax (aCons (eC (.int 1)) (aCons (eNeg (eC (.int 1))) (aCons (eOp2 iDiv (eVar 3) (eC (.int 2))) (aNil)))))) (aNil))))) (aNil)))))) (sPass))
noncomputable abbrev ak6 : DStm := (sIf (eB (eOp2 dEq (eVar 6) (eC (.int 1)))) (sSet 5 (eTup (aCons (eIx (eVar 5) (eC (.int 0))) (aCons (eIx (eVar 5) (eC (.int 1))) (aCons (eNeg (eIx (eVar 5) (eC (.int 2)))) (aNil)))))) (sPass))
noncomputable abbrev ak7 : DStm := (sIf (eB (eOp2 dEq (eVar 6) (eC (.int 2)))) (sSet 5 (eTup (aCons (eCall 2 g__law_gcd (aCons (eIx (eVar 4) (eC (.int 0))) (aCons (eIx (eVar 4) (eC (.int 1))) (aNil)))) (aCons (eC (.int 0)) (aCons (eCall 2 g__law_pick (aCons (eVar 1) (aCons (eFrz (aMax (aCons (eIx (eVar 4) (eC (.int 2))) (aCons (eIx (eCall 1 g__law_straight (aCons (eVar 4) (aNil))) (eC (.int 1))) (aNil))))) (aNil)))) (aNil)))))) (sPass))
noncomputable abbrev ak8 : DStm := (sIf (eB (eOp2 dEq (eVar 6) (eC (.int 3)))) (sSet 5 (eCall 2 g__law_pick (aCons (eVar 1) (aCons (eFrz (aMax (aCons (eCall 1 g__law_mid_drawn (aCons (eVar 1) (aNil))) (aCons (eVar 4) (aNil))))) (aNil))))) (sPass))
noncomputable abbrev ak9 : DStm := (sPar3 7 8 9 (aCons (eCall 1 g__law_place (aCons (eVar 4) (aNil))) (aCons (eCall 1 g__law_place (aCons (eVar 5) (aNil))) (aCons (eCall 2 g__law_due (aCons (eVar 4) (aCons (eVar 5) (aNil)))) (aNil)))))
noncomputable abbrev ak10 : DStm := (sSet 10 (eCall 2 g_alike (aCons (eFrz (aMax (aCons (eVar 7) (aNil)))) (aCons (eTup (aCons (eVar 8) (aNil))) (aNil)))))
noncomputable abbrev ak11 : DStm := (sIf (bOr (eB (eOp2 dNe (eOp2 dNotN (eVar 10) (eC .non)) (eVar 9))) (eB (eOp2 dNe (eOp2 dEq (eCall 1 g_list_key (aCons (eFrz (aMax (aCons (eVar 7) (aNil)))) (aNil))) (eCall 1 g_list_key (aCons (eTup (aCons (eVar 8) (aNil))) (aNil)))) (eVar 9)))) (sRet (eC (.bl false))) (sPass))
noncomputable abbrev ak12 : DStm := (sIf (bOr (eB (eOp2 dNe (eOp2 dNotN (eCall 2 g_alike_lots (aCons (eFrz (aMax (aCons (eVar 7) (aNil)))) (aCons (eFrz (aMax (aCons (eVar 8) (aNil)))) (aNil)))) (eC .non)) (eVar 9))) (eB (eOp2 dNe (eOp2 dEq (eCall 1 g_lot_key (aCons (eFrz (aMax (aCons (eVar 7) (aNil)))) (aNil))) (eCall 1 g_lot_key (aCons (eFrz (aMax (aCons (eVar 8) (aNil)))) (aNil)))) (eVar 9)))) (sRet (eC (.bl false))) (sPass))
noncomputable abbrev ak13 : DStm := (sIf (eTru (eVar 9)) (sSeq (sSet 11 (eCall 1 g__law_six (aCons (eVar 10) (aNil)))) (sIf (bOr (eB (eOp2 dIsN (eVar 11) (eC .non))) (bOr (eB (eOp2 (dIn true) (eCall 2 g__law_twist (aCons (eIx (eVar 11) (eC (.int 0))) (aCons (eIx (eVar 11) (eC (.int 1))) (aNil)))) (eTup (aCons (eC (.int 1)) (aCons (eNeg (eC (.int 1))) (aNil)))))) (eB (eOp2 dNe (eCall 2 g__law_renamed (aCons (eVar 11) (aCons (eVar 4) (aNil)))) (eVar 5))))) (sRet (eC (.bl false))) (sPass))) (sPass))
noncomputable abbrev ak14 : DStm := (sIf (bOr (bNot (eTru (eCB (bIsi ["Place", "Renaming"]) (aCons (eCall 1 g_list_key (aCons (eFrz (aMax (aCons (eVar 7) (aNil)))) (aNil))) (aCons (eC (.ty "tuple")) (aNil)))))) (bNot (eTru (eCB (bIsi ["Place", "Renaming"]) (aCons (eCall 1 g_lot_key (aCons (eFrz (aMax (aCons (eVar 7) (aNil)))) (aNil))) (aCons (eC (.ty "tuple")) (aNil))))))) (sRet (eC (.bl false))) (sPass))
theorem w_eq : w_law_0 = sSeq ak0 (sSeq ak1 (sSeq ak2 (sSeq ak3 (sSeq ak4 (sSeq ak5 (sSeq ak6 (sSeq ak7 (sSeq ak8 (sSeq ak9 (sSeq ak10 (sSeq ak11 (sSeq ak12 (sSeq ak13 (ak14)))))))))))))) := rfl
abbrev manyL : List D := [.int 1, .int 2, .int 3, .int 4, .int 6, .int 12, .int 1000000]
section
variable {x0 x2 x3 x4 x5 x6 x7 x8 x9 x10 x11 : Sl}
theorem c1 {k w : Int} {m q : Q3} {E N : Q3} {S S1 S2 S3 S4 : List Cell} (e1 : g__law_pick [.cell 0, .lst manyL] S = .ok (.int k) S1) (e2 : g__law_mid_drawn [.cell 0] S1 = .ok (tP m) S2) (m1 : mulOk k m.x = true) (m2 : mulOk k m.y = true) (e3 : g__law_onto [.cell 0] S2 = .ok (sD E N) S3)
    (e4 : g__law_renamed [sD E N, .tup [.int (k * m.x), .int (k * m.y), .int m.a]] S3 = .ok (tP q) S3) (e5 : g__law_draw [.cell 0, .int 5] S3 = .ok (.int w) S4) (R : DStm) :
    (sSeq ak0 (sSeq ak1 (sSeq ak2 (sSeq ak3 (sSeq ak4 R))))) ⟨[x0, .val (.cell 0), x2, x3, x4, x5, x6, x7, x8, x9, x10, x11], S⟩ = R ⟨[x0, .val (.cell 0), x2, .val (.int k), .val (tP ⟨k * m.x, k * m.y, m.a⟩), .val (tP q), .val (.int w), x7, x8, x9, x10, x11], S4⟩ := by
  simp [e1, e2, m1, m2, e3, e4, e5]
theorem c20 {k z : Int} {p q : Q3} {S S1 : List Cell} (e : g__law_pick [.cell 0, .lst [.int 1, .int (-1), .int (k.fdiv 2)]] S = .ok (.int z) S1) (R : DStm) :
    (sSeq ak5 (sSeq ak6 (sSeq ak7 (sSeq ak8 R)))) ⟨[x0, .val (.cell 0), x2, .val (.int k), .val (tP p), .val (tP q), .val (.int 0), x7, x8, x9, x10, x11], S⟩ = R ⟨[x0, .val (.cell 0), x2, .val (.int k), .val (tP p), .val (tP ⟨q.x, q.y, q.a + z⟩), .val (.int 0), x7, x8, x9, x10, x11], S1⟩ := by
  simp [e]
theorem c21 {k : Int} {p q : Q3} {S : List Cell} (R : DStm) :
    (sSeq ak5 (sSeq ak6 (sSeq ak7 (sSeq ak8 R)))) ⟨[x0, .val (.cell 0), x2, .val (.int k), .val (tP p), .val (tP q), .val (.int 1), x7, x8, x9, x10, x11], S⟩ = R ⟨[x0, .val (.cell 0), x2, .val (.int k), .val (tP p), .val (tP ⟨q.x, q.y, -q.a⟩), .val (.int 1), x7, x8, x9, x10, x11], S⟩ := by
  simp
theorem c22 {k g a b z : Int} {p q : Q3} {S S1 : List Cell} (e1 : g__law_gcd [.int p.x, .int p.y] S = .ok (.int g) S) (e2 : g__law_straight [tP p] S = .ok (.tup [.int a, .int b]) S) (e : g__law_pick [.cell 0, .lst [.int p.a, .int b]] S = .ok (.int z) S1) (R : DStm) :
    (sSeq ak5 (sSeq ak6 (sSeq ak7 (sSeq ak8 R)))) ⟨[x0, .val (.cell 0), x2, .val (.int k), .val (tP p), .val (tP q), .val (.int 2), x7, x8, x9, x10, x11], S⟩ = R ⟨[x0, .val (.cell 0), x2, .val (.int k), .val (tP p), .val (tP ⟨g, 0, z⟩), .val (.int 2), x7, x8, x9, x10, x11], S1⟩ := by
  simp [e1, e2, e]
theorem c23 {k : Int} {p q m o : Q3} {S S1 S2 : List Cell} (e1 : g__law_mid_drawn [.cell 0] S = .ok (tP m) S1) (e : g__law_pick [.cell 0, .lst [tP m, tP p]] S1 = .ok (tP o) S2) (R : DStm) :
    (sSeq ak5 (sSeq ak6 (sSeq ak7 (sSeq ak8 R)))) ⟨[x0, .val (.cell 0), x2, .val (.int k), .val (tP p), .val (tP q), .val (.int 3), x7, x8, x9, x10, x11], S⟩ = R ⟨[x0, .val (.cell 0), x2, .val (.int k), .val (tP p), .val (tP o), .val (.int 3), x7, x8, x9, x10, x11], S2⟩ := by
  simp [e1, e]
theorem c24 {k w : Int} {p q : Q3} {S : List Cell} (h : w ≠ 0 ∧ w ≠ 1 ∧ w ≠ 2 ∧ w ≠ 3) (R : DStm) :
    (sSeq ak5 (sSeq ak6 (sSeq ak7 (sSeq ak8 R)))) ⟨[x0, .val (.cell 0), x2, .val (.int k), .val (tP p), .val (tP q), .val (.int w), x7, x8, x9, x10, x11], S⟩ = R ⟨[x0, .val (.cell 0), x2, .val (.int k), .val (tP p), .val (tP q), .val (.int w), x7, x8, x9, x10, x11], S⟩ := by
  simp [h.1, h.2.1, h.2.2.1, h.2.2.2]
theorem isi_tup (xs : List D) : bIsi ["Place", "Renaming"] [.tup xs, .ty "tuple"] = some (.bl true) := by simp [bIsi, tyOfD, tyD, isOne, mem_ty, isTy]
theorem c3f {p q F F' : Q3} {S : List Cell} (du : g__law_due [tP p, tP q] S = .ok (.bl false) S) (al : g_alike [.lst [pP p], .tup [pP q]] S = .ok .non S) (lk1 : g_list_key [.lst [pP p]] S = .ok (.tup [tP F]) S) (lk2 : g_list_key [.tup [pP q]] S = .ok (.tup [tP F']) S) (ke : dEq (.tup [tP F]) (.tup [tP F']) = some (.bl false))
    {W : D} (ls : g_alike_lots [.lst [pP p], .lst [pP q]] S = .ok W S) (hW : isNonD W = true) (k1 : g_lot_key [.lst [pP p]] S = .ok (.tup [tP F]) S) (k2 : g_lot_key [.lst [pP q]] S = .ok (.tup [tP F']) S) :
    ∃ y7 y8 y9 y10 y11, (sSeq ak9 (sSeq ak10 (sSeq ak11 (sSeq ak12 (sSeq ak13 ak14))))) ⟨[x0, .val (.cell 0), x2, x3, .val (tP p), .val (tP q), x6, x7, x8, x9, x10, x11], S⟩ = .ok .nx ⟨[x0, .val (.cell 0), x2, x3, .val (tP p), .val (tP q), x6, y7, y8, y9, y10, y11], S⟩ := by
  have q1 := place_q p S
  have q2 := place_q q S
  have i1 := isi_tup [tP F]
  exact ⟨.val (pP p), .val (pP q), .val (.bl false), .val .non, x11, by simp [-place_q, -dEq_tt, q1, q2, du, al, lk1, lk2, ke, ls, hW, k1, k2, i1]⟩
theorem c3t {p q F F' : Q3} {E N : Q3} {S : List Cell} (du : g__law_due [tP p, tP q] S = .ok (.bl true) S) (al : g_alike [.lst [pP p], .tup [pP q]] S = .ok (rD E N) S) (lk1 : g_list_key [.lst [pP p]] S = .ok (.tup [tP F]) S) (lk2 : g_list_key [.tup [pP q]] S = .ok (.tup [tP F']) S) (ke : dEq (.tup [tP F]) (.tup [tP F']) = some (.bl true))
    {W : D} (ls : g_alike_lots [.lst [pP p], .lst [pP q]] S = .ok W S) (hW : isNonD W = false) (k1 : g_lot_key [.lst [pP p]] S = .ok (.tup [tP F]) S) (k2 : g_lot_key [.lst [pP q]] S = .ok (.tup [tP F']) S) {T : Int} (tw1 : g__law_twist [tP E, tP N] S = .ok (.int T) S) (hT : dIn true (.int T) (.tup [.int 1, .int (-1)]) = some (.bl false)) (rn : g__law_renamed [sD E N, tP p] S = .ok (tP q) S) (dn : dNe (tP q) (tP q) = some (.bl false)) :
    ∃ y7 y8 y9 y10 y11, (sSeq ak9 (sSeq ak10 (sSeq ak11 (sSeq ak12 (sSeq ak13 ak14))))) ⟨[x0, .val (.cell 0), x2, x3, .val (tP p), .val (tP q), x6, x7, x8, x9, x10, x11], S⟩ = .ok .nx ⟨[x0, .val (.cell 0), x2, x3, .val (tP p), .val (tP q), x6, y7, y8, y9, y10, y11], S⟩ := by
  have q1 := place_q p S
  have q2 := place_q q S
  have q3 := six_q E N S
  have i1 := isi_tup [tP F]
  exact ⟨.val (pP p), .val (pP q), .val (.bl true), .val (rD E N), .val (sD E N), by simp [-place_q, -six_q, -dEq_tt, -dNe_tt, q1, q2, q3, du, al, lk1, lk2, ke, ls, hW, k1, k2, i1, tw1, hT, rn, dn]⟩
end
end W_k49
set_option maxRecDepth 100000
set_option maxHeartbeats 4000000
set_option exponentiation.threshold 4000
namespace W_k49
open DL RT GR BZ SV PW RE AK
theorem twist0_q {E N : Q3} {n : Nat} (hE : B3 n E) (hN : B3 n N) (S : List Cell) (h : n < 40000000) : g__law_twist [tP E, tP N] S = .ok (.int (tw E N)) S := by
  have m1 : mulOk E.x N.y = true := mulOk_of hE.x hN.y (by omega)
  have m2 : mulOk N.x E.y = true := mulOk_of hN.x hE.y (by omega)
  simp [g__law_twist, b__law_twist, fnD, m1, m2, tw]
theorem key_eq (F F' : Q3) : dEq (.tup [tP F]) (.tup [tP F']) = some (.bl (decide (F = F'))) := by
  have e : decide (F = F') = decide (F.x = F'.x ∧ F.y = F'.y ∧ F.a = F'.a) := decide_eq_decide.mpr Q3.ext_iff
  rw [dEq_tt _ _ ⟨by simp [plDs, plD], by simp [dpDs, dpD]⟩ ⟨by simp [plDs, plD], by simp [dpDs, dpD]⟩, e]
  by_cases a : F.x = F'.x <;> by_cases b : F.y = F'.y <;> by_cases c : F.a = F'.a <;> simp [eqPls, eqPl, a, b, c]
theorem third {p q : Q3} (bp : B3 1000 p) (bq : B3 1000 q) (S : List Cell) {x0 x2 x3 x6 x7 x8 x9 x10 x11 : Sl} : ∃ y7 y8 y9 y10 y11, (sSeq ak9 (sSeq ak10 (sSeq ak11 (sSeq ak12 (sSeq ak13 ak14))))) ⟨[x0, .val (.cell 0), x2, x3, .val (tP p), .val (tP q), x6, x7, x8, x9, x10, x11], S⟩ = .ok .nx ⟨[x0, .val (.cell 0), x2, x3, .val (tP p), .val (tP q), x6, y7, y8, y9, y10, y11], S⟩ := by
  obtain ⟨g, a, s1, t1, _, bg⟩ := straight_q (by decide) (by decide) bp S
  obtain ⟨g', a', s2, t2, _, _⟩ := straight_q (by decide) (by decide) bq S
  have du := due_ev s1 s2 (fun h => divOk_of bg h (by decide))
  obtain ⟨A, F, l1, fA, rA, lf, bA⟩ := least_q bp (L := .lst [pP p]) (.inl rfl) S
  obtain ⟨A2, F2, l2, fA2, rA2, lf2, bA2⟩ := least_q bq (L := .tup [pP q]) (.inr rfl) S
  obtain ⟨A3, F3, l3, fA3, rA3, lf3, bA3⟩ := least_q bq (L := .lst [pP q]) (.inl rfl) S
  have di := due_iff lf lf2 t1 t2
  have di3 := due_iff lf lf3 t1 t2
  have e23 : F2 = F3 := by
    have := due_iff lf2 lf3 t2 t2
    refine this.mpr ⟨rfl, fun _ => rfl, fun _ => .inl ?_⟩
    rw [Int.sub_self]; exact Int.dvd_zero _
  have dd : decide (g = g' ∧ (g = 0 → a.natAbs = a'.natAbs) ∧ (g ≠ 0 → ((a - a').fmod g = 0 ∨ (a + a').fmod g = 0))) = decide (F = F2) := by
    apply decide_eq_decide.mpr
    rw [di]
    have fz : ∀ z : Int, z.fmod g = 0 ↔ g ∣ z := fun z => ⟨Int.dvd_of_fmod_eq_zero, Int.fmod_eq_zero_of_dvd⟩
    rw [fz, fz]
  rw [dd] at du
  have i2 := rinv_q bA2 S (by decide) fA2
  have i3 := rinv_q bA3 S (by decide) fA3
  have m2 := rmul_q (n := 700000) ((bA2.inv fA2).le (by decide)) (bA.le (by decide)) S (by decide)
  have m3 := rmul_q (n := 700000) ((bA3.inv fA3).le (by decide)) (bA.le (by decide)) S (by decide)
  have al := alike_ev (p := p) (q := q) (.inl rfl) (.inr rfl) l1 l2 i2 m2
  have al3 := alike_ev (p := p) (q := q) (.inl rfl) (.inl rfl) l1 l3 i3 m3
  obtain ⟨W, ls, hW⟩ := lots_ev al3
  have lk1 := key_ev (p := p) (.inl rfl) l1
  have lk2 := key_ev (p := q) (.inr rfl) l2
  have lk3 := key_ev (p := q) (.inl rfl) l3
  rw [← e23] at lk3
  have ke := key_eq F F2
  have k1 := lot_key_ev lk1
  have k2 := lot_key_ev lk3
  by_cases c : F = F2
  · rw [decide_eq_true c] at du ke
    rw [if_pos c] at al
    rw [if_pos (c.trans e23)] at hW
    have bC : BR 3000000 (comp (invR A2) A) := (((bA2.inv fA2).le (show 4 * 150000 + 10 ≤ 700000 by decide)).comp (bA.le (show 150000 ≤ 700000 by decide))).le (by decide)
    have fC : fac (comp (invR A2) A) = 1 ∨ fac (comp (invR A2) A) = -1 := by
      rw [fac_comp]
      rcases fac_inv fA2 with z | z <;> rcases fA with z2 | z2 <;> rw [z, z2] <;> decide
    have rC : ren (comp (invR A2) A).E (comp (invR A2) A).N p = q := by
      rw [ren_comp, rA, c, ← rA2]
      exact back fA2 q
    have tw1 := twist0_q bC.e bC.n S (by decide)
    have rn := renamed_q bC.e bC.n (bp.le (show 1000 ≤ 3000000 by decide)) S (by decide)
    rw [rC] at rn
    exact c3t du al lk1 lk2 ke ls hW k1 k2 tw1 (in_yes fC) rn (ne_self q)
  · rw [decide_eq_false c] at du ke
    rw [if_neg c] at al
    rw [if_neg (fun z => c (z.trans e23.symm))] at hW
    exact c3f du al lk1 lk2 ke ls hW k1 k2
theorem lap_ok {n : Nat} {S : List Cell} {x0 x2 x3 x4 x5 x6 x7 x8 x9 x10 x11 : Sl} (hS : Pen n S) (hn : n + 100 < 2 ^ 18) :
    ∃ y3 y4 y5 y6 y7 y8 y9 y10 y11 S', w_law_0 ⟨[x0, .val (.cell 0), x2, x3, x4, x5, x6, x7, x8, x9, x10, x11], S⟩ = .ok .nx ⟨[x0, .val (.cell 0), x2, y3, y4, y5, y6, y7, y8, y9, y10, y11], S'⟩ ∧ Pen (n + 50) S' := by
  obtain ⟨k, S1, e1, hk, P1⟩ := pick_ok (xs := manyL) hS (by omega) (by simp) (by simp)
  obtain ⟨k, rfl, bk⟩ : ∃ m, k = .int m ∧ Bd m 20 := by
    simp only [manyL, List.mem_cons, List.not_mem_nil, or_false] at hk
    rcases hk with rfl | rfl | rfl | rfl | rfl | rfl | rfl <;> exact ⟨_, rfl, ⟨by decide⟩⟩
  obtain ⟨m, S2, e2, bm, mx, my, P2⟩ := mid_drawn_q P1 (by omega)
  have b1 : Bd (k * m.x) (20 + 60) := @bd_mul _ _ _ _ bk mx
  have b2 : Bd (k * m.y) (20 + 60) := @bd_mul _ _ _ _ bk my
  have bp : B3 110 ⟨k * m.x, k * m.y, m.a⟩ := ⟨b1.le (by decide), b2.le (by decide), bm.a⟩
  obtain ⟨E, N, S3, e3, bE, bN, _, P3⟩ := onto_q P2 (by omega)
  have e4 := renamed_q (bE.le (show 60 ≤ 110 by decide)) (bN.le (by decide)) bp S3 (by decide)
  have bq : B3 350 (ren E N ⟨k * m.x, k * m.y, m.a⟩) := (bE.ren2 bN bp).le (by decide)
  obtain ⟨w, S4, e5, w0, w1, P4⟩ := draw_ok P3 (by omega) (p := 5) (by decide) (by decide)
  have s1 := c1 (x0 := x0) (x2 := x2) (x3 := x3) (x4 := x4) (x5 := x5) (x6 := x6) (x7 := x7) (x8 := x8) (x9 := x9) (x10 := x10) (x11 := x11) e1 e2 (mulOk_of bk mx (by decide)) (mulOk_of bk my (by decide)) e3 e4 e5
  generalize ren E N ⟨k * m.x, k * m.y, m.a⟩ = q at *
  generalize hp : (⟨k * m.x, k * m.y, m.a⟩ : Q3) = p at *
  obtain ⟨o, S5, bo, P5, s2⟩ : ∃ o S5, B3 1000 o ∧ Pen (n + 45) S5 ∧ ∀ R : DStm, (sSeq ak5 (sSeq ak6 (sSeq ak7 (sSeq ak8 R)))) ⟨[x0, .val (.cell 0), x2, .val (.int k), .val (tP p), .val (tP q), .val (.int w), x7, x8, x9, x10, x11], S4⟩ = R ⟨[x0, .val (.cell 0), x2, .val (.int k), .val (tP p), .val (tP o), .val (.int w), x7, x8, x9, x10, x11], S5⟩ := by
    by_cases h0 : w = 0
    · subst h0
      obtain ⟨z, S5, e, hz, P5⟩ := pick_ok (xs := [.int 1, .int (-1), .int (k.fdiv 2)]) P4 (by omega) (by simp) (by simp)
      obtain ⟨z, rfl, bz⟩ : ∃ m, z = .int m ∧ Bd m 21 := by
        simp only [List.mem_cons, List.not_mem_nil, or_false] at hz
        rcases hz with rfl | rfl | rfl
        · exact ⟨_, rfl, ⟨by decide⟩⟩
        · exact ⟨_, rfl, ⟨by decide⟩⟩
        · exact ⟨_, rfl, @bd_fdiv _ _ _ bk⟩
      refine ⟨⟨q.x, q.y, q.a + z⟩, S5, ⟨bq.x.le (by decide), bq.y.le (by decide), ⟨?_⟩⟩, P5.mono (by omega), fun R => c20 e R⟩
      have h1 := bq.a.lt
      have h2 := bz.lt
      have : (2 : Nat) ^ 350 + 2 ^ 21 ≤ 2 ^ 1000 := by decide
      show (q.a + z).natAbs < _
      omega
    · by_cases h1 : w = 1
      · subst h1
        exact ⟨⟨q.x, q.y, -q.a⟩, S4, ⟨bq.x.le (by decide), bq.y.le (by decide), ⟨by show (-q.a).natAbs < _; rw [Int.natAbs_neg]; exact (bq.a.le (show 350 ≤ 1000 by decide)).lt⟩⟩, P4.mono (by omega), fun R => c21 R⟩
      · by_cases h2 : w = 2
        · subst h2
          have g1 := lgcd_q (x := p.x) (k := 110) (by decide) bp.y S4
          have bg : Bd (Int.gcd p.x p.y : Int) 110 := bd_gcd bp.x bp.y
          obtain ⟨g, a, t1, _, ba, _⟩ := straight_q (by decide) (by decide) bp S4
          obtain ⟨z, S5, e, hz, P5⟩ := pick_ok (xs := [.int p.a, .int a]) P4 (by omega) (by simp) (by simp)
          obtain ⟨z, rfl, bz⟩ : ∃ m, z = .int m ∧ Bd m 1000 := by
            simp only [List.mem_cons, List.not_mem_nil, or_false] at hz
            rcases hz with rfl | rfl
            · exact ⟨_, rfl, bp.a.le (by decide)⟩
            · exact ⟨_, rfl, ba.le (by decide)⟩
          exact ⟨⟨Int.gcd p.x p.y, 0, z⟩, S5, ⟨bg.le (by decide), bd_0.le (by decide), bz⟩, P5.mono (by omega), fun R => c22 g1 t1 e R⟩
        · by_cases h3 : w = 3
          · subst h3
            obtain ⟨r, S5, e6, br, _, _, P5⟩ := mid_drawn_q P4 (by omega)
            obtain ⟨z, S6, e, hz, P6⟩ := pick_ok (xs := [tP r, tP p]) P5 (by omega) (by simp) (by simp)
            obtain ⟨o, rfl, bo⟩ : ∃ o, z = tP o ∧ B3 110 o := by
              simp only [List.mem_cons, List.not_mem_nil, or_false] at hz
              rcases hz with rfl | rfl
              · exact ⟨_, rfl, br⟩
              · exact ⟨_, rfl, bp⟩
            exact ⟨o, S6, bo.le (by decide), P6.mono (by omega), fun R => c23 e6 e R⟩
          · exact ⟨q, S4, bq.le (by decide), P4.mono (by omega), fun R => c24 ⟨h0, h1, h2, h3⟩ R⟩
  obtain ⟨y7, y8, y9, y10, y11, s3⟩ := third (bp.le (show 110 ≤ 1000 by decide)) bo S5 (x0 := x0) (x2 := x2) (x3 := .val (.int k)) (x6 := .val (.int w)) (x7 := x7) (x8 := x8) (x9 := x9) (x10 := x10) (x11 := x11)
  have whole := (congrFun w_eq _).trans ((s1 _).trans ((s2 _).trans s3))
  exact ⟨_, _, _, _, _, _, _, _, _, S5, whole, P5.mono (by omega)⟩
theorem law_ok : ∀ ns : List Int, ns.length ≤ 63 → (∀ z ∈ ns, PySem.Builtin.Int.intBits z ≤ 1048576) → ∃ S, g_law [.scr (ns.map D.int)] [] = .ok (.bl true) S := by
  intro ns hl _
  obtain ⟨S0, e0, P0⟩ := begin_ok ns
  obtain ⟨s', e2, ⟨y2, y3, y4, y5, y6, y7, y8, y9, y10, y11, hs⟩, hP⟩ := for_inv (g := gN 2) (b := w_law_0) (items := rngL 0 4) (s := ⟨[.val (.scr (ns.map D.int)), .val (.cell 0), .un, .un, .un, .un, .un, .un, .un, .un, .un, .un], S0⟩)
    (fun i s => (∃ y2 y3 y4 y5 y6 y7 y8 y9 y10 y11, s.sl = [.val (.scr (ns.map D.int)), .val (.cell 0), y2, y3, y4, y5, y6, y7, y8, y9, y10, y11]) ∧ Pen (50 * i) s.st)
    ⟨⟨_, _, _, _, _, _, _, _, _, _, rfl⟩, P0⟩ (fun i d s hi hp => by
      obtain ⟨⟨y2, y3, y4, y5, y6, y7, y8, y9, y10, y11, hs⟩, hP⟩ := hp
      obtain ⟨sl, st⟩ := s
      simp only at hs hP
      subst hs
      obtain ⟨hi1, rfl⟩ := rngL_get hi
      obtain ⟨z3, z4, z5, z6, z7, z8, z9, z10, z11, S2, e, P2⟩ := lap_ok (x0 := .val (.scr (ns.map D.int))) (x2 := .val (.int (0 + i))) (x3 := y3) (x4 := y4) (x5 := y5) (x6 := y6) (x7 := y7) (x8 := y8) (x9 := y9) (x10 := y10) (x11 := y11) hP (by omega)
      exact ⟨_, _, rfl, .inl e, ⟨_, _, _, _, _, _, _, _, _, _, rfl⟩, P2.mono (by omega)⟩)
  obtain ⟨sl, st⟩ := s'
  simp only at hs hP
  subst hs
  exact ⟨st, by simp [-r_for_cons, g_law, b_law, fnD, e0, e2]⟩
end W_k49
open PySem PySem.W PyProof.Rows
set_option maxRecDepth 100000 in
set_option maxHeartbeats 0 in
theorem PySem.Challenge.cw_areawalks_k49_whole_alike_places_holds : PySem.Challenge.rw_areawalks_k49_whole_alike_places.Holds := by
  w_on; o_law; k_head; (case hw => w_witness2)
  k_fill
  refine DL.walk_ofD (l := PySem.Challenge.rw_areawalks_k49_whole_alike_places) (n := 63) (k := 21) (x := "_law_script") (CX := fun w => L2.CX PySem.Challenge.rw_areawalks_k49_whole_alike_places.prog w) rfl (by decide) rfl ⟨rfl, by decide, by decide⟩ (fun w h Y => PySem.W.kIn_of Y) ?F (fun w => DL.noCX)
  case F =>
    intro w mg fa h KX G hmg TT
    refine' W_k49.all_mk KX G hmg TT ?aC_Place ?cB_Place ?aC_Renaming ?cB_Renaming ?cc_Place_Renaming ?cc_Renaming_Place ?aC_BadNumber ?xl_BadNumber ?xr_BadNumber ?xi_BadNumber ?xf_BadNumber ?xc_BadNumber ?xd_BadNumber ?xv_BadNumber ?xe_BadNumber ?xk_BadNumber ?xB_BadNumber ?aC_BadPlace ?xl_BadPlace ?xr_BadPlace ?xi_BadPlace ?xf_BadPlace ?xc_BadPlace ?xd_BadPlace ?xv_BadPlace ?xe_BadPlace ?xk_BadPlace ?xB_BadPlace ?aC_NotOnto ?xl_NotOnto ?xr_NotOnto ?xi_NotOnto ?xf_NotOnto ?xc_NotOnto ?xd_NotOnto ?xv_NotOnto ?xe_NotOnto ?xk_NotOnto ?xB_NotOnto ?aC_Uneven ?xtop ?xsup ?a1__law_begin ?l1__law_begin ?c1__law_begin ?k1__law_begin ?a1__law_draw ?l1__law_draw ?c1__law_draw ?k1__law_draw ?a1__law_gcd ?l1__law_gcd ?c1__law_gcd ?k1__law_gcd ?a1__law_made ?l1__law_made ?c1__law_made ?k1__law_made ?a1__law_join ?l1__law_join ?c1__law_join ?k1__law_join ?a1__law_times ?l1__law_times ?c1__law_times ?k1__law_times ?a1__law_twist ?l1__law_twist ?c1__law_twist ?k1__law_twist ?a1__law_renamed ?l1__law_renamed ?c1__law_renamed ?k1__law_renamed ?a1__law_straight ?l1__law_straight ?c1__law_straight ?k1__law_straight ?a1__law_due ?l1__law_due ?c1__law_due ?k1__law_due ?a1__law_pick ?l1__law_pick ?c1__law_pick ?k1__law_pick ?a1__law_mid ?l1__law_mid ?c1__law_mid ?k1__law_mid ?a1__law_mid_drawn ?l1__law_mid_drawn ?c1__law_mid_drawn ?k1__law_mid_drawn ?a1__law_onto ?l1__law_onto ?c1__law_onto ?k1__law_onto ?a1_is_integer ?l1_is_integer ?c1_is_integer ?k1_is_integer ?a1_PlaceX_initX ?i1_PlaceX_initX ?l1_PlaceX_initX ?c1_PlaceX_initX ?k1_PlaceX_initX ?a1__law_place ?l1__law_place ?c1__law_place ?k1__law_place ?a1__law_whole ?l1__law_whole ?c1__law_whole ?k1__law_whole ?a1__law_row ?l1__law_row ?c1__law_row ?k1__law_row ?a1__law_six ?l1__law_six ?c1__law_six ?k1__law_six ?a1_PlaceX_eqX ?i1_PlaceX_eqX ?l1_PlaceX_eqX ?c1_PlaceX_eqX ?k1_PlaceX_eqX ?a1_Place_lifted ?i1_Place_lifted ?l1_Place_lifted ?c1_Place_lifted ?k1_Place_lifted ?a1_need_place ?l1_need_place ?c1_need_place ?k1_need_place ?a1_Place_twist ?i1_Place_twist ?l1_Place_twist ?c1_Place_twist ?k1_Place_twist ?a1_RenamingX_initX ?i1_RenamingX_initX ?l1_RenamingX_initX ?c1_RenamingX_initX ?k1_RenamingX_initX ?a1_PlaceX_mulX ?i1_PlaceX_mulX ?l1_PlaceX_mulX ?c1_PlaceX_mulX ?k1_PlaceX_mulX ?a1_pairs_below ?l1_pairs_below ?c1_pairs_below ?k1_pairs_below ?a1_Place_power ?i1_Place_power ?l1_Place_power ?c1_Place_power ?k1_Place_power ?a1_led_by ?l1_led_by ?c1_led_by ?k1_led_by ?a1_RenamingX_invertX ?i1_RenamingX_invertX ?l1_RenamingX_invertX ?c1_RenamingX_invertX ?k1_RenamingX_invertX ?a1_RenamingX_mulX ?i1_RenamingX_mulX ?l1_RenamingX_mulX ?c1_RenamingX_mulX ?k1_RenamingX_mulX ?a1_figures_of ?l1_figures_of ?c1_figures_of ?k1_figures_of ?a1_first_at ?l1_first_at ?c1_first_at ?k1_first_at ?a1_RenamingX_callX ?i1_RenamingX_callX ?l1_RenamingX_callX ?c1_RenamingX_callX ?k1_RenamingX_callX ?a1_renamed_all ?l1_renamed_all ?c1_renamed_all ?k1_renamed_all ?a1_same_names ?l1_same_names ?c1_same_names ?k1_same_names ?a1_leaned_north ?l1_leaned_north ?c1_leaned_north ?k1_leaned_north ?a1_lowered_areas ?l1_lowered_areas ?c1_lowered_areas ?k1_lowered_areas ?a1_bezout_of ?l1_bezout_of ?c1_bezout_of ?k1_bezout_of ?a1_turned_east ?l1_turned_east ?c1_turned_east ?k1_turned_east ?a1_least_list ?l1_least_list ?c1_least_list ?k1_least_list ?a1_need_places ?l1_need_places ?c1_need_places ?k1_need_places ?a1_alike ?l1_alike ?c1_alike ?k1_alike ?a1_orders_of ?l1_orders_of ?c1_orders_of ?k1_orders_of ?a1_alike_lots ?l1_alike_lots ?c1_alike_lots ?k1_alike_lots ?a1_list_key ?l1_list_key ?c1_list_key ?k1_list_key ?a1_lot_key ?l1_lot_key ?c1_lot_key ?k1_lot_key ?a1_law ?l1_law ?c1_law ?k1_law ?z1_abs ?z1_all ?z1_bool ?z1_enumerate ?z1_int ?z1_isinstance ?z1_len ?z1_list ?z1_range ?z1_tuple W_k49.law_ok
    (case aC_Place => k_is)
    (case cB_Place => kernel_rfl)
    (case aC_Renaming => k_is)
    (case cB_Renaming => kernel_rfl)
    (case cc_Place_Renaming => kernel_rfl)
    (case cc_Renaming_Place => kernel_rfl)
    (case aC_BadNumber => k_is)
    (case xl_BadNumber => k_is)
    (case xr_BadNumber => kernel_rfl)
    (case xi_BadNumber => k_is)
    (case xf_BadNumber => k_is)
    (case xc_BadNumber => k_is)
    (case xd_BadNumber => k_is)
    (case xv_BadNumber => rfl)
    (case xe_BadNumber => kernel_rfl)
    (case xk_BadNumber => k_is)
    (case xB_BadNumber => kernel_rfl)
    (case aC_BadPlace => k_is)
    (case xl_BadPlace => k_is)
    (case xr_BadPlace => kernel_rfl)
    (case xi_BadPlace => k_is)
    (case xf_BadPlace => k_is)
    (case xc_BadPlace => k_is)
    (case xd_BadPlace => k_is)
    (case xv_BadPlace => rfl)
    (case xe_BadPlace => kernel_rfl)
    (case xk_BadPlace => k_is)
    (case xB_BadPlace => kernel_rfl)
    (case aC_NotOnto => k_is)
    (case xl_NotOnto => k_is)
    (case xr_NotOnto => kernel_rfl)
    (case xi_NotOnto => k_is)
    (case xf_NotOnto => k_is)
    (case xc_NotOnto => k_is)
    (case xd_NotOnto => k_is)
    (case xv_NotOnto => rfl)
    (case xe_NotOnto => kernel_rfl)
    (case xk_NotOnto => k_is)
    (case xB_NotOnto => kernel_rfl)
    (case aC_Uneven => k_is)
    (case xtop => kernel_rfl)
    (case xsup => k_is)
    (case a1__law_begin => k_is)
    (case l1__law_begin => k_is)
    (case c1__law_begin => k_is)
    (case k1__law_begin => k_is)
    (case a1__law_draw => k_is)
    (case l1__law_draw => k_is)
    (case c1__law_draw => k_is)
    (case k1__law_draw => k_is)
    (case a1__law_gcd => k_is)
    (case l1__law_gcd => k_is)
    (case c1__law_gcd => k_is)
    (case k1__law_gcd => k_is)
    (case a1__law_made => k_is)
    (case l1__law_made => k_is)
    (case c1__law_made => k_is)
    (case k1__law_made => k_is)
    (case a1__law_join => k_is)
    (case l1__law_join => k_is)
    (case c1__law_join => k_is)
    (case k1__law_join => k_is)
    (case a1__law_times => k_is)
    (case l1__law_times => k_is)
    (case c1__law_times => k_is)
    (case k1__law_times => k_is)
    (case a1__law_twist => k_is)
    (case l1__law_twist => k_is)
    (case c1__law_twist => k_is)
    (case k1__law_twist => k_is)
    (case a1__law_renamed => k_is)
    (case l1__law_renamed => k_is)
    (case c1__law_renamed => k_is)
    (case k1__law_renamed => k_is)
    (case a1__law_straight => k_is)
    (case l1__law_straight => k_is)
    (case c1__law_straight => k_is)
    (case k1__law_straight => k_is)
    (case a1__law_due => k_is)
    (case l1__law_due => k_is)
    (case c1__law_due => k_is)
    (case k1__law_due => k_is)
    (case a1__law_pick => k_is)
    (case l1__law_pick => k_is)
    (case c1__law_pick => k_is)
    (case k1__law_pick => k_is)
    (case a1__law_mid => k_is)
    (case l1__law_mid => k_is)
    (case c1__law_mid => k_is)
    (case k1__law_mid => k_is)
    (case a1__law_mid_drawn => k_is)
    (case l1__law_mid_drawn => k_is)
    (case c1__law_mid_drawn => k_is)
    (case k1__law_mid_drawn => k_is)
    (case a1__law_onto => k_is)
    (case l1__law_onto => k_is)
    (case c1__law_onto => k_is)
    (case k1__law_onto => k_is)
    (case a1_is_integer => k_is)
    (case l1_is_integer => k_is)
    (case c1_is_integer => k_is)
    (case k1_is_integer => k_is)
    (case a1_PlaceX_initX => k_is)
    (case i1_PlaceX_initX => k_is)
    (case l1_PlaceX_initX => k_is)
    (case c1_PlaceX_initX => k_is)
    (case k1_PlaceX_initX => k_is)
    (case a1__law_place => k_is)
    (case l1__law_place => k_is)
    (case c1__law_place => k_is)
    (case k1__law_place => k_is)
    (case a1__law_whole => k_is)
    (case l1__law_whole => k_is)
    (case c1__law_whole => k_is)
    (case k1__law_whole => k_is)
    (case a1__law_row => k_is)
    (case l1__law_row => k_is)
    (case c1__law_row => k_is)
    (case k1__law_row => k_is)
    (case a1__law_six => k_is)
    (case l1__law_six => k_is)
    (case c1__law_six => k_is)
    (case k1__law_six => k_is)
    (case a1_PlaceX_eqX => k_is)
    (case i1_PlaceX_eqX => k_is)
    (case l1_PlaceX_eqX => k_is)
    (case c1_PlaceX_eqX => k_is)
    (case k1_PlaceX_eqX => k_is)
    (case a1_Place_lifted => k_is)
    (case i1_Place_lifted => k_is)
    (case l1_Place_lifted => k_is)
    (case c1_Place_lifted => k_is)
    (case k1_Place_lifted => k_is)
    (case a1_need_place => k_is)
    (case l1_need_place => k_is)
    (case c1_need_place => k_is)
    (case k1_need_place => k_is)
    (case a1_Place_twist => k_is)
    (case i1_Place_twist => k_is)
    (case l1_Place_twist => k_is)
    (case c1_Place_twist => k_is)
    (case k1_Place_twist => k_is)
    (case a1_RenamingX_initX => k_is)
    (case i1_RenamingX_initX => k_is)
    (case l1_RenamingX_initX => k_is)
    (case c1_RenamingX_initX => k_is)
    (case k1_RenamingX_initX => k_is)
    (case a1_PlaceX_mulX => k_is)
    (case i1_PlaceX_mulX => k_is)
    (case l1_PlaceX_mulX => k_is)
    (case c1_PlaceX_mulX => k_is)
    (case k1_PlaceX_mulX => k_is)
    (case a1_pairs_below => k_is)
    (case l1_pairs_below => k_is)
    (case c1_pairs_below => k_is)
    (case k1_pairs_below => k_is)
    (case a1_Place_power => k_is)
    (case i1_Place_power => k_is)
    (case l1_Place_power => k_is)
    (case c1_Place_power => k_is)
    (case k1_Place_power => k_is)
    (case a1_led_by => k_is)
    (case l1_led_by => k_is)
    (case c1_led_by => k_is)
    (case k1_led_by => k_is)
    (case a1_RenamingX_invertX => k_is)
    (case i1_RenamingX_invertX => k_is)
    (case l1_RenamingX_invertX => k_is)
    (case c1_RenamingX_invertX => k_is)
    (case k1_RenamingX_invertX => k_is)
    (case a1_RenamingX_mulX => k_is)
    (case i1_RenamingX_mulX => k_is)
    (case l1_RenamingX_mulX => k_is)
    (case c1_RenamingX_mulX => k_is)
    (case k1_RenamingX_mulX => k_is)
    (case a1_figures_of => k_is)
    (case l1_figures_of => k_is)
    (case c1_figures_of => k_is)
    (case k1_figures_of => k_is)
    (case a1_first_at => k_is)
    (case l1_first_at => k_is)
    (case c1_first_at => k_is)
    (case k1_first_at => k_is)
    (case a1_RenamingX_callX => k_is)
    (case i1_RenamingX_callX => k_is)
    (case l1_RenamingX_callX => k_is)
    (case c1_RenamingX_callX => k_is)
    (case k1_RenamingX_callX => k_is)
    (case a1_renamed_all => k_is)
    (case l1_renamed_all => k_is)
    (case c1_renamed_all => k_is)
    (case k1_renamed_all => k_is)
    (case a1_same_names => k_is)
    (case l1_same_names => k_is)
    (case c1_same_names => k_is)
    (case k1_same_names => k_is)
    (case a1_leaned_north => k_is)
    (case l1_leaned_north => k_is)
    (case c1_leaned_north => k_is)
    (case k1_leaned_north => k_is)
    (case a1_lowered_areas => k_is)
    (case l1_lowered_areas => k_is)
    (case c1_lowered_areas => k_is)
    (case k1_lowered_areas => k_is)
    (case a1_bezout_of => k_is)
    (case l1_bezout_of => k_is)
    (case c1_bezout_of => k_is)
    (case k1_bezout_of => k_is)
    (case a1_turned_east => k_is)
    (case l1_turned_east => k_is)
    (case c1_turned_east => k_is)
    (case k1_turned_east => k_is)
    (case a1_least_list => k_is)
    (case l1_least_list => k_is)
    (case c1_least_list => k_is)
    (case k1_least_list => k_is)
    (case a1_need_places => k_is)
    (case l1_need_places => k_is)
    (case c1_need_places => k_is)
    (case k1_need_places => k_is)
    (case a1_alike => k_is)
    (case l1_alike => k_is)
    (case c1_alike => k_is)
    (case k1_alike => k_is)
    (case a1_orders_of => k_is)
    (case l1_orders_of => k_is)
    (case c1_orders_of => k_is)
    (case k1_orders_of => k_is)
    (case a1_alike_lots => k_is)
    (case l1_alike_lots => k_is)
    (case c1_alike_lots => k_is)
    (case k1_alike_lots => k_is)
    (case a1_list_key => k_is)
    (case l1_list_key => k_is)
    (case c1_list_key => k_is)
    (case k1_list_key => k_is)
    (case a1_lot_key => k_is)
    (case l1_lot_key => k_is)
    (case c1_lot_key => k_is)
    (case k1_lot_key => k_is)
    (case a1_law => k_is)
    (case l1_law => k_is)
    (case c1_law => k_is)
    (case k1_law => k_is)
    (case z1_abs => k_is)
    (case z1_all => k_is)
    (case z1_bool => k_is)
    (case z1_enumerate => k_is)
    (case z1_int => k_is)
    (case z1_isinstance => k_is)
    (case z1_len => k_is)
    (case z1_list => k_is)
    (case z1_range => k_is)
    (case z1_tuple => k_is)
