import PyProof.Rows.All
import Wide.All
import OpenK.AllK
import Wide.FinOn
import HandS.ForMost
import HandS.ForExc
import HandS.CallSlots
import HandS.IsInst
import HandS.Wide
import HandS.Flow
import HandS.Property
import HandS.OwnEq
import KE.KOpsOwn
import HandS.Zip
import HandS.Style
import HandS.Exc
import HandS.ExcInit
import HandS.TryMany
import KE.KExcSuper
import HandS.ExcField
import HandS.Lambda
import HandS.EndTab
import HandS.WideBits
import HandS.Deep
import HandS.StrMore
import HandS.NoneIn
import PyProof.StrBlock2
import HandS.TupAny
import HandS.Iter
import HandS.ExcOwn
import PyProof.ExcBaseAll.ValueError
import KE.KCallOwn
import HandS.TupMul
import PySem.Challenge.RW_areawalks_k10_whole_walks_turned
set_option Elab.async false
set_option linter.all false
set_option maxRecDepth 100000
set_option maxHeartbeats 4000000
set_option autoImplicit false
namespace DL
open PySem PySem.Spec PyProof.Rows L2

/-! ### data -/
/-- a name or a text by its code points -/
abbrev Nm := List Nat
def nm (l : Nm) : Str := ⟨l.toArray⟩
theorem nm_inj {a b : Nm} (h : nm a = nm b) : a = b := by
  have := congrArg (fun s : Str => s.cps.toList) h
  simpa [nm] using this
inductive DK where
  | i (n : Int)
  | s (l : List Nat)
  deriving DecidableEq
inductive D where
  | non | bl (b : Bool) | int (i : Int) | str (l : List Nat)
  | tup (xs : List D) | lst (xs : List D) | scr (xs : List D)
  | dic (kvs : List (DK × D))
  | ins (c : String) (fs : List (Nm × D))
  | cell (n : Nat) | cls (c : String) | ty (n : String) | fn (f : String) | lam (k : String)
instance : Inhabited D := ⟨.non⟩
/-- a thing of the store, by reference -/
inductive Cell where
  | dic (kvs : List (DK × D))
  | lst (xs : List D)
  | obj (c : String) (fs : List (Nm × D))
  | tab (k : String)
instance : Inhabited Cell := ⟨.lst []⟩
/-- a slot: no value known, a value, a list / dict / instance of this frame's own -/
inductive Sl where
  | un | val (d : D) | ol (xs : List D) | od (kvs : List (DK × D)) | oi (c : String) (fs : List (Nm × D))
instance : Inhabited Sl := ⟨.un⟩
def Sl.own : Sl → Bool
  | .un => false
  | .val _ => false
  | _ => true
structure Xc where
  cls : String
  fs : List (Nm × D)
structure DS where
  sl : List Sl
  st : List Cell
inductive Res (σ α : Type) where
  | ok (a : α) (t : σ) | exc (x : Xc) (t : σ) | stuck
def Res.bind {σ α β : Type} (r : Res σ α) (k : α → σ → Res σ β) : Res σ β := match r with
  | .ok a t => k a t
  | .exc x t => .exc x t
  | .stuck => .stuck
@[simp] theorem Res.bind_ok {σ α β : Type} (a : α) (t : σ) (k : α → σ → Res σ β) : (Res.ok a t).bind k = k a t := rfl
@[simp] theorem Res.bind_exc {σ α β : Type} (x : Xc) (t : σ) (k : α → σ → Res σ β) : (Res.exc x t).bind k = .exc x t := rfl
@[simp] theorem Res.bind_stuck {σ α β : Type} (k : α → σ → Res σ β) : (Res.stuck).bind k = .stuck := rfl
inductive Out where
  | nx | rt (d : D) | bk | ct
abbrev DE := DS → Res DS D
abbrev DA := DS → Res DS (List D)
abbrev DT := DS → Res DS Bool
abbrev DStm := DS → Res DS Out
abbrev DFn := List D → List Cell → Res (List Cell) D

/-! ### how data lie in the heap -/
structure Wd where
  F : Hp
  ρ : List Addr
structure Wd.le (w w' : Wd) : Prop where
  f : ∀ a o, w.F a = some o → w'.F a = some o
  r : w.ρ <+: w'.ρ
theorem Wd.le.refl (w : Wd) : w.le w := ⟨fun _ _ h => h, List.prefix_refl _⟩
theorem Wd.le.trans {a b c : Wd} (h : a.le b) (k : b.le c) : a.le c := ⟨fun x o e => k.f x o (h.f x o e), h.r.trans k.r⟩
structure Gam where
  K : PySem.W.Frag
  ct : String → Option Addr
  ft : String → Option Addr
  lam : String → Addr → Wd → Prop := fun _ _ _ => False
  lamM : ∀ (k : String) (f : Addr) (w w' : Wd), w.le w' → lam k f w → lam k f w' := by (intros; assumption)
  tab : String → Addr → Hp → HO → Prop := fun _ _ _ _ => False
  tabM : ∀ (k : String) (a : Addr) (F F' : Hp) (o : HO), (∀ a o, F a = some o → F' a = some o) → tab k a F o → tab k a F' o := by (intros; assumption)
def dkey : DK → Key
  | .i n => .inl n
  | .s l => .inr (nm l)
mutual
inductive Rep (G : Gam) (w : Wd) : V → D → Prop
  | non : Rep G w .non .non
  | bl (b : Bool) : Rep G w (.bl b) (.bl b)
  | int (i : Int) : Rep G w (.int i) (.int i)
  | str (l : List Nat) : Rep G w (.str (nm l)) (.str l)
  | tup {a : Addr} {vs : List V} {ds : List D} : SqT G.K w.F a vs → Reps G w vs ds → Rep G w (.ref a) (.tup ds)
  | lst {a : Addr} {vs : List V} {ds : List D} : w.F a = some (.lst vs) → Reps G w vs ds → Rep G w (.ref a) (.lst ds)
  | scr {a : Addr} {vs : List V} {ds : List D} : SqL G.K w.F a vs → Reps G w vs ds → Rep G w (.ref a) (.scr ds)
  | dic {a : Addr} {vs : List (Key × V)} {ds : List (DK × D)} : w.F a = some (.dK vs) → RepK G w vs ds → Rep G w (.ref a) (.dic ds)
  | ins {a C dx : Addr} {c : String} {vs : List (Str × V)} {ds : List (Nm × D)} : G.ct c = some C → w.F a = some (.ins C dx vs) → RepF G w vs ds → Rep G w (.ref a) (.ins c ds)
  | cell {a : Addr} {n : Nat} : w.ρ[n]? = some a → Rep G w (.ref a) (.cell n)
  | cls {C : Addr} {c : String} : G.ct c = some C → Rep G w (.ref C) (.cls c)
  | ty (n : String) : Rep G w (.ty n) (.ty n)
  | fn {a : Addr} {f : String} : G.ft f = some a → Rep G w (.ref a) (.fn f)
  | lam {f : Addr} {k : String} : G.lam k f w → Rep G w (.ref f) (.lam k)
inductive Reps (G : Gam) (w : Wd) : List V → List D → Prop
  | nil : Reps G w [] []
  | cons {v : V} {d : D} {vs : List V} {ds : List D} : Rep G w v d → Reps G w vs ds → Reps G w (v :: vs) (d :: ds)
inductive RepF (G : Gam) (w : Wd) : List (Str × V) → List (Nm × D) → Prop
  | nil : RepF G w [] []
  | cons {f : Nm} {v : V} {d : D} {vs : List (Str × V)} {ds : List (Nm × D)} : Rep G w v d → RepF G w vs ds → RepF G w ((nm f, v) :: vs) ((f, d) :: ds)
inductive RepK (G : Gam) (w : Wd) : List (Key × V) → List (DK × D) → Prop
  | nil : RepK G w [] []
  | cons {k : DK} {v : V} {d : D} {vs : List (Key × V)} {ds : List (DK × D)} : Rep G w v d → RepK G w vs ds → RepK G w ((dkey k, v) :: vs) ((k, d) :: ds)
end
theorem SqT.le {K : PySem.W.Frag} {F F' : Hp} {a : Addr} {xs : List V} (h : SqT K F a xs) (e : ∀ a o, F a = some o → F' a = some o) : SqT K F' a xs := by
  rcases h with (h | ⟨o, h⟩) | h
  · exact .inl (.inl (e _ _ h))
  · exact .inl (.inr ⟨o, e _ _ h⟩)
  · exact .inr h
theorem SqL.le {K : PySem.W.Frag} {F F' : Hp} {a : Addr} {xs : List V} (h : SqL K F a xs) (e : ∀ a o, F a = some o → F' a = some o) : SqL K F' a xs := by
  rcases h with (h | ⟨o, h⟩) | h
  · exact .inl (.inl (e _ _ h))
  · exact .inl (.inr ⟨o, e _ _ h⟩)
  · exact .inr h
theorem pre_get {α : Type} {l l' : List α} {n : Nat} {x : α} (h : l <+: l') (e : l[n]? = some x) : l'[n]? = some x := by
  obtain ⟨r, rfl⟩ := h
  rw [List.getElem?_append_left (by exact (List.getElem?_eq_some_iff.mp e).1)]
  exact e
mutual
theorem Rep.mono {G : Gam} {w w' : Wd} (h : w.le w') : ∀ {v : V} {d : D}, Rep G w v d → Rep G w' v d
  | _, _, .non => .non
  | _, _, .bl b => .bl b
  | _, _, .int i => .int i
  | _, _, .str l => .str l
  | _, _, .tup a b => .tup (SqT.le a h.f) (Reps.mono h b)
  | _, _, .lst a b => .lst (h.f _ _ a) (Reps.mono h b)
  | _, _, .scr a b => .scr (SqL.le a h.f) (Reps.mono h b)
  | _, _, .dic a b => .dic (h.f _ _ a) (RepK.mono h b)
  | _, _, .ins c a b => .ins c (h.f _ _ a) (RepF.mono h b)
  | _, _, .cell a => .cell (pre_get h.r a)
  | _, _, .cls a => .cls a
  | _, _, .ty n => .ty n
  | _, _, .fn a => .fn a
  | _, _, .lam a => .lam (G.lamM _ _ _ _ h a)
theorem Reps.mono {G : Gam} {w w' : Wd} (h : w.le w') : ∀ {v : List V} {d : List D}, Reps G w v d → Reps G w' v d
  | _, _, .nil => .nil
  | _, _, .cons a b => .cons (Rep.mono h a) (Reps.mono h b)
theorem RepF.mono {G : Gam} {w w' : Wd} (h : w.le w') : ∀ {v : List (Str × V)} {d : List (Nm × D)}, RepF G w v d → RepF G w' v d
  | _, _, .nil => .nil
  | _, _, .cons a b => .cons (Rep.mono h a) (RepF.mono h b)
theorem RepK.mono {G : Gam} {w w' : Wd} (h : w.le w') : ∀ {v : List (Key × V)} {d : List (DK × D)}, RepK G w v d → RepK G w' v d
  | _, _, .nil => .nil
  | _, _, .cons a b => .cons (Rep.mono h a) (RepK.mono h b)
end
theorem Reps.length {G : Gam} {w : Wd} : ∀ {v : List V} {d : List D}, Reps G w v d → v.length = d.length
  | _, _, .nil => rfl
  | _, _, .cons _ b => by rw [List.length_cons, List.length_cons, Reps.length b]
theorem Reps.get {G : Gam} {w : Wd} : ∀ {v : List V} {d : List D} {i : Nat} {x : D}, Reps G w v d → d[i]? = some x → ∃ y, v[i]? = some y ∧ Rep G w y x
  | _, _, _, _, .nil, e => by simp at e
  | _, _, 0, _, .cons a _, e => by simp at e; subst e; exact ⟨_, rfl, a⟩
  | _, _, i + 1, x, .cons _ b, e => by
    obtain ⟨y, h1, h2⟩ := Reps.get (i := i) (x := x) b (by simpa using e)
    exact ⟨y, by simpa using h1, h2⟩
theorem Reps.append {G : Gam} {w : Wd} : ∀ {v v' : List V} {d d' : List D}, Reps G w v d → Reps G w v' d' → Reps G w (v ++ v') (d ++ d')
  | _, _, _, _, .nil, h => h
  | _, _, _, _, .cons a b, h => .cons a (Reps.append b h)
theorem Reps.set {G : Gam} {w : Wd} {x : V} {y : D} (r : Rep G w x y) : ∀ {v : List V} {d : List D} (i : Nat), Reps G w v d → Reps G w (v.set i x) (d.set i y)
  | _, _, _, .nil => .nil
  | _, _, 0, .cons _ b => .cons r b
  | _, _, i + 1, .cons a b => .cons a (Reps.set r i b)
theorem Reps.drop {G : Gam} {w : Wd} : ∀ {v : List V} {d : List D} (n : Nat), Reps G w v d → Reps G w (v.drop n) (d.drop n)
  | _, _, 0, r => r
  | _, _, _ + 1, .nil => .nil
  | _, _, n + 1, .cons _ t => Reps.drop n t
theorem Reps.take {G : Gam} {w : Wd} : ∀ {v : List V} {d : List D} (n : Nat), Reps G w v d → Reps G w (v.take n) (d.take n)
  | _, _, 0, _ => .nil
  | _, _, _ + 1, .nil => .nil
  | _, _, n + 1, .cons r t => .cons r (Reps.take n t)
theorem Reps.ints {G : Gam} {w : Wd} : ∀ {v : List V} {ns : List Int}, Reps G w v (ns.map D.int) → v = ns.map V.int
  | _, [], h => by cases h; rfl
  | _, n :: ns, h => by
    cases h with
    | cons a b => cases a; rw [Reps.ints b]; rfl
theorem Reps.of_ints {G : Gam} {w : Wd} : ∀ ns : List Int, Reps G w (ns.map V.int) (ns.map D.int)
  | [] => .nil
  | n :: ns => .cons (.int n) (Reps.of_ints ns)
theorem RepF.look {G : Gam} {w : Wd} : ∀ {v : List (Str × V)} {d : List (Nm × D)} {f : Nm} {x : D}, RepF G w v d → d.lookup f = some x → ∃ y, v.lookup (nm f) = some y ∧ Rep G w y x
  | _, _, _, _, .nil, e => by simp at e
  | _, _, f, x, .cons (f := g) a b, e => by
    by_cases h : f = g
    · subst h
      rw [List.lookup_cons_self] at e
      cases e
      exact ⟨_, List.lookup_cons_self, a⟩
    · have h1 : (f == g) = false := beq_eq_false_iff_ne.mpr h
      have h2 : (nm f == nm g) = false := beq_eq_false_iff_ne.mpr fun q => h (nm_inj q)
      simp only [List.lookup_cons, h1] at e
      obtain ⟨y, q1, q2⟩ := RepF.look b e
      exact ⟨y, by simp only [List.lookup_cons, h2]; exact q1, q2⟩
theorem RepF.none {G : Gam} {w : Wd} : ∀ {v : List (Str × V)} {d : List (Nm × D)} {f : Nm}, RepF G w v d → d.lookup f = none → v.lookup (nm f) = none
  | _, _, _, .nil, e => rfl
  | _, _, f, .cons (f := g) a b, e => by
    by_cases h : f = g
    · subst h
      rw [List.lookup_cons_self] at e
      cases e
    · have h1 : (f == g) = false := beq_eq_false_iff_ne.mpr h
      have h2 : (nm f == nm g) = false := beq_eq_false_iff_ne.mpr fun q => h (nm_inj q)
      simp only [List.lookup_cons, h1] at e
      simp only [List.lookup_cons, h2]
      exact RepF.none b e
theorem RepF.length {G : Gam} {w : Wd} : ∀ {v : List (Str × V)} {d : List (Nm × D)}, RepF G w v d → v.length = d.length
  | _, _, .nil => rfl
  | _, _, .cons _ b => by rw [List.length_cons, List.length_cons, RepF.length b]
def putN (f : Nm) (x : D) : List (Nm × D) → List (Nm × D)
  | [] => [(f, x)]
  | (g, y) :: r => if g = f then (f, x) :: r else (g, y) :: putN f x r
/-! ### the store, the slots -/
def CellOk (G : Gam) (w : Wd) (H : Hp) (a : Addr) : Cell → Prop
  | .dic kvs => ∃ vs, H a = some (.dK vs) ∧ RepK G w vs kvs
  | .lst xs => ∃ vs, H a = some (.lst vs) ∧ Reps G w vs xs
  | .obj c fs => ∃ C dx vs, G.ct c = some C ∧ H a = some (.ins C dx vs) ∧ RepF G w vs fs
  | .tab k => ∃ o, H a = some o ∧ G.tab k a w.F o
structure FOk (G : Gam) (w : Wd) (S : List Cell) (H : Hp) : Prop where
  sub : ∀ a o, w.F a = some o → H a = some o
  len : w.ρ.length = S.length
  cel : ∀ (n : Nat) (a : Addr) (c : Cell), w.ρ[n]? = some a → S[n]? = some c → CellOk G w H a c
  nd : w.ρ.Nodup
  nf : ∀ a, a ∈ w.ρ → w.F a = none
theorem CellOk.there {G : Gam} {w : Wd} {H : Hp} {a : Addr} {c : Cell} (h : CellOk G w H a c) : ∃ o, H a = some o := by
  cases c with
  | dic kvs => obtain ⟨_, h, _⟩ := h; exact ⟨_, h⟩
  | lst xs => obtain ⟨_, h, _⟩ := h; exact ⟨_, h⟩
  | obj c fs => obtain ⟨_, _, _, _, h, _⟩ := h; exact ⟨_, h⟩
  | tab k => obtain ⟨_, h, _⟩ := h; exact ⟨_, h⟩
theorem CellOk.mono {G : Gam} {w w' : Wd} {H H' : Hp} {a : Addr} {c : Cell} (h : CellOk G w H a c) (le : w.le w') (e : H' a = H a) : CellOk G w' H' a c := by
  cases c with
  | dic kvs => obtain ⟨_, h, r⟩ := h; exact ⟨_, e.trans h, r.mono le⟩
  | lst xs => obtain ⟨_, h, r⟩ := h; exact ⟨_, e.trans h, r.mono le⟩
  | obj c fs => obtain ⟨_, _, _, q, h, r⟩ := h; exact ⟨_, _, _, q, e.trans h, r.mono le⟩
  | tab k => obtain ⟨_, h, r⟩ := h; exact ⟨_, e.trans h, G.tabM _ _ _ _ _ le.f r⟩
theorem FOk.rho {G : Gam} {w : Wd} {S : List Cell} {H : Hp} (h : FOk G w S H) {a : Addr} (ha : a ∈ w.ρ) : ∃ o, H a = some o := by
  obtain ⟨n, hn, e⟩ := List.getElem_of_mem ha
  have h1 : w.ρ[n]? = some a := by rw [List.getElem?_eq_getElem hn, e]
  have h2 : n < S.length := by rw [← h.len]; exact hn
  exact (h.cel n a _ h1 (List.getElem?_eq_getElem h2)).there
/-- from one state to a later one: what may have changed -/
structure Nx (w : Wd) (H : Hp) (w' : Wd) (H' : Hp) : Prop where
  le : w.le w'
  keep : ∀ a o, H a = some o → a ∉ w.ρ → H' a = some o
  newF : ∀ a, w'.F a ≠ none → w.F a ≠ none ∨ H a = none
  newR : ∀ a, a ∈ w'.ρ → a ∈ w.ρ ∨ H a = none
theorem Nx.refl (w : Wd) (H : Hp) : Nx w H w H := ⟨.refl w, fun _ _ h _ => h, fun _ h => .inl h, fun _ h => .inl h⟩
theorem Nx.trans {G : Gam} {w w1 w2 : Wd} {H H1 H2 : Hp} {S1 : List Cell} (a : Nx w H w1 H1) (f : FOk G w1 S1 H1) (b : Nx w1 H1 w2 H2) : Nx w H w2 H2 := by
  have back : ∀ x, H1 x = none → H x = none := fun x h => by
    cases e : H x with
    | none => rfl
    | some o =>
      by_cases hx : x ∈ w.ρ
      · obtain ⟨o', q⟩ := f.rho (a.le.r.subset hx)
        rw [q] at h; cases h
      · rw [a.keep x o e hx] at h; cases h
  refine ⟨a.le.trans b.le, fun x o e n => ?_, fun x h => ?_, fun x h => ?_⟩
  · refine b.keep x o (a.keep x o e n) fun q => ?_
    rcases a.newR x q with z | z
    · exact n z
    · rw [z] at e; cases e
  · rcases b.newF x h with z | z
    · exact a.newF x z
    · exact .inr (back x z)
  · rcases b.newR x h with z | z
    · exact a.newR x z
    · exact .inr (back x z)
def OwnOk (G : Gam) (w : Wd) (H : Hp) (a : Addr) : Sl → Prop
  | .ol xs => ∃ vs, H a = some (.lst vs) ∧ Reps G w vs xs
  | .od kvs => ∃ vs, H a = some (.dK vs) ∧ RepK G w vs kvs
  | .oi c fs => ∃ C dx vs, G.ct c = some C ∧ H a = some (.ins C dx vs) ∧ RepF G w vs fs
  | _ => False
/-- a frame's base: the world and the heap at its entry; objects that are set apart -/
structure Bs where
  B : Wd
  H : Hp
  γ : List (Addr × HO)
  me : Option Addr
/-- the state of a frame -/
structure Ok (G : Gam) (κ : Bs) (w : Wd) (s : DS) (σ : L2.St) (H : Hp) : Prop where
  fok : FOk G w s.st H
  nx : Nx κ.B κ.H w H
  len : s.sl.length = σ.length
  val : ∀ (i : Nat) (d : D), s.sl[i]? = some (.val d) → ∃ v, σ[i]? = some (some v) ∧ Rep G w v d
  own : ∀ (i : Nat) (x : Sl), s.sl[i]? = some x → x.own = true → ∃ a, σ[i]? = some (some (.ref a)) ∧ OwnOk G w H a x ∧ w.F a = none ∧ a ∉ w.ρ ∧ κ.H a = none
  ne : ∀ (i j : Nat) (x y : Sl) (a : Addr), s.sl[i]? = some x → s.sl[j]? = some y → x.own = true → y.own = true → σ[i]? = some (some (.ref a)) → σ[j]? = some (some (.ref a)) → i = j
  gam : ∀ p ∈ κ.γ, H p.1 = some p.2 ∧ w.F p.1 = none ∧ p.1 ∉ w.ρ ∧ κ.H p.1 = none ∧ ∀ (i : Nat) (x : Sl), s.sl[i]? = some x → x.own = true → σ[i]? ≠ some (some (.ref p.1))
  me : ∀ a, κ.me = some a → ∀ c fs, s.sl[0]? = some (.oi c fs) → σ[0]? = some (some (.ref a))
theorem OwnOk.there {G : Gam} {w : Wd} {H : Hp} {a : Addr} {c : Sl} (h : OwnOk G w H a c) : ∃ o, H a = some o := by
  cases c with
  | ol xs => obtain ⟨_, h, _⟩ := h; exact ⟨_, h⟩
  | od xs => obtain ⟨_, h, _⟩ := h; exact ⟨_, h⟩
  | oi c fs => obtain ⟨_, _, _, _, h, _⟩ := h; exact ⟨_, h⟩
  | un => exact h.elim
  | val _ => exact h.elim
theorem OwnOk.mono {G : Gam} {w w' : Wd} {H H' : Hp} {a : Addr} {c : Sl} (h : OwnOk G w H a c) (le : w.le w') (e : H' a = H a) : OwnOk G w' H' a c := by
  cases c with
  | ol xs => obtain ⟨_, h, r⟩ := h; exact ⟨_, e.trans h, r.mono le⟩
  | od xs => obtain ⟨_, h, r⟩ := h; exact ⟨_, e.trans h, r.mono le⟩
  | oi c fs => obtain ⟨_, _, _, q, h, r⟩ := h; exact ⟨_, _, _, q, e.trans h, r.mono le⟩
  | un => exact h.elim
  | val _ => exact h.elim
section
variable {G : Gam} {κ : Bs} {w w' : Wd} {s : DS} {σ : L2.St} {H H' : Hp} {S' : List Cell}
/-- a step that leaves the slots as they are -/
theorem Ok.step (h : Ok G κ w s σ H) (n : Nx w H w' H') (f : FOk G w' S' H') : Ok G κ w' ⟨s.sl, S'⟩ σ H' := by
  have nF : ∀ a o, H a = some o → w.F a = none → w'.F a = none := fun a ob he h3 => by
    cases q : w'.F a with
    | none => rfl
    | some o =>
      rcases n.newF a (by rw [q]; exact fun z => nomatch z) with z | z
      · exact absurd h3 z
      · rw [he] at z; cases z
  have nR : ∀ a o, H a = some o → a ∉ w.ρ → a ∉ w'.ρ := fun a ob he h4 q => by
    rcases n.newR a q with z | z
    · exact h4 z
    · rw [he] at z; cases z
  refine ⟨f, h.nx.trans h.fok n, h.len, fun i d e => ?_, fun i x e o => ?_, h.ne, fun p hp => ?_, h.me⟩
  · obtain ⟨v, h1, h2⟩ := h.val i d e
    exact ⟨v, h1, h2.mono n.le⟩
  · obtain ⟨a, h1, h2, h3, h4, h5⟩ := h.own i x e o
    obtain ⟨ob, he⟩ := h2.there
    exact ⟨a, h1, h2.mono n.le ((n.keep a ob he h4).trans he.symm), nF a ob he h3, nR a ob he h4, h5⟩
  · obtain ⟨h1, h2, h3, h4, h5⟩ := h.gam p hp
    exact ⟨n.keep _ _ h1 h3, nF _ _ h1 h2, nR _ _ h1 h3, h4, h5⟩
/-- a new frozen object -/
theorem FOk.alloc {S : List Cell} (h : FOk G w S H) {p : Addr} (hp : H p = none) (o : HO) : FOk G ⟨upd w.F p o, w.ρ⟩ S (upd H p o) ∧ Nx w H ⟨upd w.F p o, w.ρ⟩ (upd H p o) := by
  have le : w.le ⟨upd w.F p o, w.ρ⟩ := ⟨fun a u e => by
    show upd w.F p o a = some u
    rw [upd_ne (ne_of_none (h.sub a u e) hp)]
    exact e, List.prefix_refl _⟩
  have np : p ∉ w.ρ := fun q => by
    obtain ⟨o, e⟩ := h.rho q
    rw [hp] at e; cases e
  refine ⟨⟨fun a u e => ?_, h.len, fun n a c e1 e2 => ?_, h.nd, fun a ha => ?_⟩, ⟨le, fun a u e _ => ?_, fun a q => ?_, fun a q => .inl q⟩⟩
  · by_cases z : a = p
    · subst z
      have e : upd w.F a o a = some u := e
      rw [upd_same] at e ⊢
      exact e
    · have e : upd w.F p o a = some u := e
      rw [upd_ne z] at e ⊢
      exact h.sub a u e
  · refine (h.cel n a c e1 e2).mono le (upd_ne fun z => ?_)
    subst z
    exact np (List.mem_of_getElem? e1)
  · show upd w.F p o a = none
    rw [upd_ne (show a ≠ p from fun z => np (by rw [← z]; exact ha))]
    exact h.nf a ha
  · rw [upd_ne (ne_of_none e hp)]
    exact e
  · by_cases z : a = p
    · subst z; exact .inr hp
    · have q : upd w.F p o a ≠ none := q
      rw [upd_ne z] at q
      exact .inl q
theorem Ok.alloc (h : Ok G κ w s σ H) {p : Addr} (hp : H p = none) (o : HO) : w.le ⟨upd w.F p o, w.ρ⟩ ∧ Ok G κ ⟨upd w.F p o, w.ρ⟩ s σ (upd H p o) := by
  obtain ⟨f, n⟩ := h.fok.alloc hp o
  exact ⟨n.le, h.step n f⟩
end
end DL
set_option maxRecDepth 100000
set_option maxHeartbeats 4000000
set_option autoImplicit false
namespace DL
open PySem PySem.Spec PyProof.Rows L2
/-! ### what is wanted behind a piece of code -/
def RepX (G : Gam) (w : Wd) (c : Value) (dd : Option Addr) (x : Xc) : Prop :=
  ∃ C, G.ct x.cls = some C ∧ c = .ref C ∧ ((x.fs = [] ∧ dd = none) ∨ ∃ a vs, dd = some a ∧ w.F a = some (.xd vs) ∧ RepF G w vs x.fs)
section
variable (G : Gam) (W : WX)
def PostG {α β : Type} (rep : Wd → β → α → Prop) (κ : Bs) (w : Wd) (σ : L2.St) (r : Res DS α) (Q : β → Hp → Prop) : Prop := match r with
  | .ok d s' => ∀ w' v H', w.le w' → Ok G κ w' s' σ H' → rep w' v d → Q v H'
  | .exc x s' => ∀ w' c dd H', w.le w' → Ok G κ w' s' σ H' → RepX G w' c dd x → W c dd σ H'
  | .stuck => False
def tD (f : DE) : TE := fun σ H Q => ∃ κ w s, Ok G κ w s σ H ∧ PostG G W (Rep G) κ w σ (f s) Q
def tDT (f : DT) : TT := fun σ H Q => ∃ κ w s, Ok G κ w s σ H ∧ PostG G W (fun _ (v : Bool) d => v = d) κ w σ (f s) Q
def tDA (f : DA) : TA := fun σ H Q => ∃ κ w s, Ok G κ w s σ H ∧ PostG G W (Reps G) κ w σ (f s) Q
def PostS (κ : Bs) (w : Wd) (r : Res DS Out) (N : Ends) : Prop := match r with
  | .ok .nx s' => ∀ w' σ' H', w.le w' → Ok G κ w' s' σ' H' → N.nx σ' H'
  | .ok .bk s' => ∀ w' σ' H', w.le w' → Ok G κ w' s' σ' H' → N.bk σ' H'
  | .ok .ct s' => ∀ w' σ' H', w.le w' → Ok G κ w' s' σ' H' → N.ct σ' H'
  | .ok (.rt d) s' => ∀ w' σ' v H', w.le w' → Ok G κ w' s' σ' H' → Rep G w' v d → N.rt v H'
  | .exc x s' => ∀ w' σ' c dd H', w.le w' → Ok G κ w' s' σ' H' → RepX G w' c dd x → W c dd σ' H'
  | .stuck => False
def tDS (f : DStm) : TS := fun N σ H => ∃ κ w s, Ok G κ w s σ H ∧ PostS G W κ w (f s) N
end
section
variable {G : Gam} {W : WX} {α β γ δ : Type} {rep : Wd → β → α → Prop} {rep' : Wd → δ → γ → Prop} {κ : Bs} {w w1 : Wd} {σ : L2.St}
theorem PostG.mono {r : Res DS α} {Q : β → Hp → Prop} (le : w.le w1) (h : PostG G W rep κ w σ r Q) : PostG G W rep κ w1 σ r Q := by
  cases r with
  | ok d s' => exact fun w' v H' l o r => h w' v H' (le.trans l) o r
  | exc x s' => exact fun w' c dd H' l o r => h w' c dd H' (le.trans l) o r
  | stuck => exact h
theorem PostG.imp {r : Res DS α} {Q Q' : β → Hp → Prop} (h : PostG G W rep κ w σ r Q) (k : ∀ v H, Q v H → Q' v H) : PostG G W rep κ w σ r Q' := by
  cases r with
  | ok d s' => exact fun w' v H' l o r => k _ _ (h w' v H' l o r)
  | exc x s' => exact h
  | stuck => exact h
/-- behind the first of two -/
theorem PostG.bind {r : Res DS α} {k : α → DS → Res DS γ} {Q : δ → Hp → Prop} (h : PostG G W rep' κ w σ (r.bind k) Q) :
    PostG G W rep κ w σ r (fun v H1 => ∃ d s1 w1, w.le w1 ∧ Ok G κ w1 s1 σ H1 ∧ rep w1 v d ∧ PostG G W rep' κ w1 σ (k d s1) Q) := by
  cases r with
  | ok d s' => exact fun w' v H' l o r => ⟨d, s', w', l, o, r, PostG.mono l h⟩
  | exc x s' => exact h
  | stuck => exact h
theorem PostS.mono {r : Res DS Out} {N : Ends} (le : w.le w1) (h : PostS G W κ w r N) : PostS G W κ w1 r N := by
  cases r with
  | ok o s' =>
    cases o with
    | nx => exact fun w' σ' H' l o => h w' σ' H' (le.trans l) o
    | bk => exact fun w' σ' H' l o => h w' σ' H' (le.trans l) o
    | ct => exact fun w' σ' H' l o => h w' σ' H' (le.trans l) o
    | rt d => exact fun w' σ' v H' l o r => h w' σ' v H' (le.trans l) o r
  | exc x s' => exact fun w' σ' c dd H' l o r => h w' σ' c dd H' (le.trans l) o r
  | stuck => exact h
/-- an expression, then a statement's end -/
theorem PostG.bindS {r : Res DS α} {k : α → DS → Res DS Out} {N : Ends} (h : PostS G W κ w (r.bind k) N) :
    PostG G W rep κ w σ r (fun v H1 => ∃ d s1 w1, w.le w1 ∧ Ok G κ w1 s1 σ H1 ∧ rep w1 v d ∧ PostS G W κ w1 (k d s1) N) := by
  cases r with
  | ok d s' => exact fun w' v H' l o r => ⟨d, s', w', l, o, r, PostS.mono l h⟩
  | exc x s' => exact fun w' c dd H' l o r => h w' σ c dd H' l o r
  | stuck => exact h
end
theorem _root_.L2.PE.imp {X : Cx} {e : Expr} {t t' : TE} (h : PE X e t) (k : ∀ σ H Q, t' σ H Q → t σ H Q) : PE X e t' := ⟨fun pins s σ H Q I q => h.run pins s σ H Q I (k σ H Q q)⟩
theorem _root_.L2.PT.imp {X : Cx} {e : Expr} {t t' : TT} (h : PT X e t) (k : ∀ σ H Q, t' σ H Q → t σ H Q) : PT X e t' := ⟨fun pins s σ H Q I q => h.run pins s σ H Q I (k σ H Q q)⟩
theorem _root_.L2.PA.imp {X : Cx} {e : List Expr} {t t' : TA} (h : PA X e t) (k : ∀ σ H Q, t' σ H Q → t σ H Q) : PA X e t' := ⟨fun pos pins s σ H Q I q => h.run pos pins s σ H Q I (k σ H Q q)⟩
theorem _root_.L2.PS.imp {X : Cx} {e : Stmt} {t t' : TS} (h : PS X e t) (k : ∀ D σ H, t' D σ H → t D σ H) : PS X e t' := ⟨fun pins s σ H D I q => h.run pins s σ H D I (k D σ H q)⟩
theorem _root_.L2.PSs.imp {X : Cx} {e : List Stmt} {t t' : TS} (h : PSs X e t) (k : ∀ D σ H, t' D σ H → t D σ H) : PSs X e t' := ⟨fun pins s σ H D I q => h.run pins s σ H D I (k D σ H q)⟩
abbrev PD (G : Gam) (W : WX) (X : Cx) (e : Expr) (f : DE) : Prop := PE X e (tD G W f)
abbrev PDT (G : Gam) (W : WX) (X : Cx) (e : Expr) (f : DT) : Prop := PT X e (tDT G W f)
abbrev PDA (G : Gam) (W : WX) (X : Cx) (es : List Expr) (f : DA) : Prop := PA X es (tDA G W f)
abbrev PDS (G : Gam) (W : WX) (X : Cx) (st : Stmt) (f : DStm) : Prop := PS X st (tDS G W f)
abbrev PDSs (G : Gam) (W : WX) (X : Cx) (st : List Stmt) (f : DStm) : Prop := PSs X st (tDS G W f)
section
variable {G : Gam} {W : WX} {X : Cx}
/-! ### constants, names -/
def eC (d : D) : DE := fun s => .ok d s
theorem pd_c {e : Expr} {v : V} {d : D} (h : PE X e (tC v)) (r : ∀ w, Rep G w v d) : PD G W X e (eC d) :=
  h.imp fun σ H Q ⟨κ, w, s, ok, q⟩ => q w v H (.refl w) ok (r w)
theorem pd_int {i : Int} {j : Nat} {pos : Pos} : PD G W X (.Constant (.int i) j pos) (eC (.int i)) := pd_c pe_int fun _ => .int i
theorem pd_bl {b : Bool} {j : Nat} {pos : Pos} : PD G W X (.Constant (.bool b) j pos) (eC (.bl b)) := pd_c pe_bl fun _ => .bl b
theorem pd_non {j : Nat} {pos : Pos} : PD G W X (.Constant .none j pos) (eC .non) := pd_c pe_non fun _ => .non
theorem pd_str {x : Str} {l : Nm} {j : Nat} {pos : Pos} (h : x = nm l) : PD G W X (.Constant (.str x) j pos) (eC (.str l)) := pd_c pe_str fun _ => by rw [h]; exact .str l
theorem pd_glob {x : Str} {v : V} {u : Value} {d : D} {pos : Pos} (hg : Gl X x) (hm : X.mg x = some u) (r : RelV v u) (rd : ∀ w, Rep G w v d) (hd : (x == ("__debug__" : Str)) = false := by decide) : PD G W X (.Name x pos) (eC d) :=
  pd_c (pe_glob hg hm r hd) rd
def eVar (i : Nat) : DE := fun s => match s.sl[i]? with
  | some (.val d) => .ok d s
  | some (.ol xs) => .ok (.lst xs) ⟨s.sl.set i (.val (.lst xs)), s.st⟩
  | some (.od kvs) => .ok (.dic kvs) ⟨s.sl.set i (.val (.dic kvs)), s.st⟩
  | some (.oi c fs) => .ok (.ins c fs) ⟨s.sl.set i (.val (.ins c fs)), s.st⟩
  | _ => .stuck
theorem Ok.freeze {κ : Bs} {w : Wd} {s : DS} {σ : L2.St} {H : Hp} (h : Ok G κ w s σ H) {i : Nat} {x : Sl} {a : Addr} {o : HO} {d : D} (hx : s.sl[i]? = some x) (own : x.own = true) (ha : σ[i]? = some (some (.ref a)))
    (ho : H a = some o) (hd : ∀ w' : Wd, w.le w' → w'.F a = some o → Rep G w' (.ref a) d) :
    w.le ⟨upd w.F a o, w.ρ⟩ ∧ Ok G κ ⟨upd w.F a o, w.ρ⟩ ⟨s.sl.set i (.val d), s.st⟩ σ H := by
  obtain ⟨a', h1, h2, h3, h4, h5⟩ := h.own i x hx own
  rw [ha] at h1
  cases h1
  have le : w.le ⟨upd w.F a o, w.ρ⟩ := ⟨fun b u e => by
    show upd w.F a o b = some u
    rw [upd_ne (ne_of_none e h3)]
    exact e, List.prefix_refl _⟩
  have hil : i < s.sl.length := (List.getElem?_eq_some_iff.mp hx).1
  have sub : ∀ (b : Addr) (u : HO), upd w.F a o b = some u → H b = some u := fun b u e => by
    by_cases z : b = a
    · subst z
      rw [upd_same] at e
      cases e
      exact ho
    · rw [upd_ne z] at e
      exact h.fok.sub b u e
  have fok : FOk G ⟨upd w.F a o, w.ρ⟩ s.st H := ⟨sub, h.fok.len, fun n b c e1 e2 => (h.fok.cel n b c e1 e2).mono le rfl, h.fok.nd, fun b hb => by
    show upd w.F a o b = none
    rw [upd_ne (show b ≠ a from fun z => h4 (by rw [← z]; exact hb))]
    exact h.fok.nf b hb⟩
  refine ⟨le, ⟨fok, ⟨h.nx.le.trans le, h.nx.keep, fun b q => ?_, h.nx.newR⟩, by rw [List.length_set]; exact h.len, fun j e hj => ?_, fun j y hj oy => ?_, fun j k y z b hj hk oy oz e1 e2 => ?_, fun p hp => ?_, fun b hb c fs e => ?_⟩⟩
  · by_cases z : b = a
    · subst z; exact .inr h5
    · have q : upd w.F a o b ≠ none := q
      rw [upd_ne z] at q
      exact h.nx.newF b q
  · by_cases z : j = i
    · subst z
      rw [List.getElem?_set_self hil] at hj
      cases hj
      exact ⟨_, ha, hd _ le upd_same⟩
    · rw [List.getElem?_set_ne (Ne.symm z)] at hj
      obtain ⟨v, q1, q2⟩ := h.val j e hj
      exact ⟨v, q1, q2.mono le⟩
  · by_cases z : j = i
    · subst z
      rw [List.getElem?_set_self hil] at hj
      cases hj
      cases oy
    · rw [List.getElem?_set_ne (Ne.symm z)] at hj
      obtain ⟨b, q1, q2, q3, q4, q5⟩ := h.own j y hj oy
      refine ⟨b, q1, q2.mono le rfl, ?_, q4, q5⟩
      show upd w.F a o b = none
      rw [upd_ne (show b ≠ a from fun e => z (h.ne j i y x b hj hx oy own q1 (by rw [e]; exact ha)))]
      exact q3
  · have nj : j ≠ i := fun z => by
      subst z
      rw [List.getElem?_set_self hil] at hj
      cases hj
      cases oy
    have nk : k ≠ i := fun z => by
      subst z
      rw [List.getElem?_set_self hil] at hk
      cases hk
      cases oz
    rw [List.getElem?_set_ne (Ne.symm nj)] at hj
    rw [List.getElem?_set_ne (Ne.symm nk)] at hk
    exact h.ne j k y z b hj hk oy oz e1 e2
  · obtain ⟨q1, q2, q3, q4, q5⟩ := h.gam p hp
    refine ⟨q1, ?_, q3, q4, fun j y hj oy => ?_⟩
    · show upd w.F a o p.1 = none
      rw [upd_ne (show p.1 ≠ a from fun e => q5 i x hx own (by rw [ha, e]))]
      exact q2
    · have nj : j ≠ i := fun z => by
        subst z
        rw [List.getElem?_set_self hil] at hj
        cases hj
        cases oy
      rw [List.getElem?_set_ne (Ne.symm nj)] at hj
      exact q5 j y hj oy
  · by_cases z : i = 0
    · subst z
      rw [List.getElem?_set_self hil] at e
      cases e
    · rw [List.getElem?_set_ne z] at e
      exact h.me b hb c fs e
theorem pd_var {i : Nat} {x : Str} {pos : Pos} (h : PE X (.Name x pos) (tVar i)) : PD G W X (.Name x pos) (eVar i) := h.imp fun σ H Q ⟨κ, w, s, ok, q⟩ => by
  unfold eVar at q
  cases e : s.sl[i]? with
  | none => rw [e] at q; exact q.elim
  | some x =>
    rw [e] at q
    cases x with
    | un => exact q.elim
    | val d =>
      obtain ⟨v, h1, h2⟩ := ok.val i d e
      exact ⟨v, h1, q w v H (.refl w) ok h2⟩
    | ol xs =>
      obtain ⟨a, h1, ⟨vs, h2, h3⟩, _⟩ := ok.own i _ e rfl
      obtain ⟨le, ok'⟩ := ok.freeze (d := .lst xs) e rfl h1 h2 fun w' l f => .lst f (h3.mono l)
      exact ⟨_, h1, q _ _ H le ok' (.lst upd_same (h3.mono le))⟩
    | od xs =>
      obtain ⟨a, h1, ⟨vs, h2, h3⟩, _⟩ := ok.own i _ e rfl
      obtain ⟨le, ok'⟩ := ok.freeze (d := .dic xs) e rfl h1 h2 fun w' l f => .dic f (h3.mono l)
      exact ⟨_, h1, q _ _ H le ok' (.dic upd_same (h3.mono le))⟩
    | oi c fs =>
      obtain ⟨a, h1, ⟨C, dx, vs, hC, h2, h3⟩, _⟩ := ok.own i _ e rfl
      obtain ⟨le, ok'⟩ := ok.freeze (d := .ins c fs) e rfl h1 h2 fun w' l f => .ins hC f (h3.mono l)
      exact ⟨_, h1, q _ _ H le ok' (.ins hC upd_same (h3.mono le))⟩
/-! ### operators -/
def eOp2 (o : D → D → Option D) (fa fb : DE) : DE := fun s => (fa s).bind fun x s1 => (fb s1).bind fun y s2 => match o x y with
  | some d => .ok d s2
  | none => .stuck
/-- an operator by data -/
def OpD (G : Gam) (X : Cx) (f : Value → Value → Sem Value) (o : D → D → Option D) : Prop := ∃ r, OpR X f r ∧ ∀ (κ : Bs) (w : Wd) (s : DS) (σ : L2.St) (H : Hp) (x y : V) (dx dy d : D) (Q : VK),
  Ok G κ w s σ H → Rep G w x dx → Rep G w y dy → o dx dy = some d → (∀ w' v H', w.le w' → Ok G κ w' s σ H' → Rep G w' v d → Q v H') → r x y H Q
theorem op2 {r : R2} {o : D → D → Option D} {fa fb : DE} {σ : L2.St} {H : Hp} {Q : VK}
    (hr : ∀ (κ : Bs) (w : Wd) (s : DS) (σ : L2.St) (H : Hp) (x y : V) (dx dy d : D) (Q : VK), Ok G κ w s σ H → Rep G w x dx → Rep G w y dy → o dx dy = some d → (∀ w' v H', w.le w' → Ok G κ w' s σ H' → Rep G w' v d → Q v H') → r x y H Q)
    (h : tD G W (eOp2 o fa fb) σ H Q) : tOp r (tD G W fa) (tD G W fb) σ H Q := by
  obtain ⟨κ, w, s, ok, q⟩ := h
  refine ⟨κ, w, s, ok, (PostG.bind q).imp fun v H1 ⟨d, s1, w1, le, ok1, r1, q1⟩ => ?_⟩
  refine ⟨κ, w1, s1, ok1, (PostG.bind q1).imp fun v2 H2 ⟨d2, s2, w2, le2, ok2, r2, q2⟩ => ?_⟩
  cases e : o d d2 with
  | none => rw [e] at q2; exact q2.elim
  | some z => rw [e] at q2; exact hr κ w2 s2 σ H2 v v2 d d2 z Q ok2 (r1.mono le2) r2 e q2
theorem pd_op {op : Operator} {o : D → D → Option D} {a b : Expr} {fa fb : DE} {pos : Pos} (ho : OpD G X (binaryOp op) o) (ha : PD G W X a fa) (hb : PD G W X b fb) : PD G W X (.BinOp a op b pos) (eOp2 o fa fb) := by
  obtain ⟨r, h1, h2⟩ := ho
  exact (pe_op h1 ha hb).imp fun σ H Q h => op2 h2 h
theorem pd_cmp {op : CmpOp} {o : D → D → Option D} {a b : Expr} {fa fb : DE} {pos : Pos} (ho : OpD G X (compareOp op) o) (ha : PD G W X a fa) (hb : PD G W X b fb) (hm : behindInMarks op b = false) : PD G W X (.Compare a [op] [b] pos) (eOp2 o fa fb) := by
  obtain ⟨r, h1, h2⟩ := ho
  exact (pe_cmpR h1 ha hb hm).imp fun σ H Q h => op2 h2 h
/-- a value that is a bool, as a test -/
def eB (f : DE) : DT := fun s => (f s).bind fun d s1 => match d with
  | .bl b => .ok b s1
  | _ => .stuck
theorem tB_of {f : DE} {σ : L2.St} {H : Hp} {Q : Bool → Hp → Prop} (h : tDT G W (eB f) σ H Q) : tD G W f σ H fun x H1 => ∃ c, x = .bl c ∧ Q c H1 := by
  obtain ⟨κ, w, s, ok, q⟩ := h
  refine ⟨κ, w, s, ok, (PostG.bind q).imp fun v H1 ⟨d, s1, w1, le, ok1, r1, q1⟩ => ?_⟩
  cases r1 with
  | bl b => exact ⟨b, rfl, q1 w1 b H1 (.refl _) ok1 rfl⟩
  | _ => exact q1.elim
theorem ptd_val {e : Expr} {f : DE} (h : PD G W X e f) (he : ∀ whole, isTrue e X.env whole = (do let v ← whole; standAt e.pos; holding [v] (truthy v)) := by intro _; rfl) : PDT G W X e (eB f) :=
  (pt_val h he).imp fun σ H Q q => tB_of q
theorem ptd_cmp {op : CmpOp} {o : D → D → Option D} {a b : Expr} {fa fb : DE} {pos : Pos} (ho : OpD G X (compareOp op) o) (ha : PD G W X a fa) (hb : PD G W X b fb) (hm : behindInMarks op b = false) : PDT G W X (.Compare a [op] [b] pos) (eB (eOp2 o fa fb)) := by
  obtain ⟨r, h1, h2⟩ := ho
  exact (pt_cmpR h1 ha hb hm).imp fun σ H Q h => op2 h2 (tB_of h)
/-! ### and, or, not, if -/
def bAnd (f g : DT) : DT := fun s => (f s).bind fun b s1 => if b = true then g s1 else .ok false s1
def bOr (f g : DT) : DT := fun s => (f s).bind fun b s1 => if b = true then .ok true s1 else g s1
def bNot (f : DT) : DT := fun s => (f s).bind fun b s1 => .ok (!b) s1
abbrev PDW (G : Gam) (W : WX) (X : Cx) (e : Expr) (f : DT) : Prop := PW X e (tDT G W f)
theorem _root_.L2.PW.imp {X : Cx} {e : Expr} {t t' : TT} (h : PW X e t) (k : ∀ σ H Q, t' σ H Q → t σ H Q) : PW X e t' := ⟨fun wh pins s σ H Q I q => h.run wh pins s σ H Q I (k σ H Q q)⟩
theorem pwd_and1 {a : Expr} {f : DT} {pos : Pos} (h : PDT G W X a f) : PDW G W X (.BoolOp .And [a] pos) f := pw_and1 h
theorem pwd_or1 {a : Expr} {f : DT} {pos : Pos} (h : PDT G W X a f) : PDW G W X (.BoolOp .Or [a] pos) f := pw_or1 h
theorem pwd_and {a b : Expr} {r : List Expr} {f g : DT} {pos : Pos} (h : PDT G W X a f) (k : PDW G W X (.BoolOp .And (b :: r) pos) g) : PDW G W X (.BoolOp .And (a :: b :: r) pos) (bAnd f g) :=
  (pw_and h k).imp fun σ H Q ⟨κ, w, s, ok, q⟩ => ⟨κ, w, s, ok, (PostG.bind q).imp fun v H1 ⟨d, s1, w1, le, ok1, r1, q1⟩ => by
    subst r1
    cases v with
    | true => exact ⟨κ, w1, s1, ok1, q1⟩
    | false => exact q1 w1 false H1 (.refl _) ok1 rfl⟩
theorem pwd_or {a b : Expr} {r : List Expr} {f g : DT} {pos : Pos} (h : PDT G W X a f) (k : PDW G W X (.BoolOp .Or (b :: r) pos) g) : PDW G W X (.BoolOp .Or (a :: b :: r) pos) (bOr f g) :=
  (pw_or h k).imp fun σ H Q ⟨κ, w, s, ok, q⟩ => ⟨κ, w, s, ok, (PostG.bind q).imp fun v H1 ⟨d, s1, w1, le, ok1, r1, q1⟩ => by
    subst r1
    cases v with
    | false => exact ⟨κ, w1, s1, ok1, q1⟩
    | true => exact q1 w1 true H1 (.refl _) ok1 rfl⟩
theorem ptd_not {a : Expr} {f : DT} {pos : Pos} (h : PDT G W X a f) : PDT G W X (.UnaryOp .Not a pos) (bNot f) :=
  (pt_not h).imp fun σ H Q ⟨κ, w, s, ok, q⟩ => ⟨κ, w, s, ok, (PostG.bind q).imp fun v H1 ⟨d, s1, w1, le, ok1, r1, q1⟩ => by
    subst r1
    exact q1 w1 _ H1 (.refl _) ok1 rfl⟩
/-- as values -/
def eAnd (f g : DE) : DE := fun s => (f s).bind fun d s1 => match d with
  | .bl b => if b = true then g s1 else .ok (.bl false) s1
  | _ => .stuck
def eOr (f g : DE) : DE := fun s => (f s).bind fun d s1 => match d with
  | .bl b => if b = true then .ok (.bl true) s1 else g s1
  | _ => .stuck
def eNot (f : DE) : DE := fun s => (f s).bind fun d s1 => match d with
  | .bl b => .ok (.bl (!b)) s1
  | _ => .stuck
theorem pd_one {op : PySem.BoolOp} {a : Expr} {f : DE} {pos : Pos} (h : PD G W X a f) : PD G W X (.BoolOp op [a] pos) f := pe_one h
theorem pd_and {a b : Expr} {r : List Expr} {f g : DE} {pos : Pos} (h : PD G W X a f) (k : PD G W X (.BoolOp .And (b :: r) pos) g) : PD G W X (.BoolOp .And (a :: b :: r) pos) (eAnd f g) :=
  (pe_and h k).imp fun σ H Q ⟨κ, w, s, ok, q⟩ => ⟨κ, w, s, ok, (PostG.bind q).imp fun v H1 ⟨d, s1, w1, le, ok1, r1, q1⟩ => by
    cases r1 with
    | bl b =>
      refine ⟨b, rfl, ?_⟩
      cases b with
      | true => exact ⟨κ, w1, s1, ok1, q1⟩
      | false => exact q1 w1 _ H1 (.refl _) ok1 (.bl false)
    | _ => exact q1.elim⟩
theorem pd_or {a b : Expr} {r : List Expr} {f g : DE} {pos : Pos} (h : PD G W X a f) (k : PD G W X (.BoolOp .Or (b :: r) pos) g) : PD G W X (.BoolOp .Or (a :: b :: r) pos) (eOr f g) :=
  (pe_or h k).imp fun σ H Q ⟨κ, w, s, ok, q⟩ => ⟨κ, w, s, ok, (PostG.bind q).imp fun v H1 ⟨d, s1, w1, le, ok1, r1, q1⟩ => by
    cases r1 with
    | bl b =>
      refine ⟨b, rfl, ?_⟩
      cases b with
      | false => exact ⟨κ, w1, s1, ok1, q1⟩
      | true => exact q1 w1 _ H1 (.refl _) ok1 (.bl true)
    | _ => exact q1.elim⟩
theorem pd_not {a : Expr} {f : DE} {pos : Pos} (h : PD G W X a f) : PD G W X (.UnaryOp .Not a pos) (eNot f) :=
  (pe_not h).imp fun σ H Q ⟨κ, w, s, ok, q⟩ => ⟨κ, w, s, ok, (PostG.bind q).imp fun v H1 ⟨d, s1, w1, le, ok1, r1, q1⟩ => by
    cases r1 with
    | bl b => exact ⟨b, rfl, q1 w1 _ H1 (.refl _) ok1 (.bl _)⟩
    | _ => exact q1.elim⟩
def eIf (c : DT) (f g : DE) : DE := fun s => (c s).bind fun b s1 => if b = true then f s1 else g s1
theorem pd_ifExp {c a b : Expr} {fc : DT} {f g : DE} {pos : Pos} (hc : PDT G W X c fc) (h : PD G W X a f) (k : PD G W X b g) : PD G W X (.IfExp c a b pos) (eIf fc f g) :=
  (pe_ifExp hc h k).imp fun σ H Q ⟨κ, w, s, ok, q⟩ => ⟨κ, w, s, ok, (PostG.bind q).imp fun v H1 ⟨d, s1, w1, le, ok1, r1, q1⟩ => by
    subst r1
    cases v with
    | true => exact ⟨κ, w1, s1, ok1, q1⟩
    | false => exact ⟨κ, w1, s1, ok1, q1⟩⟩
/-! ### argument lists -/
def aNil : DA := fun s => .ok [] s
def aCons (f : DE) (g : DA) : DA := fun s => (f s).bind fun d s1 => (g s1).bind fun ds s2 => .ok (d :: ds) s2
theorem pda_nil : PDA G W X [] aNil := pa_nil.imp fun σ H Q ⟨κ, w, s, ok, q⟩ => q w [] H (.refl _) ok .nil
theorem pda_cons {e : Expr} {es : List Expr} {f : DE} {g : DA} (h : PD G W X e f) (k : PDA G W X es g) (hs : starEach (e :: es) X.env = (false, eval e X.env) :: starEach es X.env := by rfl) : PDA G W X (e :: es) (aCons f g) :=
  (pa_cons h k hs).imp fun σ H Q ⟨κ, w, s, ok, q⟩ => ⟨κ, w, s, ok, (PostG.bind q).imp fun v H1 ⟨d, s1, w1, le, ok1, r1, q1⟩ =>
    ⟨κ, w1, s1, ok1, (PostG.bind q1).imp fun v2 H2 ⟨d2, s2, w2, le2, ok2, r2, q2⟩ => q2 w2 _ H2 (.refl _) ok2 (.cons (r1.mono le2) r2)⟩⟩
/-! ### tuples, lists -/
def eTup (g : DA) : DE := fun s => (g s).bind fun ds s1 => if ds.length ≤ 1000 then .ok (.tup ds) s1 else .stuck
theorem sz1000 {n : Nat} (h : n ≤ 1000) : n ≤ sizeLine := Nat.le_of_lt (small1000 h)
theorem pd_tup {es : List Expr} {k : Nat} {g : DA} {pos : Pos} (h : PDA G W X es g) : PD G W X (.Tuple es k pos) (eTup g) :=
  (pe_tup h).imp fun σ H Q ⟨κ, w, s, ok, q⟩ => ⟨κ, w, s, ok, (PostG.bind q).imp fun v H1 ⟨d, s1, w1, le, ok1, r1, q1⟩ => by
    by_cases c : d.length ≤ 1000
    · rw [if_pos c] at q1
      refine ⟨by rw [r1.length]; exact sz1000 c, fun p hp => ?_⟩
      obtain ⟨le2, ok2⟩ := ok1.alloc hp (.tup v)
      exact q1 _ _ _ le2 ok2 (.tup (.inl (.inl upd_same)) (r1.mono le2))
    · rw [if_neg c] at q1
      exact q1.elim⟩
end
end DL
set_option maxRecDepth 100000
set_option maxHeartbeats 4000000
set_option autoImplicit false
namespace DL
open PySem PySem.Spec PyProof.Rows L2
section
variable {G : Gam} {W : WX} {X : Cx} {κ : Bs} {w : Wd} {s : DS} {σ : L2.St} {H : Hp}
/-- an object set apart -/
abbrev Bs.plus (κ : Bs) (a : Addr) (o : HO) : Bs := ⟨κ.B, κ.H, (a, o) :: κ.γ, κ.me⟩
theorem Ok.back (h : Ok G κ w s σ H) {p : Addr} (hp : H p = none) : κ.H p = none := by
  cases e : κ.H p with
  | none => rfl
  | some o =>
    by_cases hx : p ∈ κ.B.ρ
    · obtain ⟨o', q⟩ := h.fok.rho (h.nx.le.r.subset hx)
      rw [q] at hp; cases hp
    · rw [h.nx.keep p o e hx] at hp; cases hp
/-- a new object, set apart -/
theorem Ok.fresh (h : Ok G κ w s σ H) {p : Addr} (hp : H p = none) (o : HO) : Ok G (κ.plus p o) w s σ (upd H p o) := by
  have ne : ∀ {a : Addr} {u : HO}, H a = some u → a ≠ p := fun e => ne_of_none e hp
  have nF : w.F p = none := by
    cases e : w.F p with
    | none => rfl
    | some u => rw [h.fok.sub p u e] at hp; cases hp
  have nR : p ∉ w.ρ := fun q => by
    obtain ⟨u, e⟩ := h.fok.rho q
    rw [e] at hp; cases hp
  refine ⟨⟨fun a u e => ?_, h.fok.len, fun n a c e1 e2 => ?_, h.fok.nd, h.fok.nf⟩, ⟨h.nx.le, fun a u e n => ?_, h.nx.newF, h.nx.newR⟩, h.len, h.val, fun i x e o' => ?_, h.ne, fun q hq => ?_, h.me⟩
  · rw [upd_ne (ne (h.fok.sub a u e))]
    exact h.fok.sub a u e
  · obtain ⟨u, q⟩ := (h.fok.cel n a c e1 e2).there
    exact (h.fok.cel n a c e1 e2).mono (.refl _) (upd_ne (ne q))
  · rw [upd_ne (ne (h.nx.keep a u e n))]
    exact h.nx.keep a u e n
  · obtain ⟨a, h1, h2, h3, h4, h5⟩ := h.own i x e o'
    obtain ⟨u, q⟩ := h2.there
    exact ⟨a, h1, h2.mono (.refl _) (upd_ne (ne q)), h3, h4, h5⟩
  · rcases List.mem_cons.mp hq with rfl | hq
    · refine ⟨upd_same, nF, nR, h.back hp, fun i x e o' z => ?_⟩
      obtain ⟨a, h1, h2, _⟩ := h.own i x e o'
      rw [h1] at z
      cases z
      obtain ⟨u, q⟩ := h2.there
      exact ne q rfl
    · obtain ⟨h1, h2⟩ := h.gam q hq
      exact ⟨by rw [upd_ne (ne h1)]; exact h1, h2⟩
theorem Ok.unplus {a : Addr} {o : HO} (h : Ok G (κ.plus a o) w s σ H) : Ok G κ w s σ H := ⟨h.fok, h.nx, h.len, h.val, h.own, h.ne, fun p hp => h.gam p (List.mem_cons_of_mem _ hp), h.me⟩
/-- what was set apart is frozen (its address is not set apart twice) -/
theorem Ok.frz {a : Addr} {o : HO} (h : Ok G (κ.plus a o) w s σ H) (hγ : ∀ p ∈ κ.γ, p.1 ≠ a) : w.le ⟨upd w.F a o, w.ρ⟩ ∧ Ok G κ ⟨upd w.F a o, w.ρ⟩ s σ H := by
  obtain ⟨ho, h3, h4, h5, h6⟩ := h.gam (a, o) List.mem_cons_self
  have le : w.le ⟨upd w.F a o, w.ρ⟩ := ⟨fun b u e => by
    show upd w.F a o b = some u
    rw [upd_ne (ne_of_none e h3)]
    exact e, List.prefix_refl _⟩
  have sub : ∀ (b : Addr) (u : HO), upd w.F a o b = some u → H b = some u := fun b u e => by
    by_cases z : b = a
    · subst z
      rw [upd_same] at e
      cases e
      exact ho
    · rw [upd_ne z] at e
      exact h.fok.sub b u e
  refine ⟨le, ⟨⟨sub, h.fok.len, fun n b c e1 e2 => (h.fok.cel n b c e1 e2).mono le rfl, h.fok.nd, fun b hb => ?_⟩, ⟨h.nx.le.trans le, h.nx.keep, fun b q => ?_, h.nx.newR⟩, h.len, fun i d e => ?_, fun i x e o' => ?_, h.ne, fun p hp => ?_, h.me⟩⟩
  · show upd w.F a o b = none
    rw [upd_ne (show b ≠ a from fun z => h4 (by rw [← z]; exact hb))]
    exact h.fok.nf b hb
  · by_cases z : b = a
    · subst z; exact .inr h5
    · have q : upd w.F a o b ≠ none := q
      rw [upd_ne z] at q
      exact h.nx.newF b q
  · obtain ⟨v, h1, h2⟩ := h.val i d e
    exact ⟨v, h1, h2.mono le⟩
  · obtain ⟨b, q1, q2, q3, q4, q5⟩ := h.own i x e o'
    refine ⟨b, q1, q2.mono le rfl, ?_, q4, q5⟩
    show upd w.F a o b = none
    rw [upd_ne (show b ≠ a from fun z => h6 i x e o' (by rw [q1, z]))]
    exact q3
  · obtain ⟨q1, q2, q3⟩ := h.gam p (List.mem_cons_of_mem _ hp)
    refine ⟨q1, ?_, q3⟩
    show upd w.F a o p.1 = none
    rw [upd_ne (hγ p hp)]
    exact q2
/-- a slot is set -/
theorem Ok.setVal (h : Ok G κ w s σ H) {v : V} {d : D} (r : Rep G w v d) (i : Nat) : Ok G κ w ⟨s.sl.set i (.val d), s.st⟩ (σ.set i (some v)) H := by
  have back : ∀ (j : Nat) (x : Sl), (s.sl.set i (.val d))[j]? = some x → (j = i ∧ x = .val d ∧ i < s.sl.length) ∨ (j ≠ i ∧ s.sl[j]? = some x) := fun j x e => by
    by_cases z : j = i
    · subst z
      have hl : j < s.sl.length := by
        have := (List.getElem?_eq_some_iff.mp e).1
        rwa [List.length_set] at this
      rw [List.getElem?_set_self hl] at e
      exact .inl ⟨rfl, (Option.some.inj e).symm, hl⟩
    · rw [List.getElem?_set_ne (Ne.symm z)] at e
      exact .inr ⟨z, e⟩
  refine ⟨h.fok, h.nx, by rw [List.length_set, List.length_set]; exact h.len, fun j e hj => ?_, fun j x hj o => ?_, fun j k x y a hj hk ox oy e1 e2 => ?_, fun p hp => ?_, fun b hb c fs e => ?_⟩
  · rcases back j _ hj with ⟨rfl, q, hl⟩ | ⟨z, hj⟩
    · cases q
      exact ⟨v, List.getElem?_set_self (by rw [← h.len]; exact hl), r⟩
    · rw [List.getElem?_set_ne (Ne.symm z)]
      exact h.val j e hj
  · rcases back j _ hj with ⟨rfl, q, hl⟩ | ⟨z, hj⟩
    · subst q; cases o
    · rw [List.getElem?_set_ne (Ne.symm z)]
      exact h.own j x hj o
  · rcases back j _ hj with ⟨rfl, q, hl⟩ | ⟨z, hj⟩
    · subst q; cases ox
    · rcases back k _ hk with ⟨rfl, q, hl⟩ | ⟨z', hk⟩
      · subst q; cases oy
      · rw [List.getElem?_set_ne (Ne.symm z)] at e1
        rw [List.getElem?_set_ne (Ne.symm z')] at e2
        exact h.ne j k x y a hj hk ox oy e1 e2
  · obtain ⟨q1, q2, q3, q4, q5⟩ := h.gam p hp
    refine ⟨q1, q2, q3, q4, fun j x hj o => ?_⟩
    rcases back j _ hj with ⟨rfl, q, hl⟩ | ⟨z, hj⟩
    · subst q; cases o
    · rw [List.getElem?_set_ne (Ne.symm z)]
      exact q5 j x hj o
  · rcases back 0 _ e with ⟨z, q, hl⟩ | ⟨z, e⟩
    · cases q
    · rw [List.getElem?_set_ne (Ne.symm z)]
      exact h.me b hb c fs e
/-- a slot gets what was set apart -/
theorem Ok.setOwn {a : Addr} {o : HO} (h : Ok G (κ.plus a o) w s σ H) (hγ : ∀ p ∈ κ.γ, p.1 ≠ a) {y : Sl} (hy : OwnOk G w H a y) (oy : y.own = true) (hy0 : ∀ c fs, y ≠ .oi c fs) (i : Nat) : Ok G κ w ⟨s.sl.set i y, s.st⟩ (σ.set i (some (.ref a))) H := by
  obtain ⟨ho, h3, h4, h5, h6⟩ := h.gam (a, o) List.mem_cons_self
  have back : ∀ (j : Nat) (x : Sl), (s.sl.set i y)[j]? = some x → (j = i ∧ x = y ∧ i < s.sl.length) ∨ (j ≠ i ∧ s.sl[j]? = some x) := fun j x e => by
    by_cases z : j = i
    · subst z
      have hl : j < s.sl.length := by
        have := (List.getElem?_eq_some_iff.mp e).1
        rwa [List.length_set] at this
      rw [List.getElem?_set_self hl] at e
      exact .inl ⟨rfl, (Option.some.inj e).symm, hl⟩
    · rw [List.getElem?_set_ne (Ne.symm z)] at e
      exact .inr ⟨z, e⟩
  refine ⟨h.fok, h.nx, by rw [List.length_set, List.length_set]; exact h.len, fun j e hj => ?_, fun j x hj o' => ?_, fun j k x z b hj hk ox oz e1 e2 => ?_, fun p hp => ?_, fun b hb c fs e => ?_⟩
  · rcases back j _ hj with ⟨rfl, q, hl⟩ | ⟨z, hj⟩
    · subst q; cases oy
    · rw [List.getElem?_set_ne (Ne.symm z)]
      exact h.val j e hj
  · rcases back j _ hj with ⟨rfl, q, hl⟩ | ⟨z, hj⟩
    · subst q
      exact ⟨a, List.getElem?_set_self (by rw [← h.len]; exact hl), hy, h3, h4, h5⟩
    · rw [List.getElem?_set_ne (Ne.symm z)]
      exact h.own j x hj o'
  · rcases back j _ hj with ⟨ej, q, hl⟩ | ⟨zj, hj⟩
    · rcases back k _ hk with ⟨ek, q', hl'⟩ | ⟨zk, hk⟩
      · rw [ej, ek]
      · rw [ej, List.getElem?_set_self (by rw [← h.len]; exact hl)] at e1
        cases e1
        rw [List.getElem?_set_ne (Ne.symm zk)] at e2
        exact absurd e2 (h6 k z hk oz)
    · rcases back k _ hk with ⟨ek, q', hl'⟩ | ⟨zk, hk⟩
      · rw [ek, List.getElem?_set_self (by rw [← h.len]; exact hl')] at e2
        cases e2
        rw [List.getElem?_set_ne (Ne.symm zj)] at e1
        exact absurd e1 (h6 j x hj ox)
      · rw [List.getElem?_set_ne (Ne.symm zj)] at e1
        rw [List.getElem?_set_ne (Ne.symm zk)] at e2
        exact h.ne j k x z b hj hk ox oz e1 e2
  · obtain ⟨q1, q2, q3, q4, q5⟩ := h.gam p (List.mem_cons_of_mem _ hp)
    refine ⟨q1, q2, q3, q4, fun j x hj o' => ?_⟩
    rcases back j _ hj with ⟨ej, q, hl⟩ | ⟨z, hj⟩
    · rw [ej, List.getElem?_set_self (by rw [← h.len]; exact hl)]
      exact fun e => hγ p hp (by cases e; rfl)
    · rw [List.getElem?_set_ne (Ne.symm z)]
      exact q5 j x hj o'
  · rcases back 0 _ e with ⟨z, q, hl⟩ | ⟨z, e⟩
    · exact absurd q.symm (hy0 c fs)
    · rw [List.getElem?_set_ne (Ne.symm z)]
      exact h.me b hb c fs e
/-- the thing of an own slot is changed -/
theorem Ok.mut (h : Ok G κ w s σ H) {i : Nat} {x y : Sl} {a : Addr} {o : HO} (hx : s.sl[i]? = some x) (ox : x.own = true) (oy : y.own = true) (ha : σ[i]? = some (some (.ref a))) (hy : OwnOk G w (upd H a o) a y) (hxy : ∀ c fs, y = .oi c fs → ∃ c' fs', x = .oi c' fs') :
    Ok G κ w ⟨s.sl.set i y, s.st⟩ σ (upd H a o) := by
  obtain ⟨a', h1, h2, h3, h4, h5⟩ := h.own i x hx ox
  rw [ha] at h1
  cases h1
  have hil : i < s.sl.length := (List.getElem?_eq_some_iff.mp hx).1
  have back : ∀ (j : Nat) (z : Sl), (s.sl.set i y)[j]? = some z → (j = i ∧ z = y) ∨ (j ≠ i ∧ s.sl[j]? = some z) := fun j z e => by
    by_cases q : j = i
    · subst q
      rw [List.getElem?_set_self hil] at e
      exact .inl ⟨rfl, (Option.some.inj e).symm⟩
    · rw [List.getElem?_set_ne (Ne.symm q)] at e
      exact .inr ⟨q, e⟩
  refine ⟨⟨fun b u e => ?_, h.fok.len, fun n b c e1 e2 => ?_, h.fok.nd, h.fok.nf⟩, ⟨h.nx.le, fun b u e n => ?_, h.nx.newF, h.nx.newR⟩, by rw [List.length_set]; exact h.len, fun j d hj => ?_, fun j z hj oz => ?_, fun j k z z' b hj hk oz oz' e1 e2 => ?_, fun p hp => ?_, fun b hb c fs e => ?_⟩
  · rw [upd_ne (ne_of_none e h3)]
    exact h.fok.sub b u e
  · exact (h.fok.cel n b c e1 e2).mono (.refl _) (upd_ne fun z => h4 (by rw [← z]; exact List.mem_of_getElem? e1))
  · rw [upd_ne (ne_of_none e h5)]
    exact h.nx.keep b u e n
  · rcases back j _ hj with ⟨rfl, q⟩ | ⟨_, hj⟩
    · subst q; cases oy
    · exact h.val j d hj
  · rcases back j _ hj with ⟨rfl, q⟩ | ⟨nj, hj⟩
    · subst q
      exact ⟨a, ha, hy, h3, h4, h5⟩
    · obtain ⟨b, q1, q2, q3, q4, q5⟩ := h.own j z hj oz
      exact ⟨b, q1, q2.mono (.refl _) (upd_ne fun e => nj (h.ne j i z x b hj hx oz ox q1 (by rw [e]; exact ha))), q3, q4, q5⟩
  · rcases back j _ hj with ⟨ej, q⟩ | ⟨nj, hj⟩
    · rcases back k _ hk with ⟨ek, q'⟩ | ⟨nk, hk⟩
      · rw [ej, ek]
      · rw [ej] at e1 ⊢
        exact h.ne i k x z' b hx hk ox oz' e1 e2
    · rcases back k _ hk with ⟨ek, q'⟩ | ⟨nk, hk⟩
      · rw [ek] at e2 ⊢
        exact h.ne j i z x b hj hx oz ox e1 e2
      · exact h.ne j k z z' b hj hk oz oz' e1 e2
  · obtain ⟨q1, q2, q3, q4, q5⟩ := h.gam p hp
    have np : p.1 ≠ a := fun e => q5 i x hx ox (by rw [ha, e])
    refine ⟨by rw [upd_ne np]; exact q1, q2, q3, q4, fun j z hj oz => ?_⟩
    rcases back j _ hj with ⟨ej, q⟩ | ⟨nj, hj⟩
    · rw [ej, ha]
      exact fun e => np (by cases e; rfl)
    · exact q5 j z hj oz
  · rcases back 0 _ e with ⟨z, q⟩ | ⟨z, e⟩
    · obtain ⟨c', fs', q'⟩ := hxy c fs q.symm
      subst q'
      subst z
      exact h.me b hb c' fs' hx
    · exact h.me b hb c fs e
/-- a cell of the store is changed -/
theorem Ok.cell (h : Ok G κ w s σ H) {n : Nat} {a : Addr} {c : Cell} {o : HO} (ha : w.ρ[n]? = some a) (hc : CellOk G w (upd H a o) a c) : Ok G κ w ⟨s.sl, s.st.set n c⟩ σ (upd H a o) := by
  have hm : a ∈ w.ρ := List.mem_of_getElem? ha
  have hn : n < w.ρ.length := (List.getElem?_eq_some_iff.mp ha).1
  refine ⟨⟨fun b u e => ?_, by rw [List.length_set]; exact h.fok.len, fun k b c' e1 e2 => ?_, h.fok.nd, h.fok.nf⟩, ⟨h.nx.le, fun b u e q => ?_, h.nx.newF, h.nx.newR⟩, h.len, h.val, fun j z hj oz => ?_, h.ne, fun p hp => ?_, h.me⟩
  · rw [upd_ne (ne_of_none e (h.fok.nf a hm))]
    exact h.fok.sub b u e
  · by_cases z : k = n
    · subst z
      rw [ha] at e1
      cases e1
      rw [List.getElem?_set_self (by rw [← h.fok.len]; exact hn)] at e2
      cases e2
      exact hc
    · rw [List.getElem?_set_ne (Ne.symm z)] at e2
      refine (h.fok.cel k b c' e1 e2).mono (.refl _) (upd_ne fun e => z ?_)
      subst e
      exact nodup_ix_any h.fok.nd e1 ha
  · have hbne : b ≠ a := fun e' => by
      subst e'
      rcases h.nx.newR b hm with z | z
      · exact q z
      · rw [e] at z; cases z
    rw [upd_ne hbne]
    exact h.nx.keep b u e q
  · obtain ⟨b, q1, q2, q3, q4, q5⟩ := h.own j z hj oz
    exact ⟨b, q1, q2.mono (.refl _) (upd_ne fun e => q4 (by rw [e]; exact hm)), q3, q4, q5⟩
  · obtain ⟨q1, q2, q3, q4⟩ := h.gam p hp
    exact ⟨by rw [upd_ne fun e => q3 (by rw [e]; exact hm)]; exact q1, q2, q3, q4⟩
where
  nodup_ix_any {l : List Addr} (hN : l.Nodup) {i j : Nat} {x : Addr} (a : l[i]? = some x) (b : l[j]? = some x) : i = j := by
    obtain ⟨h1, e1⟩ := List.getElem?_eq_some_iff.mp a
    obtain ⟨h2, e2⟩ := List.getElem?_eq_some_iff.mp b
    exact (List.getElem_inj hN).mp (e1.trans e2.symm)
end
end DL
set_option maxRecDepth 100000
set_option maxHeartbeats 4000000
set_option autoImplicit false
namespace DL
open PySem PySem.Spec PyProof.Rows L2
section
variable (G : Gam) (W : WX)
/-- a new list of one's own -/
def PostO (κ : Bs) (w : Wd) (σ : L2.St) (r : Res DS (List D)) (Q : VK) : Prop := match r with
  | .ok xs s' => ∀ w' a vs H', w.le w' → Ok G (κ.plus a (.lst vs)) w' s' σ H' → (∀ p ∈ κ.γ, p.1 ≠ a) → Reps G w' vs xs → Q (.ref a) H'
  | .exc x s' => ∀ w' c dd H', w.le w' → Ok G κ w' s' σ H' → RepX G w' c dd x → W c dd σ H'
  | .stuck => False
def tDo (f : DA) : TE := fun σ H Q => ∃ κ w s, Ok G κ w s σ H ∧ PostO G W κ w σ (f s) Q
end
abbrev PDo (G : Gam) (W : WX) (X : Cx) (e : Expr) (f : DA) : Prop := PE X e (tDo G W f)
section
variable {G : Gam} {W : WX} {X : Cx}
theorem PostO.mono {κ : Bs} {w w1 : Wd} {σ : L2.St} {r : Res DS (List D)} {Q : VK} (le : w.le w1) (h : PostO G W κ w σ r Q) : PostO G W κ w1 σ r Q := by
  cases r with
  | ok d s' => exact fun w' a vs H' l o g r => h w' a vs H' (le.trans l) o g r
  | exc x s' => exact fun w' c dd H' l o r => h w' c dd H' (le.trans l) o r
  | stuck => exact h
theorem Ok.apart {κ : Bs} {w : Wd} {s : DS} {σ : L2.St} {H : Hp} (h : Ok G κ w s σ H) {p : Addr} (hp : H p = none) : ∀ q ∈ κ.γ, q.1 ≠ p := fun q hq => ne_of_none (h.gam q hq).1 hp
/-- an expression, then a new list -/
theorem PostG.bindO {α β : Type} {rep : Wd → β → α → Prop} {κ : Bs} {w : Wd} {σ : L2.St} {r : Res DS α} {k : α → DS → Res DS (List D)} {Q : VK} (h : PostO G W κ w σ (r.bind k) Q) :
    PostG G W rep κ w σ r (fun v H1 => ∃ d s1 w1, w.le w1 ∧ Ok G κ w1 s1 σ H1 ∧ rep w1 v d ∧ PostO G W κ w1 σ (k d s1) Q) := by
  cases r with
  | ok d s' => exact fun w' v H' l o r => ⟨d, s', w', l, o, r, PostO.mono l h⟩
  | exc x s' => exact h
  | stuck => exact h
def aMax (g : DA) : DA := fun s => (g s).bind fun ds s1 => if ds.length ≤ 1000 then .ok ds s1 else .stuck
theorem pdo_lst {es : List Expr} {g : DA} {pos : Pos} (h : PDA G W X es g) : PDo G W X (.List es pos) (aMax g) :=
  (pe_lst h).imp fun σ H Q ⟨κ, w, s, ok, q⟩ => ⟨κ, w, s, ok, (PostG.bindO q).imp fun v H1 ⟨d, s1, w1, le, ok1, r1, q1⟩ => by
    by_cases c : d.length ≤ 1000
    · rw [if_pos c] at q1
      refine ⟨by rw [r1.length]; exact sz1000 c, fun p hp => ?_⟩
      exact q1 w1 p v _ (.refl _) (ok1.fresh hp _) (ok1.apart hp) r1
    · rw [if_neg c] at q1
      exact q1.elim⟩
def eFrz (f : DA) : DE := fun s => (f s).bind fun xs s1 => .ok (.lst xs) s1
theorem pdo_frz {e : Expr} {f : DA} (h : PDo G W X e f) : PD G W X e (eFrz f) := h.imp fun σ H Q ⟨κ, w, s, ok, q⟩ => ⟨κ, w, s, ok, by
  unfold eFrz at q
  cases e : f s with
  | stuck => rw [e] at q; exact q.elim
  | exc x s' => rw [e] at q; exact q
  | ok xs s' =>
    rw [e] at q
    intro w' a vs H' l o g r
    obtain ⟨le, ok'⟩ := o.frz g
    exact q _ _ H' (l.trans le) ok' (.lst upd_same (r.mono le))⟩
/-! ### statements -/
def sPass : DStm := fun s => .ok .nx s
def sSeq (f g : DStm) : DStm := fun s => (f s).bind fun o s1 => match o with
  | .nx => g s1
  | o => .ok o s1
theorem pdss_nil : PDSs G W X [] sPass := pss_nil.imp fun N σ H ⟨κ, w, s, ok, q⟩ => q w σ H (.refl _) ok
theorem PostS.seq {κ : Bs} {w : Wd} {r : Res DS Out} {g : DStm} {N : Ends} (h : PostS G W κ w (r.bind fun o s1 => match o with | .nx => g s1 | o => .ok o s1) N) : PostS G W κ w r { N with nx := tDS G W g N } := by
  cases r with
  | stuck => exact h
  | exc x s' => exact h
  | ok o s' =>
    cases o with
    | nx => exact fun w' σ' H' l o => ⟨κ, w', s', o, PostS.mono l h⟩
    | bk => exact h
    | ct => exact h
    | rt d => exact h
theorem pdss_cons {st : Stmt} {r : List Stmt} {f g : DStm} (h : PDS G W X st f) (k : PDSs G W X r g) : PDSs G W X (st :: r) (sSeq f g) :=
  (pss_cons h k).imp fun N σ H ⟨κ, w, s, ok, q⟩ => ⟨κ, w, s, ok, PostS.seq q⟩
theorem pdss_one {st : Stmt} {f : DStm} (h : PDS G W X st f) : PDSs G W X [st] f := pss_one h
def sNever : DStm := fun _ => .stuck
theorem pds_never {st : Stmt} : PDS G W X st sNever := ps_never.imp fun N σ H ⟨κ, w, s, ok, q⟩ => q.elim
theorem pdss_never {st : List Stmt} : PDSs G W X st sNever := pss_never.imp fun N σ H ⟨κ, w, s, ok, q⟩ => q.elim
theorem pds_pass {pos : Pos} : PDS G W X (.Pass pos) sPass := ps_pass.imp fun N σ H ⟨κ, w, s, ok, q⟩ => q w σ H (.refl _) ok
def sBreak : DStm := fun s => .ok .bk s
def sCont : DStm := fun s => .ok .ct s
theorem pds_break {pos : Pos} : PDS G W X (.Break pos) sBreak := ps_break.imp fun N σ H ⟨κ, w, s, ok, q⟩ => q w σ H (.refl _) ok
theorem pds_continue {pos : Pos} : PDS G W X (.Continue pos) sCont := ps_continue.imp fun N σ H ⟨κ, w, s, ok, q⟩ => q w σ H (.refl _) ok
def sExpr (f : DE) : DStm := fun s => (f s).bind fun _ s1 => .ok .nx s1
theorem pds_expr {e : Expr} {f : DE} {pos : Pos} (h : PD G W X e f) (hs : swapsWith e none pos.line X.env = pure false := by rfl) : PDS G W X (.Expr e pos) (sExpr f) :=
  (ps_expr h hs).imp fun N σ H ⟨κ, w, s, ok, q⟩ => ⟨κ, w, s, ok, (PostG.bindS q).imp fun v H1 ⟨d, s1, w1, le, ok1, r1, q1⟩ => q1 w1 σ H1 (.refl _) ok1⟩
def sRet (f : DE) : DStm := fun s => (f s).bind fun d s1 => .ok (.rt d) s1
theorem pds_ret {e : Expr} {f : DE} {pos : Pos} (h : PD G W X e f) : PDS G W X (.Return (some e) pos) (sRet f) :=
  (ps_ret h).imp fun N σ H ⟨κ, w, s, ok, q⟩ => ⟨κ, w, s, ok, (PostG.bindS q).imp fun v H1 ⟨d, s1, w1, le, ok1, r1, q1⟩ => q1 w1 σ v H1 (.refl _) ok1 r1⟩
theorem pds_retN {pos : Pos} : PDS G W X (.Return none pos) (sRet (eC .non)) := ps_retN.imp fun N σ H ⟨κ, w, s, ok, q⟩ => q w σ .non H (.refl _) ok .non
def sIf (c : DT) (f g : DStm) : DStm := fun s => (c s).bind fun b s1 => if b = true then f s1 else g s1
theorem pds_if {c : Expr} {a b : List Stmt} {fc : DT} {f g : DStm} {pos : Pos} (hc : PDT G W X c fc) (h : PDSs G W X a f) (k : PDSs G W X b g) : PDS G W X (.If c a b pos) (sIf fc f g) :=
  (ps_if hc h k).imp fun N σ H ⟨κ, w, s, ok, q⟩ => ⟨κ, w, s, ok, (PostG.bindS q).imp fun v H1 ⟨d, s1, w1, le, ok1, r1, q1⟩ => by
    subst r1
    cases v with
    | true => exact ⟨κ, w1, s1, ok1, q1⟩
    | false => exact ⟨κ, w1, s1, ok1, q1⟩⟩
def sSet (i : Nat) (f : DE) : DStm := fun s => (f s).bind fun d s1 => .ok .nx ⟨s1.sl.set i (.val d), s1.st⟩
theorem pds_set {i : Nat} {x : Str} {e : Expr} {f : DE} {pos pos' : Pos} (hN : X.N.Nodup) (hi : X.N[i]? = some x) (hx : Loc X.env.scope x) (he : PD G W X e f) (hs : swapsWith e (some (.Name x pos')) pos.line X.env = pure false := by rfl)
    (hf : X.fn x = true ∨ X.env.scope.names.lookup x = some .local := by first | exact .inl rfl | exact .inr rfl | assumption) : PDS G W X (.Assign [.Name x pos'] e pos) (sSet i f) :=
  (ps_set hN hi hx he hs hf).imp fun N σ H ⟨κ, w, s, ok, q⟩ => ⟨κ, w, s, ok, (PostG.bindS q).imp fun v H1 ⟨d, s1, w1, le, ok1, r1, q1⟩ => q1 w1 _ H1 (.refl _) (ok1.setVal r1 i)⟩
/-- name = a new list -/
def sSetO (i : Nat) (f : DA) : DStm := fun s => (f s).bind fun xs s1 => .ok .nx ⟨s1.sl.set i (.ol xs), s1.st⟩
theorem setO_of {i : Nat} {f : DA} {N : Ends} {σ : L2.St} {H : Hp} (h : tDS G W (sSetO i f) N σ H) : tAsg (tDo G W f) (gName i) N σ H := by
  obtain ⟨κ, w, s, ok, q⟩ := h
  refine ⟨κ, w, s, ok, ?_⟩
  unfold sSetO at q
  cases e : f s with
  | stuck => rw [e] at q; exact q.elim
  | exc x s' =>
    rw [e] at q
    exact fun w' c dd H' l o r => q w' σ c dd H' l o r
  | ok xs s' =>
    rw [e] at q
    intro w' a vs H' l o g r
    exact q w' _ H' l (o.setOwn (y := .ol xs) g ⟨vs, (o.gam (a, .lst vs) List.mem_cons_self).1, r⟩ rfl (fun _ _ z => nomatch z) i)
theorem pds_setO {i : Nat} {x : Str} {e : Expr} {f : DA} {pos pos' : Pos} (hN : X.N.Nodup) (hi : X.N[i]? = some x) (hx : Loc X.env.scope x) (he : PDo G W X e f) (hs : swapsWith e (some (.Name x pos')) pos.line X.env = pure false := by rfl)
    (hf : X.fn x = true ∨ X.env.scope.names.lookup x = some .local := by first | exact .inl rfl | exact .inr rfl | assumption) : PDS G W X (.Assign [.Name x pos'] e pos) (sSetO i f) :=
  (ps_set hN hi hx he hs hf).imp fun N σ H q => setO_of q
/-! ### targets -/
abbrev DG := D → DS → Res DS Unit
section
variable (G : Gam) (W : WX)
def PostT (is : List Nat) (σ : L2.St) (κ : Bs) (w : Wd) (r : Res DS Unit) (Q : L2.St → Hp → Prop) : Prop := match r with
  | .ok _ s' => ∀ w' σ' H', w.le w' → Ok G κ w' s' σ' H' → (σ'.length = σ.length ∧ ∀ i : Nat, i ∉ is → σ'[i]? = σ[i]?) → Q σ' H'
  | .exc x s' => False
  | .stuck => False
def tDG (is : List Nat) (g : DG) : TG := fun v σ H Q => ∃ κ w s d, Ok G κ w s σ H ∧ Rep G w v d ∧ PostT G is σ κ w (g d s) Q
def tDGs (is : List Nat) (g : List D → DS → Res DS Unit) : TGs := fun v σ H Q => ∃ κ w s d, Ok G κ w s σ H ∧ Reps G w v d ∧ PostT G is σ κ w (g d s) Q
end
theorem _root_.L2.PG.imp {X : Cx} {e : Expr} {t t' : TG} (h : PG X e t) (k : ∀ v σ H Q, t' v σ H Q → t v σ H Q) : PG X e t' := ⟨fun pins s σ H v u Q I r q => h.run pins s σ H v u Q I r (k v σ H Q q)⟩
theorem _root_.L2.PGs.imp {X : Cx} {e : List Expr} {t t' : TGs} (h : PGs X e t) (k : ∀ v σ H Q, t' v σ H Q → t v σ H Q) : PGs X e t' := ⟨fun pins s σ H v u Q I r q => h.run pins s σ H v u Q I r (k v σ H Q q)⟩
abbrev PDG (G : Gam) (X : Cx) (e : Expr) (is : List Nat) (g : DG) : Prop := PG X e (tDG G is g)
abbrev PDGs (G : Gam) (X : Cx) (e : List Expr) (is : List Nat) (g : List D → DS → Res DS Unit) : Prop := PGs X e (tDGs G is g)
def gN (i : Nat) : DG := fun d s => .ok () ⟨s.sl.set i (.val d), s.st⟩
theorem pdg_name {i : Nat} {x : Str} {pos : Pos} (hN : X.N.Nodup) (hi : X.N[i]? = some x) (hx : Loc X.env.scope x) (hf : X.fn x = true ∨ X.env.scope.names.lookup x = some .local := by first | exact .inl rfl | exact .inr rfl | assumption) : PDG G X (.Name x pos) [i] (gN i) :=
  (pg_name hN hi hx hf).imp fun v σ H Q ⟨κ, w, s, d, ok, r, q⟩ => q w _ H (.refl _) (ok.setVal r i) ⟨by rw [List.length_set], fun j hj => List.getElem?_set_ne fun z => hj (by rw [z]; exact List.mem_singleton.mpr rfl)⟩
def gsNil : List D → DS → Res DS Unit := fun ds s => match ds with
  | [] => .ok () s
  | _ => .stuck
def gsCons (g : DG) (k : List D → DS → Res DS Unit) : List D → DS → Res DS Unit := fun ds s => match ds with
  | d :: r => (g d s).bind fun _ s1 => k r s1
  | _ => .stuck
theorem pdgs_nil : PDGs G X [] [] gsNil := pgs_nil.imp fun v σ H Q ⟨κ, w, s, d, ok, r, q⟩ => by
  cases r with
  | nil => exact ⟨rfl, q w σ H (.refl _) ok ⟨rfl, fun _ _ => rfl⟩⟩
  | cons a b => exact q.elim
theorem pdgs_cons {e : Expr} {es : List Expr} {is is' : List Nat} {g : DG} {k : List D → DS → Res DS Unit} (h1 : PDG G X e is g) (h2 : PDGs G X es is' k)
    (hs : (assignEach (e :: es) X.env).map (·.2) = assign e X.env :: (assignEach es X.env).map (·.2) := by rfl) : PDGs G X (e :: es) (is ++ is') (gsCons g k) :=
  (pgs_cons h1 h2 hs).imp fun v σ H Q ⟨κ, w, s, d, ok, r, q⟩ => by
    cases r with
    | nil => exact q.elim
    | @cons v d vs ds a b =>
      refine ⟨v, vs, rfl, κ, w, s, d, ok, a, ?_⟩
      have q : PostT G (is ++ is') σ κ w ((g d s).bind fun _ s1 => k ds s1) Q := q
      cases e : g d s with
      | stuck => rw [e] at q; exact q.elim
      | exc x s' => rw [e] at q; exact q.elim
      | ok u s' =>
        rw [e] at q
        intro w' σ' H' l o hσ
        refine ⟨κ, w', s', ds, o, b.mono l, ?_⟩
        have q : PostT G (is ++ is') σ κ w (k ds s') Q := q
        cases e2 : k ds s' with
        | stuck => rw [e2] at q; exact q.elim
        | exc x s' => rw [e2] at q; exact q.elim
        | ok u s2 =>
          rw [e2] at q
          exact fun w2 σ2 H2 l2 o2 h2 => q w2 σ2 H2 (l.trans l2) o2 ⟨h2.1.trans hσ.1, fun i hi => (h2.2 i fun z => hi (List.mem_append_right _ z)).trans (hσ.2 i fun z => hi (List.mem_append_left _ z))⟩
def gT (n : Nat) (g : List D → DS → Res DS Unit) : DG := fun d s => match d with
  | .tup ds => if ds.length = n then g ds s else .stuck
  | _ => .stuck
theorem pdg_tup (hK : G.K = X.K) {es : List Expr} {is : List Nat} {k : Nat} {g : List D → DS → Res DS Unit} {n : Nat} {pos : Pos} (hc : X.calm = true) (h : PDGs G X es is g)
    (hn : (assignEach es X.env).length = n := by rfl) (hst : (assignEach es X.env).findIdx? (·.1) = none := by rfl) : PDG G X (.Tuple es k pos) is (gT n g) :=
  (pg_tup hc h hn hst).imp fun v σ H Q ⟨κ, w, s, d, ok, r, q⟩ => by
    cases r with
    | @tup a vs ds e r =>
      by_cases c : ds.length = n
      · have q : PostT G is σ κ w (if ds.length = n then g ds s else .stuck) Q := q
        rw [if_pos c] at q
        refine ⟨a, vs, rfl, hK ▸ SqT.le e ok.fok.sub, by rw [r.length]; exact c, κ, w, s, ds, ok, r, q⟩
      · have q : PostT G is σ κ w (if ds.length = n then g ds s else .stuck) Q := q
        rw [if_neg c] at q
        exact q.elim
    | _ => exact q.elim
def sAsg (f : DE) (g : DG) : DStm := fun s => (f s).bind fun d s1 => (g d s1).bind fun _ s2 => .ok .nx s2
theorem PostT.toS {is : List Nat} {σ : L2.St} {κ : Bs} {w : Wd} {r : Res DS Unit} {N : Ends} {Wx : WX} (h : PostS G Wx κ w (r.bind fun _ s2 => .ok .nx s2) N) (hx : ∀ x s, r ≠ .exc x s) : PostT G is σ κ w r N.nx := by
  cases r with
  | stuck => exact h
  | exc x s' => exact absurd rfl (hx x s')
  | ok u s' => exact fun w' σ' H' l o _ => h w' σ' H' l o
def noX {σ α : Type} (r : Res σ α) : Res σ α := match r with
  | .exc _ _ => .stuck
  | r => r
theorem noX_exc {σ α : Type} (r : Res σ α) : ∀ x s, noX r ≠ .exc x s := fun x s h => by cases r <;> cases h
def sAsgT (f : DE) (g : DG) : DStm := fun s => (f s).bind fun d s1 => (noX (g d s1)).bind fun _ s2 => .ok .nx s2
theorem PostT.ofNoX {is : List Nat} {σ : L2.St} {κ : Bs} {w : Wd} {r : Res DS Unit} {Q : L2.St → Hp → Prop} (h : PostT G is σ κ w (noX r) Q) : PostT G is σ κ w r Q := by
  cases r with
  | stuck => exact h
  | exc x s' => exact h
  | ok u s' => exact h
theorem pds_asg {tg e : Expr} {f : DE} {is : List Nat} {g : DG} {pos : Pos} (he : PD G W X e f) (hg : PDG G X tg is g) (hs : swapsWithSole [tg] e pos.line X.env = pure false := by rfl) (hw : swappedStores [tg] e X.env = pure none := by rfl)
    (h1 : (assignEach [tg] X.env).map (·.2) = [assign tg X.env] := by rfl) : PDS G W X (.Assign [tg] e pos) (sAsgT f g) :=
  (ps_asg he hg hs hw h1).imp fun N σ H ⟨κ, w, s, ok, q⟩ => ⟨κ, w, s, ok, (PostG.bindS q).imp fun v H1 ⟨d, s1, w1, le, ok1, r1, q1⟩ =>
    ⟨κ, w1, s1, d, ok1, r1, PostT.ofNoX (PostT.toS q1 (noX_exc _))⟩⟩
/-- a, b = x, y with plain locals -/
def sPar (i j : Nat) (f : DA) : DStm := fun s => (f s).bind fun ds s1 => match ds with
  | [x, y] => .ok .nx ⟨(s1.sl.set i (.val x)).set j (.val y), s1.st⟩
  | _ => .stuck
theorem pds_par {i j : Nat} {x y : Str} {a b : Expr} {f : DA} {px py pt pos : Pos} {kt k2 : Nat} {pt2 : Pos} (hc : X.calm = true) (hN : X.N.Nodup) (hi : X.N[i]? = some x) (hj : X.N[j]? = some y) (hij : i ≠ j)
    (hx : X.env.scope.names.lookup x = some .local) (hy : X.env.scope.names.lookup y = some .local) (ha : PDA G W X [a, b] f)
    (hw : swappedStores [.Tuple [.Name x px, .Name y py] kt pt] (.Tuple [a, b] k2 pt2) X.env = pure (some [x, y]))
    (hs : swapsWithSole [.Tuple [.Name x px, .Name y py] kt pt] (.Tuple [a, b] k2 pt2) pos.line X.env = pure false := by rfl) :
    PDS G W X (.Assign [.Tuple [.Name x px, .Name y py] kt pt] (.Tuple [a, b] k2 pt2) pos) (sPar i j f) :=
  (ps_par hc hN hi hj hij hx hy ha hw hs).imp fun N σ H ⟨κ, w, s, ok, q⟩ => ⟨κ, w, s, ok, (PostG.bindS q).imp fun v H1 ⟨d, s1, w1, le, ok1, r1, q1⟩ => by
    cases r1 with
    | nil => exact q1.elim
    | cons a b =>
      cases b with
      | nil => exact q1.elim
      | cons a2 b2 =>
        cases b2 with
        | nil => exact ⟨_, _, rfl, q1 w1 _ H1 (.refl _) ((ok1.setVal a i).setVal a2 j)⟩
        | cons _ _ => exact q1.elim⟩
/-! ### loops -/
def loopOut (r : Res DS Out) (k : DS → Res DS Out) : Res DS Out := match r with
  | .ok .nx s2 => k s2
  | .ok .ct s2 => k s2
  | .ok .bk s2 => .ok .nx s2
  | r => r
def runW (c : DT) (b : DStm) : Nat → DS → Res DS Out
  | 0, _ => .stuck
  | n + 1, s => (c s).bind fun t s1 => if t = true then loopOut (b s1) (runW c b n) else .ok .nx s1
theorem runW_mono (c : DT) (b : DStm) : ∀ (n : Nat) (s : DS), runW c b n s ≠ .stuck → runW c b (n + 1) s = runW c b n s
  | 0, s, h => absurd rfl h
  | n + 1, s, h => by
    show (c s).bind (fun t s1 => if t = true then loopOut (b s1) (runW c b (n + 1)) else .ok .nx s1) = (c s).bind fun t s1 => if t = true then loopOut (b s1) (runW c b n) else .ok .nx s1
    have h : (c s).bind (fun t s1 => if t = true then loopOut (b s1) (runW c b n) else .ok .nx s1) ≠ .stuck := h
    cases e : c s with
    | stuck => rfl
    | exc x s' => rfl
    | ok t s1 =>
      rw [e] at h
      rw [Res.bind_ok] at h ⊢
      rw [Res.bind_ok]
      cases t with
      | false => rfl
      | true =>
        rw [if_pos rfl] at h ⊢
        rw [if_pos rfl]
        cases e2 : b s1 with
        | stuck => rfl
        | exc x s' => rfl
        | ok o s2 =>
          rw [e2] at h
          cases o with
          | nx => exact runW_mono c b n s2 h
          | ct => exact runW_mono c b n s2 h
          | bk => rfl
          | rt d => rfl
theorem runW_le (c : DT) (b : DStm) {n m : Nat} {s : DS} (hnm : n ≤ m) (h : runW c b n s ≠ .stuck) : runW c b m s = runW c b n s := by
  induction hnm with
  | refl => rfl
  | step hk ih => rw [runW_mono c b _ s (by rw [ih]; exact h), ih]
open Classical in
noncomputable def sWhile (c : DT) (b : DStm) : DStm := fun s => if h : ∃ n, runW c b n s ≠ .stuck then runW c b h.choose s else .stuck
theorem sWhile_of {c : DT} {b : DStm} {s : DS} (n : Nat) (h : runW c b n s ≠ .stuck) : sWhile c b s = runW c b n s := by
  have ex : ∃ n, runW c b n s ≠ .stuck := ⟨n, h⟩
  unfold sWhile
  rw [dif_pos ex]
  rcases Nat.le_total n ex.choose with z | z
  · exact runW_le c b z h
  · exact (runW_le c b z ex.choose_spec).symm
theorem sWhile_eq (c : DT) (b : DStm) (s : DS) : sWhile c b s = (c s).bind fun t s1 => if t = true then loopOut (b s1) (sWhile c b) else .ok .nx s1 := by
  have key : ∀ n, runW c b (n + 1) s ≠ .stuck → sWhile c b s = (c s).bind fun t s1 => if t = true then loopOut (b s1) (sWhile c b) else .ok .nx s1 := fun n h => by
    rw [sWhile_of (n + 1) h]
    have h : (c s).bind (fun t s1 => if t = true then loopOut (b s1) (runW c b n) else .ok .nx s1) ≠ .stuck := h
    show (c s).bind (fun t s1 => if t = true then loopOut (b s1) (runW c b n) else .ok .nx s1) = _
    cases e : c s with
    | stuck => rfl
    | exc x s' => rfl
    | ok t s1 =>
      rw [e] at h
      rw [Res.bind_ok] at h ⊢
      rw [Res.bind_ok]
      cases t with
      | false => rfl
      | true =>
        rw [if_pos rfl] at h ⊢
        rw [if_pos rfl]
        cases e2 : b s1 with
        | stuck => rfl
        | exc x s' => rfl
        | ok o s2 =>
          rw [e2] at h
          cases o with
          | nx => exact (sWhile_of n h).symm
          | ct => exact (sWhile_of n h).symm
          | bk => rfl
          | rt d => rfl
  by_cases ex : ∃ n, runW c b n s ≠ .stuck
  · obtain ⟨n, h⟩ := ex
    cases n with
    | zero => exact absurd rfl h
    | succ n => exact key n h
  · have all : ∀ n, runW c b n s = .stuck := fun n => Classical.byContradiction fun h => ex ⟨n, h⟩
    have l : sWhile c b s = .stuck := by
      unfold sWhile
      rw [dif_neg ex]
    rw [l]
    have a1 := all 1
    cases e : c s with
    | stuck => rfl
    | exc x s' =>
      have a1 : (c s).bind (fun t s1 => if t = true then loopOut (b s1) (runW c b 0) else .ok .nx s1) = .stuck := a1
      rw [e] at a1
      cases a1
    | ok t s1 =>
      rw [Res.bind_ok]
      cases t with
      | false =>
        have a1 : (c s).bind (fun t s1 => if t = true then loopOut (b s1) (runW c b 0) else .ok .nx s1) = .stuck := a1
        rw [e] at a1
        cases a1
      | true =>
        rw [if_pos rfl]
        have an : ∀ n, loopOut (b s1) (runW c b n) = .stuck := fun n => by
          have := all (n + 1)
          have a1 : (c s).bind (fun t s1 => if t = true then loopOut (b s1) (runW c b n) else .ok .nx s1) = .stuck := this
          rw [e] at a1
          exact a1
        cases e2 : b s1 with
        | stuck => rfl
        | exc x s' => have := an 0; rw [e2] at this; cases this
        | ok o s2 =>
          have nn : ∀ n, loopOut (.ok o s2) (runW c b n) = .stuck := fun n => by rw [← e2]; exact an n
          have un : (∀ n, runW c b n s2 = .stuck) → sWhile c b s2 = .stuck := fun q => by
            unfold sWhile
            rw [dif_neg fun ⟨n, h⟩ => h (q n)]
          cases o with
          | nx => exact (un nn).symm
          | ct => exact (un nn).symm
          | bk => cases nn 0
          | rt d => cases nn 0
theorem pds_while {c : Expr} {body : List Stmt} {fc : DT} {fb : DStm} {pos : Pos} (hp : PassesOwn (model X.prog X.w) X.A X.env X.xe) (hc : PDT G W X c fc) (hb : PDSs G W X body fb) : PDS G W X (.While c body [] pos) (sWhile fc fb) :=
  (ps_while hp hc hb).imp fun N σ H ⟨κ, w, s, ok, q⟩ => by
    by_cases ex : ∃ n, runW fc fb n s ≠ .stuck
    · obtain ⟨n, hn⟩ := ex
      rw [sWhile_of n hn] at q
      refine ⟨fun m σ H => ∃ w' s', w.le w' ∧ Ok G κ w' s' σ H ∧ PostS G W κ w' (runW fc fb m s') N, ⟨n, w, s, .refl _, ok, q⟩, fun m σ' H' ⟨w', s', le, ok', q'⟩ => ?_⟩
      cases m with
      | zero => exact q'.elim
      | succ m =>
        refine ⟨κ, w', s', ok', (PostG.bindS q').imp fun v H1 ⟨d, s1, w1, le1, ok1, r1, q1⟩ => ?_⟩
        subst r1
        cases v with
        | false => exact q1 w1 σ' H1 (.refl _) ok1
        | true =>
          refine ⟨fun σ2 H2 => ∃ w2 s2, w.le w2 ∧ Ok G κ w2 s2 σ2 H2 ∧ PostS G W κ w2 (runW fc fb m s2) N, fun σ2 H2 z => ⟨m, Nat.lt_succ_self _, z⟩, κ, w1, s1, ok1, ?_⟩
          have q1 : PostS G W κ w1 (loopOut (fb s1) (runW fc fb m)) N := q1
          cases e : fb s1 with
          | stuck => rw [e] at q1; exact q1.elim
          | exc x s' => rw [e] at q1; exact q1
          | ok o s2 =>
            rw [e] at q1
            cases o with
            | nx => exact fun w2 σ2 H2 l o => ⟨w2, s2, (le.trans le1).trans l, o, PostS.mono l q1⟩
            | ct => exact fun w2 σ2 H2 l o => ⟨w2, s2, (le.trans le1).trans l, o, PostS.mono l q1⟩
            | bk => exact q1
            | rt d => exact q1
    · unfold sWhile at q
      rw [dif_neg ex] at q
      exact q.elim
/-! ### what a for walks -/
section
variable (G : Gam) (W : WX)
def ItOk (w : Wd) (J : It) (items : List D) : Prop := ∀ (w1 : Wd) (S : List Cell) (H : Hp), w.le w1 → FOk G w1 S H → ∀ i : Nat,
  (∀ d, items[i]? = some d → J.go i H ∧ ∀ x H', J.yld i H x H' → ∃ w2, Nx w1 H w2 H' ∧ FOk G w2 S H' ∧ Rep G w2 x d) ∧ (items[i]? = none → J.stop i H)
def PostI (κ : Bs) (w : Wd) (σ : L2.St) (r : Res DS (List D)) (R : It → Hp → Prop) : Prop := match r with
  | .ok ds s' => ∀ w' J H', w.le w' → Ok G κ w' s' σ H' → ItOk G w' J ds → R J H'
  | .exc x s' => ∀ w' c dd H', w.le w' → Ok G κ w' s' σ H' → RepX G w' c dd x → W c dd σ H'
  | .stuck => False
def tDI (f : DA) : TI := fun σ H R => ∃ κ w s, Ok G κ w s σ H ∧ PostI G W κ w σ (f s) R
end
theorem _root_.L2.PI.imp {X : Cx} {tg e : Expr} {t t' : TI} (h : PI X tg e t) (k : ∀ σ H R, t' σ H R → t σ H R) : PI X tg e t' := ⟨fun pins s σ H R I q => h.run pins s σ H R I (k σ H R q)⟩
abbrev PDI (G : Gam) (W : WX) (X : Cx) (tg e : Expr) (f : DA) : Prop := PI X tg e (tDI G W f)
theorem PostI.mono {κ : Bs} {w w1 : Wd} {σ : L2.St} {r : Res DS (List D)} {R : It → Hp → Prop} (le : w.le w1) (h : PostI G W κ w σ r R) : PostI G W κ w1 σ r R := by
  cases r with
  | ok d s' => exact fun w' J H' l o g => h w' J H' (le.trans l) o g
  | exc x s' => exact fun w' c dd H' l o r => h w' c dd H' (le.trans l) o r
  | stuck => exact h
theorem PostG.bindI {α β : Type} {rep : Wd → β → α → Prop} {κ : Bs} {w : Wd} {σ : L2.St} {r : Res DS α} {k : α → DS → Res DS (List D)} {Q : It → Hp → Prop} (h : PostI G W κ w σ (r.bind k) Q) :
    PostG G W rep κ w σ r (fun v H1 => ∃ d s1 w1, w.le w1 ∧ Ok G κ w1 s1 σ H1 ∧ rep w1 v d ∧ PostI G W κ w1 σ (k d s1) Q) := by
  cases r with
  | ok d s' => exact fun w' v H' l o r => ⟨d, s', w', l, o, r, PostI.mono l h⟩
  | exc x s' => exact h
  | stuck => exact h
/-- the items of a list; of a tuple -/
def itL (f : DE) : DA := fun s => (f s).bind fun d s1 => match d with
  | .lst xs => .ok xs s1
  | .scr xs => .ok xs s1
  | _ => .stuck
def itT (f : DE) : DA := fun s => (f s).bind fun d s1 => match d with
  | .tup xs => .ok xs s1
  | _ => .stuck
theorem itOk_list (hK : G.K = X.K) {w : Wd} {a : Addr} {vs : List V} {ds : List D} (e : SqL G.K w.F a vs) (un : ∀ (H : Hp) ys, SqL X.K H a vs → SqL X.K H a ys → vs = ys → True) (r : Reps G w vs ds) (inj : ∀ (H : Hp), SqL X.K H a vs → True) : ItOk G w (Itl X.K a) ds := by
  intro w1 S H le fok i
  have q : SqL X.K H a vs := hK ▸ SqL.le (SqL.le e le.f) fok.sub
  refine ⟨fun d hd => ?_, fun hn => ?_⟩
  · obtain ⟨y, h1, h2⟩ := r.get hd
    refine ⟨⟨vs, y, q, h1⟩, fun x H' ⟨hH, hx⟩ => ⟨w1, ?_, ?_, ?_⟩⟩
    · rw [hH]; exact .refl _ _
    · rw [hH]; exact fok
    · have := hx vs q
      rw [h1] at this
      cases this
      exact h2.mono le
  · refine ⟨vs, q, ?_⟩
    rw [r.length]
    exact List.getElem?_eq_none_iff.mp hn
theorem itOk_tup (hK : G.K = X.K) {w : Wd} {a : Addr} {vs : List V} {ds : List D} (e : SqT G.K w.F a vs) (r : Reps G w vs ds) : ItOk G w (Itt X.K a) ds := by
  intro w1 S H le fok i
  have q : SqT X.K H a vs := hK ▸ SqT.le (SqT.le e le.f) fok.sub
  refine ⟨fun d hd => ?_, fun hn => ?_⟩
  · obtain ⟨y, h1, h2⟩ := r.get hd
    refine ⟨⟨vs, y, q, h1⟩, fun x H' ⟨hH, hx⟩ => ⟨w1, ?_, ?_, ?_⟩⟩
    · rw [hH]; exact .refl _ _
    · rw [hH]; exact fok
    · have := hx vs q
      rw [h1] at this
      cases this
      exact h2.mono le
  · refine ⟨vs, q, ?_⟩
    rw [r.length]
    exact List.getElem?_eq_none_iff.mp hn
theorem pdi_list (hK : G.K = X.K) {tg e : Expr} {f : DE} (h : PD G W X e f) : PDI G W X tg e (itL f) :=
  (pi_list h).imp fun σ H R ⟨κ, w, s, ok, q⟩ => ⟨κ, w, s, ok, (PostG.bindI q).imp fun v H1 ⟨d, s1, w1, le, ok1, r1, q1⟩ => by
    cases r1 with
    | @lst a vs ds e r =>
      have e' : SqL G.K w1.F a vs := .inl (.inl e)
      exact ⟨a, rfl, ⟨vs, hK ▸ SqL.le e' ok1.fok.sub⟩, q1 w1 _ H1 (.refl _) ok1 (itOk_list hK e' (fun _ _ _ _ _ => trivial) r fun _ _ => trivial)⟩
    | @scr a vs ds e r =>
      exact ⟨a, rfl, ⟨vs, hK ▸ SqL.le e ok1.fok.sub⟩, q1 w1 _ H1 (.refl _) ok1 (itOk_list hK e (fun _ _ _ _ _ => trivial) r fun _ _ => trivial)⟩
    | _ => exact q1.elim⟩
theorem pdi_tup (hK : G.K = X.K) {tg e : Expr} {f : DE} (h : PD G W X e f) : PDI G W X tg e (itT f) :=
  (pi_tup h).imp fun σ H R ⟨κ, w, s, ok, q⟩ => ⟨κ, w, s, ok, (PostG.bindI q).imp fun v H1 ⟨d, s1, w1, le, ok1, r1, q1⟩ => by
    cases r1 with
    | @tup a vs ds e r => exact ⟨a, rfl, ⟨vs, hK ▸ SqT.le e ok1.fok.sub⟩, q1 w1 _ H1 (.refl _) ok1 (itOk_tup hK e r)⟩
    | _ => exact q1.elim⟩
/-- range -/
def rngL (lo : Int) (n : Nat) : List D := (List.range n).map fun (i : Nat) => D.int (lo + (i : Int))
theorem itOk_rng {w : Wd} (lo : Int) (n : Nat) : ItOk G w (Itr lo n) (rngL lo n) := by
  intro w1 S H le fok i
  refine ⟨fun d hd => ?_, fun hn => ?_⟩
  · unfold rngL at hd
    rw [List.getElem?_map] at hd
    by_cases c : i < n
    · rw [List.getElem?_range c] at hd
      cases hd
      refine ⟨c, fun x H' ⟨hH, hx⟩ => ⟨w1, ?_, ?_, ?_⟩⟩
      · rw [hH]; exact .refl _ _
      · rw [hH]; exact fok
      · rw [hx]; exact .int _
    · rw [List.getElem?_eq_none (by rw [List.length_range]; omega)] at hd
      cases hd
  · have := List.getElem?_eq_none_iff.mp hn
    unfold rngL at this
    rw [List.length_map, List.length_range] at this
    exact this
def itR1 (f : DA) : DA := fun s => (f s).bind fun ds s1 => match ds with
  | [.int j] => if -(2 ^ 62) ≤ j ∧ j < 2 ^ 62 then .ok (rngL 0 j.toNat) s1 else .stuck
  | _ => .stuck
def itR2 (f : DA) : DA := fun s => (f s).bind fun ds s1 => match ds with
  | [.int i, .int j] => if -(2 ^ 62) ≤ i ∧ i < 2 ^ 62 ∧ -(2 ^ 62) ≤ j ∧ j < 2 ^ 62 then .ok (rngL i (j - i).toNat) s1 else .stuck
  | _ => .stuck
theorem pdi_range1 {tg a : Expr} {f : DA} {p pos : Pos} (hg : Gl X "range") (hm : X.mg "range" = none) (ha : PDA G W X [a] f) (hs : starEach [a] X.env = [(false, eval a X.env)] := by rfl) : PDI G W X tg (.Call (.Name "range" p) [a] [] pos) (itR1 f) :=
  (pi_range1 hg hm ha hs).imp fun σ H R ⟨κ, w, s, ok, q⟩ => ⟨κ, w, s, ok, (PostG.bindI q).imp fun v H1 ⟨d, s1, w1, le, ok1, r1, q1⟩ => by
    cases r1 with
    | nil => exact q1.elim
    | cons a b =>
      cases b with
      | cons _ _ => cases a <;> exact q1.elim
      | nil =>
        cases a with
        | int j =>
          have q1 : PostI G W κ w1 σ (if -(2 ^ 62) ≤ j ∧ j < 2 ^ 62 then .ok (rngL 0 j.toNat) s1 else .stuck) R := q1
          by_cases c : -(2 ^ 62) ≤ j ∧ j < 2 ^ 62
          · rw [if_pos c] at q1
            exact ⟨j, rfl, c.1, c.2, q1 w1 _ H1 (.refl _) ok1 (itOk_rng 0 _)⟩
          · rw [if_neg c] at q1
            exact q1.elim
        | _ => exact q1.elim⟩
theorem pdi_range2 {tg a b : Expr} {f : DA} {p pos : Pos} (hg : Gl X "range") (hm : X.mg "range" = none) (ha : PDA G W X [a, b] f) (hs : starEach [a, b] X.env = [(false, eval a X.env), (false, eval b X.env)] := by rfl) (hs2 : starEach [b] X.env = [(false, eval b X.env)] := by rfl) :
    PDI G W X tg (.Call (.Name "range" p) [a, b] [] pos) (itR2 f) :=
  (pi_range2 hg hm ha hs hs2).imp fun σ H R ⟨κ, w, s, ok, q⟩ => ⟨κ, w, s, ok, (PostG.bindI q).imp fun v H1 ⟨d, s1, w1, le, ok1, r1, q1⟩ => by
    cases r1 with
    | nil => exact q1.elim
    | cons a b =>
      cases b with
      | nil => cases a <;> exact q1.elim
      | cons a2 b2 =>
        cases b2 with
        | cons _ _ => cases a <;> first | exact q1.elim | (cases a2 <;> exact q1.elim)
        | nil =>
          cases a with
          | int i =>
            cases a2 with
            | int j =>
              have q1 : PostI G W κ w1 σ (if -(2 ^ 62) ≤ i ∧ i < 2 ^ 62 ∧ -(2 ^ 62) ≤ j ∧ j < 2 ^ 62 then .ok (rngL i (j - i).toNat) s1 else .stuck) R := q1
              by_cases c : -(2 ^ 62) ≤ i ∧ i < 2 ^ 62 ∧ -(2 ^ 62) ≤ j ∧ j < 2 ^ 62
              · rw [if_pos c] at q1
                exact ⟨i, j, rfl, c, q1 w1 _ H1 (.refl _) ok1 (itOk_rng i _)⟩
              · rw [if_neg c] at q1
                exact q1.elim
            | _ => exact q1.elim
          | _ => exact q1.elim⟩
/-! ### for -/
def forL (g : DG) (b : DStm) : List D → DS → Res DS Out
  | [], s => .ok .nx s
  | d :: r, s => (noX (g d s)).bind fun _ s1 => loopOut (b s1) (forL g b r)
def sFor (it : DA) (g : DG) (b : DStm) : DStm := fun s => (it s).bind fun ds s1 => forL g b ds s1
theorem drop_get {α : Type} {l : List α} {i : Nat} {d : α} {r : List α} (h : l.drop i = d :: r) : l[i]? = some d ∧ l.drop (i + 1) = r := by
  refine ⟨?_, ?_⟩
  · have := congrArg (fun l => l[0]?) h
    simpa using this
  · have := congrArg List.tail h
    simpa using this
theorem for_of {is : List Nat} {κ : Bs} {w : Wd} {J : It} {g : DG} {b : DStm} {N : Ends} {items : List D} (hJ : ItOk G w J items) {w0 : Wd} {s : DS} {σ : L2.St} {H : Hp} (le : w.le w0) (ok : Ok G κ w0 s σ H) (q : PostS G W κ w0 (forL g b items s) N) :
    ∃ Wv : Nat → Nat → L2.St → Hp → Prop, (∃ m, Wv 0 m σ H) ∧ ∀ i m σ H, Wv i m σ H →
      (J.stop i H ∧ N.nx σ H) ∨ (J.go i H ∧ ∃ N' : L2.St → Hp → Prop, (∀ σ' H', N' σ' H' → ∃ m', m' < m ∧ Wv (i + 1) m' σ' H') ∧ ∀ x H', J.yld i H x H' → tDG G is g x σ H' fun σ2 H2 => tDS G W b { N with nx := N', ct := N', bk := N.nx } σ2 H2) := by
  refine ⟨fun i m σ H => ∃ w' s', w.le w' ∧ Ok G κ w' s' σ H ∧ (items.drop i).length = m ∧ PostS G W κ w' (forL g b (items.drop i) s') N, ⟨items.length, w0, s, le, ok, by simp, by simpa using q⟩, ?_⟩
  rintro i m σ H ⟨w', s', le', ok', hm, q'⟩
  cases e : items.drop i with
  | nil =>
    rw [e] at q'
    have hn : items[i]? = none := by
      have := congrArg (fun l => l[0]?) e
      simpa using this
    exact .inl ⟨(hJ w' _ H le' ok'.fok i).2 hn, q' w' σ H (.refl _) ok'⟩
  | cons d r =>
    rw [e] at q' hm
    obtain ⟨h1, h2⟩ := drop_get e
    obtain ⟨go, yl⟩ := (hJ w' _ H le' ok'.fok i).1 d h1
    refine .inr ⟨go, fun σ2 H2 => ∃ w2 s2, w.le w2 ∧ Ok G κ w2 s2 σ2 H2 ∧ PostS G W κ w2 (forL g b r s2) N, fun σ2 H2 ⟨w2, s2, l2, o2, q2⟩ => ?_, fun x H' hy => ?_⟩
    · refine ⟨r.length, by rw [← hm]; exact Nat.lt_succ_self _, w2, s2, l2, o2, by rw [h2], by rw [h2]; exact q2⟩
    · obtain ⟨w2, nx, fok, rx⟩ := yl x H' hy
      have ok2 := ok'.step nx fok
      refine ⟨κ, w2, s', d, ok2, rx, ?_⟩
      have q' : PostS G W κ w' ((noX (g d s')).bind fun _ s1 => loopOut (b s1) (forL g b r)) N := q'
      refine PostT.ofNoX ?_
      cases e3 : noX (g d s') with
      | stuck => rw [e3] at q'; exact q'.elim
      | exc x s' => exact absurd e3 (noX_exc _ _ _)
      | ok u s3 =>
        rw [e3] at q'
        intro w3 σ3 H3 l3 o3 _
        refine ⟨κ, w3, s3, o3, ?_⟩
        have q' : PostS G W κ w' (loopOut (b s3) (forL g b r)) N := q'
        have lw : w'.le w3 := nx.le.trans l3
        cases e4 : b s3 with
        | stuck => rw [e4] at q'; exact q'.elim
        | exc x s4 => rw [e4] at q'; exact PostS.mono (r := .exc x s4) lw q'
        | ok o s4 =>
          rw [e4] at q'
          cases o with
          | nx => exact fun w4 σ4 H4 l4 o4 => ⟨w4, s4, (le'.trans lw).trans l4, o4, PostS.mono (lw.trans l4) q'⟩
          | ct => exact fun w4 σ4 H4 l4 o4 => ⟨w4, s4, (le'.trans lw).trans l4, o4, PostS.mono (lw.trans l4) q'⟩
          | bk => exact PostS.mono (r := .ok .nx s4) lw q'
          | rt d => exact PostS.mono (r := .ok (.rt d) s4) lw q'
theorem pds_for {tg iter : Expr} {body : List Stmt} {it : DA} {is : List Nat} {g : DG} {b : DStm} {pos : Pos} (hp : PassesOwn (model X.prog X.w) X.A X.env X.xe) (hc : X.calm = true) (hi : PDI G W X tg iter it) (hg : PDG G X tg is g) (hb : PDSs G W X body b)
    (hs : ∀ x, foldedSetIterable iter X.env x = pure x := by intro _; rfl) : PDS G W X (.For tg iter body [] pos) (sFor it g b) :=
  (ps_for hp hc hi hg hb hs).imp fun N σ H ⟨κ, w, s, ok, q⟩ => ⟨κ, w, s, ok, by
    unfold sFor at q
    cases e : it s with
    | stuck => rw [e] at q; exact q.elim
    | exc x s' =>
      rw [e] at q
      exact fun w' c dd H' l o r => q w' σ c dd H' l o r
    | ok ds s' =>
      rw [e] at q
      intro w' J H' l o hJ
      exact for_of hJ (.refl _) o (PostS.mono l q)⟩
end
end DL
set_option maxRecDepth 100000
set_option maxHeartbeats 4000000
set_option autoImplicit false
namespace DL
open PySem PySem.Spec PyProof.Rows L2
/-! ### what a def promises -/
section
variable (G : Gam)
def PostF {α : Type} (rep : Wd → V → α → Prop) (w : Wd) (H : Hp) (r : Res (List Cell) α) (Q : VK) (E : XK) : Prop := match r with
  | .ok d S' => ∀ w' v H', Nx w H w' H' → FOk G w' S' H' → rep w' v d → Q v H'
  | .exc x S' => ∀ w' c dd H', Nx w H w' H' → FOk G w' S' H' → RepX G w' c dd x → E c dd H'
  | .stuck => False
def spG (n : Nat) (g : DFn) : Sp := fun vs H Q E => vs.length = n ∧ ∃ w S ds, FOk G w S H ∧ Reps G w vs ds ∧ PostF G (Rep G) w H (g ds S) Q E
end
def lift {α : Type} (s : DS) (r : Res (List Cell) α) : Res DS α := match r with
  | .ok d S' => .ok d ⟨s.sl, S'⟩
  | .exc x S' => .exc x ⟨s.sl, S'⟩
  | .stuck => .stuck
section
variable {G : Gam} {W : WX} {X : Cx}
theorem postF_of {κ : Bs} {w : Wd} {s : DS} {σ : L2.St} {H : Hp} {r : Res (List Cell) D} {Q : VK} (ok : Ok G κ w s σ H) (q : PostG G W (Rep G) κ w σ (lift s r) Q) : PostF G (Rep G) w H r Q (WE W σ) := by
  cases r with
  | ok d S' => exact fun w' v H' n f r => q w' v H' n.le (ok.step n f) r
  | exc x S' => exact fun w' c dd H' n f r => q w' c dd H' n.le (ok.step n f) r
  | stuck => exact q
theorem callD {k : Nat} {f : Addr} {fd : FuncData} {ps : List Str} {n : Nat} {g : DFn} {pins : List (Addr × Obj)} {sh : Shared} {κ : Bs} {w : Wd} {s : DS} {σ : L2.St} {H : Hp} {vs : List V} {ds : List D} {us : List Value} {Q : VK}
    (F : FnOk X.prog X.w X.K X.mg X.base (L2.CX X.prog X.w) k f fd ps (spG G n g)) (hr : Room k X.A) (hb : Binds X.K fd ps []) (tk : Takes X W) (I : Inv X pins σ H sh) (ok : Ok G κ w s σ H) (rs : Reps G w vs ds) (r : Vals vs us) (hn : ds.length = n)
    (q : PostG G W (Rep G) κ w σ (lift s (g ds s.st)) Q) : wpAny (model X.prog X.w) X.A (call (.ref f) us) (EP X pins σ Q) X.xe sh := by
  refine run_fnSD (E := WE W) (dvs := []) (ds := []) F hr hb .nil (passAt tk σ) I r ?_
  rw [List.append_nil]
  exact ⟨by rw [rs.length]; exact hn, w, s.st, ds, ok.fok, rs, postF_of ok q⟩
/-! ### f(..) -/
def eCall (n : Nat) (g : DFn) (fa : DA) : DE := fun s => (fa s).bind fun ds s1 => if ds.length = n then lift s1 (g ds s1.st) else .stuck
theorem pd_call {k : Nat} {f : Addr} {fd : FuncData} {ps : List Str} {n : Nat} {g : DFn} {x : Str} {p pos : Pos} {e : Expr} {es : List Expr} {fa : DA} (F : FnOk X.prog X.w X.K X.mg X.base (L2.CX X.prog X.w) k f fd ps (spG G n g)) (hr : Room k X.A) (hg : Gl X x) (hm : X.mg x = some (.ref f))
    (hk : PySem.W.keepIn X.K (.ref f) = true) (hb : Binds X.K fd ps []) (tk : Takes X W) (ha : PDA G W X (e :: es) fa) (hdb : (x == ("__debug__" : Str)) = false := by decide) (he : starEach (e :: es) X.env = (false, eval e X.env) :: starEach es X.env := by rfl)
    (hpl : (backTo pos (starEach es X.env)).any (·.1) = false := by rfl) : PD G W X (.Call (.Name x p) (e :: es) [] pos) (eCall n g fa) := by
  refine ⟨fun pins s σ H Q I h => ?_⟩
  obtain ⟨κ, w, ds, ok, q⟩ := h
  refine wpAny_Call_Name_kw (ld_glob I hg hm ?_ hdb)
  have hh : tDA G W fa σ H fun vs H1 => ∃ d s1 w1, w.le w1 ∧ Ok G κ w1 s1 σ H1 ∧ Reps G w1 vs d ∧ PostG G W (Rep G) κ w1 σ (if d.length = n then lift s1 (g d s1.st) else .stuck) Q := ⟨κ, w, ds, ok, PostG.bind q⟩
  refine PySem.W.callWith_K (h₀ := X.base) I.ok.mod.kin hk (thn (ha.run pos pins s σ H _ I hh) fun us s1 ⟨vs, H1, I1, r, d, s2, w1, le, ok1, rs, q1⟩ => ⟨I1.kIn, ?_⟩) he hpl
  by_cases c : d.length = n
  · rw [if_pos c] at q1
    exact callD F hr hb tk I1 ok1 rs r c q1
  · rw [if_neg c] at q1
    exact q1.elim
theorem pd_call0 {k : Nat} {f : Addr} {fd : FuncData} {ps : List Str} {g : DFn} {x : Str} {p pos : Pos} (F : FnOk X.prog X.w X.K X.mg X.base (L2.CX X.prog X.w) k f fd ps (spG G 0 g)) (hr : Room k X.A) (hg : Gl X x) (hm : X.mg x = some (.ref f))
    (hk : PySem.W.keepIn X.K (.ref f) = true) (hb : Binds X.K fd ps []) (tk : Takes X W) (hdb : (x == ("__debug__" : Str)) = false := by decide) : PD G W X (.Call (.Name x p) [] [] pos) (eCall 0 g aNil) := by
  refine ⟨fun pins s σ H Q I h => ?_⟩
  obtain ⟨κ, w, ds, ok, q⟩ := h
  refine wpAny_Call_Name_kw (ld_glob I hg hm ?_ hdb)
  exact PySem.W.callWith_K0 I.kIn hk (callD (us := []) F hr hb tk I ok .nil .nil rfl q)
/-! ### the body of a def -/
def fnD (n : Nat) (body : DStm) (m : Nat) : DFn := fun ds S => if ds.length = n then match body ⟨ds.map Sl.val ++ List.replicate m .un, S⟩ with
  | .ok (.rt d) s => .ok d s.st
  | .ok .nx s => .ok .non s.st
  | .exc x s => .exc x s.st
  | _ => .stuck
  else .stuck
theorem Ok.start {w : Wd} {S : List Cell} {H : Hp} {vs : List V} {ds : List D} (f : FOk G w S H) (r : Reps G w vs ds) (m : Nat) : Ok G ⟨w, H, [], none⟩ w ⟨ds.map Sl.val ++ List.replicate m .un, S⟩ (vs.map some ++ List.replicate m none) H := by
  have no : ∀ (i : Nat) (x : Sl), (ds.map Sl.val ++ List.replicate m Sl.un)[i]? = some x → x.own = false := fun i x e => by
    have hx := List.mem_of_getElem? e
    rcases List.mem_append.mp hx with h | h
    · obtain ⟨d, _, rfl⟩ := List.mem_map.mp h
      rfl
    · rw [(List.mem_replicate.mp h).2]
      rfl
  refine ⟨f, .refl _ _, by simp [r.length], fun i d e => ?_, fun i x e o => ?_, fun i j x y a e1 e2 o1 o2 _ _ => ?_, fun p hp => by simp at hp, fun a z => nomatch z⟩
  · by_cases c : i < ds.length
    · have e1 : (ds.map Sl.val ++ List.replicate m Sl.un)[i]? = some (.val d) := e
      rw [List.getElem?_append_left (by rw [List.length_map]; exact c), List.getElem?_map] at e1
      cases q : ds[i]? with
      | none => rw [q] at e1; cases e1
      | some d' =>
        rw [q] at e1
        cases e1
        obtain ⟨v, h1, h2⟩ := r.get q
        refine ⟨v, ?_, h2⟩
        rw [List.getElem?_append_left (by rw [List.length_map, r.length]; exact c), List.getElem?_map, h1]
        rfl
    · have e1 : (ds.map Sl.val ++ List.replicate m Sl.un)[i]? = some (.val d) := e
      rw [List.getElem?_append_right (by rw [List.length_map]; omega), List.getElem?_replicate] at e1
      split at e1 <;> cases e1
  · rw [no i x e] at o; cases o
  · rw [no i x e1] at o1; cases o1
theorem start_eq {N : List Str} {vs : List V} {m : Nat} (h : N.length - vs.length = m) : L2.start N vs = vs.map some ++ List.replicate m none := by
  unfold L2.start
  rw [h]
theorem fn_okD {P : Program} {w0 : World} {mg : Str → Option Value} {base : Heap} {x qual : Str} {st : Stmt} {f : Addr} {fd : FuncData} {N ps : List Str} {k n m : Nat} {body : DStm} (F : Fun G.K x qual st f fd) (S : FnScope N ps (defScope st)) (hn : ps.length = n) (hm : N.length - n = m)
    (hbody : ∀ (cdv : Value) (A : Around) (outer : List Env) (s : Shared) (H : Hp) (E : XK), Room k (A.deeper (envOfC qual (defScope st) s.heap.objs.size f cdv)) →
      Takes (cxOf (L2.CX P w0) P w0 G.K mg base N qual (defScope st) f cdv A outer s H E) (fun c d _ H => E c d H) → PassesOwn (model P w0) (A.deeper (envOfC qual (defScope st) s.heap.objs.size f cdv)) (envOfC qual (defScope st) s.heap.objs.size f cdv) (cxOf (L2.CX P w0) P w0 G.K mg base N qual (defScope st) f cdv A outer s H E).xe →
      PDSs G (fun c d _ H => E c d H) (cxOf (L2.CX P w0) P w0 G.K mg base N qual (defScope st) f cdv A outer s H E) (defBody st) body) : FnOk P w0 G.K mg base (L2.CX P w0) (k + 1) f fd ps (spG G n (fnD n body m)) := by
  refine F.okX S (fun vs H Q E h => by rw [h.1, hn]) fun cdv A outer s H vs Q E hr h => ?_
  refine ⟨_, hbody cdv A outer s H E hr (takes_of rfl rfl rfl rfl) (passes_of rfl), ?_⟩
  obtain ⟨hl, w, S', ds, fok, rs, q⟩ := h
  have hd : ds.length = n := by rw [← rs.length]; exact hl
  unfold fnD at q
  rw [if_pos hd] at q
  rw [start_eq (m := m) (by rw [hl]; exact hm)]
  refine ⟨⟨w, H, [], none⟩, w, _, Ok.start fok rs m, ?_⟩
  cases e : body ⟨ds.map Sl.val ++ List.replicate m .un, S'⟩ with
  | stuck => rw [e] at q; exact q.elim
  | exc x s' =>
    rw [e] at q
    exact fun w' σ' c dd H' l o r => q w' c dd H' o.nx o.fok r
  | ok o s' =>
    rw [e] at q
    cases o with
    | nx => exact fun w' σ' H' l o => q w' .non H' o.nx o.fok .non
    | bk => exact q.elim
    | ct => exact q.elim
    | rt d => exact fun w' σ' v H' l o r => q w' v H' o.nx o.fok r
/-! ### attributes -/
def insOf (d : D) (s : DS) : Option (String × List (Nm × D)) := match d with
  | .ins c fs => some (c, fs)
  | .cell n => match s.st[n]? with
    | some (.obj c fs) => some (c, fs)
    | _ => none
  | _ => none
theorem Rep.ins_of {κ : Bs} {w : Wd} {s : DS} {σ : L2.St} {H : Hp} {v : V} {d : D} {c : String} {fs : List (Nm × D)} (r : Rep G w v d) (ok : Ok G κ w s σ H) (h : insOf d s = some (c, fs)) : ∃ a C dx vs, v = .ref a ∧ G.ct c = some C ∧ H a = some (.ins C dx vs) ∧ RepF G w vs fs := by
  cases r with
  | @ins a C dx c' vs ds e1 e2 e3 =>
    have h : some (c', ds) = some (c, fs) := h
    cases h
    exact ⟨a, C, dx, vs, rfl, e1, ok.fok.sub _ _ e2, e3⟩
  | @cell a n e =>
    unfold insOf at h
    cases q : s.st[n]? with
    | none => simp [q] at h
    | some c' =>
      cases c' with
      | obj cc ff =>
        simp only [q] at h
        cases h
        obtain ⟨C, dx, vs, h1, h2, h3⟩ := ok.fok.cel n a _ e q
        exact ⟨a, C, dx, vs, rfl, h1, h2, h3⟩
      | _ => simp [q] at h
  | _ => exact nomatch h
def eFld (cs : List String) (fn : Nm) (f : DE) : DE := fun s => (f s).bind fun d s1 => match insOf d s1 with
  | some (c, fs) => if c ∈ cs then match fs.lookup fn with
    | some x => .ok x s1
    | none => .stuck
    else .stuck
  | none => .stuck
/-- what of the text the classes must have for an attribute -/
def FldOk (G : Gam) (cs : List String) (fn : Nm) : Prop := ∀ c ∈ cs, ∀ C, G.ct c = some C → Cls G.K C ∧ NoAttr G.K C (nm fn)
theorem pd_fld (hK : G.K = X.K) {cs : List String} {fn : Nm} {f : DE} {e : Expr} {x : Str} {pos : Pos} (hx : x = nm fn) (ho : FldOk G cs fn) (h : PD G W X e f) (hb : attributeBase e x X.env (eval e X.env) = eval e X.env := by rfl) : PD G W X (.Attribute e x pos) (eFld cs fn f) :=
  (pe_fld h hb).imp fun σ H Q ⟨κ, w, s, ok, q⟩ => ⟨κ, w, s, ok, (PostG.bind q).imp fun v H1 ⟨d, s1, w1, le, ok1, r1, q1⟩ => by
    cases e1 : insOf d s1 with
    | none => rw [e1] at q1; exact q1.elim
    | some p =>
      obtain ⟨c, fs⟩ := p
      rw [e1] at q1
      obtain ⟨a, C, dx, vs, ev, hC, hH, rf⟩ := r1.ins_of ok1 e1
      have q1 : PostG G W (Rep G) κ w1 σ (if c ∈ cs then match fs.lookup fn with | some x => .ok x s1 | none => .stuck else .stuck) Q := q1
      by_cases hc : c ∈ cs
      · rw [if_pos hc] at q1
        cases e2 : fs.lookup fn with
        | none => rw [e2] at q1; exact q1.elim
        | some z =>
          rw [e2] at q1
          obtain ⟨y, h1, h2⟩ := rf.look e2
          obtain ⟨cl, na⟩ := ho c hc C hC
          refine ⟨a, C, dx, vs, y, ev, hH, hK ▸ cl, by rw [hx]; exact hK ▸ na, by rw [hx]; exact h1, q1 w1 y H1 (.refl _) ok1 h2⟩
      · rw [if_neg hc] at q1
        exact q1.elim⟩
/-! ### o.m(..) -/
def eMeth (c : String) (m : Nm) (n : Nat) (g : DFn) (fo : DE) (fa : DA) : DE := fun s => (fo s).bind fun d s1 => match insOf d s1 with
  | some (c', fs) => if c' = c ∧ fs.lookup m = none then (fa s1).bind fun ds s2 => if ds.length + 1 = n then lift s2 (g (d :: ds) s2.st) else .stuck
    else .stuck
  | none => .stuck
theorem pd_meth (hK : G.K = X.K) {c : String} {mn : Nm} {n : Nat} {g : DFn} {fo : DE} {fa : DA} {C f : Addr} {m : Str} {k : Nat} {fd : FuncData} {ps : List Str} {o e : Expr} {es : List Expr} {apos pos : Pos} {pl : Sem Bool} (he : PD G W X o fo) (hC : G.ct c = some C) (cl : Cls X.K C) (hmn : m = nm mn) (hm : Meth X.K C m f)
    (F : FnOk X.prog X.w X.K X.mg X.base (L2.CX X.prog X.w) k f fd ps (spG G n g)) (hr : Room k X.A) (hb : Binds X.K fd ps []) (tk : Takes X W) (ha : PDA G W X (e :: es) fa)
    (hst : starEach (e :: es) X.env = (false, eval e X.env) :: starEach es X.env := by rfl) (hpl : (backTo pos (starEach es X.env)).any (·.1) = false := by rfl)
    (ht : eval (.Call (.Attribute o m apos) (e :: es) [] pos) X.env = (do
      let ov ← eval o X.env
      standAt apos.atName
      let (f, first) ← holding [ov] (getMethod ov m pl)
      callWith pos f first (backTo pos (starEach (e :: es) X.env)) (backToKw pos (keywordEach [] X.env))) := by rfl) :
    PD G W X (.Call (.Attribute o m apos) (e :: es) [] pos) (eMeth c mn n g fo fa) := by
  refine ⟨fun pins sh σ H Q I h => ?_⟩
  obtain ⟨κ, w, s, ok, q⟩ := h
  have hh : tD G W fo σ H fun v H1 => ∃ d s1 w1, w.le w1 ∧ Ok G κ w1 s1 σ H1 ∧ Rep G w1 v d ∧ PostG G W (Rep G) κ w1 σ (match insOf d s1 with
    | some (c', fs) => if c' = c ∧ fs.lookup mn = none then (fa s1).bind fun ds s2 => if ds.length + 1 = n then lift s2 (g (d :: ds) s2.st) else .stuck else .stuck
    | none => .stuck) Q := ⟨κ, w, s, ok, PostG.bind q⟩
  refine PySem.W.methodCall_KW (pl := pl) (thn (he.run pins sh σ H _ I hh) fun u s1 ⟨x, H1, I1, rx, d, t1, w1, le, ok1, r1, q1⟩ => ?_) ht
  cases e1 : insOf d t1 with
  | none => rw [e1] at q1; exact q1.elim
  | some p =>
    obtain ⟨c', fs⟩ := p
    rw [e1] at q1
    replace q1 : PostG G W (Rep G) κ w1 σ (if c' = c ∧ fs.lookup mn = none then (fa t1).bind fun ds s2 => if ds.length + 1 = n then lift s2 (g (d :: ds) s2.st) else .stuck else .stuck) Q := q1
    by_cases hc : c' = c ∧ fs.lookup mn = none
    · rw [if_pos hc] at q1
      obtain ⟨rfl, hl⟩ := hc
      obtain ⟨a, C', dx, vs, ev, hC', hH, rf⟩ := r1.ins_of ok1 e1
      rw [hC] at hC'
      cases hC'
      subst ev
      obtain rfl : u = Value.ref a := rx
      have hl2 : vs.lookup m = none := by rw [hmn]; exact rf.none hl
      refine getmeth_ok I1 hH cl hm hl2 ?_
      have hh2 : tDA G W fa σ H1 fun vs H2 => ∃ ds s2 w2, w1.le w2 ∧ Ok G κ w2 s2 σ H2 ∧ Reps G w2 vs ds ∧ PostG G W (Rep G) κ w2 σ (if ds.length + 1 = n then lift s2 (g (d :: ds) s2.st) else .stuck) Q := ⟨κ, w1, t1, ok1, PostG.bind q1⟩
      refine PySem.W.callWith_K (first := [.ref a]) (h₀ := X.base) I.ok.mod.kin hm.kp (thn (ha.run pos pins s1 σ H1 _ I1 hh2) fun us s2 ⟨vs2, H2, I2, r2, ds, t2, w2, le2, ok2, rs2, q2⟩ => ⟨I2.kIn, ?_⟩) hst hpl
      by_cases c3 : ds.length + 1 = n
      · rw [if_pos c3] at q2
        exact callD (us := .ref a :: us) (vs := .ref a :: vs2) (ds := d :: ds) F hr hb tk I2 ok2 (.cons (r1.mono le2) rs2) (.cons rfl r2) c3 q2
      · rw [if_neg c3] at q2
        exact q2.elim
    · rw [if_neg hc] at q1
      exact q1.elim
theorem pd_meth0 (hK : G.K = X.K) {c : String} {mn : Nm} {n : Nat} {g : DFn} {fo : DE} {C f : Addr} {m : Str} {k : Nat} {fd : FuncData} {ps : List Str} {o : Expr} {apos pos : Pos} {pl : Sem Bool} (he : PD G W X o fo) (hC : G.ct c = some C) (cl : Cls X.K C) (hmn : m = nm mn) (hm : Meth X.K C m f)
    (F : FnOk X.prog X.w X.K X.mg X.base (L2.CX X.prog X.w) k f fd ps (spG G n g)) (hr : Room k X.A) (hb : Binds X.K fd ps []) (tk : Takes X W)
    (ht : eval (.Call (.Attribute o m apos) [] [] pos) X.env = (do
      let ov ← eval o X.env
      standAt apos.atName
      let (f, first) ← holding [ov] (getMethod ov m pl)
      callWith pos f first (backTo pos (starEach [] X.env)) (backToKw pos (keywordEach [] X.env))) := by rfl) :
    PD G W X (.Call (.Attribute o m apos) [] [] pos) (eMeth c mn n g fo aNil) := by
  refine ⟨fun pins sh σ H Q I h => ?_⟩
  obtain ⟨κ, w, s, ok, q⟩ := h
  have hh : tD G W fo σ H fun v H1 => ∃ d s1 w1, w.le w1 ∧ Ok G κ w1 s1 σ H1 ∧ Rep G w1 v d ∧ PostG G W (Rep G) κ w1 σ (match insOf d s1 with
    | some (c', fs) => if c' = c ∧ fs.lookup mn = none then (aNil s1).bind fun ds s2 => if ds.length + 1 = n then lift s2 (g (d :: ds) s2.st) else .stuck else .stuck
    | none => .stuck) Q := ⟨κ, w, s, ok, PostG.bind q⟩
  refine PySem.W.methodCall_KW (pl := pl) (thn (he.run pins sh σ H _ I hh) fun u s1 ⟨x, H1, I1, rx, d, t1, w1, le, ok1, r1, q1⟩ => ?_) ht
  cases e1 : insOf d t1 with
  | none => rw [e1] at q1; exact q1.elim
  | some p =>
    obtain ⟨c', fs⟩ := p
    rw [e1] at q1
    replace q1 : PostG G W (Rep G) κ w1 σ (if c' = c ∧ fs.lookup mn = none then (if 0 + 1 = n then lift t1 (g [d] t1.st) else .stuck) else .stuck) Q := q1
    by_cases hc : c' = c ∧ fs.lookup mn = none
    · rw [if_pos hc] at q1
      obtain ⟨rfl, hl⟩ := hc
      obtain ⟨a, C', dx, vs, ev, hC', hH, rf⟩ := r1.ins_of ok1 e1
      rw [hC] at hC'
      cases hC'
      subst ev
      obtain rfl : u = Value.ref a := rx
      have hl2 : vs.lookup m = none := by rw [hmn]; exact rf.none hl
      refine getmeth_ok I1 hH cl hm hl2 ?_
      by_cases c3 : 0 + 1 = n
      · rw [if_pos c3] at q1
        exact PySem.W.callWith_K0 (first := [.ref a]) I1.kIn hm.kp (callD (us := [.ref a]) (vs := [.ref a]) (ds := [d]) F hr hb tk I1 ok1 (.cons r1 .nil) (.cons rfl .nil) c3 q1)
      · rw [if_neg c3] at q1
        exact q1.elim
    · rw [if_neg hc] at q1
      exact q1.elim
/-! ### C(..): an instance of one's own class is made -/
abbrev DIn := List D → List Cell → Res (List Cell) (List (Nm × D))
def erase (H : Hp) (x : Addr) : Hp := fun a => if a = x then none else H a
def spI (G : Gam) (c : String) (n : Nat) (g : DIn) : Sp := fun vs H Q E => vs.length = n + 1 ∧ ∃ w S ds x vs' C dx, vs = .ref x :: vs' ∧ G.ct c = some C ∧ H x = some (.ins C dx []) ∧ FOk G w S H ∧ w.F x = none ∧ x ∉ w.ρ ∧ Reps G w vs' ds ∧
  match g ds S with
  | .ok fs S' => ∀ w' H' vfs dx', Nx w (erase H x) w' H' → FOk G w' S' H' → H' x = some (.ins C dx' vfs) → RepF G w' vfs fs → w'.F x = none → x ∉ w'.ρ → Q .non H'
  | .exc x' S' => ∀ w' cc dd H', Nx w (erase H x) w' H' → FOk G w' S' H' → RepX G w' cc dd x' → E cc dd H'
  | .stuck => False
def inFin (c : String) (s : DS) : Res (List Cell) (List (Nm × D)) := match (s.sl[0]? : Option Sl) with
  | some (.oi c' fs) => if c' = c then .ok fs s.st else .stuck
  | _ => .stuck
def inD (c : String) (n : Nat) (body : DStm) (m : Nat) : DIn := fun ds S => if ds.length = n then
  match body ⟨.oi c [] :: ds.map Sl.val ++ List.replicate m .un, S⟩ with
  | .ok (.rt .non) s => inFin c s
  | .ok .nx s => inFin c s
  | .exc x s => .exc x s.st
  | _ => .stuck
  else .stuck
theorem Ok.startI {w : Wd} {S : List Cell} {H : Hp} {vs : List V} {ds : List D} {x C dx : Addr} {c : String} (f : FOk G w S H) (r : Reps G w vs ds) (m : Nat) (hC : G.ct c = some C) (hx : H x = some (.ins C dx [])) (nF : w.F x = none) (nR : x ∉ w.ρ) :
    Ok G ⟨w, erase H x, [], some x⟩ w ⟨.oi c [] :: ds.map Sl.val ++ List.replicate m .un, S⟩ (some (.ref x) :: vs.map some ++ List.replicate m none) H := by
  have base := Ok.start f r m
  have no : ∀ (i : Nat) (y : Sl), (ds.map Sl.val ++ List.replicate m Sl.un)[i]? = some y → y.own = false := fun i y e => by
    have hx := List.mem_of_getElem? e
    rcases List.mem_append.mp hx with h | h
    · obtain ⟨d, _, rfl⟩ := List.mem_map.mp h
      rfl
    · rw [(List.mem_replicate.mp h).2]
      rfl
  refine ⟨f, ⟨.refl _, fun a o e _ => ?_, fun a h => .inl h, fun a h => .inl h⟩, by simp [r.length], fun i d e => ?_, fun i y e o => ?_, fun i j y z a e1 e2 o1 o2 _ _ => ?_, fun p hp => by simp at hp, fun a z c' fs' _ => by cases z; rfl⟩
  · have e : (if a = x then none else H a) = some o := e
    split at e
    · cases e
    · exact e
  · cases i with
    | zero => cases e
    | succ i => exact base.val i d e
  · cases i with
    | zero =>
      cases e
      exact ⟨x, rfl, ⟨C, dx, [], hC, hx, .nil⟩, nF, nR, by show (if x = x then none else H x) = none; rw [if_pos rfl]⟩
    | succ i =>
      rw [no i y e] at o
      cases o
  · cases i with
    | zero =>
      cases j with
      | zero => rfl
      | succ j => rw [no j z e2] at o2; cases o2
    | succ i => rw [no i y e1] at o1; cases o1
theorem in_okD {P : Program} {w0 : World} {mg : Str → Option Value} {base : Heap} {x qual : Str} {st : Stmt} {f : Addr} {fd : FuncData} {N ps : List Str} {c : String} {k n m : Nat} {body : DStm} (F : Fun G.K x qual st f fd) (S : FnScope N ps (defScope st)) (hn : ps.length = n + 1) (hm : N.length - (n + 1) = m)
    (hbody : ∀ (cdv : Value) (A : Around) (outer : List Env) (s : Shared) (H : Hp) (E : XK), Room k (A.deeper (envOfC qual (defScope st) s.heap.objs.size f cdv)) →
      Takes (cxOf (L2.CX P w0) P w0 G.K mg base N qual (defScope st) f cdv A outer s H E) (fun c d _ H => E c d H) → PassesOwn (model P w0) (A.deeper (envOfC qual (defScope st) s.heap.objs.size f cdv)) (envOfC qual (defScope st) s.heap.objs.size f cdv) (cxOf (L2.CX P w0) P w0 G.K mg base N qual (defScope st) f cdv A outer s H E).xe →
      PDSs G (fun c d _ H => E c d H) (cxOf (L2.CX P w0) P w0 G.K mg base N qual (defScope st) f cdv A outer s H E) (defBody st) body) : FnOk P w0 G.K mg base (L2.CX P w0) (k + 1) f fd ps (spI G c n (inD c n body m)) := by
  refine F.okX S (fun vs H Q E h => by rw [h.1, hn]) fun cdv A outer s H vs Q E hr h => ?_
  refine ⟨_, hbody cdv A outer s H E hr (takes_of rfl rfl rfl rfl) (passes_of rfl), ?_⟩
  obtain ⟨hl, w, S', ds, xa, vs', C, dx, ev, hC, hx, fok, nF, nR, rs, q⟩ := h
  subst ev
  have hl' : vs'.length = n := by simpa using hl
  have hd : ds.length = n := by rw [← rs.length]; exact hl'
  unfold inD at q
  rw [if_pos hd] at q
  rw [start_eq (m := m) (by rw [List.length_cons, hl']; exact hm)]
  refine ⟨⟨w, erase H xa, [], some xa⟩, w, _, Ok.startI fok rs m hC hx nF nR, ?_⟩
  have fin : ∀ (w' : Wd) (σ' : L2.St) (H' : Hp) (s' : DS), Ok G ⟨w, erase H xa, [], some xa⟩ w' s' σ' H' →
      (match inFin c s' with
        | .ok fs S' => ∀ w' H' vfs dx', Nx w (erase H xa) w' H' → FOk G w' S' H' → H' xa = some (.ins C dx' vfs) → RepF G w' vfs fs → w'.F xa = none → xa ∉ w'.ρ → Q .non H'
        | .exc x' S' => ∀ w' cc dd H', Nx w (erase H xa) w' H' → FOk G w' S' H' → RepX G w' cc dd x' → E cc dd H'
        | .stuck => False) → Q .non H' := fun w' σ' H' s' o q => by
    unfold inFin at q
    cases e0 : s'.sl[0]? with
    | none => rw [e0] at q; exact q.elim
    | some y =>
      rw [e0] at q
      cases y with
      | oi c' fs =>
        by_cases hc : c' = c
        · subst hc
          simp only [if_true] at q
          have h0 := o.me xa rfl _ _ e0
          obtain ⟨a, h1, ⟨C', dx', vfs, hC', hH, rf⟩, h3, h4, _⟩ := o.own 0 _ e0 rfl
          rw [h0] at h1
          cases h1
          rw [hC] at hC'
          cases hC'
          exact q w' H' vfs dx' o.nx o.fok hH rf h3 h4
        · simp only [if_neg hc] at q
      | _ => exact q.elim
  cases e : body ⟨.oi c [] :: ds.map Sl.val ++ List.replicate m .un, S'⟩ with
  | stuck => rw [e] at q; exact q.elim
  | exc x s' =>
    rw [e] at q
    exact fun w' σ' c dd H' l o r => q w' c dd H' o.nx o.fok r
  | ok o s' =>
    rw [e] at q
    cases o with
    | nx => exact fun w' σ' H' l o => fin w' σ' H' s' o q
    | bk => exact q.elim
    | ct => exact q.elim
    | rt d =>
      intro w' σ' v H' l o r
      cases r with
      | non => exact fin w' σ' H' s' o q
      | _ => exact q.elim
/-- what of the text a class must have to be made -/
theorem makeD {c : String} {n k : Nat} {g : DIn} {C f : Addr} {fd : FuncData} {ps : List Str} {pins : List (Addr × Obj)} {sh : Shared} {κ : Bs} {w : Wd} {s : DS} {σ : L2.St} {H : Hp} {vs : List V} {ds : List D} {us : List Value} {Q : VK} (M : Mk X.K C f) (hC : G.ct c = some C)
    (F : FnOk X.prog X.w X.K X.mg X.base (L2.CX X.prog X.w) k f fd ps (spI G c n g)) (hr : Room (k + 1) X.A) (hb : Binds X.K fd ps []) (tk : Takes X W) (I : Inv X pins σ H sh) (ok : Ok G κ w s σ H) (rs : Reps G w vs ds) (r : Vals vs us) (hn : ds.length = n)
    (q : PostG G W (Rep G) κ w σ ((lift s (g ds s.st)).bind fun fs s1 => .ok (.ins c fs) s1) Q) : wpAny (model X.prog X.w) X.A (call (.ref C) us) (EP X pins σ Q) X.xe sh := by
  have key : ∀ x dx, H x = none → H dx = none → dx ≠ x → spI G c n g (.ref x :: (vs ++ [])) (upd (upd H dx (.own x)) x (.ins C dx [])) (fun v H2 => v = .non ∧ Q (.ref x) H2) (WE W σ) := fun x dx nx ndx ne => by
    have o1 := ok.fresh ndx (.own x)
    have nx1 : upd H dx (.own x) x = none := by rw [upd_ne (Ne.symm ne)]; exact nx
    have o2 := o1.fresh nx1 (.ins C dx [])
    obtain ⟨g1, g2, g3, g4, g5⟩ := o2.gam (x, .ins C dx []) List.mem_cons_self
    have kx : ∀ a o, H a = some o → erase (upd (upd H dx (.own x)) x (.ins C dx [])) x a = some o := fun a o e => by
      have h1 : a ≠ x := ne_of_none e nx
      have h2 : a ≠ dx := ne_of_none e ndx
      show (if a = x then none else _) = some o
      rw [if_neg h1, upd_ne h1, upd_ne h2]
      exact e
    have bk : ∀ a, erase (upd (upd H dx (.own x)) x (.ins C dx [])) x a = none → H a = none := fun a e => by
      cases e2 : H a with
      | none => rfl
      | some o => rw [kx a o e2] at e; cases e
    refine ⟨by rw [List.append_nil, List.length_cons, rs.length, hn], w, s.st, ds, x, vs, C, dx, by rw [List.append_nil], hC, g1, o2.fok, g2, g3, rs, ?_⟩
    cases e : g ds s.st with
    | stuck => rw [e] at q; exact q.elim
    | exc x' S' =>
      rw [e] at q
      exact fun w' cc dd H' nn f' r => q w' cc dd H' nn.le (ok.step ⟨nn.le, fun a o e1 e2 => nn.keep a o (kx a o e1) e2, fun a h => (nn.newF a h).imp_right (bk a), fun a h => (nn.newR a h).imp_right (bk a)⟩ f') r
    | ok fs S' =>
      rw [e] at q
      intro w' H' vfs dx' nn f' hx rf hF hR
      refine ⟨rfl, ?_⟩
      have N1 : Nx w H w' H' := ⟨nn.le, fun a o e1 e2 => nn.keep a o (kx a o e1) e2, fun a h => (nn.newF a h).imp_right (bk a), fun a h => (nn.newR a h).imp_right (bk a)⟩
      have o3 : Ok G (κ.plus x (.ins C dx' vfs)) w' ⟨s.sl, S'⟩ σ H' := by
        have o3 := ok.step N1 f'
        refine ⟨o3.fok, o3.nx, o3.len, o3.val, o3.own, o3.ne, fun p hp => ?_, o3.me⟩
        rcases List.mem_cons.mp hp with rfl | hp
        · exact ⟨hx, hF, hR, g4, g5⟩
        · exact o3.gam p hp
      obtain ⟨le, o4⟩ := o3.frz fun p hp => ne_of_none (ok.gam p hp).1 nx
      exact q _ _ _ (nn.le.trans le) o4 (.ins hC upd_same (rf.mono le))
  have hx : PassesAt (L2.CX X.prog X.w) X σ (WE W σ) := passAt tk σ
  have hq := key (sh.heap.objs.size + 1) sh.heap.objs.size (I.hok.fresh (Nat.le_succ _)) (I.hok.fresh (Nat.le_refl _)) (Nat.ne_of_lt (Nat.lt_succ_self _))
  have I2 := Inv.made (C := C) I
  have r2 : Vals (V.ref (sh.heap.objs.size + 1) :: (vs ++ [])) (Value.ref (sh.heap.objs.size + 1) :: (us ++ [])) := .cons rfl (r.append .nil)
  have hl : (Value.ref (sh.heap.objs.size + 1) :: us ++ []).length = ps.length := by
    have e := r2.length
    rw [F.len _ _ _ _ hq] at e
    exact e.symm
  refine wpAny_call (make_map (f := f) I.kIn M.makes M.init (beq_iff_eq.mp M.fn) (codeAny_mono (F.run _ X.stack _ _ ⟨Value.ref (sh.heap.objs.size + 1) :: us, []⟩ (Value.ref (sh.heap.objs.size + 1) :: (us ++ [])) _ _ (WE W σ) (hr.make C us [])
    (I2.env0.make C us []) (by
      have hbb := hb _ (Value.ref (sh.heap.objs.size + 1) :: us) I2.kIn hl
      rw [List.cons_append] at hbb
      exact hbb) r2 hq) fun r s' hq' => ?_))
  cases r with
  | error e => exact hx pins _ _ e s' I2 hq'
  | ok fl =>
    cases fl with
    | ret u =>
      obtain ⟨v, H', I3, rv, ev, q3⟩ := I2.after hq'
      subst ev
      exact ⟨rv, ⟨V.ref (sh.heap.objs.size + 1), H', I3, rfl, q3⟩⟩
    | next => exact False.elim hq'
    | brk => exact False.elim hq'
    | cont => exact False.elim hq'
def eMake (c : String) (n : Nat) (g : DIn) (fa : DA) : DE := fun s => (fa s).bind fun ds s1 => if ds.length = n then (lift s1 (g ds s1.st)).bind fun fs s2 => .ok (.ins c fs) s2 else .stuck
theorem pd_make {c : String} {n k : Nat} {g : DIn} {C f : Addr} {fd : FuncData} {ps : List Str} {x : Str} {p pos : Pos} {e : Expr} {es : List Expr} {fa : DA} (M : Mk X.K C f) (hC : G.ct c = some C) (F : FnOk X.prog X.w X.K X.mg X.base (L2.CX X.prog X.w) k f fd ps (spI G c n g)) (hr : Room (k + 1) X.A) (hg : Gl X x)
    (hm : X.mg x = some (.ref C)) (hb : Binds X.K fd ps []) (tk : Takes X W) (ha : PDA G W X (e :: es) fa) (hdb : (x == ("__debug__" : Str)) = false := by decide) (he : starEach (e :: es) X.env = (false, eval e X.env) :: starEach es X.env := by rfl)
    (hpl : (backTo pos (starEach es X.env)).any (·.1) = false := by rfl) : PD G W X (.Call (.Name x p) (e :: es) [] pos) (eMake c n g fa) := by
  refine ⟨fun pins s σ H Q I h => ?_⟩
  obtain ⟨κ, w, ds, ok, q⟩ := h
  refine wpAny_Call_Name_kw (ld_glob I hg hm ?_ hdb)
  have hh : tDA G W fa σ H fun vs H1 => ∃ d s1 w1, w.le w1 ∧ Ok G κ w1 s1 σ H1 ∧ Reps G w1 vs d ∧ PostG G W (Rep G) κ w1 σ (if d.length = n then (lift s1 (g d s1.st)).bind fun fs s2 => .ok (.ins c fs) s2 else .stuck) Q := ⟨κ, w, ds, ok, PostG.bind q⟩
  refine PySem.W.callWith_K (h₀ := X.base) I.ok.mod.kin M.kp (thn (ha.run pos pins s σ H _ I hh) fun us s1 ⟨vs, H1, I1, r, d, s2, w1, le, ok1, rs, q1⟩ => ⟨I1.kIn, ?_⟩) he hpl
  by_cases c : d.length = n
  · rw [if_pos c] at q1
    exact makeD M hC F hr hb tk I1 ok1 rs r c q1
  · rw [if_neg c] at q1
    exact q1.elim
/-! ### self.f = e -/
def sFldO (c : String) (i : Nat) (fn : Nm) (f : DE) : DStm := fun s => (f s).bind fun d s1 => match s1.sl[i]? with
  | some (.oi c' fs) => if c' = c ∧ fs.length < 1000 then .ok .nx ⟨s1.sl.set i (.oi c (putN fn d fs)), s1.st⟩ else .stuck
  | _ => .stuck
theorem RepF.put {w : Wd} {y : V} {d : D} {fn : Nm} (r : Rep G w y d) : ∀ {v : List (Str × V)} {ds : List (Nm × D)}, RepF G w v ds → RepF G w (putF (nm fn) y v) (putN fn d ds)
  | _, _, .nil => .cons r .nil
  | _, _, .cons (f := g) a b => by
    unfold putF putN
    by_cases h : g = fn
    · subst h
      rw [if_pos rfl]
      simp only [if_true]
      first
        | exact .cons r b
        | (split <;> first | exact .cons r b | (rename_i q; exact absurd rfl q))
    · have h2 : nm g ≠ nm fn := fun q => h (nm_inj q)
      rw [if_neg h]
      split
      · rename_i q; exact absurd q h2
      · exact .cons a (RepF.put r b)
theorem pds_fld (hK : G.K = X.K) {c : String} {C : Addr} {i : Nat} {fn : Nm} {f : DE} {x y : Str} {p pos' pos : Pos} {value : Expr} (ho : PE X (.Name y p) (tVar i)) (hx : x = nm fn) (hC : G.ct c = some C) (cl : Cls X.K C) (na : NoAttr X.K C x) (hv : PD G W X value f)
    (hs : swapsWith value (some (.Attribute (.Name y p) x pos')) pos.line X.env = pure false := by rfl) : PDS G W X (.Assign [.Attribute (.Name y p) x pos'] value pos) (sFldO c i fn f) :=
  (ps_fld ho hv hs).imp fun N σ H ⟨κ, w, s, ok, q⟩ => ⟨κ, w, s, ok, (PostG.bindS q).imp fun v H1 ⟨d, s1, w1, le, ok1, r1, q1⟩ => by
    cases e : s1.sl[i]? with
    | none => rw [e] at q1; exact q1.elim
    | some z =>
      rw [e] at q1
      cases z with
      | oi c' fs =>
        replace q1 : PostS G W κ w1 (if c' = c ∧ fs.length < 1000 then .ok .nx ⟨s1.sl.set i (.oi c (putN fn d fs)), s1.st⟩ else .stuck) N := q1
        by_cases hc : c' = c ∧ fs.length < 1000
        · rw [if_pos hc] at q1
          obtain ⟨rfl, hl⟩ := hc
          obtain ⟨a, h1, ⟨C', dx, vs, hC', hH, rf⟩, _⟩ := ok1.own i _ e rfl
          rw [hC] at hC'
          cases hC'
          refine ⟨_, h1, a, C, dx, vs, rfl, hH, cl, na, by rw [rf.length]; exact hl, ?_⟩
          refine q1 w1 σ _ (.refl _) (ok1.mut e rfl rfl h1 ⟨C, dx, _, hC, upd_same, ?_⟩ fun _ _ _ => ⟨_, _, rfl⟩)
          rw [hx]
          exact RepF.put r1 rf
        · rw [if_neg hc] at q1
          exact q1.elim
      | _ => exact q1.elim⟩
end
end DL
set_option maxRecDepth 100000
set_option maxHeartbeats 4000000
set_option autoImplicit false
namespace DL
open PySem PySem.Spec PyProof.Rows L2
section
variable {G : Gam} {W : WX} {X : Cx}
/-! ### operators that may call -/
abbrev DO2 := D → D → DS → Res DS D
def OpX (G : Gam) (W : WX) (X : Cx) (f : Value → Value → Sem Value) (o : DO2) : Prop := ∀ (pins : List (Addr × Obj)) (sh : Shared) (σ : L2.St) (H : Hp) (x y : V) (v u : Value) (κ : Bs) (w : Wd) (s : DS) (dx dy : D) (Q : VK),
  Inv X pins σ H sh → RelV x v → RelV y u → Ok G κ w s σ H → Rep G w x dx → Rep G w y dy → PostG G W (Rep G) κ w σ (o dx dy s) Q → wpAny (model X.prog X.w) X.A (f v u) (EP X pins σ Q) X.xe sh
def eOpX (o : DO2) (fa fb : DE) : DE := fun s => (fa s).bind fun x s1 => (fb s1).bind fun y s2 => o x y s2
def liftO (o : D → D → Option D) : DO2 := fun x y s => match o x y with
  | some d => .ok d s
  | none => .stuck
theorem OpD.x {f : Value → Value → Sem Value} {o : D → D → Option D} (h : OpD G X f o) : OpX G W X f (liftO o) := by
  obtain ⟨r, h1, h2⟩ := h
  intro pins sh σ H x y v u κ w s dx dy Q I rx ry ok dx' dy' q
  unfold liftO at q
  cases e : o dx dy with
  | none => rw [e] at q; exact q.elim
  | some z => rw [e] at q; exact h1 pins sh σ H x y v u Q I rx ry (h2 κ w s σ H x y dx dy z Q ok dx' dy' e q)
def orO (o o' : DO2) : DO2 := fun x y s => match o x y s with
  | .stuck => o' x y s
  | r => r
theorem OpX.or {f : Value → Value → Sem Value} {o o' : DO2} (h : OpX G W X f o) (h' : OpX G W X f o') : OpX G W X f (orO o o') := by
  intro pins sh σ H x y v u κ w s dx dy Q I rx ry ok dx' dy' q
  unfold orO at q
  cases e : o dx dy s with
  | stuck => rw [e] at q; exact h' pins sh σ H x y v u κ w s dx dy Q I rx ry ok dx' dy' q
  | exc a b => rw [e] at q; exact h pins sh σ H x y v u κ w s dx dy Q I rx ry ok dx' dy' (by rw [e]; exact q)
  | ok a b => rw [e] at q; exact h pins sh σ H x y v u κ w s dx dy Q I rx ry ok dx' dy' (by rw [e]; exact q)
theorem opX_run {o : DO2} {fa fb : DE} {a b : Expr} (ha : PD G W X a fa) (hb : PD G W X b fb) {f : Value → Value → Sem Value} (ho : OpX G W X f o) {pins : List (Addr × Obj)} {sh : Shared} {σ : L2.St} {H : Hp} {Q : VK} (I : Inv X pins σ H sh) (h : tD G W (eOpX o fa fb) σ H Q) :
    wpAny (model X.prog X.w) X.A (eval a X.env) (fun v s₁ => wpAny (model X.prog X.w) X.A (eval b X.env) (fun u s₂ => wpAny (model X.prog X.w) X.A (f v u) (EP X pins σ Q) X.xe s₂) X.xe s₁) X.xe sh := by
  obtain ⟨κ, w, s, ok, q⟩ := h
  have hh : tD G W fa σ H fun v H1 => tD G W fb σ H1 fun u H2 => ∃ d s1 w1, Ok G κ w1 s1 σ H2 ∧ ∃ d1, Rep G w1 v d1 ∧ Rep G w1 u d ∧ PostG G W (Rep G) κ w1 σ (o d1 d s1) Q :=
    ⟨κ, w, s, ok, (PostG.bind q).imp fun v H1 ⟨d, s1, w1, le, ok1, r1, q1⟩ => ⟨κ, w1, s1, ok1, (PostG.bind q1).imp fun u H2 ⟨d2, s2, w2, le2, ok2, r2, q2⟩ => ⟨d2, s2, w2, ok2, d, r1.mono le2, r2, q2⟩⟩⟩
  refine bin ha hb I (R := fun x y H2 => ∃ d s1 w1, Ok G κ w1 s1 σ H2 ∧ ∃ d1, Rep G w1 x d1 ∧ Rep G w1 y d ∧ PostG G W (Rep G) κ w1 σ (o d1 d s1) Q) hh fun v u s2 x y H2 I2 rx ry ⟨d, s1, w1, ok1, d1, r1, r2, q2⟩ => ?_
  exact ho pins s2 σ H2 x y v u κ w1 s1 d1 d Q I2 rx ry ok1 r1 r2 q2
theorem pd_opX {op : Operator} {o : DO2} {a b : Expr} {fa fb : DE} {pos : Pos} (ho : OpX G W X (binaryOp op) o) (ha : PD G W X a fa) (hb : PD G W X b fb) : PD G W X (.BinOp a op b pos) (eOpX o fa fb) :=
  ⟨fun pins s σ H Q I h => wpAny_BinOp (opX_run ha hb ho I h)⟩
theorem pd_cmpX {op : CmpOp} {o : DO2} {a b : Expr} {fa fb : DE} {pos : Pos} (ho : OpX G W X (compareOp op) o) (ha : PD G W X a fa) (hb : PD G W X b fb) (hm : behindInMarks op b = false) : PD G W X (.Compare a [op] [b] pos) (eOpX o fa fb) :=
  ⟨fun pins s σ H Q I h => wpAny_Compare1 (opX_run ha hb ho I h) hm⟩
/-! ### truth -/
def truD (d : D) : Option Bool := match d with
  | .non => some false
  | .bl b => some b
  | .int i => some (i != 0)
  | .str l => if l.length ≤ 16777216 then some ((l.length : Int) != 0) else none
  | .tup xs => some (!xs.isEmpty)
  | .lst xs => some (!xs.isEmpty)
  | .scr xs => some (!xs.isEmpty)
  | .dic xs => some (!xs.isEmpty)
  | _ => none
theorem Reps.isEmpty {w : Wd} {vs : List V} {ds : List D} (r : Reps G w vs ds) : vs.isEmpty = ds.isEmpty := by cases r <;> rfl
theorem RepK.isEmpty {w : Wd} {vs : List (Key × V)} {ds : List (DK × D)} (r : RepK G w vs ds) : vs.isEmpty = ds.isEmpty := by cases r <;> rfl
theorem nm_len (l : Nm) : (nm l).length = l.length := by simp [nm, Str.length]
theorem truV_of (hK : G.K = X.K) {κ : Bs} {w : Wd} {s : DS} {σ : L2.St} {H : Hp} {v : V} {d : D} {k : Bool} (ok : Ok G κ w s σ H) (r : Rep G w v d) (h : truD d = some k) : TruV X.K v H k := by
  cases r with
  | non => cases h; rfl
  | bl b => cases h; rfl
  | int i => cases h; rfl
  | str l =>
    have h : (if l.length ≤ 16777216 then some ((l.length : Int) != 0) else none) = some k := h
    split at h
    · rename_i c
      cases h
      exact ⟨by rw [nm_len, sizeLine_eq]; exact c, by rw [nm_len]⟩
    · cases h
  | @tup a vs ds e r => cases h; exact .inr (.inl ⟨vs, hK ▸ SqT.le e ok.fok.sub, by rw [r.isEmpty]⟩)
  | @lst a vs ds e r => cases h; exact .inl ⟨vs, .inl (.inl (ok.fok.sub _ _ e)), by rw [r.isEmpty]⟩
  | @scr a vs ds e r => cases h; exact .inl ⟨vs, hK ▸ SqL.le e ok.fok.sub, by rw [r.isEmpty]⟩
  | @dic a vs ds e r => cases h; exact .inr (.inr ⟨vs, ok.fok.sub _ _ e, by rw [r.isEmpty]⟩)
  | _ => cases h
def eTru (f : DE) : DT := fun s => (f s).bind fun d s1 => match truD d with
  | some b => .ok b s1
  | none => .stuck
theorem ptd_truth (hK : G.K = X.K) {e : Expr} {f : DE} (h : PD G W X e f) (he : ∀ whole, isTrue e X.env whole = (do let v ← whole; standAt e.pos; holding [v] (truthy v)) := by intro _; rfl) : PDT G W X e (eTru f) :=
  (pt_truth h he).imp fun σ H Q ⟨κ, w, s, ok, q⟩ => ⟨κ, w, s, ok, (PostG.bind q).imp fun v H1 ⟨d, s1, w1, le, ok1, r1, q1⟩ => by
    cases e1 : truD d with
    | none => rw [e1] at q1; exact q1.elim
    | some k => rw [e1] at q1; exact ⟨k, truV_of hK ok1 r1 e1, q1 w1 k H1 (.refl _) ok1 rfl⟩⟩
theorem ptd_cmpX {op : CmpOp} {o : DO2} {a b : Expr} {fa fb : DE} {pos : Pos} (ho : OpX G W X (compareOp op) o) (ha : PD G W X a fa) (hb : PD G W X b fb) (hm : behindInMarks op b = false) : PDT G W X (.Compare a [op] [b] pos) (eB (eOpX o fa fb)) :=
  ⟨fun pins s σ H Q I h => by
    have hh := tB_of h
    refine wpAny_isTrue_Compare1 (thn (opX_run ha hb ho I hh) fun v s1 h1 => thn h1 fun u s2 h2 => thn h2 fun c s3 ⟨x, H1, I1, r1, q1⟩ => ?_) hm
    obtain ⟨d, rfl, q⟩ := q1
    cases r1
    exact wpAny_truthy_bool ⟨H1, I1, q⟩⟩
/-- x or y, x and y by truth, as values -/
def eOrT (f g : DE) : DE := fun s => (f s).bind fun d s1 => match truD d with
  | some b => if b = true then .ok d s1 else g s1
  | none => .stuck
def eAndT (f g : DE) : DE := fun s => (f s).bind fun d s1 => match truD d with
  | some b => if b = true then g s1 else .ok d s1
  | none => .stuck
def eNotT (f : DE) : DE := fun s => (f s).bind fun d s1 => match truD d with
  | some b => .ok (.bl (!b)) s1
  | none => .stuck
theorem pd_orT (hK : G.K = X.K) {a b : Expr} {r : List Expr} {f g : DE} {pos : Pos} (h : PD G W X a f) (k : PD G W X (.BoolOp .Or (b :: r) pos) g) : PD G W X (.BoolOp .Or (a :: b :: r) pos) (eOrT f g) :=
  (pe_orT h k).imp fun σ H Q ⟨κ, w, s, ok, q⟩ => ⟨κ, w, s, ok, (PostG.bind q).imp fun v H1 ⟨d, s1, w1, le, ok1, r1, q1⟩ => by
    cases e1 : truD d with
    | none => rw [e1] at q1; exact q1.elim
    | some k =>
      rw [e1] at q1
      refine ⟨k, truV_of hK ok1 r1 e1, ?_⟩
      cases k with
      | true => exact q1 w1 v H1 (.refl _) ok1 r1
      | false => exact ⟨κ, w1, s1, ok1, q1⟩⟩
theorem pd_andT (hK : G.K = X.K) {a b : Expr} {r : List Expr} {f g : DE} {pos : Pos} (h : PD G W X a f) (k : PD G W X (.BoolOp .And (b :: r) pos) g) : PD G W X (.BoolOp .And (a :: b :: r) pos) (eAndT f g) :=
  (pe_andT h k).imp fun σ H Q ⟨κ, w, s, ok, q⟩ => ⟨κ, w, s, ok, (PostG.bind q).imp fun v H1 ⟨d, s1, w1, le, ok1, r1, q1⟩ => by
    cases e1 : truD d with
    | none => rw [e1] at q1; exact q1.elim
    | some k =>
      rw [e1] at q1
      refine ⟨k, truV_of hK ok1 r1 e1, ?_⟩
      cases k with
      | false => exact q1 w1 v H1 (.refl _) ok1 r1
      | true => exact ⟨κ, w1, s1, ok1, q1⟩⟩
theorem pd_notT (hK : G.K = X.K) {a : Expr} {f : DE} {pos : Pos} (h : PD G W X a f) : PD G W X (.UnaryOp .Not a pos) (eNotT f) :=
  (pe_notT h).imp fun σ H Q ⟨κ, w, s, ok, q⟩ => ⟨κ, w, s, ok, (PostG.bind q).imp fun v H1 ⟨d, s1, w1, le, ok1, r1, q1⟩ => by
    cases e1 : truD d with
    | none => rw [e1] at q1; exact q1.elim
    | some k => rw [e1] at q1; exact ⟨k, truV_of hK ok1 r1 e1, q1 w1 _ H1 (.refl _) ok1 (.bl _)⟩⟩
/-! ### ints -/
def dI (g : Int → Int → Option D) : D → D → Option D := fun x y => match x, y with
  | .int i, .int j => g i j
  | _, _ => none
theorem opd_I {f : Value → Value → Sem Value} {C : Int → Int → Prop} {gv : Int → Int → V} {g : Int → Int → Option D} (h : OpR X f (rI C gv)) (hg : ∀ i j d, g i j = some d → C i j ∧ ∀ w, Rep G w (gv i j) d) : OpD G X f (dI g) :=
  ⟨_, h, fun κ w s σ H x y dx dy d Q ok rx ry e q => by
    cases rx with
    | int i =>
      cases ry with
      | int j =>
        obtain ⟨c, r⟩ := hg _ _ _ e
        exact ⟨_, _, rfl, rfl, c, q w _ H (.refl _) ok (r w)⟩
      | _ => exact nomatch e
    | _ => exact nomatch e⟩
theorem opd_I0 {f : Value → Value → Sem Value} {gv : Int → Int → V} {g : Int → Int → Option D} (h : OpR X f (rI0 gv)) (hg : ∀ i j d, g i j = some d → ∀ w, Rep G w (gv i j) d) : OpD G X f (dI g) :=
  ⟨_, h, fun κ w s σ H x y dx dy d Q ok rx ry e q => by
    cases rx with
    | int i =>
      cases ry with
      | int j => exact ⟨_, _, rfl, rfl, q w _ H (.refl _) ok (hg _ _ _ e w)⟩
      | _ => exact nomatch e
    | _ => exact nomatch e⟩
/-- a bound on the bits that products may have -/
def mulOk (i j : Int) : Bool := decide (i.natAbs.log2 + j.natAbs.log2 < 100000000)
def divOk (j : Int) : Bool := decide (j ≠ 0 ∧ j.natAbs.log2 < 9000)
def iAdd : D → D → Option D := dI fun i j => some (.int (i + j))
def iSub : D → D → Option D := dI fun i j => some (.int (i - j))
def iMul : D → D → Option D := dI fun i j => if mulOk i j then some (.int (i * j)) else none
def iDiv : D → D → Option D := dI fun i j => if divOk j then some (.int (i.fdiv j)) else none
def iMod : D → D → Option D := dI fun i j => if j ≠ 0 then some (.int (i.fmod j)) else none
def iPow : D → D → Option D := dI fun i j => if 0 ≤ j ∧ j ≤ 1000000 ∧ i.natAbs < 2 ^ 64 then some (.int (i ^ j.toNat)) else none
def iShl : D → D → Option D := dI fun i j => if 0 ≤ j ∧ j ≤ 1000000 ∧ i.natAbs < 2 ^ 64 then some (.int (i * 2 ^ j.toNat)) else none
def iLt : D → D → Option D := dI fun i j => some (.bl (decide (i < j)))
def iLe : D → D → Option D := dI fun i j => some (.bl (decide (i ≤ j)))
def iGt : D → D → Option D := dI fun i j => some (.bl (decide (j < i)))
def iGe : D → D → Option D := dI fun i j => some (.bl (decide (j ≤ i)))
theorem opd_add : OpD G X (binaryOp .Add) iAdd := opd_I0 op_add fun i j d e w => by cases e; exact .int _
theorem opd_sub : OpD G X (binaryOp .Sub) iSub := opd_I0 op_sub fun i j d e w => by cases e; exact .int _
def CMulX (i j : Int) : Prop := i.natAbs.log2 + j.natAbs.log2 < 100000000
theorem CMulX.ok {i j : Int} (h : CMulX i j) : IntMulOk i j := by
  have b : ∀ x : Int, Builtin.Int.intBits x ≤ x.natAbs.log2 + 1 := fun x => by
    unfold Builtin.Int.intBits
    split <;> omega
  have h1 := b i
  have h2 := b j
  have h3 : i.natAbs.log2 + j.natAbs.log2 < 100000000 := h
  have e : bitsLine = 134217728 := by decide
  unfold IntMulOk
  intro z
  rw [Bool.and_eq_true] at z
  have z2 := z.2
  unfold Builtin.Int.intTooBig at z2
  have z3 := of_decide_eq_true z2
  rw [e] at z3
  omega
theorem op_mulX : OpR X (binaryOp .Mult) (rI CMulX fun i j => .int (i * j)) := opI fun _ _ _ _ _ _ _ hc q => mul_int q hc.ok
theorem opd_mul : OpD G X (binaryOp .Mult) iMul := opd_I op_mulX fun i j d e => by
  split at e
  · rename_i h
    cases e
    have h : decide (i.natAbs.log2 + j.natAbs.log2 < 100000000) = true := h
    exact ⟨(of_decide_eq_true h : i.natAbs.log2 + j.natAbs.log2 < 100000000), fun w => .int _⟩
  · cases e
theorem op_fdivX : OpR X (binaryOp .FloorDiv) (rI (fun _ j => j ≠ 0 ∧ j.natAbs.log2 < 9000) fun i j => .int (i.fdiv j)) := opI fun _ _ _ _ _ _ _ hc q => floordiv_int hc.1 q (.inl (PyProof.noPylong_of_log2 hc.2))
theorem opd_div : OpD G X (binaryOp .FloorDiv) iDiv := opd_I op_fdivX fun i j d e => by
  split at e
  · rename_i h
    cases e
    exact ⟨of_decide_eq_true h, fun w => .int _⟩
  · cases e
theorem opd_mod : OpD G X (binaryOp .Mod) iMod := opd_I op_modN fun i j d e => by
  split at e
  · rename_i h
    cases e
    exact ⟨h, fun w => .int _⟩
  · cases e
theorem opd_pow : OpD G X (binaryOp .Pow) iPow := opd_I op_pow fun i j d e => by
  split at e
  · rename_i h
    cases e
    exact ⟨h, fun w => .int _⟩
  · cases e
theorem opd_shl : OpD G X (binaryOp .LShift) iShl := opd_I op_shl fun i j d e => by
  split at e
  · rename_i h
    cases e
    exact ⟨h, fun w => .int _⟩
  · cases e
theorem opd_lt : OpD G X (compareOp .Lt) iLt := opd_I0 op_lt fun i j d e w => by cases e; exact .bl _
theorem opd_le : OpD G X (compareOp .LtE) iLe := opd_I0 op_le fun i j d e w => by cases e; exact .bl _
theorem opd_gt : OpD G X (compareOp .Gt) iGt := opd_I0 op_gt fun i j d e w => by cases e; exact .bl _
theorem opd_ge : OpD G X (compareOp .GtE) iGe := opd_I0 op_ge fun i j d e w => by cases e; exact .bl _
def eNeg (f : DE) : DE := fun s => (f s).bind fun d s1 => match d with
  | .int i => .ok (.int (-i)) s1
  | _ => .stuck
theorem pd_neg {a : Expr} {f : DE} {pos : Pos} (h : PD G W X a f) : PD G W X (.UnaryOp .USub a pos) (eNeg f) :=
  (pe_un un_neg h).imp fun σ H Q ⟨κ, w, s, ok, q⟩ => ⟨κ, w, s, ok, (PostG.bind q).imp fun v H1 ⟨d, s1, w1, le, ok1, r1, q1⟩ => by
    cases r1 with
    | int i => exact ⟨i, rfl, q1 w1 _ H1 (.refl _) ok1 (.int _)⟩
    | _ => exact q1.elim⟩
/-! ### sequences: +, * -/
def sAdd : D → D → Option D := fun x y => match x, y with
  | .str a, .str b => if a.length + b.length ≤ 1000000 then some (.str (a ++ b)) else none
  | .tup a, .tup b => if a ≠ [] ∧ b ≠ [] ∧ a.length + b.length ≤ 1000000 then some (.tup (a ++ b)) else none
  | _, _ => none
theorem nm_append (a b : Nm) : nm a ++ nm b = nm (a ++ b) := by
  show Str.mk _ = _
  simp [nm]
theorem opd_sadd (hK : G.K = X.K) : OpD G X (binaryOp .Add) sAdd := ⟨_, op_add_str.or op_catT, fun κ w s σ H x y dx dy d Q ok rx ry e q => by
  cases rx with
  | str a =>
    cases ry with
    | str b =>
      left
      have e : (if a.length + b.length ≤ 1000000 then some (D.str (a ++ b)) else none) = some d := e
      split at e
      · rename_i c
        cases e
        refine ⟨nm a, nm b, rfl, rfl, by rw [nm_len, nm_len, sizeLine_eq]; omega, ?_⟩
        rw [nm_append]
        exact q w _ H (.refl _) ok (.str _)
      · cases e
    | _ => exact nomatch e
  | @tup a vs ds e1 r1 =>
    cases ry with
    | @tup a2 vs2 ds2 e2 r2 =>
      right
      have e : (if ds ≠ [] ∧ ds2 ≠ [] ∧ ds.length + ds2.length ≤ 1000000 then some (D.tup (ds ++ ds2)) else none) = some d := e
      split at e
      · rename_i c
        cases e
        have n1 : vs ≠ [] := fun z => c.1 (by subst z; cases r1; rfl)
        have n2 : vs2 ≠ [] := fun z => c.2.1 (by subst z; cases r2; rfl)
        refine ⟨a, a2, vs, vs2, rfl, rfl, hK ▸ SqT.le e1 ok.fok.sub, hK ▸ SqT.le e2 ok.fok.sub, n1, by rw [r1.length, r2.length, sizeLine_eq]; omega, ?_⟩
        first
          | exact ⟨fun z => absurd z n2, fun p hp => by
              obtain ⟨le2, ok2⟩ := ok.alloc hp (.tup (vs ++ vs2))
              exact q _ _ _ le2 ok2 (.tup (.inl (.inl upd_same)) ((r1.append r2).mono le2))⟩
          | exact ⟨fun z => absurd z n2, fun _ p hp => by
              obtain ⟨le2, ok2⟩ := ok.alloc hp (.tup (vs ++ vs2))
              exact q _ _ _ le2 ok2 (.tup (.inl (.inl upd_same)) ((r1.append r2).mono le2))⟩
      · cases e
    | _ => exact nomatch e
  | _ => exact nomatch e⟩
/-- a + b of lists: a new list -/
def aCat (fa fb : DE) : DA := fun s => (fa s).bind fun x s1 => (fb s1).bind fun y s2 => match x, y with
  | .lst a, .lst b => if a.length + b.length ≤ 1000000 then .ok (a ++ b) s2 else .stuck
  | _, _ => .stuck
theorem pdo_cat {a b : Expr} {fa fb : DE} {pos : Pos} (ha : PD G W X a fa) (hb : PD G W X b fb) : PDo G W X (.BinOp a .Add b pos) (aCat fa fb) :=
  (pe_op op_cat ha hb).imp fun σ H Q ⟨κ, w, s, ok, q⟩ => ⟨κ, w, s, ok, (PostG.bindO q).imp fun v H1 ⟨d, s1, w1, le, ok1, r1, q1⟩ => ⟨κ, w1, s1, ok1, (PostG.bindO q1).imp fun v2 H2 ⟨d2, s2, w2, le2, ok2, r2, q2⟩ => by
    cases r1 with
    | @lst p vs ds e1 r1 =>
      cases r2 with
      | @lst p2 vs2 ds2 e2 r2 =>
        replace q2 : PostO G W κ w2 σ (if ds.length + ds2.length ≤ 1000000 then .ok (ds ++ ds2) s2 else .stuck) Q := q2
        split at q2
        · refine ⟨p, p2, vs, vs2, rfl, rfl, ok2.fok.sub _ _ (le2.f _ _ e1), ok2.fok.sub _ _ e2, by rw [r1.length, r2.length, sizeLine_eq]; omega, fun p hp => ?_⟩
          exact q2 w2 p _ _ (.refl _) (ok2.fresh hp _) (ok2.apart hp) ((r1.mono le2).append r2)
        · exact q2.elim
      | _ => exact q2.elim
    | _ => exact q2.elim⟩⟩
/-- list * int: a new list -/
def aRep (fa fb : DE) : DA := fun s => (fa s).bind fun x s1 => (fb s1).bind fun y s2 => match x, y with
  | .lst a, .int k => if -(2 ^ 63) ≤ k ∧ k < 2 ^ 63 ∧ a.length * k.toNat ≤ 1000000 then .ok (List.replicate k.toNat a).flatten s2 else .stuck
  | _, _ => .stuck
theorem Reps.rep {w : Wd} {vs : List V} {ds : List D} (r : Reps G w vs ds) : ∀ k : Nat, Reps G w (List.replicate k vs).flatten (List.replicate k ds).flatten
  | 0 => .nil
  | k + 1 => by
    rw [List.replicate_succ, List.replicate_succ, List.flatten_cons, List.flatten_cons]
    exact r.append (Reps.rep r k)
/-! ### subscripts -/
def ixD (d : D) (i : Int) : Option D := match d with
  | .tup xs => atI xs i
  | .lst xs => atI xs i
  | .scr xs => atI xs i
  | .str l => if l.length ≤ 16777216 then (atI l i).map fun c => .str [c] else none
  | _ => none
def eIx (fa fb : DE) : DE := fun s => (fa s).bind fun x s1 => (fb s1).bind fun y s2 => match y with
  | .int i => match ixD x i with
    | some d => .ok d s2
    | none => .stuck
  | _ => .stuck
theorem Reps.atI {w : Wd} {vs : List V} {ds : List D} {i : Int} {d : D} (r : Reps G w vs ds) (h : L2.atI ds i = some d) : ∃ v, L2.atI vs i = some v ∧ Rep G w v d := by
  unfold L2.atI at h ⊢
  rw [r.length]
  cases e : ixN ds.length i with
  | none => rw [e] at h; cases h
  | some j =>
    rw [e] at h
    obtain ⟨v, h1, h2⟩ := r.get (i := j) h
    exact ⟨v, h1, h2⟩
theorem pd_ix (hK : G.K = X.K) {a b : Expr} {fa fb : DE} {pos : Pos} (ha : PD G W X a fa) (hb : PD G W X b fb) (hs : PlainIx b) : PD G W X (.Subscript a b pos) (eIx fa fb) :=
  (pe_ix ix_seq ha hb hs).imp fun σ H Q ⟨κ, w, s, ok, q⟩ => ⟨κ, w, s, ok, (PostG.bind q).imp fun v H1 ⟨d, s1, w1, le, ok1, r1, q1⟩ => ⟨κ, w1, s1, ok1, (PostG.bind q1).imp fun v2 H2 ⟨d2, s2, w2, le2, ok2, r2, q2⟩ => by
    cases r2 with
    | int i =>
      replace q2 : PostG G W (Rep G) κ w2 σ (match ixD d i with | some d => .ok d s2 | none => .stuck) Q := q2
      cases e : ixD d i with
      | none => rw [e] at q2; exact q2.elim
      | some z =>
        rw [e] at q2
        cases r1 with
        | @tup p vs ds e1 r1 =>
          obtain ⟨y, h1, h2⟩ := Reps.atI r1 e
          exact .inr (.inl ⟨p, vs, i, y, rfl, rfl, hK ▸ SqT.le (SqT.le e1 le2.f) ok2.fok.sub, h1, q2 w2 y H2 (.refl _) ok2 (h2.mono le2)⟩)
        | @lst p vs ds e1 r1 =>
          obtain ⟨y, h1, h2⟩ := Reps.atI r1 e
          exact .inl ⟨p, vs, i, y, rfl, rfl, .inl (.inl (ok2.fok.sub _ _ (le2.f _ _ e1))), h1, q2 w2 y H2 (.refl _) ok2 (h2.mono le2)⟩
        | @scr p vs ds e1 r1 =>
          obtain ⟨y, h1, h2⟩ := Reps.atI r1 e
          exact .inl ⟨p, vs, i, y, rfl, rfl, hK ▸ SqL.le (SqL.le e1 le2.f) ok2.fok.sub, h1, q2 w2 y H2 (.refl _) ok2 (h2.mono le2)⟩
        | str l =>
          have e : (if l.length ≤ 16777216 then (L2.atI l i).map fun c => D.str [c] else none) = some z := e
          split at e
          · rename_i hl
            cases e3 : L2.atI l i with
            | none => simp [e3] at e
            | some c =>
              simp only [e3, Option.map_some, Option.some.injEq] at e
              subst e
              refine .inr (.inr ⟨nm l, i, c, rfl, rfl, by rw [nm_len, sizeLine_eq]; exact hl, by simpa [nm] using e3, ?_⟩)
              exact q2 w2 _ H2 (.refl _) ok2 (.str [c])
          · cases e
        | _ => exact nomatch e
    | _ => exact q2.elim⟩⟩
end
end DL
set_option maxRecDepth 100000
set_option maxHeartbeats 4000000
set_option autoImplicit false
namespace DL
open PySem PySem.Spec PyProof.Rows L2
section
variable {G : Gam} {W : WX} {X : Cx}
/-! ### built-ins by name -/
def CallD (G : Gam) (X : Cx) (f : Value) (o : List D → Option D) : Prop := ∃ r, CallR X f r ∧ ∀ (κ : Bs) (w : Wd) (s : DS) (σ : L2.St) (H : Hp) (vs : List V) (ds : List D) (d : D) (Q : VK),
  Ok G κ w s σ H → Reps G w vs ds → o ds = some d → (∀ w' v H', w.le w' → Ok G κ w' s σ H' → Rep G w' v d → Q v H') → r vs H Q
def eCB (o : List D → Option D) (fa : DA) : DE := fun s => (fa s).bind fun ds s1 => match o ds with
  | some d => .ok d s1
  | none => .stuck
theorem cb_of {o : List D → Option D} {r : List V → Hp → VK → Prop} {fa : DA} {σ : L2.St} {H : Hp} {Q : VK} (h2 : ∀ (κ : Bs) (w : Wd) (s : DS) (σ : L2.St) (H : Hp) (vs : List V) (ds : List D) (d : D) (Q : VK),
    Ok G κ w s σ H → Reps G w vs ds → o ds = some d → (∀ w' v H', w.le w' → Ok G κ w' s σ H' → Rep G w' v d → Q v H') → r vs H Q) (h : tD G W (eCB o fa) σ H Q) : tCB r (tDA G W fa) σ H Q := by
  obtain ⟨κ, w, s, ok, q⟩ := h
  refine ⟨κ, w, s, ok, (PostG.bind q).imp fun v H1 ⟨d, s1, w1, le, ok1, r1, q1⟩ => ?_⟩
  cases e : o d with
  | none => rw [e] at q1; exact q1.elim
  | some z => rw [e] at q1; exact h2 κ w1 s1 σ H1 v d z Q ok1 r1 e q1
theorem pd_callB {x : Str} {id : String} {p pos : Pos} {e : Expr} {es : List Expr} {fa : DA} {o : List D → Option D} (hc : CallD G X (.builtin id) o) (hg : Gl X x) (hm : X.mg x = none) (hv : bootBuiltins x = some (.builtin id)) (ha : PDA G W X (e :: es) fa) (hn : x ≠ "__name__" := by decide)
    (hdb : (x == ("__debug__" : Str)) = false := by decide) (he : starEach (e :: es) X.env = (false, eval e X.env) :: starEach es X.env := by rfl) (hpl : (backTo pos (starEach es X.env)).any (·.1) = false := by rfl) : PD G W X (.Call (.Name x p) (e :: es) [] pos) (eCB o fa) := by
  obtain ⟨r, h1, h2⟩ := hc
  exact (pe_callB h1 hg hm hv ha hn hdb he hpl).imp fun σ H Q h => cb_of h2 h
theorem pd_callTy {x : Str} {T : String} {p pos : Pos} {e : Expr} {es : List Expr} {fa : DA} {o : List D → Option D} (hc : CallD G X (.type T) o) (hg : Gl X x) (hm : X.mg x = none) (hv : bootBuiltins x = some (.type T)) (ha : PDA G W X (e :: es) fa) (hn : x ≠ "__name__" := by decide)
    (hdb : (x == ("__debug__" : Str)) = false := by decide) (he : starEach (e :: es) X.env = (false, eval e X.env) :: starEach es X.env := by rfl) (hpl : (backTo pos (starEach es X.env)).any (·.1) = false := by rfl) : PD G W X (.Call (.Name x p) (e :: es) [] pos) (eCB o fa) := by
  obtain ⟨r, h1, h2⟩ := hc
  exact (pe_callTy h1 hg hm hv ha hn hdb he hpl).imp fun σ H Q h => cb_of h2 h
theorem Reps.one {w : Wd} {vs : List V} {d : D} (r : Reps G w vs [d]) : ∃ v, vs = [v] ∧ Rep G w v d := by
  cases r with
  | cons a b => cases b; exact ⟨_, rfl, a⟩
theorem Reps.two {w : Wd} {vs : List V} {d d' : D} (r : Reps G w vs [d, d']) : ∃ v v', vs = [v, v'] ∧ Rep G w v d ∧ Rep G w v' d' := by
  cases r with
  | cons a b =>
    cases b with
    | cons a2 b2 => cases b2; exact ⟨_, _, rfl, a, a2⟩
def bLen : List D → Option D
  | [.tup xs] => some (.int xs.length)
  | [.lst xs] => some (.int xs.length)
  | [.scr xs] => some (.int xs.length)
  | [.str l] => if l.length ≤ 16777216 then some (.int l.length) else none
  | _ => none
theorem cd_len (hK : G.K = X.K) : CallD G X (.builtin "len") bLen := ⟨_, call_len, fun κ w s σ H vs ds d Q ok rs e q => by
  match ds, e with
  | [.tup xs], e =>
    cases e
    obtain ⟨v, rfl, r⟩ := rs.one
    cases r with
    | @tup a vs ds e r => exact ⟨_, _, rfl, .inr ⟨vs, hK ▸ SqT.le e ok.fok.sub, rfl⟩, by rw [r.length]; exact q w _ H (.refl _) ok (.int _)⟩
  | [.lst xs], e =>
    cases e
    obtain ⟨v, rfl, r⟩ := rs.one
    cases r with
    | @lst a vs ds e r => exact ⟨_, _, rfl, .inl ⟨vs, .inl (.inl (ok.fok.sub _ _ e)), rfl⟩, by rw [r.length]; exact q w _ H (.refl _) ok (.int _)⟩
  | [.scr xs], e =>
    cases e
    obtain ⟨v, rfl, r⟩ := rs.one
    cases r with
    | @scr a vs ds e r => exact ⟨_, _, rfl, .inl ⟨vs, hK ▸ SqL.le e ok.fok.sub, rfl⟩, by rw [r.length]; exact q w _ H (.refl _) ok (.int _)⟩
  | [.str l], e =>
    have e : (if l.length ≤ 16777216 then some (D.int l.length) else none) = some d := e
    split at e
    · rename_i c
      cases e
      obtain ⟨v, rfl, r⟩ := rs.one
      cases r
      exact ⟨_, _, rfl, ⟨by rw [nm_len, sizeLine_eq]; exact c, rfl⟩, by rw [nm_len]; exact q w _ H (.refl _) ok (.int _)⟩
    · cases e⟩
def bInt : List D → Option D
  | [.int i] => some (.int i)
  | [.bl b] => some (.int (if b then 1 else 0))
  | _ => none
theorem cd_int : CallD G X (.type "int") bInt := ⟨_, call_int1, fun κ w s σ H vs ds d Q ok rs e q => by
  match ds, e with
  | [.int i], e =>
    cases e
    obtain ⟨v, rfl, r⟩ := rs.one
    cases r
    exact .inl ⟨i, rfl, q w _ H (.refl _) ok (.int _)⟩
  | [.bl b], e =>
    cases e
    obtain ⟨v, rfl, r⟩ := rs.one
    cases r
    exact .inr ⟨b, rfl, q w _ H (.refl _) ok (.int _)⟩⟩
def bAbs : List D → Option D
  | [.int i] => some (.int (if i < 0 then -i else i))
  | _ => none
theorem cd_abs : CallD G X (.builtin "abs") bAbs := ⟨_, call_abs, fun κ w s σ H vs ds d Q ok rs e q => by
  match ds, e with
  | [.int i], e =>
    cases e
    obtain ⟨v, rfl, r⟩ := rs.one
    cases r
    exact ⟨i, rfl, q w _ H (.refl _) ok (.int _)⟩⟩
def bMax2 : List D → Option D
  | [.int i, .int j] => some (.int (if j > i then j else i))
  | _ => none
def bMin2 : List D → Option D
  | [.int i, .int j] => some (.int (if j < i then j else i))
  | _ => none
theorem cd_max2 (hc : X.calm = true) : CallD G X (.builtin "max") bMax2 := ⟨_, call_max2 hc, fun κ w s σ H vs ds d Q ok rs e q => by
  match ds, e with
  | [.int i, .int j], e =>
    cases e
    obtain ⟨v, v', rfl, r, r'⟩ := rs.two
    cases r
    cases r'
    exact ⟨i, j, rfl, q w _ H (.refl _) ok (.int _)⟩⟩
theorem cd_min2 (hc : X.calm = true) : CallD G X (.builtin "min") bMin2 := ⟨_, call_min2 hc, fun κ w s σ H vs ds d Q ok rs e q => by
  match ds, e with
  | [.int i, .int j], e =>
    cases e
    obtain ⟨v, v', rfl, r, r'⟩ := rs.two
    cases r
    cases r'
    exact ⟨i, j, rfl, q w _ H (.refl _) ok (.int _)⟩⟩
def intsOf : List D → Option (List Int)
  | [] => some []
  | .int i :: r => (intsOf r).map (i :: ·)
  | _ => none
theorem intsOf_eq : ∀ {ds : List D} {ns : List Int}, intsOf ds = some ns → ds = ns.map D.int
  | [], ns, e => by cases e; rfl
  | .int i :: r, ns, e => by
    unfold intsOf at e
    cases q : intsOf r with
    | none => rw [q] at e; cases e
    | some ms =>
      rw [q] at e
      cases e
      rw [intsOf_eq q]
      rfl
  | .non :: _, _, e => nomatch e
  | .bl _ :: _, _, e => nomatch e
  | .str _ :: _, _, e => nomatch e
  | .tup _ :: _, _, e => nomatch e
  | .lst _ :: _, _, e => nomatch e
  | .scr _ :: _, _, e => nomatch e
  | .dic _ :: _, _, e => nomatch e
  | .ins _ _ :: _, _, e => nomatch e
  | .cell _ :: _, _, e => nomatch e
  | .cls _ :: _, _, e => nomatch e
  | .ty _ :: _, _, e => nomatch e
  | .fn _ :: _, _, e => nomatch e
def blsOf : List D → Option (List Bool)
  | [] => some []
  | .bl i :: r => (blsOf r).map (i :: ·)
  | _ => none
theorem blsOf_eq : ∀ {ds : List D} {ns : List Bool}, blsOf ds = some ns → ds = ns.map D.bl
  | [], ns, e => by cases e; rfl
  | .bl i :: r, ns, e => by
    unfold blsOf at e
    cases q : blsOf r with
    | none => rw [q] at e; cases e
    | some ms =>
      rw [q] at e
      cases e
      rw [blsOf_eq q]
      rfl
  | .non :: _, _, e => nomatch e
  | .int _ :: _, _, e => nomatch e
  | .str _ :: _, _, e => nomatch e
  | .tup _ :: _, _, e => nomatch e
  | .lst _ :: _, _, e => nomatch e
  | .scr _ :: _, _, e => nomatch e
  | .dic _ :: _, _, e => nomatch e
  | .ins _ _ :: _, _, e => nomatch e
  | .cell _ :: _, _, e => nomatch e
  | .cls _ :: _, _, e => nomatch e
  | .ty _ :: _, _, e => nomatch e
  | .fn _ :: _, _, e => nomatch e
theorem Reps.bls {w : Wd} : ∀ {v : List V} {ns : List Bool}, Reps G w v (ns.map D.bl) → v = ns.map V.bl
  | _, [], h => by cases h; rfl
  | _, n :: ns, h => by
    cases h with
    | cons a b => cases a; rw [Reps.bls b]; rfl
def bSum : List D → Option D
  | [.lst xs] => (intsOf xs).map fun ns => .int ns.sum
  | _ => none
theorem cd_sum (hc : X.calm = true) : CallD G X (.builtin "sum") bSum := ⟨_, cr_sum hc, fun κ w s σ H vs ds d Q ok rs e q => by
  match ds, e with
  | [.lst xs], e =>
    have e : (intsOf xs).map (fun ns => D.int ns.sum) = some d := e
    cases e1 : intsOf xs with
    | none => rw [e1] at e; cases e
    | some ns =>
      rw [e1] at e
      cases e
      obtain ⟨v, rfl, r⟩ := rs.one
      cases r with
      | @lst a vs ds e r =>
        rw [intsOf_eq e1] at r
        rw [r.ints] at e
        exact ⟨a, ns, rfl, .inl (.inl (ok.fok.sub _ _ e)), q w _ H (.refl _) ok (.int _)⟩⟩
def bAll : List D → Option D
  | [.lst xs] => (blsOf xs).map fun ns => .bl (ns.all id)
  | _ => none
def bAny : List D → Option D
  | [.lst xs] => (blsOf xs).map fun ns => .bl (ns.any id)
  | _ => none
theorem cd_all (hc : X.calm = true) : CallD G X (.builtin "all") bAll := ⟨_, cr_all hc, fun κ w s σ H vs ds d Q ok rs e q => by
  match ds, e with
  | [.lst xs], e =>
    have e : (blsOf xs).map (fun ns => D.bl (ns.all id)) = some d := e
    cases e1 : blsOf xs with
    | none => rw [e1] at e; cases e
    | some ns =>
      rw [e1] at e
      cases e
      obtain ⟨v, rfl, r⟩ := rs.one
      cases r with
      | @lst a vs ds e r =>
        rw [blsOf_eq e1] at r
        rw [r.bls] at e
        exact ⟨a, ns, rfl, .inl (.inl (ok.fok.sub _ _ e)), q w _ H (.refl _) ok (.bl _)⟩⟩
theorem cd_any (hc : X.calm = true) : CallD G X (.builtin "any") bAny := ⟨_, cr_any hc, fun κ w s σ H vs ds d Q ok rs e q => by
  match ds, e with
  | [.lst xs], e =>
    have e : (blsOf xs).map (fun ns => D.bl (ns.any id)) = some d := e
    cases e1 : blsOf xs with
    | none => rw [e1] at e; cases e
    | some ns =>
      rw [e1] at e
      cases e
      obtain ⟨v, rfl, r⟩ := rs.one
      cases r with
      | @lst a vs ds e r =>
        rw [blsOf_eq e1] at r
        rw [r.bls] at e
        exact ⟨a, ns, rfl, .inl (.inl (ok.fok.sub _ _ e)), q w _ H (.refl _) ok (.bl _)⟩⟩
/-- tuple(x) -/
def bTup : List D → Option D
  | [.tup xs] => some (.tup xs)
  | [.lst xs] => some (.tup xs)
  | _ => none
theorem cd_tup (hK : G.K = X.K) : CallD G X (.type "tuple") bTup := ⟨_, call_tuple_of, fun κ w s σ H vs ds d Q ok rs e q => by
  match ds, e with
  | [.tup xs], e =>
    cases e
    obtain ⟨v, rfl, r⟩ := rs.one
    cases r with
    | @tup a vs ds e r => exact ⟨a, vs, rfl, .inr ⟨hK ▸ SqT.le e ok.fok.sub, q w _ H (.refl _) ok (.tup e r)⟩⟩
  | [.lst xs], e =>
    cases e
    obtain ⟨v, rfl, r⟩ := rs.one
    cases r with
    | @lst a vs ds e r => exact ⟨a, vs, rfl, .inl ⟨.inl (.inl (ok.fok.sub _ _ e)), fun l hl => by
        obtain ⟨le2, ok2⟩ := ok.alloc hl (.tup vs)
        exact q _ _ _ le2 ok2 (.tup (.inl (.inl upd_same)) (r.mono le2))⟩⟩⟩
/-- list(x): a new list -/
def seqD (d : D) : Option (List D) := match d with
  | .tup xs => some xs
  | .lst xs => some xs
  | .scr xs => some xs
  | _ => none
def aList (fa : DA) : DA := fun s => (fa s).bind fun ds s1 => match ds with
  | [d] => match seqD d with
    | some xs => .ok xs s1
    | none => .stuck
  | _ => .stuck
theorem Rep.seq (hK : G.K = X.K) {κ : Bs} {w : Wd} {s : DS} {σ : L2.St} {H : Hp} {v : V} {d : D} {xs : List D} (ok : Ok G κ w s σ H) (r : Rep G w v d) (h : seqD d = some xs) : ∃ a vs, v = .ref a ∧ (SqL X.K H a vs ∨ SqT X.K H a vs) ∧ Reps G w vs xs := by
  cases r with
  | @tup a vs ds e r => cases h; exact ⟨a, vs, rfl, .inr (hK ▸ SqT.le e ok.fok.sub), r⟩
  | @lst a vs ds e r => cases h; exact ⟨a, vs, rfl, .inl (.inl (.inl (ok.fok.sub _ _ e))), r⟩
  | @scr a vs ds e r => cases h; exact ⟨a, vs, rfl, .inl (hK ▸ SqL.le e ok.fok.sub), r⟩
  | _ => exact nomatch h
theorem pdo_list (hK : G.K = X.K) {x : Str} {p pos : Pos} {e : Expr} {fa : DA} (hg : Gl X x) (hm : X.mg x = none) (hv : bootBuiltins x = some (.type "list")) (ha : PDA G W X [e] fa) (hn : x ≠ "__name__" := by decide) (hdb : (x == ("__debug__" : Str)) = false := by decide)
    (he : starEach [e] X.env = (false, eval e X.env) :: starEach [] X.env := by rfl) (hpl : (backTo pos (starEach [] X.env)).any (·.1) = false := by rfl) : PDo G W X (.Call (.Name x p) [e] [] pos) (aList fa) :=
  (pe_callTy call_list_of hg hm hv ha hn hdb he hpl).imp fun σ H Q ⟨κ, w, s, ok, q⟩ => ⟨κ, w, s, ok, (PostG.bindO q).imp fun v H1 ⟨d, s1, w1, le, ok1, r1, q1⟩ => by
    match d, q1 with
    | [d], q1 =>
      replace q1 : PostO G W κ w1 σ (match seqD d with | some xs => .ok xs s1 | none => .stuck) Q := q1
      cases e1 : seqD d with
      | none => rw [e1] at q1; exact q1.elim
      | some xs =>
        rw [e1] at q1
        obtain ⟨v, rfl, r⟩ := r1.one
        obtain ⟨a, vs, rfl, h1, h2⟩ := r.seq hK ok1 e1
        exact ⟨a, vs, rfl, h1, fun l hl => q1 w1 l vs _ (.refl _) (ok1.fresh hl _) (ok1.apart hl) h2⟩⟩
/-! ### slices -/
abbrev DOp := DS → Res DS (Option Int)
def oNone : DOp := fun s => .ok none s
def oSome (f : DE) : DOp := fun s => (f s).bind fun d s1 => match d with
  | .int i => .ok (some i) s1
  | _ => .stuck
def tDO (G : Gam) (W : WX) (f : DOp) : TO := fun σ H Q => ∃ κ w s, Ok G κ w s σ H ∧ PostG G W (fun _ (v : Option Int) d => v = d) κ w σ (f s) Q
theorem _root_.L2.PO.imp {X : Cx} {e : Option Expr} {t t' : TO} (h : PO X e t) (k : ∀ σ H Q, t' σ H Q → t σ H Q) : PO X e t' := ⟨by
  first
    | exact fun pins s σ H Q I q => h.run pins s σ H Q I (k σ H Q q)
    | exact fun a pins s σ H Q I q => h.run a pins s σ H Q I (k σ H Q q)⟩
theorem pdo_none : PO X none (tDO G W oNone) := po_none.imp fun σ H Q ⟨κ, w, s, ok, q⟩ => q w none H (.refl _) ok rfl
theorem pdo_some {e : Expr} {f : DE} (h : PD G W X e f) : PO X (some e) (tDO G W (oSome f)) := (po_some h).imp fun σ H Q ⟨κ, w, s, ok, q⟩ => ⟨κ, w, s, ok, (PostG.bind q).imp fun v H1 ⟨d, s1, w1, le, ok1, r1, q1⟩ => by
  cases r1 with
  | int i => exact ⟨i, rfl, q1 w1 _ H1 (.refl _) ok1 rfl⟩
  | _ => exact q1.elim⟩
def cutD {α : Type} (xs : List α) (lo hi : Option Int) : List α := (xs.drop (HT.sIx xs.length 0 lo)).take (HT.sIx xs.length xs.length hi - HT.sIx xs.length 0 lo)
theorem Reps.cut {w : Wd} {vs : List V} {ds : List D} (r : Reps G w vs ds) (lo hi : Option Int) : Reps G w (cutV vs lo hi) (cutD ds lo hi) := by
  unfold cutV cutD
  rw [r.length]
  exact (r.drop _).take _
/-- a slice of a list: a new list -/
def aSl (f : DE) (l h : DOp) : DA := fun s => (f s).bind fun d s1 => (l s1).bind fun lo s2 => (h s2).bind fun hi s3 => match d with
  | .lst xs => .ok (cutD xs lo hi) s3
  | .scr xs => .ok (cutD xs lo hi) s3
  | _ => .stuck
theorem pdo_slice (hK : G.K = X.K) {e : Expr} {lo hi : Option Expr} {f : DE} {l h : DOp} {p2 pos : Pos} (he : PD G W X e f) (hl : PO X lo (tDO G W l)) (hh : PO X hi (tDO G W h)) : PDo G W X (.Subscript e (.Slice lo hi none p2) pos) (aSl f l h) :=
  (pe_slice sl_list he hl hh).imp fun σ H Q ⟨κ, w, s, ok, q⟩ => ⟨κ, w, s, ok, (PostG.bindO q).imp fun v H1 ⟨d, s1, w1, le, ok1, r1, q1⟩ => ⟨κ, w1, s1, ok1, (PostG.bindO q1).imp fun v2 H2 ⟨d2, s2, w2, le2, ok2, r2, q2⟩ =>
    ⟨κ, w2, s2, ok2, (PostG.bindO q2).imp fun v3 H3 ⟨d3, s3, w3, le3, ok3, r3, q3⟩ => by
      subst r2
      subst r3
      cases r1 with
      | @lst a vs ds e r =>
        have e := le3.f _ _ (le2.f _ _ e)
        exact ⟨a, vs, rfl, .inl (.inl (ok3.fok.sub _ _ e)), fun p hp => q3 w3 p _ _ (.refl _) (ok3.fresh hp _) (ok3.apart hp) (((r.mono le2).mono le3).cut _ _)⟩
      | @scr a vs ds e r =>
        exact ⟨a, vs, rfl, hK ▸ SqL.le (SqL.le (SqL.le e le2.f) le3.f) ok3.fok.sub, fun p hp => q3 w3 p _ _ (.refl _) (ok3.fresh hp _) (ok3.apart hp) (((r.mono le2).mono le3).cut _ _)⟩
      | _ => exact q3.elim⟩⟩⟩
/-! ### isinstance -/
def tyD (d : D) : Option String := match d with
  | .non => some "NoneType"
  | .bl _ => some "bool"
  | .int _ => some "int"
  | .str _ => some "str"
  | .tup _ => some "tuple"
  | .lst _ => some "list"
  | .scr _ => some "list"
  | .dic _ => some "dict"
  | _ => none
def tyNames : List String := ["NoneType", "bool", "int", "str", "tuple", "list", "dict"]
def isTy (a b : String) : Bool := a == b || (a == "bool" && b == "int")
theorem isTy_ok : ∀ a ∈ tyNames, ∀ b ∈ tyNames, kitB a b = some (isTy a b) := by decide +kernel
/-- what of the text isinstance asks of the own classes -/
structure IsOk (G : Gam) (cs : List String) : Prop where
  cl : ∀ c ∈ cs, ∀ C, G.ct c = some C → Cls G.K C ∧ PySem.W.findIn G.K (.ref C) "__class__" = some (some (.builtin "object.__class__")) ∧ PySem.W.specialIn G.K (.builtin "object.__class__") "__get__" = some (some (.builtin "getset_descriptor.__get__")) ∧
    PySem.W.takesIn G.K (.builtin "object.__class__") = some true ∧ PySem.W.mroIn G.K C (.type "object") = some true
  bo : ∀ c ∈ cs, ∀ C, G.ct c = some C → ∀ b ∈ tyNames, PySem.W.kitOne G.K (.ref C) (.type b) = some false ∧ PySem.W.kitOne G.K (.type b) (.ref C) = some false
  oo : ∀ c ∈ cs, ∀ c' ∈ cs, ∀ C C', G.ct c = some C → G.ct c' = some C' → PySem.W.kitOne G.K (.ref C) (.ref C') = some (c == c')
/-- the type of data: built-in or own -/
def tyOfD (cs : List String) (d : D) : Option (String ⊕ String) := match d with
  | .ins c _ => if c ∈ cs then some (.inr c) else none
  | d => (tyD d).map .inl
def isOne (cs : List String) (t : String ⊕ String) (c : D) : Option Bool := match t, c with
  | .inl a, .ty b => if a ∈ tyNames ∧ b ∈ tyNames then some (isTy a b) else none
  | .inl a, .cls b => if a ∈ tyNames ∧ b ∈ cs then some false else none
  | .inr a, .ty b => if b ∈ tyNames then some false else none
  | .inr a, .cls b => if b ∈ cs then some (a == b) else none
  | _, _ => none
def bIsi (cs : List String) : List D → Option D
  | [d, c] => (tyOfD cs d).bind fun t => (isOne cs t c).map .bl
  | _ => none
theorem tyX_of (hK : G.K = X.K) {cs : List String} (I : IsOk G cs) {κ : Bs} {w : Wd} {s : DS} {σ : L2.St} {H : Hp} {v : V} {d : D} {t : String ⊕ String} (ok : Ok G κ w s σ H) (r : Rep G w v d) (h : tyOfD cs d = some t) :
    ∃ tv, TyX X.K H v tv ∧ (match t with | .inl a => tv = .type a ∧ a ∈ tyNames | .inr c => c ∈ cs ∧ ∃ C, G.ct c = some C ∧ tv = .ref C) := by
  cases r with
  | non => cases h; exact ⟨_, .base .non, rfl, by decide⟩
  | bl b => cases h; exact ⟨_, .base (.bl b), rfl, by decide⟩
  | int i => cases h; exact ⟨_, .base (.int i), rfl, by decide⟩
  | str l => cases h; exact ⟨_, .base (.str _), rfl, by decide⟩
  | @tup a vs ds e r =>
    cases h
    rcases SqT.le e ok.fok.sub with (z | ⟨o, z⟩) | ⟨o, its, n, z1, z2, _⟩
    · exact ⟨_, .base (.tup z), rfl, by decide⟩
    · exact ⟨_, .fTuple z, rfl, by decide⟩
    · exact ⟨_, .kTuple (hK ▸ z1) z2, rfl, by decide⟩
  | @lst a vs ds e r => cases h; exact ⟨_, .base (.lst (ok.fok.sub _ _ e)), rfl, by decide⟩
  | @scr a vs ds e r =>
    cases h
    rcases SqL.le e ok.fok.sub with (z | ⟨o, z⟩) | ⟨o, its, n, z1, z2, _⟩
    · exact ⟨_, .base (.lst z), rfl, by decide⟩
    · exact ⟨_, .base (.frz z), rfl, by decide⟩
    · exact ⟨_, .kList (hK ▸ z1) z2, rfl, by decide⟩
  | @dic a vs ds e r => cases h; exact ⟨_, .base (.dK (ok.fok.sub _ _ e)), rfl, by decide⟩
  | @ins a C dx c vs ds hC e r =>
    have h : (if c ∈ cs then some (Sum.inr c) else none) = some t := h
    split at h
    · rename_i hc
      cases h
      obtain ⟨cl, h1, h2, h3, h4⟩ := I.cl c hc C hC
      exact ⟨_, .base (.ins (ok.fok.sub _ _ e) (hK ▸ cl) (hK ▸ h1) (hK ▸ h2) (hK ▸ h3) (hK ▸ h4)), hc, C, hC, rfl⟩
    · cases h
  | _ => exact nomatch h
theorem cd_isi (hK : G.K = X.K) {cs : List String} (I : IsOk G cs) : CallD G X (.builtin "isinstance") (bIsi cs) := ⟨_, call_isi, fun κ w s σ H vs ds d Q ok rs e q => by
  match ds, e with
  | [x, c], e =>
    have e : ((tyOfD cs x).bind fun t => (isOne cs t c).map D.bl) = some d := e
    cases e1 : tyOfD cs x with
    | none => rw [e1] at e; cases e
    | some t =>
      rw [e1] at e
      obtain ⟨v, v', rfl, r, r'⟩ := rs.two
      obtain ⟨tv, ty, ht⟩ := tyX_of hK I ok r e1
      have e : (isOne cs t c).map D.bl = some d := e
      cases e2 : isOne cs t c with
      | none => rw [e2] at e; cases e
      | some b =>
        rw [e2] at e
        cases e
        cases t with
        | inl a =>
          obtain ⟨rfl, ha⟩ := ht
          cases r' with
          | ty n =>
            have e2 : (if a ∈ tyNames ∧ n ∈ tyNames then some (isTy a n) else none) = some b := e2
            split at e2
            · rename_i h
              cases e2
              exact ⟨v, _, _, .type n, _, rfl, .ty n, ty, kit_ty (isTy_ok a h.1 n h.2), q w _ H (.refl _) ok (.bl _)⟩
            · cases e2
          | @cls C n hC =>
            have e2 : (if a ∈ tyNames ∧ n ∈ cs then some false else none) = some b := e2
            split at e2
            · rename_i h
              cases e2
              exact ⟨v, _, _, .ref C, _, rfl, .own C, ty, hK ▸ (I.bo n h.2 C hC a h.1).2, q w _ H (.refl _) ok (.bl _)⟩
            · cases e2
          | _ => exact nomatch e2
        | inr a =>
          obtain ⟨ha, C', hC', rfl⟩ := ht
          cases r' with
          | ty n =>
            have e2 : (if n ∈ tyNames then some false else none) = some b := e2
            split at e2
            · rename_i h
              cases e2
              exact ⟨v, _, _, .type n, _, rfl, .ty n, ty, hK ▸ (I.bo a ha C' hC' n h).1, q w _ H (.refl _) ok (.bl _)⟩
            · cases e2
          | @cls C n hC =>
            have e2 : (if n ∈ cs then some (a == n) else none) = some b := e2
            split at e2
            · rename_i h
              cases e2
              exact ⟨v, _, _, .ref C, _, rfl, .own C, ty, hK ▸ I.oo a ha n h C' C hC' hC, q w _ H (.refl _) ok (.bl _)⟩
            · cases e2
          | _ => exact nomatch e2⟩
end
end DL
set_option maxRecDepth 100000
set_option maxHeartbeats 4000000
set_option autoImplicit false
namespace DL
open PySem PySem.Spec PyProof.Rows L2
section
variable {G : Gam} {W : WX} {X : Cx}
/-! ### dicts -/
theorem dkey_inj {a b : DK} (h : dkey a = dkey b) : a = b := by
  cases a <;> cases b <;> simp [dkey] at h <;> first | (subst h; rfl) | (rw [nm_inj h])
def kOf (d : D) : Option DK := match d with
  | .int i => some (.i i)
  | .str l => some (.s l)
  | _ => none
theorem Rep.key {w : Wd} {v : V} {d : D} {k : DK} (r : Rep G w v d) (h : kOf d = some k) : v = kV (dkey k) := by
  cases r with
  | int i => cases h; rfl
  | str l => cases h; rfl
  | _ => exact nomatch h
def dLook (kvs : List (DK × D)) (k : DK) : Option D := match kvs with
  | [] => none
  | (k', d) :: r => if k' = k then some d else dLook r k
def dPut (kvs : List (DK × D)) (k : DK) (x : D) : List (DK × D) := match kvs with
  | [] => [(k, x)]
  | (k', d) :: r => if k' = k then (k, x) :: r else (k', d) :: dPut r k x
theorem RepK.look {w : Wd} : ∀ {v : List (Key × V)} {d : List (DK × D)} {k : DK}, RepK G w v d → (∀ x, dLook d k = some x → ∃ y, valV v (dkey k) = some y ∧ Rep G w y x) ∧ (dLook d k = none → valV v (dkey k) = none)
  | _, _, _, .nil => ⟨fun x e => (nomatch e), fun _ => rfl⟩
  | _, _, k, .cons (k := k') (v := v) (d := d) (vs := vs) (ds := ds) a b => by
    by_cases h : k' = k
    · subst h
      refine ⟨fun x e => ?_, fun e => ?_⟩
      · unfold dLook at e
        rw [if_pos rfl] at e
        cases e
        exact ⟨v, valV_pos rfl, a⟩
      · unfold dLook at e
        rw [if_pos rfl] at e
        cases e
    · have h2 : ¬ dkey k' = dkey k := fun q => h (dkey_inj q)
      obtain ⟨i1, i2⟩ := RepK.look (k := k) b
      refine ⟨fun x e => ?_, fun e => ?_⟩
      · unfold dLook at e
        rw [if_neg h] at e
        obtain ⟨y, q1, q2⟩ := i1 x e
        exact ⟨y, (valV_neg h2).trans q1, q2⟩
      · unfold dLook at e
        rw [if_neg h] at e
        exact (valV_neg h2).trans (i2 e)
theorem RepK.length {w : Wd} : ∀ {v : List (Key × V)} {d : List (DK × D)}, RepK G w v d → v.length = d.length
  | _, _, .nil => rfl
  | _, _, .cons _ b => by rw [List.length_cons, List.length_cons, RepK.length b]
/-- what of a dict is told (Nodup keys are not known here: the store at the first place and at the last agree by this) -/
def keysNd : List (DK × D) → Bool
  | [] => true
  | (k, _) :: r => !(r.any fun p => decide (p.1 = k)) && keysNd r
theorem RepK.any {w : Wd} {k : DK} : ∀ {v : List (Key × V)} {d : List (DK × D)}, RepK G w v d → (v.any fun kv => decide (kv.1 = dkey k)) = d.any fun kv => decide (kv.1 = k)
  | _, _, .nil => rfl
  | _, _, .cons (k := k') a b => by
    rw [List.any_cons, List.any_cons, RepK.any b]
    congr 1
    by_cases h : k' = k
    · subst h; simp
    · simp [h, show ¬ dkey k' = dkey k from fun q => h (dkey_inj q)]
theorem RepK.keepMap {w : Wd} {k : DK} {y : V} : ∀ {v : List (Key × V)} {d : List (DK × D)}, RepK G w v d → (d.any fun kv => decide (kv.1 = k)) = false → v.map (fun kv => if kv.1 = dkey k then (kv.1, y) else kv) = v
  | _, _, .nil, _ => rfl
  | _, _, .cons (k := k') a b, h => by
    rw [List.any_cons, Bool.or_eq_false_iff] at h
    have h1 : ¬ k' = k := of_decide_eq_false h.1
    rw [List.map_cons, if_neg (show ¬ dkey k' = dkey k from fun q => h1 (dkey_inj q)), RepK.keepMap b h.2]
theorem dPut_new : ∀ {d : List (DK × D)} {k : DK} {x : D}, (d.any fun kv => decide (kv.1 = k)) = false → dPut d k x = d ++ [(k, x)]
  | [], _, _, _ => rfl
  | (k', z) :: r, k, x, h => by
    rw [List.any_cons, Bool.or_eq_false_iff] at h
    have h1 : ¬ k' = k := of_decide_eq_false h.1
    unfold dPut
    rw [if_neg h1, dPut_new h.2]
    rfl
theorem RepK.append {w : Wd} : ∀ {v v' : List (Key × V)} {d d' : List (DK × D)}, RepK G w v d → RepK G w v' d' → RepK G w (v ++ v') (d ++ d')
  | _, _, _, _, .nil, h => h
  | _, _, _, _, .cons a b, h => .cons a (RepK.append b h)
theorem RepK.putMap {w : Wd} {k : DK} {y : V} {x : D} (r : Rep G w y x) : ∀ {v : List (Key × V)} {d : List (DK × D)}, RepK G w v d → keysNd d = true → (d.any fun kv => decide (kv.1 = k)) = true → RepK G w (v.map fun kv => if kv.1 = dkey k then (kv.1, y) else kv) (dPut d k x)
  | _, _, .nil, _, h => nomatch h
  | _, _, .cons (k := k') a b, nd, h => by
    unfold keysNd at nd
    rw [Bool.and_eq_true, Bool.not_eq_true'] at nd
    unfold dPut
    by_cases e : k' = k
    · subst e
      rw [if_pos rfl, List.map_cons, if_pos rfl, RepK.keepMap b nd.1]
      exact .cons r b
    · rw [if_neg e, List.map_cons, if_neg (show ¬ dkey k' = dkey k from fun q => e (dkey_inj q))]
      refine .cons a (RepK.putMap r b nd.2 ?_)
      rw [List.any_cons, Bool.or_eq_true] at h
      rcases h with h | h
      · exact absurd (of_decide_eq_true h) e
      · exact h
theorem RepK.put {w : Wd} {k : DK} {y : V} {x : D} (r : Rep G w y x) {v : List (Key × V)} {d : List (DK × D)} (h : RepK G w v d) (nd : keysNd d = true) : RepK G w (putK v (dkey k) y) (dPut d k x) := by
  unfold putK
  rw [h.any]
  cases e : d.any fun kv => decide (kv.1 = k) with
  | true => rw [if_pos rfl]; exact h.putMap r nd e
  | false =>
    rw [if_neg (fun z => nomatch z), dPut_new e]
    exact h.append (.cons r .nil)
def dictOf (d : D) (s : DS) : Option (List (DK × D)) := match d with
  | .dic kvs => some kvs
  | .cell n => match s.st[n]? with
    | some (.dic kvs) => some kvs
    | _ => none
  | _ => none
theorem Rep.dict {κ : Bs} {w : Wd} {s : DS} {σ : L2.St} {H : Hp} {v : V} {d : D} {kvs : List (DK × D)} (ok : Ok G κ w s σ H) (r : Rep G w v d) (h : dictOf d s = some kvs) : ∃ a vs, v = .ref a ∧ H a = some (.dK vs) ∧ RepK G w vs kvs := by
  cases r with
  | @dic a vs ds e r => cases h; exact ⟨a, vs, rfl, ok.fok.sub _ _ e, r⟩
  | @cell a n e =>
    have h : (match s.st[n]? with | some (.dic kvs) => some kvs | _ => none) = some kvs := h
    cases q : s.st[n]? with
    | none => rw [q] at h; cases h
    | some c =>
      rw [q] at h
      cases c with
      | dic kvs' =>
        cases h
        obtain ⟨vs, h1, h2⟩ := ok.fok.cel n a _ e q
        exact ⟨a, vs, rfl, h1, h2⟩
      | _ => cases h
  | _ => exact nomatch h
def eDGet (fo fi : DE) : DE := fun s => (fo s).bind fun d s1 => (fi s1).bind fun k s2 => match dictOf d s2, kOf k with
  | some kvs, some k => match dLook kvs k with
    | some x => .ok x s2
    | none => .stuck
  | _, _ => .stuck
theorem pd_dget {o i : Expr} {fo fi : DE} {pos : Pos} (hu : X.A.units + 1 < cLine) (ho : PD G W X o fo) (hi : PD G W X i fi) (hs : NoSl i) : PD G W X (.Subscript o i pos) (eDGet fo fi) :=
  (pe_dget hu ho hi hs).imp fun σ H Q ⟨κ, w, s, ok, q⟩ => ⟨κ, w, s, ok, (PostG.bind q).imp fun v H1 ⟨d, s1, w1, le, ok1, r1, q1⟩ => ⟨κ, w1, s1, ok1, (PostG.bind q1).imp fun v2 H2 ⟨d2, s2, w2, le2, ok2, r2, q2⟩ => by
    cases e1 : dictOf d s2 with
    | none => rw [e1] at q2; exact q2.elim
    | some kvs =>
      cases e2 : kOf d2 with
      | none => rw [e1, e2] at q2; exact q2.elim
      | some k =>
        rw [e1, e2] at q2
        replace q2 : PostG G W (Rep G) κ w2 σ (match dLook kvs k with | some x => .ok x s2 | none => .stuck) Q := q2
        cases e3 : dLook kvs k with
        | none => rw [e3] at q2; exact q2.elim
        | some x =>
          rw [e3] at q2
          obtain ⟨a, vs, rfl, hH, rk⟩ := (r1.mono le2).dict ok2 e1
          obtain ⟨y, h1, h2⟩ := (rk.look (k := k)).1 x e3
          refine ⟨a, y, rfl, ?_, q2 w2 y H2 (.refl _) ok2 h2⟩
          rw [r2.key e2, ← h1]
          exact DGet.k hH⟩⟩
/-- d[k] = v of a dict in the store -/
def sDPutC (fo fi fv : DE) : DStm := fun s => (fv s).bind fun x s1 => (fo s1).bind fun d s2 => (fi s2).bind fun k s3 => match d, kOf k with
  | .cell n, some k => match s3.st[n]? with
    | some (.dic kvs) => if kvs.length < 1000000 ∧ keysNd kvs = true then .ok .nx ⟨s3.sl, s3.st.set n (.dic (dPut kvs k x))⟩ else .stuck
    | _ => .stuck
  | _, _ => .stuck
theorem pds_dputC {o i value : Expr} {fo fi fv : DE} {pos pos' : Pos} (hu : X.A.units + 1 < cLine) (ho : PD G W X o fo) (hi : PD G W X i fi) (hv : PD G W X value fv) (hs : swapsWith value (some (.Subscript o i pos')) pos.line X.env = pure false := by rfl) :
    PDS G W X (.Assign [.Subscript o i pos'] value pos) (sDPutC fo fi fv) :=
  (ps_dput hu ho hi hv hs).imp fun N σ H ⟨κ, w, s, ok, q⟩ => ⟨κ, w, s, ok, (PostG.bindS q).imp fun v H1 ⟨d, s1, w1, le, ok1, r1, q1⟩ => ⟨κ, w1, s1, ok1, (PostG.bindS q1).imp fun v2 H2 ⟨d2, s2, w2, le2, ok2, r2, q2⟩ =>
    ⟨κ, w2, s2, ok2, (PostG.bindS q2).imp fun v3 H3 ⟨d3, s3, w3, le3, ok3, r3, q3⟩ => by
      cases r2 with
      | @cell a n e =>
        cases e2 : kOf d3 with
        | none => rw [e2] at q3; exact q3.elim
        | some k =>
          rw [e2] at q3
          replace q3 : PostS G W κ w3 (match s3.st[n]? with | some (.dic kvs) => if kvs.length < 1000000 ∧ keysNd kvs = true then .ok .nx ⟨s3.sl, s3.st.set n (.dic (dPut kvs k d))⟩ else .stuck | _ => .stuck) N := q3
          cases e3 : s3.st[n]? with
          | none => rw [e3] at q3; exact q3.elim
          | some c =>
            rw [e3] at q3
            cases c with
            | dic kvs =>
              replace q3 : PostS G W κ w3 (if kvs.length < 1000000 ∧ keysNd kvs = true then .ok .nx ⟨s3.sl, s3.st.set n (.dic (dPut kvs k d))⟩ else .stuck) N := q3
              split at q3
              · rename_i c
                have e' := pre_get le3.r e
                obtain ⟨vs, h1, h2⟩ := ok3.fok.cel n a _ e' e3
                refine ⟨a, _, rfl, ?_, q3 w3 σ _ (.refl _) (ok3.cell e' (c := .dic (dPut kvs k d)) ⟨_, upd_same, h2.put ((r1.mono le2).mono le3) c.2⟩)⟩
                rw [r3.key e2]
                exact DPut.k h1 (by rw [h2.length, sizeLine_eq]; omega)
              · exact q3.elim
            | _ => exact q3.elim
      | _ => exact q3.elim⟩⟩⟩
/-! ### a dict is displayed -/
def pairsD : List (DE × DE) → DS → Res DS (List (D × D))
  | [], s => .ok [] s
  | (fk, fv) :: r, s => (fk s).bind fun k s1 => (fv s1).bind fun x s2 => (pairsD r s2).bind fun ps s3 => .ok ((k, x) :: ps) s3
inductive RepP (G : Gam) (w : Wd) : List (V × V) → List (D × D) → Prop
  | nil : RepP G w [] []
  | cons {v v' : V} {d d' : D} {vs : List (V × V)} {ds : List (D × D)} : Rep G w v d → Rep G w v' d' → RepP G w vs ds → RepP G w ((v, v') :: vs) ((d, d') :: ds)
theorem pairs_of : ∀ (fs : List (DE × DE)) {κ : Bs} {w : Wd} {s : DS} {σ : L2.St} {H : Hp} {Q : List (V × V) → Hp → Prop}, Ok G κ w s σ H → PostG G W (RepP G) κ w σ (pairsD fs s) Q → tPairs (fs.map fun p => (tD G W p.1, tD G W p.2)) σ H Q
  | [], κ, w, s, σ, H, Q, ok, q => q w [] H (.refl _) ok .nil
  | (fk, fv) :: r, κ, w, s, σ, H, Q, ok, q => by
    refine ⟨κ, w, s, ok, (PostG.bind q).imp fun v H1 ⟨d, s1, w1, le, ok1, r1, q1⟩ => ⟨κ, w1, s1, ok1, (PostG.bind q1).imp fun v2 H2 ⟨d2, s2, w2, le2, ok2, r2, q2⟩ => ?_⟩⟩
    refine pairs_of r ok2 ((PostG.bind (rep := RepP G) q2).imp fun ps H3 ⟨ds, s3, w3, le3, ok3, r3, q3⟩ => ?_)
    exact q3 w3 _ H3 (.refl _) ok3 (.cons ((r1.mono le2).mono le3) (r2.mono le3) r3)
def keyed : List (D × D) → Option (List (DK × D))
  | [] => some []
  | (k, x) :: r => match kOf k, keyed r with
    | some k, some r => some ((k, x) :: r)
    | _, _ => none
theorem keyed_of {w : Wd} : ∀ {ps : List (V × V)} {ds : List (D × D)} {kvs : List (DK × D)}, RepP G w ps ds → keyed ds = some kvs → ∃ vs : List (Key × V), ps = vs.map (fun kv => (kV kv.1, kv.2)) ∧ RepK G w vs kvs
  | _, _, _, .nil, e => by cases e; exact ⟨[], rfl, .nil⟩
  | _, _, kvs, .cons (d := d) (ds := ds) a b c, e => by
    unfold keyed at e
    cases e1 : kOf d with
    | none => rw [e1] at e; cases e
    | some k =>
      cases e2 : keyed ds with
      | none => rw [e1, e2] at e; cases e
      | some r =>
        rw [e1, e2] at e
        cases e
        obtain ⟨vs, h1, h2⟩ := keyed_of c e2
        refine ⟨(dkey k, _) :: vs, ?_, .cons b h2⟩
        rw [h1, a.key e1]
        rfl
theorem keys_merge {w : Wd} : ∀ {more : List (Key × V)} {kvs : List (DK × D)} {v : List (Key × V)} {d : List (DK × D)}, RepK G w more kvs → RepK G w v d → (keysNd (d ++ kvs) = true) → RepK G w (mergeK v more) (d ++ kvs)
  | _, _, v, d, .nil, h, _ => by rw [List.append_nil]; exact h
  | _, _, v, d, .cons (k := k) (v := y) (d := x) (vs := vs) (ds := ds) a b, h, nd => by
    have new : (d.any fun kv => decide (kv.1 = k)) = false := by
      clear h a b
      induction d with
      | nil => rfl
      | cons p r ih =>
        rw [List.cons_append] at nd
        unfold keysNd at nd
        rw [Bool.and_eq_true, Bool.not_eq_true', List.any_append, Bool.or_eq_false_iff, List.any_cons, Bool.or_eq_false_iff] at nd
        rw [List.any_cons, ih nd.2, Bool.or_false]
        have := of_decide_eq_false nd.1.2.1
        exact decide_eq_false fun q => this q.symm
    have e : mergeK v ((dkey k, y) :: vs) = mergeK (v ++ [(dkey k, y)]) vs := by
      unfold mergeK
      rw [List.foldl_cons]
      congr 1
      unfold putK
      rw [h.any, new]
      rfl
    rw [e]
    have := keys_merge b (h.append (.cons a .nil)) (d := d ++ [(k, x)]) (by rw [List.append_assoc]; exact nd)
    rw [List.append_assoc] at this
    exact this
/-- a new dict of one's own -/
def PostOd (G : Gam) (W : WX) (κ : Bs) (w : Wd) (σ : L2.St) (r : Res DS (List (DK × D))) (Q : VK) : Prop := match r with
  | .ok xs s' => ∀ w' a vs H', w.le w' → Ok G (κ.plus a (.dK vs)) w' s' σ H' → (∀ p ∈ κ.γ, p.1 ≠ a) → RepK G w' vs xs → Q (.ref a) H'
  | .exc x s' => ∀ w' c dd H', w.le w' → Ok G κ w' s' σ H' → RepX G w' c dd x → W c dd σ H'
  | .stuck => False
abbrev DD := DS → Res DS (List (DK × D))
def tDod (G : Gam) (W : WX) (f : DD) : TE := fun σ H Q => ∃ κ w s, Ok G κ w s σ H ∧ PostOd G W κ w σ (f s) Q
abbrev PDod (G : Gam) (W : WX) (X : Cx) (e : Expr) (f : DD) : Prop := PE X e (tDod G W f)
/-- behind what was set apart a new value -/
theorem Ok.swap {κ : Bs} {w : Wd} {s : DS} {σ : L2.St} {H : Hp} {a : Addr} {o o' : HO} (h : Ok G (κ.plus a o) w s σ H) (hγ : ∀ p ∈ κ.γ, p.1 ≠ a) : Ok G (κ.plus a o') w s σ (upd H a o') := by
  obtain ⟨ho, h3, h4, h5, h6⟩ := h.gam (a, o) List.mem_cons_self
  refine ⟨⟨fun b u e => ?_, h.fok.len, fun n b c e1 e2 => ?_, h.fok.nd, h.fok.nf⟩, ⟨h.nx.le, fun b u e n => ?_, h.nx.newF, h.nx.newR⟩, h.len, h.val, fun j z hj oz => ?_, h.ne, fun p hp => ?_, h.me⟩
  · rw [upd_ne (ne_of_none e h3)]
    exact h.fok.sub b u e
  · exact (h.fok.cel n b c e1 e2).mono (.refl _) (upd_ne fun z => h4 (by rw [← z]; exact List.mem_of_getElem? e1))
  · rw [upd_ne (ne_of_none e h5)]
    exact h.nx.keep b u e n
  · obtain ⟨b, q1, q2, q3, q4, q5⟩ := h.own j z hj oz
    exact ⟨b, q1, q2.mono (.refl _) (upd_ne fun e => h6 j z hj oz (by rw [q1, e])), q3, q4, q5⟩
  · rcases List.mem_cons.mp hp with rfl | hp
    · exact ⟨upd_same, h3, h4, h5, h6⟩
    · obtain ⟨q1, q2⟩ := h.gam p (List.mem_cons_of_mem _ hp)
      exact ⟨by rw [upd_ne (hγ p hp)]; exact q1, q2⟩
def dDisp (fs : List (DE × DE)) : DD := fun s => (pairsD fs s).bind fun ps s1 => match keyed ps with
  | some kvs => if kvs.length ≤ 15 ∧ keysNd kvs = true then .ok kvs s1 else .stuck
  | none => .stuck
theorem pdod_disp {pos : Pos} {keys : List (Option Expr)} {values : List Expr} {fs : List (DE × DE)} (h : PPs X pos keys values (fs.map fun p => (tD G W p.1, tD G W p.2))) (hall : keys.all (·.isSome) = true) (hl : keys.length = values.length) (h0 : keys ≠ []) (h15 : keys.length ≤ 15) :
    PDod G W X (.Dict keys values pos) (dDisp fs) :=
  (pe_disp h hall hl h0 h15).imp fun σ H Q ⟨κ, w, s, ok, q⟩ => by
    intro p hp
    have ok1 := ok.fresh hp (.dK [])
    have hγ := ok.apart hp
    unfold dDisp at q
    refine pairs_of fs (κ := κ.plus p (.dK [])) (w := w) (s := s) ok1 ?_
    cases e : pairsD fs s with
    | stuck => rw [e] at q; exact q.elim
    | exc x s' =>
      rw [e] at q
      exact fun w' c dd H' l o r => q w' c dd H' l o.unplus r
    | ok ps s' =>
      rw [e] at q
      intro w' vps H' l o r
      replace q : PostOd G W κ w σ (match keyed ps with | some kvs => if kvs.length ≤ 15 ∧ keysNd kvs = true then .ok kvs s' else .stuck | none => .stuck) Q := q
      cases e2 : keyed ps with
      | none => rw [e2] at q; exact q.elim
      | some kvs =>
        rw [e2] at q
        replace q : PostOd G W κ w σ (if kvs.length ≤ 15 ∧ keysNd kvs = true then .ok kvs s' else .stuck) Q := q
        split at q
        · rename_i c
          obtain ⟨vs, h1, h2⟩ := keyed_of r e2
          refine ⟨(o.gam (p, .dK []) List.mem_cons_self).1, vs, h1, by rw [h2.length]; exact c.1, ?_⟩
          exact q w' p _ _ l (o.swap hγ) hγ (keys_merge h2 .nil (d := []) c.2)
        · exact q.elim
def eFrzD (f : DD) : DE := fun s => (f s).bind fun xs s1 => .ok (.dic xs) s1
theorem pdod_frz {e : Expr} {f : DD} (h : PDod G W X e f) : PD G W X e (eFrzD f) := h.imp fun σ H Q ⟨κ, w, s, ok, q⟩ => ⟨κ, w, s, ok, by
  unfold eFrzD at q
  cases e : f s with
  | stuck => rw [e] at q; exact q.elim
  | exc x s' => rw [e] at q; exact q
  | ok xs s' =>
    rw [e] at q
    intro w' a vs H' l o g r
    obtain ⟨le, ok'⟩ := o.frz g
    exact q _ _ H' (l.trans le) ok' (.dic upd_same (r.mono le))⟩
/-- what was set apart goes into the store -/
theorem Ok.store {κ : Bs} {w : Wd} {s : DS} {σ : L2.St} {H : Hp} {a : Addr} {o : HO} {c : Cell} (h : Ok G (κ.plus a o) w s σ H) (hγ : ∀ p ∈ κ.γ, p.1 ≠ a) (hc : CellOk G w H a c) : w.le ⟨w.F, w.ρ ++ [a]⟩ ∧ Ok G κ ⟨w.F, w.ρ ++ [a]⟩ ⟨s.sl, s.st ++ [c]⟩ σ H := by
  obtain ⟨ho, h3, h4, h5, h6⟩ := h.gam (a, o) List.mem_cons_self
  have le : w.le ⟨w.F, w.ρ ++ [a]⟩ := ⟨fun _ _ e => e, List.prefix_append _ _⟩
  refine ⟨le, ⟨⟨h.fok.sub, ?_, fun n b c' e1 e2 => ?_, ?_, fun b hb => ?_⟩, ⟨h.nx.le.trans le, h.nx.keep, h.nx.newF, fun b hb => ?_⟩, h.len, fun i d e => ?_, fun i x e o' => ?_, h.ne, fun p hp => ?_, h.me⟩⟩
  · show (w.ρ ++ [a]).length = (s.st ++ [c]).length
    rw [List.length_append, List.length_append, h.fok.len]
    rfl
  · have e1 : (w.ρ ++ [a])[n]? = some b := e1
    have e2 : (s.st ++ [c])[n]? = some c' := e2
    by_cases hn : n < w.ρ.length
    · rw [List.getElem?_append_left hn] at e1
      rw [List.getElem?_append_left (by rw [← h.fok.len]; exact hn)] at e2
      exact (h.fok.cel n b c' e1 e2).mono le rfl
    · rw [List.getElem?_append_right (by omega)] at e1
      rw [List.getElem?_append_right (by rw [← h.fok.len]; omega), ← h.fok.len] at e2
      cases z : n - w.ρ.length with
      | zero =>
        rw [z] at e1 e2
        cases e1
        cases e2
        exact hc.mono le rfl
      | succ k => rw [z] at e1; cases e1
  · show (w.ρ ++ [a]).Nodup
    rw [List.nodup_append]
    exact ⟨h.fok.nd, by simp, fun x hx y hy e => by
      rw [List.mem_singleton] at hy
      subst hy
      subst e
      exact h4 hx⟩
  · rcases List.mem_append.mp hb with hb | hb
    · exact h.fok.nf b hb
    · rw [List.mem_singleton.mp hb]
      exact h3
  · rcases List.mem_append.mp hb with hb | hb
    · exact h.nx.newR b hb
    · rw [List.mem_singleton.mp hb]
      exact .inr h5
  · obtain ⟨v, h1, h2⟩ := h.val i d e
    exact ⟨v, h1, h2.mono le⟩
  · obtain ⟨b, q1, q2, q3, q4, q5⟩ := h.own i x e o'
    refine ⟨b, q1, q2.mono le rfl, q3, fun hb => ?_, q5⟩
    rcases List.mem_append.mp hb with hb | hb
    · exact q4 hb
    · exact h6 i x e o' (by rw [q1, List.mem_singleton.mp hb])
  · obtain ⟨q1, q2, q3, q4⟩ := h.gam p (List.mem_cons_of_mem _ hp)
    refine ⟨q1, q2, fun hb => ?_, q4⟩
    rcases List.mem_append.mp hb with hb | hb
    · exact q3 hb
    · exact hγ p hp (List.mem_singleton.mp hb)
def eCellD (f : DD) : DE := fun s => (f s).bind fun xs s1 => .ok (.cell s1.st.length) ⟨s1.sl, s1.st ++ [.dic xs]⟩
theorem pdod_cell {e : Expr} {f : DD} (h : PDod G W X e f) : PD G W X e (eCellD f) := h.imp fun σ H Q ⟨κ, w, s, ok, q⟩ => ⟨κ, w, s, ok, by
  unfold eCellD at q
  cases e : f s with
  | stuck => rw [e] at q; exact q.elim
  | exc x s' => rw [e] at q; exact q
  | ok xs s' =>
    rw [e] at q
    intro w' a vs H' l o g r
    obtain ⟨le, ok'⟩ := o.store (c := .dic xs) g ⟨vs, (o.gam (a, .dK vs) List.mem_cons_self).1, r⟩
    refine q _ _ H' (l.trans le) ok' (.cell ?_)
    show (w'.ρ ++ [a])[s'.st.length]? = some a
    rw [← o.fok.len]
    simp⟩
/-! ### == and != of data -/
mutual
def toPy : D → Option PyData
  | .non => some .none
  | .bl b => some (.bool b)
  | .int i => some (.int i)
  | .str l => some (.str (nm l))
  | .tup xs => (toPys xs).map .tuple
  | .lst xs => (toPys xs).map .list
  | .scr xs => (toPys xs).map .list
  | _ => none
def toPys : List D → Option (List PyData)
  | [] => some []
  | d :: r => (toPy d).bind fun p => (toPys r).map fun q => p :: q
end
mutual
theorem Rep.py (hK : G.K = X.K) {κ : Bs} {w : Wd} {s : DS} {σ : L2.St} {H : Hp} (ok : Ok G κ w s σ H) : ∀ {v : V} {d : D} {p : PyData}, Rep G w v d → toPy d = some p → Dp X.K H v p
  | _, _, _, .non, e => by cases e; exact .non
  | _, _, _, .bl b, e => by cases e; exact .bl b
  | _, _, _, .int b, e => by cases e; exact .int b
  | _, _, _, .str b, e => by cases e; exact .str _
  | _, _, _, .tup (ds := ds) a r, e => by
    cases q : toPys ds with
    | none => simp [toPy, q] at e
    | some ps =>
      simp only [toPy, q, Option.map_some, Option.some.injEq] at e
      subst e
      exact .tup (hK ▸ SqT.le a ok.fok.sub) (Reps.py hK ok r q)
  | _, _, _, .lst (ds := ds) a r, e => by
    cases q : toPys ds with
    | none => simp [toPy, q] at e
    | some ps =>
      simp only [toPy, q, Option.map_some, Option.some.injEq] at e
      subst e
      exact .lst (.inl (.inl (ok.fok.sub _ _ a))) (Reps.py hK ok r q)
  | _, _, _, .scr (ds := ds) a r, e => by
    cases q : toPys ds with
    | none => simp [toPy, q] at e
    | some ps =>
      simp only [toPy, q, Option.map_some, Option.some.injEq] at e
      subst e
      exact .lst (hK ▸ SqL.le a ok.fok.sub) (Reps.py hK ok r q)
  | _, _, _, .dic _ _, e => by simp [toPy] at e
  | _, _, _, .ins _ _ _, e => by simp [toPy] at e
  | _, _, _, .cell _, e => by simp [toPy] at e
  | _, _, _, .cls _, e => by simp [toPy] at e
  | _, _, _, .ty _, e => by simp [toPy] at e
  | _, _, _, .fn _, e => by simp [toPy] at e
theorem Reps.py (hK : G.K = X.K) {κ : Bs} {w : Wd} {s : DS} {σ : L2.St} {H : Hp} (ok : Ok G κ w s σ H) : ∀ {v : List V} {d : List D} {p : List PyData}, Reps G w v d → toPys d = some p → DpAll X.K H v p
  | _, _, _, .nil, e => by simp [toPys] at e; subst e; exact .nil
  | _, _, _, .cons (d := d) (ds := ds) a r, e => by
    cases q1 : toPy d with
    | none => simp [toPys, q1] at e
    | some p =>
      cases q2 : toPys ds with
      | none => simp [toPys, q1, q2] at e
      | some ps =>
        simp only [toPys, q1, q2, Option.bind_some, Option.map_some, Option.some.injEq] at e
        subst e
        exact .cons (Rep.py hK ok a q1) (Reps.py hK ok r q2)
end
def dEq : D → D → Option D := fun x y => match toPy x, toPy y with
  | some p, some q => if SeqAt.shaped p && SeqAt.shaped q then some (.bl (PyData.eqv p q)) else none
  | _, _ => none
def dNe : D → D → Option D := fun x y => match toPy x, toPy y with
  | some p, some q => if SeqAt.shaped p && SeqAt.shaped q then some (.bl (!PyData.eqv p q)) else none
  | _, _ => none
theorem opd_eq (hK : G.K = X.K) (hu : X.A.units + 64 < cLine) : OpD G X (compareOp .Eq) dEq := ⟨_, op_eqD hu, fun κ w s σ H x y dx dy d Q ok rx ry e q => by
  unfold dEq at e
  cases e1 : toPy dx with
  | none => simp [e1] at e
  | some p =>
    cases e2 : toPy dy with
    | none => simp [e1, e2] at e
    | some p' =>
      simp only [e1, e2] at e
      split at e
      · rename_i c
        cases e
        rw [Bool.and_eq_true] at c
        exact ⟨p, p', rx.py hK ok e1, ry.py hK ok e2, c.1, c.2, q w _ H (.refl _) ok (.bl _)⟩
      · cases e⟩
theorem opd_ne (hK : G.K = X.K) (hu : X.A.units + 64 < cLine) : OpD G X (compareOp .NotEq) dNe := ⟨_, op_neD hu, fun κ w s σ H x y dx dy d Q ok rx ry e q => by
  unfold dNe at e
  cases e1 : toPy dx with
  | none => simp [e1] at e
  | some p =>
    cases e2 : toPy dy with
    | none => simp [e1, e2] at e
    | some p' =>
      simp only [e1, e2] at e
      split at e
      · rename_i c
        cases e
        rw [Bool.and_eq_true] at c
        exact ⟨p, p', rx.py hK ok e1, ry.py hK ok e2, c.1, c.2, q w _ H (.refl _) ok (.bl _)⟩
      · cases e⟩
/-- is None -/
def isNonD : D → Bool
  | .non => true
  | _ => false
def dIsN : D → D → Option D := fun x y => match y with
  | .non => some (.bl (isNonD x))
  | _ => none
def dNotN : D → D → Option D := fun x y => match y with
  | .non => some (.bl (!isNonD x))
  | _ => none
theorem Rep.non_iff {w : Wd} {v : V} {d : D} (r : Rep G w v d) : decide (v = .non) = isNonD d := by
  cases r <;> simp [isNonD]
theorem opd_isN : OpD G X (compareOp .Is) dIsN := ⟨_, op_isN, fun κ w s σ H x y dx dy d Q ok rx ry e q => by
  cases ry with
  | non =>
    cases e
    refine ⟨rfl, ?_⟩
    rw [rx.non_iff]
    exact q w _ H (.refl _) ok (.bl _)
  | _ => exact nomatch e⟩
theorem opd_notN : OpD G X (compareOp .IsNot) dNotN := ⟨_, op_notN, fun κ w s σ H x y dx dy d Q ok rx ry e q => by
  cases ry with
  | non =>
    cases e
    refine ⟨rfl, ?_⟩
    rw [rx.non_iff]
    exact q w _ H (.refl _) ok (.bl _)
  | _ => exact nomatch e⟩
/-! ### operators of own classes -/
def ownO (c : String) (g : DFn) : DO2 := fun x y s => match insOf x s, insOf y s with
  | some (c1, _), some (c2, _) => if c1 = c ∧ c2 = c then lift s (g [x, y] s.st) else .stuck
  | _, _ => .stuck
theorem ep_back {pins : List (Addr × Obj)} {σ : L2.St} {Q : VK} {v : Value} {s' : Shared} (h : EP X pins σ Q v s') : PySem.W.CmpBack (EP X pins σ Q) v s' := by
  obtain ⟨x, H, I, r, q⟩ := id h
  cases v <;> first
    | exact h
    | (have := r.abs; cases this)
theorem ownO_of {c : String} {g : DFn} {κ : Bs} {w : Wd} {s : DS} {σ : L2.St} {H : Hp} {x y : V} {dx dy : D} {Q : VK} (ok : Ok G κ w s σ H) (rx : Rep G w x dx) (ry : Rep G w y dy) (q : PostG G W (Rep G) κ w σ (ownO c g dx dy s) Q) :
    ∃ a b C dxa dxb fa fb, x = .ref a ∧ y = .ref b ∧ G.ct c = some C ∧ H a = some (.ins C dxa fa) ∧ H b = some (.ins C dxb fb) ∧ PostG G W (Rep G) κ w σ (lift s (g [dx, dy] s.st)) Q := by
  unfold ownO at q
  cases e1 : insOf dx s with
  | none => rw [e1] at q; exact q.elim
  | some p =>
    cases e2 : insOf dy s with
    | none => rw [e1, e2] at q; exact q.elim
    | some p' =>
      obtain ⟨c1, f1⟩ := p
      obtain ⟨c2, f2⟩ := p'
      rw [e1, e2] at q
      replace q : PostG G W (Rep G) κ w σ (if c1 = c ∧ c2 = c then lift s (g [dx, dy] s.st) else .stuck) Q := q
      split at q
      · rename_i h
        obtain ⟨rfl, rfl⟩ := h
        obtain ⟨a, C, dxa, vs, ev, hC, hH, _⟩ := rx.ins_of ok e1
        obtain ⟨b, C', dxb, vs', ev', hC', hH', _⟩ := ry.ins_of ok e2
        rw [hC] at hC'
        cases hC'
        exact ⟨a, b, C, dxa, dxb, vs, vs', ev, ev', hC, hH, hH', q⟩
      · exact q.elim
theorem opx_own {op : Operator} {mname : Str} {c : String} {C f : Addr} {k : Nat} {fd : FuncData} {ps : List Str} {g : DFn} (hm' : PySem.dunder op.info.2 = mname) (hC : G.ct c = some C) (hs : PySem.W.findIn X.K (.ref C) mname = some (some (.ref f))) (hf : PySem.W.isFn X.K (.ref f) = true) (hc : PySem.W.selfFirst X.K C = true)
    (F : FnOk X.prog X.w X.K X.mg X.base (L2.CX X.prog X.w) k f fd ps (spG G 2 g)) (hr : Room k X.A) (hb : Binds X.K fd ps []) (tk : Takes X W) : OpX G W X (binaryOp op) (ownO c g) := by
  subst hm'
  intro pins sh σ H x y v u κ w s dx dy Q I rx ry ok rdx rdy q
  obtain ⟨a, b, C', dxa, dxb, fa, fb, rfl, rfl, hC', hH, hH', q⟩ := ownO_of ok rdx rdy q
  rw [hC] at hC'
  cases hC'
  cases rx
  cases ry
  obtain ⟨mA, J, _⟩ := ins_get I.hok hH
  obtain ⟨mB, J', _⟩ := ins_get I.hok hH'
  obtain ⟨od, J, _⟩ := J.look
  obtain ⟨od', J', _⟩ := J'.look
  obtain ⟨m, hF⟩ := I.fr
  refine PySem.W.binop_K hF I.ok.mod.kin J J'.type hc hs hf ?_
  exact thn (callD (us := [.ref a, .ref b]) (vs := [.ref a, .ref b]) (ds := [dx, dy]) F hr hb tk I ok (.cons rdx (.cons rdy .nil)) (.cons rfl (.cons rfl .nil)) rfl q) fun v s' h => ep_back h
theorem opx_ownEq {c : String} {C f : Addr} {k : Nat} {fd : FuncData} {ps : List Str} {g : DFn} (hC : G.ct c = some C) (hs : PySem.W.findIn X.K (.ref C) "__eq__" = some (some (.ref f))) (hf : PySem.W.isFn X.K (.ref f) = true)
    (F : FnOk X.prog X.w X.K X.mg X.base (L2.CX X.prog X.w) k f fd ps (spG G 2 g)) (hr : Room k X.A) (hb : Binds X.K fd ps []) (tk : Takes X W) : OpX G W X (compareOp .Eq) (ownO c g) := by
  intro pins sh σ H x y v u κ w s dx dy Q I rx ry ok rdx rdy q
  obtain ⟨a, b, C', dxa, dxb, fa, fb, rfl, rfl, hC', hH, hH', q⟩ := ownO_of ok rdx rdy q
  rw [hC] at hC'
  cases hC'
  cases rx
  cases ry
  obtain ⟨mA, J, _⟩ := ins_get I.hok hH
  obtain ⟨mB, J', _⟩ := ins_get I.hok hH'
  obtain ⟨od, J, _⟩ := J.look
  obtain ⟨od', J', _⟩ := J'.look
  obtain ⟨m, hF⟩ := I.fr
  show wpAny (model X.prog X.w) X.A (richCompare .Eq (.ref a) (.ref b)) _ _ _
  refine PySem.W.cmp_K (op := .Eq) (tb := .ref C) hr.units0 hF I.ok.mod.kin J J'.type (by simp [PySem.W.notFirst]) hs hf ?_
  exact thn (callD (us := [.ref a, .ref b]) (vs := [.ref a, .ref b]) (ds := [dx, dy]) F hr hb tk I ok (.cons rdx (.cons rdy .nil)) (.cons rfl (.cons rfl .nil)) rfl q) fun v s' h => ep_back h
/-- ~x of an own class -/
def eInv (c : String) (g : DFn) (f : DE) : DE := fun s => (f s).bind fun d s1 => match insOf d s1 with
  | some (c1, _) => if c1 = c then lift s1 (g [d] s1.st) else .stuck
  | none => .stuck
theorem pd_inv {c : String} {C f : Addr} {k : Nat} {fd : FuncData} {ps : List Str} {g : DFn} {e : Expr} {fe : DE} {pos : Pos} (hC : G.ct c = some C) (hs : PySem.W.findIn X.K (.ref C) "__invert__" = some (some (.ref f))) (hf : PySem.W.isFn X.K (.ref f) = true)
    (F : FnOk X.prog X.w X.K X.mg X.base (L2.CX X.prog X.w) k f fd ps (spG G 1 g)) (hr : Room k X.A) (hb : Binds X.K fd ps []) (tk : Takes X W) (he : PD G W X e fe) : PD G W X (.UnaryOp .Invert e pos) (eInv c g fe) := by
  refine ⟨fun pins sh σ H Q I h => ?_⟩
  obtain ⟨κ, w, s, ok, q⟩ := h
  have hh : tD G W fe σ H fun v H1 => ∃ d s1 w1, w.le w1 ∧ Ok G κ w1 s1 σ H1 ∧ Rep G w1 v d ∧ PostG G W (Rep G) κ w1 σ (match insOf d s1 with
    | some (c1, _) => if c1 = c then lift s1 (g [d] s1.st) else .stuck
    | none => .stuck) Q := ⟨κ, w, s, ok, PostG.bind q⟩
  refine UnaryOp_ (thn (he.run pins sh σ H _ I hh) fun u s1 ⟨x, H1, I1, rx, d, t1, w1, le, ok1, r1, q1⟩ => ?_)
  cases e1 : insOf d t1 with
  | none => rw [e1] at q1; exact q1.elim
  | some p =>
    obtain ⟨c1, fs⟩ := p
    rw [e1] at q1
    replace q1 : PostG G W (Rep G) κ w1 σ (if c1 = c then lift t1 (g [d] t1.st) else .stuck) Q := q1
    split at q1
    · rename_i hc
      subst hc
      obtain ⟨a, C', dx, vs, ev, hC', hH, rf⟩ := r1.ins_of ok1 e1
      rw [hC] at hC'
      cases hC'
      subst ev
      obtain rfl : u = Value.ref a := rx
      obtain ⟨mA, J, _⟩ := ins_get I1.hok hH
      obtain ⟨od, J, _⟩ := J.look
      obtain ⟨m, hF⟩ := I1.fr
      exact PySem.W.ksp_inv hF I1.ok.mod.kin J hs hf (callD (us := [.ref a]) (vs := [.ref a]) (ds := [d]) F hr hb tk I1 ok1 (.cons r1 .nil) (.cons rfl .nil) rfl q1)
    · exact q1.elim
end
end DL
set_option maxRecDepth 100000
set_option maxHeartbeats 4000000
set_option autoImplicit false
namespace DL
open PySem PySem.Spec PyProof.Rows L2 RZ
section
variable {G : Gam} {W : WX} {X : Cx}
/-! ### list comprehensions -/
abbrev WF : WX := fun _ _ _ _ => False
def wipeD (vs : List Nat) (l : List Sl) : List Sl := match vs with
  | [] => l
  | v :: vs => (wipeD vs l).set v .un
def wipeS (vs : List Nat) (s : DS) : DS := ⟨wipeD vs s.sl, s.st⟩
theorem wipeD_length (l : List Sl) : ∀ vs : List Nat, (wipeD vs l).length = l.length
  | [] => rfl
  | v :: vs => by unfold wipeD; rw [List.length_set, wipeD_length l vs]
theorem wipeD_in {l : List Sl} {i : Nat} {x : Sl} : ∀ {vs : List Nat}, (wipeD vs l)[i]? = some x → (i ∈ vs ∧ x = .un) ∨ (i ∉ vs ∧ l[i]? = some x)
  | [], h => .inr ⟨by simp, h⟩
  | v :: vs, h => by
    unfold wipeD at h
    by_cases hi : v = i
    · subst hi
      by_cases hv : v < (wipeD vs l).length
      · rw [List.getElem?_set_self hv] at h
        cases h
        exact .inl ⟨List.mem_cons_self, rfl⟩
      · rw [List.getElem?_eq_none (by simpa using hv)] at h; cases h
    · rw [List.getElem?_set_ne hi] at h
      rcases wipeD_in h with ⟨h1, h2⟩ | ⟨h1, h2⟩
      · exact .inl ⟨List.mem_cons_of_mem _ h1, h2⟩
      · exact .inr ⟨by simp only [List.mem_cons, not_or]; exact ⟨fun e => hi e.symm, h1⟩, h2⟩
theorem wipe_out' {σ : L2.St} {i : Nat} : ∀ {vs : List Nat}, i ∉ vs → (L2.wipe σ vs)[i]? = σ[i]?
  | [], _ => rfl
  | v :: vs, h => by
    unfold L2.wipe
    rw [List.getElem?_set_ne (fun e => h (by rw [e]; exact List.mem_cons_self)), wipe_out' fun z => h (List.mem_cons_of_mem _ z)]
theorem Ok.wipe {κ : Bs} {w : Wd} {s : DS} {σ : L2.St} {H : Hp} (h : Ok G κ w s σ H) (vs : List Nat) : Ok G κ w (wipeS vs s) (L2.wipe σ vs) H := by
  refine ⟨h.fok, h.nx, by rw [wipe_length]; exact (wipeD_length _ _).trans h.len, fun i d e => ?_, fun i x e o => ?_, fun i j x y a e1 e2 o1 o2 h1 h2 => ?_, fun p hp => ?_, fun a ha c fs e => ?_⟩
  · rcases wipeD_in e with ⟨_, z⟩ | ⟨z, e⟩
    · cases z
    · rw [wipe_out' z]; exact h.val i d e
  · rcases wipeD_in e with ⟨_, z⟩ | ⟨z, e⟩
    · subst z; cases o
    · rw [wipe_out' z]; exact h.own i x e o
  · rcases wipeD_in e1 with ⟨_, z⟩ | ⟨z, e1⟩
    · subst z; cases o1
    · rcases wipeD_in e2 with ⟨_, z'⟩ | ⟨z', e2⟩
      · subst z'; cases o2
      · rw [wipe_out' z] at h1
        rw [wipe_out' z'] at h2
        exact h.ne i j x y a e1 e2 o1 o2 h1 h2
  · obtain ⟨q1, q2, q3, q4, q5⟩ := h.gam p hp
    refine ⟨q1, q2, q3, q4, fun i x e o => ?_⟩
    rcases wipeD_in e with ⟨_, z⟩ | ⟨z, e⟩
    · subst z; cases o
    · rw [wipe_out' z]; exact q5 i x e o
  · rcases wipeD_in e with ⟨_, z⟩ | ⟨z, e⟩
    · cases z
    · rw [wipe_out' z]; exact h.me a ha c fs e
/-- the slots behind the block: the block's own names as they were -/
def unwipe (vs : List Nat) (old new : List Sl) : List Sl := match vs with
  | [] => new
  | v :: vs => (unwipe vs old new).set v (match old[v]? with | some (.val d) => .val d | _ => .un)
theorem unwipe_length (l l' : List Sl) : ∀ vs : List Nat, (unwipe vs l l').length = l'.length
  | [] => rfl
  | v :: vs => by unfold unwipe; rw [List.length_set, unwipe_length l l' vs]
theorem unwipe_in {l l' : List Sl} {i : Nat} {x : Sl} : ∀ {vs : List Nat}, (unwipe vs l l')[i]? = some x → (i ∈ vs ∧ (x = .un ∨ ∃ d, x = .val d ∧ l[i]? = some x)) ∨ (i ∉ vs ∧ l'[i]? = some x)
  | [], h => .inr ⟨by simp, h⟩
  | v :: vs, h => by
    unfold unwipe at h
    by_cases hi : v = i
    · subst hi
      by_cases hv : v < (unwipe vs l l').length
      · rw [List.getElem?_set_self hv] at h
        refine .inl ⟨List.mem_cons_self, ?_⟩
        cases e : l[v]? with
        | none => rw [e] at h; cases h; exact .inl rfl
        | some y =>
          rw [e] at h
          cases y with
          | val d => cases h; exact .inr ⟨d, rfl, rfl⟩
          | _ => cases h; exact .inl rfl
      · rw [List.getElem?_eq_none (by simpa using hv)] at h; cases h
    · rw [List.getElem?_set_ne hi] at h
      rcases unwipe_in h with ⟨h1, h2⟩ | ⟨h1, h2⟩
      · exact .inl ⟨List.mem_cons_of_mem _ h1, h2⟩
      · exact .inr ⟨by simp only [List.mem_cons, not_or]; exact ⟨fun e => hi e.symm, h1⟩, h2⟩
theorem Ok.unwipe {κ κ' : Bs} {w w1 : Wd} {s s1 : DS} {σ : L2.St} {H H1 : Hp} {vs : List Nat} (h1 : Ok G κ' w1 s1 σ H1) (le : w1.le w) (h : Ok G κ w s (L2.wipe σ vs) H) (hme : κ.me = κ'.me) : Ok G κ w ⟨DL.unwipe vs s1.sl s.sl, s.st⟩ σ H := by
  refine ⟨h.fok, h.nx, ?_, fun i d e => ?_, fun i x e o => ?_, fun i j x y a e1 e2 o1 o2 q1 q2 => ?_, fun p hp => ?_, fun a ha c fs e => ?_⟩
  · show (DL.unwipe vs s1.sl s.sl).length = σ.length
    rw [unwipe_length, h.len, wipe_length]
  · rcases unwipe_in e with ⟨_, z | ⟨d', z, e⟩⟩ | ⟨z, e⟩
    · cases z
    · obtain ⟨v, q1, q2⟩ := h1.val i d e
      exact ⟨v, q1, q2.mono le⟩
    · obtain ⟨v, q1, q2⟩ := h.val i d e
      exact ⟨v, by rw [wipe_out' z] at q1; exact q1, q2⟩
  · rcases unwipe_in e with ⟨_, z | ⟨d', z, e⟩⟩ | ⟨z, e⟩
    · subst z; cases o
    · subst z; cases o
    · have := h.own i x e o
      rwa [wipe_out' z] at this
  · rcases unwipe_in e1 with ⟨_, z | ⟨d', z, e1⟩⟩ | ⟨z, e1⟩
    · subst z; cases o1
    · subst z; cases o1
    · rcases unwipe_in e2 with ⟨_, z' | ⟨d', z', e2⟩⟩ | ⟨z', e2⟩
      · subst z'; cases o2
      · subst z'; cases o2
      · exact h.ne i j x y a e1 e2 o1 o2 (by rw [wipe_out' z]; exact q1) (by rw [wipe_out' z']; exact q2)
  · obtain ⟨q1, q2, q3, q4, q5⟩ := h.gam p hp
    refine ⟨q1, q2, q3, q4, fun i x e o => ?_⟩
    rcases unwipe_in e with ⟨_, z | ⟨d', z, e⟩⟩ | ⟨z, e⟩
    · subst z; cases o
    · subst z; cases o
    · have := q5 i x e o
      rwa [wipe_out' z] at this
  · rcases unwipe_in e with ⟨_, z | ⟨d', z, e⟩⟩ | ⟨z, e⟩
    · cases z
    · cases z
    · have := h.me a ha c fs e
      rwa [wipe_out' z] at this
def lcL (vs : List Nat) (g : DG) (t : DT) (e : DE) : List D → List D → DS → Res DS (List D)
  | [], acc, s => .ok acc s
  | d :: r, acc, s => (noX (g d (wipeS vs s))).bind fun _ s1 => (noX (t s1)).bind fun b s2 => if b = true then (noX (e s2)).bind fun y s3 => if acc.length < 1000000 then lcL vs g t e r (acc ++ [y]) s3 else .stuck
    else lcL vs g t e r acc s2
def aLc (vs : List Nat) (it : DA) (g : DG) (t : DT) (e : DE) : DA := fun s => (it s).bind fun items s1 => (noX (lcL vs g t e items [] s1)).bind fun ys s2 => .ok ys ⟨unwipe vs s1.sl (wipeD vs s2.sl), s2.st⟩
def bYes : DT := fun s => .ok true s
theorem ptds_nil : PTs X [] (tDT G W bYes) := ⟨fun pins s σ H Q I ⟨κ, w, d, ok, q⟩ => pts_nil.run pins s σ H Q I (q w true H (.refl _) ok rfl)⟩
theorem ptds_one {c : Expr} {t : DT} (h : PDT G W X c t) : PTs X [c] (tDT G W t) := pts_one h
theorem wipe_same {σ σ2 : L2.St} {vs is : List Nat} (hl : σ2.length = (L2.wipe σ vs).length) (h : ∀ i : Nat, i ∉ is → σ2[i]? = (L2.wipe σ vs)[i]?) (hs : ∀ i ∈ is, i ∈ vs) : L2.wipe σ2 vs = L2.wipe σ vs := by
  have at_ : ∀ (τ : L2.St) (i : Nat), i ∈ vs → (L2.wipe τ vs)[i]? = if i < τ.length then some none else none := by
    intro τ i hi
    clear h hs hl
    induction vs with
    | nil => simp at hi
    | cons v r ih =>
      unfold L2.wipe
      by_cases e : v = i
      · subst e
        by_cases c : v < τ.length
        · rw [List.getElem?_set_self (by rw [wipe_length]; exact c), if_pos c]
        · rw [if_neg c, List.getElem?_eq_none (by rw [List.length_set, wipe_length]; omega)]
      · rw [List.getElem?_set_ne e]
        exact ih (by rcases List.mem_cons.mp hi with z | z; exact absurd z.symm e; exact z)
  have hl2 : σ2.length = σ.length := by rw [hl, wipe_length]
  apply List.ext_getElem?
  intro i
  by_cases hi : i ∈ vs
  · rw [at_ σ2 i hi, at_ σ i hi, hl2]
  · rw [wipe_out' hi]
    exact h i fun z => hi (hs i z)
theorem lc_of {vs is : List Nat} (hs : ∀ i ∈ is, i ∈ vs) {κ : Bs} {w : Wd} {J : It} {g : DG} {t : DT} {e : DE} {items : List D} (hJ : ItOk G w J items) {s0 : DS} {σ : L2.St} {H1 : Hp} {Q : VK} (ok : Ok G κ w s0 σ H1) {Dp : Addr} (hD : H1 Dp = none)
    (q : match noX (lcL vs g t e items [] s0) with
      | .ok ys s2 => ∀ w2 acc H2, w.le w2 → Ok G (κ.plus Dp (.lst acc)) w2 (wipeS vs s2) (L2.wipe σ vs) H2 → Reps G w2 acc ys → Q (.ref Dp) H2
      | _ => False) :
    ∃ Wv : Nat → Nat → Hp → Prop, (∃ m, Wv 0 m (upd H1 Dp (.lst []))) ∧ ∀ i m H, Wv i m H →
      (J.stop i H ∧ Q (.ref Dp) H) ∨ (J.go i H ∧ ∃ Nx : Hp → Prop, (∀ H', Nx H' → ∃ m', m' < m ∧ Wv (i + 1) m' H') ∧ ∀ x H', J.yld i H x H' → tDG G is g x (L2.wipe σ vs) H' fun σ2 H2 => L2.wipe σ2 vs = L2.wipe σ vs ∧ tDT G WF t σ2 H2 fun b H3 =>
        if b = true then tD G WF e σ2 H3 fun y H4 => ∃ acc, H4 Dp = some (.lst acc) ∧ acc.length < sizeLine ∧ Nx (upd H4 Dp (.lst (acc ++ [y]))) else Nx H3) := by
  have hγ := ok.apart hD
  -- a state of the loop: slots wiped
  refine ⟨fun i m H => ∃ w' s' acc accD, w.le w' ∧ Ok G (κ.plus Dp (.lst acc)) w' (wipeS vs s') (L2.wipe σ vs) H ∧ Reps G w' acc accD ∧ (items.drop i).length = m ∧
    (match noX (lcL vs g t e (items.drop i) accD s') with
      | .ok ys s2 => ∀ w2 acc H2, w'.le w2 → Ok G (κ.plus Dp (.lst acc)) w2 (wipeS vs s2) (L2.wipe σ vs) H2 → Reps G w2 acc ys → Q (.ref Dp) H2
      | _ => False), ⟨items.length, w, s0, [], [], .refl _, (ok.fresh hD _).wipe vs, .nil, by simp, ?_⟩, ?_⟩
  · rw [List.drop_zero]
    exact q
  · rintro i m H ⟨w', s', acc, accD, le', ok', ra, hm, q'⟩
    cases ed : items.drop i with
    | nil =>
      rw [ed] at q'
      have hn : items[i]? = none := by
        have := congrArg (fun l => l[0]?) ed
        simpa using this
      exact .inl ⟨(hJ w' _ H le' ok'.fok i).2 hn, q' w' acc H (.refl _) ok' ra⟩
    | cons d r =>
      rw [ed] at q' hm
      obtain ⟨h1, h2⟩ := drop_get ed
      obtain ⟨go, yl⟩ := (hJ w' _ H le' ok'.fok i).1 d h1
      refine .inr ⟨go, fun H2 => ∃ w2 s2 acc accD, w.le w2 ∧ Ok G (κ.plus Dp (.lst acc)) w2 (wipeS vs s2) (L2.wipe σ vs) H2 ∧ Reps G w2 acc accD ∧
        (match noX (lcL vs g t e r accD s2) with
          | .ok ys s3 => ∀ w3 acc H3, w2.le w3 → Ok G (κ.plus Dp (.lst acc)) w3 (wipeS vs s3) (L2.wipe σ vs) H3 → Reps G w3 acc ys → Q (.ref Dp) H3
          | _ => False), fun H2 ⟨w2, s2, acc2, accD2, l2, o2, r2, q2⟩ => ?_, fun x H' hy => ?_⟩
      · exact ⟨r.length, by rw [← hm]; exact Nat.lt_succ_self _, w2, s2, acc2, accD2, l2, o2, r2, by rw [h2], by rw [h2]; exact q2⟩
      · obtain ⟨w2, nx, fok, rx⟩ := yl x H' hy
        have ok2 : Ok G (κ.plus Dp (.lst acc)) w2 (wipeS vs s') (L2.wipe σ vs) H' := ok'.step nx fok
        refine ⟨κ.plus Dp (.lst acc), w2, wipeS vs s', d, ok2, rx, PostT.ofNoX ?_⟩
        unfold lcL at q'
        cases e1 : noX (g d (wipeS vs s')) with
        | stuck => rw [e1] at q'; exact q'.elim
        | exc x s => exact absurd e1 (noX_exc _ _ _)
        | ok u s1 =>
          rw [e1] at q'
          rw [Res.bind_ok] at q'
          intro w3 σ3 H3 l3 o3 hσ
          have hw : L2.wipe σ3 vs = L2.wipe σ vs := wipe_same hσ.1 hσ.2 hs
          refine ⟨hw, κ.plus Dp (.lst acc), w3, s1, o3, ?_⟩
          cases e2 : t s1 with
          | stuck => rw [e2] at q'; exact q'.elim
          | exc x s => rw [e2] at q'; exact q'.elim
          | ok b s2 =>
            rw [e2] at q'
            intro w4 b' H4 l4 o4 eb
            subst eb
            have lw : w'.le w4 := (nx.le.trans l3).trans l4
            cases b' with
            | false =>
              rw [if_neg (fun z => nomatch z)]
              refine ⟨w4, s2, acc, accD, le'.trans lw, by rw [← hw]; exact o4.wipe vs, ra.mono lw, ?_⟩
              replace q' : (match noX (lcL vs g t e r accD s2) with
                | .ok ys s3 => ∀ w3 acc H3, w'.le w3 → Ok G (κ.plus Dp (.lst acc)) w3 (wipeS vs s3) (L2.wipe σ vs) H3 → Reps G w3 acc ys → Q (.ref Dp) H3
                | _ => False) := q'
              cases e3 : noX (lcL vs g t e r accD s2) with
              | stuck => rw [e3] at q'; exact q'.elim
              | exc x s => rw [e3] at q'; exact q'.elim
              | ok ys s3 => rw [e3] at q'; exact fun w5 acc5 H5 l5 o5 r5 => q' w5 acc5 H5 (lw.trans l5) o5 r5
            | true =>
              rw [if_pos rfl]
              refine ⟨κ.plus Dp (.lst acc), w4, s2, o4, ?_⟩
              replace q' : (match noX ((noX (e s2)).bind fun y s3 => if accD.length < 1000000 then lcL vs g t e r (accD ++ [y]) s3 else .stuck) with
                | .ok ys s3 => ∀ w3 acc H3, w'.le w3 → Ok G (κ.plus Dp (.lst acc)) w3 (wipeS vs s3) (L2.wipe σ vs) H3 → Reps G w3 acc ys → Q (.ref Dp) H3
                | _ => False) := q'
              cases e3 : e s2 with
              | stuck => rw [e3] at q'; exact q'.elim
              | exc x s => rw [e3] at q'; exact q'.elim
              | ok y s3 =>
                rw [e3] at q'
                intro w5 v5 H5 l5 o5 r5
                replace q' : (match noX (if accD.length < 1000000 then lcL vs g t e r (accD ++ [y]) s3 else .stuck) with
                  | .ok ys s3 => ∀ w3 acc H3, w'.le w3 → Ok G (κ.plus Dp (.lst acc)) w3 (wipeS vs s3) (L2.wipe σ vs) H3 → Reps G w3 acc ys → Q (.ref Dp) H3
                  | _ => False) := q'
                by_cases c : accD.length < 1000000
                · rw [if_pos c] at q'
                  refine ⟨acc, (o5.gam (Dp, .lst acc) List.mem_cons_self).1, by rw [ra.length, sizeLine_eq]; omega, w5, s3, acc ++ [v5], accD ++ [y], le'.trans (lw.trans l5), ?_, ((ra.mono lw).mono l5).append (.cons r5 .nil), ?_⟩
                  · rw [← hw]
                    exact (o5.swap hγ).wipe vs
                  · cases e4 : noX (lcL vs g t e r (accD ++ [y]) s3) with
                    | stuck => rw [e4] at q'; exact q'.elim
                    | exc x s => rw [e4] at q'; exact q'.elim
                    | ok ys s4 => rw [e4] at q'; exact fun w6 acc6 H6 l6 o6 r6 => q' w6 acc6 H6 ((lw.trans l5).trans l6) o6 r6
                · rw [if_neg c] at q'
                  exact q'.elim
theorem pdo_lc {elt tg iter : Expr} {ifs : List Expr} {scope : Scope} {own : List (Str × Nat)} {is : List Nat} {pos : Pos} {it : DA} {g : DG} {t : DT} {e : DE} (hc : X.calm = true) (hN : X.N.Nodup) (hi : PDI G W X tg iter it) (ok : BlkOk X.N X.env.scope scope own) (hs' : ∀ i ∈ is, i ∈ own.map (·.2))
    (hg : ∀ (s : Shared) (H : Hp) (C : Addr) (cl : List (Str × Addr)) (fp : List Addr), PDG G (X.blk s H scope (compEnvC scope cl C X.env) fp) tg is g) (ht : ∀ (s : Shared) (H : Hp) (C : Addr) (cl : List (Str × Addr)) (fp : List Addr), PTs (X.blk s H scope (compEnvC scope cl C X.env) fp) ifs (tDT G WF t))
    (he : ∀ (s : Shared) (H : Hp) (C : Addr) (cl : List (Str × Addr)) (fp : List Addr), PD G WF (X.blk s H scope (compEnvC scope cl C X.env) fp) elt e) (hs : ∀ x, foldedSetIterable iter X.env x = pure x := by intro _; rfl) :
    PDo G W X (.ListComp elt [⟨tg, iter, ifs, 0⟩] scope pos) (aLc (own.map (·.2)) it g t e) :=
  (pe_lc hc hN hi ok hg ht he hs).imp fun σ H Q h => lc_fin hs' h
where
  lc_fin {vs is : List Nat} (hs : ∀ i ∈ is, i ∈ vs) {it : DA} {g : DG} {t : DT} {e : DE} {σ : L2.St} {H : Hp} {Q : VK} (h : tDo G W (aLc vs it g t e) σ H Q) : tLc (tDI G W it) (tDG G is g) (tDT G WF t) (tD G WF e) vs σ H Q := by
    obtain ⟨κ, w, s, ok, q⟩ := h
    refine ⟨κ, w, s, ok, ?_⟩
    unfold aLc at q
    cases e1 : it s with
    | stuck => rw [e1] at q; exact q.elim
    | exc x s' => rw [e1] at q; exact q
    | ok items s1 =>
      rw [e1] at q
      rw [Res.bind_ok] at q
      intro w1 J H1 l1 o1 hJ D hD
      refine lc_of hs hJ o1 hD ?_
      cases e2 : noX (lcL vs g t e items [] s1) with
      | stuck => rw [e2] at q; exact q.elim
      | exc x s' => exact absurd e2 (noX_exc _ _ _)
      | ok ys s2 =>
        rw [e2] at q
        intro w2 acc H2 l2 o2 r2
        exact q w2 D acc H2 (l1.trans l2) (Ok.unwipe o1 l2 o2 rfl) (o1.apart hD) r2
/-- name = [..] on one line, the name a plain local -/
theorem pds_setLc {i : Nat} {y : Str} {py : Pos} {elt tg iter : Expr} {ifs : List Expr} {scope : Scope} {own : List (Str × Nat)} {is : List Nat} {pos spos : Pos} {it : DA} {g : DG} {t : DT} {e : DE} (hc : X.calm = true) (hN : X.N.Nodup) (hy : X.N[i]? = some y) (hyl : X.env.scope.names.lookup y = some .local)
    (hsw : swapsWith (.ListComp elt [⟨tg, iter, ifs, 0⟩] scope pos) (some (.Name y py)) spos.line X.env = pure true) (hi : PDI G W X tg iter it) (ok : BlkOk X.N X.env.scope scope own) (hs' : ∀ i ∈ is, i ∈ own.map (·.2))
    (hg : ∀ (s : Shared) (H : Hp) (C : Addr) (cl : List (Str × Addr)) (fp : List Addr), PDG G (X.blk s H scope (compEnvC scope cl C X.env) fp) tg is g) (ht : ∀ (s : Shared) (H : Hp) (C : Addr) (cl : List (Str × Addr)) (fp : List Addr), PTs (X.blk s H scope (compEnvC scope cl C X.env) fp) ifs (tDT G WF t))
    (he : ∀ (s : Shared) (H : Hp) (C : Addr) (cl : List (Str × Addr)) (fp : List Addr), PD G WF (X.blk s H scope (compEnvC scope cl C X.env) fp) elt e) (hs : ∀ x, foldedSetIterable iter X.env x = pure x := by intro _; rfl) :
    PDS G W X (.Assign [.Name y py] (.ListComp elt [⟨tg, iter, ifs, 0⟩] scope pos) spos) (sSetO i (aLc (own.map (·.2)) it g t e)) :=
  (ps_setLc hc hN hy hyl hsw hi ok hg ht he hs).imp fun N σ H q => by
    have q := setO_of q
    exact pdo_lc.lc_fin hs' q
/-! ### enumerate, zip -/
def enumL (xs : List D) : List D := (List.range xs.length).zipWith (fun (i : Nat) x => .tup [.int (i : Int), x]) xs
def zipL (xs ys : List D) : List D := xs.zipWith (fun x y => .tup [x, y]) ys
theorem zipL_get {xs ys : List D} {i : Nat} {d : D} (h : (zipL xs ys)[i]? = some d) : ∃ x y, xs[i]? = some x ∧ ys[i]? = some y ∧ d = .tup [x, y] := by
  unfold zipL at h
  rw [List.getElem?_zipWith] at h
  cases e1 : xs[i]? with
  | none => simp [e1] at h
  | some x =>
    cases e2 : ys[i]? with
    | none => simp [e1, e2] at h
    | some y => simp [e1, e2] at h; exact ⟨x, y, rfl, rfl, h.symm⟩
theorem enumL_get {xs : List D} {i : Nat} {d : D} (h : (enumL xs)[i]? = some d) : ∃ x, xs[i]? = some x ∧ d = .tup [.int (i : Int), x] := by
  unfold enumL at h
  rw [List.getElem?_zipWith] at h
  cases e2 : xs[i]? with
  | none => simp [e2] at h
  | some y =>
    have hi : i < xs.length := (List.getElem?_eq_some_iff.mp e2).1
    rw [List.getElem?_range hi, e2] at h
    cases h
    exact ⟨y, rfl, rfl⟩
theorem itOk_enum (hK : G.K = X.K) {w : Wd} {a : Addr} {vs : List V} {ds : List D} (e : SqL G.K w.F a vs) (r : Reps G w vs ds) : ItOk G w (Ite X.K a) (enumL ds) := by
  intro w1 S H le fok i
  have q : SqL X.K H a vs := hK ▸ SqL.le (SqL.le e le.f) fok.sub
  refine ⟨fun d hd => ?_, fun hn => ?_⟩
  · obtain ⟨x, h1, rfl⟩ := enumL_get hd
    obtain ⟨y, h2, h3⟩ := r.get h1
    refine ⟨⟨vs, y, q, h2⟩, fun v H' ⟨T, x', hv, hT, hH, hx⟩ => ?_⟩
    have := hx vs q
    rw [h2] at this
    cases this
    obtain ⟨f2, n2⟩ := fok.alloc hT (.tup [.int (i : Nat), y])
    subst hH
    subst hv
    exact ⟨_, n2, f2, .tup (.inl (.inl upd_same)) (.cons (.int _) (.cons ((h3.mono le).mono n2.le) .nil))⟩
  · refine ⟨vs, q, ?_⟩
    have := List.getElem?_eq_none_iff.mp hn
    unfold enumL at this
    rw [List.length_zipWith, List.length_range] at this
    rw [r.length]
    omega
def itEnum (f : DA) : DA := fun s => (f s).bind fun ds s1 => match ds with
  | [.lst xs] => .ok (enumL xs) s1
  | [.scr xs] => .ok (enumL xs) s1
  | _ => .stuck
theorem pdi_enum (hK : G.K = X.K) {e : Expr} {fa : DA} {p pos tpos : Pos} {elts : List Expr} {kk : Nat} (hg : Gl X "enumerate") (hm : X.mg "enumerate" = none) (ha : PDA G W X [e] fa) (hs : starEach [e] X.env = [(false, eval e X.env)] := by rfl) :
    PDI G W X (.Tuple elts kk tpos) (.Call (.Name "enumerate" p) [e] [] pos) (itEnum fa) :=
  (pi_enum hg hm ha hs).imp fun σ H R ⟨κ, w, s, ok, q⟩ => ⟨κ, w, s, ok, (PostG.bindI q).imp fun v H1 ⟨d, s1, w1, le, ok1, r1, q1⟩ => by
    match d, q1 with
    | [.lst xs], q1 =>
      obtain ⟨v, rfl, r⟩ := r1.one
      cases r with
      | @lst a vs ds e r =>
        have e' : SqL G.K w1.F a vs := .inl (.inl e)
        exact ⟨a, vs, rfl, hK ▸ SqL.le e' ok1.fok.sub, q1 w1 _ H1 (.refl _) ok1 (itOk_enum hK e' r)⟩
    | [.scr xs], q1 =>
      obtain ⟨v, rfl, r⟩ := r1.one
      cases r with
      | @scr a vs ds e r => exact ⟨a, vs, rfl, hK ▸ SqL.le e ok1.fok.sub, q1 w1 _ H1 (.refl _) ok1 (itOk_enum hK e r)⟩⟩
theorem zip_none {vs ws : List V} {ds es : List D} {w : Wd} {i : Nat} (r : Reps G w vs ds) (r' : Reps G w ws es) (hn : (zipL ds es)[i]? = none) : vs.length ≤ i ∨ ws.length ≤ i := by
  have := List.getElem?_eq_none_iff.mp hn
  unfold zipL at this
  rw [List.length_zipWith] at this
  rw [r.length, r'.length]
  omega
theorem itOk_zip (hK : G.K = X.K) {w : Wd} {a b : Addr} {vs ws : List V} {ds es : List D} (e : SqL G.K w.F a vs) (e' : SqL G.K w.F b ws) (r : Reps G w vs ds) (r' : Reps G w ws es) : ItOk G w (Itz X.K a b) (zipL ds es) := by
  intro w1 S H le fok i
  have q : SqL X.K H a vs := hK ▸ SqL.le (SqL.le e le.f) fok.sub
  have q' : SqL X.K H b ws := hK ▸ SqL.le (SqL.le e' le.f) fok.sub
  refine ⟨fun d hd => ?_, fun hn => ⟨vs, ws, q, q', zip_none r r' hn⟩⟩
  obtain ⟨x, y, h1, h1', rfl⟩ := zipL_get hd
  obtain ⟨x', h2, h3⟩ := r.get h1
  obtain ⟨y', h2', h3'⟩ := r'.get h1'
  refine ⟨⟨vs, ws, x', y', q, q', h2, h2'⟩, fun v H' ⟨T, x2, y2, hv, hT, hH, hx, hy⟩ => ?_⟩
  have := hx vs q
  rw [h2] at this
  cases this
  have := hy ws q'
  rw [h2'] at this
  cases this
  obtain ⟨f2, n2⟩ := fok.alloc hT (.tup [x', y'])
  subst hH
  subst hv
  exact ⟨_, n2, f2, .tup (.inl (.inl upd_same)) (.cons ((h3.mono le).mono n2.le) (.cons ((h3'.mono le).mono n2.le) .nil))⟩
theorem itOk_zipT (hK : G.K = X.K) {w : Wd} {a b : Addr} {vs ws : List V} {ds es : List D} (e : SqT G.K w.F a vs) (e' : SqT G.K w.F b ws) (r : Reps G w vs ds) (r' : Reps G w ws es) : ItOk G w (ItzT X.K a b) (zipL ds es) := by
  intro w1 S H le fok i
  have q : SqT X.K H a vs := hK ▸ SqT.le (SqT.le e le.f) fok.sub
  have q' : SqT X.K H b ws := hK ▸ SqT.le (SqT.le e' le.f) fok.sub
  refine ⟨fun d hd => ?_, fun hn => ⟨vs, ws, q, q', zip_none r r' hn⟩⟩
  obtain ⟨x, y, h1, h1', rfl⟩ := zipL_get hd
  obtain ⟨x', h2, h3⟩ := r.get h1
  obtain ⟨y', h2', h3'⟩ := r'.get h1'
  refine ⟨⟨vs, ws, x', y', q, q', h2, h2'⟩, fun v H' ⟨T, x2, y2, hv, hT, hH, hx, hy⟩ => ?_⟩
  have := hx vs q
  rw [h2] at this
  cases this
  have := hy ws q'
  rw [h2'] at this
  cases this
  obtain ⟨f2, n2⟩ := fok.alloc hT (.tup [x', y'])
  subst hH
  subst hv
  exact ⟨_, n2, f2, .tup (.inl (.inl upd_same)) (.cons ((h3.mono le).mono n2.le) (.cons ((h3'.mono le).mono n2.le) .nil))⟩
def itZip (f : DA) : DA := fun s => (f s).bind fun ds s1 => match ds with
  | [.lst xs, .lst ys] => .ok (zipL xs ys) s1
  | [.tup xs, .tup ys] => .ok (zipL xs ys) s1
  | _ => .stuck
theorem pdi_zip (hK : G.K = X.K) {e e2 : Expr} {fa : DA} {p pos tpos : Pos} {elts : List Expr} {kk : Nat} (hg : Gl X "zip") (hm : X.mg "zip" = none) (ha : PDA G W X [e, e2] fa)
    (hs : starEach [e, e2] X.env = (false, eval e X.env) :: starEach [e2] X.env := by rfl) (hpl : (backTo pos (starEach [e2] X.env)).any (·.1) = false := by rfl) :
    PDI G W X (.Tuple elts kk tpos) (.Call (.Name "zip" p) [e, e2] [] pos) (itZip fa) :=
  (pi_zipA hg hm ha hs hpl).imp fun σ H R ⟨κ, w, s, ok, q⟩ => ⟨κ, w, s, ok, (PostG.bindI q).imp fun v H1 ⟨d, s1, w1, le, ok1, r1, q1⟩ => by
    match d, q1 with
    | [.lst xs, .lst ys], q1 =>
      obtain ⟨v, v', rfl, r, r'⟩ := r1.two
      cases r with
      | @lst a vs ds e r =>
        cases r' with
        | @lst b ws es e' r' =>
          have e1 : SqL G.K w1.F a vs := .inl (.inl e)
          have e2 : SqL G.K w1.F b ws := .inl (.inl e')
          exact ⟨a, b, vs, ws, rfl, .inl ⟨hK ▸ SqL.le e1 ok1.fok.sub, hK ▸ SqL.le e2 ok1.fok.sub, q1 w1 _ H1 (.refl _) ok1 (itOk_zip hK e1 e2 r r')⟩⟩
    | [.tup xs, .tup ys], q1 =>
      obtain ⟨v, v', rfl, r, r'⟩ := r1.two
      cases r with
      | @tup a vs ds e r =>
        cases r' with
        | @tup b ws es e' r' =>
          exact ⟨a, b, vs, ws, rfl, .inr ⟨hK ▸ SqT.le e ok1.fok.sub, hK ▸ SqT.le e' ok1.fok.sub, q1 w1 _ H1 (.refl _) ok1 (itOk_zipT hK e e' r r')⟩⟩⟩
/-! ### x.append(e) of an own list; x += e -/
/-- the list at an own slot -/
theorem own_list {κ : Bs} {w : Wd} {s : DS} {σ : L2.St} {H : Hp} {i : Nat} {xs : List D} (ok : Ok G κ w s σ H) (e : s.sl[i]? = some (.ol xs)) : ∃ a vs, σ[i]? = some (some (.ref a)) ∧ H a = some (.lst vs) ∧ Reps G w vs xs := by
  obtain ⟨a, h1, ⟨vs, h2, h3⟩, _⟩ := ok.own i _ e rfl
  exact ⟨a, vs, h1, h2, h3⟩
def sApp (i : Nat) (fa : DA) : DStm := fun s => match s.sl[i]? with
  | some (.ol _) => (fa s).bind fun ds s1 => match ds, s1.sl[i]? with
    | [d], some (.ol xs) => if xs.length < 1000000 then .ok .nx ⟨s1.sl.set i (.ol (xs ++ [d])), s1.st⟩ else .stuck
    | _, _ => .stuck
  | _ => .stuck
theorem app_of {i : Nat} {fa : DA} {N : Ends} {σ : L2.St} {H : Hp} (h : tDS G W (sApp i fa) N σ H) : tDrop (tBM X.K "list" rAppend (tVar i) (tDA G W fa)) N σ H := by
  obtain ⟨κ, w, s, ok, q⟩ := h
  unfold sApp at q
  cases e : s.sl[i]? with
  | none => rw [e] at q; exact q.elim
  | some y =>
    rw [e] at q
    cases y with
    | ol xs0 =>
      obtain ⟨a, vs, h1, h2, h3⟩ := own_list ok e
      refine ⟨.ref a, h1, .inl ⟨rfl, vs, .inl (.inl h2)⟩, κ, w, s, ok, (PostG.bindS q).imp fun v H1 ⟨d, s1, w1, le, ok1, r1, q1⟩ => ?_⟩
      match d, q1 with
      | [d], q1 =>
        cases e1 : s1.sl[i]? with
        | none => rw [e1] at q1; exact q1.elim
        | some z =>
          rw [e1] at q1
          cases z with
          | ol xs =>
            replace q1 : PostS G W κ w1 (if xs.length < 1000000 then .ok .nx ⟨s1.sl.set i (.ol (xs ++ [d])), s1.st⟩ else .stuck) N := q1
            split at q1
            · rename_i c
              obtain ⟨a', vs', g1, g2, g3⟩ := own_list ok1 e1
              rw [h1] at g1
              cases g1
              obtain ⟨y, rfl, ry⟩ := r1.one
              refine ⟨a, vs', y, rfl, rfl, g2, by rw [g3.length, sizeLine_eq]; omega, ?_⟩
              exact q1 w1 σ _ (.refl _) (ok1.mut e1 rfl rfl h1 ⟨_, upd_same, g3.append (.cons ry .nil)⟩ fun _ _ z => nomatch z)
            · exact q1.elim
          | _ => exact q1.elim
      | [], q1 => cases e1 : s1.sl[i]? <;> exact q1.elim
      | _ :: _ :: _, q1 => cases e1 : s1.sl[i]? <;> exact q1.elim
    | _ => exact q.elim
theorem pds_append {i : Nat} {x : Str} {p apos cpos pos : Pos} {e : Expr} {fa : DA} (ho : PE X (.Name x p) (tVar i)) (ha : PDA G W X [e] fa)
    (hbase : attributeBase (.Name x p) "append" X.env (eval (.Name x p) X.env) = eval (.Name x p) X.env := by rfl)
    (hfew : ((backTo cpos (starEach [e] X.env)).all (fun x => !x.1) && (backToKw cpos (keywordEach [] X.env)).all (fun x => x.1.isSome)
      && decide ([e].length + ([] : List Keyword).length + (if ([] : List Keyword).isEmpty then 0 else 1) < 30)) = true := by rfl)
    (hline : (apos.endLine == cpos.line) = true := by rfl) (hs : starEach [e] X.env = (false, eval e X.env) :: starEach [] X.env := by rfl) (hplain : (backTo cpos (starEach [] X.env)).any (·.1) = false := by rfl)
    (hsw : swapsWith (.Call (.Attribute (.Name x p) "append" apos) [e] [] cpos) none pos.line X.env = pure false := by rfl) : PDS G W X (.Expr (.Call (.Attribute (.Name x p) "append" apos) [e] [] cpos) pos) (sApp i fa) :=
  (ps_expr (pe_bm PySem.F.plainAttrs_list PySem.F.slot_list_append PySem.F.type_list_append mt_append ho ha hbase hfew hline hs hplain) hsw).imp fun N σ H q => app_of q
/-- x += e of ints -/
def sAug (i : Nat) (o : Int → Int → Int) (f : DE) : DStm := fun s => match s.sl[i]? with
  | some (.val (.int a)) => (f s).bind fun d s1 => match d with
    | .int b => .ok .nx ⟨s1.sl.set i (.val (.int (o a b))), s1.st⟩
    | _ => .stuck
  | _ => .stuck
theorem pds_aug {i : Nat} {x : Str} {e : Expr} {f : DE} {op : Operator} {o : Int → Int → Int} {pos pos' : Pos} (hN : X.N.Nodup) (hi : X.N[i]? = some x) (hx : Loc X.env.scope x) (he : PD G W X e f) (ho : PIp X op (ipI o))
    (hf : X.fn x = true ∨ X.env.scope.names.lookup x = some .local := by first | exact .inl rfl | exact .inr rfl | assumption) : PDS G W X (.AugAssign (.Name x pos') op e pos) (sAug i o f) :=
  (ps_aug hN hi hx he ho hf).imp fun N σ H ⟨κ, w, s, ok, q⟩ => by
    unfold sAug at q
    cases e : s.sl[i]? with
    | none => rw [e] at q; exact q.elim
    | some y =>
      rw [e] at q
      cases y with
      | val d =>
        cases d with
        | int a =>
          obtain ⟨v, h1, h2⟩ := ok.val i _ e
          cases h2
          refine ⟨.int a, h1, κ, w, s, ok, (PostG.bindS q).imp fun v H1 ⟨d, s1, w1, le, ok1, r1, q1⟩ => ?_⟩
          cases r1 with
          | int b => exact ⟨a, b, rfl, rfl, q1 w1 _ H1 (.refl _) (ok1.setVal (.int _) i)⟩
          | _ => exact q1.elim
        | _ => exact q.elim
      | _ => exact q.elim
/-- a < b < c -/
def eChain (o o' : D → D → Option D) (fa fb fc : DE) : DE := fun s => (fa s).bind fun x s1 => (fb s1).bind fun y s2 => match o x y with
  | some (.bl true) => (fc s2).bind fun z s3 => match o' y z with
    | some d => .ok d s3
    | none => .stuck
  | some (.bl false) => .ok (.bl false) s2
  | _ => .stuck
theorem op2b {r : R2} {o : D → D → Option D} (hr : ∀ (κ : Bs) (w : Wd) (s : DS) (σ : L2.St) (H : Hp) (x y : V) (dx dy d : D) (Q : VK), Ok G κ w s σ H → Rep G w x dx → Rep G w y dy → o dx dy = some d → (∀ w' v H', w.le w' → Ok G κ w' s σ H' → Rep G w' v d → Q v H') → r x y H Q) :
    ∀ (κ : Bs) (w : Wd) (s : DS) (σ : L2.St) (H : Hp) (x y : V) (dx dy d : D) (Q : VK), Ok G κ w s σ H → Rep G w x dx → Rep G w y dy → o dx dy = some d → (∀ w' v H', w.le w' → Ok G κ w' s σ H' → Rep G w' v d → Q v H') → r x y H Q := hr
theorem pd_chain {op op' : CmpOp} {o o' : D → D → Option D} {a b c : Expr} {fa fb fc : DE} {pos : Pos} (ho : OpD G X (compareOp op) o) (ho' : OpD G X (compareOp op') o') (ha : PD G W X a fa) (hb : PD G W X b fb) (hc : PD G W X c fc)
    (hp : ∀ {r r' : R2} {ta tb tc : TE}, OpR X (compareOp op) r → OpR X (compareOp op') r' → PE X a ta → PE X b tb → PE X c tc → PE X (.Compare a [op, op'] [b, c] pos) (tChain r r' ta tb tc)) : PD G W X (.Compare a [op, op'] [b, c] pos) (eChain o o' fa fb fc) := by
  obtain ⟨r, h1, h2⟩ := ho
  obtain ⟨r', h1', h2'⟩ := ho'
  refine (hp h1 h1' ha hb hc).imp fun σ H Q ⟨κ, w, s, ok, q⟩ => ⟨κ, w, s, ok, (PostG.bind q).imp fun v H1 ⟨d, s1, w1, le, ok1, r1, q1⟩ => ⟨κ, w1, s1, ok1, (PostG.bind q1).imp fun v2 H2 ⟨d2, s2, w2, le2, ok2, r2, q2⟩ => ?_⟩⟩
  cases e : o d d2 with
  | none => rw [e] at q2; exact q2.elim
  | some z =>
    rw [e] at q2
    refine h2 κ w2 s2 σ H2 v v2 d d2 z _ ok2 (r1.mono le2) r2 e fun w3 v3 H3 l3 o3 r3 => ?_
    cases r3 with
    | bl k =>
      refine ⟨k, rfl, ?_⟩
      cases k with
      | false => exact q2 w3 _ H3 l3 o3 (.bl false)
      | true =>
        refine ⟨κ, w3, s2, o3, (PostG.bind (PostG.mono l3 q2)).imp fun v4 H4 ⟨d4, s4, w4, le4, ok4, r4, q4⟩ => ?_⟩
        cases e' : o' d2 d4 with
        | none => rw [e'] at q4; exact q4.elim
        | some z' => rw [e'] at q4; exact h2' κ w4 s4 σ H4 v2 v4 d2 d4 z' Q ok4 ((r2.mono l3).mono le4) r4 e' q4
    | _ => exact q2.elim
end
end DL
set_option maxRecDepth 100000
set_option maxHeartbeats 4000000
set_option autoImplicit false
namespace DL
open PySem PySem.Spec PyProof.Rows L2
section
variable {G : Gam} {W : WX} {X : Cx}
/-! ### a for over a list, a tuple, a text -/
theorem pi_any {tg l : Expr} {tl : TE} (hl : PE X l tl) : PI X tg l (fun σ H R => tl σ H fun x H1 => (∃ a, x = .ref a ∧ (∃ xs, SqL X.K H1 a xs) ∧ R (Itl X.K a) H1) ∨ (∃ a, x = .ref a ∧ (∃ xs, SqT X.K H1 a xs) ∧ R (Itt X.K a) H1) ∨ ∃ y, x = .str y ∧ R (Its y) H1) := by
  refine ⟨fun pins s σ H R I h => ?_⟩
  refine thn (hl.run pins s σ H _ I h) fun v s1 ⟨x, H1, I1, r1, q1⟩ => ?_
  rcases q1 with ⟨a, e, ⟨xs, hq⟩, q⟩ | ⟨a, e, ⟨xs, hq⟩, q⟩ | ⟨y, e, q⟩
  · subst e
    cases r1
    obtain ⟨its, rv, p, hz⟩ := I1.list hq
    refine wpAny_pyIter_list p.isList ?_
    refine ⟨s1.heap.objs.size, [s1.heap.objs.size], _, _, H1, rfl, I1.kept (t' := s1.toks) fun b o e => Heap.get?_push_of_some _ e, turn_list a _, ⟨_, Heap.get?_push_size _ rfl, rfl, rfl⟩, fun b hb => ?_, q⟩
    have e : b = s1.heap.objs.size := by simpa using hb
    subst e
    exact I1.fpOk (Nat.le_refl _) (I1.hok.fresh (Nat.le_refl _))
  · subst e
    cases r1
    obtain ⟨its, rv, p, hz⟩ := I1.tuple hq
    refine wpAny_pyIter_tuple (show s1.heap.IsTuple a its.toArray from p) ?_
    refine ⟨s1.heap.objs.size, [s1.heap.objs.size], _, _, H1, rfl, I1.kept (t' := s1.toks) fun b o e => Heap.get?_push_of_some _ e, turn_tuple a _, ⟨_, Heap.get?_push_size _ rfl, rfl, rfl⟩, fun b hb => ?_, q⟩
    have e : b = s1.heap.objs.size := by simpa using hb
    subst e
    exact I1.fpOk (Nat.le_refl _) (I1.hok.fresh (Nat.le_refl _))
  · subst e
    obtain ⟨t, rfl⟩ := r1
    cases ha : y.cps.all (· < 128)
    · exact wpAny_pyIter_wide ha (pi_one (tk := s1.toks) I1 _ (turn_str _ y t "str_iterator" (.inr rfl)) ⟨_, Heap.get?_push_size _ rfl, rfl, rfl⟩ q)
    · exact wpAny_pyIter_ascii ha (pi_one (tk := s1.toks) I1 _ (turn_str _ y t "str_ascii_iterator" (.inl rfl)) ⟨_, Heap.get?_push_size _ rfl, rfl, rfl⟩ q)
theorem itOk_str {w : Wd} (l : Nm) : ItOk G w (Its (nm l)) (l.map fun c => D.str [c]) := by
  intro w1 S H le fok i
  refine ⟨fun d hd => ?_, fun hn => ?_⟩
  · rw [List.getElem?_map] at hd
    cases e : l[i]? with
    | none => rw [e] at hd; cases hd
    | some c =>
      rw [e] at hd
      cases hd
      have hc : (nm l).cps[i]? = some c := by simpa [nm] using e
      refine ⟨?_, fun x H' hy => ?_⟩
      · show i < (nm l).cps.size
        exact (Array.getElem?_eq_some_iff.mp hc).1
      · obtain ⟨hH, c', hc', hx⟩ := hy
        rw [hc] at hc'
        cases hc'
        subst hH
        subst hx
        exact ⟨w1, .refl _ _, fok, .str [c]⟩
  · show (nm l).cps.size ≤ i
    rw [List.getElem?_map] at hn
    cases e : l[i]? with
    | some c => rw [e] at hn; cases hn
    | none =>
      have := List.getElem?_eq_none_iff.mp e
      simpa [nm] using this
def itemsD (d : D) : Option (List D) := match d with
  | .lst xs => some xs
  | .scr xs => some xs
  | .tup xs => some xs
  | .str l => some (l.map fun c => .str [c])
  | _ => none
def itSeq (f : DE) : DA := fun s => (f s).bind fun d s1 => match itemsD d with
  | some xs => .ok xs s1
  | none => .stuck
theorem pdi_seq (hK : G.K = X.K) {tg e : Expr} {f : DE} (h : PD G W X e f) : PDI G W X tg e (itSeq f) :=
  (pi_any h).imp fun σ H R ⟨κ, w, s, ok, q⟩ => ⟨κ, w, s, ok, (PostG.bindI q).imp fun v H1 ⟨d, s1, w1, le, ok1, r1, q1⟩ => by
    cases r1 with
    | @lst a vs ds e r =>
      have e' : SqL G.K w1.F a vs := .inl (.inl e)
      exact .inl ⟨a, rfl, ⟨vs, hK ▸ SqL.le e' ok1.fok.sub⟩, q1 w1 _ H1 (.refl _) ok1 (itOk_list hK e' (fun _ _ _ _ _ => trivial) r fun _ _ => trivial)⟩
    | @scr a vs ds e r =>
      exact .inl ⟨a, rfl, ⟨vs, hK ▸ SqL.le e ok1.fok.sub⟩, q1 w1 _ H1 (.refl _) ok1 (itOk_list hK e (fun _ _ _ _ _ => trivial) r fun _ _ => trivial)⟩
    | @tup a vs ds e r => exact .inr (.inl ⟨a, rfl, ⟨vs, hK ▸ SqT.le e ok1.fok.sub⟩, q1 w1 _ H1 (.refl _) ok1 (itOk_tup hK e r)⟩)
    | str l => exact .inr (.inr ⟨nm l, rfl, q1 w1 _ H1 (.refl _) ok1 (itOk_str l)⟩)
    | _ => exact q1.elim⟩
/-! ### + and * in all -/
def lAdd : D → D → Option D := fun x y => match x, y with
  | .lst a, .lst b => if a.length + b.length ≤ 1000000 then some (.lst (a ++ b)) else none
  | _, _ => none
theorem opd_ladd : OpD G X (binaryOp .Add) lAdd := ⟨_, op_cat, fun κ w s σ H x y dx dy d Q ok rx ry e q => by
  cases rx with
  | @lst a vs ds e1 r1 =>
    cases ry with
    | @lst a2 vs2 ds2 e2 r2 =>
      have e : (if ds.length + ds2.length ≤ 1000000 then some (D.lst (ds ++ ds2)) else none) = some d := e
      split at e
      · cases e
        refine ⟨a, a2, vs, vs2, rfl, rfl, ok.fok.sub _ _ e1, ok.fok.sub _ _ e2, by rw [r1.length, r2.length, sizeLine_eq]; omega, fun p hp => ?_⟩
        obtain ⟨le2, ok2⟩ := ok.alloc hp (.lst (vs ++ vs2))
        exact q _ _ _ le2 ok2 (.lst upd_same ((r1.append r2).mono le2))
      · cases e
    | _ => exact nomatch e
  | _ => exact nomatch e⟩
def lMul : D → D → Option D := fun x y => match x, y with
  | .lst a, .int k => if -(2 ^ 63) ≤ k ∧ k < 2 ^ 63 ∧ a.length * k.toNat ≤ 1000000 then some (.lst (List.replicate k.toNat a).flatten) else none
  | _, _ => none
theorem opd_lmul : OpD G X (binaryOp .Mult) lMul := ⟨_, op_rep, fun κ w s σ H x y dx dy d Q ok rx ry e q => by
  cases rx with
  | @lst a vs ds e1 r1 =>
    cases ry with
    | int k =>
      have e : (if -(2 ^ 63) ≤ k ∧ k < 2 ^ 63 ∧ ds.length * k.toNat ≤ 1000000 then some (D.lst (List.replicate k.toNat ds).flatten) else none) = some d := e
      split at e
      · rename_i c
        cases e
        refine ⟨a, k, vs, rfl, rfl, ok.fok.sub _ _ e1, c.1, c.2.1, by rw [r1.length, sizeLine_eq]; omega, fun p hp => ?_⟩
        obtain ⟨le2, ok2⟩ := ok.alloc hp (.lst (List.replicate k.toNat vs).flatten)
        exact q _ _ _ le2 ok2 (.lst upd_same ((r1.rep _).mono le2))
      · cases e
    | _ => exact nomatch e
  | _ => exact nomatch e⟩
theorem OpD.or {f : Value → Value → Sem Value} {o o' : D → D → Option D} (h : OpD G X f o) (h' : OpD G X f o') : OpD G X f (fun x y => (o x y).orElse fun _ => o' x y) := by
  obtain ⟨r, h1, h2⟩ := h
  obtain ⟨r', h1', h2'⟩ := h'
  refine ⟨_, h1.or h1', fun κ w s σ H x y dx dy d Q ok rx ry e q => ?_⟩
  have e : ((o dx dy).orElse fun _ => o' dx dy) = some d := e
  cases e1 : o dx dy with
  | some z => rw [e1] at e; cases e; exact .inl (h2 κ w s σ H x y dx dy _ Q ok rx ry e1 q)
  | none => rw [e1] at e; exact .inr (h2' κ w s σ H x y dx dy d Q ok rx ry e q)
def dAdd : D → D → Option D := fun x y => match x, y with
  | .int i, .int j => some (.int (i + j))
  | x, y => (sAdd x y).orElse fun _ => lAdd x y
theorem OpD.congr {f : Value → Value → Sem Value} {o o' : D → D → Option D} (h : OpD G X f o) (e : ∀ x y, o' x y = o x y) : OpD G X f o' := by
  have : o' = o := by funext x y; exact e x y
  rw [this]; exact h
theorem opd_addA (hK : G.K = X.K) : OpD G X (binaryOp .Add) dAdd := (opd_add.or ((opd_sadd hK).or opd_ladd)).congr fun x y => by
  cases x <;> cases y <;> rfl
def dMul : D → D → Option D := fun x y => match x, y with
  | .int i, .int j => if mulOk i j then some (.int (i * j)) else none
  | x, y => lMul x y
theorem opd_mulA : OpD G X (binaryOp .Mult) dMul := (opd_mul.or opd_lmul).congr fun x y => by
  cases x <;> cases y <;> first
    | rfl
    | (rename_i i j
       show (if mulOk i j then some (D.int (i * j)) else none) = ((if mulOk i j then some (D.int (i * j)) else none).orElse fun _ => lMul (.int i) (.int j))
       split <;> rfl)
/-! ### a, b, c = x, y, z -/
def sPar3 (i j l : Nat) (f : DA) : DStm := fun s => (f s).bind fun ds s1 => match ds with
  | [x, y, z] => .ok .nx ⟨((s1.sl.set i (.val x)).set j (.val y)).set l (.val z), s1.st⟩
  | _ => .stuck
theorem pds_par3 {i j l : Nat} {x y z : Str} {a b c : Expr} {f : DA} {px py pz pt pos : Pos} {kt k2 : Nat} {pt2 : Pos} (hc : X.calm = true) (hN : X.N.Nodup) (hi : X.N[i]? = some x) (hj : X.N[j]? = some y) (hl : X.N[l]? = some z) (hij : i ≠ j) (hil : i ≠ l) (hjl : j ≠ l)
    (hx : X.env.scope.names.lookup x = some .local) (hy : X.env.scope.names.lookup y = some .local) (hz : X.env.scope.names.lookup z = some .local) (ha : PDA G W X [a, b, c] f)
    (hw : swappedStores [.Tuple [.Name x px, .Name y py, .Name z pz] kt pt] (.Tuple [a, b, c] k2 pt2) X.env = pure (some [x, y, z]))
    (hs : swapsWithSole [.Tuple [.Name x px, .Name y py, .Name z pz] kt pt] (.Tuple [a, b, c] k2 pt2) pos.line X.env = pure false := by rfl) :
    PDS G W X (.Assign [.Tuple [.Name x px, .Name y py, .Name z pz] kt pt] (.Tuple [a, b, c] k2 pt2) pos) (sPar3 i j l f) :=
  (ps_par3 hc hN hi hj hl hij hil hjl hx hy hz ha hw hs).imp fun N σ H ⟨κ, w, s, ok, q⟩ => ⟨κ, w, s, ok, (PostG.bindS q).imp fun v H1 ⟨d, s1, w1, le, ok1, r1, q1⟩ => by
    match d, q1, r1 with
    | [x, y, z], q1, .cons a (.cons b (.cons c .nil)) => exact ⟨_, _, _, rfl, q1 w1 _ H1 (.refl _) (((ok1.setVal a i).setVal b j).setVal c l)⟩
    | [], q1, _ => exact q1.elim
    | [_], q1, _ => exact q1.elim
    | [_, _], q1, _ => exact q1.elim
    | _ :: _ :: _ :: _ :: _, q1, _ => exact q1.elim⟩
/-! ### types as values -/
theorem pd_bltn {x : Str} {n : String} {pos : Pos} (hg : Gl X x) (hm : X.mg x = none) (hv : bootBuiltins x = some (.type n)) (hn : x ≠ "__name__" := by decide) (hd : (x == ("__debug__" : Str)) = false := by decide) : PD G W X (.Name x pos) (eC (.ty n)) :=
  pd_c (pe_bltn (v := .ty n) hg hm hv rfl hn hd) fun _ => .ty n
theorem pd_cls {x : Str} {c : String} {C : Addr} {pos : Pos} (hg : Gl X x) (hm : X.mg x = some (.ref C)) (hC : G.ct c = some C) (hd : (x == ("__debug__" : Str)) = false := by decide) : PD G W X (.Name x pos) (eC (.cls c)) :=
  pd_c (pe_glob (v := .ref C) hg hm rfl hd) fun _ => .cls hC
/-! ### slices of tuples and texts, xs[::-1] -/
def eSlT (f : DE) (l h : DOp) : DE := fun s => (f s).bind fun d s1 => (l s1).bind fun lo s2 => (h s2).bind fun hi s3 => match d with
  | .tup xs => if (cutD xs lo hi).length ≠ xs.length then .ok (.tup (cutD xs lo hi)) s3 else .stuck
  | _ => .stuck
theorem cut_len {w : Wd} {vs : List V} {ds : List D} (r : Reps G w vs ds) (lo hi : Option Int) : (cutV vs lo hi).length = (cutD ds lo hi).length := (r.cut lo hi).length
theorem pd_slT (hK : G.K = X.K) {e : Expr} {lo hi : Option Expr} {f : DE} {l h : DOp} {p2 pos : Pos} (he : PD G W X e f) (hl : PO X lo (tDO G W l)) (hh : PO X hi (tDO G W h)) : PD G W X (.Subscript e (.Slice lo hi none p2) pos) (eSlT f l h) :=
  (pe_slice sl_tup he hl hh).imp fun σ H Q ⟨κ, w, s, ok, q⟩ => ⟨κ, w, s, ok, (PostG.bind q).imp fun v H1 ⟨d, s1, w1, le, ok1, r1, q1⟩ => ⟨κ, w1, s1, ok1, (PostG.bind q1).imp fun v2 H2 ⟨d2, s2, w2, le2, ok2, r2, q2⟩ =>
    ⟨κ, w2, s2, ok2, (PostG.bind q2).imp fun v3 H3 ⟨d3, s3, w3, le3, ok3, r3, q3⟩ => by
      subst r2
      subst r3
      cases r1 with
      | @tup a vs ds e r =>
        replace q3 : PostG G W (Rep G) κ w3 σ (if (cutD ds v2 v3).length ≠ ds.length then .ok (.tup (cutD ds v2 v3)) s3 else .stuck) Q := q3
        split at q3
        · rename_i c
          have rr := (r.mono le2).mono le3
          refine ⟨a, vs, rfl, hK ▸ SqT.le (SqT.le (SqT.le e le2.f) le3.f) ok3.fok.sub, ?_, fun p hp => ?_⟩
          · intro z
            apply c
            rw [← cut_len rr, ← rr.length]
            unfold cutV
            rw [z.1, z.2]
            simp
          · obtain ⟨le4, ok4⟩ := ok3.alloc hp (.tup (cutV vs v2 v3))
            exact q3 _ _ _ le4 ok4 (.tup (.inl (.inl upd_same)) ((rr.cut v2 v3).mono le4))
        · exact q3.elim
      | _ => exact q3.elim⟩⟩⟩
/-- a slice of a list or of a tuple -/
def slD (d : D) (lo hi : Option Int) : Option D := match d with
  | .lst xs => some (.lst (cutD xs lo hi))
  | .scr xs => some (.lst (cutD xs lo hi))
  | .tup xs => if (cutD xs lo hi).length ≠ xs.length then some (.tup (cutD xs lo hi)) else none
  | _ => none
def eSlA (f : DE) (l h : DOp) : DE := fun s => (f s).bind fun d s1 => (l s1).bind fun lo s2 => (h s2).bind fun hi s3 => match slD d lo hi with
  | some x => .ok x s3
  | none => .stuck
theorem pd_slA (hK : G.K = X.K) {e : Expr} {lo hi : Option Expr} {f : DE} {l h : DOp} {p2 pos : Pos} (he : PD G W X e f) (hl : PO X lo (tDO G W l)) (hh : PO X hi (tDO G W h)) : PD G W X (.Subscript e (.Slice lo hi none p2) pos) (eSlA f l h) :=
  (pe_slice (sl_list.or sl_tup) he hl hh).imp fun σ H Q ⟨κ, w, s, ok, q⟩ => ⟨κ, w, s, ok, (PostG.bind q).imp fun v H1 ⟨d, s1, w1, le, ok1, r1, q1⟩ => ⟨κ, w1, s1, ok1, (PostG.bind q1).imp fun v2 H2 ⟨d2, s2, w2, le2, ok2, r2, q2⟩ =>
    ⟨κ, w2, s2, ok2, (PostG.bind q2).imp fun v3 H3 ⟨d3, s3, w3, le3, ok3, r3, q3⟩ => by
      subst r2
      subst r3
      cases r1 with
      | @lst a vs ds e r =>
        have e := le3.f _ _ (le2.f _ _ e)
        refine .inl ⟨a, vs, rfl, .inl (.inl (ok3.fok.sub _ _ e)), fun p hp => ?_⟩
        obtain ⟨le4, ok4⟩ := ok3.alloc hp (.lst (cutV vs v2 v3))
        exact q3 _ _ _ le4 ok4 (.lst upd_same ((((r.mono le2).mono le3).cut v2 v3).mono le4))
      | @scr a vs ds e r =>
        refine .inl ⟨a, vs, rfl, hK ▸ SqL.le (SqL.le (SqL.le e le2.f) le3.f) ok3.fok.sub, fun p hp => ?_⟩
        obtain ⟨le4, ok4⟩ := ok3.alloc hp (.lst (cutV vs v2 v3))
        exact q3 _ _ _ le4 ok4 (.lst upd_same ((((r.mono le2).mono le3).cut v2 v3).mono le4))
      | @tup a vs ds e r =>
        right
        have rr := (r.mono le2).mono le3
        cases e4 : slD (.tup ds) v2 v3 with
        | none => rw [e4] at q3; exact q3.elim
        | some x =>
          rw [e4] at q3
          have e4 : (if (cutD ds v2 v3).length ≠ ds.length then some (D.tup (cutD ds v2 v3)) else none) = some x := e4
          split at e4
          · rename_i c
            cases e4
            refine ⟨a, vs, rfl, hK ▸ SqT.le (SqT.le (SqT.le e le2.f) le3.f) ok3.fok.sub, ?_, fun p hp => ?_⟩
            · intro z
              apply c
              rw [← cut_len rr, ← rr.length]
              unfold cutV
              rw [z.1, z.2]
              simp
            · obtain ⟨le4, ok4⟩ := ok3.alloc hp (.tup (cutV vs v2 v3))
              exact q3 _ _ _ le4 ok4 (.tup (.inl (.inl upd_same)) ((rr.cut v2 v3).mono le4))
          · cases e4
      | _ => exact q3.elim⟩⟩⟩
/-- xs[::-1] of a list: a new list -/
def aRev (f : DE) : DA := fun s => (f s).bind fun d s1 => match d with
  | .lst xs => .ok xs.reverse s1
  | .scr xs => .ok xs.reverse s1
  | _ => .stuck
theorem Reps.reverse {w : Wd} : ∀ {vs : List V} {ds : List D}, Reps G w vs ds → Reps G w vs.reverse ds.reverse
  | _, _, .nil => .nil
  | _, _, .cons a b => by
    rw [List.reverse_cons, List.reverse_cons]
    exact (Reps.reverse b).append (.cons a .nil)
theorem pdo_rev (hK : G.K = X.K) {e : Expr} {f : DE} {k : Nat} {p1 p2 p3 pos : Pos} (he : PD G W X e f) : PDo G W X (.Subscript e (.Slice none none (some (.UnaryOp .USub (.Constant (.int 1) k p1) p2)) p3) pos) (aRev f) :=
  (pe_revL he).imp fun σ H Q ⟨κ, w, s, ok, q⟩ => ⟨κ, w, s, ok, (PostG.bindO q).imp fun v H1 ⟨d, s1, w1, le, ok1, r1, q1⟩ => by
    cases r1 with
    | @lst a vs ds e r => exact ⟨a, vs, rfl, .inl (.inl (ok1.fok.sub _ _ e)), fun p hp => q1 w1 p _ _ (.refl _) (ok1.fresh hp _) (ok1.apart hp) r.reverse⟩
    | @scr a vs ds e r => exact ⟨a, vs, rfl, hK ▸ SqL.le e ok1.fok.sub, fun p hp => q1 w1 p _ _ (.refl _) (ok1.fresh hp _) (ok1.apart hp) r.reverse⟩
    | _ => exact q1.elim⟩
/-! ### the law's end -/
def spLaw (K : PySem.W.Frag) : Sp := fun vs H Q _ => ∃ (a : Addr) (ns : List Int), vs = [.ref a] ∧ SqL K H a (ns.map V.int) ∧ ns.length ≤ 63 ∧ ∀ H', Q (.bl true) H'
theorem law_end {P : Program} {w0 : World} {mg : Str → Option Value} {base : Heap} {k : Nat} {f : Addr} {fd : FuncData} {ps : List Str} {g : DFn} (F : FnOk P w0 G.K mg base (L2.CX P w0) k f fd ps (spG G 1 g))
    (h : ∀ ns : List Int, ns.length ≤ 63 → ∃ S, g [.scr (ns.map D.int)] [] = .ok (.bl true) S) : FnOk P w0 G.K mg base (L2.CX P w0) k f fd ps (spLaw G.K) :=
  F.imp fun vs H Q E ⟨a, ns, e, hS, hl, q⟩ => by
    obtain ⟨S, hg⟩ := h ns hl
    subst e
    refine ⟨rfl, ⟨H, []⟩, [], [.scr (ns.map D.int)], ⟨fun _ _ e => e, rfl, fun n a c e => by simp at e, List.nodup_nil, fun a ha => by simp at ha⟩, .cons (.scr hS (Reps.of_ints ns)) .nil, ?_⟩
    rw [hg]
    intro w' v H' nx f r
    cases r
    exact q H'
theorem noCX {P : Program} {w : World} : ∀ (H : Hp) (s : Shared) (e : Value) (s' : Shared), L2.CX P w [] H s (fun _ _ _ => False) e s' → False := fun H s e s' h => by
  obtain ⟨_, _, _, _, _, _, _, _, _, _, _, _, z⟩ := h
  exact z
end
end DL
set_option maxRecDepth 100000
set_option maxHeartbeats 4000000
set_option autoImplicit false
namespace DL
open PySem PySem.Spec PyProof.Rows L2
section
variable {G : Gam} {W : WX} {X : Cx}
theorem callD1 {k : Nat} {f : Addr} {fd : FuncData} {ps : List Str} {n : Nat} {g : DFn} {pins : List (Addr × Obj)} {sh : Shared} {κ : Bs} {w : Wd} {s : DS} {σ : L2.St} {H : Hp} {vs : List V} {ds : List D} {us : List Value} {Q : VK}
    (F : FnOk X.prog X.w X.K X.mg X.base (L2.CX X.prog X.w) k f fd ps (spG G n g)) (hr : Room (k + 1) X.A) (hb : Binds X.K fd ps []) (tk : Takes X W) (I : Inv X pins σ H sh) (ok : Ok G κ w s σ H) (rs : Reps G w vs ds) (r : Vals vs us) (hn : ds.length = n)
    (q : PostG G W (Rep G) κ w σ (lift s (g ds s.st)) Q) : wpAny (model X.prog X.w) X.A.in1 (call (.ref f) us) (EP X pins σ Q) X.xe sh := by
  have h : spG G n g vs H Q (WE W σ) := ⟨by rw [rs.length]; exact hn, w, s.st, ds, ok.fok, rs, postF_of ok q⟩
  have hl : us.length = ps.length := by rw [← r.length]; exact F.len _ _ _ _ h
  have hbb := hb sh us I.kIn (by rw [List.append_nil]; exact hl)
  rw [List.append_nil] at hbb
  refine wpAny_call (codeAny_mono (F.run X.A.in1 X.stack sh H ⟨us, []⟩ us vs Q (WE W σ) hr.in1 I.env0.in1 hbb r h) fun r s' hq => ?_)
  cases r with
  | error e => exact passAt tk σ pins H sh e s' I hq
  | ok fl =>
    cases fl with
    | ret u => exact I.after hq
    | next => exact False.elim hq
    | brk => exact False.elim hq
    | cont => exact False.elim hq
/-- a built-in special method of an instance of an own class -/
theorem ifBound_B {M : Model} {A : Around} {E : Value → Shared → Prop} {s : Shared} {K : PySem.W.Frag} {x C : Addr} {ox : Obj} {od : Option Obj} {name : Str} {id : String} {args : List Value} {Q : Option Value → Shared → Prop} (Xk : K.In s.heap) (I : PySem.W.InstAt s.heap x ox C od)
    (hs : PySem.W.findIn K (.ref C) name = some (some (.builtin id))) (hb : ∀ self, bindSpecial (.builtin id) self = pure (.builtin id, [self]))
    (h : wpAny M A (call (.builtin id) (.ref x :: args)) (fun v => Q (some v)) E s) : wpAny M A (callSpecialIfBound? (.ref x) name args) Q E s := by
  simp only [callSpecialIfBound?, bindSpecialIfBound?]
  refine wpAny_holding (wpAny_bind (wpAny_bind (wpAny_bind (I.type.here ((PySem.W.looks_findIn Xk hs).here ?_)))))
  refine wpAny_bind (wpAny_askSetting (wpAny_ite ?_))
  have fin : wpAny M A (call (.builtin id) ([.ref x] ++ args) >>= fun v => pure (some v)) Q E s := wpAny_bind (wpAny_mono h (fun v s' h' => wpAny_pure h') fun _ _ h' => h')
  simp only [hb]
  split
  · exact wpAny_bind (wpAny_pure (wpAny_pure (by exact fin)))
  · exact wpAny_tryCatch (wpAny_bind (wpAny_pure (wpAny_pure (by exact fin))))
theorem ne_call {prog : Program} {w : World} {A : Around} {E : Value → Shared → Prop} {s : Shared} {K : PySem.W.Frag} {a C b : Addr} {ox : Obj} {od : Option Obj} {Q : Value → Shared → Prop} (Xk : K.In s.heap) (I : PySem.W.InstAt s.heap a ox C od) (hm : PySem.W.mroIn K C (.type "object") = some true)
    (h : wpAny (model prog w) A.in1 (callSpecialIfBound? (.ref a) "__eq__" [.ref b]) (fun r s' => ∃ b, r = some (.bool b) ∧ Q (.bool (!b)) s') E s) (hu : A.in1.units < cLine) : wpAny (model prog w) A (call (.builtin "object.__ne__") [.ref a, .ref b]) Q E s := by
  have L0 := I.type (M := model prog w)
  have L1 := PySem.W.looks_mroIn (M := model prog w) Xk hm
  refine wpAny_call (codeAny_call_builtin PySem.F.cmp_object.ne.plain PySem.F.cmpEntry_ne ?_)
  obtain ⟨hh, g, dr, t, os⟩ := s
  have hk := PySem.F.cmpKind_ne
  have hs := PySem.F.cmpSplit_ne
  have ha := PySem.F.cmpArgs_ne (.ref a) (.ref b)
  have fin : wpAny (model prog w) A.in1 (Builtin.«object.__ne__» ⟨[.ref a, .ref b], []⟩) (fun fin s' => match fin with | .done f => (match (.ok f : Result) with | .ok (.ret v) => Q v s' | .ok _ => False | .error e => E e s') | .again c' => c'.quiet = true ∧ codeAny (model prog w) A c' (fun r s' => match r with | .ok (.ret v) => Q v s' | .ok _ => False | .error e => E e s') s') (fun e s' => E e s') ⟨hh, g, dr, t, os⟩ := by
    unfold Builtin.«object.__ne__»
    rw [show slotArgs "__ne__" 1 ⟨[.ref a, .ref b], []⟩ = pure (.ref a, [.ref b]) from rfl]
    refine wpAny_bind (wpAny_pure (wpAny_bind (wpAny_cRoomFor hu (wpAny_bind (wpAny_mono h (fun r s' hr => ?_) fun _ _ e => e)))))
    obtain ⟨b, rfl, q⟩ := hr
    exact wpAny_bind (wpAny_truthy_bool (wpAny_pure q))
  simp only [checkBuiltinCall, hk, hs]
  refine wpAny_bind ?_
  unfold isInstance
  repeat (first | exact fin | lk)
def negD (r : Res DS D) : Res DS D := match r with
  | .ok (.bl b) s => .ok (.bl (!b)) s
  | .exc x s => .exc x s
  | _ => .stuck
def ownNe (c : String) (g : DFn) : DO2 := fun x y s => negD (ownO c g x y s)
theorem negD_post {κ : Bs} {w : Wd} {σ : L2.St} {r : Res DS D} {Q : VK} (h : PostG G W (Rep G) κ w σ (negD r) Q) : PostG G W (Rep G) κ w σ r (fun v H => ∃ b, v = .bl b ∧ Q (.bl (!b)) H) := by
  cases r with
  | stuck => exact h
  | exc x s => exact h
  | ok d s =>
    cases d with
    | bl b =>
      intro w' v H' l o r
      cases r
      exact ⟨b, rfl, h w' _ H' l o (.bl _)⟩
    | _ => exact h.elim
theorem opx_ownNe {c : String} {C f : Addr} {k : Nat} {fd : FuncData} {ps : List Str} {g : DFn} (hC : G.ct c = some C) (hs : PySem.W.findIn X.K (.ref C) "__eq__" = some (some (.ref f))) (hf : PySem.W.isFn X.K (.ref f) = true)
    (hne : PySem.W.findIn X.K (.ref C) "__ne__" = some (some (.builtin "object.__ne__"))) (hob : PySem.W.mroIn X.K C (.type "object") = some true)
    (F : FnOk X.prog X.w X.K X.mg X.base (L2.CX X.prog X.w) k f fd ps (spG G 2 g)) (hr : Room (k + 1) X.A) (hb : Binds X.K fd ps []) (tk : Takes X W) : OpX G W X (compareOp .NotEq) (ownNe c g) := by
  intro pins sh σ H x y v u κ w s dx dy Q I rx ry ok rdx rdy q
  obtain ⟨a, b, C', dxa, dxb, fa, fb, rfl, rfl, hC', hH, hH', q⟩ := ownO_of ok rdx rdy (negD_post q)
  rw [hC] at hC'
  cases hC'
  cases rx
  cases ry
  obtain ⟨mA, J, _⟩ := ins_get I.hok hH
  obtain ⟨mB, J', _⟩ := ins_get I.hok hH'
  obtain ⟨od, J, _⟩ := J.look
  obtain ⟨od', J', _⟩ := J'.look
  have KX := I.kIn
  show wpAny (model X.prog X.w) X.A (richCompare .NotEq (.ref a) (.ref b)) _ _ _
  -- object.__ne__: __eq__, turned
  have one : wpAny (model X.prog X.w) X.A (tryCompare (.ref a) "__ne__" (.ref b)) (fun r s' => ∃ v, r = some v ∧ EP X pins σ Q v s') X.xe sh := by
    unfold tryCompare
    refine wpAny_bind (ifBound_B KX J hne PySem.F.cmp_object.ne.bind ?_)
    refine wpAny_mono (ne_call (Q := fun v s' => ∃ b, v = .bool b ∧ EP X pins σ Q v s') KX J hob ?_ hr.in1.units0) (fun v s' h => ?_) fun _ _ e => e
    case refine_1 =>
      have hc := callD1 (us := [.ref a, .ref b]) (vs := [.ref a, .ref b]) (ds := [dx, dy]) F hr hb tk I ok (.cons rdx (.cons rdy .nil)) (.cons rfl (.cons rfl .nil)) rfl q
      refine PySem.W.ifBound_K KX J hs hf (wpAny_mono hc (fun v s' h => ?_) fun _ _ e => e)
      obtain ⟨x, H', I', r, b, rfl, q'⟩ := h
      cases r
      exact ⟨b, rfl, !b, rfl, .bl (!b), H', I', rfl, q'⟩
    case refine_2 =>
      obtain ⟨b, rfl, h⟩ := h
      exact wpAny_pure ⟨_, rfl, h⟩
  unfold richCompare
  simp only [oneThing_ref]
  refine wpAny_holding (wpAny_bind (wpAny_cRoomFor hr.units0 ?_))
  refine wpAny_bind (J.type.here (wpAny_bind (J'.type.here ?_)))
  rw [if_neg (by simp)]
  refine wpAny_bind (wpAny_pure ?_)
  simp only [Bool.false_eq_true, if_false]
  refine wpAny_bind (wpAny_mono one (fun r s' z => ?_) fun _ _ e => e)
  obtain ⟨v, rfl, hq⟩ := z
  exact wpAny_pure hq
end
end DL
set_option maxRecDepth 100000
set_option maxHeartbeats 4000000
set_option autoImplicit false
namespace DL
open PySem PySem.Spec PyProof.Rows L2
/-- all that is asked of a class, in one -/
def clsB (K : PySem.W.Frag) (C : Addr) (fs : List Str) : Bool :=
  PySem.W.plainGet K C Str.empty && (PySem.W.hasDictIn K C && (PySem.W.plainOver K C && (PySem.W.makesIn K C && (PySem.W.keepIn K (.ref C) && (PySem.W.selfFirst K C &&
    ((PySem.W.findIn K (.ref C) "__setattr__" == some (some (.builtin "object.__setattr__"))) && ((PySem.W.findIn K (.ref C) "__ne__" == some (some (.builtin "object.__ne__"))) && ((PySem.W.mroIn K C (.type "object") == some true) &&
    ((PySem.W.findIn K (.ref C) "__class__" == some (some (.builtin "object.__class__"))) && ((PySem.W.specialIn K (.builtin "object.__class__") "__get__" == some (some (.builtin "getset_descriptor.__get__"))) && ((PySem.W.takesIn K (.builtin "object.__class__") == some true) &&
    (fs.all (fun f => PySem.W.findIn K (.ref C) f == some none) && tyNames.all fun b => (PySem.W.kitOne K (.ref C) (.type b) == some false) && (PySem.W.kitOne K (.type b) (.ref C) == some false)))))))))))))
structure ClsF (K : PySem.W.Frag) (C : Addr) (fs : List Str) : Prop where
  cl : Cls K C
  makes : PySem.W.makesIn K C = true
  kp : PySem.W.keepIn K (.ref C) = true
  sf : PySem.W.selfFirst K C = true
  ne : PySem.W.findIn K (.ref C) "__ne__" = some (some (.builtin "object.__ne__"))
  mo : PySem.W.mroIn K C (.type "object") = some true
  i1 : PySem.W.findIn K (.ref C) "__class__" = some (some (.builtin "object.__class__"))
  i2 : PySem.W.specialIn K (.builtin "object.__class__") "__get__" = some (some (.builtin "getset_descriptor.__get__"))
  i3 : PySem.W.takesIn K (.builtin "object.__class__") = some true
  na : ∀ f ∈ fs, NoAttr K C f
  bo : ∀ b ∈ tyNames, PySem.W.kitOne K (.ref C) (.type b) = some false ∧ PySem.W.kitOne K (.type b) (.ref C) = some false
theorem clsF {K : PySem.W.Frag} {C : Addr} {fs : List Str} (h : clsB K C fs = true) : ClsF K C fs := by
  unfold clsB at h
  simp only [Bool.and_eq_true, beq_iff_eq, List.all_eq_true] at h
  obtain ⟨h1, h2, h3, h4, h5, h6, h7, h8, h9, h10, h11, h12, h13, h14⟩ := h
  exact ⟨⟨h1, h2, h3, h7⟩, h4, h5, h6, h8, h9, h10, h11, h12, fun f hf => h13 f hf, fun b hb => h14 b hb⟩
/-- the own classes apart from one another -/
theorem isOk_of {G : Gam} {cs : List String} (h1 : ∀ c ∈ cs, ∃ C fs, G.ct c = some C ∧ ClsF G.K C fs) (h2 : ∀ c ∈ cs, ∀ c' ∈ cs, ∀ C C', G.ct c = some C → G.ct c' = some C' → PySem.W.kitOne G.K (.ref C) (.ref C') = some (c == c')) : IsOk G cs := by
  refine ⟨fun c hc C hC => ?_, fun c hc C hC => ?_, h2⟩
  · obtain ⟨C', fs, e, f⟩ := h1 c hc
    rw [hC] at e
    cases e
    exact ⟨f.cl, f.i1, f.i2, f.i3, f.mo⟩
  · obtain ⟨C', fs, e, f⟩ := h1 c hc
    rw [hC] at e
    cases e
    exact f.bo
theorem kit_self {K : PySem.W.Frag} {C : Addr} : PySem.W.kitOne K (.ref C) (.ref C) = some true := by
  unfold PySem.W.kitOne
  rw [if_pos (by simp)]
end DL
set_option maxRecDepth 100000
set_option maxHeartbeats 4000000
set_option autoImplicit false
namespace DL
open PySem PySem.Spec PyProof.Rows L2
/-! ### an own error whose __init__ says super().__init__(x); self.f = x -/
section
variable {P : Program} {W0 : World} {Ar : Around} {Er : Value → Shared → Prop} {hp : Heap} {gs : Array GenState} {dr : Drawn} {tk : Nat} {osS : OsState}
theorem call_mwV {cn cq : Str} {C NN u e t0 : Addr} {b1 b2 sbs : List Value} {hdc abs : Bool} {sns : List Str} {cl : Option Bool} {dd : Option Addr} {j0 j1 j2 j3 j5 : Option Value} {rest : List Value} {Q : Value → Shared → Prop}
    (hC : hp.get? C = some (excClassObj cn cq C NN b1 b2 hdc sns sbs abs cl dd j0 j1 j2 j3 j5 "ValueError.__new__")) (he : hp.get? e = some (HandSPX.excO C t0)) (hu : hp.get? u = some (PySem.W.kxs_mw "ValueError.__init__" e)) (hrest : rest.length ≤ sizeLine)
    (hq : ∀ h' t1, (∀ b o, b ≠ e → hp.get? b = some o → h'.get? b = some o) → h'.get? e = some (HandSPX.excO C t1) → Q .none ⟨h', gs, dr, tk, osS⟩) :
    wpAny (model P W0) Ar (call (.ref u) rest) Q Er ⟨hp, gs, dr, tk, osS⟩ := by
  refine wpAny_call (codeAny_of_tree ?_)
  show wpAny _ Ar.in1 (callAny (.ref u) ⟨rest, []⟩) _ _ _
  simp only [callAny]
  refine wpAny_bind (wpAny_load hu ?_)
  simp only [PySem.W.kxs_mw, show (Value.type "method-wrapper" == Value.type "method" || Value.type "method-wrapper" == Value.type "builtin_function_or_method" || Value.type "method-wrapper" == Value.type "method-wrapper") = true by decide, if_true]
  refine PySem.W.KFB.if_so (by decide) ?_
  refine wpAny_bind (PySem.W.check_bound_init F.excBase_ValueError.toExcCallFacts hC he rfl ?_)
  refine wpAny_bind (wpAny_pure (wpAny_pure ?_))
  refine ⟨Code.quiet_builtin _ (by decide +kernel), codeAny_builtin F.excBase_ValueError.initEntry ?_⟩
  rw [Around.under_plainId F.excBase_ValueError.init.plain _]
  wp_walk
  refine hq _ hp.objs.size (fun b o hb ho => ?_) ?_
  · rw [Heap.get?_update_other _ _ (Ne.symm hb)]
    exact Heap.get?_push_of_some _ ho
  · rw [Heap.get?_update_self _ (Heap.get?_push_of_some _ he) rfl]
    rfl
end
theorem eval_si (x : Str) (env : Env) (p0 p1 p2 p3 p4 : Pos) (hp : (p2.endLine == p4.line) = true) : eval (.Call (.Attribute (.Call (.Name "super" p0) [] [] p1) "__init__" p2) [.Name x p3] [] p4) env = (do
      let ov ← attributeBase (.Call (.Name "super" p0) [] [] p1) "__init__" env (eval (.Call (.Name "super" p0) [] [] p1) env)
      standAt p2.atName
      let (f, first) ← holding [ov] (getMethod ov "__init__" (do return (← importBound (.Call (.Name "super" p0) [] [] p1) env).getD true))
      callWith p4 f first (backTo p4 (starEach [.Name x p3] env)) []) := by
  have h : ∀ fm, methodCallPos fm (.Call (.Name "super" p0) [] [] p1) env p2 p4 = pure p4 := fun fm => by
    unfold methodCallPos
    rw [hp]
    simp
  show (do
      let ov ← attributeBase (.Call (.Name "super" p0) [] [] p1) "__init__" env (eval (.Call (.Name "super" p0) [] [] p1) env)
      standAt p2.atName
      let (f, first) ← holding [ov] (calleeOf true (.Call (.Name "super" p0) [] [] p1) env ov "__init__")
      let callPos ← methodCallPos true (.Call (.Name "super" p0) [] [] p1) env p2 p4
      callWith callPos f first (backTo p4 (starEach [.Name x p3] env)) []) = _
  rw [h]
  rfl
def spX (C : Addr) (f : Str) : Sp := fun vs H Q _ => ∃ (a : Addr) (y : V), vs = [.ref a, y] ∧ H a = some (exo a C none) ∧ ∀ dx, H dx = none → dx ≠ a → Q .non (upd (upd H dx (exd dx [(f, y)])) a (exo a C (some dx)))
/-- what the text and the linked part say of such a def -/
structure XIn (P : Program) (K : PySem.W.Frag) (mg : Str → Option Value) (C fI : Addr) (fd : FuncData) (slf x f : Str) : Prop where
  ex : ∃ (oc doc pm dV kV ct ccl cl : Value) (od an cdd cld : Option Addr) (osl ccs csl : Array (Option Value)) (cda cc : Addr) (name qual file : Str) (params : Arguments) (scope : Scope) (vs : Array Value) (tf : Tok) (ar : Arg) (p0 p1 p2 p3 p4 p5 p6 p7 p8 p9 : Pos),
    fd = PySem.W.fnX name qual params [.Expr (.Call (.Attribute (.Call (.Name "super" p0) [] [] p1) "__init__" p2) [.Name x p3] [] p4) p5, .Assign [.Attribute (.Name slf p6) f p7] (.Name x p8) p9] scope [("__class__", cc)] dV kV doc pm an (.ref cda) ct ∧
    K.lookup fI = some ⟨oc, od, .func fd, osl⟩ ∧ PySem.W.codeIn K (.ref cda) qual = true ∧ (params.posonlyargs ++ params.args).head? = some ar ∧ ar.arg = slf ∧
    K.lookup cda = some ⟨ccl, cdd, .fields vs, ccs⟩ ∧ vs[2]? = some (.str file tf) ∧ ((P.main.file : Str) == file) = true ∧ K.lookup cc = some ⟨cl, cld, .cell (some (.ref C)), csl⟩ ∧
    scope.names.lookup ("super" : Str) = some .globalImplicit ∧ scope.names.lookup ("__class__" : Str) = some .free ∧ scope.names.lookup slf = some .local ∧ scope.names.lookup x = some .local ∧ (∀ z ∈ scope.names, z.2 ≠ .cell) ∧ scope.kind = .function ∧ scope.isCoroutine = false ∧ scope.isGenerator = false ∧ (p2.endLine == p4.line) = true
  top : (P.main.scope.names.lookup ("super" : Str)).isSome = false
  sup : mg "super" = none
  self : PySem.W.mroIn K C (.ref C) = some true
  al : PySem.W.ks_superIn K C C "__init__" = some (some (.builtin "ValueError.__init__"))
  ve : PySem.W.subIn K (.ref C) (.type "ValueError") = some true
  any : PySem.W.nsIn K cStatics "thirdparty.any" = some none
  cls : OexC K C
  no : PySem.W.findIn K (.ref C) f = some none
  ds : (slf == ("__debug__" : Str)) = false
  dx : (x == ("__debug__" : Str)) = false
  sx : slf ≠ x
theorem x_ok {P : Program} {w0 : World} {K : PySem.W.Frag} {mg : Str → Option Value} {base : Heap} {CX : CXT} {C fI : Addr} {fd : FuncData} {slf x f : Str} (T : XIn P K mg C fI fd slf x f) : FnOk P w0 K mg base CX 1 fI fd [slf, x] (spX C f) := by
  obtain ⟨⟨oc, doc, pm, dV, kV, ct, ccl, cl, od, an, cdd, cld, osl, ccs, csl, cda, cc, name, qual, file, params, scope, vs, tf, ar, p0, p1, p2, p3, p4, p5, p6, p7, p8, p9, efd, lk, hcd, har, hars, lcd, hvs, hfile, lcc, ksup, kcls, kslf, kx, kcell, kk, kco, kgen, kpos⟩, htop, hsup, hself, hal, hve, hany, hcls, hno, hds, hdx, hsx⟩ := T
  subst efd
  refine ⟨fun vs H Q E ⟨a, y, e, _⟩ => by rw [e]; rfl, fun A outer s H args us vs' Q E hr e0 hb hv hsp => ?_⟩
  obtain ⟨a, y, rfl, ea, hq⟩ := hsp
  cases hv with
  | @cons _ u0 _ ur ra rest =>
  cases rest with
  | @cons _ u _ ur2 ry rest =>
  cases rest
  obtain rfl : u0 = Value.ref a := ra
  have KX : K.In s.heap := e0.mod.kin.keeps fun b o e => (e0.bs b o e).1
  have lim : s.heap.NoLimit := e0.mod.nolimit.keeps fun b o e => (e0.bs b o e).1
  obtain ⟨t0, hea⟩ := exo_at e0.hok ea
  obtain ⟨cn, cq, NS, b1, b2, sns, sbs, abs, col, dd, j0, j1, j2, j3, j5, hC, hbm⟩ := hcls.cls
  have hcl : PySem.W.clsIn K C = some { name := cn, bases := b1, mro := .ref C :: b2, ns := NS, qualname := cq, hasDict := true, slotNames := sns, subclasses := sbs, abstract := abs, collection := col, hasDel := false } := by unfold PySem.W.clsIn; rw [hC] <;> rfl
  refine ks_codeAny_call_defAt (binds := [(slf, .ref a), (x, u)]) hr.depth (KX _ _ lk) rfl lim (PySem.W.codeRec_of KX hcd) rfl hb kcell (fun z hz => ?_) (fun h0 hns hk0 => ?_) kco kgen kk
  · rcases List.mem_cons.mp hz with rfl | hz
    · exact kslf
    · rcases List.mem_cons.mp hz with rfl | hz
      · exact kx
      · cases hz
  have X0 : K.In h0 := KX.keeps hk0
  have ns_s : (fun y => ([(slf, Value.ref a), (x, u)] : List (Str × Value)).reverse.lookup y) slf = some (.ref a) := by
    have : (slf == x) = false := by simpa using hsx
    simp [List.lookup, this]
  have ns_x : (fun y => ([(slf, Value.ref a), (x, u)] : List (Str × Value)).reverse.lookup y) x = some u := by simp [List.lookup]
  have hea0 := hk0 _ _ hea
  have oC : s.heap.get? C = some _ := KX _ _ hC
  have ne_aC : a ≠ C := fun z => by
    rw [z, oC] at hea
    cases hea
  refine ks_wpAt_execs_cons (ks_wpAt_Expr_any (ks_wpAt_MethodCall ?_ (eval_si x _ p0 p1 p2 p3 p4 kpos)) (hi := by show (scope.kind == .module && _) = false; rw [kk]; rfl))
  refine ks_wpAt_super_base ksup kcls (by decide) rfl (X0 _ _ lk) rfl har rfl (X0 _ _ lcd) rfl hvs hfile htop ?_
  obtain ⟨mb, hb1, hb2⟩ := e0.mod.blt
  have bk : ∀ b o, base.get? b = some o → h0.get? b = some o := fun b o e => hk0 _ _ (e0.bs b o e).1
  refine PySem.W.ks_loadName_global kk ksup (Calls.loadGlobal_builtin (e0.mod.glob.keeps bk) hsup (hb1.keeps bk) ((hb2 _ (by decide)).trans PyProof.Rows.Boot.«super») ⟨rfl, ?_⟩)
  refine wpAny_loadName_free kk kcls (c := cc) rfl ⟨_, X0 _ _ lcc, rfl⟩ ?_
  rw [hars]
  refine wpAny_loadName_local kk kslf hns ns_s ?_
  refine ks_wpAny_isType_cls (X0 _ _ hC) rfl ⟨rfl, ?_⟩
  refine ks_wpAny_call_super (X0 _ _ hC) rfl hea0 rfl (fun c z => nomatch z) (PySem.W.looks_mroIn X0 hself) (fun h1 hso hk1 => ?_)
  have X1 : K.In h1 := X0.keeps hk1
  have hea1 := hk1 _ _ hea0
  have inst1 : PySem.W.InstAt h1 a _ C none := ⟨hea1, rfl, rfl, trivial⟩
  have hI : PySem.W.Looks (model P w0) h1 (isInstance (.ref a) (.type "ValueError")) true := inst1.type.andThen (PySem.W.looks_subIn X1 hve)
  have hmro : PySem.W.Looks (model P w0) h1 (mroOf (.ref C)) (.ref C :: b2) := (PySem.W.looks_clsIn X1 hcl).andThen .now
  have hal' : PySem.W.alongIn K "__init__" (((Value.ref C :: b2).dropWhile (· != .ref C)).drop 1) = some (some (.builtin "ValueError.__init__")) := by
    unfold PySem.W.ks_superIn at hal
    rw [hcl] at hal
    exact hal
  refine PySem.W.kxs_getMethod PySem.W.kxs_ValueError hso (PySem.W.looks_opaque X1 hany) hmro rfl X1 hal' hI ne_aC (by decide) ?_
  have hmw : (h1.push (PySem.W.kxs_mw "ValueError.__init__" a)).get? h1.objs.size = some (PySem.W.kxs_mw "ValueError.__init__" a) := Heap.get?_push_at rfl rfl
  have kp2 : ∀ b o, h1.get? b = some o → (h1.push (PySem.W.kxs_mw "ValueError.__init__" a)).get? b = some o := fun b o e => Heap.get?_push_of_some _ e
  have ns2 : (h1.push (PySem.W.kxs_mw "ValueError.__init__" a)).Ns s.heap.objs.size (fun y => ([(slf, Value.ref a), (x, u)] : List (Str × Value)).reverse.lookup y) := (hns.keeps hk1).keeps kp2
  refine PySem.W.kxs_callWith (i := "ValueError.__init__") (x := a) rfl ?_
  refine Calls.evalArgs_plain (Calls.spliced_cons (wpAny_Name (wpAny_loadName_local kk kx ns2 ns_x (Calls.spliced_nil ⟨hmw, ?_⟩)) hdx))
  refine call_mwV (X1.keeps kp2 _ _ hC) (kp2 _ _ hea1) hmw (by rw [sizeLine_eq]; show 1 ≤ _; decide) fun h3 t1 hk3 hea3 => ?_
  have lt0 : ∀ {b : Addr} {o : Obj}, s.heap.get? b = some o → b ≠ s.heap.objs.size := fun e => Nat.ne_of_lt (Heap.lt_size e)
  have kall : ∀ b o, b ≠ a → s.heap.get? b = some o → h3.get? b = some o := fun b o hb e => hk3 b o hb (kp2 _ _ (hk1 _ _ (hk0 _ _ e)))
  have ne_aL : s.heap.objs.size ≠ a := fun z => lt0 hea z.symm
  have X3 : K.In h3 := fun b o e => hk3 b o (fun z => by
    have := (e0.bs b o (e0.mod.kin b o e)).2
    rw [z, ea] at this
    cases this) (kp2 _ _ (X1 b o e))
  have ns3 : h3.Ns s.heap.objs.size (fun y => ([(slf, Value.ref a), (x, u)] : List (Str × Value)).reverse.lookup y) := by
    obtain ⟨ob, es, ep, ho, r⟩ := ns2
    exact ⟨ob, es, ep, hk3 _ _ ne_aL ho, r⟩
  show PySem.wpAt _ _ _ (execs [_] _) _ _ _
  refine ks_wpAt_execs_cons (PySem.wpAt_of_wpAny (plainObj_wpAny_Assign_Attribute (wpAny_Name (wpAny_loadName_local kk kx ns3 ns_x (wpAny_Name (wpAny_loadName_local kk kslf ns3 ns_s ?_) hds)) hdx)))
  refine PySem.W.set_plain (ox := { cls := .ref C, dict := none, data := .fields #[.ref t1, .none, .none, .none, .bool false, .none] }) (od := none) X3 ⟨hea3, rfl, rfl, trivial⟩ hcls.sa ?_
  refine PySem.HandSPX.exc_osa X3 hea3 hcl (show PySem.HandSPX.refsVE (.ref C :: b2) = true from hbm) rfl hno (fun h4 tk4 dxa hk4 dn dne hx4 hn4 => ?_)
  refine PySem.wpAt_of_wpAny (wpAny_execs_nil ?_)
  have szL : s.heap.objs.size < h3.objs.size := by
    obtain ⟨ob, _, _, ho, _⟩ := ns3
    exact Heap.lt_size ho
  have hnd : H dxa = none := e0.hok.fresh (Nat.le_trans (Nat.le_of_lt szL) dn)
  have kfin : ∀ b o, b ≠ a → s.heap.get? b = some o → h4.get? b = some o := fun b o hb e => hk4 b o hb (kall b o hb e)
  have ndx : ∀ {b : Addr} {o : Obj}, s.heap.get? b = some o → b ≠ dxa := fun {b o} e => Nat.ne_of_lt (Nat.lt_of_lt_of_le (Nat.lt_trans (Heap.lt_size e) szL) dn)
  have na : ∀ {b : Addr}, H b = none → b ≠ a := fun {b} n z => by
    rw [z, ea] at n
    cases n
  refine ⟨.non, upd (upd H dxa (exd dxa [(f, y)])) a (exo a C (some dxa)), rfl, e0.bare, ?_, ?_, rfl, hq dxa hnd dne⟩
  · exact {
      keep := fun b o e n _ _ => kfin b o (na n) e
      slot := fun b o e n _ _ => ⟨o.slots, kfin b o (na n) e⟩
      free := fun b o e n _ => by rw [upd_ne (na n), upd_ne (ndx e)]; exact n
      there := fun b o e _ => by
        by_cases hb : b = a
        · exact ⟨_, by rw [hb]; exact hx4⟩
        · exact ⟨o, kfin b o hb e⟩
      tups := fun b xs e => by rw [upd_ne (at_ne ea e exo_tup), upd_ne (ne_of_none e hnd)]; exact e
      frzs := fun b o v e => by rw [upd_ne (at_ne ea e exo_frz), upd_ne (ne_of_none e hnd)]; exact e
      tbls := fun b ps e => ⟨#[], by rw [upd_ne (at_ne ea e exo_tbl), upd_ne (ne_of_none e hnd), e]; simp⟩ }
  · intro b o e
    by_cases hb : b = a
    · subst hb
      rw [upd_same] at e
      cases e
      exact exo_ok hx4
    · rw [upd_ne hb] at e
      by_cases hd : b = dxa
      · subst hd
        rw [upd_same] at e
        cases e
        exact exd_ok hn4 (relO_put (fs := []) ry fun g => True.intro)
      · rw [upd_ne hd] at e
        refine (e0.hok b o e).stay (fun c v hc z => kfin c v ?_ z) (fun c hc => ?_) (fun c xs hc => ?_)
        · rcases hc with hc | hc
          · rw [hc]; exact hb
          · exact at_ne ea hc exo_own
        · rw [upd_ne (at_ne ea hc exo_own), upd_ne (ne_of_none hc hnd)]; exact hc
        · rw [upd_ne (at_ne ea hc exo_tup), upd_ne (ne_of_none hc hnd)]; exact hc
/-! ### raise C(e) -/
def sRaise (c : String) (f : Nm) (fa : DA) : DStm := fun s => (fa s).bind fun ds s1 => match ds with
  | [d] => .exc ⟨c, [(f, d)]⟩ s1
  | _ => .stuck
/-- an own error class: made by its own __init__ -/
structure XCls (G : Gam) (K : PySem.W.Frag) (c : String) (C fI : Addr) : Prop where
  ct : G.ct c = some C
  ini : PySem.W.findIn K (.ref C) "__init__" = some (some (.ref fI))
  ty : PySem.W.typeIn K (.ref fI) = some (.type "function")
  cls : OexC K C
section
variable {G : Gam} {W : WX} {X : Cx}
theorem pds_raise {c : String} {C fI : Addr} {fd : FuncData} {slf xp f x : Str} {fn : Nm} {e : Expr} {fa : DA} {p pos pos' : Pos} (hc : X.calm = true) (tk : Takes X W) (T : XCls G X.K c C fI) (T2 : XIn X.prog X.K X.mg C fI fd slf xp f) (hf : f = nm fn) (hb : Binds X.K fd [slf, xp] [])
    (hr : Room 2 X.A) (hg : Gl X x) (hm : X.mg x = some (.ref C)) (ha : PDA G W X [e] fa) (hdb : (x == ("__debug__" : Str)) = false := by decide) (he : starEach [e] X.env = (false, eval e X.env) :: starEach [] X.env := by rfl) :
    PDS G W X (.Raise (some (.Call (.Name x p) [e] [] pos)) none pos') (sRaise c fn fa) :=
  (ps_raise hc tk (pmk_oex (CX := L2.CX X.prog X.w) T.cls T.ini T.ty (x_ok T2) hr hb .nil (passes_call tk fun _ _ _ _ z => z.elim) hg hm ha hdb he)).imp fun N σ H ⟨κ, w, s, ok, q⟩ => ⟨κ, w, s, ok, (PostG.bindS q).imp fun vs H1 ⟨ds, s1, w1, le, ok1, rs, q1⟩ => by
    match ds, q1 with
    | [d], q1 =>
      cases rs with
      | @cons v _ vs' _ r rs =>
      cases rs
      refine ⟨by show 1 ≤ 1000; decide, fun a ha => ⟨a, v, rfl, upd_same, fun dx h1 h2 => ⟨rfl, dx, [(f, v)], ?_, ?_, ?_, ?_⟩⟩⟩
      · exact upd_same
      · rw [upd_ne h2, upd_same]
      · rw [upd_ne h2] at h1; exact h1
      · rw [upd_ne h2] at h1
        have eH : upd (del (upd (upd (upd H1 a (exo a C none)) dx (exd dx [(f, v)])) a (exo a C (some dx))) a) dx (.xd [(f, v)]) = upd H1 dx (.xd [(f, v)]) := by
          funext b
          by_cases hb : b = dx
          · rw [hb, upd_same, upd_same]
          · rw [upd_ne hb, upd_ne hb]
            by_cases hba : b = a
            · rw [hba, del_same, ha]
            · rw [del_ne hba, upd_ne hba, upd_ne hb, upd_ne hba]
        rw [eH]
        obtain ⟨le2, ok2⟩ := ok1.alloc h1 (.xd [(f, v)])
        exact q1 _ σ (.ref C) (some dx) _ le2 ok2 ⟨C, T.ct, rfl, .inr ⟨dx, [(f, v)], rfl, upd_same, by subst hf; exact .cons (r.mono le2) .nil⟩⟩
    | [], q1 => exact q1.elim
    | _ :: _ :: _, q1 => exact q1.elim⟩
end
end DL
set_option maxRecDepth 100000
set_option maxHeartbeats 4000000
set_option autoImplicit false
namespace DL
open PySem PySem.Spec PyProof.Rows L2
/-! ### try with several clauses, each with a name or without -/
abbrev HTs := Addr → Value → Option Addr → TS
def unset (D : Ends) (i : Nat) : Ends := { nx := fun τ Z => D.nx (τ.set i none) Z, rt := D.rt, bk := fun τ Z => D.bk (τ.set i none) Z, ct := fun τ Z => D.ct (τ.set i none) Z }
def wHd (K : PySem.W.Frag) (Wo : WX) (D : Ends) : List (Value × Option Nat × HTs) → WX
  | [] => Wo
  | (c, none, ts) :: r => fun cl dd τ Z => ∃ b, PySem.W.exmOne K cl c = some b ∧ (b = true → ∀ a, Z a = none → ts a cl dd D τ Z) ∧ (b = false → wHd K Wo D r cl dd τ Z)
  | (c, some i, ts) :: r => fun cl dd τ Z => ∃ b, PySem.W.exmOne K cl c = some b ∧ (b = true → ∀ a, Z a = none → ts a cl dd (unset D i) (τ.set i (some (.ref a))) Z) ∧ (b = false → wHd K Wo D r cl dd τ Z)
/-- the suite of a clause -/
def SuOk (X : Cx) (st : List Stmt) (ts : HTs) : Prop := ∀ (a : Addr) (ob : Obj) (cl : Value) (dd : Option Addr) (pn : List (Addr × Obj)), Zc cl dd ob → (∃ vs, ob.data = .fields vs) → PSs (X.suite a ((a, ob) :: pn)) st (ts a cl dd)
inductive HdA (X : Cx) : List ExceptHandler → List (Value × Option Nat × HTs) → Prop
  | nil : HdA X [] []
  | bare {x : Str} {c : Value} {ts : HTs} {s0 : Stmt} {su : List Stmt} {np pp : Pos} {hs : List ExceptHandler} {l : List (Value × Option Nat × HTs)} (nc : Names X x c) (ok : SuOk X (s0 :: su) ts) (r : HdA X hs l) :
      HdA X (.ExceptHandler (some (.Name x np)) none (s0 :: su) pp :: hs) ((c, none, ts) :: l)
  | as_ {x n : Str} {i : Nat} {c : Value} {ts : HTs} {s0 : Stmt} {su : List Stmt} {np pp : Pos} {hs : List ExceptHandler} {l : List (Value × Option Nat × HTs)} (nc : Names X x c) (hi : X.N[i]? = some n) (hl : X.env.kindOf n = some .local) (ok : SuOk X (s0 :: su) ts) (r : HdA X hs l) :
      HdA X (.ExceptHandler (some (.Name x np)) (some n) (s0 :: su) pp :: hs) ((c, some i, ts) :: l)
section
variable {X : Cx} {bd : List Stmt} {g0 : ExceptHandler} {gs : List ExceptHandler} {l : List (Value × Option Nat × HTs)} {tpos : Pos} {tb : WX → TS} {Wo : WX}
theorem ps_tryA (est : X.stack = X.env :: X.outer) (efr : X.env.frame = some X.env.locals) (nd : X.N.Nodup) (tk : Takes X Wo)
    (hbd : ∀ (Wi : WX) (pn : List (Addr × Obj)) (xe : Value → Shared → Prop), Takes (X.tr pn xe) Wi → PassesOwn (model X.prog X.w) X.A X.env xe → PSs (X.tr pn xe) bd (tb Wi)) (hh : HdA X (g0 :: gs) l) :
    PS X (.Try bd (g0 :: gs) [] [] tpos) (fun D τ Z => tb (wHd X.K Wo D l) D τ Z) := by
  refine ⟨fun pins sh τ Z D I h => ?_⟩
  have okX := I.ok
  have frX : X.A.frames = some (X.env :: X.outer) := by rw [okX.frames, est]
  let xeT : Value → Shared → Prop := fun e z1 => wpAny (model X.prog X.w) X.A (noteFrame e X.env) (fun _ z2 => wpAny (model X.prog X.w) X.A (setFlight e none) (fun _ z3 => wpAny (model X.prog X.w) X.A (handleBy e X.env (g0 :: gs)) (SP X pins D) X.xe z3) X.xe z2) X.xe z1
  refine wpAny_Try_except (wpAny_mono ((hbd (wHd X.K Wo D l) (X.pn ++ pins) xeT (fun u sh' xx => ?_) PassesOwn.looking).run [] sh τ Z D (I.toTry _) h) (fun fl sh1 hsp => ?_) (fun e sh1 he => he))
  · obtain ⟨a, Bh, sI, pins', τ', Z', cl, dd, rfl, J', nb, up, sky, na, eos, ag, wish⟩ := xx
    have J : Inv X pins τ' Z' sI := J'.ofTry okX
    have sky2 : Sky Bh (X.env :: X.outer) a (Zc cl dd) X.env.locals sh'.heap := est ▸ sky
    show wpAny (model X.prog X.w) X.A (noteFrame (.ref a) X.env) _ _ _
    refine Sky.land Zc.steady frX efr sky2 fun h3 fl3 up3 => ?_
    have J3 : Inv X pins τ' Z' { sh' with heap := h3 } := J.landed nb fl3.1 (up.trans up3) eos ag
    obtain ⟨ob3, vs3, he3, hz3, hd3⟩ := fl3.there
    have nfr : a ∉ frs (X.env :: X.outer) := fun hm => by
      obtain ⟨_, o', e', hnf⟩ := fl3.2.2.1.mem hm
      rw [he3] at e'
      cases e'
      exact hnf _ hd3
    have nL : a ≠ X.env.locals := fun z => nfr (List.mem_filterMap.mpr ⟨X.env, List.mem_cons_self, efr.trans (congrArg some z.symm)⟩)
    have nF : a ∉ X.fs := fun hm => by
      obtain ⟨ev, hev, eq⟩ := List.mem_filterMap.mp hm
      exact nfr (List.mem_filterMap.mpr ⟨ev, List.mem_cons_of_mem _ hev, eq⟩)
    have S3 := J3.suite he3 hd3 na nL nF
    have LT : PySem.W.Looks (model X.prog X.w) h3 (typeOf (.ref a)) cl := fun A Q E z k q => wpAny_typeOf_ref (k _ _ he3) (hz3.1.symm ▸ q)
    have test : ∀ {x : Str} {c : Value} {np : Pos} {Q : Value → Shared → Prop} {E : Value → Shared → Prop}, Names X x c → Q c { sh' with heap := h3 } → wpAny (model X.prog X.w) (X.A.mark (some (.ref a))) (eval (.Name x np) X.env) Q E { sh' with heap := h3 } := fun {x c np Q E} nc q => by
      obtain ⟨hg, hdb, hm | ⟨hm, hv, hnn⟩⟩ := nc
      · exact ld_glob (X := X.suite a ((a, ob3) :: (X.pn ++ pins))) S3 hg hm q hdb
      · exact ld_blt (X := X.suite a ((a, ob3) :: (X.pn ++ pins))) S3 hg hm hv q hnn hdb
    have go : ∀ {gs' : List ExceptHandler} {l' : List (Value × Option Nat × HTs)}, HdA X gs' l' → wHd X.K Wo D l' cl dd τ' Z' → wpAny (model X.prog X.w) X.A (handleBy (.ref a) X.env gs') (SP X pins D) X.xe { sh' with heap := h3 } := by
      intro gs' l' hk
      induction hk with
      | nil =>
        intro wish
        refine wpAny_handleBy_nil ?_
        obtain ⟨_, _, _, oe, vs, Tb, _, _, he, _, hd, h1, _⟩ := id fl3
        unfold PySem.passOn
        refine wpAny_bind (wpAny_field he hd h1 ?_)
        rw [if_neg (show ¬ ((Value.ref Tb == Value.none) = true) by simp)]
        have fin : wpAny (model X.prog X.w) X.A (setFlight (.ref a) X.env.frame) (fun _ z4 => wpAny (model X.prog X.w) X.A (throw (.ref a) : Sem Flow) (SP X pins D) X.xe z4) X.xe { sh' with heap := h3 } := by
          rw [efr]
          refine HandSPX.setFlight_upZ fl3 fun h4 hh4 up4 => wpAny_throw (tk _ _ ⟨a, Bh, sI, pins, τ', Z', cl, dd, rfl, J, nb, (up.trans up3).trans up4, .inr (.inr ?_), na, eos, ag, wish⟩)
          rw [est]
          exact hh4
        first
          | exact wpAny_bind (wpAny_pure (wpAny_bind fin))
          | exact wpAny_bind fin
      | @bare x c ts s0 su np pp hs2 l2 nc ok r ih =>
        intro wish
        obtain ⟨b, hb1, yes, no⟩ := wish
        refine wpAny_handleBy_cons (codeAny_handlers_test (test nc ((PySem.W.exm_one (M := model X.prog X.w) J3.kIn LT hb1).here ?_))) (by intro q; cases q)
        cases b with
        | false => exact ih (no rfl)
        | true =>
          refine codeAny_handlers_suite (HandSPX.lands_againZ fl3 fun h4 fl4 up4 => ?_)
          have J4 : Inv X pins τ' Z' { sh' with heap := h4 } := J.landed nb fl4.1 ((up.trans up3).trans up4) eos ag
          obtain ⟨ob4, vs4, he4, hz4, hd4⟩ := fl4.there
          refine wpAny_mono ((ok a ob4 cl dd (X.pn ++ pins) hz4 ⟨_, hd4⟩).run [] _ _ Z' _ (J4.suite he4 hd4 na nL nF) (yes rfl a na)) (fun fl z6 hsp => ?_) (fun _ _ z => False.elim z)
          cases fl with
          | ret u => obtain ⟨_, _, _, S6, r6, q6⟩ := hsp; exact ⟨_, _, _, S6.unsuite okX, r6, q6⟩
          | next => obtain ⟨_, _, S6, q6⟩ := hsp; exact ⟨_, _, S6.unsuite okX, q6⟩
          | brk => obtain ⟨_, _, S6, q6⟩ := hsp; exact ⟨_, _, S6.unsuite okX, q6⟩
          | cont => obtain ⟨_, _, S6, q6⟩ := hsp; exact ⟨_, _, S6.unsuite okX, q6⟩
      | @as_ x n i c ts s0 su np pp hs2 l2 nc hi hl ok r ih =>
        intro wish
        obtain ⟨b, hb1, yes, no⟩ := wish
        refine wpAny_handleBy_cons (codeAny_handlers_test (test nc ((PySem.W.exm_one (M := model X.prog X.w) J3.kIn LT hb1).here ?_))) (by intro q; cases q)
        cases b with
        | false => exact ih (no rfl)
        | true =>
          refine codeAny_handlers_suite_as (HandSPX.lands_againZ fl3 fun h4 fl4 up4 => ?_)
          have J4 : Inv X pins τ' Z' { sh' with heap := h4 } := J.landed nb fl4.1 ((up.trans up3).trans up4) eos ag
          obtain ⟨ob4, vs4, he4, hz4, hd4⟩ := fl4.there
          refine store_ok (X := X.suite a ((a, ob4) :: (X.pn ++ pins))) (v := .ref a) (J4.suite he4 hd4 na nL nF) nd hi (.inl hl) rfl (fun z5 S5 => ?_) (.inr hl)
          refine wpAny_mono ((ok a ob4 cl dd (X.pn ++ pins) hz4 ⟨_, hd4⟩).run [] z5 _ Z' _ S5 (yes rfl a na)) (fun fl z6 hsp => ?_) (fun _ _ z => False.elim z)
          have fin : ∀ {τ6 : L2.St} {Z6 : Hp} {R : Shared → Prop}, Inv (X.suite a ((a, ob4) :: (X.pn ++ pins))) [] τ6 Z6 z6 → (∀ z7, Inv X pins (τ6.set i none) Z6 z7 → R z7) → wpAny (model X.prog X.w) X.A (do bindName X.env n .none; unbindBehindTheSuite X.env n pp) (fun _ z7 => R z7) X.xe z6 := fun {τ6 Z6 R} S6 hq => gone_ok (S6.unsuite okX) nd hi hl hq
          cases fl with
          | ret u => obtain ⟨_, _, _, S6, r6, q6⟩ := hsp; exact fin S6 fun _ J7 => ⟨_, _, _, J7, r6, q6⟩
          | next => obtain ⟨_, _, S6, q6⟩ := hsp; exact fin S6 fun _ J7 => ⟨_, _, J7, q6⟩
          | brk => obtain ⟨_, _, S6, q6⟩ := hsp; exact fin S6 fun _ J7 => ⟨_, _, J7, q6⟩
          | cont => obtain ⟨_, _, S6, q6⟩ := hsp; exact fin S6 fun _ J7 => ⟨_, _, J7, q6⟩
    exact go hh wish
  · cases fl with
    | ret u => obtain ⟨v, τ', Z', J', r, q⟩ := hsp; exact ⟨v, τ', Z', J'.ofTry okX, r, q⟩
    | next => obtain ⟨τ', Z', J', q⟩ := hsp; exact wpAny_execs_nil ⟨τ', Z', J'.ofTry okX, q⟩
    | brk => obtain ⟨τ', Z', J', q⟩ := hsp; exact ⟨τ', Z', J'.ofTry okX, q⟩
    | cont => obtain ⟨τ', Z', J', q⟩ := hsp; exact ⟨τ', Z', J'.ofTry okX, q⟩
end
/-! ### the same as a reading -/
section
variable {G : Gam} {W : WX} {X : Cx}
theorem Ok.setUn {κ : Bs} {w : Wd} {s : DS} {σ : L2.St} {H : Hp} (h : Ok G κ w s σ H) (i : Nat) (v : Option V) : Ok G κ w ⟨s.sl.set i .un, s.st⟩ (σ.set i v) H := by
  have inn : ∀ {j : Nat} {x : Sl}, (s.sl.set i .un)[j]? = some x → (x = .un) ∨ (j ≠ i ∧ s.sl[j]? = some x) := fun {j x} e => by
    by_cases hj : i = j
    · subst hj
      by_cases hv : i < s.sl.length
      · rw [List.getElem?_set_self hv] at e
        exact .inl (Option.some.inj e).symm
      · rw [List.getElem?_eq_none (by simpa using hv)] at e; cases e
    · rw [List.getElem?_set_ne hj] at e
      exact .inr ⟨fun z => hj z.symm, e⟩
  have out : ∀ {j : Nat}, j ≠ i → (σ.set i v)[j]? = σ[j]? := fun {j} n => List.getElem?_set_ne (fun z => n z.symm)
  refine ⟨h.fok, h.nx, by simpa using h.len, fun j d e => ?_, fun j x e o => ?_, fun j k x y a e1 e2 o1 o2 h1 h2 => ?_, fun p hp => ?_, fun a ha c fs e => ?_⟩
  · rcases inn e with z | ⟨z, e⟩
    · cases z
    · rw [out z]; exact h.val j d e
  · rcases inn e with z | ⟨z, e⟩
    · subst z; cases o
    · rw [out z]; exact h.own j x e o
  · rcases inn e1 with z | ⟨z, e1⟩
    · subst z; cases o1
    · rcases inn e2 with z' | ⟨z', e2⟩
      · subst z'; cases o2
      · rw [out z] at h1
        rw [out z'] at h2
        exact h.ne j k x y a e1 e2 o1 o2 h1 h2
  · obtain ⟨q1, q2, q3, q4, q5⟩ := h.gam p hp
    refine ⟨q1, q2, q3, q4, fun j x e o => ?_⟩
    rcases inn e with z | ⟨z, e⟩
    · subst z; cases o
    · rw [out z]; exact q5 j x e o
  · rcases inn e with z | ⟨z, e⟩
    · cases z
    · rw [out z]; exact h.me a ha c fs e
theorem RepX.mono {w w' : Wd} {c : Value} {dd : Option Addr} {x : Xc} (h : RepX G w c dd x) (le : w.le w') : RepX G w' c dd x := by
  obtain ⟨C, h1, h2, h3⟩ := h
  refine ⟨C, h1, h2, ?_⟩
  rcases h3 with h3 | ⟨a, vs, e1, e2, e3⟩
  · exact .inl h3
  · exact .inr ⟨a, vs, e1, le.1 _ _ e2, e3.mono le⟩
structure HdR where
  c : Value
  oi : Option Nat
  m : String → Option Bool
  f : Xc → DStm
def unD (i : Nat) (r : Res DS Out) : Res DS Out := r.bind fun o s => .ok o ⟨s.sl.set i .un, s.st⟩
def catchD : List HdR → Xc → DStm
  | [], x, s => .exc x s
  | ⟨_, none, m, f⟩ :: r, x, s => match m x.cls with
    | some true => noX (f x s)
    | some false => catchD r x s
    | none => .stuck
  | ⟨_, some i, m, f⟩ :: r, x, s => match m x.cls with
    | some true => if i < s.sl.length then unD i (noX (f x ⟨s.sl.set i .un, s.st⟩)) else .stuck
    | some false => catchD r x s
    | none => .stuck
def sTry (b : DStm) (hs : List HdR) : DStm := fun s => match b s with
  | .exc x s1 => catchD hs x s1
  | r => r
/-- what is known of the caught one -/
def Fx (G : Gam) (oi : Option Nat) (a : Addr) (cl : Value) (dd : Option Addr) (x : Xc) (w : Wd) (σ : L2.St) : Prop := (∀ i, oi = some i → σ[i]? = some (some (.ref a))) ∧ RepX G w cl dd x
def tXS (G : Gam) (oi : Option Nat) (a : Addr) (cl : Value) (dd : Option Addr) (x : Xc) (f : DStm) : TS := fun N σ H => ∃ κ w s, Ok G κ w s σ H ∧ Fx G oi a cl dd x w σ ∧ PostS G WF κ w (f s) N
def tSu (G : Gam) (h : HdR) : HTs := fun a cl dd N σ H => ∃ x, tXS G h.oi a cl dd x (h.f x) N σ H
/-- the class test of a clause -/
def MOk (G : Gam) (K : PySem.W.Frag) (h : HdR) : Prop := ∀ (k : String) (b : Bool), h.m k = some b → ∀ C, G.ct k = some C → PySem.W.exmOne K (.ref C) h.c = some b
theorem catch_of {D0 : Ends} {κ : Bs} {x : Xc} : ∀ {hs : List HdR}, (∀ h ∈ hs, MOk G X.K h) → ∀ {w : Wd} {s : DS} {cl : Value} {dd : Option Addr} {σ : L2.St} {H : Hp}, PostS G W κ w (catchD hs x s) D0 → Ok G κ w s σ H → RepX G w cl dd x → wHd X.K W D0 (hs.map fun h => (h.c, h.oi, tSu G h)) cl dd σ H
  | [], _, w, s, cl, dd, σ, H, q, ok, rx => q w σ cl dd H (.refl _) ok rx
  | ⟨c, none, m, f⟩ :: r, hm, w, s, cl, dd, σ, H, q, ok, rx => by
    obtain ⟨C, hC, rfl, _⟩ := id rx
    have q : PostS G W κ w (match m x.cls with | some true => noX (f x s) | some false => catchD r x s | none => .stuck) D0 := q
    cases e : m x.cls with
    | none => rw [e] at q; exact q.elim
    | some b =>
      refine ⟨b, hm _ List.mem_cons_self x.cls b e C hC, fun hb a ha => ?_, fun hb => ?_⟩
      · subst hb
        rw [e] at q
        refine ⟨x, κ, w, s, ok, ⟨fun i z => (nomatch z), rx⟩, ?_⟩
        show PostS G WF κ w (f x s) D0
        replace q : PostS G W κ w (noX (f x s)) D0 := q
        cases z : f x s with
        | ok o s' => rw [z] at q; cases o <;> exact q
        | exc y s' => rw [z] at q; exact q.elim
        | stuck => rw [z] at q; exact q.elim
      · subst hb
        rw [e] at q
        exact catch_of (fun h hh => hm h (List.mem_cons_of_mem _ hh)) q ok rx
  | ⟨c, some i, m, f⟩ :: r, hm, w, s, cl, dd, σ, H, q, ok, rx => by
    obtain ⟨C, hC, rfl, _⟩ := id rx
    have q : PostS G W κ w (match m x.cls with | some true => if i < s.sl.length then unD i (noX (f x ⟨s.sl.set i .un, s.st⟩)) else .stuck | some false => catchD r x s | none => .stuck) D0 := q
    cases e : m x.cls with
    | none => rw [e] at q; exact q.elim
    | some b =>
      refine ⟨b, hm _ List.mem_cons_self x.cls b e C hC, fun hb a ha => ?_, fun hb => ?_⟩
      · subst hb
        rw [e] at q
        replace q : PostS G W κ w (if i < s.sl.length then unD i (noX (f x ⟨s.sl.set i .un, s.st⟩)) else .stuck) D0 := q
        have hj : i < s.sl.length := by
          by_cases h : i < s.sl.length
          · exact h
          · rw [if_neg h] at q; exact q.elim
        rw [if_pos hj] at q
        refine ⟨x, κ, w, ⟨s.sl.set i .un, s.st⟩, ok.setUn i _, ⟨fun j z => ?_, rx⟩, ?_⟩
        · have z : some i = some j := z
          cases z
          rw [List.getElem?_set_self (by rw [← ok.len]; exact hj)]
        show PostS G WF κ w (f x ⟨s.sl.set i .un, s.st⟩) (unset D0 i)
        cases z : f x ⟨s.sl.set i .un, s.st⟩ with
        | ok o s' =>
          rw [z] at q
          cases o with
          | nx => exact fun w' σ' H' le ok' => q w' _ H' le (ok'.setUn i none)
          | bk => exact fun w' σ' H' le ok' => q w' _ H' le (ok'.setUn i none)
          | ct => exact fun w' σ' H' le ok' => q w' _ H' le (ok'.setUn i none)
          | rt d => exact fun w' σ' v H' le ok' r' => q w' _ v H' le (ok'.setUn i none) r'
        | exc y s' => rw [z] at q; exact q.elim
        | stuck => rw [z] at q; exact q.elim
      · subst hb
        rw [e] at q
        exact catch_of (fun h hh => hm h (List.mem_cons_of_mem _ hh)) q ok rx
theorem pds_try {bd : List Stmt} {g0 : ExceptHandler} {gs : List ExceptHandler} {hs : List HdR} {tpos : Pos} {fb : DStm} (est : X.stack = X.env :: X.outer) (efr : X.env.frame = some X.env.locals) (nd : X.N.Nodup) (tk : Takes X W)
    (hbd : ∀ (Wi : WX) (pn : List (Addr × Obj)) (xe : Value → Shared → Prop), Takes (X.tr pn xe) Wi → PassesOwn (model X.prog X.w) X.A X.env xe → PDSs G Wi (X.tr pn xe) bd fb) (hm : ∀ h ∈ hs, MOk G X.K h)
    (hh : HdA X (g0 :: gs) (hs.map fun h => (h.c, h.oi, tSu G h))) : PDS G W X (.Try bd (g0 :: gs) [] [] tpos) (sTry fb hs) :=
  (ps_tryA (tb := fun Wi => tDS G Wi fb) est efr nd tk hbd hh).imp fun N σ H ⟨κ, w, s, ok, q⟩ => ⟨κ, w, s, ok, by
    have q : PostS G W κ w (match fb s with | .exc x s1 => catchD hs x s1 | r => r) N := q
    cases e : fb s with
    | stuck => rw [e] at q; exact q.elim
    | ok o s' => rw [e] at q; cases o <;> exact q
    | exc x s' =>
      rw [e] at q
      replace q : PostS G W κ w (catchD hs x s') N := q
      intro w' σ' c dd H' le ok' rx
      have q' : PostS G W κ w' (catchD hs x s') N := PostS.mono le q
      exact catch_of hm q' ok' rx⟩
end
/-! ### the suite's words -/
section
variable {G : Gam} {X : Cx} {oi : Option Nat} {a : Addr} {cl : Value} {dd : Option Addr} {x : Xc}
theorem Fx.mono {w w' : Wd} {σ : L2.St} (h : Fx G oi a cl dd x w σ) (le : w.le w') : Fx G oi a cl dd x w' σ := ⟨h.1, h.2.mono le⟩
def tXD (G : Gam) (oi : Option Nat) (a : Addr) (cl : Value) (dd : Option Addr) (x : Xc) (f : DE) : TE := fun σ H Q => ∃ κ w s, Ok G κ w s σ H ∧ Fx G oi a cl dd x w σ ∧ PostG G WF (Rep G) κ w σ (f s) Q
def tXA (G : Gam) (oi : Option Nat) (a : Addr) (cl : Value) (dd : Option Addr) (x : Xc) (f : DA) : TA := fun σ H Q => ∃ κ w s, Ok G κ w s σ H ∧ Fx G oi a cl dd x w σ ∧ PostG G WF (Reps G) κ w σ (f s) Q
theorem pxd_lift {e : Expr} {f : DE} (h : PD G WF X e f) : PE X e (tXD G oi a cl dd x f) := h.imp fun σ H Q ⟨κ, w, s, ok, _, q⟩ => ⟨κ, w, s, ok, q⟩
theorem pxa_nil : PA X [] (tXA G oi a cl dd x aNil) := pa_nil.imp fun σ H Q ⟨κ, w, s, ok, _, q⟩ => q w [] H (.refl _) ok .nil
theorem pxa_cons {e : Expr} {es : List Expr} {f : DE} {g : DA} (h : PE X e (tXD G oi a cl dd x f)) (k : PA X es (tXA G oi a cl dd x g)) (hs : starEach (e :: es) X.env = (false, eval e X.env) :: starEach es X.env := by rfl) : PA X (e :: es) (tXA G oi a cl dd x (aCons f g)) :=
  (pa_cons h k hs).imp fun σ H Q ⟨κ, w, s, ok, fx, q⟩ => ⟨κ, w, s, ok, fx, (PostG.bind q).imp fun v H1 ⟨d, s1, w1, le, ok1, r1, q1⟩ =>
    ⟨κ, w1, s1, ok1, fx.mono le, (PostG.bind q1).imp fun v2 H2 ⟨d2, s2, w2, le2, ok2, r2, q2⟩ => q2 w2 _ H2 (.refl _) ok2 (.cons (r1.mono le2) r2)⟩⟩
theorem pxd_tup {es : List Expr} {k : Nat} {g : DA} {pos : Pos} (h : PA X es (tXA G oi a cl dd x g)) : PE X (.Tuple es k pos) (tXD G oi a cl dd x (eTup g)) :=
  (pe_tup h).imp fun σ H Q ⟨κ, w, s, ok, fx, q⟩ => ⟨κ, w, s, ok, fx, (PostG.bind q).imp fun v H1 ⟨d, s1, w1, le, ok1, r1, q1⟩ => by
    by_cases c : d.length ≤ 1000
    · rw [if_pos c] at q1
      refine ⟨r1.length ▸ sz1000 c, fun p hp => ?_⟩
      obtain ⟨le2, ok2⟩ := ok1.alloc hp (.tup v)
      exact q1 _ _ _ le2 ok2 (.tup (.inl (.inl upd_same)) (r1.mono le2))
    · rw [if_neg c] at q1
      exact q1.elim⟩
theorem RepF.look' {w : Wd} : ∀ {vs : List (Str × V)} {fs : List (Nm × D)} {f : Nm} {d : D}, RepF G w vs fs → fs.lookup f = some d → ∃ v, vs.lookup (nm f) = some v ∧ Rep G w v d
  | _, _, _, _, .nil, e => nomatch e
  | _, _, f, d, .cons (f := g) (v := v) (d := d') r rs, e => by
    by_cases h : f = g
    · subst h
      simp [List.lookup] at e ⊢
      subst e
      exact r
    · have h1 : (f == g) = false := by simpa using h
      have h2 : (nm f == nm g) = false := by
        have : nm f ≠ nm g := fun z => h (nm_inj z)
        simpa using this
      simp only [List.lookup, h1] at e
      obtain ⟨v', q1, q2⟩ := RepF.look' rs e
      exact ⟨v', by simp only [List.lookup, h2]; exact q1, q2⟩
/-- e.f of the caught one, known to be of the class c -/
def eXf (c : String) (f : Nm) (x : Xc) : DE := fun s => if x.cls = c then match x.fs.lookup f with | some d => .ok d s | none => .stuck else .stuck
theorem pxd_fld {i : Nat} {C : Addr} {ob : Obj} {pn : List (Addr × Obj)} {c : String} {f : Nm} {fn e : Str} {p pos : Pos} (hK : G.K = X.K) (hC : G.ct c = some C) (T : XfC X.K C) (hno : PySem.W.findIn X.K (.ref C) fn = some none) (hf : fn = nm f) (hz : Zc cl dd ob) (hfs : ∃ vs, ob.data = .fields vs)
    (he : PE (X.suite a ((a, ob) :: pn)) (.Name e p) (tVar i)) : PE (X.suite a ((a, ob) :: pn)) (.Attribute (.Name e p) fn pos) (tXD G (some i) a cl dd x (eXf c f x)) :=
  (pe_xf T hno hz hfs he).imp fun σ H Q ⟨κ, w, s, ok, fx, q⟩ => by
    have q : PostG G WF (Rep G) κ w σ (if x.cls = c then match x.fs.lookup f with | some d => .ok d s | none => .stuck else .stuck) Q := q
    by_cases h : x.cls = c
    · rw [if_pos h] at q
      cases e : x.fs.lookup f with
      | none => rw [e] at q; exact q.elim
      | some d =>
        rw [e] at q
        obtain ⟨h1, C', h2, h3, h4⟩ := fx
        rw [h, hC] at h2
        cases h2
        rcases h4 with ⟨h4, _⟩ | ⟨da, vs, h5, h6, h7⟩
        · rw [h4] at e; cases e
        · obtain ⟨v, l1, l2⟩ := h7.look' e
          exact ⟨.ref a, h1 i rfl, rfl, h3, da, vs, v, h5, ok.fok.sub _ _ h6, hf ▸ l1, q w v H (.refl _) ok l2⟩
    · rw [if_neg h] at q
      exact q.elim
theorem pxs_ret {e : Expr} {f : DE} {pos : Pos} (h : PE X e (tXD G oi a cl dd x f)) : PS X (.Return (some e) pos) (tXS G oi a cl dd x (sRet f)) :=
  (ps_ret h).imp fun N σ H ⟨κ, w, s, ok, fx, q⟩ => ⟨κ, w, s, ok, fx, (PostG.bindS q).imp fun v H1 ⟨d, s1, w1, le, ok1, r1, q1⟩ => q1 w1 σ v H1 (.refl _) ok1 r1⟩
theorem pxs_set {i : Nat} {n : Str} {e : Expr} {f : DE} {pos pos' : Pos} (hN : X.N.Nodup) (hi : X.N[i]? = some n) (hx : Loc X.env.scope n) (he : PE X e (tXD G oi a cl dd x f)) (hs : swapsWith e (some (.Name n pos')) pos.line X.env = pure false := by rfl)
    (hf : X.fn n = true ∨ X.env.scope.names.lookup n = some .local := by first | exact .inl rfl | exact .inr rfl | assumption) : PS X (.Assign [.Name n pos'] e pos) (tXS G oi a cl dd x (sSet i f)) :=
  (ps_set hN hi hx he hs hf).imp fun N σ H ⟨κ, w, s, ok, fx, q⟩ => ⟨κ, w, s, ok, fx, (PostG.bindS q).imp fun v H1 ⟨d, s1, w1, le, ok1, r1, q1⟩ => q1 w1 _ H1 (.refl _) (ok1.setVal r1 i)⟩
theorem pxs_lift {st : Stmt} {f : DStm} (h : PDS G WF X st f) : PS X st (tXS G oi a cl dd x f) := h.imp fun N σ H ⟨κ, w, s, ok, _, q⟩ => ⟨κ, w, s, ok, q⟩
/-- a suite of one statement -/
theorem su_one {st : Stmt} {h : HdR} (k : ∀ (a : Addr) (ob : Obj) (cl : Value) (dd : Option Addr) (pn : List (Addr × Obj)) (x : Xc), Zc cl dd ob → (∃ vs, ob.data = .fields vs) → PS (X.suite a ((a, ob) :: pn)) st (tXS G h.oi a cl dd x (h.f x))) : SuOk X [st] (tSu G h) :=
  fun a ob cl dd pn hz hf => pss_one ⟨fun pins s σ H D I ⟨x, z⟩ => (k a ob cl dd pn x hz hf).run pins s σ H D I z⟩
end
end DL
set_option maxRecDepth 100000
set_option maxHeartbeats 4000000
set_option autoImplicit false
namespace DL
open PySem PySem.Spec PyProof.Rows L2
/-! ### lambdas without parameters -/
/-- the function object of a lambda -/
def FnO (f : Addr) (q : Str) (pr : Arguments) (bd : Expr) (sc : Scope) (clo : List (Str × Addr)) (pm : Value) (c : Addr) (ctv : Value) : HO := .ext fun h => h.get? f = some (PySem.W.kla_obj "<lambda>" q pr bd sc clo pm c ctv)
/-- a maker of lambdas: its table, the name of its lambdas' codes, its cells, the sites -/
structure LamT where
  P : Addr
  q : Str
  cells : List (Str × Addr)
  site : String → Option (Arguments × Expr × Scope)
def LamT.lam (T : LamT) : String → Addr → Wd → Prop := fun k f w => ∃ pr bd sc pm c ctv, T.site k = some (pr, bd, sc) ∧ w.F f = some (FnO f T.q pr bd sc (cloFrom T.cells sc.names []) pm c ctv) ∧ w.F c = some (LamX.CodeO c T.q)
def LamT.tab (T : LamT) : Addr → Hp → HO → Prop := fun a F o => a = T.P ∧ ∃ ps : Array Value, o = .tbl ps ∧ TriplesOk ps.toList ∧ ∀ (pos : Pos) (cv : Value), codeAmong pos ps.toList = some cv → ∃ c, cv = .ref c ∧ F c = some (LamX.CodeO c T.q)
theorem LamT.lamM (T : LamT) (k : String) (f : Addr) (w w' : Wd) (e : w.le w') : T.lam k f w → T.lam k f w' := fun ⟨pr, bd, sc, pm, c, ctv, h1, h2, h3⟩ => ⟨pr, bd, sc, pm, c, ctv, h1, e.f _ _ h2, e.f _ _ h3⟩
theorem LamT.tabM (T : LamT) (a : Addr) (F F' : Hp) (o : HO) (e : ∀ a o, F a = some o → F' a = some o) : T.tab a F o → T.tab a F' o := fun ⟨h0, ps, h1, h2, h3⟩ => ⟨h0, ps, h1, h2, fun pos cv hc => by
  obtain ⟨c, z1, z2⟩ := h3 pos cv hc
  exact ⟨c, z1, e _ _ z2⟩⟩
/-- the lambda is made -/
def eLam (n : Nat) (tk k : String) : DE := fun s => match s.st[n]? with
  | some (.tab t) => if t = tk then .ok (.lam k) s else .stuck
  | _ => .stuck
section
variable {G : Gam} {W : WX} {X : Cx}
/-- what G says of the maker's lambdas -/
structure GLam (G : Gam) (tk : String) (T : LamT) : Prop where
  tab : ∀ a F o, G.tab tk a F o ↔ T.tab a F o
  lam : ∀ k f w, (T.site k).isSome = true → (G.lam k f w ↔ T.lam k f w)
theorem fnO_ok {P : Program} {w0 : World} {H : Hp} {h : Heap} {f c : Addr} {q : Str} {pr : Arguments} {bd : Expr} {sc : Scope} {clo : List (Str × Addr)} {pm ctv : Value} (e : h.get? f = some (PySem.W.kla_obj "<lambda>" q pr bd sc clo pm c ctv)) : ObjOk P w0 H h f (FnO f q pr bd sc clo pm c ctv) :=
  ⟨e, ⟨_, e⟩, fun h1 h2 z k => k _ z⟩
theorem pd_lam {n : Nat} {tk k : String} {c : Addr} {T : LamT} {pr : Arguments} {bd : Expr} {sc : Scope} {pos : Pos} (GL : GLam G tk T) (TB : LamX.TabB X.base X.mg c T.P) (hcode : X.env.code = .ref c) (hq : T.q = X.env.qual ++ "<lambda>") (hcl : T.cells = X.env.cells) (hs : T.site k = some (pr, bd, sc))
    (L : LamX.LamS X.env.scope sc) (hdef : defaultsOf pr X.env = ([], [])) : PD G W X (.Lambda pr bd sc pos) (eLam n tk k) := by
  refine ⟨fun pins sh σ H Q I ⟨κ, w, s, ok, q⟩ => ?_⟩
  unfold eLam at q
  cases e : s.st[n]? with
  | none => rw [e] at q; exact q.elim
  | some cel =>
    rw [e] at q
    cases cel with
    | tab t' =>
      replace q : PostG G W (Rep G) κ w σ (if t' = tk then .ok (.lam k) s else .stuck) Q := q
      by_cases ht : t' = tk
      · subst ht
        rw [if_pos rfl] at q
        have hn : n < w.ρ.length := by
          rw [ok.fok.len]
          exact (List.getElem?_eq_some_iff.mp e).1
        have hρ : w.ρ[n]? = some (w.ρ[n]) := List.getElem?_eq_getElem hn
        obtain ⟨o, hP, ht⟩ := ok.fok.cel n _ _ hρ e
        obtain ⟨eP, ps, rfl, tr, among⟩ := (GL.tab _ _ _).mp ht
        rw [eP] at hP hρ
        have hfree := L.has I.ok
        refine PySem.W.kla_eval hdef ?_
        have bP : sh.heap.BuiltinsAt X.mg T.P := TB.bm.keeps I.bk
        have hP' : sh.heap.get? T.P = some { cls := .none, data := .fields ps } := I.hok T.P _ hP
        cases hc : codeAmong pos ps.toList with
        | none =>
          refine PySem.W.kla_makeFunction (mg := X.mg) (c := c) (P := T.P) (ps := ps) (closure_ok hfree) I.ok.glob (I.mod.glob.keeps I.bk) hcode (TB.code.keeps I.bk) hP' tr hc TB.gP bP fun c' ctv h' tk' hx hge hlt hrec htb => ?_
          obtain ⟨c2, oc, vs, t, e2, hoc, hd, hv⟩ := hrec
          cases e2
          have nC : H c' = none := I.hok.fresh hge
          have hsz : sh.heap.objs.size ≤ h'.objs.size := Nat.le_trans hge (Nat.le_of_lt hlt)
          have I1 := LamX.inv_table (t' := tk') (q := X.env.qual ++ "<lambda>") (more := #[rawInt pos.line, rawInt pos.col, .ref c']) (h' := h') I hP (fun b o hb z => hx b o hb z) htb hge ⟨oc, vs, t, hoc, hd, hv⟩
          have I2 := I1.laid (t' := tk') (a := h'.objs.size) (o := FnO h'.objs.size (X.env.qual ++ "<lambda>") pr bd sc (cloFrom X.env.cells sc.names []) ((X.mg "__name__").getD .none) c' ctv)
            (h' := h'.push (PySem.W.kla_obj "<lambda>" (X.env.qual ++ "<lambda>") pr bd sc (cloFrom X.env.cells sc.names []) ((X.mg "__name__").getD .none) c' ctv)) (fun b u z => Heap.get?_push_of_some _ z) (Nat.le_refl _) (fnO_ok (Heap.get?_push_size _ rfl))
          have okC := ok.alloc nC (LamX.CodeO c' (X.env.qual ++ "<lambda>"))
          obtain ⟨le1, ok1⟩ := okC
          have nPc : T.P ≠ c' := ne_of_none hP nC
          have eL : (ps ++ #[rawInt pos.line, rawInt pos.col, .ref c']).toList = ps.toList ++ [rawInt pos.line, rawInt pos.col, .ref c'] := by simp
          have cell1 : CellOk G ⟨upd w.F c' (LamX.CodeO c' (X.env.qual ++ "<lambda>")), w.ρ⟩ (upd (upd H c' (LamX.CodeO c' (X.env.qual ++ "<lambda>"))) T.P (.tbl (ps ++ #[rawInt pos.line, rawInt pos.col, .ref c']))) T.P (.tab t') := by
            refine ⟨_, upd_same, (GL.tab _ _ _).mpr ⟨rfl, _, rfl, by rw [eL]; exact PySem.TriplesOk_snoc _ _ _ _ tr, fun p' cv hcv => ?_⟩⟩
            rw [eL] at hcv
            rcases LamX.among_app _ tr hcv with z | z
            · obtain ⟨c0, e1, e2⟩ := among p' cv z
              exact ⟨c0, e1, le1.f _ _ e2⟩
            · exact ⟨c', z, by rw [hq]; exact upd_same⟩
          have ok2 := ok1.cell (n := n) (a := T.P) hρ cell1
          have eS : s.st.set n (.tab t') = s.st := by
            apply List.ext_getElem?
            intro i
            by_cases hi : n = i
            · subst hi
              rw [List.getElem?_set_self (List.getElem?_eq_some_iff.mp e).1, e]
            · rw [List.getElem?_set_ne hi]
          rw [eS] at ok2
          have swap : upd (upd H c' (LamX.CodeO c' (X.env.qual ++ "<lambda>"))) T.P (.tbl (ps ++ #[rawInt pos.line, rawInt pos.col, .ref c'])) = upd (upd H T.P (.tbl (ps ++ #[rawInt pos.line, rawInt pos.col, .ref c']))) c' (LamX.CodeO c' (X.env.qual ++ "<lambda>")) := by
            funext b
            by_cases h1 : b = T.P
            · rw [h1, upd_same, upd_ne nPc, upd_same]
            · rw [upd_ne h1]
              by_cases h2 : b = c'
              · rw [h2, upd_same, upd_same]
              · rw [upd_ne h2, upd_ne h2, upd_ne h1]
          rw [swap] at ok2
          obtain ⟨le3, ok3⟩ := ok2.alloc (I1.hok.fresh (Nat.le_refl _)) (FnO h'.objs.size (X.env.qual ++ "<lambda>") pr bd sc (cloFrom X.env.cells sc.names []) ((X.mg "__name__").getD .none) c' ctv)
          refine ⟨.ref h'.objs.size, _, I2, rfl, q _ _ _ (le1.trans le3) ok3 (.lam ((GL.lam _ _ _ (by rw [hs]; rfl)).mpr ⟨pr, bd, sc, (X.mg "__name__").getD .none, c', ctv, hs, ?_, ?_⟩))⟩
          · rw [hq, hcl]; exact upd_same
          · rw [hq]
            exact le3.f _ _ upd_same
        | some cv =>
          obtain ⟨c', ecv, hco⟩ := among pos cv hc
          subst ecv
          refine PySem.W.kla_makeFunctionHit (mg := X.mg) (c := c) (P := T.P) (ps := ps) (closure_ok hfree) I.ok.glob (I.mod.glob.keeps I.bk) hcode (TB.code.keeps I.bk) hP' tr hc bP fun ctv h' tk' hx hsz => ?_
          have I2 := I.laid (t' := tk') (a := h'.objs.size) (o := FnO h'.objs.size (X.env.qual ++ "<lambda>") pr bd sc (cloFrom X.env.cells sc.names []) ((X.mg "__name__").getD .none) c' ctv)
            (h' := h'.push (PySem.W.kla_obj "<lambda>" (X.env.qual ++ "<lambda>") pr bd sc (cloFrom X.env.cells sc.names []) ((X.mg "__name__").getD .none) c' ctv)) (fun b u z => Heap.get?_push_of_some _ (hx b u z)) hsz (fnO_ok (Heap.get?_push_size _ rfl))
          obtain ⟨le3, ok3⟩ := ok.alloc (I.hok.fresh hsz) (FnO h'.objs.size (X.env.qual ++ "<lambda>") pr bd sc (cloFrom X.env.cells sc.names []) ((X.mg "__name__").getD .none) c' ctv)
          refine ⟨.ref h'.objs.size, _, I2, rfl, q _ _ _ le3 ok3 (.lam ((GL.lam _ _ _ (by rw [hs]; rfl)).mpr ⟨pr, bd, sc, (X.mg "__name__").getD .none, c', ctv, hs, ?_, ?_⟩))⟩
          · rw [hq, hcl]; exact upd_same
          · exact le3.f _ _ hco
      · rw [if_neg ht] at q
        exact q.elim
    | _ => exact q.elim
end
end DL
set_option maxRecDepth 100000
set_option maxHeartbeats 4000000
set_option autoImplicit false
namespace DL
open PySem PySem.Spec PyProof.Rows L2
/-! ### data without lambdas -/
mutual
def noLam : D → Bool
  | .tup xs => noLams xs
  | .lst xs => noLams xs
  | .scr xs => noLams xs
  | .dic kvs => noLamK kvs
  | .ins _ fs => noLamF fs
  | .lam _ => false
  | _ => true
def noLams : List D → Bool
  | [] => true
  | x :: r => noLam x && noLams r
def noLamK : List (DK × D) → Bool
  | [] => true
  | x :: r => noLam x.2 && noLamK r
def noLamF : List (Nm × D) → Bool
  | [] => true
  | x :: r => noLam x.2 && noLamF r
end
def noLamC : Cell → Bool
  | .dic kvs => noLamK kvs
  | .lst xs => noLams xs
  | .obj _ fs => noLamF fs
  | .tab _ => true
def noLamS : List Cell → Bool
  | [] => true
  | c :: r => noLamC c && noLamS r
/-- other words for lambdas -/
def Gam.sw (G : Gam) (lam : String → Addr → Wd → Prop) (lamM : ∀ (k : String) (f : Addr) (w w' : Wd), w.le w' → lam k f w → lam k f w') : Gam := { G with lam := lam, lamM := lamM }
section
variable {G : Gam} {lam : String → Addr → Wd → Prop} {lamM : ∀ (k : String) (f : Addr) (w w' : Wd), w.le w' → lam k f w → lam k f w'} {w : Wd}
mutual
theorem Rep.sw : ∀ {v : V} {d : D}, (noLam d = true ∨ ∀ k f, G.lam k f w → lam k f w) → Rep G w v d → Rep (G.sw lam lamM) w v d
  | _, _, _, .non => .non
  | _, _, _, .bl b => .bl b
  | _, _, _, .int i => .int i
  | _, _, _, .str l => .str l
  | _, _, h, .tup a b => .tup a (Reps.sw h b)
  | _, _, h, .lst a b => .lst a (Reps.sw h b)
  | _, _, h, .scr a b => .scr a (Reps.sw h b)
  | _, _, h, .dic a b => .dic a (RepK.sw h b)
  | _, _, h, .ins c a b => .ins c a (RepF.sw h b)
  | _, _, _, .cell a => .cell a
  | _, _, _, .cls a => .cls a
  | _, _, _, .ty n => .ty n
  | _, _, _, .fn a => .fn a
  | _, _, h, .lam a => .lam (h.elim (fun z => nomatch z) fun z => z _ _ a)
theorem Reps.sw : ∀ {v : List V} {d : List D}, (noLams d = true ∨ ∀ k f, G.lam k f w → lam k f w) → Reps G w v d → Reps (G.sw lam lamM) w v d
  | _, _, _, .nil => .nil
  | _, _, h, .cons a b => .cons (Rep.sw (h.imp (fun z => ((Bool.and_eq_true _ _).mp z).1) id) a) (Reps.sw (h.imp (fun z => ((Bool.and_eq_true _ _).mp z).2) id) b)
theorem RepF.sw : ∀ {v : List (Str × V)} {d : List (Nm × D)}, (noLamF d = true ∨ ∀ k f, G.lam k f w → lam k f w) → RepF G w v d → RepF (G.sw lam lamM) w v d
  | _, _, _, .nil => .nil
  | _, _, h, .cons a b => .cons (Rep.sw (h.imp (fun z => ((Bool.and_eq_true _ _).mp z).1) id) a) (RepF.sw (h.imp (fun z => ((Bool.and_eq_true _ _).mp z).2) id) b)
theorem RepK.sw : ∀ {v : List (Key × V)} {d : List (DK × D)}, (noLamK d = true ∨ ∀ k f, G.lam k f w → lam k f w) → RepK G w v d → RepK (G.sw lam lamM) w v d
  | _, _, _, .nil => .nil
  | _, _, h, .cons a b => .cons (Rep.sw (h.imp (fun z => ((Bool.and_eq_true _ _).mp z).1) id) a) (RepK.sw (h.imp (fun z => ((Bool.and_eq_true _ _).mp z).2) id) b)
end
theorem CellOk.sw {H : Hp} {a : Addr} {c : Cell} (h : noLamC c = true ∨ ∀ k f, G.lam k f w → lam k f w) (k : CellOk G w H a c) : CellOk (G.sw lam lamM) w H a c := by
  cases c with
  | dic kvs => obtain ⟨vs, e, r⟩ := k; exact ⟨vs, e, r.sw h⟩
  | lst xs => obtain ⟨vs, e, r⟩ := k; exact ⟨vs, e, r.sw h⟩
  | obj c fs => obtain ⟨C, dx, vs, q, e, r⟩ := k; exact ⟨C, dx, vs, q, e, r.sw h⟩
  | tab t => exact k
theorem noLamS_get : ∀ {S : List Cell} {n : Nat} {c : Cell}, noLamS S = true → S[n]? = some c → noLamC c = true
  | [], _, _, _, e => by simp at e
  | x :: r, 0, c, h, e => by
    simp at e; subst e
    exact ((Bool.and_eq_true _ _).mp h).1
  | x :: r, n + 1, c, h, e => noLamS_get (S := r) (n := n) ((Bool.and_eq_true _ _).mp h).2 (by simpa using e)
theorem FOk.sw {S : List Cell} {H : Hp} (h : noLamS S = true ∨ ∀ k f, G.lam k f w → lam k f w) (k : FOk G w S H) : FOk (G.sw lam lamM) w S H :=
  ⟨k.sub, k.len, fun n a c e1 e2 => (k.cel n a c e1 e2).sw (h.imp (fun z => noLamS_get z e2) id), k.nd, k.nf⟩
theorem RepX.sw {c : Value} {dd : Option Addr} {x : Xc} (h : noLamF x.fs = true ∨ ∀ k f, G.lam k f w → lam k f w) (k : RepX G w c dd x) : RepX (G.sw lam lamM) w c dd x := by
  obtain ⟨C, h1, h2, h3⟩ := k
  refine ⟨C, h1, h2, h3.imp id fun ⟨a, vs, q1, q2, q3⟩ => ⟨a, vs, q1, q2, q3.sw h⟩⟩
theorem Rep.bk {v : V} {d : D} (h : noLam d = true ∨ ∀ k f, lam k f w → G.lam k f w) (k : Rep (G.sw lam lamM) w v d) : Rep G w v d := Rep.sw (G := G.sw lam lamM) (lam := G.lam) (lamM := G.lamM) h k
theorem FOk.bk {S : List Cell} {H : Hp} (h : noLamS S = true ∨ ∀ k f, lam k f w → G.lam k f w) (k : FOk (G.sw lam lamM) w S H) : FOk G w S H := FOk.sw (G := G.sw lam lamM) (lam := G.lam) (lamM := G.lamM) h k
theorem RepX.bk {c : Value} {dd : Option Addr} {x : Xc} (h : noLamF x.fs = true ∨ ∀ k f, lam k f w → G.lam k f w) (k : RepX (G.sw lam lamM) w c dd x) : RepX G w c dd x := RepX.sw (G := G.sw lam lamM) (lam := G.lam) (lamM := G.lamM) h k
end
/-! ### a def that makes lambdas -/
def fnDL (n : Nat) (body : DStm) (m : Nat) : DFn := fun ds S => if noLams ds = true ∧ noLamS S = true then match fnD n body m ds S with
  | .ok d S' => if noLam d = true ∧ noLamS S' = true then .ok d S' else .stuck
  | .exc x S' => if noLamF x.fs = true ∧ noLamS S' = true then .exc x S' else .stuck
  | .stuck => .stuck
  else .stuck
/-- the frame's own words for its lambdas -/
theorem fn_okDL {G : Gam} {P : Program} {w0 : World} {mg : Str → Option Value} {base : Heap} {x qual : Str} {st : Stmt} {f : Addr} {fd : FuncData} {N ps : List Str} {k n m : Nat} {body : DStm} (F : Fun G.K x qual st f fd) (S : FnScope N ps (defScope st)) (hn : ps.length = n) (hm : N.length - n = m)
    (T : Nat → LamT)
    (hbody : ∀ (cdv : Value), fd.code = cdv → ∀ (A : Around) (outer : List Env) (s : Shared) (H : Hp) (E : XK), Room k (A.deeper (envOfC qual (defScope st) s.heap.objs.size f cdv)) →
      Takes (cxOf (L2.CX P w0) P w0 G.K mg base N qual (defScope st) f cdv A outer s H E) (fun c d _ H => E c d H) → PassesOwn (model P w0) (A.deeper (envOfC qual (defScope st) s.heap.objs.size f cdv)) (envOfC qual (defScope st) s.heap.objs.size f cdv) (cxOf (L2.CX P w0) P w0 G.K mg base N qual (defScope st) f cdv A outer s H E).xe →
      PDSs (G.sw (T s.heap.objs.size).lam (T s.heap.objs.size).lamM) (fun c d _ H => E c d H) (cxOf (L2.CX P w0) P w0 G.K mg base N qual (defScope st) f cdv A outer s H E) (defBody st) body) : FnOk P w0 G.K mg base (L2.CX P w0) (k + 1) f fd ps (spG G n (fnDL n body m)) := by
  obtain ⟨oc, od, kV, doc, pm, an, cdv, ct, osl, rfl, lk, hcd⟩ := F.ex
  refine fn_of lk hcd S (fun vs H Q E h => by rw [h.1, hn]) fun A outer s H vs Q E hr h => ?_
  refine ⟨_, hbody cdv rfl A outer s H E hr (takes_of rfl rfl rfl rfl) (passes_of rfl), ?_⟩
  obtain ⟨hl, w, S', ds, fok, rs, q⟩ := h
  have hd : ds.length = n := by rw [← rs.length]; exact hl
  unfold fnDL at q
  by_cases hno : noLams ds = true ∧ noLamS S' = true
  case neg => rw [if_neg hno] at q; exact q.elim
  rw [if_pos hno] at q
  rw [start_eq (m := m) (by rw [hl]; exact hm)]
  have fok' := fok.sw (lam := (T s.heap.objs.size).lam) (lamM := (T s.heap.objs.size).lamM) (.inl hno.2)
  have rs' := rs.sw (lam := (T s.heap.objs.size).lam) (lamM := (T s.heap.objs.size).lamM) (.inl hno.1)
  refine ⟨⟨w, H, [], none⟩, w, _, Ok.start fok' rs' m, ?_⟩
  unfold fnD at q
  rw [if_pos hd] at q
  cases e : body ⟨ds.map Sl.val ++ List.replicate m .un, S'⟩ with
  | stuck => rw [e] at q; exact q.elim
  | exc x s' =>
    rw [e] at q
    replace q : PostF G (Rep G) w H (if noLamF x.fs = true ∧ noLamS s'.st = true then .exc x s'.st else .stuck) Q E := q
    by_cases hx : noLamF x.fs = true ∧ noLamS s'.st = true
    case neg => rw [if_neg hx] at q; exact q.elim
    rw [if_pos hx] at q
    exact fun w' σ' c dd H' le ok' rx => q w' c dd H' ok'.nx (ok'.fok.bk (.inl hx.2)) (rx.bk (.inl hx.1))
  | ok o s' =>
    rw [e] at q
    have key : ∀ d, PostF G (Rep G) w H (if noLam d = true ∧ noLamS s'.st = true then .ok d s'.st else .stuck) Q E → ∀ (w' : Wd) (v : L2.St × V) (H' : Hp), Ok (G.sw (T s.heap.objs.size).lam (T s.heap.objs.size).lamM) ⟨w, H, [], none⟩ w' s' v.1 H' → Rep (G.sw (T s.heap.objs.size).lam (T s.heap.objs.size).lamM) w' v.2 d → Q v.2 H' := fun d q w' v H' ok' r' => by
      by_cases hx : noLam d = true ∧ noLamS s'.st = true
      case neg => rw [if_neg hx] at q; exact q.elim
      rw [if_pos hx] at q
      exact q w' v.2 H' ok'.nx (ok'.fok.bk (.inl hx.2)) (r'.bk (.inl hx.1))
    cases o with
    | nx => exact fun w' σ' H' le ok' => key .non q w' (σ', .non) H' ok' .non
    | rt d => exact fun w' σ' v H' le ok' r' => key d q w' (σ', v) H' ok' r'
    | bk => exact q.elim
    | ct => exact q.elim
/-! ### a lambda called in the def that it was handed to -/
abbrev LamR := String → List Cell → Res (List Cell) D
def eAct (Λ : LamR) (i : Nat) : DE := fun s => match s.sl[i]? with
  | some (.val (.lam k)) => lift s (Λ k s.st)
  | _ => .stuck
def stripS : Sl → Sl
  | .val d => .val d
  | _ => .un
def lamRun (b : DE) (sl : List Sl) (st : List Cell) : Res (List Cell) D := match b ⟨sl.map stripS, st⟩ with
  | .ok d s' => .ok d s'.st
  | .exc x s' => .exc x s'.st
  | .stuck => .stuck
def lamR (bs : String → Option DE) (sl : List Sl) : LamR := fun k st => match bs k with
  | some b => lamRun b sl st
  | none => .stuck
def eCallL (n : Nat) (g : LamR → DFn) (bs : String → Option DE) (fa : DA) : DE := fun s => (fa s).bind fun ds s1 => if ds.length = n then lift s1 (g (lamR bs s1.sl) ds s1.st) else .stuck
theorem Ok.strip {G : Gam} {κ : Bs} {w w' : Wd} {s : DS} {σ : L2.St} {H H' : Hp} {S' : List Cell} (h : Ok G κ w s σ H) (le : w.le w') (f : FOk G w' S' H') : Ok G ⟨w', H', [], none⟩ w' ⟨s.sl.map stripS, S'⟩ σ H' := by
  have no : ∀ (i : Nat) (x : Sl), (s.sl.map stripS)[i]? = some x → x.own = false := fun i x e => by
    rw [List.getElem?_map] at e
    cases q : s.sl[i]? with
    | none => rw [q] at e; cases e
    | some y => rw [q] at e; cases e; cases y <;> rfl
  refine ⟨f, .refl _ _, by simp [h.len], fun i d e => ?_, fun i x e o => ?_, fun i j x y a e1 e2 o1 o2 _ _ => ?_, fun p hp => by simp at hp, fun a z => nomatch z⟩
  · replace e : (s.sl.map stripS)[i]? = some (.val d) := e
    rw [List.getElem?_map] at e
    cases q : s.sl[i]? with
    | none => rw [q] at e; cases e
    | some y =>
      rw [q] at e
      cases y with
      | val d' =>
        cases e
        obtain ⟨v, h1, h2⟩ := h.val i d q
        exact ⟨v, h1, h2.mono le⟩
      | _ => cases e
  · rw [no i x e] at o; cases o
  · rw [no i x e1] at o1; cases o1
/-- the words while w stands below -/
def Gam.at (G : Gam) (w : Wd) : Gam := G.sw (fun k f w' => G.lam k f w' ∧ w.le w') (fun k f a b le h => ⟨G.lamM k f a b le h.1, h.2.trans le⟩)
/-- the bodies of a maker's lambdas -/
structure LamB (G : Gam) (X : Cx) (k : Nat) (pr : Arguments) (bd : Expr) (sc : Scope) (b : DE) : Prop where
  L : LamX.LamS X.env.scope sc
  bind : ∀ (q : Str) (cl : List (Str × Addr)) (pm cv ctv : Value), bindArgs (PySem.W.kla_fn "<lambda>" q pr bd sc cl pm cv ctv) ⟨[], []⟩ = pure []
  body : ∀ (A : Around) (outer : List Env) (s : Shared) (H : Hp) (E : XK) (f c' : Addr), Room k (A.deeper (LamX.lamEnv X sc s.heap.objs.size f c')) → Takes (LamX.lamCx X A outer s H E sc f c') (fun c d _ H => E c d H) →
    PD G (fun c d _ H => E c d H) (LamX.lamCx X A outer s H E sc f c') bd b
def LamsOk (G : Gam) (X : Cx) (T : LamT) (k : Nat) (bs : String → Option DE) : Prop := ∀ (n : String) (b : DE), bs n = some b → ∃ pr bd sc, T.site n = some (pr, bd, sc) ∧ LamB G X k pr bd sc b
section
variable {G : Gam} {W : WX} {X : Cx}
theorem pd_act {T : LamT} {bs : String → Option DE} {pins : List (Addr × Obj)} {σ : L2.St} {H : Hp} {sh : Shared} {κ : Bs} {w : Wd} {s : DS} {k i : Nat} {Ng : List Str} {qg : Str} {sg : Scope} {g : Addr} {cdg : Value} {Eg : XK} {pn : List (Addr × Obj)} {xe : Value → Shared → Prop} {a : Str} {Wz : WX} {p1 p2 : Pos}
    (I : Inv X pins σ H sh) (ok : Ok G κ w s σ H) (GL : ∀ n f w', G.lam n f w' → T.lam n f w') (hq : T.q = X.env.qual ++ "<lambda>") (hcl : T.cells = X.env.cells) (hbs : LamsOk G X T k bs)
    (tk : Takes ((cxOf (L2.CX X.prog X.w) X.prog X.w X.K X.mg X.base Ng qg sg g cdg X.A X.stack sh H Eg).tr pn xe) Wz) (hr : Room (k + 1) (X.A.deeper (envOfC qg sg sh.heap.objs.size g cdg)))
    (hN : Ng[i]? = some a) (hv : Vis sg a) (hd : (a == ("__debug__" : Str)) = false := by decide) (hcd : (a == ("__classdict__" : Str)) = false := by decide) :
    PD (G.at w) Wz ((cxOf (L2.CX X.prog X.w) X.prog X.w X.K X.mg X.base Ng qg sg g cdg X.A X.stack sh H Eg).tr pn xe) (.Call (.Name a p1) [] [] p2) (eAct (lamR bs s.sl) i) := by
  refine ⟨fun pinsZ sZ σZ HZ Q IZ ⟨κZ, wZ, dZ, okZ, q⟩ => ?_⟩
  have ⟨n, e⟩ : ∃ n, dZ.sl[i]? = some (.val (.lam n)) := by
    unfold eAct at q
    split at q
    · exact ⟨_, by assumption⟩
    · exact q.elim
  simp only [eAct, e] at q
  obtain ⟨v, hs, rep⟩ := okZ.val i _ e
  cases rep with
  | @lam f _ hl =>
  obtain ⟨hl, le⟩ := hl
  have ⟨b, hb⟩ : ∃ b, bs n = some b := by
    unfold lamR at q
    split at q
    · exact ⟨_, by assumption⟩
    · exact q.elim
  simp only [lamR, hb] at q
  obtain ⟨pr, bd, sc, hsite, B⟩ := hbs n b hb
  obtain ⟨pr', bd', sc', pm, c', ctv, hsite', hF, hC⟩ := GL _ _ _ hl
  rw [hsite] at hsite'
  cases hsite'
  have hf0 := okZ.fok.sub _ _ hF
  have hc0 := okZ.fok.sub _ _ hC
  refine wpAny_Call_Name_kw (thn ((pe_var (pos := p1) (i := i) hN hv hd hcd).run pinsZ sZ σZ HZ (fun v H1 => v = .ref f ∧ H1 = HZ) IZ ⟨.ref f, hs, rfl, rfl⟩) fun u s1 ⟨v, H1, I1, r1, q1⟩ => ?_)
  obtain ⟨ev, eH⟩ := q1
  subst ev
  rw [eH] at I1
  obtain rfl : u = Value.ref f := r1
  have of1 : s1.heap.get? f = some (PySem.W.kla_obj "<lambda>" T.q pr bd sc (cloFrom T.cells sc.names []) pm c' ctv) := (I1.hok f _ hf0).1
  obtain ⟨⟨oc, vs, t, hoc, hdc, hvc⟩, _, _⟩ := I1.hok c' _ hc0
  rw [hq, hcl] at of1
  rw [hq] at hvc
  refine PySem.W.callWith_F0 ⟨_, _, _, _, of1⟩ ?_
  have un : Un (frs X.stack) [] H HZ sh.heap s1.heap := I1.base
  have rc : codeAny (model X.prog X.w) (X.A.deeper (envOfC qg sg sh.heap.objs.size g cdg)) (.call (.ref f) ⟨[], []⟩) (CR (L2.CX X.prog X.w) (envOfC qg sg sh.heap.objs.size g cdg :: X.stack) X.prog X.w HZ s1 Q (WE Wz σZ)) s1 := by
    refine PySem.W.kla_callFunE hr.depth of1 rfl B.L.co B.L.gen rfl ⟨c', oc, vs, t, rfl, hoc, hdc, hvc⟩ ?_
    rw [B.bind]
    refine wpAny_pure (wpAny_newFunctionEnv (fun y hy => (B.L.own y hy).2) (fun y hy => absurd hy (by simp)) (fun h₁ hns hsb => ⟨I1.nolimit.fresh _ hsb, ?_⟩) B.L.kind)
    show codeAny _ _ (.expr bd (LamX.lamEnv X sc s1.heap.objs.size f c')) _ _
    have kp : ∀ b o, s1.heap.get? b = some o → h₁.get? b = some o := fun b o e => hsb.extBut b o (Nat.ne_of_lt (Heap.lt_size e)) (Heap.get?_push_of_some _ e)
    have J : Inv (LamX.lamCx X (X.A.deeper (envOfC qg sg sh.heap.objs.size g cdg)) (envOfC qg sg sh.heap.objs.size g cdg :: X.stack) s1 HZ (WE Wz σZ) sc f c') [] σ HZ { s1 with heap := h₁, toks := s1.toks + ([] : List (Str × Value)).length } :=
      LamX.lam_start2 I B.L I1.env0 hr.hd un hns kp
    have okB := ok.strip le (okZ.fok.bk (.inr fun _ _ z => z.1))
    have ht : tD G (fun c d _ H => WE Wz σZ c d H) b σ HZ Q := by
      refine ⟨_, _, _, okB, ?_⟩
      unfold lamRun at q
      cases er : b ⟨s.sl.map stripS, dZ.st⟩ with
      | stuck => rw [er] at q; exact q.elim
      | ok d s' =>
        rw [er] at q
        intro w' v' H' le' ok' r'
        exact q w' v' H' le' (okZ.step ok'.nx (ok'.fok.sw (.inr fun _ _ z => ⟨z, le.trans le'⟩))) (r'.sw (.inr fun _ _ z => ⟨z, le.trans le'⟩))
      | exc x s' =>
        rw [er] at q
        intro w' cl dd H' le' ok' r'
        exact q w' cl dd H' le' (okZ.step ok'.nx (ok'.fok.sw (.inr fun _ _ z => ⟨z, le.trans le'⟩))) (r'.sw (.inr fun _ _ z => ⟨z, le.trans le'⟩))
    refine PySem.W.kla_codeExpr (wpAny_mono ((B.body _ _ s1 HZ _ _ _ (hr.deeper _) (takes_of rfl rfl rfl rfl)).run [] _ _ HZ Q J ht) (fun v s' hq => ?_) fun e s' hq => hq)
    obtain ⟨w', H', J', rv, q⟩ := hq
    exact ⟨w', H', J'.os, J'.bare, J'.base, J'.hok, rv, q⟩
  refine wpAny_call (codeAny_mono rc fun r s' hq => ?_)
  cases r with
  | error e => exact passAt tk σZ pinsZ HZ s1 e s' I1 hq
  | ok fl =>
    cases fl with
    | ret u => exact I1.after hq
    | next => exact False.elim hq
    | brk => exact False.elim hq
    | cont => exact False.elim hq
/-- the body of a def that is handed lambdas -/
def BodyL (G : Gam) (P : Program) (w0 : World) (mg : Str → Option Value) (base : Heap) (k : Nat) (N : List Str) (qual : Str) (st : Stmt) (f : Addr) (a : Str) (i : Nat) (body : LamR → DStm) : Prop :=
  ∀ (Λ : LamR) (cdv : Value) (A : Around) (outer : List Env) (s : Shared) (H : Hp) (E : XK), Room k (A.deeper (envOfC qual (defScope st) s.heap.objs.size f cdv)) →
    Takes (cxOf (L2.CX P w0) P w0 G.K mg base N qual (defScope st) f cdv A outer s H E) (fun c d _ H => E c d H) → PassesOwn (model P w0) (A.deeper (envOfC qual (defScope st) s.heap.objs.size f cdv)) (envOfC qual (defScope st) s.heap.objs.size f cdv) (cxOf (L2.CX P w0) P w0 G.K mg base N qual (defScope st) f cdv A outer s H E).xe →
    (∀ (pn : List (Addr × Obj)) (xe : Value → Shared → Prop) (W : WX) (p1 p2 : Pos), Takes ((cxOf (L2.CX P w0) P w0 G.K mg base N qual (defScope st) f cdv A outer s H E).tr pn xe) W → PD G W ((cxOf (L2.CX P w0) P w0 G.K mg base N qual (defScope st) f cdv A outer s H E).tr pn xe) (.Call (.Name a p1) [] [] p2) (eAct Λ i)) →
    PDSs G (fun c d _ H => E c d H) (cxOf (L2.CX P w0) P w0 G.K mg base N qual (defScope st) f cdv A outer s H E) (defBody st) (body Λ)
theorem pd_callL {T : LamT} {bs : String → Option DE} {k n m i : Nat} {f : Addr} {fd : FuncData} {N ps : List Str} {body : LamR → DStm} {x qual a : Str} {st : Stmt} {p pos : Pos} {e : Expr} {es : List Expr} {fa : DA} (hK : G.K = X.K) (F : Fun X.K x qual st f fd) (S : FnScope N ps (defScope st)) (hn : ps.length = n) (hm : N.length - n = m)
    (GL : ∀ n f w', G.lam n f w' → T.lam n f w') (hq : T.q = X.env.qual ++ "<lambda>") (hcl : T.cells = X.env.cells) (hbs : LamsOk G X T k bs)
    (hbody : ∀ w, BodyL (G.at w) X.prog X.w X.mg X.base (k + 1) N qual st f a i body) (hN : N[i]? = some a) (hv : Vis (defScope st) a)
    (hr : Room (k + 2) X.A) (hg : Gl X x) (hmg : X.mg x = some (.ref f)) (hb : Binds X.K fd ps []) (tk : Takes X W) (ha : PDA G W X (e :: es) fa) (hdb : (x == ("__debug__" : Str)) = false := by decide) (hda : (a == ("__debug__" : Str)) = false := by decide) (hcd : (a == ("__classdict__" : Str)) = false := by decide)
    (he : starEach (e :: es) X.env = (false, eval e X.env) :: starEach es X.env := by rfl) (hpl : (backTo pos (starEach es X.env)).any (·.1) = false := by rfl) : PD G W X (.Call (.Name x p) (e :: es) [] pos) (eCallL n (fun Λ => fnD n (body Λ) m) bs fa) := by
  refine ⟨fun pins s σ H Q I h => ?_⟩
  obtain ⟨κ, w, ds, ok, q⟩ := h
  refine wpAny_Call_Name_kw (ld_glob I hg hmg ?_ hdb)
  have hh : tDA G W fa σ H fun vs H1 => ∃ d s1 w1, w.le w1 ∧ Ok G κ w1 s1 σ H1 ∧ Reps G w1 vs d ∧ PostG G W (Rep G) κ w1 σ (if d.length = n then lift s1 (fnD n (body (lamR bs s1.sl)) m d s1.st) else .stuck) Q := ⟨κ, w, ds, ok, PostG.bind q⟩
  refine PySem.W.callWith_K (h₀ := X.base) I.ok.mod.kin F.kp (thn (ha.run pos pins s σ H _ I hh) fun us s1 ⟨vs, H1, I1, r, d, s2, w1, le, ok1, rs, q1⟩ => ⟨I1.kIn, ?_⟩) he hpl
  by_cases c : d.length = n
  case neg => rw [if_neg c] at q1; exact q1.elim
  rw [if_pos c] at q1
  have q2 := postF_of ok1 q1
  obtain ⟨oc, od, kV, doc, pm, an, cdv, ct, osl, rfl, lk, hcode⟩ := F.ex
  have hl : vs.length = n := by rw [rs.length]; exact c
  have hul : us.length = ps.length := by rw [← r.length, hl, hn]
  have rc : codeAny (model X.prog X.w) X.A (.call (.ref f) ⟨us, []⟩) (CR (L2.CX X.prog X.w) X.stack X.prog X.w H1 s1 Q (WE W σ)) s1 := by
    have hbd := hb s1 us I1.kIn (by simpa using hul)
    rw [List.append_nil] at hbd
    refine LamX.run_ofS (N := N) (ps := ps) (us := us) (vs := vs) lk hcode S hr I1.env0 hbd r (by rw [hl, hn]) fun hr' => ?_
    have hb0 := hbody w1 (lamR bs s2.sl) cdv X.A X.stack s1 H1 (WE W σ) hr' (takes_of rfl rfl rfl rfl) (passes_of rfl) 
    have hK' : (G.at w1).K = X.K := hK
    rw [hK'] at hb0
    refine ⟨_, hb0 fun pn xe W' p1 p2 tk' => pd_act I1 ok1 GL hq hcl hbs tk' hr' hN hv hda hcd, ?_⟩
    rw [start_eq (m := m) (by rw [hl]; exact hm)]
    have fok' : FOk (G.at w1) w1 s2.st H1 := ok1.fok.sw (.inr fun _ _ z => ⟨z, .refl _⟩)
    have rs' : Reps (G.at w1) w1 vs d := rs.sw (.inr fun _ _ z => ⟨z, .refl _⟩)
    refine ⟨⟨w1, H1, [], none⟩, w1, _, Ok.start fok' rs' m, ?_⟩
    unfold fnD at q2
    rw [if_pos c] at q2
    cases e : body (lamR bs s2.sl) ⟨d.map Sl.val ++ List.replicate m .un, s2.st⟩ with
    | stuck => rw [e] at q2; exact q2.elim
    | exc x s' =>
      rw [e] at q2
      exact fun w' σ' c dd H' le ok' rx => q2 w' c dd H' ok'.nx (ok'.fok.bk (.inr fun _ _ z => z.1)) (rx.bk (.inr fun _ _ z => z.1))
    | ok o s' =>
      rw [e] at q2
      cases o with
      | nx => exact fun w' σ' H' le ok' => q2 w' .non H' ok'.nx (ok'.fok.bk (.inr fun _ _ z => z.1)) .non
      | rt d => exact fun w' σ' v H' le ok' r' => q2 w' v H' ok'.nx (ok'.fok.bk (.inr fun _ _ z => z.1)) (r'.bk (.inr fun _ _ z => z.1))
      | bk => exact q2.elim
      | ct => exact q2.elim
  refine wpAny_call (codeAny_mono rc fun r s' hq => ?_)
  cases r with
  | error e => exact passAt tk σ pins H1 s1 e s' I1 hq
  | ok fl =>
    cases fl with
    | ret u => exact I1.after hq
    | next => exact False.elim hq
    | brk => exact False.elim hq
    | cont => exact False.elim hq
end
end DL
set_option maxRecDepth 100000
set_option maxHeartbeats 4000000
set_option autoImplicit false
namespace DL
open PySem PySem.Spec PyProof.Rows L2
/-! ### the law's end, with tables of code objects -/
def tabP (P : Addr) (q : Str) : Addr → Hp → HO → Prop := fun a F o => a = P ∧ ∃ ps : Array Value, o = .tbl ps ∧ TriplesOk ps.toList ∧ ∀ (pos : Pos) (cv : Value), codeAmong pos ps.toList = some cv → ∃ c, cv = .ref c ∧ F c = some (LamX.CodeO c q)
theorem tabP_nil (P : Addr) (q : Str) (F : Hp) : tabP P q P F (.tbl #[]) := ⟨rfl, #[], rfl, True.intro, fun pos cv hc => by
  have hc : codeAmong pos [] = some cv := hc
  simp [codeAmong] at hc⟩
def tabG (ms : List (String × Addr × Str)) : String → Addr → Hp → HO → Prop := fun k a F o => ∃ m, ms.lookup k = some m ∧ tabP m.1 m.2 a F o
theorem tabG_mono (ms : List (String × Addr × Str)) (k : String) (a : Addr) (F F' : Hp) (o : HO) (e : ∀ a o, F a = some o → F' a = some o) : tabG ms k a F o → tabG ms k a F' o := fun ⟨m, hm, h0, ps, h1, h2, h3⟩ => ⟨m, hm, h0, ps, h1, h2, fun pos cv hc => by
  obtain ⟨c, z1, z2⟩ := h3 pos cv hc
  exact ⟨c, z1, e _ _ z2⟩⟩
theorem glam_of {G : Gam} {ms : List (String × Addr × Str)} {tk : String} {T : LamT} (ht : G.tab = tabG ms) (hl : ms.lookup tk = some (T.P, T.q)) (hlam : ∀ k f w, G.lam k f w ↔ T.lam k f w) : GLam G tk T := by
  refine ⟨fun a F o => ?_, fun k f w _ => hlam k f w⟩
  rw [ht]
  constructor
  · rintro ⟨m, hm, h⟩
    rw [hl] at hm
    cases hm
    exact h
  · intro h
    exact ⟨_, hl, h⟩
def spLawT (K : PySem.W.Frag) (Ps : List Addr) : Sp := fun vs H Q _ => ∃ (a : Addr) (ns : List Int), vs = [.ref a] ∧ SqL K H a (ns.map V.int) ∧ ns.length ≤ 63 ∧ (∀ z ∈ ns, Builtin.Int.intBits z ≤ 1048576) ∧ (∀ P ∈ Ps, H P = some (.tbl #[])) ∧ ∀ H', Q (.bl true) H'
theorem law_endT {G : Gam} {P : Program} {w0 : World} {mg : Str → Option Value} {base : Heap} {k : Nat} {f : Addr} {fd : FuncData} {ps : List Str} {g : DFn} {Ms : List (String × Addr)} (F : FnOk P w0 G.K mg base (L2.CX P w0) k f fd ps (spG G 1 g)) (nd : (Ms.map (·.2)).Nodup)
    (ht : ∀ m ∈ Ms, ∀ F, G.tab m.1 m.2 F (.tbl #[]))
    (h : ∀ ns : List Int, ns.length ≤ 63 → (∀ z ∈ ns, Builtin.Int.intBits z ≤ 1048576) → ∃ S, g [.scr (ns.map D.int)] (Ms.map fun m => .tab m.1) = .ok (.bl true) S) : FnOk P w0 G.K mg base (L2.CX P w0) k f fd ps (spLawT G.K (Ms.map (·.2))) :=
  F.imp fun vs H Q E ⟨a, ns, e, hS, hl, hb, hP, q⟩ => by
    obtain ⟨S, hg⟩ := h ns hl hb
    subst e
    have hF : ∀ b, b ∉ Ms.map (·.2) → (fun b => if b ∈ Ms.map (·.2) then none else H b : Hp) b = H b := fun b hb => if_neg hb
    have nt : ∀ o, H a = some o → (∀ ps, o ≠ .tbl ps) → a ∉ Ms.map (·.2) := fun o e n z => n #[] (Option.some.inj (e.symm.trans (hP a z)))
    refine ⟨rfl, ⟨fun b => if b ∈ Ms.map (·.2) then none else H b, Ms.map (·.2)⟩, Ms.map fun m => .tab m.1, [.scr (ns.map D.int)], ⟨fun b o e => ?_, by simp, fun n b c e1 e2 => ?_, nd, fun b hb => if_pos hb⟩, .cons (.scr ?_ (Reps.of_ints ns)) .nil, ?_⟩
    · by_cases z : b ∈ Ms.map (·.2)
      · have e : (if b ∈ Ms.map (·.2) then none else H b) = some o := e
        rw [if_pos z] at e; cases e
      · have e : (if b ∈ Ms.map (·.2) then none else H b) = some o := e
        rw [if_neg z] at e; exact e
    · rw [List.getElem?_map] at e1 e2
      cases hm : Ms[n]? with
      | none => rw [hm] at e1; cases e1
      | some m =>
        rw [hm] at e1 e2
        cases e1; cases e2
        have mem := List.mem_of_getElem? hm
        exact ⟨_, hP _ (List.mem_map.mpr ⟨m, mem, rfl⟩), ht m mem _⟩
    · rcases hS with (z | ⟨o, z⟩) | z
      · exact .inl (.inl ((hF a (nt _ z fun _ => by simp)).trans z))
      · exact .inl (.inr ⟨o, (hF a (nt _ z fun _ => by simp)).trans z⟩)
      · exact .inr z
    · rw [hg]
      intro w' v H' nx f r
      cases r
      exact q H'
/-- the tables of the makers -/
def TabsT (q : Program) (K : PySem.W.Frag) (h : Heap) : Prop := ∀ (y : Str) (c P : Addr), ((recsOf q).find? (fun e => e.name == y)).isSome = true → PySem.W.tabIn K y = some (c, P) → PySem.W.CodeHd h c P ∧ h.get? P = some { cls := .none, data := .fields #[] }
theorem walk_ofD {l : PySem.W.OpenLaw} {n k : Nat} {q : Program} {loose : List Str} {XP : (Str → Option Value) → Heap → Prop} {YP : World → Heap → Prop} {d : DefRec} {K : Params → PySem.W.Frag} {CX : World → CXT} {x : Str}
    (hn : l.most = some n) (hn2 : n ≤ sizeLine) (hdf : d.params.defaults = []) (hr : Room k callerA) (hY : ∀ (w : World) (h : Heap), YP w h → (K w.params).In h)
    (F : ∀ (w : World) (mg : Str → Option Value) (fa : Addr) (h : Heap), (K w.params).In h → h.Ns mainGlobals mg → mg d.name = some (.ref fa) → TabsT q (K w.params) h → LamX.LawAtS l w (K w.params) (CX w) k n x mg fa h)
    (hCX : ∀ (w : World) (H : Hp) (s : Shared) (e : Value) (s' : Shared), CX w [] H s (fun _ _ _ => False) e s' → False) :
    PySem.W.WalkO q loose XP YP l.row.toRowW d [] (fun f vs => PySem.call f vs) := by
  refine Att.attach_callB hn hdf fun w s₀ s₁ mg mb fa o pm cd doc a vs ns G Y ho hd hcd hmg hobj hints hlen hbits hg => ?_
  have KX := hY w _ Y
  have tt : TabsT q (K w.params) s₁.heap := fun y c P hr ht => by
    obtain ⟨dd, hdd⟩ := Option.isSome_iff_exists.mp hr
    exact PySem.W.tab_of G.T KX hdd ht
  obtain ⟨fd, cs, sp, hT, nT, C, hb, hsp, hF⟩ := F w mg fa _ KX G.T.g hmg tt
  exact LamX.law_callTs KX G.T.g G.T.b G.T.builtins G.T.nolimit hg hT nT C G.T.bmain hobj hints (Nat.le_trans hlen hn2) hr hF hb (fun H hH hS => hsp H a ns hlen hbits hH hS) fun H e s' => hCX w H s₁ e s'
end DL
set_option maxRecDepth 100000
set_option maxHeartbeats 4000000
set_option autoImplicit false
namespace DL
open PySem PySem.Spec PyProof.Rows L2
/-! ### own error classes: the facts of the head -/
/-- the text of an own error's __init__ -/
def XSh (st : Stmt) (slf x f : Str) : Prop := ∃ (ar : Arg) (p0 p1 p2 p3 p4 p5 p6 p7 p8 p9 : Pos),
  defBody st = [.Expr (.Call (.Attribute (.Call (.Name "super" p0) [] [] p1) "__init__" p2) [.Name x p3] [] p4) p5, .Assign [.Attribute (.Name slf p6) f p7] (.Name x p8) p9] ∧
  ((defArgs st).posonlyargs ++ (defArgs st).args).head? = some ar ∧ ar.arg = slf ∧
  (defScope st).names.lookup ("super" : Str) = some .globalImplicit ∧ (defScope st).names.lookup ("__class__" : Str) = some .free ∧ (defScope st).names.lookup slf = some .local ∧ (defScope st).names.lookup x = some .local ∧ (∀ z ∈ (defScope st).names, z.2 ≠ .cell) ∧
  (defScope st).kind = .function ∧ (defScope st).isCoroutine = false ∧ (defScope st).isGenerator = false ∧ (p2.endLine == p4.line) = true
def xcB (K : PySem.W.Frag) (C fI : Addr) (f : Str) : Bool :=
  (PySem.W.findIn K (.ref C) "__setattr__" == some (some (.builtin "object.__setattr__"))) && ((PySem.W.subIn K (.ref C) (.type "BaseException") == some true) && ((PySem.W.typeIn K (.ref C) == some (.type "type")) && (PySem.W.keepIn K (.ref C) && ((PySem.W.typeIn K (.ref fI) == some (.type "function")) &&
  ((PySem.W.mroIn K C (.ref C) == some true) && ((PySem.W.ks_superIn K C C "__init__" == some (some (.builtin "ValueError.__init__"))) && ((PySem.W.subIn K (.ref C) (.type "ValueError") == some true) && ((PySem.W.nsIn K cStatics "thirdparty.any" == some none) && ((PySem.W.findIn K (.ref C) f == some none) && xfB K C)))))))))
structure XFacts (P : Program) (G : Gam) (mg : Str → Option Value) (c : String) (C fI : Addr) (fd : FuncData) (slf x f : Str) : Prop where
  T : XCls G G.K c C fI
  I : XIn P G.K mg C fI fd slf x f
  F : XfC G.K C
  B : Binds G.K fd [slf, x] []
theorem xfacts_of {P : Program} {G : Gam} {mg : Str → Option Value} {c : String} {C fI NS cda cc : Addr} {st : Stmt} {slf x f nm q name qual file : Str} {bs bm sub : List Value} {sn : List Str} {ab : Bool} {col : Option Bool} {dd : Option Addr} {k0 k1 k2 k3 k5 : Option Value}
    {oc dV kV doc pm ct ccl cl : Value} {od an cdd cld : Option Addr} {osl ccs csl : Array (Option Value)} {vs : Array Value} {tf : Tok}
    (hct : G.ct c = some C) (xl : G.K.lookup C = some (excClassObj nm q C NS bs bm true sn sub ab col dd k0 k1 k2 k3 k5 "ValueError.__new__")) (xr : PySem.HandSPX.refsVE bm = true) (xi : PySem.W.findIn G.K (.ref C) "__init__" = some (some (.ref fI)))
    (xf : G.K.lookup fI = some ⟨oc, od, .func (PySem.W.fnX name qual (defArgs st) (defBody st) (defScope st) [("__class__", cc)] dV kV doc pm an (.ref cda) ct), osl⟩) (xc : PySem.W.codeIn G.K (.ref cda) qual = true) (xd : G.K.lookup cda = some ⟨ccl, cdd, .fields vs, ccs⟩) (xv : vs[2]? = some (.str file tf))
    (xe : ((P.main.file : Str) == file) = true) (xk : G.K.lookup cc = some ⟨cl, cld, .cell (some (.ref C)), csl⟩) (xB : xcB G.K C fI f = true) (xt : (P.main.scope.names.lookup ("super" : Str)).isSome = false) (xs : mg "super" = none) (sh : XSh st slf x f)
    (d1 : (slf == ("__debug__" : Str)) = false) (d2 : (x == ("__debug__" : Str)) = false) (d3 : slf ≠ x) (hb : ∀ us : List Value, us.length = 2 → bindArgs (PySem.W.fnX name qual (defArgs st) (defBody st) (defScope st) [("__class__", cc)] dV kV doc pm an (.ref cda) ct) ⟨us, []⟩ = pure ([slf, x].zip us)) :
    XFacts P G mg c C fI (PySem.W.fnX name qual (defArgs st) (defBody st) (defScope st) [("__class__", cc)] dV kV doc pm an (.ref cda) ct) slf x f := by
  unfold xcB at xB
  simp only [Bool.and_eq_true, beq_iff_eq] at xB
  obtain ⟨b1, b2, b3, b4, b5, b6, b7, b8, b9, b10, b11⟩ := xB
  obtain ⟨ar, p0, p1, p2, p3, p4, p5, p6, p7, p8, p9, s1, s2, s3, s4, s5, s6, s7, s8, s9, s10, s11, s12⟩ := sh
  have oex : OexC G.K C := ⟨⟨nm, q, NS, bs, bm, sn, sub, ab, col, dd, k0, k1, k2, k3, k5, xl, xr⟩, b1, b2, b3, b4⟩
  refine ⟨⟨hct, xi, b5, oex⟩, ⟨⟨oc, doc, pm, dV, kV, ct, ccl, cl, od, an, cdd, cld, osl, ccs, csl, cda, cc, name, qual, file, defArgs st, defScope st, vs, tf, ar, p0, p1, p2, p3, p4, p5, p6, p7, p8, p9, by rw [s1], xf, xc, s2, s3, xd, xv, xe, xk, s4, s5, s6, s7, s8, s9, s10, s11, s12⟩, xt, xs, b6, b7, b8, b9, oex, b10, d1, d2, d3⟩, xfB_ok b11, .all hb⟩
/-! ### handlers without addresses -/
def HdR.bare (h : HdR) : HdR := ⟨.none, h.oi, h.m, h.f⟩
theorem catch_bare (x : Xc) : ∀ (hs : List HdR) (s : DS), catchD (hs.map HdR.bare) x s = catchD hs x s
  | [], s => rfl
  | ⟨_, none, m, f⟩ :: r, s => by
    show (match m x.cls with | some true => noX (f x s) | some false => catchD (r.map HdR.bare) x s | none => .stuck) = _
    rw [catch_bare x r s]
    rfl
  | ⟨_, some i, m, f⟩ :: r, s => by
    show (match m x.cls with | some true => (if i < s.sl.length then unD i (noX (f x ⟨s.sl.set i .un, s.st⟩)) else .stuck) | some false => catchD (r.map HdR.bare) x s | none => .stuck) = _
    rw [catch_bare x r s]
    rfl
theorem try_bare (b : DStm) (hs : List HdR) : sTry b (hs.map HdR.bare) = sTry b hs := by
  funext s
  unfold sTry
  cases b s with
  | exc x s1 => exact catch_bare x hs s1
  | ok o s1 => rfl
  | stuck => rfl
def hmT (yes no : List String) : String → Option Bool := fun k => if k ∈ yes then some true else if k ∈ no then some false else none
theorem mok_of {G : Gam} {K : PySem.W.Frag} {c : Value} {oi : Option Nat} {f : Xc → DStm} {yes no : List String} (h1 : ∀ k ∈ yes, ∀ C, G.ct k = some C → PySem.W.exmOne K (.ref C) c = some true) (h2 : ∀ k ∈ no, ∀ C, G.ct k = some C → PySem.W.exmOne K (.ref C) c = some false) : MOk G K ⟨c, oi, hmT yes no, f⟩ := by
  intro k b h C hC
  simp only [hmT] at h
  split at h
  · cases h; exact h1 k (by assumption) C hC
  · split at h
    · cases h; exact h2 k (by assumption) C hC
    · cases h
section
variable {G : Gam} {W : WX} {X : Cx}
theorem pds_tryB {bd : List Stmt} {g0 : ExceptHandler} {gs : List ExceptHandler} {hs : List HdR} {tpos : Pos} {fb : DStm} (est : X.stack = X.env :: X.outer) (efr : X.env.frame = some X.env.locals) (nd : X.N.Nodup) (tk : Takes X W)
    (hbd : ∀ (Wi : WX) (pn : List (Addr × Obj)) (xe : Value → Shared → Prop), Takes (X.tr pn xe) Wi → PassesOwn (model X.prog X.w) X.A X.env xe → PDSs G Wi (X.tr pn xe) bd fb) (hm : ∀ h ∈ hs, MOk G X.K h)
    (hh : HdA X (g0 :: gs) (hs.map fun h => (h.c, h.oi, tSu G h))) : PDS G W X (.Try bd (g0 :: gs) [] [] tpos) (sTry fb (hs.map HdR.bare)) := by
  rw [try_bare]
  exact pds_try est efr nd tk hbd hm hh
end
end DL
set_option maxRecDepth 100000
set_option maxHeartbeats 4000000
set_option autoImplicit false
namespace DL
open PySem PySem.Spec PyProof.Rows L2
/-! ### the lambdas of a text, in their order -/
abbrev LSite := Arguments × Expr × Scope
def lamsE : Nat → Expr → List LSite
  | 0, _ => []
  | n + 1, e => match e with
    | .Lambda a b s _ => [(a, b, s)]
    | .BoolOp _ vs _ => vs.flatMap (lamsE n)
    | .BinOp a _ b _ => lamsE n a ++ lamsE n b
    | .UnaryOp _ a _ => lamsE n a
    | .IfExp a b c _ => lamsE n a ++ lamsE n b ++ lamsE n c
    | .Compare a _ cs _ => lamsE n a ++ cs.flatMap (lamsE n)
    | .Call f as _ _ => lamsE n f ++ as.flatMap (lamsE n)
    | .Attribute a _ _ => lamsE n a
    | .Subscript a b _ => lamsE n a ++ lamsE n b
    | .List es _ => es.flatMap (lamsE n)
    | .Tuple es _ _ => es.flatMap (lamsE n)
    | _ => []
def lamsS : Nat → Stmt → List LSite
  | 0, _ => []
  | n + 1, s => match s with
    | .Return (some e) _ => lamsE 30 e
    | .Assign _ e _ => lamsE 30 e
    | .Expr e _ => lamsE 30 e
    | .AugAssign _ _ e _ => lamsE 30 e
    | .For _ e b _ _ => lamsE 30 e ++ b.flatMap (lamsS n)
    | .While e b _ _ => lamsE 30 e ++ b.flatMap (lamsS n)
    | .If e b c _ => lamsE 30 e ++ b.flatMap (lamsS n) ++ c.flatMap (lamsS n)
    | _ => []
def lamsOf (st : Stmt) : List LSite := (defBody st).flatMap (lamsS 12)
def siteOf (ns : List String) (st : Stmt) : String → Option LSite := fun k => (ns.zip (lamsOf st)).lookup k
section
variable {G : Gam} {W : WX} {X : Cx}
theorem lamsOk_nil {T : LamT} {k : Nat} : LamsOk G X T k (fun n => List.lookup n []) := fun n b h => by simp at h
theorem lamsOk_cons {T : LamT} {k : Nat} {n0 : String} {pr : Arguments} {bd : Expr} {sc : Scope} {b : DE} {L : List (String × DE)} (hs : T.site n0 = some (pr, bd, sc)) (B : LamB G X k pr bd sc b) (r : LamsOk G X T k (fun n => List.lookup n L)) : LamsOk G X T k (fun n => List.lookup n ((n0, b) :: L)) := fun n b' h => by
  have h : List.lookup n ((n0, b) :: L) = some b' := h
  by_cases e : n = n0
  · subst e
    rw [List.lookup_cons_self] at h
    cases h
    exact ⟨pr, bd, sc, hs, B⟩
  · have h1 : (n == n0) = false := beq_eq_false_iff_ne.mpr e
    simp only [List.lookup_cons, h1] at h
    exact r n b' h
theorem fn_stuck {P : Program} {w0 : World} {mg : Str → Option Value} {base : Heap} {f : Addr} {fd : FuncData} {ps : List Str} {k n : Nat} (hn : ps.length = n) : FnOk P w0 G.K mg base (L2.CX P w0) k f fd ps (spG G n (fun _ _ => .stuck)) :=
  ⟨fun vs H Q E h => by rw [h.1, hn], fun A outer s H args us vs Q E hr e0 hb r h => by
    obtain ⟨_, w, S, ds, _, _, q⟩ := h
    exact q.elim⟩
theorem BodyL.mono {P : Program} {w0 : World} {mg : Str → Option Value} {base : Heap} {j k : Nat} {N : List Str} {qual : Str} {st : Stmt} {f : Addr} {a : Str} {i : Nat} {body : LamR → DStm} (h : BodyL G P w0 mg base j N qual st f a i body) (hk : j ≤ k) : BodyL G P w0 mg base k N qual st f a i body :=
  fun Λ cdv A outer s H E hr => h Λ cdv A outer s H E (hr.mono hk)
end
theorem lawAt_of {G : Gam} {l : PySem.W.OpenLaw} {w : World} {k : Nat} {x : Str} {mg : Str → Option Value} {fa : Addr} {h : Heap} {fd : FuncData} {g : DFn} (Ms : List (String × Addr × Addr))
    (ht : ∀ m ∈ Ms, PySem.W.CodeHd h m.2.1 m.2.2 ∧ h.get? m.2.2 = some { cls := .none, data := .fields #[] }) (nl : ∀ m ∈ Ms, G.K.lookup m.2.2 = none) (nd : (Ms.map (·.2.2)).Nodup) (hb : ∀ (s : Shared) (u : Value), BindsTo s fd ⟨[u], []⟩ [(x, u)])
    (F : ∀ base : Heap, (∀ m ∈ Ms, LamX.TabB base mg m.2.1 m.2.2) → FnOk l.prog w G.K mg base (L2.CX l.prog w) k fa fd [x] (spG G 1 g)) (htab : ∀ m ∈ Ms, ∀ F, G.tab m.1 m.2.2 F (.tbl #[]))
    (hl : ∀ ns : List Int, ns.length ≤ 63 → (∀ z ∈ ns, Builtin.Int.intBits z ≤ 1048576) → ∃ S, g [.scr (ns.map D.int)] (Ms.map fun m => .tab m.1) = .ok (.bl true) S) : LamX.LawAtS l w G.K (L2.CX l.prog w) k 63 x mg fa h := by
  refine ⟨fd, Ms.map (·.2), spLawT G.K (Ms.map (·.2.2)), fun p hp => ?_, fun p hp => ?_, fun p hp => ?_, hb, fun H a ns h1 h2 h3 h4 => ⟨a, ns, rfl, h4, h1, h2, fun P hP => ?_, fun _ => rfl⟩, fun base _ _ tb => ?_⟩
  · obtain ⟨m, hm, rfl⟩ := List.mem_map.mp hp
    exact (ht m hm).2
  · obtain ⟨m, hm, rfl⟩ := List.mem_map.mp hp
    exact nl m hm
  · obtain ⟨m, hm, rfl⟩ := List.mem_map.mp hp
    exact (ht m hm).1
  · obtain ⟨m, hm, rfl⟩ := List.mem_map.mp hP
    exact h3 _ (List.mem_map.mpr ⟨m, hm, rfl⟩)
  · have e : Ms.map (·.2.2) = (Ms.map fun m => (m.1, m.2.2)).map (·.2) := by simp
    rw [e]
    refine law_endT (F base fun m hm => tb _ (List.mem_map.mpr ⟨m, hm, rfl⟩)) (by rw [← e]; exact nd) (fun m hm F => ?_) fun ns h1 h2 => ?_
    · obtain ⟨m', hm', rfl⟩ := List.mem_map.mp hm
      exact htab m' hm' F
    · have e2 : ((Ms.map fun m => (m.1, m.2.2)).map fun m => Cell.tab m.1) = Ms.map fun m => .tab m.1 := by simp
      rw [e2]
      exact hl ns h1 h2
end DL
set_option maxRecDepth 100000
set_option maxHeartbeats 4000000
set_option autoImplicit false
namespace DL
open PySem PySem.Spec PyProof.Rows L2
section
variable {G : Gam} {W : WX} {X : Cx}
/-! ### x in y, x not in y -/
def flD : D → Bool
  | .non => true
  | .bl _ => true
  | .int _ => true
  | .str _ => true
  | _ => false
def eqFl : D → D → Bool
  | .non, .non => true
  | .bl a, .bl b => a == b
  | .bl a, .int b => (if a then 1 else 0) == b
  | .int a, .bl b => a == (if b then 1 else 0)
  | .int a, .int b => a == b
  | .str a, .str b => a == b
  | _, _ => false
theorem fl_rep {w : Wd} {v : V} {d : D} (r : Rep G w v d) (h : flD d = true) : flatV v = true := by
  cases r <;> first | rfl | cases h
theorem eq_rep {w : Wd} {v u : V} {d e : D} (r : Rep G w v d) (r' : Rep G w u e) (h : flD d = true) (h' : flD e = true) : eqV v u = eqFl d e := by
  cases r <;> first | (cases h; done) | skip
  all_goals cases r' <;> first | (cases h'; done) | rfl | skip
  rename_i l m
  show (nm l == nm m) = (l == m)
  by_cases e : l = m
  · subst e; simp
  · rw [beq_eq_false_iff_ne.mpr e, beq_eq_false_iff_ne.mpr fun z => e (nm_inj z)]
theorem fls_rep {w : Wd} : ∀ {vs : List V} {ds : List D}, Reps G w vs ds → ds.all flD = true → vs.all flatV = true
  | _, _, .nil, _ => rfl
  | _, _, .cons a b, h => by
    rw [List.all_cons, Bool.and_eq_true] at h ⊢
    exact ⟨fl_rep a h.1, fls_rep b h.2⟩
theorem any_rep {w : Wd} {u : V} {e : D} (r' : Rep G w u e) (h' : flD e = true) : ∀ {vs : List V} {ds : List D}, Reps G w vs ds → ds.all flD = true → vs.any (fun y => eqV y u) = ds.any (fun y => eqFl y e)
  | _, _, .nil, _ => rfl
  | _, _, .cons a b, h => by
    rw [List.all_cons, Bool.and_eq_true] at h
    rw [List.any_cons, List.any_cons, eq_rep a r' h.1 h', any_rep r' h' b h.2]
def inS (neg : Bool) : D → D → Option D := fun x y => match x, y with
  | .str [c], .str l => some (.bl (if neg then !decide (c ∈ l) else decide (c ∈ l)))
  | _, _ => none
def inF (neg : Bool) : D → D → Option D := fun x y => match y with
  | .tup ds => if flD x = true ∧ ds.all flD = true then some (.bl (if neg then !(ds.any fun z => eqFl z x) else ds.any fun z => eqFl z x)) else none
  | .lst ds => if flD x = true ∧ ds.all flD = true then some (.bl (if neg then !(ds.any fun z => eqFl z x) else ds.any fun z => eqFl z x)) else none
  | _ => none
def inP (neg : Bool) : D → D → Option D := fun x y => match toPy x, toPy y with
  | some p, some (.list qs) => if SeqAt.shaped p && SeqAt.shaped (.list qs) then some (.bl (if neg then !(qs.any fun z => PyData.eqv z p) else qs.any fun z => PyData.eqv z p)) else none
  | _, _ => none
theorem nm_list (l : Nm) : (nm l).cps.toList = l := by simp [nm]
theorem opd_inS : OpD G X (compareOp .In) (inS false) := ⟨_, op_in_sign, fun κ w s σ H x y dx dy d Q ok rx ry e q => by
  unfold inS at e
  split at e
  · rename_i c l
    cases e
    cases rx
    cases ry
    exact ⟨c, nm l, rfl, rfl, by rw [nm_list]; exact q w _ H (.refl _) ok (.bl _)⟩
  · cases e⟩
theorem opd_notInS : OpD G X (compareOp .NotIn) (inS true) := ⟨_, op_notIn_sign, fun κ w s σ H x y dx dy d Q ok rx ry e q => by
  unfold inS at e
  split at e
  · rename_i c l
    cases e
    cases rx
    cases ry
    exact ⟨c, nm l, rfl, rfl, by rw [nm_list]; exact q w _ H (.refl _) ok (.bl _)⟩
  · cases e⟩
theorem inF_of (hK : G.K = X.K) {neg : Bool} {κ : Bs} {w : Wd} {s : DS} {σ : L2.St} {H : Hp} {x y : V} {dx dy d : D} {Q : VK} (ok : Ok G κ w s σ H) (rx : Rep G w x dx) (ry : Rep G w y dy) (e : inF neg dx dy = some d) (q : ∀ w' v H', w.le w' → Ok G κ w' s σ H' → Rep G w' v d → Q v H') : rIn X.K neg x y H Q := by
  unfold inF at e
  split at e
  · split at e
    · rename_i h
      cases e
      cases ry with
      | tup h1 r1 =>
        refine ⟨_, _, rfl, .inr (hK ▸ SqT.le h1 ok.fok.sub), fl_rep rx h.1, fls_rep r1 h.2, ?_⟩
        unfold inV
        rw [any_rep rx h.1 r1 h.2]
        exact q w _ H (.refl _) ok (.bl _)
    · cases e
  · split at e
    · rename_i h
      cases e
      cases ry with
      | lst h1 r1 =>
        refine ⟨_, _, rfl, .inl (.inl (.inl (ok.fok.sub _ _ h1))), fl_rep rx h.1, fls_rep r1 h.2, ?_⟩
        unfold inV
        rw [any_rep rx h.1 r1 h.2]
        exact q w _ H (.refl _) ok (.bl _)
    · cases e
  · cases e
theorem opd_inF (hK : G.K = X.K) : OpD G X (compareOp .In) (inF false) := ⟨_, op_in_seq, fun κ w s σ H x y dx dy d Q ok rx ry e q => inF_of hK ok rx ry e q⟩
theorem opd_notInF (hK : G.K = X.K) : OpD G X (compareOp .NotIn) (inF true) := ⟨_, op_notIn_seq, fun κ w s σ H x y dx dy d Q ok rx ry e q => inF_of hK ok rx ry e q⟩
theorem inP_py {neg : Bool} {dx dy d : D} (e : inP neg dx dy = some d) : ∃ p qs, toPy dx = some p ∧ toPy dy = some (.list qs) ∧ SeqAt.shaped p = true ∧ SeqAt.shaped (.list qs) = true ∧ d = .bl (if neg then !(qs.any fun z => PyData.eqv z p) else qs.any fun z => PyData.eqv z p) := by
  unfold inP at e
  split at e
  · rename_i p qs h1 h2
    split at e
    · rename_i h
      cases e
      rw [Bool.and_eq_true] at h
      exact ⟨p, qs, h1, h2, h.1, h.2, rfl⟩
    · cases e
  · cases e
theorem opd_inP (hK : G.K = X.K) (hu : X.A.units + 65 < cLine) : OpD G X (compareOp .In) (inP false) := ⟨_, op_inD hu, fun κ w s σ H x y dx dy d Q ok rx ry e q => by
  obtain ⟨p, qs, h1, h2, s1, s2, rfl⟩ := inP_py e
  exact ⟨p, qs, rx.py hK ok h1, ry.py hK ok h2, s1, s2, q w _ H (.refl _) ok (.bl _)⟩⟩
theorem opd_notInP (hK : G.K = X.K) (hu : X.A.units + 65 < cLine) : OpD G X (compareOp .NotIn) (inP true) := ⟨_, op_notInD hu, fun κ w s σ H x y dx dy d Q ok rx ry e q => by
  obtain ⟨p, qs, h1, h2, s1, s2, rfl⟩ := inP_py e
  exact ⟨p, qs, rx.py hK ok h1, ry.py hK ok h2, s1, s2, q w _ H (.refl _) ok (.bl _)⟩⟩
def dIn (neg : Bool) : D → D → Option D := fun x y => (inS neg x y).orElse fun _ => (inF neg x y).orElse fun _ => inP neg x y
theorem room65 {A : Around} {k : Nat} (hr : Room k A) : A.units + 65 < cLine := by have := hr.un; omega
theorem opd_in (hK : G.K = X.K) (hu : X.A.units + 65 < cLine) : OpD G X (compareOp .In) (dIn false) := (opd_inS.or ((opd_inF hK).or (opd_inP hK hu))).congr fun x y => rfl
theorem opd_notIn (hK : G.K = X.K) (hu : X.A.units + 65 < cLine) : OpD G X (compareOp .NotIn) (dIn true) := (opd_notInS.or ((opd_notInF hK).or (opd_notInP hK hu))).congr fun x y => rfl
/-! ### n.bit_length(), divmod -/
def eBits (f : DE) : DE := fun s => (f s).bind fun d s1 => match d with
  | .int i => .ok (.int (Builtin.Int.intBits i : Nat)) s1
  | _ => .stuck
theorem pd_bits {o : Expr} {f : DE} {apos pos : Pos} (ho : PD G W X o f) (hbase : attributeBase o "bit_length" X.env (eval o X.env) = eval o X.env := by rfl) (hline : (apos.endLine == pos.line) = true := by rfl) : PD G W X (.Call (.Attribute o "bit_length" apos) [] [] pos) (eBits f) :=
  (pe_bits ho hbase hline).imp fun σ H Q ⟨κ, w, s, ok, q⟩ => ⟨κ, w, s, ok, (PostG.bind q).imp fun v H1 ⟨d, s1, w1, le, ok1, r1, q1⟩ => by
    cases r1 with
    | int i => exact ⟨i, rfl, q1 w1 _ H1 (.refl _) ok1 (.int _)⟩
    | _ => exact q1.elim⟩
def bDivmod : List D → Option D
  | [.int i, .int j] => if 0 < j ∧ divOk j = true then some (.tup [.int (i.fdiv j), .int (i.fmod j)]) else none
  | _ => none
theorem pylong_no {i j : Int} (h : j.natAbs.log2 < 9000) : Builtin.divisionGoesByPylong i j = false := by
  unfold Builtin.divisionGoesByPylong
  have : ¬ ((if (j == 0) = true then 0 else j.natAbs.log2 / 30 + 1) > 300) := by
    split
    · omega
    · omega
  simp only [Bool.and_eq_false_iff, decide_eq_false_iff_not]
  exact .inl this
theorem cd_divmod : CallD G X (.builtin "divmod") bDivmod := ⟨_, call_divmodW, fun κ w s σ H vs ds d Q ok rs e q => by
  unfold bDivmod at e
  split at e
  · rename_i i j
    split at e
    · rename_i h
      cases e
      cases rs with
      | cons a rs =>
      cases rs with
      | cons b rs =>
      cases rs
      cases a
      cases b
      have hd := h.2
      unfold divOk at hd
      have hd := of_decide_eq_true hd
      refine ⟨i, j, rfl, ⟨h.1, pylong_no hd.2⟩, fun p hp => ?_⟩
      rw [Int.fdiv_eq_ediv_of_nonneg i (Int.le_of_lt h.1), Int.fmod_eq_emod_of_nonneg i (Int.le_of_lt h.1)] at q
      obtain ⟨le, ok'⟩ := ok.alloc hp (.tup [.int (i / j), .int (i % j)])
      exact q _ _ _ le ok' (.tup (.inl (.inl upd_same)) (.cons (.int _) (.cons (.int _) .nil)))
    · cases e
  · cases e⟩
/-! ### methods of built-in types -/
def MtD (G : Gam) (X : Cx) (T id : String) (o : D → List D → Option D) : Prop := ∃ r, MtR X id r ∧ (∀ (κ : Bs) (w : Wd) (s : DS) (σ : L2.St) (H : Hp) (x : V) (vs : List V) (dx : D) (ds : List D) (d : D) (Q : VK), Ok G κ w s σ H → Rep G w x dx → Reps G w vs ds → o dx ds = some d →
  (∀ w' v H', w.le w' → Ok G κ w' s σ H' → Rep G w' v d → Q v H') → r x vs H Q) ∧ ∀ (κ : Bs) (w : Wd) (s : DS) (σ : L2.St) (H : Hp) (x : V) (dx : D), Ok G κ w s σ H → Rep G w x dx → tyOk T dx = true → tyV X.K T x H
where
  tyOk (T : String) : D → Bool
  | .str _ => T == "str"
  | .lst _ => T == "list"
  | .dic _ => T == "dict"
  | _ => false
def eBM (T : String) (o : D → List D → Option D) (fo : DE) (fa : DA) : DE := fun s => (fo s).bind fun x s1 => if MtD.tyOk T x = true then (fa s1).bind fun ds s2 => match o x ds with
  | some d => .ok d s2
  | none => .stuck
  else .stuck
theorem pd_bm {T id : String} {name : Str} {o : D → List D → Option D} {oe e : Expr} {es : List Expr} {fo : DE} {fa : DA} {apos cpos : Pos} (pa : PlainAttrs T) (slot : Slot T name id) (hty : typeOf (.builtin id) = pure (.type "method_descriptor")) (hm : MtD G X T id o) (ho : PD G W X oe fo) (ha : PDA G W X (e :: es) fa)
    (hbase : attributeBase oe name X.env (eval oe X.env) = eval oe X.env := by rfl)
    (hfew : ((backTo cpos (starEach (e :: es) X.env)).all (fun x => !x.1) && (backToKw cpos (keywordEach [] X.env)).all (fun x => x.1.isSome)
      && decide ((e :: es).length + ([] : List Keyword).length + (if ([] : List Keyword).isEmpty then 0 else 1) < 30)) = true := by rfl)
    (hline : (apos.endLine == cpos.line) = true := by rfl) (hs : starEach (e :: es) X.env = (false, eval e X.env) :: starEach es X.env := by rfl) (hplain : (backTo cpos (starEach es X.env)).any (·.1) = false := by rfl) :
    PD G W X (.Call (.Attribute oe name apos) (e :: es) [] cpos) (eBM T o fo fa) := by
  obtain ⟨r, h1, h2, h3⟩ := hm
  refine (pe_bm pa slot hty h1 ho ha hbase hfew hline hs hplain).imp fun σ H Q ⟨κ, w, s, ok, q⟩ => ⟨κ, w, s, ok, (PostG.bind q).imp fun v H1 ⟨d, s1, w1, le, ok1, r1, q1⟩ => ?_⟩
  by_cases ht : MtD.tyOk T d = true
  · rw [if_pos ht] at q1
    refine ⟨h3 κ w1 s1 σ H1 v d ok1 r1 ht, κ, w1, s1, ok1, (PostG.bind q1).imp fun vs H2 ⟨ds, s2, w2, le2, ok2, r2, q2⟩ => ?_⟩
    cases e : o d ds with
    | none => rw [e] at q2; exact q2.elim
    | some z => rw [e] at q2; exact h2 κ w2 s2 σ H2 v vs d ds z Q ok2 (r1.mono le2) r2 e q2
  · rw [if_neg ht] at q1
    exact q1.elim
theorem ty_ok {T : String} {κ : Bs} {w : Wd} {s : DS} {σ : L2.St} {H : Hp} {x : V} {dx : D} (ok : Ok G κ w s σ H) (r : Rep G w x dx) (h : MtD.tyOk T dx = true) : tyV X.K T x H := by
  cases r <;> first | (cases h; done) | skip
  · exact beq_iff_eq.mp h
  · rename_i h1 _
    exact .inl ⟨beq_iff_eq.mp h, _, .inl (.inl (ok.fok.sub _ _ h1))⟩
  · rename_i h1 _
    exact .inr (.inr (.inl ⟨beq_iff_eq.mp h, .inl ⟨_, ok.fok.sub _ _ h1⟩⟩))
/-- texts of a list -/
def strsOf : List D → Option (List Nm)
  | [] => some []
  | .str l :: r => (strsOf r).map fun m => l :: m
  | _ => none
theorem strs_rep {w : Wd} : ∀ {vs : List V} {ds : List D} {ls : List Nm}, Reps G w vs ds → strsOf ds = some ls → vs = (ls.map nm).map V.str
  | _, _, _, .nil, h => by cases h; rfl
  | _, _, ls, .cons a b, h => by
    cases a <;> first | (simp [strsOf] at h; done) | skip
    simp only [strsOf, Option.map_eq_some_iff] at h
    obtain ⟨m, hm, rfl⟩ := h
    rw [strs_rep b hm]
    rfl
def mJoin : D → List D → Option D
  | .str a, [.lst ds] => match strsOf ds with
    | some ls => if (ls.map (·.length)).sum + ls.length * a.length ≤ 16777216 then some (.str (TL.joinL a ls)) else none
    | none => none
  | _, _ => none
theorem join_nm (a : Nm) (ls : List Nm) : Txt.join (nm a) (ls.map nm) = nm (TL.joinL a ls) := by
  have h := TL.tl_join (nm a) (ls.map nm)
  rw [← TL.join_eq, show TL.tl (nm a) = a from nm_list a, List.map_map] at h
  have e : (TL.tl ∘ nm) = id := by funext l; exact nm_list l
  rw [e, List.map_id] at h
  have : ∀ x : Str, x = nm (TL.tl x) := fun x => by simp [nm, TL.tl]
  rw [this (Txt.join _ _), h]
theorem mtd_join : MtD G X "str" "str.join" mJoin := by
  refine ⟨_, mt_join, fun κ w s σ H x vs dx ds d Q ok rx rs e q => ?_, fun κ w s σ H x dx ok r h => ty_ok ok r h⟩
  unfold mJoin at e
  split at e
  · rename_i a ds'
    split at e
    · rename_i ls hl
      split at e
      · rename_i hz
        cases e
        cases rx
        cases rs with
        | cons r1 rs =>
        cases rs
        cases r1 with
        | lst h1 r1 =>
        have := strs_rep r1 hl
        subst this
        refine ⟨nm a, _, ls.map nm, rfl, rfl, .inl (.inl (.inl (ok.fok.sub _ _ h1))), ?_, by rw [join_nm]; exact q w _ H (.refl _) ok (.str _)⟩
        have e1 : (ls.map nm).map (·.length) = ls.map (·.length) := by
          rw [List.map_map]
          apply List.map_congr_left
          intro l _
          show (nm l).cps.size = l.length
          simp [nm]
        have e2 : (nm a).length = a.length := by show (nm a).cps.size = _; simp [nm]
        rw [e1, e2, List.length_map]
        exact hz
      · cases e
    · cases e
  · cases e
end
end DL
set_option maxRecDepth 100000
set_option maxHeartbeats 4000000
set_option autoImplicit false
namespace DL
open PySem PySem.Spec PyProof.Rows L2
section
variable {G : Gam} {W : WX} {X : Cx}
/-! ### an own list, looked at without giving it away -/
def eIxO (i : Nat) (fb : DE) : DE := fun s => match s.sl[i]? with
  | some (.ol _) => (fb s).bind fun y s1 => match y, s1.sl[i]? with
    | .int k, some (.ol xs) => (match L2.atI xs k with | some d => .ok d s1 | none => .stuck)
    | _, _ => .stuck
  | some (.val x) => (fb s).bind fun y s1 => match y with
    | .int k => (match ixD x k with | some d => .ok d s1 | none => .stuck)
    | _ => .stuck
  | _ => .stuck
theorem ix_run (hK : G.K = X.K) {κ : Bs} {w : Wd} {s : DS} {σ : L2.St} {H : Hp} {v : V} {dx z : D} {k : Int} {Q : VK} (ok : Ok G κ w s σ H) (r1 : Rep G w v dx) (e : ixD dx k = some z) (q : PostG G W (Rep G) κ w σ (.ok z s) Q) : rIx X.K v (.int k) H Q := by
  cases r1 with
  | @tup p vs ds e1 r1 =>
    obtain ⟨y, h1, h2⟩ := Reps.atI r1 e
    exact .inr (.inl ⟨p, vs, k, y, rfl, rfl, hK ▸ SqT.le e1 ok.fok.sub, h1, q w y H (.refl _) ok h2⟩)
  | @lst p vs ds e1 r1 =>
    obtain ⟨y, h1, h2⟩ := Reps.atI r1 e
    exact .inl ⟨p, vs, k, y, rfl, rfl, .inl (.inl (ok.fok.sub _ _ e1)), h1, q w y H (.refl _) ok h2⟩
  | @scr p vs ds e1 r1 =>
    obtain ⟨y, h1, h2⟩ := Reps.atI r1 e
    exact .inl ⟨p, vs, k, y, rfl, rfl, hK ▸ SqL.le e1 ok.fok.sub, h1, q w y H (.refl _) ok h2⟩
  | str l =>
    have e : (if l.length ≤ 16777216 then (L2.atI l k).map fun c => D.str [c] else none) = some z := e
    split at e
    · rename_i hl
      cases e3 : L2.atI l k with
      | none => simp [e3] at e
      | some c =>
        simp only [e3, Option.map_some, Option.some.injEq] at e
        subst e
        refine .inr (.inr ⟨nm l, k, c, rfl, rfl, by rw [nm_len, sizeLine_eq]; exact hl, by simpa [nm] using e3, ?_⟩)
        exact q w _ H (.refl _) ok (.str [c])
    · cases e
  | _ => cases e
theorem pd_ixO (hK : G.K = X.K) {i : Nat} {x : Str} {p pos : Pos} {b : Expr} {fb : DE} (ho : PE X (.Name x p) (tVar i)) (hb : PD G W X b fb) (hs : PlainIx b) : PD G W X (.Subscript (.Name x p) b pos) (eIxO i fb) :=
  (pe_ix ix_seq ho hb hs).imp fun σ H Q ⟨κ, w, s, ok, q⟩ => by
    unfold eIxO at q
    cases e : s.sl[i]? with
    | none => rw [e] at q; exact q.elim
    | some y =>
      rw [e] at q
      cases y with
      | ol xs0 =>
        obtain ⟨a, vs, h1, h2, h3⟩ := own_list ok e
        refine ⟨.ref a, h1, κ, w, s, ok, (PostG.bind q).imp fun v2 H2 ⟨d2, s2, w2, le2, ok2, r2, q2⟩ => ?_⟩
        cases r2 with
        | int k =>
          cases e1 : s2.sl[i]? with
          | none => rw [e1] at q2; exact q2.elim
          | some z =>
            rw [e1] at q2
            cases z with
            | ol xs =>
              replace q2 : PostG G W (Rep G) κ w2 σ (match L2.atI xs k with | some d => .ok d s2 | none => .stuck) Q := q2
              obtain ⟨a', vs', g1, g2, g3⟩ := own_list ok2 e1
              rw [h1] at g1
              cases g1
              cases e2 : L2.atI xs k with
              | none => rw [e2] at q2; exact q2.elim
              | some d =>
                rw [e2] at q2
                obtain ⟨y, h1, h2⟩ := Reps.atI g3 e2
                exact .inl ⟨a, vs', k, y, rfl, rfl, .inl (.inl g2), h1, q2 w2 y H2 (.refl _) ok2 h2⟩
            | _ => exact q2.elim
        | _ => exact q2.elim
      | val dx =>
        obtain ⟨v, h1, r1⟩ := ok.val i dx e
        refine ⟨v, h1, κ, w, s, ok, (PostG.bind q).imp fun v2 H2 ⟨d2, s2, w2, le2, ok2, r2, q2⟩ => ?_⟩
        cases r2 with
        | int k =>
          replace q2 : PostG G W (Rep G) κ w2 σ (match ixD dx k with | some d => .ok d s2 | none => .stuck) Q := q2
          cases e2 : ixD dx k with
          | none => rw [e2] at q2; exact q2.elim
          | some z => rw [e2] at q2; exact ix_run hK ok2 (r1.mono le2) e2 q2
        | _ => exact q2.elim
      | _ => exact q.elim
/-- truth -/
def eTruO (i : Nat) : DT := fun s => match s.sl[i]? with
  | some (.ol xs) => .ok (!xs.isEmpty) s
  | some (.val d) => (match truD d with | some b => .ok b s | none => .stuck)
  | _ => .stuck
theorem ptd_truO (hK : G.K = X.K) {i : Nat} {x : Str} {p : Pos} (ho : PE X (.Name x p) (tVar i)) (he : ∀ whole, isTrue (.Name x p) X.env whole = (do let v ← whole; standAt (Expr.pos (.Name x p)); holding [v] (truthy v)) := by intro _; rfl) : PDT G W X (.Name x p) (eTruO i) :=
  (pt_truth ho he).imp fun σ H Q ⟨κ, w, s, ok, q⟩ => by
    unfold eTruO at q
    cases e : s.sl[i]? with
    | none => rw [e] at q; exact q.elim
    | some y =>
      rw [e] at q
      cases y with
      | ol xs =>
        obtain ⟨a, vs, h1, h2, h3⟩ := own_list ok e
        refine ⟨.ref a, h1, !xs.isEmpty, ?_, q w _ H (.refl _) ok rfl⟩
        exact .inl ⟨vs, .inl (.inl h2), by rw [h3.isEmpty]⟩
      | val d =>
        obtain ⟨v, h1, r1⟩ := ok.val i d e
        replace q : PostG G W (fun _ (v : Bool) d => v = d) κ w σ (match truD d with | some b => .ok b s | none => .stuck) Q := q
        cases e1 : truD d with
        | none => rw [e1] at q; exact q.elim
        | some k => rw [e1] at q; exact ⟨v, h1, k, truV_of hK ok r1 e1, q w k H (.refl _) ok rfl⟩
      | _ => exact q.elim
/-- x[i] = v -/
def sIxO (i : Nat) (fi fv : DE) : DStm := fun s => (fv s).bind fun d s1 => match s1.sl[i]? with
  | some (.ol _) => (fi s1).bind fun y s2 => match y, s2.sl[i]? with
    | .int k, some (.ol xs) => (match ixN xs.length k with | some j => .ok .nx ⟨s2.sl.set i (.ol (xs.set j d)), s2.st⟩ | none => .stuck)
    | _, _ => .stuck
  | _ => .stuck
theorem pds_ixO {i : Nat} {x : Str} {p tp pos : Pos} {b e : Expr} {fi fv : DE} (ho : PE X (.Name x p) (tVar i)) (hb : PD G WF X b fi) (he : PD G W X e fv) (hs : swapsWithSole [.Subscript (.Name x p) b tp] e pos.line X.env = pure false := by rfl) (hw : swappedStores [.Subscript (.Name x p) b tp] e X.env = pure none := by rfl)
    (h1 : (assignEach [.Subscript (.Name x p) b tp] X.env).map (·.2) = [assign (.Subscript (.Name x p) b tp) X.env] := by rfl)
    (ha : ∀ v, assign (.Subscript (.Name x p) b tp) X.env v = (do
      let ov ← holding [v] (eval (.Name x p) X.env)
      let iv ← holding [v, ov] (eval b X.env)
      standAt tp
      holding [v, ov, iv] (setItem ov iv v)
      release [v, ov, iv] []) := by intro _; rfl) (hcol : ∀ (s : DS), (∀ x s', fi s ≠ .exc x s')) : PDS G W X (.Assign [.Subscript (.Name x p) b tp] e pos) (sIxO i fi fv) :=
  (ps_asg he (pg_sub ho hb set_list ha) hs hw h1).imp fun N σ H ⟨κ, w, s, ok, q⟩ => ⟨κ, w, s, ok, (PostG.bindS q).imp fun v H1 ⟨d, s1, w1, le, ok1, r1, q1⟩ => by
    cases e : s1.sl[i]? with
    | none => rw [e] at q1; exact q1.elim
    | some y =>
      rw [e] at q1
      cases y with
      | ol xs0 =>
        obtain ⟨a, vs, h1, h2, h3⟩ := own_list ok1 e
        replace q1 : PostS G W κ w1 ((fi s1).bind fun y s2 => match y, s2.sl[i]? with
          | .int k, some (.ol xs) => (match ixN xs.length k with | some j => .ok .nx ⟨s2.sl.set i (.ol (xs.set j d)), s2.st⟩ | none => .stuck)
          | _, _ => .stuck) N := q1
        refine ⟨.ref a, h1, κ, w1, s1, ok1, ?_⟩
        cases ef : fi s1 with
        | stuck => rw [ef] at q1; exact q1.elim
        | exc z s' => exact absurd ef (hcol s1 z s')
        | ok d2 s2 =>
          rw [ef] at q1
          intro w2 v2 H2 le2 ok2 r2
          cases r2 with
          | int k =>
            cases e1 : s2.sl[i]? with
            | none => simp [e1] at q1; exact q1.elim
            | some z =>
              cases z with
              | ol xs =>
                simp only [Res.bind_ok, e1] at q1
                obtain ⟨a', vs', g1, g2, g3⟩ := own_list ok2 e1
                rw [h1] at g1
                cases g1
                cases e2 : ixN xs.length k with
                | none => rw [e2] at q1; exact q1.elim
                | some j =>
                  rw [e2] at q1
                  refine ⟨a, vs', k, j, rfl, rfl, g2, by rw [g3.length]; exact e2, ?_⟩
                  exact q1 w2 σ _ le2 (ok2.mut e1 rfl rfl h1 ⟨_, upd_same, Reps.set (r1.mono le2) j g3⟩ fun _ _ z => nomatch z)
              | _ => simp only [Res.bind_ok, e1] at q1; exact q1.elim
          | _ => simp only [Res.bind_ok] at q1; exact q1.elim
      | _ => exact q1.elim⟩
/-! ### len of an own list -/
def eLenO (i : Nat) : DE := fun s => match s.sl[i]? with
  | some (.ol xs) => .ok (.int xs.length) s
  | some (.val d) => (match bLen [d] with | some r => .ok r s | none => .stuck)
  | _ => .stuck
/-! ### a property -/
def eProp (c : String) (g : DFn) (f : DE) : DE := fun s => (f s).bind fun d s1 => match insOf d s1 with
  | some (c1, _) => if c1 = c then noX (lift s1 (g [d] s1.st)) else .stuck
  | none => .stuck
theorem pd_prop {c : String} {C p gf : Addr} {k : Nat} {fd : FuncData} {ps : List Str} {g : DFn} {e : Expr} {fe : DE} {f : Str} {pos : Pos} (hC : G.ct c = some C) (hcl : Cls X.K C) (hp : PropOf X.K C f p gf) (F : FnOk X.prog X.w X.K X.mg X.base (L2.CX X.prog X.w) k gf fd ps (spG G 1 g)) (hr : Room (k + 1) X.A) (hb : Binds X.K fd ps [])
    (he : PD G W X e fe) (hab : attributeBase e f X.env (eval e X.env) = eval e X.env := by rfl) : PD G W X (.Attribute e f pos) (eProp c g fe) :=
  (pe_prop (E := fun _ _ _ => False) he hcl hp F hr hb .nil (passes_call takes0 fun _ _ _ _ z => z) hab).imp fun σ H Q ⟨κ, w, s, ok, q⟩ => ⟨κ, w, s, ok, (PostG.bind q).imp fun v H1 ⟨d, s1, w1, le, ok1, r1, q1⟩ => by
    cases e1 : insOf d s1 with
    | none => rw [e1] at q1; exact q1.elim
    | some cf =>
      obtain ⟨c1, fs⟩ := cf
      rw [e1] at q1
      replace q1 : PostG G W (Rep G) κ w1 σ (if c1 = c then noX (lift s1 (g [d] s1.st)) else .stuck) Q := q1
      by_cases hc : c1 = c
      · rw [if_pos hc] at q1
        subst hc
        obtain ⟨a, C', dx, vs, rfl, hC', hH, _⟩ := r1.ins_of ok1 e1
        rw [hC] at hC'
        cases hC'
        refine ⟨a, dx, vs, rfl, hH, rfl, w1, s1.st, [d], ok1.fok, .cons r1 .nil, ?_⟩
        cases eg : g [d] s1.st with
        | stuck => rw [eg] at q1; exact q1.elim
        | exc x S => rw [eg] at q1; exact q1.elim
        | ok d' S => rw [eg] at q1; exact fun w' v H' n fk r => q1 w' v H' n.le (ok1.step n fk) r
      · rw [if_neg hc] at q1
        exact q1.elim⟩
/-! ### constants of the module: texts, numbers, tuples of them -/
def repK (K : PySem.W.Frag) : Nat → Value → D → Bool
  | 0, _, _ => false
  | n + 1, v, d => match v, d with
    | .none, .non => true
    | .bool b, .bl c => b == c
    | .int i _, .int j => i == j
    | .str x _, .str l => x == nm l
    | .ref a, .tup ds => match K.lookup a with
      | some o => o.cls == .type "tuple" && (match o.data with
        | .seq its _ => decide (its.size ≤ 1000) && go n its.toList ds
        | _ => false)
      | none => false
    | _, _ => false
where
  go (n : Nat) : List Value → List D → Bool
  | [], [] => true
  | v :: vs, d :: ds => repK K n v d && go n vs ds
  | _, _ => false
theorem repK_ok {K : PySem.W.Frag} (hK : G.K = K) : ∀ (n : Nat) (v : Value) (d : D), repK K n v d = true → ∃ x, RelV x v ∧ ∀ w, Rep G w x d := by
  intro n
  induction n with
  | zero => intro v d h; simp [repK] at h
  | succ n ih =>
    have goes : ∀ (vs : List Value) (ds : List D), repK.go K n vs ds = true → ∃ xs, Vals xs vs ∧ ∀ w, Reps G w xs ds := by
      intro vs
      induction vs with
      | nil =>
        intro ds h
        cases ds with
        | nil => exact ⟨[], .nil, fun _ => .nil⟩
        | cons _ _ => cases h
      | cons v vs ihv =>
        intro ds h
        cases ds with
        | nil => cases h
        | cons d ds =>
          simp only [repK.go, Bool.and_eq_true] at h
          obtain ⟨x, r1, r2⟩ := ih v d h.1
          obtain ⟨xs, r3, r4⟩ := ihv ds h.2
          exact ⟨x :: xs, .cons r1 r3, fun w => .cons (r2 w) (r4 w)⟩
    intro v d h
    unfold repK at h
    split at h
    · exact ⟨.non, rfl, fun _ => .non⟩
    · rw [beq_iff_eq] at h; subst h; exact ⟨.bl _, rfl, fun _ => .bl _⟩
    · rw [beq_iff_eq] at h; subst h; exact ⟨.int _, ⟨_, rfl⟩, fun _ => .int _⟩
    · rw [beq_iff_eq] at h; subst h; exact ⟨.str _, ⟨_, rfl⟩, fun _ => .str _⟩
    · split at h
      · rename_i o ho
        rw [Bool.and_eq_true, beq_iff_eq] at h
        obtain ⟨h1, h2⟩ := h
        split at h2
        · rename_i its m hd
          rw [Bool.and_eq_true, decide_eq_true_eq] at h2
          obtain ⟨xs, r3, r4⟩ := goes _ _ h2.2
          refine ⟨.ref _, rfl, fun w => .tup (.inr ⟨o, its, m, by rw [hK]; exact ho, h1, hd, by rw [sizeLine_eq]; omega, r3⟩) (r4 w)⟩
        · cases h2
      · cases h
    · cases h
theorem pd_const {x : Str} {v : Value} {d : D} {pos : Pos} (hg : Gl X x) (hm : X.mg x = some v) (hr : ∃ y, RelV y v ∧ ∀ w, Rep G w y d) (hd : (x == ("__debug__" : Str)) = false := by decide) : PD G W X (.Name x pos) (eC d) := by
  obtain ⟨y, r1, r2⟩ := hr
  exact pd_glob hg hm r1 r2 hd
/-! ### text.index(text) -/
def eSix (fo : DE) (fa : DA) : DE := fun s => (fo s).bind fun x s1 => match x with
  | .str a => (fa s1).bind fun ds s2 => match ds with
    | [.str b] => (match Txt.index0 (nm a) (nm b) with | some k => .ok (.int (k : Nat)) s2 | none => .stuck)
    | _ => .stuck
  | _ => .stuck
theorem pd_six {oe e : Expr} {fo : DE} {fa : DA} {apos cpos : Pos} (hc : X.calm = true) (tk : Takes X W) (ho : PD G W X oe fo) (ha : PDA G W X [e] fa)
    (hbase : attributeBase oe "index" X.env (eval oe X.env) = eval oe X.env := by rfl)
    (hfew : ((backTo cpos (starEach [e] X.env)).all (fun x => !x.1) && (backToKw cpos (keywordEach [] X.env)).all (fun x => x.1.isSome)
      && decide ([e].length + ([] : List Keyword).length + (if ([] : List Keyword).isEmpty then 0 else 1) < 30)) = true := by rfl)
    (hline : (apos.endLine == cpos.line) = true := by rfl) (hs : starEach [e] X.env = (false, eval e X.env) :: starEach [] X.env := by rfl) (hplain : (backTo cpos (starEach [] X.env)).any (·.1) = false := by rfl) :
    PD G W X (.Call (.Attribute oe "index" apos) [e] [] cpos) (eSix fo fa) :=
  (pe_bmS PySem.F.plainAttrs_str PySem.F.slot_str_index PySem.F.type_str_index (mt_indexX hc tk) ho ha hbase hfew hline hs hplain).imp fun σ H Q ⟨κ, w, s, ok, q⟩ => ⟨κ, w, s, ok, (PostG.bind q).imp fun v H1 ⟨d, s1, w1, le, ok1, r1, q1⟩ => by
    cases r1 with
    | str a =>
      refine ⟨rfl, κ, w1, s1, ok1, (PostG.bind q1).imp fun vs H2 ⟨ds, s2, w2, le2, ok2, r2, q2⟩ => ?_⟩
      match ds, q2 with
      | [.str b], q2 =>
        cases r2 with
        | cons r2 r3 =>
        cases r3
        cases r2
        replace q2 : PostG G W (Rep G) κ w2 σ (match Txt.index0 (nm a) (nm b) with | some k => .ok (.int (k : Nat)) s2 | none => .stuck) Q := q2
        cases e : Txt.index0 (nm a) (nm b) with
        | none => rw [e] at q2; exact q2.elim
        | some k =>
          rw [e] at q2
          refine ⟨nm a, nm b, rfl, rfl, fun k' hk => ?_, fun hn => ?_⟩
          · rw [e] at hk; cases hk; exact q2 w2 _ H2 (.refl _) ok2 (.int _)
          · rw [e] at hn; cases hn
      | [], q2 => exact q2.elim
      | x :: _ :: _, q2 => cases x <;> exact q2.elim
      | [.non], q2 => exact q2.elim
      | [.bl _], q2 => exact q2.elim
      | [.int _], q2 => exact q2.elim
      | [.tup _], q2 => exact q2.elim
      | [.lst _], q2 => exact q2.elim
      | [.scr _], q2 => exact q2.elim
      | [.dic _], q2 => exact q2.elim
      | [.ins _ _], q2 => exact q2.elim
      | [.cell _], q2 => exact q2.elim
      | [.cls _], q2 => exact q2.elim
      | [.ty _], q2 => exact q2.elim
      | [.fn _], q2 => exact q2.elim
      | [.lam _], q2 => exact q2.elim
    | _ => exact q1.elim⟩
/-! ### a < b < c as a test -/
theorem ptd_chain {op op' : CmpOp} {o o' : D → D → Option D} {a b c : Expr} {fa fb fc : DE} {pos : Pos} (ho : OpD G X (compareOp op) o) (ho' : OpD G X (compareOp op') o') (ha : PD G W X a fa) (hb : PD G W X b fb) (hc : PD G W X c fc)
    (hp : ∀ {r r' : R2} {ta tb tc : TE}, OpR X (compareOp op) r → OpR X (compareOp op') r' → PE X a ta → PE X b tb → PE X c tc → PT X (.Compare a [op, op'] [b, c] pos) (tTest (tChain r r' ta tb tc))) : PDT G W X (.Compare a [op, op'] [b, c] pos) (eB (eChain o o' fa fb fc)) := by
  obtain ⟨r, h1, h2⟩ := ho
  obtain ⟨r', h1', h2'⟩ := ho'
  refine (hp h1 h1' ha hb hc).imp fun σ H Q h => ?_
  obtain ⟨κ, w, s, ok, q⟩ := tB_of h
  refine ⟨κ, w, s, ok, (PostG.bind q).imp fun v H1 ⟨d, s1, w1, le, ok1, r1, q1⟩ => ⟨κ, w1, s1, ok1, (PostG.bind q1).imp fun v2 H2 ⟨d2, s2, w2, le2, ok2, r2, q2⟩ => ?_⟩⟩
  cases e : o d d2 with
  | none => rw [e] at q2; exact q2.elim
  | some z =>
    rw [e] at q2
    refine h2 κ w2 s2 σ H2 v v2 d d2 z _ ok2 (r1.mono le2) r2 e fun w3 v3 H3 l3 o3 r3 => ?_
    cases r3 with
    | bl k =>
      refine ⟨k, rfl, ?_⟩
      cases k with
      | false => exact q2 w3 _ H3 l3 o3 (.bl false)
      | true =>
        refine ⟨κ, w3, s2, o3, (PostG.bind (PostG.mono l3 q2)).imp fun v4 H4 ⟨d4, s4, w4, le4, ok4, r4, q4⟩ => ?_⟩
        cases e' : o' d2 d4 with
        | none => rw [e'] at q4; exact q4.elim
        | some z' => rw [e'] at q4; exact h2' κ w4 s4 σ H4 v2 v4 d2 d4 z' _ ok4 ((r2.mono l3).mono le4) r4 e' q4
    | _ => exact q2.elim
/-! ### readings that raise nothing -/
theorem nx_c (d : D) : ∀ (s : DS), (∀ x s', eC d s ≠ .exc x s') := fun s x s' h => nomatch h
theorem nx_var (i : Nat) : ∀ (s : DS), (∀ x s', eVar i s ≠ .exc x s') := fun s x s' h => by
  unfold eVar at h
  split at h <;> cases h
theorem nx_neg {f : DE} (k : ∀ (s : DS), (∀ x s', f s ≠ .exc x s')) : ∀ (s : DS), (∀ x s', eNeg f s ≠ .exc x s') := fun s x s' h => by
  unfold eNeg at h
  cases e : f s with
  | stuck => rw [e] at h; cases h
  | exc z t => exact k s z t e
  | ok d t =>
    rw [e] at h
    simp only [Res.bind_ok] at h
    split at h <;> cases h
theorem nx_op2 {o : D → D → Option D} {f g : DE} (k : ∀ (s : DS), (∀ x s', f s ≠ .exc x s')) (l : ∀ (s : DS), (∀ x s', g s ≠ .exc x s')) : ∀ (s : DS), (∀ x s', eOp2 o f g s ≠ .exc x s') := fun s x s' h => by
  unfold eOp2 at h
  cases e : f s with
  | stuck => rw [e] at h; cases h
  | exc z t => exact k s z t e
  | ok d t =>
    rw [e] at h
    simp only [Res.bind_ok] at h
    cases e2 : g t with
    | stuck => rw [e2] at h; cases h
    | exc z t' => exact l t z t' e2
    | ok d' t' =>
      rw [e2] at h
      simp only [Res.bind_ok] at h
      split at h <;> cases h
/-! ### an own slot is given away -/
def eFz (i : Nat) (f : DE) : DE := fun s => match s.sl[i]? with
  | some (.ol xs) => f ⟨s.sl.set i (.val (.lst xs)), s.st⟩
  | some (.od kvs) => f ⟨s.sl.set i (.val (.dic kvs)), s.st⟩
  | some (.oi c fs) => f ⟨s.sl.set i (.val (.ins c fs)), s.st⟩
  | _ => f s
theorem pd_fz {i : Nat} {e : Expr} {f : DE} (h : PD G W X e f) : PD G W X e (eFz i f) := h.imp fun σ H Q ⟨κ, w, s, ok, q⟩ => by
  unfold eFz at q
  split at q
  · rename_i xs e
    obtain ⟨a, h1, ⟨vs, h2, h3⟩, _⟩ := ok.own i _ e rfl
    obtain ⟨le, ok'⟩ := ok.freeze (d := .lst xs) e rfl h1 h2 fun w' l f => .lst f (h3.mono l)
    exact ⟨κ, _, _, ok', PostG.mono le q⟩
  · rename_i xs e
    obtain ⟨a, h1, ⟨vs, h2, h3⟩, _⟩ := ok.own i _ e rfl
    obtain ⟨le, ok'⟩ := ok.freeze (d := .dic xs) e rfl h1 h2 fun w' l f => .dic f (h3.mono l)
    exact ⟨κ, _, _, ok', PostG.mono le q⟩
  · rename_i c fs e
    obtain ⟨a, h1, ⟨C, dx, vs, hC, h2, h3⟩, _⟩ := ok.own i _ e rfl
    obtain ⟨le, ok'⟩ := ok.freeze (d := .ins c fs) e rfl h1 h2 fun w' l f => .ins hC f (h3.mono l)
    exact ⟨κ, _, _, ok', PostG.mono le q⟩
  · exact ⟨κ, w, s, ok, q⟩
/-! ### isinstance(x, (A, B)) -/
/-- all items are classes -/
def clsD : D → Bool
  | .ty _ => true
  | .cls _ => true
  | _ => false
def isAny (cs : List String) (t : String ⊕ String) : List D → Option Bool
  | [] => some false
  | c :: r => match isOne cs t c with
    | some true => some true
    | some false => isAny cs t r
    | none => none
def eIsT (cs : List String) (fe : DE) (fa : DA) : DE := fun s => (fe s).bind fun d s1 => (fa s1).bind fun ts s2 => if ts.length ≤ 1000 ∧ ts.all clsD = true then match (tyOfD cs d).bind fun t => isAny cs t ts with
  | some b => .ok (.bl b) s2
  | none => .stuck
  else .stuck
theorem isOne_kit (hK : G.K = X.K) {cs : List String} (I : IsOk G cs) {w : Wd} {t : String ⊕ String} {tv : Value} {c : D} {v : V} {b : Bool} (ht : match t with | .inl a => tv = .type a ∧ a ∈ tyNames | .inr c => c ∈ cs ∧ ∃ C, G.ct c = some C ∧ tv = .ref C) (r : Rep G w v c) (e : isOne cs t c = some b) : ∃ u, ClsV v u ∧ PySem.W.kitOne X.K tv u = some b := by
  cases t with
  | inl a =>
    obtain ⟨rfl, ha⟩ := ht
    cases r with
    | ty n =>
      have e : (if a ∈ tyNames ∧ n ∈ tyNames then some (isTy a n) else none) = some b := e
      split at e
      · rename_i h
        cases e
        exact ⟨_, .ty n, kit_ty (isTy_ok a h.1 n h.2)⟩
      · cases e
    | @cls C n hC =>
      have e : (if a ∈ tyNames ∧ n ∈ cs then some false else none) = some b := e
      split at e
      · rename_i h
        cases e
        exact ⟨_, .own C, hK ▸ (I.bo n h.2 C hC a h.1).2⟩
      · cases e
    | _ => exact nomatch e
  | inr a =>
    obtain ⟨ha, C', hC', rfl⟩ := ht
    cases r with
    | ty n =>
      have e : (if n ∈ tyNames then some false else none) = some b := e
      split at e
      · rename_i h
        cases e
        exact ⟨_, .ty n, hK ▸ (I.bo a ha C' hC' n h).1⟩
      · cases e
    | @cls C n hC =>
      have e : (if n ∈ cs then some (a == n) else none) = some b := e
      split at e
      · rename_i h
        cases e
        exact ⟨_, .own C, hK ▸ I.oo a ha n h C' C hC' hC⟩
      · cases e
    | _ => exact nomatch e
/-- a class value and its object -/
def clsOf : V → Value
  | .ty n => .type n
  | .ref C => .ref C
  | _ => .none
theorem isAny_kit (hK : G.K = X.K) {cs : List String} (I : IsOk G cs) {w : Wd} {t : String ⊕ String} {tv : Value} (ht : match t with | .inl a => tv = .type a ∧ a ∈ tyNames | .inr c => c ∈ cs ∧ ∃ C, G.ct c = some C ∧ tv = .ref C) : ∀ {vs : List V} {ds : List D} {b : Bool}, Reps G w vs ds → ds.all clsD = true → isAny cs t ds = some b → ∃ us, Paired ClsV vs us ∧ PySem.W.kitAny X.K tv us = some b
  | _, _, _, .nil, _, e => by cases e; exact ⟨[], .nil, kitAny_nil⟩
  | _, _, b, .cons (v := v) (d := c) (vs := vs) (ds := ds) r rs, hc, e => by
    rw [List.all_cons, Bool.and_eq_true] at hc
    have rest : ∃ us, Paired ClsV vs us := by
      clear e
      have : ∀ {vs : List V} {ds : List D}, Reps G w vs ds → ds.all clsD = true → ∃ us, Paired ClsV vs us := fun {vs ds} r h => by
        induction ds generalizing vs with
        | nil => cases r; exact ⟨[], .nil⟩
        | cons d ds ih =>
          cases r with
          | cons a b =>
            rw [List.all_cons, Bool.and_eq_true] at h
            obtain ⟨us, hu⟩ := ih b h.2
            cases a with
            | ty n => exact ⟨_, .cons (.ty n) hu⟩
            | @cls C n hC => exact ⟨_, .cons (.own C) hu⟩
            | _ => exact nomatch h.1
      exact this rs hc.2
    simp only [isAny] at e
    split at e
    · rename_i e1
      cases e
      obtain ⟨u, h1, h2⟩ := isOne_kit hK I ht r e1
      obtain ⟨us, hu⟩ := rest
      exact ⟨u :: us, .cons h1 hu, kitAny_cons h2 (fun z => nomatch z) fun _ => rfl⟩
    · rename_i e1
      obtain ⟨u, h1, h2⟩ := isOne_kit hK I ht r e1
      obtain ⟨us, hu, hk⟩ := isAny_kit hK I ht rs hc.2 e
      exact ⟨u :: us, .cons h1 hu, kitAny_cons h2 (fun _ => hk) fun z => nomatch z⟩
    · cases e
theorem pd_isT (hK : G.K = X.K) {cs : List String} (I : IsOk G cs) {x : Str} {p pos pos2 : Pos} {k : Nat} {e : Expr} {es : List Expr} {fe : DE} {fa : DA} (hg : Gl X x) (hm : X.mg x = none) (hv : bootBuiltins x = some (.builtin "isinstance")) (he : PD G W X e fe) (hes : PDA G W X es fa) (hn : x ≠ "__name__" := by decide)
    (hdb : (x == ("__debug__" : Str)) = false := by decide) (h1 : starEach (e :: [Expr.Tuple es k pos2]) X.env = (false, eval e X.env) :: starEach [Expr.Tuple es k pos2] X.env := by rfl) (h2 : starEach [Expr.Tuple es k pos2] X.env = (false, eval (.Tuple es k pos2) X.env) :: starEach [] X.env := by rfl)
    (hpl : (backTo pos (starEach [Expr.Tuple es k pos2] X.env)).any (·.1) = false := by rfl) : PD G W X (.Call (.Name x p) [e, .Tuple es k pos2] [] pos) (eIsT cs fe fa) :=
  (pe_callB call_isiT hg hm hv (pa_cons he (pa_cons (pe_tup hes) pa_nil h2) h1) hn hdb h1 hpl).imp fun σ H Q ⟨κ, w, s, ok, q⟩ => ⟨κ, w, s, ok, (PostG.bind q).imp fun v H1 ⟨d, s1, w1, le, ok1, r1, q1⟩ =>
    ⟨κ, w1, s1, ok1, (PostG.bind q1).imp fun vs H2 ⟨ts, s2, w2, le2, ok2, r2, q2⟩ => by
      by_cases c : ts.length ≤ 1000 ∧ ts.all clsD = true
      · rw [if_pos c] at q2
        refine ⟨by rw [r2.length]; exact sz1000 c.1, fun p hp => ?_⟩
        obtain ⟨le3, ok3⟩ := ok2.alloc hp (.tup vs)
        cases e1 : tyOfD cs d with
        | none => rw [e1] at q2; exact q2.elim
        | some t =>
          rw [e1] at q2
          obtain ⟨tv, ty, ht⟩ := tyX_of hK I ok3 ((r1.mono le2).mono le3) e1
          cases e2 : isAny cs t ts with
          | none => simp only [Option.bind_some, e2] at q2; exact q2.elim
          | some b =>
            simp only [Option.bind_some, e2] at q2
            obtain ⟨us, hu, hk⟩ := isAny_kit hK I (t := t) (tv := tv) (by cases t <;> exact ht) (r2.mono le3) c.2 e2
            exact ⟨v, p, vs, tv, us, b, rfl, upd_same, hu, ty, hk, q2 _ _ _ le3 ok3 (.bl b)⟩
      · rw [if_neg c] at q2
        exact q2.elim⟩⟩
/-! ### x != [] of an own list -/
def eNeO (i : Nat) : DT := fun s => match s.sl[i]? with
  | some (.ol xs) => (match dNe (.lst xs) (.lst []) with | some (.bl b) => .ok b s | _ => .stuck)
  | some (.val d) => (match dNe d (.lst []) with | some (.bl b) => .ok b s | _ => .stuck)
  | _ => .stuck
theorem dNe_parts {x y : D} {b : Bool} (e : dNe x y = some (.bl b)) : ∃ p q, toPy x = some p ∧ toPy y = some q ∧ SeqAt.shaped p = true ∧ SeqAt.shaped q = true ∧ b = !PyData.eqv p q := by
  unfold dNe at e
  cases e1 : toPy x with
  | none => simp [e1] at e
  | some p =>
    cases e2 : toPy y with
    | none => simp [e1, e2] at e
    | some p' =>
      simp only [e1, e2] at e
      split at e
      · rename_i c
        cases e
        rw [Bool.and_eq_true] at c
        exact ⟨p, p', rfl, rfl, c.1, c.2, rfl⟩
      · cases e
theorem ptd_neO (hK : G.K = X.K) (hu : X.A.units + 64 < cLine) {i : Nat} {x : Str} {p pos pos2 : Pos} (ho : PE X (.Name x p) (tVar i)) : PDT G W X (.Compare (.Name x p) [.NotEq] [.List [] pos2] pos) (eNeO i) :=
  (pt_cmpR (op_neD hu) ho (pe_lst pa_nil) (nomark _)).imp fun σ H Q ⟨κ, w, s, ok, q⟩ => by
    unfold eNeO at q
    cases e : s.sl[i]? with
    | none => rw [e] at q; exact q.elim
    | some y =>
      rw [e] at q
      cases y with
      | ol xs =>
        replace q : PostG G W (fun _ (v : Bool) d => v = d) κ w σ (match dNe (.lst xs) (.lst []) with | some (.bl b) => .ok b s | _ => .stuck) Q := q
        obtain ⟨a, vs, h1, h2, h3⟩ := own_list ok e
        refine ⟨.ref a, h1, by decide, fun p hp => ?_⟩
        split at q
        · rename_i b e1
          obtain ⟨p1, p2, t1, t2, c1, c2, rfl⟩ := dNe_parts e1
          obtain ⟨le2, ok2⟩ := ok.alloc hp (.lst [])
          obtain ⟨a', h1', ⟨vs', h2', h3'⟩, _⟩ := ok2.own i _ e rfl
          obtain ⟨le3, ok3⟩ := ok2.freeze (d := .lst xs) e rfl h1' h2' fun w' l f => .lst f (h3'.mono l)
          rw [h1] at h1'
          cases h1'
          have r1 : Dp X.K _ (.ref a) p1 := Rep.py hK ok3 (.lst upd_same (h3'.mono le3)) t1
          have r2 : Dp X.K _ (.ref p) p2 := Rep.py hK ok2 (.lst upd_same .nil) t2
          exact ⟨p1, p2, r1, r2, c1, c2, _, rfl, q _ _ _ le2 ok2 rfl⟩
        · exact q.elim
      | val d =>
        replace q : PostG G W (fun _ (v : Bool) d => v = d) κ w σ (match dNe d (.lst []) with | some (.bl b) => .ok b s | _ => .stuck) Q := q
        obtain ⟨v, h1, r1⟩ := ok.val i d e
        refine ⟨v, h1, by decide, fun p hp => ?_⟩
        split at q
        · rename_i b e1
          obtain ⟨p1, p2, t1, t2, c1, c2, rfl⟩ := dNe_parts e1
          obtain ⟨le2, ok2⟩ := ok.alloc hp (.lst [])
          have r2 : Dp X.K _ (.ref p) p2 := Rep.py hK ok2 (.lst upd_same .nil) t2
          exact ⟨p1, p2, Rep.py hK ok2 (r1.mono le2) t1, r2, c1, c2, _, rfl, q _ _ _ le2 ok2 rfl⟩
        · exact q.elim
      | _ => exact q.elim
end
end DL
set_option maxRecDepth 100000
set_option maxHeartbeats 4000000
set_option autoImplicit false
namespace DL
open PySem PySem.Spec PyProof.Rows L2
section
variable {G : Gam} {W : WX} {X : Cx}
/-! ### a, b, c = [], [], x with lists of one's own -/
def sPar3O (i j l : Nat) (f1 f2 : DA) (f3 : DE) : DStm := fun s => match f1 s with
  | .ok xs s1 => match f2 s1 with
    | .ok ys s2 => match f3 s2 with
      | .ok d s3 => .ok .nx ⟨((s3.sl.set i (.ol xs)).set j (.ol ys)).set l (.val d), s3.st⟩
      | _ => .stuck
    | _ => .stuck
  | _ => .stuck
theorem pds_par3O {i j l : Nat} {x y z : Str} {a b c : Expr} {f1 f2 : DA} {f3 : DE} {px py pz pt pos : Pos} {kt k2 : Nat} {pt2 : Pos} (hc : X.calm = true) (hN : X.N.Nodup) (hi : X.N[i]? = some x) (hj : X.N[j]? = some y) (hl : X.N[l]? = some z) (hij : i ≠ j) (hil : i ≠ l) (hjl : j ≠ l)
    (hx : X.env.scope.names.lookup x = some .local) (hy : X.env.scope.names.lookup y = some .local) (hz : X.env.scope.names.lookup z = some .local) (ha : PDo G W X a f1) (hb : PDo G W X b f2) (hd : PD G W X c f3)
    (hw : swappedStores [.Tuple [.Name x px, .Name y py, .Name z pz] kt pt] (.Tuple [a, b, c] k2 pt2) X.env = pure (some [x, y, z]))
    (hs : swapsWithSole [.Tuple [.Name x px, .Name y py, .Name z pz] kt pt] (.Tuple [a, b, c] k2 pt2) pos.line X.env = pure false := by rfl)
    (s1 : starEach [a, b, c] X.env = (false, eval a X.env) :: starEach [b, c] X.env := by rfl) (s2 : starEach [b, c] X.env = (false, eval b X.env) :: starEach [c] X.env := by rfl) (s3 : starEach [c] X.env = (false, eval c X.env) :: starEach [] X.env := by rfl) :
    PDS G W X (.Assign [.Tuple [.Name x px, .Name y py, .Name z pz] kt pt] (.Tuple [a, b, c] k2 pt2) pos) (sPar3O i j l f1 f2 f3) :=
  (ps_par3 hc hN hi hj hl hij hil hjl hx hy hz (pa_cons ha (pa_cons hb (pa_cons hd pa_nil s3) s2) s1) hw hs).imp fun N σ H ⟨κ, w, s, ok, q⟩ => by
    unfold sPar3O at q
    cases e1 : f1 s with
    | stuck => rw [e1] at q; exact q.elim
    | exc x s' => rw [e1] at q; exact q.elim
    | ok xs s1 =>
      rw [e1] at q
      simp only at q
      refine ⟨κ, w, s, ok, ?_⟩
      rw [e1]
      intro w1 a vs H1 l1 ok1 g1 r1
      cases e2 : f2 s1 with
      | stuck => rw [e2] at q; exact q.elim
      | exc x s' => rw [e2] at q; exact q.elim
      | ok ys s2 =>
        rw [e2] at q
        simp only at q
        refine ⟨_, w1, s1, ok1, ?_⟩
        rw [e2]
        intro w2 b us H2 l2 ok2 g2 r2
        cases e3 : f3 s2 with
        | stuck => rw [e3] at q; exact q.elim
        | exc x s' => rw [e3] at q; exact q.elim
        | ok d s3 =>
          rw [e3] at q
          simp only at q
          refine ⟨_, w2, s2, ok2, ?_⟩
          rw [e3]
          intro w3 v H3 l3 ok3 r3
          refine ⟨_, _, _, rfl, ?_⟩
          have h1 := ok3.setOwn (y := .ol ys) g2 ⟨us, (ok3.gam (b, .lst us) List.mem_cons_self).1, r2.mono l3⟩ rfl (fun _ _ z => nomatch z) j
          have h2 := h1.setOwn (y := .ol xs) g1 ⟨vs, (h1.gam (a, .lst vs) List.mem_cons_self).1, (r1.mono l2).mono l3⟩ rfl (fun _ _ z => nomatch z) i
          have h3 := h2.setVal r3 l
          rw [List.set_comm _ _ hij] 
          rw [List.set_comm _ _ hij] at q
          exact q w3 _ H3 (l1.trans (l2.trans l3)) h3
/-! ### is True, is False -/
def dIsB : D → D → Option D := fun x y => match x, y with
  | .bl a, .bl b => some (.bl (decide (a = b)))
  | _, _ => none
def dNotB : D → D → Option D := fun x y => match x, y with
  | .bl a, .bl b => some (.bl (!decide (a = b)))
  | _, _ => none
theorem opd_isB : OpD G X (compareOp .Is) dIsB := ⟨_, op_isBl, fun κ w s σ H x y dx dy d Q ok rx ry e q => by
  cases rx with
  | bl a =>
    cases ry with
    | bl b =>
      cases e
      exact ⟨_, _, rfl, rfl, q w _ H (.refl _) ok (.bl _)⟩
    | _ => exact nomatch e
  | _ => exact nomatch e⟩
theorem opd_notB : OpD G X (compareOp .IsNot) dNotB := ⟨_, op_notBl, fun κ w s σ H x y dx dy d Q ok rx ry e q => by
  cases rx with
  | bl a =>
    cases ry with
    | bl b =>
      cases e
      exact ⟨_, _, rfl, rfl, q w _ H (.refl _) ok (.bl _)⟩
    | _ => exact nomatch e
  | _ => exact nomatch e⟩
/-! ### a, b = a list of two -/
def gTA (n : Nat) (g : List D → DS → Res DS Unit) : DG := fun d s => match d with
  | .tup ds => if ds.length = n then g ds s else .stuck
  | .lst ds => if ds.length = n then g ds s else .stuck
  | _ => .stuck
theorem pdg_any (hK : G.K = X.K) {es : List Expr} {is : List Nat} {k : Nat} {g : List D → DS → Res DS Unit} {n : Nat} {pos : Pos} (hc : X.calm = true) (h : PDGs G X es is g)
    (hn : (assignEach es X.env).length = n := by rfl) (hst : (assignEach es X.env).findIdx? (·.1) = none := by rfl) : PDG G X (.Tuple es k pos) is (gTA n g) :=
  ⟨fun pins s0 σ H v u Q I r0 ⟨κ, w, s, d, ok, r, q⟩ => by
    cases r with
    | @tup a vs ds e r =>
      by_cases c : ds.length = n
      · have q : PostT G is σ κ w (if ds.length = n then g ds s else .stuck) Q := q
        rw [if_pos c] at q
        exact (pg_tup hc h hn hst).run pins s0 σ H _ u Q I r0 ⟨a, vs, rfl, hK ▸ SqT.le e ok.fok.sub, by rw [r.length]; exact c, κ, w, s, ds, ok, r, q⟩
      · have q : PostT G is σ κ w (if ds.length = n then g ds s else .stuck) Q := q
        rw [if_neg c] at q
        exact q.elim
    | @lst a vs ds e r =>
      by_cases c : ds.length = n
      · have q : PostT G is σ κ w (if ds.length = n then g ds s else .stuck) Q := q
        rw [if_pos c] at q
        exact (pg_unl hc h hn hst).run pins s0 σ H _ u Q I r0 ⟨a, vs, rfl, .inl (.inl (ok.fok.sub _ _ e)), by rw [r.length]; exact c, κ, w, s, ds, ok, r, q⟩
      · have q : PostT G is σ κ w (if ds.length = n then g ds s else .stuck) Q := q
        rw [if_neg c] at q
        exact q.elim
    | _ => exact q.elim⟩
/-! ### text * number -/
theorem op_smul : OpR X (binaryOp .Mult) (fun x y H Q => ∃ (i : Str) (n : Int), x = .str i ∧ y = .int n ∧ i.length ≤ 100 ∧ -100000 ≤ n ∧ n ≤ 100000 ∧ Q (.str (Txt.mul i n)) H) := by
  intro pins s σ H x y v u Q I rx ry h
  obtain ⟨i, n, rfl, rfl, hz, h0, h1, q⟩ := h
  obtain ⟨t, rfl⟩ := rx
  obtain ⟨t', rfl⟩ := ry
  refine SB.mul ⟨?_, fun hn _ => ?_, fun hn _ => ?_⟩ fun t' k => ⟨.str (Txt.mul i n), H, I.tok _, ⟨_, rfl⟩, q⟩
  · rw [decide_eq_false (by omega), decide_eq_false (by omega)]; rfl
  · have : (i.length : Int) ≤ (2 ^ 63 - 1) / n := by
      rw [Int.le_ediv_iff_mul_le (by omega)]
      have := Int.mul_le_mul (show (i.length : Int) ≤ 100 by omega) h1 (by omega) (by omega)
      omega
    omega
  · unfold Builtin.Str.tooLong
    have := Nat.mul_le_mul hz (show n.toNat ≤ 100000 by omega)
    rw [decide_eq_false]
    rw [Nat.not_lt]
    exact Nat.le_trans this (by decide)
theorem foldl_repN (l : List Nat) : ∀ (k : Nat) (acc : List Nat), (List.replicate k l.toArray).foldl (· ++ ·) acc.toArray = (acc ++ (List.replicate k l).flatten).toArray
  | 0, acc => by simp
  | k + 1, acc => by
    rw [List.replicate_succ, List.foldl_cons, List.append_toArray, foldl_repN l k (acc ++ l), List.replicate_succ, List.flatten_cons, List.append_assoc]
theorem mul_nm (l : Nm) (n : Int) : Txt.mul (nm l) n = nm (List.replicate n.toNat l).flatten := by
  unfold Txt.mul
  by_cases c : n < 1
  · rw [if_pos c, show n.toNat = 0 by omega]
    rfl
  · rw [if_neg c]
    by_cases c2 : (n == 1 || (nm l).length == 0) = true
    · rw [if_pos c2]
      rw [Bool.or_eq_true] at c2
      rcases c2 with c2 | c2
      · have : n = 1 := by simpa using c2
        subst this
        simp
      · have hl : l = [] := by
          have := (beq_iff_eq.mp c2)
          rw [nm_len] at this
          exact List.eq_nil_of_length_eq_zero this
        subst hl
        simp
    · rw [if_neg c2]
      have := foldl_repN l n.toNat []
      rw [List.nil_append] at this
      unfold nm
      rw [← this]
def sMul : D → D → Option D := fun x y => match x, y with
  | .str l, .int n => if l.length ≤ 100 ∧ -100000 ≤ n ∧ n ≤ 100000 then some (.str (List.replicate n.toNat l).flatten) else none
  | _, _ => none
theorem opd_smul : OpD G X (binaryOp .Mult) sMul := ⟨_, op_smul, fun κ w s σ H x y dx dy d Q ok rx ry e q => by
  cases rx with
  | str l =>
    cases ry with
    | int n =>
      have e : (if l.length ≤ 100 ∧ -100000 ≤ n ∧ n ≤ 100000 then some (D.str (List.replicate n.toNat l).flatten) else none) = some d := e
      split at e
      · rename_i c
        cases e
        refine ⟨nm l, n, rfl, rfl, by rw [nm_len]; exact c.1, c.2.1, c.2.2, ?_⟩
        rw [mul_nm]
        exact q w _ H (.refl _) ok (.str _)
      · cases e
    | _ => exact nomatch e
  | _ => exact nomatch e⟩
/-! ### tuple + tuple, empty ones too -/
def tAdd : D → D → Option D := fun x y => match x, y with
  | .tup a, .tup b => if a.length + b.length ≤ 1000000 then some (.tup (a ++ b)) else none
  | _, _ => none
theorem opd_tadd (hK : G.K = X.K) : OpD G X (binaryOp .Add) tAdd := ⟨_, op_catA, fun κ w s σ H x y dx dy d Q ok rx ry e q => by
  cases rx with
  | @tup a vs ds e1 r1 =>
    cases ry with
    | @tup a2 vs2 ds2 e2 r2 =>
      have e : (if ds.length + ds2.length ≤ 1000000 then some (D.tup (ds ++ ds2)) else none) = some d := e
      split at e
      · rename_i c
        cases e
        refine ⟨a, a2, vs, vs2, rfl, rfl, hK ▸ SqT.le e1 ok.fok.sub, hK ▸ SqT.le e2 ok.fok.sub, by rw [r1.length, r2.length, sizeLine_eq]; omega, fun z => ?_, fun _ z => ?_, fun _ _ p hp => ?_⟩
        · subst z
          cases r1
          exact q w _ H (.refl _) ok (.tup e2 r2)
        · subst z
          cases r2
          rw [List.append_nil] at q
          exact q w _ H (.refl _) ok (.tup e1 r1)
        · obtain ⟨le2, ok2⟩ := ok.alloc hp (.tup (vs ++ vs2))
          exact q _ _ _ le2 ok2 (.tup (.inl (.inl upd_same)) ((r1.append r2).mono le2))
      · cases e
    | _ => exact nomatch e
  | _ => exact nomatch e⟩
/-! ### max(xs), min(xs) of a list of ints -/
def mxL : List Int → Int
  | [] => 0
  | [x] => x
  | x :: y :: r => if mxL (y :: r) > x then mxL (y :: r) else x
def mnL : List Int → Int
  | [] => 0
  | [x] => x
  | x :: y :: r => if mnL (y :: r) < x then mnL (y :: r) else x
theorem mxL_mem : ∀ {l : List Int}, l ≠ [] → mxL l ∈ l ∧ ∀ y ∈ l, y ≤ mxL l
  | [], h => absurd rfl h
  | [x], _ => ⟨by simp [mxL], fun y hy => by simp at hy; subst hy; simp [mxL]⟩
  | x :: y :: r, _ => by
    obtain ⟨h1, h2⟩ := mxL_mem (l := y :: r) (by simp)
    unfold mxL
    split
    · refine ⟨List.mem_cons_of_mem _ h1, fun z hz => ?_⟩
      rcases List.mem_cons.mp hz with rfl | hz
      · omega
      · exact h2 z hz
    · refine ⟨List.mem_cons_self .., fun z hz => ?_⟩
      rcases List.mem_cons.mp hz with rfl | hz
      · omega
      · have := h2 z hz; omega
theorem mnL_mem : ∀ {l : List Int}, l ≠ [] → mnL l ∈ l ∧ ∀ y ∈ l, mnL l ≤ y
  | [], h => absurd rfl h
  | [x], _ => ⟨by simp [mnL], fun y hy => by simp at hy; subst hy; simp [mnL]⟩
  | x :: y :: r, _ => by
    obtain ⟨h1, h2⟩ := mnL_mem (l := y :: r) (by simp)
    unfold mnL
    split
    · refine ⟨List.mem_cons_of_mem _ h1, fun z hz => ?_⟩
      rcases List.mem_cons.mp hz with rfl | hz
      · omega
      · exact h2 z hz
    · refine ⟨List.mem_cons_self .., fun z hz => ?_⟩
      rcases List.mem_cons.mp hz with rfl | hz
      · omega
      · have := h2 z hz; omega
def bMaxL : List D → Option D
  | [.lst xs] => match intsOf xs with
    | some (n :: ns) => some (.int (mxL (n :: ns)))
    | _ => none
  | _ => none
def bMinL : List D → Option D
  | [.lst xs] => match intsOf xs with
    | some (n :: ns) => some (.int (mnL (n :: ns)))
    | _ => none
  | _ => none
theorem cd_maxL (hc : X.calm = true) : CallD G X (.builtin "max") bMaxL := ⟨_, cr_max hc, fun κ w s σ H vs ds d Q ok rs e q => by
  match ds, e with
  | [.lst xs], e =>
    have e : (match intsOf xs with | some (n :: ns) => some (D.int (mxL (n :: ns))) | _ => none) = some d := e
    cases e1 : intsOf xs with
    | none => rw [e1] at e; cases e
    | some l =>
      rw [e1] at e
      cases l with
      | nil => cases e
      | cons n ns =>
        cases e
        obtain ⟨v, rfl, r⟩ := rs.one
        cases r with
        | @lst a vs ds e r =>
          rw [intsOf_eq e1] at r
          rw [r.ints] at e
          refine ⟨a, n :: ns, rfl, .inl (.inl (ok.fok.sub _ _ e)), by simp, fun m h1 h2 => ?_⟩
          obtain ⟨h3, h4⟩ := mxL_mem (l := n :: ns) (by simp)
          have : m = mxL (n :: ns) := Int.le_antisymm (h4 m h1) (h2 _ h3)
          subst this
          exact q w _ H (.refl _) ok (.int _)⟩
theorem cd_minL (hc : X.calm = true) : CallD G X (.builtin "min") bMinL := ⟨_, cr_min hc, fun κ w s σ H vs ds d Q ok rs e q => by
  match ds, e with
  | [.lst xs], e =>
    have e : (match intsOf xs with | some (n :: ns) => some (D.int (mnL (n :: ns))) | _ => none) = some d := e
    cases e1 : intsOf xs with
    | none => rw [e1] at e; cases e
    | some l =>
      rw [e1] at e
      cases l with
      | nil => cases e
      | cons n ns =>
        cases e
        obtain ⟨v, rfl, r⟩ := rs.one
        cases r with
        | @lst a vs ds e r =>
          rw [intsOf_eq e1] at r
          rw [r.ints] at e
          refine ⟨a, n :: ns, rfl, .inl (.inl (ok.fok.sub _ _ e)), by simp, fun m h1 h2 => ?_⟩
          obtain ⟨h3, h4⟩ := mnL_mem (l := n :: ns) (by simp)
          have : m = mnL (n :: ns) := Int.le_antisymm (h2 _ h3) (h4 m h1)
          subst this
          exact q w _ H (.refl _) ok (.int _)⟩
/-! ### range(i, j, c) -/
def rngC (lo c : Int) (n : Nat) : List D := (List.range n).map fun (i : Nat) => D.int (lo + (i : Int) * c)
theorem itOk_rngC {w : Wd} (lo c : Int) (n : Nat) : ItOk G w (Itc lo c n) (rngC lo c n) := by
  intro w1 S H le fok i
  refine ⟨fun d hd => ?_, fun hn => ?_⟩
  · unfold rngC at hd
    rw [List.getElem?_map] at hd
    by_cases c : i < n
    · rw [List.getElem?_range c] at hd
      cases hd
      refine ⟨c, fun x H' ⟨hH, hx⟩ => ⟨w1, ?_, ?_, ?_⟩⟩
      · rw [hH]; exact .refl _ _
      · rw [hH]; exact fok
      · rw [hx]; exact .int _
    · rw [List.getElem?_eq_none (by rw [List.length_range]; omega)] at hd
      cases hd
  · have := List.getElem?_eq_none_iff.mp hn
    unfold rngC at this
    rw [List.length_map, List.length_range] at this
    exact this
def itR3 (f : DA) : DA := fun s => (f s).bind fun ds s1 => match ds with
  | [.int i, .int j, .int c] => if c ≠ 0 ∧ c.natAbs < 1073741824 ∧ Builtin.Range.small i j c = true ∧ 0 ≤ Builtin.Range.rangeSize i j c then .ok (rngC i c (Builtin.Range.rangeSize i j c).toNat) s1 else .stuck
  | _ => .stuck
theorem pdi_range3 {tg a b c : Expr} {f : DA} {p pos : Pos} (hg : Gl X "range") (hm : X.mg "range" = none) (ha : PDA G W X [a, b, c] f) (hs : starEach [a, b, c] X.env = (false, eval a X.env) :: starEach [b, c] X.env := by rfl) (hpl : (backTo pos (starEach [b, c] X.env)).any (·.1) = false := by rfl) :
    PDI G W X tg (.Call (.Name "range" p) [a, b, c] [] pos) (itR3 f) :=
  (pi_range3 hg hm ha hs hpl).imp fun σ H R ⟨κ, w, s, ok, q⟩ => ⟨κ, w, s, ok, (PostG.bindI q).imp fun v H1 ⟨d, s1, w1, le, ok1, r1, q1⟩ => by
    match d, q1, r1 with
    | [.int i, .int j, .int c], q1, .cons (.int _) (.cons (.int _) (.cons (.int _) .nil)) =>
      have q1 : PostI G W κ w1 σ (if c ≠ 0 ∧ c.natAbs < 1073741824 ∧ Builtin.Range.small i j c = true ∧ 0 ≤ Builtin.Range.rangeSize i j c then .ok (rngC i c (Builtin.Range.rangeSize i j c).toNat) s1 else .stuck) R := q1
      by_cases cc : c ≠ 0 ∧ c.natAbs < 1073741824 ∧ Builtin.Range.small i j c = true ∧ 0 ≤ Builtin.Range.rangeSize i j c
      · rw [if_pos cc] at q1
        exact ⟨i, j, c, _, rfl, ⟨cc.1, cc.2.1, cc.2.2.1, (Int.toNat_of_nonneg cc.2.2.2).symm⟩, q1 w1 _ H1 (.refl _) ok1 (itOk_rngC i c _)⟩
      · rw [if_neg cc] at q1
        exact q1.elim⟩
end
end DL
set_option maxRecDepth 100000
set_option maxHeartbeats 4000000
set_option autoImplicit false
namespace DL
open PySem PySem.Spec PyProof.Rows L2
/-! ### raise C(), the class with no __init__ of its own -/
abbrev veM : List Value := [.type "ValueError", .type "Exception", .type "BaseException", .type "object"]
def x0B (K : PySem.W.Frag) (C : Addr) : Bool := PySem.W.excIn K C veM "ValueError.__new__" && (PySem.W.keepIn K (.ref C) && ((PySem.W.subIn K (.ref C) (.type "BaseException") == some true) && (PySem.W.typeIn K (.ref C) == some (.type "type"))))
def sRaise0 (c : String) : DStm := fun s => .exc ⟨c, []⟩ s
@[simp] theorem r_sRaise0 (c : String) (s : DS) : sRaise0 c s = .exc ⟨c, []⟩ s := rfl
section
variable {G : Gam} {W : WX} {X : Cx}
theorem pmk_own0 {C : Addr} {x : Str} {p pos : Pos} (hB : x0B X.K C = true) (gC : X.mg x = some (.ref C)) (hg : Gl X x) (hdb : (x == ("__debug__" : Str)) = false := by decide) :
    PMk X (.Call (.Name x p) [] [] pos) (fun σ H Q => Q (.ref C) none H) := by
  unfold x0B at hB
  simp only [Bool.and_eq_true, beq_iff_eq] at hB
  obtain ⟨q, kC, b1, b2⟩ := hB
  intro pins s σ H Q I h
  refine wpAny_Call_Name_kw (ld_glob I hg gC ?_ hdb)
  refine PySem.W.callWith_K0 I.kIn kC ?_
  obtain ⟨bm, N, nm, qn, bs, hdct, sn, sub, ab, col, dd, k0, k1, k2, k3, k5, mN, hC, hN, hni, T⟩ := exc_obj I.kIn q
  refine wpAny_call_exc_subT PySem.F.excBase_ValueError T hC hN hni (fun h' e hm => ?_) (by show 0 ≤ sizeLine; rw [sizeLine_eq]; omega)
  exact mk_of I hm (raises_own b1 b2) h (I.hok.gone hm.new)
theorem pds_raise0 {c : String} {C : Addr} {x : Str} {p pos pos' : Pos} (hc : X.calm = true) (tk : Takes X W) (hct : G.ct c = some C) (hB : x0B X.K C = true) (hg : Gl X x) (hm : X.mg x = some (.ref C)) (hdb : (x == ("__debug__" : Str)) = false := by decide) :
    PDS G W X (.Raise (some (.Call (.Name x p) [] [] pos)) none pos') (sRaise0 c) :=
  (ps_raise hc tk (pmk_own0 hB hm hg hdb)).imp fun N σ H ⟨κ, w, s, ok, q⟩ => q w σ (.ref C) none H (.refl _) ok ⟨C, hct, rfl, .inl ⟨rfl, rfl⟩⟩
end
end DL
set_option maxRecDepth 100000
set_option maxHeartbeats 4000000
set_option autoImplicit false
namespace DL
open PySem PySem.Spec PyProof.Rows L2
/-! ### a comprehension whose element calls a def with a lambda of the maker: the maker's own state goes along -/
section
variable {X : Cx}
theorem lcK {elt tg iter : Expr} {ifs : List Expr} {scope : Scope} {own : List (Str × Nat)} {pos : Pos} {wi : TI} {g : TG} {tt : TT} {te : TE} (hc : X.calm = true) (hN : X.N.Nodup) (hi : PI X tg iter wi) (ok : BlkOk X.N X.env.scope scope own)
    (hg : ∀ (s : Shared) (H : Hp) (C : Addr) (cl : List (Str × Addr)) (fp : List Addr), PG (X.blk s H scope (compEnvC scope cl C X.env) fp) tg g) (ht : ∀ (s : Shared) (H : Hp) (C : Addr) (cl : List (Str × Addr)) (fp : List Addr), PTs (X.blk s H scope (compEnvC scope cl C X.env) fp) ifs tt)
    (he : ∀ (pins : List (Addr × Obj)) (σ : L2.St) (s : Shared) (H : Hp) (C : Addr) (cl : List (Str × Addr)) (fp : List Addr), Inv X pins σ H s → (∀ b ∈ fp, FpOk X pins H b) → PE (X.blk s H scope (compEnvC scope cl C X.env) fp) elt (fun σ' H' Q => L2.wipe σ' (own.map (·.2)) = L2.wipe σ (own.map (·.2)) ∧ te σ' H' Q)) (hs : ∀ x, foldedSetIterable iter X.env x = pure x := by intro _; rfl) :
    PE X (.ListComp elt [⟨tg, iter, ifs, 0⟩] scope pos) (tLc wi g tt te (own.map (·.2))) := by
  refine ⟨fun pins s σ H Q I h => ?_⟩
  rw [eval_ListComp]
  have fr : ∀ y ∈ scope.names, y.2 = .free → ∃ c, X.env.cells.lookup y.1 = some c := fun y hy e => (ok.free y hy e).elim (fun k => I.ok.has _ (.inl k)) fun k => I.ok.has _ (.inr k)
  refine wpAny_comprehension_free (use := none) rfl hs (closure_ok fr) ok.kind (fun y hy e => by rw [ok.uniq y hy, e])
    (thn (hi.run pins s σ H _ I h) fun xv s1 hx => thn hx fun itv s2 h2 => ?_)
  obtain ⟨it, fp, tn, J, H2, rfl, I2, T, st2, f2, q⟩ := h2
  refine wpAny_newObj_type (newEnv_comp ?_) (by show 0 ≤ sizeLine; decide)
  generalize hD : s2.heap.objs.size = D
  have nD : H2 D = none := I2.hok.fresh (Nat.le_of_eq hD)
  obtain ⟨Wv, ⟨m0, w0⟩, turn⟩ := q D nD
  generalize e3 : ({ s2 with heap := s2.heap.push { cls := .type "list", data := .seq ([] : List Value).toArray } } : Shared) = s3
  have hh : s3.heap = s2.heap.push { cls := .type "list", data := .seq ([] : List Value).toArray } := by rw [← e3]
  have I3 : Inv X pins σ (upd H2 D (.lst [])) s3 := by
    rw [← e3]
    refine I2.laid (t' := s2.toks) (fun b o e => Heap.get?_push_of_some _ e) (Nat.le_of_eq hD) ⟨Nat.zero_le _, [], 0, .nil, ?_⟩
    rw [← hD]
    exact Heap.get?_push_size _ rfl
  have lt2 : ∀ b ∈ fp, b < s2.heap.objs.size := fun b hb => let ⟨_, e, _⟩ := T.obj _ _ st2 b hb; Heap.lt_size e
  have f3 : ∀ b ∈ fp, FpOk X pins (upd H2 D (.lst [])) b ∧ b < s3.heap.objs.size := fun b hb =>
    ⟨⟨by rw [upd_ne (by rw [← hD]; exact Nat.ne_of_lt (lt2 b hb))]; exact (f2 b hb).1, (f2 b hb).2⟩, by rw [hh, Heap.size_push]; exact Nat.lt_succ_of_lt (lt2 b hb)⟩
  have st3 : tn 0 s3.heap := T.keep _ _ _ st2 fun b _ o e => by rw [hh]; exact Heap.get?_push_of_some _ e
  have I4 := block_start I3 ok hN f3
  show codeAny _ _ (.compStart (.ListComp elt [⟨tg, iter, ifs, 0⟩] scope pos) 0 (.ref it) (.ref D) (compEnvC scope (cellsFrom (s3.heap.objs.size + 1) scope.names (cloFrom X.env.cells scope.names [])) s3.heap.objs.size X.env)) (compPost (model X.prog X.w) X.A X.xe none (EP X pins σ Q) (.ref D) s3.heap.objs.size) { s3 with heap := pushCells (s3.heap.push { cls := .type "dict", data := .dict #[] }) scope.names }
  have pg := hg s3 (upd H2 D (.lst [])) s3.heap.objs.size (cellsFrom (s3.heap.objs.size + 1) scope.names (cloFrom X.env.cells scope.names [])) fp
  have pt := ht s3 (upd H2 D (.lst [])) s3.heap.objs.size (cellsFrom (s3.heap.objs.size + 1) scope.names (cloFrom X.env.cells scope.names [])) fp
  have pe := he pins σ s3 (upd H2 D (.lst [])) s3.heap.objs.size (cellsFrom (s3.heap.objs.size + 1) scope.names (cloFrom X.env.cells scope.names [])) fp I3 fun b hb => (f3 b hb).1
  have nfp : ∀ b ∈ fp, (upd H2 D (.lst [])) b = none := fun b hb => (f3 b hb).1.1
  generalize hce : compEnvC scope (cellsFrom (s3.heap.objs.size + 1) scope.names (cloFrom X.env.cells scope.names [])) s3.heap.objs.size X.env = ce at I4 pg pt pe ⊢
  have cL : ce.locals = s3.heap.objs.size := by subst hce; rfl
  generalize upd H2 D (.lst []) = H3 at I3 I4 pg pt pe w0 nfp f3
  generalize hs4 : ({ s3 with heap := pushCells (s3.heap.push { cls := .type "dict", data := .dict #[] }) scope.names } : Shared) = s4 at I4 ⊢
  have st4 : tn 0 s4.heap := T.keep _ _ _ st3 fun b _ o e => by rw [← hs4]; exact pushCells_keeps _ _ _ _ (Heap.get?_push_of_some _ e)
  have stat : ∀ {σ' : L2.St} {H' : Hp} {s' : Shared}, Inv (X.blk s3 H3 scope ce fp) [] σ' H' s' → (∀ b ∈ fp, H' b = none) → ∀ b ∈ fp, FpOk (X.blk s3 H3 scope ce fp) [] H' b := fun {σ' H' s'} I' hn b hb =>
    ⟨hn b hb, (I'.ok.exf b hb).1, I'.ok.exfs b hb, .inl hb, (I'.ok.exf b hb).2, fun p hp => absurd (show p ∈ ([] : List (Addr × Obj)) ++ [] from hp) (by simp)⟩
  have loop : codeAny (model X.prog X.w) X.A (.compLoop (.ListComp elt [⟨tg, iter, ifs, 0⟩] scope pos) 0 (.ref it) (.ref D) ce) (compPost (model X.prog X.w) X.A X.xe none (EP X pins σ Q) (.ref D) s3.heap.objs.size) s4 := by
    refine compLoop_any (fun n s' => ∃ i H', Inv (X.blk s3 H3 scope ce fp) [] (L2.wipe σ (own.map (·.2))) H' s' ∧ tn i s'.heap ∧ (∀ b ∈ fp, H' b = none) ∧ Wv i n H') ?_ m0 ⟨0, H3, I4, st4, nfp, w0⟩
    rintro n s5 ⟨i, H5, I5, st5, n5, w5⟩
    rcases turn i n H5 w5 with ⟨stop, qq⟩ | ⟨go, Nx, hNx, step⟩
    · refine thnF (T.done (X.blk s3 H3 scope ce fp) rfl rfl rfl hc i [] s5 _ H5 (fun _ _ => False) I5 (stat I5 n5) st5 stop) fun r s6 ⟨hr, I6⟩ => ?_
      subst hr
      have I7 : Inv X pins σ H5 s6 := I3.call' (ch := fp) I6.os I6.base I6.hok I6.bare fun b hb => ⟨(f3 b hb).1.2.2.2.1, (f3 b hb).1.2.1, (f3 b hb).1.2.2.2.2.1, (f3 b hb).1.2.2.2.2.2⟩
      have nC : H5 s3.heap.objs.size = none := by
        have z : H5 ce.locals = none := I6.free
        rw [cL] at z
        exact z
      obtain ⟨m, hn, _⟩ := I6.loc
      have hn : s6.heap.Ns ce.locals m := hn
      rw [cL] at hn
      obtain ⟨f0, f1, f2, f3, f4, f5⟩ := I3.fpOk (Nat.le_refl _) nC
      exact ⟨m, hn, fun h'' sb => ⟨.ref D, H5, I7.turned (t' := s6.toks) (fun b o hb e => (sb.2 b hb).trans e) f0 f1 f3 f4 f5, rfl, qq⟩⟩
    · refine thnF (T.item (X.blk s3 H3 scope ce fp) rfl rfl rfl hc i [] s5 _ H5 (fun _ _ => False) I5 (stat I5 n5) st5 go) fun r s6 ⟨u, hr, h6⟩ => ?_
      subst hr
      refine thnF h6 fun _ s7 ⟨x, H7, I7, r7, y7, st7, n7⟩ => ?_
      refine thnF (pg.run _ s7 _ H7 x u _ (I7.pinned (stat I7 n7) (T.obj _ _ st7)) r7 (step x H7 y7)) fun _ s8 ⟨σ8, H8, I8, hw8, q8⟩ => ?_
      refine thnF (pt.run _ s8 σ8 H8 _ I8 q8) fun b s9 ⟨H9, I9, q9⟩ => ?_
      have fin : ∀ {s' : Shared} {H' : Hp}, Inv (X.blk s3 H3 scope ce fp) ([] ++ pinsAt fp s7.heap) σ8 H' s' → Nx H' → ∃ m, m < n ∧ ∃ i H', Inv (X.blk s3 H3 scope ce fp) [] (L2.wipe σ (own.map (·.2))) H' s' ∧ tn i s'.heap ∧ (∀ b ∈ fp, H' b = none) ∧ Wv i m H' := fun {s' H'} I' nx => by
        obtain ⟨m', hm, w'⟩ := hNx H' nx
        have pin' : ∀ b ∈ fp, ∀ o, s7.heap.get? b = some o → s'.heap.get? b = some o ∧ H' b = none := fun b hb o e =>
          let z := I'.pin (b, o) (List.mem_append_right _ (List.mem_append_right _ (mem_pinsAt hb e)))
          ⟨z.1, z.2.1⟩
        refine ⟨m', hm, i + 1, H', (I'.unpinned (pins := [])).weak (by rw [← hw8, L2.wipe_length]) (fun j v e => by rw [← hw8] at e; exact (wipe_some e).1), T.keep _ _ _ st7 fun b hb o e => (pin' b hb o e).1, fun b hb => ?_, w'⟩
        obtain ⟨o, e, _⟩ := T.obj _ _ st7 b hb
        exact (pin' b hb o e).2
      cases b with
      | false =>
        simp only [Bool.false_eq_true, if_false] at q9 ⊢
        exact fin I9 q9
      | true =>
        simp only [if_true] at q9 ⊢
        refine thnF (pe.run _ s9 σ8 H9 _ I9 ⟨hw8, q9⟩) fun z s10 ⟨yv, H10, I10, r10, acc, hD10, hz10, nx⟩ => ?_
        exact app_ok (X := X.blk s3 H3 scope ce fp) I10 hD10 hz10 r10 fun s11 I11 => fin I11 nx
  exact codeAny_compStart_list loop (T.self X.A 0 _ _ _ st4 loop)
end

def eCallLB (n : Nat) (g : LamR → DFn) (bs : String → Option DE) (vs : List Nat) (fa : DA) : DE := fun s => (fa s).bind fun ds s1 => if ds.length = n then lift s1 (g (lamR bs (wipeD vs s1.sl)) ds s1.st) else .stuck
@[simp] theorem r_eCallLB (n : Nat) (g : LamR → DFn) (bs : String → Option DE) (vs : List Nat) (fa : DA) (s : DS) : eCallLB n g bs vs fa s = (fa s).bind fun ds s1 => if ds.length = n then lift s1 (g (lamR bs (wipeD vs s1.sl)) ds s1.st) else .stuck := rfl
section
variable {G : Gam} {W : WX} {X : Cx}
theorem pd_callLB {T : LamT} {bs : String → Option DE} {k n m i : Nat} {f : Addr} {fd : FuncData} {N ps : List Str} {body : LamR → DStm} {x qual a : Str} {st : Stmt} {p pos : Pos} {e : Expr} {es : List Expr} {fa : DA} {vs : List Nat}
    {pinsX : List (Addr × Obj)} {σX : L2.St} {sX : Shared} {HX : Hp} {scope : Scope} {cenv : Env} {fp : List Addr} (IX : Inv X pinsX σX HX sX) (hfp : ∀ b ∈ fp, FpOk X pinsX HX b) (hK : G.K = X.K) (F : Fun X.K x qual st f fd) (S : FnScope N ps (defScope st)) (hn : ps.length = n) (hm : N.length - n = m)
    (GL : ∀ n f w', G.lam n f w' → T.lam n f w') (hq : T.q = X.env.qual ++ "<lambda>") (hcl : T.cells = X.env.cells) (hbs : LamsOk G X T k bs)
    (hbody : ∀ w, BodyL (G.at w) X.prog X.w X.mg X.base (k + 1) N qual st f a i body) (hN : N[i]? = some a) (hv : Vis (defScope st) a)
    (hr : Room (k + 2) X.A) (hg : Gl (X.blk sX HX scope cenv fp) x) (hmg : X.mg x = some (.ref f)) (hb : Binds X.K fd ps []) (tk : Takes (X.blk sX HX scope cenv fp) WF) (ha : PDA G WF (X.blk sX HX scope cenv fp) (e :: es) fa) (hdb : (x == ("__debug__" : Str)) = false := by decide) (hda : (a == ("__debug__" : Str)) = false := by decide) (hcd : (a == ("__classdict__" : Str)) = false := by decide)
    (he : starEach (e :: es) cenv = (false, eval e cenv) :: starEach es cenv := by rfl) (hpl : (backTo pos (starEach es cenv)).any (·.1) = false := by rfl) :
    PE (X.blk sX HX scope cenv fp) (.Call (.Name x p) (e :: es) [] pos) (fun σ' H' Q => L2.wipe σ' vs = L2.wipe σX vs ∧ tD G WF (eCallLB n (fun Λ => fnD n (body Λ) m) bs vs fa) σ' H' Q) := by
  refine ⟨fun pins s σ H Q I ⟨hw, h⟩ => ?_⟩
  obtain ⟨κ, w, ds, ok, q⟩ := h
  refine wpAny_Call_Name_kw (ld_glob I hg hmg ?_ hdb)
  have hh : tDA G WF fa σ H fun vs' H1 => ∃ d s1 w1, w.le w1 ∧ Ok G κ w1 s1 σ H1 ∧ Reps G w1 vs' d ∧ PostG G WF (Rep G) κ w1 σ (if d.length = n then lift s1 (fnD n (body (lamR bs (wipeD vs s1.sl))) m d s1.st) else .stuck) Q := ⟨κ, w, ds, ok, PostG.bind q⟩
  refine PySem.W.callWith_K (h₀ := X.base) I.ok.mod.kin F.kp (thn (ha.run pos pins s σ H _ I hh) fun us s1 ⟨vs', H1, I1, r, d, s2, w1, le, ok1, rs, q1⟩ => ⟨I1.kIn, ?_⟩) he hpl
  by_cases c : d.length = n
  case neg => rw [if_neg c] at q1; exact q1.elim
  rw [if_pos c] at q1
  have q2 := postF_of ok1 q1
  have J : Inv X pinsX (L2.wipe σX vs) H1 s1 := (IX.call' (ch := fp) I1.os I1.base I1.hok I1.bare fun b hb => ⟨(hfp b hb).2.2.2.1, (hfp b hb).2.1, (hfp b hb).2.2.2.2.1, (hfp b hb).2.2.2.2.2⟩).weak (L2.wipe_length _ _) fun j v e => (wipe_some e).1
  have okW : Ok G κ w1 (wipeS vs s2) (L2.wipe σX vs) H1 := by rw [← hw]; exact ok1.wipe vs
  obtain ⟨oc, od, kV, doc, pm, an, cdv, ct, osl, rfl, lk, hcode⟩ := F.ex
  have hl : vs'.length = n := by rw [rs.length]; exact c
  have hul : us.length = ps.length := by rw [← r.length, hl, hn]
  have rc : codeAny (model X.prog X.w) X.A (.call (.ref f) ⟨us, []⟩) (CR (L2.CX X.prog X.w) X.stack X.prog X.w H1 s1 Q (WE WF σ)) s1 := by
    have hbd := hb s1 us I1.kIn (by simpa using hul)
    rw [List.append_nil] at hbd
    refine LamX.run_ofS (N := N) (ps := ps) (us := us) (vs := vs') lk hcode S hr I1.env0 hbd r (by rw [hl, hn]) fun hr' => ?_
    have hb0 := hbody w1 (lamR bs (wipeD vs s2.sl)) cdv X.A X.stack s1 H1 (WE WF σ) hr' (takes_of rfl rfl rfl rfl) (passes_of rfl) 
    have hK' : (G.at w1).K = X.K := hK
    rw [hK'] at hb0
    refine ⟨_, hb0 fun pn xe W' p1 p2 tk' => pd_act J okW GL hq hcl hbs tk' hr' hN hv hda hcd, ?_⟩
    rw [start_eq (m := m) (by rw [hl]; exact hm)]
    have fok' : FOk (G.at w1) w1 s2.st H1 := ok1.fok.sw (.inr fun _ _ z => ⟨z, .refl _⟩)
    have rs' : Reps (G.at w1) w1 vs' d := rs.sw (.inr fun _ _ z => ⟨z, .refl _⟩)
    refine ⟨⟨w1, H1, [], none⟩, w1, _, Ok.start fok' rs' m, ?_⟩
    unfold fnD at q2
    rw [if_pos c] at q2
    cases e : body (lamR bs (wipeD vs s2.sl)) ⟨d.map Sl.val ++ List.replicate m .un, s2.st⟩ with
    | stuck => rw [e] at q2; exact q2.elim
    | exc x s' =>
      rw [e] at q2
      exact fun w' σ' c dd H' le ok' rx => q2 w' c dd H' ok'.nx (ok'.fok.bk (.inr fun _ _ z => z.1)) (rx.bk (.inr fun _ _ z => z.1))
    | ok o s' =>
      rw [e] at q2
      cases o with
      | nx => exact fun w' σ' H' le ok' => q2 w' .non H' ok'.nx (ok'.fok.bk (.inr fun _ _ z => z.1)) .non
      | rt d => exact fun w' σ' v H' le ok' r' => q2 w' v H' ok'.nx (ok'.fok.bk (.inr fun _ _ z => z.1)) (r'.bk (.inr fun _ _ z => z.1))
      | bk => exact q2.elim
      | ct => exact q2.elim
  refine wpAny_call (codeAny_mono rc fun r s' hq => ?_)
  cases r with
  | error e => exact passAt tk σ pins H1 s1 e s' I1 hq
  | ok fl =>
    cases fl with
    | ret u => exact I1.after hq
    | next => exact False.elim hq
    | brk => exact False.elim hq
    | cont => exact False.elim hq
theorem pdo_lcL {elt tg iter : Expr} {ifs : List Expr} {scope : Scope} {own : List (Str × Nat)} {is : List Nat} {pos : Pos} {it : DA} {g : DG} {t : DT} {e : DE} (hc : X.calm = true) (hN : X.N.Nodup) (hi : PDI G W X tg iter it) (ok : BlkOk X.N X.env.scope scope own) (hs' : ∀ i ∈ is, i ∈ own.map (·.2))
    (hg : ∀ (s : Shared) (H : Hp) (C : Addr) (cl : List (Str × Addr)) (fp : List Addr), PDG G (X.blk s H scope (compEnvC scope cl C X.env) fp) tg is g) (ht : ∀ (s : Shared) (H : Hp) (C : Addr) (cl : List (Str × Addr)) (fp : List Addr), PTs (X.blk s H scope (compEnvC scope cl C X.env) fp) ifs (tDT G WF t))
    (he : ∀ (pins : List (Addr × Obj)) (σ : L2.St) (s : Shared) (H : Hp) (C : Addr) (cl : List (Str × Addr)) (fp : List Addr), Inv X pins σ H s → (∀ b ∈ fp, FpOk X pins H b) → PE (X.blk s H scope (compEnvC scope cl C X.env) fp) elt (fun σ' H' Q => L2.wipe σ' (own.map (·.2)) = L2.wipe σ (own.map (·.2)) ∧ tD G WF e σ' H' Q)) (hs : ∀ x, foldedSetIterable iter X.env x = pure x := by intro _; rfl) :
    PDo G W X (.ListComp elt [⟨tg, iter, ifs, 0⟩] scope pos) (aLc (own.map (·.2)) it g t e) :=
  (lcK hc hN hi ok hg ht he hs).imp fun σ H Q h => pdo_lc.lc_fin hs' h
end
end DL
set_option maxRecDepth 100000
set_option maxHeartbeats 4000000
set_option autoImplicit false
namespace DL
open PySem PySem.Spec PyProof.Rows L2 PySem.W
/-! ### o(..): an instance is called -/
section
variable {M : Model} {A : Around} {E : Value → Shared → Prop} {s : Shared} {env : Env} {pos : Pos} {x : Addr} {first : List Value} {Q : Value → Shared → Prop}
theorem callWithI_of {args : List (Bool × Sem Value)} {keywords : List (Option Str × Sem Value)} (hplain : (args.any (·.1) || keywords.any (·.1.isNone)) = false)
    (h : wpAny M A (evalArgs (.ref x) true args keywords) (fun a s₁ => (∃ (C : Addr) (ox : Obj) (od : Option Obj), PySem.W.InstAt s₁.heap x ox C od ∧ ox.data = .plain) ∧ wpAny M A (call (.ref x) (first ++ a.pos) a.kw) Q E s₁) E s) : wpAny M A (callWith pos (.ref x) first args keywords) Q E s := by
  unfold callWith
  refine wpAny_bind (wpAny_holding (wpAny_mono h (fun a s₁ h₁ => wpAny_bind (wpAny_standAt ?_)) fun _ _ y => y))
  obtain ⟨⟨C, ox, od, I, hd⟩, h2⟩ := h₁
  have L := PySem.W.kco_keeper (M := M) I hd
  simp only [hplain]
  refine wpAny_bind (L.here ?_)
  have tail : ∀ {t : Sem Value}, wpAny M A t Q E s₁ → wpAny M A (t >>= fun r => holding [r] point >>= fun _ => pure r) Q E s₁ :=
    fun ht => wpAny_bind (wpAny_mono ht (fun r s₂ hr => wpAny_bind (wpAny_holding (wpAny_point (wpAny_pure hr)))) fun _ _ y => y)
  exact tail (wpAny_operateT h2)
theorem callWithI {e : Expr} {rest : List Expr} (h : wpAny M A (spliced (backTo pos (starEach (e :: rest) env))) (fun vs s₁ => (∃ (C : Addr) (ox : Obj) (od : Option Obj), PySem.W.InstAt s₁.heap x ox C od ∧ ox.data = .plain) ∧ wpAny M A (call (.ref x) (first ++ vs)) Q E s₁) E s)
    (he : starEach (e :: rest) env = (false, eval e env) :: starEach rest env) (hplain : (backTo pos (starEach rest env)).any (·.1) = false) :
    wpAny M A (callWith pos (.ref x) first (backTo pos (starEach (e :: rest) env)) []) Q E s := by
  rw [he] at h ⊢
  exact callWithI_of (by show ((false || (backTo pos (starEach rest env)).any (·.1)) || false) = false; rw [hplain]; rfl) (PySem.Calls.evalArgs_plain h)
end
theorem fnIn_of {K : PySem.W.Frag} {x qual : Str} {st : Stmt} {f : Addr} {fd : FuncData} (F : Fun K x qual st f fd) : PySem.W.fnIn K f = true := by
  obtain ⟨oc, od, kV, doc, pm, an, cdv, ct, osl, _, lk, _⟩ := F.ex
  unfold PySem.W.fnIn
  rw [lk]
section
variable {G : Gam} {W : WX} {X : Cx}
def eCallI (c : String) (n : Nat) (g : DFn) (fo : DE) (fa : DA) : DE := fun s => (fo s).bind fun d s1 => match d with
  | .ins c' fs => if c' = c then (fa s1).bind fun ds s2 => if ds.length + 1 = n then lift s2 (g (.ins c' fs :: ds) s2.st) else .stuck
    else .stuck
  | _ => .stuck
theorem pd_callI (hK : G.K = X.K) {c : String} {n : Nat} {g : DFn} {fo : DE} {fa : DA} {C f : Addr} {k : Nat} {fd : FuncData} {ps : List Str} {o e : Expr} {es : List Expr} {pos : Pos} (he : PD G W X o fo) (hC : G.ct c = some C) (hm : Meth X.K C "__call__" f) (hfn : PySem.W.fnIn X.K f = true)
    (F : FnOk X.prog X.w X.K X.mg X.base (L2.CX X.prog X.w) k f fd ps (spG G n g)) (hr : Room k X.A) (hb : Binds X.K fd ps []) (tk : Takes X W) (ha : PDA G W X (e :: es) fa)
    (hst : starEach (e :: es) X.env = (false, eval e X.env) :: starEach es X.env := by rfl) (hpl : (backTo pos (starEach es X.env)).any (·.1) = false := by rfl)
    (ht : eval (.Call o (e :: es) [] pos) X.env = (do callWith pos (← eval o X.env) [] (backTo pos (starEach (e :: es) X.env)) (backToKw pos (keywordEach [] X.env))) := by rfl) :
    PD G W X (.Call o (e :: es) [] pos) (eCallI c n g fo fa) := by
  refine ⟨fun pins sh σ H Q I h => ?_⟩
  obtain ⟨κ, w, s, ok, q⟩ := h
  rw [ht]
  have hh : tD G W fo σ H fun v H1 => ∃ d s1 w1, w.le w1 ∧ Ok G κ w1 s1 σ H1 ∧ Rep G w1 v d ∧ PostG G W (Rep G) κ w1 σ (match d with
    | .ins c' fs => if c' = c then (fa s1).bind fun ds s2 => if ds.length + 1 = n then lift s2 (g (.ins c' fs :: ds) s2.st) else .stuck else .stuck
    | _ => .stuck) Q := ⟨κ, w, s, ok, PostG.bind q⟩
  refine wpAny_bind (thn (he.run pins sh σ H _ I hh) fun u s1 ⟨x, H1, I1, rx, d, t1, w1, le, ok1, r1, q1⟩ => ?_)
  cases d with
  | ins c' fs =>
    replace q1 : PostG G W (Rep G) κ w1 σ (if c' = c then (fa t1).bind fun ds s2 => if ds.length + 1 = n then lift s2 (g (.ins c' fs :: ds) s2.st) else .stuck else .stuck) Q := q1
    by_cases hc : c' = c
    · rw [if_pos hc] at q1
      subst hc
      cases r1 with
      | @ins a C' dx _ vs _ hC' hF rf =>
      rw [hC] at hC'
      cases hC'
      obtain rfl : u = Value.ref a := rx
      have hh2 : tDA G W fa σ H1 fun vs H2 => ∃ ds s2 w2, w1.le w2 ∧ Ok G κ w2 s2 σ H2 ∧ Reps G w2 vs ds ∧ PostG G W (Rep G) κ w2 σ (if ds.length + 1 = n then lift s2 (g (.ins c' fs :: ds) s2.st) else .stuck) Q := ⟨κ, w1, t1, ok1, PostG.bind q1⟩
      refine callWithI (first := []) (thn (ha.run pos pins s1 σ H1 _ I1 hh2) fun us s2 ⟨vs2, H2, I2, r2, ds, t2, w2, le2, ok2, rs2, q2⟩ => ?_) hst hpl
      obtain ⟨mA, J, _⟩ := ins_get I2.hok (ok2.fok.sub _ _ (le2.f _ _ hF))
      obtain ⟨od, J, _⟩ := J.look
      refine ⟨⟨C, _, _, J, rfl⟩, ?_⟩
      by_cases c3 : ds.length + 1 = n
      · rw [if_pos c3] at q2
        have rr : Reps G w2 (.ref a :: vs2) (.ins c' fs :: ds) := .cons (.ins hC (le2.f _ _ hF) (rf.mono le2)) rs2
        have hsp : spG G n g (.ref a :: vs2) H2 Q (WE W σ) := ⟨by rw [rr.length]; exact c3, w2, t2.st, _, ok2.fok, rr, postF_of ok2 q2⟩
        have hl := F.len _ _ _ _ hsp
        have rv : Vals (V.ref a :: vs2) (Value.ref a :: us) := .cons rfl r2
        have hl2 : (Value.ref a :: us).length = ps.length := by rw [← rv.length]; exact hl
        refine wpAny_call (PySem.W.kco_code (a := ⟨us, []⟩) I2.kIn J rfl hm.at_ hm.fn hfn (codeAny_mono (F.run X.A X.stack s2 H2 ⟨.ref a :: us, []⟩ (.ref a :: us) (.ref a :: vs2) Q (WE W σ) hr I2.env0 (by
          have := hb s2 (.ref a :: us) I2.kIn (by simpa using hl2)
          simpa using this) rv hsp) fun r s' hq => ?_))
        cases r with
        | error e => exact passAt tk σ pins H2 s2 e s' I2 hq
        | ok fl =>
          cases fl with
          | ret u => exact I2.after hq
          | next => exact False.elim hq
          | brk => exact False.elim hq
          | cont => exact False.elim hq
      · rw [if_neg c3] at q2
        exact q2.elim
    · rw [if_neg hc] at q1
      exact q1.elim
  | _ => exact q1.elim
/-! ### {} -/
def dNil : DD := fun s => .ok [] s
theorem pdod_nil {pos : Pos} : PDod G W X (.Dict [] [] pos) dNil :=
  pe_dnewK.imp fun σ H Q ⟨κ, w, s, ok, q⟩ => fun p hp => q w p [] _ (.refl _) (ok.fresh hp (.dK [])) (ok.apart hp) .nil
@[simp] theorem r_dNil (s : DS) : dNil s = .ok [] s := rfl
@[simp] theorem r_eCallI (c : String) (n : Nat) (g : DFn) (fo : DE) (fa : DA) (s : DS) : eCallI c n g fo fa s = (fo s).bind fun d s1 => match d with
  | .ins c' fs => if c' = c then (fa s1).bind fun ds s2 => if ds.length + 1 = n then lift s2 (g (.ins c' fs :: ds) s2.st) else .stuck else .stuck
  | _ => .stuck := rfl
end
end DL
set_option maxRecDepth 100000
set_option maxHeartbeats 4000000
set_option autoImplicit false
namespace DL
/-! ### readings, by simp -/
section
variable {s : DS} {st : List Cell} {sl : List Sl}
@[simp] theorem r_eC (d : D) (s : DS) : eC d s = .ok d s := rfl
@[simp] theorem r_eVar (i : Nat) (sl : List Sl) (st : List Cell) : eVar i ⟨sl, st⟩ = match sl[i]? with
  | some (.val d) => .ok d ⟨sl, st⟩
  | some (.ol xs) => .ok (.lst xs) ⟨sl.set i (.val (.lst xs)), st⟩
  | some (.od kvs) => .ok (.dic kvs) ⟨sl.set i (.val (.dic kvs)), st⟩
  | some (.oi c fs) => .ok (.ins c fs) ⟨sl.set i (.val (.ins c fs)), st⟩
  | _ => .stuck := rfl
@[simp] theorem r_eOp2 (o : D → D → Option D) (fa fb : DE) (s : DS) : eOp2 o fa fb s = (fa s).bind fun x s1 => (fb s1).bind fun y s2 => match o x y with | some d => .ok d s2 | none => .stuck := rfl
@[simp] theorem r_eOpX (o : DO2) (fa fb : DE) (s : DS) : eOpX o fa fb s = (fa s).bind fun x s1 => (fb s1).bind fun y s2 => o x y s2 := rfl
@[simp] theorem r_eB (f : DE) (s : DS) : eB f s = (f s).bind fun d s1 => match d with | .bl b => .ok b s1 | _ => .stuck := rfl
@[simp] theorem r_eTru (f : DE) (s : DS) : eTru f s = (f s).bind fun d s1 => match truD d with | some b => .ok b s1 | none => .stuck := rfl
@[simp] theorem r_bAnd (f g : DT) (s : DS) : bAnd f g s = (f s).bind fun b s1 => if b = true then g s1 else .ok false s1 := rfl
@[simp] theorem r_bOr (f g : DT) (s : DS) : bOr f g s = (f s).bind fun b s1 => if b = true then .ok true s1 else g s1 := rfl
@[simp] theorem r_bNot (f : DT) (s : DS) : bNot f s = (f s).bind fun b s1 => .ok (!b) s1 := rfl
@[simp] theorem r_bYes (s : DS) : bYes s = .ok true s := rfl
@[simp] theorem r_eAndT (f g : DE) (s : DS) : eAndT f g s = (f s).bind fun d s1 => match truD d with | some b => if b = true then g s1 else .ok d s1 | none => .stuck := rfl
@[simp] theorem r_eOrT (f g : DE) (s : DS) : eOrT f g s = (f s).bind fun d s1 => match truD d with | some b => if b = true then .ok d s1 else g s1 | none => .stuck := rfl
@[simp] theorem r_eNotT (f : DE) (s : DS) : eNotT f s = (f s).bind fun d s1 => match truD d with | some b => .ok (.bl (!b)) s1 | none => .stuck := rfl
@[simp] theorem r_eIf (c : DT) (f g : DE) (s : DS) : eIf c f g s = (c s).bind fun b s1 => if b = true then f s1 else g s1 := rfl
@[simp] theorem r_aNil (s : DS) : aNil s = .ok [] s := rfl
@[simp] theorem r_aCons (f : DE) (g : DA) (s : DS) : aCons f g s = (f s).bind fun d s1 => (g s1).bind fun ds s2 => .ok (d :: ds) s2 := rfl
@[simp] theorem r_eTup (g : DA) (s : DS) : eTup g s = (g s).bind fun ds s1 => if ds.length ≤ 1000 then .ok (.tup ds) s1 else .stuck := rfl
@[simp] theorem r_aMax (g : DA) (s : DS) : aMax g s = (g s).bind fun ds s1 => if ds.length ≤ 1000 then .ok ds s1 else .stuck := rfl
@[simp] theorem r_eFrz (f : DA) (s : DS) : eFrz f s = (f s).bind fun xs s1 => .ok (.lst xs) s1 := rfl
@[simp] theorem r_eFrzD (f : DD) (s : DS) : eFrzD f s = (f s).bind fun xs s1 => .ok (.dic xs) s1 := rfl
@[simp] theorem r_sPass (s : DS) : sPass s = .ok .nx s := rfl
@[simp] theorem r_sNever (s : DS) : sNever s = .stuck := rfl
@[simp] theorem r_sBreak (s : DS) : sBreak s = .ok .bk s := rfl
@[simp] theorem r_sCont (s : DS) : sCont s = .ok .ct s := rfl
@[simp] theorem r_sSeq (f g : DStm) (s : DS) : sSeq f g s = (f s).bind fun o s1 => match o with | .nx => g s1 | o => .ok o s1 := rfl
@[simp] theorem r_sExpr (f : DE) (s : DS) : sExpr f s = (f s).bind fun _ s1 => .ok .nx s1 := rfl
@[simp] theorem r_sRet (f : DE) (s : DS) : sRet f s = (f s).bind fun d s1 => .ok (.rt d) s1 := rfl
@[simp] theorem r_sIf (c : DT) (f g : DStm) (s : DS) : sIf c f g s = (c s).bind fun b s1 => if b = true then f s1 else g s1 := rfl
@[simp] theorem r_sSet (i : Nat) (f : DE) (s : DS) : sSet i f s = (f s).bind fun d s1 => .ok .nx ⟨s1.sl.set i (.val d), s1.st⟩ := rfl
@[simp] theorem r_sSetO (i : Nat) (f : DA) (s : DS) : sSetO i f s = (f s).bind fun xs s1 => .ok .nx ⟨s1.sl.set i (.ol xs), s1.st⟩ := rfl
@[simp] theorem r_gN (i : Nat) (d : D) (s : DS) : gN i d s = .ok () ⟨s.sl.set i (.val d), s.st⟩ := rfl
@[simp] theorem r_gsNil (s : DS) : gsNil [] s = .ok () s := rfl
@[simp] theorem r_gsCons (g : DG) (k : List D → DS → Res DS Unit) (d : D) (r : List D) (s : DS) : gsCons g k (d :: r) s = (g d s).bind fun _ s1 => k r s1 := rfl
@[simp] theorem r_gT (n : Nat) (g : List D → DS → Res DS Unit) (ds : List D) (s : DS) : gT n g (.tup ds) s = if ds.length = n then g ds s else .stuck := rfl
@[simp] theorem r_noX_ok {σ α : Type} (a : α) (t : σ) : noX (Res.ok a t) = .ok a t := rfl
@[simp] theorem r_noX_stuck {σ α : Type} : noX (Res.stuck : Res σ α) = .stuck := rfl
@[simp] theorem r_noX_exc {σ α : Type} (x : Xc) (t : σ) : noX (Res.exc x t : Res σ α) = .stuck := rfl
@[simp] theorem r_sAsgT (f : DE) (g : DG) (s : DS) : sAsgT f g s = (f s).bind fun d s1 => (noX (g d s1)).bind fun _ s2 => .ok .nx s2 := rfl
@[simp] theorem r_sPar (i j : Nat) (f : DA) (s : DS) : sPar i j f s = (f s).bind fun ds s1 => match ds with | [x, y] => .ok .nx ⟨(s1.sl.set i (.val x)).set j (.val y), s1.st⟩ | _ => .stuck := rfl
@[simp] theorem r_sPar3 (i j l : Nat) (f : DA) (s : DS) : sPar3 i j l f s = (f s).bind fun ds s1 => match ds with | [x, y, z] => .ok .nx ⟨((s1.sl.set i (.val x)).set j (.val y)).set l (.val z), s1.st⟩ | _ => .stuck := rfl
@[simp] theorem r_lo_nx (s : DS) (k : DS → Res DS Out) : loopOut (.ok .nx s) k = k s := rfl
@[simp] theorem r_lo_ct (s : DS) (k : DS → Res DS Out) : loopOut (.ok .ct s) k = k s := rfl
@[simp] theorem r_lo_bk (s : DS) (k : DS → Res DS Out) : loopOut (.ok .bk s) k = .ok .nx s := rfl
@[simp] theorem r_lo_rt (d : D) (s : DS) (k : DS → Res DS Out) : loopOut (.ok (.rt d) s) k = .ok (.rt d) s := rfl
@[simp] theorem r_lo_stuck (k : DS → Res DS Out) : loopOut .stuck k = .stuck := rfl
@[simp] theorem r_for_nil (g : DG) (b : DStm) (s : DS) : forL g b [] s = .ok .nx s := rfl
@[simp] theorem r_for_cons (g : DG) (b : DStm) (d : D) (r : List D) (s : DS) : forL g b (d :: r) s = (noX (g d s)).bind fun _ s1 => loopOut (b s1) (forL g b r) := rfl
@[simp] theorem r_sFor (it : DA) (g : DG) (b : DStm) (s : DS) : sFor it g b s = (it s).bind fun ds s1 => forL g b ds s1 := rfl
@[simp] theorem r_itSeq (f : DE) (s : DS) : itSeq f s = (f s).bind fun d s1 => match itemsD d with | some xs => .ok xs s1 | none => .stuck := rfl
@[simp] theorem r_itemsD_l (xs : List D) : itemsD (.lst xs) = some xs := rfl
@[simp] theorem r_itemsD_s (xs : List D) : itemsD (.scr xs) = some xs := rfl
@[simp] theorem r_itemsD_t (xs : List D) : itemsD (.tup xs) = some xs := rfl
@[simp] theorem r_itemsD_str (xs : Nm) : itemsD (.str xs) = some (xs.map fun c => .str [c]) := rfl
@[simp] theorem r_eCall (n : Nat) (g : DFn) (fa : DA) (s : DS) : eCall n g fa s = (fa s).bind fun ds s1 => if ds.length = n then lift s1 (g ds s1.st) else .stuck := rfl
@[simp] theorem r_lift_ok {α : Type} (s : DS) (d : α) (S : List Cell) : lift s (.ok d S) = .ok d ⟨s.sl, S⟩ := rfl
@[simp] theorem r_lift_exc {α : Type} (s : DS) (x : Xc) (S : List Cell) : lift s (.exc x S : Res (List Cell) α) = .exc x ⟨s.sl, S⟩ := rfl
@[simp] theorem r_lift_stuck {α : Type} (s : DS) : lift s (.stuck : Res (List Cell) α) = .stuck := rfl
@[simp] theorem r_eMake (c : String) (n : Nat) (g : DIn) (fa : DA) (s : DS) : eMake c n g fa s = (fa s).bind fun ds s1 => if ds.length = n then (lift s1 (g ds s1.st)).bind fun fs s2 => .ok (.ins c fs) s2 else .stuck := rfl
@[simp] theorem r_eMeth (c : String) (m : Nm) (n : Nat) (g : DFn) (fo : DE) (fa : DA) (s : DS) : eMeth c m n g fo fa s = (fo s).bind fun d s1 => match insOf d s1 with
  | some (c', fs) => if c' = c ∧ fs.lookup m = none then (fa s1).bind fun ds s2 => if ds.length + 1 = n then lift s2 (g (d :: ds) s2.st) else .stuck else .stuck
  | none => .stuck := rfl
@[simp] theorem r_eFld (cs : List String) (fn : Nm) (f : DE) (s : DS) : eFld cs fn f s = (f s).bind fun d s1 => match insOf d s1 with
  | some (c, fs) => if c ∈ cs then match fs.lookup fn with | some x => .ok x s1 | none => .stuck else .stuck
  | none => .stuck := rfl
@[simp] theorem r_insOf (c : String) (fs : List (Nm × D)) (s : DS) : insOf (.ins c fs) s = some (c, fs) := rfl
@[simp] theorem r_eInv (c : String) (g : DFn) (f : DE) (s : DS) : eInv c g f s = (f s).bind fun d s1 => match insOf d s1 with | some (c1, _) => if c1 = c then lift s1 (g [d] s1.st) else .stuck | none => .stuck := rfl
@[simp] theorem r_ownO (c c1 c2 : String) (f1 f2 : List (Nm × D)) (g : DFn) (s : DS) : ownO c g (.ins c1 f1) (.ins c2 f2) s = if c1 = c ∧ c2 = c then lift s (g [.ins c1 f1, .ins c2 f2] s.st) else .stuck := rfl
@[simp] theorem r_ownNe (c : String) (g : DFn) (x y : D) (s : DS) : ownNe c g x y s = negD (ownO c g x y s) := rfl
@[simp] theorem r_negD (b : Bool) (s : DS) : negD (.ok (.bl b) s) = .ok (.bl (!b)) s := rfl
@[simp] theorem r_eCB (o : List D → Option D) (fa : DA) (s : DS) : eCB o fa s = (fa s).bind fun ds s1 => match o ds with | some d => .ok d s1 | none => .stuck := rfl
@[simp] theorem r_eNeg (f : DE) (s : DS) : eNeg f s = (f s).bind fun d s1 => match d with | .int i => .ok (.int (-i)) s1 | _ => .stuck := rfl
@[simp] theorem r_eIx (fa fb : DE) (s : DS) : eIx fa fb s = (fa s).bind fun x s1 => (fb s1).bind fun y s2 => match y with | .int i => (match ixD x i with | some d => .ok d s2 | none => .stuck) | _ => .stuck := rfl
@[simp] theorem r_sFldO (c : String) (i : Nat) (fn : Nm) (f : DE) (s : DS) : sFldO c i fn f s = (f s).bind fun d s1 => match s1.sl[i]? with
  | some (.oi c' fs) => if c' = c ∧ fs.length < 1000 then .ok .nx ⟨s1.sl.set i (.oi c (putN fn d fs)), s1.st⟩ else .stuck
  | _ => .stuck := rfl
@[simp] theorem r_aList (fa : DA) (s : DS) : aList fa s = (fa s).bind fun ds s1 => match ds with | [d] => (match seqD d with | some xs => .ok xs s1 | none => .stuck) | _ => .stuck := rfl
@[simp] theorem r_seqD_l (xs : List D) : seqD (.lst xs) = some xs := rfl
@[simp] theorem r_seqD_s (xs : List D) : seqD (.scr xs) = some xs := rfl
@[simp] theorem r_seqD_t (xs : List D) : seqD (.tup xs) = some xs := rfl
@[simp] theorem r_oNone (s : DS) : oNone s = .ok none s := rfl
@[simp] theorem r_oSome (f : DE) (s : DS) : oSome f s = (f s).bind fun d s1 => match d with | .int i => .ok (some i) s1 | _ => .stuck := rfl
@[simp] theorem r_aSl (f : DE) (l h : DOp) (s : DS) : aSl f l h s = (f s).bind fun d s1 => (l s1).bind fun lo s2 => (h s2).bind fun hi s3 => match d with | .lst xs => .ok (cutD xs lo hi) s3 | .scr xs => .ok (cutD xs lo hi) s3 | _ => .stuck := rfl
@[simp] theorem r_eSlT (f : DE) (l h : DOp) (s : DS) : eSlT f l h s = (f s).bind fun d s1 => (l s1).bind fun lo s2 => (h s2).bind fun hi s3 => match d with | .tup xs => if (cutD xs lo hi).length ≠ xs.length then .ok (.tup (cutD xs lo hi)) s3 else .stuck | _ => .stuck := rfl
@[simp] theorem r_eSlA (f : DE) (l h : DOp) (s : DS) : eSlA f l h s = (f s).bind fun d s1 => (l s1).bind fun lo s2 => (h s2).bind fun hi s3 => match slD d lo hi with | some x => .ok x s3 | none => .stuck := rfl
@[simp] theorem r_slD_l (xs : List D) (lo hi : Option Int) : slD (.lst xs) lo hi = some (.lst (cutD xs lo hi)) := rfl
@[simp] theorem r_slD_s (xs : List D) (lo hi : Option Int) : slD (.scr xs) lo hi = some (.lst (cutD xs lo hi)) := rfl
@[simp] theorem r_slD_t (xs : List D) (lo hi : Option Int) : slD (.tup xs) lo hi = if (cutD xs lo hi).length ≠ xs.length then some (.tup (cutD xs lo hi)) else none := rfl
/-! data -/
@[simp] theorem r_iAdd (i j : Int) : iAdd (.int i) (.int j) = some (.int (i + j)) := rfl
@[simp] theorem r_dAdd (i j : Int) : dAdd (.int i) (.int j) = some (.int (i + j)) := rfl
@[simp] theorem r_iSub (i j : Int) : iSub (.int i) (.int j) = some (.int (i - j)) := rfl
@[simp] theorem r_dMul (i j : Int) : dMul (.int i) (.int j) = if mulOk i j = true then some (.int (i * j)) else none := rfl
@[simp] theorem r_iDiv (i j : Int) : iDiv (.int i) (.int j) = if divOk j = true then some (.int (i.fdiv j)) else none := rfl
@[simp] theorem r_iMod (i j : Int) : iMod (.int i) (.int j) = if j ≠ 0 then some (.int (i.fmod j)) else none := rfl
@[simp] theorem r_iPow (i j : Int) : iPow (.int i) (.int j) = if 0 ≤ j ∧ j ≤ 1000000 ∧ i.natAbs < 2 ^ 64 then some (.int (i ^ j.toNat)) else none := rfl
@[simp] theorem r_iLt (i j : Int) : iLt (.int i) (.int j) = some (.bl (decide (i < j))) := rfl
@[simp] theorem r_iLe (i j : Int) : iLe (.int i) (.int j) = some (.bl (decide (i ≤ j))) := rfl
@[simp] theorem r_iGt (i j : Int) : iGt (.int i) (.int j) = some (.bl (decide (j < i))) := rfl
@[simp] theorem r_iGe (i j : Int) : iGe (.int i) (.int j) = some (.bl (decide (j ≤ i))) := rfl
@[simp] theorem r_dEq_int (i j : Int) : dEq (.int i) (.int j) = some (.bl (decide (i = j))) := by
  show (if (true && true) = true then some (D.bl (i == j)) else none) = _
  simp [Bool.beq_eq_decide_eq]
@[simp] theorem r_dNe_int (i j : Int) : dNe (.int i) (.int j) = some (.bl (!decide (i = j))) := by
  show (if (true && true) = true then some (D.bl (!(i == j))) else none) = _
  simp [Bool.beq_eq_decide_eq]
@[simp] theorem r_dIsN (x : D) : dIsN x .non = some (.bl (isNonD x)) := rfl
@[simp] theorem r_dNotN (x : D) : dNotN x .non = some (.bl (!isNonD x)) := rfl
@[simp] theorem r_isNon : isNonD .non = true := rfl
@[simp] theorem r_isNon_t (xs : List D) : isNonD (.tup xs) = false := rfl
@[simp] theorem r_isNon_i (i : Int) : isNonD (.int i) = false := rfl
@[simp] theorem r_isNon_n (c : String) (fs : List (Nm × D)) : isNonD (.ins c fs) = false := rfl
@[simp] theorem r_isNon_l (xs : List D) : isNonD (.lst xs) = false := rfl
@[simp] theorem r_tru_bl (b : Bool) : truD (.bl b) = some b := rfl
@[simp] theorem r_tru_non : truD .non = some false := rfl
@[simp] theorem r_tru_int (i : Int) : truD (.int i) = some (i != 0) := rfl
@[simp] theorem r_tru_lst (xs : List D) : truD (.lst xs) = some (!xs.isEmpty) := rfl
@[simp] theorem r_tru_tup (xs : List D) : truD (.tup xs) = some (!xs.isEmpty) := rfl
@[simp] theorem r_bInt (i : Int) : bInt [.int i] = some (.int i) := rfl
@[simp] theorem r_bInt_b (b : Bool) : bInt [.bl b] = some (.int (if b then 1 else 0)) := rfl
@[simp] theorem r_bLen_l (xs : List D) : bLen [.lst xs] = some (.int xs.length) := rfl
@[simp] theorem r_bLen_s (xs : List D) : bLen [.scr xs] = some (.int xs.length) := rfl
@[simp] theorem r_bLen_t (xs : List D) : bLen [.tup xs] = some (.int xs.length) := rfl
@[simp] theorem r_bAbs (i : Int) : bAbs [.int i] = some (.int (if i < 0 then -i else i)) := rfl
@[simp] theorem r_bTup_l (xs : List D) : bTup [.lst xs] = some (.tup xs) := rfl
@[simp] theorem r_bTup_t (xs : List D) : bTup [.tup xs] = some (.tup xs) := rfl
@[simp] theorem r_bMax (i j : Int) : bMax2 [.int i, .int j] = some (.int (if j > i then j else i)) := rfl
@[simp] theorem r_bMin (i j : Int) : bMin2 [.int i, .int j] = some (.int (if j < i then j else i)) := rfl
@[simp] theorem r_ix_t (xs : List D) (i : Int) : ixD (.tup xs) i = L2.atI xs i := rfl
@[simp] theorem r_ix_l (xs : List D) (i : Int) : ixD (.lst xs) i = L2.atI xs i := rfl
@[simp] theorem r_ix_s (xs : List D) (i : Int) : ixD (.scr xs) i = L2.atI xs i := rfl
@[simp] theorem r_at0 {α : Type} (x : α) (r : List α) : L2.atI (x :: r) 0 = some x := L2.atI_nat (j := 0) rfl
@[simp] theorem r_at1 {α : Type} (x y : α) (r : List α) : L2.atI (x :: y :: r) 1 = some y := L2.atI_nat (j := 1) rfl
@[simp] theorem r_at2 {α : Type} (x y z : α) (r : List α) : L2.atI (x :: y :: z :: r) 2 = some z := L2.atI_nat (j := 2) rfl
@[simp] theorem r_at3 {α : Type} (x y z u : α) (r : List α) : L2.atI (x :: y :: z :: u :: r) 3 = some u := L2.atI_nat (j := 3) rfl
/-! isinstance -/
theorem mem_ty : ("int" ∈ tyNames) = True ∧ ("bool" ∈ tyNames) = True ∧ ("str" ∈ tyNames) = True ∧ ("list" ∈ tyNames) = True ∧ ("tuple" ∈ tyNames) = True ∧ ("dict" ∈ tyNames) = True ∧ ("NoneType" ∈ tyNames) = True := by simp [tyNames]
@[simp] theorem r_isi_int_int (cs : List String) (i : Int) : bIsi cs [.int i, .ty "int"] = some (.bl true) := by simp [bIsi, tyOfD, tyD, isOne, mem_ty, isTy]
@[simp] theorem r_isi_int_bool (cs : List String) (i : Int) : bIsi cs [.int i, .ty "bool"] = some (.bl false) := by simp [bIsi, tyOfD, tyD, isOne, mem_ty, isTy]
@[simp] theorem r_isi_ins_cls (cs : List String) (c : String) (fs : List (Nm × D)) (c' : String) (h : c ∈ cs := by simp) (h' : c' ∈ cs := by simp) : bIsi cs [.ins c fs, .cls c'] = some (.bl (c == c')) := by simp [bIsi, tyOfD, isOne, h, h']
@[simp] theorem r_isi_int_cls (cs : List String) (i : Int) (c' : String) (h' : c' ∈ cs := by simp) : bIsi cs [.int i, .cls c'] = some (.bl false) := by simp [bIsi, tyOfD, tyD, isOne, h', mem_ty]
@[simp] theorem r_isi_non_cls (cs : List String) (c' : String) (h' : c' ∈ cs := by simp) : bIsi cs [.non, .cls c'] = some (.bl false) := by simp [bIsi, tyOfD, tyD, isOne, h', mem_ty]
end
/-! ### bits -/
class Bd (x : Int) (n : outParam Nat) : Prop where
  lt : x.natAbs < 2 ^ n
theorem Bd.le {x : Int} {n m : Nat} (h : Bd x n) (hnm : n ≤ m) : Bd x m := ⟨Nat.lt_of_lt_of_le h.lt (Nat.pow_le_pow_right (by decide) hnm)⟩
instance bd_add {x y : Int} {m n : Nat} [h : Bd x m] [k : Bd y n] : Bd (x + y) (m + n + 1) := ⟨by
  have h1 := h.lt
  have h2 := k.lt
  have h3 : (2 : Nat) ^ m ≤ 2 ^ (m + n) := Nat.pow_le_pow_right (by decide) (by omega)
  have h4 : (2 : Nat) ^ n ≤ 2 ^ (m + n) := Nat.pow_le_pow_right (by decide) (by omega)
  have h5 : (2 : Nat) ^ (m + n + 1) = 2 ^ (m + n) * 2 := Nat.pow_succ ..
  omega⟩
instance bd_neg {x : Int} {m : Nat} [h : Bd x m] : Bd (-x) m := ⟨by rw [Int.natAbs_neg]; exact h.lt⟩
instance bd_sub {x y : Int} {m n : Nat} [h : Bd x m] [k : Bd y n] : Bd (x - y) (m + n + 1) := by
  rw [Int.sub_eq_add_neg]; exact bd_add
instance bd_mul {x y : Int} {m n : Nat} [h : Bd x m] [k : Bd y n] : Bd (x * y) (m + n) := ⟨by
  rw [Int.natAbs_mul, Nat.pow_add]
  exact Nat.mul_lt_mul'' h.lt k.lt⟩
instance bd_0 : Bd 0 0 := ⟨by decide⟩
instance bd_1 : Bd 1 1 := ⟨by decide⟩
theorem log2_lt {x : Int} {n : Nat} (h : Bd x n) : x.natAbs.log2 ≤ n := by
  have := h.lt
  by_cases e : x.natAbs = 0
  · rw [e]; simp
  · exact Nat.le_of_lt ((Nat.log2_lt e).mpr this)
theorem mulOk_of {x y : Int} {m n : Nat} (h : Bd x m) (k : Bd y n) (hl : m + n < 100000000) : mulOk x y = true := by
  unfold mulOk
  have h1 := log2_lt h
  have h2 := log2_lt k
  exact decide_eq_true (by omega)
@[simp] theorem mulOk_bd {x y : Int} {m n : Nat} [h : Bd x m] [k : Bd y n] (hl : m + n < 100000000) : mulOk x y = true := mulOk_of h k hl
theorem divOk_of {y : Int} {n : Nat} (k : Bd y n) (h0 : y ≠ 0) (hl : n < 9000) : divOk y = true := by
  unfold divOk
  exact decide_eq_true ⟨h0, Nat.lt_of_le_of_lt (log2_lt k) hl⟩
@[simp] theorem divOk_bd {y : Int} {n : Nat} [k : Bd y n] (h0 : y ≠ 0) (hl : n < 9000) : divOk y = true := divOk_of k h0 hl
@[simp] theorem divOk_2 : divOk 2 = true := by decide
end DL
set_option maxRecDepth 100000
set_option maxHeartbeats 4000000
set_option autoImplicit false
namespace DL
@[simp] theorem r_eDGet (fo fi : DE) (s : DS) : eDGet fo fi s = (fo s).bind fun d s1 => (fi s1).bind fun k s2 => match dictOf d s2, kOf k with
  | some kvs, some k => match dLook kvs k with
    | some x => .ok x s2
    | none => .stuck
  | _, _ => .stuck := rfl
@[simp] theorem r_dictOf_c (n : Nat) (sl : List Sl) (st : List Cell) : dictOf (.cell n) ⟨sl, st⟩ = match st[n]? with | some (.dic kvs) => some kvs | _ => none := rfl
@[simp] theorem r_dictOf_d (kvs : List (DK × D)) (s : DS) : dictOf (.dic kvs) s = some kvs := rfl
@[simp] theorem r_kOf_s (l : List Nat) : kOf (.str l) = some (.s l) := rfl
@[simp] theorem r_kOf_i (l : Int) : kOf (.int l) = some (.i l) := rfl
@[simp] theorem r_sDPutC (fo fi fv : DE) (s : DS) : sDPutC fo fi fv s = (fv s).bind fun x s1 => (fo s1).bind fun d s2 => (fi s2).bind fun k s3 => match d, kOf k with
  | .cell n, some k => match s3.st[n]? with
    | some (.dic kvs) => if kvs.length < 1000000 ∧ keysNd kvs = true then .ok .nx ⟨s3.sl, s3.st.set n (.dic (dPut kvs k x))⟩ else .stuck
    | _ => .stuck
  | _, _ => .stuck := rfl
@[simp] theorem r_eCellD (f : DD) (s : DS) : eCellD f s = (f s).bind fun xs s1 => .ok (.cell s1.st.length) ⟨s1.sl, s1.st ++ [.dic xs]⟩ := rfl
@[simp] theorem r_dDisp (fs : List (DE × DE)) (s : DS) : dDisp fs s = (pairsD fs s).bind fun ps s1 => match keyed ps with
  | some kvs => if kvs.length ≤ 15 ∧ keysNd kvs = true then .ok kvs s1 else .stuck
  | none => .stuck := rfl
@[simp] theorem r_pairs_nil (s : DS) : pairsD [] s = .ok [] s := rfl
@[simp] theorem r_pairs_cons (fk fv : DE) (r : List (DE × DE)) (s : DS) : pairsD ((fk, fv) :: r) s = (fk s).bind fun k s1 => (fv s1).bind fun x s2 => (pairsD r s2).bind fun ps s3 => .ok ((k, x) :: ps) s3 := rfl
@[simp] theorem r_keyed_nil : keyed [] = some [] := rfl
@[simp] theorem r_keyed_cons (k x : D) (r : List (D × D)) : keyed ((k, x) :: r) = match kOf k, keyed r with
    | some k, some r => some ((k, x) :: r)
    | _, _ => none := rfl
@[simp] theorem r_itR1 (f : DA) (s : DS) : itR1 f s = (f s).bind fun ds s1 => match ds with
  | [.int j] => if -(2 ^ 62) ≤ j ∧ j < 2 ^ 62 then .ok (rngL 0 j.toNat) s1 else .stuck
  | _ => .stuck := rfl
@[simp] theorem r_itEnum_l (f : DA) (s : DS) : itEnum f s = (f s).bind fun ds s1 => match ds with
  | [.lst xs] => .ok (enumL xs) s1
  | [.scr xs] => .ok (enumL xs) s1
  | _ => .stuck := rfl
@[simp] theorem r_itZip (f : DA) (s : DS) : itZip f s = (f s).bind fun ds s1 => match ds with
  | [.lst xs, .lst ys] => .ok (zipL xs ys) s1
  | [.tup xs, .tup ys] => .ok (zipL xs ys) s1
  | _ => .stuck := rfl
@[simp] theorem r_aLc (vs : List Nat) (it : DA) (g : DG) (t : DT) (e : DE) (s : DS) : aLc vs it g t e s = (it s).bind fun items s1 => (noX (lcL vs g t e items [] s1)).bind fun ys s2 => .ok ys ⟨unwipe vs s1.sl (wipeD vs s2.sl), s2.st⟩ := rfl
@[simp] theorem r_lc_nil (vs : List Nat) (g : DG) (t : DT) (e : DE) (acc : List D) (s : DS) : lcL vs g t e [] acc s = .ok acc s := rfl
@[simp] theorem r_lc_cons (vs : List Nat) (g : DG) (t : DT) (e : DE) (d : D) (r acc : List D) (s : DS) : lcL vs g t e (d :: r) acc s = (noX (g d (wipeS vs s))).bind fun _ s1 => (noX (t s1)).bind fun b s2 => if b = true then (noX (e s2)).bind fun y s3 => if acc.length < 1000000 then lcL vs g t e r (acc ++ [y]) s3 else .stuck
    else lcL vs g t e r acc s2 := rfl
@[simp] theorem r_wipe_nil (l : List Sl) : wipeD [] l = l := rfl
@[simp] theorem r_wipe_cons (v : Nat) (vs : List Nat) (l : List Sl) : wipeD (v :: vs) l = (wipeD vs l).set v .un := rfl
@[simp] theorem r_wipeS (vs : List Nat) (s : DS) : wipeS vs s = ⟨wipeD vs s.sl, s.st⟩ := rfl
@[simp] theorem r_unw_nil (o l : List Sl) : unwipe [] o l = l := rfl
@[simp] theorem r_unw_cons (v : Nat) (vs : List Nat) (o l : List Sl) : unwipe (v :: vs) o l = (unwipe vs o l).set v (match o[v]? with | some (.val d) => .val d | _ => .un) := rfl
@[simp] theorem r_sApp (i : Nat) (fa : DA) (s : DS) : sApp i fa s = match s.sl[i]? with
  | some (.ol _) => (fa s).bind fun ds s1 => match ds, s1.sl[i]? with
    | [d], some (.ol xs) => if xs.length < 1000000 then .ok .nx ⟨s1.sl.set i (.ol (xs ++ [d])), s1.st⟩ else .stuck
    | _, _ => .stuck
  | _ => .stuck := rfl
/-! data equality -/
open PySem in
theorem pys_ints (ns : List Int) : toPys (ns.map D.int) = some (ns.map PyData.int) := by
  induction ns with
  | nil => rfl
  | cons a r ih => simp [toPys, toPy, ih]
open PySem in
theorem can_ints (ns : List Int) : PyData.canLayAll0 (ns.map PyData.int) = true := by
  induction ns with
  | nil => rfl
  | cons a r ih => simp [PyData.canLayAll0, PyData.canLay0, ih]
open PySem in
theorem dep_ints (ns : List Int) : PyData.depthAll (ns.map PyData.int) = 0 := by
  induction ns with
  | nil => rfl
  | cons a r ih => simp [PyData.depthAll, PyData.depth, ih]
open PySem in
@[simp] theorem r_ne_nil (ns : List Int) : dNe (.lst (ns.map D.int)) (.lst []) = some (.bl (!ns.isEmpty)) := by
  cases ns with
  | nil => simp [dNe, toPy, toPys, SeqAt.shaped, PyData.canLay0, PyData.depth, PyData.depthAll, PyData.eqv, PyData.eqvAll, PyData.canLayAll0]
  | cons a r => simp [dNe, toPy, toPys, pys_ints, can_ints, dep_ints, SeqAt.shaped, PyData.canLay0, PyData.depth, PyData.depthAll, PyData.eqv, PyData.eqvAll, PyData.canLayAll0]
@[simp] theorem r_ne_nil0 : dNe (.lst []) (.lst []) = some (.bl false) := r_ne_nil []
/-! the draw pen -/
abbrev penD (cs : List Int) (c l : Int) : List (DK × D) := [(.s [99, 101, 108, 108, 115], .lst (cs.map D.int)), (.s [99, 111, 117, 110, 116], .int c), (.s [108, 101, 102, 116], .int l)]
def Pen (n : Nat) (S : List Cell) : Prop := ∃ cs c l, S = [.dic (penD cs c l)] ∧ 0 ≤ c ∧ c ≤ n ∧ 0 ≤ l
theorem Pen.mono {n m : Nat} {S : List Cell} (h : Pen n S) (hm : n ≤ m) : Pen m S := by
  obtain ⟨cs, c, l, h1, h2, h3, h4⟩ := h
  exact ⟨cs, c, l, h1, h2, by omega, h4⟩
theorem ix_mod (cs : List Int) (c : Int) (h : cs ≠ []) : ∃ x : Int, L2.atI (cs.map D.int) (c.fmod cs.length) = some (.int x) := by
  have hp : (0 : Int) < cs.length := by
    cases cs with
    | nil => exact absurd rfl h
    | cons a r => simp
  have h1 : 0 ≤ c.fmod cs.length := Int.fmod_nonneg_of_pos _ hp
  have h2 : c.fmod cs.length < cs.length := Int.fmod_lt_of_pos _ hp
  obtain ⟨k, hk⟩ := Int.eq_ofNat_of_zero_le h1
  rw [hk] at h2 ⊢
  have h3 : k < cs.length := by omega
  refine ⟨cs[k], ?_⟩
  have : (cs.map D.int)[k]? = some (D.int cs[k]) := by simp [h3]
  exact L2.atI_nat this
theorem Bd.of_range {x : Int} {m n : Nat} (h0 : 0 ≤ x) (h1 : x < m) (h : m ≤ 2 ^ n) : Bd x n := ⟨by omega⟩
end DL
set_option maxRecDepth 100000
set_option maxHeartbeats 4000000
set_option autoImplicit false
namespace DL
/-! more bounds -/
instance bd_half {x : Int} {n : Nat} [h : Bd x n] : Bd (x.fdiv 2) n := ⟨by
  have := h.lt
  rw [Int.fdiv_eq_ediv_of_nonneg _ (by decide)]
  omega⟩
instance bd_abs {x : Int} {n : Nat} [h : Bd x n] : Bd (if x < 0 then -x else x) n := ⟨by
  have := h.lt
  split
  · rw [Int.natAbs_neg]; exact this
  · exact this⟩
instance bd_ite {c : Prop} [Decidable c] {x y : Int} {m n : Nat} [h : Bd x m] [k : Bd y n] : Bd (if c then x else y) (m + n) := ⟨by
  split
  · exact Nat.lt_of_lt_of_le h.lt (Nat.pow_le_pow_right (by decide) (by omega))
  · exact Nat.lt_of_lt_of_le k.lt (Nat.pow_le_pow_right (by decide) (by omega))⟩
theorem Bd.of_le {x : Int} {y : Int} {n : Nat} (k : Bd y n) (h0 : 0 ≤ x) (h : x ≤ y) : Bd x n := ⟨by have := k.lt; omega⟩
theorem fdiv_le_abs (x y : Int) : (x.fdiv y).natAbs ≤ x.natAbs + 1 := by
  by_cases hy : y = 0
  · subst hy; simp
  have key : ∀ x y : Int, 0 < y → (x.fdiv y).natAbs ≤ x.natAbs + 1 := fun x y hy => by
    have h1 : y * x.fdiv y + x.fmod y = x := Int.mul_fdiv_add_fmod x y
    have h2 : 0 ≤ x.fmod y := Int.fmod_nonneg_of_pos _ hy
    have h3 : x.fmod y < y := Int.fmod_lt_of_pos _ hy
    generalize x.fdiv y = q at *
    by_cases c : 0 ≤ q
    · have := Int.mul_nonneg (show 0 ≤ y - 1 by omega) c
      rw [Int.sub_mul] at this
      omega
    · have := Int.mul_nonneg (show 0 ≤ y - 1 by omega) (show 0 ≤ -q - 1 by omega)
      rw [show (y - 1) * (-q - 1) = -(y * q) - y + q + 1 by grind] at this
      omega
  by_cases c : 0 < y
  · exact key x y c
  · have h := key (-x) (-y) (by omega)
    rw [show (-x).fdiv (-y) = x.fdiv y from Int.neg_fdiv_neg x y, Int.natAbs_neg] at h
    exact h
instance bd_fdiv {x y : Int} {n : Nat} [h : Bd x n] : Bd (x.fdiv y) (n + 1) := ⟨by
  have h1 := h.lt
  have h2 := fdiv_le_abs x y
  have h3 : (2 : Nat) ^ (n + 1) = 2 ^ n * 2 := Nat.pow_succ ..
  have h4 : 1 ≤ (2 : Nat) ^ n := Nat.one_le_two_pow
  omega⟩
/-! readings of DLu -/
@[simp] theorem r_eBits (f : DE) (s : DS) : eBits f s = (f s).bind fun d s1 => match d with | .int i => .ok (.int (PySem.Builtin.Int.intBits i : Nat)) s1 | _ => .stuck := rfl
@[simp] theorem r_sRaise (c : String) (f : Nm) (fa : DA) (s : DS) : sRaise c f fa s = (fa s).bind fun ds s1 => match ds with | [d] => .exc ⟨c, [(f, d)]⟩ s1 | _ => .stuck := rfl
@[simp] theorem r_iShl (i j : Int) : iShl (.int i) (.int j) = if 0 ≤ j ∧ j ≤ 1000000 ∧ i.natAbs < 2 ^ 64 then some (.int (i * 2 ^ j.toNat)) else none := rfl
@[simp] theorem r_inS (neg : Bool) (c : Nat) (l : Nm) : dIn neg (.str [c]) (.str l) = some (.bl (if neg then !decide (c ∈ l) else decide (c ∈ l))) := rfl
@[simp] theorem r_lo_exc (x : Xc) (s : DS) (k : DS → Res DS Out) : loopOut (.exc x s) k = .exc x s := rfl
theorem inF_ints (neg : Bool) (i : Int) (ns : List Int) : dIn neg (.int i) (.tup (ns.map D.int)) = some (.bl (if neg then !decide (i ∈ ns) else decide (i ∈ ns))) := by
  have h1 : (ns.map D.int).all flD = true := by simp [flD]
  have h2 : (ns.map D.int).any (fun z => eqFl z (.int i)) = decide (i ∈ ns) := by
    induction ns with
    | nil => rfl
    | cons a r ih =>
      simp only [List.map_cons, List.any_cons, ih (by simp [flD])]
      show ((a == i) || decide (i ∈ r)) = _
      by_cases e : a = i
      · subst e; simp
      · simp [e, Ne.symm e]
  simp [dIn, inS, inF, h1, h2, flD]
theorem inF_intsL (neg : Bool) (i : Int) (ns : List Int) : dIn neg (.int i) (.lst (ns.map D.int)) = some (.bl (if neg then !decide (i ∈ ns) else decide (i ∈ ns))) := by
  have h1 : (ns.map D.int).all flD = true := by simp [flD]
  have h2 : (ns.map D.int).any (fun z => eqFl z (.int i)) = decide (i ∈ ns) := by
    induction ns with
    | nil => rfl
    | cons a r ih =>
      simp only [List.map_cons, List.any_cons, ih (by simp [flD])]
      show ((a == i) || decide (i ∈ r)) = _
      by_cases e : a = i
      · subst e; simp
      · simp [e, Ne.symm e]
  simp [dIn, inS, inF, h1, h2, flD]
/-! + and * of sequences -/
@[simp] theorem r_dAdd_ll (xs ys : List D) : dAdd (.lst xs) (.lst ys) = lAdd (.lst xs) (.lst ys) := rfl
@[simp] theorem r_lAdd_ll (xs ys : List D) : lAdd (.lst xs) (.lst ys) = if xs.length + ys.length ≤ 1000000 then some (.lst (xs ++ ys)) else none := rfl
/-! loops -/
theorem forL_inv {g : DG} {b : DStm} {items : List D} (P : Nat → DS → Prop) (step : ∀ (i : Nat) (d : D) (s : DS), items[i]? = some d → P i s → ∃ s1 s2, g d s = .ok () s1 ∧ (b s1 = .ok .nx s2 ∨ b s1 = .ok .ct s2) ∧ P (i + 1) s2) :
    ∀ (l : List D) (i : Nat) (s : DS), (∀ j, l[j]? = items[i + j]?) → P i s → ∃ s', forL g b l s = .ok .nx s' ∧ P (i + l.length) s'
  | [], i, s, h, hp => ⟨s, rfl, hp⟩
  | d :: l, i, s, h, hp => by
    have h0 := h 0
    simp only [List.getElem?_cons_zero, Nat.add_zero] at h0
    obtain ⟨s1, s2, e1, e2, hp2⟩ := step i d s h0.symm hp
    obtain ⟨s', e3, hp3⟩ := forL_inv P step l (i + 1) s2 (fun j => by
      have := h (j + 1)
      rw [List.getElem?_cons_succ] at this
      rw [this]
      congr 1
      omega) hp2
    refine ⟨s', ?_, by rw [show i + (d :: l).length = i + 1 + l.length by simp; omega]; exact hp3⟩
    rw [r_for_cons, e1]
    rcases e2 with e2 | e2 <;> simp [e2, e3]
theorem for_inv {g : DG} {b : DStm} {items : List D} {s : DS} (P : Nat → DS → Prop) (h0 : P 0 s) (step : ∀ (i : Nat) (d : D) (s : DS), items[i]? = some d → P i s → ∃ s1 s2, g d s = .ok () s1 ∧ (b s1 = .ok .nx s2 ∨ b s1 = .ok .ct s2) ∧ P (i + 1) s2) :
    ∃ s', forL g b items s = .ok .nx s' ∧ P items.length s' := by
  obtain ⟨s', e, hp⟩ := forL_inv P step items 0 s (fun j => by simp) h0
  exact ⟨s', e, by simpa using hp⟩
@[simp] theorem rngL_len (lo : Int) (n : Nat) : (rngL lo n).length = n := by simp [rngL]
theorem rngL_get {lo : Int} {n i : Nat} {d : D} (h : (rngL lo n)[i]? = some d) : i < n ∧ d = .int (lo + i) := by
  unfold rngL at h
  rw [List.getElem?_map] at h
  cases e : (List.range n)[i]? with
  | none => rw [e] at h; cases h
  | some k =>
    rw [e] at h
    cases h
    have hi : i < n := by simpa using (List.getElem?_eq_some_iff.mp e).1
    rw [List.getElem?_range hi] at e
    cases e
    exact ⟨hi, rfl⟩
end DL
set_option maxRecDepth 100000
set_option maxHeartbeats 4000000
set_option autoImplicit false
namespace DL
open PySem
/-! ### == of plain data, by data alone -/
mutual
def plD : D → Bool
  | .non => true
  | .bl _ => true
  | .int _ => true
  | .str l => l.all (· < 0x110000)
  | .tup xs => plDs xs
  | .lst xs => plDs xs
  | .scr xs => plDs xs
  | _ => false
def plDs : List D → Bool
  | [] => true
  | x :: r => plD x && plDs r
end
mutual
def dpD : D → Nat
  | .tup xs => dpDs xs + 1
  | .lst xs => dpDs xs + 1
  | .scr xs => dpDs xs + 1
  | _ => 0
def dpDs : List D → Nat
  | [] => 0
  | x :: r => max (dpD x) (dpDs r)
end
mutual
def eqPl : D → D → Bool
  | .non, .non => true
  | .bl a, .bl b => a == b
  | .bl a, .int j => decide ((if a then (1 : Int) else 0) = j)
  | .int i, .bl b => decide (i = if b then (1 : Int) else 0)
  | .int i, .int j => decide (i = j)
  | .str a, .str b => decide (a = b)
  | .tup xs, .tup ys => eqPls xs ys
  | .lst xs, .lst ys => eqPls xs ys
  | .scr xs, .lst ys => eqPls xs ys
  | .lst xs, .scr ys => eqPls xs ys
  | .scr xs, .scr ys => eqPls xs ys
  | _, _ => false
def eqPls : List D → List D → Bool
  | [], [] => true
  | x :: xs, y :: ys => eqPl x y && eqPls xs ys
  | _, _ => false
end
theorem strOk_nm (l : Nm) : PyData.strOk (nm l) = l.all (· < 0x110000) := by simp [PyData.strOk, nm]
mutual
theorem toPy_pl : ∀ d : D, plD d = true → ∃ p, toPy d = some p ∧ p.canLay0 = true ∧ p.depth = dpD d
  | .non, _ => ⟨.none, rfl, rfl, rfl⟩
  | .bl b, _ => ⟨.bool b, rfl, rfl, rfl⟩
  | .int i, _ => ⟨.int i, rfl, rfl, rfl⟩
  | .str l, h => ⟨.str (nm l), rfl, by simp only [plD] at h; simp only [PyData.canLay0, strOk_nm]; exact h, rfl⟩
  | .tup xs, h => by
    obtain ⟨ps, h1, h2, h3⟩ := toPys_pl xs h
    exact ⟨.tuple ps, by simp [toPy, h1], h2, by simp [PyData.depth, dpD, h3]⟩
  | .lst xs, h => by
    obtain ⟨ps, h1, h2, h3⟩ := toPys_pl xs h
    exact ⟨.list ps, by simp [toPy, h1], h2, by simp [PyData.depth, dpD, h3]⟩
  | .scr xs, h => by
    obtain ⟨ps, h1, h2, h3⟩ := toPys_pl xs h
    exact ⟨.list ps, by simp [toPy, h1], h2, by simp [PyData.depth, dpD, h3]⟩
  | .dic _, h => by simp [plD] at h
  | .ins _ _, h => by simp [plD] at h
  | .cell _, h => by simp [plD] at h
  | .cls _, h => by simp [plD] at h
  | .ty _, h => by simp [plD] at h
  | .fn _, h => by simp [plD] at h
  | .lam _, h => by simp [plD] at h
theorem toPys_pl : ∀ ds : List D, plDs ds = true → ∃ ps, toPys ds = some ps ∧ PyData.canLayAll0 ps = true ∧ PyData.depthAll ps = dpDs ds
  | [], _ => ⟨[], rfl, rfl, rfl⟩
  | d :: r, h => by
    simp only [plDs, Bool.and_eq_true] at h
    obtain ⟨p, h1, h2, h3⟩ := toPy_pl d h.1
    obtain ⟨ps, h4, h5, h6⟩ := toPys_pl r h.2
    exact ⟨p :: ps, by simp [toPys, h1, h4], by simp [PyData.canLayAll0, h2, h5], by simp [PyData.depthAll, dpDs, h3, h6]⟩
end
theorem nm_beq (a b : Nm) : (nm a == nm b) = decide (a = b) := by
  by_cases e : a = b
  · subst e; simp
  · rw [beq_eq_false_iff_ne.mpr fun z => e (nm_inj z)]; simp [e]
theorem dec_beq (a b : Int) : (a == b) = decide (a = b) := by simp [Bool.beq_eq_decide_eq]
mutual
theorem eqv_pl : ∀ (x y : D) (p q : PyData), toPy x = some p → toPy y = some q → PyData.eqv p q = eqPl x y := by
  intro x y p q h1 h2
  cases x <;> cases y <;> first
    | (simp [toPy] at h1; done)
    | (simp [toPy] at h2; done)
    | (simp only [toPy, Option.some.injEq] at h1 h2; subst h1; subst h2; first | rfl | exact dec_beq _ _ | exact nm_beq _ _ | (simp [PyData.eqv, eqPl]; done))
    | (simp only [toPy, Option.map_eq_some_iff, Option.some.injEq] at h1 h2
       first
         | (obtain ⟨ps, e1, rfl⟩ := h1; obtain ⟨qs, e2, rfl⟩ := h2; first | exact eqvs_pl _ _ _ _ e1 e2 | rfl)
         | (obtain ⟨ps, e1, rfl⟩ := h1; subst h2; rfl)
         | (obtain ⟨qs, e2, rfl⟩ := h2; subst h1; rfl))
theorem eqvs_pl : ∀ (xs ys : List D) (ps qs : List PyData), toPys xs = some ps → toPys ys = some qs → PyData.eqvAll ps qs = eqPls xs ys
  | [], [], ps, qs, h1, h2 => by cases h1; cases h2; rfl
  | [], y :: ys, ps, qs, h1, h2 => by
    cases h1
    simp only [toPys, Option.bind_eq_some_iff, Option.map_eq_some_iff] at h2
    obtain ⟨p, _, q, _, rfl⟩ := h2
    rfl
  | x :: xs, [], ps, qs, h1, h2 => by
    cases h2
    simp only [toPys, Option.bind_eq_some_iff, Option.map_eq_some_iff] at h1
    obtain ⟨p, _, q, _, rfl⟩ := h1
    rfl
  | x :: xs, y :: ys, ps, qs, h1, h2 => by
    simp only [toPys, Option.bind_eq_some_iff, Option.map_eq_some_iff] at h1 h2
    obtain ⟨p, e1, q, e2, rfl⟩ := h1
    obtain ⟨p', e3, q', e4, rfl⟩ := h2
    simp only [PyData.eqvAll, eqPls, eqv_pl x y p p' e1 e3, eqvs_pl xs ys q q' e2 e4]
end
def plOk (d : D) : Prop := plD d = true ∧ dpD d ≤ 64
theorem dEq_pl (x y : D) (h : plOk x) (k : plOk y) : dEq x y = some (.bl (eqPl x y)) := by
  obtain ⟨p, a1, a2, a3⟩ := toPy_pl x h.1
  obtain ⟨q, b1, b2, b3⟩ := toPy_pl y k.1
  have s1 : SeqAt.shaped p = true := by
    unfold SeqAt.shaped
    rw [a2, a3]
    simp [h.2]
  have s2 : SeqAt.shaped q = true := by
    unfold SeqAt.shaped
    rw [b2, b3]
    simp [k.2]
  unfold dEq
  rw [a1, b1]
  simp only [s1, s2, Bool.and_self, if_true, eqv_pl x y p q a1 b1]
theorem dNe_pl (x y : D) (h : plOk x) (k : plOk y) : dNe x y = some (.bl (!eqPl x y)) := by
  obtain ⟨p, a1, a2, a3⟩ := toPy_pl x h.1
  obtain ⟨q, b1, b2, b3⟩ := toPy_pl y k.1
  have s1 : SeqAt.shaped p = true := by
    unfold SeqAt.shaped
    rw [a2, a3]
    simp [h.2]
  have s2 : SeqAt.shaped q = true := by
    unfold SeqAt.shaped
    rw [b2, b3]
    simp [k.2]
  unfold dNe
  rw [a1, b1]
  simp only [s1, s2, Bool.and_self, if_true, eqv_pl x y p q a1 b1]
@[simp] theorem pl_non : plOk .non := ⟨rfl, by simp [dpD]⟩
@[simp] theorem pl_bl (b : Bool) : plOk (.bl b) := ⟨rfl, by simp [dpD]⟩
@[simp] theorem pl_int (i : Int) : plOk (.int i) := ⟨rfl, by simp [dpD]⟩
theorem pl_str (l : Nm) (h : l.all (· < 0x110000) = true) : plOk (.str l) := ⟨h, by simp [dpD]⟩
/-- flat items -/
def plF (d : D) : Prop := plD d = true ∧ dpD d ≤ 60
def plFs (ds : List D) : Prop := plDs ds = true ∧ dpDs ds ≤ 60
@[simp] theorem plFs_nil : plFs [] ↔ True := by simp [plFs, plDs, dpDs]
@[simp] theorem plFs_cons (d : D) (r : List D) : plFs (d :: r) ↔ plF d ∧ plFs r := by
  simp only [plFs, plF, plDs, dpDs, Bool.and_eq_true, Nat.max_le]
  constructor <;> intro h <;> simp [h]
@[simp] theorem plF_non : plF .non ↔ True := by simp [plF, plD, dpD]
@[simp] theorem plF_bl (b : Bool) : plF (.bl b) ↔ True := by simp [plF, plD, dpD]
@[simp] theorem plF_int (i : Int) : plF (.int i) ↔ True := by simp [plF, plD, dpD]
@[simp] theorem plF_str (l : Nm) : plF (.str l) ↔ l.all (· < 0x110000) = true := by simp [plF, plD, dpD]
theorem plF_tup3 (x y z : Int) : plF (.tup [.int x, .int y, .int z]) := by simp [plF, plD, plDs, dpD, dpDs]
theorem plFs_ints (ns : List Int) : plFs (ns.map D.int) := by
  induction ns with
  | nil => simp
  | cons a r ih => simp [ih]
theorem pl_tup (xs : List D) (h : plFs xs) : plOk (.tup xs) := ⟨h.1, by have := h.2; simp only [dpD]; omega⟩
theorem pl_lst (xs : List D) (h : plFs xs) : plOk (.lst xs) := ⟨h.1, by have := h.2; simp only [dpD]; omega⟩
theorem plF.ok {d : D} (h : plF d) : plOk d := ⟨h.1, by have := h.2; omega⟩
@[simp] theorem dEq_tt (xs ys : List D) (h : plFs xs) (k : plFs ys) : dEq (.tup xs) (.tup ys) = some (.bl (eqPls xs ys)) := dEq_pl _ _ (pl_tup _ h) (pl_tup _ k)
@[simp] theorem dNe_tt (xs ys : List D) (h : plFs xs) (k : plFs ys) : dNe (.tup xs) (.tup ys) = some (.bl (!eqPls xs ys)) := dNe_pl _ _ (pl_tup _ h) (pl_tup _ k)
@[simp] theorem dEq_ll (xs ys : List D) (h : plFs xs) (k : plFs ys) : dEq (.lst xs) (.lst ys) = some (.bl (eqPls xs ys)) := dEq_pl _ _ (pl_lst _ h) (pl_lst _ k)
@[simp] theorem dNe_ll (xs ys : List D) (h : plFs xs) (k : plFs ys) : dNe (.lst xs) (.lst ys) = some (.bl (!eqPls xs ys)) := dNe_pl _ _ (pl_lst _ h) (pl_lst _ k)
@[simp] theorem dEq_ss (a b : Nm) (h : a.all (· < 0x110000) = true) (k : b.all (· < 0x110000) = true) : dEq (.str a) (.str b) = some (.bl (decide (a = b))) := dEq_pl _ _ (pl_str _ h) (pl_str _ k)
@[simp] theorem dNe_ss (a b : Nm) (h : a.all (· < 0x110000) = true) (k : b.all (· < 0x110000) = true) : dNe (.str a) (.str b) = some (.bl (!decide (a = b))) := dNe_pl _ _ (pl_str _ h) (pl_str _ k)
@[simp] theorem dEq_nt (xs : List D) (h : plFs xs) : dEq .non (.tup xs) = some (.bl false) := dEq_pl _ _ pl_non (pl_tup _ h)
@[simp] theorem dEq_tn (xs : List D) (h : plFs xs) : dEq (.tup xs) .non = some (.bl false) := dEq_pl _ _ (pl_tup _ h) pl_non
@[simp] theorem dNe_nt (xs : List D) (h : plFs xs) : dNe .non (.tup xs) = some (.bl true) := dNe_pl _ _ pl_non (pl_tup _ h)
@[simp] theorem dNe_tn (xs : List D) (h : plFs xs) : dNe (.tup xs) .non = some (.bl true) := dNe_pl _ _ (pl_tup _ h) pl_non
@[simp] theorem dEq_nn : dEq .non .non = some (.bl true) := dEq_pl _ _ pl_non pl_non
@[simp] theorem dNe_nn : dNe .non .non = some (.bl false) := dNe_pl _ _ pl_non pl_non
@[simp] theorem eqPls_nil : eqPls [] [] = true := by simp [eqPls]
@[simp] theorem eqPls_cons (x y : D) (xs ys : List D) : eqPls (x :: xs) (y :: ys) = (eqPl x y && eqPls xs ys) := by simp [eqPls]
@[simp] theorem eqPls_nc (y : D) (ys : List D) : eqPls [] (y :: ys) = false := by simp [eqPls]
@[simp] theorem eqPls_cn (y : D) (ys : List D) : eqPls (y :: ys) [] = false := by simp [eqPls]
@[simp] theorem eqPl_int (i j : Int) : eqPl (.int i) (.int j) = decide (i = j) := by simp [eqPl]
@[simp] theorem eqPl_str (i j : Nm) : eqPl (.str i) (.str j) = decide (i = j) := by simp [eqPl]
@[simp] theorem eqPl_tup (i j : List D) : eqPl (.tup i) (.tup j) = eqPls i j := by simp [eqPl]
@[simp] theorem eqPl_lst (i j : List D) : eqPl (.lst i) (.lst j) = eqPls i j := by simp [eqPl]
@[simp] theorem eqPl_nn : eqPl .non .non = true := by simp [eqPl]
@[simp] theorem eqPl_bb (a b : Bool) : eqPl (.bl a) (.bl b) = (a == b) := by simp [eqPl]
mutual
theorem eqPl_refl : ∀ d : D, plD d = true → eqPl d d = true
  | .non, _ => by simp
  | .bl b, _ => by simp
  | .int i, _ => by simp
  | .str l, _ => by simp
  | .tup xs, h => by simp only [eqPl]; exact eqPls_refl xs h
  | .lst xs, h => by simp only [eqPl]; exact eqPls_refl xs h
  | .scr xs, h => by simp only [eqPl]; exact eqPls_refl xs h
  | .dic _, h => by simp [plD] at h
  | .ins _ _, h => by simp [plD] at h
  | .cell _, h => by simp [plD] at h
  | .cls _, h => by simp [plD] at h
  | .ty _, h => by simp [plD] at h
  | .fn _, h => by simp [plD] at h
  | .lam _, h => by simp [plD] at h
theorem eqPls_refl : ∀ ds : List D, plDs ds = true → eqPls ds ds = true
  | [], _ => by simp
  | d :: r, h => by
    simp only [plDs, Bool.and_eq_true] at h
    simp only [eqPls, eqPl_refl d h.1, eqPls_refl r h.2, Bool.and_self]
end
end DL
set_option maxRecDepth 100000
set_option maxHeartbeats 4000000
set_option autoImplicit false
namespace DL
/-! ### readings of DLk -/
@[simp] theorem r_eIxO (i : Nat) (fb : DE) (s : DS) : eIxO i fb s = match s.sl[i]? with
  | some (.ol _) => (fb s).bind fun y s1 => match y, s1.sl[i]? with
    | .int k, some (.ol xs) => (match L2.atI xs k with | some d => .ok d s1 | none => .stuck)
    | _, _ => .stuck
  | some (.val x) => (fb s).bind fun y s1 => match y with
    | .int k => (match ixD x k with | some d => .ok d s1 | none => .stuck)
    | _ => .stuck
  | _ => .stuck := rfl
@[simp] theorem r_eTruO (i : Nat) (s : DS) : eTruO i s = match s.sl[i]? with
  | some (.ol xs) => .ok (!xs.isEmpty) s
  | some (.val d) => (match truD d with | some b => .ok b s | none => .stuck)
  | _ => .stuck := rfl
@[simp] theorem r_sIxO (i : Nat) (fi fv : DE) (s : DS) : sIxO i fi fv s = (fv s).bind fun d s1 => match s1.sl[i]? with
  | some (.ol _) => (fi s1).bind fun y s2 => match y, s2.sl[i]? with
    | .int k, some (.ol xs) => (match L2.ixN xs.length k with | some j => .ok .nx ⟨s2.sl.set i (.ol (xs.set j d)), s2.st⟩ | none => .stuck)
    | _, _ => .stuck
  | _ => .stuck := rfl
@[simp] theorem r_eProp (c : String) (g : DFn) (f : DE) (s : DS) : eProp c g f s = (f s).bind fun d s1 => match insOf d s1 with
  | some (c1, _) => if c1 = c then noX (lift s1 (g [d] s1.st)) else .stuck
  | none => .stuck := rfl
@[simp] theorem r_eChain (o o' : D → D → Option D) (fa fb fc : DE) (s : DS) : eChain o o' fa fb fc s = (fa s).bind fun x s1 => (fb s1).bind fun y s2 => match o x y with
  | some (.bl true) => (fc s2).bind fun z s3 => match o' y z with
    | some d => .ok d s3
    | none => .stuck
  | some (.bl false) => .ok (.bl false) s2
  | _ => .stuck := rfl
@[simp] theorem r_eSix (fo : DE) (fa : DA) (s : DS) : eSix fo fa s = (fo s).bind fun x s1 => match x with
  | .str a => (fa s1).bind fun ds s2 => match ds with
    | [.str b] => (match PySem.Txt.index0 (nm a) (nm b) with | some k => .ok (.int (k : Nat)) s2 | none => .stuck)
    | _ => .stuck
  | _ => .stuck := rfl
@[simp] theorem r_eBM (T : String) (o : D → List D → Option D) (fo : DE) (fa : DA) (s : DS) : eBM T o fo fa s = (fo s).bind fun x s1 => if MtD.tyOk T x = true then (fa s1).bind fun ds s2 => match o x ds with
  | some d => .ok d s2
  | none => .stuck
  else .stuck := rfl
@[simp] theorem r_tyOk_s (T : String) (l : Nm) : MtD.tyOk T (.str l) = (T == "str") := rfl
@[simp] theorem r_mJoin (a : Nm) (ds : List D) : mJoin (.str a) [.lst ds] = match strsOf ds with
    | some ls => if (ls.map (·.length)).sum + ls.length * a.length ≤ 16777216 then some (.str (TL.joinL a ls)) else none
    | none => none := rfl
@[simp] theorem r_bDivmod (i j : Int) : bDivmod [.int i, .int j] = if 0 < j ∧ divOk j = true then some (.tup [.int (i.fdiv j), .int (i.fmod j)]) else none := rfl
@[simp] theorem r_eFz (i : Nat) (f : DE) (s : DS) : eFz i f s = match s.sl[i]? with
  | some (.ol xs) => f ⟨s.sl.set i (.val (.lst xs)), s.st⟩
  | some (.od kvs) => f ⟨s.sl.set i (.val (.dic kvs)), s.st⟩
  | some (.oi c fs) => f ⟨s.sl.set i (.val (.ins c fs)), s.st⟩
  | _ => f s := rfl
/-! ### lambdas, tries -/
@[simp] theorem r_eLam (n : Nat) (tk k : String) (s : DS) : eLam n tk k s = match s.st[n]? with
  | some (.tab t) => if t = tk then .ok (.lam k) s else .stuck
  | _ => .stuck := rfl
@[simp] theorem r_eAct (Λ : LamR) (i : Nat) (s : DS) : eAct Λ i s = match s.sl[i]? with
  | some (.val (.lam k)) => lift s (Λ k s.st)
  | _ => .stuck := rfl
@[simp] theorem r_eCallL (n : Nat) (g : LamR → DFn) (bs : String → Option DE) (fa : DA) (s : DS) : eCallL n g bs fa s = (fa s).bind fun ds s1 => if ds.length = n then lift s1 (g (lamR bs s1.sl) ds s1.st) else .stuck := rfl
@[simp] theorem r_lamR (bs : String → Option DE) (sl : List Sl) (k : String) (st : List Cell) : lamR bs sl k st = match bs k with
  | some b => lamRun b sl st
  | none => .stuck := rfl
@[simp] theorem r_lamRun (b : DE) (sl : List Sl) (st : List Cell) : lamRun b sl st = match b ⟨sl.map stripS, st⟩ with
  | .ok d s' => .ok d s'.st
  | .exc x s' => .exc x s'.st
  | .stuck => .stuck := rfl
@[simp] theorem r_strip_v (d : D) : stripS (.val d) = .val d := rfl
@[simp] theorem r_strip_u : stripS .un = .un := rfl
@[simp] theorem r_strip_l (xs : List D) : stripS (.ol xs) = .un := rfl
@[simp] theorem r_sTry (b : DStm) (hs : List HdR) (s : DS) : sTry b hs s = match b s with
  | .exc x s1 => catchD hs x s1
  | r => r := rfl
@[simp] theorem r_catch_nil (x : Xc) (s : DS) : catchD [] x s = .exc x s := rfl
@[simp] theorem r_catch_none (c : PySem.Value) (m : String → Option Bool) (f : Xc → DStm) (r : List HdR) (x : Xc) (s : DS) : catchD (⟨c, none, m, f⟩ :: r) x s = match m x.cls with
    | some true => noX (f x s)
    | some false => catchD r x s
    | none => .stuck := rfl
@[simp] theorem r_catch_some (c : PySem.Value) (i : Nat) (m : String → Option Bool) (f : Xc → DStm) (r : List HdR) (x : Xc) (s : DS) : catchD (⟨c, some i, m, f⟩ :: r) x s = match m x.cls with
    | some true => if i < s.sl.length then unD i (noX (f x ⟨s.sl.set i .un, s.st⟩)) else .stuck
    | some false => catchD r x s
    | none => .stuck := rfl
@[simp] theorem r_unD (i : Nat) (r : Res DS Out) : unD i r = r.bind fun o s => .ok o ⟨s.sl.set i .un, s.st⟩ := rfl
@[simp] theorem r_hmT (yes no : List String) (k : String) : hmT yes no k = if k ∈ yes then some true else if k ∈ no then some false else none := rfl
@[simp] theorem r_eXf (c : String) (f : Nm) (x : Xc) (s : DS) : eXf c f x s = if x.cls = c then match x.fs.lookup f with | some d => .ok d s | none => .stuck else .stuck := rfl
/-! ### indexes from behind -/
theorem ixN_last {n : Nat} (h : 0 < n) : L2.ixN n (-1) = some (n - 1) := by
  unfold L2.ixN
  rw [if_neg (by omega), if_pos (by omega)]
  congr 1
  omega
theorem at_neg1 {α : Type} (xs : List α) (x : α) : L2.atI (xs ++ [x]) (-1) = some x := by
  unfold L2.atI
  rw [ixN_last (by simp)]
  simp
theorem set_last {α : Type} (xs : List α) (x y : α) : (xs ++ [x]).set ((xs ++ [x]).length - 1) y = xs ++ [y] := by
  simp
theorem at_nat {α : Type} {xs : List α} {i : Nat} {x : α} (h : xs[i]? = some x) : L2.atI xs (i : Int) = some x := L2.atI_nat h
/-! ### comprehensions that leave the store -/
theorem lc_gen {vs : List Nat} {g : DG} {t : DT} {e : DE} {s0 : DS} (τ : D → Bool) (f : D → D) : ∀ (items acc : List D), (∀ d ∈ items, ∃ s1 s2, g d (wipeS vs s0) = .ok () s1 ∧ t s1 = .ok (τ d) s2 ∧ (τ d = true → ∃ s3, e s2 = .ok (f d) s3 ∧ wipeS vs s3 = wipeS vs s0) ∧ (τ d = false → wipeS vs s2 = wipeS vs s0)) →
    items.length + acc.length ≤ 1000000 → ∀ s, wipeS vs s = wipeS vs s0 → ∃ s', lcL vs g t e items acc s = .ok (acc ++ (items.filter τ).map f) s' ∧ wipeS vs s' = wipeS vs s0
  | [], acc, _, _, s, hs => ⟨s, by simp, hs⟩
  | d :: r, acc, h, hl, s, hs => by
    obtain ⟨s1, s2, e1, e2, e3, e4⟩ := h d (List.mem_cons_self ..)
    have hr := fun d hd => h d (List.mem_cons_of_mem _ hd)
    simp only [List.length_cons] at hl
    rw [r_lc_cons, hs, e1]
    cases hτ : τ d with
    | true =>
      obtain ⟨s3, e5, e6⟩ := e3 hτ
      obtain ⟨s', e7, e8⟩ := lc_gen τ f r (acc ++ [f d]) hr (by simp; omega) s3 e6
      refine ⟨s', ?_, e8⟩
      have : acc.length < 1000000 := by omega
      simp [e2, hτ, e5, this, e7]
    | false =>
      obtain ⟨s', e7, e8⟩ := lc_gen τ f r acc hr (by omega) s2 (e4 hτ)
      refine ⟨s', ?_, e8⟩
      simp [e2, hτ, e7]
theorem aLc_gen {vs : List Nat} {it : DA} {g : DG} {t : DT} {e : DE} {s s0 : DS} {items : List D} (τ : D → Bool) (f : D → D) (hi : it s = .ok items s0) (h : ∀ d ∈ items, ∃ s1 s2, g d (wipeS vs s0) = .ok () s1 ∧ t s1 = .ok (τ d) s2 ∧ (τ d = true → ∃ s3, e s2 = .ok (f d) s3 ∧ wipeS vs s3 = wipeS vs s0) ∧ (τ d = false → wipeS vs s2 = wipeS vs s0))
    (hl : items.length ≤ 1000000) : aLc vs it g t e s = .ok ((items.filter τ).map f) ⟨unwipe vs s0.sl (wipeD vs s0.sl), s0.st⟩ := by
  obtain ⟨s', e1, e2⟩ := lc_gen τ f items [] h (by simpa using hl) s0 rfl
  have e3 : wipeD vs s'.sl = wipeD vs s0.sl := congrArg DS.sl e2
  have e4 : s'.st = s0.st := by have := congrArg DS.st e2; simpa using this
  rw [r_aLc, hi]
  simp [e1, e3, e4]
theorem aLc_map {vs : List Nat} {it : DA} {g : DG} {e : DE} {s s0 : DS} {items : List D} (f : D → D) (hi : it s = .ok items s0) (h : ∀ d ∈ items, ∃ s1 s3, g d (wipeS vs s0) = .ok () s1 ∧ e s1 = .ok (f d) s3 ∧ wipeS vs s3 = wipeS vs s0)
    (hl : items.length ≤ 1000000) : aLc vs it g bYes e s = .ok (items.map f) ⟨unwipe vs s0.sl (wipeD vs s0.sl), s0.st⟩ := by
  have := aLc_gen (vs := vs) (it := it) (g := g) (t := bYes) (e := e) (s := s) (fun _ => true) f hi (fun d hd => by
    obtain ⟨s1, s3, e1, e2, e3⟩ := h d hd
    exact ⟨s1, s1, e1, rfl, fun _ => ⟨s3, e2, e3⟩, fun z => nomatch z⟩) hl
  rwa [List.filter_eq_self.mpr (fun _ _ => rfl)] at this
/-! comprehensions that draw: by an invariant of the store -/
theorem lc_inv {vs : List Nat} {g : DG} {e : DE} {s0 : List Sl} {items : List D} (P : Nat → List D → List Cell → Prop) (step : ∀ (i : Nat) (d : D) (acc : List D) (S : List Cell), items[i]? = some d → P i acc S → ∃ s1 y s3, g d ⟨wipeD vs s0, S⟩ = .ok () s1 ∧ e s1 = .ok y s3 ∧ wipeD vs s3.sl = wipeD vs s0 ∧ P (i + 1) (acc ++ [y]) s3.st) :
    ∀ (l : List D) (i : Nat) (acc : List D) (s : DS), (∀ j, l[j]? = items[i + j]?) → l.length + acc.length ≤ 1000000 → wipeD vs s.sl = wipeD vs s0 → P i acc s.st → ∃ ys s', lcL vs g bYes e l acc s = .ok ys s' ∧ wipeD vs s'.sl = wipeD vs s0 ∧ P (i + l.length) ys s'.st
  | [], i, acc, s, h, _, hs, hp => ⟨acc, s, rfl, hs, hp⟩
  | d :: l, i, acc, s, h, hl, hs, hp => by
    have h0 := h 0
    simp only [List.getElem?_cons_zero, Nat.add_zero] at h0
    simp only [List.length_cons] at hl
    obtain ⟨s1, y, s3, e1, e2, e3, hp2⟩ := step i d acc s.st h0.symm hp
    obtain ⟨ys, s', e4, e5, hp3⟩ := lc_inv P step l (i + 1) (acc ++ [y]) s3 (fun j => by
      have := h (j + 1)
      rw [List.getElem?_cons_succ] at this
      rw [this]
      congr 1
      omega) (by simp; omega) e3 hp2
    refine ⟨ys, s', ?_, e5, by rw [show i + (d :: l).length = i + 1 + l.length by simp; omega]; exact hp3⟩
    have : acc.length < 1000000 := by omega
    rw [r_lc_cons, show wipeS vs s = ⟨wipeD vs s0, s.st⟩ by simp [hs], e1]
    simp [e2, this, e4]
theorem aLc_inv {vs : List Nat} {it : DA} {g : DG} {e : DE} {s : DS} {s0 : DS} {items : List D} (P : Nat → List D → List Cell → Prop) (hi : it s = .ok items s0) (h0 : P 0 [] s0.st) (step : ∀ (i : Nat) (d : D) (acc : List D) (S : List Cell), items[i]? = some d → P i acc S → ∃ s1 y s3, g d ⟨wipeD vs s0.sl, S⟩ = .ok () s1 ∧ e s1 = .ok y s3 ∧ wipeD vs s3.sl = wipeD vs s0.sl ∧ P (i + 1) (acc ++ [y]) s3.st)
    (hl : items.length ≤ 1000000) : ∃ ys S', aLc vs it g bYes e s = .ok ys ⟨unwipe vs s0.sl (wipeD vs s0.sl), S'⟩ ∧ P items.length ys S' := by
  obtain ⟨ys, s', e1, e2, hp⟩ := lc_inv P step items 0 [] s0 (fun j => by simp) (by simpa using hl) rfl h0
  refine ⟨ys, s'.st, ?_, by simpa using hp⟩
  rw [r_aLc, hi]
  simp [e1, e2]
/-! isinstance(x, (list, tuple)) -/
def isLT (cs : List String) : D → Option Bool
  | .lst _ => some true
  | .scr _ => some true
  | .tup _ => some true
  | .ins c _ => if c ∈ cs then some false else none
  | .non => some false
  | .bl _ => some false
  | .int _ => some false
  | .str _ => some false
  | .dic _ => some false
  | _ => none
theorem isLT_eq (cs : List String) (d : D) : ((tyOfD cs d).bind fun t => isAny cs t [.ty "list", .ty "tuple"]) = isLT cs d := by
  cases d <;> simp [isLT, tyOfD, tyD, isAny, isOne, mem_ty, isTy]
  split <;> simp [isAny, isOne, mem_ty]
@[simp] theorem r_isLT (cs : List String) (fe : DE) (s : DS) : eIsT cs fe (aCons (eC (.ty "list")) (aCons (eC (.ty "tuple")) aNil)) s = (fe s).bind fun d s1 => match isLT cs d with
  | some b => .ok (.bl b) s1
  | none => .stuck := by
  unfold eIsT
  simp [clsD, isLT_eq]
  all_goals rfl
/-! x != [] of an own list -/
@[simp] theorem r_eNeO (i : Nat) (s : DS) : eNeO i s = match s.sl[i]? with
  | some (.ol xs) => (match dNe (.lst xs) (.lst []) with | some (.bl b) => .ok b s | _ => .stuck)
  | some (.val d) => (match dNe d (.lst []) with | some (.bl b) => .ok b s | _ => .stuck)
  | _ => .stuck := rfl
@[simp] theorem r_sPar3O (i j l : Nat) (f1 f2 : DA) (f3 : DE) (s : DS) : sPar3O i j l f1 f2 f3 s = match f1 s with
  | .ok xs s1 => match f2 s1 with
    | .ok ys s2 => match f3 s2 with
      | .ok d s3 => .ok .nx ⟨((s3.sl.set i (.ol xs)).set j (.ol ys)).set l (.val d), s3.st⟩
      | _ => .stuck
    | _ => .stuck
  | _ => .stuck := rfl
@[simp] theorem r_dIsB (a b : Bool) : dIsB (.bl a) (.bl b) = some (.bl (decide (a = b))) := rfl
@[simp] theorem r_dNotB (a b : Bool) : dNotB (.bl a) (.bl b) = some (.bl (!decide (a = b))) := rfl
@[simp] theorem r_gTA_t (n : Nat) (g : List D → DS → Res DS Unit) (ds : List D) (s : DS) : gTA n g (.tup ds) s = if ds.length = n then g ds s else .stuck := rfl
@[simp] theorem r_gTA_l (n : Nat) (g : List D → DS → Res DS Unit) (ds : List D) (s : DS) : gTA n g (.lst ds) s = if ds.length = n then g ds s else .stuck := rfl
@[simp] theorem r_sMul (l : Nm) (n : Int) : sMul (.str l) (.int n) = if l.length ≤ 100 ∧ -100000 ≤ n ∧ n ≤ 100000 then some (.str (List.replicate n.toNat l).flatten) else none := rfl
@[simp] theorem r_tAdd (a b : List D) : tAdd (.tup a) (.tup b) = if a.length + b.length ≤ 1000000 then some (.tup (a ++ b)) else none := rfl
/-! equality of truth values, refusals -/
@[simp] theorem dNe_bb (a b : Bool) : dNe (.bl a) (.bl b) = some (.bl (!(a == b))) := by
  rw [dNe_pl _ _ (pl_bl a) (pl_bl b)]
  cases a <;> cases b <;> rfl
@[simp] theorem dEq_bb (a b : Bool) : dEq (.bl a) (.bl b) = some (.bl (a == b)) := by
  rw [dEq_pl _ _ (pl_bl a) (pl_bl b)]
  cases a <;> cases b <;> rfl
theorem ne_refl {xs : List D} (h : plFs xs) : dNe (.tup xs) (.tup xs) = some (.bl false) := by
  rw [dNe_tt _ _ h h, eqPls_refl _ h.1]; rfl
theorem noLams_int (cs : List Int) : noLams (cs.map D.int) = true := by
  induction cs with
  | nil => rfl
  | cons c cs ih => simp [noLams, noLam, ih]
/-! ### texts put together -/
theorem joinL_ones : ∀ l : List Nat, TL.joinL [] (l.map fun c => [c]) = l
  | [] => rfl
  | [c] => rfl
  | c :: d :: r => by
    have := joinL_ones (d :: r)
    simp only [List.map_cons] at this ⊢
    simp [TL.joinL, this]
theorem strsOf_ones (l : List Nat) : strsOf (l.map fun c => D.str [c]) = some (l.map fun c => [c]) := by
  induction l with
  | nil => rfl
  | cons c l ih => simp [strsOf, ih]
theorem sum_ones (l : List Nat) : ((l.map fun c => [c]).map (·.length)).sum = l.length := by
  induction l with
  | nil => rfl
  | cons c l ih => simp only [List.map_cons, List.sum_cons, ih, List.length_cons, List.length_nil]; omega
theorem join_ones (l : List Nat) (h : l.length ≤ 10000) : mJoin (.str []) [.lst (l.map fun c => D.str [c])] = some (.str l) := by
  rw [r_mJoin, strsOf_ones]
  simp only [sum_ones, joinL_ones, List.length_nil, Nat.mul_zero, Nat.add_zero]
  rw [if_pos (by omega)]
theorem joinL_nil : ∀ ls : List (List Nat), TL.joinL [] ls = ls.flatten
  | [] => rfl
  | [c] => by simp [TL.joinL]
  | c :: d :: r => by
    have := joinL_nil (d :: r)
    simp only [TL.joinL, this, List.flatten_cons, List.nil_append]
theorem strsOf_map {α : Type} (f : α → List Nat) (l : List α) : strsOf (l.map fun x => D.str (f x)) = some (l.map f) := by
  induction l with
  | nil => rfl
  | cons c l ih => simp [strsOf, ih]
theorem join_map {α : Type} (f : α → List Nat) (l : List α) (h : (l.map f).flatten.length ≤ 10000) : mJoin (.str []) [.lst (l.map fun x => D.str (f x))] = some (.str (l.map f).flatten) := by
  rw [r_mJoin, strsOf_map]
  rw [List.length_flatten] at h
  simp only [joinL_nil, List.length_nil, Nat.mul_zero, Nat.add_zero]
  rw [if_pos (Nat.le_trans h (by decide))]
theorem filter_first {α : Type} (τ : α → Bool) : ∀ (l : List α) (f : Nat) (x : α), l[f]? = some x → τ x = true → (∀ i y, i < f → l[i]? = some y → τ y = false) → ∃ r, l.filter τ = x :: r ∧ (∀ z ∈ r, z ∈ l)
  | [], f, x, h, _, _ => by simp at h
  | y :: l, 0, x, h, h1, h2 => by
    simp only [List.getElem?_cons_zero, Option.some.injEq] at h
    subst h
    exact ⟨l.filter τ, by rw [List.filter_cons_of_pos h1], fun z hz => List.mem_cons_of_mem _ (List.mem_filter.mp hz).1⟩
  | y :: l, f + 1, x, h, h1, h2 => by
    have e := h2 0 y (by omega) rfl
    obtain ⟨r, hr, hm⟩ := filter_first τ l f x (by simpa using h) h1 fun i z hi hz => h2 (i + 1) z (by omega) (by simpa using hz)
    exact ⟨r, by rw [List.filter_cons_of_neg (by rw [e]; decide)]; exact hr, fun z hz => List.mem_cons_of_mem _ (hm z hz)⟩
end DL
set_option maxRecDepth 100000
set_option maxHeartbeats 4000000
set_option autoImplicit false
namespace DL
open PySem PySem.Spec PyProof.Rows L2
section
variable {G : Gam} {W : WX} {X : Cx}
/-! ### d.get(k, x) -/
def eDGet2 (fo fk fx : DE) : DE := fun s => (fo s).bind fun d s1 => match dictOf d s1 with
  | none => .stuck
  | some _ => (fk s1).bind fun k s2 => (fx s2).bind fun x s3 => match dictOf d s3, kOf k with
    | some kvs, some key => .ok ((dLook kvs key).getD x) s3
    | _, _ => .stuck
theorem Rep.isD {κ : Bs} {w : Wd} {s : DS} {σ : L2.St} {H : Hp} {v : V} {d : D} {kvs : List (DK × D)} (ok : Ok G κ w s σ H) (r : Rep G w v d) (e : dictOf d s = some kvs) : ∃ a, v = .ref a ∧ IsD H a := by
  obtain ⟨a, vs, rfl, hH, _⟩ := r.dict ok e
  exact ⟨a, rfl, .inl ⟨vs, .inl hH⟩⟩
theorem pd_dget2 {o e f : Expr} {fo fk fx : DE} {apos cpos : Pos} (hu : X.A.units + 1 < cLine) (ho : PD G W X o fo) (hk : PD G W X e fk) (hx : PD G W X f fx) (m : M2 X o "get" apos e f cpos) : PD G W X (.Call (.Attribute o "get" apos) [e, f] [] cpos) (eDGet2 fo fk fx) :=
  (pe_dget2 hu ho hk hx m).imp fun σ H Q ⟨κ, w, s, ok, q⟩ => ⟨κ, w, s, ok, (PostG.bind q).imp fun v H1 ⟨d, s1, w1, le, ok1, r1, q1⟩ => by
    cases e0 : dictOf d s1 with
    | none => rw [e0] at q1; exact q1.elim
    | some kv0 =>
      rw [e0] at q1
      obtain ⟨a, rfl, isd⟩ := r1.isD ok1 e0
      refine ⟨a, rfl, isd, κ, w1, s1, ok1, (PostG.bind q1).imp fun v2 H2 ⟨d2, s2, w2, le2, ok2, r2, q2⟩ => ⟨κ, w2, s2, ok2, (PostG.bind q2).imp fun v3 H3 ⟨d3, s3, w3, le3, ok3, r3, q3⟩ => ?_⟩⟩
      cases e1 : dictOf d s3 with
      | none => rw [e1] at q3; exact q3.elim
      | some kvs =>
        cases e2 : kOf d2 with
        | none => rw [e1, e2] at q3; exact q3.elim
        | some k =>
          rw [e1, e2] at q3
          replace q3 : PostG G W (Rep G) κ w3 σ (.ok ((dLook kvs k).getD d3) s3) Q := q3
          obtain ⟨a', vs, ha, hH, rk⟩ := ((r1.mono le2).mono le3).dict ok3 e1
          cases ha
          cases e3 : dLook kvs k with
          | none =>
            rw [e3] at q3
            refine ⟨none, ?_, q3 w3 v3 H3 (.refl _) ok3 r3⟩
            rw [r2.key e2, ← (rk.look (k := k)).2 e3]
            exact DGet.k hH
          | some x =>
            rw [e3] at q3
            obtain ⟨y, h1, h2⟩ := (rk.look (k := k)).1 x e3
            refine ⟨some y, ?_, q3 w3 y H3 (.refl _) ok3 h2⟩
            rw [r2.key e2, ← h1]
            exact DGet.k hH⟩
end
@[simp] theorem r_eDGet2 (fo fk fx : DE) (s : DS) : eDGet2 fo fk fx s = (fo s).bind fun d s1 => match dictOf d s1 with
  | none => .stuck
  | some _ => (fk s1).bind fun k s2 => (fx s2).bind fun x s3 => match dictOf d s3, kOf k with
    | some kvs, some key => .ok ((dLook kvs key).getD x) s3
    | _, _ => .stuck := rfl
end DL
set_option maxRecDepth 100000
set_option maxHeartbeats 4000000
set_option autoImplicit false
namespace DL
open PySem PySem.Spec PyProof.Rows L2
/-! ### a tuple times a number, of any size -/
theorem tm_same (l : Addr) (items : Array Value) (n : Nat) (dd : Option Addr) (sl : Array (Option Value)) (x : Int) (u : Tok) (hx : (decide (x < -2 ^ 63) || decide (x ≥ 2 ^ 63)) = false) (h1 : (items.isEmpty || x == 1) = true) :
    Meets (Builtin.«tuple.__mul__» { pos := [Value.ref l, Value.int x u] }) fun _ R s =>
      s.heap.get? l = some { cls := Value.type "tuple", dict := dd, data := Data.seq items n, slots := sl } ∧ R (Except.ok (Flow.ret (Value.ref l))) s := by
  intro prog w A R s ⟨hg, hR⟩
  refine wpAny_bind (m := asIndex (.int x u)) ?_
  show wpAny (model prog w) A.in1 (pure x) _ _ s
  refine wpAny_pure ?_
  show wpAny (model prog w) A.in1 (if (decide (x < -2 ^ 63) || decide (x ≥ 2 ^ 63)) = true then _ else _) _ _ s
  rw [if_neg (by rw [hx]; exact Bool.false_ne_true)]
  refine wpAny_bind (m := Builtin.Tuple.tupleItemsOf (.ref l)) ?_
  refine tupleItemsOf_ ⟨_, hg, rfl, n, rfl⟩ ?_
  show wpAny (model prog w) A.in1 (if (items.isEmpty || x == 1) = true then _ else _) _ _ s
  rw [if_pos h1]
  refine wpAny_bind (m := Builtin.Tuple.tupleIsExact (.ref l)) ?_
  refine wpAny_bind (m := typeOf (.ref l)) ?_
  refine wpAny_typeOf (T := "tuple") ⟨_, hg, rfl⟩ ?_
  refine wpAny_pure ?_
  show wpAny (model prog w) A.in1 (if (Value.type "tuple" == Value.type "tuple") = true then _ else _) _ _ s
  rw [if_pos (by simp)]
  refine wpAny_bind (wpAny_rule ?_)
  exact wpAny_pure hR
theorem tm_none (l : Addr) (items : Array Value) (n : Nat) (dd : Option Addr) (sl : Array (Option Value)) (x : Int) (u : Tok) (hx : (decide (x < -2 ^ 63) || decide (x ≥ 2 ^ 63)) = false) (h1 : (items.isEmpty || x == 1) = false) (h2 : x ≤ 0) :
    Meets (Builtin.«tuple.__mul__» { pos := [Value.ref l, Value.int x u] }) fun _ R s =>
      s.heap.get? l = some { cls := Value.type "tuple", dict := dd, data := Data.seq items n, slots := sl } ∧ R (Except.ok (Flow.ret (Value.ref s.heap.objs.size))) { heap := s.heap.push { cls := Value.type "tuple", data := Data.seq #[] }, gens := s.gens, drawn := s.drawn, toks := s.toks, os := s.os } := by
  intro prog w A R s ⟨hg, hR⟩
  refine wpAny_bind (m := asIndex (.int x u)) ?_
  show wpAny (model prog w) A.in1 (pure x) _ _ s
  refine wpAny_pure ?_
  show wpAny (model prog w) A.in1 (if (decide (x < -2 ^ 63) || decide (x ≥ 2 ^ 63)) = true then _ else _) _ _ s
  rw [if_neg (by rw [hx]; exact Bool.false_ne_true)]
  refine wpAny_bind (m := Builtin.Tuple.tupleItemsOf (.ref l)) ?_
  refine tupleItemsOf_ ⟨_, hg, rfl, n, rfl⟩ ?_
  show wpAny (model prog w) A.in1 (if (items.isEmpty || x == 1) = true then _ else _) _ _ s
  rw [if_neg (by rw [h1]; exact Bool.false_ne_true)]
  show wpAny (model prog w) A.in1 (if (decide (x ≤ 0) || items.isEmpty) = true then _ else _) _ _ s
  rw [if_pos (by simp [h2])]
  refine wpAny_bind (m := newObj (Value.type "tuple") (Data.seq #[])) ?_
  refine wpAny_newObj_type ?_ (by show 0 ≤ sizeLine; decide)
  exact wpAny_pure hR
def rRepX (K : PySem.W.Frag) : R2 := fun x y H Q => ∃ l k xs, x = V.ref l ∧ y = V.int k ∧ SqT K H l xs ∧ -(2 ^ 63) ≤ k ∧ k < 2 ^ 63 ∧ xs.length * k.toNat ≤ 1000000 ∧
  if xs = [] ∨ k = 1 then Q (V.ref l) H else ∀ p, H p = none → Q (V.ref p) (upd H p (HO.tup (List.replicate k.toNat xs).flatten))
section
variable {G : Gam} {W : WX} {X : Cx}
theorem op_repX : OpR X (binaryOp .Mult) (rRepX X.K) := by
  intro pins s σ H x y v u Q I rv ru ⟨l, k, xs, hx, hy, sq, k0, k1, hz, q⟩
  subst hx hy
  cases rv
  obtain ⟨tk, rfl⟩ := ru
  obtain ⟨its, vl, ⟨o, ho, hc, n, hd⟩, hl⟩ := I.tuple sq
  have hlen := vl.length
  obtain ⟨cls, dd, data, sl⟩ := o
  simp only at hc hd
  subst hc hd
  have kr : (decide (k < -2 ^ 63) || decide (k ≥ 2 ^ 63)) = false := by
    rw [Bool.or_eq_false_iff, decide_eq_false_iff_not, decide_eq_false_iff_not]
    omega
  refine wpAny_binaryOp_repeat_ref (T := "tuple") (U := "int") (by decide) ⟨_, ho, rfl⟩ (fun s' => typeIs_int s' _ _) noFill_tuple_mul F.fills_int_mul F.slot_int_rmul repeat_tuple F.slot_int_index.lookup ?_
  refine call_meets F.slot_int_rmul (typeIs_int s _ _) F.entry_int_rmul (F.args_int_rmul_2 _ _) (int_rmul_tuple _ _ _ _ _ _ _) ⟨ho, ?_⟩
  refine ⟨rfl, ⟨_, ho, rfl⟩, ?_⟩
  by_cases c : xs = [] ∨ k = 1
  · rw [if_pos c] at q
    have h1 : (its.toArray.isEmpty || k == 1) = true := by
      rcases c with c | c
      · subst c
        have : its = [] := List.eq_nil_of_length_eq_zero (by simpa using hlen.symm)
        subst this; rfl
      · subst c; simp
    refine call_meets F.slot_tuple_mul ⟨_, ho, rfl⟩ F.entry_tuple_mul (F.args_tuple_mul_2 _ _) (tm_same l its.toArray n dd sl k tk kr h1) ⟨ho, ?_⟩
    exact ⟨V.ref l, H, I, rfl, q⟩
  · rw [if_neg c] at q
    have c1 : xs ≠ [] := fun z => c (.inl z)
    have c2 : k ≠ 1 := fun z => c (.inr z)
    have i1 : its ≠ [] := fun z => c1 (List.eq_nil_of_length_eq_zero (by rw [hlen, z]; rfl))
    have h1 : (its.toArray.isEmpty || k == 1) = false := by
      cases its with
      | nil => exact absurd rfl i1
      | cons a r => simp [c2]
    by_cases c3 : k ≤ 0
    · refine call_meets F.slot_tuple_mul ⟨_, ho, rfl⟩ F.entry_tuple_mul (F.args_tuple_mul_2 _ _) (tm_none l its.toArray n dd sl k tk kr h1 c3) ⟨ho, ?_⟩
      have e0 : (List.replicate k.toNat xs).flatten = [] := by rw [show k.toNat = 0 by omega]; rfl
      rw [e0] at q
      refine ⟨.ref s.heap.objs.size, upd H s.heap.objs.size (.tup []), ?_, rfl, q _ (I.hok.fresh (Nat.le_refl _))⟩
      refine I.laid (t' := s.toks) (fun b o e => Heap.get?_push_of_some _ e) (Nat.le_refl _) ⟨Nat.zero_le _, [], .nil, ?_⟩
      exact IsTup.new s.heap #[]
    · have hsz : (its.length : Int) * k ≤ 1000000 := by
        have : ((xs.length * k.toNat : Nat) : Int) ≤ 1000000 := Int.ofNat_le.mpr hz
        rw [Int.natCast_mul] at this
        rw [Int.toNat_of_nonneg (by omega)] at this
        rw [hlen] at this; exact this
      have hfl : (List.replicate k.toNat its).flatten.length ≤ 1000000 := by
        rw [lm_len_rep_flat, ← hlen, Nat.mul_comm]; exact hz
      refine call_meets F.slot_tuple_mul ⟨_, ho, rfl⟩ F.entry_tuple_mul (F.args_tuple_mul_2 _ _) (tuple_mulW l its.toArray n dd sl k tk kr h1 ?_ ?_ ?_ ?_) ⟨ho, ?_⟩
      · cases its with
        | nil => exact absurd rfl i1
        | cons a r =>
          show (decide (k ≤ 0) || false) = false
          rw [Bool.or_false, decide_eq_false_iff_not]; exact c3
      · simp only [List.size_toArray]; omega
      · unfold Builtin.Tuple.tupleTooMany
        rw [decide_eq_false_iff_not, sizeLine_eq]
        simp only [List.size_toArray]; omega
      · rw [size_rep, List.size_toArray, sizeLine_eq]; omega
      · rw [size_rep]
        refine ⟨.ref s.heap.objs.size, upd H s.heap.objs.size (.tup (List.replicate k.toNat xs).flatten), ?_, rfl, q _ (I.hok.fresh (Nat.le_refl _))⟩
        refine I.laid (t' := s.toks) (fun b o e => Heap.get?_push_of_some _ e) (Nat.le_refl _) ⟨?_, (List.replicate k.toNat its).flatten, vl.rep _, ?_⟩
        · rw [lm_len_rep_flat, Nat.mul_comm, sizeLine_eq]; omega
        · exact IsTup.new s.heap _
def tMul : D → D → Option D := fun x y => match x, y with
  | .tup a, .int k => if -(2 ^ 63) ≤ k ∧ k < 2 ^ 63 ∧ a.length * k.toNat ≤ 1000000 then some (.tup (List.replicate k.toNat a).flatten) else none
  | _, _ => none
theorem opd_tmul (hK : G.K = X.K) : OpD G X (binaryOp .Mult) tMul := ⟨_, op_repX, fun κ w s σ H x y dx dy d Q ok rx ry e q => by
  cases rx with
  | @tup a vs ds e1 r1 =>
    cases ry with
    | int k =>
      have e : (if -(2 ^ 63) ≤ k ∧ k < 2 ^ 63 ∧ ds.length * k.toNat ≤ 1000000 then some (D.tup (List.replicate k.toNat ds).flatten) else none) = some d := e
      split at e
      · rename_i c
        cases e
        refine ⟨a, k, vs, rfl, rfl, hK ▸ SqT.le e1 ok.fok.sub, c.1, c.2.1, by rw [r1.length]; exact c.2.2, ?_⟩
        split
        · rename_i c2
          have ed : (List.replicate k.toNat ds).flatten = ds := by
            rcases c2 with c2 | c2
            · subst c2
              have : ds = [] := List.eq_nil_of_length_eq_zero (by rw [← r1.length]; rfl)
              subst this
              simp
            · subst c2
              simp
          rw [ed] at q
          exact q w _ H (.refl _) ok (.tup e1 r1)
        · intro p hp
          obtain ⟨le2, ok2⟩ := ok.alloc hp (.tup (List.replicate k.toNat vs).flatten)
          exact q _ _ _ le2 ok2 (.tup (.inl (.inl upd_same)) ((r1.rep _).mono le2))
      · cases e
    | _ => exact nomatch e
  | _ => exact nomatch e⟩
end
@[simp] theorem r_tMul (a : List D) (k : Int) : tMul (.tup a) (.int k) = if -(2 ^ 63) ≤ k ∧ k < 2 ^ 63 ∧ a.length * k.toNat ≤ 1000000 then some (.tup (List.replicate k.toNat a).flatten) else none := rfl
end DL
set_option maxRecDepth 100000
set_option maxHeartbeats 4000000
set_option autoImplicit false
namespace DL
/-! reading from the left: what stands behind is read once its first part is known -/
def seqK (r : Res DS Out) (g : DStm) : Res DS Out := r.bind fun o s1 => match o with | .nx => g s1 | o => .ok o s1
@[simp] theorem seqK_nx (s : DS) (g : DStm) : seqK (.ok .nx s) g = g s := rfl
@[simp] theorem seqK_rt (d : D) (s : DS) (g : DStm) : seqK (.ok (.rt d) s) g = .ok (.rt d) s := rfl
@[simp] theorem seqK_bk (s : DS) (g : DStm) : seqK (.ok .bk s) g = .ok .bk s := rfl
@[simp] theorem seqK_ct (s : DS) (g : DStm) : seqK (.ok .ct s) g = .ok .ct s := rfl
@[simp] theorem seqK_exc (x : Xc) (s : DS) (g : DStm) : seqK (.exc x s) g = .exc x s := rfl
theorem q_sSeq (f g : DStm) (s : DS) : sSeq f g s = seqK (f s) g := rfl
def ifK (r : Res DS Bool) (f g : DStm) : Res DS Out := r.bind fun b s1 => if b = true then f s1 else g s1
@[simp] theorem ifK_t (s : DS) (f g : DStm) : ifK (.ok true s) f g = f s := rfl
@[simp] theorem ifK_f (s : DS) (f g : DStm) : ifK (.ok false s) f g = g s := rfl
theorem ifK_b (b : Bool) (s : DS) (f g : DStm) : ifK (.ok b s) f g = if b = true then f s else g s := by cases b <;> rfl
theorem q_sIf (c : DT) (f g : DStm) (s : DS) : sIf c f g s = ifK (c s) f g := rfl
/-! ### comprehensions over the images of a list of anything -/
theorem lcA_of {α : Type} {vs : List Nat} {g : DG} {t : DT} {e : DE} {s0 : DS} (G : α → D) (τ : α → Bool) (f : α → D) : ∀ (l : List α) (acc : List D), (∀ a ∈ l, ∃ s1 s2, g (G a) (wipeS vs s0) = .ok () s1 ∧ t s1 = .ok (τ a) s2 ∧ (τ a = true → ∃ s3, e s2 = .ok (f a) s3 ∧ wipeS vs s3 = wipeS vs s0) ∧ (τ a = false → wipeS vs s2 = wipeS vs s0)) →
    l.length + acc.length ≤ 1000000 → ∀ s, wipeS vs s = wipeS vs s0 → ∃ s', lcL vs g t e (l.map G) acc s = .ok (acc ++ (l.filter τ).map f) s' ∧ wipeS vs s' = wipeS vs s0
  | [], acc, _, _, s, hs => ⟨s, by simp [lcL], hs⟩
  | a :: r, acc, h, hl, s, hs => by
    obtain ⟨s1, s2, e1, e2, e3, e4⟩ := h a (List.mem_cons_self ..)
    have hr := fun d hd => h d (List.mem_cons_of_mem _ hd)
    simp only [List.length_cons] at hl
    rw [List.map_cons, r_lc_cons, hs, e1]
    cases hτ : τ a with
    | true =>
      obtain ⟨s3, e5, e6⟩ := e3 hτ
      obtain ⟨s', e7, e8⟩ := lcA_of G τ f r (acc ++ [f a]) hr (by simp; omega) s3 e6
      refine ⟨s', ?_, e8⟩
      have : acc.length < 1000000 := by omega
      simp [e2, hτ, e5, this, e7]
    | false =>
      obtain ⟨s', e7, e8⟩ := lcA_of G τ f r acc hr (by omega) s2 (e4 hτ)
      refine ⟨s', ?_, e8⟩
      simp [e2, hτ, e7]
theorem aLc_ofT {α : Type} {vs : List Nat} {it : DA} {g : DG} {t : DT} {e : DE} {s s0 : DS} {l : List α} (G : α → D) (τ : α → Bool) (f : α → D) (hi : it s = .ok (l.map G) s0) (h : ∀ a ∈ l, ∃ s1 s2, g (G a) (wipeS vs s0) = .ok () s1 ∧ t s1 = .ok (τ a) s2 ∧ (τ a = true → ∃ s3, e s2 = .ok (f a) s3 ∧ wipeS vs s3 = wipeS vs s0) ∧ (τ a = false → wipeS vs s2 = wipeS vs s0))
    (hl : l.length ≤ 1000000) : aLc vs it g t e s = .ok ((l.filter τ).map f) ⟨unwipe vs s0.sl (wipeD vs s0.sl), s0.st⟩ := by
  obtain ⟨s', e1, e2⟩ := lcA_of G τ f l [] h (by simpa using hl) s0 rfl
  have e3 : wipeD vs s'.sl = wipeD vs s0.sl := congrArg DS.sl e2
  have e4 : s'.st = s0.st := by have := congrArg DS.st e2; simpa using this
  rw [r_aLc, hi]
  simp [e1, e3, e4]
theorem aLc_of {α : Type} {vs : List Nat} {it : DA} {g : DG} {e : DE} {s s0 : DS} {l : List α} (G : α → D) (f : α → D) (hi : it s = .ok (l.map G) s0) (h : ∀ a ∈ l, ∃ s1 s3, g (G a) (wipeS vs s0) = .ok () s1 ∧ e s1 = .ok (f a) s3 ∧ wipeS vs s3 = wipeS vs s0)
    (hl : l.length ≤ 1000000) : aLc vs it g bYes e s = .ok (l.map f) ⟨unwipe vs s0.sl (wipeD vs s0.sl), s0.st⟩ := by
  have := aLc_ofT (vs := vs) (it := it) (g := g) (t := bYes) (e := e) (s := s) G (fun _ => true) f hi (fun d hd => by
    obtain ⟨s1, s3, e1, e2, e3⟩ := h d hd
    exact ⟨s1, s1, e1, rfl, fun _ => ⟨s3, e2, e3⟩, fun z => nomatch z⟩) hl
  rwa [List.filter_eq_self.mpr (fun _ _ => rfl)] at this
/-- one variable, an element that leaves the state -/
theorem aLc_T1 {α : Type} {v : Nat} {it : DA} {t : DT} {e : DE} {s s0 : DS} {l : List α} (G : α → D) (τ : α → Bool) (f : α → D) (hi : it s = .ok (l.map G) s0) (hv : s0.sl[v]? = some .un) (h : ∀ a ∈ l, t ⟨s0.sl.set v (.val (G a)), s0.st⟩ = .ok (τ a) ⟨s0.sl.set v (.val (G a)), s0.st⟩ ∧ (τ a = true → e ⟨s0.sl.set v (.val (G a)), s0.st⟩ = .ok (f a) ⟨s0.sl.set v (.val (G a)), s0.st⟩))
    (hl : l.length ≤ 1000000) : aLc [v] it (gN v) t e s = .ok ((l.filter τ).map f) s0 := by
  have hs : s0.sl.set v .un = s0.sl := by
    obtain ⟨h1, h2⟩ := List.getElem?_eq_some_iff.mp hv
    rw [← h2]; exact List.set_getElem_self h1
  have := aLc_ofT (vs := [v]) (it := it) (g := gN v) (t := t) (e := e) (s := s) (s0 := s0) G τ f hi (fun a ha => by
    obtain ⟨h1, h2⟩ := h a ha
    refine ⟨_, _, rfl, ?_, fun ht => ⟨_, h2 ht, ?_⟩, fun _ => ?_⟩
    · simp only [r_wipeS, r_wipe_cons, r_wipe_nil, List.set_set]; exact h1
    · simp only [r_wipeS, r_wipe_cons, r_wipe_nil, List.set_set]
    · simp only [r_wipeS, r_wipe_cons, r_wipe_nil, List.set_set]) hl
  rw [this]
  simp only [r_wipe_cons, r_wipe_nil, r_unw_cons, r_unw_nil, hv, List.set_set, hs]
theorem aLc_M1 {α : Type} {v : Nat} {it : DA} {e : DE} {s s0 : DS} {l : List α} (G : α → D) (f : α → D) (hi : it s = .ok (l.map G) s0) (hv : s0.sl[v]? = some .un) (h : ∀ a ∈ l, e ⟨s0.sl.set v (.val (G a)), s0.st⟩ = .ok (f a) ⟨s0.sl.set v (.val (G a)), s0.st⟩)
    (hl : l.length ≤ 1000000) : aLc [v] it (gN v) bYes e s = .ok (l.map f) s0 := by
  have := aLc_T1 (v := v) (it := it) (t := bYes) (e := e) (s := s) (s0 := s0) G (fun _ => true) f hi hv (fun a ha => ⟨rfl, fun _ => h a ha⟩) hl
  rwa [List.filter_eq_self.mpr (fun _ _ => rfl)] at this
theorem blsOf_map {α : Type} (f : α → Bool) (l : List α) : blsOf (l.map fun a => D.bl (f a)) = some (l.map f) := by
  induction l with
  | nil => rfl
  | cons a l ih => simp only [List.map_cons, blsOf, ih, Option.map_some]
theorem bAll_map {α : Type} (f : α → Bool) (l : List α) : bAll [.lst (l.map fun a => D.bl (f a))] = some (.bl (l.all f)) := by
  simp only [bAll, blsOf_map, Option.map_some, List.all_map]; rfl
theorem bAny_map {α : Type} (f : α → Bool) (l : List α) : bAny [.lst (l.map fun a => D.bl (f a))] = some (.bl (l.any f)) := by
  simp only [bAny, blsOf_map, Option.map_some, List.any_map]; rfl
theorem rngL0 (n : Nat) : rngL 0 n = (List.range n).map fun (i : Nat) => D.int (i : Int) := by
  unfold rngL
  refine List.map_congr_left fun i _ => ?_
  rw [Int.zero_add]
theorem plFs_map {α : Type} (f : α → D) (h : ∀ a, plF (f a)) (l : List α) : plFs (l.map f) := by
  induction l with
  | nil => simp
  | cons a l ih => simp [ih, h a]
theorem eqPls_map {α : Type} [DecidableEq α] (f : α → D) (h : ∀ a b, eqPl (f a) (f b) = decide (a = b)) : ∀ l m : List α, eqPls (l.map f) (m.map f) = decide (l = m)
  | [], [] => by simp
  | [], b :: m => by simp
  | a :: l, [] => by simp
  | a :: l, b :: m => by
    rw [List.map_cons, List.map_cons, eqPls_cons, h, eqPls_map f h l m, ← Bool.decide_and]
    simp
theorem at_map {α : Type} (f : α → D) {l : List α} {k : Nat} {a : α} (h : l[k]? = some a) : L2.atI (l.map f) (k : Int) = some (f a) := L2.atI_nat (by rw [List.getElem?_map, h]; rfl)
def kD (k : Nat) : D := .int (k : Int)
theorem itR1_n {f : DA} {s s1 : DS} {n : Nat} (h : f s = .ok [.int (n : Int)] s1) (hn : n ≤ 1000000) : itR1 f s = .ok ((List.range n).map kD) s1 := by
  obtain ⟨z, hz⟩ : ∃ z : Int, (n : Int) = z := ⟨_, rfl⟩
  have h0 : -4611686018427387904 ≤ z ∧ z < 4611686018427387904 := by omega
  have h1 : z.toNat = n := by omega
  rw [hz] at h
  have e : itR1 f s = .ok (rngL 0 z.toNat) s1 := by
    rw [r_itR1, h]
    simp [h0]
  rw [e, h1, rngL0]; rfl
/-- one statement ahead of the rest -/
theorem sq_nx {f R : DStm} {s s1 : DS} (h : f s = .ok .nx s1) : sSeq f R s = R s1 := by
  rw [r_sSeq, h]; rfl
/-- a call whose arguments leave the state -/
theorem set_c1 {i : Nat} {g : DFn} {a : DE} {s : DS} {x d : D} {S1 : List Cell} (ha : a s = .ok x s) (e : g [x] s.st = .ok d S1) : sSet i (eCall 1 g (aCons a aNil)) s = .ok .nx ⟨s.sl.set i (.val d), S1⟩ := by
  simp [ha, e]
theorem set_c2 {i : Nat} {g : DFn} {a b : DE} {s : DS} {x y d : D} {S1 : List Cell} (ha : a s = .ok x s) (hb : b s = .ok y s) (e : g [x, y] s.st = .ok d S1) : sSet i (eCall 2 g (aCons a (aCons b aNil))) s = .ok .nx ⟨s.sl.set i (.val d), S1⟩ := by
  simp [ha, hb, e]
theorem call_c1 {g : DFn} {a : DE} {s : DS} {x d : D} {S1 : List Cell} (ha : a s = .ok x s) (e : g [x] s.st = .ok d S1) : eCall 1 g (aCons a aNil) s = .ok d ⟨s.sl, S1⟩ := by
  simp [ha, e]
theorem call_c2 {g : DFn} {a b : DE} {s : DS} {x y d : D} {S1 : List Cell} (ha : a s = .ok x s) (hb : b s = .ok y s) (e : g [x, y] s.st = .ok d S1) : eCall 2 g (aCons a (aCons b aNil)) s = .ok d ⟨s.sl, S1⟩ := by
  simp [ha, hb, e]
theorem tup_2 {a b : DE} {s s1 s2 : DS} {x y : D} (ha : a s = .ok x s1) (hb : b s1 = .ok y s2) : eTup (aCons a (aCons b aNil)) s = .ok (.tup [x, y]) s2 := by
  simp [ha, hb]
theorem asg_t {f : DE} {g : DG} {s s1 s2 : DS} {d : D} (h : f s = .ok d s1) (k : g d s1 = .ok () s2) : sAsgT f g s = .ok .nx s2 := by
  simp [h, k]
theorem set_e {i : Nat} {f : DE} {s s1 : DS} {d : D} (h : f s = .ok d s1) : sSet i f s = .ok .nx ⟨s1.sl.set i (.val d), s1.st⟩ := by
  simp [h]
theorem set_o {i : Nat} {f : DA} {s s1 : DS} {ds : List D} (h : f s = .ok ds s1) : sSetO i f s = .ok .nx ⟨s1.sl.set i (.ol ds), s1.st⟩ := by
  simp [h]
theorem if_t {c : DT} {f g : DStm} {s s1 : DS} (h : c s = .ok true s1) : sIf c f g s = f s1 := by
  rw [r_sIf, h]; rfl
theorem if_f {c : DT} {f g : DStm} {s s1 : DS} (h : c s = .ok false s1) : sIf c f g s = g s1 := by
  rw [r_sIf, h]; rfl
theorem ret_e {f : DE} {s s1 : DS} {d : D} (h : f s = .ok d s1) : sRet f s = .ok (.rt d) s1 := by
  simp [h]
theorem sq_rt {f R : DStm} {s s1 : DS} {d : D} (h : f s = .ok (.rt d) s1) : sSeq f R s = .ok (.rt d) s1 := by
  rw [r_sSeq, h]; rfl
theorem op_2 {o : D → D → Option D} {a b : DE} {s s1 s2 : DS} {x y d : D} (ha : a s = .ok x s1) (hb : b s1 = .ok y s2) (h : o x y = some d) : eOp2 o a b s = .ok d s2 := by
  simp [ha, hb, h]
theorem eB_of {f : DE} {s s1 : DS} {b : Bool} (h : f s = .ok (.bl b) s1) : eB f s = .ok b s1 := by
  simp [h]
theorem and_t {f g : DT} {s s1 : DS} (h : f s = .ok true s1) : bAnd f g s = g s1 := by
  rw [r_bAnd, h]; rfl
theorem and_f {f g : DT} {s s1 : DS} (h : f s = .ok false s1) : bAnd f g s = .ok false s1 := by
  rw [r_bAnd, h]; rfl
theorem or_t {f g : DT} {s s1 : DS} (h : f s = .ok true s1) : bOr f g s = .ok true s1 := by
  rw [r_bOr, h]; rfl
theorem or_f {f g : DT} {s s1 : DS} (h : f s = .ok false s1) : bOr f g s = g s1 := by
  rw [r_bOr, h]; rfl
theorem fn_rt {n m : Nat} {b : DStm} {ds : List D} {S S' : List Cell} {d : D} {sl : List Sl} (hn : ds.length = n) (h : b ⟨ds.map .val ++ List.replicate m .un, S⟩ = .ok (.rt d) ⟨sl, S'⟩) : fnD n b m ds S = .ok d S' := by
  simp [fnD, hn, h]
theorem for_seq {f : DE} {g : DG} {b : DStm} {s s1 : DS} {d : D} {xs : List D} {r : Res DS Out} (hf : f s = .ok d s1) (hi : itemsD d = some xs) (h : forL g b xs s1 = r) : sFor (itSeq f) g b s = r := by
  rw [r_sFor, r_itSeq, hf]
  simp only [Res.bind_ok, hi, h]
theorem for_it {it : DA} {g : DG} {b : DStm} {s s1 : DS} {xs : List D} {r : Res DS Out} (hf : it s = .ok xs s1) (h : forL g b xs s1 = r) : sFor it g b s = r := by
  rw [r_sFor, hf]
  simp only [Res.bind_ok, h]
theorem frz_e {f : DA} {s s1 : DS} {xs : List D} (h : f s = .ok xs s1) : eFrz f s = .ok (.lst xs) s1 := by
  rw [r_eFrz, h]; rfl
theorem add_ll {xs ys : List D} (h : xs.length + ys.length ≤ 1000000) : dAdd (.lst xs) (.lst ys) = some (.lst (xs ++ ys)) := by
  rw [r_dAdd_ll, r_lAdd_ll, if_pos h]
theorem app_e {i : Nat} {f : DE} {s s1 : DS} {xs0 xs : List D} {d : D} (h0 : s.sl[i]? = some (.ol xs0)) (h : f s = .ok d s1) (h1 : s1.sl[i]? = some (.ol xs)) (hl : xs.length < 1000000) : sApp i (aCons f aNil) s = .ok .nx ⟨s1.sl.set i (.ol (xs ++ [d])), s1.st⟩ := by
  rw [r_sApp, h0]
  simp only [r_aCons, h, r_aNil, Res.bind_ok, h1, if_pos hl]
theorem for_1 {i : Nat} {b : DStm} {d : D} {r : List D} {s s1 : DS} (h : b ⟨s.sl.set i (.val d), s.st⟩ = .ok .nx s1) : forL (gN i) b (d :: r) s = forL (gN i) b r s1 := by
  rw [r_for_cons]
  simp only [r_gN, r_noX_ok, Res.bind_ok, h, r_lo_nx]
theorem for_rt {i : Nat} {b : DStm} {d v : D} {r : List D} {s s1 : DS} (h : b ⟨s.sl.set i (.val d), s.st⟩ = .ok (.rt v) s1) : forL (gN i) b (d :: r) s = .ok (.rt v) s1 := by
  rw [r_for_cons]
  simp only [r_gN, r_noX_ok, Res.bind_ok, h, r_lo_rt]
end DL
set_option maxRecDepth 100000
set_option maxHeartbeats 4000000
set_option autoImplicit false
namespace DL
/-! ### steps that leave the state -/
theorem set_k {i : Nat} {f : DE} {s : DS} {d : D} (h : f s = .ok d s) : sSet i f s = .ok .nx ⟨s.sl.set i (.val d), s.st⟩ := by
  simp [h]
/-- one assignment whose value leaves the state, ahead of the rest -/
theorem sq_set {i : Nat} {f : DE} {R : DStm} {s : DS} {d : D} (h : f s = .ok d s) : sSeq (sSet i f) R s = R ⟨s.sl.set i (.val d), s.st⟩ := by
  rw [r_sSeq, set_k h]; rfl
theorem sq_if_f {c : DT} {f R : DStm} {s s1 : DS} (h : c s = .ok false s1) : sSeq (sIf c f sPass) R s = R s1 := by
  rw [r_sSeq, if_f h]; rfl
theorem sq_par {i j : Nat} {a b : DE} {R : DStm} {s s1 s2 : DS} {x y : D} (ha : a s = .ok x s1) (hb : b s1 = .ok y s2) : sSeq (sPar i j (aCons a (aCons b aNil))) R s = R ⟨(s2.sl.set i (.val x)).set j (.val y), s2.st⟩ := by
  simp [ha, hb]
theorem neg_e {f : DE} {s s1 : DS} {x : Int} (h : f s = .ok (.int x) s1) : eNeg f s = .ok (.int (-x)) s1 := by
  simp [h]
theorem not_e {f : DT} {s s1 : DS} {b : Bool} (h : f s = .ok b s1) : bNot f s = .ok (!b) s1 := by
  simp [h]
theorem tru_e {f : DE} {s s1 : DS} {b : Bool} (h : f s = .ok (.bl b) s1) : eTru f s = .ok b s1 := by
  simp [h]
theorem call_c3 {g : DFn} {a b c : DE} {s : DS} {x y z d : D} {S1 : List Cell} (ha : a s = .ok x s) (hb : b s = .ok y s) (hc : c s = .ok z s) (e : g [x, y, z] s.st = .ok d S1) : eCall 3 g (aCons a (aCons b (aCons c aNil))) s = .ok d ⟨s.sl, S1⟩ := by
  simp [ha, hb, hc, e]
theorem andT_t {f g : DE} {s s1 s2 : DS} {d : D} (h : f s = .ok (.bl true) s1) (k : g s1 = .ok d s2) : eAndT f g s = .ok d s2 := by
  simp [h, k]
theorem call_c0 {g : DFn} {s : DS} {d : D} {S1 : List Cell} (e : g [] s.st = .ok d S1) : eCall 0 g aNil s = .ok d ⟨s.sl, S1⟩ := by
  simp [e]
end DL
set_option maxRecDepth 100000
set_option maxHeartbeats 4000000
namespace W_k10
open PySem PySem.Spec PyProof.Rows L2 DL
noncomputable section
def topS (i : Nat) : Stmt := PySem.Challenge.pw_areawalks_k10_whole_walks_turned.main.body.getD i (.Pass ⟨0, 0, 0, 0⟩)
theorem s_0 : ("value" : Str) = nm [118, 97, 108, 117, 101] := by decide +kernel
theorem s_1 : ("runs" : Str) = nm [114, 117, 110, 115] := by decide +kernel
theorem s_2 : ("most" : Str) = nm [109, 111, 115, 116] := by decide +kernel
theorem s_3 : ("left" : Str) = nm [108, 101, 102, 116] := by decide +kernel
theorem s_4 : ("at" : Str) = nm [97, 116] := by decide +kernel
theorem s_5 : ("cells" : Str) = nm [99, 101, 108, 108, 115] := by decide +kernel
theorem s_6 : ("number" : Str) = nm [110, 117, 109, 98, 101, 114] := by decide +kernel
theorem s_7 : ("many" : Str) = nm [109, 97, 110, 121] := by decide +kernel
theorem s_8 : ("en" : Str) = nm [101, 110] := by decide +kernel
theorem s_9 : ("repeated" : Str) = nm [114, 101, 112, 101, 97, 116, 101, 100] := by decide +kernel
theorem s_10 : ("ene" : Str) = nm [101, 110, 101] := by decide +kernel
theorem s_11 : ("enws" : Str) = nm [101, 110, 119, 115] := by decide +kernel
theorem s_12 : ("area" : Str) = nm [97, 114, 101, 97] := by decide +kernel
theorem s_13 : ("y" : Str) = nm [121] := by decide +kernel
theorem s_14 : ("x" : Str) = nm [120] := by decide +kernel
theorem s_15 : ("" : Str) = nm [] := by decide +kernel
theorem s_16 : ("e" : Str) = nm [101] := by decide +kernel
theorem s_17 : ("w" : Str) = nm [119] := by decide +kernel
theorem s_18 : ("n" : Str) = nm [110] := by decide +kernel
theorem s_19 : ("spots" : Str) = nm [115, 112, 111, 116, 115] := by decide +kernel
theorem s_20 : ("place" : Str) = nm [112, 108, 97, 99, 101] := by decide +kernel
theorem s_21 : ("power" : Str) = nm [112, 111, 119, 101, 114] := by decide +kernel
theorem s_22 : ("letters" : Str) = nm [108, 101, 116, 116, 101, 114, 115] := by decide +kernel
theorem s_23 : ("eneeneene" : Str) = nm [101, 110, 101, 101, 110, 101, 101, 110, 101] := by decide +kernel
theorem s_24 : ("turned" : Str) = nm [116, 117, 114, 110, 101, 100] := by decide +kernel
theorem s_25 : ("mirrored" : Str) = nm [109, 105, 114, 114, 111, 114, 101, 100] := by decide +kernel
theorem s_26 : ("1" : Str) = nm [49] := by decide +kernel
abbrev xst_BadNumber : Stmt := inClass (topS 3) 0
theorem xsh_BadNumber : XSh xst_BadNumber "self" "value" "value" := ⟨_, _, _, _, _, _, _, _, _, _, _, rfl, rfl, rfl, rfl, rfl, rfl, rfl, by decide +kernel, rfl, rfl, rfl, by decide⟩
abbrev xst_BadWord : Stmt := inClass (topS 5) 0
theorem xsh_BadWord : XSh xst_BadWord "self" "value" "value" := ⟨_, _, _, _, _, _, _, _, _, _, _, rfl, rfl, rfl, rfl, rfl, rfl, rfl, by decide +kernel, rfl, rfl, rfl, by decide⟩
abbrev xst_TooMany : Stmt := inClass (topS 6) 0
theorem xsh_TooMany : XSh xst_TooMany "self" "most" "most" := ⟨_, _, _, _, _, _, _, _, _, _, _, rfl, rfl, rfl, rfl, rfl, rfl, rfl, by decide +kernel, rfl, rfl, rfl, by decide⟩
/-! merged -/
abbrev st_merged : Stmt := topS 20
theorem sc_merged : FnScope ["pairs", "found", "letter", "times"] ["pairs"] (defScope st_merged) := ⟨rfl, rfl, rfl, by decide +kernel, rfl, by decide +kernel, by decide +kernel⟩
/-! is_list -/
abbrev st_is_list : Stmt := topS 10
theorem sc_is_list : FnScope ["value"] ["value"] (defScope st_is_list) := ⟨rfl, rfl, rfl, by decide +kernel, rfl, by decide +kernel, by decide +kernel⟩
/-! is_integer -/
abbrev st_is_integer : Stmt := topS 8
theorem sc_is_integer : FnScope ["value"] ["value"] (defScope st_is_integer) := ⟨rfl, rfl, rfl, by decide +kernel, rfl, by decide +kernel, by decide +kernel⟩
/-! is_whole -/
abbrev st_is_whole : Stmt := topS 9
theorem sc_is_whole : FnScope ["value", "least"] ["value", "least"] (defScope st_is_whole) := ⟨rfl, rfl, rfl, by decide +kernel, rfl, by decide +kernel, by decide +kernel⟩
/-! is_pair -/
abbrev st_is_pair : Stmt := topS 19
theorem sc_is_pair : FnScope ["value"] ["value"] (defScope st_is_pair) := ⟨rfl, rfl, rfl, by decide +kernel, rfl, by decide +kernel, by decide +kernel⟩
/-! pairs_told -/
abbrev st_pairs_told : Stmt := topS 18
theorem sc_pairs_told : FnScope ["told", "letter", "pair"] ["told"] (defScope st_pairs_told) := ⟨rfl, rfl, rfl, by decide +kernel, rfl, by decide +kernel, by decide +kernel⟩
/-! Walk.__init__ -/
abbrev st_WalkX_initX : Stmt := inClass (topS 22) 0
theorem sc_WalkX_initX : FnScope ["self", "told"] ["self", "told"] (defScope st_WalkX_initX) := ⟨rfl, rfl, rfl, by decide +kernel, rfl, by decide +kernel, by decide +kernel⟩
/-! Walk.length -/
abbrev st_Walk_length : Stmt := inClass (topS 22) 4
theorem sc_Walk_length : FnScope ["self", "letter", "times"] ["self"] (defScope st_Walk_length) := ⟨rfl, rfl, rfl, by decide +kernel, rfl, by decide +kernel, by decide +kernel⟩
/-! Walk.repeated -/
abbrev st_Walk_repeated : Stmt := inClass (topS 22) 16
theorem sc_Walk_repeated : FnScope ["self", "number", "joints"] ["self", "number"] (defScope st_Walk_repeated) := ⟨rfl, rfl, rfl, by decide +kernel, rfl, by decide +kernel, by decide +kernel⟩
/-! _law_draw -/
abbrev st__law_draw : Stmt := topS 26
theorem sc__law_draw : FnScope ["_law_pen_here", "_law_span", "_law_digit", "_law_at", "_law_cell", "_law_mash"] ["_law_pen_here", "_law_span"] (defScope st__law_draw) := ⟨rfl, rfl, rfl, by decide +kernel, rfl, by decide +kernel, by decide +kernel⟩
/-! _law_great -/
abbrev st__law_great : Stmt := topS 28
theorem sc__law_great : FnScope ["_law_pen_here", "_law_figures", "_law_found", "_law_go"] ["_law_pen_here", "_law_figures"] (defScope st__law_great) := ⟨rfl, rfl, rfl, by decide +kernel, rfl, by decide +kernel, by decide +kernel⟩
/-! _law_refused -/
abbrev st__law_refused : Stmt := topS 34
theorem sc__law_refused : FnScope ["_law_deed", "e"] ["_law_deed"] (defScope st__law_refused) := ⟨rfl, rfl, rfl, by decide +kernel, rfl, by decide +kernel, by decide +kernel⟩
/-! _law_bounds_right -/
abbrev st__law_bounds_right : Stmt := topS 37
theorem sc__law_bounds_right : FnScope ["_law_pen_here", "_law_distant"] ["_law_pen_here"] (defScope st__law_bounds_right) := ⟨rfl, rfl, rfl, by decide +kernel, rfl, by decide +kernel, by decide +kernel⟩
/-! _law_pick -/
abbrev st__law_pick : Stmt := topS 27
theorem sc__law_pick : FnScope ["_law_pen_here", "_law_items"] ["_law_pen_here", "_law_items"] (defScope st__law_pick) := ⟨rfl, rfl, rfl, by decide +kernel, rfl, by decide +kernel, by decide +kernel⟩
/-! _law_pairs -/
abbrev st__law_pairs : Stmt := topS 31
theorem sc__law_pairs : FnScope ["_law_pen_here", "_law_most_pairs", "_law_figures", "_law_found", "_law_go", "_law_times"] ["_law_pen_here", "_law_most_pairs", "_law_figures"] (defScope st__law_pairs) := ⟨rfl, rfl, rfl, by decide +kernel, rfl, by decide +kernel, by decide +kernel⟩
/-! _law_pen -/
abbrev st__law_pen : Stmt := topS 25
theorem sc__law_pen : FnScope ["_law_script"] ["_law_script"] (defScope st__law_pen) := ⟨rfl, rfl, rfl, by decide +kernel, rfl, by decide +kernel, by decide +kernel⟩
/-! Place.__eq__ -/
abbrev st_PlaceX_eqX : Stmt := inClass (topS 13) 1
theorem sc_PlaceX_eqX : FnScope ["self", "other"] ["self", "other"] (defScope st_PlaceX_eqX) := ⟨rfl, rfl, rfl, by decide +kernel, rfl, by decide +kernel, by decide +kernel⟩
/-! Place.__init__ -/
abbrev st_PlaceX_initX : Stmt := inClass (topS 13) 0
theorem sc_PlaceX_initX : FnScope ["self", "x", "y", "area", "value"] ["self", "x", "y", "area"] (defScope st_PlaceX_initX) := ⟨rfl, rfl, rfl, by decide +kernel, rfl, by decide +kernel, by decide +kernel⟩
/-! pairs_below -/
abbrev st_pairs_below : Stmt := topS 11
theorem sc_pairs_below : FnScope ["number"] ["number"] (defScope st_pairs_below) := ⟨rfl, rfl, rfl, by decide +kernel, rfl, by decide +kernel, by decide +kernel⟩
/-! Place.power -/
abbrev st_Place_power : Stmt := inClass (topS 13) 4
theorem sc_Place_power : FnScope ["self", "number"] ["self", "number"] (defScope st_Place_power) := ⟨rfl, rfl, rfl, by decide +kernel, rfl, by decide +kernel, by decide +kernel⟩
/-! Walk.__eq__ -/
abbrev st_WalkX_eqX : Stmt := inClass (topS 22) 1
theorem sc_WalkX_eqX : FnScope ["self", "other"] ["self", "other"] (defScope st_WalkX_eqX) := ⟨rfl, rfl, rfl, by decide +kernel, rfl, by decide +kernel, by decide +kernel⟩
/-! Walk.letters -/
abbrev st_Walk_letters : Stmt := inClass (topS 22) 7
theorem sc_Walk_letters : FnScope ["self", "letter", "times"] ["self"] (defScope st_Walk_letters) := ⟨rfl, rfl, rfl, by decide +kernel, rfl, by decide +kernel, by decide +kernel⟩
/-! gone_on -/
abbrev st_gone_on : Stmt := topS 21
theorem sc_gone_on : FnScope ["spot", "letter", "times", "x", "y", "area"] ["spot", "letter", "times"] (defScope st_gone_on) := ⟨rfl, rfl, rfl, by decide +kernel, rfl, by decide +kernel, by decide +kernel⟩
/-! Walk.spots -/
abbrev st_Walk_spots : Stmt := inClass (topS 22) 6
theorem sc_Walk_spots : FnScope ["self", "found", "letter", "times"] ["self"] (defScope st_Walk_spots) := ⟨rfl, rfl, rfl, by decide +kernel, rfl, by decide +kernel, by decide +kernel⟩
/-! Walk.place -/
abbrev st_Walk_place : Stmt := inClass (topS 22) 5
theorem sc_Walk_place : FnScope ["self", "spot"] ["self"] (defScope st_Walk_place) := ⟨rfl, rfl, rfl, by decide +kernel, rfl, by decide +kernel, by decide +kernel⟩
/-! _law_runs_of -/
abbrev st__law_runs_of : Stmt := topS 30
theorem sc__law_runs_of : FnScope ["_law_pairs_here", "_law_found", "_law_letter", "_law_times"] ["_law_pairs_here"] (defScope st__law_runs_of) := ⟨rfl, rfl, rfl, by decide +kernel, rfl, by decide +kernel, by decide +kernel⟩
/-! _law_repeated_right -/
abbrev st__law_repeated_right : Stmt := topS 36
theorem sc__law_repeated_right : FnScope ["_law_pen_here", "_law_walk_here", "_law_pairs_here", "_law_number", "_law_there", "_law_letter", "_law_distant"] ["_law_pen_here", "_law_walk_here", "_law_pairs_here"] (defScope st__law_repeated_right) := ⟨rfl, rfl, rfl, by decide +kernel, rfl, by decide +kernel, by decide +kernel⟩
/-! Walk.mirrored -/
abbrev st_Walk_mirrored : Stmt := inClass (topS 22) 15
theorem sc_Walk_mirrored : FnScope ["self", "letter", "times"] ["self"] (defScope st_Walk_mirrored) := ⟨rfl, rfl, rfl, by decide +kernel, rfl, by decide +kernel, by decide +kernel⟩
/-! turned_letter -/
abbrev st_turned_letter : Stmt := topS 23
theorem sc_turned_letter : FnScope ["letter", "quarters"] ["letter", "quarters"] (defScope st_turned_letter) := ⟨rfl, rfl, rfl, by decide +kernel, rfl, by decide +kernel, by decide +kernel⟩
/-! Walk.turned -/
abbrev st_Walk_turned : Stmt := inClass (topS 22) 14
theorem sc_Walk_turned : FnScope ["self", "quarters", "letter", "times"] ["self", "quarters"] (defScope st_Walk_turned) := ⟨rfl, rfl, rfl, by decide +kernel, rfl, by decide +kernel, by decide +kernel⟩
/-! _law_ground -/
abbrev st__law_ground : Stmt := topS 33
theorem sc__law_ground : FnScope ["_law_place"] ["_law_place"] (defScope st__law_ground) := ⟨rfl, rfl, rfl, by decide +kernel, rfl, by decide +kernel, by decide +kernel⟩
/-! _law_signed -/
abbrev st__law_signed : Stmt := topS 29
theorem sc__law_signed : FnScope ["_law_pen_here", "_law_figures", "_law_found"] ["_law_pen_here", "_law_figures"] (defScope st__law_signed) := ⟨rfl, rfl, rfl, by decide +kernel, rfl, by decide +kernel, by decide +kernel⟩
/-! _law_turned_right -/
abbrev st__law_turned_right : Stmt := topS 35
theorem sc__law_turned_right : FnScope ["_law_pen_here", "_law_walk_here", "_law_pairs_here", "_law_quarters", "_law_there", "_law_due", "_law_x", "_law_y", "_law_ends", "_law_glass", "_law_mirrored", "_law_letter", "_law_times"] ["_law_pen_here", "_law_walk_here", "_law_pairs_here"] (defScope st__law_turned_right) := ⟨rfl, rfl, rfl, by decide +kernel, rfl, by decide +kernel, by decide +kernel⟩
/-! _law_walk -/
abbrev st__law_walk : Stmt := topS 32
theorem sc__law_walk : FnScope ["_law_pen_here", "_law_pairs_here", "_law_total", "_law_letter", "_law_times", "_law_pair"] ["_law_pen_here", "_law_pairs_here"] (defScope st__law_walk) := ⟨rfl, rfl, rfl, by decide +kernel, rfl, by decide +kernel, by decide +kernel⟩
/-! law -/
abbrev st_law : Stmt := topS 38
theorem sc_law : FnScope ["_law_script", "_law_pen_here", "_law_lap", "_law_pairs_here", "_law_walk_here", "_law_odd"] ["_law_script"] (defScope st_law) := ⟨rfl, rfl, rfl, by decide +kernel, rfl, by decide +kernel, by decide +kernel⟩
def w_merged_0 : DStm := sIf (bAnd (eTruO 1) (eB (eOp2 dEq (eIx (eIxO 1 (eNeg (eC (.int 1)))) (eC (.int 0))) (eVar 2)))) (sIxO 1 (eNeg (eC (.int 1))) (eTup (aCons (eVar 2) (aCons (eOp2 dAdd (eIx (eIxO 1 (eNeg (eC (.int 1)))) (eC (.int 1))) (eVar 3)) (aNil))))) (sIf (eB (eOp2 iGt (eVar 3) (eC (.int 0)))) (sApp 1 (aCons (eTup (aCons (eVar 2) (aCons (eVar 3) (aNil)))) (aNil))) (sPass))
def b_merged : DStm := sSeq (sSetO 1 (aMax (aNil)))
    (sSeq (sFor (itSeq (eVar 0)) (gT 2 (gsCons (gN 2) (gsCons (gN 3) (gsNil)))) (w_merged_0))
    (sRet (eCB (bTup) (aCons (eVar 1) (aNil)))))
def g_merged : DFn := fnD 1 b_merged 3
def b_is_list : DStm := sRet (eIsT ["Place", "Walk"] (eVar 0) (aCons (eC (.ty "list")) (aCons (eC (.ty "tuple")) (aNil))))
def g_is_list : DFn := fnD 1 b_is_list 0
def b_is_integer : DStm := sRet (eAndT (eCB (bIsi ["Place", "Walk"]) (aCons (eVar 0) (aCons (eC (.ty "int")) (aNil)))) (eNotT (eCB (bIsi ["Place", "Walk"]) (aCons (eVar 0) (aCons (eC (.ty "bool")) (aNil))))))
def g_is_integer : DFn := fnD 1 b_is_integer 0
def b_is_whole : DStm := sRet (eAndT (eCall 1 g_is_integer (aCons (eVar 0) (aNil))) (eOp2 iGe (eVar 0) (eVar 1)))
def g_is_whole : DFn := fnD 2 b_is_whole 0
def b_is_pair : DStm := sSeq (sIf (bOr (bNot (eTru (eCall 1 g_is_list (aCons (eVar 0) (aNil))))) (bOr (eB (eOp2 dNe (eCB (bLen) (aCons (eVar 0) (aNil))) (eC (.int 2)))) (bNot (eTru (eCB (bIsi ["Place", "Walk"]) (aCons (eIx (eVar 0) (eC (.int 0))) (aCons (eC (.ty "str")) (aNil)))))))) (sRet (eC (.bl false))) (sPass))
    (sRet (eAndT (eOp2 dEq (eCB (bLen) (aCons (eIx (eVar 0) (eC (.int 0))) (aNil))) (eC (.int 1))) (eAndT (eOp2 (dIn false) (eIx (eVar 0) (eC (.int 0))) (eC (.str [101, 110, 119, 115]))) (eCall 2 g_is_whole (aCons (eIx (eVar 0) (eC (.int 1))) (aCons (eC (.int 0)) (aNil)))))))
def g_is_pair : DFn := fnD 1 b_is_pair 0
def e_pairs_told_0 : DE := eOp2 (dIn false) (eVar 1) (eC (.str [101, 110, 119, 115]))
def e_pairs_told_1 : DE := eTup (aCons (eVar 1) (aCons (eC (.int 1)) (aNil)))
def e_pairs_told_2 : DE := eCall 1 g_is_pair (aCons (eVar 2) (aNil))
def e_pairs_told_3 : DE := eTup (aCons (eIx (eVar 2) (eC (.int 0))) (aCons (eIx (eVar 2) (eC (.int 1))) (aNil)))
def b_pairs_told : DStm := sSeq (sIf (bAnd (eTru (eCB (bIsi ["Place", "Walk"]) (aCons (eVar 0) (aCons (eC (.ty "str")) (aNil))))) (bAnd (eB (eOp2 iLe (eCB (bLen) (aCons (eVar 0) (aNil))) (eC (.int 10000)))) (eTru (eCB (bAll) (aCons (eFrz (aLc [1] (itSeq (eVar 0)) (gN 1) (bYes) (e_pairs_told_0))) (aNil)))))) (sRet (eFrz (aLc [1] (itSeq (eVar 0)) (gN 1) (bYes) (e_pairs_told_1)))) (sPass))
    (sSeq (sIf (bAnd (eTru (eCall 1 g_is_list (aCons (eVar 0) (aNil)))) (bAnd (eB (eOp2 iLe (eCB (bLen) (aCons (eVar 0) (aNil))) (eC (.int 10000)))) (eTru (eCB (bAll) (aCons (eFrz (aLc [2] (itSeq (eVar 0)) (gN 2) (bYes) (e_pairs_told_2))) (aNil)))))) (sRet (eFrz (aLc [2] (itSeq (eVar 0)) (gN 2) (bYes) (e_pairs_told_3)))) (sPass))
    (sRaise "BadWord" [118, 97, 108, 117, 101] (aCons (eVar 0) (aNil))))
def g_pairs_told : DFn := fnD 1 b_pairs_told 2
def b_WalkX_initX : DStm := sFldO "Walk" 0 [114, 117, 110, 115] (eCall 1 g_merged (aCons (eCall 1 g_pairs_told (aCons (eVar 1) (aNil))) (aNil)))
def g_WalkX_initX : DIn := inD "Walk" 1 b_WalkX_initX 0
def e_Walk_length_0 : DE := eVar 2
def b_Walk_length : DStm := sRet (eCB (bSum) (aCons (eFrz (aLc [1, 2] (itSeq (eFld ["Walk"] [114, 117, 110, 115] (eVar 0))) (gT 2 (gsCons (gN 1) (gsCons (gN 2) (gsNil)))) (bYes) (e_Walk_length_0))) (aNil)))
def g_Walk_length : DFn := fnD 1 b_Walk_length 2
def b_Walk_repeated : DStm := sSeq (sIf (bNot (eTru (eCall 2 g_is_whole (aCons (eVar 1) (aCons (eC (.int 0)) (aNil)))))) (sRaise "BadNumber" [118, 97, 108, 117, 101] (aCons (eVar 1) (aNil))) (sPass))
    (sSeq (sIf (bOr (eB (eOp2 dEq (eVar 1) (eC (.int 0)))) (bNot (eTru (eFld ["Walk"] [114, 117, 110, 115] (eVar 0))))) (sRet (eMake "Walk" 1 g_WalkX_initX (aCons (eFrz (aMax (aNil))) (aNil)))) (sPass))
    (sSeq (sIf (eB (eOp2 dEq (eCB (bLen) (aCons (eFld ["Walk"] [114, 117, 110, 115] (eVar 0)) (aNil))) (eC (.int 1)))) (sRet (eMake "Walk" 1 g_WalkX_initX (aCons (eFrz (aMax (aCons (eTup (aCons (eIx (eIx (eFld ["Walk"] [114, 117, 110, 115] (eVar 0)) (eC (.int 0))) (eC (.int 0))) (aCons (eOp2 dMul (eIx (eIx (eFld ["Walk"] [114, 117, 110, 115] (eVar 0)) (eC (.int 0))) (eC (.int 1))) (eVar 1)) (aNil)))) (aNil)))) (aNil)))) (sPass))
    (sSeq (sSet 2 (eIf (eB (eOp2 dEq (eIx (eIx (eFld ["Walk"] [114, 117, 110, 115] (eVar 0)) (eC (.int 0))) (eC (.int 0))) (eIx (eIx (eFld ["Walk"] [114, 117, 110, 115] (eVar 0)) (eNeg (eC (.int 1)))) (eC (.int 0))))) (eOp2 iSub (eVar 1) (eC (.int 1))) (eC (.int 0))))
    (sSeq (sIf (eB (eOp2 iGt (eOp2 iSub (eOp2 dMul (eCB (bLen) (aCons (eFld ["Walk"] [114, 117, 110, 115] (eVar 0)) (aNil))) (eVar 1)) (eVar 2)) (eC (.int 10000)))) (sRaise "TooMany" [109, 111, 115, 116] (aCons (eC (.int 10000)) (aNil))) (sPass))
    (sRet (eMake "Walk" 1 g_WalkX_initX (aCons (eCall 1 g_merged (aCons (eOp2 tMul (eFld ["Walk"] [114, 117, 110, 115] (eVar 0)) (eVar 1)) (aNil))) (aNil))))))))
def g_Walk_repeated : DFn := fnD 2 b_Walk_repeated 1
def b__law_draw : DStm := sSeq (sIf (eB (eOp2 iGe (eDGet (eVar 0) (eC (.str [108, 101, 102, 116]))) (eVar 1))) (sSeq (sSet 2 (eOp2 iMod (eCB (bInt) (aCons (eDGet (eVar 0) (eC (.str [108, 101, 102, 116]))) (aNil))) (eVar 1)))
    (sSeq (sDPutC (eVar 0) (eC (.str [108, 101, 102, 116])) (eOp2 iDiv (eDGet (eVar 0) (eC (.str [108, 101, 102, 116]))) (eVar 1)))
    (sRet (eVar 2)))) (sPass))
    (sSeq (sSet 3 (eDGet (eVar 0) (eC (.str [97, 116]))))
    (sSeq (sDPutC (eVar 0) (eC (.str [97, 116])) (eOp2 dAdd (eVar 3) (eC (.int 1))))
    (sSeq (sSet 4 (eOp2 dAdd (eOp2 dMul (eC (.int 97)) (eVar 3)) (eC (.int 59))))
    (sSeq (sIf (eB (eOp2 dNe (eDGet (eVar 0) (eC (.str [99, 101, 108, 108, 115]))) (eFrz (aMax (aNil))))) (sSet 4 (eIx (eDGet (eVar 0) (eC (.str [99, 101, 108, 108, 115]))) (eOp2 iMod (eCB (bInt) (aCons (eVar 3) (aNil))) (eCB (bLen) (aCons (eDGet (eVar 0) (eC (.str [99, 101, 108, 108, 115]))) (aNil)))))) (sPass))
    (sSeq (sIf (bAnd (eB (eOp2 iLt (eVar 3) (eCB (bLen) (aCons (eDGet (eVar 0) (eC (.str [99, 101, 108, 108, 115]))) (aNil))))) (eB (eOp2 iGe (eVar 4) (eOp2 iPow (eC (.int 10)) (eC (.int 18)))))) (sSeq (sDPutC (eVar 0) (eC (.str [108, 101, 102, 116])) (eOp2 iDiv (eOp2 iSub (eVar 4) (eOp2 iPow (eC (.int 10)) (eC (.int 18)))) (eVar 1)))
    (sRet (eOp2 iMod (eCB (bInt) (aCons (eOp2 iSub (eVar 4) (eOp2 iPow (eC (.int 10)) (eC (.int 18)))) (aNil))) (eVar 1)))) (sPass))
    (sSeq (sSet 5 (eOp2 dAdd (eOp2 dMul (eOp2 iMod (eCB (bInt) (aCons (eVar 4) (aNil))) (eC (.int 2147482417))) (eC (.int 45497))) (eOp2 dMul (eOp2 dMul (eC (.int 33529)) (eVar 3)) (eVar 3))))
    (sSeq (sSet 5 (eOp2 iMod (eCB (bInt) (aCons (eOp2 dAdd (eOp2 dAdd (eVar 5) (eOp2 dMul (eC (.int 127)) (eVar 3))) (eC (.int 41))) (aNil))) (eC (.int 2147482481))))
    (sSeq (sSet 5 (eOp2 iMod (eCB (bInt) (aCons (eOp2 dAdd (eOp2 dMul (eVar 5) (eOp2 dAdd (eVar 5) (eC (.int 70423)))) (eOp2 dMul (eC (.int 3)) (eVar 3))) (aNil))) (eC (.int 2147482507))))
    (sRet (eOp2 iMod (eCB (bInt) (aCons (eOp2 iDiv (eOp2 iMod (eCB (bInt) (aCons (eOp2 dAdd (eOp2 dMul (eVar 5) (eVar 5)) (eOp2 dMul (eC (.int 43)) (eVar 5))) (aNil))) (eC (.int 2147482577))) (eC (.int 32))) (aNil))) (eVar 1)))))))))))
def g__law_draw : DFn := fnD 2 b__law_draw 4
def w__law_great_0 : DStm := sSet 2 (eOp2 dAdd (eOp2 dMul (eVar 2) (eOp2 iPow (eC (.int 10)) (eC (.int 7)))) (eCall 2 g__law_draw (aCons (eVar 0) (aCons (eOp2 iPow (eC (.int 10)) (eC (.int 7))) (aNil)))))
def b__law_great : DStm := sSeq (sSet 2 (eC (.int 0)))
    (sSeq (sFor (itR1 (aCons (eOp2 dAdd (eC (.int 1)) (eCall 2 g__law_draw (aCons (eVar 0) (aCons (eOp2 iDiv (eVar 1) (eC (.int 7))) (aNil))))) (aNil))) (gN 3) (w__law_great_0))
    (sRet (eVar 2)))
def g__law_great : DFn := fnD 2 b__law_great 2
def b__law_refused (Λ : LamR) : DStm := sTry (sExpr (eAct Λ 0)) [⟨.none, some 1, hmT ["BadNumber"] ["BadWord", "TooMany"], fun x => sRet (eTup (aCons (eC (.str [110, 117, 109, 98, 101, 114])) (aCons (eXf "BadNumber" [118, 97, 108, 117, 101] x) (aNil))))⟩, ⟨.none, some 1, hmT ["TooMany"] ["BadNumber", "BadWord"], fun x => sRet (eTup (aCons (eC (.str [109, 97, 110, 121])) (aCons (eXf "TooMany" [109, 111, 115, 116] x) (aNil))))⟩]
def lb__law_bounds_right_0 : DE := eMeth "Walk" [114, 101, 112, 101, 97, 116, 101, 100] 2 g_Walk_repeated (eMake "Walk" 1 g_WalkX_initX (aCons (eC (.str [101, 110])) (aNil))) (aCons (eC (.int 5001)) (aNil))
def lb__law_bounds_right_1 : DE := eMeth "Walk" [114, 101, 112, 101, 97, 116, 101, 100] 2 g_Walk_repeated (eMake "Walk" 1 g_WalkX_initX (aCons (eC (.str [101, 110, 101])) (aNil))) (aCons (eOp2 dAdd (eC (.int 5000)) (eVar 1)) (aNil))
def b__law_bounds_right : DStm := sSeq (sIf (bOr (eB (eOp2 dNe (eProp "Walk" g_Walk_length (eMeth "Walk" [114, 101, 112, 101, 97, 116, 101, 100] 2 g_Walk_repeated (eMake "Walk" 1 g_WalkX_initX (aCons (eC (.str [101, 110])) (aNil))) (aCons (eC (.int 5000)) (aNil)))) (eC (.int 10000)))) (eB (eOp2 dNe (eCB (bLen) (aCons (eFld ["Walk"] [114, 117, 110, 115] (eMeth "Walk" [114, 101, 112, 101, 97, 116, 101, 100] 2 g_Walk_repeated (eMake "Walk" 1 g_WalkX_initX (aCons (eC (.str [101, 110, 101])) (aNil))) (aCons (eC (.int 4999)) (aNil)))) (aNil))) (eC (.int 9999))))) (sRet (eC (.bl false))) (sPass))
    (sSeq (sIf (eB (eOp2 dNe (eCallL 1 (fun Λ => fnD 1 (b__law_refused Λ) 1) (fun n => List.lookup n [("_law_bounds_right.0", lb__law_bounds_right_0), ("_law_bounds_right.1", lb__law_bounds_right_1)]) (aCons (eLam 0 "_law_bounds_right" "_law_bounds_right.0") (aNil))) (eTup (aCons (eC (.str [109, 97, 110, 121])) (aCons (eC (.int 10000)) (aNil)))))) (sRet (eC (.bl false))) (sPass))
    (sSeq (sSet 1 (eCall 2 g__law_great (aCons (eVar 0) (aCons (eC (.int 60)) (aNil)))))
    (sRet (eOp2 dEq (eCallL 1 (fun Λ => fnD 1 (b__law_refused Λ) 1) (fun n => List.lookup n [("_law_bounds_right.0", lb__law_bounds_right_0), ("_law_bounds_right.1", lb__law_bounds_right_1)]) (aCons (eLam 0 "_law_bounds_right" "_law_bounds_right.1") (aNil))) (eTup (aCons (eC (.str [109, 97, 110, 121])) (aCons (eC (.int 10000)) (aNil))))))))
def g__law_bounds_right : DFn := fnDL 1 b__law_bounds_right 1
def b__law_pick : DStm := sRet (eIx (eVar 1) (eCall 2 g__law_draw (aCons (eVar 0) (aCons (eCB (bLen) (aCons (eVar 1) (aNil))) (aNil)))))
def g__law_pick : DFn := fnD 2 b__law_pick 0
def w__law_pairs_0 : DStm := sSeq (sSet 5 (eCall 2 g__law_pick (aCons (eVar 0) (aCons (eFrz (aMax (aCons (eC (.int 0)) (aCons (eC (.int 1)) (aCons (eC (.int 1)) (aCons (eC (.int 2)) (aCons (eC (.int 3)) (aCons (eCall 2 g__law_draw (aCons (eVar 0) (aCons (eC (.int 9)) (aNil)))) (aNil))))))))) (aNil)))))
    (sSeq (sIf (bAnd (eB (eOp2 iGt (eVar 2) (eC (.int 6)))) (eB (eOp2 dEq (eCall 2 g__law_draw (aCons (eVar 0) (aCons (eC (.int 3)) (aNil)))) (eC (.int 0))))) (sSet 5 (eCall 2 g__law_great (aCons (eVar 0) (aCons (eVar 2) (aNil))))) (sPass))
    (sApp 3 (aCons (eTup (aCons (eCall 2 g__law_pick (aCons (eVar 0) (aCons (eC (.str [101, 110, 119, 115])) (aNil)))) (aCons (eVar 5) (aNil)))) (aNil))))
def b__law_pairs : DStm := sSeq (sSetO 3 (aMax (aNil)))
    (sSeq (sFor (itR1 (aCons (eCall 2 g__law_draw (aCons (eVar 0) (aCons (eOp2 dAdd (eVar 1) (eC (.int 1))) (aNil)))) (aNil))) (gN 4) (w__law_pairs_0))
    (sRet (eVar 3)))
def g__law_pairs : DFn := fnD 3 b__law_pairs 3
def b__law_pen : DStm := sRet (eCellD (dDisp [(eC (.str [99, 101, 108, 108, 115]), eFrz (aList (aCons (eSlA (eVar 0) (oNone) (oSome (eC (.int 63)))) (aNil)))), (eC (.str [97, 116]), eC (.int 0)), (eC (.str [108, 101, 102, 116]), eC (.int 0))]))
def g__law_pen : DFn := fnD 1 b__law_pen 0
def b_PlaceX_eqX : DStm := sSeq (sIf (bNot (eTru (eCB (bIsi ["Place", "Walk"]) (aCons (eVar 1) (aCons (eC (.cls "Place")) (aNil)))))) (sRet (eC (.bl false))) (sPass))
    (sRet (eOp2 dEq (eTup (aCons (eFld ["Place"] [120] (eVar 0)) (aCons (eFld ["Place"] [121] (eVar 0)) (aCons (eFld ["Place"] [97, 114, 101, 97] (eVar 0)) (aNil))))) (eTup (aCons (eFld ["Place"] [120] (eVar 1)) (aCons (eFld ["Place"] [121] (eVar 1)) (aCons (eFld ["Place"] [97, 114, 101, 97] (eVar 1)) (aNil)))))))
def g_PlaceX_eqX : DFn := fnD 2 b_PlaceX_eqX 0
def w_PlaceX_initX_0 : DStm := sIf (bNot (eTru (eCall 1 g_is_integer (aCons (eVar 4) (aNil))))) (sRaise "BadNumber" [118, 97, 108, 117, 101] (aCons (eVar 4) (aNil))) (sPass)
def b_PlaceX_initX : DStm := sSeq (sFor (itSeq (eTup (aCons (eVar 1) (aCons (eVar 2) (aCons (eVar 3) (aNil)))))) (gN 4) (w_PlaceX_initX_0))
    (sSeq (sFldO "Place" 0 [120] (eVar 1))
    (sSeq (sFldO "Place" 0 [121] (eVar 2))
    (sFldO "Place" 0 [97, 114, 101, 97] (eVar 3))))
def g_PlaceX_initX : DIn := inD "Place" 3 b_PlaceX_initX 1
def b_pairs_below : DStm := sRet (eOp2 iDiv (eOp2 dMul (eVar 0) (eOp2 iSub (eVar 0) (eC (.int 1)))) (eC (.int 2)))
def g_pairs_below : DFn := fnD 1 b_pairs_below 0
def b_Place_power : DStm := sSeq (sIf (bNot (eTru (eCall 1 g_is_integer (aCons (eVar 1) (aNil))))) (sRaise "BadNumber" [118, 97, 108, 117, 101] (aCons (eVar 1) (aNil))) (sPass))
    (sRet (eMake "Place" 3 g_PlaceX_initX (aCons (eOp2 dMul (eVar 1) (eFld ["Place"] [120] (eVar 0))) (aCons (eOp2 dMul (eVar 1) (eFld ["Place"] [121] (eVar 0))) (aCons (eOp2 dAdd (eOp2 dMul (eVar 1) (eFld ["Place"] [97, 114, 101, 97] (eVar 0))) (eOp2 dMul (eOp2 dMul (eCall 1 g_pairs_below (aCons (eVar 1) (aNil))) (eFld ["Place"] [120] (eVar 0))) (eFld ["Place"] [121] (eVar 0)))) (aNil))))))
def g_Place_power : DFn := fnD 2 b_Place_power 0
def b_WalkX_eqX : DStm := sRet (eAndT (eCB (bIsi ["Place", "Walk"]) (aCons (eVar 1) (aCons (eC (.cls "Walk")) (aNil)))) (eOp2 dEq (eFld ["Walk"] [114, 117, 110, 115] (eVar 0)) (eFld ["Walk"] [114, 117, 110, 115] (eVar 1))))
def g_WalkX_eqX : DFn := fnD 2 b_WalkX_eqX 0
def e_Walk_letters_0 : DE := eOp2 sMul (eVar 1) (eVar 2)
def b_Walk_letters : DStm := sSeq (sIf (eB (eOp2 iGt (eProp "Walk" g_Walk_length (eVar 0)) (eC (.int 10000)))) (sRaise "TooMany" [109, 111, 115, 116] (aCons (eC (.int 10000)) (aNil))) (sPass))
    (sRet (eBM "str" mJoin (eC (.str [])) (aCons (eFrz (aLc [1, 2] (itSeq (eFld ["Walk"] [114, 117, 110, 115] (eVar 0))) (gT 2 (gsCons (gN 1) (gsCons (gN 2) (gsNil)))) (bYes) (e_Walk_letters_0))) (aNil))))
def g_Walk_letters : DFn := fnD 1 b_Walk_letters 2
def b_gone_on : DStm := sSeq (sAsgT (eVar 0) (gT 3 (gsCons (gN 3) (gsCons (gN 4) (gsCons (gN 5) (gsNil))))))
    (sSeq (sIf (eB (eOp2 dEq (eVar 1) (eC (.str [101])))) (sRet (eTup (aCons (eOp2 dAdd (eVar 3) (eVar 2)) (aCons (eVar 4) (aCons (eVar 5) (aNil)))))) (sPass))
    (sSeq (sIf (eB (eOp2 dEq (eVar 1) (eC (.str [119])))) (sRet (eTup (aCons (eOp2 iSub (eVar 3) (eVar 2)) (aCons (eVar 4) (aCons (eVar 5) (aNil)))))) (sPass))
    (sRet (eIf (eB (eOp2 dEq (eVar 1) (eC (.str [110])))) (eTup (aCons (eVar 3) (aCons (eOp2 dAdd (eVar 4) (eVar 2)) (aCons (eOp2 dAdd (eVar 5) (eOp2 dMul (eVar 3) (eVar 2))) (aNil))))) (eTup (aCons (eVar 3) (aCons (eOp2 iSub (eVar 4) (eVar 2)) (aCons (eOp2 iSub (eVar 5) (eOp2 dMul (eVar 3) (eVar 2))) (aNil)))))))))
def g_gone_on : DFn := fnD 3 b_gone_on 3
def w_Walk_spots_0 : DStm := sApp 1 (aCons (eCall 3 g_gone_on (aCons (eIxO 1 (eNeg (eC (.int 1)))) (aCons (eVar 2) (aCons (eVar 3) (aNil))))) (aNil))
def b_Walk_spots : DStm := sSeq (sSetO 1 (aMax (aCons (eTup (aCons (eC (.int 0)) (aCons (eC (.int 0)) (aCons (eC (.int 0)) (aNil))))) (aNil))))
    (sSeq (sFor (itSeq (eFld ["Walk"] [114, 117, 110, 115] (eVar 0))) (gT 2 (gsCons (gN 2) (gsCons (gN 3) (gsNil)))) (w_Walk_spots_0))
    (sRet (eVar 1)))
def g_Walk_spots : DFn := fnD 1 b_Walk_spots 3
def b_Walk_place : DStm := sSeq (sSet 1 (eIx (eMeth "Walk" [115, 112, 111, 116, 115] 1 g_Walk_spots (eVar 0) aNil) (eNeg (eC (.int 1)))))
    (sRet (eMake "Place" 3 g_PlaceX_initX (aCons (eIx (eVar 1) (eC (.int 0))) (aCons (eIx (eVar 1) (eC (.int 1))) (aCons (eIx (eVar 1) (eC (.int 2))) (aNil))))))
def g_Walk_place : DFn := fnD 1 b_Walk_place 1
def w__law_runs_of_0 : DStm := sIf (bAnd (eB (eOp2 iGt (eVar 3) (eC (.int 0)))) (bAnd (eNeO 1) (eB (eOp2 dEq (eIx (eIxO 1 (eNeg (eC (.int 1)))) (eC (.int 0))) (eVar 2))))) (sIxO 1 (eNeg (eC (.int 1))) (eTup (aCons (eVar 2) (aCons (eOp2 dAdd (eIx (eIxO 1 (eNeg (eC (.int 1)))) (eC (.int 1))) (eVar 3)) (aNil))))) (sIf (eB (eOp2 iGt (eVar 3) (eC (.int 0)))) (sApp 1 (aCons (eTup (aCons (eVar 2) (aCons (eVar 3) (aNil)))) (aNil))) (sPass))
def b__law_runs_of : DStm := sSeq (sSetO 1 (aMax (aNil)))
    (sSeq (sFor (itSeq (eVar 0)) (gT 2 (gsCons (gN 2) (gsCons (gN 3) (gsNil)))) (w__law_runs_of_0))
    (sRet (eCB (bTup) (aCons (eVar 1) (aNil)))))
def g__law_runs_of : DFn := fnD 1 b__law_runs_of 3
def b__law_repeated_right : DStm := sSeq (sSet 3 (eCall 2 g__law_pick (aCons (eVar 0) (aCons (eFrz (aMax (aCons (eC (.int 0)) (aCons (eC (.int 1)) (aCons (eC (.int 2)) (aCons (eC (.int 3)) (aCons (eCall 2 g__law_draw (aCons (eVar 0) (aCons (eC (.int 1000)) (aNil)))) (aNil)))))))) (aNil)))))
    (sSeq (sSet 4 (eMeth "Walk" [114, 101, 112, 101, 97, 116, 101, 100] 2 g_Walk_repeated (eVar 1) (aCons (eVar 3) (aNil))))
    (sSeq (sIf (bOr (eB (eOpX (ownNe "Place" g_PlaceX_eqX) (eMeth "Walk" [112, 108, 97, 99, 101] 1 g_Walk_place (eVar 4) aNil) (eMeth "Place" [112, 111, 119, 101, 114] 2 g_Place_power (eMeth "Walk" [112, 108, 97, 99, 101] 1 g_Walk_place (eVar 1) aNil) (aCons (eVar 3) (aNil))))) (eB (eOp2 dNe (eProp "Walk" g_Walk_length (eVar 4)) (eOp2 dMul (eVar 3) (eProp "Walk" g_Walk_length (eVar 1)))))) (sRet (eC (.bl false))) (sPass))
    (sSeq (sIf (bAnd (eB (eOp2 iLt (eVar 3) (eC (.int 40)))) (eB (eOp2 dNe (eFld ["Walk"] [114, 117, 110, 115] (eVar 4)) (eCall 1 g__law_runs_of (aCons (eOp2 dMul (eVar 2) (eVar 3)) (aNil)))))) (sRet (eC (.bl false))) (sPass))
    (sSeq (sPar 5 6 (aCons (eCall 2 g__law_pick (aCons (eVar 0) (aCons (eC (.str [101, 110, 119, 115])) (aNil)))) (aCons (eCall 2 g__law_great (aCons (eVar 0) (aCons (eC (.int 60)) (aNil)))) (aNil))))
    (sSeq (sIf (eB (eOp2 dNe (eFld ["Walk"] [114, 117, 110, 115] (eMeth "Walk" [114, 101, 112, 101, 97, 116, 101, 100] 2 g_Walk_repeated (eMake "Walk" 1 g_WalkX_initX (aCons (eFrz (aMax (aCons (eTup (aCons (eVar 5) (aCons (eC (.int 3)) (aNil)))) (aNil)))) (aNil))) (aCons (eVar 6) (aNil)))) (eOp2 tMul (eTup (aCons (eTup (aCons (eVar 5) (aCons (eOp2 dMul (eC (.int 3)) (eVar 6)) (aNil)))) (aNil))) (eCB (bInt) (aCons (eOp2 iGt (eVar 6) (eC (.int 0))) (aNil)))))) (sRet (eC (.bl false))) (sPass))
    (sRet (eAndT (eOpX (ownO "Walk" g_WalkX_eqX) (eMeth "Walk" [114, 101, 112, 101, 97, 116, 101, 100] 2 g_Walk_repeated (eMake "Walk" 1 g_WalkX_initX (aCons (eC (.str [])) (aNil))) (aCons (eVar 6) (aNil))) (eMake "Walk" 1 g_WalkX_initX (aCons (eFrz (aMax (aNil))) (aNil)))) (eOp2 dEq (eMeth "Walk" [108, 101, 116, 116, 101, 114, 115] 1 g_Walk_letters (eMeth "Walk" [114, 101, 112, 101, 97, 116, 101, 100] 2 g_Walk_repeated (eMake "Walk" 1 g_WalkX_initX (aCons (eC (.str [101, 110, 101])) (aNil))) (aCons (eC (.int 3)) (aNil))) aNil) (eC (.str [101, 110, 101, 101, 110, 101, 101, 110, 101]))))))))))
def g__law_repeated_right : DFn := fnD 3 b__law_repeated_right 4
def e_Walk_mirrored_0 : DE := eTup (aCons (eDGet2 (eFrzD (dDisp [(eC (.str [101]), eC (.str [119])), (eC (.str [119]), eC (.str [101]))])) (eVar 1) (eVar 1)) (aCons (eVar 2) (aNil)))
def b_Walk_mirrored : DStm := sRet (eMake "Walk" 1 g_WalkX_initX (aCons (eFrz (aLc [1, 2] (itSeq (eFld ["Walk"] [114, 117, 110, 115] (eVar 0))) (gT 2 (gsCons (gN 1) (gsCons (gN 2) (gsNil)))) (bYes) (e_Walk_mirrored_0))) (aNil)))
def g_Walk_mirrored : DFn := fnD 1 b_Walk_mirrored 2
def b_turned_letter : DStm := sRet (eIx (eC (.str [101, 110, 119, 115])) (eOp2 iMod (eOp2 dAdd (eSix (eC (.str [101, 110, 119, 115])) (aCons (eVar 0) (aNil))) (eVar 1)) (eC (.int 4))))
def g_turned_letter : DFn := fnD 2 b_turned_letter 0
def e_Walk_turned_0 : DE := eTup (aCons (eCall 2 g_turned_letter (aCons (eVar 2) (aCons (eVar 1) (aNil)))) (aCons (eVar 3) (aNil)))
def b_Walk_turned : DStm := sSeq (sIf (bNot (eTru (eCall 1 g_is_integer (aCons (eVar 1) (aNil))))) (sRaise "BadNumber" [118, 97, 108, 117, 101] (aCons (eVar 1) (aNil))) (sPass))
    (sRet (eMake "Walk" 1 g_WalkX_initX (aCons (eFrz (aLc [2, 3] (itSeq (eFld ["Walk"] [114, 117, 110, 115] (eVar 0))) (gT 2 (gsCons (gN 2) (gsCons (gN 3) (gsNil)))) (bYes) (e_Walk_turned_0))) (aNil))))
def g_Walk_turned : DFn := fnD 2 b_Walk_turned 2
def b__law_ground : DStm := sRet (eOp2 iSub (eOp2 dMul (eC (.int 2)) (eFld ["Place"] [97, 114, 101, 97] (eVar 0))) (eOp2 dMul (eFld ["Place"] [120] (eVar 0)) (eFld ["Place"] [121] (eVar 0))))
def g__law_ground : DFn := fnD 1 b__law_ground 0
def b__law_signed : DStm := sSeq (sSet 2 (eIf (bOr (eB (eOp2 iLt (eVar 1) (eC (.int 7)))) (eB (eOp2 dEq (eCall 2 g__law_draw (aCons (eVar 0) (aCons (eC (.int 4)) (aNil)))) (eC (.int 0))))) (eCall 2 g__law_draw (aCons (eVar 0) (aCons (eC (.int 12)) (aNil)))) (eCall 2 g__law_great (aCons (eVar 0) (aCons (eVar 1) (aNil))))))
    (sRet (eIf (eB (eOp2 dEq (eCall 2 g__law_draw (aCons (eVar 0) (aCons (eC (.int 2)) (aNil)))) (eC (.int 0)))) (eVar 2) (eNeg (eVar 2))))
def g__law_signed : DFn := fnD 2 b__law_signed 1
def e__law_turned_right_0 : DE := eTup (aCons (eIx (eC (.str [101, 110, 119, 115])) (eOp2 iMod (eCB (bInt) (aCons (eOp2 dAdd (eSix (eC (.str [101, 110, 119, 115])) (aCons (eVar 11) (aNil))) (eVar 3)) (aNil))) (eC (.int 4)))) (aCons (eVar 12) (aNil)))
def e__law_turned_right_1 : DE := eTup (aCons (eDGet2 (eFrzD (dDisp [(eC (.str [101]), eC (.str [119])), (eC (.str [119]), eC (.str [101]))])) (eVar 11) (eVar 11)) (aCons (eVar 12) (aNil)))
def b__law_turned_right : DStm := sSeq (sSet 3 (eCall 2 g__law_signed (aCons (eVar 0) (aCons (eC (.int 40)) (aNil)))))
    (sSeq (sSet 4 (eMeth "Walk" [116, 117, 114, 110, 101, 100] 2 g_Walk_turned (eVar 1) (aCons (eVar 3) (aNil))))
    (sSeq (sSetO 5 (aLc [11, 12] (itSeq (eVar 2)) (gT 2 (gsCons (gN 11) (gsCons (gN 12) (gsNil)))) (bYes) (e__law_turned_right_0)))
    (sSeq (sIf (bOr (eB (eOp2 dNe (eFld ["Walk"] [114, 117, 110, 115] (eVar 4)) (eCall 1 g__law_runs_of (aCons (eVar 5) (aNil))))) (eB (eOp2 dNe (eCall 1 g__law_ground (aCons (eMeth "Walk" [112, 108, 97, 99, 101] 1 g_Walk_place (eVar 4) aNil) (aNil))) (eCall 1 g__law_ground (aCons (eMeth "Walk" [112, 108, 97, 99, 101] 1 g_Walk_place (eVar 1) aNil) (aNil)))))) (sRet (eC (.bl false))) (sPass))
    (sSeq (sPar 6 7 (aCons (eFld ["Place"] [120] (eMeth "Walk" [112, 108, 97, 99, 101] 1 g_Walk_place (eVar 1) aNil)) (aCons (eFld ["Place"] [121] (eMeth "Walk" [112, 108, 97, 99, 101] 1 g_Walk_place (eVar 1) aNil)) (aNil))))
    (sSeq (sSet 8 (eFrz (aMax (aCons (eTup (aCons (eVar 6) (aCons (eVar 7) (aNil)))) (aCons (eTup (aCons (eNeg (eVar 7)) (aCons (eVar 6) (aNil)))) (aCons (eTup (aCons (eNeg (eVar 6)) (aCons (eNeg (eVar 7)) (aNil)))) (aCons (eTup (aCons (eVar 7) (aCons (eNeg (eVar 6)) (aNil)))) (aNil))))))))
    (sSeq (sIf (bOr (eB (eOp2 dNe (eTup (aCons (eFld ["Place"] [120] (eMeth "Walk" [112, 108, 97, 99, 101] 1 g_Walk_place (eVar 4) aNil)) (aCons (eFld ["Place"] [121] (eMeth "Walk" [112, 108, 97, 99, 101] 1 g_Walk_place (eVar 4) aNil)) (aNil)))) (eIx (eVar 8) (eOp2 iMod (eCB (bInt) (aCons (eVar 3) (aNil))) (eC (.int 4)))))) (eB (eOpX (ownNe "Walk" g_WalkX_eqX) (eMeth "Walk" [116, 117, 114, 110, 101, 100] 2 g_Walk_turned (eVar 4) (aCons (eNeg (eVar 3)) (aNil))) (eVar 1)))) (sRet (eC (.bl false))) (sPass))
    (sSeq (sSet 9 (eMeth "Walk" [109, 105, 114, 114, 111, 114, 101, 100] 1 g_Walk_mirrored (eVar 1) aNil))
    (sSeq (sSetO 10 (aLc [11, 12] (itSeq (eVar 2)) (gT 2 (gsCons (gN 11) (gsCons (gN 12) (gsNil)))) (bYes) (e__law_turned_right_1)))
    (sSeq (sIf (bOr (eB (eOp2 dNe (eFld ["Walk"] [114, 117, 110, 115] (eVar 9)) (eCall 1 g__law_runs_of (aCons (eVar 10) (aNil))))) (eB (eOp2 dNe (eCall 1 g__law_ground (aCons (eMeth "Walk" [112, 108, 97, 99, 101] 1 g_Walk_place (eVar 9) aNil) (aNil))) (eNeg (eCall 1 g__law_ground (aCons (eMeth "Walk" [112, 108, 97, 99, 101] 1 g_Walk_place (eVar 1) aNil) (aNil))))))) (sRet (eC (.bl false))) (sPass))
    (sSeq (sIf (bOr (eB (eOpX (ownNe "Walk" g_WalkX_eqX) (eMeth "Walk" [109, 105, 114, 114, 111, 114, 101, 100] 1 g_Walk_mirrored (eVar 9) aNil) (eVar 1))) (eB (eOpX (ownNe "Walk" g_WalkX_eqX) (eMeth "Walk" [116, 117, 114, 110, 101, 100] 2 g_Walk_turned (eVar 9) (aCons (eVar 3) (aNil))) (eMeth "Walk" [109, 105, 114, 114, 111, 114, 101, 100] 1 g_Walk_mirrored (eMeth "Walk" [116, 117, 114, 110, 101, 100] 2 g_Walk_turned (eVar 1) (aCons (eNeg (eVar 3)) (aNil))) aNil)))) (sRet (eC (.bl false))) (sPass))
    (sRet (eAndT (eOpX (ownO "Walk" g_WalkX_eqX) (eMeth "Walk" [116, 117, 114, 110, 101, 100] 2 g_Walk_turned (eVar 1) (aCons (eC (.int 4)) (aNil))) (eVar 1)) (eOp2 dEq (eFld ["Place"] [97, 114, 101, 97] (eMeth "Walk" [112, 108, 97, 99, 101] 1 g_Walk_place (eMeth "Walk" [116, 117, 114, 110, 101, 100] 2 g_Walk_turned (eVar 1) (aCons (eC (.int 2)) (aNil))) aNil)) (eFld ["Place"] [97, 114, 101, 97] (eMeth "Walk" [112, 108, 97, 99, 101] 1 g_Walk_place (eVar 1) aNil)))))))))))))))
def g__law_turned_right : DFn := fnD 3 b__law_turned_right 10
def e__law_walk_0 : DE := eVar 4
def e__law_walk_1 : DE := eOp2 sMul (eVar 3) (eVar 4)
def e__law_walk_2 : DE := eFrz (aList (aCons (eVar 5) (aNil)))
def b__law_walk : DStm := sSeq (sSet 2 (eCB (bSum) (aCons (eFrz (aLc [3, 4] (itSeq (eVar 1)) (gT 2 (gsCons (gN 3) (gsCons (gN 4) (gsNil)))) (bYes) (e__law_walk_0))) (aNil))))
    (sSeq (sIf (bAnd (eB (eOp2 iLt (eVar 2) (eC (.int 200)))) (eB (eOp2 dEq (eCall 2 g__law_draw (aCons (eVar 0) (aCons (eC (.int 2)) (aNil)))) (eC (.int 0))))) (sRet (eMake "Walk" 1 g_WalkX_initX (aCons (eBM "str" mJoin (eC (.str [])) (aCons (eFrz (aLc [3, 4] (itSeq (eVar 1)) (gT 2 (gsCons (gN 3) (gsCons (gN 4) (gsNil)))) (bYes) (e__law_walk_1))) (aNil))) (aNil)))) (sPass))
    (sSeq (sIf (eB (eOp2 dEq (eCall 2 g__law_draw (aCons (eVar 0) (aCons (eC (.int 2)) (aNil)))) (eC (.int 0)))) (sRet (eMake "Walk" 1 g_WalkX_initX (aCons (eCB (bTup) (aCons (eFrz (aLc [5] (itSeq (eVar 1)) (gN 5) (bYes) (e__law_walk_2))) (aNil))) (aNil)))) (sPass))
    (sRet (eMake "Walk" 1 g_WalkX_initX (aCons (eFrz (aList (aCons (eVar 1) (aNil)))) (aNil))))))
def g__law_walk : DFn := fnD 2 b__law_walk 4
def lb_law_0 : DE := eMeth "Walk" [116, 117, 114, 110, 101, 100] 2 g_Walk_turned (eVar 4) (aCons (eVar 5) (aNil))
def lb_law_1 : DE := eMeth "Walk" [114, 101, 112, 101, 97, 116, 101, 100] 2 g_Walk_repeated (eVar 4) (aCons (eVar 5) (aNil))
def lb_law_2 : DE := eMeth "Walk" [114, 101, 112, 101, 97, 116, 101, 100] 2 g_Walk_repeated (eVar 4) (aCons (eNeg (eC (.int 1))) (aNil))
def w_law_0 : DStm := sSeq (sIf (eB (eOp2 dNe (eCallL 1 (fun Λ => fnD 1 (b__law_refused Λ) 1) (fun n => List.lookup n [("law.0", lb_law_0), ("law.1", lb_law_1), ("law.2", lb_law_2)]) (aCons (eLam 1 "law" "law.0") (aNil))) (eTup (aCons (eC (.str [110, 117, 109, 98, 101, 114])) (aCons (eVar 5) (aNil)))))) (sRet (eC (.bl false))) (sPass))
    (sIf (eB (eOp2 dNe (eCallL 1 (fun Λ => fnD 1 (b__law_refused Λ) 1) (fun n => List.lookup n [("law.0", lb_law_0), ("law.1", lb_law_1), ("law.2", lb_law_2)]) (aCons (eLam 1 "law" "law.1") (aNil))) (eTup (aCons (eC (.str [110, 117, 109, 98, 101, 114])) (aCons (eVar 5) (aNil)))))) (sRet (eC (.bl false))) (sPass))
def w_law_1 : DStm := sSeq (sSet 3 (eCall 3 g__law_pairs (aCons (eVar 1) (aCons (eC (.int 9)) (aCons (eCall 2 g__law_pick (aCons (eVar 1) (aCons (eFrz (aMax (aCons (eC (.int 0)) (aCons (eC (.int 40)) (aNil))))) (aNil)))) (aNil))))))
    (sSeq (sSet 4 (eCall 2 g__law_walk (aCons (eVar 1) (aCons (eVar 3) (aNil)))))
    (sSeq (sIf (bOr (bNot (eTru (eCall 3 g__law_turned_right (aCons (eVar 1) (aCons (eVar 4) (aCons (eVar 3) (aNil))))))) (bNot (eTru (eCall 3 g__law_repeated_right (aCons (eVar 1) (aCons (eVar 4) (aCons (eVar 3) (aNil)))))))) (sRet (eC (.bl false))) (sPass))
    (sSeq (sFor (itSeq (eFrz (aMax (aCons (eC .non) (aCons (eC (.bl true)) (aCons (eC (.str [49])) (aCons (eFrz (aMax (aCons (eC (.int 1)) (aNil)))) (aNil)))))))) (gN 5) (w_law_0))
    (sIf (eB (eOp2 dNe (eCallL 1 (fun Λ => fnD 1 (b__law_refused Λ) 1) (fun n => List.lookup n [("law.0", lb_law_0), ("law.1", lb_law_1), ("law.2", lb_law_2)]) (aCons (eLam 1 "law" "law.2") (aNil))) (eTup (aCons (eC (.str [110, 117, 109, 98, 101, 114])) (aCons (eNeg (eC (.int 1))) (aNil)))))) (sRet (eC (.bl false))) (sPass)))))
def b_law : DStm := sSeq (sSet 1 (eCall 1 g__law_pen (aCons (eVar 0) (aNil))))
    (sSeq (sFor (itR1 (aCons (eOp2 dAdd (eC (.int 2)) (eCB (bMin2) (aCons (eC (.int 3)) (aCons (eCB (bLen) (aCons (eVar 0) (aNil))) (aNil))))) (aNil))) (gN 2) (w_law_1))
    (sRet (eCall 1 g__law_bounds_right (aCons (eVar 1) (aNil)))))
def g_law : DFn := fnDL 1 b_law 5
structure Ev (P : Program) (G : Gam) (mg : Str → Option Value) (base : Heap) where
  C_Place : Addr
  ct_Place : G.ct "Place" = some C_Place
  cl_Place : Cls G.K C_Place
  m_Place : mg "Place" = some (.ref C_Place)
  sf_Place : PySem.W.selfFirst G.K C_Place = true
  ne_Place : PySem.W.findIn G.K (.ref C_Place) "__ne__" = some (some (.builtin "object.__ne__"))
  mo_Place : PySem.W.mroIn G.K C_Place (.type "object") = some true
  na_Place_x : NoAttr G.K C_Place "x"
  na_Place_y : NoAttr G.K C_Place "y"
  na_Place_area : NoAttr G.K C_Place "area"
  C_Walk : Addr
  ct_Walk : G.ct "Walk" = some C_Walk
  cl_Walk : Cls G.K C_Walk
  m_Walk : mg "Walk" = some (.ref C_Walk)
  sf_Walk : PySem.W.selfFirst G.K C_Walk = true
  ne_Walk : PySem.W.findIn G.K (.ref C_Walk) "__ne__" = some (some (.builtin "object.__ne__"))
  mo_Walk : PySem.W.mroIn G.K C_Walk (.type "object") = some true
  na_Walk_runs : NoAttr G.K C_Walk "runs"
  C_BadNumber : Addr
  ct_BadNumber : G.ct "BadNumber" = some C_BadNumber
  m_BadNumber : mg "BadNumber" = some (.ref C_BadNumber)
  fI_BadNumber : Addr
  xfd_BadNumber : FuncData
  X_BadNumber : XFacts P G mg "BadNumber" C_BadNumber fI_BadNumber xfd_BadNumber "self" "value" "value"
  C_BadWord : Addr
  ct_BadWord : G.ct "BadWord" = some C_BadWord
  m_BadWord : mg "BadWord" = some (.ref C_BadWord)
  fI_BadWord : Addr
  xfd_BadWord : FuncData
  X_BadWord : XFacts P G mg "BadWord" C_BadWord fI_BadWord xfd_BadWord "self" "value" "value"
  C_TooMany : Addr
  ct_TooMany : G.ct "TooMany" = some C_TooMany
  m_TooMany : mg "TooMany" = some (.ref C_TooMany)
  fI_TooMany : Addr
  xfd_TooMany : FuncData
  X_TooMany : XFacts P G mg "TooMany" C_TooMany fI_TooMany xfd_TooMany "self" "most" "most"
  xm_BadNumber_BadNumber : PySem.W.exmOne G.K (.ref C_BadNumber) (.ref C_BadNumber) = some true
  xm_BadNumber_TooMany : PySem.W.exmOne G.K (.ref C_BadNumber) (.ref C_TooMany) = some false
  xm_BadWord_BadNumber : PySem.W.exmOne G.K (.ref C_BadWord) (.ref C_BadNumber) = some false
  xm_BadWord_TooMany : PySem.W.exmOne G.K (.ref C_BadWord) (.ref C_TooMany) = some false
  xm_TooMany_BadNumber : PySem.W.exmOne G.K (.ref C_TooMany) (.ref C_BadNumber) = some false
  xm_TooMany_TooMany : PySem.W.exmOne G.K (.ref C_TooMany) (.ref C_TooMany) = some true
  a_merged : Addr
  fd_merged : FuncData
  F_merged : Fun G.K "merged" "merged" st_merged a_merged fd_merged
  b_merged : L2.Binds G.K fd_merged ["pairs"] []
  m_merged : mg "merged" = some (.ref a_merged)
  a_is_list : Addr
  fd_is_list : FuncData
  F_is_list : Fun G.K "is_list" "is_list" st_is_list a_is_list fd_is_list
  b_is_list : L2.Binds G.K fd_is_list ["value"] []
  m_is_list : mg "is_list" = some (.ref a_is_list)
  a_is_integer : Addr
  fd_is_integer : FuncData
  F_is_integer : Fun G.K "is_integer" "is_integer" st_is_integer a_is_integer fd_is_integer
  b_is_integer : L2.Binds G.K fd_is_integer ["value"] []
  m_is_integer : mg "is_integer" = some (.ref a_is_integer)
  a_is_whole : Addr
  fd_is_whole : FuncData
  F_is_whole : Fun G.K "is_whole" "is_whole" st_is_whole a_is_whole fd_is_whole
  b_is_whole : L2.Binds G.K fd_is_whole ["value", "least"] []
  m_is_whole : mg "is_whole" = some (.ref a_is_whole)
  a_is_pair : Addr
  fd_is_pair : FuncData
  F_is_pair : Fun G.K "is_pair" "is_pair" st_is_pair a_is_pair fd_is_pair
  b_is_pair : L2.Binds G.K fd_is_pair ["value"] []
  m_is_pair : mg "is_pair" = some (.ref a_is_pair)
  a_pairs_told : Addr
  fd_pairs_told : FuncData
  F_pairs_told : Fun G.K "pairs_told" "pairs_told" st_pairs_told a_pairs_told fd_pairs_told
  b_pairs_told : L2.Binds G.K fd_pairs_told ["told"] []
  m_pairs_told : mg "pairs_told" = some (.ref a_pairs_told)
  a_WalkX_initX : Addr
  fd_WalkX_initX : FuncData
  F_WalkX_initX : Fun G.K "__init__" "Walk.__init__" st_WalkX_initX a_WalkX_initX fd_WalkX_initX
  b_WalkX_initX : L2.Binds G.K fd_WalkX_initX ["self", "told"] []
  M_WalkX_initX : Meth G.K C_Walk "__init__" a_WalkX_initX
  a_Walk_length : Addr
  fd_Walk_length : FuncData
  F_Walk_length : Fun G.K "length" "Walk.length" st_Walk_length a_Walk_length fd_Walk_length
  b_Walk_length : L2.Binds G.K fd_Walk_length ["self"] []
  p_Walk_length : Addr
  M_Walk_length : PropOf G.K C_Walk "length" p_Walk_length a_Walk_length
  a_Walk_repeated : Addr
  fd_Walk_repeated : FuncData
  F_Walk_repeated : Fun G.K "repeated" "Walk.repeated" st_Walk_repeated a_Walk_repeated fd_Walk_repeated
  b_Walk_repeated : L2.Binds G.K fd_Walk_repeated ["self", "number"] []
  M_Walk_repeated : Meth G.K C_Walk "repeated" a_Walk_repeated
  a__law_draw : Addr
  fd__law_draw : FuncData
  F__law_draw : Fun G.K "_law_draw" "_law_draw" st__law_draw a__law_draw fd__law_draw
  b__law_draw : L2.Binds G.K fd__law_draw ["_law_pen_here", "_law_span"] []
  m__law_draw : mg "_law_draw" = some (.ref a__law_draw)
  a__law_great : Addr
  fd__law_great : FuncData
  F__law_great : Fun G.K "_law_great" "_law_great" st__law_great a__law_great fd__law_great
  b__law_great : L2.Binds G.K fd__law_great ["_law_pen_here", "_law_figures"] []
  m__law_great : mg "_law_great" = some (.ref a__law_great)
  a__law_refused : Addr
  fd__law_refused : FuncData
  F__law_refused : Fun G.K "_law_refused" "_law_refused" st__law_refused a__law_refused fd__law_refused
  b__law_refused : L2.Binds G.K fd__law_refused ["_law_deed"] []
  m__law_refused : mg "_law_refused" = some (.ref a__law_refused)
  a__law_bounds_right : Addr
  fd__law_bounds_right : FuncData
  F__law_bounds_right : Fun G.K "_law_bounds_right" "_law_bounds_right" st__law_bounds_right a__law_bounds_right fd__law_bounds_right
  b__law_bounds_right : L2.Binds G.K fd__law_bounds_right ["_law_pen_here"] []
  m__law_bounds_right : mg "_law_bounds_right" = some (.ref a__law_bounds_right)
  tc__law_bounds_right : Addr
  P__law_bounds_right : Addr
  cd__law_bounds_right : fd__law_bounds_right.code = .ref tc__law_bounds_right
  tb__law_bounds_right : LamX.TabB base mg tc__law_bounds_right P__law_bounds_right
  a__law_pick : Addr
  fd__law_pick : FuncData
  F__law_pick : Fun G.K "_law_pick" "_law_pick" st__law_pick a__law_pick fd__law_pick
  b__law_pick : L2.Binds G.K fd__law_pick ["_law_pen_here", "_law_items"] []
  m__law_pick : mg "_law_pick" = some (.ref a__law_pick)
  a__law_pairs : Addr
  fd__law_pairs : FuncData
  F__law_pairs : Fun G.K "_law_pairs" "_law_pairs" st__law_pairs a__law_pairs fd__law_pairs
  b__law_pairs : L2.Binds G.K fd__law_pairs ["_law_pen_here", "_law_most_pairs", "_law_figures"] []
  m__law_pairs : mg "_law_pairs" = some (.ref a__law_pairs)
  a__law_pen : Addr
  fd__law_pen : FuncData
  F__law_pen : Fun G.K "_law_pen" "_law_pen" st__law_pen a__law_pen fd__law_pen
  b__law_pen : L2.Binds G.K fd__law_pen ["_law_script"] []
  m__law_pen : mg "_law_pen" = some (.ref a__law_pen)
  a_PlaceX_eqX : Addr
  fd_PlaceX_eqX : FuncData
  F_PlaceX_eqX : Fun G.K "__eq__" "Place.__eq__" st_PlaceX_eqX a_PlaceX_eqX fd_PlaceX_eqX
  b_PlaceX_eqX : L2.Binds G.K fd_PlaceX_eqX ["self", "other"] []
  M_PlaceX_eqX : Meth G.K C_Place "__eq__" a_PlaceX_eqX
  a_PlaceX_initX : Addr
  fd_PlaceX_initX : FuncData
  F_PlaceX_initX : Fun G.K "__init__" "Place.__init__" st_PlaceX_initX a_PlaceX_initX fd_PlaceX_initX
  b_PlaceX_initX : L2.Binds G.K fd_PlaceX_initX ["self", "x", "y", "area"] []
  M_PlaceX_initX : Meth G.K C_Place "__init__" a_PlaceX_initX
  a_pairs_below : Addr
  fd_pairs_below : FuncData
  F_pairs_below : Fun G.K "pairs_below" "pairs_below" st_pairs_below a_pairs_below fd_pairs_below
  b_pairs_below : L2.Binds G.K fd_pairs_below ["number"] []
  m_pairs_below : mg "pairs_below" = some (.ref a_pairs_below)
  a_Place_power : Addr
  fd_Place_power : FuncData
  F_Place_power : Fun G.K "power" "Place.power" st_Place_power a_Place_power fd_Place_power
  b_Place_power : L2.Binds G.K fd_Place_power ["self", "number"] []
  M_Place_power : Meth G.K C_Place "power" a_Place_power
  a_WalkX_eqX : Addr
  fd_WalkX_eqX : FuncData
  F_WalkX_eqX : Fun G.K "__eq__" "Walk.__eq__" st_WalkX_eqX a_WalkX_eqX fd_WalkX_eqX
  b_WalkX_eqX : L2.Binds G.K fd_WalkX_eqX ["self", "other"] []
  M_WalkX_eqX : Meth G.K C_Walk "__eq__" a_WalkX_eqX
  a_Walk_letters : Addr
  fd_Walk_letters : FuncData
  F_Walk_letters : Fun G.K "letters" "Walk.letters" st_Walk_letters a_Walk_letters fd_Walk_letters
  b_Walk_letters : L2.Binds G.K fd_Walk_letters ["self"] []
  M_Walk_letters : Meth G.K C_Walk "letters" a_Walk_letters
  a_gone_on : Addr
  fd_gone_on : FuncData
  F_gone_on : Fun G.K "gone_on" "gone_on" st_gone_on a_gone_on fd_gone_on
  b_gone_on : L2.Binds G.K fd_gone_on ["spot", "letter", "times"] []
  m_gone_on : mg "gone_on" = some (.ref a_gone_on)
  a_Walk_spots : Addr
  fd_Walk_spots : FuncData
  F_Walk_spots : Fun G.K "spots" "Walk.spots" st_Walk_spots a_Walk_spots fd_Walk_spots
  b_Walk_spots : L2.Binds G.K fd_Walk_spots ["self"] []
  M_Walk_spots : Meth G.K C_Walk "spots" a_Walk_spots
  a_Walk_place : Addr
  fd_Walk_place : FuncData
  F_Walk_place : Fun G.K "place" "Walk.place" st_Walk_place a_Walk_place fd_Walk_place
  b_Walk_place : L2.Binds G.K fd_Walk_place ["self"] []
  M_Walk_place : Meth G.K C_Walk "place" a_Walk_place
  a__law_runs_of : Addr
  fd__law_runs_of : FuncData
  F__law_runs_of : Fun G.K "_law_runs_of" "_law_runs_of" st__law_runs_of a__law_runs_of fd__law_runs_of
  b__law_runs_of : L2.Binds G.K fd__law_runs_of ["_law_pairs_here"] []
  m__law_runs_of : mg "_law_runs_of" = some (.ref a__law_runs_of)
  a__law_repeated_right : Addr
  fd__law_repeated_right : FuncData
  F__law_repeated_right : Fun G.K "_law_repeated_right" "_law_repeated_right" st__law_repeated_right a__law_repeated_right fd__law_repeated_right
  b__law_repeated_right : L2.Binds G.K fd__law_repeated_right ["_law_pen_here", "_law_walk_here", "_law_pairs_here"] []
  m__law_repeated_right : mg "_law_repeated_right" = some (.ref a__law_repeated_right)
  a_Walk_mirrored : Addr
  fd_Walk_mirrored : FuncData
  F_Walk_mirrored : Fun G.K "mirrored" "Walk.mirrored" st_Walk_mirrored a_Walk_mirrored fd_Walk_mirrored
  b_Walk_mirrored : L2.Binds G.K fd_Walk_mirrored ["self"] []
  M_Walk_mirrored : Meth G.K C_Walk "mirrored" a_Walk_mirrored
  a_turned_letter : Addr
  fd_turned_letter : FuncData
  F_turned_letter : Fun G.K "turned_letter" "turned_letter" st_turned_letter a_turned_letter fd_turned_letter
  b_turned_letter : L2.Binds G.K fd_turned_letter ["letter", "quarters"] []
  m_turned_letter : mg "turned_letter" = some (.ref a_turned_letter)
  a_Walk_turned : Addr
  fd_Walk_turned : FuncData
  F_Walk_turned : Fun G.K "turned" "Walk.turned" st_Walk_turned a_Walk_turned fd_Walk_turned
  b_Walk_turned : L2.Binds G.K fd_Walk_turned ["self", "quarters"] []
  M_Walk_turned : Meth G.K C_Walk "turned" a_Walk_turned
  a__law_ground : Addr
  fd__law_ground : FuncData
  F__law_ground : Fun G.K "_law_ground" "_law_ground" st__law_ground a__law_ground fd__law_ground
  b__law_ground : L2.Binds G.K fd__law_ground ["_law_place"] []
  m__law_ground : mg "_law_ground" = some (.ref a__law_ground)
  a__law_signed : Addr
  fd__law_signed : FuncData
  F__law_signed : Fun G.K "_law_signed" "_law_signed" st__law_signed a__law_signed fd__law_signed
  b__law_signed : L2.Binds G.K fd__law_signed ["_law_pen_here", "_law_figures"] []
  m__law_signed : mg "_law_signed" = some (.ref a__law_signed)
  a__law_turned_right : Addr
  fd__law_turned_right : FuncData
  F__law_turned_right : Fun G.K "_law_turned_right" "_law_turned_right" st__law_turned_right a__law_turned_right fd__law_turned_right
  b__law_turned_right : L2.Binds G.K fd__law_turned_right ["_law_pen_here", "_law_walk_here", "_law_pairs_here"] []
  m__law_turned_right : mg "_law_turned_right" = some (.ref a__law_turned_right)
  a__law_walk : Addr
  fd__law_walk : FuncData
  F__law_walk : Fun G.K "_law_walk" "_law_walk" st__law_walk a__law_walk fd__law_walk
  b__law_walk : L2.Binds G.K fd__law_walk ["_law_pen_here", "_law_pairs_here"] []
  m__law_walk : mg "_law_walk" = some (.ref a__law_walk)
  a_law : Addr
  fd_law : FuncData
  F_law : Fun G.K "law" "law" st_law a_law fd_law
  b_law : L2.Binds G.K fd_law ["_law_script"] []
  m_law : mg "law" = some (.ref a_law)
  tc_law : Addr
  P_law : Addr
  cd_law : fd_law.code = .ref tc_law
  tb_law : LamX.TabB base mg tc_law P_law
  mk_Place : Mk G.K C_Place a_PlaceX_initX
  mk_Walk : Mk G.K C_Walk a_WalkX_initX
  f_area : FldOk G ["Place"] [97, 114, 101, 97]
  f_runs : FldOk G ["Walk"] [114, 117, 110, 115]
  f_x : FldOk G ["Place"] [120]
  f_y : FldOk G ["Place"] [121]
  z_all : mg "all" = none
  z_bool : mg "bool" = none
  z_int : mg "int" = none
  z_isinstance : mg "isinstance" = none
  z_len : mg "len" = none
  z_list : mg "list" = none
  z_min : mg "min" = none
  z_range : mg "range" = none
  z_str : mg "str" = none
  z_sum : mg "sum" = none
  z_tuple : mg "tuple" = none
  kv_LETTERS : Value
  kc_LETTERS : mg "LETTERS" = some kv_LETTERS
  kr_LETTERS : ∃ y, RelV y kv_LETTERS ∧ ∀ w, Rep G w y (.str [101, 110, 119, 115])
  kv_MOST_LETTERS : Value
  kc_MOST_LETTERS : mg "MOST_LETTERS" = some kv_MOST_LETTERS
  kr_MOST_LETTERS : ∃ y, RelV y kv_MOST_LETTERS ∧ ∀ w, Rep G w y (.int 10000)
  kv_MOST_RUNS : Value
  kc_MOST_RUNS : mg "MOST_RUNS" = some kv_MOST_RUNS
  kr_MOST_RUNS : ∃ y, RelV y kv_MOST_RUNS ∧ ∀ w, Rep G w y (.int 10000)
  iso : IsOk G ["Place", "Walk"]
  tabs : G.tab = tabG [("_law_bounds_right", P__law_bounds_right, ((envOfC "_law_bounds_right" (defScope st__law_bounds_right) 0 0 .none).qual ++ "<lambda>")), ("law", P_law, ((envOfC "law" (defScope st_law) 0 0 .none).qual ++ "<lambda>"))]
def Ev.sw {P : Program} {G : Gam} {mg : Str → Option Value} {base : Heap} (e : Ev P G mg base) (lam : String → Addr → Wd → Prop) (lamM : ∀ (k : String) (f : Addr) (w w' : Wd), w.le w' → lam k f w → lam k f w') : Ev P (G.sw lam lamM) mg base := {
  C_Place := e.C_Place
  ct_Place := e.ct_Place
  cl_Place := e.cl_Place
  m_Place := e.m_Place
  sf_Place := e.sf_Place
  ne_Place := e.ne_Place
  mo_Place := e.mo_Place
  na_Place_x := e.na_Place_x
  na_Place_y := e.na_Place_y
  na_Place_area := e.na_Place_area
  C_Walk := e.C_Walk
  ct_Walk := e.ct_Walk
  cl_Walk := e.cl_Walk
  m_Walk := e.m_Walk
  sf_Walk := e.sf_Walk
  ne_Walk := e.ne_Walk
  mo_Walk := e.mo_Walk
  na_Walk_runs := e.na_Walk_runs
  C_BadNumber := e.C_BadNumber
  ct_BadNumber := e.ct_BadNumber
  m_BadNumber := e.m_BadNumber
  fI_BadNumber := e.fI_BadNumber
  xfd_BadNumber := e.xfd_BadNumber
  X_BadNumber := ⟨⟨e.X_BadNumber.T.ct, e.X_BadNumber.T.ini, e.X_BadNumber.T.ty, e.X_BadNumber.T.cls⟩, e.X_BadNumber.I, e.X_BadNumber.F, e.X_BadNumber.B⟩
  C_BadWord := e.C_BadWord
  ct_BadWord := e.ct_BadWord
  m_BadWord := e.m_BadWord
  fI_BadWord := e.fI_BadWord
  xfd_BadWord := e.xfd_BadWord
  X_BadWord := ⟨⟨e.X_BadWord.T.ct, e.X_BadWord.T.ini, e.X_BadWord.T.ty, e.X_BadWord.T.cls⟩, e.X_BadWord.I, e.X_BadWord.F, e.X_BadWord.B⟩
  C_TooMany := e.C_TooMany
  ct_TooMany := e.ct_TooMany
  m_TooMany := e.m_TooMany
  fI_TooMany := e.fI_TooMany
  xfd_TooMany := e.xfd_TooMany
  X_TooMany := ⟨⟨e.X_TooMany.T.ct, e.X_TooMany.T.ini, e.X_TooMany.T.ty, e.X_TooMany.T.cls⟩, e.X_TooMany.I, e.X_TooMany.F, e.X_TooMany.B⟩
  xm_BadNumber_BadNumber := e.xm_BadNumber_BadNumber
  xm_BadNumber_TooMany := e.xm_BadNumber_TooMany
  xm_BadWord_BadNumber := e.xm_BadWord_BadNumber
  xm_BadWord_TooMany := e.xm_BadWord_TooMany
  xm_TooMany_BadNumber := e.xm_TooMany_BadNumber
  xm_TooMany_TooMany := e.xm_TooMany_TooMany
  a_merged := e.a_merged
  fd_merged := e.fd_merged
  F_merged := e.F_merged
  b_merged := e.b_merged
  m_merged := e.m_merged
  a_is_list := e.a_is_list
  fd_is_list := e.fd_is_list
  F_is_list := e.F_is_list
  b_is_list := e.b_is_list
  m_is_list := e.m_is_list
  a_is_integer := e.a_is_integer
  fd_is_integer := e.fd_is_integer
  F_is_integer := e.F_is_integer
  b_is_integer := e.b_is_integer
  m_is_integer := e.m_is_integer
  a_is_whole := e.a_is_whole
  fd_is_whole := e.fd_is_whole
  F_is_whole := e.F_is_whole
  b_is_whole := e.b_is_whole
  m_is_whole := e.m_is_whole
  a_is_pair := e.a_is_pair
  fd_is_pair := e.fd_is_pair
  F_is_pair := e.F_is_pair
  b_is_pair := e.b_is_pair
  m_is_pair := e.m_is_pair
  a_pairs_told := e.a_pairs_told
  fd_pairs_told := e.fd_pairs_told
  F_pairs_told := e.F_pairs_told
  b_pairs_told := e.b_pairs_told
  m_pairs_told := e.m_pairs_told
  a_WalkX_initX := e.a_WalkX_initX
  fd_WalkX_initX := e.fd_WalkX_initX
  F_WalkX_initX := e.F_WalkX_initX
  b_WalkX_initX := e.b_WalkX_initX
  M_WalkX_initX := e.M_WalkX_initX
  a_Walk_length := e.a_Walk_length
  fd_Walk_length := e.fd_Walk_length
  F_Walk_length := e.F_Walk_length
  b_Walk_length := e.b_Walk_length
  p_Walk_length := e.p_Walk_length
  M_Walk_length := e.M_Walk_length
  a_Walk_repeated := e.a_Walk_repeated
  fd_Walk_repeated := e.fd_Walk_repeated
  F_Walk_repeated := e.F_Walk_repeated
  b_Walk_repeated := e.b_Walk_repeated
  M_Walk_repeated := e.M_Walk_repeated
  a__law_draw := e.a__law_draw
  fd__law_draw := e.fd__law_draw
  F__law_draw := e.F__law_draw
  b__law_draw := e.b__law_draw
  m__law_draw := e.m__law_draw
  a__law_great := e.a__law_great
  fd__law_great := e.fd__law_great
  F__law_great := e.F__law_great
  b__law_great := e.b__law_great
  m__law_great := e.m__law_great
  a__law_refused := e.a__law_refused
  fd__law_refused := e.fd__law_refused
  F__law_refused := e.F__law_refused
  b__law_refused := e.b__law_refused
  m__law_refused := e.m__law_refused
  a__law_bounds_right := e.a__law_bounds_right
  fd__law_bounds_right := e.fd__law_bounds_right
  F__law_bounds_right := e.F__law_bounds_right
  b__law_bounds_right := e.b__law_bounds_right
  m__law_bounds_right := e.m__law_bounds_right
  tc__law_bounds_right := e.tc__law_bounds_right
  P__law_bounds_right := e.P__law_bounds_right
  cd__law_bounds_right := e.cd__law_bounds_right
  tb__law_bounds_right := e.tb__law_bounds_right
  a__law_pick := e.a__law_pick
  fd__law_pick := e.fd__law_pick
  F__law_pick := e.F__law_pick
  b__law_pick := e.b__law_pick
  m__law_pick := e.m__law_pick
  a__law_pairs := e.a__law_pairs
  fd__law_pairs := e.fd__law_pairs
  F__law_pairs := e.F__law_pairs
  b__law_pairs := e.b__law_pairs
  m__law_pairs := e.m__law_pairs
  a__law_pen := e.a__law_pen
  fd__law_pen := e.fd__law_pen
  F__law_pen := e.F__law_pen
  b__law_pen := e.b__law_pen
  m__law_pen := e.m__law_pen
  a_PlaceX_eqX := e.a_PlaceX_eqX
  fd_PlaceX_eqX := e.fd_PlaceX_eqX
  F_PlaceX_eqX := e.F_PlaceX_eqX
  b_PlaceX_eqX := e.b_PlaceX_eqX
  M_PlaceX_eqX := e.M_PlaceX_eqX
  a_PlaceX_initX := e.a_PlaceX_initX
  fd_PlaceX_initX := e.fd_PlaceX_initX
  F_PlaceX_initX := e.F_PlaceX_initX
  b_PlaceX_initX := e.b_PlaceX_initX
  M_PlaceX_initX := e.M_PlaceX_initX
  a_pairs_below := e.a_pairs_below
  fd_pairs_below := e.fd_pairs_below
  F_pairs_below := e.F_pairs_below
  b_pairs_below := e.b_pairs_below
  m_pairs_below := e.m_pairs_below
  a_Place_power := e.a_Place_power
  fd_Place_power := e.fd_Place_power
  F_Place_power := e.F_Place_power
  b_Place_power := e.b_Place_power
  M_Place_power := e.M_Place_power
  a_WalkX_eqX := e.a_WalkX_eqX
  fd_WalkX_eqX := e.fd_WalkX_eqX
  F_WalkX_eqX := e.F_WalkX_eqX
  b_WalkX_eqX := e.b_WalkX_eqX
  M_WalkX_eqX := e.M_WalkX_eqX
  a_Walk_letters := e.a_Walk_letters
  fd_Walk_letters := e.fd_Walk_letters
  F_Walk_letters := e.F_Walk_letters
  b_Walk_letters := e.b_Walk_letters
  M_Walk_letters := e.M_Walk_letters
  a_gone_on := e.a_gone_on
  fd_gone_on := e.fd_gone_on
  F_gone_on := e.F_gone_on
  b_gone_on := e.b_gone_on
  m_gone_on := e.m_gone_on
  a_Walk_spots := e.a_Walk_spots
  fd_Walk_spots := e.fd_Walk_spots
  F_Walk_spots := e.F_Walk_spots
  b_Walk_spots := e.b_Walk_spots
  M_Walk_spots := e.M_Walk_spots
  a_Walk_place := e.a_Walk_place
  fd_Walk_place := e.fd_Walk_place
  F_Walk_place := e.F_Walk_place
  b_Walk_place := e.b_Walk_place
  M_Walk_place := e.M_Walk_place
  a__law_runs_of := e.a__law_runs_of
  fd__law_runs_of := e.fd__law_runs_of
  F__law_runs_of := e.F__law_runs_of
  b__law_runs_of := e.b__law_runs_of
  m__law_runs_of := e.m__law_runs_of
  a__law_repeated_right := e.a__law_repeated_right
  fd__law_repeated_right := e.fd__law_repeated_right
  F__law_repeated_right := e.F__law_repeated_right
  b__law_repeated_right := e.b__law_repeated_right
  m__law_repeated_right := e.m__law_repeated_right
  a_Walk_mirrored := e.a_Walk_mirrored
  fd_Walk_mirrored := e.fd_Walk_mirrored
  F_Walk_mirrored := e.F_Walk_mirrored
  b_Walk_mirrored := e.b_Walk_mirrored
  M_Walk_mirrored := e.M_Walk_mirrored
  a_turned_letter := e.a_turned_letter
  fd_turned_letter := e.fd_turned_letter
  F_turned_letter := e.F_turned_letter
  b_turned_letter := e.b_turned_letter
  m_turned_letter := e.m_turned_letter
  a_Walk_turned := e.a_Walk_turned
  fd_Walk_turned := e.fd_Walk_turned
  F_Walk_turned := e.F_Walk_turned
  b_Walk_turned := e.b_Walk_turned
  M_Walk_turned := e.M_Walk_turned
  a__law_ground := e.a__law_ground
  fd__law_ground := e.fd__law_ground
  F__law_ground := e.F__law_ground
  b__law_ground := e.b__law_ground
  m__law_ground := e.m__law_ground
  a__law_signed := e.a__law_signed
  fd__law_signed := e.fd__law_signed
  F__law_signed := e.F__law_signed
  b__law_signed := e.b__law_signed
  m__law_signed := e.m__law_signed
  a__law_turned_right := e.a__law_turned_right
  fd__law_turned_right := e.fd__law_turned_right
  F__law_turned_right := e.F__law_turned_right
  b__law_turned_right := e.b__law_turned_right
  m__law_turned_right := e.m__law_turned_right
  a__law_walk := e.a__law_walk
  fd__law_walk := e.fd__law_walk
  F__law_walk := e.F__law_walk
  b__law_walk := e.b__law_walk
  m__law_walk := e.m__law_walk
  a_law := e.a_law
  fd_law := e.fd_law
  F_law := e.F_law
  b_law := e.b_law
  m_law := e.m_law
  tc_law := e.tc_law
  P_law := e.P_law
  cd_law := e.cd_law
  tb_law := e.tb_law
  mk_Place := e.mk_Place
  mk_Walk := e.mk_Walk
  f_area := e.f_area
  f_runs := e.f_runs
  f_x := e.f_x
  f_y := e.f_y
  z_all := e.z_all
  z_bool := e.z_bool
  z_int := e.z_int
  z_isinstance := e.z_isinstance
  z_len := e.z_len
  z_list := e.z_list
  z_min := e.z_min
  z_range := e.z_range
  z_str := e.z_str
  z_sum := e.z_sum
  z_tuple := e.z_tuple
  kv_LETTERS := e.kv_LETTERS
  kc_LETTERS := e.kc_LETTERS
  kr_LETTERS := (by obtain ⟨y, r1, r2⟩ := e.kr_LETTERS; exact ⟨y, r1, fun w => (r2 w).sw (.inl rfl)⟩)
  kv_MOST_LETTERS := e.kv_MOST_LETTERS
  kc_MOST_LETTERS := e.kc_MOST_LETTERS
  kr_MOST_LETTERS := (by obtain ⟨y, r1, r2⟩ := e.kr_MOST_LETTERS; exact ⟨y, r1, fun w => (r2 w).sw (.inl rfl)⟩)
  kv_MOST_RUNS := e.kv_MOST_RUNS
  kc_MOST_RUNS := e.kc_MOST_RUNS
  kr_MOST_RUNS := (by obtain ⟨y, r1, r2⟩ := e.kr_MOST_RUNS; exact ⟨y, r1, fun w => (r2 w).sw (.inl rfl)⟩)
  iso := ⟨e.iso.1, e.iso.2, e.iso.3⟩
  tabs := e.tabs }
theorem Ev.kk {P : Program} {G : Gam} {mg : Str → Option Value} {base : Heap} (e : Ev P G mg base) : G.K = G.K := rfl
def T__law_bounds_right {P : Program} {G : Gam} {mg : Str → Option Value} {base : Heap} (e : Ev P G mg base) (L : Nat) : LamT := ⟨e.P__law_bounds_right, ((envOfC "_law_bounds_right" (defScope st__law_bounds_right) 0 0 .none).qual ++ "<lambda>"), (envOfC "_law_bounds_right" (defScope st__law_bounds_right) L 0 .none).cells, siteOf ["_law_bounds_right.0", "_law_bounds_right.1"] st__law_bounds_right⟩
def T_law {P : Program} {G : Gam} {mg : Str → Option Value} {base : Heap} (e : Ev P G mg base) (L : Nat) : LamT := ⟨e.P_law, ((envOfC "law" (defScope st_law) 0 0 .none).qual ++ "<lambda>"), (envOfC "law" (defScope st_law) L 0 .none).cells, siteOf ["law.0", "law.1", "law.2"] st_law⟩
section
variable {P : Program} {w0 : World} {G : Gam} {mg : Str → Option Value} {base : Heap}
theorem ok_merged (e : Ev P G mg base) : FnOk P w0 G.K mg base (L2.CX P w0) 1 e.a_merged e.fd_merged ["pairs"] (spG G 1 g_merged) :=
  fn_okD e.F_merged sc_merged rfl rfl fun cdv A outer s H E hr tk ps => pdss_cons (pds_setO (i := 1) sc_merged.nd rfl (.inl rfl) (pdo_lst (pda_nil)))
    (pdss_cons (pds_for ps rfl (pdi_seq rfl (pd_var (pv 0))) (pdg_tup rfl rfl (pdgs_cons (pdg_name (i := 2) sc_merged.nd rfl (.inl rfl)) (pdgs_cons (pdg_name (i := 3) sc_merged.nd rfl (.inl rfl)) (pdgs_nil)))) (pdss_one (pds_if ((pwd_and (ptd_truO e.kk (pv 1)) (pwd_and1 (ptd_cmp (opd_eq e.kk hr.units) (pd_ix e.kk (pd_ixO e.kk (pv 1) (pd_neg (pd_int)) (fun _ _ => rfl)) (pd_int) (fun _ _ => rfl)) (pd_var (pv 2)) (nomark _)))).pt) (pdss_one (pds_ixO (pv 1) (pd_neg (pd_int)) (pd_tup (pda_cons (pd_var (pv 2)) (pda_cons (pd_op (opd_addA e.kk) (pd_ix e.kk (pd_ixO e.kk (pv 1) (pd_neg (pd_int)) (fun _ _ => rfl)) (pd_int) (fun _ _ => rfl)) (pd_var (pv 3))) (pda_nil)))) (hcol := nx_neg (nx_c _)))) (pdss_one (pds_if (ptd_cmp (opd_gt) (pd_var (pv 3)) (pd_int) (nomark _)) (pdss_one (pds_append (pv 1) (pda_cons (pd_tup (pda_cons (pd_var (pv 2)) (pda_cons (pd_var (pv 3)) (pda_nil)))) (pda_nil)))) (pdss_nil))))))
    (pdss_one (pds_ret (pd_callTy (cd_tup rfl) (by rfl) e.z_tuple (by decide +kernel) (pda_cons (pd_var (pv 1)) (pda_nil))))))
theorem ok_is_list (e : Ev P G mg base) : FnOk P w0 G.K mg base (L2.CX P w0) 1 e.a_is_list e.fd_is_list ["value"] (spG G 1 g_is_list) :=
  fn_okD e.F_is_list sc_is_list rfl rfl fun cdv A outer s H E hr tk ps => pdss_one (pds_ret (pd_isT rfl e.iso (by rfl) e.z_isinstance (by decide +kernel) (pd_var (pv 0)) (pda_cons (pd_bltn (by rfl) e.z_list boot_list) (pda_cons (pd_bltn (by rfl) e.z_tuple boot_tuple) (pda_nil)))))
theorem ok_is_integer (e : Ev P G mg base) : FnOk P w0 G.K mg base (L2.CX P w0) 1 e.a_is_integer e.fd_is_integer ["value"] (spG G 1 g_is_integer) :=
  fn_okD e.F_is_integer sc_is_integer rfl rfl fun cdv A outer s H E hr tk ps => pdss_one (pds_ret (pd_andT e.kk (pd_callB (cd_isi rfl e.iso) (by rfl) e.z_isinstance (by decide +kernel) (pda_cons (pd_var (pv 0)) (pda_cons (pd_bltn (by rfl) e.z_int boot_int) (pda_nil)))) (pd_one (pd_notT e.kk (pd_callB (cd_isi rfl e.iso) (by rfl) e.z_isinstance (by decide +kernel) (pda_cons (pd_var (pv 0)) (pda_cons (pd_bltn (by rfl) e.z_bool boot_bool) (pda_nil))))))))
theorem ok_is_whole (e : Ev P G mg base) : FnOk P w0 G.K mg base (L2.CX P w0) 3 e.a_is_whole e.fd_is_whole ["value", "least"] (spG G 2 g_is_whole) :=
  fn_okD e.F_is_whole sc_is_whole rfl rfl fun cdv A outer s H E hr tk ps => pdss_one (pds_ret (pd_andT e.kk (pd_call (ok_is_integer e) (hr.mono (by decide)) (by rfl) e.m_is_integer e.F_is_integer.kp e.b_is_integer tk (pda_cons (pd_var (pv 0)) (pda_nil))) (pd_one (pd_cmp (opd_ge) (pd_var (pv 0)) (pd_var (pv 1)) (nomark _)))))
theorem ok_is_pair (e : Ev P G mg base) : FnOk P w0 G.K mg base (L2.CX P w0) 5 e.a_is_pair e.fd_is_pair ["value"] (spG G 1 g_is_pair) :=
  fn_okD e.F_is_pair sc_is_pair rfl rfl fun cdv A outer s H E hr tk ps => pdss_cons (pds_if ((pwd_or (ptd_not (ptd_truth e.kk (pd_call (ok_is_list e) (hr.mono (by decide)) (by rfl) e.m_is_list e.F_is_list.kp e.b_is_list tk (pda_cons (pd_var (pv 0)) (pda_nil))))) (pwd_or (ptd_cmp (opd_ne e.kk hr.units) (pd_callB (cd_len rfl) (by rfl) e.z_len (by decide +kernel) (pda_cons (pd_var (pv 0)) (pda_nil))) (pd_int) (nomark _)) (pwd_or1 (ptd_not (ptd_truth e.kk (pd_callB (cd_isi rfl e.iso) (by rfl) e.z_isinstance (by decide +kernel) (pda_cons (pd_ix e.kk (pd_var (pv 0)) (pd_int) (fun _ _ => rfl)) (pda_cons (pd_bltn (by rfl) e.z_str boot_str) (pda_nil))))))))).pt) (pdss_one (pds_ret (pd_bl))) (pdss_nil))
    (pdss_one (pds_ret (pd_andT e.kk (pd_cmp (opd_eq e.kk hr.units) (pd_callB (cd_len rfl) (by rfl) e.z_len (by decide +kernel) (pda_cons (pd_ix e.kk (pd_var (pv 0)) (pd_int) (fun _ _ => rfl)) (pda_nil))) (pd_int) (nomark _)) (pd_andT e.kk (pd_cmp (opd_in e.kk (room65 hr)) (pd_ix e.kk (pd_var (pv 0)) (pd_int) (fun _ _ => rfl)) (pd_const (by rfl) e.kc_LETTERS e.kr_LETTERS) (by rfl)) (pd_one (pd_call (ok_is_whole e) (hr.mono (by decide)) (by rfl) e.m_is_whole e.F_is_whole.kp e.b_is_whole tk (pda_cons (pd_ix e.kk (pd_var (pv 0)) (pd_int) (fun _ _ => rfl)) (pda_cons (pd_int) (pda_nil)))))))))
theorem ok_pairs_told (e : Ev P G mg base) : FnOk P w0 G.K mg base (L2.CX P w0) 7 e.a_pairs_told e.fd_pairs_told ["told"] (spG G 1 g_pairs_told) :=
  fn_okD e.F_pairs_told sc_pairs_told rfl rfl fun cdv A outer s H E hr tk ps => pdss_cons (pds_if ((pwd_and (ptd_truth e.kk (pd_callB (cd_isi rfl e.iso) (by rfl) e.z_isinstance (by decide +kernel) (pda_cons (pd_var (pv 0)) (pda_cons (pd_bltn (by rfl) e.z_str boot_str) (pda_nil))))) (pwd_and (ptd_cmp (opd_le) (pd_callB (cd_len rfl) (by rfl) e.z_len (by decide +kernel) (pda_cons (pd_var (pv 0)) (pda_nil))) (pd_const (by rfl) e.kc_MOST_LETTERS e.kr_MOST_LETTERS) (nomark _)) (pwd_and1 (ptd_truth e.kk (pd_callB (cd_all rfl) (by rfl) e.z_all (by decide +kernel) (pda_cons (pdo_frz (pdo_lc (own := [("letter", 1)]) rfl sc_pairs_told.nd (pdi_seq rfl (pd_var (pv 0))) (by exact blkOk_by (N := ["told", "letter", "pair"]) (sc := defScope st_pairs_told) (own := [("letter", 1)]) (by decide +kernel)) (by decide) (fun _ _ _ _ _ => pdg_name (i := 1) sc_pairs_told.nd rfl (.inl rfl)) (fun _ _ _ _ _ => ptds_nil) (fun _ _ _ _ _ => pd_cmp (opd_in e.kk (room65 hr)) (pd_var (pv 1)) (pd_const (by rfl) e.kc_LETTERS e.kr_LETTERS) (by rfl)))) (pda_nil))))))).pt) (pdss_one (pds_ret (pdo_frz (pdo_lc (own := [("letter", 1)]) rfl sc_pairs_told.nd (pdi_seq rfl (pd_var (pv 0))) (by exact blkOk_by (N := ["told", "letter", "pair"]) (sc := defScope st_pairs_told) (own := [("letter", 1)]) (by decide +kernel)) (by decide) (fun _ _ _ _ _ => pdg_name (i := 1) sc_pairs_told.nd rfl (.inl rfl)) (fun _ _ _ _ _ => ptds_nil) (fun _ _ _ _ _ => pd_tup (pda_cons (pd_var (pv 1)) (pda_cons (pd_int) (pda_nil)))))))) (pdss_nil))
    (pdss_cons (pds_if ((pwd_and (ptd_truth e.kk (pd_call (ok_is_list e) (hr.mono (by decide)) (by rfl) e.m_is_list e.F_is_list.kp e.b_is_list tk (pda_cons (pd_var (pv 0)) (pda_nil)))) (pwd_and (ptd_cmp (opd_le) (pd_callB (cd_len rfl) (by rfl) e.z_len (by decide +kernel) (pda_cons (pd_var (pv 0)) (pda_nil))) (pd_const (by rfl) e.kc_MOST_RUNS e.kr_MOST_RUNS) (nomark _)) (pwd_and1 (ptd_truth e.kk (pd_callB (cd_all rfl) (by rfl) e.z_all (by decide +kernel) (pda_cons (pdo_frz (pdo_lc (own := [("pair", 2)]) rfl sc_pairs_told.nd (pdi_seq rfl (pd_var (pv 0))) (by exact blkOk_by (N := ["told", "letter", "pair"]) (sc := defScope st_pairs_told) (own := [("pair", 2)]) (by decide +kernel)) (by decide) (fun _ _ _ _ _ => pdg_name (i := 2) sc_pairs_told.nd rfl (.inl rfl)) (fun _ _ _ _ _ => ptds_nil) (fun _ _ _ _ _ => pd_call (ok_is_pair e) (hr.mono (by decide)) (by rfl) e.m_is_pair e.F_is_pair.kp e.b_is_pair takes0 (pda_cons (pd_var (pv 2)) (pda_nil))))) (pda_nil))))))).pt) (pdss_one (pds_ret (pdo_frz (pdo_lc (own := [("pair", 2)]) rfl sc_pairs_told.nd (pdi_seq rfl (pd_var (pv 0))) (by exact blkOk_by (N := ["told", "letter", "pair"]) (sc := defScope st_pairs_told) (own := [("pair", 2)]) (by decide +kernel)) (by decide) (fun _ _ _ _ _ => pdg_name (i := 2) sc_pairs_told.nd rfl (.inl rfl)) (fun _ _ _ _ _ => ptds_nil) (fun _ _ _ _ _ => pd_tup (pda_cons (pd_ix e.kk (pd_var (pv 2)) (pd_int) (fun _ _ => rfl)) (pda_cons (pd_ix e.kk (pd_var (pv 2)) (pd_int) (fun _ _ => rfl)) (pda_nil)))))))) (pdss_nil))
    (pdss_one (pds_raise rfl tk e.X_BadWord.T e.X_BadWord.I s_0 e.X_BadWord.B (hr.mono (by decide)) (by rfl) e.m_BadWord (pda_cons (pd_var (pv 0)) (pda_nil)))))
theorem ok_WalkX_initX (e : Ev P G mg base) : FnOk P w0 G.K mg base (L2.CX P w0) 9 e.a_WalkX_initX e.fd_WalkX_initX ["self", "told"] (spI G "Walk" 1 g_WalkX_initX) :=
  in_okD e.F_WalkX_initX sc_WalkX_initX rfl rfl fun cdv A outer s H E hr tk ps => pdss_one (pds_fld rfl (pv 0) s_1 e.ct_Walk e.cl_Walk (e.na_Walk_runs) (pd_call (ok_merged e) (hr.mono (by decide)) (by rfl) e.m_merged e.F_merged.kp e.b_merged tk (pda_cons (pd_call (ok_pairs_told e) (hr.mono (by decide)) (by rfl) e.m_pairs_told e.F_pairs_told.kp e.b_pairs_told tk (pda_cons (pd_var (pv 1)) (pda_nil))) (pda_nil))))
theorem ok_Walk_length (e : Ev P G mg base) : FnOk P w0 G.K mg base (L2.CX P w0) 1 e.a_Walk_length e.fd_Walk_length ["self"] (spG G 1 g_Walk_length) :=
  fn_okD e.F_Walk_length sc_Walk_length rfl rfl fun cdv A outer s H E hr tk ps => pdss_one (pds_ret (pd_callB (cd_sum rfl) (by rfl) e.z_sum (by decide +kernel) (pda_cons (pdo_frz (pdo_lc (own := [("letter", 1), ("times", 2)]) rfl sc_Walk_length.nd (pdi_seq rfl (pd_fld rfl s_1 e.f_runs (pd_var (pv 0)))) (by exact blkOk_by (N := ["self", "letter", "times"]) (sc := defScope st_Walk_length) (own := [("letter", 1), ("times", 2)]) (by decide +kernel)) (by decide) (fun _ _ _ _ _ => pdg_tup rfl rfl (pdgs_cons (pdg_name (i := 1) sc_Walk_length.nd rfl (.inl rfl)) (pdgs_cons (pdg_name (i := 2) sc_Walk_length.nd rfl (.inl rfl)) (pdgs_nil)))) (fun _ _ _ _ _ => ptds_nil) (fun _ _ _ _ _ => pd_var (pv 2)))) (pda_nil))))
theorem ok_Walk_repeated (e : Ev P G mg base) : FnOk P w0 G.K mg base (L2.CX P w0) 11 e.a_Walk_repeated e.fd_Walk_repeated ["self", "number"] (spG G 2 g_Walk_repeated) :=
  fn_okD e.F_Walk_repeated sc_Walk_repeated rfl rfl fun cdv A outer s H E hr tk ps => pdss_cons (pds_if (ptd_not (ptd_truth e.kk (pd_call (ok_is_whole e) (hr.mono (by decide)) (by rfl) e.m_is_whole e.F_is_whole.kp e.b_is_whole tk (pda_cons (pd_var (pv 1)) (pda_cons (pd_int) (pda_nil)))))) (pdss_one (pds_raise rfl tk e.X_BadNumber.T e.X_BadNumber.I s_0 e.X_BadNumber.B (hr.mono (by decide)) (by rfl) e.m_BadNumber (pda_cons (pd_var (pv 1)) (pda_nil)))) (pdss_nil))
    (pdss_cons (pds_if ((pwd_or (ptd_cmp (opd_eq e.kk hr.units) (pd_var (pv 1)) (pd_int) (nomark _)) (pwd_or1 (ptd_not (ptd_truth e.kk (pd_fld rfl s_1 e.f_runs (pd_var (pv 0))))))).pt) (pdss_one (pds_ret (pd_make e.mk_Walk e.ct_Walk (ok_WalkX_initX e) (hr.mono (by decide)) (by rfl) e.m_Walk e.b_WalkX_initX tk (pda_cons (pdo_frz (pdo_lst (pda_nil))) (pda_nil))))) (pdss_nil))
    (pdss_cons (pds_if (ptd_cmp (opd_eq e.kk hr.units) (pd_callB (cd_len rfl) (by rfl) e.z_len (by decide +kernel) (pda_cons (pd_fld rfl s_1 e.f_runs (pd_var (pv 0))) (pda_nil))) (pd_int) (nomark _)) (pdss_one (pds_ret (pd_make e.mk_Walk e.ct_Walk (ok_WalkX_initX e) (hr.mono (by decide)) (by rfl) e.m_Walk e.b_WalkX_initX tk (pda_cons (pdo_frz (pdo_lst (pda_cons (pd_tup (pda_cons (pd_ix e.kk (pd_ix e.kk (pd_fld rfl s_1 e.f_runs (pd_var (pv 0))) (pd_int) (fun _ _ => rfl)) (pd_int) (fun _ _ => rfl)) (pda_cons (pd_op (opd_mulA) (pd_ix e.kk (pd_ix e.kk (pd_fld rfl s_1 e.f_runs (pd_var (pv 0))) (pd_int) (fun _ _ => rfl)) (pd_int) (fun _ _ => rfl)) (pd_var (pv 1))) (pda_nil)))) (pda_nil)))) (pda_nil))))) (pdss_nil))
    (pdss_cons (pds_set (i := 2) sc_Walk_repeated.nd rfl (.inl rfl) (pd_ifExp (ptd_cmp (opd_eq e.kk hr.units) (pd_ix e.kk (pd_ix e.kk (pd_fld rfl s_1 e.f_runs (pd_var (pv 0))) (pd_int) (fun _ _ => rfl)) (pd_int) (fun _ _ => rfl)) (pd_ix e.kk (pd_ix e.kk (pd_fld rfl s_1 e.f_runs (pd_var (pv 0))) (pd_neg (pd_int)) (fun _ _ => rfl)) (pd_int) (fun _ _ => rfl)) (nomark _)) (pd_op (opd_sub) (pd_var (pv 1)) (pd_int)) (pd_int)))
    (pdss_cons (pds_if (ptd_cmp (opd_gt) (pd_op (opd_sub) (pd_op (opd_mulA) (pd_callB (cd_len rfl) (by rfl) e.z_len (by decide +kernel) (pda_cons (pd_fld rfl s_1 e.f_runs (pd_var (pv 0))) (pda_nil))) (pd_var (pv 1))) (pd_var (pv 2))) (pd_const (by rfl) e.kc_MOST_RUNS e.kr_MOST_RUNS) (nomark _)) (pdss_one (pds_raise rfl tk e.X_TooMany.T e.X_TooMany.I s_2 e.X_TooMany.B (hr.mono (by decide)) (by rfl) e.m_TooMany (pda_cons (pd_const (by rfl) e.kc_MOST_RUNS e.kr_MOST_RUNS) (pda_nil)))) (pdss_nil))
    (pdss_one (pds_ret (pd_make e.mk_Walk e.ct_Walk (ok_WalkX_initX e) (hr.mono (by decide)) (by rfl) e.m_Walk e.b_WalkX_initX tk (pda_cons (pd_call (ok_merged e) (hr.mono (by decide)) (by rfl) e.m_merged e.F_merged.kp e.b_merged tk (pda_cons (pd_op (opd_tmul e.kk) (pd_fld rfl s_1 e.f_runs (pd_var (pv 0))) (pd_var (pv 1))) (pda_nil))) (pda_nil)))))))))
theorem ok__law_draw (e : Ev P G mg base) : FnOk P w0 G.K mg base (L2.CX P w0) 1 e.a__law_draw e.fd__law_draw ["_law_pen_here", "_law_span"] (spG G 2 g__law_draw) :=
  fn_okD e.F__law_draw sc__law_draw rfl rfl fun cdv A outer s H E hr tk ps => pdss_cons (pds_if (ptd_cmp (opd_ge) (pd_dget (hu_of hr) (pd_var (pv 0)) (pd_str s_3) (fun _ _ => rfl)) (pd_var (pv 1)) (nomark _)) (pdss_cons (pds_set (i := 2) sc__law_draw.nd rfl (.inl rfl) (pd_op (opd_mod) (pd_callTy cd_int (by rfl) e.z_int (by decide +kernel) (pda_cons (pd_dget (hu_of hr) (pd_var (pv 0)) (pd_str s_3) (fun _ _ => rfl)) (pda_nil))) (pd_var (pv 1))))
    (pdss_cons (pds_dputC (hu_of hr) (pd_var (pv 0)) (pd_str s_3) (pd_op (opd_div) (pd_dget (hu_of hr) (pd_var (pv 0)) (pd_str s_3) (fun _ _ => rfl)) (pd_var (pv 1))))
    (pdss_one (pds_ret (pd_var (pv 2)))))) (pdss_nil))
    (pdss_cons (pds_set (i := 3) sc__law_draw.nd rfl (.inl rfl) (pd_dget (hu_of hr) (pd_var (pv 0)) (pd_str s_4) (fun _ _ => rfl)))
    (pdss_cons (pds_dputC (hu_of hr) (pd_var (pv 0)) (pd_str s_4) (pd_op (opd_addA e.kk) (pd_var (pv 3)) (pd_int)))
    (pdss_cons (pds_set (i := 4) sc__law_draw.nd rfl (.inl rfl) (pd_op (opd_addA e.kk) (pd_op (opd_mulA) (pd_int) (pd_var (pv 3))) (pd_int)))
    (pdss_cons (pds_if (ptd_cmp (opd_ne e.kk hr.units) (pd_dget (hu_of hr) (pd_var (pv 0)) (pd_str s_5) (fun _ _ => rfl)) (pdo_frz (pdo_lst (pda_nil))) (nomark _)) (pdss_one (pds_set (i := 4) sc__law_draw.nd rfl (.inl rfl) (pd_ix e.kk (pd_dget (hu_of hr) (pd_var (pv 0)) (pd_str s_5) (fun _ _ => rfl)) (pd_op (opd_mod) (pd_callTy cd_int (by rfl) e.z_int (by decide +kernel) (pda_cons (pd_var (pv 3)) (pda_nil))) (pd_callB (cd_len rfl) (by rfl) e.z_len (by decide +kernel) (pda_cons (pd_dget (hu_of hr) (pd_var (pv 0)) (pd_str s_5) (fun _ _ => rfl)) (pda_nil)))) (fun _ _ => rfl)))) (pdss_nil))
    (pdss_cons (pds_if ((pwd_and (ptd_cmp (opd_lt) (pd_var (pv 3)) (pd_callB (cd_len rfl) (by rfl) e.z_len (by decide +kernel) (pda_cons (pd_dget (hu_of hr) (pd_var (pv 0)) (pd_str s_5) (fun _ _ => rfl)) (pda_nil))) (nomark _)) (pwd_and1 (ptd_cmp (opd_ge) (pd_var (pv 4)) (pd_op (opd_pow) (pd_int) (pd_int)) (nomark _)))).pt) (pdss_cons (pds_dputC (hu_of hr) (pd_var (pv 0)) (pd_str s_3) (pd_op (opd_div) (pd_op (opd_sub) (pd_var (pv 4)) (pd_op (opd_pow) (pd_int) (pd_int))) (pd_var (pv 1))))
    (pdss_one (pds_ret (pd_op (opd_mod) (pd_callTy cd_int (by rfl) e.z_int (by decide +kernel) (pda_cons (pd_op (opd_sub) (pd_var (pv 4)) (pd_op (opd_pow) (pd_int) (pd_int))) (pda_nil))) (pd_var (pv 1)))))) (pdss_nil))
    (pdss_cons (pds_set (i := 5) sc__law_draw.nd rfl (.inl rfl) (pd_op (opd_addA e.kk) (pd_op (opd_mulA) (pd_op (opd_mod) (pd_callTy cd_int (by rfl) e.z_int (by decide +kernel) (pda_cons (pd_var (pv 4)) (pda_nil))) (pd_int)) (pd_int)) (pd_op (opd_mulA) (pd_op (opd_mulA) (pd_int) (pd_var (pv 3))) (pd_var (pv 3)))))
    (pdss_cons (pds_set (i := 5) sc__law_draw.nd rfl (.inl rfl) (pd_op (opd_mod) (pd_callTy cd_int (by rfl) e.z_int (by decide +kernel) (pda_cons (pd_op (opd_addA e.kk) (pd_op (opd_addA e.kk) (pd_var (pv 5)) (pd_op (opd_mulA) (pd_int) (pd_var (pv 3)))) (pd_int)) (pda_nil))) (pd_int)))
    (pdss_cons (pds_set (i := 5) sc__law_draw.nd rfl (.inl rfl) (pd_op (opd_mod) (pd_callTy cd_int (by rfl) e.z_int (by decide +kernel) (pda_cons (pd_op (opd_addA e.kk) (pd_op (opd_mulA) (pd_var (pv 5)) (pd_op (opd_addA e.kk) (pd_var (pv 5)) (pd_int))) (pd_op (opd_mulA) (pd_int) (pd_var (pv 3)))) (pda_nil))) (pd_int)))
    (pdss_one (pds_ret (pd_op (opd_mod) (pd_callTy cd_int (by rfl) e.z_int (by decide +kernel) (pda_cons (pd_op (opd_div) (pd_op (opd_mod) (pd_callTy cd_int (by rfl) e.z_int (by decide +kernel) (pda_cons (pd_op (opd_addA e.kk) (pd_op (opd_mulA) (pd_var (pv 5)) (pd_var (pv 5))) (pd_op (opd_mulA) (pd_int) (pd_var (pv 5)))) (pda_nil))) (pd_int)) (pd_int)) (pda_nil))) (pd_var (pv 1)))))))))))))
theorem ok__law_great (e : Ev P G mg base) : FnOk P w0 G.K mg base (L2.CX P w0) 3 e.a__law_great e.fd__law_great ["_law_pen_here", "_law_figures"] (spG G 2 g__law_great) :=
  fn_okD e.F__law_great sc__law_great rfl rfl fun cdv A outer s H E hr tk ps => pdss_cons (pds_set (i := 2) sc__law_great.nd rfl (.inl rfl) (pd_int))
    (pdss_cons (pds_for ps rfl (pdi_range1 (by rfl) e.z_range (pda_cons (pd_op (opd_addA e.kk) (pd_int) (pd_call (ok__law_draw e) (hr.mono (by decide)) (by rfl) e.m__law_draw e.F__law_draw.kp e.b__law_draw tk (pda_cons (pd_var (pv 0)) (pda_cons (pd_op (opd_div) (pd_var (pv 1)) (pd_int)) (pda_nil))))) (pda_nil))) (pdg_name (i := 3) sc__law_great.nd rfl (.inl rfl)) (pdss_one (pds_set (i := 2) sc__law_great.nd rfl (.inl rfl) (pd_op (opd_addA e.kk) (pd_op (opd_mulA) (pd_var (pv 2)) (pd_op (opd_pow) (pd_int) (pd_int))) (pd_call (ok__law_draw e) (hr.mono (by decide)) (by rfl) e.m__law_draw e.F__law_draw.kp e.b__law_draw tk (pda_cons (pd_var (pv 0)) (pda_cons (pd_op (opd_pow) (pd_int) (pd_int)) (pda_nil))))))))
    (pdss_one (pds_ret (pd_var (pv 2)))))
theorem bl__law_refused (e : Ev P G mg base) : BodyL G P w0 mg base 0 ["_law_deed", "e"] "_law_refused" st__law_refused e.a__law_refused "_law_deed" 0 b__law_refused :=
  fun Λ cdv A outer s H E hr tk ps act => pdss_one (pds_tryB (hs := [⟨.ref e.C_BadNumber, some 1, hmT ["BadNumber"] ["BadWord", "TooMany"], fun x => sRet (eTup (aCons (eC (.str [110, 117, 109, 98, 101, 114])) (aCons (eXf "BadNumber" [118, 97, 108, 117, 101] x) (aNil))))⟩, ⟨.ref e.C_TooMany, some 1, hmT ["TooMany"] ["BadNumber", "BadWord"], fun x => sRet (eTup (aCons (eC (.str [109, 97, 110, 121])) (aCons (eXf "TooMany" [109, 111, 115, 116] x) (aNil))))⟩]) rfl rfl sc__law_refused.nd tk (fun Wi pn xe tk ps => pdss_one (pds_expr (act _ _ _ _ _ tk))) (fun h hh => by
        simp only [List.mem_cons, List.not_mem_nil, or_false] at hh
        rcases hh with rfl | rfl
        · exact mok_of (fun k hk C hC => by simp only [List.mem_cons, List.not_mem_nil, or_false] at hk; subst hk; rw [e.ct_BadNumber] at hC; cases hC; exact e.xm_BadNumber_BadNumber) (fun k hk C hC => by simp only [List.mem_cons, List.not_mem_nil, or_false] at hk; rcases hk with rfl | rfl <;> (first | (rw [e.ct_BadWord] at hC; cases hC; exact e.xm_BadWord_BadNumber) | (rw [e.ct_TooMany] at hC; cases hC; exact e.xm_TooMany_BadNumber)))
        · exact mok_of (fun k hk C hC => by simp only [List.mem_cons, List.not_mem_nil, or_false] at hk; subst hk; rw [e.ct_TooMany] at hC; cases hC; exact e.xm_TooMany_TooMany) (fun k hk C hC => by simp only [List.mem_cons, List.not_mem_nil, or_false] at hk; rcases hk with rfl | rfl <;> (first | (rw [e.ct_BadNumber] at hC; cases hC; exact e.xm_BadNumber_TooMany) | (rw [e.ct_BadWord] at hC; cases hC; exact e.xm_BadWord_TooMany)))) (HdA.as_ (i := 1) (⟨by rfl, by decide, .inl e.m_BadNumber⟩) rfl rfl (su_one fun a ob cl dd pn x hz hfs => pxs_ret (pxd_tup (pxa_cons (pxd_lift (pd_str s_6)) (pxa_cons (pxd_fld (i := 1) rfl e.ct_BadNumber e.X_BadNumber.F e.X_BadNumber.I.no s_0 hz hfs (pv 1)) (pxa_nil))))) (HdA.as_ (i := 1) (⟨by rfl, by decide, .inl e.m_TooMany⟩) rfl rfl (su_one fun a ob cl dd pn x hz hfs => pxs_ret (pxd_tup (pxa_cons (pxd_lift (pd_str s_7)) (pxa_cons (pxd_fld (i := 1) rfl e.ct_TooMany e.X_TooMany.F e.X_TooMany.I.no s_2 hz hfs (pv 1)) (pxa_nil))))) (HdA.nil))))
theorem ok__law_bounds_right (e0 : Ev P G mg base) : FnOk P w0 G.K mg base (L2.CX P w0) 15 e0.a__law_bounds_right e0.fd__law_bounds_right ["_law_pen_here"] (spG G 1 g__law_bounds_right) :=
  fn_okDL e0.F__law_bounds_right sc__law_bounds_right rfl rfl (T__law_bounds_right e0) fun cdv hcd A outer s H E hr tk ps => let e := e0.sw _ _; pdss_cons (pds_if ((pwd_or (ptd_cmp (opd_ne e.kk hr.units) (pd_prop e.ct_Walk e.cl_Walk e.M_Walk_length (ok_Walk_length e) (hr.mono (by decide)) e.b_Walk_length (pd_meth rfl (pd_make e.mk_Walk e.ct_Walk (ok_WalkX_initX e) (hr.mono (by decide)) (by rfl) e.m_Walk e.b_WalkX_initX tk (pda_cons (pd_str s_8) (pda_nil))) e.ct_Walk e.cl_Walk s_9 e.M_Walk_repeated (ok_Walk_repeated e) (hr.mono (by decide)) e.b_Walk_repeated tk (pda_cons (pd_int) (pda_nil)))) (pd_int) (nomark _)) (pwd_or1 (ptd_cmp (opd_ne e.kk hr.units) (pd_callB (cd_len rfl) (by rfl) e.z_len (by decide +kernel) (pda_cons (pd_fld rfl s_1 e.f_runs (pd_meth rfl (pd_make e.mk_Walk e.ct_Walk (ok_WalkX_initX e) (hr.mono (by decide)) (by rfl) e.m_Walk e.b_WalkX_initX tk (pda_cons (pd_str s_10) (pda_nil))) e.ct_Walk e.cl_Walk s_9 e.M_Walk_repeated (ok_Walk_repeated e) (hr.mono (by decide)) e.b_Walk_repeated tk (pda_cons (pd_int) (pda_nil)))) (pda_nil))) (pd_int) (nomark _)))).pt) (pdss_one (pds_ret (pd_bl))) (pdss_nil))
    (pdss_cons (pds_if (ptd_cmp (opd_ne e.kk hr.units) (pd_callL (k := 12) (T := T__law_bounds_right e0 s.heap.objs.size) (body := b__law_refused) rfl e.F__law_refused sc__law_refused rfl rfl (fun _ _ _ z => z) rfl rfl (lamsOk_cons (n0 := "_law_bounds_right.0") rfl ⟨by exact LamX.lamS_by (sc := defScope st__law_bounds_right) (by decide +kernel), fun _ _ _ _ _ => rfl, fun A outer s H E f c' hr tk => pd_meth rfl (pd_make e.mk_Walk e.ct_Walk (ok_WalkX_initX e) (hr.mono (by decide)) (by rfl) e.m_Walk e.b_WalkX_initX tk (pda_cons (pd_str s_8) (pda_nil))) e.ct_Walk e.cl_Walk s_9 e.M_Walk_repeated (ok_Walk_repeated e) (hr.mono (by decide)) e.b_Walk_repeated tk (pda_cons (pd_int) (pda_nil))⟩ (lamsOk_cons (n0 := "_law_bounds_right.1") rfl ⟨by exact LamX.lamS_by (sc := defScope st__law_bounds_right) (by decide +kernel), fun _ _ _ _ _ => rfl, fun A outer s H E f c' hr tk => pd_meth rfl (pd_make e.mk_Walk e.ct_Walk (ok_WalkX_initX e) (hr.mono (by decide)) (by rfl) e.m_Walk e.b_WalkX_initX tk (pda_cons (pd_str s_10) (pda_nil))) e.ct_Walk e.cl_Walk s_9 e.M_Walk_repeated (ok_Walk_repeated e) (hr.mono (by decide)) e.b_Walk_repeated tk (pda_cons (pd_op (opd_addA e.kk) (pd_int) (pd_var (pv 1))) (pda_nil))⟩ (lamsOk_nil))) (fun w => (bl__law_refused (e.sw _ _)).mono (by decide)) (i := 0) rfl (.inl rfl) (hr.mono (by decide)) (by rfl) e.m__law_refused e.b__law_refused tk (pda_cons (pd_lam (T := T__law_bounds_right e0 s.heap.objs.size) (glam_of e.tabs rfl (fun _ _ _ => Iff.rfl)) e.tb__law_bounds_right (hcd.symm.trans e.cd__law_bounds_right) rfl rfl rfl (by exact LamX.lamS_by (sc := defScope st__law_bounds_right) (by decide +kernel)) rfl) (pda_nil))) (pd_tup (pda_cons (pd_str s_7) (pda_cons (pd_int) (pda_nil)))) (nomark _)) (pdss_one (pds_ret (pd_bl))) (pdss_nil))
    (pdss_cons (pds_set (i := 1) sc__law_bounds_right.nd rfl (.inr rfl) (pd_call (ok__law_great e) (hr.mono (by decide)) (by rfl) e.m__law_great e.F__law_great.kp e.b__law_great tk (pda_cons (pd_var (pv 0)) (pda_cons (pd_int) (pda_nil)))))
    (pdss_one (pds_ret (pd_cmp (opd_eq e.kk hr.units) (pd_callL (k := 12) (T := T__law_bounds_right e0 s.heap.objs.size) (body := b__law_refused) rfl e.F__law_refused sc__law_refused rfl rfl (fun _ _ _ z => z) rfl rfl (lamsOk_cons (n0 := "_law_bounds_right.0") rfl ⟨by exact LamX.lamS_by (sc := defScope st__law_bounds_right) (by decide +kernel), fun _ _ _ _ _ => rfl, fun A outer s H E f c' hr tk => pd_meth rfl (pd_make e.mk_Walk e.ct_Walk (ok_WalkX_initX e) (hr.mono (by decide)) (by rfl) e.m_Walk e.b_WalkX_initX tk (pda_cons (pd_str s_8) (pda_nil))) e.ct_Walk e.cl_Walk s_9 e.M_Walk_repeated (ok_Walk_repeated e) (hr.mono (by decide)) e.b_Walk_repeated tk (pda_cons (pd_int) (pda_nil))⟩ (lamsOk_cons (n0 := "_law_bounds_right.1") rfl ⟨by exact LamX.lamS_by (sc := defScope st__law_bounds_right) (by decide +kernel), fun _ _ _ _ _ => rfl, fun A outer s H E f c' hr tk => pd_meth rfl (pd_make e.mk_Walk e.ct_Walk (ok_WalkX_initX e) (hr.mono (by decide)) (by rfl) e.m_Walk e.b_WalkX_initX tk (pda_cons (pd_str s_10) (pda_nil))) e.ct_Walk e.cl_Walk s_9 e.M_Walk_repeated (ok_Walk_repeated e) (hr.mono (by decide)) e.b_Walk_repeated tk (pda_cons (pd_op (opd_addA e.kk) (pd_int) (pd_var (pv 1))) (pda_nil))⟩ (lamsOk_nil))) (fun w => (bl__law_refused (e.sw _ _)).mono (by decide)) (i := 0) rfl (.inl rfl) (hr.mono (by decide)) (by rfl) e.m__law_refused e.b__law_refused tk (pda_cons (pd_lam (T := T__law_bounds_right e0 s.heap.objs.size) (glam_of e.tabs rfl (fun _ _ _ => Iff.rfl)) e.tb__law_bounds_right (hcd.symm.trans e.cd__law_bounds_right) rfl rfl rfl (by exact LamX.lamS_by (sc := defScope st__law_bounds_right) (by decide +kernel)) rfl) (pda_nil))) (pd_tup (pda_cons (pd_str s_7) (pda_cons (pd_int) (pda_nil)))) (nomark _))))))
theorem ok__law_pick (e : Ev P G mg base) : FnOk P w0 G.K mg base (L2.CX P w0) 3 e.a__law_pick e.fd__law_pick ["_law_pen_here", "_law_items"] (spG G 2 g__law_pick) :=
  fn_okD e.F__law_pick sc__law_pick rfl rfl fun cdv A outer s H E hr tk ps => pdss_one (pds_ret (pd_ix e.kk (pd_var (pv 1)) (pd_call (ok__law_draw e) (hr.mono (by decide)) (by rfl) e.m__law_draw e.F__law_draw.kp e.b__law_draw tk (pda_cons (pd_var (pv 0)) (pda_cons (pd_callB (cd_len rfl) (by rfl) e.z_len (by decide +kernel) (pda_cons (pd_var (pv 1)) (pda_nil))) (pda_nil)))) (fun _ _ => rfl)))
theorem ok__law_pairs (e : Ev P G mg base) : FnOk P w0 G.K mg base (L2.CX P w0) 5 e.a__law_pairs e.fd__law_pairs ["_law_pen_here", "_law_most_pairs", "_law_figures"] (spG G 3 g__law_pairs) :=
  fn_okD e.F__law_pairs sc__law_pairs rfl rfl fun cdv A outer s H E hr tk ps => pdss_cons (pds_setO (i := 3) sc__law_pairs.nd rfl (.inl rfl) (pdo_lst (pda_nil)))
    (pdss_cons (pds_for ps rfl (pdi_range1 (by rfl) e.z_range (pda_cons (pd_call (ok__law_draw e) (hr.mono (by decide)) (by rfl) e.m__law_draw e.F__law_draw.kp e.b__law_draw tk (pda_cons (pd_var (pv 0)) (pda_cons (pd_op (opd_addA e.kk) (pd_var (pv 1)) (pd_int)) (pda_nil)))) (pda_nil))) (pdg_name (i := 4) sc__law_pairs.nd rfl (.inl rfl)) (pdss_cons (pds_set (i := 5) sc__law_pairs.nd rfl (.inl rfl) (pd_call (ok__law_pick e) (hr.mono (by decide)) (by rfl) e.m__law_pick e.F__law_pick.kp e.b__law_pick tk (pda_cons (pd_var (pv 0)) (pda_cons (pdo_frz (pdo_lst (pda_cons (pd_int) (pda_cons (pd_int) (pda_cons (pd_int) (pda_cons (pd_int) (pda_cons (pd_int) (pda_cons (pd_call (ok__law_draw e) (hr.mono (by decide)) (by rfl) e.m__law_draw e.F__law_draw.kp e.b__law_draw tk (pda_cons (pd_var (pv 0)) (pda_cons (pd_int) (pda_nil)))) (pda_nil))))))))) (pda_nil)))))
    (pdss_cons (pds_if ((pwd_and (ptd_cmp (opd_gt) (pd_var (pv 2)) (pd_int) (nomark _)) (pwd_and1 (ptd_cmp (opd_eq e.kk hr.units) (pd_call (ok__law_draw e) (hr.mono (by decide)) (by rfl) e.m__law_draw e.F__law_draw.kp e.b__law_draw tk (pda_cons (pd_var (pv 0)) (pda_cons (pd_int) (pda_nil)))) (pd_int) (nomark _)))).pt) (pdss_one (pds_set (i := 5) sc__law_pairs.nd rfl (.inl rfl) (pd_call (ok__law_great e) (hr.mono (by decide)) (by rfl) e.m__law_great e.F__law_great.kp e.b__law_great tk (pda_cons (pd_var (pv 0)) (pda_cons (pd_var (pv 2)) (pda_nil)))))) (pdss_nil))
    (pdss_one (pds_append (pv 3) (pda_cons (pd_tup (pda_cons (pd_call (ok__law_pick e) (hr.mono (by decide)) (by rfl) e.m__law_pick e.F__law_pick.kp e.b__law_pick tk (pda_cons (pd_var (pv 0)) (pda_cons (pd_str s_11) (pda_nil)))) (pda_cons (pd_var (pv 5)) (pda_nil)))) (pda_nil)))))))
    (pdss_one (pds_ret (pd_var (pv 3)))))
theorem ok__law_pen (e : Ev P G mg base) : FnOk P w0 G.K mg base (L2.CX P w0) 1 e.a__law_pen e.fd__law_pen ["_law_script"] (spG G 1 g__law_pen) :=
  fn_okD e.F__law_pen sc__law_pen rfl rfl fun cdv A outer s H E hr tk ps => pdss_one (pds_ret (pdod_cell (pdod_disp (fs := [(eC (.str [99, 101, 108, 108, 115]), eFrz (aList (aCons (eSlA (eVar 0) (oNone) (oSome (eC (.int 63)))) (aNil)))), (eC (.str [97, 116]), eC (.int 0)), (eC (.str [108, 101, 102, 116]), eC (.int 0))]) (pps_cons (pd_str s_5) (pdo_frz (pdo_list rfl (by rfl) e.z_list boot_list (pda_cons (pd_slA rfl (pd_var (pv 0)) (pdo_none) (pdo_some (pd_int))) (pda_nil)))) (pps_cons (pd_str s_4) (pd_int) (pps_cons (pd_str s_3) (pd_int) (pps_nil)))) (by rfl) (by rfl) (fun z => by cases z) (by decide))))
theorem ok_PlaceX_eqX (e : Ev P G mg base) : FnOk P w0 G.K mg base (L2.CX P w0) 1 e.a_PlaceX_eqX e.fd_PlaceX_eqX ["self", "other"] (spG G 2 g_PlaceX_eqX) :=
  fn_okD e.F_PlaceX_eqX sc_PlaceX_eqX rfl rfl fun cdv A outer s H E hr tk ps => pdss_cons (pds_if (ptd_not (ptd_truth e.kk (pd_callB (cd_isi rfl e.iso) (by rfl) e.z_isinstance (by decide +kernel) (pda_cons (pd_var (pv 1)) (pda_cons (pd_cls (by rfl) e.m_Place e.ct_Place) (pda_nil)))))) (pdss_one (pds_ret (pd_bl))) (pdss_nil))
    (pdss_one (pds_ret (pd_cmp (opd_eq e.kk hr.units) (pd_tup (pda_cons (pd_fld rfl s_14 e.f_x (pd_var (pv 0))) (pda_cons (pd_fld rfl s_13 e.f_y (pd_var (pv 0))) (pda_cons (pd_fld rfl s_12 e.f_area (pd_var (pv 0))) (pda_nil))))) (pd_tup (pda_cons (pd_fld rfl s_14 e.f_x (pd_var (pv 1))) (pda_cons (pd_fld rfl s_13 e.f_y (pd_var (pv 1))) (pda_cons (pd_fld rfl s_12 e.f_area (pd_var (pv 1))) (pda_nil))))) (nomark _))))
theorem ok_PlaceX_initX (e : Ev P G mg base) : FnOk P w0 G.K mg base (L2.CX P w0) 3 e.a_PlaceX_initX e.fd_PlaceX_initX ["self", "x", "y", "area"] (spI G "Place" 3 g_PlaceX_initX) :=
  in_okD e.F_PlaceX_initX sc_PlaceX_initX rfl rfl fun cdv A outer s H E hr tk ps => pdss_cons (pds_for ps rfl (pdi_seq rfl (pd_tup (pda_cons (pd_var (pv 1)) (pda_cons (pd_var (pv 2)) (pda_cons (pd_var (pv 3)) (pda_nil)))))) (pdg_name (i := 4) sc_PlaceX_initX.nd rfl (.inl rfl)) (pdss_one (pds_if (ptd_not (ptd_truth e.kk (pd_call (ok_is_integer e) (hr.mono (by decide)) (by rfl) e.m_is_integer e.F_is_integer.kp e.b_is_integer tk (pda_cons (pd_var (pv 4)) (pda_nil))))) (pdss_one (pds_raise rfl tk e.X_BadNumber.T e.X_BadNumber.I s_0 e.X_BadNumber.B (hr.mono (by decide)) (by rfl) e.m_BadNumber (pda_cons (pd_var (pv 4)) (pda_nil)))) (pdss_nil))))
    (pdss_cons (pds_fld rfl (pv 0) s_14 e.ct_Place e.cl_Place (e.na_Place_x) (pd_var (pv 1)))
    (pdss_cons (pds_fld rfl (pv 0) s_13 e.ct_Place e.cl_Place (e.na_Place_y) (pd_var (pv 2)))
    (pdss_one (pds_fld rfl (pv 0) s_12 e.ct_Place e.cl_Place (e.na_Place_area) (pd_var (pv 3))))))
theorem ok_pairs_below (e : Ev P G mg base) : FnOk P w0 G.K mg base (L2.CX P w0) 1 e.a_pairs_below e.fd_pairs_below ["number"] (spG G 1 g_pairs_below) :=
  fn_okD e.F_pairs_below sc_pairs_below rfl rfl fun cdv A outer s H E hr tk ps => pdss_one (pds_ret (pd_op (opd_div) (pd_op (opd_mulA) (pd_var (pv 0)) (pd_op (opd_sub) (pd_var (pv 0)) (pd_int))) (pd_int)))
theorem ok_Place_power (e : Ev P G mg base) : FnOk P w0 G.K mg base (L2.CX P w0) 5 e.a_Place_power e.fd_Place_power ["self", "number"] (spG G 2 g_Place_power) :=
  fn_okD e.F_Place_power sc_Place_power rfl rfl fun cdv A outer s H E hr tk ps => pdss_cons (pds_if (ptd_not (ptd_truth e.kk (pd_call (ok_is_integer e) (hr.mono (by decide)) (by rfl) e.m_is_integer e.F_is_integer.kp e.b_is_integer tk (pda_cons (pd_var (pv 1)) (pda_nil))))) (pdss_one (pds_raise rfl tk e.X_BadNumber.T e.X_BadNumber.I s_0 e.X_BadNumber.B (hr.mono (by decide)) (by rfl) e.m_BadNumber (pda_cons (pd_var (pv 1)) (pda_nil)))) (pdss_nil))
    (pdss_one (pds_ret (pd_make e.mk_Place e.ct_Place (ok_PlaceX_initX e) (hr.mono (by decide)) (by rfl) e.m_Place e.b_PlaceX_initX tk (pda_cons (pd_op (opd_mulA) (pd_var (pv 1)) (pd_fld rfl s_14 e.f_x (pd_var (pv 0)))) (pda_cons (pd_op (opd_mulA) (pd_var (pv 1)) (pd_fld rfl s_13 e.f_y (pd_var (pv 0)))) (pda_cons (pd_op (opd_addA e.kk) (pd_op (opd_mulA) (pd_var (pv 1)) (pd_fld rfl s_12 e.f_area (pd_var (pv 0)))) (pd_op (opd_mulA) (pd_op (opd_mulA) (pd_call (ok_pairs_below e) (hr.mono (by decide)) (by rfl) e.m_pairs_below e.F_pairs_below.kp e.b_pairs_below tk (pda_cons (pd_var (pv 1)) (pda_nil))) (pd_fld rfl s_14 e.f_x (pd_var (pv 0)))) (pd_fld rfl s_13 e.f_y (pd_var (pv 0))))) (pda_nil)))))))
theorem ok_WalkX_eqX (e : Ev P G mg base) : FnOk P w0 G.K mg base (L2.CX P w0) 1 e.a_WalkX_eqX e.fd_WalkX_eqX ["self", "other"] (spG G 2 g_WalkX_eqX) :=
  fn_okD e.F_WalkX_eqX sc_WalkX_eqX rfl rfl fun cdv A outer s H E hr tk ps => pdss_one (pds_ret (pd_andT e.kk (pd_callB (cd_isi rfl e.iso) (by rfl) e.z_isinstance (by decide +kernel) (pda_cons (pd_var (pv 1)) (pda_cons (pd_cls (by rfl) e.m_Walk e.ct_Walk) (pda_nil)))) (pd_one (pd_cmp (opd_eq e.kk hr.units) (pd_fld rfl s_1 e.f_runs (pd_var (pv 0))) (pd_fld rfl s_1 e.f_runs (pd_var (pv 1))) (nomark _)))))
theorem ok_Walk_letters (e : Ev P G mg base) : FnOk P w0 G.K mg base (L2.CX P w0) 3 e.a_Walk_letters e.fd_Walk_letters ["self"] (spG G 1 g_Walk_letters) :=
  fn_okD e.F_Walk_letters sc_Walk_letters rfl rfl fun cdv A outer s H E hr tk ps => pdss_cons (pds_if (ptd_cmp (opd_gt) (pd_prop e.ct_Walk e.cl_Walk e.M_Walk_length (ok_Walk_length e) (hr.mono (by decide)) e.b_Walk_length (pd_var (pv 0))) (pd_const (by rfl) e.kc_MOST_LETTERS e.kr_MOST_LETTERS) (nomark _)) (pdss_one (pds_raise rfl tk e.X_TooMany.T e.X_TooMany.I s_2 e.X_TooMany.B (hr.mono (by decide)) (by rfl) e.m_TooMany (pda_cons (pd_const (by rfl) e.kc_MOST_LETTERS e.kr_MOST_LETTERS) (pda_nil)))) (pdss_nil))
    (pdss_one (pds_ret (pd_bm PySem.F.plainAttrs_str PySem.F.slot_str_join PySem.F.type_str_join mtd_join (pd_str s_15) (pda_cons (pdo_frz (pdo_lc (own := [("letter", 1), ("times", 2)]) rfl sc_Walk_letters.nd (pdi_seq rfl (pd_fld rfl s_1 e.f_runs (pd_var (pv 0)))) (by exact blkOk_by (N := ["self", "letter", "times"]) (sc := defScope st_Walk_letters) (own := [("letter", 1), ("times", 2)]) (by decide +kernel)) (by decide) (fun _ _ _ _ _ => pdg_tup rfl rfl (pdgs_cons (pdg_name (i := 1) sc_Walk_letters.nd rfl (.inl rfl)) (pdgs_cons (pdg_name (i := 2) sc_Walk_letters.nd rfl (.inl rfl)) (pdgs_nil)))) (fun _ _ _ _ _ => ptds_nil) (fun _ _ _ _ _ => pd_op (opd_smul) (pd_var (pv 1)) (pd_var (pv 2))))) (pda_nil)))))
theorem ok_gone_on (e : Ev P G mg base) : FnOk P w0 G.K mg base (L2.CX P w0) 1 e.a_gone_on e.fd_gone_on ["spot", "letter", "times"] (spG G 3 g_gone_on) :=
  fn_okD e.F_gone_on sc_gone_on rfl rfl fun cdv A outer s H E hr tk ps => pdss_cons (pds_asg (pd_var (pv 0)) (pdg_tup rfl rfl (pdgs_cons (pdg_name (i := 3) sc_gone_on.nd rfl (.inl rfl)) (pdgs_cons (pdg_name (i := 4) sc_gone_on.nd rfl (.inl rfl)) (pdgs_cons (pdg_name (i := 5) sc_gone_on.nd rfl (.inl rfl)) (pdgs_nil))))))
    (pdss_cons (pds_if (ptd_cmp (opd_eq e.kk hr.units) (pd_var (pv 1)) (pd_str s_16) (nomark _)) (pdss_one (pds_ret (pd_tup (pda_cons (pd_op (opd_addA e.kk) (pd_var (pv 3)) (pd_var (pv 2))) (pda_cons (pd_var (pv 4)) (pda_cons (pd_var (pv 5)) (pda_nil))))))) (pdss_nil))
    (pdss_cons (pds_if (ptd_cmp (opd_eq e.kk hr.units) (pd_var (pv 1)) (pd_str s_17) (nomark _)) (pdss_one (pds_ret (pd_tup (pda_cons (pd_op (opd_sub) (pd_var (pv 3)) (pd_var (pv 2))) (pda_cons (pd_var (pv 4)) (pda_cons (pd_var (pv 5)) (pda_nil))))))) (pdss_nil))
    (pdss_one (pds_ret (pd_ifExp (ptd_cmp (opd_eq e.kk hr.units) (pd_var (pv 1)) (pd_str s_18) (nomark _)) (pd_tup (pda_cons (pd_var (pv 3)) (pda_cons (pd_op (opd_addA e.kk) (pd_var (pv 4)) (pd_var (pv 2))) (pda_cons (pd_op (opd_addA e.kk) (pd_var (pv 5)) (pd_op (opd_mulA) (pd_var (pv 3)) (pd_var (pv 2)))) (pda_nil))))) (pd_tup (pda_cons (pd_var (pv 3)) (pda_cons (pd_op (opd_sub) (pd_var (pv 4)) (pd_var (pv 2))) (pda_cons (pd_op (opd_sub) (pd_var (pv 5)) (pd_op (opd_mulA) (pd_var (pv 3)) (pd_var (pv 2)))) (pda_nil))))))))))
theorem ok_Walk_spots (e : Ev P G mg base) : FnOk P w0 G.K mg base (L2.CX P w0) 3 e.a_Walk_spots e.fd_Walk_spots ["self"] (spG G 1 g_Walk_spots) :=
  fn_okD e.F_Walk_spots sc_Walk_spots rfl rfl fun cdv A outer s H E hr tk ps => pdss_cons (pds_setO (i := 1) sc_Walk_spots.nd rfl (.inl rfl) (pdo_lst (pda_cons (pd_tup (pda_cons (pd_int) (pda_cons (pd_int) (pda_cons (pd_int) (pda_nil))))) (pda_nil))))
    (pdss_cons (pds_for ps rfl (pdi_seq rfl (pd_fld rfl s_1 e.f_runs (pd_var (pv 0)))) (pdg_tup rfl rfl (pdgs_cons (pdg_name (i := 2) sc_Walk_spots.nd rfl (.inl rfl)) (pdgs_cons (pdg_name (i := 3) sc_Walk_spots.nd rfl (.inl rfl)) (pdgs_nil)))) (pdss_one (pds_append (pv 1) (pda_cons (pd_call (ok_gone_on e) (hr.mono (by decide)) (by rfl) e.m_gone_on e.F_gone_on.kp e.b_gone_on tk (pda_cons (pd_ixO e.kk (pv 1) (pd_neg (pd_int)) (fun _ _ => rfl)) (pda_cons (pd_var (pv 2)) (pda_cons (pd_var (pv 3)) (pda_nil))))) (pda_nil)))))
    (pdss_one (pds_ret (pd_var (pv 1)))))
theorem ok_Walk_place (e : Ev P G mg base) : FnOk P w0 G.K mg base (L2.CX P w0) 5 e.a_Walk_place e.fd_Walk_place ["self"] (spG G 1 g_Walk_place) :=
  fn_okD e.F_Walk_place sc_Walk_place rfl rfl fun cdv A outer s H E hr tk ps => pdss_cons (pds_set (i := 1) sc_Walk_place.nd rfl (.inl rfl) (pd_ix e.kk (pd_meth0 rfl (pd_var (pv 0)) e.ct_Walk e.cl_Walk s_19 e.M_Walk_spots (ok_Walk_spots e) (hr.mono (by decide)) e.b_Walk_spots tk) (pd_neg (pd_int)) (fun _ _ => rfl)))
    (pdss_one (pds_ret (pd_make e.mk_Place e.ct_Place (ok_PlaceX_initX e) (hr.mono (by decide)) (by rfl) e.m_Place e.b_PlaceX_initX tk (pda_cons (pd_ix e.kk (pd_var (pv 1)) (pd_int) (fun _ _ => rfl)) (pda_cons (pd_ix e.kk (pd_var (pv 1)) (pd_int) (fun _ _ => rfl)) (pda_cons (pd_ix e.kk (pd_var (pv 1)) (pd_int) (fun _ _ => rfl)) (pda_nil)))))))
theorem ok__law_runs_of (e : Ev P G mg base) : FnOk P w0 G.K mg base (L2.CX P w0) 1 e.a__law_runs_of e.fd__law_runs_of ["_law_pairs_here"] (spG G 1 g__law_runs_of) :=
  fn_okD e.F__law_runs_of sc__law_runs_of rfl rfl fun cdv A outer s H E hr tk ps => pdss_cons (pds_setO (i := 1) sc__law_runs_of.nd rfl (.inl rfl) (pdo_lst (pda_nil)))
    (pdss_cons (pds_for ps rfl (pdi_seq rfl (pd_var (pv 0))) (pdg_tup rfl rfl (pdgs_cons (pdg_name (i := 2) sc__law_runs_of.nd rfl (.inl rfl)) (pdgs_cons (pdg_name (i := 3) sc__law_runs_of.nd rfl (.inl rfl)) (pdgs_nil)))) (pdss_one (pds_if ((pwd_and (ptd_cmp (opd_gt) (pd_var (pv 3)) (pd_int) (nomark _)) (pwd_and (ptd_neO e.kk hr.units (pv 1)) (pwd_and1 (ptd_cmp (opd_eq e.kk hr.units) (pd_ix e.kk (pd_ixO e.kk (pv 1) (pd_neg (pd_int)) (fun _ _ => rfl)) (pd_int) (fun _ _ => rfl)) (pd_var (pv 2)) (nomark _))))).pt) (pdss_one (pds_ixO (pv 1) (pd_neg (pd_int)) (pd_tup (pda_cons (pd_var (pv 2)) (pda_cons (pd_op (opd_addA e.kk) (pd_ix e.kk (pd_ixO e.kk (pv 1) (pd_neg (pd_int)) (fun _ _ => rfl)) (pd_int) (fun _ _ => rfl)) (pd_var (pv 3))) (pda_nil)))) (hcol := nx_neg (nx_c _)))) (pdss_one (pds_if (ptd_cmp (opd_gt) (pd_var (pv 3)) (pd_int) (nomark _)) (pdss_one (pds_append (pv 1) (pda_cons (pd_tup (pda_cons (pd_var (pv 2)) (pda_cons (pd_var (pv 3)) (pda_nil)))) (pda_nil)))) (pdss_nil))))))
    (pdss_one (pds_ret (pd_callTy (cd_tup rfl) (by rfl) e.z_tuple (by decide +kernel) (pda_cons (pd_var (pv 1)) (pda_nil))))))
theorem ok__law_repeated_right (e : Ev P G mg base) : FnOk P w0 G.K mg base (L2.CX P w0) 13 e.a__law_repeated_right e.fd__law_repeated_right ["_law_pen_here", "_law_walk_here", "_law_pairs_here"] (spG G 3 g__law_repeated_right) :=
  fn_okD e.F__law_repeated_right sc__law_repeated_right rfl rfl fun cdv A outer s H E hr tk ps => pdss_cons (pds_set (i := 3) sc__law_repeated_right.nd rfl (.inl rfl) (pd_call (ok__law_pick e) (hr.mono (by decide)) (by rfl) e.m__law_pick e.F__law_pick.kp e.b__law_pick tk (pda_cons (pd_var (pv 0)) (pda_cons (pdo_frz (pdo_lst (pda_cons (pd_int) (pda_cons (pd_int) (pda_cons (pd_int) (pda_cons (pd_int) (pda_cons (pd_call (ok__law_draw e) (hr.mono (by decide)) (by rfl) e.m__law_draw e.F__law_draw.kp e.b__law_draw tk (pda_cons (pd_var (pv 0)) (pda_cons (pd_int) (pda_nil)))) (pda_nil)))))))) (pda_nil)))))
    (pdss_cons (pds_set (i := 4) sc__law_repeated_right.nd rfl (.inl rfl) (pd_meth rfl (pd_var (pv 1)) e.ct_Walk e.cl_Walk s_9 e.M_Walk_repeated (ok_Walk_repeated e) (hr.mono (by decide)) e.b_Walk_repeated tk (pda_cons (pd_var (pv 3)) (pda_nil))))
    (pdss_cons (pds_if ((pwd_or (ptd_cmpX (opx_ownNe e.ct_Place e.M_PlaceX_eqX.at_ e.M_PlaceX_eqX.fn e.ne_Place e.mo_Place (ok_PlaceX_eqX e) (hr.mono (by decide)) e.b_PlaceX_eqX tk) (pd_meth0 rfl (pd_var (pv 4)) e.ct_Walk e.cl_Walk s_20 e.M_Walk_place (ok_Walk_place e) (hr.mono (by decide)) e.b_Walk_place tk) (pd_meth rfl (pd_meth0 rfl (pd_var (pv 1)) e.ct_Walk e.cl_Walk s_20 e.M_Walk_place (ok_Walk_place e) (hr.mono (by decide)) e.b_Walk_place tk) e.ct_Place e.cl_Place s_21 e.M_Place_power (ok_Place_power e) (hr.mono (by decide)) e.b_Place_power tk (pda_cons (pd_var (pv 3)) (pda_nil))) (nomark _)) (pwd_or1 (ptd_cmp (opd_ne e.kk hr.units) (pd_prop e.ct_Walk e.cl_Walk e.M_Walk_length (ok_Walk_length e) (hr.mono (by decide)) e.b_Walk_length (pd_var (pv 4))) (pd_op (opd_mulA) (pd_var (pv 3)) (pd_prop e.ct_Walk e.cl_Walk e.M_Walk_length (ok_Walk_length e) (hr.mono (by decide)) e.b_Walk_length (pd_var (pv 1)))) (nomark _)))).pt) (pdss_one (pds_ret (pd_bl))) (pdss_nil))
    (pdss_cons (pds_if ((pwd_and (ptd_cmp (opd_lt) (pd_var (pv 3)) (pd_int) (nomark _)) (pwd_and1 (ptd_cmp (opd_ne e.kk hr.units) (pd_fld rfl s_1 e.f_runs (pd_var (pv 4))) (pd_call (ok__law_runs_of e) (hr.mono (by decide)) (by rfl) e.m__law_runs_of e.F__law_runs_of.kp e.b__law_runs_of tk (pda_cons (pd_op (opd_mulA) (pd_var (pv 2)) (pd_var (pv 3))) (pda_nil))) (nomark _)))).pt) (pdss_one (pds_ret (pd_bl))) (pdss_nil))
    (pdss_cons (pds_par (i := 5) (j := 6) rfl sc__law_repeated_right.nd rfl rfl (by decide) rfl rfl (pda_cons (pd_call (ok__law_pick e) (hr.mono (by decide)) (by rfl) e.m__law_pick e.F__law_pick.kp e.b__law_pick tk (pda_cons (pd_var (pv 0)) (pda_cons (pd_str s_11) (pda_nil)))) (pda_cons (pd_call (ok__law_great e) (hr.mono (by decide)) (by rfl) e.m__law_great e.F__law_great.kp e.b__law_great tk (pda_cons (pd_var (pv 0)) (pda_cons (pd_int) (pda_nil)))) (pda_nil))) (by rfl))
    (pdss_cons (pds_if (ptd_cmp (opd_ne e.kk hr.units) (pd_fld rfl s_1 e.f_runs (pd_meth rfl (pd_make e.mk_Walk e.ct_Walk (ok_WalkX_initX e) (hr.mono (by decide)) (by rfl) e.m_Walk e.b_WalkX_initX tk (pda_cons (pdo_frz (pdo_lst (pda_cons (pd_tup (pda_cons (pd_var (pv 5)) (pda_cons (pd_int) (pda_nil)))) (pda_nil)))) (pda_nil))) e.ct_Walk e.cl_Walk s_9 e.M_Walk_repeated (ok_Walk_repeated e) (hr.mono (by decide)) e.b_Walk_repeated tk (pda_cons (pd_var (pv 6)) (pda_nil)))) (pd_op (opd_tmul e.kk) (pd_tup (pda_cons (pd_tup (pda_cons (pd_var (pv 5)) (pda_cons (pd_op (opd_mulA) (pd_int) (pd_var (pv 6))) (pda_nil)))) (pda_nil))) (pd_callTy cd_int (by rfl) e.z_int (by decide +kernel) (pda_cons (pd_cmp (opd_gt) (pd_var (pv 6)) (pd_int) (nomark _)) (pda_nil)))) (nomark _)) (pdss_one (pds_ret (pd_bl))) (pdss_nil))
    (pdss_one (pds_ret (pd_andT e.kk (pd_cmpX (opx_ownEq e.ct_Walk e.M_WalkX_eqX.at_ e.M_WalkX_eqX.fn (ok_WalkX_eqX e) (hr.mono (by decide)) e.b_WalkX_eqX tk) (pd_meth rfl (pd_make e.mk_Walk e.ct_Walk (ok_WalkX_initX e) (hr.mono (by decide)) (by rfl) e.m_Walk e.b_WalkX_initX tk (pda_cons (pd_str s_15) (pda_nil))) e.ct_Walk e.cl_Walk s_9 e.M_Walk_repeated (ok_Walk_repeated e) (hr.mono (by decide)) e.b_Walk_repeated tk (pda_cons (pd_var (pv 6)) (pda_nil))) (pd_make e.mk_Walk e.ct_Walk (ok_WalkX_initX e) (hr.mono (by decide)) (by rfl) e.m_Walk e.b_WalkX_initX tk (pda_cons (pdo_frz (pdo_lst (pda_nil))) (pda_nil))) (nomark _)) (pd_one (pd_cmp (opd_eq e.kk hr.units) (pd_meth0 rfl (pd_meth rfl (pd_make e.mk_Walk e.ct_Walk (ok_WalkX_initX e) (hr.mono (by decide)) (by rfl) e.m_Walk e.b_WalkX_initX tk (pda_cons (pd_str s_10) (pda_nil))) e.ct_Walk e.cl_Walk s_9 e.M_Walk_repeated (ok_Walk_repeated e) (hr.mono (by decide)) e.b_Walk_repeated tk (pda_cons (pd_int) (pda_nil))) e.ct_Walk e.cl_Walk s_22 e.M_Walk_letters (ok_Walk_letters e) (hr.mono (by decide)) e.b_Walk_letters tk) (pd_str s_23) (nomark _)))))))))))
theorem ok_Walk_mirrored (e : Ev P G mg base) : FnOk P w0 G.K mg base (L2.CX P w0) 11 e.a_Walk_mirrored e.fd_Walk_mirrored ["self"] (spG G 1 g_Walk_mirrored) :=
  fn_okD e.F_Walk_mirrored sc_Walk_mirrored rfl rfl fun cdv A outer s H E hr tk ps => pdss_one (pds_ret (pd_make e.mk_Walk e.ct_Walk (ok_WalkX_initX e) (hr.mono (by decide)) (by rfl) e.m_Walk e.b_WalkX_initX tk (pda_cons (pdo_frz (pdo_lc (own := [("letter", 1), ("times", 2)]) rfl sc_Walk_mirrored.nd (pdi_seq rfl (pd_fld rfl s_1 e.f_runs (pd_var (pv 0)))) (by exact blkOk_by (N := ["self", "letter", "times"]) (sc := defScope st_Walk_mirrored) (own := [("letter", 1), ("times", 2)]) (by decide +kernel)) (by decide) (fun _ _ _ _ _ => pdg_tup rfl rfl (pdgs_cons (pdg_name (i := 1) sc_Walk_mirrored.nd rfl (.inl rfl)) (pdgs_cons (pdg_name (i := 2) sc_Walk_mirrored.nd rfl (.inl rfl)) (pdgs_nil)))) (fun _ _ _ _ _ => ptds_nil) (fun _ _ _ _ _ => pd_tup (pda_cons (pd_dget2 (hu_of hr) (pdod_frz (pdod_disp (fs := [(eC (.str [101]), eC (.str [119])), (eC (.str [119]), eC (.str [101]))]) (pps_cons (pd_str s_16) (pd_str s_17) (pps_cons (pd_str s_17) (pd_str s_16) (pps_nil))) (by rfl) (by rfl) (fun z => by cases z) (by decide))) (pd_var (pv 1)) (pd_var (pv 1)) ⟨rfl, rfl, rfl, rfl⟩) (pda_cons (pd_var (pv 2)) (pda_nil)))))) (pda_nil))))
theorem ok_turned_letter (e : Ev P G mg base) : FnOk P w0 G.K mg base (L2.CX P w0) 1 e.a_turned_letter e.fd_turned_letter ["letter", "quarters"] (spG G 2 g_turned_letter) :=
  fn_okD e.F_turned_letter sc_turned_letter rfl rfl fun cdv A outer s H E hr tk ps => pdss_one (pds_ret (pd_ix e.kk (pd_const (by rfl) e.kc_LETTERS e.kr_LETTERS) (pd_op (opd_mod) (pd_op (opd_addA e.kk) (pd_six rfl tk (pd_const (by rfl) e.kc_LETTERS e.kr_LETTERS) (pda_cons (pd_var (pv 0)) (pda_nil))) (pd_var (pv 1))) (pd_int)) (fun _ _ => rfl)))
theorem ok_Walk_turned (e : Ev P G mg base) : FnOk P w0 G.K mg base (L2.CX P w0) 11 e.a_Walk_turned e.fd_Walk_turned ["self", "quarters"] (spG G 2 g_Walk_turned) :=
  fn_okD e.F_Walk_turned sc_Walk_turned rfl rfl fun cdv A outer s H E hr tk ps => pdss_cons (pds_if (ptd_not (ptd_truth e.kk (pd_call (ok_is_integer e) (hr.mono (by decide)) (by rfl) e.m_is_integer e.F_is_integer.kp e.b_is_integer tk (pda_cons (pd_var (pv 1)) (pda_nil))))) (pdss_one (pds_raise rfl tk e.X_BadNumber.T e.X_BadNumber.I s_0 e.X_BadNumber.B (hr.mono (by decide)) (by rfl) e.m_BadNumber (pda_cons (pd_var (pv 1)) (pda_nil)))) (pdss_nil))
    (pdss_one (pds_ret (pd_make e.mk_Walk e.ct_Walk (ok_WalkX_initX e) (hr.mono (by decide)) (by rfl) e.m_Walk e.b_WalkX_initX tk (pda_cons (pdo_frz (pdo_lc (own := [("letter", 2), ("times", 3)]) rfl sc_Walk_turned.nd (pdi_seq rfl (pd_fld rfl s_1 e.f_runs (pd_var (pv 0)))) (by exact blkOk_by (N := ["self", "quarters", "letter", "times"]) (sc := defScope st_Walk_turned) (own := [("letter", 2), ("times", 3)]) (by decide +kernel)) (by decide) (fun _ _ _ _ _ => pdg_tup rfl rfl (pdgs_cons (pdg_name (i := 2) sc_Walk_turned.nd rfl (.inl rfl)) (pdgs_cons (pdg_name (i := 3) sc_Walk_turned.nd rfl (.inl rfl)) (pdgs_nil)))) (fun _ _ _ _ _ => ptds_nil) (fun _ _ _ _ _ => pd_tup (pda_cons (pd_call (ok_turned_letter e) (hr.mono (by decide)) (by rfl) e.m_turned_letter e.F_turned_letter.kp e.b_turned_letter takes0 (pda_cons (pd_var (pv 2)) (pda_cons (pd_var (pv 1)) (pda_nil)))) (pda_cons (pd_var (pv 3)) (pda_nil)))))) (pda_nil)))))
theorem ok__law_ground (e : Ev P G mg base) : FnOk P w0 G.K mg base (L2.CX P w0) 1 e.a__law_ground e.fd__law_ground ["_law_place"] (spG G 1 g__law_ground) :=
  fn_okD e.F__law_ground sc__law_ground rfl rfl fun cdv A outer s H E hr tk ps => pdss_one (pds_ret (pd_op (opd_sub) (pd_op (opd_mulA) (pd_int) (pd_fld rfl s_12 e.f_area (pd_var (pv 0)))) (pd_op (opd_mulA) (pd_fld rfl s_14 e.f_x (pd_var (pv 0))) (pd_fld rfl s_13 e.f_y (pd_var (pv 0))))))
theorem ok__law_signed (e : Ev P G mg base) : FnOk P w0 G.K mg base (L2.CX P w0) 5 e.a__law_signed e.fd__law_signed ["_law_pen_here", "_law_figures"] (spG G 2 g__law_signed) :=
  fn_okD e.F__law_signed sc__law_signed rfl rfl fun cdv A outer s H E hr tk ps => pdss_cons (pds_set (i := 2) sc__law_signed.nd rfl (.inl rfl) (pd_ifExp ((pwd_or (ptd_cmp (opd_lt) (pd_var (pv 1)) (pd_int) (nomark _)) (pwd_or1 (ptd_cmp (opd_eq e.kk hr.units) (pd_call (ok__law_draw e) (hr.mono (by decide)) (by rfl) e.m__law_draw e.F__law_draw.kp e.b__law_draw tk (pda_cons (pd_var (pv 0)) (pda_cons (pd_int) (pda_nil)))) (pd_int) (nomark _)))).pt) (pd_call (ok__law_draw e) (hr.mono (by decide)) (by rfl) e.m__law_draw e.F__law_draw.kp e.b__law_draw tk (pda_cons (pd_var (pv 0)) (pda_cons (pd_int) (pda_nil)))) (pd_call (ok__law_great e) (hr.mono (by decide)) (by rfl) e.m__law_great e.F__law_great.kp e.b__law_great tk (pda_cons (pd_var (pv 0)) (pda_cons (pd_var (pv 1)) (pda_nil))))))
    (pdss_one (pds_ret (pd_ifExp (ptd_cmp (opd_eq e.kk hr.units) (pd_call (ok__law_draw e) (hr.mono (by decide)) (by rfl) e.m__law_draw e.F__law_draw.kp e.b__law_draw tk (pda_cons (pd_var (pv 0)) (pda_cons (pd_int) (pda_nil)))) (pd_int) (nomark _)) (pd_var (pv 2)) (pd_neg (pd_var (pv 2))))))
theorem ok__law_turned_right (e : Ev P G mg base) : FnOk P w0 G.K mg base (L2.CX P w0) 13 e.a__law_turned_right e.fd__law_turned_right ["_law_pen_here", "_law_walk_here", "_law_pairs_here"] (spG G 3 g__law_turned_right) :=
  fn_okD e.F__law_turned_right sc__law_turned_right rfl rfl fun cdv A outer s H E hr tk ps => pdss_cons (pds_set (i := 3) sc__law_turned_right.nd rfl (.inr rfl) (pd_call (ok__law_signed e) (hr.mono (by decide)) (by rfl) e.m__law_signed e.F__law_signed.kp e.b__law_signed tk (pda_cons (pd_var (pv 0)) (pda_cons (pd_int) (pda_nil)))))
    (pdss_cons (pds_set (i := 4) sc__law_turned_right.nd rfl (.inl rfl) (pd_meth rfl (pd_var (pv 1)) e.ct_Walk e.cl_Walk s_24 e.M_Walk_turned (ok_Walk_turned e) (hr.mono (by decide)) e.b_Walk_turned tk (pda_cons (pd_var (pv 3)) (pda_nil))))
    (pdss_cons (pds_setLc (i := 5) (own := [("_law_letter", 11), ("_law_times", 12)]) rfl sc__law_turned_right.nd rfl rfl (sw_true rfl rfl rfl (by decide +kernel)) (pdi_seq rfl (pd_var (pv 2))) (by exact blkOk_by (N := ["_law_pen_here", "_law_walk_here", "_law_pairs_here", "_law_quarters", "_law_there", "_law_due", "_law_x", "_law_y", "_law_ends", "_law_glass", "_law_mirrored", "_law_letter", "_law_times"]) (sc := defScope st__law_turned_right) (own := [("_law_letter", 11), ("_law_times", 12)]) (by decide +kernel)) (by decide) (fun _ _ _ _ _ => pdg_tup rfl rfl (pdgs_cons (pdg_name (i := 11) sc__law_turned_right.nd rfl (.inl rfl)) (pdgs_cons (pdg_name (i := 12) sc__law_turned_right.nd rfl (.inl rfl)) (pdgs_nil)))) (fun _ _ _ _ _ => ptds_nil) (fun _ _ _ _ _ => pd_tup (pda_cons (pd_ix e.kk (pd_str s_11) (pd_op (opd_mod) (pd_callTy cd_int (by rfl) e.z_int (by decide +kernel) (pda_cons (pd_op (opd_addA e.kk) (pd_six rfl takes0 (pd_str s_11) (pda_cons (pd_var (pv 11)) (pda_nil))) (pd_var (pv 3))) (pda_nil))) (pd_int)) (fun _ _ => rfl)) (pda_cons (pd_var (pv 12)) (pda_nil)))))
    (pdss_cons (pds_if ((pwd_or (ptd_cmp (opd_ne e.kk hr.units) (pd_fld rfl s_1 e.f_runs (pd_var (pv 4))) (pd_call (ok__law_runs_of e) (hr.mono (by decide)) (by rfl) e.m__law_runs_of e.F__law_runs_of.kp e.b__law_runs_of tk (pda_cons (pd_var (pv 5)) (pda_nil))) (nomark _)) (pwd_or1 (ptd_cmp (opd_ne e.kk hr.units) (pd_call (ok__law_ground e) (hr.mono (by decide)) (by rfl) e.m__law_ground e.F__law_ground.kp e.b__law_ground tk (pda_cons (pd_meth0 rfl (pd_var (pv 4)) e.ct_Walk e.cl_Walk s_20 e.M_Walk_place (ok_Walk_place e) (hr.mono (by decide)) e.b_Walk_place tk) (pda_nil))) (pd_call (ok__law_ground e) (hr.mono (by decide)) (by rfl) e.m__law_ground e.F__law_ground.kp e.b__law_ground tk (pda_cons (pd_meth0 rfl (pd_var (pv 1)) e.ct_Walk e.cl_Walk s_20 e.M_Walk_place (ok_Walk_place e) (hr.mono (by decide)) e.b_Walk_place tk) (pda_nil))) (nomark _)))).pt) (pdss_one (pds_ret (pd_bl))) (pdss_nil))
    (pdss_cons (pds_par (i := 6) (j := 7) rfl sc__law_turned_right.nd rfl rfl (by decide) rfl rfl (pda_cons (pd_fld rfl s_14 e.f_x (pd_meth0 rfl (pd_var (pv 1)) e.ct_Walk e.cl_Walk s_20 e.M_Walk_place (ok_Walk_place e) (hr.mono (by decide)) e.b_Walk_place tk)) (pda_cons (pd_fld rfl s_13 e.f_y (pd_meth0 rfl (pd_var (pv 1)) e.ct_Walk e.cl_Walk s_20 e.M_Walk_place (ok_Walk_place e) (hr.mono (by decide)) e.b_Walk_place tk)) (pda_nil))) (by rfl))
    (pdss_cons (pds_set (i := 8) sc__law_turned_right.nd rfl (.inl rfl) (pdo_frz (pdo_lst (pda_cons (pd_tup (pda_cons (pd_var (pv 6)) (pda_cons (pd_var (pv 7)) (pda_nil)))) (pda_cons (pd_tup (pda_cons (pd_neg (pd_var (pv 7))) (pda_cons (pd_var (pv 6)) (pda_nil)))) (pda_cons (pd_tup (pda_cons (pd_neg (pd_var (pv 6))) (pda_cons (pd_neg (pd_var (pv 7))) (pda_nil)))) (pda_cons (pd_tup (pda_cons (pd_var (pv 7)) (pda_cons (pd_neg (pd_var (pv 6))) (pda_nil)))) (pda_nil))))))))
    (pdss_cons (pds_if ((pwd_or (ptd_cmp (opd_ne e.kk hr.units) (pd_tup (pda_cons (pd_fld rfl s_14 e.f_x (pd_meth0 rfl (pd_var (pv 4)) e.ct_Walk e.cl_Walk s_20 e.M_Walk_place (ok_Walk_place e) (hr.mono (by decide)) e.b_Walk_place tk)) (pda_cons (pd_fld rfl s_13 e.f_y (pd_meth0 rfl (pd_var (pv 4)) e.ct_Walk e.cl_Walk s_20 e.M_Walk_place (ok_Walk_place e) (hr.mono (by decide)) e.b_Walk_place tk)) (pda_nil)))) (pd_ix e.kk (pd_var (pv 8)) (pd_op (opd_mod) (pd_callTy cd_int (by rfl) e.z_int (by decide +kernel) (pda_cons (pd_var (pv 3)) (pda_nil))) (pd_int)) (fun _ _ => rfl)) (nomark _)) (pwd_or1 (ptd_cmpX (opx_ownNe e.ct_Walk e.M_WalkX_eqX.at_ e.M_WalkX_eqX.fn e.ne_Walk e.mo_Walk (ok_WalkX_eqX e) (hr.mono (by decide)) e.b_WalkX_eqX tk) (pd_meth rfl (pd_var (pv 4)) e.ct_Walk e.cl_Walk s_24 e.M_Walk_turned (ok_Walk_turned e) (hr.mono (by decide)) e.b_Walk_turned tk (pda_cons (pd_neg (pd_var (pv 3))) (pda_nil))) (pd_var (pv 1)) (nomark _)))).pt) (pdss_one (pds_ret (pd_bl))) (pdss_nil))
    (pdss_cons (pds_set (i := 9) sc__law_turned_right.nd rfl (.inl rfl) (pd_meth0 rfl (pd_var (pv 1)) e.ct_Walk e.cl_Walk s_25 e.M_Walk_mirrored (ok_Walk_mirrored e) (hr.mono (by decide)) e.b_Walk_mirrored tk))
    (pdss_cons (pds_setLc (i := 10) (own := [("_law_letter", 11), ("_law_times", 12)]) rfl sc__law_turned_right.nd rfl rfl (sw_true rfl rfl rfl (by decide +kernel)) (pdi_seq rfl (pd_var (pv 2))) (by exact blkOk_by (N := ["_law_pen_here", "_law_walk_here", "_law_pairs_here", "_law_quarters", "_law_there", "_law_due", "_law_x", "_law_y", "_law_ends", "_law_glass", "_law_mirrored", "_law_letter", "_law_times"]) (sc := defScope st__law_turned_right) (own := [("_law_letter", 11), ("_law_times", 12)]) (by decide +kernel)) (by decide) (fun _ _ _ _ _ => pdg_tup rfl rfl (pdgs_cons (pdg_name (i := 11) sc__law_turned_right.nd rfl (.inl rfl)) (pdgs_cons (pdg_name (i := 12) sc__law_turned_right.nd rfl (.inl rfl)) (pdgs_nil)))) (fun _ _ _ _ _ => ptds_nil) (fun _ _ _ _ _ => pd_tup (pda_cons (pd_dget2 (hu_of hr) (pdod_frz (pdod_disp (fs := [(eC (.str [101]), eC (.str [119])), (eC (.str [119]), eC (.str [101]))]) (pps_cons (pd_str s_16) (pd_str s_17) (pps_cons (pd_str s_17) (pd_str s_16) (pps_nil))) (by rfl) (by rfl) (fun z => by cases z) (by decide))) (pd_var (pv 11)) (pd_var (pv 11)) ⟨rfl, rfl, rfl, rfl⟩) (pda_cons (pd_var (pv 12)) (pda_nil)))))
    (pdss_cons (pds_if ((pwd_or (ptd_cmp (opd_ne e.kk hr.units) (pd_fld rfl s_1 e.f_runs (pd_var (pv 9))) (pd_call (ok__law_runs_of e) (hr.mono (by decide)) (by rfl) e.m__law_runs_of e.F__law_runs_of.kp e.b__law_runs_of tk (pda_cons (pd_var (pv 10)) (pda_nil))) (nomark _)) (pwd_or1 (ptd_cmp (opd_ne e.kk hr.units) (pd_call (ok__law_ground e) (hr.mono (by decide)) (by rfl) e.m__law_ground e.F__law_ground.kp e.b__law_ground tk (pda_cons (pd_meth0 rfl (pd_var (pv 9)) e.ct_Walk e.cl_Walk s_20 e.M_Walk_place (ok_Walk_place e) (hr.mono (by decide)) e.b_Walk_place tk) (pda_nil))) (pd_neg (pd_call (ok__law_ground e) (hr.mono (by decide)) (by rfl) e.m__law_ground e.F__law_ground.kp e.b__law_ground tk (pda_cons (pd_meth0 rfl (pd_var (pv 1)) e.ct_Walk e.cl_Walk s_20 e.M_Walk_place (ok_Walk_place e) (hr.mono (by decide)) e.b_Walk_place tk) (pda_nil)))) (nomark _)))).pt) (pdss_one (pds_ret (pd_bl))) (pdss_nil))
    (pdss_cons (pds_if ((pwd_or (ptd_cmpX (opx_ownNe e.ct_Walk e.M_WalkX_eqX.at_ e.M_WalkX_eqX.fn e.ne_Walk e.mo_Walk (ok_WalkX_eqX e) (hr.mono (by decide)) e.b_WalkX_eqX tk) (pd_meth0 rfl (pd_var (pv 9)) e.ct_Walk e.cl_Walk s_25 e.M_Walk_mirrored (ok_Walk_mirrored e) (hr.mono (by decide)) e.b_Walk_mirrored tk) (pd_var (pv 1)) (nomark _)) (pwd_or1 (ptd_cmpX (opx_ownNe e.ct_Walk e.M_WalkX_eqX.at_ e.M_WalkX_eqX.fn e.ne_Walk e.mo_Walk (ok_WalkX_eqX e) (hr.mono (by decide)) e.b_WalkX_eqX tk) (pd_meth rfl (pd_var (pv 9)) e.ct_Walk e.cl_Walk s_24 e.M_Walk_turned (ok_Walk_turned e) (hr.mono (by decide)) e.b_Walk_turned tk (pda_cons (pd_var (pv 3)) (pda_nil))) (pd_meth0 rfl (pd_meth rfl (pd_var (pv 1)) e.ct_Walk e.cl_Walk s_24 e.M_Walk_turned (ok_Walk_turned e) (hr.mono (by decide)) e.b_Walk_turned tk (pda_cons (pd_neg (pd_var (pv 3))) (pda_nil))) e.ct_Walk e.cl_Walk s_25 e.M_Walk_mirrored (ok_Walk_mirrored e) (hr.mono (by decide)) e.b_Walk_mirrored tk) (nomark _)))).pt) (pdss_one (pds_ret (pd_bl))) (pdss_nil))
    (pdss_one (pds_ret (pd_andT e.kk (pd_cmpX (opx_ownEq e.ct_Walk e.M_WalkX_eqX.at_ e.M_WalkX_eqX.fn (ok_WalkX_eqX e) (hr.mono (by decide)) e.b_WalkX_eqX tk) (pd_meth rfl (pd_var (pv 1)) e.ct_Walk e.cl_Walk s_24 e.M_Walk_turned (ok_Walk_turned e) (hr.mono (by decide)) e.b_Walk_turned tk (pda_cons (pd_int) (pda_nil))) (pd_var (pv 1)) (nomark _)) (pd_one (pd_cmp (opd_eq e.kk hr.units) (pd_fld rfl s_12 e.f_area (pd_meth0 rfl (pd_meth rfl (pd_var (pv 1)) e.ct_Walk e.cl_Walk s_24 e.M_Walk_turned (ok_Walk_turned e) (hr.mono (by decide)) e.b_Walk_turned tk (pda_cons (pd_int) (pda_nil))) e.ct_Walk e.cl_Walk s_20 e.M_Walk_place (ok_Walk_place e) (hr.mono (by decide)) e.b_Walk_place tk)) (pd_fld rfl s_12 e.f_area (pd_meth0 rfl (pd_var (pv 1)) e.ct_Walk e.cl_Walk s_20 e.M_Walk_place (ok_Walk_place e) (hr.mono (by decide)) e.b_Walk_place tk)) (nomark _))))))))))))))))
theorem ok__law_walk (e : Ev P G mg base) : FnOk P w0 G.K mg base (L2.CX P w0) 11 e.a__law_walk e.fd__law_walk ["_law_pen_here", "_law_pairs_here"] (spG G 2 g__law_walk) :=
  fn_okD e.F__law_walk sc__law_walk rfl rfl fun cdv A outer s H E hr tk ps => pdss_cons (pds_set (i := 2) sc__law_walk.nd rfl (.inl rfl) (pd_callB (cd_sum rfl) (by rfl) e.z_sum (by decide +kernel) (pda_cons (pdo_frz (pdo_lc (own := [("_law_letter", 3), ("_law_times", 4)]) rfl sc__law_walk.nd (pdi_seq rfl (pd_var (pv 1))) (by exact blkOk_by (N := ["_law_pen_here", "_law_pairs_here", "_law_total", "_law_letter", "_law_times", "_law_pair"]) (sc := defScope st__law_walk) (own := [("_law_letter", 3), ("_law_times", 4)]) (by decide +kernel)) (by decide) (fun _ _ _ _ _ => pdg_tup rfl rfl (pdgs_cons (pdg_name (i := 3) sc__law_walk.nd rfl (.inl rfl)) (pdgs_cons (pdg_name (i := 4) sc__law_walk.nd rfl (.inl rfl)) (pdgs_nil)))) (fun _ _ _ _ _ => ptds_nil) (fun _ _ _ _ _ => pd_var (pv 4)))) (pda_nil))))
    (pdss_cons (pds_if ((pwd_and (ptd_cmp (opd_lt) (pd_var (pv 2)) (pd_int) (nomark _)) (pwd_and1 (ptd_cmp (opd_eq e.kk hr.units) (pd_call (ok__law_draw e) (hr.mono (by decide)) (by rfl) e.m__law_draw e.F__law_draw.kp e.b__law_draw tk (pda_cons (pd_var (pv 0)) (pda_cons (pd_int) (pda_nil)))) (pd_int) (nomark _)))).pt) (pdss_one (pds_ret (pd_make e.mk_Walk e.ct_Walk (ok_WalkX_initX e) (hr.mono (by decide)) (by rfl) e.m_Walk e.b_WalkX_initX tk (pda_cons (pd_bm PySem.F.plainAttrs_str PySem.F.slot_str_join PySem.F.type_str_join mtd_join (pd_str s_15) (pda_cons (pdo_frz (pdo_lc (own := [("_law_letter", 3), ("_law_times", 4)]) rfl sc__law_walk.nd (pdi_seq rfl (pd_var (pv 1))) (by exact blkOk_by (N := ["_law_pen_here", "_law_pairs_here", "_law_total", "_law_letter", "_law_times", "_law_pair"]) (sc := defScope st__law_walk) (own := [("_law_letter", 3), ("_law_times", 4)]) (by decide +kernel)) (by decide) (fun _ _ _ _ _ => pdg_tup rfl rfl (pdgs_cons (pdg_name (i := 3) sc__law_walk.nd rfl (.inl rfl)) (pdgs_cons (pdg_name (i := 4) sc__law_walk.nd rfl (.inl rfl)) (pdgs_nil)))) (fun _ _ _ _ _ => ptds_nil) (fun _ _ _ _ _ => pd_op (opd_smul) (pd_var (pv 3)) (pd_var (pv 4))))) (pda_nil))) (pda_nil))))) (pdss_nil))
    (pdss_cons (pds_if (ptd_cmp (opd_eq e.kk hr.units) (pd_call (ok__law_draw e) (hr.mono (by decide)) (by rfl) e.m__law_draw e.F__law_draw.kp e.b__law_draw tk (pda_cons (pd_var (pv 0)) (pda_cons (pd_int) (pda_nil)))) (pd_int) (nomark _)) (pdss_one (pds_ret (pd_make e.mk_Walk e.ct_Walk (ok_WalkX_initX e) (hr.mono (by decide)) (by rfl) e.m_Walk e.b_WalkX_initX tk (pda_cons (pd_callTy (cd_tup rfl) (by rfl) e.z_tuple (by decide +kernel) (pda_cons (pdo_frz (pdo_lc (own := [("_law_pair", 5)]) rfl sc__law_walk.nd (pdi_seq rfl (pd_var (pv 1))) (by exact blkOk_by (N := ["_law_pen_here", "_law_pairs_here", "_law_total", "_law_letter", "_law_times", "_law_pair"]) (sc := defScope st__law_walk) (own := [("_law_pair", 5)]) (by decide +kernel)) (by decide) (fun _ _ _ _ _ => pdg_name (i := 5) sc__law_walk.nd rfl (.inl rfl)) (fun _ _ _ _ _ => ptds_nil) (fun _ _ _ _ _ => pdo_frz (pdo_list rfl (by rfl) e.z_list boot_list (pda_cons (pd_var (pv 5)) (pda_nil)))))) (pda_nil))) (pda_nil))))) (pdss_nil))
    (pdss_one (pds_ret (pd_make e.mk_Walk e.ct_Walk (ok_WalkX_initX e) (hr.mono (by decide)) (by rfl) e.m_Walk e.b_WalkX_initX tk (pda_cons (pdo_frz (pdo_list rfl (by rfl) e.z_list boot_list (pda_cons (pd_var (pv 1)) (pda_nil)))) (pda_nil)))))))
theorem ok_law (e0 : Ev P G mg base) : FnOk P w0 G.K mg base (L2.CX P w0) 17 e0.a_law e0.fd_law ["_law_script"] (spG G 1 g_law) :=
  fn_okDL e0.F_law sc_law rfl rfl (T_law e0) fun cdv hcd A outer s H E hr tk ps => let e := e0.sw _ _; pdss_cons (pds_set (i := 1) sc_law.nd rfl (.inl rfl) (pd_call (ok__law_pen e) (hr.mono (by decide)) (by rfl) e.m__law_pen e.F__law_pen.kp e.b__law_pen tk (pda_cons (pd_var (pv 0)) (pda_nil))))
    (pdss_cons (pds_for ps rfl (pdi_range1 (by rfl) e.z_range (pda_cons (pd_op (opd_addA e.kk) (pd_int) (pd_callB (cd_min2 rfl) (by rfl) e.z_min (by decide +kernel) (pda_cons (pd_int) (pda_cons (pd_callB (cd_len rfl) (by rfl) e.z_len (by decide +kernel) (pda_cons (pd_var (pv 0)) (pda_nil))) (pda_nil))))) (pda_nil))) (pdg_name (i := 2) sc_law.nd rfl (.inl rfl)) (pdss_cons (pds_set (i := 3) sc_law.nd rfl (.inl rfl) (pd_call (ok__law_pairs e) (hr.mono (by decide)) (by rfl) e.m__law_pairs e.F__law_pairs.kp e.b__law_pairs tk (pda_cons (pd_var (pv 1)) (pda_cons (pd_int) (pda_cons (pd_call (ok__law_pick e) (hr.mono (by decide)) (by rfl) e.m__law_pick e.F__law_pick.kp e.b__law_pick tk (pda_cons (pd_var (pv 1)) (pda_cons (pdo_frz (pdo_lst (pda_cons (pd_int) (pda_cons (pd_int) (pda_nil))))) (pda_nil)))) (pda_nil))))))
    (pdss_cons (pds_set (i := 4) sc_law.nd rfl (.inr rfl) (pd_call (ok__law_walk e) (hr.mono (by decide)) (by rfl) e.m__law_walk e.F__law_walk.kp e.b__law_walk tk (pda_cons (pd_var (pv 1)) (pda_cons (pd_var (pv 3)) (pda_nil)))))
    (pdss_cons (pds_if ((pwd_or (ptd_not (ptd_truth e.kk (pd_call (ok__law_turned_right e) (hr.mono (by decide)) (by rfl) e.m__law_turned_right e.F__law_turned_right.kp e.b__law_turned_right tk (pda_cons (pd_var (pv 1)) (pda_cons (pd_var (pv 4)) (pda_cons (pd_var (pv 3)) (pda_nil))))))) (pwd_or1 (ptd_not (ptd_truth e.kk (pd_call (ok__law_repeated_right e) (hr.mono (by decide)) (by rfl) e.m__law_repeated_right e.F__law_repeated_right.kp e.b__law_repeated_right tk (pda_cons (pd_var (pv 1)) (pda_cons (pd_var (pv 4)) (pda_cons (pd_var (pv 3)) (pda_nil))))))))).pt) (pdss_one (pds_ret (pd_bl))) (pdss_nil))
    (pdss_cons (pds_for ps rfl (pdi_seq rfl (pdo_frz (pdo_lst (pda_cons (pd_non) (pda_cons (pd_bl) (pda_cons (pd_str s_26) (pda_cons (pdo_frz (pdo_lst (pda_cons (pd_int) (pda_nil)))) (pda_nil)))))))) (pdg_name (i := 5) sc_law.nd rfl (.inr rfl)) (pdss_cons (pds_if (ptd_cmp (opd_ne e.kk hr.units) (pd_callL (k := 12) (T := T_law e0 s.heap.objs.size) (body := b__law_refused) rfl e.F__law_refused sc__law_refused rfl rfl (fun _ _ _ z => z) rfl rfl (lamsOk_cons (n0 := "law.0") rfl ⟨by exact LamX.lamS_by (sc := defScope st_law) (by decide +kernel), fun _ _ _ _ _ => rfl, fun A outer s H E f c' hr tk => pd_meth rfl (pd_var (pv 4)) e.ct_Walk e.cl_Walk s_24 e.M_Walk_turned (ok_Walk_turned e) (hr.mono (by decide)) e.b_Walk_turned tk (pda_cons (pd_var (pv 5)) (pda_nil))⟩ (lamsOk_cons (n0 := "law.1") rfl ⟨by exact LamX.lamS_by (sc := defScope st_law) (by decide +kernel), fun _ _ _ _ _ => rfl, fun A outer s H E f c' hr tk => pd_meth rfl (pd_var (pv 4)) e.ct_Walk e.cl_Walk s_9 e.M_Walk_repeated (ok_Walk_repeated e) (hr.mono (by decide)) e.b_Walk_repeated tk (pda_cons (pd_var (pv 5)) (pda_nil))⟩ (lamsOk_cons (n0 := "law.2") rfl ⟨by exact LamX.lamS_by (sc := defScope st_law) (by decide +kernel), fun _ _ _ _ _ => rfl, fun A outer s H E f c' hr tk => pd_meth rfl (pd_var (pv 4)) e.ct_Walk e.cl_Walk s_9 e.M_Walk_repeated (ok_Walk_repeated e) (hr.mono (by decide)) e.b_Walk_repeated tk (pda_cons (pd_neg (pd_int)) (pda_nil))⟩ (lamsOk_nil)))) (fun w => (bl__law_refused (e.sw _ _)).mono (by decide)) (i := 0) rfl (.inl rfl) (hr.mono (by decide)) (by rfl) e.m__law_refused e.b__law_refused tk (pda_cons (pd_lam (T := T_law e0 s.heap.objs.size) (glam_of e.tabs rfl (fun _ _ _ => Iff.rfl)) e.tb_law (hcd.symm.trans e.cd_law) rfl rfl rfl (by exact LamX.lamS_by (sc := defScope st_law) (by decide +kernel)) rfl) (pda_nil))) (pd_tup (pda_cons (pd_str s_6) (pda_cons (pd_var (pv 5)) (pda_nil)))) (nomark _)) (pdss_one (pds_ret (pd_bl))) (pdss_nil))
    (pdss_one (pds_if (ptd_cmp (opd_ne e.kk hr.units) (pd_callL (k := 12) (T := T_law e0 s.heap.objs.size) (body := b__law_refused) rfl e.F__law_refused sc__law_refused rfl rfl (fun _ _ _ z => z) rfl rfl (lamsOk_cons (n0 := "law.0") rfl ⟨by exact LamX.lamS_by (sc := defScope st_law) (by decide +kernel), fun _ _ _ _ _ => rfl, fun A outer s H E f c' hr tk => pd_meth rfl (pd_var (pv 4)) e.ct_Walk e.cl_Walk s_24 e.M_Walk_turned (ok_Walk_turned e) (hr.mono (by decide)) e.b_Walk_turned tk (pda_cons (pd_var (pv 5)) (pda_nil))⟩ (lamsOk_cons (n0 := "law.1") rfl ⟨by exact LamX.lamS_by (sc := defScope st_law) (by decide +kernel), fun _ _ _ _ _ => rfl, fun A outer s H E f c' hr tk => pd_meth rfl (pd_var (pv 4)) e.ct_Walk e.cl_Walk s_9 e.M_Walk_repeated (ok_Walk_repeated e) (hr.mono (by decide)) e.b_Walk_repeated tk (pda_cons (pd_var (pv 5)) (pda_nil))⟩ (lamsOk_cons (n0 := "law.2") rfl ⟨by exact LamX.lamS_by (sc := defScope st_law) (by decide +kernel), fun _ _ _ _ _ => rfl, fun A outer s H E f c' hr tk => pd_meth rfl (pd_var (pv 4)) e.ct_Walk e.cl_Walk s_9 e.M_Walk_repeated (ok_Walk_repeated e) (hr.mono (by decide)) e.b_Walk_repeated tk (pda_cons (pd_neg (pd_int)) (pda_nil))⟩ (lamsOk_nil)))) (fun w => (bl__law_refused (e.sw _ _)).mono (by decide)) (i := 0) rfl (.inl rfl) (hr.mono (by decide)) (by rfl) e.m__law_refused e.b__law_refused tk (pda_cons (pd_lam (T := T_law e0 s.heap.objs.size) (glam_of e.tabs rfl (fun _ _ _ => Iff.rfl)) e.tb_law (hcd.symm.trans e.cd_law) rfl rfl rfl (by exact LamX.lamS_by (sc := defScope st_law) (by decide +kernel)) rfl) (pda_nil))) (pd_tup (pda_cons (pd_str s_6) (pda_cons (pd_var (pv 5)) (pda_nil)))) (nomark _)) (pdss_one (pds_ret (pd_bl))) (pdss_nil)))))
    (pdss_one (pds_if (ptd_cmp (opd_ne e.kk hr.units) (pd_callL (k := 12) (T := T_law e0 s.heap.objs.size) (body := b__law_refused) rfl e.F__law_refused sc__law_refused rfl rfl (fun _ _ _ z => z) rfl rfl (lamsOk_cons (n0 := "law.0") rfl ⟨by exact LamX.lamS_by (sc := defScope st_law) (by decide +kernel), fun _ _ _ _ _ => rfl, fun A outer s H E f c' hr tk => pd_meth rfl (pd_var (pv 4)) e.ct_Walk e.cl_Walk s_24 e.M_Walk_turned (ok_Walk_turned e) (hr.mono (by decide)) e.b_Walk_turned tk (pda_cons (pd_var (pv 5)) (pda_nil))⟩ (lamsOk_cons (n0 := "law.1") rfl ⟨by exact LamX.lamS_by (sc := defScope st_law) (by decide +kernel), fun _ _ _ _ _ => rfl, fun A outer s H E f c' hr tk => pd_meth rfl (pd_var (pv 4)) e.ct_Walk e.cl_Walk s_9 e.M_Walk_repeated (ok_Walk_repeated e) (hr.mono (by decide)) e.b_Walk_repeated tk (pda_cons (pd_var (pv 5)) (pda_nil))⟩ (lamsOk_cons (n0 := "law.2") rfl ⟨by exact LamX.lamS_by (sc := defScope st_law) (by decide +kernel), fun _ _ _ _ _ => rfl, fun A outer s H E f c' hr tk => pd_meth rfl (pd_var (pv 4)) e.ct_Walk e.cl_Walk s_9 e.M_Walk_repeated (ok_Walk_repeated e) (hr.mono (by decide)) e.b_Walk_repeated tk (pda_cons (pd_neg (pd_int)) (pda_nil))⟩ (lamsOk_nil)))) (fun w => (bl__law_refused (e.sw _ _)).mono (by decide)) (i := 0) rfl (.inl rfl) (hr.mono (by decide)) (by rfl) e.m__law_refused e.b__law_refused tk (pda_cons (pd_lam (T := T_law e0 s.heap.objs.size) (glam_of e.tabs rfl (fun _ _ _ => Iff.rfl)) e.tb_law (hcd.symm.trans e.cd_law) rfl rfl rfl (by exact LamX.lamS_by (sc := defScope st_law) (by decide +kernel)) rfl) (pda_nil))) (pd_tup (pda_cons (pd_str s_6) (pda_cons (pd_neg (pd_int)) (pda_nil)))) (nomark _)) (pdss_one (pds_ret (pd_bl))) (pdss_nil))))))))
    (pdss_one (pds_ret (pd_call (ok__law_bounds_right e) (hr.mono (by decide)) (by rfl) e.m__law_bounds_right e.F__law_bounds_right.kp e.b__law_bounds_right tk (pda_cons (pd_var (pv 1)) (pda_nil))))))
end
theorem all_mk {l : PySem.W.OpenLaw} {w : World} {q : Program} {K : PySem.W.Frag} {h : Heap} {mg : Str → Option Value} {fa : Addr} {C_Place : Addr} {C_Walk : Addr} {C_BadNumber : Addr} {fI_BadNumber NS_BadNumber cda_BadNumber cc_BadNumber : Addr} {xnm_BadNumber xq_BadNumber xfile_BadNumber : Str} {xbs_BadNumber xbm_BadNumber xsub_BadNumber : List Value} {xsn_BadNumber : List Str} {xab_BadNumber : Bool} {xcol_BadNumber : Option Bool} {xdd_BadNumber : Option Addr} {xk0_BadNumber xk1_BadNumber xk2_BadNumber xk3_BadNumber xk5_BadNumber : Option Value} {xoc_BadNumber xkV_BadNumber xdoc_BadNumber xpm_BadNumber xct_BadNumber xccl_BadNumber xcl_BadNumber : Value} {xod_BadNumber xan_BadNumber xcdd_BadNumber xcld_BadNumber : Option Addr} {xosl_BadNumber xccs_BadNumber xcsl_BadNumber : Array (Option Value)} {xvs_BadNumber : Array Value} {xtf_BadNumber : Tok} {C_BadWord : Addr} {fI_BadWord NS_BadWord cda_BadWord cc_BadWord : Addr} {xnm_BadWord xq_BadWord xfile_BadWord : Str} {xbs_BadWord xbm_BadWord xsub_BadWord : List Value} {xsn_BadWord : List Str} {xab_BadWord : Bool} {xcol_BadWord : Option Bool} {xdd_BadWord : Option Addr} {xk0_BadWord xk1_BadWord xk2_BadWord xk3_BadWord xk5_BadWord : Option Value} {xoc_BadWord xkV_BadWord xdoc_BadWord xpm_BadWord xct_BadWord xccl_BadWord xcl_BadWord : Value} {xod_BadWord xan_BadWord xcdd_BadWord xcld_BadWord : Option Addr} {xosl_BadWord xccs_BadWord xcsl_BadWord : Array (Option Value)} {xvs_BadWord : Array Value} {xtf_BadWord : Tok} {C_TooMany : Addr} {fI_TooMany NS_TooMany cda_TooMany cc_TooMany : Addr} {xnm_TooMany xq_TooMany xfile_TooMany : Str} {xbs_TooMany xbm_TooMany xsub_TooMany : List Value} {xsn_TooMany : List Str} {xab_TooMany : Bool} {xcol_TooMany : Option Bool} {xdd_TooMany : Option Addr} {xk0_TooMany xk1_TooMany xk2_TooMany xk3_TooMany xk5_TooMany : Option Value} {xoc_TooMany xkV_TooMany xdoc_TooMany xpm_TooMany xct_TooMany xccl_TooMany xcl_TooMany : Value} {xod_TooMany xan_TooMany xcdd_TooMany xcld_TooMany : Option Addr} {xosl_TooMany xccs_TooMany xcsl_TooMany : Array (Option Value)} {xvs_TooMany : Array Value} {xtf_TooMany : Tok} {a_merged : Addr} {od_merged an_merged : Option Addr} {sl_merged : Array (Option Value)} {oc_merged kV_merged dc_merged pm_merged cd_merged ct_merged : Value} {a_is_list : Addr} {od_is_list an_is_list : Option Addr} {sl_is_list : Array (Option Value)} {oc_is_list kV_is_list dc_is_list pm_is_list cd_is_list ct_is_list : Value} {a_is_integer : Addr} {od_is_integer an_is_integer : Option Addr} {sl_is_integer : Array (Option Value)} {oc_is_integer kV_is_integer dc_is_integer pm_is_integer cd_is_integer ct_is_integer : Value} {a_is_whole : Addr} {od_is_whole an_is_whole : Option Addr} {sl_is_whole : Array (Option Value)} {oc_is_whole kV_is_whole dc_is_whole pm_is_whole cd_is_whole ct_is_whole : Value} {a_is_pair : Addr} {od_is_pair an_is_pair : Option Addr} {sl_is_pair : Array (Option Value)} {oc_is_pair kV_is_pair dc_is_pair pm_is_pair cd_is_pair ct_is_pair : Value} {a_pairs_told : Addr} {od_pairs_told an_pairs_told : Option Addr} {sl_pairs_told : Array (Option Value)} {oc_pairs_told kV_pairs_told dc_pairs_told pm_pairs_told cd_pairs_told ct_pairs_told : Value} {a_WalkX_initX : Addr} {od_WalkX_initX an_WalkX_initX : Option Addr} {sl_WalkX_initX : Array (Option Value)} {oc_WalkX_initX kV_WalkX_initX dc_WalkX_initX pm_WalkX_initX cd_WalkX_initX ct_WalkX_initX : Value} {a_Walk_length : Addr} {od_Walk_length an_Walk_length : Option Addr} {sl_Walk_length : Array (Option Value)} {oc_Walk_length kV_Walk_length dc_Walk_length pm_Walk_length cd_Walk_length ct_Walk_length : Value} {p_Walk_length : Addr} {pq_Walk_length : List Value} {a_Walk_repeated : Addr} {od_Walk_repeated an_Walk_repeated : Option Addr} {sl_Walk_repeated : Array (Option Value)} {oc_Walk_repeated kV_Walk_repeated dc_Walk_repeated pm_Walk_repeated cd_Walk_repeated ct_Walk_repeated : Value} {a__law_draw : Addr} {od__law_draw an__law_draw : Option Addr} {sl__law_draw : Array (Option Value)} {oc__law_draw kV__law_draw dc__law_draw pm__law_draw cd__law_draw ct__law_draw : Value} {a__law_great : Addr} {od__law_great an__law_great : Option Addr} {sl__law_great : Array (Option Value)} {oc__law_great kV__law_great dc__law_great pm__law_great cd__law_great ct__law_great : Value} {a__law_refused : Addr} {od__law_refused an__law_refused : Option Addr} {sl__law_refused : Array (Option Value)} {oc__law_refused kV__law_refused dc__law_refused pm__law_refused cd__law_refused ct__law_refused : Value} {a__law_bounds_right : Addr} {od__law_bounds_right an__law_bounds_right : Option Addr} {sl__law_bounds_right : Array (Option Value)} {oc__law_bounds_right kV__law_bounds_right dc__law_bounds_right pm__law_bounds_right  ct__law_bounds_right : Value} {tc__law_bounds_right P__law_bounds_right : Addr} {tcl__law_bounds_right : Value} {tdd__law_bounds_right : Option Addr} {tvs__law_bounds_right : Array Value} {tsl__law_bounds_right : Array (Option Value)} {a__law_pick : Addr} {od__law_pick an__law_pick : Option Addr} {sl__law_pick : Array (Option Value)} {oc__law_pick kV__law_pick dc__law_pick pm__law_pick cd__law_pick ct__law_pick : Value} {a__law_pairs : Addr} {od__law_pairs an__law_pairs : Option Addr} {sl__law_pairs : Array (Option Value)} {oc__law_pairs kV__law_pairs dc__law_pairs pm__law_pairs cd__law_pairs ct__law_pairs : Value} {a__law_pen : Addr} {od__law_pen an__law_pen : Option Addr} {sl__law_pen : Array (Option Value)} {oc__law_pen kV__law_pen dc__law_pen pm__law_pen cd__law_pen ct__law_pen : Value} {a_PlaceX_eqX : Addr} {od_PlaceX_eqX an_PlaceX_eqX : Option Addr} {sl_PlaceX_eqX : Array (Option Value)} {oc_PlaceX_eqX kV_PlaceX_eqX dc_PlaceX_eqX pm_PlaceX_eqX cd_PlaceX_eqX ct_PlaceX_eqX : Value} {a_PlaceX_initX : Addr} {od_PlaceX_initX an_PlaceX_initX : Option Addr} {sl_PlaceX_initX : Array (Option Value)} {oc_PlaceX_initX kV_PlaceX_initX dc_PlaceX_initX pm_PlaceX_initX cd_PlaceX_initX ct_PlaceX_initX : Value} {a_pairs_below : Addr} {od_pairs_below an_pairs_below : Option Addr} {sl_pairs_below : Array (Option Value)} {oc_pairs_below kV_pairs_below dc_pairs_below pm_pairs_below cd_pairs_below ct_pairs_below : Value} {a_Place_power : Addr} {od_Place_power an_Place_power : Option Addr} {sl_Place_power : Array (Option Value)} {oc_Place_power kV_Place_power dc_Place_power pm_Place_power cd_Place_power ct_Place_power : Value} {a_WalkX_eqX : Addr} {od_WalkX_eqX an_WalkX_eqX : Option Addr} {sl_WalkX_eqX : Array (Option Value)} {oc_WalkX_eqX kV_WalkX_eqX dc_WalkX_eqX pm_WalkX_eqX cd_WalkX_eqX ct_WalkX_eqX : Value} {a_Walk_letters : Addr} {od_Walk_letters an_Walk_letters : Option Addr} {sl_Walk_letters : Array (Option Value)} {oc_Walk_letters kV_Walk_letters dc_Walk_letters pm_Walk_letters cd_Walk_letters ct_Walk_letters : Value} {a_gone_on : Addr} {od_gone_on an_gone_on : Option Addr} {sl_gone_on : Array (Option Value)} {oc_gone_on kV_gone_on dc_gone_on pm_gone_on cd_gone_on ct_gone_on : Value} {a_Walk_spots : Addr} {od_Walk_spots an_Walk_spots : Option Addr} {sl_Walk_spots : Array (Option Value)} {oc_Walk_spots kV_Walk_spots dc_Walk_spots pm_Walk_spots cd_Walk_spots ct_Walk_spots : Value} {a_Walk_place : Addr} {od_Walk_place an_Walk_place : Option Addr} {sl_Walk_place : Array (Option Value)} {oc_Walk_place kV_Walk_place dc_Walk_place pm_Walk_place cd_Walk_place ct_Walk_place : Value} {a__law_runs_of : Addr} {od__law_runs_of an__law_runs_of : Option Addr} {sl__law_runs_of : Array (Option Value)} {oc__law_runs_of kV__law_runs_of dc__law_runs_of pm__law_runs_of cd__law_runs_of ct__law_runs_of : Value} {a__law_repeated_right : Addr} {od__law_repeated_right an__law_repeated_right : Option Addr} {sl__law_repeated_right : Array (Option Value)} {oc__law_repeated_right kV__law_repeated_right dc__law_repeated_right pm__law_repeated_right cd__law_repeated_right ct__law_repeated_right : Value} {a_Walk_mirrored : Addr} {od_Walk_mirrored an_Walk_mirrored : Option Addr} {sl_Walk_mirrored : Array (Option Value)} {oc_Walk_mirrored kV_Walk_mirrored dc_Walk_mirrored pm_Walk_mirrored cd_Walk_mirrored ct_Walk_mirrored : Value} {a_turned_letter : Addr} {od_turned_letter an_turned_letter : Option Addr} {sl_turned_letter : Array (Option Value)} {oc_turned_letter kV_turned_letter dc_turned_letter pm_turned_letter cd_turned_letter ct_turned_letter : Value} {a_Walk_turned : Addr} {od_Walk_turned an_Walk_turned : Option Addr} {sl_Walk_turned : Array (Option Value)} {oc_Walk_turned kV_Walk_turned dc_Walk_turned pm_Walk_turned cd_Walk_turned ct_Walk_turned : Value} {a__law_ground : Addr} {od__law_ground an__law_ground : Option Addr} {sl__law_ground : Array (Option Value)} {oc__law_ground kV__law_ground dc__law_ground pm__law_ground cd__law_ground ct__law_ground : Value} {a__law_signed : Addr} {od__law_signed an__law_signed : Option Addr} {sl__law_signed : Array (Option Value)} {oc__law_signed kV__law_signed dc__law_signed pm__law_signed cd__law_signed ct__law_signed : Value} {a__law_turned_right : Addr} {od__law_turned_right an__law_turned_right : Option Addr} {sl__law_turned_right : Array (Option Value)} {oc__law_turned_right kV__law_turned_right dc__law_turned_right pm__law_turned_right cd__law_turned_right ct__law_turned_right : Value} {a__law_walk : Addr} {od__law_walk an__law_walk : Option Addr} {sl__law_walk : Array (Option Value)} {oc__law_walk kV__law_walk dc__law_walk pm__law_walk cd__law_walk ct__law_walk : Value} {a_law : Addr} {od_law an_law : Option Addr} {sl_law : Array (Option Value)} {oc_law kV_law dc_law pm_law  ct_law : Value} {tc_law P_law : Addr} {tcl_law : Value} {tdd_law : Option Addr} {tvs_law : Array Value} {tsl_law : Array (Option Value)} {kv_LETTERS : Value} {kv_MOST_LETTERS : Value} {kv_MOST_RUNS : Value} (X : K.In h) (G0 : h.Ns mainGlobals mg) (hfa : mg "law" = some (.ref fa)) (TT : TabsT q K h)
    (aC_Place : PySem.W.nsIn K mainGlobals "Place" = some (some (.ref C_Place)))
    (cB_Place : clsB K C_Place ["x", "y", "area"] = true)
    (aC_Walk : PySem.W.nsIn K mainGlobals "Walk" = some (some (.ref C_Walk)))
    (cB_Walk : clsB K C_Walk ["runs"] = true)
    (cc_Place_Walk : PySem.W.kitOne K (.ref C_Place) (.ref C_Walk) = some false)
    (cc_Walk_Place : PySem.W.kitOne K (.ref C_Walk) (.ref C_Place) = some false)
    (aC_BadNumber : PySem.W.nsIn K mainGlobals "BadNumber" = some (some (.ref C_BadNumber)))
    (xl_BadNumber : K.lookup C_BadNumber = some (excClassObj xnm_BadNumber xq_BadNumber C_BadNumber NS_BadNumber xbs_BadNumber xbm_BadNumber true xsn_BadNumber xsub_BadNumber xab_BadNumber xcol_BadNumber xdd_BadNumber xk0_BadNumber xk1_BadNumber xk2_BadNumber xk3_BadNumber xk5_BadNumber "ValueError.__new__"))
    (xr_BadNumber : PySem.HandSPX.refsVE xbm_BadNumber = true)
    (xi_BadNumber : PySem.W.findIn K (.ref C_BadNumber) "__init__" = some (some (.ref fI_BadNumber)))
    (xf_BadNumber : K.lookup fI_BadNumber = some ⟨xoc_BadNumber, xod_BadNumber, .func (PySem.W.fnX "__init__" "BadNumber.__init__" (defArgs xst_BadNumber) (defBody xst_BadNumber) (defScope xst_BadNumber) [("__class__", cc_BadNumber)] .none xkV_BadNumber xdoc_BadNumber xpm_BadNumber xan_BadNumber (.ref cda_BadNumber) xct_BadNumber), xosl_BadNumber⟩)
    (xc_BadNumber : PySem.W.codeIn K (.ref cda_BadNumber) "BadNumber.__init__" = true)
    (xd_BadNumber : K.lookup cda_BadNumber = some ⟨xccl_BadNumber, xcdd_BadNumber, .fields xvs_BadNumber, xccs_BadNumber⟩)
    (xv_BadNumber : xvs_BadNumber[2]? = some (.str xfile_BadNumber xtf_BadNumber))
    (xe_BadNumber : ((l.prog.main.file : Str) == xfile_BadNumber) = true)
    (xk_BadNumber : K.lookup cc_BadNumber = some ⟨xcl_BadNumber, xcld_BadNumber, .cell (some (.ref C_BadNumber)), xcsl_BadNumber⟩)
    (xB_BadNumber : xcB K C_BadNumber fI_BadNumber "value" = true)
    (aC_BadWord : PySem.W.nsIn K mainGlobals "BadWord" = some (some (.ref C_BadWord)))
    (xl_BadWord : K.lookup C_BadWord = some (excClassObj xnm_BadWord xq_BadWord C_BadWord NS_BadWord xbs_BadWord xbm_BadWord true xsn_BadWord xsub_BadWord xab_BadWord xcol_BadWord xdd_BadWord xk0_BadWord xk1_BadWord xk2_BadWord xk3_BadWord xk5_BadWord "ValueError.__new__"))
    (xr_BadWord : PySem.HandSPX.refsVE xbm_BadWord = true)
    (xi_BadWord : PySem.W.findIn K (.ref C_BadWord) "__init__" = some (some (.ref fI_BadWord)))
    (xf_BadWord : K.lookup fI_BadWord = some ⟨xoc_BadWord, xod_BadWord, .func (PySem.W.fnX "__init__" "BadWord.__init__" (defArgs xst_BadWord) (defBody xst_BadWord) (defScope xst_BadWord) [("__class__", cc_BadWord)] .none xkV_BadWord xdoc_BadWord xpm_BadWord xan_BadWord (.ref cda_BadWord) xct_BadWord), xosl_BadWord⟩)
    (xc_BadWord : PySem.W.codeIn K (.ref cda_BadWord) "BadWord.__init__" = true)
    (xd_BadWord : K.lookup cda_BadWord = some ⟨xccl_BadWord, xcdd_BadWord, .fields xvs_BadWord, xccs_BadWord⟩)
    (xv_BadWord : xvs_BadWord[2]? = some (.str xfile_BadWord xtf_BadWord))
    (xe_BadWord : ((l.prog.main.file : Str) == xfile_BadWord) = true)
    (xk_BadWord : K.lookup cc_BadWord = some ⟨xcl_BadWord, xcld_BadWord, .cell (some (.ref C_BadWord)), xcsl_BadWord⟩)
    (xB_BadWord : xcB K C_BadWord fI_BadWord "value" = true)
    (aC_TooMany : PySem.W.nsIn K mainGlobals "TooMany" = some (some (.ref C_TooMany)))
    (xl_TooMany : K.lookup C_TooMany = some (excClassObj xnm_TooMany xq_TooMany C_TooMany NS_TooMany xbs_TooMany xbm_TooMany true xsn_TooMany xsub_TooMany xab_TooMany xcol_TooMany xdd_TooMany xk0_TooMany xk1_TooMany xk2_TooMany xk3_TooMany xk5_TooMany "ValueError.__new__"))
    (xr_TooMany : PySem.HandSPX.refsVE xbm_TooMany = true)
    (xi_TooMany : PySem.W.findIn K (.ref C_TooMany) "__init__" = some (some (.ref fI_TooMany)))
    (xf_TooMany : K.lookup fI_TooMany = some ⟨xoc_TooMany, xod_TooMany, .func (PySem.W.fnX "__init__" "TooMany.__init__" (defArgs xst_TooMany) (defBody xst_TooMany) (defScope xst_TooMany) [("__class__", cc_TooMany)] .none xkV_TooMany xdoc_TooMany xpm_TooMany xan_TooMany (.ref cda_TooMany) xct_TooMany), xosl_TooMany⟩)
    (xc_TooMany : PySem.W.codeIn K (.ref cda_TooMany) "TooMany.__init__" = true)
    (xd_TooMany : K.lookup cda_TooMany = some ⟨xccl_TooMany, xcdd_TooMany, .fields xvs_TooMany, xccs_TooMany⟩)
    (xv_TooMany : xvs_TooMany[2]? = some (.str xfile_TooMany xtf_TooMany))
    (xe_TooMany : ((l.prog.main.file : Str) == xfile_TooMany) = true)
    (xk_TooMany : K.lookup cc_TooMany = some ⟨xcl_TooMany, xcld_TooMany, .cell (some (.ref C_TooMany)), xcsl_TooMany⟩)
    (xB_TooMany : xcB K C_TooMany fI_TooMany "most" = true)
    (xtop : (l.prog.main.scope.names.lookup ("super" : Str)).isSome = false)
    (xsup : PySem.W.nsIn K mainGlobals "super" = some none)
    (xm_BadNumber_BadNumber : PySem.W.exmOne K (.ref C_BadNumber) (.ref C_BadNumber) = some true)
    (xm_BadNumber_TooMany : PySem.W.exmOne K (.ref C_BadNumber) (.ref C_TooMany) = some false)
    (xm_BadWord_BadNumber : PySem.W.exmOne K (.ref C_BadWord) (.ref C_BadNumber) = some false)
    (xm_BadWord_TooMany : PySem.W.exmOne K (.ref C_BadWord) (.ref C_TooMany) = some false)
    (xm_TooMany_BadNumber : PySem.W.exmOne K (.ref C_TooMany) (.ref C_BadNumber) = some false)
    (xm_TooMany_TooMany : PySem.W.exmOne K (.ref C_TooMany) (.ref C_TooMany) = some true)
    (a1_merged : PySem.W.nsIn K mainGlobals "merged" = some (some (.ref a_merged)))
    (l1_merged : K.lookup a_merged = some ⟨oc_merged, od_merged, .func (PySem.W.fnOf "merged" "merged" (defArgs st_merged) (defBody st_merged) (defScope st_merged) .none kV_merged dc_merged pm_merged an_merged cd_merged ct_merged), sl_merged⟩)
    (c1_merged : PySem.W.codeIn K cd_merged "merged" = true)
    (k1_merged : PySem.W.keepIn K (.ref a_merged) = true)
    (a1_is_list : PySem.W.nsIn K mainGlobals "is_list" = some (some (.ref a_is_list)))
    (l1_is_list : K.lookup a_is_list = some ⟨oc_is_list, od_is_list, .func (PySem.W.fnOf "is_list" "is_list" (defArgs st_is_list) (defBody st_is_list) (defScope st_is_list) .none kV_is_list dc_is_list pm_is_list an_is_list cd_is_list ct_is_list), sl_is_list⟩)
    (c1_is_list : PySem.W.codeIn K cd_is_list "is_list" = true)
    (k1_is_list : PySem.W.keepIn K (.ref a_is_list) = true)
    (a1_is_integer : PySem.W.nsIn K mainGlobals "is_integer" = some (some (.ref a_is_integer)))
    (l1_is_integer : K.lookup a_is_integer = some ⟨oc_is_integer, od_is_integer, .func (PySem.W.fnOf "is_integer" "is_integer" (defArgs st_is_integer) (defBody st_is_integer) (defScope st_is_integer) .none kV_is_integer dc_is_integer pm_is_integer an_is_integer cd_is_integer ct_is_integer), sl_is_integer⟩)
    (c1_is_integer : PySem.W.codeIn K cd_is_integer "is_integer" = true)
    (k1_is_integer : PySem.W.keepIn K (.ref a_is_integer) = true)
    (a1_is_whole : PySem.W.nsIn K mainGlobals "is_whole" = some (some (.ref a_is_whole)))
    (l1_is_whole : K.lookup a_is_whole = some ⟨oc_is_whole, od_is_whole, .func (PySem.W.fnOf "is_whole" "is_whole" (defArgs st_is_whole) (defBody st_is_whole) (defScope st_is_whole) .none kV_is_whole dc_is_whole pm_is_whole an_is_whole cd_is_whole ct_is_whole), sl_is_whole⟩)
    (c1_is_whole : PySem.W.codeIn K cd_is_whole "is_whole" = true)
    (k1_is_whole : PySem.W.keepIn K (.ref a_is_whole) = true)
    (a1_is_pair : PySem.W.nsIn K mainGlobals "is_pair" = some (some (.ref a_is_pair)))
    (l1_is_pair : K.lookup a_is_pair = some ⟨oc_is_pair, od_is_pair, .func (PySem.W.fnOf "is_pair" "is_pair" (defArgs st_is_pair) (defBody st_is_pair) (defScope st_is_pair) .none kV_is_pair dc_is_pair pm_is_pair an_is_pair cd_is_pair ct_is_pair), sl_is_pair⟩)
    (c1_is_pair : PySem.W.codeIn K cd_is_pair "is_pair" = true)
    (k1_is_pair : PySem.W.keepIn K (.ref a_is_pair) = true)
    (a1_pairs_told : PySem.W.nsIn K mainGlobals "pairs_told" = some (some (.ref a_pairs_told)))
    (l1_pairs_told : K.lookup a_pairs_told = some ⟨oc_pairs_told, od_pairs_told, .func (PySem.W.fnOf "pairs_told" "pairs_told" (defArgs st_pairs_told) (defBody st_pairs_told) (defScope st_pairs_told) .none kV_pairs_told dc_pairs_told pm_pairs_told an_pairs_told cd_pairs_told ct_pairs_told), sl_pairs_told⟩)
    (c1_pairs_told : PySem.W.codeIn K cd_pairs_told "pairs_told" = true)
    (k1_pairs_told : PySem.W.keepIn K (.ref a_pairs_told) = true)
    (a1_WalkX_initX : PySem.W.findIn K (.ref C_Walk) "__init__" = some (some (.ref a_WalkX_initX)))
    (i1_WalkX_initX : PySem.W.isFn K (.ref a_WalkX_initX) = true)
    (l1_WalkX_initX : K.lookup a_WalkX_initX = some ⟨oc_WalkX_initX, od_WalkX_initX, .func (PySem.W.fnOf "__init__" "Walk.__init__" (defArgs st_WalkX_initX) (defBody st_WalkX_initX) (defScope st_WalkX_initX) .none kV_WalkX_initX dc_WalkX_initX pm_WalkX_initX an_WalkX_initX cd_WalkX_initX ct_WalkX_initX), sl_WalkX_initX⟩)
    (c1_WalkX_initX : PySem.W.codeIn K cd_WalkX_initX "Walk.__init__" = true)
    (k1_WalkX_initX : PySem.W.keepIn K (.ref a_WalkX_initX) = true)
    (pa_Walk_length : PySem.W.findIn K (.ref C_Walk) "length" = some (some (.ref p_Walk_length)))
    (pg_Walk_length : PySem.W.specialIn K (.ref p_Walk_length) "__get__" = some (some (.builtin "property.__get__")))
    (pt_Walk_length : PySem.W.takesIn K (.ref p_Walk_length) = some true)
    (pr_Walk_length : PySem.W.recIn K p_Walk_length "property" = some (.ref a_Walk_length :: pq_Walk_length))
    (l1_Walk_length : K.lookup a_Walk_length = some ⟨oc_Walk_length, od_Walk_length, .func (PySem.W.fnOf "length" "Walk.length" (defArgs st_Walk_length) (defBody st_Walk_length) (defScope st_Walk_length) .none kV_Walk_length dc_Walk_length pm_Walk_length an_Walk_length cd_Walk_length ct_Walk_length), sl_Walk_length⟩)
    (c1_Walk_length : PySem.W.codeIn K cd_Walk_length "Walk.length" = true)
    (k1_Walk_length : PySem.W.keepIn K (.ref a_Walk_length) = true)
    (a1_Walk_repeated : PySem.W.findIn K (.ref C_Walk) "repeated" = some (some (.ref a_Walk_repeated)))
    (i1_Walk_repeated : PySem.W.isFn K (.ref a_Walk_repeated) = true)
    (l1_Walk_repeated : K.lookup a_Walk_repeated = some ⟨oc_Walk_repeated, od_Walk_repeated, .func (PySem.W.fnOf "repeated" "Walk.repeated" (defArgs st_Walk_repeated) (defBody st_Walk_repeated) (defScope st_Walk_repeated) .none kV_Walk_repeated dc_Walk_repeated pm_Walk_repeated an_Walk_repeated cd_Walk_repeated ct_Walk_repeated), sl_Walk_repeated⟩)
    (c1_Walk_repeated : PySem.W.codeIn K cd_Walk_repeated "Walk.repeated" = true)
    (k1_Walk_repeated : PySem.W.keepIn K (.ref a_Walk_repeated) = true)
    (a1__law_draw : PySem.W.nsIn K mainGlobals "_law_draw" = some (some (.ref a__law_draw)))
    (l1__law_draw : K.lookup a__law_draw = some ⟨oc__law_draw, od__law_draw, .func (PySem.W.fnOf "_law_draw" "_law_draw" (defArgs st__law_draw) (defBody st__law_draw) (defScope st__law_draw) .none kV__law_draw dc__law_draw pm__law_draw an__law_draw cd__law_draw ct__law_draw), sl__law_draw⟩)
    (c1__law_draw : PySem.W.codeIn K cd__law_draw "_law_draw" = true)
    (k1__law_draw : PySem.W.keepIn K (.ref a__law_draw) = true)
    (a1__law_great : PySem.W.nsIn K mainGlobals "_law_great" = some (some (.ref a__law_great)))
    (l1__law_great : K.lookup a__law_great = some ⟨oc__law_great, od__law_great, .func (PySem.W.fnOf "_law_great" "_law_great" (defArgs st__law_great) (defBody st__law_great) (defScope st__law_great) .none kV__law_great dc__law_great pm__law_great an__law_great cd__law_great ct__law_great), sl__law_great⟩)
    (c1__law_great : PySem.W.codeIn K cd__law_great "_law_great" = true)
    (k1__law_great : PySem.W.keepIn K (.ref a__law_great) = true)
    (a1__law_refused : PySem.W.nsIn K mainGlobals "_law_refused" = some (some (.ref a__law_refused)))
    (l1__law_refused : K.lookup a__law_refused = some ⟨oc__law_refused, od__law_refused, .func (PySem.W.fnOf "_law_refused" "_law_refused" (defArgs st__law_refused) (defBody st__law_refused) (defScope st__law_refused) .none kV__law_refused dc__law_refused pm__law_refused an__law_refused cd__law_refused ct__law_refused), sl__law_refused⟩)
    (c1__law_refused : PySem.W.codeIn K cd__law_refused "_law_refused" = true)
    (k1__law_refused : PySem.W.keepIn K (.ref a__law_refused) = true)
    (a1__law_bounds_right : PySem.W.nsIn K mainGlobals "_law_bounds_right" = some (some (.ref a__law_bounds_right)))
    (l1__law_bounds_right : K.lookup a__law_bounds_right = some ⟨oc__law_bounds_right, od__law_bounds_right, .func (PySem.W.fnOf "_law_bounds_right" "_law_bounds_right" (defArgs st__law_bounds_right) (defBody st__law_bounds_right) (defScope st__law_bounds_right) .none kV__law_bounds_right dc__law_bounds_right pm__law_bounds_right an__law_bounds_right (.ref tc__law_bounds_right) ct__law_bounds_right), sl__law_bounds_right⟩)
    (c1__law_bounds_right : PySem.W.codeIn K (.ref tc__law_bounds_right) "_law_bounds_right" = true)
    (k1__law_bounds_right : PySem.W.keepIn K (.ref a__law_bounds_right) = true)
    (tl__law_bounds_right : K.lookup tc__law_bounds_right = some ⟨tcl__law_bounds_right, tdd__law_bounds_right, .fields tvs__law_bounds_right, tsl__law_bounds_right⟩)
    (tv__law_bounds_right : tvs__law_bounds_right[11]? = some (.ref P__law_bounds_right))
    (tq__law_bounds_right : PySem.W.tabIn K "_law_bounds_right" = some (tc__law_bounds_right, P__law_bounds_right))
    (tn__law_bounds_right : K.lookup P__law_bounds_right = none)
    (tr__law_bounds_right : ((recsOf q).find? (fun e => e.name == ("_law_bounds_right" : Str))).isSome = true)
    (a1__law_pick : PySem.W.nsIn K mainGlobals "_law_pick" = some (some (.ref a__law_pick)))
    (l1__law_pick : K.lookup a__law_pick = some ⟨oc__law_pick, od__law_pick, .func (PySem.W.fnOf "_law_pick" "_law_pick" (defArgs st__law_pick) (defBody st__law_pick) (defScope st__law_pick) .none kV__law_pick dc__law_pick pm__law_pick an__law_pick cd__law_pick ct__law_pick), sl__law_pick⟩)
    (c1__law_pick : PySem.W.codeIn K cd__law_pick "_law_pick" = true)
    (k1__law_pick : PySem.W.keepIn K (.ref a__law_pick) = true)
    (a1__law_pairs : PySem.W.nsIn K mainGlobals "_law_pairs" = some (some (.ref a__law_pairs)))
    (l1__law_pairs : K.lookup a__law_pairs = some ⟨oc__law_pairs, od__law_pairs, .func (PySem.W.fnOf "_law_pairs" "_law_pairs" (defArgs st__law_pairs) (defBody st__law_pairs) (defScope st__law_pairs) .none kV__law_pairs dc__law_pairs pm__law_pairs an__law_pairs cd__law_pairs ct__law_pairs), sl__law_pairs⟩)
    (c1__law_pairs : PySem.W.codeIn K cd__law_pairs "_law_pairs" = true)
    (k1__law_pairs : PySem.W.keepIn K (.ref a__law_pairs) = true)
    (a1__law_pen : PySem.W.nsIn K mainGlobals "_law_pen" = some (some (.ref a__law_pen)))
    (l1__law_pen : K.lookup a__law_pen = some ⟨oc__law_pen, od__law_pen, .func (PySem.W.fnOf "_law_pen" "_law_pen" (defArgs st__law_pen) (defBody st__law_pen) (defScope st__law_pen) .none kV__law_pen dc__law_pen pm__law_pen an__law_pen cd__law_pen ct__law_pen), sl__law_pen⟩)
    (c1__law_pen : PySem.W.codeIn K cd__law_pen "_law_pen" = true)
    (k1__law_pen : PySem.W.keepIn K (.ref a__law_pen) = true)
    (a1_PlaceX_eqX : PySem.W.findIn K (.ref C_Place) "__eq__" = some (some (.ref a_PlaceX_eqX)))
    (i1_PlaceX_eqX : PySem.W.isFn K (.ref a_PlaceX_eqX) = true)
    (l1_PlaceX_eqX : K.lookup a_PlaceX_eqX = some ⟨oc_PlaceX_eqX, od_PlaceX_eqX, .func (PySem.W.fnOf "__eq__" "Place.__eq__" (defArgs st_PlaceX_eqX) (defBody st_PlaceX_eqX) (defScope st_PlaceX_eqX) .none kV_PlaceX_eqX dc_PlaceX_eqX pm_PlaceX_eqX an_PlaceX_eqX cd_PlaceX_eqX ct_PlaceX_eqX), sl_PlaceX_eqX⟩)
    (c1_PlaceX_eqX : PySem.W.codeIn K cd_PlaceX_eqX "Place.__eq__" = true)
    (k1_PlaceX_eqX : PySem.W.keepIn K (.ref a_PlaceX_eqX) = true)
    (a1_PlaceX_initX : PySem.W.findIn K (.ref C_Place) "__init__" = some (some (.ref a_PlaceX_initX)))
    (i1_PlaceX_initX : PySem.W.isFn K (.ref a_PlaceX_initX) = true)
    (l1_PlaceX_initX : K.lookup a_PlaceX_initX = some ⟨oc_PlaceX_initX, od_PlaceX_initX, .func (PySem.W.fnOf "__init__" "Place.__init__" (defArgs st_PlaceX_initX) (defBody st_PlaceX_initX) (defScope st_PlaceX_initX) .none kV_PlaceX_initX dc_PlaceX_initX pm_PlaceX_initX an_PlaceX_initX cd_PlaceX_initX ct_PlaceX_initX), sl_PlaceX_initX⟩)
    (c1_PlaceX_initX : PySem.W.codeIn K cd_PlaceX_initX "Place.__init__" = true)
    (k1_PlaceX_initX : PySem.W.keepIn K (.ref a_PlaceX_initX) = true)
    (a1_pairs_below : PySem.W.nsIn K mainGlobals "pairs_below" = some (some (.ref a_pairs_below)))
    (l1_pairs_below : K.lookup a_pairs_below = some ⟨oc_pairs_below, od_pairs_below, .func (PySem.W.fnOf "pairs_below" "pairs_below" (defArgs st_pairs_below) (defBody st_pairs_below) (defScope st_pairs_below) .none kV_pairs_below dc_pairs_below pm_pairs_below an_pairs_below cd_pairs_below ct_pairs_below), sl_pairs_below⟩)
    (c1_pairs_below : PySem.W.codeIn K cd_pairs_below "pairs_below" = true)
    (k1_pairs_below : PySem.W.keepIn K (.ref a_pairs_below) = true)
    (a1_Place_power : PySem.W.findIn K (.ref C_Place) "power" = some (some (.ref a_Place_power)))
    (i1_Place_power : PySem.W.isFn K (.ref a_Place_power) = true)
    (l1_Place_power : K.lookup a_Place_power = some ⟨oc_Place_power, od_Place_power, .func (PySem.W.fnOf "power" "Place.power" (defArgs st_Place_power) (defBody st_Place_power) (defScope st_Place_power) .none kV_Place_power dc_Place_power pm_Place_power an_Place_power cd_Place_power ct_Place_power), sl_Place_power⟩)
    (c1_Place_power : PySem.W.codeIn K cd_Place_power "Place.power" = true)
    (k1_Place_power : PySem.W.keepIn K (.ref a_Place_power) = true)
    (a1_WalkX_eqX : PySem.W.findIn K (.ref C_Walk) "__eq__" = some (some (.ref a_WalkX_eqX)))
    (i1_WalkX_eqX : PySem.W.isFn K (.ref a_WalkX_eqX) = true)
    (l1_WalkX_eqX : K.lookup a_WalkX_eqX = some ⟨oc_WalkX_eqX, od_WalkX_eqX, .func (PySem.W.fnOf "__eq__" "Walk.__eq__" (defArgs st_WalkX_eqX) (defBody st_WalkX_eqX) (defScope st_WalkX_eqX) .none kV_WalkX_eqX dc_WalkX_eqX pm_WalkX_eqX an_WalkX_eqX cd_WalkX_eqX ct_WalkX_eqX), sl_WalkX_eqX⟩)
    (c1_WalkX_eqX : PySem.W.codeIn K cd_WalkX_eqX "Walk.__eq__" = true)
    (k1_WalkX_eqX : PySem.W.keepIn K (.ref a_WalkX_eqX) = true)
    (a1_Walk_letters : PySem.W.findIn K (.ref C_Walk) "letters" = some (some (.ref a_Walk_letters)))
    (i1_Walk_letters : PySem.W.isFn K (.ref a_Walk_letters) = true)
    (l1_Walk_letters : K.lookup a_Walk_letters = some ⟨oc_Walk_letters, od_Walk_letters, .func (PySem.W.fnOf "letters" "Walk.letters" (defArgs st_Walk_letters) (defBody st_Walk_letters) (defScope st_Walk_letters) .none kV_Walk_letters dc_Walk_letters pm_Walk_letters an_Walk_letters cd_Walk_letters ct_Walk_letters), sl_Walk_letters⟩)
    (c1_Walk_letters : PySem.W.codeIn K cd_Walk_letters "Walk.letters" = true)
    (k1_Walk_letters : PySem.W.keepIn K (.ref a_Walk_letters) = true)
    (a1_gone_on : PySem.W.nsIn K mainGlobals "gone_on" = some (some (.ref a_gone_on)))
    (l1_gone_on : K.lookup a_gone_on = some ⟨oc_gone_on, od_gone_on, .func (PySem.W.fnOf "gone_on" "gone_on" (defArgs st_gone_on) (defBody st_gone_on) (defScope st_gone_on) .none kV_gone_on dc_gone_on pm_gone_on an_gone_on cd_gone_on ct_gone_on), sl_gone_on⟩)
    (c1_gone_on : PySem.W.codeIn K cd_gone_on "gone_on" = true)
    (k1_gone_on : PySem.W.keepIn K (.ref a_gone_on) = true)
    (a1_Walk_spots : PySem.W.findIn K (.ref C_Walk) "spots" = some (some (.ref a_Walk_spots)))
    (i1_Walk_spots : PySem.W.isFn K (.ref a_Walk_spots) = true)
    (l1_Walk_spots : K.lookup a_Walk_spots = some ⟨oc_Walk_spots, od_Walk_spots, .func (PySem.W.fnOf "spots" "Walk.spots" (defArgs st_Walk_spots) (defBody st_Walk_spots) (defScope st_Walk_spots) .none kV_Walk_spots dc_Walk_spots pm_Walk_spots an_Walk_spots cd_Walk_spots ct_Walk_spots), sl_Walk_spots⟩)
    (c1_Walk_spots : PySem.W.codeIn K cd_Walk_spots "Walk.spots" = true)
    (k1_Walk_spots : PySem.W.keepIn K (.ref a_Walk_spots) = true)
    (a1_Walk_place : PySem.W.findIn K (.ref C_Walk) "place" = some (some (.ref a_Walk_place)))
    (i1_Walk_place : PySem.W.isFn K (.ref a_Walk_place) = true)
    (l1_Walk_place : K.lookup a_Walk_place = some ⟨oc_Walk_place, od_Walk_place, .func (PySem.W.fnOf "place" "Walk.place" (defArgs st_Walk_place) (defBody st_Walk_place) (defScope st_Walk_place) .none kV_Walk_place dc_Walk_place pm_Walk_place an_Walk_place cd_Walk_place ct_Walk_place), sl_Walk_place⟩)
    (c1_Walk_place : PySem.W.codeIn K cd_Walk_place "Walk.place" = true)
    (k1_Walk_place : PySem.W.keepIn K (.ref a_Walk_place) = true)
    (a1__law_runs_of : PySem.W.nsIn K mainGlobals "_law_runs_of" = some (some (.ref a__law_runs_of)))
    (l1__law_runs_of : K.lookup a__law_runs_of = some ⟨oc__law_runs_of, od__law_runs_of, .func (PySem.W.fnOf "_law_runs_of" "_law_runs_of" (defArgs st__law_runs_of) (defBody st__law_runs_of) (defScope st__law_runs_of) .none kV__law_runs_of dc__law_runs_of pm__law_runs_of an__law_runs_of cd__law_runs_of ct__law_runs_of), sl__law_runs_of⟩)
    (c1__law_runs_of : PySem.W.codeIn K cd__law_runs_of "_law_runs_of" = true)
    (k1__law_runs_of : PySem.W.keepIn K (.ref a__law_runs_of) = true)
    (a1__law_repeated_right : PySem.W.nsIn K mainGlobals "_law_repeated_right" = some (some (.ref a__law_repeated_right)))
    (l1__law_repeated_right : K.lookup a__law_repeated_right = some ⟨oc__law_repeated_right, od__law_repeated_right, .func (PySem.W.fnOf "_law_repeated_right" "_law_repeated_right" (defArgs st__law_repeated_right) (defBody st__law_repeated_right) (defScope st__law_repeated_right) .none kV__law_repeated_right dc__law_repeated_right pm__law_repeated_right an__law_repeated_right cd__law_repeated_right ct__law_repeated_right), sl__law_repeated_right⟩)
    (c1__law_repeated_right : PySem.W.codeIn K cd__law_repeated_right "_law_repeated_right" = true)
    (k1__law_repeated_right : PySem.W.keepIn K (.ref a__law_repeated_right) = true)
    (a1_Walk_mirrored : PySem.W.findIn K (.ref C_Walk) "mirrored" = some (some (.ref a_Walk_mirrored)))
    (i1_Walk_mirrored : PySem.W.isFn K (.ref a_Walk_mirrored) = true)
    (l1_Walk_mirrored : K.lookup a_Walk_mirrored = some ⟨oc_Walk_mirrored, od_Walk_mirrored, .func (PySem.W.fnOf "mirrored" "Walk.mirrored" (defArgs st_Walk_mirrored) (defBody st_Walk_mirrored) (defScope st_Walk_mirrored) .none kV_Walk_mirrored dc_Walk_mirrored pm_Walk_mirrored an_Walk_mirrored cd_Walk_mirrored ct_Walk_mirrored), sl_Walk_mirrored⟩)
    (c1_Walk_mirrored : PySem.W.codeIn K cd_Walk_mirrored "Walk.mirrored" = true)
    (k1_Walk_mirrored : PySem.W.keepIn K (.ref a_Walk_mirrored) = true)
    (a1_turned_letter : PySem.W.nsIn K mainGlobals "turned_letter" = some (some (.ref a_turned_letter)))
    (l1_turned_letter : K.lookup a_turned_letter = some ⟨oc_turned_letter, od_turned_letter, .func (PySem.W.fnOf "turned_letter" "turned_letter" (defArgs st_turned_letter) (defBody st_turned_letter) (defScope st_turned_letter) .none kV_turned_letter dc_turned_letter pm_turned_letter an_turned_letter cd_turned_letter ct_turned_letter), sl_turned_letter⟩)
    (c1_turned_letter : PySem.W.codeIn K cd_turned_letter "turned_letter" = true)
    (k1_turned_letter : PySem.W.keepIn K (.ref a_turned_letter) = true)
    (a1_Walk_turned : PySem.W.findIn K (.ref C_Walk) "turned" = some (some (.ref a_Walk_turned)))
    (i1_Walk_turned : PySem.W.isFn K (.ref a_Walk_turned) = true)
    (l1_Walk_turned : K.lookup a_Walk_turned = some ⟨oc_Walk_turned, od_Walk_turned, .func (PySem.W.fnOf "turned" "Walk.turned" (defArgs st_Walk_turned) (defBody st_Walk_turned) (defScope st_Walk_turned) .none kV_Walk_turned dc_Walk_turned pm_Walk_turned an_Walk_turned cd_Walk_turned ct_Walk_turned), sl_Walk_turned⟩)
    (c1_Walk_turned : PySem.W.codeIn K cd_Walk_turned "Walk.turned" = true)
    (k1_Walk_turned : PySem.W.keepIn K (.ref a_Walk_turned) = true)
    (a1__law_ground : PySem.W.nsIn K mainGlobals "_law_ground" = some (some (.ref a__law_ground)))
    (l1__law_ground : K.lookup a__law_ground = some ⟨oc__law_ground, od__law_ground, .func (PySem.W.fnOf "_law_ground" "_law_ground" (defArgs st__law_ground) (defBody st__law_ground) (defScope st__law_ground) .none kV__law_ground dc__law_ground pm__law_ground an__law_ground cd__law_ground ct__law_ground), sl__law_ground⟩)
    (c1__law_ground : PySem.W.codeIn K cd__law_ground "_law_ground" = true)
    (k1__law_ground : PySem.W.keepIn K (.ref a__law_ground) = true)
    (a1__law_signed : PySem.W.nsIn K mainGlobals "_law_signed" = some (some (.ref a__law_signed)))
    (l1__law_signed : K.lookup a__law_signed = some ⟨oc__law_signed, od__law_signed, .func (PySem.W.fnOf "_law_signed" "_law_signed" (defArgs st__law_signed) (defBody st__law_signed) (defScope st__law_signed) .none kV__law_signed dc__law_signed pm__law_signed an__law_signed cd__law_signed ct__law_signed), sl__law_signed⟩)
    (c1__law_signed : PySem.W.codeIn K cd__law_signed "_law_signed" = true)
    (k1__law_signed : PySem.W.keepIn K (.ref a__law_signed) = true)
    (a1__law_turned_right : PySem.W.nsIn K mainGlobals "_law_turned_right" = some (some (.ref a__law_turned_right)))
    (l1__law_turned_right : K.lookup a__law_turned_right = some ⟨oc__law_turned_right, od__law_turned_right, .func (PySem.W.fnOf "_law_turned_right" "_law_turned_right" (defArgs st__law_turned_right) (defBody st__law_turned_right) (defScope st__law_turned_right) .none kV__law_turned_right dc__law_turned_right pm__law_turned_right an__law_turned_right cd__law_turned_right ct__law_turned_right), sl__law_turned_right⟩)
    (c1__law_turned_right : PySem.W.codeIn K cd__law_turned_right "_law_turned_right" = true)
    (k1__law_turned_right : PySem.W.keepIn K (.ref a__law_turned_right) = true)
    (a1__law_walk : PySem.W.nsIn K mainGlobals "_law_walk" = some (some (.ref a__law_walk)))
    (l1__law_walk : K.lookup a__law_walk = some ⟨oc__law_walk, od__law_walk, .func (PySem.W.fnOf "_law_walk" "_law_walk" (defArgs st__law_walk) (defBody st__law_walk) (defScope st__law_walk) .none kV__law_walk dc__law_walk pm__law_walk an__law_walk cd__law_walk ct__law_walk), sl__law_walk⟩)
    (c1__law_walk : PySem.W.codeIn K cd__law_walk "_law_walk" = true)
    (k1__law_walk : PySem.W.keepIn K (.ref a__law_walk) = true)
    (a1_law : PySem.W.nsIn K mainGlobals "law" = some (some (.ref a_law)))
    (l1_law : K.lookup a_law = some ⟨oc_law, od_law, .func (PySem.W.fnOf "law" "law" (defArgs st_law) (defBody st_law) (defScope st_law) .none kV_law dc_law pm_law an_law (.ref tc_law) ct_law), sl_law⟩)
    (c1_law : PySem.W.codeIn K (.ref tc_law) "law" = true)
    (k1_law : PySem.W.keepIn K (.ref a_law) = true)
    (tl_law : K.lookup tc_law = some ⟨tcl_law, tdd_law, .fields tvs_law, tsl_law⟩)
    (tv_law : tvs_law[11]? = some (.ref P_law))
    (tq_law : PySem.W.tabIn K "law" = some (tc_law, P_law))
    (tn_law : K.lookup P_law = none)
    (tr_law : ((recsOf q).find? (fun e => e.name == ("law" : Str))).isSome = true)
    (z1_all : PySem.W.nsIn K mainGlobals "all" = some none)
    (z1_bool : PySem.W.nsIn K mainGlobals "bool" = some none)
    (z1_int : PySem.W.nsIn K mainGlobals "int" = some none)
    (z1_isinstance : PySem.W.nsIn K mainGlobals "isinstance" = some none)
    (z1_len : PySem.W.nsIn K mainGlobals "len" = some none)
    (z1_list : PySem.W.nsIn K mainGlobals "list" = some none)
    (z1_min : PySem.W.nsIn K mainGlobals "min" = some none)
    (z1_range : PySem.W.nsIn K mainGlobals "range" = some none)
    (z1_str : PySem.W.nsIn K mainGlobals "str" = some none)
    (z1_sum : PySem.W.nsIn K mainGlobals "sum" = some none)
    (z1_tuple : PySem.W.nsIn K mainGlobals "tuple" = some none)
    (k0_LETTERS : PySem.W.nsIn K mainGlobals "LETTERS" = some (some kv_LETTERS))
    (kx_LETTERS : repK K 6 kv_LETTERS (.str [101, 110, 119, 115]) = true)
    (k0_MOST_LETTERS : PySem.W.nsIn K mainGlobals "MOST_LETTERS" = some (some kv_MOST_LETTERS))
    (kx_MOST_LETTERS : repK K 6 kv_MOST_LETTERS (.int 10000) = true)
    (k0_MOST_RUNS : PySem.W.nsIn K mainGlobals "MOST_RUNS" = some (some kv_MOST_RUNS))
    (kx_MOST_RUNS : repK K 6 kv_MOST_RUNS (.int 10000) = true)
    (tnd : ([P__law_bounds_right, P_law] : List Addr).Nodup)
    (hl : ∀ ns : List Int, ns.length ≤ 63 → (∀ z ∈ ns, Builtin.Int.intBits z ≤ 1048576) → ∃ S, g_law [.scr (ns.map D.int)] [.tab "_law_bounds_right", .tab "law"] = .ok (.bl true) S) :
    LamX.LawAtS l w K (L2.CX l.prog w) 17 63 "_law_script" mg fa h := by
  have e := hfa.symm.trans (PySem.W.mg_of X G0 a1_law)
  cases e
  let G : Gam := { K := K, ct := fun c => if c = "Place" then some C_Place else if c = "Walk" then some C_Walk else if c = "BadNumber" then some C_BadNumber else if c = "BadWord" then some C_BadWord else if c = "TooMany" then some C_TooMany else none, ft := fun c => none, tab := tabG [("_law_bounds_right", P__law_bounds_right, ((envOfC "_law_bounds_right" (defScope st__law_bounds_right) 0 0 .none).qual ++ "<lambda>")), ("law", P_law, ((envOfC "law" (defScope st_law) 0 0 .none).qual ++ "<lambda>"))], tabM := tabG_mono _ }
  have cF_Place := clsF cB_Place
  have cF_Walk := clsF cB_Walk
  have ct_Place : G.ct "Place" = some C_Place := by simp [G]
  have ct_Walk : G.ct "Walk" = some C_Walk := by simp [G]
  have ct_BadNumber : G.ct "BadNumber" = some C_BadNumber := by simp [G]
  have ct_BadWord : G.ct "BadWord" = some C_BadWord := by simp [G]
  have ct_TooMany : G.ct "TooMany" = some C_TooMany := by simp [G]
  have F_merged := fun_mk (st := st_merged) l1_merged c1_merged k1_merged
  have F_is_list := fun_mk (st := st_is_list) l1_is_list c1_is_list k1_is_list
  have F_is_integer := fun_mk (st := st_is_integer) l1_is_integer c1_is_integer k1_is_integer
  have F_is_whole := fun_mk (st := st_is_whole) l1_is_whole c1_is_whole k1_is_whole
  have F_is_pair := fun_mk (st := st_is_pair) l1_is_pair c1_is_pair k1_is_pair
  have F_pairs_told := fun_mk (st := st_pairs_told) l1_pairs_told c1_pairs_told k1_pairs_told
  have F_WalkX_initX := fun_mk (st := st_WalkX_initX) l1_WalkX_initX c1_WalkX_initX k1_WalkX_initX
  have F_Walk_length := fun_mk (st := st_Walk_length) l1_Walk_length c1_Walk_length k1_Walk_length
  have F_Walk_repeated := fun_mk (st := st_Walk_repeated) l1_Walk_repeated c1_Walk_repeated k1_Walk_repeated
  have F__law_draw := fun_mk (st := st__law_draw) l1__law_draw c1__law_draw k1__law_draw
  have F__law_great := fun_mk (st := st__law_great) l1__law_great c1__law_great k1__law_great
  have F__law_refused := fun_mk (st := st__law_refused) l1__law_refused c1__law_refused k1__law_refused
  have F__law_bounds_right := fun_mk (st := st__law_bounds_right) l1__law_bounds_right c1__law_bounds_right k1__law_bounds_right
  have F__law_pick := fun_mk (st := st__law_pick) l1__law_pick c1__law_pick k1__law_pick
  have F__law_pairs := fun_mk (st := st__law_pairs) l1__law_pairs c1__law_pairs k1__law_pairs
  have F__law_pen := fun_mk (st := st__law_pen) l1__law_pen c1__law_pen k1__law_pen
  have F_PlaceX_eqX := fun_mk (st := st_PlaceX_eqX) l1_PlaceX_eqX c1_PlaceX_eqX k1_PlaceX_eqX
  have F_PlaceX_initX := fun_mk (st := st_PlaceX_initX) l1_PlaceX_initX c1_PlaceX_initX k1_PlaceX_initX
  have F_pairs_below := fun_mk (st := st_pairs_below) l1_pairs_below c1_pairs_below k1_pairs_below
  have F_Place_power := fun_mk (st := st_Place_power) l1_Place_power c1_Place_power k1_Place_power
  have F_WalkX_eqX := fun_mk (st := st_WalkX_eqX) l1_WalkX_eqX c1_WalkX_eqX k1_WalkX_eqX
  have F_Walk_letters := fun_mk (st := st_Walk_letters) l1_Walk_letters c1_Walk_letters k1_Walk_letters
  have F_gone_on := fun_mk (st := st_gone_on) l1_gone_on c1_gone_on k1_gone_on
  have F_Walk_spots := fun_mk (st := st_Walk_spots) l1_Walk_spots c1_Walk_spots k1_Walk_spots
  have F_Walk_place := fun_mk (st := st_Walk_place) l1_Walk_place c1_Walk_place k1_Walk_place
  have F__law_runs_of := fun_mk (st := st__law_runs_of) l1__law_runs_of c1__law_runs_of k1__law_runs_of
  have F__law_repeated_right := fun_mk (st := st__law_repeated_right) l1__law_repeated_right c1__law_repeated_right k1__law_repeated_right
  have F_Walk_mirrored := fun_mk (st := st_Walk_mirrored) l1_Walk_mirrored c1_Walk_mirrored k1_Walk_mirrored
  have F_turned_letter := fun_mk (st := st_turned_letter) l1_turned_letter c1_turned_letter k1_turned_letter
  have F_Walk_turned := fun_mk (st := st_Walk_turned) l1_Walk_turned c1_Walk_turned k1_Walk_turned
  have F__law_ground := fun_mk (st := st__law_ground) l1__law_ground c1__law_ground k1__law_ground
  have F__law_signed := fun_mk (st := st__law_signed) l1__law_signed c1__law_signed k1__law_signed
  have F__law_turned_right := fun_mk (st := st__law_turned_right) l1__law_turned_right c1__law_turned_right k1__law_turned_right
  have F__law_walk := fun_mk (st := st__law_walk) l1__law_walk c1__law_walk k1__law_walk
  have F_law := fun_mk (st := st_law) l1_law c1_law k1_law
  have mkE : ∀ base : Heap, (∀ m ∈ ([("_law_bounds_right", tc__law_bounds_right, P__law_bounds_right), ("law", tc_law, P_law)] : List (String × Addr × Addr)), LamX.TabB base mg m.2.1 m.2.2) → ∃ e : Ev l.prog G mg base, e.a_law = fa ∧ e.fd_law = (PySem.W.fnOf "law" "law" (defArgs st_law) (defBody st_law) (defScope st_law) .none kV_law dc_law pm_law an_law (.ref tc_law) ct_law) := fun base tb => ⟨{
    C_Place := C_Place
    ct_Place := ct_Place
    cl_Place := cF_Place.cl
    m_Place := PySem.W.mg_of X G0 aC_Place
    sf_Place := cF_Place.sf
    ne_Place := cF_Place.ne
    mo_Place := cF_Place.mo
    na_Place_x := cF_Place.na _ (by simp)
    na_Place_y := cF_Place.na _ (by simp)
    na_Place_area := cF_Place.na _ (by simp)
    C_Walk := C_Walk
    ct_Walk := ct_Walk
    cl_Walk := cF_Walk.cl
    m_Walk := PySem.W.mg_of X G0 aC_Walk
    sf_Walk := cF_Walk.sf
    ne_Walk := cF_Walk.ne
    mo_Walk := cF_Walk.mo
    na_Walk_runs := cF_Walk.na _ (by simp)
    C_BadNumber := C_BadNumber
    ct_BadNumber := ct_BadNumber
    m_BadNumber := PySem.W.mg_of X G0 aC_BadNumber
    fI_BadNumber := fI_BadNumber
    xfd_BadNumber := _
    X_BadNumber := xfacts_of (G := G) ct_BadNumber xl_BadNumber xr_BadNumber xi_BadNumber xf_BadNumber xc_BadNumber xd_BadNumber xv_BadNumber xe_BadNumber xk_BadNumber xB_BadNumber xtop (PySem.W.mg_none_of X G0 xsup) xsh_BadNumber (by decide) (by decide) (by decide) (fun us hl => match us, hl with | [_, _], _ => rfl)
    C_BadWord := C_BadWord
    ct_BadWord := ct_BadWord
    m_BadWord := PySem.W.mg_of X G0 aC_BadWord
    fI_BadWord := fI_BadWord
    xfd_BadWord := _
    X_BadWord := xfacts_of (G := G) ct_BadWord xl_BadWord xr_BadWord xi_BadWord xf_BadWord xc_BadWord xd_BadWord xv_BadWord xe_BadWord xk_BadWord xB_BadWord xtop (PySem.W.mg_none_of X G0 xsup) xsh_BadWord (by decide) (by decide) (by decide) (fun us hl => match us, hl with | [_, _], _ => rfl)
    C_TooMany := C_TooMany
    ct_TooMany := ct_TooMany
    m_TooMany := PySem.W.mg_of X G0 aC_TooMany
    fI_TooMany := fI_TooMany
    xfd_TooMany := _
    X_TooMany := xfacts_of (G := G) ct_TooMany xl_TooMany xr_TooMany xi_TooMany xf_TooMany xc_TooMany xd_TooMany xv_TooMany xe_TooMany xk_TooMany xB_TooMany xtop (PySem.W.mg_none_of X G0 xsup) xsh_TooMany (by decide) (by decide) (by decide) (fun us hl => match us, hl with | [_, _], _ => rfl)
    xm_BadNumber_BadNumber := xm_BadNumber_BadNumber
    xm_BadNumber_TooMany := xm_BadNumber_TooMany
    xm_BadWord_BadNumber := xm_BadWord_BadNumber
    xm_BadWord_TooMany := xm_BadWord_TooMany
    xm_TooMany_BadNumber := xm_TooMany_BadNumber
    xm_TooMany_TooMany := xm_TooMany_TooMany
    a_merged := a_merged
    fd_merged := _
    F_merged := F_merged
    b_merged := F_merged.binds (ps := ["pairs"]) fun _ _ _ _ _ _ us hl => match us, hl with | [_], _ => rfl
    m_merged := PySem.W.mg_of X G0 a1_merged
    a_is_list := a_is_list
    fd_is_list := _
    F_is_list := F_is_list
    b_is_list := F_is_list.binds (ps := ["value"]) fun _ _ _ _ _ _ us hl => match us, hl with | [_], _ => rfl
    m_is_list := PySem.W.mg_of X G0 a1_is_list
    a_is_integer := a_is_integer
    fd_is_integer := _
    F_is_integer := F_is_integer
    b_is_integer := F_is_integer.binds (ps := ["value"]) fun _ _ _ _ _ _ us hl => match us, hl with | [_], _ => rfl
    m_is_integer := PySem.W.mg_of X G0 a1_is_integer
    a_is_whole := a_is_whole
    fd_is_whole := _
    F_is_whole := F_is_whole
    b_is_whole := F_is_whole.binds (ps := ["value", "least"]) fun _ _ _ _ _ _ us hl => match us, hl with | [_, _], _ => rfl
    m_is_whole := PySem.W.mg_of X G0 a1_is_whole
    a_is_pair := a_is_pair
    fd_is_pair := _
    F_is_pair := F_is_pair
    b_is_pair := F_is_pair.binds (ps := ["value"]) fun _ _ _ _ _ _ us hl => match us, hl with | [_], _ => rfl
    m_is_pair := PySem.W.mg_of X G0 a1_is_pair
    a_pairs_told := a_pairs_told
    fd_pairs_told := _
    F_pairs_told := F_pairs_told
    b_pairs_told := F_pairs_told.binds (ps := ["told"]) fun _ _ _ _ _ _ us hl => match us, hl with | [_], _ => rfl
    m_pairs_told := PySem.W.mg_of X G0 a1_pairs_told
    a_WalkX_initX := a_WalkX_initX
    fd_WalkX_initX := _
    F_WalkX_initX := F_WalkX_initX
    b_WalkX_initX := F_WalkX_initX.binds (ps := ["self", "told"]) fun _ _ _ _ _ _ us hl => match us, hl with | [_, _], _ => rfl
    M_WalkX_initX := ⟨a1_WalkX_initX, i1_WalkX_initX, k1_WalkX_initX⟩
    a_Walk_length := a_Walk_length
    fd_Walk_length := _
    F_Walk_length := F_Walk_length
    b_Walk_length := F_Walk_length.binds (ps := ["self"]) fun _ _ _ _ _ _ us hl => match us, hl with | [_], _ => rfl
    p_Walk_length := p_Walk_length
    M_Walk_length := ⟨pa_Walk_length, pg_Walk_length, pt_Walk_length, ⟨_, pr_Walk_length⟩⟩
    a_Walk_repeated := a_Walk_repeated
    fd_Walk_repeated := _
    F_Walk_repeated := F_Walk_repeated
    b_Walk_repeated := F_Walk_repeated.binds (ps := ["self", "number"]) fun _ _ _ _ _ _ us hl => match us, hl with | [_, _], _ => rfl
    M_Walk_repeated := ⟨a1_Walk_repeated, i1_Walk_repeated, k1_Walk_repeated⟩
    a__law_draw := a__law_draw
    fd__law_draw := _
    F__law_draw := F__law_draw
    b__law_draw := F__law_draw.binds (ps := ["_law_pen_here", "_law_span"]) fun _ _ _ _ _ _ us hl => match us, hl with | [_, _], _ => rfl
    m__law_draw := PySem.W.mg_of X G0 a1__law_draw
    a__law_great := a__law_great
    fd__law_great := _
    F__law_great := F__law_great
    b__law_great := F__law_great.binds (ps := ["_law_pen_here", "_law_figures"]) fun _ _ _ _ _ _ us hl => match us, hl with | [_, _], _ => rfl
    m__law_great := PySem.W.mg_of X G0 a1__law_great
    a__law_refused := a__law_refused
    fd__law_refused := _
    F__law_refused := F__law_refused
    b__law_refused := F__law_refused.binds (ps := ["_law_deed"]) fun _ _ _ _ _ _ us hl => match us, hl with | [_], _ => rfl
    m__law_refused := PySem.W.mg_of X G0 a1__law_refused
    a__law_bounds_right := a__law_bounds_right
    fd__law_bounds_right := _
    F__law_bounds_right := F__law_bounds_right
    b__law_bounds_right := F__law_bounds_right.binds (ps := ["_law_pen_here"]) fun _ _ _ _ _ _ us hl => match us, hl with | [_], _ => rfl
    m__law_bounds_right := PySem.W.mg_of X G0 a1__law_bounds_right
    tc__law_bounds_right := tc__law_bounds_right
    P__law_bounds_right := P__law_bounds_right
    cd__law_bounds_right := rfl
    tb__law_bounds_right := tb ("_law_bounds_right", tc__law_bounds_right, P__law_bounds_right) (by simp)
    a__law_pick := a__law_pick
    fd__law_pick := _
    F__law_pick := F__law_pick
    b__law_pick := F__law_pick.binds (ps := ["_law_pen_here", "_law_items"]) fun _ _ _ _ _ _ us hl => match us, hl with | [_, _], _ => rfl
    m__law_pick := PySem.W.mg_of X G0 a1__law_pick
    a__law_pairs := a__law_pairs
    fd__law_pairs := _
    F__law_pairs := F__law_pairs
    b__law_pairs := F__law_pairs.binds (ps := ["_law_pen_here", "_law_most_pairs", "_law_figures"]) fun _ _ _ _ _ _ us hl => match us, hl with | [_, _, _], _ => rfl
    m__law_pairs := PySem.W.mg_of X G0 a1__law_pairs
    a__law_pen := a__law_pen
    fd__law_pen := _
    F__law_pen := F__law_pen
    b__law_pen := F__law_pen.binds (ps := ["_law_script"]) fun _ _ _ _ _ _ us hl => match us, hl with | [_], _ => rfl
    m__law_pen := PySem.W.mg_of X G0 a1__law_pen
    a_PlaceX_eqX := a_PlaceX_eqX
    fd_PlaceX_eqX := _
    F_PlaceX_eqX := F_PlaceX_eqX
    b_PlaceX_eqX := F_PlaceX_eqX.binds (ps := ["self", "other"]) fun _ _ _ _ _ _ us hl => match us, hl with | [_, _], _ => rfl
    M_PlaceX_eqX := ⟨a1_PlaceX_eqX, i1_PlaceX_eqX, k1_PlaceX_eqX⟩
    a_PlaceX_initX := a_PlaceX_initX
    fd_PlaceX_initX := _
    F_PlaceX_initX := F_PlaceX_initX
    b_PlaceX_initX := F_PlaceX_initX.binds (ps := ["self", "x", "y", "area"]) fun _ _ _ _ _ _ us hl => match us, hl with | [_, _, _, _], _ => rfl
    M_PlaceX_initX := ⟨a1_PlaceX_initX, i1_PlaceX_initX, k1_PlaceX_initX⟩
    a_pairs_below := a_pairs_below
    fd_pairs_below := _
    F_pairs_below := F_pairs_below
    b_pairs_below := F_pairs_below.binds (ps := ["number"]) fun _ _ _ _ _ _ us hl => match us, hl with | [_], _ => rfl
    m_pairs_below := PySem.W.mg_of X G0 a1_pairs_below
    a_Place_power := a_Place_power
    fd_Place_power := _
    F_Place_power := F_Place_power
    b_Place_power := F_Place_power.binds (ps := ["self", "number"]) fun _ _ _ _ _ _ us hl => match us, hl with | [_, _], _ => rfl
    M_Place_power := ⟨a1_Place_power, i1_Place_power, k1_Place_power⟩
    a_WalkX_eqX := a_WalkX_eqX
    fd_WalkX_eqX := _
    F_WalkX_eqX := F_WalkX_eqX
    b_WalkX_eqX := F_WalkX_eqX.binds (ps := ["self", "other"]) fun _ _ _ _ _ _ us hl => match us, hl with | [_, _], _ => rfl
    M_WalkX_eqX := ⟨a1_WalkX_eqX, i1_WalkX_eqX, k1_WalkX_eqX⟩
    a_Walk_letters := a_Walk_letters
    fd_Walk_letters := _
    F_Walk_letters := F_Walk_letters
    b_Walk_letters := F_Walk_letters.binds (ps := ["self"]) fun _ _ _ _ _ _ us hl => match us, hl with | [_], _ => rfl
    M_Walk_letters := ⟨a1_Walk_letters, i1_Walk_letters, k1_Walk_letters⟩
    a_gone_on := a_gone_on
    fd_gone_on := _
    F_gone_on := F_gone_on
    b_gone_on := F_gone_on.binds (ps := ["spot", "letter", "times"]) fun _ _ _ _ _ _ us hl => match us, hl with | [_, _, _], _ => rfl
    m_gone_on := PySem.W.mg_of X G0 a1_gone_on
    a_Walk_spots := a_Walk_spots
    fd_Walk_spots := _
    F_Walk_spots := F_Walk_spots
    b_Walk_spots := F_Walk_spots.binds (ps := ["self"]) fun _ _ _ _ _ _ us hl => match us, hl with | [_], _ => rfl
    M_Walk_spots := ⟨a1_Walk_spots, i1_Walk_spots, k1_Walk_spots⟩
    a_Walk_place := a_Walk_place
    fd_Walk_place := _
    F_Walk_place := F_Walk_place
    b_Walk_place := F_Walk_place.binds (ps := ["self"]) fun _ _ _ _ _ _ us hl => match us, hl with | [_], _ => rfl
    M_Walk_place := ⟨a1_Walk_place, i1_Walk_place, k1_Walk_place⟩
    a__law_runs_of := a__law_runs_of
    fd__law_runs_of := _
    F__law_runs_of := F__law_runs_of
    b__law_runs_of := F__law_runs_of.binds (ps := ["_law_pairs_here"]) fun _ _ _ _ _ _ us hl => match us, hl with | [_], _ => rfl
    m__law_runs_of := PySem.W.mg_of X G0 a1__law_runs_of
    a__law_repeated_right := a__law_repeated_right
    fd__law_repeated_right := _
    F__law_repeated_right := F__law_repeated_right
    b__law_repeated_right := F__law_repeated_right.binds (ps := ["_law_pen_here", "_law_walk_here", "_law_pairs_here"]) fun _ _ _ _ _ _ us hl => match us, hl with | [_, _, _], _ => rfl
    m__law_repeated_right := PySem.W.mg_of X G0 a1__law_repeated_right
    a_Walk_mirrored := a_Walk_mirrored
    fd_Walk_mirrored := _
    F_Walk_mirrored := F_Walk_mirrored
    b_Walk_mirrored := F_Walk_mirrored.binds (ps := ["self"]) fun _ _ _ _ _ _ us hl => match us, hl with | [_], _ => rfl
    M_Walk_mirrored := ⟨a1_Walk_mirrored, i1_Walk_mirrored, k1_Walk_mirrored⟩
    a_turned_letter := a_turned_letter
    fd_turned_letter := _
    F_turned_letter := F_turned_letter
    b_turned_letter := F_turned_letter.binds (ps := ["letter", "quarters"]) fun _ _ _ _ _ _ us hl => match us, hl with | [_, _], _ => rfl
    m_turned_letter := PySem.W.mg_of X G0 a1_turned_letter
    a_Walk_turned := a_Walk_turned
    fd_Walk_turned := _
    F_Walk_turned := F_Walk_turned
    b_Walk_turned := F_Walk_turned.binds (ps := ["self", "quarters"]) fun _ _ _ _ _ _ us hl => match us, hl with | [_, _], _ => rfl
    M_Walk_turned := ⟨a1_Walk_turned, i1_Walk_turned, k1_Walk_turned⟩
    a__law_ground := a__law_ground
    fd__law_ground := _
    F__law_ground := F__law_ground
    b__law_ground := F__law_ground.binds (ps := ["_law_place"]) fun _ _ _ _ _ _ us hl => match us, hl with | [_], _ => rfl
    m__law_ground := PySem.W.mg_of X G0 a1__law_ground
    a__law_signed := a__law_signed
    fd__law_signed := _
    F__law_signed := F__law_signed
    b__law_signed := F__law_signed.binds (ps := ["_law_pen_here", "_law_figures"]) fun _ _ _ _ _ _ us hl => match us, hl with | [_, _], _ => rfl
    m__law_signed := PySem.W.mg_of X G0 a1__law_signed
    a__law_turned_right := a__law_turned_right
    fd__law_turned_right := _
    F__law_turned_right := F__law_turned_right
    b__law_turned_right := F__law_turned_right.binds (ps := ["_law_pen_here", "_law_walk_here", "_law_pairs_here"]) fun _ _ _ _ _ _ us hl => match us, hl with | [_, _, _], _ => rfl
    m__law_turned_right := PySem.W.mg_of X G0 a1__law_turned_right
    a__law_walk := a__law_walk
    fd__law_walk := _
    F__law_walk := F__law_walk
    b__law_walk := F__law_walk.binds (ps := ["_law_pen_here", "_law_pairs_here"]) fun _ _ _ _ _ _ us hl => match us, hl with | [_, _], _ => rfl
    m__law_walk := PySem.W.mg_of X G0 a1__law_walk
    a_law := fa
    fd_law := _
    F_law := F_law
    b_law := F_law.binds (ps := ["_law_script"]) fun _ _ _ _ _ _ us hl => match us, hl with | [_], _ => rfl
    m_law := PySem.W.mg_of X G0 a1_law
    tc_law := tc_law
    P_law := P_law
    cd_law := rfl
    tb_law := tb ("law", tc_law, P_law) (by simp)
    mk_Place := ⟨cF_Place.makes, a1_PlaceX_initX, i1_PlaceX_initX, cF_Place.kp⟩
    mk_Walk := ⟨cF_Walk.makes, a1_WalkX_initX, i1_WalkX_initX, cF_Walk.kp⟩
    f_area := fun c hc C hC => by
      simp only [List.mem_cons, List.not_mem_nil, or_false] at hc
      (subst hc; rw [ct_Place] at hC; cases hC; exact ⟨cF_Place.cl, by rw [← s_12]; exact cF_Place.na _ (by simp)⟩)
    f_runs := fun c hc C hC => by
      simp only [List.mem_cons, List.not_mem_nil, or_false] at hc
      (subst hc; rw [ct_Walk] at hC; cases hC; exact ⟨cF_Walk.cl, by rw [← s_1]; exact cF_Walk.na _ (by simp)⟩)
    f_x := fun c hc C hC => by
      simp only [List.mem_cons, List.not_mem_nil, or_false] at hc
      (subst hc; rw [ct_Place] at hC; cases hC; exact ⟨cF_Place.cl, by rw [← s_14]; exact cF_Place.na _ (by simp)⟩)
    f_y := fun c hc C hC => by
      simp only [List.mem_cons, List.not_mem_nil, or_false] at hc
      (subst hc; rw [ct_Place] at hC; cases hC; exact ⟨cF_Place.cl, by rw [← s_13]; exact cF_Place.na _ (by simp)⟩)
    z_all := PySem.W.mg_none_of X G0 z1_all
    z_bool := PySem.W.mg_none_of X G0 z1_bool
    z_int := PySem.W.mg_none_of X G0 z1_int
    z_isinstance := PySem.W.mg_none_of X G0 z1_isinstance
    z_len := PySem.W.mg_none_of X G0 z1_len
    z_list := PySem.W.mg_none_of X G0 z1_list
    z_min := PySem.W.mg_none_of X G0 z1_min
    z_range := PySem.W.mg_none_of X G0 z1_range
    z_str := PySem.W.mg_none_of X G0 z1_str
    z_sum := PySem.W.mg_none_of X G0 z1_sum
    z_tuple := PySem.W.mg_none_of X G0 z1_tuple
    kv_LETTERS := kv_LETTERS
    kc_LETTERS := PySem.W.mg_of X G0 k0_LETTERS
    kr_LETTERS := repK_ok (G := G) rfl 6 _ _ kx_LETTERS
    kv_MOST_LETTERS := kv_MOST_LETTERS
    kc_MOST_LETTERS := PySem.W.mg_of X G0 k0_MOST_LETTERS
    kr_MOST_LETTERS := repK_ok (G := G) rfl 6 _ _ kx_MOST_LETTERS
    kv_MOST_RUNS := kv_MOST_RUNS
    kc_MOST_RUNS := PySem.W.mg_of X G0 k0_MOST_RUNS
    kr_MOST_RUNS := repK_ok (G := G) rfl 6 _ _ kx_MOST_RUNS
    iso := isOk_of (fun c hc => by
      simp only [List.mem_cons, List.not_mem_nil, or_false] at hc
      rcases hc with hc | hc
      · (subst hc; exact ⟨C_Place, _, ct_Place, cF_Place⟩)
      · (subst hc; exact ⟨C_Walk, _, ct_Walk, cF_Walk⟩)) fun c hc c2 hc2 C1 C2 h1 h2 => by
      simp only [List.mem_cons, List.not_mem_nil, or_false] at hc hc2
      rcases hc with hc | hc <;> rcases hc2 with hc2 | hc2
      · subst hc; subst hc2; rw [ct_Place] at h1; rw [ct_Place] at h2; cases h1; cases h2; exact kit_self
      · subst hc; subst hc2; rw [ct_Place] at h1; rw [ct_Walk] at h2; cases h1; cases h2; exact cc_Place_Walk
      · subst hc; subst hc2; rw [ct_Walk] at h1; rw [ct_Place] at h2; cases h1; cases h2; exact cc_Walk_Place
      · subst hc; subst hc2; rw [ct_Walk] at h1; rw [ct_Walk] at h2; cases h1; cases h2; exact kit_self
    tabs := rfl }, rfl, rfl⟩
  exact lawAt_of (G := G) (g := g_law) (fd := (PySem.W.fnOf "law" "law" (defArgs st_law) (defBody st_law) (defScope st_law) .none kV_law dc_law pm_law an_law (.ref tc_law) ct_law)) [("_law_bounds_right", tc__law_bounds_right, P__law_bounds_right), ("law", tc_law, P_law)] (fun m hm => by
    simp only [List.mem_cons, List.not_mem_nil, or_false] at hm
    rcases hm with rfl | rfl
    · exact TT _ _ _ tr__law_bounds_right tq__law_bounds_right
    · exact TT _ _ _ tr_law tq_law) (fun m hm => by
    simp only [List.mem_cons, List.not_mem_nil, or_false] at hm
    rcases hm with rfl | rfl
    · exact tn__law_bounds_right
    · exact tn_law) (tnd) (fun s v => .of_eq rfl) (fun base tb => by
    obtain ⟨e, e1, e2⟩ := mkE base tb
    have o := ok_law (w0 := w) e
    rw [e1, e2] at o
    exact o) (fun m hm F => by
    simp only [List.mem_cons, List.not_mem_nil, or_false] at hm
    rcases hm with rfl | rfl
    · exact ⟨_, rfl, tabP_nil _ _ _⟩
    · exact ⟨_, rfl, tabP_nil _ _ _⟩) hl
end
end W_k10
set_option maxRecDepth 100000
set_option maxHeartbeats 4000000
namespace ST
/-! ### fewest steps: the plain law -/
abbrev ab (i : Int) : Int := if i < 0 then -i else i
/-- the ground that a walk must have room for -/
def gnd (x y a : Int) : Int := (ab (2 * a - x * y) + ab (x * y)).fdiv 2
/-- the least r with n ≤ r * r -/
def IsRt (n r : Int) : Prop := 0 ≤ r ∧ n ≤ r * r ∧ (0 < r → (r - 1) * (r - 1) < n)
/-- p by q holds the place -/
structure Box (x y a p q : Int) : Prop where
  px : ab x ≤ p
  qy : ab y ≤ q
  room : gnd x y a ≤ p * q
theorem gnd_max (x y a : Int) : (0 ≤ x * y → gnd x y a = if x * y ≤ 2 * a then a else x * y - a) ∧ (x * y < 0 → gnd x y a = if x * y ≤ 2 * a then a - x * y else -a) := by
  unfold gnd ab
  generalize x * y = t
  rw [Int.fdiv_eq_ediv_of_nonneg _ (by decide)]
  constructor <;> intro h <;> (repeat' split) <;> omega
/-- the room, by the two ends of the areas -/
theorem gnd_le (x y a m : Int) : gnd x y a ≤ m ↔ a ≤ m - (if x * y < 0 then -(x * y) else 0) ∧ (if x * y < 0 then 0 else x * y) - m ≤ a := by
  have h := gnd_max x y a
  by_cases c : x * y < 0
  · rw [h.2 c]; simp only [c, if_true]; split <;> omega
  · rw [h.1 (by omega)]; simp only [c, if_false]; split <;> omega
theorem gnd_nonneg (x y a : Int) : 0 ≤ gnd x y a := by
  unfold gnd ab
  rw [Int.fdiv_eq_ediv_of_nonneg _ (by decide)]
  split <;> split <;> omega
theorem ab_nonneg (x : Int) : 0 ≤ ab x := by unfold ab; split <;> omega
theorem ab_neg (x : Int) : ab (-x) = ab x := by unfold ab; split <;> split <;> omega
/-! mirrors -/
theorem gnd_mx (x y a : Int) : gnd (-x) y (-a) = gnd x y a := by
  unfold gnd
  rw [show 2 * -a - -x * y = -(2 * a - x * y) by grind, show -x * y = -(x * y) by grind, ab_neg, ab_neg]
theorem gnd_my (x y a : Int) : gnd x (-y) (-a) = gnd x y a := by
  unfold gnd
  rw [show 2 * -a - x * -y = -(2 * a - x * y) by grind, show x * -y = -(x * y) by grind, ab_neg, ab_neg]
theorem gnd_t (x y a : Int) : gnd y x (x * y - a) = gnd x y a := by
  unfold gnd
  rw [show 2 * (x * y - a) - y * x = -(2 * a - x * y) by grind, show y * x = x * y by grind, ab_neg]
theorem Box.mx {x y a p q : Int} (b : Box x y a p q) : Box (-x) y (-a) p q := ⟨by rw [ab_neg]; exact b.px, b.qy, by rw [gnd_mx]; exact b.room⟩
theorem Box.my {x y a p q : Int} (b : Box x y a p q) : Box x (-y) (-a) p q := ⟨b.px, by rw [ab_neg]; exact b.qy, by rw [gnd_my]; exact b.room⟩
theorem Box.t {x y a p q : Int} (b : Box x y a p q) : Box y x (x * y - a) q p := ⟨b.qy, b.px, by rw [gnd_t, Int.mul_comm]; exact b.room⟩
/-- a step is taken -/
inductive Stp : Int → Int → Int → Int → Int → Int → Prop
  | e (x y a : Int) : Stp x y a (x + 1) y a
  | w (x y a : Int) : Stp x y a (x - 1) y a
  | n (x y a : Int) : Stp x y a x (y + 1) (a + x)
  | s (x y a : Int) : Stp x y a x (y - 1) (a - x)
theorem Stp.mx {x y a x' y' a' : Int} (h : Stp x y a x' y' a') : Stp (-x) y (-a) (-x') y' (-a') := by
  cases h with
  | e => rw [show -(x + 1) = -x - 1 by omega]; exact .w ..
  | w => rw [show -(x - 1) = -x + 1 by omega]; exact .e ..
  | n => rw [show -(a + x) = -a + -x by omega]; exact .n ..
  | s => rw [show -(a - x) = -a - -x by omega]; exact .s ..
theorem Stp.my {x y a x' y' a' : Int} (h : Stp x y a x' y' a') : Stp x (-y) (-a) x' (-y') (-a') := by
  cases h with
  | e => exact .e ..
  | w => exact .w ..
  | n => rw [show -(y + 1) = -y - 1 by omega, show -(a + x) = -a - x by omega]; exact .s ..
  | s => rw [show -(y - 1) = -y + 1 by omega, show -(a - x) = -a + x by omega]; exact .n ..
theorem Stp.t {x y a x' y' a' : Int} (h : Stp x y a x' y' a') : Stp y x (x * y - a) y' x' (x' * y' - a') := by
  cases h with
  | e => rw [show (x + 1) * y - a = x * y - a + y by grind]; exact .n ..
  | w => rw [show (x - 1) * y - a = x * y - a - y by grind]; exact .s ..
  | n => rw [show x * (y + 1) - (a + x) = x * y - a by grind]; exact .e ..
  | s => rw [show x * (y - 1) - (a - x) = x * y - a by grind]; exact .w ..
theorem Stp.back {x y a x' y' a' : Int} (h : Stp x y a x' y' a') : Stp x' y' a' x y a := by
  cases h with
  | e => have := Stp.w (x + 1) y a; rwa [show x + 1 - 1 = x by omega] at this
  | w => have := Stp.e (x - 1) y a; rwa [show x - 1 + 1 = x by omega] at this
  | n => have := Stp.s x (y + 1) (a + x); rwa [show y + 1 - 1 = y by omega, show a + x - x = a by omega] at this
  | s => have := Stp.n x (y - 1) (a - x); rwa [show y - 1 + 1 = y by omega, show a - x + x = a by omega] at this
def cost (x y p q : Int) : Int := 2 * (p + q) - ab x - ab y
theorem pr_pos {u v : Int} (hu : 0 ≤ u) (hv : 0 ≤ v) : 0 ≤ u * v := Int.mul_nonneg hu hv
/-- a step further costs one more at most: east -/
theorem up_e {x y a p q : Int} (b : Box x y a p q) : ∃ p' q', Box (x + 1) y a p' q' ∧ cost (x + 1) y p' q' ≤ cost x y p q + 1 := by
  obtain ⟨h1, h2, h3⟩ := b
  rw [gnd_le] at h3
  by_cases hx : 0 ≤ x
  · refine ⟨p + 1, q, ⟨by unfold ab at *; split <;> split at h1 <;> omega, h2, ?_⟩, by unfold cost ab; split <;> split <;> split <;> omega⟩
    rw [gnd_le, show (x + 1) * y = x * y + y by grind, show (p + 1) * q = p * q + q by grind]
    have hq := ab_nonneg y
    by_cases hy : 0 ≤ y
    · have := pr_pos hx hy
      have hy' : y ≤ q := by unfold ab at h2; split at h2 <;> omega
      simp only [show ¬ x * y < 0 by omega, show ¬ x * y + y < 0 by omega, if_false] at h3 ⊢
      omega
    · have hy' : -y ≤ q := by unfold ab at h2; split at h2 <;> omega
      have h5 : x * y ≤ 0 := by have := pr_pos hx (show 0 ≤ -y by omega); rw [Int.mul_neg] at this; omega
      by_cases c : x * y < 0
      · simp only [c, show x * y + y < 0 by omega, if_true] at h3 ⊢; omega
      · simp only [c, show x * y + y < 0 by omega, if_true, if_false] at h3 ⊢; omega
  · refine ⟨p, q, ⟨by unfold ab at *; split <;> split at h1 <;> omega, h2, ?_⟩, by unfold cost ab; split <;> split <;> split <;> omega⟩
    rw [gnd_le, show (x + 1) * y = x * y + y by grind]
    by_cases hy : 0 ≤ y
    · have h5 : x * y ≤ -y := by have := pr_pos (show 0 ≤ -x - 1 by omega) hy; rw [show (-x - 1) * y = -(x * y) - y by grind] at this; omega
      by_cases c : x * y < 0 <;> by_cases c' : x * y + y < 0 <;> simp only [c, c', if_true, if_false] at h3 ⊢ <;> omega
    · have h5 : 0 ≤ x * y + y := by have := pr_pos (show 0 ≤ -x - 1 by omega) (show 0 ≤ -y by omega); rw [show (-x - 1) * -y = x * y + y by grind] at this; omega
      by_cases c : x * y < 0 <;> by_cases c' : x * y + y < 0 <;> simp only [c, c', if_true, if_false] at h3 ⊢ <;> omega
theorem cost_mx (x y p q : Int) : cost (-x) y p q = cost x y p q := by unfold cost; rw [ab_neg]
theorem cost_my (x y p q : Int) : cost x (-y) p q = cost x y p q := by unfold cost; rw [ab_neg]
theorem cost_t (x y p q : Int) : cost y x q p = cost x y p q := by unfold cost; omega
theorem up_w {x y a p q : Int} (b : Box x y a p q) : ∃ p' q', Box (x - 1) y a p' q' ∧ cost (x - 1) y p' q' ≤ cost x y p q + 1 := by
  obtain ⟨p', q', b', c⟩ := up_e b.mx
  have := b'.mx
  rw [show -(-x + 1) = x - 1 by omega, show - -a = a by omega] at this
  refine ⟨p', q', this, ?_⟩
  rw [cost_mx] at c
  rw [← cost_mx, show -(x - 1) = -x + 1 by omega]
  exact c
theorem up {x y a x' y' a' p q : Int} (h : Stp x y a x' y' a') (b : Box x y a p q) : ∃ p' q', Box x' y' a' p' q' ∧ cost x' y' p' q' ≤ cost x y p q + 1 := by
  cases h with
  | e => exact up_e b
  | w => exact up_w b
  | n =>
    obtain ⟨p', q', b', c⟩ := up_e b.t
    have := b'.t
    rw [show (y + 1) * x - (x * y - a) = a + x by grind] at this
    exact ⟨q', p', this, by rw [cost_t, ← cost_t x y p q]; exact c⟩
  | s =>
    obtain ⟨p', q', b', c⟩ := up_w b.t
    have := b'.t
    rw [show (y - 1) * x - (x * y - a) = a - x by grind] at this
    exact ⟨q', p', this, by rw [cost_t, ← cost_t x y p q]; exact c⟩
/-- one less at some neighbour: over the first quarter, from half the oblong on -/
theorem down0 {x y a p q : Int} (b : Box x y a p q) (hx : 0 ≤ x) (hy : 0 ≤ y) (h2 : x * y ≤ 2 * a) (h0 : ¬ (x = 0 ∧ y = 0 ∧ a = 0)) :
    ∃ x' y' a' p' q', Stp x y a x' y' a' ∧ Box x' y' a' p' q' ∧ cost x' y' p' q' = cost x y p q - 1 := by
  obtain ⟨b1, b2, b3⟩ := b
  have t0 := pr_pos hx hy
  rw [gnd_le] at b3
  simp only [show ¬ x * y < 0 by omega, if_false] at b3
  have e1 : ab x = x := by unfold ab; split <;> omega
  have e2 : ab y = y := by unfold ab; split <;> omega
  rw [e1] at b1
  rw [e2] at b2
  by_cases hp : x < p
  · refine ⟨_, _, _, p, q, .e x y a, ⟨by unfold ab; split <;> omega, by rw [e2]; exact b2, ?_⟩, by unfold cost; rw [e1, e2]; unfold ab; split <;> omega⟩
    rw [gnd_le, show (x + 1) * y = x * y + y by grind]
    simp only [show ¬ x * y + y < 0 by omega, if_false]
    have h5 := pr_pos (show 0 ≤ p - x - 1 by omega) (show 0 ≤ q by omega)
    have h6 := pr_pos (show 0 ≤ x + 1 by omega) (show 0 ≤ q - y by omega)
    rw [show (p - x - 1) * q = p * q - x * q - q by grind] at h5
    rw [show (x + 1) * (q - y) = x * q - x * y + q - y by grind] at h6
    omega
  · have hpx : p = x := by omega
    subst hpx
    by_cases hq : y < q
    · have h5 := pr_pos hx (show 0 ≤ q - y - 1 by omega)
      rw [show p * (q - y - 1) = p * q - p * y - p by grind] at h5
      by_cases y1 : 1 ≤ y
      · refine ⟨_, _, _, p, q - 1, .s p y a, ⟨by rw [e1]; exact Int.le_refl _, by unfold ab; split <;> omega, ?_⟩, by unfold cost; rw [e1, e2]; unfold ab; split <;> omega⟩
        have h6 := pr_pos hx (show 0 ≤ y - 1 by omega)
        rw [gnd_le, show p * (y - 1) = p * y - p by grind, show p * (q - 1) = p * q - p by grind]
        rw [show p * (y - 1) = p * y - p by grind] at h6
        simp only [show ¬ p * y - p < 0 by omega, if_false]
        omega
      · have y0 : y = 0 := by omega
        subst y0
        refine ⟨_, _, _, p, q, .s p 0 a, ⟨by rw [e1]; exact Int.le_refl _, by unfold ab; split <;> omega, ?_⟩, by unfold cost; rw [e1, e2]; unfold ab; split <;> omega⟩
        rw [gnd_le, show p * (0 - 1) = -p by grind]
        rw [Int.mul_zero] at h5 h2 b3
        by_cases c : -p < 0 <;> simp only [c, if_true, if_false] <;> omega
    · have hqy : q = y := by omega
      subst hqy
      by_cases ha : 1 ≤ q ∧ p ≤ a
      · refine ⟨_, _, _, p, q - 1, .s p q a, ⟨by rw [e1]; exact Int.le_refl _, by unfold ab; split <;> omega, ?_⟩, by unfold cost; rw [e1, e2]; unfold ab; split <;> omega⟩
        have h6 := pr_pos hx (show 0 ≤ q - 1 by omega)
        rw [gnd_le, show p * (q - 1) = p * q - p by grind]
        rw [show p * (q - 1) = p * q - p by grind] at h6
        simp only [show ¬ p * q - p < 0 by omega, if_false]
        omega
      · have x1 : 1 ≤ p := by
          by_cases z : 1 ≤ p
          · exact z
          · have p0 : p = 0 := by omega
            subst p0
            rw [Int.zero_mul] at b3
            omega
        refine ⟨_, _, _, p - 1, q, .w p q a, ⟨by unfold ab; split <;> omega, by rw [e2]; exact Int.le_refl _, ?_⟩, by unfold cost; rw [e1, e2]; unfold ab; split <;> omega⟩
        have h6 := pr_pos (show 0 ≤ p - 1 by omega) hy
        rw [gnd_le, show (p - 1) * q = p * q - q by grind]
        rw [show (p - 1) * q = p * q - q by grind] at h6
        simp only [show ¬ p * q - q < 0 by omega, if_false]
        by_cases q1 : 1 ≤ q
        · have h7 := pr_pos (show 0 ≤ p - 1 by omega) (show 0 ≤ q - 1 by omega)
          rw [show (p - 1) * (q - 1) = p * q - p - q + 1 by grind] at h7
          omega
        · have q0 : q = 0 := by omega
          subst q0
          rw [Int.mul_zero] at b3 h2 ⊢
          omega
theorem down1 {x y a p q : Int} (b : Box x y a p q) (hx : 0 ≤ x) (hy : 0 ≤ y) (h0 : ¬ (x = 0 ∧ y = 0 ∧ a = 0)) :
    ∃ x' y' a' p' q', Stp x y a x' y' a' ∧ Box x' y' a' p' q' ∧ cost x' y' p' q' = cost x y p q - 1 := by
  by_cases h : x * y ≤ 2 * a
  · exact down0 b hx hy h h0
  · obtain ⟨x', y', a', p', q', s, b', c⟩ := down0 b.t hy hx (by rw [Int.mul_comm]; omega) (fun z => h0 ⟨z.2.1, z.1, by rw [z.1, Int.mul_zero] at z; omega⟩)
    have s' := s.t
    rw [show y * x - (x * y - a) = a by grind] at s'
    exact ⟨y', x', _, q', p', s', b'.t, by rw [cost_t, c, cost_t]⟩
theorem down {x y a p q : Int} (b : Box x y a p q) (h0 : ¬ (x = 0 ∧ y = 0 ∧ a = 0)) :
    ∃ x' y' a' p' q', Stp x y a x' y' a' ∧ Box x' y' a' p' q' ∧ cost x' y' p' q' = cost x y p q - 1 := by
  have half : ∀ {x y a p q : Int}, Box x y a p q → 0 ≤ y → ¬ (x = 0 ∧ y = 0 ∧ a = 0) → ∃ x' y' a' p' q', Stp x y a x' y' a' ∧ Box x' y' a' p' q' ∧ cost x' y' p' q' = cost x y p q - 1 := fun {x y a p q} b hy h0 => by
    by_cases hx : 0 ≤ x
    · exact down1 b hx hy h0
    · obtain ⟨x', y', a', p', q', s, b', c⟩ := down1 b.mx (by omega) hy (by omega)
      have s' := s.mx
      rw [show - -x = x by omega, show - -a = a by omega] at s'
      exact ⟨_, _, _, p', q', s', b'.mx, by rw [cost_mx, c, cost_mx]⟩
  by_cases hy : 0 ≤ y
  · exact half b hy h0
  · obtain ⟨x', y', a', p', q', s, b', c⟩ := half b.my (by omega) (by omega)
    have s' := s.my
    rw [show - -y = y by omega, show - -a = a by omega] at s'
    exact ⟨_, _, _, p', q', s', b'.my, by rw [cost_my, c, cost_my]⟩
/-! the formula -/
/-- c by ceiling: the least c with Z ≤ X * c -/
def ceilD (z m : Int) : Int := -((-z).fdiv m)
theorem ceilD_le {z m : Int} (hm : 0 < m) : z ≤ m * ceilD z m ∧ m * (ceilD z m - 1) < z := by
  unfold ceilD
  have h1 : m * (-z).fdiv m + (-z).fmod m = -z := Int.mul_fdiv_add_fmod (-z) m
  have h2 : 0 ≤ (-z).fmod m := Int.fmod_nonneg_of_pos _ hm
  have h3 : (-z).fmod m < m := Int.fmod_lt_of_pos _ hm
  rw [show m * (-(-z).fdiv m - 1) = -(m * (-z).fdiv m) - m by grind, Int.mul_neg]
  omega
def mor (x y : Int) : Int := if ab y ≤ ab x then ab x else ab y
def les (x y : Int) : Int := if ab y ≤ ab x then ab y else ab x
/-- what the formula tells, r being the least root of 4 * ground -/
def stpF (x y a r : Int) : Int :=
  if gnd x y a ≤ mor x y * les x y then mor x y + les x y
  else if gnd x y a ≤ mor x y * mor x y then 2 * ceilD (gnd x y a) (mor x y) + mor x y - les x y
  else 2 * r - mor x y - les x y
theorem mor_les (x y : Int) : mor x y + les x y = ab x + ab y ∧ les x y ≤ mor x y ∧ 0 ≤ les x y := by
  have h1 := ab_nonneg x
  have h2 := ab_nonneg y
  unfold mor les
  split <;> omega
theorem sq_le {u v : Int} (hu : 0 ≤ u) (hv : 0 ≤ v) (h : u * u ≤ v * v) : u ≤ v := by
  by_cases c : u ≤ v
  · exact c
  · have h1 := pr_pos (show 0 ≤ u - v - 1 by omega) (show 0 ≤ u + v by omega)
    rw [show (u - v - 1) * (u + v) = u * u - v * v - u - v by grind] at h1
    omega
theorem sq_lt {u v : Int} (hu : 0 ≤ u) (hv : 0 ≤ v) (h : u * u < v * v) : u < v := by
  by_cases c : u < v
  · exact c
  · have h1 := pr_pos (show 0 ≤ u - v by omega) (show 0 ≤ u + v by omega)
    rw [show (u - v) * (u + v) = u * u - v * v by grind] at h1
    omega
/-- no box is cheaper -/
theorem low_box {X Y Z p q r : Int} (hY : 0 ≤ Y) (hXY : Y ≤ X) (hp : X ≤ p) (hq : Y ≤ q) (hz : Z ≤ p * q) (hr : IsRt (4 * Z) r) :
    (if Z ≤ X * Y then X + Y else if Z ≤ X * X then 2 * ceilD Z X + X - Y else 2 * r - X - Y) ≤ 2 * (p + q) - X - Y := by
  split
  · omega
  · rename_i h1
    split
    · rename_i h2
      have hX : 0 < X := by
        by_cases c : 0 < X
        · exact c
        · have x0 : X = 0 := by omega
          subst x0
          rw [Int.zero_mul] at h1 h2
          omega
      obtain ⟨c1, c2⟩ := ceilD_le (z := Z) hX
      generalize ceilD Z X = c at *
      have hc : c ≤ X := by
        have : X * (c - 1) < X * X := Int.lt_of_lt_of_le c2 h2
        have := Int.lt_of_mul_lt_mul_left this (Int.le_of_lt hX)
        omega
      by_cases g : c + X ≤ p + q
      · omega
      · have h5 := pr_pos (show 0 ≤ p - X by omega) (show 0 ≤ X - c + 1 by omega)
        have h6 := pr_pos (show 0 ≤ p - X by omega) (show 0 ≤ p - X by omega)
        have h7 := pr_pos (show 0 ≤ p by omega) (show 0 ≤ c + X - 1 - p - q by omega)
        rw [show (p - X) * (X - c + 1) = p * X - p * c + p - X * X + X * c - X by grind] at h5
        rw [show (p - X) * (p - X) = p * p - 2 * (p * X) + X * X by grind] at h6
        rw [show p * (c + X - 1 - p - q) = p * c + p * X - p - p * p - p * q by grind] at h7
        rw [show X * (c - 1) = X * c - X by grind] at c2
        omega
    · have : r ≤ p + q := by
        by_cases c : r ≤ p + q
        · exact c
        · have h5 := hr.2.2 (by omega)
          have h6 := pr_pos (show 0 ≤ r - 1 - (p + q) by omega) (show 0 ≤ r - 1 + (p + q) by omega)
          rw [show (r - 1 - (p + q)) * (r - 1 + (p + q)) = (r - 1) * (r - 1) - (p * p + 2 * (p * q) + q * q) by grind] at h6
          have h7 : 0 ≤ (p - q) * (p - q) := by
            by_cases g : 0 ≤ p - q
            · exact pr_pos g g
            · have := pr_pos (show 0 ≤ q - p by omega) (show 0 ≤ q - p by omega)
              rw [show (q - p) * (q - p) = (p - q) * (p - q) by grind] at this
              exact this
          rw [show (p - q) * (p - q) = p * p - 2 * (p * q) + q * q by grind] at h7
          omega
      omega
/-- some box is as cheap -/
theorem has_box {X Y Z r : Int} (hY : 0 ≤ Y) (hXY : Y ≤ X) (hr : IsRt (4 * Z) r) : ∃ p q, X ≤ p ∧ Y ≤ q ∧ Z ≤ p * q ∧
    (if Z ≤ X * Y then X + Y else if Z ≤ X * X then 2 * ceilD Z X + X - Y else 2 * r - X - Y) = 2 * (p + q) - X - Y := by
  split
  · rename_i h1
    exact ⟨X, Y, Int.le_refl _, Int.le_refl _, h1, by omega⟩
  · rename_i h1
    split
    · rename_i h2
      have hX : 0 < X := by
        by_cases c : 0 < X
        · exact c
        · have x0 : X = 0 := by omega
          subst x0
          rw [Int.zero_mul] at h1 h2
          omega
      obtain ⟨c1, c2⟩ := ceilD_le (z := Z) hX
      generalize ceilD Z X = c at *
      have : Y < c := by
        have : X * Y < X * c := by omega
        exact Int.lt_of_mul_lt_mul_left this (Int.le_of_lt hX)
      exact ⟨X, c, Int.le_refl _, by omega, c1, by omega⟩
    · rename_i h2
      have h3 : 2 * X < r := sq_lt (by omega) hr.1 (by have := hr.2.1; rw [show 2 * X * (2 * X) = 4 * (X * X) by grind]; omega)
      have h4 := hr.2.1
      have ⟨k, hk⟩ : ∃ k, r = 2 * k ∨ r = 2 * k + 1 := ⟨r / 2, by omega⟩
      rcases hk with rfl | rfl
      · refine ⟨k, k, by omega, by omega, ?_, by omega⟩
        rw [show 2 * k * (2 * k) = 4 * (k * k) by grind] at h4
        omega
      · refine ⟨k + 1, k, by omega, by omega, ?_, by omega⟩
        rw [show (2 * k + 1) * (2 * k + 1) = 4 * (k * k) + 4 * k + 1 by grind] at h4
        rw [show (k + 1) * k = k * k + k by grind]
        omega
theorem stp_low {x y a p q r : Int} (b : Box x y a p q) (hr : IsRt (4 * gnd x y a) r) : stpF x y a r ≤ cost x y p q := by
  obtain ⟨h1, h2, h3⟩ := b
  obtain ⟨m1, m2, m3⟩ := mor_les x y
  have key : ∀ p q, mor x y ≤ p → les x y ≤ q → gnd x y a ≤ p * q → stpF x y a r ≤ 2 * (p + q) - mor x y - les x y := fun p q hp hq hz => low_box m3 m2 hp hq hz hr
  unfold cost
  unfold mor les at key m1
  split at key
  · rename_i c
    have := key p q h1 h2 h3
    omega
  · have := key q p h2 h1 (by rw [Int.mul_comm]; exact h3)
    omega
theorem stp_has {x y a r : Int} (hr : IsRt (4 * gnd x y a) r) : ∃ p q, Box x y a p q ∧ stpF x y a r = cost x y p q := by
  obtain ⟨m1, m2, m3⟩ := mor_les x y
  obtain ⟨p, q, hp, hq, hz, e⟩ := has_box (Z := gnd x y a) m3 m2 hr
  have e : stpF x y a r = 2 * (p + q) - mor x y - les x y := e
  unfold mor at hp
  unfold les at hq
  unfold cost
  split at hp <;> rename_i c <;> simp only [c, if_true, if_false] at hq
  · exact ⟨p, q, ⟨hp, hq, hz⟩, by omega⟩
  · exact ⟨q, p, ⟨hq, hp, by rw [Int.mul_comm]; exact hz⟩, by omega⟩
/-- the least root of a whole number -/
theorem rt_ex (n : Int) (h : 0 ≤ n) : ∃ r, IsRt n r := by
  have : ∀ k : Nat, (∃ r, 0 ≤ r ∧ r ≤ k ∧ IsRt n r) ∨ (k : Int) * k < n := fun k => by
    induction k with
    | zero =>
      by_cases c : n = 0
      · exact .inl ⟨0, by omega, by omega, by omega, by omega, by omega⟩
      · exact .inr (by simp; omega)
    | succ k ih =>
      rcases ih with ⟨r, h1, h2, h3⟩ | h
      · exact .inl ⟨r, h1, by omega, h3⟩
      · by_cases c : ((k + 1 : Nat) : Int) * (k + 1 : Nat) < n
        · exact .inr c
        · exact .inl ⟨(k + 1 : Nat), by omega, by omega, by omega, by omega, fun _ => by
            rw [show ((k + 1 : Nat) : Int) - 1 = k by omega]
            exact h⟩
  rcases this (n.toNat + 1) with ⟨r, _, _, h⟩ | h
  · exact ⟨r, h⟩
  · exfalso
    have e : ((n.toNat + 1 : Nat) : Int) = n + 1 := by omega
    rw [e, show (n + 1) * (n + 1) = n * n + 2 * n + 1 by grind] at h
    have := pr_pos (show (0:Int) ≤ n from by assumption) (show (0:Int) ≤ n from by assumption)
    omega
theorem rt_uniq {n r r' : Int} (h : IsRt n r) (h' : IsRt n r') : r = r' := by
  have key : ∀ {r r' : Int}, IsRt n r → IsRt n r' → r ≤ r' := fun {r r'} h h' => by
    by_cases c : r ≤ r'
    · exact c
    · have h1 := h.2.2 (by have := h'.1; omega)
      have h2 := h'.2.1
      have := sq_lt (by have := h'.1; omega) h'.1 (Int.lt_of_lt_of_le h1 h2)
      omega
  have h1 := key h h'
  have h2 := key h' h
  omega
open Classical in
noncomputable def rt (n : Int) : Int := if h : 0 ≤ n then Classical.choose (rt_ex n h) else 0
theorem rt_is {n : Int} (h : 0 ≤ n) : IsRt n (rt n) := by
  unfold rt
  rw [dif_pos h]
  exact Classical.choose_spec (rt_ex n h)
theorem rt_eq {n r : Int} (h : IsRt n r) : rt n = r := by
  by_cases c : 0 ≤ n
  · exact rt_uniq (rt_is c) h
  · unfold rt
    rw [dif_neg c]
    by_cases g : 0 < r
    · have := h.2.2 g
      have := pr_pos (show 0 ≤ r - 1 by omega) (show 0 ≤ r - 1 by omega)
      omega
    · have := h.1
      omega
/-- the steps of a place -/
noncomputable def stp (x y a : Int) : Int := stpF x y a (rt (4 * gnd x y a))
theorem g4 (x y a : Int) : 0 ≤ 4 * gnd x y a := by have := gnd_nonneg x y a; omega
theorem stp_le {x y a p q : Int} (b : Box x y a p q) : stp x y a ≤ cost x y p q := stp_low b (rt_is (g4 x y a))
theorem stp_box (x y a : Int) : ∃ p q, Box x y a p q ∧ stp x y a = cost x y p q := stp_has (rt_is (g4 x y a))
theorem stp_up {x y a x' y' a' : Int} (h : Stp x y a x' y' a') : stp x' y' a' ≤ stp x y a + 1 := by
  obtain ⟨p, q, b, e⟩ := stp_box x y a
  obtain ⟨p', q', b', c⟩ := up h b
  have := stp_le b'
  omega
theorem stp_par (x y a : Int) : (stp x y a - x - y) % 2 = 0 := by
  obtain ⟨p, q, b, e⟩ := stp_box x y a
  rw [e]
  unfold cost ab
  split <;> split <;> omega
theorem stp_adj {x y a x' y' a' : Int} (h : Stp x y a x' y' a') : stp x' y' a' = stp x y a + 1 ∨ stp x' y' a' = stp x y a - 1 := by
  have h1 := stp_up h
  have h2 := stp_up h.back
  have h3 := stp_par x y a
  have h4 := stp_par x' y' a'
  have h5 : (x' + y' - x - y) % 2 = 1 := by cases h <;> omega
  omega
theorem stp_dec {x y a : Int} (h0 : ¬ (x = 0 ∧ y = 0 ∧ a = 0)) : ∃ x' y' a', Stp x y a x' y' a' ∧ stp x' y' a' = stp x y a - 1 := by
  obtain ⟨p, q, b, e⟩ := stp_box x y a
  obtain ⟨x', y', a', p', q', s, b', c⟩ := down b h0
  refine ⟨x', y', a', s, ?_⟩
  have h1 := stp_le b'
  have h2 := stp_adj s
  omega
theorem stp_nonneg (x y a : Int) : 0 ≤ stp x y a := by
  obtain ⟨p, q, b, e⟩ := stp_box x y a
  rw [e]
  have := b.px
  have := b.qy
  have := ab_nonneg x
  have := ab_nonneg y
  unfold cost
  omega
theorem stp_zero : stp 0 0 0 = 0 := by
  have h := stp_le (x := 0) (y := 0) (a := 0) (p := 0) (q := 0) ⟨by decide, by decide, by decide⟩
  have h2 := stp_nonneg 0 0 0
  have : cost 0 0 0 0 = 0 := by decide
  omega
theorem stp_pos {x y a : Int} (h0 : ¬ (x = 0 ∧ y = 0 ∧ a = 0)) : 0 < stp x y a := by
  obtain ⟨x', y', a', s, e⟩ := stp_dec h0
  have := stp_nonneg x' y' a'
  omega
theorem stp_sym {x y a x' y' a' : Int} (h : ∀ p q, Box x y a p q → ∃ p' q', Box x' y' a' p' q' ∧ cost x' y' p' q' = cost x y p q) : stp x' y' a' ≤ stp x y a := by
  obtain ⟨p, q, b, e⟩ := stp_box x y a
  obtain ⟨p', q', b', c⟩ := h p q b
  have := stp_le b'
  omega
theorem stp_mx (x y a : Int) : stp (-x) y (-a) = stp x y a := by
  have key : ∀ x y a : Int, stp (-x) y (-a) ≤ stp x y a := fun x y a => stp_sym fun p q b => ⟨p, q, b.mx, cost_mx ..⟩
  have h1 := key x y a
  have h2 := key (-x) y (-a)
  rw [show - -x = x by omega, show - -a = a by omega] at h2
  omega
theorem stp_my (x y a : Int) : stp x (-y) (-a) = stp x y a := by
  have key : ∀ x y a : Int, stp x (-y) (-a) ≤ stp x y a := fun x y a => stp_sym fun p q b => ⟨p, q, b.my, cost_my ..⟩
  have h1 := key x y a
  have h2 := key x (-y) (-a)
  rw [show - -y = y by omega, show - -a = a by omega] at h2
  omega
theorem stp_t (x y a : Int) : stp y x (x * y - a) = stp x y a := by
  have key : ∀ x y a : Int, stp y x (x * y - a) ≤ stp x y a := fun x y a => stp_sym fun p q b => ⟨q, p, b.t, cost_t ..⟩
  have h1 := key x y a
  have h2 := key y x (x * y - a)
  rw [show y * x - (x * y - a) = a by grind] at h2
  omega
/-- a place, walked on by a step, ahead of it another one -/
theorem Stp.ahead {x y a x' y' a' : Int} (h : Stp x y a x' y' a') (u v b : Int) : Stp (u + x) (v + y) (b + a + u * y) (u + x') (v + y') (b + a' + u * y') := by
  cases h with
  | e => rw [show u + (x + 1) = u + x + 1 by omega]; exact .e ..
  | w => rw [show u + (x - 1) = u + x - 1 by omega]; exact .w ..
  | n => rw [show v + (y + 1) = v + y + 1 by omega, show b + (a + x) + u * (y + 1) = b + a + u * y + (u + x) by grind]; exact .n ..
  | s => rw [show v + (y - 1) = v + y - 1 by omega, show b + (a - x) + u * (y - 1) = b + a + u * y - (u + x) by grind]; exact .s ..
theorem stp_tri (u v b : Int) : ∀ (n : Nat) (x y a : Int), stp x y a = n → stp (u + x) (v + y) (b + a + u * y) ≤ stp u v b + n
  | 0, x, y, a, h => by
    by_cases h0 : x = 0 ∧ y = 0 ∧ a = 0
    · obtain ⟨rfl, rfl, rfl⟩ := h0
      rw [show u + 0 = u by omega, show v + 0 = v by omega, show b + 0 + u * 0 = b by grind]
      simp
    · have := stp_pos h0
      simp at h
      omega
  | n + 1, x, y, a, h => by
    by_cases h0 : x = 0 ∧ y = 0 ∧ a = 0
    · obtain ⟨rfl, rfl, rfl⟩ := h0
      rw [stp_zero] at h
      omega
    · obtain ⟨x', y', a', s, e⟩ := stp_dec h0
      have h1 := stp_tri u v b n x' y' a' (by omega)
      have h2 := stp_up (s.ahead u v b).back
      omega
theorem tri (u v b x y a : Int) : stp (u + x) (v + y) (b + a + u * y) ≤ stp u v b + stp x y a := by
  have h := stp_nonneg x y a
  obtain ⟨n, hn⟩ := Int.eq_ofNat_of_zero_le h
  have := stp_tri u v b n x y a hn
  omega
/-! closed values -/
theorem stp_eq {x y a v p q : Int} (b : Box x y a p q) (hc : cost x y p q = v) (hl : ∀ p q, Box x y a p q → v ≤ cost x y p q) : stp x y a = v := by
  have h1 := stp_le b
  obtain ⟨p', q', b', e⟩ := stp_box x y a
  have h2 := hl p' q' b'
  omega
theorem ab_of {x : Int} (h : 0 ≤ x) : ab x = x := by unfold ab; split <;> omega
theorem gnd0 {x a : Int} : gnd x 0 a = ab a := by
  unfold gnd ab
  rw [Int.mul_zero, Int.fdiv_eq_ediv_of_nonneg _ (by decide)]
  split <;> split <;> omega
theorem gnd00 {a : Int} : gnd 0 0 a = ab a := gnd0
theorem sq4 (p q : Int) : 4 * (p * q) ≤ (p + q) * (p + q) := by
  have h : 0 ≤ (p - q) * (p - q) := by
    by_cases g : 0 ≤ p - q
    · exact pr_pos g g
    · have := pr_pos (show 0 ≤ q - p by omega) (show 0 ≤ q - p by omega)
      rw [show (q - p) * (q - p) = (p - q) * (p - q) by grind] at this
      exact this
  rw [show (p - q) * (p - q) = (p + q) * (p + q) - 4 * (p * q) by grind] at h
  omega
theorem closed_sq {s m : Int} (hs : 1 ≤ s) (hm : m = 0 ∨ m = 1) : stp 0 0 (s * (s + m)) = 4 * s + 2 * m ∧ stp 0 0 (s * (s + m) + 1) = 4 * s + 2 * m + 2 := by
  have hA := pr_pos (show 0 ≤ s by omega) (show 0 ≤ s + m by omega)
  have c0 : ∀ p q : Int, cost 0 0 p q = 2 * (p + q) := fun p q => by unfold cost ab; simp
  have low : ∀ (p q t : Int), 0 ≤ p → 0 ≤ q → 0 ≤ t → t * t < 4 * (p * q) → t < p + q := fun p q t hp hq ht h => sq_lt ht (by omega) (by have := sq4 p q; omega)
  constructor
  · refine stp_eq (p := s) (q := s + m) ⟨by rw [ab_of (by omega)]; omega, by rw [ab_of (by omega)]; omega, by rw [gnd00, ab_of hA]; exact Int.le_refl _⟩ (by rw [c0]; omega) fun p q b => ?_
    have h1 := b.px
    have h2 := b.qy
    have h3 := b.room
    rw [gnd00, ab_of hA] at h3
    rw [ab_of (by omega)] at h1 h2
    rw [c0]
    have := low p q (2 * s + m - 1) h1 h2 (by omega) (by
      rcases hm with rfl | rfl
      · rw [show (2 * s + 0 - 1) * (2 * s + 0 - 1) = 4 * (s * s) - 4 * s + 1 by grind]
        rw [show s * (s + 0) = s * s by grind] at h3
        omega
      · rw [show (2 * s + 1 - 1) * (2 * s + 1 - 1) = 4 * (s * s) by grind]
        rw [show s * (s + 1) = s * s + s by grind] at h3
        omega)
    omega
  · refine stp_eq (p := s + 1) (q := s + m) ⟨by rw [ab_of (by omega)]; omega, by rw [ab_of (by omega)]; omega, ?_⟩ (by rw [c0]; omega) fun p q b => ?_
    · rw [gnd00, ab_of (by omega), show (s + 1) * (s + m) = s * (s + m) + s + m by grind]
      omega
    have h1 := b.px
    have h2 := b.qy
    have h3 := b.room
    rw [gnd00, ab_of (by omega)] at h3
    rw [ab_of (by omega)] at h1 h2
    rw [c0]
    have := low p q (2 * s + m) h1 h2 (by omega) (by
      rcases hm with rfl | rfl
      · rw [show (2 * s + 0) * (2 * s + 0) = 4 * (s * s) by grind]
        rw [show s * (s + 0) = s * s by grind] at h3
        omega
      · rw [show (2 * s + 1) * (2 * s + 1) = 4 * (s * s) + 4 * s + 1 by grind]
        rw [show s * (s + 1) = s * s + s by grind] at h3
        omega)
    omega
theorem sum_ge {W H p q : Int} (hH : 0 ≤ H) (hW : H ≤ W) (hp : W ≤ p) (hq : 0 ≤ q) (h : W * H - W < p * q) : W + H ≤ p + q := by
  by_cases c : W + H ≤ p + q
  · exact c
  · have h1 := pr_pos (show 0 ≤ p by omega) (show 0 ≤ W + H - 1 - p - q by omega)
    have h2 := pr_pos (show 0 ≤ p - W by omega) (show 0 ≤ W - H + 1 by omega)
    have h3 := pr_pos (show 0 ≤ p - W by omega) (show 0 ≤ p - W by omega)
    rw [show p * (W + H - 1 - p - q) = p * W + p * H - p - p * p - p * q by grind] at h1
    rw [show (p - W) * (W - H + 1) = p * W - p * H + p - W * W + W * H - W by grind] at h2
    rw [show (p - W) * (p - W) = p * p - 2 * (p * W) + W * W by grind] at h3
    omega
theorem closed_ob {W H : Int} (hH : 1 ≤ H) (hW : H ≤ W) : stp W H (W * H) = W + H ∧ stp W H 0 = W + H ∧ stp W 0 (W * H) = W + 2 * H ∧ stp W H (W * H + 1) = W + H + 2 ∧ stp W 0 (-W * H + 1) = W + 2 * H - 2 * (if W = 1 then 1 else 0) := by
  have hA := pr_pos (show 0 ≤ W by omega) (show 0 ≤ H by omega)
  have aW : ab W = W := ab_of (by omega)
  have aH : ab H = H := ab_of (by omega)
  have a0 : ab 0 = 0 := ab_of (by omega)
  have g := gnd_max W H
  have big : 1 ≤ W * H := by
    have := pr_pos (show 0 ≤ W - 1 by omega) (show 0 ≤ H - 1 by omega)
    rw [show (W - 1) * (H - 1) = W * H - W - H + 1 by grind] at this
    omega
  have c1 : ∀ p q, cost W H p q = 2 * (p + q) - W - H := fun p q => by unfold cost; rw [aW, aH]
  have c2 : ∀ p q, cost W 0 p q = 2 * (p + q) - W := fun p q => by unfold cost; rw [aW, a0]; omega
  refine ⟨?_, ?_, ?_, ?_, ?_⟩
  · refine stp_eq (p := W) (q := H) ⟨by rw [aW]; exact Int.le_refl _, by rw [aH]; exact Int.le_refl _, by rw [(g _).1 hA]; split <;> omega⟩ (by rw [c1]; omega) fun p q b => ?_
    have h1 := b.px
    have h2 := b.qy
    rw [aW] at h1
    rw [aH] at h2
    rw [c1]
    omega
  · refine stp_eq (p := W) (q := H) ⟨by rw [aW]; exact Int.le_refl _, by rw [aH]; exact Int.le_refl _, by rw [(g _).1 hA]; split <;> omega⟩ (by rw [c1]; omega) fun p q b => ?_
    have h1 := b.px
    have h2 := b.qy
    rw [aW] at h1
    rw [aH] at h2
    rw [c1]
    omega
  · refine stp_eq (p := W) (q := H) ⟨by rw [aW]; exact Int.le_refl _, by rw [a0]; omega, by rw [gnd0, ab_of hA]; exact Int.le_refl _⟩ (by rw [c2]; omega) fun p q b => ?_
    have h1 := b.px
    have h2 := b.qy
    have h3 := b.room
    rw [aW] at h1
    rw [a0] at h2
    rw [gnd0, ab_of hA] at h3
    rw [c2]
    have := sum_ge (show 0 ≤ H by omega) hW h1 h2 (by omega)
    omega
  · refine stp_eq (p := W + 1) (q := H) ⟨by rw [aW]; omega, by rw [aH]; exact Int.le_refl _, ?_⟩ (by rw [c1]; omega) fun p q b => ?_
    · rw [(g _).1 hA, show (W + 1) * H = W * H + H by grind]; split <;> omega
    have h1 := b.px
    have h2 := b.qy
    have h3 := b.room
    rw [aW] at h1
    rw [aH] at h2
    rw [(g _).1 hA] at h3
    rw [if_pos (by omega)] at h3
    rw [c1]
    by_cases e : p + q = W + H
    · have e1 : p = W := by omega
      have e2 : q = H := by omega
      subst e1
      subst e2
      omega
    · omega
  · rw [show -W * H + 1 = -(W * H - 1) by grind]
    have gz : gnd W 0 (-(W * H - 1)) = W * H - 1 := by rw [gnd0, ab_neg, ab_of (by omega)]
    by_cases w1 : W = 1
    · subst w1
      have h1 : H = 1 := by omega
      subst h1
      rw [if_pos rfl]
      refine stp_eq (p := 1) (q := 0) ⟨by rw [aW]; exact Int.le_refl _, by rw [a0]; omega, by rw [gz]; decide⟩ (by rw [c2]; decide) fun p q b => ?_
      have h1 := b.px
      have h2 := b.qy
      rw [aW] at h1
      rw [a0] at h2
      rw [c2]
      omega
    · rw [if_neg w1]
      refine stp_eq (p := W) (q := H) ⟨by rw [aW]; exact Int.le_refl _, by rw [a0]; omega, by rw [gz]; omega⟩ (by rw [c2]; omega) fun p q b => ?_
      have h1 := b.px
      have h2 := b.qy
      have h3 := b.room
      rw [aW] at h1
      rw [a0] at h2
      rw [gz] at h3
      rw [c2]
      have := sum_ge (show 0 ≤ H by omega) hW h1 h2 (by omega)
      omega
theorem stp_congr {x y a x' y' a' : Int} (h : gnd x y a = gnd x' y' a') (hx : ab x = ab x') (hy : ab y = ab y') : stp x y a = stp x' y' a' := by
  unfold stp stpF mor les
  rw [h, hx, hy]
theorem stp_back (x y a : Int) : stp (-x) (-y) (x * y - a) = stp x y a := by
  refine stp_congr ?_ (ab_neg x) (ab_neg y)
  unfold gnd
  rw [show 2 * (x * y - a) - -x * -y = -(2 * a - x * y) by grind, show -x * -y = x * y by grind, ab_neg]
end ST
set_option maxRecDepth 100000
set_option maxHeartbeats 4000000
namespace ST
/-! ### walks as runs: the plain law -/
/-- letters: e 101, n 110, w 119, s 115 -/
def isL (c : Nat) : Prop := c = 101 ∨ c = 110 ∨ c = 119 ∨ c = 115
structure Sp where
  x : Int
  y : Int
  a : Int
def gone (p : Sp) (c : Nat) (t : Int) : Sp :=
  if c = 101 then ⟨p.x + t, p.y, p.a⟩ else if c = 119 then ⟨p.x - t, p.y, p.a⟩ else if c = 110 then ⟨p.x, p.y + t, p.a + p.x * t⟩ else ⟨p.x, p.y - t, p.a - p.x * t⟩
abbrev Runs := List (Nat × Int)
def led (p : Sp) : Runs → Sp
  | [] => p
  | (c, t) :: r => led (gone p c t) r
def len : Runs → Int
  | [] => 0
  | (_, t) :: r => t + len r
abbrev home : Sp := ⟨0, 0, 0⟩
/-- all letters are letters, all numbers are 0 or greater -/
def Good (r : Runs) : Prop := ∀ q ∈ r, isL q.1 ∧ 0 ≤ q.2
theorem Good.tail {q : Nat × Int} {r : Runs} (h : Good (q :: r)) : Good r := fun p hp => h p (List.mem_cons_of_mem _ hp)
theorem Good.head {q : Nat × Int} {r : Runs} (h : Good (q :: r)) : isL q.1 ∧ 0 ≤ q.2 := h q (List.mem_cons_self ..)
theorem Good.app {r r' : Runs} (h : Good r) (h' : Good r') : Good (r ++ r') := fun p hp => by
  rcases List.mem_append.mp hp with z | z
  · exact h p z
  · exact h' p z
theorem led_app (p : Sp) (r r' : Runs) : led p (r ++ r') = led (led p r) r' := by
  induction r generalizing p with
  | nil => rfl
  | cons q r ih => exact ih _
theorem len_app (r r' : Runs) : len (r ++ r') = len r + len r' := by
  induction r with
  | nil => simp [len]
  | cons q r ih => simp only [List.cons_append, len, ih]; omega
theorem len_nonneg {r : Runs} (h : Good r) : 0 ≤ len r := by
  induction r with
  | nil => exact Int.le_refl _
  | cons q r ih =>
    have h1 := h.head.2
    have h2 := ih h.tail
    simp only [len]
    omega
theorem gone_zero (p : Sp) (c : Nat) : gone p c 0 = p := by
  unfold gone
  split
  · simp
  · split
    · simp
    · split <;> simp
theorem gone_add (p : Sp) (c : Nat) (t u : Int) : gone (gone p c t) c u = gone p c (t + u) := by
  unfold gone
  split
  · simp; omega
  · split
    · simp; omega
    · split
      · simp only [Sp.mk.injEq, true_and]; exact ⟨by omega, by grind⟩
      · simp only [Sp.mk.injEq, true_and]; exact ⟨by omega, by grind⟩
/-- one step -/
theorem gone_one {p : Sp} {c : Nat} (h : isL c) : Stp p.x p.y p.a (gone p c 1).x (gone p c 1).y (gone p c 1).a := by
  unfold gone
  rcases h with rfl | rfl | rfl | rfl
  · exact .e ..
  · simp only [show ¬ (110 = 101) by decide, show ¬ (110 = 119) by decide, if_false, if_true, Int.mul_one]; exact .n ..
  · simp only [show ¬ (119 = 101) by decide, if_false, if_true]; exact .w ..
  · simp only [show ¬ (115 = 101) by decide, show ¬ (115 = 119) by decide, show ¬ (115 = 110) by decide, if_false, Int.mul_one]; exact .s ..
noncomputable def st (p : Sp) : Int := stp p.x p.y p.a
theorem st_gone1 {p : Sp} {c : Nat} (h : isL c) : st (gone p c 1) = st p + 1 ∨ st (gone p c 1) = st p - 1 := stp_adj (gone_one h)
theorem st_gone {p : Sp} {c : Nat} (h : isL c) : ∀ n : Nat, st (gone p c n) ≤ st p + n ∧ st p ≤ st (gone p c n) + n
  | 0 => by
    rw [show ((0 : Nat) : Int) = 0 from rfl, gone_zero]
    omega
  | n + 1 => by
    have h1 := st_gone (p := p) h n
    have h2 := st_gone1 (p := gone p c n) h
    rw [gone_add] at h2
    rw [show ((n + 1 : Nat) : Int) = (n : Int) + 1 by omega]
    omega
theorem st_goneI {p : Sp} {c : Nat} {t : Int} (h : isL c) (ht : 0 ≤ t) : st (gone p c t) ≤ st p + t ∧ st p ≤ st (gone p c t) + t := by
  obtain ⟨n, rfl⟩ := Int.eq_ofNat_of_zero_le ht
  exact st_gone h n
theorem st_led {p : Sp} {r : Runs} (h : Good r) : st (led p r) ≤ st p + len r := by
  induction r generalizing p with
  | nil => simp [led, len]
  | cons q r ih =>
    have h1 := (st_goneI (p := p) h.head.1 h.head.2).1
    have h2 := ih (p := gone p q.1 q.2) h.tail
    simp only [led, len]
    omega
theorem st_home : st home = 0 := stp_zero
/-- a walk is no shorter than the steps of its place -/
theorem st_le_len {r : Runs} (h : Good r) : st (led home r) ≤ len r := by
  have := st_led (p := home) h
  rw [st_home] at this
  omega
/-! ### runs put together -/
def mgStep (acc : Runs) (q : Nat × Int) : Runs := match acc.getLast? with
  | some l => if l.1 = q.1 then acc.dropLast ++ [(q.1, l.2 + q.2)] else if 0 < q.2 then acc ++ [q] else acc
  | none => if 0 < q.2 then acc ++ [q] else acc
def mg (r : Runs) : Runs := r.foldl mgStep []
/-- unlike letters next to one another, numbers from 1 on -/
def Neat : Runs → Prop
  | [] => True
  | [q] => isL q.1 ∧ 1 ≤ q.2
  | q :: q' :: r => (isL q.1 ∧ 1 ≤ q.2) ∧ q.1 ≠ q'.1 ∧ Neat (q' :: r)
theorem Neat.tail {q : Nat × Int} {r : Runs} (h : Neat (q :: r)) : Neat r := by
  cases r with
  | nil => trivial
  | cons q' r => exact h.2.2
theorem Neat.head {q : Nat × Int} {r : Runs} (h : Neat (q :: r)) : isL q.1 ∧ 1 ≤ q.2 := by
  cases r with
  | nil => exact h
  | cons q' r => exact h.1
theorem Neat.good : ∀ {r : Runs}, Neat r → Good r
  | [], _ => fun q hq => by cases hq
  | q :: r, h => fun p hp => by
    rcases List.mem_cons.mp hp with z | z
    · subst z
      exact ⟨h.head.1, by have := h.head.2; omega⟩
    · exact Neat.good h.tail p z
theorem neat_snoc : ∀ {r : Runs} {q : Nat × Int}, Neat r → isL q.1 → 1 ≤ q.2 → (∀ l, r.getLast? = some l → l.1 ≠ q.1) → Neat (r ++ [q])
  | [], q, _, h1, h2, _ => ⟨h1, h2⟩
  | [l], q, h, h1, h2, h3 => ⟨h, h3 l rfl, h1, h2⟩
  | l :: l' :: r, q, h, h1, h2, h3 => ⟨h.1, h.2.1, neat_snoc (r := l' :: r) h.2.2 h1 h2 (fun z hz => h3 z (by rw [List.getLast?_cons_cons]; exact hz))⟩
theorem neat_app : ∀ {r r' : Runs}, Neat (r ++ r') → Neat r ∧ Neat r'
  | [], r', h => ⟨trivial, h⟩
  | [q], [], h => ⟨h, trivial⟩
  | [q], q' :: r', h => ⟨h.head, h.tail⟩
  | q :: q' :: r, r', h => ⟨⟨h.1, h.2.1, (neat_app (r := q' :: r) h.2.2).1⟩, (neat_app (r := q' :: r) h.2.2).2⟩
theorem mgStep_ok {acc : Runs} {q : Nat × Int} (h : Neat acc) (h1 : isL q.1) (h2 : 0 ≤ q.2) (p : Sp) : Neat (mgStep acc q) ∧ led p (mgStep acc q) = gone (led p acc) q.1 q.2 ∧ len (mgStep acc q) = len acc + q.2 := by
  have zero : q.2 = 0 → led p acc = gone (led p acc) q.1 q.2 ∧ len acc = len acc + q.2 := fun z => by rw [z, gone_zero]; simp
  unfold mgStep
  split
  · rename_i l hl
    have e : acc = acc.dropLast ++ [l] := by
      rw [List.getLast?_eq_some_iff] at hl
      obtain ⟨ys, rfl⟩ := hl
      simp
    split
    · rename_i hc
      have hn := (neat_app (e ▸ h)).1
      have hl2 : isL l.1 ∧ 1 ≤ l.2 := (neat_app (r := acc.dropLast) (r' := [l]) (e ▸ h)).2
      refine ⟨neat_snoc hn h1 (by show 1 ≤ l.2 + q.2; omega) (fun l' hl' => ?_), ?_, ?_⟩
      · rw [List.getLast?_eq_some_iff] at hl'
        obtain ⟨ys, hy⟩ := hl'
        rw [hy] at e
        have : Neat (ys ++ ([l'] ++ [l])) := by rw [← List.append_assoc, ← e]; exact h
        have := (neat_app this).2
        rw [← hc]
        exact this.2.1
      · rw [led_app]
        conv => rhs; rw [e, led_app]
        show gone (led p acc.dropLast) q.1 (l.2 + q.2) = gone (gone (led p acc.dropLast) l.1 l.2) q.1 q.2
        rw [hc, gone_add]
      · rw [len_app]
        conv => rhs; rw [e, len_app]
        simp only [len]
        omega
    · rename_i hc
      split
      · refine ⟨neat_snoc h h1 (by omega) (fun l' hl' => ?_), by rw [led_app]; rfl, by rw [len_app]; simp only [len]; omega⟩
        rw [hl] at hl'
        cases hl'
        exact hc
      · exact ⟨h, zero (by omega)⟩
  · rename_i hl
    have e : acc = [] := List.getLast?_eq_none_iff.mp hl
    subst e
    split
    · exact ⟨⟨h1, by omega⟩, rfl, by simp [len]⟩
    · exact ⟨trivial, zero (by omega)⟩
theorem fold_ok (p : Sp) : ∀ (r acc : Runs), Good r → Neat acc → Neat (r.foldl mgStep acc) ∧ led p (r.foldl mgStep acc) = led (led p acc) r ∧ len (r.foldl mgStep acc) = len acc + len r
  | [], acc, _, h => ⟨h, rfl, by simp [len]⟩
  | q :: r, acc, g, h => by
    obtain ⟨h1, h2, h3⟩ := mgStep_ok h g.head.1 g.head.2 p
    obtain ⟨k1, k2, k3⟩ := fold_ok p r (mgStep acc q) g.tail h1
    refine ⟨k1, ?_, ?_⟩
    · show led p (r.foldl mgStep (mgStep acc q)) = led (gone (led p acc) q.1 q.2) r
      rw [k2, h2]
    · show len (r.foldl mgStep (mgStep acc q)) = len acc + (q.2 + len r)
      rw [k3, h3]
      omega
theorem mg_neat {r : Runs} (g : Good r) : Neat (mg r) := (fold_ok home r [] g trivial).1
theorem mg_led {r : Runs} (g : Good r) (p : Sp) : led p (mg r) = led p r := (fold_ok p r [] g trivial).2.1
theorem mg_len {r : Runs} (g : Good r) : len (mg r) = len r := by
  have := (fold_ok home r [] g trivial).2.2
  simp only [len] at this
  unfold mg
  omega
/-! ### the best sides for so many steps more -/
def bs (x y k : Int) : Int × Int := if k ≤ ab (x - y) then (if y ≤ x then (x, y + k) else (x + k, y)) else ((x + y + k + 1).fdiv 2, (x + y + k).fdiv 2)
theorem bs_ok {x y k : Int} (hx : 0 ≤ x) (hy : 0 ≤ y) (hk : 0 ≤ k) : x ≤ (bs x y k).1 ∧ y ≤ (bs x y k).2 ∧ (bs x y k).1 + (bs x y k).2 = x + y + k := by
  unfold bs ab
  rw [Int.fdiv_eq_ediv_of_nonneg _ (by decide), Int.fdiv_eq_ediv_of_nonneg _ (by decide)]
  by_cases c : x - y < 0
  · simp only [c, if_true]
    split
    · simp only [show ¬ y ≤ x by omega, if_false]; omega
    · simp only; omega
  · simp only [c, if_false]
    split
    · simp only [show y ≤ x by omega, if_true]; omega
    · simp only; omega
/-- no other sides hold more -/
theorem bs_max {x y k p q : Int} (hx : 0 ≤ x) (hy : 0 ≤ y) (hk : 0 ≤ k) (hp : x ≤ p) (hq : y ≤ q) (h : p + q = x + y + k) : p * q ≤ (bs x y k).1 * (bs x y k).2 := by
  have main : ∀ {u v p q : Int}, u + v = p + q → (u - v) * (u - v) ≤ (p - q) * (p - q) → p * q ≤ u * v := fun {u v p q} h1 h2 => by
    have e1 : (u - v) * (u - v) = (u + v) * (u + v) - 4 * (u * v) := by grind
    have e2 : (p - q) * (p - q) = (p + q) * (p + q) - 4 * (p * q) := by grind
    rw [e1, e2, h1] at h2
    omega
  have sqm : ∀ {s t : Int}, (s ≤ t ∨ s ≤ -t) → (-s ≤ t ∨ -s ≤ -t) → s * s ≤ t * t := fun {s t} h1 h2 => by
    have a1 : ab s ≤ ab t := by unfold ab; split <;> split <;> omega
    have a2 : ab s * ab s = s * s := by unfold ab; split <;> grind
    have a3 : ab t * ab t = t * t := by unfold ab; split <;> grind
    rw [← a2, ← a3]
    exact Int.mul_le_mul a1 a1 (ab_nonneg s) (ab_nonneg t)
  have hb := bs_ok hx hy hk
  have sol : ∀ u v : Int, u + v = p + q → (u - v ≤ p - q ∨ u - v ≤ -(p - q)) → (-(u - v) ≤ p - q ∨ -(u - v) ≤ -(p - q)) → p * q ≤ u * v := fun u v h1 h2 h3 => main h1 (sqm h2 h3)
  unfold bs ab
  rw [Int.fdiv_eq_ediv_of_nonneg _ (by decide), Int.fdiv_eq_ediv_of_nonneg _ (by decide)]
  by_cases c : x - y < 0
  · simp only [c, if_true]
    split
    · simp only [show ¬ y ≤ x by omega, if_false]
      exact sol _ _ (by omega) (by omega) (by omega)
    · exact sol _ _ (by omega) (by omega) (by omega)
  · simp only [c, if_false]
    split
    · simp only [show y ≤ x by omega, if_true]
      exact sol _ _ (by omega) (by omega) (by omega)
    · exact sol _ _ (by omega) (by omega) (by omega)
end ST
set_option maxRecDepth 100000
set_option maxHeartbeats 4000000
namespace ST
/-! ### the areas of walks of a length -/
def loA (x y m : Int) : Int := (x * y - (2 * m - ab (x * y))).fdiv 2
def hiA (x y m : Int) : Int := (x * y + (2 * m - ab (x * y))).fdiv 2
theorem between_iff (x y a m : Int) : (loA x y m ≤ a ∧ a ≤ hiA x y m) ↔ gnd x y a ≤ m := by
  rw [gnd_le]
  unfold loA hiA ab
  generalize x * y = t
  rw [Int.fdiv_eq_ediv_of_nonneg _ (by decide), Int.fdiv_eq_ediv_of_nonneg _ (by decide)]
  by_cases c : t < 0 <;> simp only [c, if_true, if_false] <;> omega
/-- a walk of n steps has room just if the steps are no more -/
theorem room_iff {x y a n k : Int} (hk : 0 ≤ k) (hn : n = ab x + ab y + 2 * k) : gnd x y a ≤ (bs (ab x) (ab y) k).1 * (bs (ab x) (ab y) k).2 ↔ stp x y a ≤ n := by
  have hx := ab_nonneg x
  have hy := ab_nonneg y
  obtain ⟨b1, b2, b3⟩ := bs_ok hx hy hk
  constructor
  · intro h
    have := stp_le ⟨b1, b2, h⟩
    unfold cost at this
    omega
  · intro h
    obtain ⟨p, q, b, e⟩ := stp_box x y a
    have c1 := b.px
    have c2 := b.qy
    have c3 := b.room
    unfold cost at e
    have hp := stp_par x y a
    have h2 : 0 ≤ n - stp x y a := by omega
    have h3 : ∃ d, 0 ≤ d ∧ p + d + q = ab x + ab y + k := ⟨ab x + ab y + k - p - q, by omega, by omega⟩
    obtain ⟨d, d0, d1⟩ := h3
    have h4 := bs_max hx hy hk (p := p + d) (q := q) (by omega) c2 d1
    have h5 := pr_pos d0 (show 0 ≤ q by omega)
    rw [show (p + d) * q = p * q + d * q by grind] at h4
    omega
/-! ### mirrored letters -/
def sw1 (c : Nat) : Nat := if c = 101 then 119 else if c = 119 then 101 else c
def sw2 (c : Nat) : Nat := if c = 110 then 115 else if c = 115 then 110 else c
def sw3 (c : Nat) : Nat := if c = 101 then 110 else if c = 110 then 101 else if c = 119 then 115 else if c = 115 then 119 else c
theorem isL_sw1 {c : Nat} (h : isL c) : isL (sw1 c) := by
  rcases h with rfl | rfl | rfl | rfl <;> unfold isL sw1 <;> decide
theorem isL_sw2 {c : Nat} (h : isL c) : isL (sw2 c) := by
  rcases h with rfl | rfl | rfl | rfl <;> unfold isL sw2 <;> decide
theorem isL_sw3 {c : Nat} (h : isL c) : isL (sw3 c) := by
  rcases h with rfl | rfl | rfl | rfl <;> unfold isL sw3 <;> decide
def mX (p : Sp) : Sp := ⟨-p.x, p.y, -p.a⟩
def mY (p : Sp) : Sp := ⟨p.x, -p.y, -p.a⟩
def mT (p : Sp) : Sp := ⟨p.y, p.x, p.x * p.y - p.a⟩
theorem gone_mX {p : Sp} {c : Nat} {t : Int} (h : isL c) : gone (mX p) (sw1 c) t = mX (gone p c t) := by
  rcases h with rfl | rfl | rfl | rfl <;> simp [gone, mX, sw1] <;> grind
theorem gone_mY {p : Sp} {c : Nat} {t : Int} (h : isL c) : gone (mY p) (sw2 c) t = mY (gone p c t) := by
  rcases h with rfl | rfl | rfl | rfl <;> simp [gone, mY, sw2] <;> grind
theorem gone_mT {p : Sp} {c : Nat} {t : Int} (h : isL c) : gone (mT p) (sw3 c) t = mT (gone p c t) := by
  rcases h with rfl | rfl | rfl | rfl <;> simp [gone, mT, sw3] <;> grind
abbrev mp (f : Nat → Nat) (r : Runs) : Runs := r.map fun q => (f q.1, q.2)
theorem led_mp {f : Nat → Nat} {m : Sp → Sp} (hf : ∀ {p : Sp} {c : Nat} {t : Int}, isL c → gone (m p) (f c) t = m (gone p c t)) : ∀ {r : Runs} {p : Sp}, Good r → led (m p) (mp f r) = m (led p r)
  | [], _, _ => rfl
  | q :: r, p, g => by
    show led (gone (m p) (f q.1) q.2) (mp f r) = m (led (gone p q.1 q.2) r)
    rw [hf g.head.1]
    exact led_mp hf g.tail
theorem len_mp (f : Nat → Nat) (r : Runs) : len (mp f r) = len r := by
  induction r with
  | nil => rfl
  | cons q r ih => show q.2 + len (mp f r) = q.2 + len r; rw [ih]
theorem good_mp {f : Nat → Nat} (hf : ∀ {c : Nat}, isL c → isL (f c)) {r : Runs} (g : Good r) : Good (mp f r) := fun q hq => by
  obtain ⟨q', h1, rfl⟩ := List.mem_map.mp hq
  exact ⟨hf (g q' h1).1, (g q' h1).2⟩
theorem mX_home : mX home = home := by simp [mX]
theorem mY_home : mY home = home := by simp [mY]
theorem mT_home : mT home = home := by simp [mT]
/-! ### a walk of so many steps -/
def colsOf (W H a : Int) : Int × Int := if (W * H - a).fdiv H = W then (W - 1, H) else ((W * H - a).fdiv H, (W * H - a).fmod H)
def wp (x y a k : Int) : Runs :=
  if (bs x y k).1 * (bs x y k).2 = 0 then [(115, (bs x y k).2 - y), (101, (bs x y k).1), (110, (bs x y k).2), (119, (bs x y k).1 - x)]
  else [(115, (bs x y k).2 - y), (101, (bs x y k).1 - 1 - (colsOf (bs x y k).1 (bs x y k).2 a).1), (110, (colsOf (bs x y k).1 (bs x y k).2 a).2), (101, 1), (110, (bs x y k).2 - (colsOf (bs x y k).1 (bs x y k).2 a).2), (101, (colsOf (bs x y k).1 (bs x y k).2 a).1), (119, (bs x y k).1 - x)]
/-- the walk in the first quarter -/
theorem wp_ok {x y a k : Int} (hx : 0 ≤ x) (hy : 0 ≤ y) (hk : 0 ≤ k) (h0 : 0 ≤ a) (h1 : a ≤ (bs x y k).1 * (bs x y k).2) : Good (wp x y a k) ∧ led home (wp x y a k) = ⟨x, y, a⟩ ∧ len (wp x y a k) = x + y + 2 * k := by
  obtain ⟨b1, b2, b3⟩ := bs_ok hx hy hk
  unfold wp
  generalize (bs x y k).1 = W at *
  generalize (bs x y k).2 = H at *
  have L : ∀ c : Nat, c = 101 ∨ c = 110 ∨ c = 119 ∨ c = 115 → isL c := fun c h => h
  split
  · rename_i hz
    refine ⟨fun q hq => ?_, ?_, ?_⟩
    · simp only [List.mem_cons, List.not_mem_nil, or_false] at hq
      rcases hq with rfl | rfl | rfl | rfl
      all_goals exact ⟨by unfold isL; simp, by simp only; omega⟩
    · simp only [led, gone]
      simp
      have : a = 0 := by omega
      exact ⟨by omega, by omega, by omega⟩
    · simp only [len]; omega
  · rename_i hz
    have hW : 0 < W := by
      by_cases c : 0 < W
      · exact c
      · have : W = 0 := by omega
        subst this
        simp at hz
    have hH : 0 < H := by
      by_cases c : 0 < H
      · exact c
      · have : H = 0 := by omega
        subst this
        simp at hz
    have e1 : H * (W * H - a).fdiv H + (W * H - a).fmod H = W * H - a := Int.mul_fdiv_add_fmod _ _
    have e2 : 0 ≤ (W * H - a).fmod H := Int.fmod_nonneg_of_pos _ hH
    have e3 : (W * H - a).fmod H < H := Int.fmod_lt_of_pos _ hH
    have key : ∃ c e : Int, colsOf W H a = (c, e) ∧ c * H + e = W * H - a ∧ 0 ≤ c ∧ c ≤ W - 1 ∧ 0 ≤ e ∧ e ≤ H := by
      unfold colsOf
      have q0 : 0 ≤ (W * H - a).fdiv H := Int.fdiv_nonneg (by omega) (by omega)
      generalize (W * H - a).fdiv H = c at *
      generalize (W * H - a).fmod H = e at *
      split
      · rename_i hc
        subst hc
        refine ⟨c - 1, H, rfl, ?_, by omega, by omega, by omega, by omega⟩
        have : H * c = c * H := Int.mul_comm _ _
        rw [show (c - 1) * H + H = c * H by grind]
        omega
      · rename_i hc
        refine ⟨c, e, rfl, by rw [Int.mul_comm]; exact e1, q0, ?_, e2, by omega⟩
        have h5 : H * c ≤ H * W := by rw [show H * W = W * H from Int.mul_comm _ _]; omega
        have := Int.le_of_mul_le_mul_left h5 hH
        omega
    obtain ⟨c, e, he, k1, k2, k3, k4, k5⟩ := key
    rw [he]
    refine ⟨fun q hq => ?_, ?_, ?_⟩
    · simp only [List.mem_cons, List.not_mem_nil, or_false] at hq
      rcases hq with rfl | rfl | rfl | rfl | rfl | rfl | rfl
      all_goals exact ⟨by unfold isL; simp, by simp only; omega⟩
    · simp only [led, gone]
      simp
      refine ⟨by omega, by omega, ?_⟩
      rw [show (W - 1 - c) * e + (W - 1 - c + 1) * (H - e) = W * H - (c * H + e) by grind, k1]
      omega
    · simp only [len]; omega
/-- as the program goes: mirrored to the first quarter and above the half -/
def pt (x y a n : Int) : Runs :=
  let x1 := if x < 0 then -x else x
  let a1 := if x < 0 then -a else a
  let y1 := if y < 0 then -y else y
  let a2 := if y < 0 then -a1 else a1
  let f1 : Nat → Nat := if x < 0 then sw1 else id
  let f2 : Nat → Nat := if y < 0 then fun c => f1 (sw2 c) else f1
  if 2 * a2 < x1 * y1 then mp (fun c => f2 (sw3 c)) (wp y1 x1 (x1 * y1 - a2) ((n - y1 - x1).fdiv 2)) else mp f2 (wp x1 y1 a2 ((n - x1 - y1).fdiv 2))
theorem mp_mp (f g : Nat → Nat) (r : Runs) : mp f (mp g r) = mp (fun c => f (g c)) r := by simp [mp]
theorem mp_id (r : Runs) : mp id r = r := by simp [mp]
theorem mX_mX (p : Sp) : mX (mX p) = p := by simp [mX]
theorem mY_mY (p : Sp) : mY (mY p) = p := by simp [mY]
theorem mT_mT (p : Sp) : mT (mT p) = p := by
  obtain ⟨x, y, a⟩ := p
  simp only [mT, Sp.mk.injEq, true_and]
  grind
/-- what is known of a told walk -/
structure Leads (r : Runs) (p : Sp) (n : Int) : Prop where
  good : Good r
  to : led home r = p
  len : len r = n
theorem Leads.sw {f : Nat → Nat} {m : Sp → Sp} (hf : ∀ {p : Sp} {c : Nat} {t : Int}, isL c → gone (m p) (f c) t = m (gone p c t)) (hl : ∀ {c : Nat}, isL c → isL (f c)) (hh : m home = home) {r : Runs} {p : Sp} {n : Int} (h : Leads r p n) : Leads (mp f r) (m p) n :=
  ⟨good_mp hl h.good, by have := led_mp (f := f) (m := m) (fun h => hf h) (p := home) h.good; rw [hh] at this; rw [this, h.to], by rw [len_mp]; exact h.len⟩
theorem pt_ok {x y a n k : Int} (hk : 0 ≤ k) (hn : n = ab x + ab y + 2 * k) (hs : stp x y a ≤ n) : Leads (pt x y a n) ⟨x, y, a⟩ n := by
  have core : ∀ x y a : Int, 0 ≤ x → 0 ≤ y → n = x + y + 2 * k → x * y ≤ 2 * a → stp x y a ≤ n → Leads (wp x y a ((n - x - y).fdiv 2)) ⟨x, y, a⟩ n := fun x y a hx hy hn h2 hs => by
    have e : (n - x - y).fdiv 2 = k := by rw [Int.fdiv_eq_ediv_of_nonneg _ (by decide)]; omega
    rw [e]
    have t0 := pr_pos hx hy
    have hg := (room_iff (x := x) (y := y) (a := a) hk (by rw [ab_of hx, ab_of hy]; exact hn)).mpr hs
    rw [ab_of hx, ab_of hy, (gnd_max x y a).1 t0, if_pos h2] at hg
    obtain ⟨w1, w2, w3⟩ := wp_ok hx hy hk (by omega) hg
    exact ⟨w1, w2, by omega⟩
  have quarter : ∀ x y a : Int, 0 ≤ x → 0 ≤ y → n = x + y + 2 * k → stp x y a ≤ n → Leads (if 2 * a < x * y then mp sw3 (wp y x (x * y - a) ((n - y - x).fdiv 2)) else wp x y a ((n - x - y).fdiv 2)) ⟨x, y, a⟩ n := fun x y a hx hy hn hs => by
    split
    · rename_i c
      have := core y x (x * y - a) hy hx (by omega) (by rw [Int.mul_comm y x]; omega) (by rw [stp_t]; exact hs)
      have := this.sw gone_mT isL_sw3 mT_home
      rw [show mT ⟨y, x, x * y - a⟩ = ⟨x, y, a⟩ by simp only [mT, Sp.mk.injEq, true_and]; grind] at this
      exact this
    · rename_i c
      exact core x y a hx hy hn (by omega) hs
  have upper : ∀ x y a : Int, 0 ≤ x → n = x + ab y + 2 * k → stp x y a ≤ n → Leads (if y < 0 then mp sw2 (if 2 * -a < x * -y then mp sw3 (wp (-y) x (x * -y - -a) ((n - -y - x).fdiv 2)) else wp x (-y) (-a) ((n - x - -y).fdiv 2)) else (if 2 * a < x * y then mp sw3 (wp y x (x * y - a) ((n - y - x).fdiv 2)) else wp x y a ((n - x - y).fdiv 2))) ⟨x, y, a⟩ n := fun x y a hx hn hs => by
    split
    · rename_i c
      have := quarter x (-y) (-a) hx (by omega) (by rw [hn]; unfold ab; simp only [c, if_true]) (by rw [stp_my]; exact hs)
      have := this.sw gone_mY isL_sw2 mY_home
      rw [show mY ⟨x, -y, -a⟩ = ⟨x, y, a⟩ by simp [mY]] at this
      exact this
    · rename_i c
      exact quarter x y a hx (by omega) (by rw [hn]; unfold ab; simp only [c, if_false]) hs
  unfold pt
  by_cases cx : x < 0
  · have := upper (-x) y (-a) (by omega) (by rw [hn]; unfold ab; simp only [cx, if_true]) (by rw [stp_mx]; exact hs)
    have := this.sw gone_mX isL_sw1 mX_home
    rw [show mX ⟨-x, y, -a⟩ = ⟨x, y, a⟩ by simp [mX]] at this
    simp only [cx, if_true]
    by_cases cy : y < 0
    · simp only [cy, if_true] at this ⊢
      split at this
      · rename_i c; rw [if_pos c]; simpa [mp, Function.comp_def] using this
      · rename_i c; rw [if_neg c]; simpa [mp, Function.comp_def] using this
    · simp only [cy, if_false] at this ⊢
      split at this
      · rename_i c; rw [if_pos c]; simpa [mp, Function.comp_def] using this
      · rename_i c; rw [if_neg c]; simpa [mp, Function.comp_def] using this
  · have := upper x y a (by omega) (by rw [hn]; unfold ab; simp only [cx, if_false]) hs
    simp only [cx, if_false]
    by_cases cy : y < 0
    · simp only [cy, if_true] at this ⊢
      split at this
      · rename_i c; rw [if_pos c]; simpa [mp, Function.comp_def] using this
      · rename_i c; rw [if_neg c]; simpa [mp, Function.comp_def] using this
    · simp only [cy, if_false] at this ⊢
      split at this
      · rename_i c; rw [if_pos c]; simpa [mp, Function.comp_def] using this
      · rename_i c; rw [if_neg c]; simpa [mp, Function.comp_def] using this
end ST
set_option maxRecDepth 100000
set_option maxHeartbeats 4000000
namespace ST
/-! ### which numbers of steps have a walk -/
theorem stp_ge (x y a : Int) : ab x + ab y ≤ stp x y a := by
  obtain ⟨p, q, b, e⟩ := stp_box x y a
  have h1 := b.px
  have h2 := b.qy
  unfold cost at e
  omega
/-- the areas that so many steps can sweep -/
def lim (x y n : Int) : Option (Int × Int) :=
  if n - ab x - ab y < 0 ∨ (n - ab x - ab y).fmod 2 = 1 then none
  else some (loA x y ((bs (ab x) (ab y) ((n - ab x - ab y).fdiv 2)).1 * (bs (ab x) (ab y) ((n - ab x - ab y).fdiv 2)).2), hiA x y ((bs (ab x) (ab y) ((n - ab x - ab y).fdiv 2)).1 * (bs (ab x) (ab y) ((n - ab x - ab y).fdiv 2)).2))
/-- what walk_of looks for -/
def ptO (x y a n : Int) : Option Runs := match lim x y n with
  | none => none
  | some (lo, hi) => if lo ≤ a ∧ a ≤ hi then some (pt x y a n) else none
theorem ab_par (x : Int) : (ab x - x) % 2 = 0 := by unfold ab; split <;> omega
theorem lim_none {x y n : Int} (a : Int) (h : lim x y n = none) : ¬ (stp x y a ≤ n ∧ (n - stp x y a) % 2 = 0) := by
  unfold lim at h
  have h1 := stp_ge x y a
  have h2 := stp_par x y a
  have h3 := ab_par x
  have h4 := ab_par y
  rw [Int.fmod_eq_emod_of_nonneg _ (by decide)] at h
  split at h
  · omega
  · cases h
theorem lim_some {x y n lo hi : Int} (a : Int) (h : lim x y n = some (lo, hi)) : (∃ k, 0 ≤ k ∧ n = ab x + ab y + 2 * k) ∧ ((lo ≤ a ∧ a ≤ hi) ↔ stp x y a ≤ n) ∧ (n - stp x y a) % 2 = 0 := by
  unfold lim at h
  have h2 := stp_par x y a
  have h3 := ab_par x
  have h4 := ab_par y
  rw [Int.fmod_eq_emod_of_nonneg _ (by decide), Int.fdiv_eq_ediv_of_nonneg _ (by decide)] at h
  split at h
  · cases h
  · rename_i c
    cases h
    have hk : 0 ≤ (n - ab x - ab y) / 2 := by omega
    have hn : n = ab x + ab y + 2 * ((n - ab x - ab y) / 2) := by omega
    refine ⟨⟨_, hk, hn⟩, ?_, by omega⟩
    rw [between_iff]
    exact room_iff hk hn
theorem ptO_eq (x y a n : Int) : ptO x y a n = if stp x y a ≤ n ∧ (n - stp x y a) % 2 = 0 then some (pt x y a n) else none := by
  unfold ptO
  cases h : lim x y n with
  | none => rw [if_neg (lim_none a h)]
  | some p =>
    obtain ⟨lo, hi⟩ := p
    obtain ⟨_, h1, h2⟩ := lim_some a h
    by_cases c : stp x y a ≤ n
    · simp only [if_pos (h1.mpr c), if_pos (And.intro c h2)]
    · simp only [if_neg (fun z => c (h1.mp z)), if_neg (fun z : stp x y a ≤ n ∧ _ => c z.1)]
theorem pt_leads {x y a n : Int} (h : stp x y a ≤ n) (h' : (n - stp x y a) % 2 = 0) : Leads (pt x y a n) ⟨x, y, a⟩ n := by
  have h1 := stp_ge x y a
  have h2 := stp_par x y a
  have h3 := ab_par x
  have h4 := ab_par y
  exact pt_ok (k := (n - ab x - ab y) / 2) (by omega) (by omega) h
/-! ### how many runs -/
def cnt (r : Runs) : Nat := (r.filter fun q => decide (0 < q.2)).length
theorem cnt_le (r : Runs) : cnt r ≤ r.length := List.length_filter_le ..
theorem cnt_mp (f : Nat → Nat) (r : Runs) : cnt (mp f r) = cnt r := by
  induction r with
  | nil => rfl
  | cons q r ih =>
    obtain ⟨c, t⟩ := q
    simp only [cnt, mp, List.map_cons, List.filter_cons] at *
    split <;> simp [ih]
theorem fold_cnt : ∀ (r acc : Runs), (r.foldl mgStep acc).length ≤ acc.length + cnt r
  | [], acc => by simp
  | q :: r, acc => by
    have h := fold_cnt r (mgStep acc q)
    have h1 : (mgStep acc q).length + cnt r ≤ acc.length + cnt (q :: r) := by
      have h2 : cnt (q :: r) = cnt r + if 0 < q.2 then 1 else 0 := by
        unfold cnt
        rw [List.filter_cons]
        by_cases c : 0 < q.2
        · simp [c]
        · simp [c]
      rw [h2]
      unfold mgStep
      cases e : acc.getLast? with
      | none =>
        simp only
        split
        · simp; omega
        · omega
      | some l =>
        have hne : 0 < acc.length := by
          cases acc with
          | nil => cases e
          | cons => simp
        simp only
        split
        · simp; omega
        · split
          · simp; omega
          · omega
    exact Nat.le_trans h h1
theorem mg_cnt (r : Runs) : (mg r).length ≤ cnt r := by
  have := fold_cnt r []
  rw [List.length_nil, Nat.zero_add] at this
  exact this
theorem wp_len (x y a k : Int) : (wp x y a k).length ≤ 7 := by
  unfold wp
  split <;> simp
theorem pt_len (x y a n : Int) : (pt x y a n).length ≤ 7 := by
  have h : ∀ (c : Prop) [Decidable c] (f g : Nat → Nat) (u v : Runs), u.length ≤ 7 → v.length ≤ 7 → List.length (if c then mp f u else mp g v) ≤ 7 := fun c _ f g u v hu hv => by
    split
    · rw [mp, List.length_map]; exact hu
    · rw [mp, List.length_map]; exact hv
  exact h _ _ _ _ _ (wp_len ..) (wp_len ..)
theorem mg_pt (x y a n : Int) : (mg (pt x y a n)).length ≤ 7 := Nat.le_trans (mg_cnt _) (Nat.le_trans (cnt_le _) (pt_len ..))
theorem wp_six {x y a k n : Int} (hx : 0 ≤ x) (hy : 0 ≤ y) (hk : 0 ≤ k) (hn : n = x + y + 2 * k) (h2 : x * y ≤ 2 * a) (hs : stp x y a = n) : cnt (wp x y a k) ≤ 6 := by
  have t0 := pr_pos hx hy
  have room := (room_iff (x := x) (y := y) (a := a) hk (by rw [ab_of hx, ab_of hy]; exact hn)).mpr (Int.le_of_eq hs)
  have hg : gnd x y a = a := by rw [(gnd_max x y a).1 t0, if_pos h2]
  rw [ab_of hx, ab_of hy, hg] at room
  obtain ⟨b1, b2, b3⟩ := bs_ok hx hy hk
  have key : (bs x y k).1 = x ∨ (bs x y k).2 = y ∨ (bs x y k).1 * (bs x y k).2 - a < (bs x y k).2 := by
    by_cases c : k ≤ ab (x - y)
    · by_cases c1 : y ≤ x
      · left; unfold bs; rw [if_pos c, if_pos c1]
      · right; left; unfold bs; rw [if_pos c, if_neg c1]
    · right; right
      have e1 : (bs x y k).1 = (x + y + k + 1) / 2 := by unfold bs; rw [if_neg c, Int.fdiv_eq_ediv_of_nonneg _ (by decide)]
      have e2 : (bs x y k).2 = (x + y + k) / 2 := by unfold bs; rw [if_neg c]; simp only; rw [Int.fdiv_eq_ediv_of_nonneg _ (by decide)]
      have hab : x - y ≤ ab (x - y) ∧ y - x ≤ ab (x - y) ∧ 0 ≤ ab (x - y) := by unfold ab; split <;> omega
      have r2 := room_iff (x := x) (y := y) (a := a) (n := n - 2) (k := k - 1) (by omega) (by rw [ab_of hx, ab_of hy]; omega)
      rw [ab_of hx, ab_of hy, hg] at r2
      have mx := bs_max (x := x) (y := y) (k := k - 1) (p := (bs x y k).1 - 1) (q := (bs x y k).2) hx hy (by omega) (by omega) (by omega) (by omega)
      have nr : ¬ a ≤ (bs x y (k - 1)).1 * (bs x y (k - 1)).2 := fun z => by have := r2.mp z; omega
      generalize (bs x y k).1 = W at *
      generalize (bs x y k).2 = H at *
      rw [show (W - 1) * H = W * H - H by grind] at mx
      omega
  unfold wp
  generalize (bs x y k).1 = W at *
  generalize (bs x y k).2 = H at *
  split
  · exact Nat.le_trans (cnt_le _) (by simp)
  · rename_i hz
    have hH : 0 < H := by
      by_cases c : 0 < H
      · exact c
      · have : H = 0 := by omega
        subst this
        simp at hz
    have hW : 0 < W := by
      by_cases c : 0 < W
      · exact c
      · have : W = 0 := by omega
        subst this
        simp at hz
    have lt : ∀ r : Runs, (∃ q ∈ r, ¬ 0 < q.2) → cnt r < r.length := fun r ⟨q, h1, h2⟩ => by
      unfold cnt
      rw [List.length_filter_lt_length_iff_exists]
      exact ⟨q, h1, by simpa using h2⟩
    refine Nat.le_of_lt_succ (lt _ ?_)
    rcases key with e | e | e
    · exact ⟨(119, W - x), by simp, by simp only; omega⟩
    · exact ⟨(115, H - y), by simp, by simp only; omega⟩
    · have q0 : (W * H - a).fdiv H = 0 := by
        rw [Int.fdiv_eq_ediv_of_nonneg _ (by omega)]
        exact Int.ediv_eq_zero_of_lt (by omega) e
      have : (colsOf W H a).1 = 0 := by
        unfold colsOf
        rw [q0, if_neg (by omega)]
      exact ⟨(101, (colsOf W H a).1), by simp, by simp only; omega⟩
theorem pt_six {x y a : Int} : cnt (pt x y a (stp x y a)) ≤ 6 := by
  have h1 := stp_ge x y a
  have h2 := stp_par x y a
  have h3 := ab_par x
  have h4 := ab_par y
  generalize hn : stp x y a = n at *
  simp only [pt]
  have e0 : stp (if x < 0 then -x else x) (if y < 0 then -y else y) (if y < 0 then -(if x < 0 then -a else a) else (if x < 0 then -a else a)) = n := by
    by_cases c : x < 0
    · by_cases d : y < 0
      · simp only [if_pos c, if_pos d]; rw [stp_my, stp_mx, hn]
      · simp only [if_pos c, if_neg d]; rw [stp_mx, hn]
    · by_cases d : y < 0
      · simp only [if_neg c, if_pos d]; rw [stp_my, hn]
      · simp only [if_neg c, if_neg d]; rw [hn]
  have px : 0 ≤ (if x < 0 then -x else x) := ab_nonneg x
  have py : 0 ≤ (if y < 0 then -y else y) := ab_nonneg y
  have ex : (if x < 0 then -x else x) = ab x := rfl
  have ey : (if y < 0 then -y else y) = ab y := rfl
  generalize (if y < 0 then -(if x < 0 then -a else a) else (if x < 0 then -a else a)) = A at *
  generalize (if x < 0 then -x else x) = X at *
  generalize (if y < 0 then -y else y) = Y at *
  split
  · rename_i c
    rw [cnt_mp]
    refine wp_six (n := n) py px (by rw [Int.fdiv_eq_ediv_of_nonneg _ (by decide)]; omega) (by rw [Int.fdiv_eq_ediv_of_nonneg _ (by decide)]; omega) ?_ (by rw [stp_t, e0])
    rw [show Y * X = X * Y from Int.mul_comm _ _]
    omega
  · rw [cnt_mp]
    exact wp_six (n := n) px py (by rw [Int.fdiv_eq_ediv_of_nonneg _ (by decide)]; omega) (by rw [Int.fdiv_eq_ediv_of_nonneg _ (by decide)]; omega) (by omega) e0
end ST
namespace ST
/-! walks parted -/
def mn (a b : Int) : Int := if b < a then b else a
theorem mn_le {a b : Int} : mn a b ≤ a ∧ mn a b ≤ b := by unfold mn; split <;> omega
theorem mn_nn {a b : Int} (h : 0 ≤ a) (k : 0 ≤ b) : 0 ≤ mn a b := by unfold mn; split <;> omega
def hd : Runs → Int → Runs
  | [], _ => []
  | q :: r, k => (q.1, mn k q.2) :: hd r (k - mn k q.2)
def tl : Runs → Int → Runs
  | [], _ => []
  | q :: r, k => (q.1, q.2 - mn k q.2) :: tl r (k - mn k q.2)
theorem hd_snoc : ∀ (r : Runs) (q : Nat × Int) (k : Int), hd (r ++ [q]) k = hd r k ++ [(q.1, mn (k - len (hd r k)) q.2)]
  | [], q, k => by simp [hd, len]
  | p :: r, q, k => by
    show (p.1, mn k p.2) :: hd (r ++ [q]) (k - mn k p.2) = _
    rw [hd_snoc r q]
    show _ = (p.1, mn k p.2) :: (hd r (k - mn k p.2) ++ [(q.1, mn (k - (mn k p.2 + len (hd r (k - mn k p.2)))) q.2)])
    rw [show k - (mn k p.2 + len (hd r (k - mn k p.2))) = k - mn k p.2 - len (hd r (k - mn k p.2)) by omega]
theorem tl_snoc : ∀ (r : Runs) (q : Nat × Int) (k : Int), tl (r ++ [q]) k = tl r k ++ [(q.1, q.2 - mn (k - len (hd r k)) q.2)]
  | [], q, k => by simp [hd, tl, len]
  | p :: r, q, k => by
    show (p.1, p.2 - mn k p.2) :: tl (r ++ [q]) (k - mn k p.2) = _
    rw [tl_snoc r q]
    show _ = (p.1, p.2 - mn k p.2) :: (tl r (k - mn k p.2) ++ [(q.1, q.2 - mn (k - (mn k p.2 + len (hd r (k - mn k p.2)))) q.2)])
    rw [show k - (mn k p.2 + len (hd r (k - mn k p.2))) = k - mn k p.2 - len (hd r (k - mn k p.2)) by omega]
theorem hd_length : ∀ (r : Runs) (k : Int), (hd r k).length = r.length
  | [], _ => rfl
  | q :: r, k => by simp [hd, hd_length r]
theorem tl_length : ∀ (r : Runs) (k : Int), (tl r k).length = r.length
  | [], _ => rfl
  | q :: r, k => by simp [tl, tl_length r]
theorem hd_good : ∀ {r : Runs} {k : Int}, Good r → 0 ≤ k → Good (hd r k)
  | [], _, _, _ => fun _ h => nomatch h
  | q :: r, k, g, hk => fun p hp => by
    have h0 := g.head
    have h1 := mn_le (a := k) (b := q.2)
    rcases List.mem_cons.mp hp with rfl | hp
    · exact ⟨h0.1, mn_nn hk h0.2⟩
    · exact hd_good g.tail (by omega) p hp
theorem tl_good : ∀ {r : Runs} {k : Int}, Good r → 0 ≤ k → Good (tl r k)
  | [], _, _, _ => fun _ h => nomatch h
  | q :: r, k, g, hk => fun p hp => by
    have h0 := g.head
    have h1 := mn_le (a := k) (b := q.2)
    rcases List.mem_cons.mp hp with rfl | hp
    · exact ⟨h0.1, by show 0 ≤ q.2 - mn k q.2; omega⟩
    · exact tl_good g.tail (by omega) p hp
theorem hd_len : ∀ {r : Runs} {k : Int}, Good r → 0 ≤ k → k ≤ len r → len (hd r k) = k
  | [], k, _, h, h' => by
    show (0 : Int) = k
    have : len ([] : Runs) = 0 := rfl
    omega
  | q :: r, k, g, hk, h' => by
    have h0 := g.head
    have h1 := mn_le (a := k) (b := q.2)
    have h2 := len_nonneg g.tail
    have h3 : len (q :: r) = q.2 + len r := rfl
    show mn k q.2 + len (hd r (k - mn k q.2)) = k
    rw [hd_len g.tail (by omega) (by unfold mn; split <;> omega)]
    omega
theorem hd_tl_len : ∀ (r : Runs) (k : Int), len (hd r k) + len (tl r k) = len r
  | [], _ => rfl
  | q :: r, k => by
    have := hd_tl_len r (k - mn k q.2)
    show mn k q.2 + len (hd r (k - mn k q.2)) + (q.2 - mn k q.2 + len (tl r (k - mn k q.2))) = q.2 + len r
    omega
theorem hd_zero : ∀ {r : Runs} (p : Sp), Good r → led p (hd r 0) = p
  | [], _, _ => rfl
  | q :: r, p, g => by
    have h0 := g.head.2
    have : mn 0 q.2 = 0 := by unfold mn; split <;> omega
    show led (gone p q.1 (mn 0 q.2)) (hd r (0 - mn 0 q.2)) = p
    rw [this, gone_zero]
    exact hd_zero p g.tail
theorem tl_zero : ∀ {r : Runs}, Good r → tl r 0 = r
  | [], _ => rfl
  | q :: r, g => by
    have h0 := g.head.2
    have : mn 0 q.2 = 0 := by unfold mn; split <;> omega
    show (q.1, q.2 - mn 0 q.2) :: tl r (0 - mn 0 q.2) = _
    rw [this, show (0 : Int) - 0 = 0 from rfl, tl_zero g.tail]
    simp
theorem hd_tl_led : ∀ {r : Runs} {k : Int} (p : Sp), Good r → 0 ≤ k → led (led p (hd r k)) (tl r k) = led p r
  | [], _, _, _, _ => rfl
  | q :: r, k, p, g, hk => by
    have h0 := g.head.2
    show led (gone (led (gone p q.1 (mn k q.2)) (hd r (k - mn k q.2))) q.1 (q.2 - mn k q.2)) (tl r (k - mn k q.2)) = led (gone p q.1 q.2) r
    by_cases c : q.2 < k
    · have e : mn k q.2 = q.2 := by unfold mn; rw [if_pos c]
      rw [e, Int.sub_self, gone_zero]
      exact hd_tl_led _ g.tail (by omega)
    · have e : mn k q.2 = k := by unfold mn; rw [if_neg c]
      rw [e, Int.sub_self, hd_zero _ g.tail, tl_zero g.tail, gone_add, show k + (q.2 - k) = q.2 by omega]
/-! the middle of a least walk -/
/-- the product of two spots -/
def mul (p q : Sp) : Sp := ⟨p.x + q.x, p.y + q.y, p.a + q.a + p.x * q.y⟩
def inv (p : Sp) : Sp := ⟨-p.x, -p.y, p.x * p.y - p.a⟩
theorem mul_gone (p q : Sp) (c : Nat) (t : Int) : gone (mul p q) c t = mul p (gone q c t) := by
  unfold gone mul
  repeat' split
  all_goals (simp only [Sp.mk.injEq]; refine ⟨by grind, by grind, by grind⟩)
theorem mul_led (p : Sp) : ∀ (r : Runs) (q : Sp), led (mul p q) r = mul p (led q r)
  | [], _ => rfl
  | c :: r, q => by
    show led (gone (mul p q) c.1 c.2) r = mul p (led (gone q c.1 c.2) r)
    rw [mul_gone, mul_led p r]
theorem mul_home (p : Sp) : mul p home = p := by simp [mul]
theorem led_from (p : Sp) (r : Runs) : led p r = mul p (led home r) := by
  rw [← mul_led, mul_home]
theorem mul_assoc (p q s : Sp) : mul (mul p q) s = mul p (mul q s) := by
  unfold mul
  simp only [Sp.mk.injEq]
  refine ⟨by omega, by omega, by grind⟩
theorem inv_mul (p : Sp) : mul (inv p) p = home := by
  unfold mul inv
  simp only [Sp.mk.injEq]
  refine ⟨by omega, by omega, by grind⟩
theorem mul_inv (p : Sp) : mul p (inv p) = home := by
  unfold mul inv
  simp only [Sp.mk.injEq]
  refine ⟨by omega, by omega, by grind⟩
theorem home_mul (p : Sp) : mul home p = p := by simp [mul]
theorem inv_inv (p : Sp) : inv (inv p) = p := by
  unfold inv
  cases p
  simp only [Sp.mk.injEq]
  refine ⟨by omega, by omega, by grind⟩
theorem inv_of_mul (p q : Sp) : inv (mul p q) = mul (inv q) (inv p) := by
  unfold mul inv
  simp only [Sp.mk.injEq]
  refine ⟨by omega, by omega, by grind⟩
theorem cancel (t p q : Sp) : mul (inv (mul t p)) (mul t q) = mul (inv p) q := by
  rw [inv_of_mul, mul_assoc, ← mul_assoc (inv t), inv_mul, home_mul]
theorem st_tri (p q : Sp) : st (mul p q) ≤ st p + st q := tri ..
theorem st_inv (p : Sp) : st (inv p) = st p := stp_back ..
/-- the steps between two places -/
noncomputable def dst (p q : Sp) : Int := st (mul (inv p) q)
theorem dst_sym (p q : Sp) : dst p q = dst q p := by
  unfold dst
  rw [← st_inv, inv_of_mul, inv_inv]
theorem dst_tri (p q s : Sp) : dst p q ≤ dst p s + dst s q := by
  unfold dst
  have h : mul (inv p) q = mul (mul (inv p) s) (mul (inv s) q) := by
    rw [mul_assoc, ← mul_assoc s, mul_inv, home_mul]
  rw [h]
  exact st_tri _ _
theorem dst_move (t p q : Sp) : dst (mul t p) (mul t q) = dst p q := by unfold dst; rw [cancel]
theorem dst_self (p : Sp) : dst p p = 0 := by unfold dst; rw [inv_mul]; exact st_home
theorem inv_home : inv home = home := by simp [inv]
theorem dst_home (p : Sp) : dst home p = st p := by unfold dst; rw [inv_home, home_mul]
theorem st_zero {p : Sp} (h : st p = 0) : p = home := by
  obtain ⟨x, y, a⟩ := p
  by_cases c : x = 0 ∧ y = 0 ∧ a = 0
  · obtain ⟨rfl, rfl, rfl⟩ := c; rfl
  · have := stp_pos c
    have : stp x y a = 0 := h
    omega
theorem dst_zero {p q : Sp} (h : dst p q = 0) : p = q := by
  have h1 : mul (inv p) q = home := st_zero h
  have h2 := congrArg (mul p) h1
  rw [← mul_assoc, mul_inv, home_mul, mul_home] at h2
  exact h2.symm
theorem mid {p q : Sp} {r : Runs} (g : Good r) (to : led home r = mul (inv p) q) (hl : len r = dst p q) {k : Int} (hk : 0 ≤ k) (hk2 : k ≤ len r) :
    dst p (mul p (led home (hd r k))) = k ∧ dst (mul p (led home (hd r k))) q = len r - k := by
  have h1 := hd_len g hk hk2
  have h2 := hd_tl_len r k
  have h3 := hd_tl_led home g hk
  have h4 : dst p (mul p (led home (hd r k))) ≤ k := by
    have : dst (mul p home) (mul p (led home (hd r k))) = st (led home (hd r k)) := by rw [dst_move, dst_home]
    rw [mul_home] at this
    rw [this]
    have := st_le_len (hd_good g hk)
    omega
  have h5 : dst (mul p (led home (hd r k))) q ≤ len r - k := by
    have : q = mul p (led home r) := by rw [to, ← mul_assoc, mul_inv, home_mul]
    rw [this, dst_move, ← h3, led_from (led home (hd r k)), ← mul_home (led home (hd r k))]
    rw [show mul (mul (led home (hd r k)) home) (led home (tl r k)) = mul (led home (hd r k)) (led home (tl r k)) by rw [mul_home], dst_move, dst_home]
    have := st_le_len (tl_good g hk)
    omega
  have h6 := dst_tri p q (mul p (led home (hd r k)))
  omega
end ST
namespace ST
/-! ### letters that lead nearer -/
abbrev four : List Nat := [101, 110, 119, 115]
noncomputable def nr (p : Sp) : List Nat := four.filter fun c => decide (st (gone p c 1) < st p)
theorem four_isL {c : Nat} (h : c ∈ four) : isL c := by
  simp only [four, List.mem_cons, List.not_mem_nil, or_false] at h
  exact h
theorem isL_four {c : Nat} (h : isL c) : c ∈ four := by
  rcases h with rfl | rfl | rfl | rfl <;> simp [four]
theorem mem_nr {p : Sp} {c : Nat} : c ∈ nr p ↔ isL c ∧ st (gone p c 1) < st p := by
  unfold nr
  rw [List.mem_filter, decide_eq_true_eq]
  exact ⟨fun h => ⟨four_isL h.1, h.2⟩, fun h => ⟨isL_four h.1, h.2⟩⟩
/-- the step of a letter as a place -/
def stepP (c : Nat) : Sp := gone home c 1
theorem gone_mul (p : Sp) (c : Nat) (t : Int) : gone p c t = mul p (gone home c t) := by
  rw [← mul_gone, mul_home]
theorem nr_home : nr home = [] := by
  unfold nr
  rw [List.filter_eq_nil_iff]
  intro c _
  rw [decide_eq_true_eq]
  have h1 : st home = 0 := st_home
  have h2 : 0 ≤ st (gone home c 1) := stp_nonneg ..
  omega
theorem nr_ne {p : Sp} (h : p ≠ home) : nr p ≠ [] := by
  obtain ⟨x, y, a⟩ := p
  have h0 : ¬ (x = 0 ∧ y = 0 ∧ a = 0) := fun ⟨h1, h2, h3⟩ => h (by subst h1 h2 h3; rfl)
  obtain ⟨x', y', a', hs, hd⟩ := stp_dec h0
  have key : ∀ c, isL c → gone ⟨x, y, a⟩ c 1 = ⟨x', y', a'⟩ → nr ⟨x, y, a⟩ ≠ [] := fun c hc e z => by
    have : c ∈ nr ⟨x, y, a⟩ := mem_nr.mpr ⟨hc, by rw [e]; show stp x' y' a' < stp x y a; omega⟩
    rw [z] at this
    cases this
  rcases hs with ⟨rfl, rfl, rfl⟩ | ⟨rfl, rfl, rfl⟩ | ⟨rfl, rfl, rfl⟩ | ⟨rfl, rfl, rfl⟩
  · exact key 101 (by simp [isL]) (by simp [gone])
  · exact key 119 (by simp [isL]) (by simp [gone]; try omega)
  · exact key 110 (by simp [isL]) (by simp [gone])
  · exact key 115 (by simp [isL]) (by simp [gone]; try omega)
theorem nr_nil {p : Sp} : nr p = [] ↔ p = home := ⟨fun h => by
  by_cases c : p = home
  · exact c
  · exact absurd h (nr_ne c), fun h => h ▸ nr_home⟩
theorem st_nr {p : Sp} {c : Nat} (h : c ∈ nr p) : st (gone p c 1) = st p - 1 := by
  obtain ⟨h1, h2⟩ := mem_nr.mp h
  have := st_gone1 (p := p) h1
  omega
/-- the letters with which a least walk can begin -/
theorem first_eq (p : Sp) {c : Nat} (hc : isL c) : (st (mul (inv (stepP c)) p) < st p) ↔ c ∈ nr (inv p) := by
  rw [mem_nr, st_inv, gone_mul, ← st_inv (mul (inv p) _), inv_of_mul, inv_inv]
  exact ⟨fun h => ⟨hc, h⟩, fun h => h.2⟩
theorem first_in {r : Runs} {p : Sp} {c : Nat} {t : Int} (g : Good ((c, t) :: r)) (ht : 1 ≤ t) (to : led home ((c, t) :: r) = p) (hl : len ((c, t) :: r) = st p) : c ∈ nr (inv p) := by
  have hc := g.head.1
  rw [← first_eq p hc]
  have e : led home ((c, t) :: r) = mul (stepP c) (led home ((c, t - 1) :: r)) := by
    show led (gone home c t) r = mul (stepP c) (led (gone home c (t - 1)) r)
    rw [← mul_led, ← mul_gone, mul_home]
    unfold stepP
    rw [gone_add, show 1 + (t - 1) = t by omega]
  rw [← to, e, ← mul_assoc, inv_mul, home_mul]
  have g2 : Good ((c, t - 1) :: r) := fun q hq => by
    rcases List.mem_cons.mp hq with rfl | hq
    · exact ⟨hc, by show 0 ≤ t - 1; omega⟩
    · exact g.tail q hq
  have h1 := st_le_len g2
  rw [← e, to, ← hl]
  have h2 : len ((c, t - 1) :: r) = t - 1 + len r := rfl
  have h3 : len ((c, t) :: r) = t + len r := rfl
  omega
/-- the letter turned about -/
def about (c : Nat) : Nat := if c = 101 then 119 else if c = 119 then 101 else if c = 110 then 115 else 110
theorem isL_about {c : Nat} (h : isL c) : isL (about c) := by
  rcases h with rfl | rfl | rfl | rfl <;> simp [about, isL]
theorem about_back {c : Nat} (h : isL c) (p : Sp) (t : Int) : gone (gone p c t) (about c) 1 = gone p c (t - 1) := by
  rcases h with rfl | rfl | rfl | rfl <;> simp [about, gone] <;> grind
theorem last_in {r : Runs} {p : Sp} {c : Nat} {t : Int} (g : Good (r ++ [(c, t)])) (ht : 1 ≤ t) (to : led home (r ++ [(c, t)]) = p) (hl : len (r ++ [(c, t)]) = st p) : about c ∈ nr p := by
  have hc := (g (c, t) (by simp)).1
  refine mem_nr.mpr ⟨isL_about hc, ?_⟩
  have e1 : led home (r ++ [(c, t)]) = gone (led home r) c t := by rw [led_app]; rfl
  rw [← to] at *
  rw [e1, about_back hc]
  rw [← e1, ← hl]
  have gr : Good r := fun q hq => g q (by simp [hq])
  have g2 : Good (r ++ [(c, t - 1)]) := gr.app fun q hq => by
    rcases List.mem_singleton.mp hq with rfl
    exact ⟨hc, by show 0 ≤ t - 1; omega⟩
  have h1 := st_le_len g2
  rw [led_app, len_app] at h1
  rw [len_app]
  have h2 : len [(c, t - 1)] = t - 1 + 0 := rfl
  have h3 : len [(c, t)] = t + 0 := rfl
  have h4 : led (led home r) [(c, t - 1)] = gone (led home r) c (t - 1) := rfl
  rw [h4] at h1
  show st (gone (led home r) c (t - 1)) < _
  omega
/-! ### summits -/
theorem nr_all {p : Sp} (h : ∀ c, isL c → st (gone p c 1) < st p) : nr p = four := by
  unfold nr
  rw [List.filter_eq_self]
  intro c hc
  exact decide_eq_true (h c (four_isL hc))
theorem nr_len4 (p : Sp) : (nr p).length = 4 ↔ ∀ c, isL c → st (gone p c 1) < st p := by
  constructor
  · intro h c hc
    have : nr p = four := List.Sublist.eq_of_length List.filter_sublist h
    have hm : c ∈ nr p := this ▸ isL_four hc
    exact (mem_nr.mp hm).2
  · intro h
    rw [nr_all h]; rfl
theorem box_st {x y a p q : Int} (h1 : ab x ≤ p) (h2 : ab y ≤ q) (h3 : gnd x y a ≤ p * q) : stp x y a ≤ 2 * (p + q) - ab x - ab y := stp_le ⟨h1, h2, h3⟩
theorem gnd_x0 (y a : Int) : gnd 0 y a = ab a := by
  unfold gnd
  rw [Int.zero_mul, Int.fdiv_eq_ediv_of_nonneg _ (by decide)]
  unfold ab
  split <;> split <;> split <;> omega
theorem summit_near {a p q : Int} (hp : 1 ≤ p) (hq : 1 ≤ q) (ha : ab a ≤ p * q) (hs : stp 0 0 a = 2 * (p + q)) : ∀ c, isL c → st (gone ⟨0, 0, a⟩ c 1) < st ⟨0, 0, a⟩ := fun c hc => by
  have e : st ⟨0, 0, a⟩ = 2 * (p + q) := hs
  have a1 : ab 1 = 1 := by decide
  have a2 : ab (-1) = 1 := by decide
  have a0 : ab 0 = 0 := by decide
  rw [e]
  rcases hc with rfl | rfl | rfl | rfl
  · have := box_st (x := 1) (y := 0) (a := a) (p := p) (q := q) (by omega) (by omega) (by rw [gnd0]; exact ha)
    exact Int.lt_of_le_of_lt (show stp (0 + 1) 0 a ≤ _ from this) (by omega)
  · have := box_st (x := 0) (y := 1) (a := a + 0 * 1) (p := p) (q := q) (by omega) (by omega) (by rw [gnd_x0]; simpa using ha)
    exact Int.lt_of_le_of_lt (show stp 0 (0 + 1) (a + 0 * 1) ≤ _ from this) (by omega)
  · have := box_st (x := -1) (y := 0) (a := a) (p := p) (q := q) (by omega) (by omega) (by rw [gnd0]; exact ha)
    exact Int.lt_of_le_of_lt (show stp (0 - 1) 0 a ≤ _ from this) (by omega)
  · have := box_st (x := 0) (y := -1) (a := a - 0 * 1) (p := p) (q := q) (by omega) (by omega) (by rw [gnd_x0]; simpa using ha)
    exact Int.lt_of_le_of_lt (show stp 0 (0 - 1) (a - 0 * 1) ≤ _ from this) (by omega)
theorem summit_sq {s : Int} (hs : 1 ≤ s) : (nr ⟨0, 0, s * s⟩).length = 4 := by
  have h := (closed_sq hs (.inl rfl) (m := 0)).1
  rw [Int.add_zero] at h
  refine (nr_len4 _).mpr (summit_near hs hs ?_ (by omega))
  have := Int.mul_pos (show 0 < s by omega) (show 0 < s by omega)
  rw [ab_of (by omega)]
  omega
theorem summit_ob {s : Int} (hs : 1 ≤ s) : (nr ⟨0, 0, -(s * (s + 1))⟩).length = 4 := by
  have h := (closed_sq hs (.inr rfl) (m := 1)).1
  have e := stp_mx 0 0 (s * (s + 1))
  rw [show (-0 : Int) = 0 from rfl] at e
  have := Int.mul_pos (show 0 < s by omega) (show 0 < s + 1 by omega)
  refine (nr_len4 _).mpr (summit_near (p := s) (q := s + 1) hs (by omega) ?_ (by omega))
  rw [ab_neg, ab_of (by omega)]
  omega
theorem no_summit {s : Int} (hs : 1 ≤ s) : ¬ (nr ⟨s, s, 0⟩).length = 4 := fun h => by
  have h1 := (nr_len4 _).mp h 101 (by simp [isL])
  have h2 := (closed_ob hs (Int.le_refl s)).2.1
  have h3 : st (gone ⟨s, s, 0⟩ 101 1) = stp (s + 1) s 0 := rfl
  have h4 : st ⟨s, s, 0⟩ = stp s s 0 := rfl
  have h5 := stp_ge (s + 1) s 0
  rw [ab_of (by omega), ab_of (by omega)] at h5
  omega
theorem nr_east {s : Int} (hs : 1 ≤ s) : nr ⟨s, 0, 0⟩ = [119] := by
  have a0 : ab 0 = 0 := by decide
  have a1 : ab 1 = 1 := by decide
  have a2 : ab (-1) = 1 := by decide
  have g : ∀ z : Int, gnd z 0 0 = 0 := fun z => by rw [gnd0]; decide
  have st0 : ∀ z : Int, 0 ≤ z → stp z 0 0 = z := fun z hz => by
    have h1 := box_st (x := z) (y := 0) (a := 0) (p := z) (q := 0) (by rw [ab_of hz]; omega) (by omega) (by rw [g]; omega)
    have h2 := stp_ge z 0 0
    rw [ab_of hz, a0] at h1 h2
    omega
  have e0 : st ⟨s, 0, 0⟩ = s := st0 s (by omega)
  have e1 : st (gone ⟨s, 0, 0⟩ 101 1) = s + 1 := st0 (s + 1) (by omega)
  have e3 : st (gone ⟨s, 0, 0⟩ 119 1) = s - 1 := st0 (s - 1) (by omega)
  have e2 : s + 1 ≤ st (gone ⟨s, 0, 0⟩ 110 1) := by
    have := stp_ge s (0 + 1) (0 + s * 1)
    rw [ab_of (by omega)] at this
    have a1' : ab (0 + 1) = 1 := by decide
    show s + 1 ≤ stp s (0 + 1) (0 + s * 1)
    omega
  have e4 : s + 1 ≤ st (gone ⟨s, 0, 0⟩ 115 1) := by
    have := stp_ge s (0 - 1) (0 - s * 1)
    rw [ab_of (by omega)] at this
    have a1' : ab (0 - 1) = 1 := by decide
    show s + 1 ≤ stp s (0 - 1) (0 - s * 1)
    omega
  have d1 : decide (st (gone ⟨s, 0, 0⟩ 101 1) < st ⟨s, 0, 0⟩) = false := decide_eq_false (by omega)
  have d2 : decide (st (gone ⟨s, 0, 0⟩ 110 1) < st ⟨s, 0, 0⟩) = false := decide_eq_false (by omega)
  have d3 : decide (st (gone ⟨s, 0, 0⟩ 119 1) < st ⟨s, 0, 0⟩) = true := decide_eq_true (by omega)
  have d4 : decide (st (gone ⟨s, 0, 0⟩ 115 1) < st ⟨s, 0, 0⟩) = false := decide_eq_false (by omega)
  unfold nr
  rw [List.filter_cons_of_neg (by rw [d1]; decide), List.filter_cons_of_neg (by rw [d2]; decide), List.filter_cons_of_pos (by rw [d3]), List.filter_cons_of_neg (by rw [d4]; decide)]
  rfl
end ST
namespace ST
/-! ### beginnings of walks -/
theorem hd_len' : ∀ {r : Runs} {k : Int}, Good r → 0 ≤ k → len (hd r k) = mn k (len r)
  | [], k, _, hk => by
    show (0 : Int) = mn k 0
    unfold mn; split <;> omega
  | q :: r, k, g, hk => by
    have h0 := g.head.2
    have h2 := len_nonneg g.tail
    have h1 := mn_le (a := k) (b := q.2)
    show mn k q.2 + len (hd r (k - mn k q.2)) = mn k (q.2 + len r)
    rw [hd_len' g.tail (by omega)]
    unfold mn
    repeat' split
    all_goals omega
theorem hd_app : ∀ (u v : Runs) (k : Int), hd (u ++ v) k = hd u k ++ hd v (k - len (hd u k))
  | [], v, k => by
    show hd v k = hd v (k - 0)
    rw [Int.sub_zero]
  | q :: u, v, k => by
    show (q.1, mn k q.2) :: hd (u ++ v) (k - mn k q.2) = (q.1, mn k q.2) :: (hd u (k - mn k q.2) ++ hd v (k - (mn k q.2 + len (hd u (k - mn k q.2)))))
    rw [hd_app u v, show k - mn k q.2 - len (hd u (k - mn k q.2)) = k - (mn k q.2 + len (hd u (k - mn k q.2))) by omega]
theorem hd_hd : ∀ {r : Runs} {k j : Int}, Good r → 0 ≤ j → j ≤ k → hd (hd r k) j = hd r j
  | [], _, _, _, _, _ => rfl
  | q :: r, k, j, g, hj, hk => by
    have h0 := g.head.2
    have e : mn j (mn k q.2) = mn j q.2 := by
      unfold mn
      repeat' split
      all_goals omega
    show (q.1, mn j (mn k q.2)) :: hd (hd r (k - mn k q.2)) (j - mn j (mn k q.2)) = (q.1, mn j q.2) :: hd r (j - mn j q.2)
    rw [e, hd_hd g.tail]
    · have := mn_le (a := j) (b := q.2); omega
    · unfold mn
      repeat' split
      all_goals omega
/-- along a walk the steps grow by one at most -/
theorem along {r : Runs} {j k : Int} (p : Sp) (g : Good r) (hj : 0 ≤ j) (hk : j ≤ k) (hl : k ≤ len r) : st (led p (hd r k)) ≤ st (led p (hd r j)) + (k - j) := by
  have gk := hd_good g (show 0 ≤ k by omega)
  have h1 := hd_tl_led p gk hj
  rw [hd_hd g hj hk] at h1
  have h2 := st_led (p := led p (hd r j)) (tl_good gk hj)
  rw [h1] at h2
  have h3 := hd_tl_len (hd r k) j
  rw [hd_hd g hj hk, hd_len g hj (by omega), hd_len g (by omega) hl] at h3
  omega
theorem hd_all {r : Runs} (p : Sp) (g : Good r) : led p (hd r (len r)) = led p r := by
  have h0 := len_nonneg g
  have h1 := hd_tl_led p g h0
  have h3 := hd_tl_len r (len r)
  rw [hd_len g h0 (Int.le_refl _)] at h3
  have gt := tl_good g h0
  have key : ∀ {u : Runs} (q : Sp), Good u → len u = 0 → led q u = q := by
    intro u
    induction u with
    | nil => intro q _ _; rfl
    | cons c u ih =>
      intro q gu hu
      have e1 : len (c :: u) = c.2 + len u := rfl
      have e2 := gu.head.2
      have e3 := len_nonneg gu.tail
      have : c.2 = 0 := by omega
      show led (gone q c.1 c.2) u = q
      rw [this, gone_zero]
      exact ih q gu.tail (by omega)
  rw [key _ gt (by omega)] at h1
  exact h1
/-- a beginning of a least walk is least -/
theorem pre_least {r : Runs} {j k : Int} (g : Good r) (hj : 0 ≤ j) (hk : j ≤ k) (hl : k ≤ len r) (h : st (led home (hd r k)) = k) : st (led home (hd r j)) = j := by
  have h1 := along home g hj hk hl
  have h2 := st_le_len (hd_good g hj)
  rw [hd_len g hj (by omega)] at h2
  omega
theorem mg_hd_step {acc : Runs} {q : Nat × Int} (ga : Good acc) (hq : 0 ≤ q.2) (p : Sp) {k : Int} (hk : 0 ≤ k) : led p (hd (mgStep acc q) k) = led p (hd (acc ++ [q]) k) := by
  have hm : 0 ≤ k - len (hd acc k) := by
    rw [hd_len' ga hk]
    have := mn_le (a := k) (b := len acc)
    omega
  unfold mgStep
  cases hl : acc.getLast? with
  | none =>
    have : acc = [] := List.getLast?_eq_none_iff.mp hl
    subst this
    simp only
    split
    · rfl
    · have : q.2 = 0 := by omega
      show p = led p (hd [q] k)
      show p = gone p q.1 (mn k q.2)
      rw [this, show mn k 0 = 0 by unfold mn; split <;> omega, gone_zero]
  | some l =>
    rw [List.getLast?_eq_some_iff] at hl
    obtain ⟨ys, rfl⟩ := hl
    have gy : Good ys := fun z hz => ga z (by simp [hz])
    have l0 := (ga l (by simp)).2
    have hm2 : 0 ≤ k - len (hd ys k) := by
      rw [hd_len' gy hk]
      have := mn_le (a := k) (b := len ys)
      omega
    simp only
    split
    · rename_i c
      rw [List.dropLast_concat, hd_snoc, hd_snoc, hd_snoc, led_app, led_app, led_app, len_app]
      generalize led p (hd ys k) = u at *
      generalize len (hd ys k) = m at *
      show gone u q.1 (mn (k - m) (l.2 + q.2)) = gone (gone u l.1 (mn (k - m) l.2)) q.1 (mn (k - (m + (mn (k - m) l.2 + 0))) q.2)
      rw [← c, gone_add]
      congr 1
      unfold mn
      repeat' split
      all_goals omega
    · split
      · rfl
      · have z : q.2 = 0 := by omega
        rw [hd_snoc (ys ++ [l]) q, led_app]
        show _ = gone (led p (hd (ys ++ [l]) k)) q.1 (mn _ q.2)
        rw [z, show mn (k - len (hd (ys ++ [l]) k)) 0 = 0 by unfold mn; split <;> omega, gone_zero]
theorem mg_hd_fold (p : Sp) {k : Int} (hk : 0 ≤ k) : ∀ (r acc : Runs), Good r → Neat acc → led p (hd (r.foldl mgStep acc) k) = led p (hd (acc ++ r) k)
  | [], acc, _, _ => by simp
  | q :: r, acc, g, n => by
    have h := g.head
    have n2 := mgStep_ok n h.1 h.2 p
    rw [List.foldl_cons, mg_hd_fold p hk r _ g.tail n2.1, hd_app, led_app, mg_hd_step n.good h.2 p hk]
    have gq : Good (acc ++ [q]) := n.good.app fun z hz => by
      rcases List.mem_singleton.mp hz with rfl
      exact h
    rw [hd_len' n2.1.good hk, n2.2.2, show len acc + q.2 = len (acc ++ [q]) by rw [len_app]; show _ = len acc + (q.2 + 0); omega, ← hd_len' gq hk, ← led_app, ← hd_app, List.append_assoc]
    rfl
/-- runs put together lead the same way -/
theorem mg_hd {r : Runs} (g : Good r) (p : Sp) {k : Int} (hk : 0 ≤ k) : led p (hd (mg r) k) = led p (hd r k) := by
  have := mg_hd_fold p hk r [] g trivial
  rwa [List.nil_append] at this
/-! ### the first steps that are not least -/
structure NL (r : Runs) (f : Int) : Prop where
  pos : 0 < f
  le : f ≤ len r
  not : st (led home (hd r f)) ≠ f
  pre : st (led home (hd r (f - 1))) = f - 1
def Fnl (r : Runs) (o : Option Int) : Prop := match o with
  | none => st (led home r) = len r
  | some f => NL r f
theorem NL.uniq {r : Runs} {f f' : Int} (g : Good r) (h : NL r f) (h' : NL r f') : f = f' := by
  have h1 := h.pos
  have h2 := h'.pos
  by_cases c : f < f'
  · have e := pre_least g (show 0 ≤ f by omega) (show f ≤ f' - 1 by omega) (by have := h'.le; omega) h'.pre
    exact absurd e h.not
  · by_cases c2 : f' < f
    · have e := pre_least g (show 0 ≤ f' by omega) (show f' ≤ f - 1 by omega) (by have := h.le; omega) h.pre
      exact absurd e h'.not
    · omega
theorem NL.long {r : Runs} {f : Int} (g : Good r) (h : NL r f) : st (led home r) ≠ len r := fun e => by
  have h1 := h.pos
  rw [← hd_all home g] at e
  exact h.not (pre_least g (by omega) h.le (Int.le_refl _) e)
theorem NL.head {r : Runs} {f : Int} (g : Good r) (h : NL r f) : NL (mg (hd r f)) f := by
  have h1 := h.pos
  have gh := hd_good g (show 0 ≤ f by omega)
  have hl := hd_len g (show 0 ≤ f by omega) h.le
  refine ⟨h1, by rw [mg_len gh, hl]; omega, ?_, ?_⟩
  · rw [mg_hd gh home (by omega), hd_hd g (by omega) (Int.le_refl _)]; exact h.not
  · rw [mg_hd gh home (by omega), hd_hd g (by omega) (by omega)]; exact h.pre
/-- the end of a least walk is least -/
theorem tail_least {r : Runs} {k : Int} (g : Good r) (hk : 0 ≤ k) (hl : k ≤ len r) (h : st (led home r) = len r) : st (led home (tl r k)) = len (tl r k) := by
  have h1 := hd_tl_led home g hk
  have h2 := hd_tl_len r k
  have h3 := hd_len g hk hl
  have h4 := st_le_len (tl_good g hk)
  have h5 := st_le_len (hd_good g hk)
  rw [led_from] at h1
  have h6 := st_tri (led home (hd r k)) (led home (tl r k))
  rw [h1] at h6
  omega
end ST
namespace ST
/-! ### runs put together: what is the same by steps -/
theorem mgStep_zero (A : Runs) (c : Nat) : mgStep A (c, 0) = A := by
  unfold mgStep
  cases h : A.getLast? with
  | none => simp
  | some l =>
    rw [List.getLast?_eq_some_iff] at h
    obtain ⟨ys, rfl⟩ := h
    simp only [Int.lt_irrefl, if_false, List.dropLast_concat, Int.add_zero]
    split
    · rename_i e
      rw [← e]
    · rfl
theorem mgStep_add (A : Runs) (c : Nat) {s t : Int} (hs : 0 ≤ s) (ht : 0 ≤ t) : mgStep (mgStep A (c, s)) (c, t) = mgStep A (c, s + t) := by
  by_cases z : s = 0
  · subst z
    rw [mgStep_zero, Int.zero_add]
  · have e1 : mgStep A (c, s) = (match A.getLast? with | some l => if l.1 = c then A.dropLast ++ [(c, l.2 + s)] else A ++ [(c, s)] | none => A ++ [(c, s)]) := by
      unfold mgStep
      cases A.getLast? with
      | none => simp only; rw [if_pos (by omega)]
      | some l => simp only; rw [if_pos (show 0 < s by omega)]
    have e2 : mgStep A (c, s + t) = (match A.getLast? with | some l => if l.1 = c then A.dropLast ++ [(c, l.2 + (s + t))] else A ++ [(c, s + t)] | none => A ++ [(c, s + t)]) := by
      unfold mgStep
      cases A.getLast? with
      | none => simp only; rw [if_pos (by omega)]
      | some l => simp only; rw [if_pos (show 0 < s + t by omega)]
    have e3 : ∀ (B : Runs) (u : Int), mgStep (B ++ [(c, u)]) (c, t) = B ++ [(c, u + t)] := fun B u => by
      unfold mgStep
      rw [List.getLast?_concat]
      simp
    rw [e1, e2]
    cases A.getLast? with
    | none => exact e3 A s
    | some l =>
      simp only
      split
      · rw [e3, show l.2 + s + t = l.2 + (s + t) by omega]
      · exact e3 A s
/-- whatever goes step by step is the same for runs put together -/
theorem mg_rec {α : Type} (f : α → Nat × Int → α) (I : α → Prop) (hI : ∀ s q, I s → 0 ≤ q.2 → I (f s q)) (h0 : ∀ s c, I s → f s (c, 0) = s) (ha : ∀ s c a b, I s → 0 ≤ a → 0 ≤ b → f (f s (c, a)) (c, b) = f s (c, a + b)) {r : Runs} (g : Good r) {s : α} (hs : I s) :
    (mg r).foldl f s = r.foldl f s := by
  have keep : ∀ (l : Runs) (s : α), Good l → I s → I (l.foldl f s) := by
    intro l
    induction l with
    | nil => intro s _ h; exact h
    | cons q l ih => intro s g h; exact ih _ g.tail (hI s q h g.head.2)
  have step : ∀ (M : Runs) (q : Nat × Int), Good M → 0 ≤ q.2 → (mgStep M q).foldl f s = f (M.foldl f s) q := fun M q gM hq => by
    have im := keep M s gM hs
    unfold mgStep
    cases hl : M.getLast? with
    | none =>
      have : M = [] := List.getLast?_eq_none_iff.mp hl
      subst this
      simp only
      split
      · rfl
      · have z : q.2 = 0 := by omega
        have := h0 s q.1 hs
        rw [← z] at this
        exact this.symm
    | some l =>
      rw [List.getLast?_eq_some_iff] at hl
      obtain ⟨ys, rfl⟩ := hl
      have gy : Good ys := fun z hz => gM z (by simp [hz])
      have l0 := (gM l (by simp)).2
      simp only
      split
      · rename_i e
        rw [List.dropLast_concat, List.foldl_append, List.foldl_append]
        show f (ys.foldl f s) (q.1, l.2 + q.2) = f (f (ys.foldl f s) l) q
        have := ha (ys.foldl f s) q.1 l.2 q.2 (keep ys s gy hs) l0 hq
        rw [← this, show (q.1, l.2) = l by rw [← e]]
      · split
        · rw [List.foldl_append]; rfl
        · have z : q.2 = 0 := by omega
          have := h0 _ q.1 im
          rw [← z] at this
          exact this.symm
  have fold : ∀ (r acc : Runs), Good r → Neat acc → (r.foldl mgStep acc).foldl f s = r.foldl f (acc.foldl f s) := by
    intro r
    induction r with
    | nil => intro acc _ _; rfl
    | cons q r ih =>
      intro acc g n
      have h := g.head
      rw [List.foldl_cons, ih _ g.tail (mgStep_ok n h.1 h.2 home).1, step acc q n.good h.2, List.foldl_cons]
  exact fold r [] g trivial
def Eqv (r r' : Runs) : Prop := ∀ A : Runs, r.foldl mgStep A = r'.foldl mgStep A
theorem Eqv.mg {r r' : Runs} (h : Eqv r r') : mg r = mg r' := h []
theorem Eqv.trans {a b c : Runs} (h : Eqv a b) (k : Eqv b c) : Eqv a c := fun A => (h A).trans (k A)
theorem Eqv.symm {a b : Runs} (h : Eqv a b) : Eqv b a := fun A => (h A).symm
theorem Eqv.app {a b c d : Runs} (h : Eqv a b) (k : Eqv c d) : Eqv (a ++ c) (b ++ d) := fun A => by rw [List.foldl_append, List.foldl_append, h A, k]
theorem mg_eqv {r : Runs} (g : Good r) : Eqv (mg r) r := fun A => mg_rec mgStep (fun _ => True) (fun _ _ _ _ => trivial) (fun s c _ => mgStep_zero s c) (fun s c a b _ h1 h2 => mgStep_add s c h1 h2) g trivial
theorem mg_mg {r : Runs} (g : Good r) : mg (mg r) = mg r := (mg_eqv g).mg
theorem two_eqv (c : Nat) {a b : Int} (ha : 0 ≤ a) (hb : 0 ≤ b) : Eqv [(c, a), (c, b)] [(c, a + b)] := fun A => mgStep_add A c ha hb
theorem zero_eqv (c : Nat) : Eqv [(c, 0)] [] := fun A => mgStep_zero A c
theorem Eqv.refl (r : Runs) : Eqv r r := fun _ => rfl
theorem room_nn {acc : Runs} (ga : Good acc) {k : Int} (hk : 0 ≤ k) : 0 ≤ k - len (hd acc k) := by
  rw [hd_len' ga hk]
  have := mn_le (a := k) (b := len acc)
  omega
theorem part_step {acc : Runs} {q : Nat × Int} (ga : Good acc) (hq : 0 ≤ q.2) {k : Int} (hk : 0 ≤ k) : Eqv (hd (mgStep acc q) k) (hd (acc ++ [q]) k) ∧ Eqv (tl (mgStep acc q) k) (tl (acc ++ [q]) k) := by
  have hm := room_nn ga hk
  have zero : q.2 = 0 → Eqv (hd acc k) (hd (acc ++ [q]) k) ∧ Eqv (tl acc k) (tl (acc ++ [q]) k) := fun z => by
    have e : mn (k - len (hd acc k)) q.2 = 0 := by rw [z]; unfold mn; split <;> omega
    rw [hd_snoc, tl_snoc, e, z]
    have h1 := Eqv.app (Eqv.refl (hd acc k)) (zero_eqv q.1).symm
    have h2 := Eqv.app (Eqv.refl (tl acc k)) (zero_eqv q.1).symm
    rw [List.append_nil] at h1 h2
    exact ⟨h1, h2⟩
  unfold mgStep
  cases hl : acc.getLast? with
  | none =>
    simp only
    split
    · exact ⟨.refl _, .refl _⟩
    · exact zero (by omega)
  | some l =>
    simp only
    rw [List.getLast?_eq_some_iff] at hl
    obtain ⟨ys, rfl⟩ := hl
    have gy : Good ys := fun z hz => ga z (by simp [hz])
    have l0 := (ga l (by simp)).2
    have hm2 := room_nn gy hk
    split
    · rename_i c
      rw [List.dropLast_concat, hd_snoc, hd_snoc (ys ++ [l]) q, tl_snoc, tl_snoc (ys ++ [l]) q, hd_snoc, tl_snoc, len_app]
      generalize len (hd ys k) = m at *
      have e1 : len [(l.1, mn (k - m) l.2)] = mn (k - m) l.2 + 0 := rfl
      rw [e1, List.append_assoc, List.append_assoc]
      have s1 : 0 ≤ mn (k - m) l.2 := mn_nn hm2 l0
      have s1' := (mn_le (a := k - m) (b := l.2)).2
      have s2 : 0 ≤ mn (k - (m + (mn (k - m) l.2 + 0))) q.2 := mn_nn (by have := (mn_le (a := k - m) (b := l.2)).1; omega) hq
      have s2' := (mn_le (a := k - (m + (mn (k - m) l.2 + 0))) (b := q.2)).2
      have sm : mn (k - m) (l.2 + q.2) = mn (k - m) l.2 + mn (k - (m + (mn (k - m) l.2 + 0))) q.2 := by
        unfold mn
        repeat' split
        all_goals omega
      refine ⟨Eqv.app (.refl _) ?_, Eqv.app (.refl _) ?_⟩
      · show Eqv [(q.1, mn (k - m) (l.2 + q.2))] [(l.1, mn (k - m) l.2), (q.1, mn (k - (m + (mn (k - m) l.2 + 0))) q.2)]
        rw [sm, c]
        exact (two_eqv q.1 s1 s2).symm
      · show Eqv [(q.1, l.2 + q.2 - mn (k - m) (l.2 + q.2))] [(l.1, l.2 - mn (k - m) l.2), (q.1, q.2 - mn (k - (m + (mn (k - m) l.2 + 0))) q.2)]
        rw [sm, c, show l.2 + q.2 - (mn (k - m) l.2 + mn (k - (m + (mn (k - m) l.2 + 0))) q.2) = (l.2 - mn (k - m) l.2) + (q.2 - mn (k - (m + (mn (k - m) l.2 + 0))) q.2) by omega]
        exact (two_eqv q.1 (by omega) (by omega)).symm
    · split
      · exact ⟨.refl _, .refl _⟩
      · exact zero (by omega)
theorem tl_app : ∀ (u v : Runs) (k : Int), tl (u ++ v) k = tl u k ++ tl v (k - len (hd u k))
  | [], v, k => by
    show tl v k = tl v (k - 0)
    rw [Int.sub_zero]
  | q :: u, v, k => by
    show (q.1, q.2 - mn k q.2) :: tl (u ++ v) (k - mn k q.2) = (q.1, q.2 - mn k q.2) :: (tl u (k - mn k q.2) ++ tl v (k - (mn k q.2 + len (hd u (k - mn k q.2)))))
    rw [tl_app u v, show k - mn k q.2 - len (hd u (k - mn k q.2)) = k - (mn k q.2 + len (hd u (k - mn k q.2))) by omega]
theorem part_fold {k : Int} (hk : 0 ≤ k) : ∀ (r acc : Runs), Good r → Neat acc → Eqv (hd (r.foldl mgStep acc) k) (hd (acc ++ r) k) ∧ Eqv (tl (r.foldl mgStep acc) k) (tl (acc ++ r) k)
  | [], acc, _, _ => by rw [List.append_nil]; exact ⟨.refl _, .refl _⟩
  | q :: r, acc, g, n => by
    have h := g.head
    have n2 := mgStep_ok n h.1 h.2 home
    have ih := part_fold hk r _ g.tail n2.1
    have ps := part_step n.good h.2 hk
    have gq : Good (acc ++ [q]) := n.good.app fun z hz => by
      rcases List.mem_singleton.mp hz with rfl
      exact h
    have hl : len (hd (mgStep acc q) k) = len (hd (acc ++ [q]) k) := by
      rw [hd_len' n2.1.good hk, n2.2.2, show len acc + q.2 = len (acc ++ [q]) by rw [len_app]; show _ = len acc + (q.2 + 0); omega, ← hd_len' gq hk]
    rw [List.foldl_cons, show acc ++ q :: r = (acc ++ [q]) ++ r by simp]
    refine ⟨ih.1.trans ?_, ih.2.trans ?_⟩
    · rw [hd_app, hd_app, hl]
      exact ps.1.app (.refl _)
    · rw [tl_app, tl_app, hl]
      exact ps.2.app (.refl _)
theorem hd_eqv {r : Runs} (g : Good r) {k : Int} (hk : 0 ≤ k) : Eqv (hd (mg r) k) (hd r k) := (part_fold hk r [] g trivial).1
theorem tl_eqv {r : Runs} (g : Good r) {k : Int} (hk : 0 ≤ k) : Eqv (tl (mg r) k) (tl r k) := (part_fold hk r [] g trivial).2
theorem hd0_eqv : ∀ {r : Runs}, Good r → Eqv (hd r 0) []
  | [], _ => .refl _
  | q :: r, g => by
    have h0 := g.head.2
    have e : mn 0 q.2 = 0 := by unfold mn; split <;> omega
    show Eqv ((q.1, mn 0 q.2) :: hd r (0 - mn 0 q.2)) []
    rw [e]
    exact fun A => by rw [List.foldl_cons, mgStep_zero]; exact hd0_eqv g.tail A
theorem both_eqv : ∀ {r : Runs} {k : Int}, Good r → 0 ≤ k → Eqv (hd r k ++ tl r k) r
  | [], _, _, _ => .refl _
  | q :: r, k, g, hk => fun A => by
    have h0 := g.head.2
    show ((q.1, mn k q.2) :: hd r (k - mn k q.2) ++ (q.1, q.2 - mn k q.2) :: tl r (k - mn k q.2)).foldl mgStep A = r.foldl mgStep (mgStep A q)
    rw [List.cons_append, List.foldl_cons, List.foldl_append, List.foldl_cons]
    by_cases c : q.2 < k
    · have e : mn k q.2 = q.2 := by unfold mn; rw [if_pos c]
      rw [e, Int.sub_self, mgStep_zero, ← List.foldl_append]
      exact both_eqv g.tail (by omega) _
    · have e : mn k q.2 = k := by unfold mn; rw [if_neg c]
      rw [e, Int.sub_self, hd0_eqv g.tail, tl_zero g.tail]
      show r.foldl mgStep (mgStep (mgStep A (q.1, k)) (q.1, q.2 - k)) = _
      rw [mgStep_add _ _ hk (by omega), show k + (q.2 - k) = q.2 by omega]
/-- letters one by one -/
theorem ones_eqv (c : Nat) : ∀ n : Nat, Eqv (List.replicate n (c, 1)) [(c, (n : Int))]
  | 0 => (zero_eqv c).symm
  | n + 1 => fun A => by
    rw [List.replicate_succ', List.foldl_append, ones_eqv c n A]
    show mgStep (mgStep A (c, (n : Int))) (c, 1) = mgStep A (c, ((n + 1 : Nat) : Int))
    rw [mgStep_add _ _ (by omega) (by decide)]
    rfl
/-! ### how far a walk goes -/
structure Bx where
  p : Sp
  lx : Int
  hx : Int
  ly : Int
  hy : Int
def bxStep (s : Bx) (q : Nat × Int) : Bx :=
  ⟨gone s.p q.1 q.2, if (gone s.p q.1 q.2).x < s.lx then (gone s.p q.1 q.2).x else s.lx, if (gone s.p q.1 q.2).x > s.hx then (gone s.p q.1 q.2).x else s.hx, if (gone s.p q.1 q.2).y < s.ly then (gone s.p q.1 q.2).y else s.ly, if (gone s.p q.1 q.2).y > s.hy then (gone s.p q.1 q.2).y else s.hy⟩
def BxI (s : Bx) : Prop := s.lx ≤ s.p.x ∧ s.p.x ≤ s.hx ∧ s.ly ≤ s.p.y ∧ s.p.y ≤ s.hy
theorem gone_xy (p : Sp) (c : Nat) (t : Int) : ((gone p c t).x = p.x + t ∧ (gone p c t).y = p.y) ∨ ((gone p c t).x = p.x - t ∧ (gone p c t).y = p.y) ∨ ((gone p c t).x = p.x ∧ (gone p c t).y = p.y + t) ∨ ((gone p c t).x = p.x ∧ (gone p c t).y = p.y - t) := by
  unfold gone
  repeat' split
  all_goals simp
theorem bx_same {r : Runs} (g : Good r) {s : Bx} (h : BxI s) : (mg r).foldl bxStep s = r.foldl bxStep s := by
  refine mg_rec bxStep BxI (fun s q hs hq => ?_) (fun s c hs => ?_) (fun s c a b hs ha hb => ?_) g h
  · unfold BxI bxStep
    simp only
    refine ⟨?_, ?_, ?_, ?_⟩ <;> split <;> omega
  · obtain ⟨h1, h2, h3, h4⟩ := hs
    unfold bxStep
    rw [gone_zero]
    rw [if_neg (by omega), if_neg (by omega), if_neg (by omega), if_neg (by omega)]
  · obtain ⟨h1, h2, h3, h4⟩ := hs
    have e : gone (gone s.p c a) c b = gone s.p c (a + b) := gone_add ..
    have dir : ((gone s.p c a).x = s.p.x + a ∧ (gone s.p c (a + b)).x = s.p.x + (a + b) ∧ (gone s.p c a).y = s.p.y ∧ (gone s.p c (a + b)).y = s.p.y) ∨ ((gone s.p c a).x = s.p.x - a ∧ (gone s.p c (a + b)).x = s.p.x - (a + b) ∧ (gone s.p c a).y = s.p.y ∧ (gone s.p c (a + b)).y = s.p.y) ∨ ((gone s.p c a).x = s.p.x ∧ (gone s.p c (a + b)).x = s.p.x ∧ (gone s.p c a).y = s.p.y + a ∧ (gone s.p c (a + b)).y = s.p.y + (a + b)) ∨ ((gone s.p c a).x = s.p.x ∧ (gone s.p c (a + b)).x = s.p.x ∧ (gone s.p c a).y = s.p.y - a ∧ (gone s.p c (a + b)).y = s.p.y - (a + b)) := by
      unfold gone
      repeat' split
      all_goals simp
    simp only [bxStep, e]
    generalize gone s.p c (a + b) = v at *
    generalize gone s.p c a = u at *
    simp only [Bx.mk.injEq, true_and]
    refine ⟨?_, ?_, ?_, ?_⟩
    all_goals (repeat' split)
    all_goals omega
end ST
set_option maxRecDepth 100000
set_option maxHeartbeats 4000000
namespace ST
/-! ### walks turned, mirrored, repeated: the plain law -/
def swR (c : Nat) : Nat := if c = 101 then 110 else if c = 110 then 119 else if c = 119 then 115 else if c = 115 then 101 else c
def mR (p : Sp) : Sp := ⟨-p.y, p.x, p.a - p.x * p.y⟩
theorem isL_swR {c : Nat} (h : isL c) : isL (swR c) := by rcases h with rfl | rfl | rfl | rfl <;> simp [swR, isL]
theorem swR_inj {c d : Nat} (h : isL c) (k : isL d) (e : swR c = swR d) : c = d := by
  rcases h with rfl | rfl | rfl | rfl <;> rcases k with rfl | rfl | rfl | rfl <;> simp [swR] at e ⊢
theorem gone_mR {p : Sp} {c : Nat} {t : Int} (h : isL c) : gone (mR p) (swR c) t = mR (gone p c t) := by
  rcases h with rfl | rfl | rfl | rfl <;> simp [gone, swR, mR] <;> grind
def tq : Nat → Nat → Nat
  | 0, c => c
  | n + 1, c => swR (tq n c)
def rq : Nat → Sp → Sp
  | 0, p => p
  | n + 1, p => mR (rq n p)
theorem isL_tq : ∀ (n : Nat) {c : Nat}, isL c → isL (tq n c)
  | 0, _, h => h
  | n + 1, _, h => isL_swR (isL_tq n h)
theorem tq_inj : ∀ (n : Nat) {c d : Nat}, isL c → isL d → tq n c = tq n d → c = d
  | 0, _, _, _, _, e => e
  | n + 1, _, _, h, k, e => tq_inj n h k (swR_inj (isL_tq n h) (isL_tq n k) e)
theorem gone_rq : ∀ (n : Nat) {p : Sp} {c : Nat} {t : Int}, isL c → gone (rq n p) (tq n c) t = rq n (gone p c t)
  | 0, _, _, _, _ => rfl
  | n + 1, p, c, t, h => by
    show gone (mR (rq n p)) (swR (tq n c)) t = mR (rq n (gone p c t))
    rw [gone_mR (isL_tq n h), gone_rq n h]
theorem rq_home : ∀ n : Nat, rq n home = home
  | 0 => rfl
  | n + 1 => by
    show mR (rq n home) = home
    rw [rq_home n]; rfl
theorem led_rq (n : Nat) {r : Runs} (g : Good r) : led home (mp (tq n) r) = rq n (led home r) := by
  have := led_mp (f := tq n) (m := rq n) (gone_rq n) (r := r) (p := home) g
  rwa [rq_home] at this
theorem good_tq (n : Nat) {r : Runs} (g : Good r) : Good (mp (tq n) r) := good_mp (isL_tq n) g
/-- twice the ground -/
def gr (p : Sp) : Int := 2 * p.a - p.x * p.y
theorem gr_rq : ∀ (n : Nat) (p : Sp), gr (rq n p) = gr p
  | 0, _ => rfl
  | n + 1, p => by
    show gr (mR (rq n p)) = gr p
    rw [← gr_rq n p]
    generalize rq n p = q
    simp [gr, mR]; grind
theorem gr_mX (p : Sp) : gr (mX p) = -gr p := by simp [gr, mX]; grind
def qk (q : Int) : Nat := (q.fmod 4).toNat
theorem qk_lt (q : Int) : qk q < 4 ∧ ((qk q : Nat) : Int) = q.fmod 4 := by
  have h1 := Int.fmod_nonneg_of_pos q (show (0 : Int) < 4 by decide)
  have h2 := Int.fmod_lt_of_pos q (show (0 : Int) < 4 by decide)
  unfold qk
  omega
theorem qk_neg (q : Int) : (qk (-q) : Nat) = (4 - qk q) % 4 := by
  have h1 := (qk_lt q).2
  have h2 := (qk_lt (-q)).2
  have h3 := (qk_lt q).1
  rw [Int.fmod_eq_emod_of_nonneg _ (by decide)] at h1 h2
  omega
theorem four_cases {k : Nat} (h : k < 4) : k = 0 ∨ k = 1 ∨ k = 2 ∨ k = 3 := by omega
theorem tq_neg (q : Int) {c : Nat} (h : isL c) : tq (qk (-q)) (tq (qk q) c) = c := by
  rw [qk_neg]
  rcases four_cases (qk_lt q).1 with e | e | e | e <;> rw [e] <;> rcases h with rfl | rfl | rfl | rfl <;> rfl
theorem tq_sw1 (q : Int) {c : Nat} (h : isL c) : tq (qk q) (sw1 c) = sw1 (tq (qk (-q)) c) := by
  rw [qk_neg]
  rcases four_cases (qk_lt q).1 with e | e | e | e <;> rw [e] <;> rcases h with rfl | rfl | rfl | rfl <;> rfl
theorem sw1_sw1 {c : Nat} (h : isL c) : sw1 (sw1 c) = c := by rcases h with rfl | rfl | rfl | rfl <;> rfl
theorem sw1_inj {c d : Nat} (h : isL c) (k : isL d) (e : sw1 c = sw1 d) : c = d := by rw [← sw1_sw1 h, e, sw1_sw1 k]
theorem rq_xy (p : Sp) : (rq 0 p).x = p.x ∧ (rq 0 p).y = p.y ∧ (rq 1 p).x = -p.y ∧ (rq 1 p).y = p.x ∧ (rq 2 p).x = -p.x ∧ (rq 2 p).y = -p.y ∧ (rq 3 p).x = p.y ∧ (rq 3 p).y = -p.x ∧ (rq 2 p).a = p.a := by
  refine ⟨rfl, rfl, rfl, rfl, rfl, rfl, ?_, ?_, ?_⟩ <;> simp [rq, mR]
  grind
/-! letters exchanged, runs put together -/
theorem mp_comp (f g : Nat → Nat) (r : Runs) : mp f (mp g r) = mp (fun c => f (g c)) r := mp_mp f g r
theorem mp_cong {f g : Nat → Nat} : ∀ {r : Runs}, Good r → (∀ c, isL c → f c = g c) → mp f r = mp g r
  | [], _, _ => rfl
  | (c, t) :: r, k, h => by
    show (f c, t) :: mp f r = (g c, t) :: mp g r
    rw [h c k.head.1, mp_cong k.tail h]
theorem mp_same {f : Nat → Nat} {r : Runs} (g : Good r) (h : ∀ c, isL c → f c = c) : mp f r = r := by
  rw [mp_cong (g := id) g h, mp_id]
theorem mgStep_mp {f : Nat → Nat} (hf : ∀ c d, isL c → isL d → f c = f d → c = d) {acc : Runs} (ga : Good acc) {q : Nat × Int} (hq : isL q.1) : mgStep (mp f acc) (f q.1, q.2) = mp f (mgStep acc q) := by
  unfold mgStep
  cases hl : acc.getLast? with
  | none =>
    have : acc = [] := List.getLast?_eq_none_iff.mp hl
    subst this
    simp only [mp, List.map_nil, List.getLast?_nil]
    split <;> simp
  | some l =>
    rw [List.getLast?_eq_some_iff] at hl
    obtain ⟨ys, rfl⟩ := hl
    have gl := (ga l (by simp)).1
    have e1 : (mp f (ys ++ [l])).getLast? = some (f l.1, l.2) := by simp [mp]
    rw [e1]
    simp only
    by_cases c : l.1 = q.1
    · rw [if_pos c, if_pos (by rw [c])]
      simp [mp]
    · rw [if_neg c, if_neg fun z => c (hf _ _ gl hq z)]
      split <;> simp [mp]
theorem good_step {acc : Runs} (ga : Good acc) {q : Nat × Int} (hq : isL q.1 ∧ 0 ≤ q.2) : Good (mgStep acc q) := by
  unfold mgStep
  cases hl : acc.getLast? with
  | none =>
    simp only
    split
    · exact ga.app fun z hz => by simp at hz; subst hz; exact hq
    · exact ga
  | some l =>
    rw [List.getLast?_eq_some_iff] at hl
    obtain ⟨ys, rfl⟩ := hl
    simp only
    have gy : Good ys := fun z hz => ga z (by simp [hz])
    have gl := ga l (by simp)
    split
    · rw [List.dropLast_concat]
      exact gy.app fun z hz => by simp at hz; subst hz; exact ⟨hq.1, by have := gl.2; have := hq.2; dsimp only; omega⟩
    · split
      · exact ga.app fun z hz => by simp at hz; subst hz; exact hq
      · exact ga
theorem mg_mp {f : Nat → Nat} (hf : ∀ c d, isL c → isL d → f c = f d → c = d) {r : Runs} (g : Good r) : mg (mp f r) = mp f (mg r) := by
  have key : ∀ (r acc : Runs), Good r → Good acc → (mp f r).foldl mgStep (mp f acc) = mp f (r.foldl mgStep acc) := fun r => by
    induction r with
    | nil => intro acc _ _; rfl
    | cons q r ih =>
      intro acc g ga
      show (mp f r).foldl mgStep (mgStep (mp f acc) (f q.1, q.2)) = _
      rw [mgStep_mp hf ga g.head.1, ih _ g.tail (good_step ga g.head)]
      rfl
  exact key r [] g fun _ h => (nomatch h)
/-- what a turned walk is -/
theorem mg_turn {f : Nat → Nat} (hf : ∀ c d, isL c → isL d → f c = f d → c = d) (hl : ∀ {c}, isL c → isL (f c)) {r : Runs} (g : Good r) : mg (mp f (mg r)) = mp f (mg r) := by
  rw [mg_mp hf (mg_neat g).good, mg_mg g]
/-! repeated -/
abbrev rep (r : Runs) (n : Nat) : Runs := (List.replicate n r).flatten
theorem rep_succ (r : Runs) (n : Nat) : rep r (n + 1) = rep r n ++ r := by
  unfold rep
  rw [List.replicate_succ', List.flatten_append]; simp
theorem rep_good {r : Runs} (g : Good r) : ∀ n : Nat, Good (rep r n)
  | 0 => fun _ h => (nomatch h)
  | n + 1 => by rw [rep_succ]; exact (rep_good g n).app g
theorem rep_len (r : Runs) : ∀ n : Nat, len (rep r n) = n * len r
  | 0 => by simp [rep, len]
  | n + 1 => by rw [rep_succ, len_app, rep_len r n]; grind
theorem rep_length (r : Runs) (n : Nat) : (rep r n).length = n * r.length := by simp [rep]
def pwS (p : Sp) (n : Int) : Sp := ⟨n * p.x, n * p.y, n * p.a + (n * (n - 1)).fdiv 2 * p.x * p.y⟩
theorem pairs_succ (n : Int) : ((n + 1) * (n + 1 - 1)).fdiv 2 = (n * (n - 1)).fdiv 2 + n := by
  rw [Int.fdiv_eq_ediv_of_nonneg _ (by decide), Int.fdiv_eq_ediv_of_nonneg _ (by decide), show (n + 1) * (n + 1 - 1) = n * (n - 1) + n * 2 by grind, Int.add_mul_ediv_right _ _ (by decide)]
theorem rep_led {r : Runs} (g : Good r) : ∀ n : Nat, led home (rep r n) = pwS (led home r) n
  | 0 => by simp [rep, led, pwS, home]
  | n + 1 => by
    rw [rep_succ, led_app, rep_led g n, led_from]
    generalize led home r = p
    unfold pwS mul
    dsimp only
    rw [show ((n + 1 : Nat) : Int) = (n : Int) + 1 by omega, pairs_succ]
    generalize ((n : Int) * (n - 1)).fdiv 2 = c
    congr 1 <;> grind
theorem rep_eqv {r : Runs} (g : Good r) : ∀ n : Nat, Eqv (rep (mg r) n) (rep r n)
  | 0 => Eqv.refl _
  | n + 1 => by rw [rep_succ, rep_succ]; exact (rep_eqv g n).app (mg_eqv g)
theorem mg_rep {r : Runs} (g : Good r) (n : Nat) : mg (rep (mg r) n) = mg (rep r n) := (rep_eqv g n).mg
theorem rep_one (c : Nat) {t : Int} (ht : 0 ≤ t) : ∀ n : Nat, Eqv (rep [(c, t)] n) [(c, t * n)]
  | 0 => by
    have := zero_eqv c
    simp only [rep, List.replicate_zero, List.flatten_nil, Int.natCast_zero, Int.mul_zero]
    exact this.symm
  | n + 1 => by
    rw [rep_succ]
    have h1 := (rep_one c ht n).app (Eqv.refl [(c, t)])
    have h2 := two_eqv c (a := t * n) (b := t) (Int.mul_nonneg ht (by omega)) ht
    have e : t * ((n + 1 : Nat) : Int) = t * n + t := by grind
    rw [e]
    exact h1.trans h2
theorem mg_one (c : Nat) {t : Int} (ht : 0 ≤ t) (n : Nat) : mg [(c, t * n)] = mg (rep [(c, t)] n) := (rep_one c ht n).mg.symm
/-- east, north, east, many times -/
def eneU : Nat → Runs
  | 0 => [(101, 1), (110, 1)]
  | n + 1 => eneU n ++ [(101, 2), (110, 1)]
theorem eneU_len : ∀ n : Nat, (eneU n).length = 2 * n + 2
  | 0 => rfl
  | n + 1 => by
    show (eneU n ++ [(101, 2), (110, 1)]).length = _
    rw [List.length_append, eneU_len n]; simp; omega
theorem ene_rep : ∀ n : Nat, mg (rep [(101, 1), (110, 1), (101, 1)] (n + 1)) = eneU n ++ [(101, 1)]
  | 0 => by decide
  | n + 1 => by
    have h := ene_rep n
    rw [rep_succ]
    unfold mg at h ⊢
    rw [List.foldl_append, h]
    show [((101 : Nat), (1 : Int)), (110, 1), (101, 1)].foldl mgStep (eneU n ++ [(101, 1)]) = (eneU n ++ [(101, 2), (110, 1)]) ++ [(101, 1)]
    generalize eneU n = U
    have s1 : mgStep (U ++ [(101, 1)]) (101, 1) = U ++ [(101, 2)] := by simp [mgStep]
    have s2 : mgStep (U ++ [(101, 2)]) (110, 1) = U ++ [(101, 2), (110, 1)] := by simp [mgStep]
    have s3 : mgStep (U ++ [(101, 2), (110, 1)]) (101, 1) = U ++ [(101, 2), (110, 1)] ++ [(101, 1)] := by simp [mgStep]
    simp only [List.foldl_cons, List.foldl_nil]
    rw [s1, s2, s3]
end ST
set_option maxRecDepth 100000
set_option maxHeartbeats 4000000
set_option exponentiation.threshold 4000
namespace DL
open ST
/-! ### how great places are -/
theorem bd_plus {x y : Int} {n : Nat} (h : Bd x n) (k : Bd y n) : Bd (x + y) (n + 1) := ⟨by
  have := h.lt
  have := k.lt
  rw [Nat.pow_succ]
  omega⟩
structure Sz (n : Nat) (p : Sp) : Prop where
  x : Bd p.x n
  y : Bd p.y n
  a : Bd p.a (2 * n + 20)
theorem Sz.mono {n m : Nat} {p : Sp} (h : Sz n p) (hm : n ≤ m) : Sz m p := ⟨h.x.le hm, h.y.le hm, h.a.le (by omega)⟩
theorem Sz.mul {n : Nat} {p q : Sp} (h : Sz n p) (k : Sz n q) : Sz (n + 1) (mul p q) :=
  ⟨bd_plus h.x k.x, bd_plus h.y k.y, by
    have h1 := bd_plus h.a k.a
    have h2 : Bd (p.x * q.y) (n + n) := @bd_mul _ _ _ _ h.x k.y
    exact (bd_plus h1 (h2.le (by omega))).le (by omega)⟩
theorem Sz.inv {n : Nat} {p : Sp} (h : Sz n p) : Sz (n + 1) (inv p) :=
  ⟨(@bd_neg _ _ h.x).le (by omega), (@bd_neg _ _ h.y).le (by omega), by
    have h2 : Bd (p.x * p.y) (n + n) := @bd_mul _ _ _ _ h.x h.y
    have h3 := @bd_neg _ _ h.a
    have h4 := bd_plus (h2.le (show n + n ≤ 2 * n + 20 by omega)) h3
    rw [show p.x * p.y + -p.a = p.x * p.y - p.a by omega] at h4
    exact h4.le (by omega)⟩
theorem Sz.mulOk {n : Nat} {p q : Sp} (h : Sz n p) (k : Sz n q) (hn : n < 40000) : mulOk p.x q.y = true := mulOk_of h.x k.y (by omega)
theorem ab_lt {x : Int} {n : Nat} (h : Bd x n) : ab x < 2 ^ n := by
  have := h.lt
  have e : ((2 ^ n : Nat) : Int) = 2 ^ n := by simp
  unfold ab
  split <;> omega
theorem gnd_up (x y a : Int) : gnd x y a ≤ ab a + ab (x * y) := by
  unfold gnd
  rw [Int.fdiv_eq_ediv_of_nonneg _ (by decide)]
  unfold ab
  split <;> split <;> split <;> omega
theorem gnd_dn (x y a : Int) : ab a ≤ gnd x y a + ab (x * y) := by
  unfold gnd
  rw [Int.fdiv_eq_ediv_of_nonneg _ (by decide)]
  unfold ab
  split <;> split <;> split <;> omega
theorem two_le (n : Nat) : (1 : Int) ≤ 2 ^ n := by
  have e : ((2 ^ n : Nat) : Int) = 2 ^ n := by simp
  have : 1 ≤ 2 ^ n := Nat.one_le_two_pow
  omega
theorem Sz.st {n : Nat} {p : Sp} (h : Sz n p) : Bd (ST.st p) (n + 14) := by
  have hx := ab_lt h.x
  have hy := ab_lt h.y
  have ha := ab_lt h.a
  have hxy : ab (p.x * p.y) < 2 ^ (2 * n) := by
    have : Bd (p.x * p.y) (n + n) := @bd_mul _ _ _ _ h.x h.y
    have := ab_lt this
    rwa [show n + n = 2 * n by omega] at this
  have hg := gnd_up p.x p.y p.a
  have e1 : (2 : Int) ^ (2 * n + 20) = 2 ^ (2 * n) * 1048576 := by rw [Int.pow_add]; rfl
  have e2 : (2 : Int) ^ (n + 11) * 2 ^ (n + 11) = 2 ^ (2 * n) * 4194304 := by rw [← Int.pow_add, show n + 11 + (n + 11) = 2 * n + 22 by omega, Int.pow_add]; rfl
  have e3 : (2 : Int) ^ (n + 11) = 2 ^ n * 2048 := by rw [Int.pow_add]; rfl
  have o1 := two_le n
  have o2 := two_le (2 * n)
  have b : Box p.x p.y p.a (2 ^ (n + 11)) (2 ^ (n + 11)) := ⟨by omega, by omega, by omega⟩
  have h1 := stp_le b
  have h2 := stp_nonneg p.x p.y p.a
  have h3 := ab_nonneg p.x
  have h4 := ab_nonneg p.y
  have e4 : (2 : Int) ^ (n + 14) = 2 ^ n * 16384 := by rw [Int.pow_add]; rfl
  refine ⟨?_⟩
  have e5 : ((2 ^ (n + 14) : Nat) : Int) = 2 ^ (n + 14) := by simp
  unfold cost at h1
  show (stp p.x p.y p.a).natAbs < _
  omega
theorem Sz.of_st {n : Nat} {p : Sp} (h : ST.st p < 2 ^ n) : Sz n p := by
  have h0 := stp_ge p.x p.y p.a
  have h1 := stp_nonneg p.x p.y p.a
  have h2 := ab_nonneg p.x
  have h3 := ab_nonneg p.y
  have h' : stp p.x p.y p.a < 2 ^ n := h
  have e : ((2 ^ n : Nat) : Int) = 2 ^ n := by simp
  have bs : Bd (stp p.x p.y p.a) n := ⟨by omega⟩
  have hx : ab p.x ≤ stp p.x p.y p.a := by omega
  have hy : ab p.y ≤ stp p.x p.y p.a := by omega
  have ax : ∀ z : Int, (ab z).natAbs = z.natAbs := fun z => by unfold ab; split <;> omega
  obtain ⟨p', q', b, hb⟩ := stp_box p.x p.y p.a
  have b1 := b.px
  have b2 := b.qy
  have b3 := b.room
  unfold cost at hb
  have hp : p' ≤ stp p.x p.y p.a := by omega
  have hq : q' ≤ stp p.x p.y p.a := by omega
  have m1 : p' * q' ≤ stp p.x p.y p.a * stp p.x p.y p.a := Int.mul_le_mul hp hq (by omega) h1
  have m2 : ab (p.x * p.y) ≤ stp p.x p.y p.a * stp p.x p.y p.a := by
    have : ab (p.x * p.y) = ab p.x * ab p.y := by
      unfold ab
      have := @Int.mul_nonneg p.x p.y
      by_cases c1 : p.x < 0
      · by_cases c2 : p.y < 0
        · have := Int.mul_pos_of_neg_of_neg c1 c2
          rw [if_neg (by omega), if_pos c1, if_pos c2, Int.neg_mul_neg]
        · rw [if_pos c1, if_neg c2]
          have := Int.mul_nonneg (show 0 ≤ -p.x by omega) (show 0 ≤ p.y by omega)
          rw [Int.neg_mul] at this
          split
          · rw [Int.neg_mul]
          · rw [Int.neg_mul]; omega
      · by_cases c2 : p.y < 0
        · rw [if_neg c1, if_pos c2]
          have := Int.mul_nonneg (show 0 ≤ p.x by omega) (show 0 ≤ -p.y by omega)
          rw [Int.mul_neg] at this
          split
          · rw [Int.mul_neg]
          · rw [Int.mul_neg]; omega
        · have := Int.mul_nonneg (show 0 ≤ p.x by omega) (show 0 ≤ p.y by omega)
          rw [if_neg (by omega), if_neg c1, if_neg c2]
    rw [this]
    exact Int.mul_le_mul hx hy h3 h1
  have m3 := gnd_dn p.x p.y p.a
  have bb : Bd (stp p.x p.y p.a * stp p.x p.y p.a) (n + n) := @bd_mul _ _ _ _ bs bs
  have bb2 := bd_plus bb bb
  refine ⟨⟨?_⟩, ⟨?_⟩, ?_⟩
  · have := ax p.x
    omega
  · have := ax p.y
    omega
  · have := (bb2.of_le (ab_nonneg p.a) (by omega)).le (show n + n + 1 ≤ 2 * n + 20 by omega)
    exact ⟨by rw [← ax]; exact this.lt⟩
end DL
set_option maxRecDepth 100000
set_option maxHeartbeats 4000000
namespace W_k10
open DL
instance : Bd (2 : Int) 2 := ⟨by decide⟩
instance : Bd (3 : Int) 2 := ⟨by decide⟩
instance : Bd (4 : Int) 3 := ⟨by decide⟩
instance : Bd (5 : Int) 3 := ⟨by decide⟩
instance : Bd (6 : Int) 3 := ⟨by decide⟩
instance : Bd (7 : Int) 3 := ⟨by decide⟩
instance : Bd (9 : Int) 4 := ⟨by decide⟩
instance : Bd (10 : Int) 4 := ⟨by decide⟩
instance : Bd (12 : Int) 4 := ⟨by decide⟩
instance : Bd (18 : Int) 5 := ⟨by decide⟩
instance : Bd (32 : Int) 6 := ⟨by decide⟩
instance : Bd (40 : Int) 6 := ⟨by decide⟩
instance : Bd (41 : Int) 6 := ⟨by decide⟩
instance : Bd (43 : Int) 6 := ⟨by decide⟩
instance : Bd (59 : Int) 6 := ⟨by decide⟩
instance : Bd (60 : Int) 6 := ⟨by decide⟩
instance : Bd (63 : Int) 6 := ⟨by decide⟩
instance : Bd (97 : Int) 7 := ⟨by decide⟩
instance : Bd (127 : Int) 7 := ⟨by decide⟩
instance : Bd (200 : Int) 8 := ⟨by decide⟩
instance : Bd (1000 : Int) 10 := ⟨by decide⟩
instance : Bd (4999 : Int) 13 := ⟨by decide⟩
instance : Bd (5000 : Int) 13 := ⟨by decide⟩
instance : Bd (5001 : Int) 13 := ⟨by decide⟩
instance : Bd (9999 : Int) 14 := ⟨by decide⟩
instance : Bd (10000 : Int) 14 := ⟨by decide⟩
instance : Bd (33529 : Int) 16 := ⟨by decide⟩
instance : Bd (45497 : Int) 16 := ⟨by decide⟩
instance : Bd (70423 : Int) 17 := ⟨by decide⟩
instance : Bd (10000000 : Int) 24 := ⟨by decide⟩
instance : Bd (2147482417 : Int) 31 := ⟨by decide⟩
instance : Bd (2147482481 : Int) 31 := ⟨by decide⟩
instance : Bd (2147482507 : Int) 31 := ⟨by decide⟩
instance : Bd (2147482577 : Int) 31 := ⟨by decide⟩
instance : Bd (1000000000000000000 : Int) 60 := ⟨by decide⟩
abbrev penD (cs : List Int) (c l : Int) : List (DK × D) := [(.s [99, 101, 108, 108, 115], .lst (cs.map D.int)), (.s [97, 116], .int c), (.s [108, 101, 102, 116], .int l)]
def Pen (n : Nat) (S : List Cell) : Prop := ∃ cs c l, S = [.tab "_law_bounds_right", .tab "law", .dic (penD cs c l)] ∧ 0 ≤ c ∧ c ≤ n ∧ 0 ≤ l
theorem Pen.mono {n m : Nat} {S : List Cell} (h : Pen n S) (hm : n ≤ m) : Pen m S := by
  obtain ⟨cs, c, l, h1, h2, h3, h4⟩ := h
  exact ⟨cs, c, l, h1, h2, by omega, h4⟩
theorem draw_ok {n : Nat} {S : List Cell} {p : Int} (hS : Pen n S) (hn : n < 2 ^ 20) (hp : 0 < p) (hp2 : p < 2 ^ 60) : ∃ d S', g__law_draw [.cell 2, .int p] S = .ok (.int d) S' ∧ 0 ≤ d ∧ d < p ∧ Pen (n + 1) S' := by
  obtain ⟨cs, c, l, rfl, c0, c1, l0⟩ := hS
  have bp : Bd p 60 := ⟨by omega⟩
  have bc : Bd c 20 := ⟨by omega⟩
  have dp : divOk p = true := divOk_of bp (by omega) (by omega)
  have hp' : p ≠ 0 := by omega
  have m1 := fun x : Int => Int.fmod_nonneg_of_pos x hp
  have m2 := fun x : Int => Int.fmod_lt_of_pos x hp
  have ndk : ∀ (a b c : D), keysNd [(.s [99, 101, 108, 108, 115], a), (.s [97, 116], b), (.s [108, 101, 102, 116], c)] = true := fun a b c => rfl
  have mc (x : Int) : mulOk (x.fmod 2147482417) 45497 = true := by
    have : Bd (x.fmod 2147482417) 31 := .of_range (m := 2147482417) (Int.fmod_nonneg_of_pos _ (by decide)) (Int.fmod_lt_of_pos _ (by decide)) (by decide)
    exact mulOk_bd (by decide)
  have mb (x : Int) : mulOk (x.fmod 2147482481) (x.fmod 2147482481 + 70423) = true := by
    have : Bd (x.fmod 2147482481) 31 := .of_range (m := 2147482481) (Int.fmod_nonneg_of_pos _ (by decide)) (Int.fmod_lt_of_pos _ (by decide)) (by decide)
    exact mulOk_bd (by decide)
  have me (x : Int) : mulOk (x.fmod 2147482507) (x.fmod 2147482507) = true := by
    have : Bd (x.fmod 2147482507) 31 := .of_range (m := 2147482507) (Int.fmod_nonneg_of_pos _ (by decide)) (Int.fmod_lt_of_pos _ (by decide)) (by decide)
    exact mulOk_bd (by decide)
  have mf (x : Int) : mulOk 43 (x.fmod 2147482507) = true := by
    have : Bd (x.fmod 2147482507) 31 := .of_range (m := 2147482507) (Int.fmod_nonneg_of_pos _ (by decide)) (Int.fmod_lt_of_pos _ (by decide)) (by decide)
    exact mulOk_bd (by decide)
  have q0 : mulOk 97 c = true := mulOk_bd (by decide)
  have q1 : mulOk 33529 c = true := mulOk_bd (by decide)
  have q2 : mulOk 127 c = true := mulOk_bd (by decide)
  have q3 : mulOk 3 c = true := mulOk_bd (by decide)
  have qs : mulOk (33529 * c) c = true := mulOk_bd (by decide)
  have qd : divOk 32 = true := by decide
  by_cases a1 : p ≤ l
  · simp [g__law_draw, b__law_draw, fnD, dLook, dPut, dp, hp', ndk, a1]
    exact ⟨_, _, ⟨rfl, rfl⟩, m1 _, m2 _, cs, c, _, rfl, c0, by omega, Int.fdiv_nonneg l0 (by omega)⟩
  · by_cases a2 : cs = []
    · subst a2
      have a3 : ¬ c < 0 := by omega
      simp [g__law_draw, b__law_draw, fnD, dLook, dPut, dp, hp', ndk, a1, q0, q1, q2, q3, qs, qd, mc, mb, me, mf, a3]
      exact ⟨_, _, ⟨rfl, rfl⟩, m1 _, m2 _, [], c + 1, l, rfl, by omega, by omega, l0⟩
    · obtain ⟨x, hx⟩ := ix_mod cs c a2
      by_cases a3 : c < cs.length ∧ 1000000000000000000 ≤ x
      · simp [g__law_draw, b__law_draw, fnD, dLook, dPut, dp, hp', ndk, a1, q0, q1, q2, q3, qs, qd, mc, mb, me, mf, a2, hx, a3]
        exact ⟨_, _, ⟨rfl, rfl⟩, m1 _, m2 _, cs, c + 1, _, rfl, by omega, by omega, Int.fdiv_nonneg (by omega) (by omega)⟩
      · by_cases a4 : c < cs.length
        · have a5 : ¬ 1000000000000000000 ≤ x := fun h => a3 ⟨a4, h⟩
          simp [g__law_draw, b__law_draw, fnD, dLook, dPut, dp, hp', ndk, a1, q0, q1, q2, q3, qs, qd, mc, mb, me, mf, a2, hx, a4, a5]
          exact ⟨_, _, ⟨rfl, rfl⟩, m1 _, m2 _, cs, c + 1, l, rfl, by omega, by omega, l0⟩
        · simp [g__law_draw, b__law_draw, fnD, dLook, dPut, dp, hp', ndk, a1, q0, q1, q2, q3, qs, qd, mc, mb, me, mf, a2, hx, a4]
          exact ⟨_, _, ⟨rfl, rfl⟩, m1 _, m2 _, cs, c + 1, l, rfl, by omega, by omega, l0⟩
theorem begin_ok (ns : List Int) : ∃ S, g__law_pen [.scr (ns.map D.int)] [.tab "_law_bounds_right", .tab "law"] = .ok (.cell 2) S ∧ Pen 0 S := by
  have e : cutD (ns.map D.int) none (some 63) = (cutD ns none (some 63)).map D.int := by
    simp [cutD, List.map_drop, List.map_take]
  have k : ∀ a b c : D, keysNd [(.s [99, 101, 108, 108, 115], a), (.s [97, 116], b), (.s [108, 101, 102, 116], c)] = true := fun a b c => rfl
  simp [g__law_pen, b__law_pen, fnD, e, k]
  exact ⟨_, 0, 0, rfl, by decide, by decide, by decide⟩
theorem pick_ok {n : Nat} {S : List Cell} {xs : List D} (hS : Pen n S) (hn : n < 2 ^ 20) (h0 : xs ≠ []) (h1 : xs.length < 1000) : ∃ d S', g__law_pick [.cell 2, .lst xs] S = .ok d S' ∧ d ∈ xs ∧ Pen (n + 1) S' := by
  have hl : (0 : Int) < xs.length := by
    cases xs with
    | nil => exact absurd rfl h0
    | cons a r => simp
  obtain ⟨d, S', e, d0, d1, hP⟩ := draw_ok hS hn hl (by omega)
  obtain ⟨k, rfl⟩ := Int.eq_ofNat_of_zero_le d0
  have hk : k < xs.length := by omega
  have : L2.atI xs (k : Int) = some xs[k] := L2.atI_nat (by simp [hk])
  refine ⟨xs[k], S', ?_, List.getElem_mem _, hP⟩
  simp [g__law_pick, b__law_pick, fnD, e, this]
end W_k10
set_option maxRecDepth 100000
set_option maxHeartbeats 4000000
set_option exponentiation.threshold 4000
namespace W_k10
open DL ST
/-! ### the whole root -/
def IsFl (n r : Int) : Prop := 0 ≤ r ∧ r * r ≤ n ∧ n < (r + 1) * (r + 1)
theorem newton {n f : Int} (hf : 1 ≤ f) : n < ((f + n.fdiv f).fdiv 2 + 1) * ((f + n.fdiv f).fdiv 2 + 1) := by
  have h1 : f * n.fdiv f + n.fmod f = n := Int.mul_fdiv_add_fmod n f
  have h3 : n.fmod f < f := Int.fmod_lt_of_pos _ (by omega)
  generalize n.fdiv f = q at *
  rw [Int.fdiv_eq_ediv_of_nonneg _ (by decide)]
  have h5 : f + q ≤ 2 * ((f + q) / 2) + 1 := by omega
  generalize (f + q) / 2 = t at *
  by_cases c : 0 ≤ f + q + 1
  · have h6 := pr_pos (show 0 ≤ 2 * t + 2 - (f + q + 1) by omega) (show 0 ≤ 2 * t + 2 + (f + q + 1) by omega)
    have h7 : 0 ≤ (f - q - 1) * (f - q - 1) := by
      by_cases g : 0 ≤ f - q - 1
      · exact pr_pos g g
      · have := pr_pos (show 0 ≤ -(f - q - 1) by omega) (show 0 ≤ -(f - q - 1) by omega)
        rw [Int.neg_mul_neg] at this
        exact this
    rw [show (2 * t + 2 - (f + q + 1)) * (2 * t + 2 + (f + q + 1)) = 4 * ((t + 1) * (t + 1)) - (f + q + 1) * (f + q + 1) by grind] at h6
    rw [show (f - q - 1) * (f - q - 1) = (f + q + 1) * (f + q + 1) - 4 * (f * q + f) by grind] at h7
    omega
  · have h6 : f * q ≤ f * (-f - 2) := Int.mul_le_mul_of_nonneg_left (by omega) (by omega)
    have h7 := pr_pos (show 0 ≤ f by omega) (show 0 ≤ f by omega)
    have h8 : 0 ≤ (t + 1) * (t + 1) := by
      by_cases g : 0 ≤ t + 1
      · exact pr_pos g g
      · have := pr_pos (show 0 ≤ -(t + 1) by omega) (show 0 ≤ -(t + 1) by omega)
        rw [Int.neg_mul_neg] at this
        exact this
    rw [show f * (-f - 2) = -(f * f) - 2 * f by grind] at h6
    omega
theorem bits_lt (n : Int) (h : 0 ≤ n) : n < 2 ^ (PySem.Builtin.Int.intBits n) := by
  unfold PySem.Builtin.Int.intBits
  by_cases e : n = 0
  · subst e; decide
  · have h1 : n.natAbs < 2 ^ (n.natAbs.log2 + 1) := Nat.lt_log2_self
    rw [if_neg (by simpa using e)]
    have h2 : ((2 ^ (n.natAbs.log2 + 1) : Nat) : Int) = 2 ^ (n.natAbs.log2 + 1) := by simp
    rw [← h2]
    omega
theorem bits_le {n : Int} {k : Nat} (b : Bd n k) : PySem.Builtin.Int.intBits n ≤ k := by
  unfold PySem.Builtin.Int.intBits
  by_cases e : n = 0
  · subst e; simp
  · rw [if_neg (by simpa using e)]
    have := (Nat.log2_lt (show n.natAbs ≠ 0 by omega)).mpr b.lt
    omega
theorem fl_rt {n r : Int} (h : IsFl n r) : rt n = if r * r = n then r else r + 1 := by
  obtain ⟨h1, h2, h3⟩ := h
  split
  · rename_i e
    refine rt_eq ⟨h1, by omega, fun hr => ?_⟩
    rw [show (r - 1) * (r - 1) = r * r - 2 * r + 1 by grind]
    omega
  · refine rt_eq ⟨by omega, by omega, fun _ => ?_⟩
    rw [show r + 1 - 1 = r by omega]
    omega
/-! ### steps -/
theorem bd_gnd {x y a : Int} (bx : Bd x 600) (bY : Bd y 600) (ba : Bd a 1200) : Bd (gnd x y a) 3604 := by
  unfold gnd ab
  infer_instance
abbrev tr (x y a : Int) : D := .tup [.int x, .int y, .int a]
abbrev plc (x y a : Int) : D := .ins "Place" [([120], .int x), ([121], .int y), ([97, 114, 101, 97], .int a)]
@[simp] theorem is_integer_ok (i : Int) (S : List Cell) : g_is_integer [.int i] S = .ok (.bl true) S := by
  simp [g_is_integer, b_is_integer, fnD]
@[simp] theorem init_ok (x y a : Int) (S : List Cell) : g_PlaceX_initX [.int x, .int y, .int a] S = .ok [([120], .int x), ([121], .int y), ([97, 114, 101, 97], .int a)] S := by
  simp [g_PlaceX_initX, b_PlaceX_initX, w_PlaceX_initX_0, inD, inFin, putN]
/-- a place of the size that is drawn -/
structure PB (x y a : Int) : Prop where
  x : Bd x 600
  y : Bd y 600
  a : Bd a 1200
end W_k10
set_option maxRecDepth 100000
set_option maxHeartbeats 4000000
set_option exponentiation.threshold 4000
namespace W_k10
open DL ST
/-! ### runs as data -/
abbrev qD (q : Nat × Int) : D := .tup [.str [q.1], .int q.2]
abbrev rD (r : Runs) : List D := r.map qD
abbrev wk (r : Runs) : D := .ins "Walk" [([114, 117, 110, 115], .tup (rD r))]
abbrev spD (p : Sp) : D := tr p.x p.y p.a
theorem isL_lt {c : Nat} (h : isL c) : c < 1114112 := by rcases h with rfl | rfl | rfl | rfl <;> decide
theorem mgStep_len (acc : Runs) (q : Nat × Int) : (mgStep acc q).length ≤ acc.length + 1 := by
  unfold mgStep
  split
  · split
    · simp
    · split <;> simp
  · split <;> simp
theorem take_snoc {α : Type} {l : List α} {i : Nat} {x : α} (h : l[i]? = some x) : l.take (i + 1) = l.take i ++ [x] := by
  rw [List.take_add_one, h]
  rfl
theorem merged_ok (d : D) (r : Runs) (S : List Cell) (hd : itemsD d = some (rD r)) (g : Good r) (hl : r.length ≤ 100000) : g_merged [d] S = .ok (.tup (rD (mg r))) S := by
  obtain ⟨s', e, ⟨y2, y3, hs⟩, hS⟩ := for_inv (g := gT 2 (gsCons (gN 2) (gsCons (gN 3) gsNil))) (b := w_merged_0) (items := rD r) (s := ⟨[.val d, .ol [], .un, .un], S⟩)
    (fun i s => (∃ y2 y3, s.sl = [.val d, .ol (rD ((r.take i).foldl mgStep [])), y2, y3]) ∧ s.st = S ∧ ((r.take i).foldl mgStep []).length ≤ i) ⟨⟨_, _, rfl⟩, rfl, Nat.le_refl _⟩ (fun i x s hi hp => by
      obtain ⟨⟨y2, y3, hs⟩, hS, hlen⟩ := hp
      obtain ⟨sl, st⟩ := s
      simp only at hs hS
      subst hs hS
      rw [List.getElem?_map, Option.map_eq_some_iff] at hi
      obtain ⟨q, hq, rfl⟩ := hi
      have hg := g q (List.mem_of_getElem? hq)
      have hlt := isL_lt hg.1
      have hi : i < r.length := (List.getElem?_eq_some_iff.mp hq).1
      refine ⟨DS.mk [.val d, .ol (rD ((r.take i).foldl mgStep [])), .val (.str [q.1]), .val (.int q.2)] st, DS.mk [.val d, .ol (rD ((r.take (i + 1)).foldl mgStep [])), .val (.str [q.1]), .val (.int q.2)] st, by simp, .inl ?_, ⟨_, _, rfl⟩, rfl, ?_⟩
      · rw [take_snoc hq, List.foldl_append]
        show _ = Res.ok Out.nx (DS.mk [.val d, .ol (rD (mgStep ((r.take i).foldl mgStep []) q)), .val (.str [q.1]), .val (.int q.2)] st)
        have nt := (fold_ok home (r.take i) [] (fun p hp => g p (List.mem_of_mem_take hp)) trivial).1
        generalize (r.take i).foldl mgStep [] = acc at *
        unfold mgStep
        have small : acc.length < 1000000 := by omega
        cases hl : acc.getLast? with
        | none =>
          have : acc = [] := List.getLast?_eq_none_iff.mp hl
          subst this
          by_cases c : 0 < q.2
          · simp [w_merged_0, c]
          · simp [w_merged_0, c]
        | some l =>
          rw [List.getLast?_eq_some_iff] at hl
          obtain ⟨ys, rfl⟩ := hl
          have hl2 : isL l.1 := (neat_app nt).2.1
          have hlt2 := isL_lt hl2
          have a1 := at_neg1 (rD ys) (qD l)
          have a2 : L2.ixN (ys.length + 1) (-1) = some ys.length := by rw [ixN_last (by omega)]; rfl
          by_cases c1 : l.1 = q.1
          · have hlt3 : q.1 < 1114112 := hlt
            simp [w_merged_0, a1, a2, c1, hlt]
          · by_cases c2 : 0 < q.2
            · simp only [List.length_append, List.length_cons, List.length_nil] at small
              simp [w_merged_0, a1, c1, hlt, hlt2, c2, small]
            · simp [w_merged_0, a1, c1, hlt, hlt2, c2]
      · rw [take_snoc hq, List.foldl_append]
        have := mgStep_len ((r.take i).foldl mgStep []) q
        show (mgStep _ q).length ≤ _
        omega)
  obtain ⟨sl, st⟩ := s'
  simp only at hs hS
  obtain ⟨rfl, hlen⟩ := hS
  subst hs
  rw [List.length_map, List.take_length] at e
  simp [g_merged, b_merged, fnD, hd, e]
  rfl
end W_k10
set_option maxRecDepth 100000
set_option maxHeartbeats 4000000
set_option exponentiation.threshold 4000
namespace W_k10
open DL ST
/-! ### told walks -/
@[simp] theorem is_list_lst (xs : List D) (S : List Cell) : g_is_list [.lst xs] S = .ok (.bl true) S := by
  simp [g_is_list, b_is_list, fnD, isLT]
@[simp] theorem is_list_tup (xs : List D) (S : List Cell) : g_is_list [.tup xs] S = .ok (.bl true) S := by
  simp [g_is_list, b_is_list, fnD, isLT]
@[simp] theorem is_whole_ok (i j : Int) (S : List Cell) : g_is_whole [.int i, .int j] S = .ok (.bl (decide (j ≤ i))) S := by
  simp [g_is_whole, b_is_whole, fnD]
theorem isi_str (l : Nm) : bIsi ["Place", "Walk"] [.str l, .ty "str"] = some (.bl true) := by simp [bIsi, tyOfD, tyD, isOne, mem_ty, isTy]
theorem isi_lst_str (l : List D) : bIsi ["Place", "Walk"] [.lst l, .ty "str"] = some (.bl false) := by simp [bIsi, tyOfD, tyD, isOne, mem_ty, isTy]
theorem isi_tup_str (l : List D) : bIsi ["Place", "Walk"] [.tup l, .ty "str"] = some (.bl false) := by simp [bIsi, tyOfD, tyD, isOne, mem_ty, isTy]
theorem is_pair_ok (q : Nat × Int) (S : List Cell) (h : isL q.1 ∧ 0 ≤ q.2) : g_is_pair [qD q] S = .ok (.bl true) S := by
  have h1 : (q.1 = 101 ∨ q.1 = 110 ∨ q.1 = 119 ∨ q.1 = 115) = True := eq_true h.1
  simp [g_is_pair, b_is_pair, fnD, isi_str, h.2, h1, bLen]
theorem all_true (n : Nat) : bAll [.lst (List.replicate n (.bl true))] = some (.bl true) := by
  have h : blsOf (List.replicate n (D.bl true)) = some (List.replicate n true) := by
    induction n with
    | zero => rfl
    | succ n ih => simp [List.replicate_succ, blsOf, ih]
  simp [bAll, h]
theorem told_of (d : D) (r : Runs) (S : List Cell) (hd : d = .lst (rD r) ∨ d = .tup (rD r)) (g : Good r) (hl : r.length ≤ 10000) : g_pairs_told [d] S = .ok (.lst (rD r)) S := by
  have hit : itemsD d = some (rD r) := by rcases hd with rfl | rfl <;> rfl
  have e1 : aLc [2] (itSeq (eVar 0)) (gN 2) bYes e_pairs_told_2 ⟨[.val d, .un, .un], S⟩ = .ok (List.replicate r.length (.bl true)) ⟨[.val d, .un, .un], S⟩ := by
    have := aLc_map (vs := [2]) (it := itSeq (eVar 0)) (g := gN 2) (e := e_pairs_told_2) (s := ⟨[.val d, .un, .un], S⟩) (s0 := ⟨[.val d, .un, .un], S⟩) (items := rD r) (fun _ => .bl true) (by simp [hit]) (fun z hz => by
      obtain ⟨q, hq, rfl⟩ := List.mem_map.mp hz
      refine ⟨⟨[.val d, .un, .val (qD q)], S⟩, ⟨[.val d, .un, .val (qD q)], S⟩, by simp, ?_, by simp⟩
      simp [e_pairs_told_2, is_pair_ok q S (g q hq)]) (by simp; omega)
    rw [List.map_const', List.length_map] at this
    simpa [-r_aLc] using this
  have e2 : aLc [2] (itSeq (eVar 0)) (gN 2) bYes e_pairs_told_3 ⟨[.val d, .un, .un], S⟩ = .ok (rD r) ⟨[.val d, .un, .un], S⟩ := by
    have := aLc_map (vs := [2]) (it := itSeq (eVar 0)) (g := gN 2) (e := e_pairs_told_3) (s := ⟨[.val d, .un, .un], S⟩) (s0 := ⟨[.val d, .un, .un], S⟩) (items := rD r) id (by simp [hit]) (fun z hz => by
      obtain ⟨q, hq, rfl⟩ := List.mem_map.mp hz
      refine ⟨⟨[.val d, .un, .val (qD q)], S⟩, ⟨[.val d, .un, .val (qD q)], S⟩, by simp, ?_, by simp⟩
      simp [e_pairs_told_3]) (by simp; omega)
    simpa [-r_aLc] using this
  have h3 := all_true r.length
  have h4 : ((r.length : Int) ≤ 10000) = True := eq_true (by omega)
  rcases hd with rfl | rfl
  · simp [-r_aLc, g_pairs_told, b_pairs_told, fnD, isi_lst_str, bLen, h4, e1, e2, h3]
  · simp [-r_aLc, g_pairs_told, b_pairs_told, fnD, isi_tup_str, bLen, h4, e1, e2, h3]
theorem winit_ok (d : D) (r : Runs) (S : List Cell) (hd : d = .lst (rD r) ∨ d = .tup (rD r)) (g : Good r) (hl : r.length ≤ 10000) : g_WalkX_initX [d] S = .ok [([114, 117, 110, 115], .tup (rD (mg r)))] S := by
  have h1 := told_of d r S hd g hl
  have h2 := merged_ok (.lst (rD r)) r S rfl g (by omega)
  simp [g_WalkX_initX, b_WalkX_initX, inD, inFin, putN, h1, h2]
/-! ### sides, areas -/
theorem ab_eq (x : Int) : (if x < 0 then -x else x) = ab x := rfl
theorem Bd.plus {x y : Int} {n : Nat} (h : Bd x n) (k : Bd y n) : Bd (x + y) (n + 1) := ⟨by
  have := h.lt
  have := k.lt
  rw [Nat.pow_succ]
  omega⟩
theorem bd_ab {x : Int} {n : Nat} (h : Bd x n) : Bd (ab x) n := by unfold ab; infer_instance
theorem bd_stp {x y a : Int} (bx : Bd x 600) (bY : Bd y 600) (ba : Bd a 1200) : Bd (stp x y a) 3620 := by
  have bg := bd_gnd bx bY ba
  have hg := gnd_nonneg x y a
  have h := rt_is (show 0 ≤ 4 * gnd x y a by omega)
  obtain ⟨h1, h2, h3⟩ := h
  have hx := ab_nonneg x
  have hy := ab_nonneg y
  obtain ⟨m1, m2, m3⟩ := mor_les x y
  have up : stp x y a ≤ 8 * gnd x y a + 2 + (ab x + ab y) := by
    unfold stp stpF
    split
    · omega
    · rename_i c
      split
      · rename_i c2
        have hm : 0 < mor x y := by
          by_cases z : 0 < mor x y
          · exact z
          · have : mor x y = 0 := by omega
            rw [this] at c c2
            simp at c c2
            omega
        have : ceilD (gnd x y a) (mor x y) ≤ gnd x y a := by
          unfold ceilD
          have e1 : mor x y * (-gnd x y a).fdiv (mor x y) + (-gnd x y a).fmod (mor x y) = -gnd x y a := Int.mul_fdiv_add_fmod _ _
          have e2 : (-gnd x y a).fmod (mor x y) < mor x y := Int.fmod_lt_of_pos _ hm
          generalize (-gnd x y a).fdiv (mor x y) = q at *
          by_cases z : -q ≤ gnd x y a
          · exact z
          · have := pr_pos (show 0 ≤ mor x y - 1 by omega) (show 0 ≤ -q - 1 by omega)
            rw [show (mor x y - 1) * (-q - 1) = -(mor x y * q) - mor x y + q + 1 by grind] at this
            omega
        omega
      · have : rt (4 * gnd x y a) ≤ 4 * gnd x y a + 1 := by
          by_cases z : 0 < rt (4 * gnd x y a)
          · have h4 := h3 z
            by_cases z1 : rt (4 * gnd x y a) = 1
            · omega
            · have := pr_pos (show 0 ≤ rt (4 * gnd x y a) - 2 by omega) (show 0 ≤ rt (4 * gnd x y a) - 1 by omega)
              generalize rt (4 * gnd x y a) = r at *
              rw [show (r - 2) * (r - 1) = (r - 1) * (r - 1) - (r - 1) by grind] at this
              omega
          · omega
        omega
  have b8 : Bd (8 : Int) 4 := ⟨by decide⟩
  have b1 : Bd (8 * gnd x y a) 3610 := (bd_mul (m := 4) (n := 3604) : Bd (8 * gnd x y a) _).le (by decide)
  have b2 : Bd (ab x + ab y) 3611 := (Bd.plus (bd_ab bx) (bd_ab bY)).le (by decide)
  have b3 : Bd (8 * gnd x y a + 2) 3611 := Bd.plus b1 ((inferInstance : Bd (2 : Int) 2).le (by decide))
  exact ((Bd.plus b3 b2).of_le (stp_nonneg x y a) up).le (by decide)
theorem bd_bs {x y k : Int} (bx : Bd x 600) (bY : Bd y 600) (bk : Bd k 5300) : Bd (bs x y k).1 7000 ∧ Bd (bs x y k).2 7000 := by
  have b1 : Bd (x + k) 7000 := (Bd.plus (bx.le (by decide)) bk).le (by decide)
  have b2 : Bd (y + k) 7000 := (Bd.plus (bY.le (by decide)) bk).le (by decide)
  have b0 : Bd (x + y + k) 5301 := Bd.plus ((Bd.plus bx bY).le (by decide)) bk
  have b3 : Bd ((x + y + k).fdiv 2) 7000 := (bd_half (h := b0)).le (by decide)
  have b4 : Bd ((x + y + k + 1).fdiv 2) 7000 := (bd_half (h := Bd.plus b0 ((inferInstance : Bd (1 : Int) 1).le (by decide)))).le (by decide)
  unfold bs
  split
  · split
    · exact ⟨bx.le (by decide), b2⟩
    · exact ⟨b1, bY.le (by decide)⟩
  · exact ⟨b4, b3⟩
def limD : Option (Int × Int) → D
  | none => .non
  | some (a, b) => .tup [.int a, .int b]
theorem bd_ext {x y n : Int} (bx : Bd x 600) (bY : Bd y 600) (bn : Bd n 4000) : Bd ((n - ab x - ab y).fdiv 2) 5300 := by
  have b1 := bd_ab bx
  have b2 := bd_ab bY
  exact (inferInstance : Bd ((n - ab x - ab y).fdiv 2) _).le (by decide)
/-! ### a walk of so many steps -/
def nmD (f : Nat → Nat) : D := .dic [(.s [101], .str [f 101]), (.s [110], .str [f 110]), (.s [119], .str [f 119]), (.s [115], .str [f 115])]
theorem nm_nd (a b c d : D) : keysNd [(.s [101], a), (.s [110], b), (.s [119], c), (.s [115], d)] = true := rfl
theorem wp_isL {x y a k : Int} : ∀ q ∈ wp x y a k, isL q.1 := fun q hq => by
  unfold wp at hq
  split at hq <;> simp only [List.mem_cons, List.not_mem_nil, or_false] at hq
  · rcases hq with rfl | rfl | rfl | rfl <;> simp [isL]
  · rcases hq with rfl | rfl | rfl | rfl | rfl | rfl | rfl <;> simp [isL]
theorem wp_short {x y a k : Int} : (wp x y a k).length ≤ 7 := by
  unfold wp
  split <;> simp
def ptD : Option Runs → D
  | none => .non
  | some r => .lst (rD r)
/-! ### how far a walk leads -/
theorem led_x : ∀ (r : Runs) (p : Sp), Good r → -(len r) ≤ (led p r).x - p.x ∧ (led p r).x - p.x ≤ len r
  | [], p, _ => by simp [led, len]
  | (c, t) :: r, p, g => by
    have h := led_x r (gone p c t) g.tail
    have h1 := g.head.2
    simp only [led, len] at *
    have h2 : -t ≤ (gone p c t).x - p.x ∧ (gone p c t).x - p.x ≤ t := by
      unfold gone
      split
      · simp; omega
      · split
        · simp; omega
        · split <;> simp <;> omega
    omega
theorem len_take {r : Runs} (g : Good r) (i : Nat) : len (r.take i) ≤ len r := by
  have h : len (r.take i) + len (r.drop i) = len r := by rw [← len_app, List.take_append_drop]
  have := len_nonneg (r := r.drop i) (fun q hq => g q (List.mem_of_mem_drop hq))
  omega
theorem mem_len : ∀ {r : Runs} (q : Nat × Int), Good r → q ∈ r → q.2 ≤ len r
  | (c, t) :: r, q, g, h => by
    have h1 := g.head.2
    have h2 := len_nonneg g.tail
    rcases List.mem_cons.mp h with z | z
    · subst z; simp only [len]; omega
    · have := mem_len q g.tail z
      simp only [len] at *
      omega
theorem bd_pm {x m : Int} {n : Nat} (b : Bd m n) (h1 : -m ≤ x) (h2 : x ≤ m) : Bd x n := ⟨by have := b.lt; omega⟩
theorem gone_mul {r : Runs} (g : Good r) {n : Nat} (bl : Bd (len r) n) (hn : n < 40000) {i : Nat} {q : Nat × Int} (hq : r[i]? = some q) : mulOk (led home (r.take i)).x q.2 = true := by
  have h1 := led_x (r.take i) home (fun q hq => g q (List.mem_of_mem_take hq))
  have h2 := len_take g i
  have h3 := mem_len q g (List.mem_of_getElem? hq)
  have h4 := (g q (List.mem_of_getElem? hq)).2
  simp only [home] at h1
  have b1 : Bd (led home (r.take i)).x n := bd_pm bl (by simp only [home]; omega) (by simp only [home]; omega)
  have b2 : Bd q.2 n := bl.of_le h4 h3
  exact mulOk_bd (by omega)
theorem led_take {r : Runs} {i : Nat} {q : Nat × Int} (hq : r[i]? = some q) (p : Sp) : led p (r.take (i + 1)) = gone (led p (r.take i)) q.1 q.2 := by
  rw [take_snoc hq, led_app]
  rfl
theorem gone_on_ok (p : Sp) (c : Nat) (t : Int) (S : List Cell) (hc : isL c) (hm : mulOk p.x t = true) : g_gone_on [spD p, .str [c], .int t] S = .ok (spD (gone p c t)) S := by
  rcases hc with rfl | rfl | rfl | rfl <;> simp [g_gone_on, b_gone_on, fnD, hm, gone]
def spts (r : Runs) (i : Nat) : List D := (List.range i).map fun j => spD (led home (r.take j))
theorem spts_snoc (r : Runs) (i : Nat) : spts r (i + 1) = spts r i ++ [spD (led home (r.take i))] := by
  simp [spts, List.range_succ]
theorem spts_len (r : Runs) (i : Nat) : (spts r i).length = i := by simp [spts]
theorem spots_ok (r : Runs) (S : List Cell) (g : Good r) {n : Nat} (bl : Bd (len r) n) (hn : n < 40000) (hl : r.length ≤ 100000) : g_Walk_spots [wk r] S = .ok (.lst (spts r (r.length + 1))) S := by
  obtain ⟨s', e, ⟨y2, y3, hs⟩, hS⟩ := for_inv (g := gT 2 (gsCons (gN 2) (gsCons (gN 3) gsNil))) (b := w_Walk_spots_0) (items := rD r) (s := ⟨[.val (wk r), .ol (spts r 1), .un, .un], S⟩)
    (fun i s => (∃ y2 y3, s.sl = [.val (wk r), .ol (spts r (i + 1)), y2, y3]) ∧ s.st = S) ⟨⟨_, _, rfl⟩, rfl⟩ (fun i x s hi hp => by
      obtain ⟨⟨y2, y3, hs⟩, hS⟩ := hp
      obtain ⟨sl, st⟩ := s
      simp only at hs hS
      subst hs hS
      rw [List.getElem?_map, Option.map_eq_some_iff] at hi
      obtain ⟨q, hq, rfl⟩ := hi
      have hg := g q (List.mem_of_getElem? hq)
      have hi : i < r.length := (List.getElem?_eq_some_iff.mp hq).1
      refine ⟨DS.mk [.val (wk r), .ol (spts r (i + 1)), .val (.str [q.1]), .val (.int q.2)] st, DS.mk [.val (wk r), .ol (spts r (i + 1 + 1)), .val (.str [q.1]), .val (.int q.2)] st, by simp, .inl ?_, ⟨_, _, rfl⟩, rfl⟩
      have h1 := gone_on_ok (led home (r.take i)) q.1 q.2 st hg.1 (gone_mul g bl hn hq)
      have h2 : L2.atI (spts r (i + 1)) (-1) = some (spD (led home (r.take i))) := by rw [spts_snoc]; exact at_neg1 _ _
      have h3 : (spts r (i + 1)).length < 1000000 := by rw [spts_len]; omega
      rw [spts_snoc r (i + 1), led_take hq]
      simp [w_Walk_spots_0, h1, h2, h3])
  obtain ⟨sl, st⟩ := s'
  simp only at hs hS
  subst hs hS
  rw [List.length_map] at e
  rw [show spts r 1 = [D.tup [.int 0, .int 0, .int 0]] from rfl] at e
  simp [g_Walk_spots, b_Walk_spots, fnD, List.lookup, e]
theorem plFs_rD : ∀ (r : Runs), (∀ q ∈ r, q.1 < 1114112) → plFs (rD r)
  | [], _ => by simp
  | q :: r, h => by
    have h1 := plFs_rD r (fun p hp => h p (List.mem_cons_of_mem _ hp))
    have h2 := h q (List.mem_cons_self ..)
    rw [rD, List.map_cons, plFs_cons]
    exact ⟨by simp [plF, plD, plDs, dpD, dpDs, h2], h1⟩
theorem runs_of_ok (d : D) (r : Runs) (S : List Cell) (hd : itemsD d = some (rD r)) (g : Neat r) (hl : r.length ≤ 100000) : g__law_runs_of [d] S = .ok (.tup (rD r)) S := by
  obtain ⟨s', e, ⟨y2, y3, hs⟩, hS⟩ := for_inv (g := gT 2 (gsCons (gN 2) (gsCons (gN 3) gsNil))) (b := w__law_runs_of_0) (items := rD r) (s := ⟨[.val d, .ol [], .un, .un], S⟩)
    (fun i s => (∃ y2 y3, s.sl = [.val d, .ol (rD (r.take i)), y2, y3]) ∧ s.st = S) ⟨⟨_, _, rfl⟩, rfl⟩ (fun i x s hi hp => by
      obtain ⟨⟨y2, y3, hs⟩, hS⟩ := hp
      obtain ⟨sl, st⟩ := s
      simp only at hs hS
      subst hs hS
      rw [List.getElem?_map, Option.map_eq_some_iff] at hi
      obtain ⟨q, hq, rfl⟩ := hi
      have hg := g.good q (List.mem_of_getElem? hq)
      have hi : i < r.length := (List.getElem?_eq_some_iff.mp hq).1
      have hlt := isL_lt hg.1
      have nt : Neat (r.take i ++ [q]) := by
        rw [← take_snoc hq]
        have : r.take (i + 1) ++ r.drop (i + 1) = r := List.take_append_drop ..
        exact (neat_app (this ▸ g)).1
      have h1 : (0 < q.2) = True := eq_true (by have := (neat_app nt).2.2; omega)
      refine ⟨DS.mk [.val d, .ol (rD (r.take i)), .val (.str [q.1]), .val (.int q.2)] st, DS.mk [.val d, .ol (rD (r.take (i + 1))), .val (.str [q.1]), .val (.int q.2)] st, by simp, .inl ?_, ⟨_, _, rfl⟩, rfl⟩
      rw [take_snoc hq]
      have hsm : (r.take i).length < 1000000 := by rw [List.length_take]; omega
      generalize r.take i = acc at *
      have hpl : ∀ q ∈ acc, q.1 < 1114112 := fun q hq => isL_lt ((neat_app nt).1.good q hq).1
      cases hl : acc.getLast? with
      | none =>
        have : acc = [] := List.getLast?_eq_none_iff.mp hl
        subst this
        simp [w__law_runs_of_0, h1]
      | some l =>
        rw [List.getLast?_eq_some_iff] at hl
        obtain ⟨ys, rfl⟩ := hl
        have a1 := at_neg1 (rD ys) (qD l)
        have hlt2 := hpl l (by simp)
        have hne : (l.1 = q.1) = False := eq_false (by
          rw [List.append_assoc] at nt
          exact (neat_app nt).2.2.1)
        have pf : plFs (rD ys ++ [qD l]) := by
          have := plFs_rD (ys ++ [l]) hpl
          rwa [rD, List.map_append] at this
        have hne2 : eqPls (rD ys ++ [qD l]) [] = false := by cases ys <;> simp
        have dn : dNe (.lst (rD ys ++ [qD l])) (.lst []) = some (.bl true) := by rw [dNe_ll _ _ pf (by simp), hne2]; rfl
        simp only [List.length_append, List.length_cons, List.length_nil] at hsm
        simp [w__law_runs_of_0, h1, a1, dn, hlt, hlt2, hne, hsm])
  obtain ⟨sl, st⟩ := s'
  simp only at hs hS
  subst hs hS
  rw [List.length_map, List.take_length] at e
  simp [g__law_runs_of, b__law_runs_of, fnD, hd, e]

theorem sum_times (r : Runs) : bSum [.lst (r.map fun q => D.int q.2)] = some (.int (len r)) := by
  have h : ∀ r : Runs, intsOf (r.map fun q => D.int q.2) = some (r.map fun q => q.2) := fun r => by
    induction r with
    | nil => rfl
    | cons q r ih => simp [intsOf, ih]
  have h2 : ∀ r : Runs, (r.map fun q : Nat × Int => q.2).sum = len r := fun r => by
    induction r with
    | nil => rfl
    | cons q r ih => simp only [List.map_cons, List.sum_cons, ih]; rfl
  simp [bSum, h, h2]
theorem length_ok (r : Runs) (S : List Cell) (hl : r.length ≤ 100000) : g_Walk_length [wk r] S = .ok (.int (len r)) S := by
  have e1 := aLc_map (vs := [1, 2]) (it := itSeq (eFld ["Walk"] [114, 117, 110, 115] (eVar 0))) (g := gT 2 (gsCons (gN 1) (gsCons (gN 2) (gsNil)))) (e := e_Walk_length_0) (s := ⟨[.val (wk r), .un, .un], S⟩) (s0 := ⟨[.val (wk r), .un, .un], S⟩) (items := rD r)
    (fun z => match z with | .tup [_, t] => t | z => z) (by simp [List.lookup]) (fun z hz => by
      obtain ⟨q, hq, rfl⟩ := List.mem_map.mp hz
      exact ⟨⟨[.val (wk r), .val (.str [q.1]), .val (.int q.2)], S⟩, ⟨[.val (wk r), .val (.str [q.1]), .val (.int q.2)], S⟩, by simp, by simp [e_Walk_length_0], by simp⟩) (by simp; omega)
  rw [List.map_map] at e1
  have e2 : List.map ((fun z => match z with | .tup [_, t] => t | z => z) ∘ qD) r = r.map fun q => D.int q.2 := rfl
  rw [e2] at e1
  have h3 := sum_times r
  generalize (r.map fun q => D.int q.2) = R at *
  simp [-r_aLc] at e1
  simp [-r_aLc, g_Walk_length, b_Walk_length, fnD, e1, h3]
end W_k10
set_option maxRecDepth 100000
set_option maxHeartbeats 4000000
set_option exponentiation.threshold 2000
namespace W_k10
open DL ST
theorem ipow_le {i j : Nat} (h : i ≤ j) : (10000000 : Int) ^ i ≤ 10000000 ^ j := by
  have h1 : ((10000000 ^ i : Nat) : Int) = 10000000 ^ i := by simp
  have h2 : ((10000000 ^ j : Nat) : Int) = 10000000 ^ j := by simp
  rw [← h1, ← h2]
  exact Int.ofNat_le.mpr (Nat.pow_le_pow_right (by decide) h)
theorem great_ok {n : Nat} {S : List Cell} {f : Int} (hS : Pen n S) (hn : n + 20 < 2 ^ 20) (h1 : 7 ≤ f) (h2 : f < 105) : ∃ d S', g__law_great [.cell 2, .int f] S = .ok (.int d) S' ∧ 0 ≤ d ∧ Bd d 340 ∧ Pen (n + 16) S' := by
  have hf : 1 ≤ f.fdiv 7 ∧ f.fdiv 7 ≤ 14 := by rw [Int.fdiv_eq_ediv_of_nonneg _ (by decide)]; omega
  obtain ⟨c, S1, e1, c0, c1, P1⟩ := draw_ok hS (by omega) (p := f.fdiv 7) (by omega) (by omega)
  have hk : ∃ k : Nat, (1 + c).toNat = k ∧ k ≤ 14 ∧ 1 + c = (k : Int) := ⟨(1 + c).toNat, rfl, by omega, by omega⟩
  obtain ⟨k, hk1, hk2, hk3⟩ := hk
  have d7 : divOk 7 = true := by decide
  obtain ⟨s', e2, v, x, hs, v0, v1, hP⟩ := for_inv (g := gN 3) (b := w__law_great_0) (items := rngL 0 k) (s := ⟨[.val (.cell 2), .val (.int f), .val (.int 0), .un], S1⟩)
    (fun i s => ∃ (v : Int) (x : Sl), s.sl = [.val (.cell 2), .val (.int f), .val (.int v), x] ∧ 0 ≤ v ∧ v < 10000000 ^ i ∧ Pen (n + 1 + i) s.st)
    ⟨0, .un, rfl, by omega, by decide, P1⟩ (fun i d s hi hp => by
      obtain ⟨v, x, hs, v0, v1, hP⟩ := hp
      obtain ⟨sl, st⟩ := s
      simp only at hs hP
      subst hs
      obtain ⟨hi1, rfl⟩ := rngL_get hi
      obtain ⟨c, S2, e, c0, c1, P2⟩ := draw_ok hP (by omega) (p := 10000000) (by decide) (by decide)
      have hi2 : i ≤ 14 := by omega
      have hle : (10000000 : Int) ^ i ≤ 10000000 ^ 14 := ipow_le hi2
      have bv : Bd v 340 := ⟨by
        have : (10000000 : Int) ^ 14 < 2 ^ 340 := by decide
        omega⟩
      have m : mulOk v 10000000 = true := mulOk_bd (by decide)
      refine ⟨_, ⟨[.val (.cell 2), .val (.int f), .val (.int (v * 10000000 + c)), .val (.int (0 + i))], S2⟩, rfl, .inl ?_, v * 10000000 + c, _, rfl, by omega, ?_, P2⟩
      · simp [w__law_great_0, e, m]
      · rw [Int.pow_succ]
        omega)
  rw [rngL_len] at v1 hP
  obtain ⟨sl, st⟩ := s'
  simp only at hs hP
  subst hs
  have hle : (10000000 : Int) ^ k ≤ 10000000 ^ 14 := ipow_le hk2
  have hlt : (10000000 : Int) ^ 14 < 2 ^ 340 := by decide
  refine ⟨v, st, ?_, v0, ⟨by omega⟩, hP.mono (by omega)⟩
  have q : -4611686018427387904 ≤ (1 + c) ∧ 1 + c < 4611686018427387904 := by omega
  simp [g__law_great, b__law_great, fnD, e1, d7, hk1, q, e2]
theorem signed_ok {n : Nat} {S : List Cell} {f : Int} (hS : Pen n S) (hn : n + 30 < 2 ^ 20) (h2 : f < 105) : ∃ d S', g__law_signed [.cell 2, .int f] S = .ok (.int d) S' ∧ Bd d 340 ∧ Pen (n + 20) S' := by
  have fin : ∀ {m : Nat} {S1 : List Cell} (d : Int), Pen m S1 → m ≤ n + 18 → ∃ c S2, g__law_draw [.cell 2, .int 2] S1 = .ok (.int c) S2 ∧ Pen (n + 20) S2 := fun d hP hm => by
    obtain ⟨c, S2, e, _, _, P2⟩ := draw_ok hP (by omega) (p := 2) (by decide) (by decide)
    exact ⟨c, S2, e, P2.mono (by omega)⟩
  have neg : ∀ d : Int, Bd d 340 → Bd (-d) 340 := fun d h => bd_neg
  by_cases c : f < 7
  · obtain ⟨d, S1, e1, d0, d1, P1⟩ := draw_ok hS (by omega) (p := 12) (by decide) (by decide)
    obtain ⟨k, S2, e2, P2⟩ := fin d P1 (by omega)
    have bd : Bd d 340 := (⟨by omega⟩ : Bd d 4).le (by decide)
    by_cases hk : k = 0
    · exact ⟨d, S2, by simp [g__law_signed, b__law_signed, fnD, c, e1, e2, hk], bd, P2⟩
    · exact ⟨-d, S2, by simp [g__law_signed, b__law_signed, fnD, c, e1, e2, hk], neg d bd, P2⟩
  · obtain ⟨t, S0, e0, t0, t1, P0⟩ := draw_ok hS (by omega) (p := 4) (by decide) (by decide)
    by_cases ht : t = 0
    · obtain ⟨d, S1, e1, d0, d1, P1⟩ := draw_ok P0 (by omega) (p := 12) (by decide) (by decide)
      obtain ⟨k, S2, e2, P2⟩ := fin d P1 (by omega)
      have bd : Bd d 340 := (⟨by omega⟩ : Bd d 4).le (by decide)
      by_cases hk : k = 0
      · exact ⟨d, S2, by simp [g__law_signed, b__law_signed, fnD, c, e0, ht, e1, e2, hk], bd, P2⟩
      · exact ⟨-d, S2, by simp [g__law_signed, b__law_signed, fnD, c, e0, ht, e1, e2, hk], neg d bd, P2⟩
    · obtain ⟨d, S1, e1, d0, bd, P1⟩ := great_ok P0 (by omega) (f := f) (by omega) h2
      obtain ⟨k, S2, e2, P2⟩ := fin d P1 (by omega)
      by_cases hk : k = 0
      · exact ⟨d, S2, by simp [g__law_signed, b__law_signed, fnD, c, e0, ht, e1, e2, hk], bd, P2⟩
      · exact ⟨-d, S2, by simp [g__law_signed, b__law_signed, fnD, c, e0, ht, e1, e2, hk], neg d bd, P2⟩
/-- a drawn place -/
structure PD (x y a : Int) : Prop where
  x : Bd x 340
  y : Bd y 340
  a : Bd a 700
theorem PD.b {x y a : Int} (h : PD x y a) : PB x y a := ⟨h.x.le (by decide), h.y.le (by decide), h.a.le (by decide)⟩
end W_k10
set_option maxRecDepth 100000
set_option maxHeartbeats 4000000
set_option exponentiation.threshold 4000
namespace W_k10
open DL ST
/-! ### walks found -/
def wkO : Option Runs → D
  | none => .non
  | some r => wk (mg r)
theorem bd_stp' {x y a : Int} (h : PB x y a) : Bd (stp x y a) 3620 := bd_stp h.x h.y h.a
/-- the runs of the least walk -/
def lw (x y a n : Int) : Runs := mg (pt x y a n)
structure IsWk (r : Runs) (p : Sp) (n : Int) (m : Nat) : Prop where
  neat : Neat r
  to : led home r = p
  len : len r = n
  few : r.length ≤ m
theorem wk_of {x y a n : Int} (h : stp x y a ≤ n ∧ (n - stp x y a) % 2 = 0) : IsWk (mg (pt x y a n)) ⟨x, y, a⟩ n 7 := by
  obtain ⟨g, t, l⟩ := pt_leads h.1 h.2
  exact ⟨mg_neat g, by rw [mg_led g, t], by rw [mg_len g, l], mg_pt ..⟩
theorem wk_least (x y a : Int) : IsWk (mg (pt x y a (stp x y a))) ⟨x, y, a⟩ (stp x y a) 6 := by
  obtain ⟨h1, h2, h3, h4⟩ := wk_of (x := x) (y := y) (a := a) (n := stp x y a) ⟨Int.le_refl _, by omega⟩
  exact ⟨h1, h2, h3, Nat.le_trans (mg_cnt _) pt_six⟩
end W_k10
set_option maxRecDepth 100000
set_option maxHeartbeats 4000000
set_option exponentiation.threshold 4000
namespace W_k10
open DL ST
abbrev plS (p : Sp) : D := plc p.x p.y p.a
theorem Sz.pb {n : Nat} {p : Sp} (h : Sz n p) (hn : n ≤ 590) : PB p.x p.y p.a := ⟨h.x.le (by omega), h.y.le (by omega), h.a.le (by omega)⟩
/-! ### walks parted -/
theorem wplace_ok (r : Runs) (S : List Cell) (g : Good r) {n : Nat} (bl : Bd (len r) n) (hn : n < 40000) (hl : r.length ≤ 100000) : g_Walk_place [wk r] S = .ok (plS (led home r)) S := by
  have e1 := spots_ok r S g bl hn hl
  rw [spts_snoc, List.take_length] at e1
  have e4 := at_neg1 (spts r r.length) (spD (led home r))
  generalize spts r r.length = L at *
  simp [g_Walk_place, b_Walk_place, fnD, e1, e4]
/-! ### products, ways back, distances -/
theorem sp_eq (p q : Sp) : (p.x = q.x ∧ p.y = q.y ∧ p.a = q.a) ↔ p = q := by
  cases p; cases q
  simp
theorem eq_ok (p q : Sp) (S : List Cell) : g_PlaceX_eqX [plS p, plS q] S = .ok (.bl (decide (p.x = q.x ∧ p.y = q.y ∧ p.a = q.a))) S := by
  simp [g_PlaceX_eqX, b_PlaceX_eqX, fnD, List.lookup, eqPl]
/-! ### what is refused -/
abbrev badP (o : D) : Xc := ⟨"BadPlace", [([118, 97, 108, 117, 101], o)]⟩
abbrev badN (o : D) : Xc := ⟨"BadNumber", [([118, 97, 108, 117, 101], o)]⟩
end W_k10
set_option maxRecDepth 100000
set_option maxHeartbeats 4000000
set_option exponentiation.threshold 4000
namespace W_k10
open DL ST
/-! ### is a walk least -/
/-- a walk that is not too great -/
structure Wf (n : Nat) (r : Runs) : Prop where
  good : Good r
  bd : Bd (len r) n
  few : r.length ≤ 10000
theorem Wf.sz {n : Nat} {r : Runs} (h : Wf n r) {k : Int} (hk : 0 ≤ k) (hl : k ≤ len r) : Sz n (led home (hd r k)) := Sz.of_st (by
  have h1 := st_le_len (hd_good h.good hk)
  rw [hd_len h.good hk hl] at h1
  have h2 := h.bd.lt
  have e : ((2 ^ n : Nat) : Int) = 2 ^ n := by simp
  omega)
theorem Wf.sz' {n : Nat} {r : Runs} (h : Wf n r) : Sz n (led home r) := by
  have := h.sz (len_nonneg h.good) (Int.le_refl _)
  rwa [hd_all home h.good] at this
theorem Wf.head {n : Nat} {r : Runs} (h : Wf n r) {k : Int} (hk : 0 ≤ k) (hl : k ≤ len r) : Wf n (mg (hd r k)) := by
  have g := hd_good h.good hk
  refine ⟨(mg_neat g).good, ?_, ?_⟩
  · rw [mg_len g, hd_len h.good hk hl]
    exact h.bd.of_le hk hl
  · have h1 := mg_cnt (hd r k)
    have h2 := cnt_le (hd r k)
    rw [hd_length] at h2
    have := h.few
    omega
/-! ### the first number of steps that is not least -/
theorem sz_gone {n : Nat} {p : Sp} {c : Nat} (hc : isL c) {g h : Int} (hp : st p = g) (h0 : 0 ≤ h) (hb : Bd (g + h) n) (g0 : 0 ≤ g) : Sz n (gone p c h) := Sz.of_st (by
  have h1 := (st_goneI (p := p) hc h0).1
  have h2 := hb.lt
  have e : ((2 ^ n : Nat) : Int) = 2 ^ n := by simp
  omega)
theorem mul_small {n : Nat} {p : Sp} {h : Int} (hp : Sz n p) (hh : Bd h n) (hn : n ≤ 590) : mulOk p.x h = true := mulOk_of hp.x hh (by omega)
abbrev oD : Option Int → D
  | none => .non
  | some f => .int f
theorem place_w {n : Nat} {r : Runs} (h : Wf n r) (hn : n ≤ 590) (S : List Cell) : g_Walk_place [wk r] S = .ok (plS (led home r)) S := wplace_ok r S h.good h.bd (by omega) (by have := h.few; omega)
theorem length_w {n : Nat} {r : Runs} (h : Wf n r) (S : List Cell) : g_Walk_length [wk r] S = .ok (.int (len r)) S := length_ok r S (by have := h.few; omega)
end W_k10
set_option maxRecDepth 100000
set_option maxHeartbeats 4000000
set_option exponentiation.threshold 4000
namespace W_k10
open DL ST
/-! ### walks told by texts, by lists of lists -/
abbrev ones (l : List Nat) : Runs := l.map fun c => (c, 1)
theorem ones_good {l : List Nat} (h : ∀ c ∈ l, isL c) : Good (ones l) := fun q hq => by
  obtain ⟨c, hc, rfl⟩ := List.mem_map.mp hq
  exact ⟨h c hc, by show (0 : Int) ≤ 1; decide⟩
theorem ones_len (l : List Nat) : len (ones l) = l.length := by
  induction l with
  | nil => rfl
  | cons c l ih =>
    show 1 + len (ones l) = _
    rw [ih, List.length_cons]
    omega
theorem told_str (l : List Nat) (S : List Cell) (h : ∀ c ∈ l, isL c) (hl : l.length ≤ 10000) : g_pairs_told [.str l] S = .ok (.lst (rD (ones l))) S := by
  have e1 : aLc [1] (itSeq (eVar 0)) (gN 1) bYes e_pairs_told_0 ⟨[.val (.str l), .un, .un], S⟩ = .ok (List.replicate l.length (.bl true)) ⟨[.val (.str l), .un, .un], S⟩ := by
    have := aLc_map (vs := [1]) (it := itSeq (eVar 0)) (g := gN 1) (e := e_pairs_told_0) (s := ⟨[.val (.str l), .un, .un], S⟩) (s0 := ⟨[.val (.str l), .un, .un], S⟩) (items := l.map fun c => .str [c]) (fun _ => .bl true) (by simp [itemsD]) (fun z hz => by
      obtain ⟨c, hc, rfl⟩ := List.mem_map.mp hz
      refine ⟨⟨[.val (.str l), .val (.str [c]), .un], S⟩, ⟨[.val (.str l), .val (.str [c]), .un], S⟩, by simp, ?_, by simp⟩
      have : dIn false (.str [c]) (.str [101, 110, 119, 115]) = some (.bl true) := by
        show some (D.bl (decide (c ∈ [101, 110, 119, 115]))) = _
        rw [decide_eq_true]
        rcases h c hc with rfl | rfl | rfl | rfl <;> simp
      simp [e_pairs_told_0, this]) (by simp; omega)
    rw [List.map_const', List.length_map] at this
    simpa [-r_aLc] using this
  have e2 : aLc [1] (itSeq (eVar 0)) (gN 1) bYes e_pairs_told_1 ⟨[.val (.str l), .un, .un], S⟩ = .ok (rD (ones l)) ⟨[.val (.str l), .un, .un], S⟩ := by
    have := aLc_map (vs := [1]) (it := itSeq (eVar 0)) (g := gN 1) (e := e_pairs_told_1) (s := ⟨[.val (.str l), .un, .un], S⟩) (s0 := ⟨[.val (.str l), .un, .un], S⟩) (items := l.map fun c => .str [c]) (fun d => .tup [d, .int 1]) (by simp [itemsD]) (fun z hz => by
      obtain ⟨c, hc, rfl⟩ := List.mem_map.mp hz
      exact ⟨⟨[.val (.str l), .val (.str [c]), .un], S⟩, ⟨[.val (.str l), .val (.str [c]), .un], S⟩, by simp, by simp [e_pairs_told_1], by simp⟩) (by simp; omega)
    rw [List.map_map] at this
    rw [show rD (ones l) = List.map ((fun d => D.tup [d, D.int 1]) ∘ fun c => D.str [c]) l from by rw [rD, ones, List.map_map]; rfl]
    simpa [-r_aLc] using this
  have h3 := all_true l.length
  have h4 : ((l.length : Int) ≤ 10000) = True := eq_true (by omega)
  have h5 : l.length ≤ 16777216 := by omega
  simp [-r_aLc, g_pairs_told, b_pairs_told, fnD, isi_str, bLen, h4, h5, e1, e2, h3]
abbrev qL (q : Nat × Int) : D := .lst [.str [q.1], .int q.2]
theorem is_pair_l (q : Nat × Int) (S : List Cell) (h : isL q.1 ∧ 0 ≤ q.2) : g_is_pair [qL q] S = .ok (.bl true) S := by
  have h1 : (q.1 = 101 ∨ q.1 = 110 ∨ q.1 = 119 ∨ q.1 = 115) = True := eq_true h.1
  simp [g_is_pair, b_is_pair, fnD, isi_str, h.2, h1, bLen]
theorem told_ll (r : Runs) (S : List Cell) (g : Good r) (hl : r.length ≤ 10000) : g_pairs_told [.tup (r.map qL)] S = .ok (.lst (rD r)) S := by
  have e1 : aLc [2] (itSeq (eVar 0)) (gN 2) bYes e_pairs_told_2 ⟨[.val (.tup (r.map qL)), .un, .un], S⟩ = .ok (List.replicate r.length (.bl true)) ⟨[.val (.tup (r.map qL)), .un, .un], S⟩ := by
    have := aLc_map (vs := [2]) (it := itSeq (eVar 0)) (g := gN 2) (e := e_pairs_told_2) (s := ⟨[.val (.tup (r.map qL)), .un, .un], S⟩) (s0 := ⟨[.val (.tup (r.map qL)), .un, .un], S⟩) (items := r.map qL) (fun _ => .bl true) (by simp) (fun z hz => by
      obtain ⟨q, hq, rfl⟩ := List.mem_map.mp hz
      refine ⟨⟨[.val (.tup (r.map qL)), .un, .val (qL q)], S⟩, ⟨[.val (.tup (r.map qL)), .un, .val (qL q)], S⟩, by simp, ?_, by simp⟩
      simp [e_pairs_told_2, is_pair_l q S (g q hq)]) (by simp; omega)
    rw [List.map_const', List.length_map] at this
    simpa [-r_aLc] using this
  have e2 : aLc [2] (itSeq (eVar 0)) (gN 2) bYes e_pairs_told_3 ⟨[.val (.tup (r.map qL)), .un, .un], S⟩ = .ok (rD r) ⟨[.val (.tup (r.map qL)), .un, .un], S⟩ := by
    have := aLc_map (vs := [2]) (it := itSeq (eVar 0)) (g := gN 2) (e := e_pairs_told_3) (s := ⟨[.val (.tup (r.map qL)), .un, .un], S⟩) (s0 := ⟨[.val (.tup (r.map qL)), .un, .un], S⟩) (items := r.map qL) (fun d => match d with | .lst xs => .tup xs | d => d) (by simp) (fun z hz => by
      obtain ⟨q, hq, rfl⟩ := List.mem_map.mp hz
      exact ⟨⟨[.val (.tup (r.map qL)), .un, .val (qL q)], S⟩, ⟨[.val (.tup (r.map qL)), .un, .val (qL q)], S⟩, by simp, by simp [e_pairs_told_3], by simp⟩) (by simp; omega)
    rw [List.map_map] at this
    rw [show rD r = List.map ((fun d => match d with | .lst xs => .tup xs | d => d) ∘ qL) r from rfl]
    simpa [-r_aLc] using this
  have h3 := all_true r.length
  have h4 : ((r.length : Int) ≤ 10000) = True := eq_true (by omega)
  simp [-r_aLc, g_pairs_told, b_pairs_told, fnD, isi_tup_str, bLen, h4, e1, e2, h3]
theorem winit_of (d : D) (r : Runs) (S : List Cell) (h1 : g_pairs_told [d] S = .ok (.lst (rD r)) S) (g : Good r) (hl : r.length ≤ 10000) : g_WalkX_initX [d] S = .ok [([114, 117, 110, 115], .tup (rD (mg r)))] S := by
  have h2 := merged_ok (.lst (rD r)) r S rfl g (by omega)
  simp [g_WalkX_initX, b_WalkX_initX, inD, inFin, putN, h1, h2]
end W_k10
set_option maxRecDepth 100000
set_option maxHeartbeats 4000000
set_option exponentiation.threshold 4000
namespace W_k10
open DL ST
theorem pickS_ok {n : Nat} {S : List Cell} (hS : Pen n S) (hn : n < 2 ^ 20) : ∃ c S', g__law_pick [.cell 2, .str [101, 110, 119, 115]] S = .ok (.str [c]) S' ∧ isL c ∧ Pen (n + 1) S' := by
  obtain ⟨d, S', e, d0, d1, hP⟩ := draw_ok hS hn (p := 4) (by decide) (by decide)
  obtain ⟨k, rfl⟩ := Int.eq_ofNat_of_zero_le d0
  have hk : k < [101, 110, 119, 115].length := by simp; omega
  have h2 : L2.atI [101, 110, 119, 115] (k : Int) = some [101, 110, 119, 115][k] := L2.atI_nat (by simp [hk])
  refine ⟨[101, 110, 119, 115][k], S', ?_, four_isL (List.getElem_mem _), hP⟩
  simp [g__law_pick, b__law_pick, fnD, bLen, e, ixD, h2]
/-! ### drawn pairs -/
theorem len_le {m : Int} : ∀ {r : Runs}, (∀ q ∈ r, q.2 ≤ m) → len r ≤ r.length * m
  | [], _ => by show (0 : Int) ≤ _; simp
  | q :: r, h => by
    have h1 := len_le (r := r) fun z hz => h z (by simp [hz])
    have h2 := h q (by simp)
    show q.2 + len r ≤ ((r.length + 1 : Nat) : Int) * m
    rw [Int.natCast_add, Int.add_mul]
    simp only [Int.natCast_one, Int.one_mul]
    omega
theorem le_len {r : Runs} (g : Good r) : ∀ q ∈ r, q.2 ≤ len r := by
  induction r with
  | nil => intro q h; cases h
  | cons c r ih =>
    intro q hq
    have h1 := len_nonneg g.tail
    have h2 := g.head.2
    show q.2 ≤ c.2 + len r
    rcases List.mem_cons.mp hq with rfl | hq
    · omega
    · have := ih g.tail q hq
      omega
theorem pairs_ok {n : Nat} {S : List Cell} {f : Int} (hS : Pen n S) (hn : n + 500 < 2 ^ 20) (h2 : f < 105) (h3 : 0 ≤ f) : ∃ r S', g__law_pairs [.cell 2, .int 9, .int f] S = .ok (.lst (rD r)) S' ∧ Good r ∧ r.length ≤ 9 ∧ (∀ q ∈ r, q.2 ≤ 2 ^ 340) ∧ Pen (n + 200) S' := by
  obtain ⟨c, S1, e1, c0, c1, P1⟩ := draw_ok hS (by omega) (p := 10) (by decide) (by decide)
  have hk : ∃ k : Nat, c.toNat = k ∧ k ≤ 9 ∧ c = (k : Int) := ⟨c.toNat, rfl, by omega, by omega⟩
  obtain ⟨k, hk1, hk2, hk3⟩ := hk
  obtain ⟨s', e2, ⟨r, y4, y5, hs, g, hl, hm⟩, hP⟩ := for_inv (g := gN 4) (b := w__law_pairs_0) (items := rngL 0 k) (s := ⟨[.val (.cell 2), .val (.int 9), .val (.int f), .ol [], .un, .un], S1⟩)
    (fun i s => (∃ (r : Runs) (y4 y5 : Sl), s.sl = [.val (.cell 2), .val (.int 9), .val (.int f), .ol (rD r), y4, y5] ∧ Good r ∧ r.length = i ∧ (∀ q ∈ r, q.2 ≤ 2 ^ 340)) ∧ Pen (n + 1 + 22 * i) s.st)
    ⟨⟨[], .un, .un, rfl, fun q hq => absurd hq (by simp), rfl, fun q hq => absurd hq (by simp)⟩, P1⟩ (fun i d s hi hp => by
      obtain ⟨⟨r, y4, y5, hs, g, hl, hm⟩, hP⟩ := hp
      obtain ⟨sl, st⟩ := s
      simp only at hs hP
      subst hs
      obtain ⟨hi1, rfl⟩ := rngL_get hi
      obtain ⟨u, S2, e3, u0, u1, P2⟩ := draw_ok hP (by omega) (p := 9) (by decide) (by decide)
      obtain ⟨t, S3, e4, ht, P3⟩ := pick_ok (xs := [.int 0, .int 1, .int 1, .int 2, .int 3, .int u]) P2 (by omega) (by simp) (by simp)
      have : ∃ t', t = .int t' ∧ 0 ≤ t' ∧ t' ≤ 9 := by
        simp at ht
        rcases ht with rfl | rfl | rfl | rfl | rfl <;> exact ⟨_, rfl, by omega, by omega⟩
      obtain ⟨t, rfl, t0, t1⟩ := this
      have sm : (rD r).length < 1000000 := by rw [List.length_map]; omega
      have pw : (9 : Int) ≤ 2 ^ 340 := by decide
      have fin : ∀ (c : Nat) (t : Int), isL c → 0 ≤ t → t ≤ 2 ^ 340 → Good (r ++ [(c, t)]) ∧ (r ++ [(c, t)]).length = i + 1 ∧ (∀ q ∈ r ++ [(c, t)], q.2 ≤ 2 ^ 340) ∧ rD (r ++ [(c, t)]) = rD r ++ [.tup [.str [c], .int t]] := fun c t hc h0 h1 =>
        ⟨g.app fun q hq => by rcases List.mem_singleton.mp hq with rfl; exact ⟨hc, h0⟩, by simp [hl], fun q hq => by
          rcases List.mem_append.mp hq with hq | hq
          · exact hm q hq
          · rcases List.mem_singleton.mp hq with rfl
            exact h1, by simp [rD]⟩
      by_cases cf : 6 < f
      · obtain ⟨v, S4, e5, v0, v1, P4⟩ := draw_ok P3 (by omega) (p := 3) (by decide) (by decide)
        by_cases cv : v = 0
        · obtain ⟨b, S5, e6, b0, bb, P5⟩ := great_ok P4 (by omega) (f := f) (by omega) (by omega)
          obtain ⟨c, S6, e7, hc, P6⟩ := pickS_ok P5 (by omega)
          have hb : b ≤ 2 ^ 340 := by
            have := bb.lt
            have e : ((2 ^ 340 : Nat) : Int) = 2 ^ 340 := by simp
            omega
          obtain ⟨z1, z2, z3, z4⟩ := fin c b hc b0 hb
          refine ⟨_, ⟨[.val (.cell 2), .val (.int 9), .val (.int f), .ol (rD (r ++ [(c, b)])), .val (.int (0 + i)), .val (.int b)], S6⟩, rfl, .inl ?_, ⟨_, _, _, rfl, z1, z2, z3⟩, P6.mono (by omega)⟩
          rw [z4]
          generalize rD r = A at *
          simp [w__law_pairs_0, e3, e4, cf, e5, cv, e6, e7, sm]
        · obtain ⟨c, S6, e7, hc, P6⟩ := pickS_ok P4 (by omega)
          obtain ⟨z1, z2, z3, z4⟩ := fin c t hc t0 (by omega)
          refine ⟨_, ⟨[.val (.cell 2), .val (.int 9), .val (.int f), .ol (rD (r ++ [(c, t)])), .val (.int (0 + i)), .val (.int t)], S6⟩, rfl, .inl ?_, ⟨_, _, _, rfl, z1, z2, z3⟩, P6.mono (by omega)⟩
          rw [z4]
          generalize rD r = A at *
          simp [w__law_pairs_0, e3, e4, cf, e5, cv, e7, sm]
      · obtain ⟨c, S6, e7, hc, P6⟩ := pickS_ok P3 (by omega)
        obtain ⟨z1, z2, z3, z4⟩ := fin c t hc t0 (by omega)
        refine ⟨_, ⟨[.val (.cell 2), .val (.int 9), .val (.int f), .ol (rD (r ++ [(c, t)])), .val (.int (0 + i)), .val (.int t)], S6⟩, rfl, .inl ?_, ⟨_, _, _, rfl, z1, z2, z3⟩, P6.mono (by omega)⟩
        rw [z4]
        generalize rD r = A at *
        simp [w__law_pairs_0, e3, e4, cf, e7, sm])
  obtain ⟨sl, st⟩ := s'
  simp only at hs hP
  subst hs
  rw [rngL_len] at hl hP
  refine ⟨r, st, ?_, g, by omega, hm, hP.mono (by omega)⟩
  have q : -4611686018427387904 ≤ c ∧ c < 4611686018427387904 := by omega
  generalize rD r = A at *
  simp [g__law_pairs, b__law_pairs, fnD, e1, hk1, q, e2]
theorem wf_mg {n : Nat} {r : Runs} (g : Good r) (hb : Bd (len r) n) (hl : r.length ≤ 10000) : Wf n (mg r) :=
  ⟨(mg_neat g).good, by rw [mg_len g]; exact hb, Nat.le_trans (mg_cnt r) (Nat.le_trans (cnt_le r) hl)⟩
/-! ### the walk of pairs -/
def txt (r : Runs) : List Nat := (r.map fun q => (List.replicate q.2.toNat [q.1]).flatten).flatten
theorem txt_isL {r : Runs} (g : Good r) : ∀ c ∈ txt r, isL c := fun c hc => by
  unfold txt at hc
  simp only [List.mem_flatten, List.mem_map] at hc
  obtain ⟨l, ⟨q, hq, rfl⟩, hc⟩ := hc
  simp only [List.mem_flatten, List.mem_replicate] at hc
  obtain ⟨l, ⟨_, rfl⟩, hc⟩ := hc
  rw [List.mem_singleton.mp hc]
  exact (g q hq).1
theorem txt_len : ∀ {r : Runs}, Good r → ((txt r).length : Int) = len r
  | [], _ => rfl
  | q :: r, g => by
    have h1 := txt_len g.tail
    have h0 := g.head.2
    have e : txt (q :: r) = (List.replicate q.2.toNat [q.1]).flatten ++ txt r := rfl
    rw [e, List.length_append]
    have : (List.replicate q.2.toNat [q.1]).flatten.length = q.2.toNat := by simp
    rw [this]
    show _ = q.2 + len r
    omega
theorem txt_eqv : ∀ {r : Runs}, Good r → Eqv (ones (txt r)) r
  | [], _ => .refl _
  | q :: r, g => by
    have e : txt (q :: r) = (List.replicate q.2.toNat [q.1]).flatten ++ txt r := rfl
    have e2 : ones ((List.replicate q.2.toNat [q.1]).flatten) = List.replicate q.2.toNat (q.1, 1) := by
      have : (List.replicate q.2.toNat [q.1]).flatten = List.replicate q.2.toNat q.1 := by
        induction q.2.toNat with
        | zero => rfl
        | succ n ih => rw [List.replicate_succ, List.flatten_cons, ih, List.replicate_succ]; rfl
      rw [this, ones, List.map_replicate]
    rw [e, ones, List.map_append]
    have h := Eqv.app (ones_eqv q.1 q.2.toNat) (txt_eqv g.tail)
    rw [← e2, show ((q.2.toNat : Nat) : Int) = q.2 by have := g.head.2; omega] at h
    exact h
theorem walk_ok {n : Nat} {S : List Cell} {r : Runs} (hS : Pen n S) (hn : n + 5 < 2 ^ 20) (g : Good r) (hl : r.length ≤ 1000) : ∃ S', g__law_walk [.cell 2, .lst (rD r)] S = .ok (wk (mg r)) S' ∧ Pen (n + 2) S' := by
  have sm : ∀ S : List Cell, aLc [3, 4] (itSeq (eVar 1)) (gT 2 (gsCons (gN 3) (gsCons (gN 4) (gsNil)))) bYes e__law_walk_0 ⟨[.val (.cell 2), .val (.lst (rD r)), .un, .un, .un, .un], S⟩ = .ok (r.map fun q => D.int q.2) ⟨[.val (.cell 2), .val (.lst (rD r)), .un, .un, .un, .un], S⟩ := fun S => by
    have e1 := aLc_map (vs := [3, 4]) (it := itSeq (eVar 1)) (g := gT 2 (gsCons (gN 3) (gsCons (gN 4) (gsNil)))) (e := e__law_walk_0) (s := ⟨[.val (.cell 2), .val (.lst (rD r)), .un, .un, .un, .un], S⟩) (s0 := ⟨[.val (.cell 2), .val (.lst (rD r)), .un, .un, .un, .un], S⟩) (items := rD r)
      (fun z => match z with | .tup [_, t] => t | z => z) (by simp) (fun z hz => by
        obtain ⟨q, hq, rfl⟩ := List.mem_map.mp hz
        exact ⟨⟨[.val (.cell 2), .val (.lst (rD r)), .un, .val (.str [q.1]), .val (.int q.2), .un], S⟩, ⟨[.val (.cell 2), .val (.lst (rD r)), .un, .val (.str [q.1]), .val (.int q.2), .un], S⟩, by simp, by simp [e__law_walk_0], by simp⟩) (by simp; omega)
    rw [List.map_map] at e1
    have e2 : List.map ((fun z => match z with | .tup [_, t] => t | z => z) ∘ qD) r = r.map fun q => D.int q.2 := rfl
    rw [e2] at e1
    simpa [-r_aLc] using e1
  have su := sum_times r
  have ll := fun S : List Cell => (show aLc [5] (itSeq (eVar 1)) (gN 5) bYes e__law_walk_2 ⟨[.val (.cell 2), .val (.lst (rD r)), .val (.int (len r)), .un, .un, .un], S⟩ = .ok (r.map qL) ⟨[.val (.cell 2), .val (.lst (rD r)), .val (.int (len r)), .un, .un, .un], S⟩ from by
    have e1 := aLc_map (vs := [5]) (it := itSeq (eVar 1)) (g := gN 5) (e := e__law_walk_2) (s := ⟨[.val (.cell 2), .val (.lst (rD r)), .val (.int (len r)), .un, .un, .un], S⟩) (s0 := ⟨[.val (.cell 2), .val (.lst (rD r)), .val (.int (len r)), .un, .un, .un], S⟩) (items := rD r)
      (fun z => match z with | .tup xs => .lst xs | z => z) (by simp) (fun z hz => by
        obtain ⟨q, hq, rfl⟩ := List.mem_map.mp hz
        exact ⟨⟨[.val (.cell 2), .val (.lst (rD r)), .val (.int (len r)), .un, .un, .val (qD q)], S⟩, ⟨[.val (.cell 2), .val (.lst (rD r)), .val (.int (len r)), .un, .un, .val (qD q)], S⟩, by simp, by simp [e__law_walk_2], by simp⟩) (by simp; omega)
    rw [List.map_map] at e1
    have e2 : List.map ((fun z => match z with | .tup xs => .lst xs | z => z) ∘ qD) r = r.map qL := rfl
    rw [e2] at e1
    simpa [-r_aLc] using e1)
  have t2 := fun S => winit_of _ _ S (told_ll r S g (by omega)) g (by omega)
  have t3 := fun S => winit_of _ _ S (told_of (.lst (rD r)) r S (.inl rfl) g (by omega)) g (by omega)
  have rest : ∀ {S0 : List Cell} {k : Nat}, Pen k S0 → k + 2 < 2 ^ 20 → ∃ S1 b, g__law_draw [.cell 2, .int 2] S0 = .ok (.int b) S1 ∧ Pen (k + 1) S1 := fun hP hk => by
    obtain ⟨b, S1, e, _, _, P⟩ := draw_ok hP (by omega) (p := 2) (by decide) (by decide)
    exact ⟨S1, b, e, P⟩
  by_cases c : len r < 200
  · have tx : ∀ S : List Cell, aLc [3, 4] (itSeq (eVar 1)) (gT 2 (gsCons (gN 3) (gsCons (gN 4) (gsNil)))) bYes e__law_walk_1 ⟨[.val (.cell 2), .val (.lst (rD r)), .val (.int (len r)), .un, .un, .un], S⟩ = .ok (r.map fun q => D.str (List.replicate q.2.toNat [q.1]).flatten) ⟨[.val (.cell 2), .val (.lst (rD r)), .val (.int (len r)), .un, .un, .un], S⟩ := fun S => by
      have e1 := aLc_map (vs := [3, 4]) (it := itSeq (eVar 1)) (g := gT 2 (gsCons (gN 3) (gsCons (gN 4) (gsNil)))) (e := e__law_walk_1) (s := ⟨[.val (.cell 2), .val (.lst (rD r)), .val (.int (len r)), .un, .un, .un], S⟩) (s0 := ⟨[.val (.cell 2), .val (.lst (rD r)), .val (.int (len r)), .un, .un, .un], S⟩) (items := rD r)
        (fun z => match z with | .tup [.str l, .int t] => .str (List.replicate t.toNat l).flatten | z => z) (by simp) (fun z hz => by
          obtain ⟨q, hq, rfl⟩ := List.mem_map.mp hz
          have q0 := (g q hq).2
          have q1 := le_len g q hq
          have q2 : (-100000 ≤ q.2) = True := eq_true (by omega)
          have q3 : (q.2 ≤ 100000) = True := eq_true (by omega)
          exact ⟨⟨[.val (.cell 2), .val (.lst (rD r)), .val (.int (len r)), .val (.str [q.1]), .val (.int q.2), .un], S⟩, ⟨[.val (.cell 2), .val (.lst (rD r)), .val (.int (len r)), .val (.str [q.1]), .val (.int q.2), .un], S⟩, by simp, by simp [e__law_walk_1, q2, q3], by simp⟩) (by simp; omega)
      rw [List.map_map] at e1
      have e2 : List.map ((fun z => match z with | .tup [.str l, .int t] => .str (List.replicate t.toNat l).flatten | z => z) ∘ qD) r = r.map fun q => D.str (List.replicate q.2.toNat [q.1]).flatten := rfl
      rw [e2] at e1
      simpa [-r_aLc] using e1
    have tl := txt_len g
    have jn := join_map (fun q : Nat × Int => (List.replicate q.2.toNat [q.1]).flatten) r (by show (txt r).length ≤ 10000; omega)
    have jn : mJoin (.str []) [.lst (r.map fun q => D.str (List.replicate q.2.toNat [q.1]).flatten)] = some (.str (txt r)) := jn
    have t1 := fun S => winit_of _ _ S (told_str (txt r) S (txt_isL g) (by omega)) (ones_good (txt_isL g)) (by simp; omega)
    obtain ⟨S1, b, e1, P1⟩ := rest hS (by omega)
    by_cases cb : b = 0
    · refine ⟨S1, ?_, P1.mono (by omega)⟩
      rw [← (txt_eqv g).mg]
      have sm1 := sm S
      have tx1 := tx S1
      have t11 := t1 S1
      generalize mg (ones (txt r)) = R at *
      generalize txt r = T at *
      generalize (r.map fun q => D.str (List.replicate q.2.toNat [q.1]).flatten) = M1 at *
      generalize (r.map fun q => D.int q.2) = M2 at *
      simp [-r_aLc, -r_mJoin, g__law_walk, b__law_walk, fnD, sm1, su, c, e1, cb, tx1, jn, t11]
    · obtain ⟨S2, b2, e2, P2⟩ := rest P1 (by omega)
      by_cases cb2 : b2 = 0
      · refine ⟨S2, ?_, P2⟩
        have sm1 := sm S
        have l1 := ll S2
        have t21 := t2 S2
        generalize mg r = R at *
        generalize (r.map qL) = M1 at *
        generalize (r.map fun q => D.int q.2) = M2 at *
        simp [-r_aLc, -r_mJoin, g__law_walk, b__law_walk, fnD, sm1, su, c, e1, cb, e2, cb2, l1, t21]
      · refine ⟨S2, ?_, P2⟩
        have sm1 := sm S
        have t31 := t3 S2
        generalize mg r = R at *
        generalize (r.map fun q => D.int q.2) = M2 at *
        simp [-r_aLc, -r_mJoin, g__law_walk, b__law_walk, fnD, sm1, su, c, e1, cb, e2, cb2, t31]
  · obtain ⟨S2, b2, e2, P2⟩ := rest hS (by omega)
    by_cases cb2 : b2 = 0
    · refine ⟨S2, ?_, P2.mono (by omega)⟩
      have sm1 := sm S
      have l1 := ll S2
      have t21 := t2 S2
      generalize mg r = R at *
      generalize (r.map qL) = M1 at *
      generalize (r.map fun q => D.int q.2) = M2 at *
      simp [-r_aLc, -r_mJoin, g__law_walk, b__law_walk, fnD, sm1, su, c, e2, cb2, l1, t21]
    · refine ⟨S2, ?_, P2.mono (by omega)⟩
      have sm1 := sm S
      have t31 := t3 S2
      generalize mg r = R at *
      generalize (r.map fun q => D.int q.2) = M2 at *
      simp [-r_aLc, -r_mJoin, g__law_walk, b__law_walk, fnD, sm1, su, c, e2, cb2, t31]
end W_k10
set_option maxRecDepth 100000
set_option maxHeartbeats 4000000
set_option exponentiation.threshold 4000
namespace W_k10
open DL ST
/-! ### pairs put together by the law -/
theorem runs_gen (d : D) (r : Runs) (S : List Cell) (hd : itemsD d = some (rD r)) (g : Good r) (hl : r.length ≤ 100000) : g__law_runs_of [d] S = .ok (.tup (rD (mg r))) S := by
  obtain ⟨s', e, ⟨y2, y3, hs⟩, hS⟩ := for_inv (g := gT 2 (gsCons (gN 2) (gsCons (gN 3) gsNil))) (b := w__law_runs_of_0) (items := rD r) (s := ⟨[.val d, .ol [], .un, .un], S⟩)
    (fun i s => (∃ y2 y3, s.sl = [.val d, .ol (rD ((r.take i).foldl mgStep [])), y2, y3]) ∧ s.st = S ∧ ((r.take i).foldl mgStep []).length ≤ i) ⟨⟨_, _, rfl⟩, rfl, Nat.le_refl _⟩ (fun i x s hi hp => by
      obtain ⟨⟨y2, y3, hs⟩, hS, hlen⟩ := hp
      obtain ⟨sl, st⟩ := s
      simp only at hs hS
      subst hs hS
      rw [List.getElem?_map, Option.map_eq_some_iff] at hi
      obtain ⟨q, hq, rfl⟩ := hi
      have hg := g q (List.mem_of_getElem? hq)
      have hlt := isL_lt hg.1
      have hi : i < r.length := (List.getElem?_eq_some_iff.mp hq).1
      refine ⟨DS.mk [.val d, .ol (rD ((r.take i).foldl mgStep [])), .val (.str [q.1]), .val (.int q.2)] st, DS.mk [.val d, .ol (rD ((r.take (i + 1)).foldl mgStep [])), .val (.str [q.1]), .val (.int q.2)] st, by simp, .inl ?_, ⟨_, _, rfl⟩, rfl, ?_⟩
      · rw [take_snoc hq, List.foldl_append]
        show _ = Res.ok Out.nx (DS.mk [.val d, .ol (rD (mgStep ((r.take i).foldl mgStep []) q)), .val (.str [q.1]), .val (.int q.2)] st)
        have nt := (fold_ok home (r.take i) [] (fun p hp => g p (List.mem_of_mem_take hp)) trivial).1
        generalize (r.take i).foldl mgStep [] = acc at *
        by_cases c : 0 < q.2
        · have hpl : ∀ q ∈ acc, q.1 < 1114112 := fun q hq => isL_lt (nt.good q hq).1
          unfold mgStep
          have small : acc.length < 1000000 := by omega
          cases hl : acc.getLast? with
          | none =>
            have : acc = [] := List.getLast?_eq_none_iff.mp hl
            subst this
            simp [w__law_runs_of_0, c]
          | some l =>
            rw [List.getLast?_eq_some_iff] at hl
            obtain ⟨ys, rfl⟩ := hl
            have hl2 : isL l.1 := (neat_app nt).2.1
            have hlt2 := isL_lt hl2
            have a1 := at_neg1 (rD ys) (qD l)
            have a2 : L2.ixN (ys.length + 1) (-1) = some ys.length := by rw [ixN_last (by omega)]; rfl
            have pf : plFs (rD ys ++ [qD l]) := by
              have := plFs_rD (ys ++ [l]) hpl
              rwa [rD, List.map_append] at this
            have hne2 : eqPls (rD ys ++ [qD l]) [] = false := by cases ys <;> simp
            have dn : dNe (.lst (rD ys ++ [qD l])) (.lst []) = some (.bl true) := by rw [dNe_ll _ _ pf (by simp), hne2]; rfl
            by_cases c1 : l.1 = q.1
            · simp [w__law_runs_of_0, a1, a2, c1, hlt, c, dn]
            · simp only [List.length_append, List.length_cons, List.length_nil] at small
              simp [w__law_runs_of_0, a1, c1, hlt, hlt2, c, small, dn]
        · have z : q.2 = 0 := by omega
          have e0 : mgStep acc q = acc := by
            have := mgStep_zero acc q.1
            rwa [← z] at this
          rw [e0]
          simp [w__law_runs_of_0, c]
      · rw [take_snoc hq, List.foldl_append]
        have := mgStep_len ((r.take i).foldl mgStep []) q
        show (mgStep _ q).length ≤ _
        omega)
  obtain ⟨sl, st⟩ := s'
  simp only at hs hS
  obtain ⟨rfl, hlen⟩ := hS
  subst hs
  rw [List.length_map, List.take_length] at e
  simp [g__law_runs_of, b__law_runs_of, fnD, hd, e]
  rfl
theorem Pen.tabs {n : Nat} {S : List Cell} (h : Pen n S) : S[0]? = some (.tab "_law_bounds_right") ∧ S[1]? = some (.tab "law") := by
  obtain ⟨cs, c, l, rfl, _⟩ := h
  exact ⟨rfl, rfl⟩
theorem Pen.noLam {n : Nat} {S : List Cell} (h : Pen n S) : noLamS S = true := by
  obtain ⟨cs, c, l, rfl, _⟩ := h
  simp [noLamS, noLamC, noLamK, DL.noLam, noLams_int]
/-! ### a mark -/
theorem runs_refl {R : Runs} (g : Good R) : dNe (.tup (rD R)) (.tup (rD R)) = some (.bl false) := ne_refl (plFs_rD R fun q hq => isL_lt (g q hq).1)
theorem weq_ok {R : Runs} (g : Good R) (S : List Cell) : g_WalkX_eqX [wk R, wk R] S = .ok (.bl true) S := by
  have pf := plFs_rD R (fun q hq => isL_lt (g q hq).1)
  have h8 : dEq (.tup (rD R)) (.tup (rD R)) = some (.bl true) := by rw [dEq_tt _ _ pf pf, eqPls_refl _ pf.1]
  simp [g_WalkX_eqX, b_WalkX_eqX, fnD, List.lookup, h8]
theorem mg_few {r : Runs} {m : Nat} (h : r.length ≤ m) : (mg r).length ≤ m := Nat.le_trans (mg_cnt r) (Nat.le_trans (cnt_le r) h)
/-! ### a letter turned -/
theorem tl_ix (i : Nat) (hi : i < 4) (q : Int) : ∃ j : Nat, j < 4 ∧ ((i : Int) + q).fmod 4 = (j : Int) ∧ j = (i + qk q) % 4 := by
  have h1 := (qk_lt q).2
  have h3 := (qk_lt q).1
  rw [Int.fmod_eq_emod_of_nonneg _ (by decide)] at h1
  refine ⟨(i + qk q) % 4, by omega, ?_, rfl⟩
  rw [Int.fmod_eq_emod_of_nonneg _ (by decide)]
  omega
theorem four_at {j : Nat} (h : j < 4) : L2.atI [101, 110, 119, 115] (j : Int) = some (tq j 101) := by
  rcases four_cases h with rfl | rfl | rfl | rfl <;> rfl
theorem tq_ix (q : Int) {c : Nat} (h : isL c) : ∃ i : Nat, i < 4 ∧ L2.atI [101, 110, 119, 115] ((((i : Nat) : Int) + q).fmod 4) = some (tq (qk q) c) ∧ (c = 101 ∧ i = 0 ∨ c = 110 ∧ i = 1 ∨ c = 119 ∧ i = 2 ∨ c = 115 ∧ i = 3) := by
  have key : ∀ i : Nat, i < 4 → L2.atI [101, 110, 119, 115] ((((i : Nat) : Int) + q).fmod 4) = some (tq ((i + qk q) % 4) 101) := fun i hi => by
    obtain ⟨j, hj, e, rfl⟩ := tl_ix i hi q
    rw [e, four_at hj]
  have h3 := (qk_lt q).1
  rcases h with rfl | rfl | rfl | rfl
  · refine ⟨0, by decide, ?_, by simp⟩
    rw [key 0 (by decide)]
    rcases four_cases h3 with e | e | e | e <;> rw [e] <;> rfl
  · refine ⟨1, by decide, ?_, by simp⟩
    rw [key 1 (by decide)]
    rcases four_cases h3 with e | e | e | e <;> rw [e] <;> rfl
  · refine ⟨2, by decide, ?_, by simp⟩
    rw [key 2 (by decide)]
    rcases four_cases h3 with e | e | e | e <;> rw [e] <;> rfl
  · refine ⟨3, by decide, ?_, by simp⟩
    rw [key 3 (by decide)]
    rcases four_cases h3 with e | e | e | e <;> rw [e] <;> rfl
theorem ix_four : PySem.Txt.index0 (nm [101, 110, 119, 115]) (nm [101]) = some 0 ∧ PySem.Txt.index0 (nm [101, 110, 119, 115]) (nm [110]) = some 1 ∧ PySem.Txt.index0 (nm [101, 110, 119, 115]) (nm [119]) = some 2 ∧ PySem.Txt.index0 (nm [101, 110, 119, 115]) (nm [115]) = some 3 := ⟨by kernel_rfl, by kernel_rfl, by kernel_rfl, by kernel_rfl⟩
theorem turned_letter_ok (c : Nat) (q : Int) (S : List Cell) (h : isL c) : g_turned_letter [.str [c], .int q] S = .ok (.str [tq (qk q) c]) S := by
  obtain ⟨i, hi, e, hc⟩ := tq_ix q h
  obtain ⟨i1, i2, i3, i4⟩ := ix_four
  generalize tq (qk q) c = d at *
  rcases hc with ⟨rfl, rfl⟩ | ⟨rfl, rfl⟩ | ⟨rfl, rfl⟩ | ⟨rfl, rfl⟩ <;> (try simp only [Int.natCast_zero, Int.natCast_one, Int.cast_ofNat_Int, Int.zero_add] at e) <;> simp [g_turned_letter, b_turned_letter, fnD, ixD, i1, i2, i3, i4, e]
end W_k10
set_option maxRecDepth 100000
set_option maxHeartbeats 4000000
set_option exponentiation.threshold 4000
namespace W_k10
open DL ST
/-! ### a walk turned, mirrored -/
theorem winit_wk {r : Runs} (S : List Cell) (g : Good r) (hl : r.length ≤ 10000) (d : D) (hd : d = .lst (rD r) ∨ d = .tup (rD r)) : g_WalkX_initX [d] S = .ok [([114, 117, 110, 115], .tup (rD (mg r)))] S := winit_ok d r S hd g hl
theorem turned_ok {R : Runs} (g : Good R) (hl : R.length ≤ 10000) (q : Int) (S : List Cell) : g_Walk_turned [wk R, .int q] S = .ok (wk (mg (mp (tq (qk q)) R))) S := by
  have e1 := aLc_map (vs := [2, 3]) (it := itSeq (eFld ["Walk"] [114, 117, 110, 115] (eVar 0))) (g := gT 2 (gsCons (gN 2) (gsCons (gN 3) (gsNil)))) (e := e_Walk_turned_0) (s := ⟨[.val (wk R), .val (.int q), .un, .un], S⟩) (s0 := ⟨[.val (wk R), .val (.int q), .un, .un], S⟩) (items := rD R)
    (fun z => match z with | .tup [.str [c], t] => .tup [.str [tq (qk q) c], t] | z => z) (by simp) (fun z hz => by
      obtain ⟨p, hp, rfl⟩ := List.mem_map.mp hz
      have ht := turned_letter_ok p.1 q S (g p hp).1
      exact ⟨⟨[.val (wk R), .val (.int q), .val (.str [p.1]), .val (.int p.2)], S⟩, ⟨[.val (wk R), .val (.int q), .val (.str [p.1]), .val (.int p.2)], S⟩, by simp, by simp [e_Walk_turned_0, ht], by simp⟩) (by simp; omega)
  rw [show (rD R).map (fun z => match z with | .tup [.str [c], t] => .tup [.str [tq (qk q) c], t] | z => z) = rD (mp (tq (qk q)) R) by simp only [rD, mp, List.map_map]; rfl] at e1
  have e2 := winit_wk S (good_tq (qk q) g) (by simpa [mp] using hl) (.lst (rD (mp (tq (qk q)) R))) (.inl rfl)
  generalize rD (mp (tq (qk q)) R) = L at *
  generalize mg (mp (tq (qk q)) R) = M at *
  simp [-r_aLc] at e1
  simp [-r_aLc, g_Walk_turned, b_Walk_turned, fnD, List.lookup, e1, e2]
theorem sw1_get (c : Nat) (h : isL c) : ((dLook [(DK.s [101], D.str [119]), (DK.s [119], D.str [101])] (DK.s [c])).getD (.str [c])) = .str [sw1 c] := by
  rcases h with rfl | rfl | rfl | rfl <;> rfl
theorem sw1_nd : keysNd [(DK.s [101], D.str [119]), (DK.s [119], D.str [101])] = true := rfl
theorem mirrored_ok {R : Runs} (g : Good R) (hl : R.length ≤ 10000) (S : List Cell) : g_Walk_mirrored [wk R] S = .ok (wk (mg (mp sw1 R))) S := by
  have e1 := aLc_map (vs := [1, 2]) (it := itSeq (eFld ["Walk"] [114, 117, 110, 115] (eVar 0))) (g := gT 2 (gsCons (gN 1) (gsCons (gN 2) (gsNil)))) (e := e_Walk_mirrored_0) (s := ⟨[.val (wk R), .un, .un], S⟩) (s0 := ⟨[.val (wk R), .un, .un], S⟩) (items := rD R)
    (fun z => match z with | .tup [.str [c], t] => .tup [.str [sw1 c], t] | z => z) (by simp) (fun z hz => by
      obtain ⟨p, hp, rfl⟩ := List.mem_map.mp hz
      have ht := sw1_get p.1 (g p hp).1
      exact ⟨⟨[.val (wk R), .val (.str [p.1]), .val (.int p.2)], S⟩, ⟨[.val (wk R), .val (.str [p.1]), .val (.int p.2)], S⟩, by simp, by simp [e_Walk_mirrored_0, kOf, dictOf, ht, sw1_nd], by simp⟩) (by simp; omega)
  rw [show (rD R).map (fun z => match z with | .tup [.str [c], t] => .tup [.str [sw1 c], t] | z => z) = rD (mp sw1 R) by simp only [rD, mp, List.map_map]; rfl] at e1
  have e2 := winit_wk S (good_mp isL_sw1 g) (by simpa [mp] using hl) (.lst (rD (mp sw1 R))) (.inl rfl)
  generalize rD (mp sw1 R) = L at *
  generalize mg (mp sw1 R) = M at *
  simp [-r_aLc] at e1
  simp [-r_aLc, g_Walk_mirrored, b_Walk_mirrored, fnD, List.lookup, e1, e2]
/-! ### a walk repeated -/
theorem empty_ok (S : List Cell) : g_WalkX_initX [.lst []] S = .ok [([114, 117, 110, 115], .tup [])] S := by
  have := winit_wk (r := []) S (fun _ h => (nomatch h)) (by decide) (.lst (rD [])) (.inl rfl)
  exact this
theorem rep0_ok {R : Runs} (S : List Cell) : g_Walk_repeated [wk R, .int 0] S = .ok (wk []) S := by
  have e := empty_ok S
  generalize rD R = L at *
  simp [g_Walk_repeated, b_Walk_repeated, fnD, List.lookup, e]
theorem repE_ok (n : Nat) (S : List Cell) : g_Walk_repeated [wk [], .int n] S = .ok (wk []) S := by
  have e := empty_ok S
  by_cases h : (n : Int) = 0 <;> simp [g_Walk_repeated, b_Walk_repeated, fnD, List.lookup, e, h]
theorem rep1_ok (c : Nat) (t : Int) (n : Nat) (S : List Cell) (h : isL c) (ht : 0 ≤ t) (hm : mulOk t n = true) (hn : 1 ≤ n) : g_Walk_repeated [wk [(c, t)], .int n] S = .ok (wk (mg [(c, t * n)])) S := by
  have e := winit_wk (r := [(c, t * n)]) S (fun z hz => by simp at hz; subst hz; exact ⟨h, Int.mul_nonneg ht (by omega)⟩) (by simp) (.lst (rD [(c, t * n)])) (.inl rfl)
  have nz : ¬ ((n : Int) = 0) := by omega
  have nz2 : n ≠ 0 := by omega
  generalize mg [(c, t * n)] = M at *
  simp at e
  simp [g_Walk_repeated, b_Walk_repeated, fnD, List.lookup, nz, nz2, hm, e, ixD]
theorem at_snoc (q l : Nat × Int) (M : Runs) : L2.atI (rD (q :: M ++ [l])) 0 = some (qD q) ∧ L2.atI (rD (q :: M ++ [l])) (-1) = some (qD l) ∧ (rD (q :: M ++ [l])).length = M.length + 2 := by
  refine ⟨L2.atI_nat (j := 0) rfl, ?_, by simp⟩
  have := at_neg1 (rD (q :: M)) (qD l)
  rwa [← show rD (q :: M ++ [l]) = rD (q :: M) ++ [qD l] by simp] at this
theorem repM_ev (A L T : List D) (a b : Nat) (t u n K J : Int) (S : List Cell) (ha : a < 1114112) (hb : b < 1114112) (ne : A.isEmpty = false) (a0 : L2.atI A 0 = some (.tup [.str [a], .int t])) (a1 : L2.atI A (-1) = some (.tup [.str [b], .int u])) (hK : bLen [.tup A] = some (.int K)) (nz : (n = 0) = False) (n0 : (n < 0) = False) (ne2 : A ≠ []) (nt : (K = 1) = False) (mo : mulOk K n = true) (hJ : J = if a = b then n - 1 else 0) (hm : (10000 < K * n - J) = False)
    (e3 : tMul (.tup A) (.int n) = some (.tup L)) (e1 : g_merged [.tup L] S = .ok (.tup T) S) (e2 : g_WalkX_initX [.tup T] S = .ok [([114, 117, 110, 115], .tup T)] S) :
    g_Walk_repeated [.ins "Walk" [([114, 117, 110, 115], .tup A)], .int n] S = .ok (.ins "Walk" [([114, 117, 110, 115], .tup T)]) S := by
  by_cases c : a = b
  · rw [if_pos c] at hJ
    subst c hJ
    simp [-r_bLen_t, -r_tMul, g_Walk_repeated, b_Walk_repeated, fnD, List.lookup, nz, n0, nt, ne, ne2, hK, a0, a1, ha, ixD, mo, hm, e3, e1, e2]
  · rw [if_neg c] at hJ
    subst hJ
    simp only [Int.sub_zero] at hm
    simp [-r_bLen_t, -r_tMul, g_Walk_repeated, b_Walk_repeated, fnD, List.lookup, nz, n0, nt, ne, ne2, hK, a0, a1, ha, hb, c, ixD, mo, hm, e3, e1, e2]
theorem repM_ok (q l : Nat × Int) (M : Runs) (n : Nat) (S : List Cell) (g : Good (q :: M ++ [l])) (hn : 1 ≤ n) (hb : ((M.length + 2 : Nat) : Int) * n - (if q.1 = l.1 then (n : Int) - 1 else 0) ≤ 10000) (hs : (M.length + 2) * n ≤ 30000) (hlen : (mg (rep (q :: M ++ [l]) n)).length ≤ 10000) :
    g_Walk_repeated [wk (q :: M ++ [l]), .int n] S = .ok (wk (mg (rep (q :: M ++ [l]) n))) S := by
  obtain ⟨a0, a1, al⟩ := at_snoc q l M
  have gr := rep_good g n
  have k1 : n ≤ 30000 := Nat.le_trans (Nat.le_mul_of_pos_left n (by omega)) hs
  have k2 : M.length + 2 ≤ 30000 := Nat.le_trans (Nat.le_mul_of_pos_right (M.length + 2) hn) hs
  have e1 := merged_ok (.tup (rD (rep (q :: M ++ [l]) n))) (rep (q :: M ++ [l]) n) S rfl gr (by rw [rep_length, show (q :: M ++ [l]).length = M.length + 2 by simp, Nat.mul_comm]; omega)
  have e2 := winit_wk (r := mg (rep (q :: M ++ [l]) n)) S (mg_neat gr).good hlen (.tup (rD (mg (rep (q :: M ++ [l]) n)))) (.inr rfl)
  rw [mg_mg gr] at e2
  have e3 : tMul (.tup (rD (q :: M ++ [l]))) (.int n) = some (.tup (rD (rep (q :: M ++ [l]) n))) := by
    rw [r_tMul, if_pos ⟨by omega, by omega, by rw [al]; simp; omega⟩]
    simp only [rep, rD, List.map_flatten, List.map_replicate, Int.toNat_natCast]
  have mo : mulOk ((M.length + 2 : Nat) : Int) n = true := mulOk_of (m := 20) (n := 20) ⟨by omega⟩ ⟨by omega⟩ (by decide)
  exact repM_ev (rD (q :: M ++ [l])) _ _ q.1 l.1 q.2 l.2 n ((M.length + 2 : Nat) : Int) _ S (isL_lt (g q (by simp)).1) (isL_lt (g l (by simp)).1) (by simp) a0 a1 (by rw [r_bLen_t, al]) (eq_false (by omega)) (eq_false (by omega)) (by simp) (eq_false (by omega)) mo rfl (eq_false (by omega)) e3 e1 e2
theorem two_ends {r : Runs} (h : 2 ≤ r.length) : ∃ q l M, r = q :: M ++ [l] := by
  cases r with
  | nil => simp at h
  | cons q r =>
    have hr : r ≠ [] := fun e => by subst e; simp at h
    exact ⟨q, r.getLast hr, r.dropLast, by rw [List.cons_append, List.dropLast_concat_getLast hr]⟩
/-- a walk of few runs, so many times -/
theorem repeated_ok {R : Runs} (g : Good R) (n : Nat) (S : List Cell) (hb : R.length * n ≤ 10000) (hm : ∀ q ∈ R, mulOk q.2 n = true) : g_Walk_repeated [wk R, .int n] S = .ok (wk (mg (rep R n))) S := by
  rcases Nat.eq_zero_or_pos n with rfl | hn
  · exact rep0_ok S
  · by_cases h2 : 2 ≤ R.length
    · obtain ⟨q, l, M, rfl⟩ := two_ends h2
      have e : (q :: M ++ [l]).length = M.length + 2 := by simp
      rw [e] at hb
      refine repM_ok q l M n S g hn ?_ (by omega) ?_
      · have : (((M.length + 2) * n : Nat) : Int) ≤ 10000 := by omega
        rw [Int.natCast_mul] at this
        split <;> omega
      · refine Nat.le_trans (mg_few (m := n * (M.length + 2)) ?_) (by rw [Nat.mul_comm]; exact hb)
        rw [rep_length, e]; exact Nat.le_refl _
    · match R, h2, g, hm with
      | [], _, _, _ =>
        have e : rep [] n = [] := by simp [rep]
        rw [e]; exact repE_ok n S
      | [(c, t)], _, g, hm =>
        rw [rep1_ok c t n S (g (c, t) (by simp)).1 (g (c, t) (by simp)).2 (hm (c, t) (by simp)) hn, mg_one c (g (c, t) (by simp)).2]
      | _ :: _ :: _, h2, _, _ => exact absurd (by simp) h2
/-! ### powers of places -/
theorem below_ok (n : Int) (S : List Cell) (h : mulOk n (n - 1) = true) : g_pairs_below [.int n] S = .ok (.int ((n * (n - 1)).fdiv 2)) S := by
  have d2 : divOk 2 = true := by decide
  simp [g_pairs_below, b_pairs_below, fnD, h, d2]
theorem power_ok (p : Sp) (n : Int) (S : List Cell) (h : mulOk n (n - 1) = true) (h1 : mulOk n p.x = true) (h2 : mulOk n p.y = true) (h3 : mulOk n p.a = true) (h4 : mulOk ((n * (n - 1)).fdiv 2) p.x = true) (h5 : mulOk ((n * (n - 1)).fdiv 2 * p.x) p.y = true) : g_Place_power [plS p, .int n] S = .ok (plS (pwS p n)) S := by
  have e := below_ok n S h
  unfold pwS
  generalize (n * (n - 1)).fdiv 2 = c at *
  simp [g_Place_power, b_Place_power, fnD, List.lookup, e, h1, h2, h3, h4, h5]
end W_k10
set_option maxRecDepth 100000
set_option maxHeartbeats 4000000
set_option exponentiation.threshold 4000
namespace W_k10
open DL ST
/-! ### turned right -/
abbrev wq (A : List D) : D := .ins "Walk" [([114, 117, 110, 115], .tup A)]
theorem turned_mg {r : Runs} (g : Good r) (hl : r.length ≤ 1000) (q : Int) (S : List Cell) : g_Walk_turned [wk (mg r), .int q] S = .ok (wk (mg (mp (tq (qk q)) r))) S := by
  rw [turned_ok (mg_neat g).good (by have := mg_few hl; omega) q S, mg_turn (fun c d h k e => tq_inj _ h k e) (fun h => isL_tq _ h) g, mg_mp (fun c d h k e => tq_inj _ h k e) g]
theorem mirrored_mg {r : Runs} (g : Good r) (hl : r.length ≤ 1000) (S : List Cell) : g_Walk_mirrored [wk (mg r)] S = .ok (wk (mg (mp sw1 r))) S := by
  rw [mirrored_ok (mg_neat g).good (by have := mg_few hl; omega) S, mg_turn (fun c d h k e => sw1_inj h k e) (fun h => isL_sw1 h) g, mg_mp (fun c d h k e => sw1_inj h k e) g]
theorem four_ix (q : Int) : ((qk q : Nat) : Int) = q.fmod 4 := (qk_lt q).2
theorem ends_at (q : Int) (p : Sp) : L2.atI [D.tup [.int p.x, .int p.y], .tup [.int (-p.y), .int p.x], .tup [.int (-p.x), .int (-p.y)], .tup [.int p.y, .int (-p.x)]] (q.fmod 4) = some (.tup [.int (rq (qk q) p).x, .int (rq (qk q) p).y]) := by
  rw [← four_ix]
  obtain ⟨a1, a2, a3, a4, a5, a6, a7, a8, _⟩ := rq_xy p
  rcases four_cases (qk_lt q).1 with e | e | e | e <;> rw [e]
  · rw [a1, a2]; rfl
  · rw [a3, a4]; rfl
  · rw [a5, a6]; rfl
  · rw [a7, a8]; rfl
theorem ground_ok (p : Sp) (S : List Cell) (h : mulOk p.x p.y = true) (h2 : mulOk 2 p.a = true) : g__law_ground [plS p] S = .ok (.int (gr p)) S := by
  unfold gr
  simp [g__law_ground, b__law_ground, fnD, List.lookup, h, h2]
theorem due_ok {r : Runs} {q : Int} {x0 x1 x4 x5 x6 x7 x8 x9 x10 : Sl} {S : List Cell} (g : Good r) (hl : r.length ≤ 1000) : aLc [11, 12] (itSeq (eVar 2)) (gT 2 (gsCons (gN 11) (gsCons (gN 12) (gsNil)))) bYes e__law_turned_right_0 ⟨[x0, x1, .val (.lst (rD r)), .val (.int q), x4, x5, x6, x7, x8, x9, x10, .un, .un], S⟩ = .ok (rD (mp (tq (qk q)) r)) ⟨[x0, x1, .val (.lst (rD r)), .val (.int q), x4, x5, x6, x7, x8, x9, x10, .un, .un], S⟩ := by
  have e1 := aLc_map (vs := [11, 12]) (it := itSeq (eVar 2)) (g := gT 2 (gsCons (gN 11) (gsCons (gN 12) (gsNil)))) (e := e__law_turned_right_0) (s := ⟨[x0, x1, .val (.lst (rD r)), .val (.int q), x4, x5, x6, x7, x8, x9, x10, .un, .un], S⟩) (s0 := ⟨[x0, x1, .val (.lst (rD r)), .val (.int q), x4, x5, x6, x7, x8, x9, x10, .un, .un], S⟩) (items := rD r)
    (fun z => match z with | .tup [.str [c], t] => .tup [.str [tq (qk q) c], t] | z => z) (by simp) (fun z hz => by
      obtain ⟨p, hp, rfl⟩ := List.mem_map.mp hz
      obtain ⟨i, hi, e, hc⟩ := tq_ix q (g p hp).1
      obtain ⟨i1, i2, i3, i4⟩ := ix_four
      obtain ⟨c, t⟩ := p
      simp only at e hc
      refine ⟨⟨[x0, x1, .val (.lst (rD r)), .val (.int q), x4, x5, x6, x7, x8, x9, x10, .val (.str [c]), .val (.int t)], S⟩, ⟨[x0, x1, .val (.lst (rD r)), .val (.int q), x4, x5, x6, x7, x8, x9, x10, .val (.str [c]), .val (.int t)], S⟩, by simp, ?_, by simp⟩
      show _ = Res.ok (D.tup [D.str [tq (qk q) c], D.int t]) _
      generalize tq (qk q) c = d at *
      rcases hc with ⟨rfl, rfl⟩ | ⟨rfl, rfl⟩ | ⟨rfl, rfl⟩ | ⟨rfl, rfl⟩ <;> (try simp only [Int.natCast_zero, Int.natCast_one, Int.cast_ofNat_Int, Int.zero_add] at e) <;> simp [e__law_turned_right_0, ixD, i1, i2, i3, i4, e]) (by simp; omega)
  rw [show (rD r).map (fun z => match z with | .tup [.str [c], t] => .tup [.str [tq (qk q) c], t] | z => z) = rD (mp (tq (qk q)) r) by simp only [rD, mp, List.map_map]; rfl] at e1
  generalize rD (mp (tq (qk q)) r) = L at *
  simpa [-r_aLc] using e1
theorem mir_ok {r : Runs} {x0 x1 x3 x4 x5 x6 x7 x8 x9 x10 : Sl} {S : List Cell} (g : Good r) (hl : r.length ≤ 1000) : aLc [11, 12] (itSeq (eVar 2)) (gT 2 (gsCons (gN 11) (gsCons (gN 12) (gsNil)))) bYes e__law_turned_right_1 ⟨[x0, x1, .val (.lst (rD r)), x3, x4, x5, x6, x7, x8, x9, x10, .un, .un], S⟩ = .ok (rD (mp sw1 r)) ⟨[x0, x1, .val (.lst (rD r)), x3, x4, x5, x6, x7, x8, x9, x10, .un, .un], S⟩ := by
  have e1 := aLc_map (vs := [11, 12]) (it := itSeq (eVar 2)) (g := gT 2 (gsCons (gN 11) (gsCons (gN 12) (gsNil)))) (e := e__law_turned_right_1) (s := ⟨[x0, x1, .val (.lst (rD r)), x3, x4, x5, x6, x7, x8, x9, x10, .un, .un], S⟩) (s0 := ⟨[x0, x1, .val (.lst (rD r)), x3, x4, x5, x6, x7, x8, x9, x10, .un, .un], S⟩) (items := rD r)
    (fun z => match z with | .tup [.str [c], t] => .tup [.str [sw1 c], t] | z => z) (by simp) (fun z hz => by
      obtain ⟨p, hp, rfl⟩ := List.mem_map.mp hz
      have ht := sw1_get p.1 (g p hp).1
      exact ⟨⟨[x0, x1, .val (.lst (rD r)), x3, x4, x5, x6, x7, x8, x9, x10, .val (.str [p.1]), .val (.int p.2)], S⟩, ⟨[x0, x1, .val (.lst (rD r)), x3, x4, x5, x6, x7, x8, x9, x10, .val (.str [p.1]), .val (.int p.2)], S⟩, by simp, by simp [e__law_turned_right_1, kOf, dictOf, ht, sw1_nd], by simp⟩) (by simp; omega)
  rw [show (rD r).map (fun z => match z with | .tup [.str [c], t] => .tup [.str [sw1 c], t] | z => z) = rD (mp sw1 r) by simp only [rD, mp, List.map_map]; rfl] at e1
  generalize rD (mp sw1 r) = L at *
  simpa [-r_aLc] using e1
theorem turned_ev {S S1 : List Cell} (A B C E F H P Dd Md : List D) (q bx bY ba x y a cx cy ca hx hy ha gd : Int)
    (h0 : g__law_signed [.cell 2, .int 40] S = .ok (.int q) S1)
    (h1 : g_Walk_turned [wq A, .int q] S1 = .ok (wq B) S1)
    (h3 : ∀ x0 x1 x4 x5 x6 x7 x8 x9 x10, aLc [11, 12] (itSeq (eVar 2)) (gT 2 (gsCons (gN 11) (gsCons (gN 12) (gsNil)))) bYes e__law_turned_right_0 ⟨[x0, x1, .val (.lst P), .val (.int q), x4, x5, x6, x7, x8, x9, x10, .un, .un], S1⟩ = .ok Dd ⟨[x0, x1, .val (.lst P), .val (.int q), x4, x5, x6, x7, x8, x9, x10, .un, .un], S1⟩)
    (h4 : ∀ x0 x1 x3 x4 x5 x6 x7 x8 x9 x10, aLc [11, 12] (itSeq (eVar 2)) (gT 2 (gsCons (gN 11) (gsCons (gN 12) (gsNil)))) bYes e__law_turned_right_1 ⟨[x0, x1, .val (.lst P), x3, x4, x5, x6, x7, x8, x9, x10, .un, .un], S1⟩ = .ok Md ⟨[x0, x1, .val (.lst P), x3, x4, x5, x6, x7, x8, x9, x10, .un, .un], S1⟩)
    (h5 : g__law_runs_of [.lst Dd] S1 = .ok (.tup B) S1) (h6 : g__law_runs_of [.lst Md] S1 = .ok (.tup C) S1)
    (d1 : dNe (.tup B) (.tup B) = some (.bl false)) (d2 : dNe (.tup C) (.tup C) = some (.bl false))
    (p1 : g_Walk_place [wq A] S1 = .ok (plc x y a) S1) (p2 : g_Walk_place [wq B] S1 = .ok (plc bx bY ba) S1) (p3 : g_Walk_place [wq C] S1 = .ok (plc cx cy ca) S1) (p4 : g_Walk_place [wq H] S1 = .ok (plc hx hy a) S1)
    (g1 : g__law_ground [plc x y a] S1 = .ok (.int gd) S1) (g2 : g__law_ground [plc bx bY ba] S1 = .ok (.int gd) S1) (g3 : g__law_ground [plc cx cy ca] S1 = .ok (.int (-gd)) S1)
    (en : L2.atI [D.tup [.int x, .int y], .tup [.int (-y), .int x], .tup [.int (-x), .int (-y)], .tup [.int y, .int (-x)]] (q.fmod 4) = some (.tup [.int bx, .int bY]))
    (dn : dNe (.tup [.int bx, .int bY]) (.tup [.int bx, .int bY]) = some (.bl false))
    (t1 : g_Walk_turned [wq B, .int (-q)] S1 = .ok (wq A) S1) (q1 : g_WalkX_eqX [wq A, wq A] S1 = .ok (.bl true) S1)
    (m1 : g_Walk_mirrored [wq A] S1 = .ok (wq C) S1) (m2 : g_Walk_mirrored [wq C] S1 = .ok (wq A) S1)
    (t2 : g_Walk_turned [wq C, .int q] S1 = .ok (wq E) S1) (t3 : g_Walk_turned [wq A, .int (-q)] S1 = .ok (wq F) S1) (m3 : g_Walk_mirrored [wq F] S1 = .ok (wq E) S1) (q2 : g_WalkX_eqX [wq E, wq E] S1 = .ok (.bl true) S1)
    (t4 : g_Walk_turned [wq A, .int 4] S1 = .ok (wq A) S1) (t5 : g_Walk_turned [wq A, .int 2] S1 = .ok (wq H) S1) :
    g__law_turned_right [.cell 2, wq A, .lst P] S = .ok (.bl true) S1 := by
  simp [-r_aLc, -dNe_tt, g__law_turned_right, b__law_turned_right, fnD, List.lookup, ixD, h0, h1, h3, h4, h5, h6, d1, d2, p1, p2, p3, p4, g1, g2, g3, en, dn, t1, q1, m1, m2, t2, t3, m3, q2, t4, t5]
end W_k10
set_option maxRecDepth 100000
set_option maxHeartbeats 4000000
set_option exponentiation.threshold 4000
namespace W_k10
open DL ST
theorem wfp {r : Runs} (g : Good r) (hl : r.length ≤ 9) (hb : Bd (len r) 350) (S : List Cell) : g_Walk_place [wk (mg r)] S = .ok (plS (led home r)) S ∧ g__law_ground [plS (led home r)] S = .ok (.int (gr (led home r))) S := by
  have w := wf_mg g hb (by omega)
  have z := w.sz'
  have p := place_w w (by decide) S
  rw [mg_led g home] at z p
  exact ⟨p, ground_ok _ S (mulOk_of z.x z.y (by decide)) (mulOk_of (m := 2) ⟨by decide⟩ z.a (by decide))⟩
theorem turned_right_ok {n : Nat} {S : List Cell} {r : Runs} (hS : Pen n S) (hn : n + 30 < 2 ^ 20) (g : Good r) (hl : r.length ≤ 9) (hb : Bd (len r) 350) : ∃ S1, g__law_turned_right [.cell 2, wk (mg r), .lst (rD r)] S = .ok (.bl true) S1 ∧ Pen (n + 20) S1 := by
  obtain ⟨q, S1, e0, _, P1⟩ := signed_ok hS hn (f := 40) (by decide)
  refine ⟨S1, ?_, P1⟩
  have gt : ∀ k, Good (mp (tq k) r) := fun k => good_tq k g
  have lt : ∀ k, (mp (tq k) r).length ≤ 9 := fun k => by simpa [mp] using hl
  have bt : ∀ k, Bd (len (mp (tq k) r)) 350 := fun k => by rw [len_mp]; exact hb
  have gs : Good (mp sw1 r) := good_mp isL_sw1 g
  have ls : (mp sw1 r).length ≤ 9 := by simpa [mp] using hl
  have bs : Bd (len (mp sw1 r)) 350 := by rw [len_mp]; exact hb
  have es : led home (mp sw1 r) = mX (led home r) := by
    have := led_mp (f := sw1) (m := mX) gone_mX (r := r) (p := home) g
    rwa [mX_home] at this
  obtain ⟨p1, g1⟩ := wfp g hl hb S1
  obtain ⟨p2, g2⟩ := wfp (gt (qk q)) (lt _) (bt _) S1
  obtain ⟨p3, g3⟩ := wfp gs ls bs S1
  obtain ⟨p4, g4⟩ := wfp (gt 2) (lt _) (bt _) S1
  rw [led_rq _ g] at p2 g2 p4 g4
  rw [gr_rq] at g2 g4
  rw [es] at p3 g3
  rw [gr_mX] at g3
  have t1 := turned_mg (gt (qk q)) (by have := lt (qk q); omega) (-q) S1
  rw [mp_comp, mp_same g (fun c h => tq_neg q h)] at t1
  have m2 := mirrored_mg gs (by omega) S1
  rw [mp_comp, mp_same g (fun c h => sw1_sw1 h)] at m2
  have t2 := turned_mg gs (by omega) q S1
  have m3 := mirrored_mg (gt (qk (-q))) (by have := lt (qk (-q)); omega) S1
  have ex : mp sw1 (mp (tq (qk (-q))) r) = mp (tq (qk q)) (mp sw1 r) := by
    rw [mp_comp, mp_comp]
    exact (mp_cong g fun c h => tq_sw1 q h).symm
  rw [ex] at m3
  have t4 := turned_mg g (by omega) 4 S1
  rw [show qk 4 = 0 from rfl, mp_same (f := tq 0) g (fun c h => rfl)] at t4
  have t5 := turned_mg g (by omega) 2 S1
  rw [show qk 2 = 2 from rfl] at t5
  have gm : ∀ {r : Runs}, Good r → Good (mg r) := fun g => (mg_neat g).good
  have a2 := (rq_xy (led home r)).2.2.2.2.2.2.2.2
  have p4' : g_Walk_place [wk (mg (mp (tq 2) r))] S1 = .ok (plc (rq 2 (led home r)).x (rq 2 (led home r)).y (led home r).a) S1 := by rw [← a2]; exact p4
  exact turned_ev (S := S) (S1 := S1) (rD (mg r)) (rD (mg (mp (tq (qk q)) r))) (rD (mg (mp sw1 r))) (rD (mg (mp (tq (qk q)) (mp sw1 r)))) (rD (mg (mp (tq (qk (-q))) r))) (rD (mg (mp (tq 2) r))) (rD r) (rD (mp (tq (qk q)) r)) (rD (mp sw1 r)) q _ _ _ _ _ _ _ _ _ _ _ 0 (gr (led home r)) e0 (turned_mg g (by omega) q S1)
    (fun x0 x1 x4 x5 x6 x7 x8 x9 x10 => due_ok g (by omega)) (fun x0 x1 x3 x4 x5 x6 x7 x8 x9 x10 => mir_ok g (by omega))
    (runs_gen (.lst (rD (mp (tq (qk q)) r))) _ S1 rfl (gt _) (by have := lt (qk q); omega)) (runs_gen (.lst (rD (mp sw1 r))) _ S1 rfl gs (by omega))
    (runs_refl (gm (gt _))) (runs_refl (gm gs)) p1 p2 p3 p4' g1 g2 g3 (ends_at q _) (ne_refl (by simp)) t1 (weq_ok (gm g) S1) (mirrored_mg g (by omega) S1) m2 t2 (turned_mg g (by omega) (-q) S1) m3 (weq_ok (gm (good_tq _ gs)) S1) t4 t5
theorem repeated_ev {S S1 S2 S3 S4 : List Cell} (A B P Q Z E1 E2 : List D) (u n d x y a bx bY ba L : Int) (c : Nat)
    (h0 : g__law_draw [.cell 2, .int 1000] S = .ok (.int u) S1) (h1 : g__law_pick [.cell 2, .lst [.int 0, .int 1, .int 2, .int 3, .int u]] S1 = .ok (.int n) S2)
    (h2 : g_Walk_repeated [wq A, .int n] S2 = .ok (wq B) S2)
    (p1 : g_Walk_place [wq A] S2 = .ok (plc x y a) S2) (p2 : g_Walk_place [wq B] S2 = .ok (plc bx bY ba) S2) (pw : g_Place_power [plc x y a, .int n] S2 = .ok (plc bx bY ba) S2) (pe : g_PlaceX_eqX [plc bx bY ba, plc bx bY ba] S2 = .ok (.bl true) S2)
    (l1 : g_Walk_length [wq A] S2 = .ok (.int L) S2) (l2 : g_Walk_length [wq B] S2 = .ok (.int (n * L)) S2) (ml : mulOk n L = true)
    (lm : n < 40 → dMul (.lst P) (.int n) = some (.lst Q)) (ro : n < 40 → g__law_runs_of [.lst Q] S2 = .ok (.tup B) S2) (db : dNe (.tup B) (.tup B) = some (.bl false))
    (hc : g__law_pick [.cell 2, .str [101, 110, 119, 115]] S2 = .ok (.str [c]) S3) (hg : g__law_great [.cell 2, .int 60] S3 = .ok (.int d) S4)
    (w1 : g_WalkX_initX [.lst [.tup [.str [c], .int 3]]] S4 = .ok [([114, 117, 110, 115], .tup [.tup [.str [c], .int 3]])] S4)
    (r1 : g_Walk_repeated [wq [.tup [.str [c], .int 3]], .int d] S4 = .ok (wq Z) S4) (m3 : mulOk 3 d = true)
    (tm : tMul (.tup [.tup [.str [c], .int (3 * d)]]) (.int (if 0 < d then 1 else 0)) = some (.tup Z)) (dz : dNe (.tup Z) (.tup Z) = some (.bl false))
    (w2 : g_WalkX_initX [.str []] S4 = .ok [([114, 117, 110, 115], .tup [])] S4) (r2 : g_Walk_repeated [wq [], .int d] S4 = .ok (wq []) S4) (w3 : g_WalkX_initX [.lst []] S4 = .ok [([114, 117, 110, 115], .tup [])] S4) (q1 : g_WalkX_eqX [wq [], wq []] S4 = .ok (.bl true) S4)
    (w4 : g_WalkX_initX [.str [101, 110, 101]] S4 = .ok [([114, 117, 110, 115], .tup E1)] S4) (r4 : g_Walk_repeated [wq E1, .int 3] S4 = .ok (wq E2) S4) (lt : g_Walk_letters [wq E2] S4 = .ok (.str [101, 110, 101, 101, 110, 101, 101, 110, 101]) S4) :
    g__law_repeated_right [.cell 2, wq A, .lst P] S = .ok (.bl true) S4 := by
  by_cases cn : n < 40
  · have lm := lm cn
    have ro := ro cn
    by_cases cd : 0 < d
    · rw [if_pos cd] at tm
      simp [-r_aLc, -dNe_tt, -r_tMul, g__law_repeated_right, b__law_repeated_right, fnD, List.lookup, h0, h1, h2, p1, p2, pw, pe, l1, l2, ml, cn, lm, ro, db, hc, hg, w1, r1, m3, cd, tm, dz, w2, r2, w3, q1, w4, r4, lt]
    · rw [if_neg cd] at tm
      simp [-r_aLc, -dNe_tt, -r_tMul, g__law_repeated_right, b__law_repeated_right, fnD, List.lookup, h0, h1, h2, p1, p2, pw, pe, l1, l2, ml, cn, lm, ro, db, hc, hg, w1, r1, m3, cd, tm, dz, w2, r2, w3, q1, w4, r4, lt]
  · by_cases cd : 0 < d
    · rw [if_pos cd] at tm
      simp [-r_aLc, -dNe_tt, -r_tMul, g__law_repeated_right, b__law_repeated_right, fnD, List.lookup, h0, h1, h2, p1, p2, pw, pe, l1, l2, ml, cn, db, hc, hg, w1, r1, m3, cd, tm, dz, w2, r2, w3, q1, w4, r4, lt]
    · rw [if_neg cd] at tm
      simp [-r_aLc, -dNe_tt, -r_tMul, g__law_repeated_right, b__law_repeated_right, fnD, List.lookup, h0, h1, h2, p1, p2, pw, pe, l1, l2, ml, cn, db, hc, hg, w1, r1, m3, cd, tm, dz, w2, r2, w3, q1, w4, r4, lt]
theorem letters_ene (S : List Cell) : g_Walk_letters [wk [(101, 1), (110, 1), (101, 2), (110, 1), (101, 2), (110, 1), (101, 1)]] S = .ok (.str [101, 110, 101, 101, 110, 101, 101, 110, 101]) S := by
  have l := length_ok [(101, 1), (110, 1), (101, 2), (110, 1), (101, 2), (110, 1), (101, 1)] S (by decide)
  rw [show len [(101, 1), (110, 1), (101, 2), (110, 1), (101, 2), (110, 1), (101, 1)] = 9 from rfl] at l
  simp [g_Walk_letters, b_Walk_letters, fnD, l, e_Walk_letters_0]
  rfl
theorem letters3 : mg (rep [(101, 1), (110, 1), (101, 1)] 3) = [(101, 1), (110, 1), (101, 2), (110, 1), (101, 2), (110, 1), (101, 1)] := rfl
end W_k10
set_option maxRecDepth 100000
set_option maxHeartbeats 4000000
set_option exponentiation.threshold 4000
namespace W_k10
open DL ST
theorem pow_mul {p : Sp} {n : Nat} (hn : n ≤ 999) (z : Sz 350 p) (S : List Cell) : g_Place_power [plS p, .int n] S = .ok (plS (pwS p n)) S := by
  have bn : Bd (n : Int) 10 := ⟨by omega⟩
  have bm : Bd ((n : Int) - 1) 10 := ⟨by omega⟩
  have b2 : Bd ((n : Int) * (n - 1)) 20 := @bd_mul _ _ _ _ bn bm
  have bc : Bd (((n : Int) * (n - 1)).fdiv 2) 20 := @bd_half _ _ b2
  exact power_ok p n S (mulOk_of bn bm (by decide)) (mulOk_of bn z.x (by decide)) (mulOk_of bn z.y (by decide)) (mulOk_of bn z.a (by decide)) (mulOk_of bc z.x (by decide)) (mulOk_of (@bd_mul _ _ _ _ bc z.x) z.y (by decide))
theorem lmul_ok (r : Runs) (n : Nat) (h : r.length * n ≤ 1000000) (h2 : n < 2 ^ 60) : dMul (.lst (rD r)) (.int n) = some (.lst (rD (rep r n))) := by
  have c : -(2 ^ 63) ≤ (n : Int) ∧ (n : Int) < 2 ^ 63 ∧ (rD r).length * (n : Int).toNat ≤ 1000000 := ⟨by omega, by omega, by rw [List.length_map, Int.toNat_natCast]; exact h⟩
  show lMul (.lst (rD r)) (.int n) = _
  simp only [lMul, c, and_self, if_true]
  simp only [rep, rD, List.map_flatten, List.map_replicate, Int.toNat_natCast]
theorem one_run {c : Nat} {t : Int} (ht : 0 < t) : mg [(c, t)] = [(c, t)] := by simp [mg, mgStep, ht]
abbrev eneL : Runs := [(101, 1), (110, 1), (101, 1)]
theorem eneL_good : Good eneL := fun q hq => by
  simp only [eneL, List.mem_cons, List.not_mem_nil, or_false] at hq
  rcases hq with rfl | rfl | rfl <;> exact ⟨by simp [isL], by decide⟩
theorem init_str (l : List Nat) (S : List Cell) (h : ∀ c ∈ l, isL c) (hl : l.length ≤ 1000) : g_WalkX_initX [.str l] S = .ok [([114, 117, 110, 115], .tup (rD (mg (ones l))))] S :=
  winit_of (.str l) (ones l) S (told_str l S h (by omega)) (ones_good h) (by simp; omega)
theorem init_ene (S : List Cell) : g_WalkX_initX [.str [101, 110, 101]] S = .ok [([114, 117, 110, 115], .tup (rD eneL))] S := init_str [101, 110, 101] S (fun c hc => by
  simp only [List.mem_cons, List.not_mem_nil, or_false] at hc
  rcases hc with rfl | rfl | rfl <;> simp [isL]) (by decide)
theorem repeated_right_ok {k : Nat} {S : List Cell} {r : Runs} (hS : Pen k S) (hk : k + 60 < 2 ^ 20) (g : Good r) (hl : r.length ≤ 9) (hb : Bd (len r) 350) : ∃ S4, g__law_repeated_right [.cell 2, wk (mg r), .lst (rD r)] S = .ok (.bl true) S4 ∧ Pen (k + 20) S4 := by
  obtain ⟨u, S1, h0, u0, u1, P1⟩ := draw_ok hS (by omega) (p := 1000) (by decide) (by decide)
  obtain ⟨z, S2, h1, hz, P2⟩ := pick_ok (xs := [.int 0, .int 1, .int 2, .int 3, .int u]) P1 (by omega) (by simp) (by simp)
  have : ∃ n : Nat, z = .int (n : Int) ∧ n ≤ 999 := by
    simp only [List.mem_cons, List.not_mem_nil, or_false] at hz
    rcases hz with rfl | rfl | rfl | rfl | rfl
    · exact ⟨0, rfl, by omega⟩
    · exact ⟨1, rfl, by omega⟩
    · exact ⟨2, rfl, by omega⟩
    · exact ⟨3, rfl, by omega⟩
    · exact ⟨u.toNat, by rw [Int.toNat_of_nonneg u0], by omega⟩
  obtain ⟨n, rfl, hn⟩ := this
  have gm := (mg_neat g).good
  have fm := mg_few hl
  have bn : Bd (n : Int) 10 := ⟨by omega⟩
  have gr := rep_good g n
  have lr : (rep r n).length ≤ 10000 := by
    rw [rep_length]
    exact Nat.le_trans (Nat.mul_le_mul hn hl) (by decide)
  have br : Bd (len (rep r n)) 360 := by
    rw [rep_len]
    exact @bd_mul _ _ _ _ bn hb
  have h2 := repeated_ok gm n S2 (Nat.le_trans (Nat.mul_le_mul fm hn) (by decide)) (fun q hq => by
    have h1 := le_len gm q hq
    rw [mg_len g] at h1
    exact mulOk_of (hb.of_le (gm q hq).2 h1) bn (by decide))
  rw [mg_rep g] at h2
  have w1 := wf_mg g hb (by omega)
  have w2 := wf_mg gr br lr
  have p1 := place_w w1 (by decide) S2
  have p2 := place_w w2 (by decide) S2
  have z1 := w1.sz'
  rw [mg_led g] at p1 z1
  rw [mg_led gr, rep_led g] at p2
  have pw := pow_mul hn z1 S2
  have pe : g_PlaceX_eqX [plS (pwS (led home r) n), plS (pwS (led home r) n)] S2 = .ok (.bl true) S2 := (eq_ok _ _ S2).trans (by simp)
  have l1 := length_w w1 S2
  have l2 := length_w w2 S2
  rw [mg_len g] at l1
  rw [mg_len gr, rep_len] at l2
  obtain ⟨c, S3, hc, hcl, P3⟩ := pickS_ok P2 (by omega)
  obtain ⟨d, S4, hg, d0, bd, P4⟩ := great_ok P3 (by omega) (f := 60) (by decide) (by decide)
  refine ⟨S4, ?_, P4.mono (by omega)⟩
  obtain ⟨m, rfl⟩ := Int.eq_ofNat_of_zero_le d0
  have g3 : Good [(c, 3)] := fun q hq => by
    rcases List.mem_singleton.mp hq with rfl
    exact ⟨hcl, show (0 : Int) ≤ 3 by decide⟩
  have i1 := winit_wk (r := [(c, 3)]) S4 g3 (by simp) (.lst (rD [(c, 3)])) (.inl rfl)
  rw [one_run (by decide)] at i1
  have r4 := repeated_ok eneL_good 3 S4 (by decide) (fun q hq => by
    simp only [eneL, List.mem_cons, List.not_mem_nil, or_false] at hq
    rcases hq with rfl | rfl | rfl <;> decide)
  rw [letters3] at r4
  have m3 : mulOk 3 (m : Int) = true := mulOk_of (m := 2) ⟨by decide⟩ bd (by decide)
  have key : ∀ Z : List D, g_Walk_repeated [wq [.tup [.str [c], .int 3]], .int m] S4 = .ok (wq Z) S4 → tMul (.tup [.tup [.str [c], .int (3 * m)]]) (.int (if 0 < (m : Int) then 1 else 0)) = some (.tup Z) → dNe (.tup Z) (.tup Z) = some (.bl false) → g__law_repeated_right [.cell 2, wk (mg r), .lst (rD r)] S = .ok (.bl true) S4 := fun Z r1 tm dz =>
    repeated_ev (rD (mg r)) (rD (mg (rep r n))) (rD r) (rD (rep r n)) Z (rD eneL) (rD [(101, 1), (110, 1), (101, 2), (110, 1), (101, 2), (110, 1), (101, 1)]) u n m _ _ _ _ _ _ _ c h0 h1 h2 p1 p2 pw pe l1 l2 (mulOk_of bn hb (by decide))
      (fun _ => lmul_ok r n (Nat.le_trans (Nat.mul_le_mul hl hn) (by decide)) (by omega)) (fun _ => runs_gen (.lst (rD (rep r n))) _ S2 rfl gr (by omega)) (runs_refl (mg_neat gr).good) hc hg i1 r1 m3 tm dz
      (init_str [] S4 (fun _ h => (nomatch h)) (by decide)) (repE_ok m S4) (empty_ok S4) (weq_ok (R := []) (fun _ h => (nomatch h)) S4) (init_ene S4) r4 (letters_ene S4)
  rcases Nat.eq_zero_or_pos m with rfl | hm
  · exact key [] (rep0_ok (R := [(c, 3)]) S4) rfl (ne_refl (by simp))
  · have r1 := rep1_ok c 3 m S4 hcl (by decide) m3 hm
    have h3 : (0 : Int) < 3 * (m : Int) := by omega
    rw [one_run h3] at r1
    refine key [.tup [.str [c], .int (3 * m)]] r1 ?_ ?_
    · rw [if_pos (show (0 : Int) < m by omega)]; rfl
    · exact runs_refl (R := [(c, 3 * (m : Int))]) fun q hq => by
        rcases List.mem_singleton.mp hq with rfl
        exact ⟨hcl, by omega⟩
end W_k10
set_option maxRecDepth 100000
set_option maxHeartbeats 4000000
set_option exponentiation.threshold 4000
namespace W_k10
open DL ST
abbrev manyX : Xc := ⟨"TooMany", [([109, 111, 115, 116], .int 10000)]⟩
theorem repM_bad (A : List D) (a b : Nat) (t u n K J : Int) (S : List Cell) (ha : a < 1114112) (hb : b < 1114112) (ne : A.isEmpty = false) (a0 : L2.atI A 0 = some (.tup [.str [a], .int t])) (a1 : L2.atI A (-1) = some (.tup [.str [b], .int u])) (hK : bLen [.tup A] = some (.int K)) (nz : (n = 0) = False) (n0 : (n < 0) = False) (ne2 : A ≠ []) (nt : (K = 1) = False) (mo : mulOk K n = true) (hJ : J = if a = b then n - 1 else 0) (hm : (10000 < K * n - J) = True) :
    g_Walk_repeated [.ins "Walk" [([114, 117, 110, 115], .tup A)], .int n] S = .exc manyX S := by
  by_cases c : a = b
  · rw [if_pos c] at hJ
    subst c hJ
    simp [-r_bLen_t, -r_tMul, g_Walk_repeated, b_Walk_repeated, fnD, List.lookup, nz, n0, nt, ne, ne2, hK, a0, a1, ha, ixD, mo, hm]
  · rw [if_neg c] at hJ
    subst hJ
    simp only [Int.sub_zero] at hm
    simp [-r_bLen_t, -r_tMul, g_Walk_repeated, b_Walk_repeated, fnD, List.lookup, nz, n0, nt, ne, ne2, hK, a0, a1, ha, hb, c, ixD, mo, hm]
abbrev enL : Runs := [(101, 1), (110, 1)]
theorem enL_good : Good enL := fun q hq => by
  simp only [enL, List.mem_cons, List.not_mem_nil, or_false] at hq
  rcases hq with rfl | rfl <;> exact ⟨by simp [isL], by decide⟩
theorem init_en (S : List Cell) : g_WalkX_initX [.str [101, 110]] S = .ok [([114, 117, 110, 115], .tup (rD enL))] S := init_str [101, 110] S (fun c hc => by
  simp only [List.mem_cons, List.not_mem_nil, or_false] at hc
  rcases hc with rfl | rfl <;> simp [isL]) (by decide)
theorem en_len (n : Nat) (h : 2 * n ≤ 10000) (S : List Cell) : ∃ B, g_Walk_repeated [wk enL, .int n] S = .ok (wq B) S ∧ g_Walk_length [wq B] S = .ok (.int (n * 2)) S := by
  have bn : Bd (n : Int) 20 := ⟨by omega⟩
  have e := repeated_ok enL_good n S h (fun q hq => by
    simp only [enL, List.mem_cons, List.not_mem_nil, or_false] at hq
    rcases hq with rfl | rfl <;> exact mulOk_of (m := 1) ⟨by decide⟩ bn (by decide))
  have g := rep_good enL_good n
  have l := length_ok (mg (rep enL n)) S (mg_few (by rw [rep_length]; show n * 2 ≤ _; omega))
  rw [mg_len g, rep_len] at l
  exact ⟨_, e, l⟩
theorem ene_len (m : Nat) (h : m ≤ 4998) (S : List Cell) : ∃ B : List D, g_Walk_repeated [wk eneL, .int ((m + 1 : Nat) : Int)] S = .ok (wq B) S ∧ B.length = 2 * m + 3 := by
  have el := ene_rep m
  have ll : (mg (rep ((101, 1) :: [(110, 1)] ++ [(101, 1)]) (m + 1))).length = 2 * m + 3 := by
    rw [show ((101, 1) :: [(110, 1)] ++ [(101, 1)] : Runs) = eneL from rfl, el, List.length_append, eneU_len]; rfl
  have e := repM_ok (101, 1) (101, 1) [(110, 1)] (m + 1) S eneL_good (by omega) (by
    rw [if_pos rfl]
    show (3 : Int) * ((m + 1 : Nat) : Int) - (((m + 1 : Nat) : Int) - 1) ≤ 10000
    omega) (by show 3 * (m + 1) ≤ 30000; omega) (by rw [ll]; omega)
  exact ⟨_, e, by rw [List.length_map]; exact ll⟩
theorem en_bad (S : List Cell) : g_Walk_repeated [wk enL, .int 5001] S = .exc manyX S :=
  repM_bad (rD enL) 101 110 1 1 5001 2 0 S (by decide) (by decide) rfl rfl rfl rfl (by decide) (by decide) (by simp) (by decide) (mulOk_of (m := 2) (n := 20) ⟨by decide⟩ ⟨by decide⟩ (by decide)) rfl (by decide)
theorem ene_bad {d : Int} (d0 : 0 ≤ d) (b : Bd d 340) (S : List Cell) : g_Walk_repeated [wk eneL, .int (5000 + d)] S = .exc manyX S :=
  repM_bad (rD eneL) 101 101 1 1 (5000 + d) 3 (5000 + d - 1) S (by decide) (by decide) rfl rfl rfl rfl (eq_false (by omega)) (eq_false (by omega)) (by simp) (by decide) (mulOk_of (m := 2) ⟨by decide⟩ (@bd_add _ _ 20 _ ⟨by decide⟩ b) (by decide)) rfl (eq_true (by omega))
theorem many_ne : dNe (.tup [.str [109, 97, 110, 121], .int 10000]) (.tup [.str [109, 97, 110, 121], .int 10000]) = some (.bl false) := ne_refl (by simp)
theorem many_eq : dEq (.tup [.str [109, 97, 110, 121], .int 10000]) (.tup [.str [109, 97, 110, 121], .int 10000]) = some (.bl true) := by
  have pf : plFs [D.str [109, 97, 110, 121], .int 10000] := by simp
  rw [dEq_tt _ _ pf pf, eqPls_refl _ pf.1]
theorem bv1 {S S1 : List Cell} (A B EN ENE : List D) (d : Int) (t0 : S[0]? = some (.tab "_law_bounds_right")) (t1 : S1[0]? = some (.tab "_law_bounds_right"))
    (i1 : ∀ S, g_WalkX_initX [.str [101, 110]] S = .ok [([114, 117, 110, 115], .tup EN)] S) (i2 : ∀ S, g_WalkX_initX [.str [101, 110, 101]] S = .ok [([114, 117, 110, 115], .tup ENE)] S)
    (r1 : g_Walk_repeated [wq EN, .int 5000] S = .ok (wq A) S) (l1 : g_Walk_length [wq A] S = .ok (.int 10000) S)
    (r2 : g_Walk_repeated [wq ENE, .int 4999] S = .ok (wq B) S) (l2 : bLen [.tup B] = some (.int 9999))
    (r3 : g_Walk_repeated [wq EN, .int 5001] S = .exc manyX S) (h : g__law_great [.cell 2, .int 60] S = .ok (.int d) S1) (r4 : g_Walk_repeated [wq ENE, .int (5000 + d)] S1 = .exc manyX S1) :
    (eB (eOp2 dNe (eProp "Walk" g_Walk_length (eMeth "Walk" [114, 101, 112, 101, 97, 116, 101, 100] 2 g_Walk_repeated (eMake "Walk" 1 g_WalkX_initX (aCons (eC (.str [101, 110])) (aNil))) (aCons (eC (.int 5000)) (aNil)))) (eC (.int 10000)))) ⟨[.val (.cell 2), .un], S⟩ = .ok false ⟨[.val (.cell 2), .un], S⟩ := by
  simp [i1, r1, l1, List.lookup]
theorem bv2 {S S1 : List Cell} (A B EN ENE : List D) (d : Int) (t0 : S[0]? = some (.tab "_law_bounds_right")) (t1 : S1[0]? = some (.tab "_law_bounds_right"))
    (i1 : ∀ S, g_WalkX_initX [.str [101, 110]] S = .ok [([114, 117, 110, 115], .tup EN)] S) (i2 : ∀ S, g_WalkX_initX [.str [101, 110, 101]] S = .ok [([114, 117, 110, 115], .tup ENE)] S)
    (r1 : g_Walk_repeated [wq EN, .int 5000] S = .ok (wq A) S) (l1 : g_Walk_length [wq A] S = .ok (.int 10000) S)
    (r2 : g_Walk_repeated [wq ENE, .int 4999] S = .ok (wq B) S) (l2 : bLen [.tup B] = some (.int 9999))
    (r3 : g_Walk_repeated [wq EN, .int 5001] S = .exc manyX S) (h : g__law_great [.cell 2, .int 60] S = .ok (.int d) S1) (r4 : g_Walk_repeated [wq ENE, .int (5000 + d)] S1 = .exc manyX S1) :
    (eB (eOp2 dNe (eCB (bLen) (aCons (eFld ["Walk"] [114, 117, 110, 115] (eMeth "Walk" [114, 101, 112, 101, 97, 116, 101, 100] 2 g_Walk_repeated (eMake "Walk" 1 g_WalkX_initX (aCons (eC (.str [101, 110, 101])) (aNil))) (aCons (eC (.int 4999)) (aNil)))) (aNil))) (eC (.int 9999)))) ⟨[.val (.cell 2), .un], S⟩ = .ok false ⟨[.val (.cell 2), .un], S⟩ := by
  simp [-r_bLen_t, i2, r2, l2, List.lookup]
theorem bv3 {S S1 : List Cell} (A B EN ENE : List D) (d : Int) (t0 : S[0]? = some (.tab "_law_bounds_right")) (t1 : S1[0]? = some (.tab "_law_bounds_right"))
    (i1 : ∀ S, g_WalkX_initX [.str [101, 110]] S = .ok [([114, 117, 110, 115], .tup EN)] S) (i2 : ∀ S, g_WalkX_initX [.str [101, 110, 101]] S = .ok [([114, 117, 110, 115], .tup ENE)] S)
    (r1 : g_Walk_repeated [wq EN, .int 5000] S = .ok (wq A) S) (l1 : g_Walk_length [wq A] S = .ok (.int 10000) S)
    (r2 : g_Walk_repeated [wq ENE, .int 4999] S = .ok (wq B) S) (l2 : bLen [.tup B] = some (.int 9999))
    (r3 : g_Walk_repeated [wq EN, .int 5001] S = .exc manyX S) (h : g__law_great [.cell 2, .int 60] S = .ok (.int d) S1) (r4 : g_Walk_repeated [wq ENE, .int (5000 + d)] S1 = .exc manyX S1) :
    (eCallL 1 (fun Λ => fnD 1 (b__law_refused Λ) 1) (fun n => List.lookup n [("_law_bounds_right.0", lb__law_bounds_right_0), ("_law_bounds_right.1", lb__law_bounds_right_1)]) (aCons (eLam 0 "_law_bounds_right" "_law_bounds_right.0") (aNil))) ⟨[.val (.cell 2), .un], S⟩ = .ok (.tup [.str [109, 97, 110, 121], .int 10000]) ⟨[.val (.cell 2), .un], S⟩ := by
  simp [fnD, lb__law_bounds_right_0, b__law_refused, List.lookup, t0, i1, r3]
theorem bv4 {S S1 : List Cell} (A B EN ENE : List D) (d : Int) (t0 : S[0]? = some (.tab "_law_bounds_right")) (t1 : S1[0]? = some (.tab "_law_bounds_right"))
    (i1 : ∀ S, g_WalkX_initX [.str [101, 110]] S = .ok [([114, 117, 110, 115], .tup EN)] S) (i2 : ∀ S, g_WalkX_initX [.str [101, 110, 101]] S = .ok [([114, 117, 110, 115], .tup ENE)] S)
    (r1 : g_Walk_repeated [wq EN, .int 5000] S = .ok (wq A) S) (l1 : g_Walk_length [wq A] S = .ok (.int 10000) S)
    (r2 : g_Walk_repeated [wq ENE, .int 4999] S = .ok (wq B) S) (l2 : bLen [.tup B] = some (.int 9999))
    (r3 : g_Walk_repeated [wq EN, .int 5001] S = .exc manyX S) (h : g__law_great [.cell 2, .int 60] S = .ok (.int d) S1) (r4 : g_Walk_repeated [wq ENE, .int (5000 + d)] S1 = .exc manyX S1) :
    (eCallL 1 (fun Λ => fnD 1 (b__law_refused Λ) 1) (fun n => List.lookup n [("_law_bounds_right.0", lb__law_bounds_right_0), ("_law_bounds_right.1", lb__law_bounds_right_1)]) (aCons (eLam 0 "_law_bounds_right" "_law_bounds_right.1") (aNil))) ⟨[.val (.cell 2), .val (.int d)], S1⟩ = .ok (.tup [.str [109, 97, 110, 121], .int 10000]) ⟨[.val (.cell 2), .val (.int d)], S1⟩ := by
  simp [fnD, lb__law_bounds_right_1, b__law_refused, List.lookup, t1, i2, r4]
theorem bounds_ev {S S1 : List Cell} (A B EN ENE : List D) (d : Int) (t0 : S[0]? = some (.tab "_law_bounds_right")) (t1 : S1[0]? = some (.tab "_law_bounds_right"))
    (i1 : ∀ S, g_WalkX_initX [.str [101, 110]] S = .ok [([114, 117, 110, 115], .tup EN)] S) (i2 : ∀ S, g_WalkX_initX [.str [101, 110, 101]] S = .ok [([114, 117, 110, 115], .tup ENE)] S)
    (r1 : g_Walk_repeated [wq EN, .int 5000] S = .ok (wq A) S) (l1 : g_Walk_length [wq A] S = .ok (.int 10000) S)
    (r2 : g_Walk_repeated [wq ENE, .int 4999] S = .ok (wq B) S) (l2 : bLen [.tup B] = some (.int 9999))
    (r3 : g_Walk_repeated [wq EN, .int 5001] S = .exc manyX S) (h : g__law_great [.cell 2, .int 60] S = .ok (.int d) S1) (r4 : g_Walk_repeated [wq ENE, .int (5000 + d)] S1 = .exc manyX S1) :
    fnD 1 b__law_bounds_right 1 [.cell 2] S = .ok (.bl true) S1 := by
  have h1 := bv1 A B EN ENE d t0 t1 i1 i2 r1 l1 r2 l2 r3 h r4
  have h2 := bv2 A B EN ENE d t0 t1 i1 i2 r1 l1 r2 l2 r3 h r4
  have h3 := bv3 A B EN ENE d t0 t1 i1 i2 r1 l1 r2 l2 r3 h r4
  have h4 := bv4 A B EN ENE d t0 t1 i1 i2 r1 l1 r2 l2 r3 h r4
  have k1 : eTup (aCons (eC (.str [109, 97, 110, 121])) (aCons (eC (.int 10000)) (aNil))) ⟨[.val (.cell 2), .un], S⟩ = .ok (.tup [.str [109, 97, 110, 121], .int 10000]) ⟨[.val (.cell 2), .un], S⟩ := tup_2 rfl rfl
  have k2 : eTup (aCons (eC (.str [109, 97, 110, 121])) (aCons (eC (.int 10000)) (aNil))) ⟨[.val (.cell 2), .val (.int d)], S1⟩ = .ok (.tup [.str [109, 97, 110, 121], .int 10000]) ⟨[.val (.cell 2), .val (.int d)], S1⟩ := tup_2 rfl rfl
  have g : eCall 2 g__law_great (aCons (eVar 0) (aCons (eC (.int 60)) (aNil))) ⟨[.val (.cell 2), .un], S⟩ = .ok (.int d) ⟨[.val (.cell 2), .un], S1⟩ := call_c2 rfl rfl h
  exact fn_rt (sl := [.val (.cell 2), .val (.int d)]) rfl ((sq_if_f ((or_f h1).trans h2)).trans ((sq_if_f (eB_of (op_2 h3 k1 many_ne))).trans ((sq_nx (set_e g)).trans (ret_e (op_2 h4 k2 many_eq)))))
theorem bounds_ok {k : Nat} {S : List Cell} (hS : Pen k S) (hk : k + 60 < 2 ^ 20) : ∃ S1, g__law_bounds_right [.cell 2] S = .ok (.bl true) S1 ∧ Pen (k + 20) S1 := by
  obtain ⟨d, S1, hg, d0, bd, P1⟩ := great_ok hS (by omega) (f := 60) (by decide) (by decide)
  obtain ⟨A, a1, a2⟩ := en_len 5000 (by decide) S
  obtain ⟨B, b1, b2⟩ := ene_len 4998 (by decide) S
  have e := bounds_ev A B (rD enL) (rD eneL) d hS.tabs.1 P1.tabs.1 init_en init_ene a1 a2 b1 (by rw [r_bLen_t, b2]; rfl) (en_bad S) hg (ene_bad d0 bd S1)
  refine ⟨S1, ?_, P1.mono (by omega)⟩
  have z1 : noLams [D.cell 2] = true := by simp [noLams, DL.noLam]
  have z2 := hS.noLam
  have z3 := P1.noLam
  have z4 : DL.noLam (.bl true) = true := rfl
  simp only [g__law_bounds_right, fnDL, z1, z2, z3, z4, e, and_self, if_true]
end W_k10
set_option maxRecDepth 100000
set_option maxHeartbeats 4000000
set_option exponentiation.threshold 4000
namespace W_k10
open DL ST
def Odd (o : D) : Prop := o = .non ∨ o = .bl true ∨ o = .str [49] ∨ o = .lst [.int 1]
theorem odd_int {o : D} (h : Odd o) (S : List Cell) : g_is_integer [o] S = .ok (.bl false) S := by
  have i1 : bIsi ["Place", "Walk"] [.non, .ty "int"] = some (.bl false) := by simp [bIsi, tyOfD, tyD, isOne, mem_ty, isTy]
  have i2 : bIsi ["Place", "Walk"] [.str [49], .ty "int"] = some (.bl false) := by simp [bIsi, tyOfD, tyD, isOne, mem_ty, isTy]
  have i3 : bIsi ["Place", "Walk"] [.lst [.int 1], .ty "int"] = some (.bl false) := by simp [bIsi, tyOfD, tyD, isOne, mem_ty, isTy]
  have i4 : bIsi ["Place", "Walk"] [.bl true, .ty "int"] = some (.bl true) := by simp [bIsi, tyOfD, tyD, isOne, mem_ty, isTy]
  have i5 : bIsi ["Place", "Walk"] [.bl true, .ty "bool"] = some (.bl true) := by simp [bIsi, tyOfD, tyD, isOne, mem_ty, isTy]
  rcases h with rfl | rfl | rfl | rfl
  · simp [g_is_integer, b_is_integer, fnD, i1]
  · simp [g_is_integer, b_is_integer, fnD, i4, i5]
  · simp [g_is_integer, b_is_integer, fnD, i2]
  · simp [g_is_integer, b_is_integer, fnD, i3]
theorem odd_whole {o : D} (h : Odd o) (S : List Cell) : g_is_whole [o, .int 0] S = .ok (.bl false) S := by
  have e := odd_int h S
  simp [g_is_whole, b_is_whole, fnD, e]
theorem turned_bad {o W : D} (h : Odd o) (S : List Cell) : g_Walk_turned [W, o] S = .exc (badN o) S := by
  have e := odd_int h S
  simp [g_Walk_turned, b_Walk_turned, fnD, e]
theorem repeated_bad {o W : D} (h : Odd o) (S : List Cell) : g_Walk_repeated [W, o] S = .exc (badN o) S := by
  have e := odd_whole h S
  simp [g_Walk_repeated, b_Walk_repeated, fnD, e]
theorem repeated_neg {W : D} (S : List Cell) : g_Walk_repeated [W, .int (-1)] S = .exc (badN (.int (-1))) S := by
  simp [g_Walk_repeated, b_Walk_repeated, fnD]
theorem ne_num {o : D} (h : Odd o) : dNe (.tup [.str [110, 117, 109, 98, 101, 114], o]) (.tup [.str [110, 117, 109, 98, 101, 114], o]) = some (.bl false) := by
  rcases h with rfl | rfl | rfl | rfl
  all_goals exact ne_refl ⟨by decide, by decide⟩
theorem odd_ok {S : List Cell} {L x2 x3 o : D} {R : Runs} (t1 : S[1]? = some (.tab "law")) (h : Odd o) : w_law_0 ⟨[.val L, .val (.cell 2), .val x2, .val x3, .val (wk R), .val o], S⟩ = .ok .nx ⟨[.val L, .val (.cell 2), .val x2, .val x3, .val (wk R), .val o], S⟩ := by
  have n1 := ne_num h
  have h1 := turned_bad (W := wk R) h S
  have h2 := repeated_bad (W := wk R) h S
  generalize rD R = A at *
  simp [-dNe_tt, w_law_0, lb_law_0, lb_law_1, lb_law_2, b__law_refused, fnD, List.lookup, t1, n1, h1, h2]
theorem neg_ok {S : List Cell} {L x2 x3 x5 : D} {R : Runs} (t1 : S[1]? = some (.tab "law")) : eCallL 1 (fun Λ => fnD 1 (b__law_refused Λ) 1) (fun n => List.lookup n [("law.0", lb_law_0), ("law.1", lb_law_1), ("law.2", lb_law_2)]) (aCons (eLam 1 "law" "law.2") (aNil)) ⟨[.val L, .val (.cell 2), .val x2, .val x3, .val (wk R), .val x5], S⟩ = .ok (.tup [.str [110, 117, 109, 98, 101, 114], .int (-1)]) ⟨[.val L, .val (.cell 2), .val x2, .val x3, .val (wk R), .val x5], S⟩ := by
  have h2 := repeated_neg (W := wk R) S
  generalize rD R = A at *
  simp [-dNe_tt, lb_law_0, lb_law_1, lb_law_2, b__law_refused, fnD, List.lookup, t1, h2]
theorem odds_ok {S : List Cell} {L x2 x3 x5 : Sl} {l d2 d3 : D} {R : Runs} (t1 : S[1]? = some (.tab "law")) : forL (gN 5) w_law_0 [.non, .bl true, .str [49], .lst [.int 1]] ⟨[.val l, .val (.cell 2), .val d2, .val d3, .val (wk R), x5], S⟩ = .ok .nx ⟨[.val l, .val (.cell 2), .val d2, .val d3, .val (wk R), .val (.lst [.int 1])], S⟩ := by
  have f := fun (o : D) (h : Odd o) => odd_ok (L := l) (x2 := d2) (x3 := d3) (R := R) t1 h
  exact (for_1 (f .non (.inl rfl))).trans ((for_1 (f (.bl true) (.inr (.inl rfl)))).trans ((for_1 (f (.str [49]) (.inr (.inr (.inl rfl))))).trans ((for_1 (f (.lst [.int 1]) (.inr (.inr (.inr rfl))))).trans rfl)))
theorem lap_ev {S S1 S2 S3 S4 S5 : List Cell} {L d2 : D} {x3 x4 x5 : Sl} {R : Runs} {A : List D} {f : Int}
    (e1 : g__law_pick [.cell 2, .lst [.int 0, .int 40]] S = .ok (.int f) S1) (e2 : g__law_pairs [.cell 2, .int 9, .int f] S1 = .ok (.lst A) S2) (e3 : g__law_walk [.cell 2, .lst A] S2 = .ok (wk R) S3)
    (e4 : g__law_turned_right [.cell 2, wk R, .lst A] S3 = .ok (.bl true) S4) (e5 : g__law_repeated_right [.cell 2, wk R, .lst A] S4 = .ok (.bl true) S5) (t1 : S5[1]? = some (.tab "law")) :
    w_law_1 ⟨[.val L, .val (.cell 2), .val d2, x3, x4, x5], S⟩ = .ok .nx ⟨[.val L, .val (.cell 2), .val d2, .val (.lst A), .val (wk R), .val (.lst [.int 1])], S5⟩ := by
  have c1 : eCall 2 g__law_pick (aCons (eVar 1) (aCons (eFrz (aMax (aCons (eC (.int 0)) (aCons (eC (.int 40)) (aNil))))) (aNil))) ⟨[.val L, .val (.cell 2), .val d2, x3, x4, x5], S⟩ = .ok (.int f) ⟨[.val L, .val (.cell 2), .val d2, x3, x4, x5], S1⟩ := by
    simp [e1]
  have c2 : eCall 3 g__law_pairs (aCons (eVar 1) (aCons (eC (.int 9)) (aCons (eCall 2 g__law_pick (aCons (eVar 1) (aCons (eFrz (aMax (aCons (eC (.int 0)) (aCons (eC (.int 40)) (aNil))))) (aNil)))) (aNil)))) ⟨[.val L, .val (.cell 2), .val d2, x3, x4, x5], S⟩ = .ok (.lst A) ⟨[.val L, .val (.cell 2), .val d2, x3, x4, x5], S2⟩ := by
    simp [e1, e2]
  have c3 : eCall 2 g__law_walk (aCons (eVar 1) (aCons (eVar 3) (aNil))) ⟨[.val L, .val (.cell 2), .val d2, .val (.lst A), x4, x5], S2⟩ = .ok (wk R) ⟨[.val L, .val (.cell 2), .val d2, .val (.lst A), x4, x5], S3⟩ := call_c2 rfl rfl e3
  have c4 : eCall 3 g__law_turned_right (aCons (eVar 1) (aCons (eVar 4) (aCons (eVar 3) (aNil)))) ⟨[.val L, .val (.cell 2), .val d2, .val (.lst A), .val (wk R), x5], S3⟩ = .ok (.bl true) ⟨[.val L, .val (.cell 2), .val d2, .val (.lst A), .val (wk R), x5], S4⟩ := call_c3 rfl rfl rfl e4
  have c5 : eCall 3 g__law_repeated_right (aCons (eVar 1) (aCons (eVar 4) (aCons (eVar 3) (aNil)))) ⟨[.val L, .val (.cell 2), .val d2, .val (.lst A), .val (wk R), x5], S4⟩ = .ok (.bl true) ⟨[.val L, .val (.cell 2), .val d2, .val (.lst A), .val (wk R), x5], S5⟩ := call_c3 rfl rfl rfl e5
  have c6 := odds_ok (S := S5) (L := x5) (x2 := x5) (x3 := x5) (x5 := x5) (l := L) (d2 := d2) (d3 := .lst A) (R := R) t1
  have c7 := neg_ok (S := S5) (L := L) (x2 := d2) (x3 := .lst A) (x5 := .lst [.int 1]) (R := R) t1
  have dn : dNe (.tup [.str [110, 117, 109, 98, 101, 114], .int (-1)]) (.tup [.str [110, 117, 109, 98, 101, 114], .int (-1)]) = some (.bl false) := ne_refl (by simp)
  have k1 : eTup (aCons (eC (.str [110, 117, 109, 98, 101, 114])) (aCons (eNeg (eC (.int 1))) (aNil))) ⟨[.val L, .val (.cell 2), .val d2, .val (.lst A), .val (wk R), .val (.lst [.int 1])], S5⟩ = .ok (.tup [.str [110, 117, 109, 98, 101, 114], .int (-1)]) ⟨[.val L, .val (.cell 2), .val d2, .val (.lst A), .val (wk R), .val (.lst [.int 1])], S5⟩ := tup_2 rfl (neg_e rfl)
  have it : itSeq (eFrz (aMax (aCons (eC .non) (aCons (eC (.bl true)) (aCons (eC (.str [49])) (aCons (eFrz (aMax (aCons (eC (.int 1)) (aNil)))) (aNil))))))) ⟨[.val L, .val (.cell 2), .val d2, .val (.lst A), .val (wk R), x5], S5⟩ = .ok [.non, .bl true, .str [49], .lst [.int 1]] ⟨[.val L, .val (.cell 2), .val d2, .val (.lst A), .val (wk R), x5], S5⟩ := by
    generalize rD R = B
    simp
  unfold w_law_1
  refine (sq_nx (set_e c2)).trans ?_
  show sSeq _ _ ⟨[.val L, .val (.cell 2), .val d2, .val (.lst A), x4, x5], S2⟩ = _
  refine (sq_nx (set_e c3)).trans ?_
  show sSeq _ _ ⟨[.val L, .val (.cell 2), .val d2, .val (.lst A), .val (wk R), x5], S3⟩ = _
  have k2 : (bOr (bNot (eTru (eCall 3 g__law_turned_right (aCons (eVar 1) (aCons (eVar 4) (aCons (eVar 3) (aNil))))))) (bNot (eTru (eCall 3 g__law_repeated_right (aCons (eVar 1) (aCons (eVar 4) (aCons (eVar 3) (aNil)))))))) ⟨[.val L, .val (.cell 2), .val d2, .val (.lst A), .val (wk R), x5], S3⟩ = .ok false ⟨[.val L, .val (.cell 2), .val d2, .val (.lst A), .val (wk R), x5], S5⟩ := (or_f (not_e (tru_e c4))).trans (not_e (tru_e c5))
  refine (sq_if_f k2).trans ?_
  refine (sq_nx (for_it it c6)).trans ?_
  have k3 := eB_of (op_2 c7 k1 dn)
  exact (if_f k3).trans rfl
theorem lap_ok {n : Nat} {S : List Cell} {L d2 : D} {x3 x4 x5 : Sl} (hS : Pen n S) (hn : n + 1000 < 2 ^ 20) : ∃ s', w_law_1 ⟨[.val L, .val (.cell 2), .val d2, x3, x4, x5], S⟩ = .ok .nx s' ∧ (∃ y3 y4 y5, s'.sl = [.val L, .val (.cell 2), .val d2, y3, y4, y5]) ∧ Pen (n + 300) s'.st := by
  obtain ⟨f, S1, e1, hf, P1⟩ := pick_ok (xs := [.int 0, .int 40]) hS (by omega) (by simp) (by simp)
  have : ∃ f', f = .int f' ∧ 0 ≤ f' ∧ f' < 105 := by
    simp at hf
    rcases hf with rfl | rfl <;> exact ⟨_, rfl, by omega, by omega⟩
  obtain ⟨f, rfl, f0, f1⟩ := this
  obtain ⟨r, S2, e2, g, hl, hm, P2⟩ := pairs_ok P1 (by omega) f1 f0
  have hbr : Bd (len r) 350 := ⟨by
    have h1 := len_le hm
    have h2 := len_nonneg g
    have h3 : (r.length : Int) * 2 ^ 340 ≤ 9 * 2 ^ 340 := Int.mul_le_mul_of_nonneg_right (by omega) (by decide)
    have h4 : (9 : Int) * 2 ^ 340 < 2 ^ 350 := by decide
    have e : ((2 ^ 350 : Nat) : Int) = 2 ^ 350 := by simp
    omega⟩
  obtain ⟨S3, e3, P3⟩ := walk_ok P2 (by omega) g (by omega)
  obtain ⟨S4, e4, P4⟩ := turned_right_ok P3 (by omega) g hl hbr
  obtain ⟨S5, e5, P5⟩ := repeated_right_ok P4 (by omega) g hl hbr
  exact ⟨_, lap_ev e1 e2 e3 e4 e5 P5.tabs.2, ⟨_, _, _, rfl⟩, P5.mono (by omega)⟩
theorem law_ok : ∀ ns : List Int, ns.length ≤ 63 → (∀ z ∈ ns, PySem.Builtin.Int.intBits z ≤ 1048576) → ∃ S, g_law [.scr (ns.map D.int)] [.tab "_law_bounds_right", .tab "law"] = .ok (.bl true) S := by
  intro ns hl _
  obtain ⟨S0, e0, P0⟩ := begin_ok ns
  have hk : ∃ k : Nat, (2 + (if (ns.length : Int) < 3 then (ns.length : Int) else 3)).toNat = k ∧ k ≤ 6 := ⟨_, rfl, by split <;> omega⟩
  obtain ⟨k, hk1, hk2⟩ := hk
  have q : -4611686018427387904 ≤ (2 + (if (ns.length : Int) < 3 then (ns.length : Int) else 3)) ∧ 2 + (if (ns.length : Int) < 3 then (ns.length : Int) else 3) < 4611686018427387904 := by split <;> omega
  obtain ⟨s', e2, ⟨y2, y3, y4, y5, hs⟩, hP⟩ := for_inv (g := gN 2) (b := w_law_1) (items := rngL 0 k) (s := ⟨[.val (.scr (ns.map D.int)), .val (.cell 2), .un, .un, .un, .un], S0⟩)
    (fun i s => (∃ y2 y3 y4 y5, s.sl = [.val (.scr (ns.map D.int)), .val (.cell 2), y2, y3, y4, y5]) ∧ Pen (300 * i) s.st)
    ⟨⟨_, _, _, _, rfl⟩, P0⟩ (fun i d s hi hp => by
      obtain ⟨⟨y2, y3, y4, y5, hs⟩, hP⟩ := hp
      obtain ⟨sl, st⟩ := s
      simp only at hs hP
      subst hs
      obtain ⟨hi1, rfl⟩ := rngL_get hi
      obtain ⟨s2, e, ⟨z3, z4, z5, h2⟩, P2⟩ := lap_ok (L := .scr (ns.map D.int)) (d2 := .int (0 + i)) (x3 := y3) (x4 := y4) (x5 := y5) hP (by omega)
      exact ⟨_, s2, rfl, .inl e, ⟨_, _, _, _, h2⟩, P2.mono (by omega)⟩)
  obtain ⟨sl, st⟩ := s'
  simp only at hs hP
  subst hs
  have hlr : (rngL 0 k).length = k := by simp [rngL0]
  obtain ⟨S2, e4, P4⟩ := bounds_ok hP (by omega)
  refine ⟨S2, ?_⟩
  have z1 : noLams [D.scr (ns.map D.int)] = true := by simp [noLams, DL.noLam, noLams_int]
  have z2 : noLamS [Cell.tab "_law_bounds_right", Cell.tab "law"] = true := rfl
  have z3 := P4.noLam
  have z4 : DL.noLam (.bl true) = true := rfl
  have e3 : fnD 1 b_law 5 [.scr (ns.map D.int)] [.tab "_law_bounds_right", .tab "law"] = .ok (.bl true) S2 := by simp [b_law, fnD, e0, q, hk1, e2, e4]
  simp only [g_law, fnDL, z1, z2, z3, z4, e3, and_self, if_true]
end W_k10
open PySem PySem.W PyProof.Rows
set_option maxRecDepth 100000 in
set_option maxHeartbeats 0 in
theorem PySem.Challenge.cw_areawalks_k10_whole_walks_turned_holds : PySem.Challenge.rw_areawalks_k10_whole_walks_turned.Holds := by
  w_on; o_law; k_head; (case hw => w_witness2)
  k_fill
  refine DL.walk_ofD (l := PySem.Challenge.rw_areawalks_k10_whole_walks_turned) (n := 63) (k := 17) (x := "_law_script") (CX := fun w => L2.CX PySem.Challenge.rw_areawalks_k10_whole_walks_turned.prog w) rfl (by decide) rfl ⟨rfl, by decide, by decide⟩ (fun w h Y => PySem.W.km_in_of Y) ?F (fun w => DL.noCX)
  case F =>
    intro w mg fa h KX G hmg TT
    refine' W_k10.all_mk KX G hmg TT ?aC_Place ?cB_Place ?aC_Walk ?cB_Walk ?cc_Place_Walk ?cc_Walk_Place ?aC_BadNumber ?xl_BadNumber ?xr_BadNumber ?xi_BadNumber ?xf_BadNumber ?xc_BadNumber ?xd_BadNumber ?xv_BadNumber ?xe_BadNumber ?xk_BadNumber ?xB_BadNumber ?aC_BadWord ?xl_BadWord ?xr_BadWord ?xi_BadWord ?xf_BadWord ?xc_BadWord ?xd_BadWord ?xv_BadWord ?xe_BadWord ?xk_BadWord ?xB_BadWord ?aC_TooMany ?xl_TooMany ?xr_TooMany ?xi_TooMany ?xf_TooMany ?xc_TooMany ?xd_TooMany ?xv_TooMany ?xe_TooMany ?xk_TooMany ?xB_TooMany ?xtop ?xsup ?xm_BadNumber_BadNumber ?xm_BadNumber_TooMany ?xm_BadWord_BadNumber ?xm_BadWord_TooMany ?xm_TooMany_BadNumber ?xm_TooMany_TooMany ?a1_merged ?l1_merged ?c1_merged ?k1_merged ?a1_is_list ?l1_is_list ?c1_is_list ?k1_is_list ?a1_is_integer ?l1_is_integer ?c1_is_integer ?k1_is_integer ?a1_is_whole ?l1_is_whole ?c1_is_whole ?k1_is_whole ?a1_is_pair ?l1_is_pair ?c1_is_pair ?k1_is_pair ?a1_pairs_told ?l1_pairs_told ?c1_pairs_told ?k1_pairs_told ?a1_WalkX_initX ?i1_WalkX_initX ?l1_WalkX_initX ?c1_WalkX_initX ?k1_WalkX_initX ?pa_Walk_length ?pg_Walk_length ?pt_Walk_length ?pr_Walk_length ?l1_Walk_length ?c1_Walk_length ?k1_Walk_length ?a1_Walk_repeated ?i1_Walk_repeated ?l1_Walk_repeated ?c1_Walk_repeated ?k1_Walk_repeated ?a1__law_draw ?l1__law_draw ?c1__law_draw ?k1__law_draw ?a1__law_great ?l1__law_great ?c1__law_great ?k1__law_great ?a1__law_refused ?l1__law_refused ?c1__law_refused ?k1__law_refused ?a1__law_bounds_right ?l1__law_bounds_right ?c1__law_bounds_right ?k1__law_bounds_right ?tl__law_bounds_right ?tv__law_bounds_right ?tq__law_bounds_right ?tn__law_bounds_right ?tr__law_bounds_right ?a1__law_pick ?l1__law_pick ?c1__law_pick ?k1__law_pick ?a1__law_pairs ?l1__law_pairs ?c1__law_pairs ?k1__law_pairs ?a1__law_pen ?l1__law_pen ?c1__law_pen ?k1__law_pen ?a1_PlaceX_eqX ?i1_PlaceX_eqX ?l1_PlaceX_eqX ?c1_PlaceX_eqX ?k1_PlaceX_eqX ?a1_PlaceX_initX ?i1_PlaceX_initX ?l1_PlaceX_initX ?c1_PlaceX_initX ?k1_PlaceX_initX ?a1_pairs_below ?l1_pairs_below ?c1_pairs_below ?k1_pairs_below ?a1_Place_power ?i1_Place_power ?l1_Place_power ?c1_Place_power ?k1_Place_power ?a1_WalkX_eqX ?i1_WalkX_eqX ?l1_WalkX_eqX ?c1_WalkX_eqX ?k1_WalkX_eqX ?a1_Walk_letters ?i1_Walk_letters ?l1_Walk_letters ?c1_Walk_letters ?k1_Walk_letters ?a1_gone_on ?l1_gone_on ?c1_gone_on ?k1_gone_on ?a1_Walk_spots ?i1_Walk_spots ?l1_Walk_spots ?c1_Walk_spots ?k1_Walk_spots ?a1_Walk_place ?i1_Walk_place ?l1_Walk_place ?c1_Walk_place ?k1_Walk_place ?a1__law_runs_of ?l1__law_runs_of ?c1__law_runs_of ?k1__law_runs_of ?a1__law_repeated_right ?l1__law_repeated_right ?c1__law_repeated_right ?k1__law_repeated_right ?a1_Walk_mirrored ?i1_Walk_mirrored ?l1_Walk_mirrored ?c1_Walk_mirrored ?k1_Walk_mirrored ?a1_turned_letter ?l1_turned_letter ?c1_turned_letter ?k1_turned_letter ?a1_Walk_turned ?i1_Walk_turned ?l1_Walk_turned ?c1_Walk_turned ?k1_Walk_turned ?a1__law_ground ?l1__law_ground ?c1__law_ground ?k1__law_ground ?a1__law_signed ?l1__law_signed ?c1__law_signed ?k1__law_signed ?a1__law_turned_right ?l1__law_turned_right ?c1__law_turned_right ?k1__law_turned_right ?a1__law_walk ?l1__law_walk ?c1__law_walk ?k1__law_walk ?a1_law ?l1_law ?c1_law ?k1_law ?tl_law ?tv_law ?tq_law ?tn_law ?tr_law ?z1_all ?z1_bool ?z1_int ?z1_isinstance ?z1_len ?z1_list ?z1_min ?z1_range ?z1_str ?z1_sum ?z1_tuple ?k0_LETTERS ?kx_LETTERS ?k0_MOST_LETTERS ?kx_MOST_LETTERS ?k0_MOST_RUNS ?kx_MOST_RUNS ?tnd W_k10.law_ok
    (case aC_Place => k_is)
    (case cB_Place => kernel_rfl)
    (case aC_Walk => k_is)
    (case cB_Walk => kernel_rfl)
    (case cc_Place_Walk => kernel_rfl)
    (case cc_Walk_Place => kernel_rfl)
    (case aC_BadNumber => k_is)
    (case xl_BadNumber => k_is)
    (case xr_BadNumber => kernel_rfl)
    (case xi_BadNumber => k_is)
    (case xf_BadNumber => k_is)
    (case xc_BadNumber => k_is)
    (case xd_BadNumber => k_is)
    (case xv_BadNumber => rfl)
    (case xe_BadNumber => kernel_rfl)
    (case xk_BadNumber => k_is)
    (case xB_BadNumber => kernel_rfl)
    (case aC_BadWord => k_is)
    (case xl_BadWord => k_is)
    (case xr_BadWord => kernel_rfl)
    (case xi_BadWord => k_is)
    (case xf_BadWord => k_is)
    (case xc_BadWord => k_is)
    (case xd_BadWord => k_is)
    (case xv_BadWord => rfl)
    (case xe_BadWord => kernel_rfl)
    (case xk_BadWord => k_is)
    (case xB_BadWord => kernel_rfl)
    (case aC_TooMany => k_is)
    (case xl_TooMany => k_is)
    (case xr_TooMany => kernel_rfl)
    (case xi_TooMany => k_is)
    (case xf_TooMany => k_is)
    (case xc_TooMany => k_is)
    (case xd_TooMany => k_is)
    (case xv_TooMany => rfl)
    (case xe_TooMany => kernel_rfl)
    (case xk_TooMany => k_is)
    (case xB_TooMany => kernel_rfl)
    (case xtop => kernel_rfl)
    (case xsup => k_is)
    (case xm_BadNumber_BadNumber => kernel_rfl)
    (case xm_BadNumber_TooMany => kernel_rfl)
    (case xm_BadWord_BadNumber => kernel_rfl)
    (case xm_BadWord_TooMany => kernel_rfl)
    (case xm_TooMany_BadNumber => kernel_rfl)
    (case xm_TooMany_TooMany => kernel_rfl)
    (case a1_merged => k_is)
    (case l1_merged => k_is)
    (case c1_merged => k_is)
    (case k1_merged => k_is)
    (case a1_is_list => k_is)
    (case l1_is_list => k_is)
    (case c1_is_list => k_is)
    (case k1_is_list => k_is)
    (case a1_is_integer => k_is)
    (case l1_is_integer => k_is)
    (case c1_is_integer => k_is)
    (case k1_is_integer => k_is)
    (case a1_is_whole => k_is)
    (case l1_is_whole => k_is)
    (case c1_is_whole => k_is)
    (case k1_is_whole => k_is)
    (case a1_is_pair => k_is)
    (case l1_is_pair => k_is)
    (case c1_is_pair => k_is)
    (case k1_is_pair => k_is)
    (case a1_pairs_told => k_is)
    (case l1_pairs_told => k_is)
    (case c1_pairs_told => k_is)
    (case k1_pairs_told => k_is)
    (case a1_WalkX_initX => k_is)
    (case i1_WalkX_initX => k_is)
    (case l1_WalkX_initX => k_is)
    (case c1_WalkX_initX => k_is)
    (case k1_WalkX_initX => k_is)
    (case pa_Walk_length => k_is)
    (case pg_Walk_length => kernel_rfl)
    (case pt_Walk_length => kernel_rfl)
    (case pr_Walk_length => k_is)
    (case l1_Walk_length => k_is)
    (case c1_Walk_length => k_is)
    (case k1_Walk_length => k_is)
    (case a1_Walk_repeated => k_is)
    (case i1_Walk_repeated => k_is)
    (case l1_Walk_repeated => k_is)
    (case c1_Walk_repeated => k_is)
    (case k1_Walk_repeated => k_is)
    (case a1__law_draw => k_is)
    (case l1__law_draw => k_is)
    (case c1__law_draw => k_is)
    (case k1__law_draw => k_is)
    (case a1__law_great => k_is)
    (case l1__law_great => k_is)
    (case c1__law_great => k_is)
    (case k1__law_great => k_is)
    (case a1__law_refused => k_is)
    (case l1__law_refused => k_is)
    (case c1__law_refused => k_is)
    (case k1__law_refused => k_is)
    (case a1__law_bounds_right => k_is)
    (case l1__law_bounds_right => k_is)
    (case c1__law_bounds_right => k_is)
    (case k1__law_bounds_right => k_is)
    (case tl__law_bounds_right => k_is)
    (case tv__law_bounds_right => rfl)
    (case tq__law_bounds_right => kernel_rfl)
    (case tn__law_bounds_right => kernel_rfl)
    (case tr__law_bounds_right => kernel_rfl)
    (case a1__law_pick => k_is)
    (case l1__law_pick => k_is)
    (case c1__law_pick => k_is)
    (case k1__law_pick => k_is)
    (case a1__law_pairs => k_is)
    (case l1__law_pairs => k_is)
    (case c1__law_pairs => k_is)
    (case k1__law_pairs => k_is)
    (case a1__law_pen => k_is)
    (case l1__law_pen => k_is)
    (case c1__law_pen => k_is)
    (case k1__law_pen => k_is)
    (case a1_PlaceX_eqX => k_is)
    (case i1_PlaceX_eqX => k_is)
    (case l1_PlaceX_eqX => k_is)
    (case c1_PlaceX_eqX => k_is)
    (case k1_PlaceX_eqX => k_is)
    (case a1_PlaceX_initX => k_is)
    (case i1_PlaceX_initX => k_is)
    (case l1_PlaceX_initX => k_is)
    (case c1_PlaceX_initX => k_is)
    (case k1_PlaceX_initX => k_is)
    (case a1_pairs_below => k_is)
    (case l1_pairs_below => k_is)
    (case c1_pairs_below => k_is)
    (case k1_pairs_below => k_is)
    (case a1_Place_power => k_is)
    (case i1_Place_power => k_is)
    (case l1_Place_power => k_is)
    (case c1_Place_power => k_is)
    (case k1_Place_power => k_is)
    (case a1_WalkX_eqX => k_is)
    (case i1_WalkX_eqX => k_is)
    (case l1_WalkX_eqX => k_is)
    (case c1_WalkX_eqX => k_is)
    (case k1_WalkX_eqX => k_is)
    (case a1_Walk_letters => k_is)
    (case i1_Walk_letters => k_is)
    (case l1_Walk_letters => k_is)
    (case c1_Walk_letters => k_is)
    (case k1_Walk_letters => k_is)
    (case a1_gone_on => k_is)
    (case l1_gone_on => k_is)
    (case c1_gone_on => k_is)
    (case k1_gone_on => k_is)
    (case a1_Walk_spots => k_is)
    (case i1_Walk_spots => k_is)
    (case l1_Walk_spots => k_is)
    (case c1_Walk_spots => k_is)
    (case k1_Walk_spots => k_is)
    (case a1_Walk_place => k_is)
    (case i1_Walk_place => k_is)
    (case l1_Walk_place => k_is)
    (case c1_Walk_place => k_is)
    (case k1_Walk_place => k_is)
    (case a1__law_runs_of => k_is)
    (case l1__law_runs_of => k_is)
    (case c1__law_runs_of => k_is)
    (case k1__law_runs_of => k_is)
    (case a1__law_repeated_right => k_is)
    (case l1__law_repeated_right => k_is)
    (case c1__law_repeated_right => k_is)
    (case k1__law_repeated_right => k_is)
    (case a1_Walk_mirrored => k_is)
    (case i1_Walk_mirrored => k_is)
    (case l1_Walk_mirrored => k_is)
    (case c1_Walk_mirrored => k_is)
    (case k1_Walk_mirrored => k_is)
    (case a1_turned_letter => k_is)
    (case l1_turned_letter => k_is)
    (case c1_turned_letter => k_is)
    (case k1_turned_letter => k_is)
    (case a1_Walk_turned => k_is)
    (case i1_Walk_turned => k_is)
    (case l1_Walk_turned => k_is)
    (case c1_Walk_turned => k_is)
    (case k1_Walk_turned => k_is)
    (case a1__law_ground => k_is)
    (case l1__law_ground => k_is)
    (case c1__law_ground => k_is)
    (case k1__law_ground => k_is)
    (case a1__law_signed => k_is)
    (case l1__law_signed => k_is)
    (case c1__law_signed => k_is)
    (case k1__law_signed => k_is)
    (case a1__law_turned_right => k_is)
    (case l1__law_turned_right => k_is)
    (case c1__law_turned_right => k_is)
    (case k1__law_turned_right => k_is)
    (case a1__law_walk => k_is)
    (case l1__law_walk => k_is)
    (case c1__law_walk => k_is)
    (case k1__law_walk => k_is)
    (case a1_law => k_is)
    (case l1_law => k_is)
    (case c1_law => k_is)
    (case k1_law => k_is)
    (case tl_law => k_is)
    (case tv_law => rfl)
    (case tq_law => kernel_rfl)
    (case tn_law => kernel_rfl)
    (case tr_law => kernel_rfl)
    (case z1_all => k_is)
    (case z1_bool => k_is)
    (case z1_int => k_is)
    (case z1_isinstance => k_is)
    (case z1_len => k_is)
    (case z1_list => k_is)
    (case z1_min => k_is)
    (case z1_range => k_is)
    (case z1_str => k_is)
    (case z1_sum => k_is)
    (case z1_tuple => k_is)
    (case k0_LETTERS => k_is)
    (case kx_LETTERS => kernel_rfl)
    (case k0_MOST_LETTERS => k_is)
    (case kx_MOST_LETTERS => kernel_rfl)
    (case k0_MOST_RUNS => k_is)
    (case kx_MOST_RUNS => kernel_rfl)
    (case tnd => decide)
