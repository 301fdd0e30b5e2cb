import PyProof.Rows.All
import Wide.All
import OpenK.AllK
import Wide.FinOn
import HandS.ForMost
import HandS.ForExc
import HandS.CallSlots
import HandS.IsInst
import HandS.Wide
import HandS.Flow
import HandS.Property
import HandS.OwnEq
import KE.KOpsOwn
import HandS.Zip
import HandS.Style
import HandS.Exc
import HandS.ExcInit
import HandS.TryMany
import KE.KExcSuper
import HandS.ExcField
import HandS.Lambda
import HandS.EndTab
import HandS.DeepEq
import HandS.WideBits
import HandS.Deep
import HandS.StrMore
import HandS.NoneIn
import PyProof.StrBlock2
import HandS.TupAny
import HandS.Iter
import HandS.ExcOwn
import PyProof.ExcBaseAll.ValueError
import KE.KCallOwn
import HandS.MakeKwOnly
import PySem.Challenge.RW_areawalks_k02_places
set_option Elab.async false
set_option linter.all false
set_option maxRecDepth 100000
set_option maxHeartbeats 4000000
set_option autoImplicit false
namespace DL
open PySem PySem.Spec PyProof.Rows L2

/-! ### data -/
/-- a name or a text by its code points -/
abbrev Nm := List Nat
def nm (l : Nm) : Str := ⟨l.toArray⟩
theorem nm_inj {a b : Nm} (h : nm a = nm b) : a = b := by
  have := congrArg (fun s : Str => s.cps.toList) h
  simpa [nm] using this
inductive DK where
  | i (n : Int)
  | s (l : List Nat)
  deriving DecidableEq
inductive D where
  | non | bl (b : Bool) | int (i : Int) | str (l : List Nat)
  | tup (xs : List D) | lst (xs : List D) | scr (xs : List D)
  | dic (kvs : List (DK × D))
  | ins (c : String) (fs : List (Nm × D))
  | cell (n : Nat) | cls (c : String) | ty (n : String) | fn (f : String) | lam (k : String)
instance : Inhabited D := ⟨.non⟩
/-- a thing of the store, by reference -/
inductive Cell where
  | dic (kvs : List (DK × D))
  | lst (xs : List D)
  | obj (c : String) (fs : List (Nm × D))
  | tab (k : String)
instance : Inhabited Cell := ⟨.lst []⟩
/-- a slot: no value known, a value, a list / dict / instance of this frame's own -/
inductive Sl where
  | un | val (d : D) | ol (xs : List D) | od (kvs : List (DK × D)) | oi (c : String) (fs : List (Nm × D))
instance : Inhabited Sl := ⟨.un⟩
def Sl.own : Sl → Bool
  | .un => false
  | .val _ => false
  | _ => true
structure Xc where
  cls : String
  fs : List (Nm × D)
structure DS where
  sl : List Sl
  st : List Cell
inductive Res (σ α : Type) where
  | ok (a : α) (t : σ) | exc (x : Xc) (t : σ) | stuck
def Res.bind {σ α β : Type} (r : Res σ α) (k : α → σ → Res σ β) : Res σ β := match r with
  | .ok a t => k a t
  | .exc x t => .exc x t
  | .stuck => .stuck
@[simp] theorem Res.bind_ok {σ α β : Type} (a : α) (t : σ) (k : α → σ → Res σ β) : (Res.ok a t).bind k = k a t := rfl
@[simp] theorem Res.bind_exc {σ α β : Type} (x : Xc) (t : σ) (k : α → σ → Res σ β) : (Res.exc x t).bind k = .exc x t := rfl
@[simp] theorem Res.bind_stuck {σ α β : Type} (k : α → σ → Res σ β) : (Res.stuck).bind k = .stuck := rfl
inductive Out where
  | nx | rt (d : D) | bk | ct
abbrev DE := DS → Res DS D
abbrev DA := DS → Res DS (List D)
abbrev DT := DS → Res DS Bool
abbrev DStm := DS → Res DS Out
abbrev DFn := List D → List Cell → Res (List Cell) D

/-! ### how data lie in the heap -/
structure Wd where
  F : Hp
  ρ : List Addr
structure Wd.le (w w' : Wd) : Prop where
  f : ∀ a o, w.F a = some o → w'.F a = some o
  r : w.ρ <+: w'.ρ
theorem Wd.le.refl (w : Wd) : w.le w := ⟨fun _ _ h => h, List.prefix_refl _⟩
theorem Wd.le.trans {a b c : Wd} (h : a.le b) (k : b.le c) : a.le c := ⟨fun x o e => k.f x o (h.f x o e), h.r.trans k.r⟩
structure Gam where
  K : PySem.W.Frag
  ct : String → Option Addr
  ft : String → Option Addr
  lam : String → Addr → Wd → Prop := fun _ _ _ => False
  lamM : ∀ (k : String) (f : Addr) (w w' : Wd), w.le w' → lam k f w → lam k f w' := by (intros; assumption)
  tab : String → Addr → Hp → HO → Prop := fun _ _ _ _ => False
  tabM : ∀ (k : String) (a : Addr) (F F' : Hp) (o : HO), (∀ a o, F a = some o → F' a = some o) → tab k a F o → tab k a F' o := by (intros; assumption)
def dkey : DK → Key
  | .i n => .inl n
  | .s l => .inr (nm l)
mutual
inductive Rep (G : Gam) (w : Wd) : V → D → Prop
  | non : Rep G w .non .non
  | bl (b : Bool) : Rep G w (.bl b) (.bl b)
  | int (i : Int) : Rep G w (.int i) (.int i)
  | str (l : List Nat) : Rep G w (.str (nm l)) (.str l)
  | tup {a : Addr} {vs : List V} {ds : List D} : SqT G.K w.F a vs → Reps G w vs ds → Rep G w (.ref a) (.tup ds)
  | lst {a : Addr} {vs : List V} {ds : List D} : w.F a = some (.lst vs) → Reps G w vs ds → Rep G w (.ref a) (.lst ds)
  | scr {a : Addr} {vs : List V} {ds : List D} : SqL G.K w.F a vs → Reps G w vs ds → Rep G w (.ref a) (.scr ds)
  | dic {a : Addr} {vs : List (Key × V)} {ds : List (DK × D)} : w.F a = some (.dK vs) → RepK G w vs ds → Rep G w (.ref a) (.dic ds)
  | ins {a C dx : Addr} {c : String} {vs : List (Str × V)} {ds : List (Nm × D)} : G.ct c = some C → w.F a = some (.ins C dx vs) → RepF G w vs ds → Rep G w (.ref a) (.ins c ds)
  | cell {a : Addr} {n : Nat} : w.ρ[n]? = some a → Rep G w (.ref a) (.cell n)
  | cls {C : Addr} {c : String} : G.ct c = some C → Rep G w (.ref C) (.cls c)
  | ty (n : String) : Rep G w (.ty n) (.ty n)
  | fn {a : Addr} {f : String} : G.ft f = some a → Rep G w (.ref a) (.fn f)
  | lam {f : Addr} {k : String} : G.lam k f w → Rep G w (.ref f) (.lam k)
inductive Reps (G : Gam) (w : Wd) : List V → List D → Prop
  | nil : Reps G w [] []
  | cons {v : V} {d : D} {vs : List V} {ds : List D} : Rep G w v d → Reps G w vs ds → Reps G w (v :: vs) (d :: ds)
inductive RepF (G : Gam) (w : Wd) : List (Str × V) → List (Nm × D) → Prop
  | nil : RepF G w [] []
  | cons {f : Nm} {v : V} {d : D} {vs : List (Str × V)} {ds : List (Nm × D)} : Rep G w v d → RepF G w vs ds → RepF G w ((nm f, v) :: vs) ((f, d) :: ds)
inductive RepK (G : Gam) (w : Wd) : List (Key × V) → List (DK × D) → Prop
  | nil : RepK G w [] []
  | cons {k : DK} {v : V} {d : D} {vs : List (Key × V)} {ds : List (DK × D)} : Rep G w v d → RepK G w vs ds → RepK G w ((dkey k, v) :: vs) ((k, d) :: ds)
end
theorem SqT.le {K : PySem.W.Frag} {F F' : Hp} {a : Addr} {xs : List V} (h : SqT K F a xs) (e : ∀ a o, F a = some o → F' a = some o) : SqT K F' a xs := by
  rcases h with (h | ⟨o, h⟩) | h
  · exact .inl (.inl (e _ _ h))
  · exact .inl (.inr ⟨o, e _ _ h⟩)
  · exact .inr h
theorem SqL.le {K : PySem.W.Frag} {F F' : Hp} {a : Addr} {xs : List V} (h : SqL K F a xs) (e : ∀ a o, F a = some o → F' a = some o) : SqL K F' a xs := by
  rcases h with (h | ⟨o, h⟩) | h
  · exact .inl (.inl (e _ _ h))
  · exact .inl (.inr ⟨o, e _ _ h⟩)
  · exact .inr h
theorem pre_get {α : Type} {l l' : List α} {n : Nat} {x : α} (h : l <+: l') (e : l[n]? = some x) : l'[n]? = some x := by
  obtain ⟨r, rfl⟩ := h
  rw [List.getElem?_append_left (by exact (List.getElem?_eq_some_iff.mp e).1)]
  exact e
mutual
theorem Rep.mono {G : Gam} {w w' : Wd} (h : w.le w') : ∀ {v : V} {d : D}, Rep G w v d → Rep G w' v d
  | _, _, .non => .non
  | _, _, .bl b => .bl b
  | _, _, .int i => .int i
  | _, _, .str l => .str l
  | _, _, .tup a b => .tup (SqT.le a h.f) (Reps.mono h b)
  | _, _, .lst a b => .lst (h.f _ _ a) (Reps.mono h b)
  | _, _, .scr a b => .scr (SqL.le a h.f) (Reps.mono h b)
  | _, _, .dic a b => .dic (h.f _ _ a) (RepK.mono h b)
  | _, _, .ins c a b => .ins c (h.f _ _ a) (RepF.mono h b)
  | _, _, .cell a => .cell (pre_get h.r a)
  | _, _, .cls a => .cls a
  | _, _, .ty n => .ty n
  | _, _, .fn a => .fn a
  | _, _, .lam a => .lam (G.lamM _ _ _ _ h a)
theorem Reps.mono {G : Gam} {w w' : Wd} (h : w.le w') : ∀ {v : List V} {d : List D}, Reps G w v d → Reps G w' v d
  | _, _, .nil => .nil
  | _, _, .cons a b => .cons (Rep.mono h a) (Reps.mono h b)
theorem RepF.mono {G : Gam} {w w' : Wd} (h : w.le w') : ∀ {v : List (Str × V)} {d : List (Nm × D)}, RepF G w v d → RepF G w' v d
  | _, _, .nil => .nil
  | _, _, .cons a b => .cons (Rep.mono h a) (RepF.mono h b)
theorem RepK.mono {G : Gam} {w w' : Wd} (h : w.le w') : ∀ {v : List (Key × V)} {d : List (DK × D)}, RepK G w v d → RepK G w' v d
  | _, _, .nil => .nil
  | _, _, .cons a b => .cons (Rep.mono h a) (RepK.mono h b)
end
theorem Reps.length {G : Gam} {w : Wd} : ∀ {v : List V} {d : List D}, Reps G w v d → v.length = d.length
  | _, _, .nil => rfl
  | _, _, .cons _ b => by rw [List.length_cons, List.length_cons, Reps.length b]
theorem Reps.get {G : Gam} {w : Wd} : ∀ {v : List V} {d : List D} {i : Nat} {x : D}, Reps G w v d → d[i]? = some x → ∃ y, v[i]? = some y ∧ Rep G w y x
  | _, _, _, _, .nil, e => by simp at e
  | _, _, 0, _, .cons a _, e => by simp at e; subst e; exact ⟨_, rfl, a⟩
  | _, _, i + 1, x, .cons _ b, e => by
    obtain ⟨y, h1, h2⟩ := Reps.get (i := i) (x := x) b (by simpa using e)
    exact ⟨y, by simpa using h1, h2⟩
theorem Reps.append {G : Gam} {w : Wd} : ∀ {v v' : List V} {d d' : List D}, Reps G w v d → Reps G w v' d' → Reps G w (v ++ v') (d ++ d')
  | _, _, _, _, .nil, h => h
  | _, _, _, _, .cons a b, h => .cons a (Reps.append b h)
theorem Reps.set {G : Gam} {w : Wd} {x : V} {y : D} (r : Rep G w x y) : ∀ {v : List V} {d : List D} (i : Nat), Reps G w v d → Reps G w (v.set i x) (d.set i y)
  | _, _, _, .nil => .nil
  | _, _, 0, .cons _ b => .cons r b
  | _, _, i + 1, .cons a b => .cons a (Reps.set r i b)
theorem Reps.drop {G : Gam} {w : Wd} : ∀ {v : List V} {d : List D} (n : Nat), Reps G w v d → Reps G w (v.drop n) (d.drop n)
  | _, _, 0, r => r
  | _, _, _ + 1, .nil => .nil
  | _, _, n + 1, .cons _ t => Reps.drop n t
theorem Reps.take {G : Gam} {w : Wd} : ∀ {v : List V} {d : List D} (n : Nat), Reps G w v d → Reps G w (v.take n) (d.take n)
  | _, _, 0, _ => .nil
  | _, _, _ + 1, .nil => .nil
  | _, _, n + 1, .cons r t => .cons r (Reps.take n t)
theorem Reps.ints {G : Gam} {w : Wd} : ∀ {v : List V} {ns : List Int}, Reps G w v (ns.map D.int) → v = ns.map V.int
  | _, [], h => by cases h; rfl
  | _, n :: ns, h => by
    cases h with
    | cons a b => cases a; rw [Reps.ints b]; rfl
theorem Reps.of_ints {G : Gam} {w : Wd} : ∀ ns : List Int, Reps G w (ns.map V.int) (ns.map D.int)
  | [] => .nil
  | n :: ns => .cons (.int n) (Reps.of_ints ns)
theorem RepF.look {G : Gam} {w : Wd} : ∀ {v : List (Str × V)} {d : List (Nm × D)} {f : Nm} {x : D}, RepF G w v d → d.lookup f = some x → ∃ y, v.lookup (nm f) = some y ∧ Rep G w y x
  | _, _, _, _, .nil, e => by simp at e
  | _, _, f, x, .cons (f := g) a b, e => by
    by_cases h : f = g
    · subst h
      rw [List.lookup_cons_self] at e
      cases e
      exact ⟨_, List.lookup_cons_self, a⟩
    · have h1 : (f == g) = false := beq_eq_false_iff_ne.mpr h
      have h2 : (nm f == nm g) = false := beq_eq_false_iff_ne.mpr fun q => h (nm_inj q)
      simp only [List.lookup_cons, h1] at e
      obtain ⟨y, q1, q2⟩ := RepF.look b e
      exact ⟨y, by simp only [List.lookup_cons, h2]; exact q1, q2⟩
theorem RepF.none {G : Gam} {w : Wd} : ∀ {v : List (Str × V)} {d : List (Nm × D)} {f : Nm}, RepF G w v d → d.lookup f = none → v.lookup (nm f) = none
  | _, _, _, .nil, e => rfl
  | _, _, f, .cons (f := g) a b, e => by
    by_cases h : f = g
    · subst h
      rw [List.lookup_cons_self] at e
      cases e
    · have h1 : (f == g) = false := beq_eq_false_iff_ne.mpr h
      have h2 : (nm f == nm g) = false := beq_eq_false_iff_ne.mpr fun q => h (nm_inj q)
      simp only [List.lookup_cons, h1] at e
      simp only [List.lookup_cons, h2]
      exact RepF.none b e
theorem RepF.length {G : Gam} {w : Wd} : ∀ {v : List (Str × V)} {d : List (Nm × D)}, RepF G w v d → v.length = d.length
  | _, _, .nil => rfl
  | _, _, .cons _ b => by rw [List.length_cons, List.length_cons, RepF.length b]
def putN (f : Nm) (x : D) : List (Nm × D) → List (Nm × D)
  | [] => [(f, x)]
  | (g, y) :: r => if g = f then (f, x) :: r else (g, y) :: putN f x r
/-! ### the store, the slots -/
def CellOk (G : Gam) (w : Wd) (H : Hp) (a : Addr) : Cell → Prop
  | .dic kvs => ∃ vs, H a = some (.dK vs) ∧ RepK G w vs kvs
  | .lst xs => ∃ vs, H a = some (.lst vs) ∧ Reps G w vs xs
  | .obj c fs => ∃ C dx vs, G.ct c = some C ∧ H a = some (.ins C dx vs) ∧ RepF G w vs fs
  | .tab k => ∃ o, H a = some o ∧ G.tab k a w.F o
structure FOk (G : Gam) (w : Wd) (S : List Cell) (H : Hp) : Prop where
  sub : ∀ a o, w.F a = some o → H a = some o
  len : w.ρ.length = S.length
  cel : ∀ (n : Nat) (a : Addr) (c : Cell), w.ρ[n]? = some a → S[n]? = some c → CellOk G w H a c
  nd : w.ρ.Nodup
  nf : ∀ a, a ∈ w.ρ → w.F a = none
theorem CellOk.there {G : Gam} {w : Wd} {H : Hp} {a : Addr} {c : Cell} (h : CellOk G w H a c) : ∃ o, H a = some o := by
  cases c with
  | dic kvs => obtain ⟨_, h, _⟩ := h; exact ⟨_, h⟩
  | lst xs => obtain ⟨_, h, _⟩ := h; exact ⟨_, h⟩
  | obj c fs => obtain ⟨_, _, _, _, h, _⟩ := h; exact ⟨_, h⟩
  | tab k => obtain ⟨_, h, _⟩ := h; exact ⟨_, h⟩
theorem CellOk.mono {G : Gam} {w w' : Wd} {H H' : Hp} {a : Addr} {c : Cell} (h : CellOk G w H a c) (le : w.le w') (e : H' a = H a) : CellOk G w' H' a c := by
  cases c with
  | dic kvs => obtain ⟨_, h, r⟩ := h; exact ⟨_, e.trans h, r.mono le⟩
  | lst xs => obtain ⟨_, h, r⟩ := h; exact ⟨_, e.trans h, r.mono le⟩
  | obj c fs => obtain ⟨_, _, _, q, h, r⟩ := h; exact ⟨_, _, _, q, e.trans h, r.mono le⟩
  | tab k => obtain ⟨_, h, r⟩ := h; exact ⟨_, e.trans h, G.tabM _ _ _ _ _ le.f r⟩
theorem FOk.rho {G : Gam} {w : Wd} {S : List Cell} {H : Hp} (h : FOk G w S H) {a : Addr} (ha : a ∈ w.ρ) : ∃ o, H a = some o := by
  obtain ⟨n, hn, e⟩ := List.getElem_of_mem ha
  have h1 : w.ρ[n]? = some a := by rw [List.getElem?_eq_getElem hn, e]
  have h2 : n < S.length := by rw [← h.len]; exact hn
  exact (h.cel n a _ h1 (List.getElem?_eq_getElem h2)).there
/-- from one state to a later one: what may have changed -/
structure Nx (w : Wd) (H : Hp) (w' : Wd) (H' : Hp) : Prop where
  le : w.le w'
  keep : ∀ a o, H a = some o → a ∉ w.ρ → H' a = some o
  newF : ∀ a, w'.F a ≠ none → w.F a ≠ none ∨ H a = none
  newR : ∀ a, a ∈ w'.ρ → a ∈ w.ρ ∨ H a = none
theorem Nx.refl (w : Wd) (H : Hp) : Nx w H w H := ⟨.refl w, fun _ _ h _ => h, fun _ h => .inl h, fun _ h => .inl h⟩
theorem Nx.trans {G : Gam} {w w1 w2 : Wd} {H H1 H2 : Hp} {S1 : List Cell} (a : Nx w H w1 H1) (f : FOk G w1 S1 H1) (b : Nx w1 H1 w2 H2) : Nx w H w2 H2 := by
  have back : ∀ x, H1 x = none → H x = none := fun x h => by
    cases e : H x with
    | none => rfl
    | some o =>
      by_cases hx : x ∈ w.ρ
      · obtain ⟨o', q⟩ := f.rho (a.le.r.subset hx)
        rw [q] at h; cases h
      · rw [a.keep x o e hx] at h; cases h
  refine ⟨a.le.trans b.le, fun x o e n => ?_, fun x h => ?_, fun x h => ?_⟩
  · refine b.keep x o (a.keep x o e n) fun q => ?_
    rcases a.newR x q with z | z
    · exact n z
    · rw [z] at e; cases e
  · rcases b.newF x h with z | z
    · exact a.newF x z
    · exact .inr (back x z)
  · rcases b.newR x h with z | z
    · exact a.newR x z
    · exact .inr (back x z)
def OwnOk (G : Gam) (w : Wd) (H : Hp) (a : Addr) : Sl → Prop
  | .ol xs => ∃ vs, H a = some (.lst vs) ∧ Reps G w vs xs
  | .od kvs => ∃ vs, H a = some (.dK vs) ∧ RepK G w vs kvs
  | .oi c fs => ∃ C dx vs, G.ct c = some C ∧ H a = some (.ins C dx vs) ∧ RepF G w vs fs
  | _ => False
/-- a frame's base: the world and the heap at its entry; objects that are set apart -/
structure Bs where
  B : Wd
  H : Hp
  γ : List (Addr × HO)
  me : Option Addr
/-- the state of a frame -/
structure Ok (G : Gam) (κ : Bs) (w : Wd) (s : DS) (σ : L2.St) (H : Hp) : Prop where
  fok : FOk G w s.st H
  nx : Nx κ.B κ.H w H
  len : s.sl.length = σ.length
  val : ∀ (i : Nat) (d : D), s.sl[i]? = some (.val d) → ∃ v, σ[i]? = some (some v) ∧ Rep G w v d
  own : ∀ (i : Nat) (x : Sl), s.sl[i]? = some x → x.own = true → ∃ a, σ[i]? = some (some (.ref a)) ∧ OwnOk G w H a x ∧ w.F a = none ∧ a ∉ w.ρ ∧ κ.H a = none
  ne : ∀ (i j : Nat) (x y : Sl) (a : Addr), s.sl[i]? = some x → s.sl[j]? = some y → x.own = true → y.own = true → σ[i]? = some (some (.ref a)) → σ[j]? = some (some (.ref a)) → i = j
  gam : ∀ p ∈ κ.γ, H p.1 = some p.2 ∧ w.F p.1 = none ∧ p.1 ∉ w.ρ ∧ κ.H p.1 = none ∧ ∀ (i : Nat) (x : Sl), s.sl[i]? = some x → x.own = true → σ[i]? ≠ some (some (.ref p.1))
  me : ∀ a, κ.me = some a → ∀ c fs, s.sl[0]? = some (.oi c fs) → σ[0]? = some (some (.ref a))
theorem OwnOk.there {G : Gam} {w : Wd} {H : Hp} {a : Addr} {c : Sl} (h : OwnOk G w H a c) : ∃ o, H a = some o := by
  cases c with
  | ol xs => obtain ⟨_, h, _⟩ := h; exact ⟨_, h⟩
  | od xs => obtain ⟨_, h, _⟩ := h; exact ⟨_, h⟩
  | oi c fs => obtain ⟨_, _, _, _, h, _⟩ := h; exact ⟨_, h⟩
  | un => exact h.elim
  | val _ => exact h.elim
theorem OwnOk.mono {G : Gam} {w w' : Wd} {H H' : Hp} {a : Addr} {c : Sl} (h : OwnOk G w H a c) (le : w.le w') (e : H' a = H a) : OwnOk G w' H' a c := by
  cases c with
  | ol xs => obtain ⟨_, h, r⟩ := h; exact ⟨_, e.trans h, r.mono le⟩
  | od xs => obtain ⟨_, h, r⟩ := h; exact ⟨_, e.trans h, r.mono le⟩
  | oi c fs => obtain ⟨_, _, _, q, h, r⟩ := h; exact ⟨_, _, _, q, e.trans h, r.mono le⟩
  | un => exact h.elim
  | val _ => exact h.elim
section
variable {G : Gam} {κ : Bs} {w w' : Wd} {s : DS} {σ : L2.St} {H H' : Hp} {S' : List Cell}
/-- a step that leaves the slots as they are -/
theorem Ok.step (h : Ok G κ w s σ H) (n : Nx w H w' H') (f : FOk G w' S' H') : Ok G κ w' ⟨s.sl, S'⟩ σ H' := by
  have nF : ∀ a o, H a = some o → w.F a = none → w'.F a = none := fun a ob he h3 => by
    cases q : w'.F a with
    | none => rfl
    | some o =>
      rcases n.newF a (by rw [q]; exact fun z => nomatch z) with z | z
      · exact absurd h3 z
      · rw [he] at z; cases z
  have nR : ∀ a o, H a = some o → a ∉ w.ρ → a ∉ w'.ρ := fun a ob he h4 q => by
    rcases n.newR a q with z | z
    · exact h4 z
    · rw [he] at z; cases z
  refine ⟨f, h.nx.trans h.fok n, h.len, fun i d e => ?_, fun i x e o => ?_, h.ne, fun p hp => ?_, h.me⟩
  · obtain ⟨v, h1, h2⟩ := h.val i d e
    exact ⟨v, h1, h2.mono n.le⟩
  · obtain ⟨a, h1, h2, h3, h4, h5⟩ := h.own i x e o
    obtain ⟨ob, he⟩ := h2.there
    exact ⟨a, h1, h2.mono n.le ((n.keep a ob he h4).trans he.symm), nF a ob he h3, nR a ob he h4, h5⟩
  · obtain ⟨h1, h2, h3, h4, h5⟩ := h.gam p hp
    exact ⟨n.keep _ _ h1 h3, nF _ _ h1 h2, nR _ _ h1 h3, h4, h5⟩
/-- a new frozen object -/
theorem FOk.alloc {S : List Cell} (h : FOk G w S H) {p : Addr} (hp : H p = none) (o : HO) : FOk G ⟨upd w.F p o, w.ρ⟩ S (upd H p o) ∧ Nx w H ⟨upd w.F p o, w.ρ⟩ (upd H p o) := by
  have le : w.le ⟨upd w.F p o, w.ρ⟩ := ⟨fun a u e => by
    show upd w.F p o a = some u
    rw [upd_ne (ne_of_none (h.sub a u e) hp)]
    exact e, List.prefix_refl _⟩
  have np : p ∉ w.ρ := fun q => by
    obtain ⟨o, e⟩ := h.rho q
    rw [hp] at e; cases e
  refine ⟨⟨fun a u e => ?_, h.len, fun n a c e1 e2 => ?_, h.nd, fun a ha => ?_⟩, ⟨le, fun a u e _ => ?_, fun a q => ?_, fun a q => .inl q⟩⟩
  · by_cases z : a = p
    · subst z
      have e : upd w.F a o a = some u := e
      rw [upd_same] at e ⊢
      exact e
    · have e : upd w.F p o a = some u := e
      rw [upd_ne z] at e ⊢
      exact h.sub a u e
  · refine (h.cel n a c e1 e2).mono le (upd_ne fun z => ?_)
    subst z
    exact np (List.mem_of_getElem? e1)
  · show upd w.F p o a = none
    rw [upd_ne (show a ≠ p from fun z => np (by rw [← z]; exact ha))]
    exact h.nf a ha
  · rw [upd_ne (ne_of_none e hp)]
    exact e
  · by_cases z : a = p
    · subst z; exact .inr hp
    · have q : upd w.F p o a ≠ none := q
      rw [upd_ne z] at q
      exact .inl q
theorem Ok.alloc (h : Ok G κ w s σ H) {p : Addr} (hp : H p = none) (o : HO) : w.le ⟨upd w.F p o, w.ρ⟩ ∧ Ok G κ ⟨upd w.F p o, w.ρ⟩ s σ (upd H p o) := by
  obtain ⟨f, n⟩ := h.fok.alloc hp o
  exact ⟨n.le, h.step n f⟩
end
end DL
set_option maxRecDepth 100000
set_option maxHeartbeats 4000000
set_option autoImplicit false
namespace DL
open PySem PySem.Spec PyProof.Rows L2
/-! ### what is wanted behind a piece of code -/
def RepX (G : Gam) (w : Wd) (c : Value) (dd : Option Addr) (x : Xc) : Prop :=
  ∃ C, G.ct x.cls = some C ∧ c = .ref C ∧ ((x.fs = [] ∧ dd = none) ∨ ∃ a vs, dd = some a ∧ w.F a = some (.xd vs) ∧ RepF G w vs x.fs)
section
variable (G : Gam) (W : WX)
def PostG {α β : Type} (rep : Wd → β → α → Prop) (κ : Bs) (w : Wd) (σ : L2.St) (r : Res DS α) (Q : β → Hp → Prop) : Prop := match r with
  | .ok d s' => ∀ w' v H', w.le w' → Ok G κ w' s' σ H' → rep w' v d → Q v H'
  | .exc x s' => ∀ w' c dd H', w.le w' → Ok G κ w' s' σ H' → RepX G w' c dd x → W c dd σ H'
  | .stuck => False
def tD (f : DE) : TE := fun σ H Q => ∃ κ w s, Ok G κ w s σ H ∧ PostG G W (Rep G) κ w σ (f s) Q
def tDT (f : DT) : TT := fun σ H Q => ∃ κ w s, Ok G κ w s σ H ∧ PostG G W (fun _ (v : Bool) d => v = d) κ w σ (f s) Q
def tDA (f : DA) : TA := fun σ H Q => ∃ κ w s, Ok G κ w s σ H ∧ PostG G W (Reps G) κ w σ (f s) Q
def PostS (κ : Bs) (w : Wd) (r : Res DS Out) (N : Ends) : Prop := match r with
  | .ok .nx s' => ∀ w' σ' H', w.le w' → Ok G κ w' s' σ' H' → N.nx σ' H'
  | .ok .bk s' => ∀ w' σ' H', w.le w' → Ok G κ w' s' σ' H' → N.bk σ' H'
  | .ok .ct s' => ∀ w' σ' H', w.le w' → Ok G κ w' s' σ' H' → N.ct σ' H'
  | .ok (.rt d) s' => ∀ w' σ' v H', w.le w' → Ok G κ w' s' σ' H' → Rep G w' v d → N.rt v H'
  | .exc x s' => ∀ w' σ' c dd H', w.le w' → Ok G κ w' s' σ' H' → RepX G w' c dd x → W c dd σ' H'
  | .stuck => False
def tDS (f : DStm) : TS := fun N σ H => ∃ κ w s, Ok G κ w s σ H ∧ PostS G W κ w (f s) N
end
section
variable {G : Gam} {W : WX} {α β γ δ : Type} {rep : Wd → β → α → Prop} {rep' : Wd → δ → γ → Prop} {κ : Bs} {w w1 : Wd} {σ : L2.St}
theorem PostG.mono {r : Res DS α} {Q : β → Hp → Prop} (le : w.le w1) (h : PostG G W rep κ w σ r Q) : PostG G W rep κ w1 σ r Q := by
  cases r with
  | ok d s' => exact fun w' v H' l o r => h w' v H' (le.trans l) o r
  | exc x s' => exact fun w' c dd H' l o r => h w' c dd H' (le.trans l) o r
  | stuck => exact h
theorem PostG.imp {r : Res DS α} {Q Q' : β → Hp → Prop} (h : PostG G W rep κ w σ r Q) (k : ∀ v H, Q v H → Q' v H) : PostG G W rep κ w σ r Q' := by
  cases r with
  | ok d s' => exact fun w' v H' l o r => k _ _ (h w' v H' l o r)
  | exc x s' => exact h
  | stuck => exact h
/-- behind the first of two -/
theorem PostG.bind {r : Res DS α} {k : α → DS → Res DS γ} {Q : δ → Hp → Prop} (h : PostG G W rep' κ w σ (r.bind k) Q) :
    PostG G W rep κ w σ r (fun v H1 => ∃ d s1 w1, w.le w1 ∧ Ok G κ w1 s1 σ H1 ∧ rep w1 v d ∧ PostG G W rep' κ w1 σ (k d s1) Q) := by
  cases r with
  | ok d s' => exact fun w' v H' l o r => ⟨d, s', w', l, o, r, PostG.mono l h⟩
  | exc x s' => exact h
  | stuck => exact h
theorem PostS.mono {r : Res DS Out} {N : Ends} (le : w.le w1) (h : PostS G W κ w r N) : PostS G W κ w1 r N := by
  cases r with
  | ok o s' =>
    cases o with
    | nx => exact fun w' σ' H' l o => h w' σ' H' (le.trans l) o
    | bk => exact fun w' σ' H' l o => h w' σ' H' (le.trans l) o
    | ct => exact fun w' σ' H' l o => h w' σ' H' (le.trans l) o
    | rt d => exact fun w' σ' v H' l o r => h w' σ' v H' (le.trans l) o r
  | exc x s' => exact fun w' σ' c dd H' l o r => h w' σ' c dd H' (le.trans l) o r
  | stuck => exact h
/-- an expression, then a statement's end -/
theorem PostG.bindS {r : Res DS α} {k : α → DS → Res DS Out} {N : Ends} (h : PostS G W κ w (r.bind k) N) :
    PostG G W rep κ w σ r (fun v H1 => ∃ d s1 w1, w.le w1 ∧ Ok G κ w1 s1 σ H1 ∧ rep w1 v d ∧ PostS G W κ w1 (k d s1) N) := by
  cases r with
  | ok d s' => exact fun w' v H' l o r => ⟨d, s', w', l, o, r, PostS.mono l h⟩
  | exc x s' => exact fun w' c dd H' l o r => h w' σ c dd H' l o r
  | stuck => exact h
end
theorem _root_.L2.PE.imp {X : Cx} {e : Expr} {t t' : TE} (h : PE X e t) (k : ∀ σ H Q, t' σ H Q → t σ H Q) : PE X e t' := ⟨fun pins s σ H Q I q => h.run pins s σ H Q I (k σ H Q q)⟩
theorem _root_.L2.PT.imp {X : Cx} {e : Expr} {t t' : TT} (h : PT X e t) (k : ∀ σ H Q, t' σ H Q → t σ H Q) : PT X e t' := ⟨fun pins s σ H Q I q => h.run pins s σ H Q I (k σ H Q q)⟩
theorem _root_.L2.PA.imp {X : Cx} {e : List Expr} {t t' : TA} (h : PA X e t) (k : ∀ σ H Q, t' σ H Q → t σ H Q) : PA X e t' := ⟨fun pos pins s σ H Q I q => h.run pos pins s σ H Q I (k σ H Q q)⟩
theorem _root_.L2.PS.imp {X : Cx} {e : Stmt} {t t' : TS} (h : PS X e t) (k : ∀ D σ H, t' D σ H → t D σ H) : PS X e t' := ⟨fun pins s σ H D I q => h.run pins s σ H D I (k D σ H q)⟩
theorem _root_.L2.PSs.imp {X : Cx} {e : List Stmt} {t t' : TS} (h : PSs X e t) (k : ∀ D σ H, t' D σ H → t D σ H) : PSs X e t' := ⟨fun pins s σ H D I q => h.run pins s σ H D I (k D σ H q)⟩
abbrev PD (G : Gam) (W : WX) (X : Cx) (e : Expr) (f : DE) : Prop := PE X e (tD G W f)
abbrev PDT (G : Gam) (W : WX) (X : Cx) (e : Expr) (f : DT) : Prop := PT X e (tDT G W f)
abbrev PDA (G : Gam) (W : WX) (X : Cx) (es : List Expr) (f : DA) : Prop := PA X es (tDA G W f)
abbrev PDS (G : Gam) (W : WX) (X : Cx) (st : Stmt) (f : DStm) : Prop := PS X st (tDS G W f)
abbrev PDSs (G : Gam) (W : WX) (X : Cx) (st : List Stmt) (f : DStm) : Prop := PSs X st (tDS G W f)
section
variable {G : Gam} {W : WX} {X : Cx}
/-! ### constants, names -/
def eC (d : D) : DE := fun s => .ok d s
theorem pd_c {e : Expr} {v : V} {d : D} (h : PE X e (tC v)) (r : ∀ w, Rep G w v d) : PD G W X e (eC d) :=
  h.imp fun σ H Q ⟨κ, w, s, ok, q⟩ => q w v H (.refl w) ok (r w)
theorem pd_int {i : Int} {j : Nat} {pos : Pos} : PD G W X (.Constant (.int i) j pos) (eC (.int i)) := pd_c pe_int fun _ => .int i
theorem pd_bl {b : Bool} {j : Nat} {pos : Pos} : PD G W X (.Constant (.bool b) j pos) (eC (.bl b)) := pd_c pe_bl fun _ => .bl b
theorem pd_non {j : Nat} {pos : Pos} : PD G W X (.Constant .none j pos) (eC .non) := pd_c pe_non fun _ => .non
theorem pd_str {x : Str} {l : Nm} {j : Nat} {pos : Pos} (h : x = nm l) : PD G W X (.Constant (.str x) j pos) (eC (.str l)) := pd_c pe_str fun _ => by rw [h]; exact .str l
theorem pd_glob {x : Str} {v : V} {u : Value} {d : D} {pos : Pos} (hg : Gl X x) (hm : X.mg x = some u) (r : RelV v u) (rd : ∀ w, Rep G w v d) (hd : (x == ("__debug__" : Str)) = false := by decide) : PD G W X (.Name x pos) (eC d) :=
  pd_c (pe_glob hg hm r hd) rd
def eVar (i : Nat) : DE := fun s => match s.sl[i]? with
  | some (.val d) => .ok d s
  | some (.ol xs) => .ok (.lst xs) ⟨s.sl.set i (.val (.lst xs)), s.st⟩
  | some (.od kvs) => .ok (.dic kvs) ⟨s.sl.set i (.val (.dic kvs)), s.st⟩
  | some (.oi c fs) => .ok (.ins c fs) ⟨s.sl.set i (.val (.ins c fs)), s.st⟩
  | _ => .stuck
theorem Ok.freeze {κ : Bs} {w : Wd} {s : DS} {σ : L2.St} {H : Hp} (h : Ok G κ w s σ H) {i : Nat} {x : Sl} {a : Addr} {o : HO} {d : D} (hx : s.sl[i]? = some x) (own : x.own = true) (ha : σ[i]? = some (some (.ref a)))
    (ho : H a = some o) (hd : ∀ w' : Wd, w.le w' → w'.F a = some o → Rep G w' (.ref a) d) :
    w.le ⟨upd w.F a o, w.ρ⟩ ∧ Ok G κ ⟨upd w.F a o, w.ρ⟩ ⟨s.sl.set i (.val d), s.st⟩ σ H := by
  obtain ⟨a', h1, h2, h3, h4, h5⟩ := h.own i x hx own
  rw [ha] at h1
  cases h1
  have le : w.le ⟨upd w.F a o, w.ρ⟩ := ⟨fun b u e => by
    show upd w.F a o b = some u
    rw [upd_ne (ne_of_none e h3)]
    exact e, List.prefix_refl _⟩
  have hil : i < s.sl.length := (List.getElem?_eq_some_iff.mp hx).1
  have sub : ∀ (b : Addr) (u : HO), upd w.F a o b = some u → H b = some u := fun b u e => by
    by_cases z : b = a
    · subst z
      rw [upd_same] at e
      cases e
      exact ho
    · rw [upd_ne z] at e
      exact h.fok.sub b u e
  have fok : FOk G ⟨upd w.F a o, w.ρ⟩ s.st H := ⟨sub, h.fok.len, fun n b c e1 e2 => (h.fok.cel n b c e1 e2).mono le rfl, h.fok.nd, fun b hb => by
    show upd w.F a o b = none
    rw [upd_ne (show b ≠ a from fun z => h4 (by rw [← z]; exact hb))]
    exact h.fok.nf b hb⟩
  refine ⟨le, ⟨fok, ⟨h.nx.le.trans le, h.nx.keep, fun b q => ?_, h.nx.newR⟩, by rw [List.length_set]; exact h.len, fun j e hj => ?_, fun j y hj oy => ?_, fun j k y z b hj hk oy oz e1 e2 => ?_, fun p hp => ?_, fun b hb c fs e => ?_⟩⟩
  · by_cases z : b = a
    · subst z; exact .inr h5
    · have q : upd w.F a o b ≠ none := q
      rw [upd_ne z] at q
      exact h.nx.newF b q
  · by_cases z : j = i
    · subst z
      rw [List.getElem?_set_self hil] at hj
      cases hj
      exact ⟨_, ha, hd _ le upd_same⟩
    · rw [List.getElem?_set_ne (Ne.symm z)] at hj
      obtain ⟨v, q1, q2⟩ := h.val j e hj
      exact ⟨v, q1, q2.mono le⟩
  · by_cases z : j = i
    · subst z
      rw [List.getElem?_set_self hil] at hj
      cases hj
      cases oy
    · rw [List.getElem?_set_ne (Ne.symm z)] at hj
      obtain ⟨b, q1, q2, q3, q4, q5⟩ := h.own j y hj oy
      refine ⟨b, q1, q2.mono le rfl, ?_, q4, q5⟩
      show upd w.F a o b = none
      rw [upd_ne (show b ≠ a from fun e => z (h.ne j i y x b hj hx oy own q1 (by rw [e]; exact ha)))]
      exact q3
  · have nj : j ≠ i := fun z => by
      subst z
      rw [List.getElem?_set_self hil] at hj
      cases hj
      cases oy
    have nk : k ≠ i := fun z => by
      subst z
      rw [List.getElem?_set_self hil] at hk
      cases hk
      cases oz
    rw [List.getElem?_set_ne (Ne.symm nj)] at hj
    rw [List.getElem?_set_ne (Ne.symm nk)] at hk
    exact h.ne j k y z b hj hk oy oz e1 e2
  · obtain ⟨q1, q2, q3, q4, q5⟩ := h.gam p hp
    refine ⟨q1, ?_, q3, q4, fun j y hj oy => ?_⟩
    · show upd w.F a o p.1 = none
      rw [upd_ne (show p.1 ≠ a from fun e => q5 i x hx own (by rw [ha, e]))]
      exact q2
    · have nj : j ≠ i := fun z => by
        subst z
        rw [List.getElem?_set_self hil] at hj
        cases hj
        cases oy
      rw [List.getElem?_set_ne (Ne.symm nj)] at hj
      exact q5 j y hj oy
  · by_cases z : i = 0
    · subst z
      rw [List.getElem?_set_self hil] at e
      cases e
    · rw [List.getElem?_set_ne z] at e
      exact h.me b hb c fs e
theorem pd_var {i : Nat} {x : Str} {pos : Pos} (h : PE X (.Name x pos) (tVar i)) : PD G W X (.Name x pos) (eVar i) := h.imp fun σ H Q ⟨κ, w, s, ok, q⟩ => by
  unfold eVar at q
  cases e : s.sl[i]? with
  | none => rw [e] at q; exact q.elim
  | some x =>
    rw [e] at q
    cases x with
    | un => exact q.elim
    | val d =>
      obtain ⟨v, h1, h2⟩ := ok.val i d e
      exact ⟨v, h1, q w v H (.refl w) ok h2⟩
    | ol xs =>
      obtain ⟨a, h1, ⟨vs, h2, h3⟩, _⟩ := ok.own i _ e rfl
      obtain ⟨le, ok'⟩ := ok.freeze (d := .lst xs) e rfl h1 h2 fun w' l f => .lst f (h3.mono l)
      exact ⟨_, h1, q _ _ H le ok' (.lst upd_same (h3.mono le))⟩
    | od xs =>
      obtain ⟨a, h1, ⟨vs, h2, h3⟩, _⟩ := ok.own i _ e rfl
      obtain ⟨le, ok'⟩ := ok.freeze (d := .dic xs) e rfl h1 h2 fun w' l f => .dic f (h3.mono l)
      exact ⟨_, h1, q _ _ H le ok' (.dic upd_same (h3.mono le))⟩
    | oi c fs =>
      obtain ⟨a, h1, ⟨C, dx, vs, hC, h2, h3⟩, _⟩ := ok.own i _ e rfl
      obtain ⟨le, ok'⟩ := ok.freeze (d := .ins c fs) e rfl h1 h2 fun w' l f => .ins hC f (h3.mono l)
      exact ⟨_, h1, q _ _ H le ok' (.ins hC upd_same (h3.mono le))⟩
/-! ### operators -/
def eOp2 (o : D → D → Option D) (fa fb : DE) : DE := fun s => (fa s).bind fun x s1 => (fb s1).bind fun y s2 => match o x y with
  | some d => .ok d s2
  | none => .stuck
/-- an operator by data -/
def OpD (G : Gam) (X : Cx) (f : Value → Value → Sem Value) (o : D → D → Option D) : Prop := ∃ r, OpR X f r ∧ ∀ (κ : Bs) (w : Wd) (s : DS) (σ : L2.St) (H : Hp) (x y : V) (dx dy d : D) (Q : VK),
  Ok G κ w s σ H → Rep G w x dx → Rep G w y dy → o dx dy = some d → (∀ w' v H', w.le w' → Ok G κ w' s σ H' → Rep G w' v d → Q v H') → r x y H Q
theorem op2 {r : R2} {o : D → D → Option D} {fa fb : DE} {σ : L2.St} {H : Hp} {Q : VK}
    (hr : ∀ (κ : Bs) (w : Wd) (s : DS) (σ : L2.St) (H : Hp) (x y : V) (dx dy d : D) (Q : VK), Ok G κ w s σ H → Rep G w x dx → Rep G w y dy → o dx dy = some d → (∀ w' v H', w.le w' → Ok G κ w' s σ H' → Rep G w' v d → Q v H') → r x y H Q)
    (h : tD G W (eOp2 o fa fb) σ H Q) : tOp r (tD G W fa) (tD G W fb) σ H Q := by
  obtain ⟨κ, w, s, ok, q⟩ := h
  refine ⟨κ, w, s, ok, (PostG.bind q).imp fun v H1 ⟨d, s1, w1, le, ok1, r1, q1⟩ => ?_⟩
  refine ⟨κ, w1, s1, ok1, (PostG.bind q1).imp fun v2 H2 ⟨d2, s2, w2, le2, ok2, r2, q2⟩ => ?_⟩
  cases e : o d d2 with
  | none => rw [e] at q2; exact q2.elim
  | some z => rw [e] at q2; exact hr κ w2 s2 σ H2 v v2 d d2 z Q ok2 (r1.mono le2) r2 e q2
theorem pd_op {op : Operator} {o : D → D → Option D} {a b : Expr} {fa fb : DE} {pos : Pos} (ho : OpD G X (binaryOp op) o) (ha : PD G W X a fa) (hb : PD G W X b fb) : PD G W X (.BinOp a op b pos) (eOp2 o fa fb) := by
  obtain ⟨r, h1, h2⟩ := ho
  exact (pe_op h1 ha hb).imp fun σ H Q h => op2 h2 h
theorem pd_cmp {op : CmpOp} {o : D → D → Option D} {a b : Expr} {fa fb : DE} {pos : Pos} (ho : OpD G X (compareOp op) o) (ha : PD G W X a fa) (hb : PD G W X b fb) (hm : behindInMarks op b = false) : PD G W X (.Compare a [op] [b] pos) (eOp2 o fa fb) := by
  obtain ⟨r, h1, h2⟩ := ho
  exact (pe_cmpR h1 ha hb hm).imp fun σ H Q h => op2 h2 h
/-- a value that is a bool, as a test -/
def eB (f : DE) : DT := fun s => (f s).bind fun d s1 => match d with
  | .bl b => .ok b s1
  | _ => .stuck
theorem tB_of {f : DE} {σ : L2.St} {H : Hp} {Q : Bool → Hp → Prop} (h : tDT G W (eB f) σ H Q) : tD G W f σ H fun x H1 => ∃ c, x = .bl c ∧ Q c H1 := by
  obtain ⟨κ, w, s, ok, q⟩ := h
  refine ⟨κ, w, s, ok, (PostG.bind q).imp fun v H1 ⟨d, s1, w1, le, ok1, r1, q1⟩ => ?_⟩
  cases r1 with
  | bl b => exact ⟨b, rfl, q1 w1 b H1 (.refl _) ok1 rfl⟩
  | _ => exact q1.elim
theorem ptd_val {e : Expr} {f : DE} (h : PD G W X e f) (he : ∀ whole, isTrue e X.env whole = (do let v ← whole; standAt e.pos; holding [v] (truthy v)) := by intro _; rfl) : PDT G W X e (eB f) :=
  (pt_val h he).imp fun σ H Q q => tB_of q
theorem ptd_cmp {op : CmpOp} {o : D → D → Option D} {a b : Expr} {fa fb : DE} {pos : Pos} (ho : OpD G X (compareOp op) o) (ha : PD G W X a fa) (hb : PD G W X b fb) (hm : behindInMarks op b = false) : PDT G W X (.Compare a [op] [b] pos) (eB (eOp2 o fa fb)) := by
  obtain ⟨r, h1, h2⟩ := ho
  exact (pt_cmpR h1 ha hb hm).imp fun σ H Q h => op2 h2 (tB_of h)
/-! ### and, or, not, if -/
def bAnd (f g : DT) : DT := fun s => (f s).bind fun b s1 => if b = true then g s1 else .ok false s1
def bOr (f g : DT) : DT := fun s => (f s).bind fun b s1 => if b = true then .ok true s1 else g s1
def bNot (f : DT) : DT := fun s => (f s).bind fun b s1 => .ok (!b) s1
abbrev PDW (G : Gam) (W : WX) (X : Cx) (e : Expr) (f : DT) : Prop := PW X e (tDT G W f)
theorem _root_.L2.PW.imp {X : Cx} {e : Expr} {t t' : TT} (h : PW X e t) (k : ∀ σ H Q, t' σ H Q → t σ H Q) : PW X e t' := ⟨fun wh pins s σ H Q I q => h.run wh pins s σ H Q I (k σ H Q q)⟩
theorem pwd_and1 {a : Expr} {f : DT} {pos : Pos} (h : PDT G W X a f) : PDW G W X (.BoolOp .And [a] pos) f := pw_and1 h
theorem pwd_or1 {a : Expr} {f : DT} {pos : Pos} (h : PDT G W X a f) : PDW G W X (.BoolOp .Or [a] pos) f := pw_or1 h
theorem pwd_and {a b : Expr} {r : List Expr} {f g : DT} {pos : Pos} (h : PDT G W X a f) (k : PDW G W X (.BoolOp .And (b :: r) pos) g) : PDW G W X (.BoolOp .And (a :: b :: r) pos) (bAnd f g) :=
  (pw_and h k).imp fun σ H Q ⟨κ, w, s, ok, q⟩ => ⟨κ, w, s, ok, (PostG.bind q).imp fun v H1 ⟨d, s1, w1, le, ok1, r1, q1⟩ => by
    subst r1
    cases v with
    | true => exact ⟨κ, w1, s1, ok1, q1⟩
    | false => exact q1 w1 false H1 (.refl _) ok1 rfl⟩
theorem pwd_or {a b : Expr} {r : List Expr} {f g : DT} {pos : Pos} (h : PDT G W X a f) (k : PDW G W X (.BoolOp .Or (b :: r) pos) g) : PDW G W X (.BoolOp .Or (a :: b :: r) pos) (bOr f g) :=
  (pw_or h k).imp fun σ H Q ⟨κ, w, s, ok, q⟩ => ⟨κ, w, s, ok, (PostG.bind q).imp fun v H1 ⟨d, s1, w1, le, ok1, r1, q1⟩ => by
    subst r1
    cases v with
    | false => exact ⟨κ, w1, s1, ok1, q1⟩
    | true => exact q1 w1 true H1 (.refl _) ok1 rfl⟩
theorem ptd_not {a : Expr} {f : DT} {pos : Pos} (h : PDT G W X a f) : PDT G W X (.UnaryOp .Not a pos) (bNot f) :=
  (pt_not h).imp fun σ H Q ⟨κ, w, s, ok, q⟩ => ⟨κ, w, s, ok, (PostG.bind q).imp fun v H1 ⟨d, s1, w1, le, ok1, r1, q1⟩ => by
    subst r1
    exact q1 w1 _ H1 (.refl _) ok1 rfl⟩
/-- as values -/
def eAnd (f g : DE) : DE := fun s => (f s).bind fun d s1 => match d with
  | .bl b => if b = true then g s1 else .ok (.bl false) s1
  | _ => .stuck
def eOr (f g : DE) : DE := fun s => (f s).bind fun d s1 => match d with
  | .bl b => if b = true then .ok (.bl true) s1 else g s1
  | _ => .stuck
def eNot (f : DE) : DE := fun s => (f s).bind fun d s1 => match d with
  | .bl b => .ok (.bl (!b)) s1
  | _ => .stuck
theorem pd_one {op : PySem.BoolOp} {a : Expr} {f : DE} {pos : Pos} (h : PD G W X a f) : PD G W X (.BoolOp op [a] pos) f := pe_one h
theorem pd_and {a b : Expr} {r : List Expr} {f g : DE} {pos : Pos} (h : PD G W X a f) (k : PD G W X (.BoolOp .And (b :: r) pos) g) : PD G W X (.BoolOp .And (a :: b :: r) pos) (eAnd f g) :=
  (pe_and h k).imp fun σ H Q ⟨κ, w, s, ok, q⟩ => ⟨κ, w, s, ok, (PostG.bind q).imp fun v H1 ⟨d, s1, w1, le, ok1, r1, q1⟩ => by
    cases r1 with
    | bl b =>
      refine ⟨b, rfl, ?_⟩
      cases b with
      | true => exact ⟨κ, w1, s1, ok1, q1⟩
      | false => exact q1 w1 _ H1 (.refl _) ok1 (.bl false)
    | _ => exact q1.elim⟩
theorem pd_or {a b : Expr} {r : List Expr} {f g : DE} {pos : Pos} (h : PD G W X a f) (k : PD G W X (.BoolOp .Or (b :: r) pos) g) : PD G W X (.BoolOp .Or (a :: b :: r) pos) (eOr f g) :=
  (pe_or h k).imp fun σ H Q ⟨κ, w, s, ok, q⟩ => ⟨κ, w, s, ok, (PostG.bind q).imp fun v H1 ⟨d, s1, w1, le, ok1, r1, q1⟩ => by
    cases r1 with
    | bl b =>
      refine ⟨b, rfl, ?_⟩
      cases b with
      | false => exact ⟨κ, w1, s1, ok1, q1⟩
      | true => exact q1 w1 _ H1 (.refl _) ok1 (.bl true)
    | _ => exact q1.elim⟩
theorem pd_not {a : Expr} {f : DE} {pos : Pos} (h : PD G W X a f) : PD G W X (.UnaryOp .Not a pos) (eNot f) :=
  (pe_not h).imp fun σ H Q ⟨κ, w, s, ok, q⟩ => ⟨κ, w, s, ok, (PostG.bind q).imp fun v H1 ⟨d, s1, w1, le, ok1, r1, q1⟩ => by
    cases r1 with
    | bl b => exact ⟨b, rfl, q1 w1 _ H1 (.refl _) ok1 (.bl _)⟩
    | _ => exact q1.elim⟩
def eIf (c : DT) (f g : DE) : DE := fun s => (c s).bind fun b s1 => if b = true then f s1 else g s1
theorem pd_ifExp {c a b : Expr} {fc : DT} {f g : DE} {pos : Pos} (hc : PDT G W X c fc) (h : PD G W X a f) (k : PD G W X b g) : PD G W X (.IfExp c a b pos) (eIf fc f g) :=
  (pe_ifExp hc h k).imp fun σ H Q ⟨κ, w, s, ok, q⟩ => ⟨κ, w, s, ok, (PostG.bind q).imp fun v H1 ⟨d, s1, w1, le, ok1, r1, q1⟩ => by
    subst r1
    cases v with
    | true => exact ⟨κ, w1, s1, ok1, q1⟩
    | false => exact ⟨κ, w1, s1, ok1, q1⟩⟩
/-! ### argument lists -/
def aNil : DA := fun s => .ok [] s
def aCons (f : DE) (g : DA) : DA := fun s => (f s).bind fun d s1 => (g s1).bind fun ds s2 => .ok (d :: ds) s2
theorem pda_nil : PDA G W X [] aNil := pa_nil.imp fun σ H Q ⟨κ, w, s, ok, q⟩ => q w [] H (.refl _) ok .nil
theorem pda_cons {e : Expr} {es : List Expr} {f : DE} {g : DA} (h : PD G W X e f) (k : PDA G W X es g) (hs : starEach (e :: es) X.env = (false, eval e X.env) :: starEach es X.env := by rfl) : PDA G W X (e :: es) (aCons f g) :=
  (pa_cons h k hs).imp fun σ H Q ⟨κ, w, s, ok, q⟩ => ⟨κ, w, s, ok, (PostG.bind q).imp fun v H1 ⟨d, s1, w1, le, ok1, r1, q1⟩ =>
    ⟨κ, w1, s1, ok1, (PostG.bind q1).imp fun v2 H2 ⟨d2, s2, w2, le2, ok2, r2, q2⟩ => q2 w2 _ H2 (.refl _) ok2 (.cons (r1.mono le2) r2)⟩⟩
/-! ### tuples, lists -/
def eTup (g : DA) : DE := fun s => (g s).bind fun ds s1 => if ds.length ≤ 1000 then .ok (.tup ds) s1 else .stuck
theorem sz1000 {n : Nat} (h : n ≤ 1000) : n ≤ sizeLine := Nat.le_of_lt (small1000 h)
theorem pd_tup {es : List Expr} {k : Nat} {g : DA} {pos : Pos} (h : PDA G W X es g) : PD G W X (.Tuple es k pos) (eTup g) :=
  (pe_tup h).imp fun σ H Q ⟨κ, w, s, ok, q⟩ => ⟨κ, w, s, ok, (PostG.bind q).imp fun v H1 ⟨d, s1, w1, le, ok1, r1, q1⟩ => by
    by_cases c : d.length ≤ 1000
    · rw [if_pos c] at q1
      refine ⟨by rw [r1.length]; exact sz1000 c, fun p hp => ?_⟩
      obtain ⟨le2, ok2⟩ := ok1.alloc hp (.tup v)
      exact q1 _ _ _ le2 ok2 (.tup (.inl (.inl upd_same)) (r1.mono le2))
    · rw [if_neg c] at q1
      exact q1.elim⟩
end
end DL
set_option maxRecDepth 100000
set_option maxHeartbeats 4000000
set_option autoImplicit false
namespace DL
open PySem PySem.Spec PyProof.Rows L2
section
variable {G : Gam} {W : WX} {X : Cx} {κ : Bs} {w : Wd} {s : DS} {σ : L2.St} {H : Hp}
/-- an object set apart -/
abbrev Bs.plus (κ : Bs) (a : Addr) (o : HO) : Bs := ⟨κ.B, κ.H, (a, o) :: κ.γ, κ.me⟩
theorem Ok.back (h : Ok G κ w s σ H) {p : Addr} (hp : H p = none) : κ.H p = none := by
  cases e : κ.H p with
  | none => rfl
  | some o =>
    by_cases hx : p ∈ κ.B.ρ
    · obtain ⟨o', q⟩ := h.fok.rho (h.nx.le.r.subset hx)
      rw [q] at hp; cases hp
    · rw [h.nx.keep p o e hx] at hp; cases hp
/-- a new object, set apart -/
theorem Ok.fresh (h : Ok G κ w s σ H) {p : Addr} (hp : H p = none) (o : HO) : Ok G (κ.plus p o) w s σ (upd H p o) := by
  have ne : ∀ {a : Addr} {u : HO}, H a = some u → a ≠ p := fun e => ne_of_none e hp
  have nF : w.F p = none := by
    cases e : w.F p with
    | none => rfl
    | some u => rw [h.fok.sub p u e] at hp; cases hp
  have nR : p ∉ w.ρ := fun q => by
    obtain ⟨u, e⟩ := h.fok.rho q
    rw [e] at hp; cases hp
  refine ⟨⟨fun a u e => ?_, h.fok.len, fun n a c e1 e2 => ?_, h.fok.nd, h.fok.nf⟩, ⟨h.nx.le, fun a u e n => ?_, h.nx.newF, h.nx.newR⟩, h.len, h.val, fun i x e o' => ?_, h.ne, fun q hq => ?_, h.me⟩
  · rw [upd_ne (ne (h.fok.sub a u e))]
    exact h.fok.sub a u e
  · obtain ⟨u, q⟩ := (h.fok.cel n a c e1 e2).there
    exact (h.fok.cel n a c e1 e2).mono (.refl _) (upd_ne (ne q))
  · rw [upd_ne (ne (h.nx.keep a u e n))]
    exact h.nx.keep a u e n
  · obtain ⟨a, h1, h2, h3, h4, h5⟩ := h.own i x e o'
    obtain ⟨u, q⟩ := h2.there
    exact ⟨a, h1, h2.mono (.refl _) (upd_ne (ne q)), h3, h4, h5⟩
  · rcases List.mem_cons.mp hq with rfl | hq
    · refine ⟨upd_same, nF, nR, h.back hp, fun i x e o' z => ?_⟩
      obtain ⟨a, h1, h2, _⟩ := h.own i x e o'
      rw [h1] at z
      cases z
      obtain ⟨u, q⟩ := h2.there
      exact ne q rfl
    · obtain ⟨h1, h2⟩ := h.gam q hq
      exact ⟨by rw [upd_ne (ne h1)]; exact h1, h2⟩
theorem Ok.unplus {a : Addr} {o : HO} (h : Ok G (κ.plus a o) w s σ H) : Ok G κ w s σ H := ⟨h.fok, h.nx, h.len, h.val, h.own, h.ne, fun p hp => h.gam p (List.mem_cons_of_mem _ hp), h.me⟩
/-- what was set apart is frozen (its address is not set apart twice) -/
theorem Ok.frz {a : Addr} {o : HO} (h : Ok G (κ.plus a o) w s σ H) (hγ : ∀ p ∈ κ.γ, p.1 ≠ a) : w.le ⟨upd w.F a o, w.ρ⟩ ∧ Ok G κ ⟨upd w.F a o, w.ρ⟩ s σ H := by
  obtain ⟨ho, h3, h4, h5, h6⟩ := h.gam (a, o) List.mem_cons_self
  have le : w.le ⟨upd w.F a o, w.ρ⟩ := ⟨fun b u e => by
    show upd w.F a o b = some u
    rw [upd_ne (ne_of_none e h3)]
    exact e, List.prefix_refl _⟩
  have sub : ∀ (b : Addr) (u : HO), upd w.F a o b = some u → H b = some u := fun b u e => by
    by_cases z : b = a
    · subst z
      rw [upd_same] at e
      cases e
      exact ho
    · rw [upd_ne z] at e
      exact h.fok.sub b u e
  refine ⟨le, ⟨⟨sub, h.fok.len, fun n b c e1 e2 => (h.fok.cel n b c e1 e2).mono le rfl, h.fok.nd, fun b hb => ?_⟩, ⟨h.nx.le.trans le, h.nx.keep, fun b q => ?_, h.nx.newR⟩, h.len, fun i d e => ?_, fun i x e o' => ?_, h.ne, fun p hp => ?_, h.me⟩⟩
  · show upd w.F a o b = none
    rw [upd_ne (show b ≠ a from fun z => h4 (by rw [← z]; exact hb))]
    exact h.fok.nf b hb
  · by_cases z : b = a
    · subst z; exact .inr h5
    · have q : upd w.F a o b ≠ none := q
      rw [upd_ne z] at q
      exact h.nx.newF b q
  · obtain ⟨v, h1, h2⟩ := h.val i d e
    exact ⟨v, h1, h2.mono le⟩
  · obtain ⟨b, q1, q2, q3, q4, q5⟩ := h.own i x e o'
    refine ⟨b, q1, q2.mono le rfl, ?_, q4, q5⟩
    show upd w.F a o b = none
    rw [upd_ne (show b ≠ a from fun z => h6 i x e o' (by rw [q1, z]))]
    exact q3
  · obtain ⟨q1, q2, q3⟩ := h.gam p (List.mem_cons_of_mem _ hp)
    refine ⟨q1, ?_, q3⟩
    show upd w.F a o p.1 = none
    rw [upd_ne (hγ p hp)]
    exact q2
/-- a slot is set -/
theorem Ok.setVal (h : Ok G κ w s σ H) {v : V} {d : D} (r : Rep G w v d) (i : Nat) : Ok G κ w ⟨s.sl.set i (.val d), s.st⟩ (σ.set i (some v)) H := by
  have back : ∀ (j : Nat) (x : Sl), (s.sl.set i (.val d))[j]? = some x → (j = i ∧ x = .val d ∧ i < s.sl.length) ∨ (j ≠ i ∧ s.sl[j]? = some x) := fun j x e => by
    by_cases z : j = i
    · subst z
      have hl : j < s.sl.length := by
        have := (List.getElem?_eq_some_iff.mp e).1
        rwa [List.length_set] at this
      rw [List.getElem?_set_self hl] at e
      exact .inl ⟨rfl, (Option.some.inj e).symm, hl⟩
    · rw [List.getElem?_set_ne (Ne.symm z)] at e
      exact .inr ⟨z, e⟩
  refine ⟨h.fok, h.nx, by rw [List.length_set, List.length_set]; exact h.len, fun j e hj => ?_, fun j x hj o => ?_, fun j k x y a hj hk ox oy e1 e2 => ?_, fun p hp => ?_, fun b hb c fs e => ?_⟩
  · rcases back j _ hj with ⟨rfl, q, hl⟩ | ⟨z, hj⟩
    · cases q
      exact ⟨v, List.getElem?_set_self (by rw [← h.len]; exact hl), r⟩
    · rw [List.getElem?_set_ne (Ne.symm z)]
      exact h.val j e hj
  · rcases back j _ hj with ⟨rfl, q, hl⟩ | ⟨z, hj⟩
    · subst q; cases o
    · rw [List.getElem?_set_ne (Ne.symm z)]
      exact h.own j x hj o
  · rcases back j _ hj with ⟨rfl, q, hl⟩ | ⟨z, hj⟩
    · subst q; cases ox
    · rcases back k _ hk with ⟨rfl, q, hl⟩ | ⟨z', hk⟩
      · subst q; cases oy
      · rw [List.getElem?_set_ne (Ne.symm z)] at e1
        rw [List.getElem?_set_ne (Ne.symm z')] at e2
        exact h.ne j k x y a hj hk ox oy e1 e2
  · obtain ⟨q1, q2, q3, q4, q5⟩ := h.gam p hp
    refine ⟨q1, q2, q3, q4, fun j x hj o => ?_⟩
    rcases back j _ hj with ⟨rfl, q, hl⟩ | ⟨z, hj⟩
    · subst q; cases o
    · rw [List.getElem?_set_ne (Ne.symm z)]
      exact q5 j x hj o
  · rcases back 0 _ e with ⟨z, q, hl⟩ | ⟨z, e⟩
    · cases q
    · rw [List.getElem?_set_ne (Ne.symm z)]
      exact h.me b hb c fs e
/-- a slot gets what was set apart -/
theorem Ok.setOwn {a : Addr} {o : HO} (h : Ok G (κ.plus a o) w s σ H) (hγ : ∀ p ∈ κ.γ, p.1 ≠ a) {y : Sl} (hy : OwnOk G w H a y) (oy : y.own = true) (hy0 : ∀ c fs, y ≠ .oi c fs) (i : Nat) : Ok G κ w ⟨s.sl.set i y, s.st⟩ (σ.set i (some (.ref a))) H := by
  obtain ⟨ho, h3, h4, h5, h6⟩ := h.gam (a, o) List.mem_cons_self
  have back : ∀ (j : Nat) (x : Sl), (s.sl.set i y)[j]? = some x → (j = i ∧ x = y ∧ i < s.sl.length) ∨ (j ≠ i ∧ s.sl[j]? = some x) := fun j x e => by
    by_cases z : j = i
    · subst z
      have hl : j < s.sl.length := by
        have := (List.getElem?_eq_some_iff.mp e).1
        rwa [List.length_set] at this
      rw [List.getElem?_set_self hl] at e
      exact .inl ⟨rfl, (Option.some.inj e).symm, hl⟩
    · rw [List.getElem?_set_ne (Ne.symm z)] at e
      exact .inr ⟨z, e⟩
  refine ⟨h.fok, h.nx, by rw [List.length_set, List.length_set]; exact h.len, fun j e hj => ?_, fun j x hj o' => ?_, fun j k x z b hj hk ox oz e1 e2 => ?_, fun p hp => ?_, fun b hb c fs e => ?_⟩
  · rcases back j _ hj with ⟨rfl, q, hl⟩ | ⟨z, hj⟩
    · subst q; cases oy
    · rw [List.getElem?_set_ne (Ne.symm z)]
      exact h.val j e hj
  · rcases back j _ hj with ⟨rfl, q, hl⟩ | ⟨z, hj⟩
    · subst q
      exact ⟨a, List.getElem?_set_self (by rw [← h.len]; exact hl), hy, h3, h4, h5⟩
    · rw [List.getElem?_set_ne (Ne.symm z)]
      exact h.own j x hj o'
  · rcases back j _ hj with ⟨ej, q, hl⟩ | ⟨zj, hj⟩
    · rcases back k _ hk with ⟨ek, q', hl'⟩ | ⟨zk, hk⟩
      · rw [ej, ek]
      · rw [ej, List.getElem?_set_self (by rw [← h.len]; exact hl)] at e1
        cases e1
        rw [List.getElem?_set_ne (Ne.symm zk)] at e2
        exact absurd e2 (h6 k z hk oz)
    · rcases back k _ hk with ⟨ek, q', hl'⟩ | ⟨zk, hk⟩
      · rw [ek, List.getElem?_set_self (by rw [← h.len]; exact hl')] at e2
        cases e2
        rw [List.getElem?_set_ne (Ne.symm zj)] at e1
        exact absurd e1 (h6 j x hj ox)
      · rw [List.getElem?_set_ne (Ne.symm zj)] at e1
        rw [List.getElem?_set_ne (Ne.symm zk)] at e2
        exact h.ne j k x z b hj hk ox oz e1 e2
  · obtain ⟨q1, q2, q3, q4, q5⟩ := h.gam p (List.mem_cons_of_mem _ hp)
    refine ⟨q1, q2, q3, q4, fun j x hj o' => ?_⟩
    rcases back j _ hj with ⟨ej, q, hl⟩ | ⟨z, hj⟩
    · rw [ej, List.getElem?_set_self (by rw [← h.len]; exact hl)]
      exact fun e => hγ p hp (by cases e; rfl)
    · rw [List.getElem?_set_ne (Ne.symm z)]
      exact q5 j x hj o'
  · rcases back 0 _ e with ⟨z, q, hl⟩ | ⟨z, e⟩
    · exact absurd q.symm (hy0 c fs)
    · rw [List.getElem?_set_ne (Ne.symm z)]
      exact h.me b hb c fs e
/-- the thing of an own slot is changed -/
theorem Ok.mut (h : Ok G κ w s σ H) {i : Nat} {x y : Sl} {a : Addr} {o : HO} (hx : s.sl[i]? = some x) (ox : x.own = true) (oy : y.own = true) (ha : σ[i]? = some (some (.ref a))) (hy : OwnOk G w (upd H a o) a y) (hxy : ∀ c fs, y = .oi c fs → ∃ c' fs', x = .oi c' fs') :
    Ok G κ w ⟨s.sl.set i y, s.st⟩ σ (upd H a o) := by
  obtain ⟨a', h1, h2, h3, h4, h5⟩ := h.own i x hx ox
  rw [ha] at h1
  cases h1
  have hil : i < s.sl.length := (List.getElem?_eq_some_iff.mp hx).1
  have back : ∀ (j : Nat) (z : Sl), (s.sl.set i y)[j]? = some z → (j = i ∧ z = y) ∨ (j ≠ i ∧ s.sl[j]? = some z) := fun j z e => by
    by_cases q : j = i
    · subst q
      rw [List.getElem?_set_self hil] at e
      exact .inl ⟨rfl, (Option.some.inj e).symm⟩
    · rw [List.getElem?_set_ne (Ne.symm q)] at e
      exact .inr ⟨q, e⟩
  refine ⟨⟨fun b u e => ?_, h.fok.len, fun n b c e1 e2 => ?_, h.fok.nd, h.fok.nf⟩, ⟨h.nx.le, fun b u e n => ?_, h.nx.newF, h.nx.newR⟩, by rw [List.length_set]; exact h.len, fun j d hj => ?_, fun j z hj oz => ?_, fun j k z z' b hj hk oz oz' e1 e2 => ?_, fun p hp => ?_, fun b hb c fs e => ?_⟩
  · rw [upd_ne (ne_of_none e h3)]
    exact h.fok.sub b u e
  · exact (h.fok.cel n b c e1 e2).mono (.refl _) (upd_ne fun z => h4 (by rw [← z]; exact List.mem_of_getElem? e1))
  · rw [upd_ne (ne_of_none e h5)]
    exact h.nx.keep b u e n
  · rcases back j _ hj with ⟨rfl, q⟩ | ⟨_, hj⟩
    · subst q; cases oy
    · exact h.val j d hj
  · rcases back j _ hj with ⟨rfl, q⟩ | ⟨nj, hj⟩
    · subst q
      exact ⟨a, ha, hy, h3, h4, h5⟩
    · obtain ⟨b, q1, q2, q3, q4, q5⟩ := h.own j z hj oz
      exact ⟨b, q1, q2.mono (.refl _) (upd_ne fun e => nj (h.ne j i z x b hj hx oz ox q1 (by rw [e]; exact ha))), q3, q4, q5⟩
  · rcases back j _ hj with ⟨ej, q⟩ | ⟨nj, hj⟩
    · rcases back k _ hk with ⟨ek, q'⟩ | ⟨nk, hk⟩
      · rw [ej, ek]
      · rw [ej] at e1 ⊢
        exact h.ne i k x z' b hx hk ox oz' e1 e2
    · rcases back k _ hk with ⟨ek, q'⟩ | ⟨nk, hk⟩
      · rw [ek] at e2 ⊢
        exact h.ne j i z x b hj hx oz ox e1 e2
      · exact h.ne j k z z' b hj hk oz oz' e1 e2
  · obtain ⟨q1, q2, q3, q4, q5⟩ := h.gam p hp
    have np : p.1 ≠ a := fun e => q5 i x hx ox (by rw [ha, e])
    refine ⟨by rw [upd_ne np]; exact q1, q2, q3, q4, fun j z hj oz => ?_⟩
    rcases back j _ hj with ⟨ej, q⟩ | ⟨nj, hj⟩
    · rw [ej, ha]
      exact fun e => np (by cases e; rfl)
    · exact q5 j z hj oz
  · rcases back 0 _ e with ⟨z, q⟩ | ⟨z, e⟩
    · obtain ⟨c', fs', q'⟩ := hxy c fs q.symm
      subst q'
      subst z
      exact h.me b hb c' fs' hx
    · exact h.me b hb c fs e
/-- a cell of the store is changed -/
theorem Ok.cell (h : Ok G κ w s σ H) {n : Nat} {a : Addr} {c : Cell} {o : HO} (ha : w.ρ[n]? = some a) (hc : CellOk G w (upd H a o) a c) : Ok G κ w ⟨s.sl, s.st.set n c⟩ σ (upd H a o) := by
  have hm : a ∈ w.ρ := List.mem_of_getElem? ha
  have hn : n < w.ρ.length := (List.getElem?_eq_some_iff.mp ha).1
  refine ⟨⟨fun b u e => ?_, by rw [List.length_set]; exact h.fok.len, fun k b c' e1 e2 => ?_, h.fok.nd, h.fok.nf⟩, ⟨h.nx.le, fun b u e q => ?_, h.nx.newF, h.nx.newR⟩, h.len, h.val, fun j z hj oz => ?_, h.ne, fun p hp => ?_, h.me⟩
  · rw [upd_ne (ne_of_none e (h.fok.nf a hm))]
    exact h.fok.sub b u e
  · by_cases z : k = n
    · subst z
      rw [ha] at e1
      cases e1
      rw [List.getElem?_set_self (by rw [← h.fok.len]; exact hn)] at e2
      cases e2
      exact hc
    · rw [List.getElem?_set_ne (Ne.symm z)] at e2
      refine (h.fok.cel k b c' e1 e2).mono (.refl _) (upd_ne fun e => z ?_)
      subst e
      exact nodup_ix_any h.fok.nd e1 ha
  · have hbne : b ≠ a := fun e' => by
      subst e'
      rcases h.nx.newR b hm with z | z
      · exact q z
      · rw [e] at z; cases z
    rw [upd_ne hbne]
    exact h.nx.keep b u e q
  · obtain ⟨b, q1, q2, q3, q4, q5⟩ := h.own j z hj oz
    exact ⟨b, q1, q2.mono (.refl _) (upd_ne fun e => q4 (by rw [e]; exact hm)), q3, q4, q5⟩
  · obtain ⟨q1, q2, q3, q4⟩ := h.gam p hp
    exact ⟨by rw [upd_ne fun e => q3 (by rw [e]; exact hm)]; exact q1, q2, q3, q4⟩
where
  nodup_ix_any {l : List Addr} (hN : l.Nodup) {i j : Nat} {x : Addr} (a : l[i]? = some x) (b : l[j]? = some x) : i = j := by
    obtain ⟨h1, e1⟩ := List.getElem?_eq_some_iff.mp a
    obtain ⟨h2, e2⟩ := List.getElem?_eq_some_iff.mp b
    exact (List.getElem_inj hN).mp (e1.trans e2.symm)
end
end DL
set_option maxRecDepth 100000
set_option maxHeartbeats 4000000
set_option autoImplicit false
namespace DL
open PySem PySem.Spec PyProof.Rows L2
section
variable (G : Gam) (W : WX)
/-- a new list of one's own -/
def PostO (κ : Bs) (w : Wd) (σ : L2.St) (r : Res DS (List D)) (Q : VK) : Prop := match r with
  | .ok xs s' => ∀ w' a vs H', w.le w' → Ok G (κ.plus a (.lst vs)) w' s' σ H' → (∀ p ∈ κ.γ, p.1 ≠ a) → Reps G w' vs xs → Q (.ref a) H'
  | .exc x s' => ∀ w' c dd H', w.le w' → Ok G κ w' s' σ H' → RepX G w' c dd x → W c dd σ H'
  | .stuck => False
def tDo (f : DA) : TE := fun σ H Q => ∃ κ w s, Ok G κ w s σ H ∧ PostO G W κ w σ (f s) Q
end
abbrev PDo (G : Gam) (W : WX) (X : Cx) (e : Expr) (f : DA) : Prop := PE X e (tDo G W f)
section
variable {G : Gam} {W : WX} {X : Cx}
theorem PostO.mono {κ : Bs} {w w1 : Wd} {σ : L2.St} {r : Res DS (List D)} {Q : VK} (le : w.le w1) (h : PostO G W κ w σ r Q) : PostO G W κ w1 σ r Q := by
  cases r with
  | ok d s' => exact fun w' a vs H' l o g r => h w' a vs H' (le.trans l) o g r
  | exc x s' => exact fun w' c dd H' l o r => h w' c dd H' (le.trans l) o r
  | stuck => exact h
theorem Ok.apart {κ : Bs} {w : Wd} {s : DS} {σ : L2.St} {H : Hp} (h : Ok G κ w s σ H) {p : Addr} (hp : H p = none) : ∀ q ∈ κ.γ, q.1 ≠ p := fun q hq => ne_of_none (h.gam q hq).1 hp
/-- an expression, then a new list -/
theorem PostG.bindO {α β : Type} {rep : Wd → β → α → Prop} {κ : Bs} {w : Wd} {σ : L2.St} {r : Res DS α} {k : α → DS → Res DS (List D)} {Q : VK} (h : PostO G W κ w σ (r.bind k) Q) :
    PostG G W rep κ w σ r (fun v H1 => ∃ d s1 w1, w.le w1 ∧ Ok G κ w1 s1 σ H1 ∧ rep w1 v d ∧ PostO G W κ w1 σ (k d s1) Q) := by
  cases r with
  | ok d s' => exact fun w' v H' l o r => ⟨d, s', w', l, o, r, PostO.mono l h⟩
  | exc x s' => exact h
  | stuck => exact h
def aMax (g : DA) : DA := fun s => (g s).bind fun ds s1 => if ds.length ≤ 1000 then .ok ds s1 else .stuck
theorem pdo_lst {es : List Expr} {g : DA} {pos : Pos} (h : PDA G W X es g) : PDo G W X (.List es pos) (aMax g) :=
  (pe_lst h).imp fun σ H Q ⟨κ, w, s, ok, q⟩ => ⟨κ, w, s, ok, (PostG.bindO q).imp fun v H1 ⟨d, s1, w1, le, ok1, r1, q1⟩ => by
    by_cases c : d.length ≤ 1000
    · rw [if_pos c] at q1
      refine ⟨by rw [r1.length]; exact sz1000 c, fun p hp => ?_⟩
      exact q1 w1 p v _ (.refl _) (ok1.fresh hp _) (ok1.apart hp) r1
    · rw [if_neg c] at q1
      exact q1.elim⟩
def eFrz (f : DA) : DE := fun s => (f s).bind fun xs s1 => .ok (.lst xs) s1
theorem pdo_frz {e : Expr} {f : DA} (h : PDo G W X e f) : PD G W X e (eFrz f) := h.imp fun σ H Q ⟨κ, w, s, ok, q⟩ => ⟨κ, w, s, ok, by
  unfold eFrz at q
  cases e : f s with
  | stuck => rw [e] at q; exact q.elim
  | exc x s' => rw [e] at q; exact q
  | ok xs s' =>
    rw [e] at q
    intro w' a vs H' l o g r
    obtain ⟨le, ok'⟩ := o.frz g
    exact q _ _ H' (l.trans le) ok' (.lst upd_same (r.mono le))⟩
/-! ### statements -/
def sPass : DStm := fun s => .ok .nx s
def sSeq (f g : DStm) : DStm := fun s => (f s).bind fun o s1 => match o with
  | .nx => g s1
  | o => .ok o s1
theorem pdss_nil : PDSs G W X [] sPass := pss_nil.imp fun N σ H ⟨κ, w, s, ok, q⟩ => q w σ H (.refl _) ok
theorem PostS.seq {κ : Bs} {w : Wd} {r : Res DS Out} {g : DStm} {N : Ends} (h : PostS G W κ w (r.bind fun o s1 => match o with | .nx => g s1 | o => .ok o s1) N) : PostS G W κ w r { N with nx := tDS G W g N } := by
  cases r with
  | stuck => exact h
  | exc x s' => exact h
  | ok o s' =>
    cases o with
    | nx => exact fun w' σ' H' l o => ⟨κ, w', s', o, PostS.mono l h⟩
    | bk => exact h
    | ct => exact h
    | rt d => exact h
theorem pdss_cons {st : Stmt} {r : List Stmt} {f g : DStm} (h : PDS G W X st f) (k : PDSs G W X r g) : PDSs G W X (st :: r) (sSeq f g) :=
  (pss_cons h k).imp fun N σ H ⟨κ, w, s, ok, q⟩ => ⟨κ, w, s, ok, PostS.seq q⟩
theorem pdss_one {st : Stmt} {f : DStm} (h : PDS G W X st f) : PDSs G W X [st] f := pss_one h
def sNever : DStm := fun _ => .stuck
theorem pds_never {st : Stmt} : PDS G W X st sNever := ps_never.imp fun N σ H ⟨κ, w, s, ok, q⟩ => q.elim
theorem pdss_never {st : List Stmt} : PDSs G W X st sNever := pss_never.imp fun N σ H ⟨κ, w, s, ok, q⟩ => q.elim
theorem pds_pass {pos : Pos} : PDS G W X (.Pass pos) sPass := ps_pass.imp fun N σ H ⟨κ, w, s, ok, q⟩ => q w σ H (.refl _) ok
def sBreak : DStm := fun s => .ok .bk s
def sCont : DStm := fun s => .ok .ct s
theorem pds_break {pos : Pos} : PDS G W X (.Break pos) sBreak := ps_break.imp fun N σ H ⟨κ, w, s, ok, q⟩ => q w σ H (.refl _) ok
theorem pds_continue {pos : Pos} : PDS G W X (.Continue pos) sCont := ps_continue.imp fun N σ H ⟨κ, w, s, ok, q⟩ => q w σ H (.refl _) ok
def sExpr (f : DE) : DStm := fun s => (f s).bind fun _ s1 => .ok .nx s1
theorem pds_expr {e : Expr} {f : DE} {pos : Pos} (h : PD G W X e f) (hs : swapsWith e none pos.line X.env = pure false := by rfl) : PDS G W X (.Expr e pos) (sExpr f) :=
  (ps_expr h hs).imp fun N σ H ⟨κ, w, s, ok, q⟩ => ⟨κ, w, s, ok, (PostG.bindS q).imp fun v H1 ⟨d, s1, w1, le, ok1, r1, q1⟩ => q1 w1 σ H1 (.refl _) ok1⟩
def sRet (f : DE) : DStm := fun s => (f s).bind fun d s1 => .ok (.rt d) s1
theorem pds_ret {e : Expr} {f : DE} {pos : Pos} (h : PD G W X e f) : PDS G W X (.Return (some e) pos) (sRet f) :=
  (ps_ret h).imp fun N σ H ⟨κ, w, s, ok, q⟩ => ⟨κ, w, s, ok, (PostG.bindS q).imp fun v H1 ⟨d, s1, w1, le, ok1, r1, q1⟩ => q1 w1 σ v H1 (.refl _) ok1 r1⟩
theorem pds_retN {pos : Pos} : PDS G W X (.Return none pos) (sRet (eC .non)) := ps_retN.imp fun N σ H ⟨κ, w, s, ok, q⟩ => q w σ .non H (.refl _) ok .non
def sIf (c : DT) (f g : DStm) : DStm := fun s => (c s).bind fun b s1 => if b = true then f s1 else g s1
theorem pds_if {c : Expr} {a b : List Stmt} {fc : DT} {f g : DStm} {pos : Pos} (hc : PDT G W X c fc) (h : PDSs G W X a f) (k : PDSs G W X b g) : PDS G W X (.If c a b pos) (sIf fc f g) :=
  (ps_if hc h k).imp fun N σ H ⟨κ, w, s, ok, q⟩ => ⟨κ, w, s, ok, (PostG.bindS q).imp fun v H1 ⟨d, s1, w1, le, ok1, r1, q1⟩ => by
    subst r1
    cases v with
    | true => exact ⟨κ, w1, s1, ok1, q1⟩
    | false => exact ⟨κ, w1, s1, ok1, q1⟩⟩
def sSet (i : Nat) (f : DE) : DStm := fun s => (f s).bind fun d s1 => .ok .nx ⟨s1.sl.set i (.val d), s1.st⟩
theorem pds_set {i : Nat} {x : Str} {e : Expr} {f : DE} {pos pos' : Pos} (hN : X.N.Nodup) (hi : X.N[i]? = some x) (hx : Loc X.env.scope x) (he : PD G W X e f) (hs : swapsWith e (some (.Name x pos')) pos.line X.env = pure false := by rfl)
    (hf : X.fn x = true ∨ X.env.scope.names.lookup x = some .local := by first | exact .inl rfl | exact .inr rfl | assumption) : PDS G W X (.Assign [.Name x pos'] e pos) (sSet i f) :=
  (ps_set hN hi hx he hs hf).imp fun N σ H ⟨κ, w, s, ok, q⟩ => ⟨κ, w, s, ok, (PostG.bindS q).imp fun v H1 ⟨d, s1, w1, le, ok1, r1, q1⟩ => q1 w1 _ H1 (.refl _) (ok1.setVal r1 i)⟩
/-- name = a new list -/
def sSetO (i : Nat) (f : DA) : DStm := fun s => (f s).bind fun xs s1 => .ok .nx ⟨s1.sl.set i (.ol xs), s1.st⟩
theorem setO_of {i : Nat} {f : DA} {N : Ends} {σ : L2.St} {H : Hp} (h : tDS G W (sSetO i f) N σ H) : tAsg (tDo G W f) (gName i) N σ H := by
  obtain ⟨κ, w, s, ok, q⟩ := h
  refine ⟨κ, w, s, ok, ?_⟩
  unfold sSetO at q
  cases e : f s with
  | stuck => rw [e] at q; exact q.elim
  | exc x s' =>
    rw [e] at q
    exact fun w' c dd H' l o r => q w' σ c dd H' l o r
  | ok xs s' =>
    rw [e] at q
    intro w' a vs H' l o g r
    exact q w' _ H' l (o.setOwn (y := .ol xs) g ⟨vs, (o.gam (a, .lst vs) List.mem_cons_self).1, r⟩ rfl (fun _ _ z => nomatch z) i)
theorem pds_setO {i : Nat} {x : Str} {e : Expr} {f : DA} {pos pos' : Pos} (hN : X.N.Nodup) (hi : X.N[i]? = some x) (hx : Loc X.env.scope x) (he : PDo G W X e f) (hs : swapsWith e (some (.Name x pos')) pos.line X.env = pure false := by rfl)
    (hf : X.fn x = true ∨ X.env.scope.names.lookup x = some .local := by first | exact .inl rfl | exact .inr rfl | assumption) : PDS G W X (.Assign [.Name x pos'] e pos) (sSetO i f) :=
  (ps_set hN hi hx he hs hf).imp fun N σ H q => setO_of q
/-! ### targets -/
abbrev DG := D → DS → Res DS Unit
section
variable (G : Gam) (W : WX)
def PostT (is : List Nat) (σ : L2.St) (κ : Bs) (w : Wd) (r : Res DS Unit) (Q : L2.St → Hp → Prop) : Prop := match r with
  | .ok _ s' => ∀ w' σ' H', w.le w' → Ok G κ w' s' σ' H' → (σ'.length = σ.length ∧ ∀ i : Nat, i ∉ is → σ'[i]? = σ[i]?) → Q σ' H'
  | .exc x s' => False
  | .stuck => False
def tDG (is : List Nat) (g : DG) : TG := fun v σ H Q => ∃ κ w s d, Ok G κ w s σ H ∧ Rep G w v d ∧ PostT G is σ κ w (g d s) Q
def tDGs (is : List Nat) (g : List D → DS → Res DS Unit) : TGs := fun v σ H Q => ∃ κ w s d, Ok G κ w s σ H ∧ Reps G w v d ∧ PostT G is σ κ w (g d s) Q
end
theorem _root_.L2.PG.imp {X : Cx} {e : Expr} {t t' : TG} (h : PG X e t) (k : ∀ v σ H Q, t' v σ H Q → t v σ H Q) : PG X e t' := ⟨fun pins s σ H v u Q I r q => h.run pins s σ H v u Q I r (k v σ H Q q)⟩
theorem _root_.L2.PGs.imp {X : Cx} {e : List Expr} {t t' : TGs} (h : PGs X e t) (k : ∀ v σ H Q, t' v σ H Q → t v σ H Q) : PGs X e t' := ⟨fun pins s σ H v u Q I r q => h.run pins s σ H v u Q I r (k v σ H Q q)⟩
abbrev PDG (G : Gam) (X : Cx) (e : Expr) (is : List Nat) (g : DG) : Prop := PG X e (tDG G is g)
abbrev PDGs (G : Gam) (X : Cx) (e : List Expr) (is : List Nat) (g : List D → DS → Res DS Unit) : Prop := PGs X e (tDGs G is g)
def gN (i : Nat) : DG := fun d s => .ok () ⟨s.sl.set i (.val d), s.st⟩
theorem pdg_name {i : Nat} {x : Str} {pos : Pos} (hN : X.N.Nodup) (hi : X.N[i]? = some x) (hx : Loc X.env.scope x) (hf : X.fn x = true ∨ X.env.scope.names.lookup x = some .local := by first | exact .inl rfl | exact .inr rfl | assumption) : PDG G X (.Name x pos) [i] (gN i) :=
  (pg_name hN hi hx hf).imp fun v σ H Q ⟨κ, w, s, d, ok, r, q⟩ => q w _ H (.refl _) (ok.setVal r i) ⟨by rw [List.length_set], fun j hj => List.getElem?_set_ne fun z => hj (by rw [z]; exact List.mem_singleton.mpr rfl)⟩
def gsNil : List D → DS → Res DS Unit := fun ds s => match ds with
  | [] => .ok () s
  | _ => .stuck
def gsCons (g : DG) (k : List D → DS → Res DS Unit) : List D → DS → Res DS Unit := fun ds s => match ds with
  | d :: r => (g d s).bind fun _ s1 => k r s1
  | _ => .stuck
theorem pdgs_nil : PDGs G X [] [] gsNil := pgs_nil.imp fun v σ H Q ⟨κ, w, s, d, ok, r, q⟩ => by
  cases r with
  | nil => exact ⟨rfl, q w σ H (.refl _) ok ⟨rfl, fun _ _ => rfl⟩⟩
  | cons a b => exact q.elim
theorem pdgs_cons {e : Expr} {es : List Expr} {is is' : List Nat} {g : DG} {k : List D → DS → Res DS Unit} (h1 : PDG G X e is g) (h2 : PDGs G X es is' k)
    (hs : (assignEach (e :: es) X.env).map (·.2) = assign e X.env :: (assignEach es X.env).map (·.2) := by rfl) : PDGs G X (e :: es) (is ++ is') (gsCons g k) :=
  (pgs_cons h1 h2 hs).imp fun v σ H Q ⟨κ, w, s, d, ok, r, q⟩ => by
    cases r with
    | nil => exact q.elim
    | @cons v d vs ds a b =>
      refine ⟨v, vs, rfl, κ, w, s, d, ok, a, ?_⟩
      have q : PostT G (is ++ is') σ κ w ((g d s).bind fun _ s1 => k ds s1) Q := q
      cases e : g d s with
      | stuck => rw [e] at q; exact q.elim
      | exc x s' => rw [e] at q; exact q.elim
      | ok u s' =>
        rw [e] at q
        intro w' σ' H' l o hσ
        refine ⟨κ, w', s', ds, o, b.mono l, ?_⟩
        have q : PostT G (is ++ is') σ κ w (k ds s') Q := q
        cases e2 : k ds s' with
        | stuck => rw [e2] at q; exact q.elim
        | exc x s' => rw [e2] at q; exact q.elim
        | ok u s2 =>
          rw [e2] at q
          exact fun w2 σ2 H2 l2 o2 h2 => q w2 σ2 H2 (l.trans l2) o2 ⟨h2.1.trans hσ.1, fun i hi => (h2.2 i fun z => hi (List.mem_append_right _ z)).trans (hσ.2 i fun z => hi (List.mem_append_left _ z))⟩
def gT (n : Nat) (g : List D → DS → Res DS Unit) : DG := fun d s => match d with
  | .tup ds => if ds.length = n then g ds s else .stuck
  | _ => .stuck
theorem pdg_tup (hK : G.K = X.K) {es : List Expr} {is : List Nat} {k : Nat} {g : List D → DS → Res DS Unit} {n : Nat} {pos : Pos} (hc : X.calm = true) (h : PDGs G X es is g)
    (hn : (assignEach es X.env).length = n := by rfl) (hst : (assignEach es X.env).findIdx? (·.1) = none := by rfl) : PDG G X (.Tuple es k pos) is (gT n g) :=
  (pg_tup hc h hn hst).imp fun v σ H Q ⟨κ, w, s, d, ok, r, q⟩ => by
    cases r with
    | @tup a vs ds e r =>
      by_cases c : ds.length = n
      · have q : PostT G is σ κ w (if ds.length = n then g ds s else .stuck) Q := q
        rw [if_pos c] at q
        refine ⟨a, vs, rfl, hK ▸ SqT.le e ok.fok.sub, by rw [r.length]; exact c, κ, w, s, ds, ok, r, q⟩
      · have q : PostT G is σ κ w (if ds.length = n then g ds s else .stuck) Q := q
        rw [if_neg c] at q
        exact q.elim
    | _ => exact q.elim
def sAsg (f : DE) (g : DG) : DStm := fun s => (f s).bind fun d s1 => (g d s1).bind fun _ s2 => .ok .nx s2
theorem PostT.toS {is : List Nat} {σ : L2.St} {κ : Bs} {w : Wd} {r : Res DS Unit} {N : Ends} {Wx : WX} (h : PostS G Wx κ w (r.bind fun _ s2 => .ok .nx s2) N) (hx : ∀ x s, r ≠ .exc x s) : PostT G is σ κ w r N.nx := by
  cases r with
  | stuck => exact h
  | exc x s' => exact absurd rfl (hx x s')
  | ok u s' => exact fun w' σ' H' l o _ => h w' σ' H' l o
def noX {σ α : Type} (r : Res σ α) : Res σ α := match r with
  | .exc _ _ => .stuck
  | r => r
theorem noX_exc {σ α : Type} (r : Res σ α) : ∀ x s, noX r ≠ .exc x s := fun x s h => by cases r <;> cases h
def sAsgT (f : DE) (g : DG) : DStm := fun s => (f s).bind fun d s1 => (noX (g d s1)).bind fun _ s2 => .ok .nx s2
theorem PostT.ofNoX {is : List Nat} {σ : L2.St} {κ : Bs} {w : Wd} {r : Res DS Unit} {Q : L2.St → Hp → Prop} (h : PostT G is σ κ w (noX r) Q) : PostT G is σ κ w r Q := by
  cases r with
  | stuck => exact h
  | exc x s' => exact h
  | ok u s' => exact h
theorem pds_asg {tg e : Expr} {f : DE} {is : List Nat} {g : DG} {pos : Pos} (he : PD G W X e f) (hg : PDG G X tg is g) (hs : swapsWithSole [tg] e pos.line X.env = pure false := by rfl) (hw : swappedStores [tg] e X.env = pure none := by rfl)
    (h1 : (assignEach [tg] X.env).map (·.2) = [assign tg X.env] := by rfl) : PDS G W X (.Assign [tg] e pos) (sAsgT f g) :=
  (ps_asg he hg hs hw h1).imp fun N σ H ⟨κ, w, s, ok, q⟩ => ⟨κ, w, s, ok, (PostG.bindS q).imp fun v H1 ⟨d, s1, w1, le, ok1, r1, q1⟩ =>
    ⟨κ, w1, s1, d, ok1, r1, PostT.ofNoX (PostT.toS q1 (noX_exc _))⟩⟩
/-- a, b = x, y with plain locals -/
def sPar (i j : Nat) (f : DA) : DStm := fun s => (f s).bind fun ds s1 => match ds with
  | [x, y] => .ok .nx ⟨(s1.sl.set i (.val x)).set j (.val y), s1.st⟩
  | _ => .stuck
theorem pds_par {i j : Nat} {x y : Str} {a b : Expr} {f : DA} {px py pt pos : Pos} {kt k2 : Nat} {pt2 : Pos} (hc : X.calm = true) (hN : X.N.Nodup) (hi : X.N[i]? = some x) (hj : X.N[j]? = some y) (hij : i ≠ j)
    (hx : X.env.scope.names.lookup x = some .local) (hy : X.env.scope.names.lookup y = some .local) (ha : PDA G W X [a, b] f)
    (hw : swappedStores [.Tuple [.Name x px, .Name y py] kt pt] (.Tuple [a, b] k2 pt2) X.env = pure (some [x, y]))
    (hs : swapsWithSole [.Tuple [.Name x px, .Name y py] kt pt] (.Tuple [a, b] k2 pt2) pos.line X.env = pure false := by rfl) :
    PDS G W X (.Assign [.Tuple [.Name x px, .Name y py] kt pt] (.Tuple [a, b] k2 pt2) pos) (sPar i j f) :=
  (ps_par hc hN hi hj hij hx hy ha hw hs).imp fun N σ H ⟨κ, w, s, ok, q⟩ => ⟨κ, w, s, ok, (PostG.bindS q).imp fun v H1 ⟨d, s1, w1, le, ok1, r1, q1⟩ => by
    cases r1 with
    | nil => exact q1.elim
    | cons a b =>
      cases b with
      | nil => exact q1.elim
      | cons a2 b2 =>
        cases b2 with
        | nil => exact ⟨_, _, rfl, q1 w1 _ H1 (.refl _) ((ok1.setVal a i).setVal a2 j)⟩
        | cons _ _ => exact q1.elim⟩
/-! ### loops -/
def loopOut (r : Res DS Out) (k : DS → Res DS Out) : Res DS Out := match r with
  | .ok .nx s2 => k s2
  | .ok .ct s2 => k s2
  | .ok .bk s2 => .ok .nx s2
  | r => r
def runW (c : DT) (b : DStm) : Nat → DS → Res DS Out
  | 0, _ => .stuck
  | n + 1, s => (c s).bind fun t s1 => if t = true then loopOut (b s1) (runW c b n) else .ok .nx s1
theorem runW_mono (c : DT) (b : DStm) : ∀ (n : Nat) (s : DS), runW c b n s ≠ .stuck → runW c b (n + 1) s = runW c b n s
  | 0, s, h => absurd rfl h
  | n + 1, s, h => by
    show (c s).bind (fun t s1 => if t = true then loopOut (b s1) (runW c b (n + 1)) else .ok .nx s1) = (c s).bind fun t s1 => if t = true then loopOut (b s1) (runW c b n) else .ok .nx s1
    have h : (c s).bind (fun t s1 => if t = true then loopOut (b s1) (runW c b n) else .ok .nx s1) ≠ .stuck := h
    cases e : c s with
    | stuck => rfl
    | exc x s' => rfl
    | ok t s1 =>
      rw [e] at h
      rw [Res.bind_ok] at h ⊢
      rw [Res.bind_ok]
      cases t with
      | false => rfl
      | true =>
        rw [if_pos rfl] at h ⊢
        rw [if_pos rfl]
        cases e2 : b s1 with
        | stuck => rfl
        | exc x s' => rfl
        | ok o s2 =>
          rw [e2] at h
          cases o with
          | nx => exact runW_mono c b n s2 h
          | ct => exact runW_mono c b n s2 h
          | bk => rfl
          | rt d => rfl
theorem runW_le (c : DT) (b : DStm) {n m : Nat} {s : DS} (hnm : n ≤ m) (h : runW c b n s ≠ .stuck) : runW c b m s = runW c b n s := by
  induction hnm with
  | refl => rfl
  | step hk ih => rw [runW_mono c b _ s (by rw [ih]; exact h), ih]
open Classical in
noncomputable def sWhile (c : DT) (b : DStm) : DStm := fun s => if h : ∃ n, runW c b n s ≠ .stuck then runW c b h.choose s else .stuck
theorem sWhile_of {c : DT} {b : DStm} {s : DS} (n : Nat) (h : runW c b n s ≠ .stuck) : sWhile c b s = runW c b n s := by
  have ex : ∃ n, runW c b n s ≠ .stuck := ⟨n, h⟩
  unfold sWhile
  rw [dif_pos ex]
  rcases Nat.le_total n ex.choose with z | z
  · exact runW_le c b z h
  · exact (runW_le c b z ex.choose_spec).symm
theorem sWhile_eq (c : DT) (b : DStm) (s : DS) : sWhile c b s = (c s).bind fun t s1 => if t = true then loopOut (b s1) (sWhile c b) else .ok .nx s1 := by
  have key : ∀ n, runW c b (n + 1) s ≠ .stuck → sWhile c b s = (c s).bind fun t s1 => if t = true then loopOut (b s1) (sWhile c b) else .ok .nx s1 := fun n h => by
    rw [sWhile_of (n + 1) h]
    have h : (c s).bind (fun t s1 => if t = true then loopOut (b s1) (runW c b n) else .ok .nx s1) ≠ .stuck := h
    show (c s).bind (fun t s1 => if t = true then loopOut (b s1) (runW c b n) else .ok .nx s1) = _
    cases e : c s with
    | stuck => rfl
    | exc x s' => rfl
    | ok t s1 =>
      rw [e] at h
      rw [Res.bind_ok] at h ⊢
      rw [Res.bind_ok]
      cases t with
      | false => rfl
      | true =>
        rw [if_pos rfl] at h ⊢
        rw [if_pos rfl]
        cases e2 : b s1 with
        | stuck => rfl
        | exc x s' => rfl
        | ok o s2 =>
          rw [e2] at h
          cases o with
          | nx => exact (sWhile_of n h).symm
          | ct => exact (sWhile_of n h).symm
          | bk => rfl
          | rt d => rfl
  by_cases ex : ∃ n, runW c b n s ≠ .stuck
  · obtain ⟨n, h⟩ := ex
    cases n with
    | zero => exact absurd rfl h
    | succ n => exact key n h
  · have all : ∀ n, runW c b n s = .stuck := fun n => Classical.byContradiction fun h => ex ⟨n, h⟩
    have l : sWhile c b s = .stuck := by
      unfold sWhile
      rw [dif_neg ex]
    rw [l]
    have a1 := all 1
    cases e : c s with
    | stuck => rfl
    | exc x s' =>
      have a1 : (c s).bind (fun t s1 => if t = true then loopOut (b s1) (runW c b 0) else .ok .nx s1) = .stuck := a1
      rw [e] at a1
      cases a1
    | ok t s1 =>
      rw [Res.bind_ok]
      cases t with
      | false =>
        have a1 : (c s).bind (fun t s1 => if t = true then loopOut (b s1) (runW c b 0) else .ok .nx s1) = .stuck := a1
        rw [e] at a1
        cases a1
      | true =>
        rw [if_pos rfl]
        have an : ∀ n, loopOut (b s1) (runW c b n) = .stuck := fun n => by
          have := all (n + 1)
          have a1 : (c s).bind (fun t s1 => if t = true then loopOut (b s1) (runW c b n) else .ok .nx s1) = .stuck := this
          rw [e] at a1
          exact a1
        cases e2 : b s1 with
        | stuck => rfl
        | exc x s' => have := an 0; rw [e2] at this; cases this
        | ok o s2 =>
          have nn : ∀ n, loopOut (.ok o s2) (runW c b n) = .stuck := fun n => by rw [← e2]; exact an n
          have un : (∀ n, runW c b n s2 = .stuck) → sWhile c b s2 = .stuck := fun q => by
            unfold sWhile
            rw [dif_neg fun ⟨n, h⟩ => h (q n)]
          cases o with
          | nx => exact (un nn).symm
          | ct => exact (un nn).symm
          | bk => cases nn 0
          | rt d => cases nn 0
theorem pds_while {c : Expr} {body : List Stmt} {fc : DT} {fb : DStm} {pos : Pos} (hp : PassesOwn (model X.prog X.w) X.A X.env X.xe) (hc : PDT G W X c fc) (hb : PDSs G W X body fb) : PDS G W X (.While c body [] pos) (sWhile fc fb) :=
  (ps_while hp hc hb).imp fun N σ H ⟨κ, w, s, ok, q⟩ => by
    by_cases ex : ∃ n, runW fc fb n s ≠ .stuck
    · obtain ⟨n, hn⟩ := ex
      rw [sWhile_of n hn] at q
      refine ⟨fun m σ H => ∃ w' s', w.le w' ∧ Ok G κ w' s' σ H ∧ PostS G W κ w' (runW fc fb m s') N, ⟨n, w, s, .refl _, ok, q⟩, fun m σ' H' ⟨w', s', le, ok', q'⟩ => ?_⟩
      cases m with
      | zero => exact q'.elim
      | succ m =>
        refine ⟨κ, w', s', ok', (PostG.bindS q').imp fun v H1 ⟨d, s1, w1, le1, ok1, r1, q1⟩ => ?_⟩
        subst r1
        cases v with
        | false => exact q1 w1 σ' H1 (.refl _) ok1
        | true =>
          refine ⟨fun σ2 H2 => ∃ w2 s2, w.le w2 ∧ Ok G κ w2 s2 σ2 H2 ∧ PostS G W κ w2 (runW fc fb m s2) N, fun σ2 H2 z => ⟨m, Nat.lt_succ_self _, z⟩, κ, w1, s1, ok1, ?_⟩
          have q1 : PostS G W κ w1 (loopOut (fb s1) (runW fc fb m)) N := q1
          cases e : fb s1 with
          | stuck => rw [e] at q1; exact q1.elim
          | exc x s' => rw [e] at q1; exact q1
          | ok o s2 =>
            rw [e] at q1
            cases o with
            | nx => exact fun w2 σ2 H2 l o => ⟨w2, s2, (le.trans le1).trans l, o, PostS.mono l q1⟩
            | ct => exact fun w2 σ2 H2 l o => ⟨w2, s2, (le.trans le1).trans l, o, PostS.mono l q1⟩
            | bk => exact q1
            | rt d => exact q1
    · unfold sWhile at q
      rw [dif_neg ex] at q
      exact q.elim
/-! ### what a for walks -/
section
variable (G : Gam) (W : WX)
def ItOk (w : Wd) (J : It) (items : List D) : Prop := ∀ (w1 : Wd) (S : List Cell) (H : Hp), w.le w1 → FOk G w1 S H → ∀ i : Nat,
  (∀ d, items[i]? = some d → J.go i H ∧ ∀ x H', J.yld i H x H' → ∃ w2, Nx w1 H w2 H' ∧ FOk G w2 S H' ∧ Rep G w2 x d) ∧ (items[i]? = none → J.stop i H)
def PostI (κ : Bs) (w : Wd) (σ : L2.St) (r : Res DS (List D)) (R : It → Hp → Prop) : Prop := match r with
  | .ok ds s' => ∀ w' J H', w.le w' → Ok G κ w' s' σ H' → ItOk G w' J ds → R J H'
  | .exc x s' => ∀ w' c dd H', w.le w' → Ok G κ w' s' σ H' → RepX G w' c dd x → W c dd σ H'
  | .stuck => False
def tDI (f : DA) : TI := fun σ H R => ∃ κ w s, Ok G κ w s σ H ∧ PostI G W κ w σ (f s) R
end
theorem _root_.L2.PI.imp {X : Cx} {tg e : Expr} {t t' : TI} (h : PI X tg e t) (k : ∀ σ H R, t' σ H R → t σ H R) : PI X tg e t' := ⟨fun pins s σ H R I q => h.run pins s σ H R I (k σ H R q)⟩
abbrev PDI (G : Gam) (W : WX) (X : Cx) (tg e : Expr) (f : DA) : Prop := PI X tg e (tDI G W f)
theorem PostI.mono {κ : Bs} {w w1 : Wd} {σ : L2.St} {r : Res DS (List D)} {R : It → Hp → Prop} (le : w.le w1) (h : PostI G W κ w σ r R) : PostI G W κ w1 σ r R := by
  cases r with
  | ok d s' => exact fun w' J H' l o g => h w' J H' (le.trans l) o g
  | exc x s' => exact fun w' c dd H' l o r => h w' c dd H' (le.trans l) o r
  | stuck => exact h
theorem PostG.bindI {α β : Type} {rep : Wd → β → α → Prop} {κ : Bs} {w : Wd} {σ : L2.St} {r : Res DS α} {k : α → DS → Res DS (List D)} {Q : It → Hp → Prop} (h : PostI G W κ w σ (r.bind k) Q) :
    PostG G W rep κ w σ r (fun v H1 => ∃ d s1 w1, w.le w1 ∧ Ok G κ w1 s1 σ H1 ∧ rep w1 v d ∧ PostI G W κ w1 σ (k d s1) Q) := by
  cases r with
  | ok d s' => exact fun w' v H' l o r => ⟨d, s', w', l, o, r, PostI.mono l h⟩
  | exc x s' => exact h
  | stuck => exact h
/-- the items of a list; of a tuple -/
def itL (f : DE) : DA := fun s => (f s).bind fun d s1 => match d with
  | .lst xs => .ok xs s1
  | .scr xs => .ok xs s1
  | _ => .stuck
def itT (f : DE) : DA := fun s => (f s).bind fun d s1 => match d with
  | .tup xs => .ok xs s1
  | _ => .stuck
theorem itOk_list (hK : G.K = X.K) {w : Wd} {a : Addr} {vs : List V} {ds : List D} (e : SqL G.K w.F a vs) (un : ∀ (H : Hp) ys, SqL X.K H a vs → SqL X.K H a ys → vs = ys → True) (r : Reps G w vs ds) (inj : ∀ (H : Hp), SqL X.K H a vs → True) : ItOk G w (Itl X.K a) ds := by
  intro w1 S H le fok i
  have q : SqL X.K H a vs := hK ▸ SqL.le (SqL.le e le.f) fok.sub
  refine ⟨fun d hd => ?_, fun hn => ?_⟩
  · obtain ⟨y, h1, h2⟩ := r.get hd
    refine ⟨⟨vs, y, q, h1⟩, fun x H' ⟨hH, hx⟩ => ⟨w1, ?_, ?_, ?_⟩⟩
    · rw [hH]; exact .refl _ _
    · rw [hH]; exact fok
    · have := hx vs q
      rw [h1] at this
      cases this
      exact h2.mono le
  · refine ⟨vs, q, ?_⟩
    rw [r.length]
    exact List.getElem?_eq_none_iff.mp hn
theorem itOk_tup (hK : G.K = X.K) {w : Wd} {a : Addr} {vs : List V} {ds : List D} (e : SqT G.K w.F a vs) (r : Reps G w vs ds) : ItOk G w (Itt X.K a) ds := by
  intro w1 S H le fok i
  have q : SqT X.K H a vs := hK ▸ SqT.le (SqT.le e le.f) fok.sub
  refine ⟨fun d hd => ?_, fun hn => ?_⟩
  · obtain ⟨y, h1, h2⟩ := r.get hd
    refine ⟨⟨vs, y, q, h1⟩, fun x H' ⟨hH, hx⟩ => ⟨w1, ?_, ?_, ?_⟩⟩
    · rw [hH]; exact .refl _ _
    · rw [hH]; exact fok
    · have := hx vs q
      rw [h1] at this
      cases this
      exact h2.mono le
  · refine ⟨vs, q, ?_⟩
    rw [r.length]
    exact List.getElem?_eq_none_iff.mp hn
theorem pdi_list (hK : G.K = X.K) {tg e : Expr} {f : DE} (h : PD G W X e f) : PDI G W X tg e (itL f) :=
  (pi_list h).imp fun σ H R ⟨κ, w, s, ok, q⟩ => ⟨κ, w, s, ok, (PostG.bindI q).imp fun v H1 ⟨d, s1, w1, le, ok1, r1, q1⟩ => by
    cases r1 with
    | @lst a vs ds e r =>
      have e' : SqL G.K w1.F a vs := .inl (.inl e)
      exact ⟨a, rfl, ⟨vs, hK ▸ SqL.le e' ok1.fok.sub⟩, q1 w1 _ H1 (.refl _) ok1 (itOk_list hK e' (fun _ _ _ _ _ => trivial) r fun _ _ => trivial)⟩
    | @scr a vs ds e r =>
      exact ⟨a, rfl, ⟨vs, hK ▸ SqL.le e ok1.fok.sub⟩, q1 w1 _ H1 (.refl _) ok1 (itOk_list hK e (fun _ _ _ _ _ => trivial) r fun _ _ => trivial)⟩
    | _ => exact q1.elim⟩
theorem pdi_tup (hK : G.K = X.K) {tg e : Expr} {f : DE} (h : PD G W X e f) : PDI G W X tg e (itT f) :=
  (pi_tup h).imp fun σ H R ⟨κ, w, s, ok, q⟩ => ⟨κ, w, s, ok, (PostG.bindI q).imp fun v H1 ⟨d, s1, w1, le, ok1, r1, q1⟩ => by
    cases r1 with
    | @tup a vs ds e r => exact ⟨a, rfl, ⟨vs, hK ▸ SqT.le e ok1.fok.sub⟩, q1 w1 _ H1 (.refl _) ok1 (itOk_tup hK e r)⟩
    | _ => exact q1.elim⟩
/-- range -/
def rngL (lo : Int) (n : Nat) : List D := (List.range n).map fun (i : Nat) => D.int (lo + (i : Int))
theorem itOk_rng {w : Wd} (lo : Int) (n : Nat) : ItOk G w (Itr lo n) (rngL lo n) := by
  intro w1 S H le fok i
  refine ⟨fun d hd => ?_, fun hn => ?_⟩
  · unfold rngL at hd
    rw [List.getElem?_map] at hd
    by_cases c : i < n
    · rw [List.getElem?_range c] at hd
      cases hd
      refine ⟨c, fun x H' ⟨hH, hx⟩ => ⟨w1, ?_, ?_, ?_⟩⟩
      · rw [hH]; exact .refl _ _
      · rw [hH]; exact fok
      · rw [hx]; exact .int _
    · rw [List.getElem?_eq_none (by rw [List.length_range]; omega)] at hd
      cases hd
  · have := List.getElem?_eq_none_iff.mp hn
    unfold rngL at this
    rw [List.length_map, List.length_range] at this
    exact this
def itR1 (f : DA) : DA := fun s => (f s).bind fun ds s1 => match ds with
  | [.int j] => if -(2 ^ 62) ≤ j ∧ j < 2 ^ 62 then .ok (rngL 0 j.toNat) s1 else .stuck
  | _ => .stuck
def itR2 (f : DA) : DA := fun s => (f s).bind fun ds s1 => match ds with
  | [.int i, .int j] => if -(2 ^ 62) ≤ i ∧ i < 2 ^ 62 ∧ -(2 ^ 62) ≤ j ∧ j < 2 ^ 62 then .ok (rngL i (j - i).toNat) s1 else .stuck
  | _ => .stuck
theorem pdi_range1 {tg a : Expr} {f : DA} {p pos : Pos} (hg : Gl X "range") (hm : X.mg "range" = none) (ha : PDA G W X [a] f) (hs : starEach [a] X.env = [(false, eval a X.env)] := by rfl) : PDI G W X tg (.Call (.Name "range" p) [a] [] pos) (itR1 f) :=
  (pi_range1 hg hm ha hs).imp fun σ H R ⟨κ, w, s, ok, q⟩ => ⟨κ, w, s, ok, (PostG.bindI q).imp fun v H1 ⟨d, s1, w1, le, ok1, r1, q1⟩ => by
    cases r1 with
    | nil => exact q1.elim
    | cons a b =>
      cases b with
      | cons _ _ => cases a <;> exact q1.elim
      | nil =>
        cases a with
        | int j =>
          have q1 : PostI G W κ w1 σ (if -(2 ^ 62) ≤ j ∧ j < 2 ^ 62 then .ok (rngL 0 j.toNat) s1 else .stuck) R := q1
          by_cases c : -(2 ^ 62) ≤ j ∧ j < 2 ^ 62
          · rw [if_pos c] at q1
            exact ⟨j, rfl, c.1, c.2, q1 w1 _ H1 (.refl _) ok1 (itOk_rng 0 _)⟩
          · rw [if_neg c] at q1
            exact q1.elim
        | _ => exact q1.elim⟩
theorem pdi_range2 {tg a b : Expr} {f : DA} {p pos : Pos} (hg : Gl X "range") (hm : X.mg "range" = none) (ha : PDA G W X [a, b] f) (hs : starEach [a, b] X.env = [(false, eval a X.env), (false, eval b X.env)] := by rfl) (hs2 : starEach [b] X.env = [(false, eval b X.env)] := by rfl) :
    PDI G W X tg (.Call (.Name "range" p) [a, b] [] pos) (itR2 f) :=
  (pi_range2 hg hm ha hs hs2).imp fun σ H R ⟨κ, w, s, ok, q⟩ => ⟨κ, w, s, ok, (PostG.bindI q).imp fun v H1 ⟨d, s1, w1, le, ok1, r1, q1⟩ => by
    cases r1 with
    | nil => exact q1.elim
    | cons a b =>
      cases b with
      | nil => cases a <;> exact q1.elim
      | cons a2 b2 =>
        cases b2 with
        | cons _ _ => cases a <;> first | exact q1.elim | (cases a2 <;> exact q1.elim)
        | nil =>
          cases a with
          | int i =>
            cases a2 with
            | int j =>
              have q1 : PostI G W κ w1 σ (if -(2 ^ 62) ≤ i ∧ i < 2 ^ 62 ∧ -(2 ^ 62) ≤ j ∧ j < 2 ^ 62 then .ok (rngL i (j - i).toNat) s1 else .stuck) R := q1
              by_cases c : -(2 ^ 62) ≤ i ∧ i < 2 ^ 62 ∧ -(2 ^ 62) ≤ j ∧ j < 2 ^ 62
              · rw [if_pos c] at q1
                exact ⟨i, j, rfl, c, q1 w1 _ H1 (.refl _) ok1 (itOk_rng i _)⟩
              · rw [if_neg c] at q1
                exact q1.elim
            | _ => exact q1.elim
          | _ => exact q1.elim⟩
/-! ### for -/
def forL (g : DG) (b : DStm) : List D → DS → Res DS Out
  | [], s => .ok .nx s
  | d :: r, s => (noX (g d s)).bind fun _ s1 => loopOut (b s1) (forL g b r)
def sFor (it : DA) (g : DG) (b : DStm) : DStm := fun s => (it s).bind fun ds s1 => forL g b ds s1
theorem drop_get {α : Type} {l : List α} {i : Nat} {d : α} {r : List α} (h : l.drop i = d :: r) : l[i]? = some d ∧ l.drop (i + 1) = r := by
  refine ⟨?_, ?_⟩
  · have := congrArg (fun l => l[0]?) h
    simpa using this
  · have := congrArg List.tail h
    simpa using this
theorem for_of {is : List Nat} {κ : Bs} {w : Wd} {J : It} {g : DG} {b : DStm} {N : Ends} {items : List D} (hJ : ItOk G w J items) {w0 : Wd} {s : DS} {σ : L2.St} {H : Hp} (le : w.le w0) (ok : Ok G κ w0 s σ H) (q : PostS G W κ w0 (forL g b items s) N) :
    ∃ Wv : Nat → Nat → L2.St → Hp → Prop, (∃ m, Wv 0 m σ H) ∧ ∀ i m σ H, Wv i m σ H →
      (J.stop i H ∧ N.nx σ H) ∨ (J.go i H ∧ ∃ N' : L2.St → Hp → Prop, (∀ σ' H', N' σ' H' → ∃ m', m' < m ∧ Wv (i + 1) m' σ' H') ∧ ∀ x H', J.yld i H x H' → tDG G is g x σ H' fun σ2 H2 => tDS G W b { N with nx := N', ct := N', bk := N.nx } σ2 H2) := by
  refine ⟨fun i m σ H => ∃ w' s', w.le w' ∧ Ok G κ w' s' σ H ∧ (items.drop i).length = m ∧ PostS G W κ w' (forL g b (items.drop i) s') N, ⟨items.length, w0, s, le, ok, by simp, by simpa using q⟩, ?_⟩
  rintro i m σ H ⟨w', s', le', ok', hm, q'⟩
  cases e : items.drop i with
  | nil =>
    rw [e] at q'
    have hn : items[i]? = none := by
      have := congrArg (fun l => l[0]?) e
      simpa using this
    exact .inl ⟨(hJ w' _ H le' ok'.fok i).2 hn, q' w' σ H (.refl _) ok'⟩
  | cons d r =>
    rw [e] at q' hm
    obtain ⟨h1, h2⟩ := drop_get e
    obtain ⟨go, yl⟩ := (hJ w' _ H le' ok'.fok i).1 d h1
    refine .inr ⟨go, fun σ2 H2 => ∃ w2 s2, w.le w2 ∧ Ok G κ w2 s2 σ2 H2 ∧ PostS G W κ w2 (forL g b r s2) N, fun σ2 H2 ⟨w2, s2, l2, o2, q2⟩ => ?_, fun x H' hy => ?_⟩
    · refine ⟨r.length, by rw [← hm]; exact Nat.lt_succ_self _, w2, s2, l2, o2, by rw [h2], by rw [h2]; exact q2⟩
    · obtain ⟨w2, nx, fok, rx⟩ := yl x H' hy
      have ok2 := ok'.step nx fok
      refine ⟨κ, w2, s', d, ok2, rx, ?_⟩
      have q' : PostS G W κ w' ((noX (g d s')).bind fun _ s1 => loopOut (b s1) (forL g b r)) N := q'
      refine PostT.ofNoX ?_
      cases e3 : noX (g d s') with
      | stuck => rw [e3] at q'; exact q'.elim
      | exc x s' => exact absurd e3 (noX_exc _ _ _)
      | ok u s3 =>
        rw [e3] at q'
        intro w3 σ3 H3 l3 o3 _
        refine ⟨κ, w3, s3, o3, ?_⟩
        have q' : PostS G W κ w' (loopOut (b s3) (forL g b r)) N := q'
        have lw : w'.le w3 := nx.le.trans l3
        cases e4 : b s3 with
        | stuck => rw [e4] at q'; exact q'.elim
        | exc x s4 => rw [e4] at q'; exact PostS.mono (r := .exc x s4) lw q'
        | ok o s4 =>
          rw [e4] at q'
          cases o with
          | nx => exact fun w4 σ4 H4 l4 o4 => ⟨w4, s4, (le'.trans lw).trans l4, o4, PostS.mono (lw.trans l4) q'⟩
          | ct => exact fun w4 σ4 H4 l4 o4 => ⟨w4, s4, (le'.trans lw).trans l4, o4, PostS.mono (lw.trans l4) q'⟩
          | bk => exact PostS.mono (r := .ok .nx s4) lw q'
          | rt d => exact PostS.mono (r := .ok (.rt d) s4) lw q'
theorem pds_for {tg iter : Expr} {body : List Stmt} {it : DA} {is : List Nat} {g : DG} {b : DStm} {pos : Pos} (hp : PassesOwn (model X.prog X.w) X.A X.env X.xe) (hc : X.calm = true) (hi : PDI G W X tg iter it) (hg : PDG G X tg is g) (hb : PDSs G W X body b)
    (hs : ∀ x, foldedSetIterable iter X.env x = pure x := by intro _; rfl) : PDS G W X (.For tg iter body [] pos) (sFor it g b) :=
  (ps_for hp hc hi hg hb hs).imp fun N σ H ⟨κ, w, s, ok, q⟩ => ⟨κ, w, s, ok, by
    unfold sFor at q
    cases e : it s with
    | stuck => rw [e] at q; exact q.elim
    | exc x s' =>
      rw [e] at q
      exact fun w' c dd H' l o r => q w' σ c dd H' l o r
    | ok ds s' =>
      rw [e] at q
      intro w' J H' l o hJ
      exact for_of hJ (.refl _) o (PostS.mono l q)⟩
end
end DL
set_option maxRecDepth 100000
set_option maxHeartbeats 4000000
set_option autoImplicit false
namespace DL
open PySem PySem.Spec PyProof.Rows L2
/-! ### what a def promises -/
section
variable (G : Gam)
def PostF {α : Type} (rep : Wd → V → α → Prop) (w : Wd) (H : Hp) (r : Res (List Cell) α) (Q : VK) (E : XK) : Prop := match r with
  | .ok d S' => ∀ w' v H', Nx w H w' H' → FOk G w' S' H' → rep w' v d → Q v H'
  | .exc x S' => ∀ w' c dd H', Nx w H w' H' → FOk G w' S' H' → RepX G w' c dd x → E c dd H'
  | .stuck => False
def spG (n : Nat) (g : DFn) : Sp := fun vs H Q E => vs.length = n ∧ ∃ w S ds, FOk G w S H ∧ Reps G w vs ds ∧ PostF G (Rep G) w H (g ds S) Q E
end
def lift {α : Type} (s : DS) (r : Res (List Cell) α) : Res DS α := match r with
  | .ok d S' => .ok d ⟨s.sl, S'⟩
  | .exc x S' => .exc x ⟨s.sl, S'⟩
  | .stuck => .stuck
section
variable {G : Gam} {W : WX} {X : Cx}
theorem postF_of {κ : Bs} {w : Wd} {s : DS} {σ : L2.St} {H : Hp} {r : Res (List Cell) D} {Q : VK} (ok : Ok G κ w s σ H) (q : PostG G W (Rep G) κ w σ (lift s r) Q) : PostF G (Rep G) w H r Q (WE W σ) := by
  cases r with
  | ok d S' => exact fun w' v H' n f r => q w' v H' n.le (ok.step n f) r
  | exc x S' => exact fun w' c dd H' n f r => q w' c dd H' n.le (ok.step n f) r
  | stuck => exact q
theorem callD {k : Nat} {f : Addr} {fd : FuncData} {ps : List Str} {n : Nat} {g : DFn} {pins : List (Addr × Obj)} {sh : Shared} {κ : Bs} {w : Wd} {s : DS} {σ : L2.St} {H : Hp} {vs : List V} {ds : List D} {us : List Value} {Q : VK}
    (F : FnOk X.prog X.w X.K X.mg X.base (L2.CX X.prog X.w) k f fd ps (spG G n g)) (hr : Room k X.A) (hb : Binds X.K fd ps []) (tk : Takes X W) (I : Inv X pins σ H sh) (ok : Ok G κ w s σ H) (rs : Reps G w vs ds) (r : Vals vs us) (hn : ds.length = n)
    (q : PostG G W (Rep G) κ w σ (lift s (g ds s.st)) Q) : wpAny (model X.prog X.w) X.A (call (.ref f) us) (EP X pins σ Q) X.xe sh := by
  refine run_fnSD (E := WE W) (dvs := []) (ds := []) F hr hb .nil (passAt tk σ) I r ?_
  rw [List.append_nil]
  exact ⟨by rw [rs.length]; exact hn, w, s.st, ds, ok.fok, rs, postF_of ok q⟩
/-! ### f(..) -/
def eCall (n : Nat) (g : DFn) (fa : DA) : DE := fun s => (fa s).bind fun ds s1 => if ds.length = n then lift s1 (g ds s1.st) else .stuck
theorem pd_call {k : Nat} {f : Addr} {fd : FuncData} {ps : List Str} {n : Nat} {g : DFn} {x : Str} {p pos : Pos} {e : Expr} {es : List Expr} {fa : DA} (F : FnOk X.prog X.w X.K X.mg X.base (L2.CX X.prog X.w) k f fd ps (spG G n g)) (hr : Room k X.A) (hg : Gl X x) (hm : X.mg x = some (.ref f))
    (hk : PySem.W.keepIn X.K (.ref f) = true) (hb : Binds X.K fd ps []) (tk : Takes X W) (ha : PDA G W X (e :: es) fa) (hdb : (x == ("__debug__" : Str)) = false := by decide) (he : starEach (e :: es) X.env = (false, eval e X.env) :: starEach es X.env := by rfl)
    (hpl : (backTo pos (starEach es X.env)).any (·.1) = false := by rfl) : PD G W X (.Call (.Name x p) (e :: es) [] pos) (eCall n g fa) := by
  refine ⟨fun pins s σ H Q I h => ?_⟩
  obtain ⟨κ, w, ds, ok, q⟩ := h
  refine wpAny_Call_Name_kw (ld_glob I hg hm ?_ hdb)
  have hh : tDA G W fa σ H fun vs H1 => ∃ d s1 w1, w.le w1 ∧ Ok G κ w1 s1 σ H1 ∧ Reps G w1 vs d ∧ PostG G W (Rep G) κ w1 σ (if d.length = n then lift s1 (g d s1.st) else .stuck) Q := ⟨κ, w, ds, ok, PostG.bind q⟩
  refine PySem.W.callWith_K (h₀ := X.base) I.ok.mod.kin hk (thn (ha.run pos pins s σ H _ I hh) fun us s1 ⟨vs, H1, I1, r, d, s2, w1, le, ok1, rs, q1⟩ => ⟨I1.kIn, ?_⟩) he hpl
  by_cases c : d.length = n
  · rw [if_pos c] at q1
    exact callD F hr hb tk I1 ok1 rs r c q1
  · rw [if_neg c] at q1
    exact q1.elim
theorem pd_call0 {k : Nat} {f : Addr} {fd : FuncData} {ps : List Str} {g : DFn} {x : Str} {p pos : Pos} (F : FnOk X.prog X.w X.K X.mg X.base (L2.CX X.prog X.w) k f fd ps (spG G 0 g)) (hr : Room k X.A) (hg : Gl X x) (hm : X.mg x = some (.ref f))
    (hk : PySem.W.keepIn X.K (.ref f) = true) (hb : Binds X.K fd ps []) (tk : Takes X W) (hdb : (x == ("__debug__" : Str)) = false := by decide) : PD G W X (.Call (.Name x p) [] [] pos) (eCall 0 g aNil) := by
  refine ⟨fun pins s σ H Q I h => ?_⟩
  obtain ⟨κ, w, ds, ok, q⟩ := h
  refine wpAny_Call_Name_kw (ld_glob I hg hm ?_ hdb)
  exact PySem.W.callWith_K0 I.kIn hk (callD (us := []) F hr hb tk I ok .nil .nil rfl q)
/-! ### the body of a def -/
def fnD (n : Nat) (body : DStm) (m : Nat) : DFn := fun ds S => if ds.length = n then match body ⟨ds.map Sl.val ++ List.replicate m .un, S⟩ with
  | .ok (.rt d) s => .ok d s.st
  | .ok .nx s => .ok .non s.st
  | .exc x s => .exc x s.st
  | _ => .stuck
  else .stuck
theorem Ok.start {w : Wd} {S : List Cell} {H : Hp} {vs : List V} {ds : List D} (f : FOk G w S H) (r : Reps G w vs ds) (m : Nat) : Ok G ⟨w, H, [], none⟩ w ⟨ds.map Sl.val ++ List.replicate m .un, S⟩ (vs.map some ++ List.replicate m none) H := by
  have no : ∀ (i : Nat) (x : Sl), (ds.map Sl.val ++ List.replicate m Sl.un)[i]? = some x → x.own = false := fun i x e => by
    have hx := List.mem_of_getElem? e
    rcases List.mem_append.mp hx with h | h
    · obtain ⟨d, _, rfl⟩ := List.mem_map.mp h
      rfl
    · rw [(List.mem_replicate.mp h).2]
      rfl
  refine ⟨f, .refl _ _, by simp [r.length], fun i d e => ?_, fun i x e o => ?_, fun i j x y a e1 e2 o1 o2 _ _ => ?_, fun p hp => by simp at hp, fun a z => nomatch z⟩
  · by_cases c : i < ds.length
    · have e1 : (ds.map Sl.val ++ List.replicate m Sl.un)[i]? = some (.val d) := e
      rw [List.getElem?_append_left (by rw [List.length_map]; exact c), List.getElem?_map] at e1
      cases q : ds[i]? with
      | none => rw [q] at e1; cases e1
      | some d' =>
        rw [q] at e1
        cases e1
        obtain ⟨v, h1, h2⟩ := r.get q
        refine ⟨v, ?_, h2⟩
        rw [List.getElem?_append_left (by rw [List.length_map, r.length]; exact c), List.getElem?_map, h1]
        rfl
    · have e1 : (ds.map Sl.val ++ List.replicate m Sl.un)[i]? = some (.val d) := e
      rw [List.getElem?_append_right (by rw [List.length_map]; omega), List.getElem?_replicate] at e1
      split at e1 <;> cases e1
  · rw [no i x e] at o; cases o
  · rw [no i x e1] at o1; cases o1
theorem start_eq {N : List Str} {vs : List V} {m : Nat} (h : N.length - vs.length = m) : L2.start N vs = vs.map some ++ List.replicate m none := by
  unfold L2.start
  rw [h]
theorem fn_okD {P : Program} {w0 : World} {mg : Str → Option Value} {base : Heap} {x qual : Str} {st : Stmt} {f : Addr} {fd : FuncData} {N ps : List Str} {k n m : Nat} {body : DStm} (F : Fun G.K x qual st f fd) (S : FnScope N ps (defScope st)) (hn : ps.length = n) (hm : N.length - n = m)
    (hbody : ∀ (cdv : Value) (A : Around) (outer : List Env) (s : Shared) (H : Hp) (E : XK), Room k (A.deeper (envOfC qual (defScope st) s.heap.objs.size f cdv)) →
      Takes (cxOf (L2.CX P w0) P w0 G.K mg base N qual (defScope st) f cdv A outer s H E) (fun c d _ H => E c d H) → PassesOwn (model P w0) (A.deeper (envOfC qual (defScope st) s.heap.objs.size f cdv)) (envOfC qual (defScope st) s.heap.objs.size f cdv) (cxOf (L2.CX P w0) P w0 G.K mg base N qual (defScope st) f cdv A outer s H E).xe →
      PDSs G (fun c d _ H => E c d H) (cxOf (L2.CX P w0) P w0 G.K mg base N qual (defScope st) f cdv A outer s H E) (defBody st) body) : FnOk P w0 G.K mg base (L2.CX P w0) (k + 1) f fd ps (spG G n (fnD n body m)) := by
  refine F.okX S (fun vs H Q E h => by rw [h.1, hn]) fun cdv A outer s H vs Q E hr h => ?_
  refine ⟨_, hbody cdv A outer s H E hr (takes_of rfl rfl rfl rfl) (passes_of rfl), ?_⟩
  obtain ⟨hl, w, S', ds, fok, rs, q⟩ := h
  have hd : ds.length = n := by rw [← rs.length]; exact hl
  unfold fnD at q
  rw [if_pos hd] at q
  rw [start_eq (m := m) (by rw [hl]; exact hm)]
  refine ⟨⟨w, H, [], none⟩, w, _, Ok.start fok rs m, ?_⟩
  cases e : body ⟨ds.map Sl.val ++ List.replicate m .un, S'⟩ with
  | stuck => rw [e] at q; exact q.elim
  | exc x s' =>
    rw [e] at q
    exact fun w' σ' c dd H' l o r => q w' c dd H' o.nx o.fok r
  | ok o s' =>
    rw [e] at q
    cases o with
    | nx => exact fun w' σ' H' l o => q w' .non H' o.nx o.fok .non
    | bk => exact q.elim
    | ct => exact q.elim
    | rt d => exact fun w' σ' v H' l o r => q w' v H' o.nx o.fok r
/-! ### attributes -/
def insOf (d : D) (s : DS) : Option (String × List (Nm × D)) := match d with
  | .ins c fs => some (c, fs)
  | .cell n => match s.st[n]? with
    | some (.obj c fs) => some (c, fs)
    | _ => none
  | _ => none
theorem Rep.ins_of {κ : Bs} {w : Wd} {s : DS} {σ : L2.St} {H : Hp} {v : V} {d : D} {c : String} {fs : List (Nm × D)} (r : Rep G w v d) (ok : Ok G κ w s σ H) (h : insOf d s = some (c, fs)) : ∃ a C dx vs, v = .ref a ∧ G.ct c = some C ∧ H a = some (.ins C dx vs) ∧ RepF G w vs fs := by
  cases r with
  | @ins a C dx c' vs ds e1 e2 e3 =>
    have h : some (c', ds) = some (c, fs) := h
    cases h
    exact ⟨a, C, dx, vs, rfl, e1, ok.fok.sub _ _ e2, e3⟩
  | @cell a n e =>
    unfold insOf at h
    cases q : s.st[n]? with
    | none => simp [q] at h
    | some c' =>
      cases c' with
      | obj cc ff =>
        simp only [q] at h
        cases h
        obtain ⟨C, dx, vs, h1, h2, h3⟩ := ok.fok.cel n a _ e q
        exact ⟨a, C, dx, vs, rfl, h1, h2, h3⟩
      | _ => simp [q] at h
  | _ => exact nomatch h
def eFld (cs : List String) (fn : Nm) (f : DE) : DE := fun s => (f s).bind fun d s1 => match insOf d s1 with
  | some (c, fs) => if c ∈ cs then match fs.lookup fn with
    | some x => .ok x s1
    | none => .stuck
    else .stuck
  | none => .stuck
/-- what of the text the classes must have for an attribute -/
def FldOk (G : Gam) (cs : List String) (fn : Nm) : Prop := ∀ c ∈ cs, ∀ C, G.ct c = some C → Cls G.K C ∧ NoAttr G.K C (nm fn)
theorem pd_fld (hK : G.K = X.K) {cs : List String} {fn : Nm} {f : DE} {e : Expr} {x : Str} {pos : Pos} (hx : x = nm fn) (ho : FldOk G cs fn) (h : PD G W X e f) (hb : attributeBase e x X.env (eval e X.env) = eval e X.env := by rfl) : PD G W X (.Attribute e x pos) (eFld cs fn f) :=
  (pe_fld h hb).imp fun σ H Q ⟨κ, w, s, ok, q⟩ => ⟨κ, w, s, ok, (PostG.bind q).imp fun v H1 ⟨d, s1, w1, le, ok1, r1, q1⟩ => by
    cases e1 : insOf d s1 with
    | none => rw [e1] at q1; exact q1.elim
    | some p =>
      obtain ⟨c, fs⟩ := p
      rw [e1] at q1
      obtain ⟨a, C, dx, vs, ev, hC, hH, rf⟩ := r1.ins_of ok1 e1
      have q1 : PostG G W (Rep G) κ w1 σ (if c ∈ cs then match fs.lookup fn with | some x => .ok x s1 | none => .stuck else .stuck) Q := q1
      by_cases hc : c ∈ cs
      · rw [if_pos hc] at q1
        cases e2 : fs.lookup fn with
        | none => rw [e2] at q1; exact q1.elim
        | some z =>
          rw [e2] at q1
          obtain ⟨y, h1, h2⟩ := rf.look e2
          obtain ⟨cl, na⟩ := ho c hc C hC
          refine ⟨a, C, dx, vs, y, ev, hH, hK ▸ cl, by rw [hx]; exact hK ▸ na, by rw [hx]; exact h1, q1 w1 y H1 (.refl _) ok1 h2⟩
      · rw [if_neg hc] at q1
        exact q1.elim⟩
/-! ### o.m(..) -/
def eMeth (c : String) (m : Nm) (n : Nat) (g : DFn) (fo : DE) (fa : DA) : DE := fun s => (fo s).bind fun d s1 => match insOf d s1 with
  | some (c', fs) => if c' = c ∧ fs.lookup m = none then (fa s1).bind fun ds s2 => if ds.length + 1 = n then lift s2 (g (d :: ds) s2.st) else .stuck
    else .stuck
  | none => .stuck
theorem pd_meth (hK : G.K = X.K) {c : String} {mn : Nm} {n : Nat} {g : DFn} {fo : DE} {fa : DA} {C f : Addr} {m : Str} {k : Nat} {fd : FuncData} {ps : List Str} {o e : Expr} {es : List Expr} {apos pos : Pos} {pl : Sem Bool} (he : PD G W X o fo) (hC : G.ct c = some C) (cl : Cls X.K C) (hmn : m = nm mn) (hm : Meth X.K C m f)
    (F : FnOk X.prog X.w X.K X.mg X.base (L2.CX X.prog X.w) k f fd ps (spG G n g)) (hr : Room k X.A) (hb : Binds X.K fd ps []) (tk : Takes X W) (ha : PDA G W X (e :: es) fa)
    (hst : starEach (e :: es) X.env = (false, eval e X.env) :: starEach es X.env := by rfl) (hpl : (backTo pos (starEach es X.env)).any (·.1) = false := by rfl)
    (ht : eval (.Call (.Attribute o m apos) (e :: es) [] pos) X.env = (do
      let ov ← eval o X.env
      standAt apos.atName
      let (f, first) ← holding [ov] (getMethod ov m pl)
      callWith pos f first (backTo pos (starEach (e :: es) X.env)) (backToKw pos (keywordEach [] X.env))) := by rfl) :
    PD G W X (.Call (.Attribute o m apos) (e :: es) [] pos) (eMeth c mn n g fo fa) := by
  refine ⟨fun pins sh σ H Q I h => ?_⟩
  obtain ⟨κ, w, s, ok, q⟩ := h
  have hh : tD G W fo σ H fun v H1 => ∃ d s1 w1, w.le w1 ∧ Ok G κ w1 s1 σ H1 ∧ Rep G w1 v d ∧ PostG G W (Rep G) κ w1 σ (match insOf d s1 with
    | some (c', fs) => if c' = c ∧ fs.lookup mn = none then (fa s1).bind fun ds s2 => if ds.length + 1 = n then lift s2 (g (d :: ds) s2.st) else .stuck else .stuck
    | none => .stuck) Q := ⟨κ, w, s, ok, PostG.bind q⟩
  refine PySem.W.methodCall_KW (pl := pl) (thn (he.run pins sh σ H _ I hh) fun u s1 ⟨x, H1, I1, rx, d, t1, w1, le, ok1, r1, q1⟩ => ?_) ht
  cases e1 : insOf d t1 with
  | none => rw [e1] at q1; exact q1.elim
  | some p =>
    obtain ⟨c', fs⟩ := p
    rw [e1] at q1
    replace q1 : PostG G W (Rep G) κ w1 σ (if c' = c ∧ fs.lookup mn = none then (fa t1).bind fun ds s2 => if ds.length + 1 = n then lift s2 (g (d :: ds) s2.st) else .stuck else .stuck) Q := q1
    by_cases hc : c' = c ∧ fs.lookup mn = none
    · rw [if_pos hc] at q1
      obtain ⟨rfl, hl⟩ := hc
      obtain ⟨a, C', dx, vs, ev, hC', hH, rf⟩ := r1.ins_of ok1 e1
      rw [hC] at hC'
      cases hC'
      subst ev
      obtain rfl : u = Value.ref a := rx
      have hl2 : vs.lookup m = none := by rw [hmn]; exact rf.none hl
      refine getmeth_ok I1 hH cl hm hl2 ?_
      have hh2 : tDA G W fa σ H1 fun vs H2 => ∃ ds s2 w2, w1.le w2 ∧ Ok G κ w2 s2 σ H2 ∧ Reps G w2 vs ds ∧ PostG G W (Rep G) κ w2 σ (if ds.length + 1 = n then lift s2 (g (d :: ds) s2.st) else .stuck) Q := ⟨κ, w1, t1, ok1, PostG.bind q1⟩
      refine PySem.W.callWith_K (first := [.ref a]) (h₀ := X.base) I.ok.mod.kin hm.kp (thn (ha.run pos pins s1 σ H1 _ I1 hh2) fun us s2 ⟨vs2, H2, I2, r2, ds, t2, w2, le2, ok2, rs2, q2⟩ => ⟨I2.kIn, ?_⟩) hst hpl
      by_cases c3 : ds.length + 1 = n
      · rw [if_pos c3] at q2
        exact callD (us := .ref a :: us) (vs := .ref a :: vs2) (ds := d :: ds) F hr hb tk I2 ok2 (.cons (r1.mono le2) rs2) (.cons rfl r2) c3 q2
      · rw [if_neg c3] at q2
        exact q2.elim
    · rw [if_neg hc] at q1
      exact q1.elim
theorem pd_meth0 (hK : G.K = X.K) {c : String} {mn : Nm} {n : Nat} {g : DFn} {fo : DE} {C f : Addr} {m : Str} {k : Nat} {fd : FuncData} {ps : List Str} {o : Expr} {apos pos : Pos} {pl : Sem Bool} (he : PD G W X o fo) (hC : G.ct c = some C) (cl : Cls X.K C) (hmn : m = nm mn) (hm : Meth X.K C m f)
    (F : FnOk X.prog X.w X.K X.mg X.base (L2.CX X.prog X.w) k f fd ps (spG G n g)) (hr : Room k X.A) (hb : Binds X.K fd ps []) (tk : Takes X W)
    (ht : eval (.Call (.Attribute o m apos) [] [] pos) X.env = (do
      let ov ← eval o X.env
      standAt apos.atName
      let (f, first) ← holding [ov] (getMethod ov m pl)
      callWith pos f first (backTo pos (starEach [] X.env)) (backToKw pos (keywordEach [] X.env))) := by rfl) :
    PD G W X (.Call (.Attribute o m apos) [] [] pos) (eMeth c mn n g fo aNil) := by
  refine ⟨fun pins sh σ H Q I h => ?_⟩
  obtain ⟨κ, w, s, ok, q⟩ := h
  have hh : tD G W fo σ H fun v H1 => ∃ d s1 w1, w.le w1 ∧ Ok G κ w1 s1 σ H1 ∧ Rep G w1 v d ∧ PostG G W (Rep G) κ w1 σ (match insOf d s1 with
    | some (c', fs) => if c' = c ∧ fs.lookup mn = none then (aNil s1).bind fun ds s2 => if ds.length + 1 = n then lift s2 (g (d :: ds) s2.st) else .stuck else .stuck
    | none => .stuck) Q := ⟨κ, w, s, ok, PostG.bind q⟩
  refine PySem.W.methodCall_KW (pl := pl) (thn (he.run pins sh σ H _ I hh) fun u s1 ⟨x, H1, I1, rx, d, t1, w1, le, ok1, r1, q1⟩ => ?_) ht
  cases e1 : insOf d t1 with
  | none => rw [e1] at q1; exact q1.elim
  | some p =>
    obtain ⟨c', fs⟩ := p
    rw [e1] at q1
    replace q1 : PostG G W (Rep G) κ w1 σ (if c' = c ∧ fs.lookup mn = none then (if 0 + 1 = n then lift t1 (g [d] t1.st) else .stuck) else .stuck) Q := q1
    by_cases hc : c' = c ∧ fs.lookup mn = none
    · rw [if_pos hc] at q1
      obtain ⟨rfl, hl⟩ := hc
      obtain ⟨a, C', dx, vs, ev, hC', hH, rf⟩ := r1.ins_of ok1 e1
      rw [hC] at hC'
      cases hC'
      subst ev
      obtain rfl : u = Value.ref a := rx
      have hl2 : vs.lookup m = none := by rw [hmn]; exact rf.none hl
      refine getmeth_ok I1 hH cl hm hl2 ?_
      by_cases c3 : 0 + 1 = n
      · rw [if_pos c3] at q1
        exact PySem.W.callWith_K0 (first := [.ref a]) I1.kIn hm.kp (callD (us := [.ref a]) (vs := [.ref a]) (ds := [d]) F hr hb tk I1 ok1 (.cons r1 .nil) (.cons rfl .nil) c3 q1)
      · rw [if_neg c3] at q1
        exact q1.elim
    · rw [if_neg hc] at q1
      exact q1.elim
/-! ### C(..): an instance of one's own class is made -/
abbrev DIn := List D → List Cell → Res (List Cell) (List (Nm × D))
def erase (H : Hp) (x : Addr) : Hp := fun a => if a = x then none else H a
def spI (G : Gam) (c : String) (n : Nat) (g : DIn) : Sp := fun vs H Q E => vs.length = n + 1 ∧ ∃ w S ds x vs' C dx, vs = .ref x :: vs' ∧ G.ct c = some C ∧ H x = some (.ins C dx []) ∧ FOk G w S H ∧ w.F x = none ∧ x ∉ w.ρ ∧ Reps G w vs' ds ∧
  match g ds S with
  | .ok fs S' => ∀ w' H' vfs dx', Nx w (erase H x) w' H' → FOk G w' S' H' → H' x = some (.ins C dx' vfs) → RepF G w' vfs fs → w'.F x = none → x ∉ w'.ρ → Q .non H'
  | .exc x' S' => ∀ w' cc dd H', Nx w (erase H x) w' H' → FOk G w' S' H' → RepX G w' cc dd x' → E cc dd H'
  | .stuck => False
def inFin (c : String) (s : DS) : Res (List Cell) (List (Nm × D)) := match (s.sl[0]? : Option Sl) with
  | some (.oi c' fs) => if c' = c then .ok fs s.st else .stuck
  | _ => .stuck
def inD (c : String) (n : Nat) (body : DStm) (m : Nat) : DIn := fun ds S => if ds.length = n then
  match body ⟨.oi c [] :: ds.map Sl.val ++ List.replicate m .un, S⟩ with
  | .ok (.rt .non) s => inFin c s
  | .ok .nx s => inFin c s
  | .exc x s => .exc x s.st
  | _ => .stuck
  else .stuck
theorem Ok.startI {w : Wd} {S : List Cell} {H : Hp} {vs : List V} {ds : List D} {x C dx : Addr} {c : String} (f : FOk G w S H) (r : Reps G w vs ds) (m : Nat) (hC : G.ct c = some C) (hx : H x = some (.ins C dx [])) (nF : w.F x = none) (nR : x ∉ w.ρ) :
    Ok G ⟨w, erase H x, [], some x⟩ w ⟨.oi c [] :: ds.map Sl.val ++ List.replicate m .un, S⟩ (some (.ref x) :: vs.map some ++ List.replicate m none) H := by
  have base := Ok.start f r m
  have no : ∀ (i : Nat) (y : Sl), (ds.map Sl.val ++ List.replicate m Sl.un)[i]? = some y → y.own = false := fun i y e => by
    have hx := List.mem_of_getElem? e
    rcases List.mem_append.mp hx with h | h
    · obtain ⟨d, _, rfl⟩ := List.mem_map.mp h
      rfl
    · rw [(List.mem_replicate.mp h).2]
      rfl
  refine ⟨f, ⟨.refl _, fun a o e _ => ?_, fun a h => .inl h, fun a h => .inl h⟩, by simp [r.length], fun i d e => ?_, fun i y e o => ?_, fun i j y z a e1 e2 o1 o2 _ _ => ?_, fun p hp => by simp at hp, fun a z c' fs' _ => by cases z; rfl⟩
  · have e : (if a = x then none else H a) = some o := e
    split at e
    · cases e
    · exact e
  · cases i with
    | zero => cases e
    | succ i => exact base.val i d e
  · cases i with
    | zero =>
      cases e
      exact ⟨x, rfl, ⟨C, dx, [], hC, hx, .nil⟩, nF, nR, by show (if x = x then none else H x) = none; rw [if_pos rfl]⟩
    | succ i =>
      rw [no i y e] at o
      cases o
  · cases i with
    | zero =>
      cases j with
      | zero => rfl
      | succ j => rw [no j z e2] at o2; cases o2
    | succ i => rw [no i y e1] at o1; cases o1
theorem in_okD {P : Program} {w0 : World} {mg : Str → Option Value} {base : Heap} {x qual : Str} {st : Stmt} {f : Addr} {fd : FuncData} {N ps : List Str} {c : String} {k n m : Nat} {body : DStm} (F : Fun G.K x qual st f fd) (S : FnScope N ps (defScope st)) (hn : ps.length = n + 1) (hm : N.length - (n + 1) = m)
    (hbody : ∀ (cdv : Value) (A : Around) (outer : List Env) (s : Shared) (H : Hp) (E : XK), Room k (A.deeper (envOfC qual (defScope st) s.heap.objs.size f cdv)) →
      Takes (cxOf (L2.CX P w0) P w0 G.K mg base N qual (defScope st) f cdv A outer s H E) (fun c d _ H => E c d H) → PassesOwn (model P w0) (A.deeper (envOfC qual (defScope st) s.heap.objs.size f cdv)) (envOfC qual (defScope st) s.heap.objs.size f cdv) (cxOf (L2.CX P w0) P w0 G.K mg base N qual (defScope st) f cdv A outer s H E).xe →
      PDSs G (fun c d _ H => E c d H) (cxOf (L2.CX P w0) P w0 G.K mg base N qual (defScope st) f cdv A outer s H E) (defBody st) body) : FnOk P w0 G.K mg base (L2.CX P w0) (k + 1) f fd ps (spI G c n (inD c n body m)) := by
  refine F.okX S (fun vs H Q E h => by rw [h.1, hn]) fun cdv A outer s H vs Q E hr h => ?_
  refine ⟨_, hbody cdv A outer s H E hr (takes_of rfl rfl rfl rfl) (passes_of rfl), ?_⟩
  obtain ⟨hl, w, S', ds, xa, vs', C, dx, ev, hC, hx, fok, nF, nR, rs, q⟩ := h
  subst ev
  have hl' : vs'.length = n := by simpa using hl
  have hd : ds.length = n := by rw [← rs.length]; exact hl'
  unfold inD at q
  rw [if_pos hd] at q
  rw [start_eq (m := m) (by rw [List.length_cons, hl']; exact hm)]
  refine ⟨⟨w, erase H xa, [], some xa⟩, w, _, Ok.startI fok rs m hC hx nF nR, ?_⟩
  have fin : ∀ (w' : Wd) (σ' : L2.St) (H' : Hp) (s' : DS), Ok G ⟨w, erase H xa, [], some xa⟩ w' s' σ' H' →
      (match inFin c s' with
        | .ok fs S' => ∀ w' H' vfs dx', Nx w (erase H xa) w' H' → FOk G w' S' H' → H' xa = some (.ins C dx' vfs) → RepF G w' vfs fs → w'.F xa = none → xa ∉ w'.ρ → Q .non H'
        | .exc x' S' => ∀ w' cc dd H', Nx w (erase H xa) w' H' → FOk G w' S' H' → RepX G w' cc dd x' → E cc dd H'
        | .stuck => False) → Q .non H' := fun w' σ' H' s' o q => by
    unfold inFin at q
    cases e0 : s'.sl[0]? with
    | none => rw [e0] at q; exact q.elim
    | some y =>
      rw [e0] at q
      cases y with
      | oi c' fs =>
        by_cases hc : c' = c
        · subst hc
          simp only [if_true] at q
          have h0 := o.me xa rfl _ _ e0
          obtain ⟨a, h1, ⟨C', dx', vfs, hC', hH, rf⟩, h3, h4, _⟩ := o.own 0 _ e0 rfl
          rw [h0] at h1
          cases h1
          rw [hC] at hC'
          cases hC'
          exact q w' H' vfs dx' o.nx o.fok hH rf h3 h4
        · simp only [if_neg hc] at q
      | _ => exact q.elim
  cases e : body ⟨.oi c [] :: ds.map Sl.val ++ List.replicate m .un, S'⟩ with
  | stuck => rw [e] at q; exact q.elim
  | exc x s' =>
    rw [e] at q
    exact fun w' σ' c dd H' l o r => q w' c dd H' o.nx o.fok r
  | ok o s' =>
    rw [e] at q
    cases o with
    | nx => exact fun w' σ' H' l o => fin w' σ' H' s' o q
    | bk => exact q.elim
    | ct => exact q.elim
    | rt d =>
      intro w' σ' v H' l o r
      cases r with
      | non => exact fin w' σ' H' s' o q
      | _ => exact q.elim
/-- what of the text a class must have to be made -/
theorem makeD {c : String} {n k : Nat} {g : DIn} {C f : Addr} {fd : FuncData} {ps : List Str} {pins : List (Addr × Obj)} {sh : Shared} {κ : Bs} {w : Wd} {s : DS} {σ : L2.St} {H : Hp} {vs : List V} {ds : List D} {us : List Value} {Q : VK} (M : Mk X.K C f) (hC : G.ct c = some C)
    (F : FnOk X.prog X.w X.K X.mg X.base (L2.CX X.prog X.w) k f fd ps (spI G c n g)) (hr : Room (k + 1) X.A) (hb : Binds X.K fd ps []) (tk : Takes X W) (I : Inv X pins σ H sh) (ok : Ok G κ w s σ H) (rs : Reps G w vs ds) (r : Vals vs us) (hn : ds.length = n)
    (q : PostG G W (Rep G) κ w σ ((lift s (g ds s.st)).bind fun fs s1 => .ok (.ins c fs) s1) Q) : wpAny (model X.prog X.w) X.A (call (.ref C) us) (EP X pins σ Q) X.xe sh := by
  have key : ∀ x dx, H x = none → H dx = none → dx ≠ x → spI G c n g (.ref x :: (vs ++ [])) (upd (upd H dx (.own x)) x (.ins C dx [])) (fun v H2 => v = .non ∧ Q (.ref x) H2) (WE W σ) := fun x dx nx ndx ne => by
    have o1 := ok.fresh ndx (.own x)
    have nx1 : upd H dx (.own x) x = none := by rw [upd_ne (Ne.symm ne)]; exact nx
    have o2 := o1.fresh nx1 (.ins C dx [])
    obtain ⟨g1, g2, g3, g4, g5⟩ := o2.gam (x, .ins C dx []) List.mem_cons_self
    have kx : ∀ a o, H a = some o → erase (upd (upd H dx (.own x)) x (.ins C dx [])) x a = some o := fun a o e => by
      have h1 : a ≠ x := ne_of_none e nx
      have h2 : a ≠ dx := ne_of_none e ndx
      show (if a = x then none else _) = some o
      rw [if_neg h1, upd_ne h1, upd_ne h2]
      exact e
    have bk : ∀ a, erase (upd (upd H dx (.own x)) x (.ins C dx [])) x a = none → H a = none := fun a e => by
      cases e2 : H a with
      | none => rfl
      | some o => rw [kx a o e2] at e; cases e
    refine ⟨by rw [List.append_nil, List.length_cons, rs.length, hn], w, s.st, ds, x, vs, C, dx, by rw [List.append_nil], hC, g1, o2.fok, g2, g3, rs, ?_⟩
    cases e : g ds s.st with
    | stuck => rw [e] at q; exact q.elim
    | exc x' S' =>
      rw [e] at q
      exact fun w' cc dd H' nn f' r => q w' cc dd H' nn.le (ok.step ⟨nn.le, fun a o e1 e2 => nn.keep a o (kx a o e1) e2, fun a h => (nn.newF a h).imp_right (bk a), fun a h => (nn.newR a h).imp_right (bk a)⟩ f') r
    | ok fs S' =>
      rw [e] at q
      intro w' H' vfs dx' nn f' hx rf hF hR
      refine ⟨rfl, ?_⟩
      have N1 : Nx w H w' H' := ⟨nn.le, fun a o e1 e2 => nn.keep a o (kx a o e1) e2, fun a h => (nn.newF a h).imp_right (bk a), fun a h => (nn.newR a h).imp_right (bk a)⟩
      have o3 : Ok G (κ.plus x (.ins C dx' vfs)) w' ⟨s.sl, S'⟩ σ H' := by
        have o3 := ok.step N1 f'
        refine ⟨o3.fok, o3.nx, o3.len, o3.val, o3.own, o3.ne, fun p hp => ?_, o3.me⟩
        rcases List.mem_cons.mp hp with rfl | hp
        · exact ⟨hx, hF, hR, g4, g5⟩
        · exact o3.gam p hp
      obtain ⟨le, o4⟩ := o3.frz fun p hp => ne_of_none (ok.gam p hp).1 nx
      exact q _ _ _ (nn.le.trans le) o4 (.ins hC upd_same (rf.mono le))
  have hx : PassesAt (L2.CX X.prog X.w) X σ (WE W σ) := passAt tk σ
  have hq := key (sh.heap.objs.size + 1) sh.heap.objs.size (I.hok.fresh (Nat.le_succ _)) (I.hok.fresh (Nat.le_refl _)) (Nat.ne_of_lt (Nat.lt_succ_self _))
  have I2 := Inv.made (C := C) I
  have r2 : Vals (V.ref (sh.heap.objs.size + 1) :: (vs ++ [])) (Value.ref (sh.heap.objs.size + 1) :: (us ++ [])) := .cons rfl (r.append .nil)
  have hl : (Value.ref (sh.heap.objs.size + 1) :: us ++ []).length = ps.length := by
    have e := r2.length
    rw [F.len _ _ _ _ hq] at e
    exact e.symm
  refine wpAny_call (make_map (f := f) I.kIn M.makes M.init (beq_iff_eq.mp M.fn) (codeAny_mono (F.run _ X.stack _ _ ⟨Value.ref (sh.heap.objs.size + 1) :: us, []⟩ (Value.ref (sh.heap.objs.size + 1) :: (us ++ [])) _ _ (WE W σ) (hr.make C us [])
    (I2.env0.make C us []) (by
      have hbb := hb _ (Value.ref (sh.heap.objs.size + 1) :: us) I2.kIn hl
      rw [List.cons_append] at hbb
      exact hbb) r2 hq) fun r s' hq' => ?_))
  cases r with
  | error e => exact hx pins _ _ e s' I2 hq'
  | ok fl =>
    cases fl with
    | ret u =>
      obtain ⟨v, H', I3, rv, ev, q3⟩ := I2.after hq'
      subst ev
      exact ⟨rv, ⟨V.ref (sh.heap.objs.size + 1), H', I3, rfl, q3⟩⟩
    | next => exact False.elim hq'
    | brk => exact False.elim hq'
    | cont => exact False.elim hq'
def eMake (c : String) (n : Nat) (g : DIn) (fa : DA) : DE := fun s => (fa s).bind fun ds s1 => if ds.length = n then (lift s1 (g ds s1.st)).bind fun fs s2 => .ok (.ins c fs) s2 else .stuck
theorem pd_make {c : String} {n k : Nat} {g : DIn} {C f : Addr} {fd : FuncData} {ps : List Str} {x : Str} {p pos : Pos} {e : Expr} {es : List Expr} {fa : DA} (M : Mk X.K C f) (hC : G.ct c = some C) (F : FnOk X.prog X.w X.K X.mg X.base (L2.CX X.prog X.w) k f fd ps (spI G c n g)) (hr : Room (k + 1) X.A) (hg : Gl X x)
    (hm : X.mg x = some (.ref C)) (hb : Binds X.K fd ps []) (tk : Takes X W) (ha : PDA G W X (e :: es) fa) (hdb : (x == ("__debug__" : Str)) = false := by decide) (he : starEach (e :: es) X.env = (false, eval e X.env) :: starEach es X.env := by rfl)
    (hpl : (backTo pos (starEach es X.env)).any (·.1) = false := by rfl) : PD G W X (.Call (.Name x p) (e :: es) [] pos) (eMake c n g fa) := by
  refine ⟨fun pins s σ H Q I h => ?_⟩
  obtain ⟨κ, w, ds, ok, q⟩ := h
  refine wpAny_Call_Name_kw (ld_glob I hg hm ?_ hdb)
  have hh : tDA G W fa σ H fun vs H1 => ∃ d s1 w1, w.le w1 ∧ Ok G κ w1 s1 σ H1 ∧ Reps G w1 vs d ∧ PostG G W (Rep G) κ w1 σ (if d.length = n then (lift s1 (g d s1.st)).bind fun fs s2 => .ok (.ins c fs) s2 else .stuck) Q := ⟨κ, w, ds, ok, PostG.bind q⟩
  refine PySem.W.callWith_K (h₀ := X.base) I.ok.mod.kin M.kp (thn (ha.run pos pins s σ H _ I hh) fun us s1 ⟨vs, H1, I1, r, d, s2, w1, le, ok1, rs, q1⟩ => ⟨I1.kIn, ?_⟩) he hpl
  by_cases c : d.length = n
  · rw [if_pos c] at q1
    exact makeD M hC F hr hb tk I1 ok1 rs r c q1
  · rw [if_neg c] at q1
    exact q1.elim
/-! ### self.f = e -/
def sFldO (c : String) (i : Nat) (fn : Nm) (f : DE) : DStm := fun s => (f s).bind fun d s1 => match s1.sl[i]? with
  | some (.oi c' fs) => if c' = c ∧ fs.length < 1000 then .ok .nx ⟨s1.sl.set i (.oi c (putN fn d fs)), s1.st⟩ else .stuck
  | _ => .stuck
theorem RepF.put {w : Wd} {y : V} {d : D} {fn : Nm} (r : Rep G w y d) : ∀ {v : List (Str × V)} {ds : List (Nm × D)}, RepF G w v ds → RepF G w (putF (nm fn) y v) (putN fn d ds)
  | _, _, .nil => .cons r .nil
  | _, _, .cons (f := g) a b => by
    unfold putF putN
    by_cases h : g = fn
    · subst h
      rw [if_pos rfl]
      simp only [if_true]
      first
        | exact .cons r b
        | (split <;> first | exact .cons r b | (rename_i q; exact absurd rfl q))
    · have h2 : nm g ≠ nm fn := fun q => h (nm_inj q)
      rw [if_neg h]
      split
      · rename_i q; exact absurd q h2
      · exact .cons a (RepF.put r b)
theorem pds_fld (hK : G.K = X.K) {c : String} {C : Addr} {i : Nat} {fn : Nm} {f : DE} {x y : Str} {p pos' pos : Pos} {value : Expr} (ho : PE X (.Name y p) (tVar i)) (hx : x = nm fn) (hC : G.ct c = some C) (cl : Cls X.K C) (na : NoAttr X.K C x) (hv : PD G W X value f)
    (hs : swapsWith value (some (.Attribute (.Name y p) x pos')) pos.line X.env = pure false := by rfl) : PDS G W X (.Assign [.Attribute (.Name y p) x pos'] value pos) (sFldO c i fn f) :=
  (ps_fld ho hv hs).imp fun N σ H ⟨κ, w, s, ok, q⟩ => ⟨κ, w, s, ok, (PostG.bindS q).imp fun v H1 ⟨d, s1, w1, le, ok1, r1, q1⟩ => by
    cases e : s1.sl[i]? with
    | none => rw [e] at q1; exact q1.elim
    | some z =>
      rw [e] at q1
      cases z with
      | oi c' fs =>
        replace q1 : PostS G W κ w1 (if c' = c ∧ fs.length < 1000 then .ok .nx ⟨s1.sl.set i (.oi c (putN fn d fs)), s1.st⟩ else .stuck) N := q1
        by_cases hc : c' = c ∧ fs.length < 1000
        · rw [if_pos hc] at q1
          obtain ⟨rfl, hl⟩ := hc
          obtain ⟨a, h1, ⟨C', dx, vs, hC', hH, rf⟩, _⟩ := ok1.own i _ e rfl
          rw [hC] at hC'
          cases hC'
          refine ⟨_, h1, a, C, dx, vs, rfl, hH, cl, na, by rw [rf.length]; exact hl, ?_⟩
          refine q1 w1 σ _ (.refl _) (ok1.mut e rfl rfl h1 ⟨C, dx, _, hC, upd_same, ?_⟩ fun _ _ _ => ⟨_, _, rfl⟩)
          rw [hx]
          exact RepF.put r1 rf
        · rw [if_neg hc] at q1
          exact q1.elim
      | _ => exact q1.elim⟩
end
end DL
set_option maxRecDepth 100000
set_option maxHeartbeats 4000000
set_option autoImplicit false
namespace DL
open PySem PySem.Spec PyProof.Rows L2
section
variable {G : Gam} {W : WX} {X : Cx}
/-! ### operators that may call -/
abbrev DO2 := D → D → DS → Res DS D
def OpX (G : Gam) (W : WX) (X : Cx) (f : Value → Value → Sem Value) (o : DO2) : Prop := ∀ (pins : List (Addr × Obj)) (sh : Shared) (σ : L2.St) (H : Hp) (x y : V) (v u : Value) (κ : Bs) (w : Wd) (s : DS) (dx dy : D) (Q : VK),
  Inv X pins σ H sh → RelV x v → RelV y u → Ok G κ w s σ H → Rep G w x dx → Rep G w y dy → PostG G W (Rep G) κ w σ (o dx dy s) Q → wpAny (model X.prog X.w) X.A (f v u) (EP X pins σ Q) X.xe sh
def eOpX (o : DO2) (fa fb : DE) : DE := fun s => (fa s).bind fun x s1 => (fb s1).bind fun y s2 => o x y s2
def liftO (o : D → D → Option D) : DO2 := fun x y s => match o x y with
  | some d => .ok d s
  | none => .stuck
theorem OpD.x {f : Value → Value → Sem Value} {o : D → D → Option D} (h : OpD G X f o) : OpX G W X f (liftO o) := by
  obtain ⟨r, h1, h2⟩ := h
  intro pins sh σ H x y v u κ w s dx dy Q I rx ry ok dx' dy' q
  unfold liftO at q
  cases e : o dx dy with
  | none => rw [e] at q; exact q.elim
  | some z => rw [e] at q; exact h1 pins sh σ H x y v u Q I rx ry (h2 κ w s σ H x y dx dy z Q ok dx' dy' e q)
def orO (o o' : DO2) : DO2 := fun x y s => match o x y s with
  | .stuck => o' x y s
  | r => r
theorem OpX.or {f : Value → Value → Sem Value} {o o' : DO2} (h : OpX G W X f o) (h' : OpX G W X f o') : OpX G W X f (orO o o') := by
  intro pins sh σ H x y v u κ w s dx dy Q I rx ry ok dx' dy' q
  unfold orO at q
  cases e : o dx dy s with
  | stuck => rw [e] at q; exact h' pins sh σ H x y v u κ w s dx dy Q I rx ry ok dx' dy' q
  | exc a b => rw [e] at q; exact h pins sh σ H x y v u κ w s dx dy Q I rx ry ok dx' dy' (by rw [e]; exact q)
  | ok a b => rw [e] at q; exact h pins sh σ H x y v u κ w s dx dy Q I rx ry ok dx' dy' (by rw [e]; exact q)
theorem opX_run {o : DO2} {fa fb : DE} {a b : Expr} (ha : PD G W X a fa) (hb : PD G W X b fb) {f : Value → Value → Sem Value} (ho : OpX G W X f o) {pins : List (Addr × Obj)} {sh : Shared} {σ : L2.St} {H : Hp} {Q : VK} (I : Inv X pins σ H sh) (h : tD G W (eOpX o fa fb) σ H Q) :
    wpAny (model X.prog X.w) X.A (eval a X.env) (fun v s₁ => wpAny (model X.prog X.w) X.A (eval b X.env) (fun u s₂ => wpAny (model X.prog X.w) X.A (f v u) (EP X pins σ Q) X.xe s₂) X.xe s₁) X.xe sh := by
  obtain ⟨κ, w, s, ok, q⟩ := h
  have hh : tD G W fa σ H fun v H1 => tD G W fb σ H1 fun u H2 => ∃ d s1 w1, Ok G κ w1 s1 σ H2 ∧ ∃ d1, Rep G w1 v d1 ∧ Rep G w1 u d ∧ PostG G W (Rep G) κ w1 σ (o d1 d s1) Q :=
    ⟨κ, w, s, ok, (PostG.bind q).imp fun v H1 ⟨d, s1, w1, le, ok1, r1, q1⟩ => ⟨κ, w1, s1, ok1, (PostG.bind q1).imp fun u H2 ⟨d2, s2, w2, le2, ok2, r2, q2⟩ => ⟨d2, s2, w2, ok2, d, r1.mono le2, r2, q2⟩⟩⟩
  refine bin ha hb I (R := fun x y H2 => ∃ d s1 w1, Ok G κ w1 s1 σ H2 ∧ ∃ d1, Rep G w1 x d1 ∧ Rep G w1 y d ∧ PostG G W (Rep G) κ w1 σ (o d1 d s1) Q) hh fun v u s2 x y H2 I2 rx ry ⟨d, s1, w1, ok1, d1, r1, r2, q2⟩ => ?_
  exact ho pins s2 σ H2 x y v u κ w1 s1 d1 d Q I2 rx ry ok1 r1 r2 q2
theorem pd_opX {op : Operator} {o : DO2} {a b : Expr} {fa fb : DE} {pos : Pos} (ho : OpX G W X (binaryOp op) o) (ha : PD G W X a fa) (hb : PD G W X b fb) : PD G W X (.BinOp a op b pos) (eOpX o fa fb) :=
  ⟨fun pins s σ H Q I h => wpAny_BinOp (opX_run ha hb ho I h)⟩
theorem pd_cmpX {op : CmpOp} {o : DO2} {a b : Expr} {fa fb : DE} {pos : Pos} (ho : OpX G W X (compareOp op) o) (ha : PD G W X a fa) (hb : PD G W X b fb) (hm : behindInMarks op b = false) : PD G W X (.Compare a [op] [b] pos) (eOpX o fa fb) :=
  ⟨fun pins s σ H Q I h => wpAny_Compare1 (opX_run ha hb ho I h) hm⟩
/-! ### truth -/
def truD (d : D) : Option Bool := match d with
  | .non => some false
  | .bl b => some b
  | .int i => some (i != 0)
  | .str l => if l.length ≤ 16777216 then some ((l.length : Int) != 0) else none
  | .tup xs => some (!xs.isEmpty)
  | .lst xs => some (!xs.isEmpty)
  | .scr xs => some (!xs.isEmpty)
  | .dic xs => some (!xs.isEmpty)
  | _ => none
theorem Reps.isEmpty {w : Wd} {vs : List V} {ds : List D} (r : Reps G w vs ds) : vs.isEmpty = ds.isEmpty := by cases r <;> rfl
theorem RepK.isEmpty {w : Wd} {vs : List (Key × V)} {ds : List (DK × D)} (r : RepK G w vs ds) : vs.isEmpty = ds.isEmpty := by cases r <;> rfl
theorem nm_len (l : Nm) : (nm l).length = l.length := by simp [nm, Str.length]
theorem truV_of (hK : G.K = X.K) {κ : Bs} {w : Wd} {s : DS} {σ : L2.St} {H : Hp} {v : V} {d : D} {k : Bool} (ok : Ok G κ w s σ H) (r : Rep G w v d) (h : truD d = some k) : TruV X.K v H k := by
  cases r with
  | non => cases h; rfl
  | bl b => cases h; rfl
  | int i => cases h; rfl
  | str l =>
    have h : (if l.length ≤ 16777216 then some ((l.length : Int) != 0) else none) = some k := h
    split at h
    · rename_i c
      cases h
      exact ⟨by rw [nm_len, sizeLine_eq]; exact c, by rw [nm_len]⟩
    · cases h
  | @tup a vs ds e r => cases h; exact .inr (.inl ⟨vs, hK ▸ SqT.le e ok.fok.sub, by rw [r.isEmpty]⟩)
  | @lst a vs ds e r => cases h; exact .inl ⟨vs, .inl (.inl (ok.fok.sub _ _ e)), by rw [r.isEmpty]⟩
  | @scr a vs ds e r => cases h; exact .inl ⟨vs, hK ▸ SqL.le e ok.fok.sub, by rw [r.isEmpty]⟩
  | @dic a vs ds e r => cases h; exact .inr (.inr ⟨vs, ok.fok.sub _ _ e, by rw [r.isEmpty]⟩)
  | _ => cases h
def eTru (f : DE) : DT := fun s => (f s).bind fun d s1 => match truD d with
  | some b => .ok b s1
  | none => .stuck
theorem ptd_truth (hK : G.K = X.K) {e : Expr} {f : DE} (h : PD G W X e f) (he : ∀ whole, isTrue e X.env whole = (do let v ← whole; standAt e.pos; holding [v] (truthy v)) := by intro _; rfl) : PDT G W X e (eTru f) :=
  (pt_truth h he).imp fun σ H Q ⟨κ, w, s, ok, q⟩ => ⟨κ, w, s, ok, (PostG.bind q).imp fun v H1 ⟨d, s1, w1, le, ok1, r1, q1⟩ => by
    cases e1 : truD d with
    | none => rw [e1] at q1; exact q1.elim
    | some k => rw [e1] at q1; exact ⟨k, truV_of hK ok1 r1 e1, q1 w1 k H1 (.refl _) ok1 rfl⟩⟩
theorem ptd_cmpX {op : CmpOp} {o : DO2} {a b : Expr} {fa fb : DE} {pos : Pos} (ho : OpX G W X (compareOp op) o) (ha : PD G W X a fa) (hb : PD G W X b fb) (hm : behindInMarks op b = false) : PDT G W X (.Compare a [op] [b] pos) (eB (eOpX o fa fb)) :=
  ⟨fun pins s σ H Q I h => by
    have hh := tB_of h
    refine wpAny_isTrue_Compare1 (thn (opX_run ha hb ho I hh) fun v s1 h1 => thn h1 fun u s2 h2 => thn h2 fun c s3 ⟨x, H1, I1, r1, q1⟩ => ?_) hm
    obtain ⟨d, rfl, q⟩ := q1
    cases r1
    exact wpAny_truthy_bool ⟨H1, I1, q⟩⟩
/-- x or y, x and y by truth, as values -/
def eOrT (f g : DE) : DE := fun s => (f s).bind fun d s1 => match truD d with
  | some b => if b = true then .ok d s1 else g s1
  | none => .stuck
def eAndT (f g : DE) : DE := fun s => (f s).bind fun d s1 => match truD d with
  | some b => if b = true then g s1 else .ok d s1
  | none => .stuck
def eNotT (f : DE) : DE := fun s => (f s).bind fun d s1 => match truD d with
  | some b => .ok (.bl (!b)) s1
  | none => .stuck
theorem pd_orT (hK : G.K = X.K) {a b : Expr} {r : List Expr} {f g : DE} {pos : Pos} (h : PD G W X a f) (k : PD G W X (.BoolOp .Or (b :: r) pos) g) : PD G W X (.BoolOp .Or (a :: b :: r) pos) (eOrT f g) :=
  (pe_orT h k).imp fun σ H Q ⟨κ, w, s, ok, q⟩ => ⟨κ, w, s, ok, (PostG.bind q).imp fun v H1 ⟨d, s1, w1, le, ok1, r1, q1⟩ => by
    cases e1 : truD d with
    | none => rw [e1] at q1; exact q1.elim
    | some k =>
      rw [e1] at q1
      refine ⟨k, truV_of hK ok1 r1 e1, ?_⟩
      cases k with
      | true => exact q1 w1 v H1 (.refl _) ok1 r1
      | false => exact ⟨κ, w1, s1, ok1, q1⟩⟩
theorem pd_andT (hK : G.K = X.K) {a b : Expr} {r : List Expr} {f g : DE} {pos : Pos} (h : PD G W X a f) (k : PD G W X (.BoolOp .And (b :: r) pos) g) : PD G W X (.BoolOp .And (a :: b :: r) pos) (eAndT f g) :=
  (pe_andT h k).imp fun σ H Q ⟨κ, w, s, ok, q⟩ => ⟨κ, w, s, ok, (PostG.bind q).imp fun v H1 ⟨d, s1, w1, le, ok1, r1, q1⟩ => by
    cases e1 : truD d with
    | none => rw [e1] at q1; exact q1.elim
    | some k =>
      rw [e1] at q1
      refine ⟨k, truV_of hK ok1 r1 e1, ?_⟩
      cases k with
      | false => exact q1 w1 v H1 (.refl _) ok1 r1
      | true => exact ⟨κ, w1, s1, ok1, q1⟩⟩
theorem pd_notT (hK : G.K = X.K) {a : Expr} {f : DE} {pos : Pos} (h : PD G W X a f) : PD G W X (.UnaryOp .Not a pos) (eNotT f) :=
  (pe_notT h).imp fun σ H Q ⟨κ, w, s, ok, q⟩ => ⟨κ, w, s, ok, (PostG.bind q).imp fun v H1 ⟨d, s1, w1, le, ok1, r1, q1⟩ => by
    cases e1 : truD d with
    | none => rw [e1] at q1; exact q1.elim
    | some k => rw [e1] at q1; exact ⟨k, truV_of hK ok1 r1 e1, q1 w1 _ H1 (.refl _) ok1 (.bl _)⟩⟩
/-! ### ints -/
def dI (g : Int → Int → Option D) : D → D → Option D := fun x y => match x, y with
  | .int i, .int j => g i j
  | _, _ => none
theorem opd_I {f : Value → Value → Sem Value} {C : Int → Int → Prop} {gv : Int → Int → V} {g : Int → Int → Option D} (h : OpR X f (rI C gv)) (hg : ∀ i j d, g i j = some d → C i j ∧ ∀ w, Rep G w (gv i j) d) : OpD G X f (dI g) :=
  ⟨_, h, fun κ w s σ H x y dx dy d Q ok rx ry e q => by
    cases rx with
    | int i =>
      cases ry with
      | int j =>
        obtain ⟨c, r⟩ := hg _ _ _ e
        exact ⟨_, _, rfl, rfl, c, q w _ H (.refl _) ok (r w)⟩
      | _ => exact nomatch e
    | _ => exact nomatch e⟩
theorem opd_I0 {f : Value → Value → Sem Value} {gv : Int → Int → V} {g : Int → Int → Option D} (h : OpR X f (rI0 gv)) (hg : ∀ i j d, g i j = some d → ∀ w, Rep G w (gv i j) d) : OpD G X f (dI g) :=
  ⟨_, h, fun κ w s σ H x y dx dy d Q ok rx ry e q => by
    cases rx with
    | int i =>
      cases ry with
      | int j => exact ⟨_, _, rfl, rfl, q w _ H (.refl _) ok (hg _ _ _ e w)⟩
      | _ => exact nomatch e
    | _ => exact nomatch e⟩
/-- a bound on the bits that products may have -/
def mulOk (i j : Int) : Bool := decide (i.natAbs.log2 + j.natAbs.log2 < 100000000)
def divOk (j : Int) : Bool := decide (j ≠ 0 ∧ j.natAbs.log2 < 9000)
def iAdd : D → D → Option D := dI fun i j => some (.int (i + j))
def iSub : D → D → Option D := dI fun i j => some (.int (i - j))
def iMul : D → D → Option D := dI fun i j => if mulOk i j then some (.int (i * j)) else none
def iDiv : D → D → Option D := dI fun i j => if divOk j then some (.int (i.fdiv j)) else none
def iMod : D → D → Option D := dI fun i j => if j ≠ 0 then some (.int (i.fmod j)) else none
def iPow : D → D → Option D := dI fun i j => if 0 ≤ j ∧ j ≤ 1000000 ∧ i.natAbs < 2 ^ 64 then some (.int (i ^ j.toNat)) else none
def iShl : D → D → Option D := dI fun i j => if 0 ≤ j ∧ j ≤ 1000000 ∧ i.natAbs < 2 ^ 64 then some (.int (i * 2 ^ j.toNat)) else none
def iLt : D → D → Option D := dI fun i j => some (.bl (decide (i < j)))
def iLe : D → D → Option D := dI fun i j => some (.bl (decide (i ≤ j)))
def iGt : D → D → Option D := dI fun i j => some (.bl (decide (j < i)))
def iGe : D → D → Option D := dI fun i j => some (.bl (decide (j ≤ i)))
theorem opd_add : OpD G X (binaryOp .Add) iAdd := opd_I0 op_add fun i j d e w => by cases e; exact .int _
theorem opd_sub : OpD G X (binaryOp .Sub) iSub := opd_I0 op_sub fun i j d e w => by cases e; exact .int _
def CMulX (i j : Int) : Prop := i.natAbs.log2 + j.natAbs.log2 < 100000000
theorem CMulX.ok {i j : Int} (h : CMulX i j) : IntMulOk i j := by
  have b : ∀ x : Int, Builtin.Int.intBits x ≤ x.natAbs.log2 + 1 := fun x => by
    unfold Builtin.Int.intBits
    split <;> omega
  have h1 := b i
  have h2 := b j
  have h3 : i.natAbs.log2 + j.natAbs.log2 < 100000000 := h
  have e : bitsLine = 134217728 := by decide
  unfold IntMulOk
  intro z
  rw [Bool.and_eq_true] at z
  have z2 := z.2
  unfold Builtin.Int.intTooBig at z2
  have z3 := of_decide_eq_true z2
  rw [e] at z3
  omega
theorem op_mulX : OpR X (binaryOp .Mult) (rI CMulX fun i j => .int (i * j)) := opI fun _ _ _ _ _ _ _ hc q => mul_int q hc.ok
theorem opd_mul : OpD G X (binaryOp .Mult) iMul := opd_I op_mulX fun i j d e => by
  split at e
  · rename_i h
    cases e
    have h : decide (i.natAbs.log2 + j.natAbs.log2 < 100000000) = true := h
    exact ⟨(of_decide_eq_true h : i.natAbs.log2 + j.natAbs.log2 < 100000000), fun w => .int _⟩
  · cases e
theorem op_fdivX : OpR X (binaryOp .FloorDiv) (rI (fun _ j => j ≠ 0 ∧ j.natAbs.log2 < 9000) fun i j => .int (i.fdiv j)) := opI fun _ _ _ _ _ _ _ hc q => floordiv_int hc.1 q (.inl (PyProof.noPylong_of_log2 hc.2))
theorem opd_div : OpD G X (binaryOp .FloorDiv) iDiv := opd_I op_fdivX fun i j d e => by
  split at e
  · rename_i h
    cases e
    exact ⟨of_decide_eq_true h, fun w => .int _⟩
  · cases e
theorem opd_mod : OpD G X (binaryOp .Mod) iMod := opd_I op_modN fun i j d e => by
  split at e
  · rename_i h
    cases e
    exact ⟨h, fun w => .int _⟩
  · cases e
theorem opd_pow : OpD G X (binaryOp .Pow) iPow := opd_I op_pow fun i j d e => by
  split at e
  · rename_i h
    cases e
    exact ⟨h, fun w => .int _⟩
  · cases e
theorem opd_shl : OpD G X (binaryOp .LShift) iShl := opd_I op_shl fun i j d e => by
  split at e
  · rename_i h
    cases e
    exact ⟨h, fun w => .int _⟩
  · cases e
theorem opd_lt : OpD G X (compareOp .Lt) iLt := opd_I0 op_lt fun i j d e w => by cases e; exact .bl _
theorem opd_le : OpD G X (compareOp .LtE) iLe := opd_I0 op_le fun i j d e w => by cases e; exact .bl _
theorem opd_gt : OpD G X (compareOp .Gt) iGt := opd_I0 op_gt fun i j d e w => by cases e; exact .bl _
theorem opd_ge : OpD G X (compareOp .GtE) iGe := opd_I0 op_ge fun i j d e w => by cases e; exact .bl _
def eNeg (f : DE) : DE := fun s => (f s).bind fun d s1 => match d with
  | .int i => .ok (.int (-i)) s1
  | _ => .stuck
theorem pd_neg {a : Expr} {f : DE} {pos : Pos} (h : PD G W X a f) : PD G W X (.UnaryOp .USub a pos) (eNeg f) :=
  (pe_un un_neg h).imp fun σ H Q ⟨κ, w, s, ok, q⟩ => ⟨κ, w, s, ok, (PostG.bind q).imp fun v H1 ⟨d, s1, w1, le, ok1, r1, q1⟩ => by
    cases r1 with
    | int i => exact ⟨i, rfl, q1 w1 _ H1 (.refl _) ok1 (.int _)⟩
    | _ => exact q1.elim⟩
/-! ### sequences: +, * -/
def sAdd : D → D → Option D := fun x y => match x, y with
  | .str a, .str b => if a.length + b.length ≤ 1000000 then some (.str (a ++ b)) else none
  | .tup a, .tup b => if a ≠ [] ∧ b ≠ [] ∧ a.length + b.length ≤ 1000000 then some (.tup (a ++ b)) else none
  | _, _ => none
theorem nm_append (a b : Nm) : nm a ++ nm b = nm (a ++ b) := by
  show Str.mk _ = _
  simp [nm]
theorem opd_sadd (hK : G.K = X.K) : OpD G X (binaryOp .Add) sAdd := ⟨_, op_add_str.or op_catT, fun κ w s σ H x y dx dy d Q ok rx ry e q => by
  cases rx with
  | str a =>
    cases ry with
    | str b =>
      left
      have e : (if a.length + b.length ≤ 1000000 then some (D.str (a ++ b)) else none) = some d := e
      split at e
      · rename_i c
        cases e
        refine ⟨nm a, nm b, rfl, rfl, by rw [nm_len, nm_len, sizeLine_eq]; omega, ?_⟩
        rw [nm_append]
        exact q w _ H (.refl _) ok (.str _)
      · cases e
    | _ => exact nomatch e
  | @tup a vs ds e1 r1 =>
    cases ry with
    | @tup a2 vs2 ds2 e2 r2 =>
      right
      have e : (if ds ≠ [] ∧ ds2 ≠ [] ∧ ds.length + ds2.length ≤ 1000000 then some (D.tup (ds ++ ds2)) else none) = some d := e
      split at e
      · rename_i c
        cases e
        have n1 : vs ≠ [] := fun z => c.1 (by subst z; cases r1; rfl)
        have n2 : vs2 ≠ [] := fun z => c.2.1 (by subst z; cases r2; rfl)
        refine ⟨a, a2, vs, vs2, rfl, rfl, hK ▸ SqT.le e1 ok.fok.sub, hK ▸ SqT.le e2 ok.fok.sub, n1, by rw [r1.length, r2.length, sizeLine_eq]; omega, ?_⟩
        first
          | exact ⟨fun z => absurd z n2, fun p hp => by
              obtain ⟨le2, ok2⟩ := ok.alloc hp (.tup (vs ++ vs2))
              exact q _ _ _ le2 ok2 (.tup (.inl (.inl upd_same)) ((r1.append r2).mono le2))⟩
          | exact ⟨fun z => absurd z n2, fun _ p hp => by
              obtain ⟨le2, ok2⟩ := ok.alloc hp (.tup (vs ++ vs2))
              exact q _ _ _ le2 ok2 (.tup (.inl (.inl upd_same)) ((r1.append r2).mono le2))⟩
      · cases e
    | _ => exact nomatch e
  | _ => exact nomatch e⟩
/-- a + b of lists: a new list -/
def aCat (fa fb : DE) : DA := fun s => (fa s).bind fun x s1 => (fb s1).bind fun y s2 => match x, y with
  | .lst a, .lst b => if a.length + b.length ≤ 1000000 then .ok (a ++ b) s2 else .stuck
  | _, _ => .stuck
theorem pdo_cat {a b : Expr} {fa fb : DE} {pos : Pos} (ha : PD G W X a fa) (hb : PD G W X b fb) : PDo G W X (.BinOp a .Add b pos) (aCat fa fb) :=
  (pe_op op_cat ha hb).imp fun σ H Q ⟨κ, w, s, ok, q⟩ => ⟨κ, w, s, ok, (PostG.bindO q).imp fun v H1 ⟨d, s1, w1, le, ok1, r1, q1⟩ => ⟨κ, w1, s1, ok1, (PostG.bindO q1).imp fun v2 H2 ⟨d2, s2, w2, le2, ok2, r2, q2⟩ => by
    cases r1 with
    | @lst p vs ds e1 r1 =>
      cases r2 with
      | @lst p2 vs2 ds2 e2 r2 =>
        replace q2 : PostO G W κ w2 σ (if ds.length + ds2.length ≤ 1000000 then .ok (ds ++ ds2) s2 else .stuck) Q := q2
        split at q2
        · refine ⟨p, p2, vs, vs2, rfl, rfl, ok2.fok.sub _ _ (le2.f _ _ e1), ok2.fok.sub _ _ e2, by rw [r1.length, r2.length, sizeLine_eq]; omega, fun p hp => ?_⟩
          exact q2 w2 p _ _ (.refl _) (ok2.fresh hp _) (ok2.apart hp) ((r1.mono le2).append r2)
        · exact q2.elim
      | _ => exact q2.elim
    | _ => exact q2.elim⟩⟩
/-- list * int: a new list -/
def aRep (fa fb : DE) : DA := fun s => (fa s).bind fun x s1 => (fb s1).bind fun y s2 => match x, y with
  | .lst a, .int k => if -(2 ^ 63) ≤ k ∧ k < 2 ^ 63 ∧ a.length * k.toNat ≤ 1000000 then .ok (List.replicate k.toNat a).flatten s2 else .stuck
  | _, _ => .stuck
theorem Reps.rep {w : Wd} {vs : List V} {ds : List D} (r : Reps G w vs ds) : ∀ k : Nat, Reps G w (List.replicate k vs).flatten (List.replicate k ds).flatten
  | 0 => .nil
  | k + 1 => by
    rw [List.replicate_succ, List.replicate_succ, List.flatten_cons, List.flatten_cons]
    exact r.append (Reps.rep r k)
/-! ### subscripts -/
def ixD (d : D) (i : Int) : Option D := match d with
  | .tup xs => atI xs i
  | .lst xs => atI xs i
  | .scr xs => atI xs i
  | .str l => if l.length ≤ 16777216 then (atI l i).map fun c => .str [c] else none
  | _ => none
def eIx (fa fb : DE) : DE := fun s => (fa s).bind fun x s1 => (fb s1).bind fun y s2 => match y with
  | .int i => match ixD x i with
    | some d => .ok d s2
    | none => .stuck
  | _ => .stuck
theorem Reps.atI {w : Wd} {vs : List V} {ds : List D} {i : Int} {d : D} (r : Reps G w vs ds) (h : L2.atI ds i = some d) : ∃ v, L2.atI vs i = some v ∧ Rep G w v d := by
  unfold L2.atI at h ⊢
  rw [r.length]
  cases e : ixN ds.length i with
  | none => rw [e] at h; cases h
  | some j =>
    rw [e] at h
    obtain ⟨v, h1, h2⟩ := r.get (i := j) h
    exact ⟨v, h1, h2⟩
theorem pd_ix (hK : G.K = X.K) {a b : Expr} {fa fb : DE} {pos : Pos} (ha : PD G W X a fa) (hb : PD G W X b fb) (hs : PlainIx b) : PD G W X (.Subscript a b pos) (eIx fa fb) :=
  (pe_ix ix_seq ha hb hs).imp fun σ H Q ⟨κ, w, s, ok, q⟩ => ⟨κ, w, s, ok, (PostG.bind q).imp fun v H1 ⟨d, s1, w1, le, ok1, r1, q1⟩ => ⟨κ, w1, s1, ok1, (PostG.bind q1).imp fun v2 H2 ⟨d2, s2, w2, le2, ok2, r2, q2⟩ => by
    cases r2 with
    | int i =>
      replace q2 : PostG G W (Rep G) κ w2 σ (match ixD d i with | some d => .ok d s2 | none => .stuck) Q := q2
      cases e : ixD d i with
      | none => rw [e] at q2; exact q2.elim
      | some z =>
        rw [e] at q2
        cases r1 with
        | @tup p vs ds e1 r1 =>
          obtain ⟨y, h1, h2⟩ := Reps.atI r1 e
          exact .inr (.inl ⟨p, vs, i, y, rfl, rfl, hK ▸ SqT.le (SqT.le e1 le2.f) ok2.fok.sub, h1, q2 w2 y H2 (.refl _) ok2 (h2.mono le2)⟩)
        | @lst p vs ds e1 r1 =>
          obtain ⟨y, h1, h2⟩ := Reps.atI r1 e
          exact .inl ⟨p, vs, i, y, rfl, rfl, .inl (.inl (ok2.fok.sub _ _ (le2.f _ _ e1))), h1, q2 w2 y H2 (.refl _) ok2 (h2.mono le2)⟩
        | @scr p vs ds e1 r1 =>
          obtain ⟨y, h1, h2⟩ := Reps.atI r1 e
          exact .inl ⟨p, vs, i, y, rfl, rfl, hK ▸ SqL.le (SqL.le e1 le2.f) ok2.fok.sub, h1, q2 w2 y H2 (.refl _) ok2 (h2.mono le2)⟩
        | str l =>
          have e : (if l.length ≤ 16777216 then (L2.atI l i).map fun c => D.str [c] else none) = some z := e
          split at e
          · rename_i hl
            cases e3 : L2.atI l i with
            | none => simp [e3] at e
            | some c =>
              simp only [e3, Option.map_some, Option.some.injEq] at e
              subst e
              refine .inr (.inr ⟨nm l, i, c, rfl, rfl, by rw [nm_len, sizeLine_eq]; exact hl, by simpa [nm] using e3, ?_⟩)
              exact q2 w2 _ H2 (.refl _) ok2 (.str [c])
          · cases e
        | _ => exact nomatch e
    | _ => exact q2.elim⟩⟩
end
end DL
set_option maxRecDepth 100000
set_option maxHeartbeats 4000000
set_option autoImplicit false
namespace DL
open PySem PySem.Spec PyProof.Rows L2
section
variable {G : Gam} {W : WX} {X : Cx}
/-! ### built-ins by name -/
def CallD (G : Gam) (X : Cx) (f : Value) (o : List D → Option D) : Prop := ∃ r, CallR X f r ∧ ∀ (κ : Bs) (w : Wd) (s : DS) (σ : L2.St) (H : Hp) (vs : List V) (ds : List D) (d : D) (Q : VK),
  Ok G κ w s σ H → Reps G w vs ds → o ds = some d → (∀ w' v H', w.le w' → Ok G κ w' s σ H' → Rep G w' v d → Q v H') → r vs H Q
def eCB (o : List D → Option D) (fa : DA) : DE := fun s => (fa s).bind fun ds s1 => match o ds with
  | some d => .ok d s1
  | none => .stuck
theorem cb_of {o : List D → Option D} {r : List V → Hp → VK → Prop} {fa : DA} {σ : L2.St} {H : Hp} {Q : VK} (h2 : ∀ (κ : Bs) (w : Wd) (s : DS) (σ : L2.St) (H : Hp) (vs : List V) (ds : List D) (d : D) (Q : VK),
    Ok G κ w s σ H → Reps G w vs ds → o ds = some d → (∀ w' v H', w.le w' → Ok G κ w' s σ H' → Rep G w' v d → Q v H') → r vs H Q) (h : tD G W (eCB o fa) σ H Q) : tCB r (tDA G W fa) σ H Q := by
  obtain ⟨κ, w, s, ok, q⟩ := h
  refine ⟨κ, w, s, ok, (PostG.bind q).imp fun v H1 ⟨d, s1, w1, le, ok1, r1, q1⟩ => ?_⟩
  cases e : o d with
  | none => rw [e] at q1; exact q1.elim
  | some z => rw [e] at q1; exact h2 κ w1 s1 σ H1 v d z Q ok1 r1 e q1
theorem pd_callB {x : Str} {id : String} {p pos : Pos} {e : Expr} {es : List Expr} {fa : DA} {o : List D → Option D} (hc : CallD G X (.builtin id) o) (hg : Gl X x) (hm : X.mg x = none) (hv : bootBuiltins x = some (.builtin id)) (ha : PDA G W X (e :: es) fa) (hn : x ≠ "__name__" := by decide)
    (hdb : (x == ("__debug__" : Str)) = false := by decide) (he : starEach (e :: es) X.env = (false, eval e X.env) :: starEach es X.env := by rfl) (hpl : (backTo pos (starEach es X.env)).any (·.1) = false := by rfl) : PD G W X (.Call (.Name x p) (e :: es) [] pos) (eCB o fa) := by
  obtain ⟨r, h1, h2⟩ := hc
  exact (pe_callB h1 hg hm hv ha hn hdb he hpl).imp fun σ H Q h => cb_of h2 h
theorem pd_callTy {x : Str} {T : String} {p pos : Pos} {e : Expr} {es : List Expr} {fa : DA} {o : List D → Option D} (hc : CallD G X (.type T) o) (hg : Gl X x) (hm : X.mg x = none) (hv : bootBuiltins x = some (.type T)) (ha : PDA G W X (e :: es) fa) (hn : x ≠ "__name__" := by decide)
    (hdb : (x == ("__debug__" : Str)) = false := by decide) (he : starEach (e :: es) X.env = (false, eval e X.env) :: starEach es X.env := by rfl) (hpl : (backTo pos (starEach es X.env)).any (·.1) = false := by rfl) : PD G W X (.Call (.Name x p) (e :: es) [] pos) (eCB o fa) := by
  obtain ⟨r, h1, h2⟩ := hc
  exact (pe_callTy h1 hg hm hv ha hn hdb he hpl).imp fun σ H Q h => cb_of h2 h
theorem Reps.one {w : Wd} {vs : List V} {d : D} (r : Reps G w vs [d]) : ∃ v, vs = [v] ∧ Rep G w v d := by
  cases r with
  | cons a b => cases b; exact ⟨_, rfl, a⟩
theorem Reps.two {w : Wd} {vs : List V} {d d' : D} (r : Reps G w vs [d, d']) : ∃ v v', vs = [v, v'] ∧ Rep G w v d ∧ Rep G w v' d' := by
  cases r with
  | cons a b =>
    cases b with
    | cons a2 b2 => cases b2; exact ⟨_, _, rfl, a, a2⟩
def bLen : List D → Option D
  | [.tup xs] => some (.int xs.length)
  | [.lst xs] => some (.int xs.length)
  | [.scr xs] => some (.int xs.length)
  | [.str l] => if l.length ≤ 16777216 then some (.int l.length) else none
  | _ => none
theorem cd_len (hK : G.K = X.K) : CallD G X (.builtin "len") bLen := ⟨_, call_len, fun κ w s σ H vs ds d Q ok rs e q => by
  match ds, e with
  | [.tup xs], e =>
    cases e
    obtain ⟨v, rfl, r⟩ := rs.one
    cases r with
    | @tup a vs ds e r => exact ⟨_, _, rfl, .inr ⟨vs, hK ▸ SqT.le e ok.fok.sub, rfl⟩, by rw [r.length]; exact q w _ H (.refl _) ok (.int _)⟩
  | [.lst xs], e =>
    cases e
    obtain ⟨v, rfl, r⟩ := rs.one
    cases r with
    | @lst a vs ds e r => exact ⟨_, _, rfl, .inl ⟨vs, .inl (.inl (ok.fok.sub _ _ e)), rfl⟩, by rw [r.length]; exact q w _ H (.refl _) ok (.int _)⟩
  | [.scr xs], e =>
    cases e
    obtain ⟨v, rfl, r⟩ := rs.one
    cases r with
    | @scr a vs ds e r => exact ⟨_, _, rfl, .inl ⟨vs, hK ▸ SqL.le e ok.fok.sub, rfl⟩, by rw [r.length]; exact q w _ H (.refl _) ok (.int _)⟩
  | [.str l], e =>
    have e : (if l.length ≤ 16777216 then some (D.int l.length) else none) = some d := e
    split at e
    · rename_i c
      cases e
      obtain ⟨v, rfl, r⟩ := rs.one
      cases r
      exact ⟨_, _, rfl, ⟨by rw [nm_len, sizeLine_eq]; exact c, rfl⟩, by rw [nm_len]; exact q w _ H (.refl _) ok (.int _)⟩
    · cases e⟩
def bInt : List D → Option D
  | [.int i] => some (.int i)
  | [.bl b] => some (.int (if b then 1 else 0))
  | _ => none
theorem cd_int : CallD G X (.type "int") bInt := ⟨_, call_int1, fun κ w s σ H vs ds d Q ok rs e q => by
  match ds, e with
  | [.int i], e =>
    cases e
    obtain ⟨v, rfl, r⟩ := rs.one
    cases r
    exact .inl ⟨i, rfl, q w _ H (.refl _) ok (.int _)⟩
  | [.bl b], e =>
    cases e
    obtain ⟨v, rfl, r⟩ := rs.one
    cases r
    exact .inr ⟨b, rfl, q w _ H (.refl _) ok (.int _)⟩⟩
def bAbs : List D → Option D
  | [.int i] => some (.int (if i < 0 then -i else i))
  | _ => none
theorem cd_abs : CallD G X (.builtin "abs") bAbs := ⟨_, call_abs, fun κ w s σ H vs ds d Q ok rs e q => by
  match ds, e with
  | [.int i], e =>
    cases e
    obtain ⟨v, rfl, r⟩ := rs.one
    cases r
    exact ⟨i, rfl, q w _ H (.refl _) ok (.int _)⟩⟩
def bMax2 : List D → Option D
  | [.int i, .int j] => some (.int (if j > i then j else i))
  | _ => none
def bMin2 : List D → Option D
  | [.int i, .int j] => some (.int (if j < i then j else i))
  | _ => none
theorem cd_max2 (hc : X.calm = true) : CallD G X (.builtin "max") bMax2 := ⟨_, call_max2 hc, fun κ w s σ H vs ds d Q ok rs e q => by
  match ds, e with
  | [.int i, .int j], e =>
    cases e
    obtain ⟨v, v', rfl, r, r'⟩ := rs.two
    cases r
    cases r'
    exact ⟨i, j, rfl, q w _ H (.refl _) ok (.int _)⟩⟩
theorem cd_min2 (hc : X.calm = true) : CallD G X (.builtin "min") bMin2 := ⟨_, call_min2 hc, fun κ w s σ H vs ds d Q ok rs e q => by
  match ds, e with
  | [.int i, .int j], e =>
    cases e
    obtain ⟨v, v', rfl, r, r'⟩ := rs.two
    cases r
    cases r'
    exact ⟨i, j, rfl, q w _ H (.refl _) ok (.int _)⟩⟩
def intsOf : List D → Option (List Int)
  | [] => some []
  | .int i :: r => (intsOf r).map (i :: ·)
  | _ => none
theorem intsOf_eq : ∀ {ds : List D} {ns : List Int}, intsOf ds = some ns → ds = ns.map D.int
  | [], ns, e => by cases e; rfl
  | .int i :: r, ns, e => by
    unfold intsOf at e
    cases q : intsOf r with
    | none => rw [q] at e; cases e
    | some ms =>
      rw [q] at e
      cases e
      rw [intsOf_eq q]
      rfl
  | .non :: _, _, e => nomatch e
  | .bl _ :: _, _, e => nomatch e
  | .str _ :: _, _, e => nomatch e
  | .tup _ :: _, _, e => nomatch e
  | .lst _ :: _, _, e => nomatch e
  | .scr _ :: _, _, e => nomatch e
  | .dic _ :: _, _, e => nomatch e
  | .ins _ _ :: _, _, e => nomatch e
  | .cell _ :: _, _, e => nomatch e
  | .cls _ :: _, _, e => nomatch e
  | .ty _ :: _, _, e => nomatch e
  | .fn _ :: _, _, e => nomatch e
def blsOf : List D → Option (List Bool)
  | [] => some []
  | .bl i :: r => (blsOf r).map (i :: ·)
  | _ => none
theorem blsOf_eq : ∀ {ds : List D} {ns : List Bool}, blsOf ds = some ns → ds = ns.map D.bl
  | [], ns, e => by cases e; rfl
  | .bl i :: r, ns, e => by
    unfold blsOf at e
    cases q : blsOf r with
    | none => rw [q] at e; cases e
    | some ms =>
      rw [q] at e
      cases e
      rw [blsOf_eq q]
      rfl
  | .non :: _, _, e => nomatch e
  | .int _ :: _, _, e => nomatch e
  | .str _ :: _, _, e => nomatch e
  | .tup _ :: _, _, e => nomatch e
  | .lst _ :: _, _, e => nomatch e
  | .scr _ :: _, _, e => nomatch e
  | .dic _ :: _, _, e => nomatch e
  | .ins _ _ :: _, _, e => nomatch e
  | .cell _ :: _, _, e => nomatch e
  | .cls _ :: _, _, e => nomatch e
  | .ty _ :: _, _, e => nomatch e
  | .fn _ :: _, _, e => nomatch e
theorem Reps.bls {w : Wd} : ∀ {v : List V} {ns : List Bool}, Reps G w v (ns.map D.bl) → v = ns.map V.bl
  | _, [], h => by cases h; rfl
  | _, n :: ns, h => by
    cases h with
    | cons a b => cases a; rw [Reps.bls b]; rfl
def bSum : List D → Option D
  | [.lst xs] => (intsOf xs).map fun ns => .int ns.sum
  | _ => none
theorem cd_sum (hc : X.calm = true) : CallD G X (.builtin "sum") bSum := ⟨_, cr_sum hc, fun κ w s σ H vs ds d Q ok rs e q => by
  match ds, e with
  | [.lst xs], e =>
    have e : (intsOf xs).map (fun ns => D.int ns.sum) = some d := e
    cases e1 : intsOf xs with
    | none => rw [e1] at e; cases e
    | some ns =>
      rw [e1] at e
      cases e
      obtain ⟨v, rfl, r⟩ := rs.one
      cases r with
      | @lst a vs ds e r =>
        rw [intsOf_eq e1] at r
        rw [r.ints] at e
        exact ⟨a, ns, rfl, .inl (.inl (ok.fok.sub _ _ e)), q w _ H (.refl _) ok (.int _)⟩⟩
def bAll : List D → Option D
  | [.lst xs] => (blsOf xs).map fun ns => .bl (ns.all id)
  | _ => none
def bAny : List D → Option D
  | [.lst xs] => (blsOf xs).map fun ns => .bl (ns.any id)
  | _ => none
theorem cd_all (hc : X.calm = true) : CallD G X (.builtin "all") bAll := ⟨_, cr_all hc, fun κ w s σ H vs ds d Q ok rs e q => by
  match ds, e with
  | [.lst xs], e =>
    have e : (blsOf xs).map (fun ns => D.bl (ns.all id)) = some d := e
    cases e1 : blsOf xs with
    | none => rw [e1] at e; cases e
    | some ns =>
      rw [e1] at e
      cases e
      obtain ⟨v, rfl, r⟩ := rs.one
      cases r with
      | @lst a vs ds e r =>
        rw [blsOf_eq e1] at r
        rw [r.bls] at e
        exact ⟨a, ns, rfl, .inl (.inl (ok.fok.sub _ _ e)), q w _ H (.refl _) ok (.bl _)⟩⟩
theorem cd_any (hc : X.calm = true) : CallD G X (.builtin "any") bAny := ⟨_, cr_any hc, fun κ w s σ H vs ds d Q ok rs e q => by
  match ds, e with
  | [.lst xs], e =>
    have e : (blsOf xs).map (fun ns => D.bl (ns.any id)) = some d := e
    cases e1 : blsOf xs with
    | none => rw [e1] at e; cases e
    | some ns =>
      rw [e1] at e
      cases e
      obtain ⟨v, rfl, r⟩ := rs.one
      cases r with
      | @lst a vs ds e r =>
        rw [blsOf_eq e1] at r
        rw [r.bls] at e
        exact ⟨a, ns, rfl, .inl (.inl (ok.fok.sub _ _ e)), q w _ H (.refl _) ok (.bl _)⟩⟩
/-- tuple(x) -/
def bTup : List D → Option D
  | [.tup xs] => some (.tup xs)
  | [.lst xs] => some (.tup xs)
  | _ => none
theorem cd_tup (hK : G.K = X.K) : CallD G X (.type "tuple") bTup := ⟨_, call_tuple_of, fun κ w s σ H vs ds d Q ok rs e q => by
  match ds, e with
  | [.tup xs], e =>
    cases e
    obtain ⟨v, rfl, r⟩ := rs.one
    cases r with
    | @tup a vs ds e r => exact ⟨a, vs, rfl, .inr ⟨hK ▸ SqT.le e ok.fok.sub, q w _ H (.refl _) ok (.tup e r)⟩⟩
  | [.lst xs], e =>
    cases e
    obtain ⟨v, rfl, r⟩ := rs.one
    cases r with
    | @lst a vs ds e r => exact ⟨a, vs, rfl, .inl ⟨.inl (.inl (ok.fok.sub _ _ e)), fun l hl => by
        obtain ⟨le2, ok2⟩ := ok.alloc hl (.tup vs)
        exact q _ _ _ le2 ok2 (.tup (.inl (.inl upd_same)) (r.mono le2))⟩⟩⟩
/-- list(x): a new list -/
def seqD (d : D) : Option (List D) := match d with
  | .tup xs => some xs
  | .lst xs => some xs
  | .scr xs => some xs
  | _ => none
def aList (fa : DA) : DA := fun s => (fa s).bind fun ds s1 => match ds with
  | [d] => match seqD d with
    | some xs => .ok xs s1
    | none => .stuck
  | _ => .stuck
theorem Rep.seq (hK : G.K = X.K) {κ : Bs} {w : Wd} {s : DS} {σ : L2.St} {H : Hp} {v : V} {d : D} {xs : List D} (ok : Ok G κ w s σ H) (r : Rep G w v d) (h : seqD d = some xs) : ∃ a vs, v = .ref a ∧ (SqL X.K H a vs ∨ SqT X.K H a vs) ∧ Reps G w vs xs := by
  cases r with
  | @tup a vs ds e r => cases h; exact ⟨a, vs, rfl, .inr (hK ▸ SqT.le e ok.fok.sub), r⟩
  | @lst a vs ds e r => cases h; exact ⟨a, vs, rfl, .inl (.inl (.inl (ok.fok.sub _ _ e))), r⟩
  | @scr a vs ds e r => cases h; exact ⟨a, vs, rfl, .inl (hK ▸ SqL.le e ok.fok.sub), r⟩
  | _ => exact nomatch h
theorem pdo_list (hK : G.K = X.K) {x : Str} {p pos : Pos} {e : Expr} {fa : DA} (hg : Gl X x) (hm : X.mg x = none) (hv : bootBuiltins x = some (.type "list")) (ha : PDA G W X [e] fa) (hn : x ≠ "__name__" := by decide) (hdb : (x == ("__debug__" : Str)) = false := by decide)
    (he : starEach [e] X.env = (false, eval e X.env) :: starEach [] X.env := by rfl) (hpl : (backTo pos (starEach [] X.env)).any (·.1) = false := by rfl) : PDo G W X (.Call (.Name x p) [e] [] pos) (aList fa) :=
  (pe_callTy call_list_of hg hm hv ha hn hdb he hpl).imp fun σ H Q ⟨κ, w, s, ok, q⟩ => ⟨κ, w, s, ok, (PostG.bindO q).imp fun v H1 ⟨d, s1, w1, le, ok1, r1, q1⟩ => by
    match d, q1 with
    | [d], q1 =>
      replace q1 : PostO G W κ w1 σ (match seqD d with | some xs => .ok xs s1 | none => .stuck) Q := q1
      cases e1 : seqD d with
      | none => rw [e1] at q1; exact q1.elim
      | some xs =>
        rw [e1] at q1
        obtain ⟨v, rfl, r⟩ := r1.one
        obtain ⟨a, vs, rfl, h1, h2⟩ := r.seq hK ok1 e1
        exact ⟨a, vs, rfl, h1, fun l hl => q1 w1 l vs _ (.refl _) (ok1.fresh hl _) (ok1.apart hl) h2⟩⟩
/-! ### slices -/
abbrev DOp := DS → Res DS (Option Int)
def oNone : DOp := fun s => .ok none s
def oSome (f : DE) : DOp := fun s => (f s).bind fun d s1 => match d with
  | .int i => .ok (some i) s1
  | _ => .stuck
def tDO (G : Gam) (W : WX) (f : DOp) : TO := fun σ H Q => ∃ κ w s, Ok G κ w s σ H ∧ PostG G W (fun _ (v : Option Int) d => v = d) κ w σ (f s) Q
theorem _root_.L2.PO.imp {X : Cx} {e : Option Expr} {t t' : TO} (h : PO X e t) (k : ∀ σ H Q, t' σ H Q → t σ H Q) : PO X e t' := ⟨by
  first
    | exact fun pins s σ H Q I q => h.run pins s σ H Q I (k σ H Q q)
    | exact fun a pins s σ H Q I q => h.run a pins s σ H Q I (k σ H Q q)⟩
theorem pdo_none : PO X none (tDO G W oNone) := po_none.imp fun σ H Q ⟨κ, w, s, ok, q⟩ => q w none H (.refl _) ok rfl
theorem pdo_some {e : Expr} {f : DE} (h : PD G W X e f) : PO X (some e) (tDO G W (oSome f)) := (po_some h).imp fun σ H Q ⟨κ, w, s, ok, q⟩ => ⟨κ, w, s, ok, (PostG.bind q).imp fun v H1 ⟨d, s1, w1, le, ok1, r1, q1⟩ => by
  cases r1 with
  | int i => exact ⟨i, rfl, q1 w1 _ H1 (.refl _) ok1 rfl⟩
  | _ => exact q1.elim⟩
def cutD {α : Type} (xs : List α) (lo hi : Option Int) : List α := (xs.drop (HT.sIx xs.length 0 lo)).take (HT.sIx xs.length xs.length hi - HT.sIx xs.length 0 lo)
theorem Reps.cut {w : Wd} {vs : List V} {ds : List D} (r : Reps G w vs ds) (lo hi : Option Int) : Reps G w (cutV vs lo hi) (cutD ds lo hi) := by
  unfold cutV cutD
  rw [r.length]
  exact (r.drop _).take _
/-- a slice of a list: a new list -/
def aSl (f : DE) (l h : DOp) : DA := fun s => (f s).bind fun d s1 => (l s1).bind fun lo s2 => (h s2).bind fun hi s3 => match d with
  | .lst xs => .ok (cutD xs lo hi) s3
  | .scr xs => .ok (cutD xs lo hi) s3
  | _ => .stuck
theorem pdo_slice (hK : G.K = X.K) {e : Expr} {lo hi : Option Expr} {f : DE} {l h : DOp} {p2 pos : Pos} (he : PD G W X e f) (hl : PO X lo (tDO G W l)) (hh : PO X hi (tDO G W h)) : PDo G W X (.Subscript e (.Slice lo hi none p2) pos) (aSl f l h) :=
  (pe_slice sl_list he hl hh).imp fun σ H Q ⟨κ, w, s, ok, q⟩ => ⟨κ, w, s, ok, (PostG.bindO q).imp fun v H1 ⟨d, s1, w1, le, ok1, r1, q1⟩ => ⟨κ, w1, s1, ok1, (PostG.bindO q1).imp fun v2 H2 ⟨d2, s2, w2, le2, ok2, r2, q2⟩ =>
    ⟨κ, w2, s2, ok2, (PostG.bindO q2).imp fun v3 H3 ⟨d3, s3, w3, le3, ok3, r3, q3⟩ => by
      subst r2
      subst r3
      cases r1 with
      | @lst a vs ds e r =>
        have e := le3.f _ _ (le2.f _ _ e)
        exact ⟨a, vs, rfl, .inl (.inl (ok3.fok.sub _ _ e)), fun p hp => q3 w3 p _ _ (.refl _) (ok3.fresh hp _) (ok3.apart hp) (((r.mono le2).mono le3).cut _ _)⟩
      | @scr a vs ds e r =>
        exact ⟨a, vs, rfl, hK ▸ SqL.le (SqL.le (SqL.le e le2.f) le3.f) ok3.fok.sub, fun p hp => q3 w3 p _ _ (.refl _) (ok3.fresh hp _) (ok3.apart hp) (((r.mono le2).mono le3).cut _ _)⟩
      | _ => exact q3.elim⟩⟩⟩
/-! ### isinstance -/
def tyD (d : D) : Option String := match d with
  | .non => some "NoneType"
  | .bl _ => some "bool"
  | .int _ => some "int"
  | .str _ => some "str"
  | .tup _ => some "tuple"
  | .lst _ => some "list"
  | .scr _ => some "list"
  | .dic _ => some "dict"
  | _ => none
def tyNames : List String := ["NoneType", "bool", "int", "str", "tuple", "list", "dict"]
def isTy (a b : String) : Bool := a == b || (a == "bool" && b == "int")
theorem isTy_ok : ∀ a ∈ tyNames, ∀ b ∈ tyNames, kitB a b = some (isTy a b) := by decide +kernel
/-- what of the text isinstance asks of the own classes -/
structure IsOk (G : Gam) (cs : List String) : Prop where
  cl : ∀ c ∈ cs, ∀ C, G.ct c = some C → Cls G.K C ∧ PySem.W.findIn G.K (.ref C) "__class__" = some (some (.builtin "object.__class__")) ∧ PySem.W.specialIn G.K (.builtin "object.__class__") "__get__" = some (some (.builtin "getset_descriptor.__get__")) ∧
    PySem.W.takesIn G.K (.builtin "object.__class__") = some true ∧ PySem.W.mroIn G.K C (.type "object") = some true
  bo : ∀ c ∈ cs, ∀ C, G.ct c = some C → ∀ b ∈ tyNames, PySem.W.kitOne G.K (.ref C) (.type b) = some false ∧ PySem.W.kitOne G.K (.type b) (.ref C) = some false
  oo : ∀ c ∈ cs, ∀ c' ∈ cs, ∀ C C', G.ct c = some C → G.ct c' = some C' → PySem.W.kitOne G.K (.ref C) (.ref C') = some (c == c')
/-- the type of data: built-in or own -/
def tyOfD (cs : List String) (d : D) : Option (String ⊕ String) := match d with
  | .ins c _ => if c ∈ cs then some (.inr c) else none
  | d => (tyD d).map .inl
def isOne (cs : List String) (t : String ⊕ String) (c : D) : Option Bool := match t, c with
  | .inl a, .ty b => if a ∈ tyNames ∧ b ∈ tyNames then some (isTy a b) else none
  | .inl a, .cls b => if a ∈ tyNames ∧ b ∈ cs then some false else none
  | .inr a, .ty b => if b ∈ tyNames then some false else none
  | .inr a, .cls b => if b ∈ cs then some (a == b) else none
  | _, _ => none
def bIsi (cs : List String) : List D → Option D
  | [d, c] => (tyOfD cs d).bind fun t => (isOne cs t c).map .bl
  | _ => none
theorem tyX_of (hK : G.K = X.K) {cs : List String} (I : IsOk G cs) {κ : Bs} {w : Wd} {s : DS} {σ : L2.St} {H : Hp} {v : V} {d : D} {t : String ⊕ String} (ok : Ok G κ w s σ H) (r : Rep G w v d) (h : tyOfD cs d = some t) :
    ∃ tv, TyX X.K H v tv ∧ (match t with | .inl a => tv = .type a ∧ a ∈ tyNames | .inr c => c ∈ cs ∧ ∃ C, G.ct c = some C ∧ tv = .ref C) := by
  cases r with
  | non => cases h; exact ⟨_, .base .non, rfl, by decide⟩
  | bl b => cases h; exact ⟨_, .base (.bl b), rfl, by decide⟩
  | int i => cases h; exact ⟨_, .base (.int i), rfl, by decide⟩
  | str l => cases h; exact ⟨_, .base (.str _), rfl, by decide⟩
  | @tup a vs ds e r =>
    cases h
    rcases SqT.le e ok.fok.sub with (z | ⟨o, z⟩) | ⟨o, its, n, z1, z2, _⟩
    · exact ⟨_, .base (.tup z), rfl, by decide⟩
    · exact ⟨_, .fTuple z, rfl, by decide⟩
    · exact ⟨_, .kTuple (hK ▸ z1) z2, rfl, by decide⟩
  | @lst a vs ds e r => cases h; exact ⟨_, .base (.lst (ok.fok.sub _ _ e)), rfl, by decide⟩
  | @scr a vs ds e r =>
    cases h
    rcases SqL.le e ok.fok.sub with (z | ⟨o, z⟩) | ⟨o, its, n, z1, z2, _⟩
    · exact ⟨_, .base (.lst z), rfl, by decide⟩
    · exact ⟨_, .base (.frz z), rfl, by decide⟩
    · exact ⟨_, .kList (hK ▸ z1) z2, rfl, by decide⟩
  | @dic a vs ds e r => cases h; exact ⟨_, .base (.dK (ok.fok.sub _ _ e)), rfl, by decide⟩
  | @ins a C dx c vs ds hC e r =>
    have h : (if c ∈ cs then some (Sum.inr c) else none) = some t := h
    split at h
    · rename_i hc
      cases h
      obtain ⟨cl, h1, h2, h3, h4⟩ := I.cl c hc C hC
      exact ⟨_, .base (.ins (ok.fok.sub _ _ e) (hK ▸ cl) (hK ▸ h1) (hK ▸ h2) (hK ▸ h3) (hK ▸ h4)), hc, C, hC, rfl⟩
    · cases h
  | _ => exact nomatch h
theorem cd_isi (hK : G.K = X.K) {cs : List String} (I : IsOk G cs) : CallD G X (.builtin "isinstance") (bIsi cs) := ⟨_, call_isi, fun κ w s σ H vs ds d Q ok rs e q => by
  match ds, e with
  | [x, c], e =>
    have e : ((tyOfD cs x).bind fun t => (isOne cs t c).map D.bl) = some d := e
    cases e1 : tyOfD cs x with
    | none => rw [e1] at e; cases e
    | some t =>
      rw [e1] at e
      obtain ⟨v, v', rfl, r, r'⟩ := rs.two
      obtain ⟨tv, ty, ht⟩ := tyX_of hK I ok r e1
      have e : (isOne cs t c).map D.bl = some d := e
      cases e2 : isOne cs t c with
      | none => rw [e2] at e; cases e
      | some b =>
        rw [e2] at e
        cases e
        cases t with
        | inl a =>
          obtain ⟨rfl, ha⟩ := ht
          cases r' with
          | ty n =>
            have e2 : (if a ∈ tyNames ∧ n ∈ tyNames then some (isTy a n) else none) = some b := e2
            split at e2
            · rename_i h
              cases e2
              exact ⟨v, _, _, .type n, _, rfl, .ty n, ty, kit_ty (isTy_ok a h.1 n h.2), q w _ H (.refl _) ok (.bl _)⟩
            · cases e2
          | @cls C n hC =>
            have e2 : (if a ∈ tyNames ∧ n ∈ cs then some false else none) = some b := e2
            split at e2
            · rename_i h
              cases e2
              exact ⟨v, _, _, .ref C, _, rfl, .own C, ty, hK ▸ (I.bo n h.2 C hC a h.1).2, q w _ H (.refl _) ok (.bl _)⟩
            · cases e2
          | _ => exact nomatch e2
        | inr a =>
          obtain ⟨ha, C', hC', rfl⟩ := ht
          cases r' with
          | ty n =>
            have e2 : (if n ∈ tyNames then some false else none) = some b := e2
            split at e2
            · rename_i h
              cases e2
              exact ⟨v, _, _, .type n, _, rfl, .ty n, ty, hK ▸ (I.bo a ha C' hC' n h).1, q w _ H (.refl _) ok (.bl _)⟩
            · cases e2
          | @cls C n hC =>
            have e2 : (if n ∈ cs then some (a == n) else none) = some b := e2
            split at e2
            · rename_i h
              cases e2
              exact ⟨v, _, _, .ref C, _, rfl, .own C, ty, hK ▸ I.oo a ha n h C' C hC' hC, q w _ H (.refl _) ok (.bl _)⟩
            · cases e2
          | _ => exact nomatch e2⟩
end
end DL
set_option maxRecDepth 100000
set_option maxHeartbeats 4000000
set_option autoImplicit false
namespace DL
open PySem PySem.Spec PyProof.Rows L2
section
variable {G : Gam} {W : WX} {X : Cx}
/-! ### dicts -/
theorem dkey_inj {a b : DK} (h : dkey a = dkey b) : a = b := by
  cases a <;> cases b <;> simp [dkey] at h <;> first | (subst h; rfl) | (rw [nm_inj h])
def kOf (d : D) : Option DK := match d with
  | .int i => some (.i i)
  | .str l => some (.s l)
  | _ => none
theorem Rep.key {w : Wd} {v : V} {d : D} {k : DK} (r : Rep G w v d) (h : kOf d = some k) : v = kV (dkey k) := by
  cases r with
  | int i => cases h; rfl
  | str l => cases h; rfl
  | _ => exact nomatch h
def dLook (kvs : List (DK × D)) (k : DK) : Option D := match kvs with
  | [] => none
  | (k', d) :: r => if k' = k then some d else dLook r k
def dPut (kvs : List (DK × D)) (k : DK) (x : D) : List (DK × D) := match kvs with
  | [] => [(k, x)]
  | (k', d) :: r => if k' = k then (k, x) :: r else (k', d) :: dPut r k x
theorem RepK.look {w : Wd} : ∀ {v : List (Key × V)} {d : List (DK × D)} {k : DK}, RepK G w v d → (∀ x, dLook d k = some x → ∃ y, valV v (dkey k) = some y ∧ Rep G w y x) ∧ (dLook d k = none → valV v (dkey k) = none)
  | _, _, _, .nil => ⟨fun x e => (nomatch e), fun _ => rfl⟩
  | _, _, k, .cons (k := k') (v := v) (d := d) (vs := vs) (ds := ds) a b => by
    by_cases h : k' = k
    · subst h
      refine ⟨fun x e => ?_, fun e => ?_⟩
      · unfold dLook at e
        rw [if_pos rfl] at e
        cases e
        exact ⟨v, valV_pos rfl, a⟩
      · unfold dLook at e
        rw [if_pos rfl] at e
        cases e
    · have h2 : ¬ dkey k' = dkey k := fun q => h (dkey_inj q)
      obtain ⟨i1, i2⟩ := RepK.look (k := k) b
      refine ⟨fun x e => ?_, fun e => ?_⟩
      · unfold dLook at e
        rw [if_neg h] at e
        obtain ⟨y, q1, q2⟩ := i1 x e
        exact ⟨y, (valV_neg h2).trans q1, q2⟩
      · unfold dLook at e
        rw [if_neg h] at e
        exact (valV_neg h2).trans (i2 e)
theorem RepK.length {w : Wd} : ∀ {v : List (Key × V)} {d : List (DK × D)}, RepK G w v d → v.length = d.length
  | _, _, .nil => rfl
  | _, _, .cons _ b => by rw [List.length_cons, List.length_cons, RepK.length b]
/-- what of a dict is told (Nodup keys are not known here: the store at the first place and at the last agree by this) -/
def keysNd : List (DK × D) → Bool
  | [] => true
  | (k, _) :: r => !(r.any fun p => decide (p.1 = k)) && keysNd r
theorem RepK.any {w : Wd} {k : DK} : ∀ {v : List (Key × V)} {d : List (DK × D)}, RepK G w v d → (v.any fun kv => decide (kv.1 = dkey k)) = d.any fun kv => decide (kv.1 = k)
  | _, _, .nil => rfl
  | _, _, .cons (k := k') a b => by
    rw [List.any_cons, List.any_cons, RepK.any b]
    congr 1
    by_cases h : k' = k
    · subst h; simp
    · simp [h, show ¬ dkey k' = dkey k from fun q => h (dkey_inj q)]
theorem RepK.keepMap {w : Wd} {k : DK} {y : V} : ∀ {v : List (Key × V)} {d : List (DK × D)}, RepK G w v d → (d.any fun kv => decide (kv.1 = k)) = false → v.map (fun kv => if kv.1 = dkey k then (kv.1, y) else kv) = v
  | _, _, .nil, _ => rfl
  | _, _, .cons (k := k') a b, h => by
    rw [List.any_cons, Bool.or_eq_false_iff] at h
    have h1 : ¬ k' = k := of_decide_eq_false h.1
    rw [List.map_cons, if_neg (show ¬ dkey k' = dkey k from fun q => h1 (dkey_inj q)), RepK.keepMap b h.2]
theorem dPut_new : ∀ {d : List (DK × D)} {k : DK} {x : D}, (d.any fun kv => decide (kv.1 = k)) = false → dPut d k x = d ++ [(k, x)]
  | [], _, _, _ => rfl
  | (k', z) :: r, k, x, h => by
    rw [List.any_cons, Bool.or_eq_false_iff] at h
    have h1 : ¬ k' = k := of_decide_eq_false h.1
    unfold dPut
    rw [if_neg h1, dPut_new h.2]
    rfl
theorem RepK.append {w : Wd} : ∀ {v v' : List (Key × V)} {d d' : List (DK × D)}, RepK G w v d → RepK G w v' d' → RepK G w (v ++ v') (d ++ d')
  | _, _, _, _, .nil, h => h
  | _, _, _, _, .cons a b, h => .cons a (RepK.append b h)
theorem RepK.putMap {w : Wd} {k : DK} {y : V} {x : D} (r : Rep G w y x) : ∀ {v : List (Key × V)} {d : List (DK × D)}, RepK G w v d → keysNd d = true → (d.any fun kv => decide (kv.1 = k)) = true → RepK G w (v.map fun kv => if kv.1 = dkey k then (kv.1, y) else kv) (dPut d k x)
  | _, _, .nil, _, h => nomatch h
  | _, _, .cons (k := k') a b, nd, h => by
    unfold keysNd at nd
    rw [Bool.and_eq_true, Bool.not_eq_true'] at nd
    unfold dPut
    by_cases e : k' = k
    · subst e
      rw [if_pos rfl, List.map_cons, if_pos rfl, RepK.keepMap b nd.1]
      exact .cons r b
    · rw [if_neg e, List.map_cons, if_neg (show ¬ dkey k' = dkey k from fun q => e (dkey_inj q))]
      refine .cons a (RepK.putMap r b nd.2 ?_)
      rw [List.any_cons, Bool.or_eq_true] at h
      rcases h with h | h
      · exact absurd (of_decide_eq_true h) e
      · exact h
theorem RepK.put {w : Wd} {k : DK} {y : V} {x : D} (r : Rep G w y x) {v : List (Key × V)} {d : List (DK × D)} (h : RepK G w v d) (nd : keysNd d = true) : RepK G w (putK v (dkey k) y) (dPut d k x) := by
  unfold putK
  rw [h.any]
  cases e : d.any fun kv => decide (kv.1 = k) with
  | true => rw [if_pos rfl]; exact h.putMap r nd e
  | false =>
    rw [if_neg (fun z => nomatch z), dPut_new e]
    exact h.append (.cons r .nil)
def dictOf (d : D) (s : DS) : Option (List (DK × D)) := match d with
  | .dic kvs => some kvs
  | .cell n => match s.st[n]? with
    | some (.dic kvs) => some kvs
    | _ => none
  | _ => none
theorem Rep.dict {κ : Bs} {w : Wd} {s : DS} {σ : L2.St} {H : Hp} {v : V} {d : D} {kvs : List (DK × D)} (ok : Ok G κ w s σ H) (r : Rep G w v d) (h : dictOf d s = some kvs) : ∃ a vs, v = .ref a ∧ H a = some (.dK vs) ∧ RepK G w vs kvs := by
  cases r with
  | @dic a vs ds e r => cases h; exact ⟨a, vs, rfl, ok.fok.sub _ _ e, r⟩
  | @cell a n e =>
    have h : (match s.st[n]? with | some (.dic kvs) => some kvs | _ => none) = some kvs := h
    cases q : s.st[n]? with
    | none => rw [q] at h; cases h
    | some c =>
      rw [q] at h
      cases c with
      | dic kvs' =>
        cases h
        obtain ⟨vs, h1, h2⟩ := ok.fok.cel n a _ e q
        exact ⟨a, vs, rfl, h1, h2⟩
      | _ => cases h
  | _ => exact nomatch h
def eDGet (fo fi : DE) : DE := fun s => (fo s).bind fun d s1 => (fi s1).bind fun k s2 => match dictOf d s2, kOf k with
  | some kvs, some k => match dLook kvs k with
    | some x => .ok x s2
    | none => .stuck
  | _, _ => .stuck
theorem pd_dget {o i : Expr} {fo fi : DE} {pos : Pos} (hu : X.A.units + 1 < cLine) (ho : PD G W X o fo) (hi : PD G W X i fi) (hs : NoSl i) : PD G W X (.Subscript o i pos) (eDGet fo fi) :=
  (pe_dget hu ho hi hs).imp fun σ H Q ⟨κ, w, s, ok, q⟩ => ⟨κ, w, s, ok, (PostG.bind q).imp fun v H1 ⟨d, s1, w1, le, ok1, r1, q1⟩ => ⟨κ, w1, s1, ok1, (PostG.bind q1).imp fun v2 H2 ⟨d2, s2, w2, le2, ok2, r2, q2⟩ => by
    cases e1 : dictOf d s2 with
    | none => rw [e1] at q2; exact q2.elim
    | some kvs =>
      cases e2 : kOf d2 with
      | none => rw [e1, e2] at q2; exact q2.elim
      | some k =>
        rw [e1, e2] at q2
        replace q2 : PostG G W (Rep G) κ w2 σ (match dLook kvs k with | some x => .ok x s2 | none => .stuck) Q := q2
        cases e3 : dLook kvs k with
        | none => rw [e3] at q2; exact q2.elim
        | some x =>
          rw [e3] at q2
          obtain ⟨a, vs, rfl, hH, rk⟩ := (r1.mono le2).dict ok2 e1
          obtain ⟨y, h1, h2⟩ := (rk.look (k := k)).1 x e3
          refine ⟨a, y, rfl, ?_, q2 w2 y H2 (.refl _) ok2 h2⟩
          rw [r2.key e2, ← h1]
          exact DGet.k hH⟩⟩
/-- d[k] = v of a dict in the store -/
def sDPutC (fo fi fv : DE) : DStm := fun s => (fv s).bind fun x s1 => (fo s1).bind fun d s2 => (fi s2).bind fun k s3 => match d, kOf k with
  | .cell n, some k => match s3.st[n]? with
    | some (.dic kvs) => if kvs.length < 1000000 ∧ keysNd kvs = true then .ok .nx ⟨s3.sl, s3.st.set n (.dic (dPut kvs k x))⟩ else .stuck
    | _ => .stuck
  | _, _ => .stuck
theorem pds_dputC {o i value : Expr} {fo fi fv : DE} {pos pos' : Pos} (hu : X.A.units + 1 < cLine) (ho : PD G W X o fo) (hi : PD G W X i fi) (hv : PD G W X value fv) (hs : swapsWith value (some (.Subscript o i pos')) pos.line X.env = pure false := by rfl) :
    PDS G W X (.Assign [.Subscript o i pos'] value pos) (sDPutC fo fi fv) :=
  (ps_dput hu ho hi hv hs).imp fun N σ H ⟨κ, w, s, ok, q⟩ => ⟨κ, w, s, ok, (PostG.bindS q).imp fun v H1 ⟨d, s1, w1, le, ok1, r1, q1⟩ => ⟨κ, w1, s1, ok1, (PostG.bindS q1).imp fun v2 H2 ⟨d2, s2, w2, le2, ok2, r2, q2⟩ =>
    ⟨κ, w2, s2, ok2, (PostG.bindS q2).imp fun v3 H3 ⟨d3, s3, w3, le3, ok3, r3, q3⟩ => by
      cases r2 with
      | @cell a n e =>
        cases e2 : kOf d3 with
        | none => rw [e2] at q3; exact q3.elim
        | some k =>
          rw [e2] at q3
          replace q3 : PostS G W κ w3 (match s3.st[n]? with | some (.dic kvs) => if kvs.length < 1000000 ∧ keysNd kvs = true then .ok .nx ⟨s3.sl, s3.st.set n (.dic (dPut kvs k d))⟩ else .stuck | _ => .stuck) N := q3
          cases e3 : s3.st[n]? with
          | none => rw [e3] at q3; exact q3.elim
          | some c =>
            rw [e3] at q3
            cases c with
            | dic kvs =>
              replace q3 : PostS G W κ w3 (if kvs.length < 1000000 ∧ keysNd kvs = true then .ok .nx ⟨s3.sl, s3.st.set n (.dic (dPut kvs k d))⟩ else .stuck) N := q3
              split at q3
              · rename_i c
                have e' := pre_get le3.r e
                obtain ⟨vs, h1, h2⟩ := ok3.fok.cel n a _ e' e3
                refine ⟨a, _, rfl, ?_, q3 w3 σ _ (.refl _) (ok3.cell e' (c := .dic (dPut kvs k d)) ⟨_, upd_same, h2.put ((r1.mono le2).mono le3) c.2⟩)⟩
                rw [r3.key e2]
                exact DPut.k h1 (by rw [h2.length, sizeLine_eq]; omega)
              · exact q3.elim
            | _ => exact q3.elim
      | _ => exact q3.elim⟩⟩⟩
/-! ### a dict is displayed -/
def pairsD : List (DE × DE) → DS → Res DS (List (D × D))
  | [], s => .ok [] s
  | (fk, fv) :: r, s => (fk s).bind fun k s1 => (fv s1).bind fun x s2 => (pairsD r s2).bind fun ps s3 => .ok ((k, x) :: ps) s3
inductive RepP (G : Gam) (w : Wd) : List (V × V) → List (D × D) → Prop
  | nil : RepP G w [] []
  | cons {v v' : V} {d d' : D} {vs : List (V × V)} {ds : List (D × D)} : Rep G w v d → Rep G w v' d' → RepP G w vs ds → RepP G w ((v, v') :: vs) ((d, d') :: ds)
theorem pairs_of : ∀ (fs : List (DE × DE)) {κ : Bs} {w : Wd} {s : DS} {σ : L2.St} {H : Hp} {Q : List (V × V) → Hp → Prop}, Ok G κ w s σ H → PostG G W (RepP G) κ w σ (pairsD fs s) Q → tPairs (fs.map fun p => (tD G W p.1, tD G W p.2)) σ H Q
  | [], κ, w, s, σ, H, Q, ok, q => q w [] H (.refl _) ok .nil
  | (fk, fv) :: r, κ, w, s, σ, H, Q, ok, q => by
    refine ⟨κ, w, s, ok, (PostG.bind q).imp fun v H1 ⟨d, s1, w1, le, ok1, r1, q1⟩ => ⟨κ, w1, s1, ok1, (PostG.bind q1).imp fun v2 H2 ⟨d2, s2, w2, le2, ok2, r2, q2⟩ => ?_⟩⟩
    refine pairs_of r ok2 ((PostG.bind (rep := RepP G) q2).imp fun ps H3 ⟨ds, s3, w3, le3, ok3, r3, q3⟩ => ?_)
    exact q3 w3 _ H3 (.refl _) ok3 (.cons ((r1.mono le2).mono le3) (r2.mono le3) r3)
def keyed : List (D × D) → Option (List (DK × D))
  | [] => some []
  | (k, x) :: r => match kOf k, keyed r with
    | some k, some r => some ((k, x) :: r)
    | _, _ => none
theorem keyed_of {w : Wd} : ∀ {ps : List (V × V)} {ds : List (D × D)} {kvs : List (DK × D)}, RepP G w ps ds → keyed ds = some kvs → ∃ vs : List (Key × V), ps = vs.map (fun kv => (kV kv.1, kv.2)) ∧ RepK G w vs kvs
  | _, _, _, .nil, e => by cases e; exact ⟨[], rfl, .nil⟩
  | _, _, kvs, .cons (d := d) (ds := ds) a b c, e => by
    unfold keyed at e
    cases e1 : kOf d with
    | none => rw [e1] at e; cases e
    | some k =>
      cases e2 : keyed ds with
      | none => rw [e1, e2] at e; cases e
      | some r =>
        rw [e1, e2] at e
        cases e
        obtain ⟨vs, h1, h2⟩ := keyed_of c e2
        refine ⟨(dkey k, _) :: vs, ?_, .cons b h2⟩
        rw [h1, a.key e1]
        rfl
theorem keys_merge {w : Wd} : ∀ {more : List (Key × V)} {kvs : List (DK × D)} {v : List (Key × V)} {d : List (DK × D)}, RepK G w more kvs → RepK G w v d → (keysNd (d ++ kvs) = true) → RepK G w (mergeK v more) (d ++ kvs)
  | _, _, v, d, .nil, h, _ => by rw [List.append_nil]; exact h
  | _, _, v, d, .cons (k := k) (v := y) (d := x) (vs := vs) (ds := ds) a b, h, nd => by
    have new : (d.any fun kv => decide (kv.1 = k)) = false := by
      clear h a b
      induction d with
      | nil => rfl
      | cons p r ih =>
        rw [List.cons_append] at nd
        unfold keysNd at nd
        rw [Bool.and_eq_true, Bool.not_eq_true', List.any_append, Bool.or_eq_false_iff, List.any_cons, Bool.or_eq_false_iff] at nd
        rw [List.any_cons, ih nd.2, Bool.or_false]
        have := of_decide_eq_false nd.1.2.1
        exact decide_eq_false fun q => this q.symm
    have e : mergeK v ((dkey k, y) :: vs) = mergeK (v ++ [(dkey k, y)]) vs := by
      unfold mergeK
      rw [List.foldl_cons]
      congr 1
      unfold putK
      rw [h.any, new]
      rfl
    rw [e]
    have := keys_merge b (h.append (.cons a .nil)) (d := d ++ [(k, x)]) (by rw [List.append_assoc]; exact nd)
    rw [List.append_assoc] at this
    exact this
/-- a new dict of one's own -/
def PostOd (G : Gam) (W : WX) (κ : Bs) (w : Wd) (σ : L2.St) (r : Res DS (List (DK × D))) (Q : VK) : Prop := match r with
  | .ok xs s' => ∀ w' a vs H', w.le w' → Ok G (κ.plus a (.dK vs)) w' s' σ H' → (∀ p ∈ κ.γ, p.1 ≠ a) → RepK G w' vs xs → Q (.ref a) H'
  | .exc x s' => ∀ w' c dd H', w.le w' → Ok G κ w' s' σ H' → RepX G w' c dd x → W c dd σ H'
  | .stuck => False
abbrev DD := DS → Res DS (List (DK × D))
def tDod (G : Gam) (W : WX) (f : DD) : TE := fun σ H Q => ∃ κ w s, Ok G κ w s σ H ∧ PostOd G W κ w σ (f s) Q
abbrev PDod (G : Gam) (W : WX) (X : Cx) (e : Expr) (f : DD) : Prop := PE X e (tDod G W f)
/-- behind what was set apart a new value -/
theorem Ok.swap {κ : Bs} {w : Wd} {s : DS} {σ : L2.St} {H : Hp} {a : Addr} {o o' : HO} (h : Ok G (κ.plus a o) w s σ H) (hγ : ∀ p ∈ κ.γ, p.1 ≠ a) : Ok G (κ.plus a o') w s σ (upd H a o') := by
  obtain ⟨ho, h3, h4, h5, h6⟩ := h.gam (a, o) List.mem_cons_self
  refine ⟨⟨fun b u e => ?_, h.fok.len, fun n b c e1 e2 => ?_, h.fok.nd, h.fok.nf⟩, ⟨h.nx.le, fun b u e n => ?_, h.nx.newF, h.nx.newR⟩, h.len, h.val, fun j z hj oz => ?_, h.ne, fun p hp => ?_, h.me⟩
  · rw [upd_ne (ne_of_none e h3)]
    exact h.fok.sub b u e
  · exact (h.fok.cel n b c e1 e2).mono (.refl _) (upd_ne fun z => h4 (by rw [← z]; exact List.mem_of_getElem? e1))
  · rw [upd_ne (ne_of_none e h5)]
    exact h.nx.keep b u e n
  · obtain ⟨b, q1, q2, q3, q4, q5⟩ := h.own j z hj oz
    exact ⟨b, q1, q2.mono (.refl _) (upd_ne fun e => h6 j z hj oz (by rw [q1, e])), q3, q4, q5⟩
  · rcases List.mem_cons.mp hp with rfl | hp
    · exact ⟨upd_same, h3, h4, h5, h6⟩
    · obtain ⟨q1, q2⟩ := h.gam p (List.mem_cons_of_mem _ hp)
      exact ⟨by rw [upd_ne (hγ p hp)]; exact q1, q2⟩
def dDisp (fs : List (DE × DE)) : DD := fun s => (pairsD fs s).bind fun ps s1 => match keyed ps with
  | some kvs => if kvs.length ≤ 15 ∧ keysNd kvs = true then .ok kvs s1 else .stuck
  | none => .stuck
theorem pdod_disp {pos : Pos} {keys : List (Option Expr)} {values : List Expr} {fs : List (DE × DE)} (h : PPs X pos keys values (fs.map fun p => (tD G W p.1, tD G W p.2))) (hall : keys.all (·.isSome) = true) (hl : keys.length = values.length) (h0 : keys ≠ []) (h15 : keys.length ≤ 15) :
    PDod G W X (.Dict keys values pos) (dDisp fs) :=
  (pe_disp h hall hl h0 h15).imp fun σ H Q ⟨κ, w, s, ok, q⟩ => by
    intro p hp
    have ok1 := ok.fresh hp (.dK [])
    have hγ := ok.apart hp
    unfold dDisp at q
    refine pairs_of fs (κ := κ.plus p (.dK [])) (w := w) (s := s) ok1 ?_
    cases e : pairsD fs s with
    | stuck => rw [e] at q; exact q.elim
    | exc x s' =>
      rw [e] at q
      exact fun w' c dd H' l o r => q w' c dd H' l o.unplus r
    | ok ps s' =>
      rw [e] at q
      intro w' vps H' l o r
      replace q : PostOd G W κ w σ (match keyed ps with | some kvs => if kvs.length ≤ 15 ∧ keysNd kvs = true then .ok kvs s' else .stuck | none => .stuck) Q := q
      cases e2 : keyed ps with
      | none => rw [e2] at q; exact q.elim
      | some kvs =>
        rw [e2] at q
        replace q : PostOd G W κ w σ (if kvs.length ≤ 15 ∧ keysNd kvs = true then .ok kvs s' else .stuck) Q := q
        split at q
        · rename_i c
          obtain ⟨vs, h1, h2⟩ := keyed_of r e2
          refine ⟨(o.gam (p, .dK []) List.mem_cons_self).1, vs, h1, by rw [h2.length]; exact c.1, ?_⟩
          exact q w' p _ _ l (o.swap hγ) hγ (keys_merge h2 .nil (d := []) c.2)
        · exact q.elim
def eFrzD (f : DD) : DE := fun s => (f s).bind fun xs s1 => .ok (.dic xs) s1
theorem pdod_frz {e : Expr} {f : DD} (h : PDod G W X e f) : PD G W X e (eFrzD f) := h.imp fun σ H Q ⟨κ, w, s, ok, q⟩ => ⟨κ, w, s, ok, by
  unfold eFrzD at q
  cases e : f s with
  | stuck => rw [e] at q; exact q.elim
  | exc x s' => rw [e] at q; exact q
  | ok xs s' =>
    rw [e] at q
    intro w' a vs H' l o g r
    obtain ⟨le, ok'⟩ := o.frz g
    exact q _ _ H' (l.trans le) ok' (.dic upd_same (r.mono le))⟩
/-- what was set apart goes into the store -/
theorem Ok.store {κ : Bs} {w : Wd} {s : DS} {σ : L2.St} {H : Hp} {a : Addr} {o : HO} {c : Cell} (h : Ok G (κ.plus a o) w s σ H) (hγ : ∀ p ∈ κ.γ, p.1 ≠ a) (hc : CellOk G w H a c) : w.le ⟨w.F, w.ρ ++ [a]⟩ ∧ Ok G κ ⟨w.F, w.ρ ++ [a]⟩ ⟨s.sl, s.st ++ [c]⟩ σ H := by
  obtain ⟨ho, h3, h4, h5, h6⟩ := h.gam (a, o) List.mem_cons_self
  have le : w.le ⟨w.F, w.ρ ++ [a]⟩ := ⟨fun _ _ e => e, List.prefix_append _ _⟩
  refine ⟨le, ⟨⟨h.fok.sub, ?_, fun n b c' e1 e2 => ?_, ?_, fun b hb => ?_⟩, ⟨h.nx.le.trans le, h.nx.keep, h.nx.newF, fun b hb => ?_⟩, h.len, fun i d e => ?_, fun i x e o' => ?_, h.ne, fun p hp => ?_, h.me⟩⟩
  · show (w.ρ ++ [a]).length = (s.st ++ [c]).length
    rw [List.length_append, List.length_append, h.fok.len]
    rfl
  · have e1 : (w.ρ ++ [a])[n]? = some b := e1
    have e2 : (s.st ++ [c])[n]? = some c' := e2
    by_cases hn : n < w.ρ.length
    · rw [List.getElem?_append_left hn] at e1
      rw [List.getElem?_append_left (by rw [← h.fok.len]; exact hn)] at e2
      exact (h.fok.cel n b c' e1 e2).mono le rfl
    · rw [List.getElem?_append_right (by omega)] at e1
      rw [List.getElem?_append_right (by rw [← h.fok.len]; omega), ← h.fok.len] at e2
      cases z : n - w.ρ.length with
      | zero =>
        rw [z] at e1 e2
        cases e1
        cases e2
        exact hc.mono le rfl
      | succ k => rw [z] at e1; cases e1
  · show (w.ρ ++ [a]).Nodup
    rw [List.nodup_append]
    exact ⟨h.fok.nd, by simp, fun x hx y hy e => by
      rw [List.mem_singleton] at hy
      subst hy
      subst e
      exact h4 hx⟩
  · rcases List.mem_append.mp hb with hb | hb
    · exact h.fok.nf b hb
    · rw [List.mem_singleton.mp hb]
      exact h3
  · rcases List.mem_append.mp hb with hb | hb
    · exact h.nx.newR b hb
    · rw [List.mem_singleton.mp hb]
      exact .inr h5
  · obtain ⟨v, h1, h2⟩ := h.val i d e
    exact ⟨v, h1, h2.mono le⟩
  · obtain ⟨b, q1, q2, q3, q4, q5⟩ := h.own i x e o'
    refine ⟨b, q1, q2.mono le rfl, q3, fun hb => ?_, q5⟩
    rcases List.mem_append.mp hb with hb | hb
    · exact q4 hb
    · exact h6 i x e o' (by rw [q1, List.mem_singleton.mp hb])
  · obtain ⟨q1, q2, q3, q4⟩ := h.gam p (List.mem_cons_of_mem _ hp)
    refine ⟨q1, q2, fun hb => ?_, q4⟩
    rcases List.mem_append.mp hb with hb | hb
    · exact q3 hb
    · exact hγ p hp (List.mem_singleton.mp hb)
def eCellD (f : DD) : DE := fun s => (f s).bind fun xs s1 => .ok (.cell s1.st.length) ⟨s1.sl, s1.st ++ [.dic xs]⟩
theorem pdod_cell {e : Expr} {f : DD} (h : PDod G W X e f) : PD G W X e (eCellD f) := h.imp fun σ H Q ⟨κ, w, s, ok, q⟩ => ⟨κ, w, s, ok, by
  unfold eCellD at q
  cases e : f s with
  | stuck => rw [e] at q; exact q.elim
  | exc x s' => rw [e] at q; exact q
  | ok xs s' =>
    rw [e] at q
    intro w' a vs H' l o g r
    obtain ⟨le, ok'⟩ := o.store (c := .dic xs) g ⟨vs, (o.gam (a, .dK vs) List.mem_cons_self).1, r⟩
    refine q _ _ H' (l.trans le) ok' (.cell ?_)
    show (w'.ρ ++ [a])[s'.st.length]? = some a
    rw [← o.fok.len]
    simp⟩
/-! ### == and != of data -/
mutual
def toPy : D → Option PyData
  | .non => some .none
  | .bl b => some (.bool b)
  | .int i => some (.int i)
  | .str l => some (.str (nm l))
  | .tup xs => (toPys xs).map .tuple
  | .lst xs => (toPys xs).map .list
  | .scr xs => (toPys xs).map .list
  | _ => none
def toPys : List D → Option (List PyData)
  | [] => some []
  | d :: r => (toPy d).bind fun p => (toPys r).map fun q => p :: q
end
mutual
theorem Rep.py (hK : G.K = X.K) {κ : Bs} {w : Wd} {s : DS} {σ : L2.St} {H : Hp} (ok : Ok G κ w s σ H) : ∀ {v : V} {d : D} {p : PyData}, Rep G w v d → toPy d = some p → Dp X.K H v p
  | _, _, _, .non, e => by cases e; exact .non
  | _, _, _, .bl b, e => by cases e; exact .bl b
  | _, _, _, .int b, e => by cases e; exact .int b
  | _, _, _, .str b, e => by cases e; exact .str _
  | _, _, _, .tup (ds := ds) a r, e => by
    cases q : toPys ds with
    | none => simp [toPy, q] at e
    | some ps =>
      simp only [toPy, q, Option.map_some, Option.some.injEq] at e
      subst e
      exact .tup (hK ▸ SqT.le a ok.fok.sub) (Reps.py hK ok r q)
  | _, _, _, .lst (ds := ds) a r, e => by
    cases q : toPys ds with
    | none => simp [toPy, q] at e
    | some ps =>
      simp only [toPy, q, Option.map_some, Option.some.injEq] at e
      subst e
      exact .lst (.inl (.inl (ok.fok.sub _ _ a))) (Reps.py hK ok r q)
  | _, _, _, .scr (ds := ds) a r, e => by
    cases q : toPys ds with
    | none => simp [toPy, q] at e
    | some ps =>
      simp only [toPy, q, Option.map_some, Option.some.injEq] at e
      subst e
      exact .lst (hK ▸ SqL.le a ok.fok.sub) (Reps.py hK ok r q)
  | _, _, _, .dic _ _, e => by simp [toPy] at e
  | _, _, _, .ins _ _ _, e => by simp [toPy] at e
  | _, _, _, .cell _, e => by simp [toPy] at e
  | _, _, _, .cls _, e => by simp [toPy] at e
  | _, _, _, .ty _, e => by simp [toPy] at e
  | _, _, _, .fn _, e => by simp [toPy] at e
theorem Reps.py (hK : G.K = X.K) {κ : Bs} {w : Wd} {s : DS} {σ : L2.St} {H : Hp} (ok : Ok G κ w s σ H) : ∀ {v : List V} {d : List D} {p : List PyData}, Reps G w v d → toPys d = some p → DpAll X.K H v p
  | _, _, _, .nil, e => by simp [toPys] at e; subst e; exact .nil
  | _, _, _, .cons (d := d) (ds := ds) a r, e => by
    cases q1 : toPy d with
    | none => simp [toPys, q1] at e
    | some p =>
      cases q2 : toPys ds with
      | none => simp [toPys, q1, q2] at e
      | some ps =>
        simp only [toPys, q1, q2, Option.bind_some, Option.map_some, Option.some.injEq] at e
        subst e
        exact .cons (Rep.py hK ok a q1) (Reps.py hK ok r q2)
end
def dEq : D → D → Option D := fun x y => match toPy x, toPy y with
  | some p, some q => if SeqAt.shaped p && SeqAt.shaped q then some (.bl (PyData.eqv p q)) else none
  | _, _ => none
def dNe : D → D → Option D := fun x y => match toPy x, toPy y with
  | some p, some q => if SeqAt.shaped p && SeqAt.shaped q then some (.bl (!PyData.eqv p q)) else none
  | _, _ => none
theorem opd_eq (hK : G.K = X.K) (hu : X.A.units + 64 < cLine) : OpD G X (compareOp .Eq) dEq := ⟨_, op_eqD hu, fun κ w s σ H x y dx dy d Q ok rx ry e q => by
  unfold dEq at e
  cases e1 : toPy dx with
  | none => simp [e1] at e
  | some p =>
    cases e2 : toPy dy with
    | none => simp [e1, e2] at e
    | some p' =>
      simp only [e1, e2] at e
      split at e
      · rename_i c
        cases e
        rw [Bool.and_eq_true] at c
        exact ⟨p, p', rx.py hK ok e1, ry.py hK ok e2, c.1, c.2, q w _ H (.refl _) ok (.bl _)⟩
      · cases e⟩
theorem opd_ne (hK : G.K = X.K) (hu : X.A.units + 64 < cLine) : OpD G X (compareOp .NotEq) dNe := ⟨_, op_neD hu, fun κ w s σ H x y dx dy d Q ok rx ry e q => by
  unfold dNe at e
  cases e1 : toPy dx with
  | none => simp [e1] at e
  | some p =>
    cases e2 : toPy dy with
    | none => simp [e1, e2] at e
    | some p' =>
      simp only [e1, e2] at e
      split at e
      · rename_i c
        cases e
        rw [Bool.and_eq_true] at c
        exact ⟨p, p', rx.py hK ok e1, ry.py hK ok e2, c.1, c.2, q w _ H (.refl _) ok (.bl _)⟩
      · cases e⟩
/-- is None -/
def isNonD : D → Bool
  | .non => true
  | _ => false
def dIsN : D → D → Option D := fun x y => match y with
  | .non => some (.bl (isNonD x))
  | _ => none
def dNotN : D → D → Option D := fun x y => match y with
  | .non => some (.bl (!isNonD x))
  | _ => none
theorem Rep.non_iff {w : Wd} {v : V} {d : D} (r : Rep G w v d) : decide (v = .non) = isNonD d := by
  cases r <;> simp [isNonD]
theorem opd_isN : OpD G X (compareOp .Is) dIsN := ⟨_, op_isN, fun κ w s σ H x y dx dy d Q ok rx ry e q => by
  cases ry with
  | non =>
    cases e
    refine ⟨rfl, ?_⟩
    rw [rx.non_iff]
    exact q w _ H (.refl _) ok (.bl _)
  | _ => exact nomatch e⟩
theorem opd_notN : OpD G X (compareOp .IsNot) dNotN := ⟨_, op_notN, fun κ w s σ H x y dx dy d Q ok rx ry e q => by
  cases ry with
  | non =>
    cases e
    refine ⟨rfl, ?_⟩
    rw [rx.non_iff]
    exact q w _ H (.refl _) ok (.bl _)
  | _ => exact nomatch e⟩
/-! ### operators of own classes -/
def ownO (c : String) (g : DFn) : DO2 := fun x y s => match insOf x s, insOf y s with
  | some (c1, _), some (c2, _) => if c1 = c ∧ c2 = c then lift s (g [x, y] s.st) else .stuck
  | _, _ => .stuck
theorem ep_back {pins : List (Addr × Obj)} {σ : L2.St} {Q : VK} {v : Value} {s' : Shared} (h : EP X pins σ Q v s') : PySem.W.CmpBack (EP X pins σ Q) v s' := by
  obtain ⟨x, H, I, r, q⟩ := id h
  cases v <;> first
    | exact h
    | (have := r.abs; cases this)
theorem ownO_of {c : String} {g : DFn} {κ : Bs} {w : Wd} {s : DS} {σ : L2.St} {H : Hp} {x y : V} {dx dy : D} {Q : VK} (ok : Ok G κ w s σ H) (rx : Rep G w x dx) (ry : Rep G w y dy) (q : PostG G W (Rep G) κ w σ (ownO c g dx dy s) Q) :
    ∃ a b C dxa dxb fa fb, x = .ref a ∧ y = .ref b ∧ G.ct c = some C ∧ H a = some (.ins C dxa fa) ∧ H b = some (.ins C dxb fb) ∧ PostG G W (Rep G) κ w σ (lift s (g [dx, dy] s.st)) Q := by
  unfold ownO at q
  cases e1 : insOf dx s with
  | none => rw [e1] at q; exact q.elim
  | some p =>
    cases e2 : insOf dy s with
    | none => rw [e1, e2] at q; exact q.elim
    | some p' =>
      obtain ⟨c1, f1⟩ := p
      obtain ⟨c2, f2⟩ := p'
      rw [e1, e2] at q
      replace q : PostG G W (Rep G) κ w σ (if c1 = c ∧ c2 = c then lift s (g [dx, dy] s.st) else .stuck) Q := q
      split at q
      · rename_i h
        obtain ⟨rfl, rfl⟩ := h
        obtain ⟨a, C, dxa, vs, ev, hC, hH, _⟩ := rx.ins_of ok e1
        obtain ⟨b, C', dxb, vs', ev', hC', hH', _⟩ := ry.ins_of ok e2
        rw [hC] at hC'
        cases hC'
        exact ⟨a, b, C, dxa, dxb, vs, vs', ev, ev', hC, hH, hH', q⟩
      · exact q.elim
theorem opx_own {op : Operator} {mname : Str} {c : String} {C f : Addr} {k : Nat} {fd : FuncData} {ps : List Str} {g : DFn} (hm' : PySem.dunder op.info.2 = mname) (hC : G.ct c = some C) (hs : PySem.W.findIn X.K (.ref C) mname = some (some (.ref f))) (hf : PySem.W.isFn X.K (.ref f) = true) (hc : PySem.W.selfFirst X.K C = true)
    (F : FnOk X.prog X.w X.K X.mg X.base (L2.CX X.prog X.w) k f fd ps (spG G 2 g)) (hr : Room k X.A) (hb : Binds X.K fd ps []) (tk : Takes X W) : OpX G W X (binaryOp op) (ownO c g) := by
  subst hm'
  intro pins sh σ H x y v u κ w s dx dy Q I rx ry ok rdx rdy q
  obtain ⟨a, b, C', dxa, dxb, fa, fb, rfl, rfl, hC', hH, hH', q⟩ := ownO_of ok rdx rdy q
  rw [hC] at hC'
  cases hC'
  cases rx
  cases ry
  obtain ⟨mA, J, _⟩ := ins_get I.hok hH
  obtain ⟨mB, J', _⟩ := ins_get I.hok hH'
  obtain ⟨od, J, _⟩ := J.look
  obtain ⟨od', J', _⟩ := J'.look
  obtain ⟨m, hF⟩ := I.fr
  refine PySem.W.binop_K hF I.ok.mod.kin J J'.type hc hs hf ?_
  exact thn (callD (us := [.ref a, .ref b]) (vs := [.ref a, .ref b]) (ds := [dx, dy]) F hr hb tk I ok (.cons rdx (.cons rdy .nil)) (.cons rfl (.cons rfl .nil)) rfl q) fun v s' h => ep_back h
theorem opx_ownEq {c : String} {C f : Addr} {k : Nat} {fd : FuncData} {ps : List Str} {g : DFn} (hC : G.ct c = some C) (hs : PySem.W.findIn X.K (.ref C) "__eq__" = some (some (.ref f))) (hf : PySem.W.isFn X.K (.ref f) = true)
    (F : FnOk X.prog X.w X.K X.mg X.base (L2.CX X.prog X.w) k f fd ps (spG G 2 g)) (hr : Room k X.A) (hb : Binds X.K fd ps []) (tk : Takes X W) : OpX G W X (compareOp .Eq) (ownO c g) := by
  intro pins sh σ H x y v u κ w s dx dy Q I rx ry ok rdx rdy q
  obtain ⟨a, b, C', dxa, dxb, fa, fb, rfl, rfl, hC', hH, hH', q⟩ := ownO_of ok rdx rdy q
  rw [hC] at hC'
  cases hC'
  cases rx
  cases ry
  obtain ⟨mA, J, _⟩ := ins_get I.hok hH
  obtain ⟨mB, J', _⟩ := ins_get I.hok hH'
  obtain ⟨od, J, _⟩ := J.look
  obtain ⟨od', J', _⟩ := J'.look
  obtain ⟨m, hF⟩ := I.fr
  show wpAny (model X.prog X.w) X.A (richCompare .Eq (.ref a) (.ref b)) _ _ _
  refine PySem.W.cmp_K (op := .Eq) (tb := .ref C) hr.units0 hF I.ok.mod.kin J J'.type (by simp [PySem.W.notFirst]) hs hf ?_
  exact thn (callD (us := [.ref a, .ref b]) (vs := [.ref a, .ref b]) (ds := [dx, dy]) F hr hb tk I ok (.cons rdx (.cons rdy .nil)) (.cons rfl (.cons rfl .nil)) rfl q) fun v s' h => ep_back h
/-- ~x of an own class -/
def eInv (c : String) (g : DFn) (f : DE) : DE := fun s => (f s).bind fun d s1 => match insOf d s1 with
  | some (c1, _) => if c1 = c then lift s1 (g [d] s1.st) else .stuck
  | none => .stuck
theorem pd_inv {c : String} {C f : Addr} {k : Nat} {fd : FuncData} {ps : List Str} {g : DFn} {e : Expr} {fe : DE} {pos : Pos} (hC : G.ct c = some C) (hs : PySem.W.findIn X.K (.ref C) "__invert__" = some (some (.ref f))) (hf : PySem.W.isFn X.K (.ref f) = true)
    (F : FnOk X.prog X.w X.K X.mg X.base (L2.CX X.prog X.w) k f fd ps (spG G 1 g)) (hr : Room k X.A) (hb : Binds X.K fd ps []) (tk : Takes X W) (he : PD G W X e fe) : PD G W X (.UnaryOp .Invert e pos) (eInv c g fe) := by
  refine ⟨fun pins sh σ H Q I h => ?_⟩
  obtain ⟨κ, w, s, ok, q⟩ := h
  have hh : tD G W fe σ H fun v H1 => ∃ d s1 w1, w.le w1 ∧ Ok G κ w1 s1 σ H1 ∧ Rep G w1 v d ∧ PostG G W (Rep G) κ w1 σ (match insOf d s1 with
    | some (c1, _) => if c1 = c then lift s1 (g [d] s1.st) else .stuck
    | none => .stuck) Q := ⟨κ, w, s, ok, PostG.bind q⟩
  refine UnaryOp_ (thn (he.run pins sh σ H _ I hh) fun u s1 ⟨x, H1, I1, rx, d, t1, w1, le, ok1, r1, q1⟩ => ?_)
  cases e1 : insOf d t1 with
  | none => rw [e1] at q1; exact q1.elim
  | some p =>
    obtain ⟨c1, fs⟩ := p
    rw [e1] at q1
    replace q1 : PostG G W (Rep G) κ w1 σ (if c1 = c then lift t1 (g [d] t1.st) else .stuck) Q := q1
    split at q1
    · rename_i hc
      subst hc
      obtain ⟨a, C', dx, vs, ev, hC', hH, rf⟩ := r1.ins_of ok1 e1
      rw [hC] at hC'
      cases hC'
      subst ev
      obtain rfl : u = Value.ref a := rx
      obtain ⟨mA, J, _⟩ := ins_get I1.hok hH
      obtain ⟨od, J, _⟩ := J.look
      obtain ⟨m, hF⟩ := I1.fr
      exact PySem.W.ksp_inv hF I1.ok.mod.kin J hs hf (callD (us := [.ref a]) (vs := [.ref a]) (ds := [d]) F hr hb tk I1 ok1 (.cons r1 .nil) (.cons rfl .nil) rfl q1)
    · exact q1.elim
end
end DL
set_option maxRecDepth 100000
set_option maxHeartbeats 4000000
set_option autoImplicit false
namespace DL
open PySem PySem.Spec PyProof.Rows L2 RZ
section
variable {G : Gam} {W : WX} {X : Cx}
/-! ### list comprehensions -/
abbrev WF : WX := fun _ _ _ _ => False
def wipeD (vs : List Nat) (l : List Sl) : List Sl := match vs with
  | [] => l
  | v :: vs => (wipeD vs l).set v .un
def wipeS (vs : List Nat) (s : DS) : DS := ⟨wipeD vs s.sl, s.st⟩
theorem wipeD_length (l : List Sl) : ∀ vs : List Nat, (wipeD vs l).length = l.length
  | [] => rfl
  | v :: vs => by unfold wipeD; rw [List.length_set, wipeD_length l vs]
theorem wipeD_in {l : List Sl} {i : Nat} {x : Sl} : ∀ {vs : List Nat}, (wipeD vs l)[i]? = some x → (i ∈ vs ∧ x = .un) ∨ (i ∉ vs ∧ l[i]? = some x)
  | [], h => .inr ⟨by simp, h⟩
  | v :: vs, h => by
    unfold wipeD at h
    by_cases hi : v = i
    · subst hi
      by_cases hv : v < (wipeD vs l).length
      · rw [List.getElem?_set_self hv] at h
        cases h
        exact .inl ⟨List.mem_cons_self, rfl⟩
      · rw [List.getElem?_eq_none (by simpa using hv)] at h; cases h
    · rw [List.getElem?_set_ne hi] at h
      rcases wipeD_in h with ⟨h1, h2⟩ | ⟨h1, h2⟩
      · exact .inl ⟨List.mem_cons_of_mem _ h1, h2⟩
      · exact .inr ⟨by simp only [List.mem_cons, not_or]; exact ⟨fun e => hi e.symm, h1⟩, h2⟩
theorem wipe_out' {σ : L2.St} {i : Nat} : ∀ {vs : List Nat}, i ∉ vs → (L2.wipe σ vs)[i]? = σ[i]?
  | [], _ => rfl
  | v :: vs, h => by
    unfold L2.wipe
    rw [List.getElem?_set_ne (fun e => h (by rw [e]; exact List.mem_cons_self)), wipe_out' fun z => h (List.mem_cons_of_mem _ z)]
theorem Ok.wipe {κ : Bs} {w : Wd} {s : DS} {σ : L2.St} {H : Hp} (h : Ok G κ w s σ H) (vs : List Nat) : Ok G κ w (wipeS vs s) (L2.wipe σ vs) H := by
  refine ⟨h.fok, h.nx, by rw [wipe_length]; exact (wipeD_length _ _).trans h.len, fun i d e => ?_, fun i x e o => ?_, fun i j x y a e1 e2 o1 o2 h1 h2 => ?_, fun p hp => ?_, fun a ha c fs e => ?_⟩
  · rcases wipeD_in e with ⟨_, z⟩ | ⟨z, e⟩
    · cases z
    · rw [wipe_out' z]; exact h.val i d e
  · rcases wipeD_in e with ⟨_, z⟩ | ⟨z, e⟩
    · subst z; cases o
    · rw [wipe_out' z]; exact h.own i x e o
  · rcases wipeD_in e1 with ⟨_, z⟩ | ⟨z, e1⟩
    · subst z; cases o1
    · rcases wipeD_in e2 with ⟨_, z'⟩ | ⟨z', e2⟩
      · subst z'; cases o2
      · rw [wipe_out' z] at h1
        rw [wipe_out' z'] at h2
        exact h.ne i j x y a e1 e2 o1 o2 h1 h2
  · obtain ⟨q1, q2, q3, q4, q5⟩ := h.gam p hp
    refine ⟨q1, q2, q3, q4, fun i x e o => ?_⟩
    rcases wipeD_in e with ⟨_, z⟩ | ⟨z, e⟩
    · subst z; cases o
    · rw [wipe_out' z]; exact q5 i x e o
  · rcases wipeD_in e with ⟨_, z⟩ | ⟨z, e⟩
    · cases z
    · rw [wipe_out' z]; exact h.me a ha c fs e
/-- the slots behind the block: the block's own names as they were -/
def unwipe (vs : List Nat) (old new : List Sl) : List Sl := match vs with
  | [] => new
  | v :: vs => (unwipe vs old new).set v (match old[v]? with | some (.val d) => .val d | _ => .un)
theorem unwipe_length (l l' : List Sl) : ∀ vs : List Nat, (unwipe vs l l').length = l'.length
  | [] => rfl
  | v :: vs => by unfold unwipe; rw [List.length_set, unwipe_length l l' vs]
theorem unwipe_in {l l' : List Sl} {i : Nat} {x : Sl} : ∀ {vs : List Nat}, (unwipe vs l l')[i]? = some x → (i ∈ vs ∧ (x = .un ∨ ∃ d, x = .val d ∧ l[i]? = some x)) ∨ (i ∉ vs ∧ l'[i]? = some x)
  | [], h => .inr ⟨by simp, h⟩
  | v :: vs, h => by
    unfold unwipe at h
    by_cases hi : v = i
    · subst hi
      by_cases hv : v < (unwipe vs l l').length
      · rw [List.getElem?_set_self hv] at h
        refine .inl ⟨List.mem_cons_self, ?_⟩
        cases e : l[v]? with
        | none => rw [e] at h; cases h; exact .inl rfl
        | some y =>
          rw [e] at h
          cases y with
          | val d => cases h; exact .inr ⟨d, rfl, rfl⟩
          | _ => cases h; exact .inl rfl
      · rw [List.getElem?_eq_none (by simpa using hv)] at h; cases h
    · rw [List.getElem?_set_ne hi] at h
      rcases unwipe_in h with ⟨h1, h2⟩ | ⟨h1, h2⟩
      · exact .inl ⟨List.mem_cons_of_mem _ h1, h2⟩
      · exact .inr ⟨by simp only [List.mem_cons, not_or]; exact ⟨fun e => hi e.symm, h1⟩, h2⟩
theorem Ok.unwipe {κ κ' : Bs} {w w1 : Wd} {s s1 : DS} {σ : L2.St} {H H1 : Hp} {vs : List Nat} (h1 : Ok G κ' w1 s1 σ H1) (le : w1.le w) (h : Ok G κ w s (L2.wipe σ vs) H) (hme : κ.me = κ'.me) : Ok G κ w ⟨DL.unwipe vs s1.sl s.sl, s.st⟩ σ H := by
  refine ⟨h.fok, h.nx, ?_, fun i d e => ?_, fun i x e o => ?_, fun i j x y a e1 e2 o1 o2 q1 q2 => ?_, fun p hp => ?_, fun a ha c fs e => ?_⟩
  · show (DL.unwipe vs s1.sl s.sl).length = σ.length
    rw [unwipe_length, h.len, wipe_length]
  · rcases unwipe_in e with ⟨_, z | ⟨d', z, e⟩⟩ | ⟨z, e⟩
    · cases z
    · obtain ⟨v, q1, q2⟩ := h1.val i d e
      exact ⟨v, q1, q2.mono le⟩
    · obtain ⟨v, q1, q2⟩ := h.val i d e
      exact ⟨v, by rw [wipe_out' z] at q1; exact q1, q2⟩
  · rcases unwipe_in e with ⟨_, z | ⟨d', z, e⟩⟩ | ⟨z, e⟩
    · subst z; cases o
    · subst z; cases o
    · have := h.own i x e o
      rwa [wipe_out' z] at this
  · rcases unwipe_in e1 with ⟨_, z | ⟨d', z, e1⟩⟩ | ⟨z, e1⟩
    · subst z; cases o1
    · subst z; cases o1
    · rcases unwipe_in e2 with ⟨_, z' | ⟨d', z', e2⟩⟩ | ⟨z', e2⟩
      · subst z'; cases o2
      · subst z'; cases o2
      · exact h.ne i j x y a e1 e2 o1 o2 (by rw [wipe_out' z]; exact q1) (by rw [wipe_out' z']; exact q2)
  · obtain ⟨q1, q2, q3, q4, q5⟩ := h.gam p hp
    refine ⟨q1, q2, q3, q4, fun i x e o => ?_⟩
    rcases unwipe_in e with ⟨_, z | ⟨d', z, e⟩⟩ | ⟨z, e⟩
    · subst z; cases o
    · subst z; cases o
    · have := q5 i x e o
      rwa [wipe_out' z] at this
  · rcases unwipe_in e with ⟨_, z | ⟨d', z, e⟩⟩ | ⟨z, e⟩
    · cases z
    · cases z
    · have := h.me a ha c fs e
      rwa [wipe_out' z] at this
def lcL (vs : List Nat) (g : DG) (t : DT) (e : DE) : List D → List D → DS → Res DS (List D)
  | [], acc, s => .ok acc s
  | d :: r, acc, s => (noX (g d (wipeS vs s))).bind fun _ s1 => (noX (t s1)).bind fun b s2 => if b = true then (noX (e s2)).bind fun y s3 => if acc.length < 1000000 then lcL vs g t e r (acc ++ [y]) s3 else .stuck
    else lcL vs g t e r acc s2
def aLc (vs : List Nat) (it : DA) (g : DG) (t : DT) (e : DE) : DA := fun s => (it s).bind fun items s1 => (noX (lcL vs g t e items [] s1)).bind fun ys s2 => .ok ys ⟨unwipe vs s1.sl (wipeD vs s2.sl), s2.st⟩
def bYes : DT := fun s => .ok true s
theorem ptds_nil : PTs X [] (tDT G W bYes) := ⟨fun pins s σ H Q I ⟨κ, w, d, ok, q⟩ => pts_nil.run pins s σ H Q I (q w true H (.refl _) ok rfl)⟩
theorem ptds_one {c : Expr} {t : DT} (h : PDT G W X c t) : PTs X [c] (tDT G W t) := pts_one h
theorem wipe_same {σ σ2 : L2.St} {vs is : List Nat} (hl : σ2.length = (L2.wipe σ vs).length) (h : ∀ i : Nat, i ∉ is → σ2[i]? = (L2.wipe σ vs)[i]?) (hs : ∀ i ∈ is, i ∈ vs) : L2.wipe σ2 vs = L2.wipe σ vs := by
  have at_ : ∀ (τ : L2.St) (i : Nat), i ∈ vs → (L2.wipe τ vs)[i]? = if i < τ.length then some none else none := by
    intro τ i hi
    clear h hs hl
    induction vs with
    | nil => simp at hi
    | cons v r ih =>
      unfold L2.wipe
      by_cases e : v = i
      · subst e
        by_cases c : v < τ.length
        · rw [List.getElem?_set_self (by rw [wipe_length]; exact c), if_pos c]
        · rw [if_neg c, List.getElem?_eq_none (by rw [List.length_set, wipe_length]; omega)]
      · rw [List.getElem?_set_ne e]
        exact ih (by rcases List.mem_cons.mp hi with z | z; exact absurd z.symm e; exact z)
  have hl2 : σ2.length = σ.length := by rw [hl, wipe_length]
  apply List.ext_getElem?
  intro i
  by_cases hi : i ∈ vs
  · rw [at_ σ2 i hi, at_ σ i hi, hl2]
  · rw [wipe_out' hi]
    exact h i fun z => hi (hs i z)
theorem lc_of {vs is : List Nat} (hs : ∀ i ∈ is, i ∈ vs) {κ : Bs} {w : Wd} {J : It} {g : DG} {t : DT} {e : DE} {items : List D} (hJ : ItOk G w J items) {s0 : DS} {σ : L2.St} {H1 : Hp} {Q : VK} (ok : Ok G κ w s0 σ H1) {Dp : Addr} (hD : H1 Dp = none)
    (q : match noX (lcL vs g t e items [] s0) with
      | .ok ys s2 => ∀ w2 acc H2, w.le w2 → Ok G (κ.plus Dp (.lst acc)) w2 (wipeS vs s2) (L2.wipe σ vs) H2 → Reps G w2 acc ys → Q (.ref Dp) H2
      | _ => False) :
    ∃ Wv : Nat → Nat → Hp → Prop, (∃ m, Wv 0 m (upd H1 Dp (.lst []))) ∧ ∀ i m H, Wv i m H →
      (J.stop i H ∧ Q (.ref Dp) H) ∨ (J.go i H ∧ ∃ Nx : Hp → Prop, (∀ H', Nx H' → ∃ m', m' < m ∧ Wv (i + 1) m' H') ∧ ∀ x H', J.yld i H x H' → tDG G is g x (L2.wipe σ vs) H' fun σ2 H2 => L2.wipe σ2 vs = L2.wipe σ vs ∧ tDT G WF t σ2 H2 fun b H3 =>
        if b = true then tD G WF e σ2 H3 fun y H4 => ∃ acc, H4 Dp = some (.lst acc) ∧ acc.length < sizeLine ∧ Nx (upd H4 Dp (.lst (acc ++ [y]))) else Nx H3) := by
  have hγ := ok.apart hD
  -- a state of the loop: slots wiped
  refine ⟨fun i m H => ∃ w' s' acc accD, w.le w' ∧ Ok G (κ.plus Dp (.lst acc)) w' (wipeS vs s') (L2.wipe σ vs) H ∧ Reps G w' acc accD ∧ (items.drop i).length = m ∧
    (match noX (lcL vs g t e (items.drop i) accD s') with
      | .ok ys s2 => ∀ w2 acc H2, w'.le w2 → Ok G (κ.plus Dp (.lst acc)) w2 (wipeS vs s2) (L2.wipe σ vs) H2 → Reps G w2 acc ys → Q (.ref Dp) H2
      | _ => False), ⟨items.length, w, s0, [], [], .refl _, (ok.fresh hD _).wipe vs, .nil, by simp, ?_⟩, ?_⟩
  · rw [List.drop_zero]
    exact q
  · rintro i m H ⟨w', s', acc, accD, le', ok', ra, hm, q'⟩
    cases ed : items.drop i with
    | nil =>
      rw [ed] at q'
      have hn : items[i]? = none := by
        have := congrArg (fun l => l[0]?) ed
        simpa using this
      exact .inl ⟨(hJ w' _ H le' ok'.fok i).2 hn, q' w' acc H (.refl _) ok' ra⟩
    | cons d r =>
      rw [ed] at q' hm
      obtain ⟨h1, h2⟩ := drop_get ed
      obtain ⟨go, yl⟩ := (hJ w' _ H le' ok'.fok i).1 d h1
      refine .inr ⟨go, fun H2 => ∃ w2 s2 acc accD, w.le w2 ∧ Ok G (κ.plus Dp (.lst acc)) w2 (wipeS vs s2) (L2.wipe σ vs) H2 ∧ Reps G w2 acc accD ∧
        (match noX (lcL vs g t e r accD s2) with
          | .ok ys s3 => ∀ w3 acc H3, w2.le w3 → Ok G (κ.plus Dp (.lst acc)) w3 (wipeS vs s3) (L2.wipe σ vs) H3 → Reps G w3 acc ys → Q (.ref Dp) H3
          | _ => False), fun H2 ⟨w2, s2, acc2, accD2, l2, o2, r2, q2⟩ => ?_, fun x H' hy => ?_⟩
      · exact ⟨r.length, by rw [← hm]; exact Nat.lt_succ_self _, w2, s2, acc2, accD2, l2, o2, r2, by rw [h2], by rw [h2]; exact q2⟩
      · obtain ⟨w2, nx, fok, rx⟩ := yl x H' hy
        have ok2 : Ok G (κ.plus Dp (.lst acc)) w2 (wipeS vs s') (L2.wipe σ vs) H' := ok'.step nx fok
        refine ⟨κ.plus Dp (.lst acc), w2, wipeS vs s', d, ok2, rx, PostT.ofNoX ?_⟩
        unfold lcL at q'
        cases e1 : noX (g d (wipeS vs s')) with
        | stuck => rw [e1] at q'; exact q'.elim
        | exc x s => exact absurd e1 (noX_exc _ _ _)
        | ok u s1 =>
          rw [e1] at q'
          rw [Res.bind_ok] at q'
          intro w3 σ3 H3 l3 o3 hσ
          have hw : L2.wipe σ3 vs = L2.wipe σ vs := wipe_same hσ.1 hσ.2 hs
          refine ⟨hw, κ.plus Dp (.lst acc), w3, s1, o3, ?_⟩
          cases e2 : t s1 with
          | stuck => rw [e2] at q'; exact q'.elim
          | exc x s => rw [e2] at q'; exact q'.elim
          | ok b s2 =>
            rw [e2] at q'
            intro w4 b' H4 l4 o4 eb
            subst eb
            have lw : w'.le w4 := (nx.le.trans l3).trans l4
            cases b' with
            | false =>
              rw [if_neg (fun z => nomatch z)]
              refine ⟨w4, s2, acc, accD, le'.trans lw, by rw [← hw]; exact o4.wipe vs, ra.mono lw, ?_⟩
              replace q' : (match noX (lcL vs g t e r accD s2) with
                | .ok ys s3 => ∀ w3 acc H3, w'.le w3 → Ok G (κ.plus Dp (.lst acc)) w3 (wipeS vs s3) (L2.wipe σ vs) H3 → Reps G w3 acc ys → Q (.ref Dp) H3
                | _ => False) := q'
              cases e3 : noX (lcL vs g t e r accD s2) with
              | stuck => rw [e3] at q'; exact q'.elim
              | exc x s => rw [e3] at q'; exact q'.elim
              | ok ys s3 => rw [e3] at q'; exact fun w5 acc5 H5 l5 o5 r5 => q' w5 acc5 H5 (lw.trans l5) o5 r5
            | true =>
              rw [if_pos rfl]
              refine ⟨κ.plus Dp (.lst acc), w4, s2, o4, ?_⟩
              replace q' : (match noX ((noX (e s2)).bind fun y s3 => if accD.length < 1000000 then lcL vs g t e r (accD ++ [y]) s3 else .stuck) with
                | .ok ys s3 => ∀ w3 acc H3, w'.le w3 → Ok G (κ.plus Dp (.lst acc)) w3 (wipeS vs s3) (L2.wipe σ vs) H3 → Reps G w3 acc ys → Q (.ref Dp) H3
                | _ => False) := q'
              cases e3 : e s2 with
              | stuck => rw [e3] at q'; exact q'.elim
              | exc x s => rw [e3] at q'; exact q'.elim
              | ok y s3 =>
                rw [e3] at q'
                intro w5 v5 H5 l5 o5 r5
                replace q' : (match noX (if accD.length < 1000000 then lcL vs g t e r (accD ++ [y]) s3 else .stuck) with
                  | .ok ys s3 => ∀ w3 acc H3, w'.le w3 → Ok G (κ.plus Dp (.lst acc)) w3 (wipeS vs s3) (L2.wipe σ vs) H3 → Reps G w3 acc ys → Q (.ref Dp) H3
                  | _ => False) := q'
                by_cases c : accD.length < 1000000
                · rw [if_pos c] at q'
                  refine ⟨acc, (o5.gam (Dp, .lst acc) List.mem_cons_self).1, by rw [ra.length, sizeLine_eq]; omega, w5, s3, acc ++ [v5], accD ++ [y], le'.trans (lw.trans l5), ?_, ((ra.mono lw).mono l5).append (.cons r5 .nil), ?_⟩
                  · rw [← hw]
                    exact (o5.swap hγ).wipe vs
                  · cases e4 : noX (lcL vs g t e r (accD ++ [y]) s3) with
                    | stuck => rw [e4] at q'; exact q'.elim
                    | exc x s => rw [e4] at q'; exact q'.elim
                    | ok ys s4 => rw [e4] at q'; exact fun w6 acc6 H6 l6 o6 r6 => q' w6 acc6 H6 ((lw.trans l5).trans l6) o6 r6
                · rw [if_neg c] at q'
                  exact q'.elim
theorem pdo_lc {elt tg iter : Expr} {ifs : List Expr} {scope : Scope} {own : List (Str × Nat)} {is : List Nat} {pos : Pos} {it : DA} {g : DG} {t : DT} {e : DE} (hc : X.calm = true) (hN : X.N.Nodup) (hi : PDI G W X tg iter it) (ok : BlkOk X.N X.env.scope scope own) (hs' : ∀ i ∈ is, i ∈ own.map (·.2))
    (hg : ∀ (s : Shared) (H : Hp) (C : Addr) (cl : List (Str × Addr)) (fp : List Addr), PDG G (X.blk s H scope (compEnvC scope cl C X.env) fp) tg is g) (ht : ∀ (s : Shared) (H : Hp) (C : Addr) (cl : List (Str × Addr)) (fp : List Addr), PTs (X.blk s H scope (compEnvC scope cl C X.env) fp) ifs (tDT G WF t))
    (he : ∀ (s : Shared) (H : Hp) (C : Addr) (cl : List (Str × Addr)) (fp : List Addr), PD G WF (X.blk s H scope (compEnvC scope cl C X.env) fp) elt e) (hs : ∀ x, foldedSetIterable iter X.env x = pure x := by intro _; rfl) :
    PDo G W X (.ListComp elt [⟨tg, iter, ifs, 0⟩] scope pos) (aLc (own.map (·.2)) it g t e) :=
  (pe_lc hc hN hi ok hg ht he hs).imp fun σ H Q h => lc_fin hs' h
where
  lc_fin {vs is : List Nat} (hs : ∀ i ∈ is, i ∈ vs) {it : DA} {g : DG} {t : DT} {e : DE} {σ : L2.St} {H : Hp} {Q : VK} (h : tDo G W (aLc vs it g t e) σ H Q) : tLc (tDI G W it) (tDG G is g) (tDT G WF t) (tD G WF e) vs σ H Q := by
    obtain ⟨κ, w, s, ok, q⟩ := h
    refine ⟨κ, w, s, ok, ?_⟩
    unfold aLc at q
    cases e1 : it s with
    | stuck => rw [e1] at q; exact q.elim
    | exc x s' => rw [e1] at q; exact q
    | ok items s1 =>
      rw [e1] at q
      rw [Res.bind_ok] at q
      intro w1 J H1 l1 o1 hJ D hD
      refine lc_of hs hJ o1 hD ?_
      cases e2 : noX (lcL vs g t e items [] s1) with
      | stuck => rw [e2] at q; exact q.elim
      | exc x s' => exact absurd e2 (noX_exc _ _ _)
      | ok ys s2 =>
        rw [e2] at q
        intro w2 acc H2 l2 o2 r2
        exact q w2 D acc H2 (l1.trans l2) (Ok.unwipe o1 l2 o2 rfl) (o1.apart hD) r2
/-- name = [..] on one line, the name a plain local -/
theorem pds_setLc {i : Nat} {y : Str} {py : Pos} {elt tg iter : Expr} {ifs : List Expr} {scope : Scope} {own : List (Str × Nat)} {is : List Nat} {pos spos : Pos} {it : DA} {g : DG} {t : DT} {e : DE} (hc : X.calm = true) (hN : X.N.Nodup) (hy : X.N[i]? = some y) (hyl : X.env.scope.names.lookup y = some .local)
    (hsw : swapsWith (.ListComp elt [⟨tg, iter, ifs, 0⟩] scope pos) (some (.Name y py)) spos.line X.env = pure true) (hi : PDI G W X tg iter it) (ok : BlkOk X.N X.env.scope scope own) (hs' : ∀ i ∈ is, i ∈ own.map (·.2))
    (hg : ∀ (s : Shared) (H : Hp) (C : Addr) (cl : List (Str × Addr)) (fp : List Addr), PDG G (X.blk s H scope (compEnvC scope cl C X.env) fp) tg is g) (ht : ∀ (s : Shared) (H : Hp) (C : Addr) (cl : List (Str × Addr)) (fp : List Addr), PTs (X.blk s H scope (compEnvC scope cl C X.env) fp) ifs (tDT G WF t))
    (he : ∀ (s : Shared) (H : Hp) (C : Addr) (cl : List (Str × Addr)) (fp : List Addr), PD G WF (X.blk s H scope (compEnvC scope cl C X.env) fp) elt e) (hs : ∀ x, foldedSetIterable iter X.env x = pure x := by intro _; rfl) :
    PDS G W X (.Assign [.Name y py] (.ListComp elt [⟨tg, iter, ifs, 0⟩] scope pos) spos) (sSetO i (aLc (own.map (·.2)) it g t e)) :=
  (ps_setLc hc hN hy hyl hsw hi ok hg ht he hs).imp fun N σ H q => by
    have q := setO_of q
    exact pdo_lc.lc_fin hs' q
/-! ### enumerate, zip -/
def enumL (xs : List D) : List D := (List.range xs.length).zipWith (fun (i : Nat) x => .tup [.int (i : Int), x]) xs
def zipL (xs ys : List D) : List D := xs.zipWith (fun x y => .tup [x, y]) ys
theorem zipL_get {xs ys : List D} {i : Nat} {d : D} (h : (zipL xs ys)[i]? = some d) : ∃ x y, xs[i]? = some x ∧ ys[i]? = some y ∧ d = .tup [x, y] := by
  unfold zipL at h
  rw [List.getElem?_zipWith] at h
  cases e1 : xs[i]? with
  | none => simp [e1] at h
  | some x =>
    cases e2 : ys[i]? with
    | none => simp [e1, e2] at h
    | some y => simp [e1, e2] at h; exact ⟨x, y, rfl, rfl, h.symm⟩
theorem enumL_get {xs : List D} {i : Nat} {d : D} (h : (enumL xs)[i]? = some d) : ∃ x, xs[i]? = some x ∧ d = .tup [.int (i : Int), x] := by
  unfold enumL at h
  rw [List.getElem?_zipWith] at h
  cases e2 : xs[i]? with
  | none => simp [e2] at h
  | some y =>
    have hi : i < xs.length := (List.getElem?_eq_some_iff.mp e2).1
    rw [List.getElem?_range hi, e2] at h
    cases h
    exact ⟨y, rfl, rfl⟩
theorem itOk_enum (hK : G.K = X.K) {w : Wd} {a : Addr} {vs : List V} {ds : List D} (e : SqL G.K w.F a vs) (r : Reps G w vs ds) : ItOk G w (Ite X.K a) (enumL ds) := by
  intro w1 S H le fok i
  have q : SqL X.K H a vs := hK ▸ SqL.le (SqL.le e le.f) fok.sub
  refine ⟨fun d hd => ?_, fun hn => ?_⟩
  · obtain ⟨x, h1, rfl⟩ := enumL_get hd
    obtain ⟨y, h2, h3⟩ := r.get h1
    refine ⟨⟨vs, y, q, h2⟩, fun v H' ⟨T, x', hv, hT, hH, hx⟩ => ?_⟩
    have := hx vs q
    rw [h2] at this
    cases this
    obtain ⟨f2, n2⟩ := fok.alloc hT (.tup [.int (i : Nat), y])
    subst hH
    subst hv
    exact ⟨_, n2, f2, .tup (.inl (.inl upd_same)) (.cons (.int _) (.cons ((h3.mono le).mono n2.le) .nil))⟩
  · refine ⟨vs, q, ?_⟩
    have := List.getElem?_eq_none_iff.mp hn
    unfold enumL at this
    rw [List.length_zipWith, List.length_range] at this
    rw [r.length]
    omega
def itEnum (f : DA) : DA := fun s => (f s).bind fun ds s1 => match ds with
  | [.lst xs] => .ok (enumL xs) s1
  | [.scr xs] => .ok (enumL xs) s1
  | _ => .stuck
theorem pdi_enum (hK : G.K = X.K) {e : Expr} {fa : DA} {p pos tpos : Pos} {elts : List Expr} {kk : Nat} (hg : Gl X "enumerate") (hm : X.mg "enumerate" = none) (ha : PDA G W X [e] fa) (hs : starEach [e] X.env = [(false, eval e X.env)] := by rfl) :
    PDI G W X (.Tuple elts kk tpos) (.Call (.Name "enumerate" p) [e] [] pos) (itEnum fa) :=
  (pi_enum hg hm ha hs).imp fun σ H R ⟨κ, w, s, ok, q⟩ => ⟨κ, w, s, ok, (PostG.bindI q).imp fun v H1 ⟨d, s1, w1, le, ok1, r1, q1⟩ => by
    match d, q1 with
    | [.lst xs], q1 =>
      obtain ⟨v, rfl, r⟩ := r1.one
      cases r with
      | @lst a vs ds e r =>
        have e' : SqL G.K w1.F a vs := .inl (.inl e)
        exact ⟨a, vs, rfl, hK ▸ SqL.le e' ok1.fok.sub, q1 w1 _ H1 (.refl _) ok1 (itOk_enum hK e' r)⟩
    | [.scr xs], q1 =>
      obtain ⟨v, rfl, r⟩ := r1.one
      cases r with
      | @scr a vs ds e r => exact ⟨a, vs, rfl, hK ▸ SqL.le e ok1.fok.sub, q1 w1 _ H1 (.refl _) ok1 (itOk_enum hK e r)⟩⟩
theorem zip_none {vs ws : List V} {ds es : List D} {w : Wd} {i : Nat} (r : Reps G w vs ds) (r' : Reps G w ws es) (hn : (zipL ds es)[i]? = none) : vs.length ≤ i ∨ ws.length ≤ i := by
  have := List.getElem?_eq_none_iff.mp hn
  unfold zipL at this
  rw [List.length_zipWith] at this
  rw [r.length, r'.length]
  omega
theorem itOk_zip (hK : G.K = X.K) {w : Wd} {a b : Addr} {vs ws : List V} {ds es : List D} (e : SqL G.K w.F a vs) (e' : SqL G.K w.F b ws) (r : Reps G w vs ds) (r' : Reps G w ws es) : ItOk G w (Itz X.K a b) (zipL ds es) := by
  intro w1 S H le fok i
  have q : SqL X.K H a vs := hK ▸ SqL.le (SqL.le e le.f) fok.sub
  have q' : SqL X.K H b ws := hK ▸ SqL.le (SqL.le e' le.f) fok.sub
  refine ⟨fun d hd => ?_, fun hn => ⟨vs, ws, q, q', zip_none r r' hn⟩⟩
  obtain ⟨x, y, h1, h1', rfl⟩ := zipL_get hd
  obtain ⟨x', h2, h3⟩ := r.get h1
  obtain ⟨y', h2', h3'⟩ := r'.get h1'
  refine ⟨⟨vs, ws, x', y', q, q', h2, h2'⟩, fun v H' ⟨T, x2, y2, hv, hT, hH, hx, hy⟩ => ?_⟩
  have := hx vs q
  rw [h2] at this
  cases this
  have := hy ws q'
  rw [h2'] at this
  cases this
  obtain ⟨f2, n2⟩ := fok.alloc hT (.tup [x', y'])
  subst hH
  subst hv
  exact ⟨_, n2, f2, .tup (.inl (.inl upd_same)) (.cons ((h3.mono le).mono n2.le) (.cons ((h3'.mono le).mono n2.le) .nil))⟩
theorem itOk_zipT (hK : G.K = X.K) {w : Wd} {a b : Addr} {vs ws : List V} {ds es : List D} (e : SqT G.K w.F a vs) (e' : SqT G.K w.F b ws) (r : Reps G w vs ds) (r' : Reps G w ws es) : ItOk G w (ItzT X.K a b) (zipL ds es) := by
  intro w1 S H le fok i
  have q : SqT X.K H a vs := hK ▸ SqT.le (SqT.le e le.f) fok.sub
  have q' : SqT X.K H b ws := hK ▸ SqT.le (SqT.le e' le.f) fok.sub
  refine ⟨fun d hd => ?_, fun hn => ⟨vs, ws, q, q', zip_none r r' hn⟩⟩
  obtain ⟨x, y, h1, h1', rfl⟩ := zipL_get hd
  obtain ⟨x', h2, h3⟩ := r.get h1
  obtain ⟨y', h2', h3'⟩ := r'.get h1'
  refine ⟨⟨vs, ws, x', y', q, q', h2, h2'⟩, fun v H' ⟨T, x2, y2, hv, hT, hH, hx, hy⟩ => ?_⟩
  have := hx vs q
  rw [h2] at this
  cases this
  have := hy ws q'
  rw [h2'] at this
  cases this
  obtain ⟨f2, n2⟩ := fok.alloc hT (.tup [x', y'])
  subst hH
  subst hv
  exact ⟨_, n2, f2, .tup (.inl (.inl upd_same)) (.cons ((h3.mono le).mono n2.le) (.cons ((h3'.mono le).mono n2.le) .nil))⟩
def itZip (f : DA) : DA := fun s => (f s).bind fun ds s1 => match ds with
  | [.lst xs, .lst ys] => .ok (zipL xs ys) s1
  | [.tup xs, .tup ys] => .ok (zipL xs ys) s1
  | _ => .stuck
theorem pdi_zip (hK : G.K = X.K) {e e2 : Expr} {fa : DA} {p pos tpos : Pos} {elts : List Expr} {kk : Nat} (hg : Gl X "zip") (hm : X.mg "zip" = none) (ha : PDA G W X [e, e2] fa)
    (hs : starEach [e, e2] X.env = (false, eval e X.env) :: starEach [e2] X.env := by rfl) (hpl : (backTo pos (starEach [e2] X.env)).any (·.1) = false := by rfl) :
    PDI G W X (.Tuple elts kk tpos) (.Call (.Name "zip" p) [e, e2] [] pos) (itZip fa) :=
  (pi_zipA hg hm ha hs hpl).imp fun σ H R ⟨κ, w, s, ok, q⟩ => ⟨κ, w, s, ok, (PostG.bindI q).imp fun v H1 ⟨d, s1, w1, le, ok1, r1, q1⟩ => by
    match d, q1 with
    | [.lst xs, .lst ys], q1 =>
      obtain ⟨v, v', rfl, r, r'⟩ := r1.two
      cases r with
      | @lst a vs ds e r =>
        cases r' with
        | @lst b ws es e' r' =>
          have e1 : SqL G.K w1.F a vs := .inl (.inl e)
          have e2 : SqL G.K w1.F b ws := .inl (.inl e')
          exact ⟨a, b, vs, ws, rfl, .inl ⟨hK ▸ SqL.le e1 ok1.fok.sub, hK ▸ SqL.le e2 ok1.fok.sub, q1 w1 _ H1 (.refl _) ok1 (itOk_zip hK e1 e2 r r')⟩⟩
    | [.tup xs, .tup ys], q1 =>
      obtain ⟨v, v', rfl, r, r'⟩ := r1.two
      cases r with
      | @tup a vs ds e r =>
        cases r' with
        | @tup b ws es e' r' =>
          exact ⟨a, b, vs, ws, rfl, .inr ⟨hK ▸ SqT.le e ok1.fok.sub, hK ▸ SqT.le e' ok1.fok.sub, q1 w1 _ H1 (.refl _) ok1 (itOk_zipT hK e e' r r')⟩⟩⟩
/-! ### x.append(e) of an own list; x += e -/
/-- the list at an own slot -/
theorem own_list {κ : Bs} {w : Wd} {s : DS} {σ : L2.St} {H : Hp} {i : Nat} {xs : List D} (ok : Ok G κ w s σ H) (e : s.sl[i]? = some (.ol xs)) : ∃ a vs, σ[i]? = some (some (.ref a)) ∧ H a = some (.lst vs) ∧ Reps G w vs xs := by
  obtain ⟨a, h1, ⟨vs, h2, h3⟩, _⟩ := ok.own i _ e rfl
  exact ⟨a, vs, h1, h2, h3⟩
def sApp (i : Nat) (fa : DA) : DStm := fun s => match s.sl[i]? with
  | some (.ol _) => (fa s).bind fun ds s1 => match ds, s1.sl[i]? with
    | [d], some (.ol xs) => if xs.length < 1000000 then .ok .nx ⟨s1.sl.set i (.ol (xs ++ [d])), s1.st⟩ else .stuck
    | _, _ => .stuck
  | _ => .stuck
theorem app_of {i : Nat} {fa : DA} {N : Ends} {σ : L2.St} {H : Hp} (h : tDS G W (sApp i fa) N σ H) : tDrop (tBM X.K "list" rAppend (tVar i) (tDA G W fa)) N σ H := by
  obtain ⟨κ, w, s, ok, q⟩ := h
  unfold sApp at q
  cases e : s.sl[i]? with
  | none => rw [e] at q; exact q.elim
  | some y =>
    rw [e] at q
    cases y with
    | ol xs0 =>
      obtain ⟨a, vs, h1, h2, h3⟩ := own_list ok e
      refine ⟨.ref a, h1, .inl ⟨rfl, vs, .inl (.inl h2)⟩, κ, w, s, ok, (PostG.bindS q).imp fun v H1 ⟨d, s1, w1, le, ok1, r1, q1⟩ => ?_⟩
      match d, q1 with
      | [d], q1 =>
        cases e1 : s1.sl[i]? with
        | none => rw [e1] at q1; exact q1.elim
        | some z =>
          rw [e1] at q1
          cases z with
          | ol xs =>
            replace q1 : PostS G W κ w1 (if xs.length < 1000000 then .ok .nx ⟨s1.sl.set i (.ol (xs ++ [d])), s1.st⟩ else .stuck) N := q1
            split at q1
            · rename_i c
              obtain ⟨a', vs', g1, g2, g3⟩ := own_list ok1 e1
              rw [h1] at g1
              cases g1
              obtain ⟨y, rfl, ry⟩ := r1.one
              refine ⟨a, vs', y, rfl, rfl, g2, by rw [g3.length, sizeLine_eq]; omega, ?_⟩
              exact q1 w1 σ _ (.refl _) (ok1.mut e1 rfl rfl h1 ⟨_, upd_same, g3.append (.cons ry .nil)⟩ fun _ _ z => nomatch z)
            · exact q1.elim
          | _ => exact q1.elim
      | [], q1 => cases e1 : s1.sl[i]? <;> exact q1.elim
      | _ :: _ :: _, q1 => cases e1 : s1.sl[i]? <;> exact q1.elim
    | _ => exact q.elim
theorem pds_append {i : Nat} {x : Str} {p apos cpos pos : Pos} {e : Expr} {fa : DA} (ho : PE X (.Name x p) (tVar i)) (ha : PDA G W X [e] fa)
    (hbase : attributeBase (.Name x p) "append" X.env (eval (.Name x p) X.env) = eval (.Name x p) X.env := by rfl)
    (hfew : ((backTo cpos (starEach [e] X.env)).all (fun x => !x.1) && (backToKw cpos (keywordEach [] X.env)).all (fun x => x.1.isSome)
      && decide ([e].length + ([] : List Keyword).length + (if ([] : List Keyword).isEmpty then 0 else 1) < 30)) = true := by rfl)
    (hline : (apos.endLine == cpos.line) = true := by rfl) (hs : starEach [e] X.env = (false, eval e X.env) :: starEach [] X.env := by rfl) (hplain : (backTo cpos (starEach [] X.env)).any (·.1) = false := by rfl)
    (hsw : swapsWith (.Call (.Attribute (.Name x p) "append" apos) [e] [] cpos) none pos.line X.env = pure false := by rfl) : PDS G W X (.Expr (.Call (.Attribute (.Name x p) "append" apos) [e] [] cpos) pos) (sApp i fa) :=
  (ps_expr (pe_bm PySem.F.plainAttrs_list PySem.F.slot_list_append PySem.F.type_list_append mt_append ho ha hbase hfew hline hs hplain) hsw).imp fun N σ H q => app_of q
/-- x += e of ints -/
def sAug (i : Nat) (o : Int → Int → Int) (f : DE) : DStm := fun s => match s.sl[i]? with
  | some (.val (.int a)) => (f s).bind fun d s1 => match d with
    | .int b => .ok .nx ⟨s1.sl.set i (.val (.int (o a b))), s1.st⟩
    | _ => .stuck
  | _ => .stuck
theorem pds_aug {i : Nat} {x : Str} {e : Expr} {f : DE} {op : Operator} {o : Int → Int → Int} {pos pos' : Pos} (hN : X.N.Nodup) (hi : X.N[i]? = some x) (hx : Loc X.env.scope x) (he : PD G W X e f) (ho : PIp X op (ipI o))
    (hf : X.fn x = true ∨ X.env.scope.names.lookup x = some .local := by first | exact .inl rfl | exact .inr rfl | assumption) : PDS G W X (.AugAssign (.Name x pos') op e pos) (sAug i o f) :=
  (ps_aug hN hi hx he ho hf).imp fun N σ H ⟨κ, w, s, ok, q⟩ => by
    unfold sAug at q
    cases e : s.sl[i]? with
    | none => rw [e] at q; exact q.elim
    | some y =>
      rw [e] at q
      cases y with
      | val d =>
        cases d with
        | int a =>
          obtain ⟨v, h1, h2⟩ := ok.val i _ e
          cases h2
          refine ⟨.int a, h1, κ, w, s, ok, (PostG.bindS q).imp fun v H1 ⟨d, s1, w1, le, ok1, r1, q1⟩ => ?_⟩
          cases r1 with
          | int b => exact ⟨a, b, rfl, rfl, q1 w1 _ H1 (.refl _) (ok1.setVal (.int _) i)⟩
          | _ => exact q1.elim
        | _ => exact q.elim
      | _ => exact q.elim
/-- a < b < c -/
def eChain (o o' : D → D → Option D) (fa fb fc : DE) : DE := fun s => (fa s).bind fun x s1 => (fb s1).bind fun y s2 => match o x y with
  | some (.bl true) => (fc s2).bind fun z s3 => match o' y z with
    | some d => .ok d s3
    | none => .stuck
  | some (.bl false) => .ok (.bl false) s2
  | _ => .stuck
theorem op2b {r : R2} {o : D → D → Option D} (hr : ∀ (κ : Bs) (w : Wd) (s : DS) (σ : L2.St) (H : Hp) (x y : V) (dx dy d : D) (Q : VK), Ok G κ w s σ H → Rep G w x dx → Rep G w y dy → o dx dy = some d → (∀ w' v H', w.le w' → Ok G κ w' s σ H' → Rep G w' v d → Q v H') → r x y H Q) :
    ∀ (κ : Bs) (w : Wd) (s : DS) (σ : L2.St) (H : Hp) (x y : V) (dx dy d : D) (Q : VK), Ok G κ w s σ H → Rep G w x dx → Rep G w y dy → o dx dy = some d → (∀ w' v H', w.le w' → Ok G κ w' s σ H' → Rep G w' v d → Q v H') → r x y H Q := hr
theorem pd_chain {op op' : CmpOp} {o o' : D → D → Option D} {a b c : Expr} {fa fb fc : DE} {pos : Pos} (ho : OpD G X (compareOp op) o) (ho' : OpD G X (compareOp op') o') (ha : PD G W X a fa) (hb : PD G W X b fb) (hc : PD G W X c fc)
    (hp : ∀ {r r' : R2} {ta tb tc : TE}, OpR X (compareOp op) r → OpR X (compareOp op') r' → PE X a ta → PE X b tb → PE X c tc → PE X (.Compare a [op, op'] [b, c] pos) (tChain r r' ta tb tc)) : PD G W X (.Compare a [op, op'] [b, c] pos) (eChain o o' fa fb fc) := by
  obtain ⟨r, h1, h2⟩ := ho
  obtain ⟨r', h1', h2'⟩ := ho'
  refine (hp h1 h1' ha hb hc).imp fun σ H Q ⟨κ, w, s, ok, q⟩ => ⟨κ, w, s, ok, (PostG.bind q).imp fun v H1 ⟨d, s1, w1, le, ok1, r1, q1⟩ => ⟨κ, w1, s1, ok1, (PostG.bind q1).imp fun v2 H2 ⟨d2, s2, w2, le2, ok2, r2, q2⟩ => ?_⟩⟩
  cases e : o d d2 with
  | none => rw [e] at q2; exact q2.elim
  | some z =>
    rw [e] at q2
    refine h2 κ w2 s2 σ H2 v v2 d d2 z _ ok2 (r1.mono le2) r2 e fun w3 v3 H3 l3 o3 r3 => ?_
    cases r3 with
    | bl k =>
      refine ⟨k, rfl, ?_⟩
      cases k with
      | false => exact q2 w3 _ H3 l3 o3 (.bl false)
      | true =>
        refine ⟨κ, w3, s2, o3, (PostG.bind (PostG.mono l3 q2)).imp fun v4 H4 ⟨d4, s4, w4, le4, ok4, r4, q4⟩ => ?_⟩
        cases e' : o' d2 d4 with
        | none => rw [e'] at q4; exact q4.elim
        | some z' => rw [e'] at q4; exact h2' κ w4 s4 σ H4 v2 v4 d2 d4 z' Q ok4 ((r2.mono l3).mono le4) r4 e' q4
    | _ => exact q2.elim
end
end DL
set_option maxRecDepth 100000
set_option maxHeartbeats 4000000
set_option autoImplicit false
namespace DL
open PySem PySem.Spec PyProof.Rows L2
section
variable {G : Gam} {W : WX} {X : Cx}
/-! ### a for over a list, a tuple, a text -/
theorem pi_any {tg l : Expr} {tl : TE} (hl : PE X l tl) : PI X tg l (fun σ H R => tl σ H fun x H1 => (∃ a, x = .ref a ∧ (∃ xs, SqL X.K H1 a xs) ∧ R (Itl X.K a) H1) ∨ (∃ a, x = .ref a ∧ (∃ xs, SqT X.K H1 a xs) ∧ R (Itt X.K a) H1) ∨ ∃ y, x = .str y ∧ R (Its y) H1) := by
  refine ⟨fun pins s σ H R I h => ?_⟩
  refine thn (hl.run pins s σ H _ I h) fun v s1 ⟨x, H1, I1, r1, q1⟩ => ?_
  rcases q1 with ⟨a, e, ⟨xs, hq⟩, q⟩ | ⟨a, e, ⟨xs, hq⟩, q⟩ | ⟨y, e, q⟩
  · subst e
    cases r1
    obtain ⟨its, rv, p, hz⟩ := I1.list hq
    refine wpAny_pyIter_list p.isList ?_
    refine ⟨s1.heap.objs.size, [s1.heap.objs.size], _, _, H1, rfl, I1.kept (t' := s1.toks) fun b o e => Heap.get?_push_of_some _ e, turn_list a _, ⟨_, Heap.get?_push_size _ rfl, rfl, rfl⟩, fun b hb => ?_, q⟩
    have e : b = s1.heap.objs.size := by simpa using hb
    subst e
    exact I1.fpOk (Nat.le_refl _) (I1.hok.fresh (Nat.le_refl _))
  · subst e
    cases r1
    obtain ⟨its, rv, p, hz⟩ := I1.tuple hq
    refine wpAny_pyIter_tuple (show s1.heap.IsTuple a its.toArray from p) ?_
    refine ⟨s1.heap.objs.size, [s1.heap.objs.size], _, _, H1, rfl, I1.kept (t' := s1.toks) fun b o e => Heap.get?_push_of_some _ e, turn_tuple a _, ⟨_, Heap.get?_push_size _ rfl, rfl, rfl⟩, fun b hb => ?_, q⟩
    have e : b = s1.heap.objs.size := by simpa using hb
    subst e
    exact I1.fpOk (Nat.le_refl _) (I1.hok.fresh (Nat.le_refl _))
  · subst e
    obtain ⟨t, rfl⟩ := r1
    cases ha : y.cps.all (· < 128)
    · exact wpAny_pyIter_wide ha (pi_one (tk := s1.toks) I1 _ (turn_str _ y t "str_iterator" (.inr rfl)) ⟨_, Heap.get?_push_size _ rfl, rfl, rfl⟩ q)
    · exact wpAny_pyIter_ascii ha (pi_one (tk := s1.toks) I1 _ (turn_str _ y t "str_ascii_iterator" (.inl rfl)) ⟨_, Heap.get?_push_size _ rfl, rfl, rfl⟩ q)
theorem itOk_str {w : Wd} (l : Nm) : ItOk G w (Its (nm l)) (l.map fun c => D.str [c]) := by
  intro w1 S H le fok i
  refine ⟨fun d hd => ?_, fun hn => ?_⟩
  · rw [List.getElem?_map] at hd
    cases e : l[i]? with
    | none => rw [e] at hd; cases hd
    | some c =>
      rw [e] at hd
      cases hd
      have hc : (nm l).cps[i]? = some c := by simpa [nm] using e
      refine ⟨?_, fun x H' hy => ?_⟩
      · show i < (nm l).cps.size
        exact (Array.getElem?_eq_some_iff.mp hc).1
      · obtain ⟨hH, c', hc', hx⟩ := hy
        rw [hc] at hc'
        cases hc'
        subst hH
        subst hx
        exact ⟨w1, .refl _ _, fok, .str [c]⟩
  · show (nm l).cps.size ≤ i
    rw [List.getElem?_map] at hn
    cases e : l[i]? with
    | some c => rw [e] at hn; cases hn
    | none =>
      have := List.getElem?_eq_none_iff.mp e
      simpa [nm] using this
def itemsD (d : D) : Option (List D) := match d with
  | .lst xs => some xs
  | .scr xs => some xs
  | .tup xs => some xs
  | .str l => some (l.map fun c => .str [c])
  | _ => none
def itSeq (f : DE) : DA := fun s => (f s).bind fun d s1 => match itemsD d with
  | some xs => .ok xs s1
  | none => .stuck
theorem pdi_seq (hK : G.K = X.K) {tg e : Expr} {f : DE} (h : PD G W X e f) : PDI G W X tg e (itSeq f) :=
  (pi_any h).imp fun σ H R ⟨κ, w, s, ok, q⟩ => ⟨κ, w, s, ok, (PostG.bindI q).imp fun v H1 ⟨d, s1, w1, le, ok1, r1, q1⟩ => by
    cases r1 with
    | @lst a vs ds e r =>
      have e' : SqL G.K w1.F a vs := .inl (.inl e)
      exact .inl ⟨a, rfl, ⟨vs, hK ▸ SqL.le e' ok1.fok.sub⟩, q1 w1 _ H1 (.refl _) ok1 (itOk_list hK e' (fun _ _ _ _ _ => trivial) r fun _ _ => trivial)⟩
    | @scr a vs ds e r =>
      exact .inl ⟨a, rfl, ⟨vs, hK ▸ SqL.le e ok1.fok.sub⟩, q1 w1 _ H1 (.refl _) ok1 (itOk_list hK e (fun _ _ _ _ _ => trivial) r fun _ _ => trivial)⟩
    | @tup a vs ds e r => exact .inr (.inl ⟨a, rfl, ⟨vs, hK ▸ SqT.le e ok1.fok.sub⟩, q1 w1 _ H1 (.refl _) ok1 (itOk_tup hK e r)⟩)
    | str l => exact .inr (.inr ⟨nm l, rfl, q1 w1 _ H1 (.refl _) ok1 (itOk_str l)⟩)
    | _ => exact q1.elim⟩
/-! ### + and * in all -/
def lAdd : D → D → Option D := fun x y => match x, y with
  | .lst a, .lst b => if a.length + b.length ≤ 1000000 then some (.lst (a ++ b)) else none
  | _, _ => none
theorem opd_ladd : OpD G X (binaryOp .Add) lAdd := ⟨_, op_cat, fun κ w s σ H x y dx dy d Q ok rx ry e q => by
  cases rx with
  | @lst a vs ds e1 r1 =>
    cases ry with
    | @lst a2 vs2 ds2 e2 r2 =>
      have e : (if ds.length + ds2.length ≤ 1000000 then some (D.lst (ds ++ ds2)) else none) = some d := e
      split at e
      · cases e
        refine ⟨a, a2, vs, vs2, rfl, rfl, ok.fok.sub _ _ e1, ok.fok.sub _ _ e2, by rw [r1.length, r2.length, sizeLine_eq]; omega, fun p hp => ?_⟩
        obtain ⟨le2, ok2⟩ := ok.alloc hp (.lst (vs ++ vs2))
        exact q _ _ _ le2 ok2 (.lst upd_same ((r1.append r2).mono le2))
      · cases e
    | _ => exact nomatch e
  | _ => exact nomatch e⟩
def lMul : D → D → Option D := fun x y => match x, y with
  | .lst a, .int k => if -(2 ^ 63) ≤ k ∧ k < 2 ^ 63 ∧ a.length * k.toNat ≤ 1000000 then some (.lst (List.replicate k.toNat a).flatten) else none
  | _, _ => none
theorem opd_lmul : OpD G X (binaryOp .Mult) lMul := ⟨_, op_rep, fun κ w s σ H x y dx dy d Q ok rx ry e q => by
  cases rx with
  | @lst a vs ds e1 r1 =>
    cases ry with
    | int k =>
      have e : (if -(2 ^ 63) ≤ k ∧ k < 2 ^ 63 ∧ ds.length * k.toNat ≤ 1000000 then some (D.lst (List.replicate k.toNat ds).flatten) else none) = some d := e
      split at e
      · rename_i c
        cases e
        refine ⟨a, k, vs, rfl, rfl, ok.fok.sub _ _ e1, c.1, c.2.1, by rw [r1.length, sizeLine_eq]; omega, fun p hp => ?_⟩
        obtain ⟨le2, ok2⟩ := ok.alloc hp (.lst (List.replicate k.toNat vs).flatten)
        exact q _ _ _ le2 ok2 (.lst upd_same ((r1.rep _).mono le2))
      · cases e
    | _ => exact nomatch e
  | _ => exact nomatch e⟩
theorem OpD.or {f : Value → Value → Sem Value} {o o' : D → D → Option D} (h : OpD G X f o) (h' : OpD G X f o') : OpD G X f (fun x y => (o x y).orElse fun _ => o' x y) := by
  obtain ⟨r, h1, h2⟩ := h
  obtain ⟨r', h1', h2'⟩ := h'
  refine ⟨_, h1.or h1', fun κ w s σ H x y dx dy d Q ok rx ry e q => ?_⟩
  have e : ((o dx dy).orElse fun _ => o' dx dy) = some d := e
  cases e1 : o dx dy with
  | some z => rw [e1] at e; cases e; exact .inl (h2 κ w s σ H x y dx dy _ Q ok rx ry e1 q)
  | none => rw [e1] at e; exact .inr (h2' κ w s σ H x y dx dy d Q ok rx ry e q)
def dAdd : D → D → Option D := fun x y => match x, y with
  | .int i, .int j => some (.int (i + j))
  | x, y => (sAdd x y).orElse fun _ => lAdd x y
theorem OpD.congr {f : Value → Value → Sem Value} {o o' : D → D → Option D} (h : OpD G X f o) (e : ∀ x y, o' x y = o x y) : OpD G X f o' := by
  have : o' = o := by funext x y; exact e x y
  rw [this]; exact h
theorem opd_addA (hK : G.K = X.K) : OpD G X (binaryOp .Add) dAdd := (opd_add.or ((opd_sadd hK).or opd_ladd)).congr fun x y => by
  cases x <;> cases y <;> rfl
def dMul : D → D → Option D := fun x y => match x, y with
  | .int i, .int j => if mulOk i j then some (.int (i * j)) else none
  | x, y => lMul x y
theorem opd_mulA : OpD G X (binaryOp .Mult) dMul := (opd_mul.or opd_lmul).congr fun x y => by
  cases x <;> cases y <;> first
    | rfl
    | (rename_i i j
       show (if mulOk i j then some (D.int (i * j)) else none) = ((if mulOk i j then some (D.int (i * j)) else none).orElse fun _ => lMul (.int i) (.int j))
       split <;> rfl)
/-! ### a, b, c = x, y, z -/
def sPar3 (i j l : Nat) (f : DA) : DStm := fun s => (f s).bind fun ds s1 => match ds with
  | [x, y, z] => .ok .nx ⟨((s1.sl.set i (.val x)).set j (.val y)).set l (.val z), s1.st⟩
  | _ => .stuck
theorem pds_par3 {i j l : Nat} {x y z : Str} {a b c : Expr} {f : DA} {px py pz pt pos : Pos} {kt k2 : Nat} {pt2 : Pos} (hc : X.calm = true) (hN : X.N.Nodup) (hi : X.N[i]? = some x) (hj : X.N[j]? = some y) (hl : X.N[l]? = some z) (hij : i ≠ j) (hil : i ≠ l) (hjl : j ≠ l)
    (hx : X.env.scope.names.lookup x = some .local) (hy : X.env.scope.names.lookup y = some .local) (hz : X.env.scope.names.lookup z = some .local) (ha : PDA G W X [a, b, c] f)
    (hw : swappedStores [.Tuple [.Name x px, .Name y py, .Name z pz] kt pt] (.Tuple [a, b, c] k2 pt2) X.env = pure (some [x, y, z]))
    (hs : swapsWithSole [.Tuple [.Name x px, .Name y py, .Name z pz] kt pt] (.Tuple [a, b, c] k2 pt2) pos.line X.env = pure false := by rfl) :
    PDS G W X (.Assign [.Tuple [.Name x px, .Name y py, .Name z pz] kt pt] (.Tuple [a, b, c] k2 pt2) pos) (sPar3 i j l f) :=
  (ps_par3 hc hN hi hj hl hij hil hjl hx hy hz ha hw hs).imp fun N σ H ⟨κ, w, s, ok, q⟩ => ⟨κ, w, s, ok, (PostG.bindS q).imp fun v H1 ⟨d, s1, w1, le, ok1, r1, q1⟩ => by
    match d, q1, r1 with
    | [x, y, z], q1, .cons a (.cons b (.cons c .nil)) => exact ⟨_, _, _, rfl, q1 w1 _ H1 (.refl _) (((ok1.setVal a i).setVal b j).setVal c l)⟩
    | [], q1, _ => exact q1.elim
    | [_], q1, _ => exact q1.elim
    | [_, _], q1, _ => exact q1.elim
    | _ :: _ :: _ :: _ :: _, q1, _ => exact q1.elim⟩
/-! ### types as values -/
theorem pd_bltn {x : Str} {n : String} {pos : Pos} (hg : Gl X x) (hm : X.mg x = none) (hv : bootBuiltins x = some (.type n)) (hn : x ≠ "__name__" := by decide) (hd : (x == ("__debug__" : Str)) = false := by decide) : PD G W X (.Name x pos) (eC (.ty n)) :=
  pd_c (pe_bltn (v := .ty n) hg hm hv rfl hn hd) fun _ => .ty n
theorem pd_cls {x : Str} {c : String} {C : Addr} {pos : Pos} (hg : Gl X x) (hm : X.mg x = some (.ref C)) (hC : G.ct c = some C) (hd : (x == ("__debug__" : Str)) = false := by decide) : PD G W X (.Name x pos) (eC (.cls c)) :=
  pd_c (pe_glob (v := .ref C) hg hm rfl hd) fun _ => .cls hC
/-! ### slices of tuples and texts, xs[::-1] -/
def eSlT (f : DE) (l h : DOp) : DE := fun s => (f s).bind fun d s1 => (l s1).bind fun lo s2 => (h s2).bind fun hi s3 => match d with
  | .tup xs => if (cutD xs lo hi).length ≠ xs.length then .ok (.tup (cutD xs lo hi)) s3 else .stuck
  | _ => .stuck
theorem cut_len {w : Wd} {vs : List V} {ds : List D} (r : Reps G w vs ds) (lo hi : Option Int) : (cutV vs lo hi).length = (cutD ds lo hi).length := (r.cut lo hi).length
theorem pd_slT (hK : G.K = X.K) {e : Expr} {lo hi : Option Expr} {f : DE} {l h : DOp} {p2 pos : Pos} (he : PD G W X e f) (hl : PO X lo (tDO G W l)) (hh : PO X hi (tDO G W h)) : PD G W X (.Subscript e (.Slice lo hi none p2) pos) (eSlT f l h) :=
  (pe_slice sl_tup he hl hh).imp fun σ H Q ⟨κ, w, s, ok, q⟩ => ⟨κ, w, s, ok, (PostG.bind q).imp fun v H1 ⟨d, s1, w1, le, ok1, r1, q1⟩ => ⟨κ, w1, s1, ok1, (PostG.bind q1).imp fun v2 H2 ⟨d2, s2, w2, le2, ok2, r2, q2⟩ =>
    ⟨κ, w2, s2, ok2, (PostG.bind q2).imp fun v3 H3 ⟨d3, s3, w3, le3, ok3, r3, q3⟩ => by
      subst r2
      subst r3
      cases r1 with
      | @tup a vs ds e r =>
        replace q3 : PostG G W (Rep G) κ w3 σ (if (cutD ds v2 v3).length ≠ ds.length then .ok (.tup (cutD ds v2 v3)) s3 else .stuck) Q := q3
        split at q3
        · rename_i c
          have rr := (r.mono le2).mono le3
          refine ⟨a, vs, rfl, hK ▸ SqT.le (SqT.le (SqT.le e le2.f) le3.f) ok3.fok.sub, ?_, fun p hp => ?_⟩
          · intro z
            apply c
            rw [← cut_len rr, ← rr.length]
            unfold cutV
            rw [z.1, z.2]
            simp
          · obtain ⟨le4, ok4⟩ := ok3.alloc hp (.tup (cutV vs v2 v3))
            exact q3 _ _ _ le4 ok4 (.tup (.inl (.inl upd_same)) ((rr.cut v2 v3).mono le4))
        · exact q3.elim
      | _ => exact q3.elim⟩⟩⟩
/-- a slice of a list or of a tuple -/
def slD (d : D) (lo hi : Option Int) : Option D := match d with
  | .lst xs => some (.lst (cutD xs lo hi))
  | .scr xs => some (.lst (cutD xs lo hi))
  | .tup xs => if (cutD xs lo hi).length ≠ xs.length then some (.tup (cutD xs lo hi)) else none
  | _ => none
def eSlA (f : DE) (l h : DOp) : DE := fun s => (f s).bind fun d s1 => (l s1).bind fun lo s2 => (h s2).bind fun hi s3 => match slD d lo hi with
  | some x => .ok x s3
  | none => .stuck
theorem pd_slA (hK : G.K = X.K) {e : Expr} {lo hi : Option Expr} {f : DE} {l h : DOp} {p2 pos : Pos} (he : PD G W X e f) (hl : PO X lo (tDO G W l)) (hh : PO X hi (tDO G W h)) : PD G W X (.Subscript e (.Slice lo hi none p2) pos) (eSlA f l h) :=
  (pe_slice (sl_list.or sl_tup) he hl hh).imp fun σ H Q ⟨κ, w, s, ok, q⟩ => ⟨κ, w, s, ok, (PostG.bind q).imp fun v H1 ⟨d, s1, w1, le, ok1, r1, q1⟩ => ⟨κ, w1, s1, ok1, (PostG.bind q1).imp fun v2 H2 ⟨d2, s2, w2, le2, ok2, r2, q2⟩ =>
    ⟨κ, w2, s2, ok2, (PostG.bind q2).imp fun v3 H3 ⟨d3, s3, w3, le3, ok3, r3, q3⟩ => by
      subst r2
      subst r3
      cases r1 with
      | @lst a vs ds e r =>
        have e := le3.f _ _ (le2.f _ _ e)
        refine .inl ⟨a, vs, rfl, .inl (.inl (ok3.fok.sub _ _ e)), fun p hp => ?_⟩
        obtain ⟨le4, ok4⟩ := ok3.alloc hp (.lst (cutV vs v2 v3))
        exact q3 _ _ _ le4 ok4 (.lst upd_same ((((r.mono le2).mono le3).cut v2 v3).mono le4))
      | @scr a vs ds e r =>
        refine .inl ⟨a, vs, rfl, hK ▸ SqL.le (SqL.le (SqL.le e le2.f) le3.f) ok3.fok.sub, fun p hp => ?_⟩
        obtain ⟨le4, ok4⟩ := ok3.alloc hp (.lst (cutV vs v2 v3))
        exact q3 _ _ _ le4 ok4 (.lst upd_same ((((r.mono le2).mono le3).cut v2 v3).mono le4))
      | @tup a vs ds e r =>
        right
        have rr := (r.mono le2).mono le3
        cases e4 : slD (.tup ds) v2 v3 with
        | none => rw [e4] at q3; exact q3.elim
        | some x =>
          rw [e4] at q3
          have e4 : (if (cutD ds v2 v3).length ≠ ds.length then some (D.tup (cutD ds v2 v3)) else none) = some x := e4
          split at e4
          · rename_i c
            cases e4
            refine ⟨a, vs, rfl, hK ▸ SqT.le (SqT.le (SqT.le e le2.f) le3.f) ok3.fok.sub, ?_, fun p hp => ?_⟩
            · intro z
              apply c
              rw [← cut_len rr, ← rr.length]
              unfold cutV
              rw [z.1, z.2]
              simp
            · obtain ⟨le4, ok4⟩ := ok3.alloc hp (.tup (cutV vs v2 v3))
              exact q3 _ _ _ le4 ok4 (.tup (.inl (.inl upd_same)) ((rr.cut v2 v3).mono le4))
          · cases e4
      | _ => exact q3.elim⟩⟩⟩
/-- xs[::-1] of a list: a new list -/
def aRev (f : DE) : DA := fun s => (f s).bind fun d s1 => match d with
  | .lst xs => .ok xs.reverse s1
  | .scr xs => .ok xs.reverse s1
  | _ => .stuck
theorem Reps.reverse {w : Wd} : ∀ {vs : List V} {ds : List D}, Reps G w vs ds → Reps G w vs.reverse ds.reverse
  | _, _, .nil => .nil
  | _, _, .cons a b => by
    rw [List.reverse_cons, List.reverse_cons]
    exact (Reps.reverse b).append (.cons a .nil)
theorem pdo_rev (hK : G.K = X.K) {e : Expr} {f : DE} {k : Nat} {p1 p2 p3 pos : Pos} (he : PD G W X e f) : PDo G W X (.Subscript e (.Slice none none (some (.UnaryOp .USub (.Constant (.int 1) k p1) p2)) p3) pos) (aRev f) :=
  (pe_revL he).imp fun σ H Q ⟨κ, w, s, ok, q⟩ => ⟨κ, w, s, ok, (PostG.bindO q).imp fun v H1 ⟨d, s1, w1, le, ok1, r1, q1⟩ => by
    cases r1 with
    | @lst a vs ds e r => exact ⟨a, vs, rfl, .inl (.inl (ok1.fok.sub _ _ e)), fun p hp => q1 w1 p _ _ (.refl _) (ok1.fresh hp _) (ok1.apart hp) r.reverse⟩
    | @scr a vs ds e r => exact ⟨a, vs, rfl, hK ▸ SqL.le e ok1.fok.sub, fun p hp => q1 w1 p _ _ (.refl _) (ok1.fresh hp _) (ok1.apart hp) r.reverse⟩
    | _ => exact q1.elim⟩
/-! ### the law's end -/
def spLaw (K : PySem.W.Frag) : Sp := fun vs H Q _ => ∃ (a : Addr) (ns : List Int), vs = [.ref a] ∧ SqL K H a (ns.map V.int) ∧ ns.length ≤ 63 ∧ ∀ H', Q (.bl true) H'
theorem law_end {P : Program} {w0 : World} {mg : Str → Option Value} {base : Heap} {k : Nat} {f : Addr} {fd : FuncData} {ps : List Str} {g : DFn} (F : FnOk P w0 G.K mg base (L2.CX P w0) k f fd ps (spG G 1 g))
    (h : ∀ ns : List Int, ns.length ≤ 63 → ∃ S, g [.scr (ns.map D.int)] [] = .ok (.bl true) S) : FnOk P w0 G.K mg base (L2.CX P w0) k f fd ps (spLaw G.K) :=
  F.imp fun vs H Q E ⟨a, ns, e, hS, hl, q⟩ => by
    obtain ⟨S, hg⟩ := h ns hl
    subst e
    refine ⟨rfl, ⟨H, []⟩, [], [.scr (ns.map D.int)], ⟨fun _ _ e => e, rfl, fun n a c e => by simp at e, List.nodup_nil, fun a ha => by simp at ha⟩, .cons (.scr hS (Reps.of_ints ns)) .nil, ?_⟩
    rw [hg]
    intro w' v H' nx f r
    cases r
    exact q H'
theorem noCX {P : Program} {w : World} : ∀ (H : Hp) (s : Shared) (e : Value) (s' : Shared), L2.CX P w [] H s (fun _ _ _ => False) e s' → False := fun H s e s' h => by
  obtain ⟨_, _, _, _, _, _, _, _, _, _, _, _, z⟩ := h
  exact z
end
end DL
set_option maxRecDepth 100000
set_option maxHeartbeats 4000000
set_option autoImplicit false
namespace DL
open PySem PySem.Spec PyProof.Rows L2
section
variable {G : Gam} {W : WX} {X : Cx}
theorem callD1 {k : Nat} {f : Addr} {fd : FuncData} {ps : List Str} {n : Nat} {g : DFn} {pins : List (Addr × Obj)} {sh : Shared} {κ : Bs} {w : Wd} {s : DS} {σ : L2.St} {H : Hp} {vs : List V} {ds : List D} {us : List Value} {Q : VK}
    (F : FnOk X.prog X.w X.K X.mg X.base (L2.CX X.prog X.w) k f fd ps (spG G n g)) (hr : Room (k + 1) X.A) (hb : Binds X.K fd ps []) (tk : Takes X W) (I : Inv X pins σ H sh) (ok : Ok G κ w s σ H) (rs : Reps G w vs ds) (r : Vals vs us) (hn : ds.length = n)
    (q : PostG G W (Rep G) κ w σ (lift s (g ds s.st)) Q) : wpAny (model X.prog X.w) X.A.in1 (call (.ref f) us) (EP X pins σ Q) X.xe sh := by
  have h : spG G n g vs H Q (WE W σ) := ⟨by rw [rs.length]; exact hn, w, s.st, ds, ok.fok, rs, postF_of ok q⟩
  have hl : us.length = ps.length := by rw [← r.length]; exact F.len _ _ _ _ h
  have hbb := hb sh us I.kIn (by rw [List.append_nil]; exact hl)
  rw [List.append_nil] at hbb
  refine wpAny_call (codeAny_mono (F.run X.A.in1 X.stack sh H ⟨us, []⟩ us vs Q (WE W σ) hr.in1 I.env0.in1 hbb r h) fun r s' hq => ?_)
  cases r with
  | error e => exact passAt tk σ pins H sh e s' I hq
  | ok fl =>
    cases fl with
    | ret u => exact I.after hq
    | next => exact False.elim hq
    | brk => exact False.elim hq
    | cont => exact False.elim hq
/-- a built-in special method of an instance of an own class -/
theorem ifBound_B {M : Model} {A : Around} {E : Value → Shared → Prop} {s : Shared} {K : PySem.W.Frag} {x C : Addr} {ox : Obj} {od : Option Obj} {name : Str} {id : String} {args : List Value} {Q : Option Value → Shared → Prop} (Xk : K.In s.heap) (I : PySem.W.InstAt s.heap x ox C od)
    (hs : PySem.W.findIn K (.ref C) name = some (some (.builtin id))) (hb : ∀ self, bindSpecial (.builtin id) self = pure (.builtin id, [self]))
    (h : wpAny M A (call (.builtin id) (.ref x :: args)) (fun v => Q (some v)) E s) : wpAny M A (callSpecialIfBound? (.ref x) name args) Q E s := by
  simp only [callSpecialIfBound?, bindSpecialIfBound?]
  refine wpAny_holding (wpAny_bind (wpAny_bind (wpAny_bind (I.type.here ((PySem.W.looks_findIn Xk hs).here ?_)))))
  refine wpAny_bind (wpAny_askSetting (wpAny_ite ?_))
  have fin : wpAny M A (call (.builtin id) ([.ref x] ++ args) >>= fun v => pure (some v)) Q E s := wpAny_bind (wpAny_mono h (fun v s' h' => wpAny_pure h') fun _ _ h' => h')
  simp only [hb]
  split
  · exact wpAny_bind (wpAny_pure (wpAny_pure (by exact fin)))
  · exact wpAny_tryCatch (wpAny_bind (wpAny_pure (wpAny_pure (by exact fin))))
theorem ne_call {prog : Program} {w : World} {A : Around} {E : Value → Shared → Prop} {s : Shared} {K : PySem.W.Frag} {a C b : Addr} {ox : Obj} {od : Option Obj} {Q : Value → Shared → Prop} (Xk : K.In s.heap) (I : PySem.W.InstAt s.heap a ox C od) (hm : PySem.W.mroIn K C (.type "object") = some true)
    (h : wpAny (model prog w) A.in1 (callSpecialIfBound? (.ref a) "__eq__" [.ref b]) (fun r s' => ∃ b, r = some (.bool b) ∧ Q (.bool (!b)) s') E s) (hu : A.in1.units < cLine) : wpAny (model prog w) A (call (.builtin "object.__ne__") [.ref a, .ref b]) Q E s := by
  have L0 := I.type (M := model prog w)
  have L1 := PySem.W.looks_mroIn (M := model prog w) Xk hm
  refine wpAny_call (codeAny_call_builtin PySem.F.cmp_object.ne.plain PySem.F.cmpEntry_ne ?_)
  obtain ⟨hh, g, dr, t, os⟩ := s
  have hk := PySem.F.cmpKind_ne
  have hs := PySem.F.cmpSplit_ne
  have ha := PySem.F.cmpArgs_ne (.ref a) (.ref b)
  have fin : wpAny (model prog w) A.in1 (Builtin.«object.__ne__» ⟨[.ref a, .ref b], []⟩) (fun fin s' => match fin with | .done f => (match (.ok f : Result) with | .ok (.ret v) => Q v s' | .ok _ => False | .error e => E e s') | .again c' => c'.quiet = true ∧ codeAny (model prog w) A c' (fun r s' => match r with | .ok (.ret v) => Q v s' | .ok _ => False | .error e => E e s') s') (fun e s' => E e s') ⟨hh, g, dr, t, os⟩ := by
    unfold Builtin.«object.__ne__»
    rw [show slotArgs "__ne__" 1 ⟨[.ref a, .ref b], []⟩ = pure (.ref a, [.ref b]) from rfl]
    refine wpAny_bind (wpAny_pure (wpAny_bind (wpAny_cRoomFor hu (wpAny_bind (wpAny_mono h (fun r s' hr => ?_) fun _ _ e => e)))))
    obtain ⟨b, rfl, q⟩ := hr
    exact wpAny_bind (wpAny_truthy_bool (wpAny_pure q))
  simp only [checkBuiltinCall, hk, hs]
  refine wpAny_bind ?_
  unfold isInstance
  repeat (first | exact fin | lk)
def negD (r : Res DS D) : Res DS D := match r with
  | .ok (.bl b) s => .ok (.bl (!b)) s
  | .exc x s => .exc x s
  | _ => .stuck
def ownNe (c : String) (g : DFn) : DO2 := fun x y s => negD (ownO c g x y s)
theorem negD_post {κ : Bs} {w : Wd} {σ : L2.St} {r : Res DS D} {Q : VK} (h : PostG G W (Rep G) κ w σ (negD r) Q) : PostG G W (Rep G) κ w σ r (fun v H => ∃ b, v = .bl b ∧ Q (.bl (!b)) H) := by
  cases r with
  | stuck => exact h
  | exc x s => exact h
  | ok d s =>
    cases d with
    | bl b =>
      intro w' v H' l o r
      cases r
      exact ⟨b, rfl, h w' _ H' l o (.bl _)⟩
    | _ => exact h.elim
theorem opx_ownNe {c : String} {C f : Addr} {k : Nat} {fd : FuncData} {ps : List Str} {g : DFn} (hC : G.ct c = some C) (hs : PySem.W.findIn X.K (.ref C) "__eq__" = some (some (.ref f))) (hf : PySem.W.isFn X.K (.ref f) = true)
    (hne : PySem.W.findIn X.K (.ref C) "__ne__" = some (some (.builtin "object.__ne__"))) (hob : PySem.W.mroIn X.K C (.type "object") = some true)
    (F : FnOk X.prog X.w X.K X.mg X.base (L2.CX X.prog X.w) k f fd ps (spG G 2 g)) (hr : Room (k + 1) X.A) (hb : Binds X.K fd ps []) (tk : Takes X W) : OpX G W X (compareOp .NotEq) (ownNe c g) := by
  intro pins sh σ H x y v u κ w s dx dy Q I rx ry ok rdx rdy q
  obtain ⟨a, b, C', dxa, dxb, fa, fb, rfl, rfl, hC', hH, hH', q⟩ := ownO_of ok rdx rdy (negD_post q)
  rw [hC] at hC'
  cases hC'
  cases rx
  cases ry
  obtain ⟨mA, J, _⟩ := ins_get I.hok hH
  obtain ⟨mB, J', _⟩ := ins_get I.hok hH'
  obtain ⟨od, J, _⟩ := J.look
  obtain ⟨od', J', _⟩ := J'.look
  have KX := I.kIn
  show wpAny (model X.prog X.w) X.A (richCompare .NotEq (.ref a) (.ref b)) _ _ _
  -- object.__ne__: __eq__, turned
  have one : wpAny (model X.prog X.w) X.A (tryCompare (.ref a) "__ne__" (.ref b)) (fun r s' => ∃ v, r = some v ∧ EP X pins σ Q v s') X.xe sh := by
    unfold tryCompare
    refine wpAny_bind (ifBound_B KX J hne PySem.F.cmp_object.ne.bind ?_)
    refine wpAny_mono (ne_call (Q := fun v s' => ∃ b, v = .bool b ∧ EP X pins σ Q v s') KX J hob ?_ hr.in1.units0) (fun v s' h => ?_) fun _ _ e => e
    case refine_1 =>
      have hc := callD1 (us := [.ref a, .ref b]) (vs := [.ref a, .ref b]) (ds := [dx, dy]) F hr hb tk I ok (.cons rdx (.cons rdy .nil)) (.cons rfl (.cons rfl .nil)) rfl q
      refine PySem.W.ifBound_K KX J hs hf (wpAny_mono hc (fun v s' h => ?_) fun _ _ e => e)
      obtain ⟨x, H', I', r, b, rfl, q'⟩ := h
      cases r
      exact ⟨b, rfl, !b, rfl, .bl (!b), H', I', rfl, q'⟩
    case refine_2 =>
      obtain ⟨b, rfl, h⟩ := h
      exact wpAny_pure ⟨_, rfl, h⟩
  unfold richCompare
  simp only [oneThing_ref]
  refine wpAny_holding (wpAny_bind (wpAny_cRoomFor hr.units0 ?_))
  refine wpAny_bind (J.type.here (wpAny_bind (J'.type.here ?_)))
  rw [if_neg (by simp)]
  refine wpAny_bind (wpAny_pure ?_)
  simp only [Bool.false_eq_true, if_false]
  refine wpAny_bind (wpAny_mono one (fun r s' z => ?_) fun _ _ e => e)
  obtain ⟨v, rfl, hq⟩ := z
  exact wpAny_pure hq
end
end DL
set_option maxRecDepth 100000
set_option maxHeartbeats 4000000
set_option autoImplicit false
namespace DL
open PySem PySem.Spec PyProof.Rows L2
/-- all that is asked of a class, in one -/
def clsB (K : PySem.W.Frag) (C : Addr) (fs : List Str) : Bool :=
  PySem.W.plainGet K C Str.empty && (PySem.W.hasDictIn K C && (PySem.W.plainOver K C && (PySem.W.makesIn K C && (PySem.W.keepIn K (.ref C) && (PySem.W.selfFirst K C &&
    ((PySem.W.findIn K (.ref C) "__setattr__" == some (some (.builtin "object.__setattr__"))) && ((PySem.W.findIn K (.ref C) "__ne__" == some (some (.builtin "object.__ne__"))) && ((PySem.W.mroIn K C (.type "object") == some true) &&
    ((PySem.W.findIn K (.ref C) "__class__" == some (some (.builtin "object.__class__"))) && ((PySem.W.specialIn K (.builtin "object.__class__") "__get__" == some (some (.builtin "getset_descriptor.__get__"))) && ((PySem.W.takesIn K (.builtin "object.__class__") == some true) &&
    (fs.all (fun f => PySem.W.findIn K (.ref C) f == some none) && tyNames.all fun b => (PySem.W.kitOne K (.ref C) (.type b) == some false) && (PySem.W.kitOne K (.type b) (.ref C) == some false)))))))))))))
structure ClsF (K : PySem.W.Frag) (C : Addr) (fs : List Str) : Prop where
  cl : Cls K C
  makes : PySem.W.makesIn K C = true
  kp : PySem.W.keepIn K (.ref C) = true
  sf : PySem.W.selfFirst K C = true
  ne : PySem.W.findIn K (.ref C) "__ne__" = some (some (.builtin "object.__ne__"))
  mo : PySem.W.mroIn K C (.type "object") = some true
  i1 : PySem.W.findIn K (.ref C) "__class__" = some (some (.builtin "object.__class__"))
  i2 : PySem.W.specialIn K (.builtin "object.__class__") "__get__" = some (some (.builtin "getset_descriptor.__get__"))
  i3 : PySem.W.takesIn K (.builtin "object.__class__") = some true
  na : ∀ f ∈ fs, NoAttr K C f
  bo : ∀ b ∈ tyNames, PySem.W.kitOne K (.ref C) (.type b) = some false ∧ PySem.W.kitOne K (.type b) (.ref C) = some false
theorem clsF {K : PySem.W.Frag} {C : Addr} {fs : List Str} (h : clsB K C fs = true) : ClsF K C fs := by
  unfold clsB at h
  simp only [Bool.and_eq_true, beq_iff_eq, List.all_eq_true] at h
  obtain ⟨h1, h2, h3, h4, h5, h6, h7, h8, h9, h10, h11, h12, h13, h14⟩ := h
  exact ⟨⟨h1, h2, h3, h7⟩, h4, h5, h6, h8, h9, h10, h11, h12, fun f hf => h13 f hf, fun b hb => h14 b hb⟩
/-- the own classes apart from one another -/
theorem isOk_of {G : Gam} {cs : List String} (h1 : ∀ c ∈ cs, ∃ C fs, G.ct c = some C ∧ ClsF G.K C fs) (h2 : ∀ c ∈ cs, ∀ c' ∈ cs, ∀ C C', G.ct c = some C → G.ct c' = some C' → PySem.W.kitOne G.K (.ref C) (.ref C') = some (c == c')) : IsOk G cs := by
  refine ⟨fun c hc C hC => ?_, fun c hc C hC => ?_, h2⟩
  · obtain ⟨C', fs, e, f⟩ := h1 c hc
    rw [hC] at e
    cases e
    exact ⟨f.cl, f.i1, f.i2, f.i3, f.mo⟩
  · obtain ⟨C', fs, e, f⟩ := h1 c hc
    rw [hC] at e
    cases e
    exact f.bo
theorem kit_self {K : PySem.W.Frag} {C : Addr} : PySem.W.kitOne K (.ref C) (.ref C) = some true := by
  unfold PySem.W.kitOne
  rw [if_pos (by simp)]
end DL
set_option maxRecDepth 100000
set_option maxHeartbeats 4000000
set_option autoImplicit false
namespace DL
open PySem PySem.Spec PyProof.Rows L2
/-! ### an own error whose __init__ says super().__init__(x); self.f = x -/
section
variable {P : Program} {W0 : World} {Ar : Around} {Er : Value → Shared → Prop} {hp : Heap} {gs : Array GenState} {dr : Drawn} {tk : Nat} {osS : OsState}
theorem call_mwV {cn cq : Str} {C NN u e t0 : Addr} {b1 b2 sbs : List Value} {hdc abs : Bool} {sns : List Str} {cl : Option Bool} {dd : Option Addr} {j0 j1 j2 j3 j5 : Option Value} {rest : List Value} {Q : Value → Shared → Prop}
    (hC : hp.get? C = some (excClassObj cn cq C NN b1 b2 hdc sns sbs abs cl dd j0 j1 j2 j3 j5 "ValueError.__new__")) (he : hp.get? e = some (HandSPX.excO C t0)) (hu : hp.get? u = some (PySem.W.kxs_mw "ValueError.__init__" e)) (hrest : rest.length ≤ sizeLine)
    (hq : ∀ h' t1, (∀ b o, b ≠ e → hp.get? b = some o → h'.get? b = some o) → h'.get? e = some (HandSPX.excO C t1) → Q .none ⟨h', gs, dr, tk, osS⟩) :
    wpAny (model P W0) Ar (call (.ref u) rest) Q Er ⟨hp, gs, dr, tk, osS⟩ := by
  refine wpAny_call (codeAny_of_tree ?_)
  show wpAny _ Ar.in1 (callAny (.ref u) ⟨rest, []⟩) _ _ _
  simp only [callAny]
  refine wpAny_bind (wpAny_load hu ?_)
  simp only [PySem.W.kxs_mw, show (Value.type "method-wrapper" == Value.type "method" || Value.type "method-wrapper" == Value.type "builtin_function_or_method" || Value.type "method-wrapper" == Value.type "method-wrapper") = true by decide, if_true]
  refine PySem.W.KFB.if_so (by decide) ?_
  refine wpAny_bind (PySem.W.check_bound_init F.excBase_ValueError.toExcCallFacts hC he rfl ?_)
  refine wpAny_bind (wpAny_pure (wpAny_pure ?_))
  refine ⟨Code.quiet_builtin _ (by decide +kernel), codeAny_builtin F.excBase_ValueError.initEntry ?_⟩
  rw [Around.under_plainId F.excBase_ValueError.init.plain _]
  wp_walk
  refine hq _ hp.objs.size (fun b o hb ho => ?_) ?_
  · rw [Heap.get?_update_other _ _ (Ne.symm hb)]
    exact Heap.get?_push_of_some _ ho
  · rw [Heap.get?_update_self _ (Heap.get?_push_of_some _ he) rfl]
    rfl
end
theorem eval_si (x : Str) (env : Env) (p0 p1 p2 p3 p4 : Pos) (hp : (p2.endLine == p4.line) = true) : eval (.Call (.Attribute (.Call (.Name "super" p0) [] [] p1) "__init__" p2) [.Name x p3] [] p4) env = (do
      let ov ← attributeBase (.Call (.Name "super" p0) [] [] p1) "__init__" env (eval (.Call (.Name "super" p0) [] [] p1) env)
      standAt p2.atName
      let (f, first) ← holding [ov] (getMethod ov "__init__" (do return (← importBound (.Call (.Name "super" p0) [] [] p1) env).getD true))
      callWith p4 f first (backTo p4 (starEach [.Name x p3] env)) []) := by
  have h : ∀ fm, methodCallPos fm (.Call (.Name "super" p0) [] [] p1) env p2 p4 = pure p4 := fun fm => by
    unfold methodCallPos
    rw [hp]
    simp
  show (do
      let ov ← attributeBase (.Call (.Name "super" p0) [] [] p1) "__init__" env (eval (.Call (.Name "super" p0) [] [] p1) env)
      standAt p2.atName
      let (f, first) ← holding [ov] (calleeOf true (.Call (.Name "super" p0) [] [] p1) env ov "__init__")
      let callPos ← methodCallPos true (.Call (.Name "super" p0) [] [] p1) env p2 p4
      callWith callPos f first (backTo p4 (starEach [.Name x p3] env)) []) = _
  rw [h]
  rfl
def spX (C : Addr) (f : Str) : Sp := fun vs H Q _ => ∃ (a : Addr) (y : V), vs = [.ref a, y] ∧ H a = some (exo a C none) ∧ ∀ dx, H dx = none → dx ≠ a → Q .non (upd (upd H dx (exd dx [(f, y)])) a (exo a C (some dx)))
/-- what the text and the linked part say of such a def -/
structure XIn (P : Program) (K : PySem.W.Frag) (mg : Str → Option Value) (C fI : Addr) (fd : FuncData) (slf x f : Str) : Prop where
  ex : ∃ (oc doc pm dV kV ct ccl cl : Value) (od an cdd cld : Option Addr) (osl ccs csl : Array (Option Value)) (cda cc : Addr) (name qual file : Str) (params : Arguments) (scope : Scope) (vs : Array Value) (tf : Tok) (ar : Arg) (p0 p1 p2 p3 p4 p5 p6 p7 p8 p9 : Pos),
    fd = PySem.W.fnX name qual params [.Expr (.Call (.Attribute (.Call (.Name "super" p0) [] [] p1) "__init__" p2) [.Name x p3] [] p4) p5, .Assign [.Attribute (.Name slf p6) f p7] (.Name x p8) p9] scope [("__class__", cc)] dV kV doc pm an (.ref cda) ct ∧
    K.lookup fI = some ⟨oc, od, .func fd, osl⟩ ∧ PySem.W.codeIn K (.ref cda) qual = true ∧ (params.posonlyargs ++ params.args).head? = some ar ∧ ar.arg = slf ∧
    K.lookup cda = some ⟨ccl, cdd, .fields vs, ccs⟩ ∧ vs[2]? = some (.str file tf) ∧ ((P.main.file : Str) == file) = true ∧ K.lookup cc = some ⟨cl, cld, .cell (some (.ref C)), csl⟩ ∧
    scope.names.lookup ("super" : Str) = some .globalImplicit ∧ scope.names.lookup ("__class__" : Str) = some .free ∧ scope.names.lookup slf = some .local ∧ scope.names.lookup x = some .local ∧ (∀ z ∈ scope.names, z.2 ≠ .cell) ∧ scope.kind = .function ∧ scope.isCoroutine = false ∧ scope.isGenerator = false ∧ (p2.endLine == p4.line) = true
  top : (P.main.scope.names.lookup ("super" : Str)).isSome = false
  sup : mg "super" = none
  self : PySem.W.mroIn K C (.ref C) = some true
  al : PySem.W.ks_superIn K C C "__init__" = some (some (.builtin "ValueError.__init__"))
  ve : PySem.W.subIn K (.ref C) (.type "ValueError") = some true
  any : PySem.W.nsIn K cStatics "thirdparty.any" = some none
  cls : OexC K C
  no : PySem.W.findIn K (.ref C) f = some none
  ds : (slf == ("__debug__" : Str)) = false
  dx : (x == ("__debug__" : Str)) = false
  sx : slf ≠ x
theorem x_ok {P : Program} {w0 : World} {K : PySem.W.Frag} {mg : Str → Option Value} {base : Heap} {CX : CXT} {C fI : Addr} {fd : FuncData} {slf x f : Str} (T : XIn P K mg C fI fd slf x f) : FnOk P w0 K mg base CX 1 fI fd [slf, x] (spX C f) := by
  obtain ⟨⟨oc, doc, pm, dV, kV, ct, ccl, cl, od, an, cdd, cld, osl, ccs, csl, cda, cc, name, qual, file, params, scope, vs, tf, ar, p0, p1, p2, p3, p4, p5, p6, p7, p8, p9, efd, lk, hcd, har, hars, lcd, hvs, hfile, lcc, ksup, kcls, kslf, kx, kcell, kk, kco, kgen, kpos⟩, htop, hsup, hself, hal, hve, hany, hcls, hno, hds, hdx, hsx⟩ := T
  subst efd
  refine ⟨fun vs H Q E ⟨a, y, e, _⟩ => by rw [e]; rfl, fun A outer s H args us vs' Q E hr e0 hb hv hsp => ?_⟩
  obtain ⟨a, y, rfl, ea, hq⟩ := hsp
  cases hv with
  | @cons _ u0 _ ur ra rest =>
  cases rest with
  | @cons _ u _ ur2 ry rest =>
  cases rest
  obtain rfl : u0 = Value.ref a := ra
  have KX : K.In s.heap := e0.mod.kin.keeps fun b o e => (e0.bs b o e).1
  have lim : s.heap.NoLimit := e0.mod.nolimit.keeps fun b o e => (e0.bs b o e).1
  obtain ⟨t0, hea⟩ := exo_at e0.hok ea
  obtain ⟨cn, cq, NS, b1, b2, sns, sbs, abs, col, dd, j0, j1, j2, j3, j5, hC, hbm⟩ := hcls.cls
  have hcl : PySem.W.clsIn K C = some { name := cn, bases := b1, mro := .ref C :: b2, ns := NS, qualname := cq, hasDict := true, slotNames := sns, subclasses := sbs, abstract := abs, collection := col, hasDel := false } := by unfold PySem.W.clsIn; rw [hC] <;> rfl
  refine ks_codeAny_call_defAt (binds := [(slf, .ref a), (x, u)]) hr.depth (KX _ _ lk) rfl lim (PySem.W.codeRec_of KX hcd) rfl hb kcell (fun z hz => ?_) (fun h0 hns hk0 => ?_) kco kgen kk
  · rcases List.mem_cons.mp hz with rfl | hz
    · exact kslf
    · rcases List.mem_cons.mp hz with rfl | hz
      · exact kx
      · cases hz
  have X0 : K.In h0 := KX.keeps hk0
  have ns_s : (fun y => ([(slf, Value.ref a), (x, u)] : List (Str × Value)).reverse.lookup y) slf = some (.ref a) := by
    have : (slf == x) = false := by simpa using hsx
    simp [List.lookup, this]
  have ns_x : (fun y => ([(slf, Value.ref a), (x, u)] : List (Str × Value)).reverse.lookup y) x = some u := by simp [List.lookup]
  have hea0 := hk0 _ _ hea
  have oC : s.heap.get? C = some _ := KX _ _ hC
  have ne_aC : a ≠ C := fun z => by
    rw [z, oC] at hea
    cases hea
  refine ks_wpAt_execs_cons (ks_wpAt_Expr_any (ks_wpAt_MethodCall ?_ (eval_si x _ p0 p1 p2 p3 p4 kpos)) (hi := by show (scope.kind == .module && _) = false; rw [kk]; rfl))
  refine ks_wpAt_super_base ksup kcls (by decide) rfl (X0 _ _ lk) rfl har rfl (X0 _ _ lcd) rfl hvs hfile htop ?_
  obtain ⟨mb, hb1, hb2⟩ := e0.mod.blt
  have bk : ∀ b o, base.get? b = some o → h0.get? b = some o := fun b o e => hk0 _ _ (e0.bs b o e).1
  refine PySem.W.ks_loadName_global kk ksup (Calls.loadGlobal_builtin (e0.mod.glob.keeps bk) hsup (hb1.keeps bk) ((hb2 _ (by decide)).trans PyProof.Rows.Boot.«super») ⟨rfl, ?_⟩)
  refine wpAny_loadName_free kk kcls (c := cc) rfl ⟨_, X0 _ _ lcc, rfl⟩ ?_
  rw [hars]
  refine wpAny_loadName_local kk kslf hns ns_s ?_
  refine ks_wpAny_isType_cls (X0 _ _ hC) rfl ⟨rfl, ?_⟩
  refine ks_wpAny_call_super (X0 _ _ hC) rfl hea0 rfl (fun c z => nomatch z) (PySem.W.looks_mroIn X0 hself) (fun h1 hso hk1 => ?_)
  have X1 : K.In h1 := X0.keeps hk1
  have hea1 := hk1 _ _ hea0
  have inst1 : PySem.W.InstAt h1 a _ C none := ⟨hea1, rfl, rfl, trivial⟩
  have hI : PySem.W.Looks (model P w0) h1 (isInstance (.ref a) (.type "ValueError")) true := inst1.type.andThen (PySem.W.looks_subIn X1 hve)
  have hmro : PySem.W.Looks (model P w0) h1 (mroOf (.ref C)) (.ref C :: b2) := (PySem.W.looks_clsIn X1 hcl).andThen .now
  have hal' : PySem.W.alongIn K "__init__" (((Value.ref C :: b2).dropWhile (· != .ref C)).drop 1) = some (some (.builtin "ValueError.__init__")) := by
    unfold PySem.W.ks_superIn at hal
    rw [hcl] at hal
    exact hal
  refine PySem.W.kxs_getMethod PySem.W.kxs_ValueError hso (PySem.W.looks_opaque X1 hany) hmro rfl X1 hal' hI ne_aC (by decide) ?_
  have hmw : (h1.push (PySem.W.kxs_mw "ValueError.__init__" a)).get? h1.objs.size = some (PySem.W.kxs_mw "ValueError.__init__" a) := Heap.get?_push_at rfl rfl
  have kp2 : ∀ b o, h1.get? b = some o → (h1.push (PySem.W.kxs_mw "ValueError.__init__" a)).get? b = some o := fun b o e => Heap.get?_push_of_some _ e
  have ns2 : (h1.push (PySem.W.kxs_mw "ValueError.__init__" a)).Ns s.heap.objs.size (fun y => ([(slf, Value.ref a), (x, u)] : List (Str × Value)).reverse.lookup y) := (hns.keeps hk1).keeps kp2
  refine PySem.W.kxs_callWith (i := "ValueError.__init__") (x := a) rfl ?_
  refine Calls.evalArgs_plain (Calls.spliced_cons (wpAny_Name (wpAny_loadName_local kk kx ns2 ns_x (Calls.spliced_nil ⟨hmw, ?_⟩)) hdx))
  refine call_mwV (X1.keeps kp2 _ _ hC) (kp2 _ _ hea1) hmw (by rw [sizeLine_eq]; show 1 ≤ _; decide) fun h3 t1 hk3 hea3 => ?_
  have lt0 : ∀ {b : Addr} {o : Obj}, s.heap.get? b = some o → b ≠ s.heap.objs.size := fun e => Nat.ne_of_lt (Heap.lt_size e)
  have kall : ∀ b o, b ≠ a → s.heap.get? b = some o → h3.get? b = some o := fun b o hb e => hk3 b o hb (kp2 _ _ (hk1 _ _ (hk0 _ _ e)))
  have ne_aL : s.heap.objs.size ≠ a := fun z => lt0 hea z.symm
  have X3 : K.In h3 := fun b o e => hk3 b o (fun z => by
    have := (e0.bs b o (e0.mod.kin b o e)).2
    rw [z, ea] at this
    cases this) (kp2 _ _ (X1 b o e))
  have ns3 : h3.Ns s.heap.objs.size (fun y => ([(slf, Value.ref a), (x, u)] : List (Str × Value)).reverse.lookup y) := by
    obtain ⟨ob, es, ep, ho, r⟩ := ns2
    exact ⟨ob, es, ep, hk3 _ _ ne_aL ho, r⟩
  show PySem.wpAt _ _ _ (execs [_] _) _ _ _
  refine ks_wpAt_execs_cons (PySem.wpAt_of_wpAny (plainObj_wpAny_Assign_Attribute (wpAny_Name (wpAny_loadName_local kk kx ns3 ns_x (wpAny_Name (wpAny_loadName_local kk kslf ns3 ns_s ?_) hds)) hdx)))
  refine PySem.W.set_plain (ox := { cls := .ref C, dict := none, data := .fields #[.ref t1, .none, .none, .none, .bool false, .none] }) (od := none) X3 ⟨hea3, rfl, rfl, trivial⟩ hcls.sa ?_
  refine PySem.HandSPX.exc_osa X3 hea3 hcl (show PySem.HandSPX.refsVE (.ref C :: b2) = true from hbm) rfl hno (fun h4 tk4 dxa hk4 dn dne hx4 hn4 => ?_)
  refine PySem.wpAt_of_wpAny (wpAny_execs_nil ?_)
  have szL : s.heap.objs.size < h3.objs.size := by
    obtain ⟨ob, _, _, ho, _⟩ := ns3
    exact Heap.lt_size ho
  have hnd : H dxa = none := e0.hok.fresh (Nat.le_trans (Nat.le_of_lt szL) dn)
  have kfin : ∀ b o, b ≠ a → s.heap.get? b = some o → h4.get? b = some o := fun b o hb e => hk4 b o hb (kall b o hb e)
  have ndx : ∀ {b : Addr} {o : Obj}, s.heap.get? b = some o → b ≠ dxa := fun {b o} e => Nat.ne_of_lt (Nat.lt_of_lt_of_le (Nat.lt_trans (Heap.lt_size e) szL) dn)
  have na : ∀ {b : Addr}, H b = none → b ≠ a := fun {b} n z => by
    rw [z, ea] at n
    cases n
  refine ⟨.non, upd (upd H dxa (exd dxa [(f, y)])) a (exo a C (some dxa)), rfl, e0.bare, ?_, ?_, rfl, hq dxa hnd dne⟩
  · exact {
      keep := fun b o e n _ _ => kfin b o (na n) e
      slot := fun b o e n _ _ => ⟨o.slots, kfin b o (na n) e⟩
      free := fun b o e n _ => by rw [upd_ne (na n), upd_ne (ndx e)]; exact n
      there := fun b o e _ => by
        by_cases hb : b = a
        · exact ⟨_, by rw [hb]; exact hx4⟩
        · exact ⟨o, kfin b o hb e⟩
      tups := fun b xs e => by rw [upd_ne (at_ne ea e exo_tup), upd_ne (ne_of_none e hnd)]; exact e
      frzs := fun b o v e => by rw [upd_ne (at_ne ea e exo_frz), upd_ne (ne_of_none e hnd)]; exact e
      tbls := fun b ps e => ⟨#[], by rw [upd_ne (at_ne ea e exo_tbl), upd_ne (ne_of_none e hnd), e]; simp⟩ }
  · intro b o e
    by_cases hb : b = a
    · subst hb
      rw [upd_same] at e
      cases e
      exact exo_ok hx4
    · rw [upd_ne hb] at e
      by_cases hd : b = dxa
      · subst hd
        rw [upd_same] at e
        cases e
        exact exd_ok hn4 (relO_put (fs := []) ry fun g => True.intro)
      · rw [upd_ne hd] at e
        refine (e0.hok b o e).stay (fun c v hc z => kfin c v ?_ z) (fun c hc => ?_) (fun c xs hc => ?_)
        · rcases hc with hc | hc
          · rw [hc]; exact hb
          · exact at_ne ea hc exo_own
        · rw [upd_ne (at_ne ea hc exo_own), upd_ne (ne_of_none hc hnd)]; exact hc
        · rw [upd_ne (at_ne ea hc exo_tup), upd_ne (ne_of_none hc hnd)]; exact hc
/-! ### raise C(e) -/
def sRaise (c : String) (f : Nm) (fa : DA) : DStm := fun s => (fa s).bind fun ds s1 => match ds with
  | [d] => .exc ⟨c, [(f, d)]⟩ s1
  | _ => .stuck
/-- an own error class: made by its own __init__ -/
structure XCls (G : Gam) (K : PySem.W.Frag) (c : String) (C fI : Addr) : Prop where
  ct : G.ct c = some C
  ini : PySem.W.findIn K (.ref C) "__init__" = some (some (.ref fI))
  ty : PySem.W.typeIn K (.ref fI) = some (.type "function")
  cls : OexC K C
section
variable {G : Gam} {W : WX} {X : Cx}
theorem pds_raise {c : String} {C fI : Addr} {fd : FuncData} {slf xp f x : Str} {fn : Nm} {e : Expr} {fa : DA} {p pos pos' : Pos} (hc : X.calm = true) (tk : Takes X W) (T : XCls G X.K c C fI) (T2 : XIn X.prog X.K X.mg C fI fd slf xp f) (hf : f = nm fn) (hb : Binds X.K fd [slf, xp] [])
    (hr : Room 2 X.A) (hg : Gl X x) (hm : X.mg x = some (.ref C)) (ha : PDA G W X [e] fa) (hdb : (x == ("__debug__" : Str)) = false := by decide) (he : starEach [e] X.env = (false, eval e X.env) :: starEach [] X.env := by rfl) :
    PDS G W X (.Raise (some (.Call (.Name x p) [e] [] pos)) none pos') (sRaise c fn fa) :=
  (ps_raise hc tk (pmk_oex (CX := L2.CX X.prog X.w) T.cls T.ini T.ty (x_ok T2) hr hb .nil (passes_call tk fun _ _ _ _ z => z.elim) hg hm ha hdb he)).imp fun N σ H ⟨κ, w, s, ok, q⟩ => ⟨κ, w, s, ok, (PostG.bindS q).imp fun vs H1 ⟨ds, s1, w1, le, ok1, rs, q1⟩ => by
    match ds, q1 with
    | [d], q1 =>
      cases rs with
      | @cons v _ vs' _ r rs =>
      cases rs
      refine ⟨by show 1 ≤ 1000; decide, fun a ha => ⟨a, v, rfl, upd_same, fun dx h1 h2 => ⟨rfl, dx, [(f, v)], ?_, ?_, ?_, ?_⟩⟩⟩
      · exact upd_same
      · rw [upd_ne h2, upd_same]
      · rw [upd_ne h2] at h1; exact h1
      · rw [upd_ne h2] at h1
        have eH : upd (del (upd (upd (upd H1 a (exo a C none)) dx (exd dx [(f, v)])) a (exo a C (some dx))) a) dx (.xd [(f, v)]) = upd H1 dx (.xd [(f, v)]) := by
          funext b
          by_cases hb : b = dx
          · rw [hb, upd_same, upd_same]
          · rw [upd_ne hb, upd_ne hb]
            by_cases hba : b = a
            · rw [hba, del_same, ha]
            · rw [del_ne hba, upd_ne hba, upd_ne hb, upd_ne hba]
        rw [eH]
        obtain ⟨le2, ok2⟩ := ok1.alloc h1 (.xd [(f, v)])
        exact q1 _ σ (.ref C) (some dx) _ le2 ok2 ⟨C, T.ct, rfl, .inr ⟨dx, [(f, v)], rfl, upd_same, by subst hf; exact .cons (r.mono le2) .nil⟩⟩
    | [], q1 => exact q1.elim
    | _ :: _ :: _, q1 => exact q1.elim⟩
end
end DL
set_option maxRecDepth 100000
set_option maxHeartbeats 4000000
set_option autoImplicit false
namespace DL
open PySem PySem.Spec PyProof.Rows L2
/-! ### try with several clauses, each with a name or without -/
abbrev HTs := Addr → Value → Option Addr → TS
def unset (D : Ends) (i : Nat) : Ends := { nx := fun τ Z => D.nx (τ.set i none) Z, rt := D.rt, bk := fun τ Z => D.bk (τ.set i none) Z, ct := fun τ Z => D.ct (τ.set i none) Z }
def wHd (K : PySem.W.Frag) (Wo : WX) (D : Ends) : List (Value × Option Nat × HTs) → WX
  | [] => Wo
  | (c, none, ts) :: r => fun cl dd τ Z => ∃ b, PySem.W.exmOne K cl c = some b ∧ (b = true → ∀ a, Z a = none → ts a cl dd D τ Z) ∧ (b = false → wHd K Wo D r cl dd τ Z)
  | (c, some i, ts) :: r => fun cl dd τ Z => ∃ b, PySem.W.exmOne K cl c = some b ∧ (b = true → ∀ a, Z a = none → ts a cl dd (unset D i) (τ.set i (some (.ref a))) Z) ∧ (b = false → wHd K Wo D r cl dd τ Z)
/-- the suite of a clause -/
def SuOk (X : Cx) (st : List Stmt) (ts : HTs) : Prop := ∀ (a : Addr) (ob : Obj) (cl : Value) (dd : Option Addr) (pn : List (Addr × Obj)), Zc cl dd ob → (∃ vs, ob.data = .fields vs) → PSs (X.suite a ((a, ob) :: pn)) st (ts a cl dd)
inductive HdA (X : Cx) : List ExceptHandler → List (Value × Option Nat × HTs) → Prop
  | nil : HdA X [] []
  | bare {x : Str} {c : Value} {ts : HTs} {s0 : Stmt} {su : List Stmt} {np pp : Pos} {hs : List ExceptHandler} {l : List (Value × Option Nat × HTs)} (nc : Names X x c) (ok : SuOk X (s0 :: su) ts) (r : HdA X hs l) :
      HdA X (.ExceptHandler (some (.Name x np)) none (s0 :: su) pp :: hs) ((c, none, ts) :: l)
  | as_ {x n : Str} {i : Nat} {c : Value} {ts : HTs} {s0 : Stmt} {su : List Stmt} {np pp : Pos} {hs : List ExceptHandler} {l : List (Value × Option Nat × HTs)} (nc : Names X x c) (hi : X.N[i]? = some n) (hl : X.env.kindOf n = some .local) (ok : SuOk X (s0 :: su) ts) (r : HdA X hs l) :
      HdA X (.ExceptHandler (some (.Name x np)) (some n) (s0 :: su) pp :: hs) ((c, some i, ts) :: l)
section
variable {X : Cx} {bd : List Stmt} {g0 : ExceptHandler} {gs : List ExceptHandler} {l : List (Value × Option Nat × HTs)} {tpos : Pos} {tb : WX → TS} {Wo : WX}
theorem ps_tryA (est : X.stack = X.env :: X.outer) (efr : X.env.frame = some X.env.locals) (nd : X.N.Nodup) (tk : Takes X Wo)
    (hbd : ∀ (Wi : WX) (pn : List (Addr × Obj)) (xe : Value → Shared → Prop), Takes (X.tr pn xe) Wi → PassesOwn (model X.prog X.w) X.A X.env xe → PSs (X.tr pn xe) bd (tb Wi)) (hh : HdA X (g0 :: gs) l) :
    PS X (.Try bd (g0 :: gs) [] [] tpos) (fun D τ Z => tb (wHd X.K Wo D l) D τ Z) := by
  refine ⟨fun pins sh τ Z D I h => ?_⟩
  have okX := I.ok
  have frX : X.A.frames = some (X.env :: X.outer) := by rw [okX.frames, est]
  let xeT : Value → Shared → Prop := fun e z1 => wpAny (model X.prog X.w) X.A (noteFrame e X.env) (fun _ z2 => wpAny (model X.prog X.w) X.A (setFlight e none) (fun _ z3 => wpAny (model X.prog X.w) X.A (handleBy e X.env (g0 :: gs)) (SP X pins D) X.xe z3) X.xe z2) X.xe z1
  refine wpAny_Try_except (wpAny_mono ((hbd (wHd X.K Wo D l) (X.pn ++ pins) xeT (fun u sh' xx => ?_) PassesOwn.looking).run [] sh τ Z D (I.toTry _) h) (fun fl sh1 hsp => ?_) (fun e sh1 he => he))
  · obtain ⟨a, Bh, sI, pins', τ', Z', cl, dd, rfl, J', nb, up, sky, na, eos, ag, wish⟩ := xx
    have J : Inv X pins τ' Z' sI := J'.ofTry okX
    have sky2 : Sky Bh (X.env :: X.outer) a (Zc cl dd) X.env.locals sh'.heap := est ▸ sky
    show wpAny (model X.prog X.w) X.A (noteFrame (.ref a) X.env) _ _ _
    refine Sky.land Zc.steady frX efr sky2 fun h3 fl3 up3 => ?_
    have J3 : Inv X pins τ' Z' { sh' with heap := h3 } := J.landed nb fl3.1 (up.trans up3) eos ag
    obtain ⟨ob3, vs3, he3, hz3, hd3⟩ := fl3.there
    have nfr : a ∉ frs (X.env :: X.outer) := fun hm => by
      obtain ⟨_, o', e', hnf⟩ := fl3.2.2.1.mem hm
      rw [he3] at e'
      cases e'
      exact hnf _ hd3
    have nL : a ≠ X.env.locals := fun z => nfr (List.mem_filterMap.mpr ⟨X.env, List.mem_cons_self, efr.trans (congrArg some z.symm)⟩)
    have nF : a ∉ X.fs := fun hm => by
      obtain ⟨ev, hev, eq⟩ := List.mem_filterMap.mp hm
      exact nfr (List.mem_filterMap.mpr ⟨ev, List.mem_cons_of_mem _ hev, eq⟩)
    have S3 := J3.suite he3 hd3 na nL nF
    have LT : PySem.W.Looks (model X.prog X.w) h3 (typeOf (.ref a)) cl := fun A Q E z k q => wpAny_typeOf_ref (k _ _ he3) (hz3.1.symm ▸ q)
    have test : ∀ {x : Str} {c : Value} {np : Pos} {Q : Value → Shared → Prop} {E : Value → Shared → Prop}, Names X x c → Q c { sh' with heap := h3 } → wpAny (model X.prog X.w) (X.A.mark (some (.ref a))) (eval (.Name x np) X.env) Q E { sh' with heap := h3 } := fun {x c np Q E} nc q => by
      obtain ⟨hg, hdb, hm | ⟨hm, hv, hnn⟩⟩ := nc
      · exact ld_glob (X := X.suite a ((a, ob3) :: (X.pn ++ pins))) S3 hg hm q hdb
      · exact ld_blt (X := X.suite a ((a, ob3) :: (X.pn ++ pins))) S3 hg hm hv q hnn hdb
    have go : ∀ {gs' : List ExceptHandler} {l' : List (Value × Option Nat × HTs)}, HdA X gs' l' → wHd X.K Wo D l' cl dd τ' Z' → wpAny (model X.prog X.w) X.A (handleBy (.ref a) X.env gs') (SP X pins D) X.xe { sh' with heap := h3 } := by
      intro gs' l' hk
      induction hk with
      | nil =>
        intro wish
        refine wpAny_handleBy_nil ?_
        obtain ⟨_, _, _, oe, vs, Tb, _, _, he, _, hd, h1, _⟩ := id fl3
        unfold PySem.passOn
        refine wpAny_bind (wpAny_field he hd h1 ?_)
        rw [if_neg (show ¬ ((Value.ref Tb == Value.none) = true) by simp)]
        have fin : wpAny (model X.prog X.w) X.A (setFlight (.ref a) X.env.frame) (fun _ z4 => wpAny (model X.prog X.w) X.A (throw (.ref a) : Sem Flow) (SP X pins D) X.xe z4) X.xe { sh' with heap := h3 } := by
          rw [efr]
          refine HandSPX.setFlight_upZ fl3 fun h4 hh4 up4 => wpAny_throw (tk _ _ ⟨a, Bh, sI, pins, τ', Z', cl, dd, rfl, J, nb, (up.trans up3).trans up4, .inr (.inr ?_), na, eos, ag, wish⟩)
          rw [est]
          exact hh4
        first
          | exact wpAny_bind (wpAny_pure (wpAny_bind fin))
          | exact wpAny_bind fin
      | @bare x c ts s0 su np pp hs2 l2 nc ok r ih =>
        intro wish
        obtain ⟨b, hb1, yes, no⟩ := wish
        refine wpAny_handleBy_cons (codeAny_handlers_test (test nc ((PySem.W.exm_one (M := model X.prog X.w) J3.kIn LT hb1).here ?_))) (by intro q; cases q)
        cases b with
        | false => exact ih (no rfl)
        | true =>
          refine codeAny_handlers_suite (HandSPX.lands_againZ fl3 fun h4 fl4 up4 => ?_)
          have J4 : Inv X pins τ' Z' { sh' with heap := h4 } := J.landed nb fl4.1 ((up.trans up3).trans up4) eos ag
          obtain ⟨ob4, vs4, he4, hz4, hd4⟩ := fl4.there
          refine wpAny_mono ((ok a ob4 cl dd (X.pn ++ pins) hz4 ⟨_, hd4⟩).run [] _ _ Z' _ (J4.suite he4 hd4 na nL nF) (yes rfl a na)) (fun fl z6 hsp => ?_) (fun _ _ z => False.elim z)
          cases fl with
          | ret u => obtain ⟨_, _, _, S6, r6, q6⟩ := hsp; exact ⟨_, _, _, S6.unsuite okX, r6, q6⟩
          | next => obtain ⟨_, _, S6, q6⟩ := hsp; exact ⟨_, _, S6.unsuite okX, q6⟩
          | brk => obtain ⟨_, _, S6, q6⟩ := hsp; exact ⟨_, _, S6.unsuite okX, q6⟩
          | cont => obtain ⟨_, _, S6, q6⟩ := hsp; exact ⟨_, _, S6.unsuite okX, q6⟩
      | @as_ x n i c ts s0 su np pp hs2 l2 nc hi hl ok r ih =>
        intro wish
        obtain ⟨b, hb1, yes, no⟩ := wish
        refine wpAny_handleBy_cons (codeAny_handlers_test (test nc ((PySem.W.exm_one (M := model X.prog X.w) J3.kIn LT hb1).here ?_))) (by intro q; cases q)
        cases b with
        | false => exact ih (no rfl)
        | true =>
          refine codeAny_handlers_suite_as (HandSPX.lands_againZ fl3 fun h4 fl4 up4 => ?_)
          have J4 : Inv X pins τ' Z' { sh' with heap := h4 } := J.landed nb fl4.1 ((up.trans up3).trans up4) eos ag
          obtain ⟨ob4, vs4, he4, hz4, hd4⟩ := fl4.there
          refine store_ok (X := X.suite a ((a, ob4) :: (X.pn ++ pins))) (v := .ref a) (J4.suite he4 hd4 na nL nF) nd hi (.inl hl) rfl (fun z5 S5 => ?_) (.inr hl)
          refine wpAny_mono ((ok a ob4 cl dd (X.pn ++ pins) hz4 ⟨_, hd4⟩).run [] z5 _ Z' _ S5 (yes rfl a na)) (fun fl z6 hsp => ?_) (fun _ _ z => False.elim z)
          have fin : ∀ {τ6 : L2.St} {Z6 : Hp} {R : Shared → Prop}, Inv (X.suite a ((a, ob4) :: (X.pn ++ pins))) [] τ6 Z6 z6 → (∀ z7, Inv X pins (τ6.set i none) Z6 z7 → R z7) → wpAny (model X.prog X.w) X.A (do bindName X.env n .none; unbindBehindTheSuite X.env n pp) (fun _ z7 => R z7) X.xe z6 := fun {τ6 Z6 R} S6 hq => gone_ok (S6.unsuite okX) nd hi hl hq
          cases fl with
          | ret u => obtain ⟨_, _, _, S6, r6, q6⟩ := hsp; exact fin S6 fun _ J7 => ⟨_, _, _, J7, r6, q6⟩
          | next => obtain ⟨_, _, S6, q6⟩ := hsp; exact fin S6 fun _ J7 => ⟨_, _, J7, q6⟩
          | brk => obtain ⟨_, _, S6, q6⟩ := hsp; exact fin S6 fun _ J7 => ⟨_, _, J7, q6⟩
          | cont => obtain ⟨_, _, S6, q6⟩ := hsp; exact fin S6 fun _ J7 => ⟨_, _, J7, q6⟩
    exact go hh wish
  · cases fl with
    | ret u => obtain ⟨v, τ', Z', J', r, q⟩ := hsp; exact ⟨v, τ', Z', J'.ofTry okX, r, q⟩
    | next => obtain ⟨τ', Z', J', q⟩ := hsp; exact wpAny_execs_nil ⟨τ', Z', J'.ofTry okX, q⟩
    | brk => obtain ⟨τ', Z', J', q⟩ := hsp; exact ⟨τ', Z', J'.ofTry okX, q⟩
    | cont => obtain ⟨τ', Z', J', q⟩ := hsp; exact ⟨τ', Z', J'.ofTry okX, q⟩
end
/-! ### the same as a reading -/
section
variable {G : Gam} {W : WX} {X : Cx}
theorem Ok.setUn {κ : Bs} {w : Wd} {s : DS} {σ : L2.St} {H : Hp} (h : Ok G κ w s σ H) (i : Nat) (v : Option V) : Ok G κ w ⟨s.sl.set i .un, s.st⟩ (σ.set i v) H := by
  have inn : ∀ {j : Nat} {x : Sl}, (s.sl.set i .un)[j]? = some x → (x = .un) ∨ (j ≠ i ∧ s.sl[j]? = some x) := fun {j x} e => by
    by_cases hj : i = j
    · subst hj
      by_cases hv : i < s.sl.length
      · rw [List.getElem?_set_self hv] at e
        exact .inl (Option.some.inj e).symm
      · rw [List.getElem?_eq_none (by simpa using hv)] at e; cases e
    · rw [List.getElem?_set_ne hj] at e
      exact .inr ⟨fun z => hj z.symm, e⟩
  have out : ∀ {j : Nat}, j ≠ i → (σ.set i v)[j]? = σ[j]? := fun {j} n => List.getElem?_set_ne (fun z => n z.symm)
  refine ⟨h.fok, h.nx, by simpa using h.len, fun j d e => ?_, fun j x e o => ?_, fun j k x y a e1 e2 o1 o2 h1 h2 => ?_, fun p hp => ?_, fun a ha c fs e => ?_⟩
  · rcases inn e with z | ⟨z, e⟩
    · cases z
    · rw [out z]; exact h.val j d e
  · rcases inn e with z | ⟨z, e⟩
    · subst z; cases o
    · rw [out z]; exact h.own j x e o
  · rcases inn e1 with z | ⟨z, e1⟩
    · subst z; cases o1
    · rcases inn e2 with z' | ⟨z', e2⟩
      · subst z'; cases o2
      · rw [out z] at h1
        rw [out z'] at h2
        exact h.ne j k x y a e1 e2 o1 o2 h1 h2
  · obtain ⟨q1, q2, q3, q4, q5⟩ := h.gam p hp
    refine ⟨q1, q2, q3, q4, fun j x e o => ?_⟩
    rcases inn e with z | ⟨z, e⟩
    · subst z; cases o
    · rw [out z]; exact q5 j x e o
  · rcases inn e with z | ⟨z, e⟩
    · cases z
    · rw [out z]; exact h.me a ha c fs e
theorem RepX.mono {w w' : Wd} {c : Value} {dd : Option Addr} {x : Xc} (h : RepX G w c dd x) (le : w.le w') : RepX G w' c dd x := by
  obtain ⟨C, h1, h2, h3⟩ := h
  refine ⟨C, h1, h2, ?_⟩
  rcases h3 with h3 | ⟨a, vs, e1, e2, e3⟩
  · exact .inl h3
  · exact .inr ⟨a, vs, e1, le.1 _ _ e2, e3.mono le⟩
structure HdR where
  c : Value
  oi : Option Nat
  m : String → Option Bool
  f : Xc → DStm
def unD (i : Nat) (r : Res DS Out) : Res DS Out := r.bind fun o s => .ok o ⟨s.sl.set i .un, s.st⟩
def catchD : List HdR → Xc → DStm
  | [], x, s => .exc x s
  | ⟨_, none, m, f⟩ :: r, x, s => match m x.cls with
    | some true => noX (f x s)
    | some false => catchD r x s
    | none => .stuck
  | ⟨_, some i, m, f⟩ :: r, x, s => match m x.cls with
    | some true => if i < s.sl.length then unD i (noX (f x ⟨s.sl.set i .un, s.st⟩)) else .stuck
    | some false => catchD r x s
    | none => .stuck
def sTry (b : DStm) (hs : List HdR) : DStm := fun s => match b s with
  | .exc x s1 => catchD hs x s1
  | r => r
/-- what is known of the caught one -/
def Fx (G : Gam) (oi : Option Nat) (a : Addr) (cl : Value) (dd : Option Addr) (x : Xc) (w : Wd) (σ : L2.St) : Prop := (∀ i, oi = some i → σ[i]? = some (some (.ref a))) ∧ RepX G w cl dd x
def tXS (G : Gam) (oi : Option Nat) (a : Addr) (cl : Value) (dd : Option Addr) (x : Xc) (f : DStm) : TS := fun N σ H => ∃ κ w s, Ok G κ w s σ H ∧ Fx G oi a cl dd x w σ ∧ PostS G WF κ w (f s) N
def tSu (G : Gam) (h : HdR) : HTs := fun a cl dd N σ H => ∃ x, tXS G h.oi a cl dd x (h.f x) N σ H
/-- the class test of a clause -/
def MOk (G : Gam) (K : PySem.W.Frag) (h : HdR) : Prop := ∀ (k : String) (b : Bool), h.m k = some b → ∀ C, G.ct k = some C → PySem.W.exmOne K (.ref C) h.c = some b
theorem catch_of {D0 : Ends} {κ : Bs} {x : Xc} : ∀ {hs : List HdR}, (∀ h ∈ hs, MOk G X.K h) → ∀ {w : Wd} {s : DS} {cl : Value} {dd : Option Addr} {σ : L2.St} {H : Hp}, PostS G W κ w (catchD hs x s) D0 → Ok G κ w s σ H → RepX G w cl dd x → wHd X.K W D0 (hs.map fun h => (h.c, h.oi, tSu G h)) cl dd σ H
  | [], _, w, s, cl, dd, σ, H, q, ok, rx => q w σ cl dd H (.refl _) ok rx
  | ⟨c, none, m, f⟩ :: r, hm, w, s, cl, dd, σ, H, q, ok, rx => by
    obtain ⟨C, hC, rfl, _⟩ := id rx
    have q : PostS G W κ w (match m x.cls with | some true => noX (f x s) | some false => catchD r x s | none => .stuck) D0 := q
    cases e : m x.cls with
    | none => rw [e] at q; exact q.elim
    | some b =>
      refine ⟨b, hm _ List.mem_cons_self x.cls b e C hC, fun hb a ha => ?_, fun hb => ?_⟩
      · subst hb
        rw [e] at q
        refine ⟨x, κ, w, s, ok, ⟨fun i z => (nomatch z), rx⟩, ?_⟩
        show PostS G WF κ w (f x s) D0
        replace q : PostS G W κ w (noX (f x s)) D0 := q
        cases z : f x s with
        | ok o s' => rw [z] at q; cases o <;> exact q
        | exc y s' => rw [z] at q; exact q.elim
        | stuck => rw [z] at q; exact q.elim
      · subst hb
        rw [e] at q
        exact catch_of (fun h hh => hm h (List.mem_cons_of_mem _ hh)) q ok rx
  | ⟨c, some i, m, f⟩ :: r, hm, w, s, cl, dd, σ, H, q, ok, rx => by
    obtain ⟨C, hC, rfl, _⟩ := id rx
    have q : PostS G W κ w (match m x.cls with | some true => if i < s.sl.length then unD i (noX (f x ⟨s.sl.set i .un, s.st⟩)) else .stuck | some false => catchD r x s | none => .stuck) D0 := q
    cases e : m x.cls with
    | none => rw [e] at q; exact q.elim
    | some b =>
      refine ⟨b, hm _ List.mem_cons_self x.cls b e C hC, fun hb a ha => ?_, fun hb => ?_⟩
      · subst hb
        rw [e] at q
        replace q : PostS G W κ w (if i < s.sl.length then unD i (noX (f x ⟨s.sl.set i .un, s.st⟩)) else .stuck) D0 := q
        have hj : i < s.sl.length := by
          by_cases h : i < s.sl.length
          · exact h
          · rw [if_neg h] at q; exact q.elim
        rw [if_pos hj] at q
        refine ⟨x, κ, w, ⟨s.sl.set i .un, s.st⟩, ok.setUn i _, ⟨fun j z => ?_, rx⟩, ?_⟩
        · have z : some i = some j := z
          cases z
          rw [List.getElem?_set_self (by rw [← ok.len]; exact hj)]
        show PostS G WF κ w (f x ⟨s.sl.set i .un, s.st⟩) (unset D0 i)
        cases z : f x ⟨s.sl.set i .un, s.st⟩ with
        | ok o s' =>
          rw [z] at q
          cases o with
          | nx => exact fun w' σ' H' le ok' => q w' _ H' le (ok'.setUn i none)
          | bk => exact fun w' σ' H' le ok' => q w' _ H' le (ok'.setUn i none)
          | ct => exact fun w' σ' H' le ok' => q w' _ H' le (ok'.setUn i none)
          | rt d => exact fun w' σ' v H' le ok' r' => q w' _ v H' le (ok'.setUn i none) r'
        | exc y s' => rw [z] at q; exact q.elim
        | stuck => rw [z] at q; exact q.elim
      · subst hb
        rw [e] at q
        exact catch_of (fun h hh => hm h (List.mem_cons_of_mem _ hh)) q ok rx
theorem pds_try {bd : List Stmt} {g0 : ExceptHandler} {gs : List ExceptHandler} {hs : List HdR} {tpos : Pos} {fb : DStm} (est : X.stack = X.env :: X.outer) (efr : X.env.frame = some X.env.locals) (nd : X.N.Nodup) (tk : Takes X W)
    (hbd : ∀ (Wi : WX) (pn : List (Addr × Obj)) (xe : Value → Shared → Prop), Takes (X.tr pn xe) Wi → PassesOwn (model X.prog X.w) X.A X.env xe → PDSs G Wi (X.tr pn xe) bd fb) (hm : ∀ h ∈ hs, MOk G X.K h)
    (hh : HdA X (g0 :: gs) (hs.map fun h => (h.c, h.oi, tSu G h))) : PDS G W X (.Try bd (g0 :: gs) [] [] tpos) (sTry fb hs) :=
  (ps_tryA (tb := fun Wi => tDS G Wi fb) est efr nd tk hbd hh).imp fun N σ H ⟨κ, w, s, ok, q⟩ => ⟨κ, w, s, ok, by
    have q : PostS G W κ w (match fb s with | .exc x s1 => catchD hs x s1 | r => r) N := q
    cases e : fb s with
    | stuck => rw [e] at q; exact q.elim
    | ok o s' => rw [e] at q; cases o <;> exact q
    | exc x s' =>
      rw [e] at q
      replace q : PostS G W κ w (catchD hs x s') N := q
      intro w' σ' c dd H' le ok' rx
      have q' : PostS G W κ w' (catchD hs x s') N := PostS.mono le q
      exact catch_of hm q' ok' rx⟩
end
/-! ### the suite's words -/
section
variable {G : Gam} {X : Cx} {oi : Option Nat} {a : Addr} {cl : Value} {dd : Option Addr} {x : Xc}
theorem Fx.mono {w w' : Wd} {σ : L2.St} (h : Fx G oi a cl dd x w σ) (le : w.le w') : Fx G oi a cl dd x w' σ := ⟨h.1, h.2.mono le⟩
def tXD (G : Gam) (oi : Option Nat) (a : Addr) (cl : Value) (dd : Option Addr) (x : Xc) (f : DE) : TE := fun σ H Q => ∃ κ w s, Ok G κ w s σ H ∧ Fx G oi a cl dd x w σ ∧ PostG G WF (Rep G) κ w σ (f s) Q
def tXA (G : Gam) (oi : Option Nat) (a : Addr) (cl : Value) (dd : Option Addr) (x : Xc) (f : DA) : TA := fun σ H Q => ∃ κ w s, Ok G κ w s σ H ∧ Fx G oi a cl dd x w σ ∧ PostG G WF (Reps G) κ w σ (f s) Q
theorem pxd_lift {e : Expr} {f : DE} (h : PD G WF X e f) : PE X e (tXD G oi a cl dd x f) := h.imp fun σ H Q ⟨κ, w, s, ok, _, q⟩ => ⟨κ, w, s, ok, q⟩
theorem pxa_nil : PA X [] (tXA G oi a cl dd x aNil) := pa_nil.imp fun σ H Q ⟨κ, w, s, ok, _, q⟩ => q w [] H (.refl _) ok .nil
theorem pxa_cons {e : Expr} {es : List Expr} {f : DE} {g : DA} (h : PE X e (tXD G oi a cl dd x f)) (k : PA X es (tXA G oi a cl dd x g)) (hs : starEach (e :: es) X.env = (false, eval e X.env) :: starEach es X.env := by rfl) : PA X (e :: es) (tXA G oi a cl dd x (aCons f g)) :=
  (pa_cons h k hs).imp fun σ H Q ⟨κ, w, s, ok, fx, q⟩ => ⟨κ, w, s, ok, fx, (PostG.bind q).imp fun v H1 ⟨d, s1, w1, le, ok1, r1, q1⟩ =>
    ⟨κ, w1, s1, ok1, fx.mono le, (PostG.bind q1).imp fun v2 H2 ⟨d2, s2, w2, le2, ok2, r2, q2⟩ => q2 w2 _ H2 (.refl _) ok2 (.cons (r1.mono le2) r2)⟩⟩
theorem pxd_tup {es : List Expr} {k : Nat} {g : DA} {pos : Pos} (h : PA X es (tXA G oi a cl dd x g)) : PE X (.Tuple es k pos) (tXD G oi a cl dd x (eTup g)) :=
  (pe_tup h).imp fun σ H Q ⟨κ, w, s, ok, fx, q⟩ => ⟨κ, w, s, ok, fx, (PostG.bind q).imp fun v H1 ⟨d, s1, w1, le, ok1, r1, q1⟩ => by
    by_cases c : d.length ≤ 1000
    · rw [if_pos c] at q1
      refine ⟨r1.length ▸ sz1000 c, fun p hp => ?_⟩
      obtain ⟨le2, ok2⟩ := ok1.alloc hp (.tup v)
      exact q1 _ _ _ le2 ok2 (.tup (.inl (.inl upd_same)) (r1.mono le2))
    · rw [if_neg c] at q1
      exact q1.elim⟩
theorem RepF.look' {w : Wd} : ∀ {vs : List (Str × V)} {fs : List (Nm × D)} {f : Nm} {d : D}, RepF G w vs fs → fs.lookup f = some d → ∃ v, vs.lookup (nm f) = some v ∧ Rep G w v d
  | _, _, _, _, .nil, e => nomatch e
  | _, _, f, d, .cons (f := g) (v := v) (d := d') r rs, e => by
    by_cases h : f = g
    · subst h
      simp [List.lookup] at e ⊢
      subst e
      exact r
    · have h1 : (f == g) = false := by simpa using h
      have h2 : (nm f == nm g) = false := by
        have : nm f ≠ nm g := fun z => h (nm_inj z)
        simpa using this
      simp only [List.lookup, h1] at e
      obtain ⟨v', q1, q2⟩ := RepF.look' rs e
      exact ⟨v', by simp only [List.lookup, h2]; exact q1, q2⟩
/-- e.f of the caught one, known to be of the class c -/
def eXf (c : String) (f : Nm) (x : Xc) : DE := fun s => if x.cls = c then match x.fs.lookup f with | some d => .ok d s | none => .stuck else .stuck
theorem pxd_fld {i : Nat} {C : Addr} {ob : Obj} {pn : List (Addr × Obj)} {c : String} {f : Nm} {fn e : Str} {p pos : Pos} (hK : G.K = X.K) (hC : G.ct c = some C) (T : XfC X.K C) (hno : PySem.W.findIn X.K (.ref C) fn = some none) (hf : fn = nm f) (hz : Zc cl dd ob) (hfs : ∃ vs, ob.data = .fields vs)
    (he : PE (X.suite a ((a, ob) :: pn)) (.Name e p) (tVar i)) : PE (X.suite a ((a, ob) :: pn)) (.Attribute (.Name e p) fn pos) (tXD G (some i) a cl dd x (eXf c f x)) :=
  (pe_xf T hno hz hfs he).imp fun σ H Q ⟨κ, w, s, ok, fx, q⟩ => by
    have q : PostG G WF (Rep G) κ w σ (if x.cls = c then match x.fs.lookup f with | some d => .ok d s | none => .stuck else .stuck) Q := q
    by_cases h : x.cls = c
    · rw [if_pos h] at q
      cases e : x.fs.lookup f with
      | none => rw [e] at q; exact q.elim
      | some d =>
        rw [e] at q
        obtain ⟨h1, C', h2, h3, h4⟩ := fx
        rw [h, hC] at h2
        cases h2
        rcases h4 with ⟨h4, _⟩ | ⟨da, vs, h5, h6, h7⟩
        · rw [h4] at e; cases e
        · obtain ⟨v, l1, l2⟩ := h7.look' e
          exact ⟨.ref a, h1 i rfl, rfl, h3, da, vs, v, h5, ok.fok.sub _ _ h6, hf ▸ l1, q w v H (.refl _) ok l2⟩
    · rw [if_neg h] at q
      exact q.elim
theorem pxs_ret {e : Expr} {f : DE} {pos : Pos} (h : PE X e (tXD G oi a cl dd x f)) : PS X (.Return (some e) pos) (tXS G oi a cl dd x (sRet f)) :=
  (ps_ret h).imp fun N σ H ⟨κ, w, s, ok, fx, q⟩ => ⟨κ, w, s, ok, fx, (PostG.bindS q).imp fun v H1 ⟨d, s1, w1, le, ok1, r1, q1⟩ => q1 w1 σ v H1 (.refl _) ok1 r1⟩
theorem pxs_set {i : Nat} {n : Str} {e : Expr} {f : DE} {pos pos' : Pos} (hN : X.N.Nodup) (hi : X.N[i]? = some n) (hx : Loc X.env.scope n) (he : PE X e (tXD G oi a cl dd x f)) (hs : swapsWith e (some (.Name n pos')) pos.line X.env = pure false := by rfl)
    (hf : X.fn n = true ∨ X.env.scope.names.lookup n = some .local := by first | exact .inl rfl | exact .inr rfl | assumption) : PS X (.Assign [.Name n pos'] e pos) (tXS G oi a cl dd x (sSet i f)) :=
  (ps_set hN hi hx he hs hf).imp fun N σ H ⟨κ, w, s, ok, fx, q⟩ => ⟨κ, w, s, ok, fx, (PostG.bindS q).imp fun v H1 ⟨d, s1, w1, le, ok1, r1, q1⟩ => q1 w1 _ H1 (.refl _) (ok1.setVal r1 i)⟩
theorem pxs_lift {st : Stmt} {f : DStm} (h : PDS G WF X st f) : PS X st (tXS G oi a cl dd x f) := h.imp fun N σ H ⟨κ, w, s, ok, _, q⟩ => ⟨κ, w, s, ok, q⟩
/-- a suite of one statement -/
theorem su_one {st : Stmt} {h : HdR} (k : ∀ (a : Addr) (ob : Obj) (cl : Value) (dd : Option Addr) (pn : List (Addr × Obj)) (x : Xc), Zc cl dd ob → (∃ vs, ob.data = .fields vs) → PS (X.suite a ((a, ob) :: pn)) st (tXS G h.oi a cl dd x (h.f x))) : SuOk X [st] (tSu G h) :=
  fun a ob cl dd pn hz hf => pss_one ⟨fun pins s σ H D I ⟨x, z⟩ => (k a ob cl dd pn x hz hf).run pins s σ H D I z⟩
end
end DL
set_option maxRecDepth 100000
set_option maxHeartbeats 4000000
set_option autoImplicit false
namespace DL
open PySem PySem.Spec PyProof.Rows L2
/-! ### lambdas without parameters -/
/-- the function object of a lambda -/
def FnO (f : Addr) (q : Str) (pr : Arguments) (bd : Expr) (sc : Scope) (clo : List (Str × Addr)) (pm : Value) (c : Addr) (ctv : Value) : HO := .ext fun h => h.get? f = some (PySem.W.kla_obj "<lambda>" q pr bd sc clo pm c ctv)
/-- a maker of lambdas: its table, the name of its lambdas' codes, its cells, the sites -/
structure LamT where
  P : Addr
  q : Str
  cells : List (Str × Addr)
  site : String → Option (Arguments × Expr × Scope)
def LamT.lam (T : LamT) : String → Addr → Wd → Prop := fun k f w => ∃ pr bd sc pm c ctv, T.site k = some (pr, bd, sc) ∧ w.F f = some (FnO f T.q pr bd sc (cloFrom T.cells sc.names []) pm c ctv) ∧ w.F c = some (LamX.CodeO c T.q)
def LamT.tab (T : LamT) : Addr → Hp → HO → Prop := fun a F o => a = T.P ∧ ∃ ps : Array Value, o = .tbl ps ∧ TriplesOk ps.toList ∧ ∀ (pos : Pos) (cv : Value), codeAmong pos ps.toList = some cv → ∃ c, cv = .ref c ∧ F c = some (LamX.CodeO c T.q)
theorem LamT.lamM (T : LamT) (k : String) (f : Addr) (w w' : Wd) (e : w.le w') : T.lam k f w → T.lam k f w' := fun ⟨pr, bd, sc, pm, c, ctv, h1, h2, h3⟩ => ⟨pr, bd, sc, pm, c, ctv, h1, e.f _ _ h2, e.f _ _ h3⟩
theorem LamT.tabM (T : LamT) (a : Addr) (F F' : Hp) (o : HO) (e : ∀ a o, F a = some o → F' a = some o) : T.tab a F o → T.tab a F' o := fun ⟨h0, ps, h1, h2, h3⟩ => ⟨h0, ps, h1, h2, fun pos cv hc => by
  obtain ⟨c, z1, z2⟩ := h3 pos cv hc
  exact ⟨c, z1, e _ _ z2⟩⟩
/-- the lambda is made -/
def eLam (n : Nat) (tk k : String) : DE := fun s => match s.st[n]? with
  | some (.tab t) => if t = tk then .ok (.lam k) s else .stuck
  | _ => .stuck
section
variable {G : Gam} {W : WX} {X : Cx}
/-- what G says of the maker's lambdas -/
structure GLam (G : Gam) (tk : String) (T : LamT) : Prop where
  tab : ∀ a F o, G.tab tk a F o ↔ T.tab a F o
  lam : ∀ k f w, (T.site k).isSome = true → (G.lam k f w ↔ T.lam k f w)
theorem fnO_ok {P : Program} {w0 : World} {H : Hp} {h : Heap} {f c : Addr} {q : Str} {pr : Arguments} {bd : Expr} {sc : Scope} {clo : List (Str × Addr)} {pm ctv : Value} (e : h.get? f = some (PySem.W.kla_obj "<lambda>" q pr bd sc clo pm c ctv)) : ObjOk P w0 H h f (FnO f q pr bd sc clo pm c ctv) :=
  ⟨e, ⟨_, e⟩, fun h1 h2 z k => k _ z⟩
theorem pd_lam {n : Nat} {tk k : String} {c : Addr} {T : LamT} {pr : Arguments} {bd : Expr} {sc : Scope} {pos : Pos} (GL : GLam G tk T) (TB : LamX.TabB X.base X.mg c T.P) (hcode : X.env.code = .ref c) (hq : T.q = X.env.qual ++ "<lambda>") (hcl : T.cells = X.env.cells) (hs : T.site k = some (pr, bd, sc))
    (L : LamX.LamS X.env.scope sc) (hdef : defaultsOf pr X.env = ([], [])) : PD G W X (.Lambda pr bd sc pos) (eLam n tk k) := by
  refine ⟨fun pins sh σ H Q I ⟨κ, w, s, ok, q⟩ => ?_⟩
  unfold eLam at q
  cases e : s.st[n]? with
  | none => rw [e] at q; exact q.elim
  | some cel =>
    rw [e] at q
    cases cel with
    | tab t' =>
      replace q : PostG G W (Rep G) κ w σ (if t' = tk then .ok (.lam k) s else .stuck) Q := q
      by_cases ht : t' = tk
      · subst ht
        rw [if_pos rfl] at q
        have hn : n < w.ρ.length := by
          rw [ok.fok.len]
          exact (List.getElem?_eq_some_iff.mp e).1
        have hρ : w.ρ[n]? = some (w.ρ[n]) := List.getElem?_eq_getElem hn
        obtain ⟨o, hP, ht⟩ := ok.fok.cel n _ _ hρ e
        obtain ⟨eP, ps, rfl, tr, among⟩ := (GL.tab _ _ _).mp ht
        rw [eP] at hP hρ
        have hfree := L.has I.ok
        refine PySem.W.kla_eval hdef ?_
        have bP : sh.heap.BuiltinsAt X.mg T.P := TB.bm.keeps I.bk
        have hP' : sh.heap.get? T.P = some { cls := .none, data := .fields ps } := I.hok T.P _ hP
        cases hc : codeAmong pos ps.toList with
        | none =>
          refine PySem.W.kla_makeFunction (mg := X.mg) (c := c) (P := T.P) (ps := ps) (closure_ok hfree) I.ok.glob (I.mod.glob.keeps I.bk) hcode (TB.code.keeps I.bk) hP' tr hc TB.gP bP fun c' ctv h' tk' hx hge hlt hrec htb => ?_
          obtain ⟨c2, oc, vs, t, e2, hoc, hd, hv⟩ := hrec
          cases e2
          have nC : H c' = none := I.hok.fresh hge
          have hsz : sh.heap.objs.size ≤ h'.objs.size := Nat.le_trans hge (Nat.le_of_lt hlt)
          have I1 := LamX.inv_table (t' := tk') (q := X.env.qual ++ "<lambda>") (more := #[rawInt pos.line, rawInt pos.col, .ref c']) (h' := h') I hP (fun b o hb z => hx b o hb z) htb hge ⟨oc, vs, t, hoc, hd, hv⟩
          have I2 := I1.laid (t' := tk') (a := h'.objs.size) (o := FnO h'.objs.size (X.env.qual ++ "<lambda>") pr bd sc (cloFrom X.env.cells sc.names []) ((X.mg "__name__").getD .none) c' ctv)
            (h' := h'.push (PySem.W.kla_obj "<lambda>" (X.env.qual ++ "<lambda>") pr bd sc (cloFrom X.env.cells sc.names []) ((X.mg "__name__").getD .none) c' ctv)) (fun b u z => Heap.get?_push_of_some _ z) (Nat.le_refl _) (fnO_ok (Heap.get?_push_size _ rfl))
          have okC := ok.alloc nC (LamX.CodeO c' (X.env.qual ++ "<lambda>"))
          obtain ⟨le1, ok1⟩ := okC
          have nPc : T.P ≠ c' := ne_of_none hP nC
          have eL : (ps ++ #[rawInt pos.line, rawInt pos.col, .ref c']).toList = ps.toList ++ [rawInt pos.line, rawInt pos.col, .ref c'] := by simp
          have cell1 : CellOk G ⟨upd w.F c' (LamX.CodeO c' (X.env.qual ++ "<lambda>")), w.ρ⟩ (upd (upd H c' (LamX.CodeO c' (X.env.qual ++ "<lambda>"))) T.P (.tbl (ps ++ #[rawInt pos.line, rawInt pos.col, .ref c']))) T.P (.tab t') := by
            refine ⟨_, upd_same, (GL.tab _ _ _).mpr ⟨rfl, _, rfl, by rw [eL]; exact PySem.TriplesOk_snoc _ _ _ _ tr, fun p' cv hcv => ?_⟩⟩
            rw [eL] at hcv
            rcases LamX.among_app _ tr hcv with z | z
            · obtain ⟨c0, e1, e2⟩ := among p' cv z
              exact ⟨c0, e1, le1.f _ _ e2⟩
            · exact ⟨c', z, by rw [hq]; exact upd_same⟩
          have ok2 := ok1.cell (n := n) (a := T.P) hρ cell1
          have eS : s.st.set n (.tab t') = s.st := by
            apply List.ext_getElem?
            intro i
            by_cases hi : n = i
            · subst hi
              rw [List.getElem?_set_self (List.getElem?_eq_some_iff.mp e).1, e]
            · rw [List.getElem?_set_ne hi]
          rw [eS] at ok2
          have swap : upd (upd H c' (LamX.CodeO c' (X.env.qual ++ "<lambda>"))) T.P (.tbl (ps ++ #[rawInt pos.line, rawInt pos.col, .ref c'])) = upd (upd H T.P (.tbl (ps ++ #[rawInt pos.line, rawInt pos.col, .ref c']))) c' (LamX.CodeO c' (X.env.qual ++ "<lambda>")) := by
            funext b
            by_cases h1 : b = T.P
            · rw [h1, upd_same, upd_ne nPc, upd_same]
            · rw [upd_ne h1]
              by_cases h2 : b = c'
              · rw [h2, upd_same, upd_same]
              · rw [upd_ne h2, upd_ne h2, upd_ne h1]
          rw [swap] at ok2
          obtain ⟨le3, ok3⟩ := ok2.alloc (I1.hok.fresh (Nat.le_refl _)) (FnO h'.objs.size (X.env.qual ++ "<lambda>") pr bd sc (cloFrom X.env.cells sc.names []) ((X.mg "__name__").getD .none) c' ctv)
          refine ⟨.ref h'.objs.size, _, I2, rfl, q _ _ _ (le1.trans le3) ok3 (.lam ((GL.lam _ _ _ (by rw [hs]; rfl)).mpr ⟨pr, bd, sc, (X.mg "__name__").getD .none, c', ctv, hs, ?_, ?_⟩))⟩
          · rw [hq, hcl]; exact upd_same
          · rw [hq]
            exact le3.f _ _ upd_same
        | some cv =>
          obtain ⟨c', ecv, hco⟩ := among pos cv hc
          subst ecv
          refine PySem.W.kla_makeFunctionHit (mg := X.mg) (c := c) (P := T.P) (ps := ps) (closure_ok hfree) I.ok.glob (I.mod.glob.keeps I.bk) hcode (TB.code.keeps I.bk) hP' tr hc bP fun ctv h' tk' hx hsz => ?_
          have I2 := I.laid (t' := tk') (a := h'.objs.size) (o := FnO h'.objs.size (X.env.qual ++ "<lambda>") pr bd sc (cloFrom X.env.cells sc.names []) ((X.mg "__name__").getD .none) c' ctv)
            (h' := h'.push (PySem.W.kla_obj "<lambda>" (X.env.qual ++ "<lambda>") pr bd sc (cloFrom X.env.cells sc.names []) ((X.mg "__name__").getD .none) c' ctv)) (fun b u z => Heap.get?_push_of_some _ (hx b u z)) hsz (fnO_ok (Heap.get?_push_size _ rfl))
          obtain ⟨le3, ok3⟩ := ok.alloc (I.hok.fresh hsz) (FnO h'.objs.size (X.env.qual ++ "<lambda>") pr bd sc (cloFrom X.env.cells sc.names []) ((X.mg "__name__").getD .none) c' ctv)
          refine ⟨.ref h'.objs.size, _, I2, rfl, q _ _ _ le3 ok3 (.lam ((GL.lam _ _ _ (by rw [hs]; rfl)).mpr ⟨pr, bd, sc, (X.mg "__name__").getD .none, c', ctv, hs, ?_, ?_⟩))⟩
          · rw [hq, hcl]; exact upd_same
          · exact le3.f _ _ hco
      · rw [if_neg ht] at q
        exact q.elim
    | _ => exact q.elim
end
end DL
set_option maxRecDepth 100000
set_option maxHeartbeats 4000000
set_option autoImplicit false
namespace DL
open PySem PySem.Spec PyProof.Rows L2
/-! ### data without lambdas -/
mutual
def noLam : D → Bool
  | .tup xs => noLams xs
  | .lst xs => noLams xs
  | .scr xs => noLams xs
  | .dic kvs => noLamK kvs
  | .ins _ fs => noLamF fs
  | .lam _ => false
  | _ => true
def noLams : List D → Bool
  | [] => true
  | x :: r => noLam x && noLams r
def noLamK : List (DK × D) → Bool
  | [] => true
  | x :: r => noLam x.2 && noLamK r
def noLamF : List (Nm × D) → Bool
  | [] => true
  | x :: r => noLam x.2 && noLamF r
end
def noLamC : Cell → Bool
  | .dic kvs => noLamK kvs
  | .lst xs => noLams xs
  | .obj _ fs => noLamF fs
  | .tab _ => true
def noLamS : List Cell → Bool
  | [] => true
  | c :: r => noLamC c && noLamS r
/-- other words for lambdas -/
def Gam.sw (G : Gam) (lam : String → Addr → Wd → Prop) (lamM : ∀ (k : String) (f : Addr) (w w' : Wd), w.le w' → lam k f w → lam k f w') : Gam := { G with lam := lam, lamM := lamM }
section
variable {G : Gam} {lam : String → Addr → Wd → Prop} {lamM : ∀ (k : String) (f : Addr) (w w' : Wd), w.le w' → lam k f w → lam k f w'} {w : Wd}
mutual
theorem Rep.sw : ∀ {v : V} {d : D}, (noLam d = true ∨ ∀ k f, G.lam k f w → lam k f w) → Rep G w v d → Rep (G.sw lam lamM) w v d
  | _, _, _, .non => .non
  | _, _, _, .bl b => .bl b
  | _, _, _, .int i => .int i
  | _, _, _, .str l => .str l
  | _, _, h, .tup a b => .tup a (Reps.sw h b)
  | _, _, h, .lst a b => .lst a (Reps.sw h b)
  | _, _, h, .scr a b => .scr a (Reps.sw h b)
  | _, _, h, .dic a b => .dic a (RepK.sw h b)
  | _, _, h, .ins c a b => .ins c a (RepF.sw h b)
  | _, _, _, .cell a => .cell a
  | _, _, _, .cls a => .cls a
  | _, _, _, .ty n => .ty n
  | _, _, _, .fn a => .fn a
  | _, _, h, .lam a => .lam (h.elim (fun z => nomatch z) fun z => z _ _ a)
theorem Reps.sw : ∀ {v : List V} {d : List D}, (noLams d = true ∨ ∀ k f, G.lam k f w → lam k f w) → Reps G w v d → Reps (G.sw lam lamM) w v d
  | _, _, _, .nil => .nil
  | _, _, h, .cons a b => .cons (Rep.sw (h.imp (fun z => ((Bool.and_eq_true _ _).mp z).1) id) a) (Reps.sw (h.imp (fun z => ((Bool.and_eq_true _ _).mp z).2) id) b)
theorem RepF.sw : ∀ {v : List (Str × V)} {d : List (Nm × D)}, (noLamF d = true ∨ ∀ k f, G.lam k f w → lam k f w) → RepF G w v d → RepF (G.sw lam lamM) w v d
  | _, _, _, .nil => .nil
  | _, _, h, .cons a b => .cons (Rep.sw (h.imp (fun z => ((Bool.and_eq_true _ _).mp z).1) id) a) (RepF.sw (h.imp (fun z => ((Bool.and_eq_true _ _).mp z).2) id) b)
theorem RepK.sw : ∀ {v : List (Key × V)} {d : List (DK × D)}, (noLamK d = true ∨ ∀ k f, G.lam k f w → lam k f w) → RepK G w v d → RepK (G.sw lam lamM) w v d
  | _, _, _, .nil => .nil
  | _, _, h, .cons a b => .cons (Rep.sw (h.imp (fun z => ((Bool.and_eq_true _ _).mp z).1) id) a) (RepK.sw (h.imp (fun z => ((Bool.and_eq_true _ _).mp z).2) id) b)
end
theorem CellOk.sw {H : Hp} {a : Addr} {c : Cell} (h : noLamC c = true ∨ ∀ k f, G.lam k f w → lam k f w) (k : CellOk G w H a c) : CellOk (G.sw lam lamM) w H a c := by
  cases c with
  | dic kvs => obtain ⟨vs, e, r⟩ := k; exact ⟨vs, e, r.sw h⟩
  | lst xs => obtain ⟨vs, e, r⟩ := k; exact ⟨vs, e, r.sw h⟩
  | obj c fs => obtain ⟨C, dx, vs, q, e, r⟩ := k; exact ⟨C, dx, vs, q, e, r.sw h⟩
  | tab t => exact k
theorem noLamS_get : ∀ {S : List Cell} {n : Nat} {c : Cell}, noLamS S = true → S[n]? = some c → noLamC c = true
  | [], _, _, _, e => by simp at e
  | x :: r, 0, c, h, e => by
    simp at e; subst e
    exact ((Bool.and_eq_true _ _).mp h).1
  | x :: r, n + 1, c, h, e => noLamS_get (S := r) (n := n) ((Bool.and_eq_true _ _).mp h).2 (by simpa using e)
theorem FOk.sw {S : List Cell} {H : Hp} (h : noLamS S = true ∨ ∀ k f, G.lam k f w → lam k f w) (k : FOk G w S H) : FOk (G.sw lam lamM) w S H :=
  ⟨k.sub, k.len, fun n a c e1 e2 => (k.cel n a c e1 e2).sw (h.imp (fun z => noLamS_get z e2) id), k.nd, k.nf⟩
theorem RepX.sw {c : Value} {dd : Option Addr} {x : Xc} (h : noLamF x.fs = true ∨ ∀ k f, G.lam k f w → lam k f w) (k : RepX G w c dd x) : RepX (G.sw lam lamM) w c dd x := by
  obtain ⟨C, h1, h2, h3⟩ := k
  refine ⟨C, h1, h2, h3.imp id fun ⟨a, vs, q1, q2, q3⟩ => ⟨a, vs, q1, q2, q3.sw h⟩⟩
theorem Rep.bk {v : V} {d : D} (h : noLam d = true ∨ ∀ k f, lam k f w → G.lam k f w) (k : Rep (G.sw lam lamM) w v d) : Rep G w v d := Rep.sw (G := G.sw lam lamM) (lam := G.lam) (lamM := G.lamM) h k
theorem FOk.bk {S : List Cell} {H : Hp} (h : noLamS S = true ∨ ∀ k f, lam k f w → G.lam k f w) (k : FOk (G.sw lam lamM) w S H) : FOk G w S H := FOk.sw (G := G.sw lam lamM) (lam := G.lam) (lamM := G.lamM) h k
theorem RepX.bk {c : Value} {dd : Option Addr} {x : Xc} (h : noLamF x.fs = true ∨ ∀ k f, lam k f w → G.lam k f w) (k : RepX (G.sw lam lamM) w c dd x) : RepX G w c dd x := RepX.sw (G := G.sw lam lamM) (lam := G.lam) (lamM := G.lamM) h k
end
/-! ### a def that makes lambdas -/
def fnDL (n : Nat) (body : DStm) (m : Nat) : DFn := fun ds S => if noLams ds = true ∧ noLamS S = true then match fnD n body m ds S with
  | .ok d S' => if noLam d = true ∧ noLamS S' = true then .ok d S' else .stuck
  | .exc x S' => if noLamF x.fs = true ∧ noLamS S' = true then .exc x S' else .stuck
  | .stuck => .stuck
  else .stuck
/-- the frame's own words for its lambdas -/
theorem fn_okDL {G : Gam} {P : Program} {w0 : World} {mg : Str → Option Value} {base : Heap} {x qual : Str} {st : Stmt} {f : Addr} {fd : FuncData} {N ps : List Str} {k n m : Nat} {body : DStm} (F : Fun G.K x qual st f fd) (S : FnScope N ps (defScope st)) (hn : ps.length = n) (hm : N.length - n = m)
    (T : Nat → LamT)
    (hbody : ∀ (cdv : Value), fd.code = cdv → ∀ (A : Around) (outer : List Env) (s : Shared) (H : Hp) (E : XK), Room k (A.deeper (envOfC qual (defScope st) s.heap.objs.size f cdv)) →
      Takes (cxOf (L2.CX P w0) P w0 G.K mg base N qual (defScope st) f cdv A outer s H E) (fun c d _ H => E c d H) → PassesOwn (model P w0) (A.deeper (envOfC qual (defScope st) s.heap.objs.size f cdv)) (envOfC qual (defScope st) s.heap.objs.size f cdv) (cxOf (L2.CX P w0) P w0 G.K mg base N qual (defScope st) f cdv A outer s H E).xe →
      PDSs (G.sw (T s.heap.objs.size).lam (T s.heap.objs.size).lamM) (fun c d _ H => E c d H) (cxOf (L2.CX P w0) P w0 G.K mg base N qual (defScope st) f cdv A outer s H E) (defBody st) body) : FnOk P w0 G.K mg base (L2.CX P w0) (k + 1) f fd ps (spG G n (fnDL n body m)) := by
  obtain ⟨oc, od, kV, doc, pm, an, cdv, ct, osl, rfl, lk, hcd⟩ := F.ex
  refine fn_of lk hcd S (fun vs H Q E h => by rw [h.1, hn]) fun A outer s H vs Q E hr h => ?_
  refine ⟨_, hbody cdv rfl A outer s H E hr (takes_of rfl rfl rfl rfl) (passes_of rfl), ?_⟩
  obtain ⟨hl, w, S', ds, fok, rs, q⟩ := h
  have hd : ds.length = n := by rw [← rs.length]; exact hl
  unfold fnDL at q
  by_cases hno : noLams ds = true ∧ noLamS S' = true
  case neg => rw [if_neg hno] at q; exact q.elim
  rw [if_pos hno] at q
  rw [start_eq (m := m) (by rw [hl]; exact hm)]
  have fok' := fok.sw (lam := (T s.heap.objs.size).lam) (lamM := (T s.heap.objs.size).lamM) (.inl hno.2)
  have rs' := rs.sw (lam := (T s.heap.objs.size).lam) (lamM := (T s.heap.objs.size).lamM) (.inl hno.1)
  refine ⟨⟨w, H, [], none⟩, w, _, Ok.start fok' rs' m, ?_⟩
  unfold fnD at q
  rw [if_pos hd] at q
  cases e : body ⟨ds.map Sl.val ++ List.replicate m .un, S'⟩ with
  | stuck => rw [e] at q; exact q.elim
  | exc x s' =>
    rw [e] at q
    replace q : PostF G (Rep G) w H (if noLamF x.fs = true ∧ noLamS s'.st = true then .exc x s'.st else .stuck) Q E := q
    by_cases hx : noLamF x.fs = true ∧ noLamS s'.st = true
    case neg => rw [if_neg hx] at q; exact q.elim
    rw [if_pos hx] at q
    exact fun w' σ' c dd H' le ok' rx => q w' c dd H' ok'.nx (ok'.fok.bk (.inl hx.2)) (rx.bk (.inl hx.1))
  | ok o s' =>
    rw [e] at q
    have key : ∀ d, PostF G (Rep G) w H (if noLam d = true ∧ noLamS s'.st = true then .ok d s'.st else .stuck) Q E → ∀ (w' : Wd) (v : L2.St × V) (H' : Hp), Ok (G.sw (T s.heap.objs.size).lam (T s.heap.objs.size).lamM) ⟨w, H, [], none⟩ w' s' v.1 H' → Rep (G.sw (T s.heap.objs.size).lam (T s.heap.objs.size).lamM) w' v.2 d → Q v.2 H' := fun d q w' v H' ok' r' => by
      by_cases hx : noLam d = true ∧ noLamS s'.st = true
      case neg => rw [if_neg hx] at q; exact q.elim
      rw [if_pos hx] at q
      exact q w' v.2 H' ok'.nx (ok'.fok.bk (.inl hx.2)) (r'.bk (.inl hx.1))
    cases o with
    | nx => exact fun w' σ' H' le ok' => key .non q w' (σ', .non) H' ok' .non
    | rt d => exact fun w' σ' v H' le ok' r' => key d q w' (σ', v) H' ok' r'
    | bk => exact q.elim
    | ct => exact q.elim
/-! ### a lambda called in the def that it was handed to -/
abbrev LamR := String → List Cell → Res (List Cell) D
def eAct (Λ : LamR) (i : Nat) : DE := fun s => match s.sl[i]? with
  | some (.val (.lam k)) => lift s (Λ k s.st)
  | _ => .stuck
def stripS : Sl → Sl
  | .val d => .val d
  | _ => .un
def lamRun (b : DE) (sl : List Sl) (st : List Cell) : Res (List Cell) D := match b ⟨sl.map stripS, st⟩ with
  | .ok d s' => .ok d s'.st
  | .exc x s' => .exc x s'.st
  | .stuck => .stuck
def lamR (bs : String → Option DE) (sl : List Sl) : LamR := fun k st => match bs k with
  | some b => lamRun b sl st
  | none => .stuck
def eCallL (n : Nat) (g : LamR → DFn) (bs : String → Option DE) (fa : DA) : DE := fun s => (fa s).bind fun ds s1 => if ds.length = n then lift s1 (g (lamR bs s1.sl) ds s1.st) else .stuck
theorem Ok.strip {G : Gam} {κ : Bs} {w w' : Wd} {s : DS} {σ : L2.St} {H H' : Hp} {S' : List Cell} (h : Ok G κ w s σ H) (le : w.le w') (f : FOk G w' S' H') : Ok G ⟨w', H', [], none⟩ w' ⟨s.sl.map stripS, S'⟩ σ H' := by
  have no : ∀ (i : Nat) (x : Sl), (s.sl.map stripS)[i]? = some x → x.own = false := fun i x e => by
    rw [List.getElem?_map] at e
    cases q : s.sl[i]? with
    | none => rw [q] at e; cases e
    | some y => rw [q] at e; cases e; cases y <;> rfl
  refine ⟨f, .refl _ _, by simp [h.len], fun i d e => ?_, fun i x e o => ?_, fun i j x y a e1 e2 o1 o2 _ _ => ?_, fun p hp => by simp at hp, fun a z => nomatch z⟩
  · replace e : (s.sl.map stripS)[i]? = some (.val d) := e
    rw [List.getElem?_map] at e
    cases q : s.sl[i]? with
    | none => rw [q] at e; cases e
    | some y =>
      rw [q] at e
      cases y with
      | val d' =>
        cases e
        obtain ⟨v, h1, h2⟩ := h.val i d q
        exact ⟨v, h1, h2.mono le⟩
      | _ => cases e
  · rw [no i x e] at o; cases o
  · rw [no i x e1] at o1; cases o1
/-- the words while w stands below -/
def Gam.at (G : Gam) (w : Wd) : Gam := G.sw (fun k f w' => G.lam k f w' ∧ w.le w') (fun k f a b le h => ⟨G.lamM k f a b le h.1, h.2.trans le⟩)
/-- the bodies of a maker's lambdas -/
structure LamB (G : Gam) (X : Cx) (k : Nat) (pr : Arguments) (bd : Expr) (sc : Scope) (b : DE) : Prop where
  L : LamX.LamS X.env.scope sc
  bind : ∀ (q : Str) (cl : List (Str × Addr)) (pm cv ctv : Value), bindArgs (PySem.W.kla_fn "<lambda>" q pr bd sc cl pm cv ctv) ⟨[], []⟩ = pure []
  body : ∀ (A : Around) (outer : List Env) (s : Shared) (H : Hp) (E : XK) (f c' : Addr), Room k (A.deeper (LamX.lamEnv X sc s.heap.objs.size f c')) → Takes (LamX.lamCx X A outer s H E sc f c') (fun c d _ H => E c d H) →
    PD G (fun c d _ H => E c d H) (LamX.lamCx X A outer s H E sc f c') bd b
def LamsOk (G : Gam) (X : Cx) (T : LamT) (k : Nat) (bs : String → Option DE) : Prop := ∀ (n : String) (b : DE), bs n = some b → ∃ pr bd sc, T.site n = some (pr, bd, sc) ∧ LamB G X k pr bd sc b
section
variable {G : Gam} {W : WX} {X : Cx}
theorem pd_act {T : LamT} {bs : String → Option DE} {pins : List (Addr × Obj)} {σ : L2.St} {H : Hp} {sh : Shared} {κ : Bs} {w : Wd} {s : DS} {k i : Nat} {Ng : List Str} {qg : Str} {sg : Scope} {g : Addr} {cdg : Value} {Eg : XK} {pn : List (Addr × Obj)} {xe : Value → Shared → Prop} {a : Str} {Wz : WX} {p1 p2 : Pos}
    (I : Inv X pins σ H sh) (ok : Ok G κ w s σ H) (GL : ∀ n f w', G.lam n f w' → T.lam n f w') (hq : T.q = X.env.qual ++ "<lambda>") (hcl : T.cells = X.env.cells) (hbs : LamsOk G X T k bs)
    (tk : Takes ((cxOf (L2.CX X.prog X.w) X.prog X.w X.K X.mg X.base Ng qg sg g cdg X.A X.stack sh H Eg).tr pn xe) Wz) (hr : Room (k + 1) (X.A.deeper (envOfC qg sg sh.heap.objs.size g cdg)))
    (hN : Ng[i]? = some a) (hv : Vis sg a) (hd : (a == ("__debug__" : Str)) = false := by decide) (hcd : (a == ("__classdict__" : Str)) = false := by decide) :
    PD (G.at w) Wz ((cxOf (L2.CX X.prog X.w) X.prog X.w X.K X.mg X.base Ng qg sg g cdg X.A X.stack sh H Eg).tr pn xe) (.Call (.Name a p1) [] [] p2) (eAct (lamR bs s.sl) i) := by
  refine ⟨fun pinsZ sZ σZ HZ Q IZ ⟨κZ, wZ, dZ, okZ, q⟩ => ?_⟩
  have ⟨n, e⟩ : ∃ n, dZ.sl[i]? = some (.val (.lam n)) := by
    unfold eAct at q
    split at q
    · exact ⟨_, by assumption⟩
    · exact q.elim
  simp only [eAct, e] at q
  obtain ⟨v, hs, rep⟩ := okZ.val i _ e
  cases rep with
  | @lam f _ hl =>
  obtain ⟨hl, le⟩ := hl
  have ⟨b, hb⟩ : ∃ b, bs n = some b := by
    unfold lamR at q
    split at q
    · exact ⟨_, by assumption⟩
    · exact q.elim
  simp only [lamR, hb] at q
  obtain ⟨pr, bd, sc, hsite, B⟩ := hbs n b hb
  obtain ⟨pr', bd', sc', pm, c', ctv, hsite', hF, hC⟩ := GL _ _ _ hl
  rw [hsite] at hsite'
  cases hsite'
  have hf0 := okZ.fok.sub _ _ hF
  have hc0 := okZ.fok.sub _ _ hC
  refine wpAny_Call_Name_kw (thn ((pe_var (pos := p1) (i := i) hN hv hd hcd).run pinsZ sZ σZ HZ (fun v H1 => v = .ref f ∧ H1 = HZ) IZ ⟨.ref f, hs, rfl, rfl⟩) fun u s1 ⟨v, H1, I1, r1, q1⟩ => ?_)
  obtain ⟨ev, eH⟩ := q1
  subst ev
  rw [eH] at I1
  obtain rfl : u = Value.ref f := r1
  have of1 : s1.heap.get? f = some (PySem.W.kla_obj "<lambda>" T.q pr bd sc (cloFrom T.cells sc.names []) pm c' ctv) := (I1.hok f _ hf0).1
  obtain ⟨⟨oc, vs, t, hoc, hdc, hvc⟩, _, _⟩ := I1.hok c' _ hc0
  rw [hq, hcl] at of1
  rw [hq] at hvc
  refine PySem.W.callWith_F0 ⟨_, _, _, _, of1⟩ ?_
  have un : Un (frs X.stack) [] H HZ sh.heap s1.heap := I1.base
  have rc : codeAny (model X.prog X.w) (X.A.deeper (envOfC qg sg sh.heap.objs.size g cdg)) (.call (.ref f) ⟨[], []⟩) (CR (L2.CX X.prog X.w) (envOfC qg sg sh.heap.objs.size g cdg :: X.stack) X.prog X.w HZ s1 Q (WE Wz σZ)) s1 := by
    refine PySem.W.kla_callFunE hr.depth of1 rfl B.L.co B.L.gen rfl ⟨c', oc, vs, t, rfl, hoc, hdc, hvc⟩ ?_
    rw [B.bind]
    refine wpAny_pure (wpAny_newFunctionEnv (fun y hy => (B.L.own y hy).2) (fun y hy => absurd hy (by simp)) (fun h₁ hns hsb => ⟨I1.nolimit.fresh _ hsb, ?_⟩) B.L.kind)
    show codeAny _ _ (.expr bd (LamX.lamEnv X sc s1.heap.objs.size f c')) _ _
    have kp : ∀ b o, s1.heap.get? b = some o → h₁.get? b = some o := fun b o e => hsb.extBut b o (Nat.ne_of_lt (Heap.lt_size e)) (Heap.get?_push_of_some _ e)
    have J : Inv (LamX.lamCx X (X.A.deeper (envOfC qg sg sh.heap.objs.size g cdg)) (envOfC qg sg sh.heap.objs.size g cdg :: X.stack) s1 HZ (WE Wz σZ) sc f c') [] σ HZ { s1 with heap := h₁, toks := s1.toks + ([] : List (Str × Value)).length } :=
      LamX.lam_start2 I B.L I1.env0 hr.hd un hns kp
    have okB := ok.strip le (okZ.fok.bk (.inr fun _ _ z => z.1))
    have ht : tD G (fun c d _ H => WE Wz σZ c d H) b σ HZ Q := by
      refine ⟨_, _, _, okB, ?_⟩
      unfold lamRun at q
      cases er : b ⟨s.sl.map stripS, dZ.st⟩ with
      | stuck => rw [er] at q; exact q.elim
      | ok d s' =>
        rw [er] at q
        intro w' v' H' le' ok' r'
        exact q w' v' H' le' (okZ.step ok'.nx (ok'.fok.sw (.inr fun _ _ z => ⟨z, le.trans le'⟩))) (r'.sw (.inr fun _ _ z => ⟨z, le.trans le'⟩))
      | exc x s' =>
        rw [er] at q
        intro w' cl dd H' le' ok' r'
        exact q w' cl dd H' le' (okZ.step ok'.nx (ok'.fok.sw (.inr fun _ _ z => ⟨z, le.trans le'⟩))) (r'.sw (.inr fun _ _ z => ⟨z, le.trans le'⟩))
    refine PySem.W.kla_codeExpr (wpAny_mono ((B.body _ _ s1 HZ _ _ _ (hr.deeper _) (takes_of rfl rfl rfl rfl)).run [] _ _ HZ Q J ht) (fun v s' hq => ?_) fun e s' hq => hq)
    obtain ⟨w', H', J', rv, q⟩ := hq
    exact ⟨w', H', J'.os, J'.bare, J'.base, J'.hok, rv, q⟩
  refine wpAny_call (codeAny_mono rc fun r s' hq => ?_)
  cases r with
  | error e => exact passAt tk σZ pinsZ HZ s1 e s' I1 hq
  | ok fl =>
    cases fl with
    | ret u => exact I1.after hq
    | next => exact False.elim hq
    | brk => exact False.elim hq
    | cont => exact False.elim hq
/-- the body of a def that is handed lambdas -/
def BodyL (G : Gam) (P : Program) (w0 : World) (mg : Str → Option Value) (base : Heap) (k : Nat) (N : List Str) (qual : Str) (st : Stmt) (f : Addr) (a : Str) (i : Nat) (body : LamR → DStm) : Prop :=
  ∀ (Λ : LamR) (cdv : Value) (A : Around) (outer : List Env) (s : Shared) (H : Hp) (E : XK), Room k (A.deeper (envOfC qual (defScope st) s.heap.objs.size f cdv)) →
    Takes (cxOf (L2.CX P w0) P w0 G.K mg base N qual (defScope st) f cdv A outer s H E) (fun c d _ H => E c d H) → PassesOwn (model P w0) (A.deeper (envOfC qual (defScope st) s.heap.objs.size f cdv)) (envOfC qual (defScope st) s.heap.objs.size f cdv) (cxOf (L2.CX P w0) P w0 G.K mg base N qual (defScope st) f cdv A outer s H E).xe →
    (∀ (pn : List (Addr × Obj)) (xe : Value → Shared → Prop) (W : WX) (p1 p2 : Pos), Takes ((cxOf (L2.CX P w0) P w0 G.K mg base N qual (defScope st) f cdv A outer s H E).tr pn xe) W → PD G W ((cxOf (L2.CX P w0) P w0 G.K mg base N qual (defScope st) f cdv A outer s H E).tr pn xe) (.Call (.Name a p1) [] [] p2) (eAct Λ i)) →
    PDSs G (fun c d _ H => E c d H) (cxOf (L2.CX P w0) P w0 G.K mg base N qual (defScope st) f cdv A outer s H E) (defBody st) (body Λ)
theorem pd_callL {T : LamT} {bs : String → Option DE} {k n m i : Nat} {f : Addr} {fd : FuncData} {N ps : List Str} {body : LamR → DStm} {x qual a : Str} {st : Stmt} {p pos : Pos} {e : Expr} {es : List Expr} {fa : DA} (hK : G.K = X.K) (F : Fun X.K x qual st f fd) (S : FnScope N ps (defScope st)) (hn : ps.length = n) (hm : N.length - n = m)
    (GL : ∀ n f w', G.lam n f w' → T.lam n f w') (hq : T.q = X.env.qual ++ "<lambda>") (hcl : T.cells = X.env.cells) (hbs : LamsOk G X T k bs)
    (hbody : ∀ w, BodyL (G.at w) X.prog X.w X.mg X.base (k + 1) N qual st f a i body) (hN : N[i]? = some a) (hv : Vis (defScope st) a)
    (hr : Room (k + 2) X.A) (hg : Gl X x) (hmg : X.mg x = some (.ref f)) (hb : Binds X.K fd ps []) (tk : Takes X W) (ha : PDA G W X (e :: es) fa) (hdb : (x == ("__debug__" : Str)) = false := by decide) (hda : (a == ("__debug__" : Str)) = false := by decide) (hcd : (a == ("__classdict__" : Str)) = false := by decide)
    (he : starEach (e :: es) X.env = (false, eval e X.env) :: starEach es X.env := by rfl) (hpl : (backTo pos (starEach es X.env)).any (·.1) = false := by rfl) : PD G W X (.Call (.Name x p) (e :: es) [] pos) (eCallL n (fun Λ => fnD n (body Λ) m) bs fa) := by
  refine ⟨fun pins s σ H Q I h => ?_⟩
  obtain ⟨κ, w, ds, ok, q⟩ := h
  refine wpAny_Call_Name_kw (ld_glob I hg hmg ?_ hdb)
  have hh : tDA G W fa σ H fun vs H1 => ∃ d s1 w1, w.le w1 ∧ Ok G κ w1 s1 σ H1 ∧ Reps G w1 vs d ∧ PostG G W (Rep G) κ w1 σ (if d.length = n then lift s1 (fnD n (body (lamR bs s1.sl)) m d s1.st) else .stuck) Q := ⟨κ, w, ds, ok, PostG.bind q⟩
  refine PySem.W.callWith_K (h₀ := X.base) I.ok.mod.kin F.kp (thn (ha.run pos pins s σ H _ I hh) fun us s1 ⟨vs, H1, I1, r, d, s2, w1, le, ok1, rs, q1⟩ => ⟨I1.kIn, ?_⟩) he hpl
  by_cases c : d.length = n
  case neg => rw [if_neg c] at q1; exact q1.elim
  rw [if_pos c] at q1
  have q2 := postF_of ok1 q1
  obtain ⟨oc, od, kV, doc, pm, an, cdv, ct, osl, rfl, lk, hcode⟩ := F.ex
  have hl : vs.length = n := by rw [rs.length]; exact c
  have hul : us.length = ps.length := by rw [← r.length, hl, hn]
  have rc : codeAny (model X.prog X.w) X.A (.call (.ref f) ⟨us, []⟩) (CR (L2.CX X.prog X.w) X.stack X.prog X.w H1 s1 Q (WE W σ)) s1 := by
    have hbd := hb s1 us I1.kIn (by simpa using hul)
    rw [List.append_nil] at hbd
    refine LamX.run_ofS (N := N) (ps := ps) (us := us) (vs := vs) lk hcode S hr I1.env0 hbd r (by rw [hl, hn]) fun hr' => ?_
    have hb0 := hbody w1 (lamR bs s2.sl) cdv X.A X.stack s1 H1 (WE W σ) hr' (takes_of rfl rfl rfl rfl) (passes_of rfl) 
    have hK' : (G.at w1).K = X.K := hK
    rw [hK'] at hb0
    refine ⟨_, hb0 fun pn xe W' p1 p2 tk' => pd_act I1 ok1 GL hq hcl hbs tk' hr' hN hv hda hcd, ?_⟩
    rw [start_eq (m := m) (by rw [hl]; exact hm)]
    have fok' : FOk (G.at w1) w1 s2.st H1 := ok1.fok.sw (.inr fun _ _ z => ⟨z, .refl _⟩)
    have rs' : Reps (G.at w1) w1 vs d := rs.sw (.inr fun _ _ z => ⟨z, .refl _⟩)
    refine ⟨⟨w1, H1, [], none⟩, w1, _, Ok.start fok' rs' m, ?_⟩
    unfold fnD at q2
    rw [if_pos c] at q2
    cases e : body (lamR bs s2.sl) ⟨d.map Sl.val ++ List.replicate m .un, s2.st⟩ with
    | stuck => rw [e] at q2; exact q2.elim
    | exc x s' =>
      rw [e] at q2
      exact fun w' σ' c dd H' le ok' rx => q2 w' c dd H' ok'.nx (ok'.fok.bk (.inr fun _ _ z => z.1)) (rx.bk (.inr fun _ _ z => z.1))
    | ok o s' =>
      rw [e] at q2
      cases o with
      | nx => exact fun w' σ' H' le ok' => q2 w' .non H' ok'.nx (ok'.fok.bk (.inr fun _ _ z => z.1)) .non
      | rt d => exact fun w' σ' v H' le ok' r' => q2 w' v H' ok'.nx (ok'.fok.bk (.inr fun _ _ z => z.1)) (r'.bk (.inr fun _ _ z => z.1))
      | bk => exact q2.elim
      | ct => exact q2.elim
  refine wpAny_call (codeAny_mono rc fun r s' hq => ?_)
  cases r with
  | error e => exact passAt tk σ pins H1 s1 e s' I1 hq
  | ok fl =>
    cases fl with
    | ret u => exact I1.after hq
    | next => exact False.elim hq
    | brk => exact False.elim hq
    | cont => exact False.elim hq
end
end DL
set_option maxRecDepth 100000
set_option maxHeartbeats 4000000
set_option autoImplicit false
namespace DL
open PySem PySem.Spec PyProof.Rows L2
/-! ### the law's end, with tables of code objects -/
def tabP (P : Addr) (q : Str) : Addr → Hp → HO → Prop := fun a F o => a = P ∧ ∃ ps : Array Value, o = .tbl ps ∧ TriplesOk ps.toList ∧ ∀ (pos : Pos) (cv : Value), codeAmong pos ps.toList = some cv → ∃ c, cv = .ref c ∧ F c = some (LamX.CodeO c q)
theorem tabP_nil (P : Addr) (q : Str) (F : Hp) : tabP P q P F (.tbl #[]) := ⟨rfl, #[], rfl, True.intro, fun pos cv hc => by
  have hc : codeAmong pos [] = some cv := hc
  simp [codeAmong] at hc⟩
def tabG (ms : List (String × Addr × Str)) : String → Addr → Hp → HO → Prop := fun k a F o => ∃ m, ms.lookup k = some m ∧ tabP m.1 m.2 a F o
theorem tabG_mono (ms : List (String × Addr × Str)) (k : String) (a : Addr) (F F' : Hp) (o : HO) (e : ∀ a o, F a = some o → F' a = some o) : tabG ms k a F o → tabG ms k a F' o := fun ⟨m, hm, h0, ps, h1, h2, h3⟩ => ⟨m, hm, h0, ps, h1, h2, fun pos cv hc => by
  obtain ⟨c, z1, z2⟩ := h3 pos cv hc
  exact ⟨c, z1, e _ _ z2⟩⟩
theorem glam_of {G : Gam} {ms : List (String × Addr × Str)} {tk : String} {T : LamT} (ht : G.tab = tabG ms) (hl : ms.lookup tk = some (T.P, T.q)) (hlam : ∀ k f w, G.lam k f w ↔ T.lam k f w) : GLam G tk T := by
  refine ⟨fun a F o => ?_, fun k f w _ => hlam k f w⟩
  rw [ht]
  constructor
  · rintro ⟨m, hm, h⟩
    rw [hl] at hm
    cases hm
    exact h
  · intro h
    exact ⟨_, hl, h⟩
def spLawT (K : PySem.W.Frag) (Ps : List Addr) : Sp := fun vs H Q _ => ∃ (a : Addr) (ns : List Int), vs = [.ref a] ∧ SqL K H a (ns.map V.int) ∧ ns.length ≤ 63 ∧ (∀ z ∈ ns, Builtin.Int.intBits z ≤ 1048576) ∧ (∀ P ∈ Ps, H P = some (.tbl #[])) ∧ ∀ H', Q (.bl true) H'
theorem law_endT {G : Gam} {P : Program} {w0 : World} {mg : Str → Option Value} {base : Heap} {k : Nat} {f : Addr} {fd : FuncData} {ps : List Str} {g : DFn} {Ms : List (String × Addr)} (F : FnOk P w0 G.K mg base (L2.CX P w0) k f fd ps (spG G 1 g)) (nd : (Ms.map (·.2)).Nodup)
    (ht : ∀ m ∈ Ms, ∀ F, G.tab m.1 m.2 F (.tbl #[]))
    (h : ∀ ns : List Int, ns.length ≤ 63 → (∀ z ∈ ns, Builtin.Int.intBits z ≤ 1048576) → ∃ S, g [.scr (ns.map D.int)] (Ms.map fun m => .tab m.1) = .ok (.bl true) S) : FnOk P w0 G.K mg base (L2.CX P w0) k f fd ps (spLawT G.K (Ms.map (·.2))) :=
  F.imp fun vs H Q E ⟨a, ns, e, hS, hl, hb, hP, q⟩ => by
    obtain ⟨S, hg⟩ := h ns hl hb
    subst e
    have hF : ∀ b, b ∉ Ms.map (·.2) → (fun b => if b ∈ Ms.map (·.2) then none else H b : Hp) b = H b := fun b hb => if_neg hb
    have nt : ∀ o, H a = some o → (∀ ps, o ≠ .tbl ps) → a ∉ Ms.map (·.2) := fun o e n z => n #[] (Option.some.inj (e.symm.trans (hP a z)))
    refine ⟨rfl, ⟨fun b => if b ∈ Ms.map (·.2) then none else H b, Ms.map (·.2)⟩, Ms.map fun m => .tab m.1, [.scr (ns.map D.int)], ⟨fun b o e => ?_, by simp, fun n b c e1 e2 => ?_, nd, fun b hb => if_pos hb⟩, .cons (.scr ?_ (Reps.of_ints ns)) .nil, ?_⟩
    · by_cases z : b ∈ Ms.map (·.2)
      · have e : (if b ∈ Ms.map (·.2) then none else H b) = some o := e
        rw [if_pos z] at e; cases e
      · have e : (if b ∈ Ms.map (·.2) then none else H b) = some o := e
        rw [if_neg z] at e; exact e
    · rw [List.getElem?_map] at e1 e2
      cases hm : Ms[n]? with
      | none => rw [hm] at e1; cases e1
      | some m =>
        rw [hm] at e1 e2
        cases e1; cases e2
        have mem := List.mem_of_getElem? hm
        exact ⟨_, hP _ (List.mem_map.mpr ⟨m, mem, rfl⟩), ht m mem _⟩
    · rcases hS with (z | ⟨o, z⟩) | z
      · exact .inl (.inl ((hF a (nt _ z fun _ => by simp)).trans z))
      · exact .inl (.inr ⟨o, (hF a (nt _ z fun _ => by simp)).trans z⟩)
      · exact .inr z
    · rw [hg]
      intro w' v H' nx f r
      cases r
      exact q H'
/-- the tables of the makers -/
def TabsT (q : Program) (K : PySem.W.Frag) (h : Heap) : Prop := ∀ (y : Str) (c P : Addr), ((recsOf q).find? (fun e => e.name == y)).isSome = true → PySem.W.tabIn K y = some (c, P) → PySem.W.CodeHd h c P ∧ h.get? P = some { cls := .none, data := .fields #[] }
theorem walk_ofD {l : PySem.W.OpenLaw} {n k : Nat} {q : Program} {loose : List Str} {XP : (Str → Option Value) → Heap → Prop} {YP : World → Heap → Prop} {d : DefRec} {K : Params → PySem.W.Frag} {CX : World → CXT} {x : Str}
    (hn : l.most = some n) (hn2 : n ≤ sizeLine) (hdf : d.params.defaults = []) (hr : Room k callerA) (hY : ∀ (w : World) (h : Heap), YP w h → (K w.params).In h)
    (F : ∀ (w : World) (mg : Str → Option Value) (fa : Addr) (h : Heap), (K w.params).In h → h.Ns mainGlobals mg → mg d.name = some (.ref fa) → TabsT q (K w.params) h → LamX.LawAtS l w (K w.params) (CX w) k n x mg fa h)
    (hCX : ∀ (w : World) (H : Hp) (s : Shared) (e : Value) (s' : Shared), CX w [] H s (fun _ _ _ => False) e s' → False) :
    PySem.W.WalkO q loose XP YP l.row.toRowW d [] (fun f vs => PySem.call f vs) := by
  refine Att.attach_callB hn hdf fun w s₀ s₁ mg mb fa o pm cd doc a vs ns G Y ho hd hcd hmg hobj hints hlen hbits hg => ?_
  have KX := hY w _ Y
  have tt : TabsT q (K w.params) s₁.heap := fun y c P hr ht => by
    obtain ⟨dd, hdd⟩ := Option.isSome_iff_exists.mp hr
    exact PySem.W.tab_of G.T KX hdd ht
  obtain ⟨fd, cs, sp, hT, nT, C, hb, hsp, hF⟩ := F w mg fa _ KX G.T.g hmg tt
  exact LamX.law_callTs KX G.T.g G.T.b G.T.builtins G.T.nolimit hg hT nT C G.T.bmain hobj hints (Nat.le_trans hlen hn2) hr hF hb (fun H hH hS => hsp H a ns hlen hbits hH hS) fun H e s' => hCX w H s₁ e s'
end DL
set_option maxRecDepth 100000
set_option maxHeartbeats 4000000
set_option autoImplicit false
namespace DL
open PySem PySem.Spec PyProof.Rows L2
/-! ### own error classes: the facts of the head -/
/-- the text of an own error's __init__ -/
def XSh (st : Stmt) (slf x f : Str) : Prop := ∃ (ar : Arg) (p0 p1 p2 p3 p4 p5 p6 p7 p8 p9 : Pos),
  defBody st = [.Expr (.Call (.Attribute (.Call (.Name "super" p0) [] [] p1) "__init__" p2) [.Name x p3] [] p4) p5, .Assign [.Attribute (.Name slf p6) f p7] (.Name x p8) p9] ∧
  ((defArgs st).posonlyargs ++ (defArgs st).args).head? = some ar ∧ ar.arg = slf ∧
  (defScope st).names.lookup ("super" : Str) = some .globalImplicit ∧ (defScope st).names.lookup ("__class__" : Str) = some .free ∧ (defScope st).names.lookup slf = some .local ∧ (defScope st).names.lookup x = some .local ∧ (∀ z ∈ (defScope st).names, z.2 ≠ .cell) ∧
  (defScope st).kind = .function ∧ (defScope st).isCoroutine = false ∧ (defScope st).isGenerator = false ∧ (p2.endLine == p4.line) = true
def xcB (K : PySem.W.Frag) (C fI : Addr) (f : Str) : Bool :=
  (PySem.W.findIn K (.ref C) "__setattr__" == some (some (.builtin "object.__setattr__"))) && ((PySem.W.subIn K (.ref C) (.type "BaseException") == some true) && ((PySem.W.typeIn K (.ref C) == some (.type "type")) && (PySem.W.keepIn K (.ref C) && ((PySem.W.typeIn K (.ref fI) == some (.type "function")) &&
  ((PySem.W.mroIn K C (.ref C) == some true) && ((PySem.W.ks_superIn K C C "__init__" == some (some (.builtin "ValueError.__init__"))) && ((PySem.W.subIn K (.ref C) (.type "ValueError") == some true) && ((PySem.W.nsIn K cStatics "thirdparty.any" == some none) && ((PySem.W.findIn K (.ref C) f == some none) && xfB K C)))))))))
structure XFacts (P : Program) (G : Gam) (mg : Str → Option Value) (c : String) (C fI : Addr) (fd : FuncData) (slf x f : Str) : Prop where
  T : XCls G G.K c C fI
  I : XIn P G.K mg C fI fd slf x f
  F : XfC G.K C
  B : Binds G.K fd [slf, x] []
theorem xfacts_of {P : Program} {G : Gam} {mg : Str → Option Value} {c : String} {C fI NS cda cc : Addr} {st : Stmt} {slf x f nm q name qual file : Str} {bs bm sub : List Value} {sn : List Str} {ab : Bool} {col : Option Bool} {dd : Option Addr} {k0 k1 k2 k3 k5 : Option Value}
    {oc dV kV doc pm ct ccl cl : Value} {od an cdd cld : Option Addr} {osl ccs csl : Array (Option Value)} {vs : Array Value} {tf : Tok}
    (hct : G.ct c = some C) (xl : G.K.lookup C = some (excClassObj nm q C NS bs bm true sn sub ab col dd k0 k1 k2 k3 k5 "ValueError.__new__")) (xr : PySem.HandSPX.refsVE bm = true) (xi : PySem.W.findIn G.K (.ref C) "__init__" = some (some (.ref fI)))
    (xf : G.K.lookup fI = some ⟨oc, od, .func (PySem.W.fnX name qual (defArgs st) (defBody st) (defScope st) [("__class__", cc)] dV kV doc pm an (.ref cda) ct), osl⟩) (xc : PySem.W.codeIn G.K (.ref cda) qual = true) (xd : G.K.lookup cda = some ⟨ccl, cdd, .fields vs, ccs⟩) (xv : vs[2]? = some (.str file tf))
    (xe : ((P.main.file : Str) == file) = true) (xk : G.K.lookup cc = some ⟨cl, cld, .cell (some (.ref C)), csl⟩) (xB : xcB G.K C fI f = true) (xt : (P.main.scope.names.lookup ("super" : Str)).isSome = false) (xs : mg "super" = none) (sh : XSh st slf x f)
    (d1 : (slf == ("__debug__" : Str)) = false) (d2 : (x == ("__debug__" : Str)) = false) (d3 : slf ≠ x) (hb : ∀ us : List Value, us.length = 2 → bindArgs (PySem.W.fnX name qual (defArgs st) (defBody st) (defScope st) [("__class__", cc)] dV kV doc pm an (.ref cda) ct) ⟨us, []⟩ = pure ([slf, x].zip us)) :
    XFacts P G mg c C fI (PySem.W.fnX name qual (defArgs st) (defBody st) (defScope st) [("__class__", cc)] dV kV doc pm an (.ref cda) ct) slf x f := by
  unfold xcB at xB
  simp only [Bool.and_eq_true, beq_iff_eq] at xB
  obtain ⟨b1, b2, b3, b4, b5, b6, b7, b8, b9, b10, b11⟩ := xB
  obtain ⟨ar, p0, p1, p2, p3, p4, p5, p6, p7, p8, p9, s1, s2, s3, s4, s5, s6, s7, s8, s9, s10, s11, s12⟩ := sh
  have oex : OexC G.K C := ⟨⟨nm, q, NS, bs, bm, sn, sub, ab, col, dd, k0, k1, k2, k3, k5, xl, xr⟩, b1, b2, b3, b4⟩
  refine ⟨⟨hct, xi, b5, oex⟩, ⟨⟨oc, doc, pm, dV, kV, ct, ccl, cl, od, an, cdd, cld, osl, ccs, csl, cda, cc, name, qual, file, defArgs st, defScope st, vs, tf, ar, p0, p1, p2, p3, p4, p5, p6, p7, p8, p9, by rw [s1], xf, xc, s2, s3, xd, xv, xe, xk, s4, s5, s6, s7, s8, s9, s10, s11, s12⟩, xt, xs, b6, b7, b8, b9, oex, b10, d1, d2, d3⟩, xfB_ok b11, .all hb⟩
/-! ### handlers without addresses -/
def HdR.bare (h : HdR) : HdR := ⟨.none, h.oi, h.m, h.f⟩
theorem catch_bare (x : Xc) : ∀ (hs : List HdR) (s : DS), catchD (hs.map HdR.bare) x s = catchD hs x s
  | [], s => rfl
  | ⟨_, none, m, f⟩ :: r, s => by
    show (match m x.cls with | some true => noX (f x s) | some false => catchD (r.map HdR.bare) x s | none => .stuck) = _
    rw [catch_bare x r s]
    rfl
  | ⟨_, some i, m, f⟩ :: r, s => by
    show (match m x.cls with | some true => (if i < s.sl.length then unD i (noX (f x ⟨s.sl.set i .un, s.st⟩)) else .stuck) | some false => catchD (r.map HdR.bare) x s | none => .stuck) = _
    rw [catch_bare x r s]
    rfl
theorem try_bare (b : DStm) (hs : List HdR) : sTry b (hs.map HdR.bare) = sTry b hs := by
  funext s
  unfold sTry
  cases b s with
  | exc x s1 => exact catch_bare x hs s1
  | ok o s1 => rfl
  | stuck => rfl
def hmT (yes no : List String) : String → Option Bool := fun k => if k ∈ yes then some true else if k ∈ no then some false else none
theorem mok_of {G : Gam} {K : PySem.W.Frag} {c : Value} {oi : Option Nat} {f : Xc → DStm} {yes no : List String} (h1 : ∀ k ∈ yes, ∀ C, G.ct k = some C → PySem.W.exmOne K (.ref C) c = some true) (h2 : ∀ k ∈ no, ∀ C, G.ct k = some C → PySem.W.exmOne K (.ref C) c = some false) : MOk G K ⟨c, oi, hmT yes no, f⟩ := by
  intro k b h C hC
  simp only [hmT] at h
  split at h
  · cases h; exact h1 k (by assumption) C hC
  · split at h
    · cases h; exact h2 k (by assumption) C hC
    · cases h
section
variable {G : Gam} {W : WX} {X : Cx}
theorem pds_tryB {bd : List Stmt} {g0 : ExceptHandler} {gs : List ExceptHandler} {hs : List HdR} {tpos : Pos} {fb : DStm} (est : X.stack = X.env :: X.outer) (efr : X.env.frame = some X.env.locals) (nd : X.N.Nodup) (tk : Takes X W)
    (hbd : ∀ (Wi : WX) (pn : List (Addr × Obj)) (xe : Value → Shared → Prop), Takes (X.tr pn xe) Wi → PassesOwn (model X.prog X.w) X.A X.env xe → PDSs G Wi (X.tr pn xe) bd fb) (hm : ∀ h ∈ hs, MOk G X.K h)
    (hh : HdA X (g0 :: gs) (hs.map fun h => (h.c, h.oi, tSu G h))) : PDS G W X (.Try bd (g0 :: gs) [] [] tpos) (sTry fb (hs.map HdR.bare)) := by
  rw [try_bare]
  exact pds_try est efr nd tk hbd hm hh
end
end DL
set_option maxRecDepth 100000
set_option maxHeartbeats 4000000
set_option autoImplicit false
namespace DL
open PySem PySem.Spec PyProof.Rows L2
/-! ### the lambdas of a text, in their order -/
abbrev LSite := Arguments × Expr × Scope
def lamsE : Nat → Expr → List LSite
  | 0, _ => []
  | n + 1, e => match e with
    | .Lambda a b s _ => [(a, b, s)]
    | .BoolOp _ vs _ => vs.flatMap (lamsE n)
    | .BinOp a _ b _ => lamsE n a ++ lamsE n b
    | .UnaryOp _ a _ => lamsE n a
    | .IfExp a b c _ => lamsE n a ++ lamsE n b ++ lamsE n c
    | .Compare a _ cs _ => lamsE n a ++ cs.flatMap (lamsE n)
    | .Call f as _ _ => lamsE n f ++ as.flatMap (lamsE n)
    | .Attribute a _ _ => lamsE n a
    | .Subscript a b _ => lamsE n a ++ lamsE n b
    | .List es _ => es.flatMap (lamsE n)
    | .Tuple es _ _ => es.flatMap (lamsE n)
    | _ => []
def lamsS : Nat → Stmt → List LSite
  | 0, _ => []
  | n + 1, s => match s with
    | .Return (some e) _ => lamsE 30 e
    | .Assign _ e _ => lamsE 30 e
    | .Expr e _ => lamsE 30 e
    | .AugAssign _ _ e _ => lamsE 30 e
    | .For _ e b _ _ => lamsE 30 e ++ b.flatMap (lamsS n)
    | .While e b _ _ => lamsE 30 e ++ b.flatMap (lamsS n)
    | .If e b c _ => lamsE 30 e ++ b.flatMap (lamsS n) ++ c.flatMap (lamsS n)
    | _ => []
def lamsOf (st : Stmt) : List LSite := (defBody st).flatMap (lamsS 12)
def siteOf (ns : List String) (st : Stmt) : String → Option LSite := fun k => (ns.zip (lamsOf st)).lookup k
section
variable {G : Gam} {W : WX} {X : Cx}
theorem lamsOk_nil {T : LamT} {k : Nat} : LamsOk G X T k (fun n => List.lookup n []) := fun n b h => by simp at h
theorem lamsOk_cons {T : LamT} {k : Nat} {n0 : String} {pr : Arguments} {bd : Expr} {sc : Scope} {b : DE} {L : List (String × DE)} (hs : T.site n0 = some (pr, bd, sc)) (B : LamB G X k pr bd sc b) (r : LamsOk G X T k (fun n => List.lookup n L)) : LamsOk G X T k (fun n => List.lookup n ((n0, b) :: L)) := fun n b' h => by
  have h : List.lookup n ((n0, b) :: L) = some b' := h
  by_cases e : n = n0
  · subst e
    rw [List.lookup_cons_self] at h
    cases h
    exact ⟨pr, bd, sc, hs, B⟩
  · have h1 : (n == n0) = false := beq_eq_false_iff_ne.mpr e
    simp only [List.lookup_cons, h1] at h
    exact r n b' h
theorem fn_stuck {P : Program} {w0 : World} {mg : Str → Option Value} {base : Heap} {f : Addr} {fd : FuncData} {ps : List Str} {k n : Nat} (hn : ps.length = n) : FnOk P w0 G.K mg base (L2.CX P w0) k f fd ps (spG G n (fun _ _ => .stuck)) :=
  ⟨fun vs H Q E h => by rw [h.1, hn], fun A outer s H args us vs Q E hr e0 hb r h => by
    obtain ⟨_, w, S, ds, _, _, q⟩ := h
    exact q.elim⟩
theorem BodyL.mono {P : Program} {w0 : World} {mg : Str → Option Value} {base : Heap} {j k : Nat} {N : List Str} {qual : Str} {st : Stmt} {f : Addr} {a : Str} {i : Nat} {body : LamR → DStm} (h : BodyL G P w0 mg base j N qual st f a i body) (hk : j ≤ k) : BodyL G P w0 mg base k N qual st f a i body :=
  fun Λ cdv A outer s H E hr => h Λ cdv A outer s H E (hr.mono hk)
end
theorem lawAt_of {G : Gam} {l : PySem.W.OpenLaw} {w : World} {k : Nat} {x : Str} {mg : Str → Option Value} {fa : Addr} {h : Heap} {fd : FuncData} {g : DFn} (Ms : List (String × Addr × Addr))
    (ht : ∀ m ∈ Ms, PySem.W.CodeHd h m.2.1 m.2.2 ∧ h.get? m.2.2 = some { cls := .none, data := .fields #[] }) (nl : ∀ m ∈ Ms, G.K.lookup m.2.2 = none) (nd : (Ms.map (·.2.2)).Nodup) (hb : ∀ (s : Shared) (u : Value), BindsTo s fd ⟨[u], []⟩ [(x, u)])
    (F : ∀ base : Heap, (∀ m ∈ Ms, LamX.TabB base mg m.2.1 m.2.2) → FnOk l.prog w G.K mg base (L2.CX l.prog w) k fa fd [x] (spG G 1 g)) (htab : ∀ m ∈ Ms, ∀ F, G.tab m.1 m.2.2 F (.tbl #[]))
    (hl : ∀ ns : List Int, ns.length ≤ 63 → (∀ z ∈ ns, Builtin.Int.intBits z ≤ 1048576) → ∃ S, g [.scr (ns.map D.int)] (Ms.map fun m => .tab m.1) = .ok (.bl true) S) : LamX.LawAtS l w G.K (L2.CX l.prog w) k 63 x mg fa h := by
  refine ⟨fd, Ms.map (·.2), spLawT G.K (Ms.map (·.2.2)), fun p hp => ?_, fun p hp => ?_, fun p hp => ?_, hb, fun H a ns h1 h2 h3 h4 => ⟨a, ns, rfl, h4, h1, h2, fun P hP => ?_, fun _ => rfl⟩, fun base _ _ tb => ?_⟩
  · obtain ⟨m, hm, rfl⟩ := List.mem_map.mp hp
    exact (ht m hm).2
  · obtain ⟨m, hm, rfl⟩ := List.mem_map.mp hp
    exact nl m hm
  · obtain ⟨m, hm, rfl⟩ := List.mem_map.mp hp
    exact (ht m hm).1
  · obtain ⟨m, hm, rfl⟩ := List.mem_map.mp hP
    exact h3 _ (List.mem_map.mpr ⟨m, hm, rfl⟩)
  · have e : Ms.map (·.2.2) = (Ms.map fun m => (m.1, m.2.2)).map (·.2) := by simp
    rw [e]
    refine law_endT (F base fun m hm => tb _ (List.mem_map.mpr ⟨m, hm, rfl⟩)) (by rw [← e]; exact nd) (fun m hm F => ?_) fun ns h1 h2 => ?_
    · obtain ⟨m', hm', rfl⟩ := List.mem_map.mp hm
      exact htab m' hm' F
    · have e2 : ((Ms.map fun m => (m.1, m.2.2)).map fun m => Cell.tab m.1) = Ms.map fun m => .tab m.1 := by simp
      rw [e2]
      exact hl ns h1 h2
end DL
set_option maxRecDepth 100000
set_option maxHeartbeats 4000000
set_option autoImplicit false
namespace DL
open PySem PySem.SeqAt
open AutoSeq1 (wpAny_loadPart')
open MeetsSeq MeetsSeq2 MeetsSeq3 SeqRoads2 GQ
section
variable {prog : Program} {w : World} {A : Around} {R : Result → Shared → Prop}
/-- at each turn the two lists are read anew: N items each; e tells what == gives -/
def ListB (prog : Program) (w : World) (A : Around) (E : Value → Shared → Prop) (l b : Addr) (N : Nat) (e : Nat → Bool) (I : Nat → Shared → Prop) : Prop :=
  ∀ i s, I i s → ∃ (items items2 : Array Value) (n n2 : Nat), s.heap.get? l = some { cls := .type "list", data := .seq items n } ∧ s.heap.get? b = some { cls := .type "list", data := .seq items2 n2 } ∧ items.size = N ∧ items2.size = N ∧
    ((∀ j, j < i → e j = true) → ∀ (h1 : i < items.size) (h2 : i < items2.size), wpAny (model prog w) A.in1 (eqBool items[i] items2[i]) (fun r s' => r = e i ∧ I (i + 1) s') E s)
theorem eq_loopB (l b : Addr) (N : Nat) (e : Nat → Bool) (I : Nat → Shared → Prop) (hl : ListB prog w A (fun e s' => R (.error e) s') l b N e I)
    (fin : ∀ i s, I i s → R (.ok (.ret (.bool ((List.range N).all e)))) s) (k : Nat) :
    ∀ i : Nat, N - i = k → i ≤ N → (∀ j, j < i → e j = true) → ∀ s, I i s →
      wpAny (model prog w) A.in1 (Builtin.«list.__eq__.loop» ⟨[.ref l, .ref b, rawInt i, rawInt 2], []⟩) (FinOf prog w A R) (fun e s' => R (.error e) s') s := by
  induction k with
  | zero =>
    intro i hk hi hall s h
    obtain ⟨items, items2, n, n2, hl1, hb1, hs1, hs2, _⟩ := hl _ _ h
    have hi' : i = N := by omega
    have hR : R (.ok (.ret (.bool true))) s := by
      have := fin i s h
      have ha : (List.range N).all e = true := by
        rw [List.all_eq_true]
        intro j hj
        exact hall j (by simp at hj; omega)
      rw [ha] at this
      exact this
    obtain ⟨hp, g, d, tk, os⟩ := s
    wp_walk using wpAny_loadPart' hl1, wpAny_loadPart' hb1
    have hi1 : items[((i : Nat) : Int).toNat]? = none := by simp; omega
    have hi2 : items2[((i : Nat) : Int).toNat]? = none := by simp; omega
    rw [hi1, hi2]
    wp_walk using wpAny_loadPart' hl1, wpAny_loadPart' hb1
    show R (.ok (.ret (.bool (items.size == items2.size)))) _
    rw [hs1, hs2]
    simpa using hR
  | succ k ih =>
    intro i hk hi hall s h
    obtain ⟨items, items2, n, n2, hl1, hb1, hs1, hs2, turn⟩ := hl _ _ h
    have hlt : i < items.size := by omega
    have hlt2 : i < items2.size := by omega
    have ht := turn hall hlt hlt2
    obtain ⟨hp, g, d, tk, os⟩ := s
    wp_walk using wpAny_loadPart' hl1, wpAny_loadPart' hb1
    have hi1 : items[((i : Nat) : Int).toNat]? = some items[i] := by simp [hlt]
    have hi2 : items2[((i : Nat) : Int).toNat]? = some items2[i] := by simp [hlt2]
    have hc : ((i : Int) + 1) = ((i + 1 : Nat) : Int) := by omega
    rw [hi1, hi2]
    refine wpAny_bind (wpAny_mono ht (fun r s2 h2 => ?_) fun _ _ x => x)
    obtain ⟨hr, h2⟩ := h2
    subst hr
    cases he : e i with
    | true =>
      have hrec := ih (i + 1) (by omega) (by omega) (fun j hj => by
        by_cases z : j = i
        · rw [z]; exact he
        · exact hall j (by omega)) s2 h2
      obtain ⟨hp2, g2, d2, tk2, os2⟩ := s2
      wp_walk
      rw [hc]
      exact ⟨plainId_quiet plain_eq_loop _, codeAny_builtin entry_eq_loop (by
        rw [Around.under_plainId plain_eq_loop _]
        exact hrec)⟩
    | false =>
      obtain ⟨it, it2, m, m2, hl2, hb2, hs3, hs4, _⟩ := hl _ _ h2
      have hR : R (.ok (.ret (.bool false))) s2 := by
        have := fin _ s2 h2
        have ha : (List.range N).all e = false := by
          rw [List.all_eq_false]
          exact ⟨i, by simp; omega, by rw [he]; simp⟩
        rw [ha] at this
        exact this
      have hj1 : it[((i : Nat) : Int).toNat]? = some it[i] := by simp [show i < it.size by omega]
      have hj2 : it2[((i : Nat) : Int).toNat]? = some it2[i] := by simp [show i < it2.size by omega]
      obtain ⟨hp2, g2, d2, tk2, os2⟩ := s2
      wp_walk using wpAny_loadPart' hl2, wpAny_loadPart' hb2
      rw [hj1, hj2]
      wp_walk
      exact hR
theorem list_eqB (l b : Addr) (N : Nat) (e : Nat → Bool) (I : Nat → Shared → Prop) (hl : ListB prog w A (fun e s' => R (.error e) s') l b N e I)
    (fin : ∀ i s, I i s → R (.ok (.ret (.bool ((List.range N).all e)))) s) {s : Shared} (h : I 0 s) :
    wpAny (model prog w) A.in1 (Builtin.«list.__eq__» ⟨[.ref l, .ref b], []⟩) (FinOf prog w A R) (fun e s' => R (.error e) s') s := by
  obtain ⟨items, items2, n, n2, hl1, hb1, hs1, hs2, _⟩ := hl _ _ h
  have hrec := eq_loopB (A := A) (R := R) l b N e I hl fin _ 0 rfl (Nat.zero_le _) (fun j hj => absurd hj (by omega)) s h
  obtain ⟨hp, g, d, tk, os⟩ := s
  have f3 := AutoSeq1.sub_list_list
  have hne : ¬ (items.size != items2.size) = true := by simp [hs1, hs2]
  wp_walk using wpAny_loadPart' hl1, wpAny_loadPart' hb1
  exact ⟨plainId_quiet plain_eq_loop _, codeAny_builtin entry_eq_loop (by
    rw [Around.under_plainId plain_eq_loop _]
    exact hrec)⟩
theorem tuple_eqB (l b : Addr) (items items2 : Array Value) (n n2 : Nat) (dd dd2 : Option Addr) (sl sl2 : Array (Option Value)) (e : Nat → Bool) (I : Nat → Shared → Prop)
    (turn : ∀ i (h1 : i < items.size) (h2 : i < items2.size) s, I i s → (∀ j, j < i → e j = true) → wpAny (model prog w) A.in1 (eqBool items[i] items2[i]) (fun r s' => r = e i ∧ I (i + 1) s') (fun e s' => R (.error e) s') s)
    (fin : ∀ i s, I i s → R (.ok (.ret (.bool ((List.range (min items.size items2.size)).all e && items.size == items2.size)))) s) {s : Shared} (hl1 : s.heap.get? l = some { cls := .type "tuple", dict := dd, data := .seq items n, slots := sl }) (hb1 : s.heap.get? b = some { cls := .type "tuple", dict := dd2, data := .seq items2 n2, slots := sl2 }) (h : I 0 s) :
    wpAny (model prog w) A.in1 (Builtin.«tuple.__eq__» ⟨[.ref l, .ref b], []⟩) (FinOf prog w A R) (fun e s' => R (.error e) s') s := by
  have f2 := AutoSeq1.sub_tuple_tuple
  have hZ : (items.toList.zip items2.toList).length = min items.size items2.size := by simp
  have h0 := h
  obtain ⟨hp, g, d, tk, os⟩ := s
  wp_walk using wpAny_loadPart' hl1, wpAny_loadPart' hb1, wpAny_forIn_list _ (fun rest b s' => b.1 = none ∧ ∃ i, rest = (items.toList.zip items2.toList).drop i ∧ i ≤ min items.size items2.size ∧ (∀ j, j < i → e j = true) ∧ I i s') _
  case turn =>
    rintro ⟨y, x⟩ rest b s' ⟨hb', i, hz, hi, hall, hI⟩
    have hlt : i < (items.toList.zip items2.toList).length := by
      rcases Nat.lt_or_ge i (items.toList.zip items2.toList).length with h' | h'
      · exact h'
      · rw [List.drop_of_length_le h'] at hz; cases hz
    have hm : i < min items.size items2.size := hZ ▸ hlt
    have h1 : i < items.size := Nat.lt_of_lt_of_le hm (Nat.min_le_left _ _)
    have h2 : i < items2.size := Nat.lt_of_lt_of_le hm (Nat.min_le_right _ _)
    rw [List.drop_eq_getElem_cons hlt] at hz
    injection hz with hyx hrest
    have hy : y = items[i] := by have := congrArg Prod.fst hyx; simpa using this
    have hx : x = items2[i] := by have := congrArg Prod.snd hyx; simpa using this
    subst hy hx
    refine wpAny_bind (wpAny_mono (turn i h1 h2 s' hI hall) (fun r s2 q2 => ?_) fun _ _ x => x)
    obtain ⟨hr, q2⟩ := q2
    subst hr
    cases he : e i with
    | true =>
      wp_walk
      exact ⟨rfl, i + 1, hrest, hm, fun j hj => by
        by_cases z : j = i
        · rw [z]; exact he
        · exact hall j (by omega), q2⟩
    | false =>
      have hR : R (.ok (.ret (.bool false))) s2 := by
        have := fin _ s2 q2
        have ha : (List.range (min items.size items2.size)).all e = false := by
          rw [List.all_eq_false]
          exact ⟨i, by simpa using hm, by rw [he]; simp⟩
        rw [ha] at this
        exact this
      wp_walk
      exact hR
  case fin =>
    rintro ⟨b1, b2⟩ s' ⟨hb', i, hz, hi, hall, hI⟩
    simp only at hb'
    subst hb'
    have hge : min items.size items2.size ≤ i := by
      rcases Nat.lt_or_ge i (items.toList.zip items2.toList).length with h' | h'
      · rw [List.drop_eq_getElem_cons h'] at hz; cases hz
      · exact hZ ▸ h'
    have hR := fin _ s' hI
    have ha : (List.range (min items.size items2.size)).all e = true := by
      rw [List.all_eq_true]
      intro j hj
      exact hall j (by simp at hj; omega)
    rw [ha] at hR
    wp_walk
    simpa [Builtin.Tuple.tupleCompareSizes] using hR
  case h =>
    exact ⟨rfl, 0, rfl, Nat.zero_le _, fun j hj => absurd hj (by omega), h0⟩
end
section
variable {prog : Program} {w : World} {A : Around} {E : Value → Shared → Prop} {s : Shared}
theorem rc_listB {l b : Addr} {N : Nat} {e : Nat → Bool} {Q : Value → Shared → Prop} (hu : A.units < cLine) (I : Nat → Shared → Prop) (hl : ListB prog w A E l b N e I)
    (fin : ∀ i s, I i s → Q (.bool ((List.range N).all e)) s) (h : I 0 s) : wpAny (model prog w) A (richCompare .Eq (.ref l) (.ref b)) Q E s := by
  obtain ⟨items, items2, n, n2, hl1, hb1, _, _, _⟩ := hl _ _ h
  refine wpAny_richCompare_same_room (op := .Eq) ⟨_, hl1, rfl⟩ ⟨_, hb1, rfl⟩ F.slot_list_eq (call_here F.slot_list_eq ⟨_, hl1, rfl⟩ F.entry_list_eq (F.args_list_eq_2 _ _) ?_) hu
  exact list_eqB (R := wants (fun v s' => v ≠ .notImplemented ∧ Q v s') E) l b N e I hl (fun i s' q => ⟨(fun x => nomatch x), fin i s' q⟩) h
theorem rc_tupB {l b : Addr} {items items2 : Array Value} {e : Nat → Bool} {Q : Value → Shared → Prop} (hu : A.units < cLine) (I : Nat → Shared → Prop)
    (hl : s.heap.IsTuple l items) (hb : s.heap.IsTuple b items2)
    (turn : ∀ i (h1 : i < items.size) (h2 : i < items2.size) s, I i s → (∀ j, j < i → e j = true) → wpAny (model prog w) A.in1 (eqBool items[i] items2[i]) (fun r s' => r = e i ∧ I (i + 1) s') E s)
    (fin : ∀ i s, I i s → Q (.bool ((List.range (min items.size items2.size)).all e && items.size == items2.size)) s) (h : I 0 s) : wpAny (model prog w) A (richCompare .Eq (.ref l) (.ref b)) Q E s := by
  obtain ⟨⟨cls, dd, data, sl⟩, ho, hc, n, hd⟩ := id hl
  obtain ⟨⟨cls2, dd2, data2, sl2⟩, ho2, hc2, n2, hd2⟩ := id hb
  simp only at hc hd hc2 hd2
  subst hc hd hc2 hd2
  refine wpAny_richCompare_same_room (op := .Eq) ⟨_, ho, rfl⟩ ⟨_, ho2, rfl⟩ F.slot_tuple_eq (call_here F.slot_tuple_eq ⟨_, ho, rfl⟩ F.entry_tuple_eq (F.args_tuple_eq_2 _ _) ?_) hu
  exact tuple_eqB (R := wants (fun v s' => v ≠ .notImplemented ∧ Q v s') E) l b items items2 n n2 dd dd2 sl sl2 e I turn (fun i s' q => ⟨(fun x => nomatch x), fin i s' q⟩) ho ho2 h
end
end DL
set_option maxRecDepth 100000
set_option maxHeartbeats 4000000
set_option autoImplicit false
namespace DL
open PySem PySem.Spec PyProof.Rows L2
/-! ### == of data of any depth, own classes among them -/
abbrev OwnQ := String → List (Nm × D) → List (Nm × D) → Option Bool
def eqDs (f : D → D → Option Bool) : List D → List D → Option Bool
  | [], [] => some true
  | x :: xs, y :: ys => match f x y with
    | some true => eqDs f xs ys
    | some false => some false
    | none => none
  | _, _ => some false
def eqB (x y : D) : Option Bool := match dEq x y with
  | some (.bl b) => some b
  | _ => none
def eqSt (own : OwnQ) (f : D → D → Option Bool) : D → D → Option Bool
  | .tup xs, .tup ys => eqDs f xs ys
  | .lst xs, .lst ys => if xs.length = ys.length then eqDs f xs ys else some false
  | .dic [], .dic [] => some true
  | .ins c fs, .ins c' gs => if c = c' then own c fs gs else none
  | _, _ => none
def eqD (own : OwnQ) : Nat → D → D → Option Bool
  | 0, _, _ => none
  | n + 1, x, y => match eqB x y with
    | some b => some b
    | none => eqSt own (eqD own n) x y
theorem eqB_py {x y : D} {b : Bool} (h : eqB x y = some b) : ∃ p q, toPy x = some p ∧ toPy y = some q ∧ SeqAt.shaped p = true ∧ SeqAt.shaped q = true ∧ b = PyData.eqv p q := by
  unfold eqB dEq at h
  cases e1 : toPy x with
  | none => simp [e1] at h
  | some p =>
    cases e2 : toPy y with
    | none => simp [e1, e2] at h
    | some q =>
      simp only [e1, e2] at h
      split at h
      · rename_i z1 z2
        split at z2
        · rename_i c
          cases z2
          cases h
          rw [Bool.and_eq_true] at c
          exact ⟨p, q, rfl, rfl, c.1, c.2, rfl⟩
        · cases z2
      · cases h
section
variable {G : Gam} {W : WX} {X : Cx} {pins : List (Addr × Obj)} {σ : L2.St} {H : Hp} {sh : Shared} {w : Wd}
theorem lst_tup (I : Inv X pins σ H sh) {a : Addr} {xs ys : List V} (h : SqL X.K H a xs) (h' : SqT X.K H a ys) : False := by
  obtain ⟨its, r, ⟨o, n, e, c, _, d⟩, _⟩ := I.list h
  obtain ⟨its', r', ⟨o', e', c', n', d'⟩, _⟩ := I.tuple h'
  rw [e] at e'
  cases e'
  rw [c] at c'
  exact absurd c' (by decide)
mutual
theorem Dp.det (I : Inv X pins σ H sh) : ∀ {v : V} {p q : PyData}, Dp X.K H v p → Dp X.K H v q → p = q
  | _, _, _, .non, .non => rfl
  | _, _, _, .bl b, .bl _ => rfl
  | _, _, _, .int b, .int _ => rfl
  | _, _, _, .str b, .str _ => rfl
  | _, _, _, .lst h r, .lst h' r' => by
    have := I.list_inj h h'
    subst this
    rw [DpAll.det I r r']
  | _, _, _, .tup h r, .tup h' r' => by
    have := I.tuple_inj h h'
    subst this
    rw [DpAll.det I r r']
  | _, _, _, .lst h r, .tup h' r' => (lst_tup I h h').elim
  | _, _, _, .tup h r, .lst h' r' => (lst_tup I h' h).elim
theorem DpAll.det (I : Inv X pins σ H sh) : ∀ {v : List V} {p q : List PyData}, DpAll X.K H v p → DpAll X.K H v q → p = q
  | _, _, _, .nil, .nil => rfl
  | _, _, _, .cons a b, .cons a' b' => by rw [Dp.det I a a', DpAll.det I b b']
end
theorem eqB_same (hK : G.K = X.K) {κ : Bs} {s : DS} (I : Inv X pins σ H sh) (ok : Ok G κ w s σ H) {v : V} {x y : D} {b : Bool} (rx : Rep G w v x) (ry : Rep G w v y) (h : eqB x y = some b) : b = true := by
  obtain ⟨p, q, h1, h2, s1, s2, rfl⟩ := eqB_py h
  have := Dp.det I (rx.py hK ok h1) (ry.py hK ok h2)
  subst this
  exact SeqAt.eqv_refl p (SeqAt.canLay_of_shaped s1)
/-- what is asked of the own classes' == -/
structure OwnEq (G : Gam) (X : Cx) (k : Nat) (own : OwnQ) : Prop where
  same : ∀ (w : Wd) (vs : List (Str × V)) (c : String) (fs gs : List (Nm × D)) (b : Bool), RepF G w vs fs → RepF G w vs gs → own c fs gs = some b → b = true
  run : ∀ (A : Around) (pins : List (Addr × Obj)) (sh : Shared) (σ : L2.St) (H : Hp) (κ : Bs) (w : Wd) (s : DS) (x y : Addr) (c : String) (fs gs : List (Nm × D)) (b : Bool), Sub X k A → Inv X pins σ H sh → Ok G κ w s σ H → Rep G w (.ref x) (.ins c fs) → Rep G w (.ref y) (.ins c gs) → own c fs gs = some b →
    wpAny (model X.prog X.w) A (richCompare .Eq (.ref x) (.ref y)) (fun r s' => r = .bool b ∧ ∃ w' H', w.le w' ∧ Inv X pins σ H' s' ∧ Ok G κ w' s σ H') X.xe sh
theorem same_list {f : D → D → Option Bool} (hf : ∀ (v : V) (x y : D) (b : Bool), Rep G w v x → Rep G w v y → f x y = some b → b = true) : ∀ {vs : List V} {xs ys : List D} {b : Bool}, Reps G w vs xs → Reps G w vs ys → eqDs f xs ys = some b → b = true
  | _, _, _, _, .nil, .nil, h => by cases h; rfl
  | _, _, _, _, .cons a r, .cons a' r', h => by
    simp only [eqDs] at h
    split at h
    · exact same_list hf r r' h
    · rename_i e
      exact absurd (hf _ _ _ _ a a' e) (by simp)
    · cases h
theorem eqD_same (hK : G.K = X.K) {κ : Bs} {s : DS} {k : Nat} {own : OwnQ} (O : OwnEq G X k own) (I : Inv X pins σ H sh) (ok : Ok G κ w s σ H) : ∀ (n : Nat) (v : V) (x y : D) (b : Bool), Rep G w v x → Rep G w v y → eqD own n x y = some b → b = true
  | 0, _, _, _, _, _, _, h => by cases h
  | n + 1, v, x, y, b, rx, ry, h => by
    unfold eqD at h
    split at h
    · rename_i e
      cases h
      exact eqB_same hK I ok rx ry e
    · unfold eqSt at h
      split at h
      · cases rx with
        | tup h1 r1 =>
          cases ry with
          | tup h2 r2 =>
            have := I.tuple_inj (hK ▸ SqT.le h1 ok.fok.sub) (hK ▸ SqT.le h2 ok.fok.sub)
            subst this
            exact same_list (eqD_same hK O I ok n) r1 r2 h
      · cases rx with
        | lst h1 r1 =>
          cases ry with
          | lst h2 r2 =>
            rw [h1] at h2
            cases h2
            split at h
            · exact same_list (eqD_same hK O I ok n) r1 r2 h
            · rename_i e
              exact absurd (r1.length.symm.trans r2.length) e
      · cases h; rfl
      · cases rx with
        | ins c1 h1 r1 =>
          cases ry with
          | ins c2 h2 r2 =>
            rw [h1] at h2
            cases h2
            split at h
            · exact O.same _ _ _ _ _ _ r1 r2 h
            · cases h
      · cases h
/-- == inside a builtin -/
def EqRun (G : Gam) (X : Cx) (m : Nat) (f : D → D → Option Bool) : Prop := ∀ (A : Around) (pins : List (Addr × Obj)) (sh : Shared) (σ : L2.St) (H : Hp) (κ : Bs) (w : Wd) (s : DS) (x y : V) (dx dy : D) (u v : Value) (b : Bool), Sub X m A → Inv X pins σ H sh → Ok G κ w s σ H → Rep G w x dx → Rep G w y dy → RelV x u → RelV y v → f dx dy = some b →
  wpAny (model X.prog X.w) A (eqBool u v) (fun r s' => r = b ∧ ∃ w' H', w.le w' ∧ Inv X pins σ H' s' ∧ Ok G κ w' s σ H') X.xe sh
/-- == as an operator -/
def RcRun (G : Gam) (X : Cx) (m : Nat) (f : D → D → Option Bool) : Prop := ∀ (A : Around) (pins : List (Addr × Obj)) (sh : Shared) (σ : L2.St) (H : Hp) (κ : Bs) (w : Wd) (s : DS) (x y : V) (dx dy : D) (u v : Value) (b : Bool), Sub X m A → Inv X pins σ H sh → Ok G κ w s σ H → Rep G w x dx → Rep G w y dy → RelV x u → RelV y v → f dx dy = some b →
  wpAny (model X.prog X.w) A (richCompare .Eq u v) (fun r s' => r = .bool b ∧ ∃ w' H', w.le w' ∧ Inv X pins σ H' s' ∧ Ok G κ w' s σ H') X.xe sh
def eqAt (f : D → D → Option Bool) (xs ys : List D) (i : Nat) : Bool := match xs[i]?, ys[i]? with
  | some x, some y => (f x y).getD false
  | _, _ => false
theorem eqDs_all {f : D → D → Option Bool} : ∀ {xs ys : List D} {b : Bool}, eqDs f xs ys = some b → b = ((List.range (min xs.length ys.length)).all (eqAt f xs ys) && xs.length == ys.length) ∧ ∀ i x y, xs[i]? = some x → ys[i]? = some y → (∀ j, j < i → eqAt f xs ys j = true) → ∃ c, f x y = some c ∧ eqAt f xs ys i = c
  | [], [], b, h => by cases h; exact ⟨rfl, fun i x y e => by simp at e⟩
  | [], _ :: _, b, h => by cases h; exact ⟨by simp, fun i x y e => by simp at e⟩
  | _ :: _, [], b, h => by cases h; exact ⟨by simp, fun i x y e e' => by simp at e'⟩
  | x :: xs, y :: ys, b, h => by
    have shift : ∀ i, eqAt f (x :: xs) (y :: ys) (i + 1) = eqAt f xs ys i := fun i => by simp [eqAt]
    have rng : ∀ n, (List.range (n + 1)).all (eqAt f (x :: xs) (y :: ys)) = (eqAt f (x :: xs) (y :: ys) 0 && (List.range n).all (eqAt f xs ys)) := fun n => by
      rw [List.range_succ_eq_map, List.all_cons, List.all_map]
      congr 1
    have mn : min (x :: xs).length (y :: ys).length = min xs.length ys.length + 1 := by simp [Nat.succ_min_succ]
    simp only [eqDs] at h
    split at h
    · rename_i e
      have e0 : eqAt f (x :: xs) (y :: ys) 0 = true := by simp [eqAt, e]
      obtain ⟨h1, h2⟩ := eqDs_all h
      refine ⟨?_, fun i a c ha hc hp => ?_⟩
      · rw [mn, rng, e0, h1]; simp
      · cases i with
        | zero =>
          simp at ha hc
          subst ha; subst hc
          exact ⟨true, e, e0⟩
        | succ i =>
          rw [shift]
          exact h2 i a c (by simpa using ha) (by simpa using hc) fun j hj => by
            have := hp (j + 1) (by omega)
            rw [shift] at this
            exact this
    · rename_i e
      cases h
      have e0 : eqAt f (x :: xs) (y :: ys) 0 = false := by simp [eqAt, e]
      refine ⟨?_, fun i a c ha hc hp => ?_⟩
      · rw [mn, rng, e0]; simp
      · cases i with
        | zero =>
          simp at ha hc
          subst ha; subst hc
          exact ⟨false, e, e0⟩
        | succ i =>
          have := hp 0 (by omega)
          rw [e0] at this
          cases this
    · cases h
theorem item_run {m : Nat} {f : D → D → Option Bool} (hf : EqRun G X m f) {A : Around} (sb : Sub X (m + 1) A) {pins : List (Addr × Obj)} {σ : L2.St} {κ : Bs} {w : Wd} {s : DS} {vs us : List V} {xs ys : List D} {its its2 : List Value} (r : Vals vs its) (r2 : Vals us its2) (rx : Reps G w vs xs) (ry : Reps G w us ys) {b : Bool} (hb : eqDs f xs ys = some b)
    (i : Nat) (h1 : i < its.toArray.size) (h2 : i < its2.toArray.size) (hp : ∀ j, j < i → eqAt f xs ys j = true) (sh' : Shared) (l : ∃ w' H', w.le w' ∧ Inv X pins σ H' sh' ∧ Ok G κ w' s σ H') :
    wpAny (model X.prog X.w) A.in1 (eqBool its.toArray[i] its2.toArray[i]) (fun r s2 => r = eqAt f xs ys i ∧ ∃ w' H', w.le w' ∧ Inv X pins σ H' s2 ∧ Ok G κ w' s σ H') X.xe sh' := by
  obtain ⟨w1, H1, le, I1, ok1⟩ := l
  have g1 : its[i]? = some its.toArray[i] := by
    have h1' : i < its.length := by simpa using h1
    rw [List.getElem?_eq_getElem h1'] <;> simp
  have g2 : its2[i]? = some its2.toArray[i] := by
    have h2' : i < its2.length := by simpa using h2
    rw [List.getElem?_eq_getElem h2'] <;> simp
  have k1 : i < vs.length := by rw [r.length]; simpa using h1
  have k2 : i < us.length := by rw [r2.length]; simpa using h2
  have k3 : i < xs.length := by rw [← rx.length]; exact k1
  have k4 : i < ys.length := by rw [← ry.length]; exact k2
  obtain ⟨v', hv, rpx⟩ := rx.get (List.getElem?_eq_getElem k3)
  obtain ⟨u', hu, rpy⟩ := ry.get (List.getElem?_eq_getElem k4)
  obtain ⟨a, ha, ra⟩ := r.get hv
  obtain ⟨c, hc, rc⟩ := r2.get hu
  rw [g1] at ha
  rw [g2] at hc
  rw [Option.some.inj ha, Option.some.inj hc]
  obtain ⟨bb, e1, e2⟩ := (eqDs_all hb).2 i _ _ (List.getElem?_eq_getElem k3) (List.getElem?_eq_getElem k4) hp
  refine wpAny_mono (hf A.in1 pins sh' σ H1 κ w1 s v' u' _ _ a c bb sb.in1 I1 ok1 (rpx.mono le) (rpy.mono le) ra rc e1) (fun r s2 q => ?_) fun _ _ x => x
  obtain ⟨hr, w2, H2, le2, I2, ok2⟩ := q
  exact ⟨hr.trans e2.symm, w2, H2, le.trans le2, I2, ok2⟩
theorem rcSt_run (hK : G.K = X.K) {k m : Nat} {own : OwnQ} (O : OwnEq G X k own) {f : D → D → Option Bool} (hkm : k ≤ m + 1) (hf : EqRun G X m f) : RcRun G X (m + 1) (eqSt own f) := by
  intro A pins sh σ H κ w s x y dx dy u v b sb I ok rx ry ru rv h
  have i0 : ∃ w' H', w.le w' ∧ Inv X pins σ H' sh ∧ Ok G κ w' s σ H' := ⟨w, H, .refl _, I, ok⟩
  unfold eqSt at h
  split at h
  · rename_i xs ys
    cases rx with
    | @tup a vs _ h1 r1 =>
      cases ry with
      | @tup c us _ h2 r2 =>
        cases ru
        cases rv
        obtain ⟨its, ra, e, z⟩ := I.tuple (hK ▸ SqT.le h1 ok.fok.sub)
        obtain ⟨its2, ra2, e2, z2⟩ := I.tuple (hK ▸ SqT.le h2 ok.fok.sub)
        refine rc_tupB (e := eqAt f xs ys) sb.room.units0 (fun _ s' => ∃ w' H', w.le w' ∧ Inv X pins σ H' s' ∧ Ok G κ w' s σ H') e e2 (fun i h1 h2 s' q hp => item_run hf sb ra ra2 r1 r2 h i h1 h2 hp s' q) (fun i s' q => ⟨?_, q⟩) i0
        rw [(eqDs_all h).1, List.size_toArray, List.size_toArray, ← ra.length, ← ra2.length, r1.length, r2.length]
  · rename_i xs ys
    cases rx with
    | @lst a vs _ h1 r1 =>
      cases ry with
      | @lst c us _ h2 r2 =>
        cases ru
        cases rv
        split at h
        · rename_i hl
          refine rc_listB (N := xs.length) (e := eqAt f xs ys) sb.room.units0 (fun _ s' => ∃ w' H', w.le w' ∧ Inv X pins σ H' s' ∧ Ok G κ w' s σ H') (fun i s' q => ?_) (fun i s' q => ⟨?_, q⟩) i0
          · obtain ⟨w1, H1, le, I1, ok1⟩ := id q
            obtain ⟨z, its, n1, ra, e⟩ := I1.hok a _ (ok1.fok.sub _ _ (le.f _ _ h1))
            obtain ⟨z2, its2, n2, ra2, e2⟩ := I1.hok c _ (ok1.fok.sub _ _ (le.f _ _ h2))
            refine ⟨its.toArray, its2.toArray, n1, n2, e, e2, by rw [List.size_toArray, ← ra.length, r1.length], by rw [List.size_toArray, ← ra2.length, r2.length, hl], fun hp h1 h2 => ?_⟩
            exact item_run hf sb ra ra2 r1 r2 h i h1 h2 hp s' q
          · rw [(eqDs_all h).1, hl]; simp
        · rename_i hl
          cases h
          obtain ⟨z, its, n1, ra, e⟩ := I.hok a _ (ok.fok.sub _ _ h1)
          obtain ⟨z2, its2, n2, ra2, e2⟩ := I.hok c _ (ok.fok.sub _ _ h2)
          refine SeqAt.RcAt.lists_lengths (items := its.toArray) (items2 := its2.toArray) ⟨_, e, rfl, n1, rfl⟩ ⟨_, e2, rfl, n2, rfl⟩ ?_ sb.room.units0 X.prog X.w X.xe _ ⟨rfl, i0⟩
          rw [List.size_toArray, List.size_toArray, ← ra.length, ← ra2.length, r1.length, r2.length]
          simpa using hl
  · cases h
    cases rx with
    | @dic a vs _ h1 r1 =>
      cases ry with
      | @dic c us _ h2 r2 =>
        cases ru
        cases rv
        cases r1
        cases r2
        obtain ⟨z, y, vs, r, d⟩ := I.hok a _ (ok.fok.sub _ _ h1)
        obtain ⟨z2, y2, vs2, r2, d2⟩ := I.hok c _ (ok.fok.sub _ _ h2)
        cases r
        cases r2
        exact PySem.W.rcP_dicts y y2 d d2 sb.room.units0 (fun _ => .nil) X.xe _ ⟨rfl, i0⟩
  · split at h
    · rename_i hc
      subst hc
      cases rx with
      | @ins a C1 d1 _ vs _ c1 h1 r1 =>
        cases ry with
        | @ins c C2 d2 _ us _ c2 h2 r2 =>
          cases ru
          cases rv
          exact O.run A pins sh σ H κ w s a c _ _ _ b (sb.mono hkm) I ok (.ins c1 h1 r1) (.ins c2 h2 r2) h
    · cases h
  · cases h
theorem eqSt_refs {own : OwnQ} {f : D → D → Option Bool} {x y : V} {dx dy : D} {b : Bool} (rx : Rep G w x dx) (ry : Rep G w y dy) (h : eqSt own f dx dy = some b) : ∃ a c, x = .ref a ∧ y = .ref c := by
  unfold eqSt at h
  split at h
  · cases rx; cases ry; exact ⟨_, _, rfl, rfl⟩
  · cases rx; cases ry; exact ⟨_, _, rfl, rfl⟩
  · cases rx; cases ry; exact ⟨_, _, rfl, rfl⟩
  · cases rx; cases ry; exact ⟨_, _, rfl, rfl⟩
  · cases h
theorem eqD_run (hK : G.K = X.K) {k : Nat} {own : OwnQ} (O : OwnEq G X k own) : ∀ n : Nat, EqRun G X (k + n) (eqD own n)
  | 0 => fun A pins sh σ H κ w s x y dx dy u v b sb I ok rx ry ru rv h => by cases h
  | n + 1 => fun A pins sh σ H κ w s x y dx dy u v b sb I ok rx ry ru rv h => by
    have h0 := h
    unfold eqD at h
    split at h
    · rename_i c e
      cases h
      obtain ⟨p, q, h1, h2, s1, s2, rfl⟩ := eqB_py e
      obtain ⟨as, r1⟩ := Dp.reads I p x u (rx.py hK ok h1) ru
      obtain ⟨bs, r2⟩ := Dp.reads I q y v (ry.py hK ok h2) rv
      refine SeqAt.eqAt_reads p q A sh u v as bs r1 r2 (SeqAt.canLay_of_shaped s1) (SeqAt.canLay_of_shaped s2) (SeqAt.room_of_shaped s1 ?_) X.prog X.w X.xe _ ⟨rfl, w, H, .refl _, I, ok⟩
      have := sb.room.un
      omega
    · obtain ⟨a, c, rfl, rfl⟩ := eqSt_refs rx ry h
      cases ru
      cases rv
      by_cases e : a = c
      · subst e
        have := eqD_same hK O I ok _ _ _ _ _ rx ry h0
        subst this
        exact SeqAt.EqAt.same (A := A) (s := sh) (.ref a) X.prog X.w X.xe _ ⟨rfl, w, H, .refl _, I, ok⟩
      · refine GQ.eqBool_refG e (wpAny_mono (rcSt_run hK O (by omega) (eqD_run hK O n) A pins sh σ H κ w s _ _ _ _ _ _ b sb I ok rx ry rfl rfl h) (fun r s' q => ?_) fun _ _ x => x)
        obtain ⟨hr, q⟩ := q
        exact ⟨b, hr, rfl, q⟩
theorem rcD_run (hK : G.K = X.K) {k : Nat} {own : OwnQ} (O : OwnEq G X k own) (n : Nat) : RcRun G X (k + n + 1) (eqD own (n + 1)) := by
  intro A pins sh σ H κ w s x y dx dy u v b sb I ok rx ry ru rv h
  unfold eqD at h
  split at h
  · rename_i c e
    cases h
    obtain ⟨p, q, h1, h2, s1, s2, rfl⟩ := eqB_py e
    obtain ⟨as, r1⟩ := Dp.reads I p x u (rx.py hK ok h1) ru
    obtain ⟨bs, r2⟩ := Dp.reads I q y v (ry.py hK ok h2) rv
    refine SeqAt.compareEq_shaped r1 r2 s1 s2 ?_ ⟨rfl, w, H, .refl _, I, ok⟩
    have := sb.room.un
    omega
  · exact rcSt_run hK O (by omega) (eqD_run hK O n) A pins sh σ H κ w s _ _ _ _ _ _ b sb I ok rx ry ru rv h
/-- == of deep data, as an operator -/
def deepO (own : OwnQ) (n : Nat) : DO2 := fun x y s => match eqD own n x y with
  | some b => .ok (.bl b) s
  | none => .stuck
theorem opx_deep (hK : G.K = X.K) {k n : Nat} {own : OwnQ} (O : OwnEq G X k own) (hr : Room (k + n + 1) X.A) : OpX G W X (compareOp .Eq) (deepO own (n + 1)) := by
  intro pins sh σ H x y v u κ w s dx dy Q I rx ry ok rdx rdy q
  unfold deepO at q
  cases e : eqD own (n + 1) dx dy with
  | none => rw [e] at q; exact q.elim
  | some b =>
    rw [e] at q
    show wpAny (model X.prog X.w) X.A (richCompare .Eq v u) _ _ _
    refine wpAny_mono (rcD_run hK O n X.A pins sh σ H κ w s x y dx dy v u b ⟨hr, rfl⟩ I ok rdx rdy rx ry e) (fun r s' z => ?_) fun _ _ x => x
    obtain ⟨rfl, w', H', le, I', ok'⟩ := z
    exact ⟨.bl b, H', I', rfl, q w' _ H' le ok' (.bl b)⟩
/-- no own class -/
def ownNo : OwnQ := fun _ _ _ => none
theorem ownNo_ok {k : Nat} : OwnEq G X k ownNo where
  same := fun _ _ _ _ _ _ _ _ h => nomatch h
  run := fun _ _ _ _ _ _ _ _ _ _ _ _ _ _ _ _ _ _ _ h => nomatch h
/-- classes of ints: c's fields are ns -/
def intF : List (Nm × D) → Option (List (Nm × Int))
  | [] => some []
  | (f, .int i) :: r => (intF r).map fun l => (f, i) :: l
  | _ => none
def ownInt (cs : List (String × List Nm)) : OwnQ := fun c fs gs => match cs.lookup c, intF fs, intF gs with
  | some ns, some l, some m => if l.map (·.1) = ns ∧ m.map (·.1) = ns then some (decide (l = m)) else none
  | _, _, _ => none
theorem intF_det : ∀ {vs : List (Str × V)} {fs gs : List (Nm × D)} {l m : List (Nm × Int)}, RepF G w vs fs → RepF G w vs gs → intF fs = some l → intF gs = some m → l = m := by
  intro vs
  induction vs with
  | nil =>
    intro fs gs l m r r' h h'
    cases r; cases r'; cases h; cases h'; rfl
  | cons p vs ih =>
    intro fs gs l m r r' h h'
    cases r with
    | @cons f v d _ ds a r =>
      generalize hp : (nm f, v) = p at r'
      cases r' with
      | @cons f' v' d' _ ds' a' r' =>
        cases hp
        cases a <;> try (simp [intF] at h; done)
        cases a' <;> try (simp [intF] at h'; done)
        simp only [intF, Option.map_eq_some_iff] at h h'
        obtain ⟨l1, h1, rfl⟩ := h
        obtain ⟨m1, h2, rfl⟩ := h'
        rw [ih r r' h1 h2]
theorem ownInt_some {cs : List (String × List Nm)} {c : String} {fs gs : List (Nm × D)} {b : Bool} (h : ownInt cs c fs gs = some b) : ∃ ns l m, cs.lookup c = some ns ∧ intF fs = some l ∧ intF gs = some m ∧ l.map (·.1) = ns ∧ m.map (·.1) = ns ∧ b = decide (l = m) := by
  unfold ownInt at h
  split at h
  · rename_i ns l m e1 e2 e3
    split at h
    · rename_i hn
      cases h
      exact ⟨ns, l, m, e1, e2, e3, hn.1, hn.2, rfl⟩
    · cases h
  · cases h
/-- what each own class brings -/
structure OwnC (G : Gam) (X : Cx) (k : Nat) (c : String) (ns : List Nm) : Prop where
  run : ∃ (C f : Addr) (fd : FuncData) (ps : List Str) (g : DFn), G.ct c = some C ∧ PySem.W.findIn X.K (.ref C) "__eq__" = some (some (.ref f)) ∧ PySem.W.isFn X.K (.ref f) = true ∧ FnOk X.prog X.w X.K X.mg X.base (L2.CX X.prog X.w) k f fd ps (spG G 2 g) ∧ Binds X.K fd ps [] ∧
    ∀ (fs gs : List (Nm × D)) (l m : List (Nm × Int)) (st : List Cell), intF fs = some l → intF gs = some m → l.map (·.1) = ns → m.map (·.1) = ns → g [.ins c fs, .ins c gs] st = .ok (.bl (decide (l = m))) st
theorem ownInt_ok {k : Nat} {cs : List (String × List Nm)} (tk : Takes X WF) (h : ∀ c ns, cs.lookup c = some ns → OwnC G X k c ns) : OwnEq G X k (ownInt cs) where
  same := fun w vs c fs gs b r1 r2 e => by
    obtain ⟨ns, l, m, h1, h2, h3, h4, h5, rfl⟩ := ownInt_some e
    exact decide_eq_true (intF_det r1 r2 h2 h3)
  run := fun A pins sh σ H κ w s x y c fs gs b sb I ok rx ry e => by
    obtain ⟨ns, l, m, h1, h2, h3, h4, h5, rfl⟩ := ownInt_some e
    obtain ⟨C, f, fd, ps, g, hC, hs, hf, F, hb, hg⟩ := (h c ns h1).run
    cases rx with
    | @ins _ C1 d1 _ vs _ c1 e1 r1 =>
    cases ry with
    | @ins _ C2 d2 _ us _ c2 e2 r2 =>
    rw [hC] at c1 c2
    cases c1
    cases c2
    obtain ⟨mA, J, _⟩ := ins_get I.hok (ok.fok.sub _ _ e1)
    obtain ⟨mB, J', _⟩ := ins_get I.hok (ok.fok.sub _ _ e2)
    obtain ⟨od, J, _⟩ := J.look
    obtain ⟨od', J', _⟩ := J'.look
    obtain ⟨mm, hF⟩ := I.fr
    refine PySem.W.cmp_K (op := .Eq) (tb := .ref C) sb.room.units0 hF I.ok.mod.kin J J'.type (by simp [PySem.W.notFirst]) hs hf ?_
    have hsp : spG G 2 g [.ref x, .ref y] H (fun v H' => v = .bl (decide (l = m)) ∧ ∃ w', w.le w' ∧ Ok G κ w' s σ H') (fun _ _ _ => False) := by
      refine ⟨rfl, w, s.st, [.ins c fs, .ins c gs], ok.fok, .cons (.ins hC e1 r1) (.cons (.ins hC e2 r2) .nil), ?_⟩
      rw [hg fs gs l m s.st h2 h3 h4 h5]
      intro w' v H' nx fk rv
      cases rv
      exact ⟨rfl, w', nx.le, ok.step nx fk⟩
    have e0 : Env0 X.prog X.w X.K X.mg X.base A X.stack sh H := by
      have e := I.env0
      exact ⟨by rw [sb.fr]; exact e.frames, e.mod, e.bs, e.bsz, e.funs, e.frf, e.hok, e.bare⟩
    have hl := F.len _ _ _ _ hsp
    refine wpAny_call (codeAny_mono (F.run A X.stack sh H ⟨[.ref x, .ref y], []⟩ [.ref x, .ref y] [.ref x, .ref y] _ _ sb.room e0 (by
      have := hb sh [.ref x, .ref y] I.kIn (by simpa using hl)
      simpa using this) (.cons rfl (.cons rfl .nil)) hsp) fun r s' hq => ?_)
    cases r with
    | error e => exact passes_call tk (fun _ _ _ _ z => z) pins σ H sh e s' I hq
    | ok fl =>
      cases fl with
      | ret u =>
        obtain ⟨z, H', I', rz, ez, w', le, ok'⟩ := I.after hq
        subst ez
        cases rz
        exact ⟨rfl, w', H', le, I', ok'⟩
      | next => exact False.elim hq
      | brk => exact False.elim hq
      | cont => exact False.elim hq
end
theorem lookup_one {c a : String} {ns b : List Nm} (h : List.lookup c [(a, b)] = some ns) : c = a ∧ ns = b := by
  by_cases e : c = a
  · subst e
    rw [List.lookup_cons_self] at h
    exact ⟨rfl, (Option.some.inj h).symm⟩
  · have : (c == a) = false := beq_eq_false_iff_ne.mpr e
    simp [List.lookup_cons, this] at h
theorem intF3 {fs : List (Nm × D)} {l : List (Nm × Int)} {x y z : Nm} (h : intF fs = some l) (k : l.map (·.1) = [x, y, z]) : ∃ a b c : Int, fs = [(x, .int a), (y, .int b), (z, .int c)] ∧ l = [(x, a), (y, b), (z, c)] := by
  match l, k with
  | [(_, a), (_, b), (_, c)], k =>
    simp only [List.map_cons, List.map_nil, List.cons.injEq, and_true] at k
    obtain ⟨rfl, rfl, rfl⟩ := k
    have st : ∀ {fs : List (Nm × D)} {f : Nm} {i : Int} {r : List (Nm × Int)}, intF fs = some ((f, i) :: r) → ∃ t, fs = (f, .int i) :: t ∧ intF t = some r := by
      intro fs f i r h
      match fs with
      | [] => simp [intF] at h
      | (g, .int j) :: t =>
        simp only [intF, Option.map_eq_some_iff] at h
        obtain ⟨l1, h1, h2⟩ := h
        cases h2
        exact ⟨t, rfl, h1⟩
      | (g, .non) :: t | (g, .bl _) :: t | (g, .str _) :: t | (g, .tup _) :: t | (g, .lst _) :: t | (g, .scr _) :: t | (g, .dic _) :: t | (g, .ins _ _) :: t | (g, .cell _) :: t | (g, .cls _) :: t | (g, .ty _) :: t | (g, .fn _) :: t | (g, .lam _) :: t => simp [intF] at h
    obtain ⟨t, e1, h⟩ := st h
    obtain ⟨t, e2, h⟩ := st h
    obtain ⟨t, e3, h9⟩ := st h
    subst e3 e2 e1
    clear h k
    match t, h9 with
    | [], _ => exact ⟨a, b, c, rfl, rfl⟩
    | (g, .int j) :: t, h =>
      simp only [intF, Option.map_eq_some_iff] at h
      obtain ⟨l1, h1, h2⟩ := h
      cases h2
    | (g, .non) :: t, h | (g, .bl _) :: t, h | (g, .str _) :: t, h | (g, .tup _) :: t, h | (g, .lst _) :: t, h | (g, .scr _) :: t, h | (g, .dic _) :: t, h | (g, .ins _ _) :: t, h | (g, .cell _) :: t, h | (g, .cls _) :: t, h | (g, .ty _) :: t, h | (g, .fn _) :: t, h | (g, .lam _) :: t, h => simp [intF] at h
end DL
set_option maxRecDepth 100000
set_option maxHeartbeats 4000000
set_option autoImplicit false
namespace DL
open PySem PySem.Spec PyProof.Rows L2
section
variable {G : Gam} {W : WX} {X : Cx}
/-! ### x in y, x not in y -/
def flD : D → Bool
  | .non => true
  | .bl _ => true
  | .int _ => true
  | .str _ => true
  | _ => false
def eqFl : D → D → Bool
  | .non, .non => true
  | .bl a, .bl b => a == b
  | .bl a, .int b => (if a then 1 else 0) == b
  | .int a, .bl b => a == (if b then 1 else 0)
  | .int a, .int b => a == b
  | .str a, .str b => a == b
  | _, _ => false
theorem fl_rep {w : Wd} {v : V} {d : D} (r : Rep G w v d) (h : flD d = true) : flatV v = true := by
  cases r <;> first | rfl | cases h
theorem eq_rep {w : Wd} {v u : V} {d e : D} (r : Rep G w v d) (r' : Rep G w u e) (h : flD d = true) (h' : flD e = true) : eqV v u = eqFl d e := by
  cases r <;> first | (cases h; done) | skip
  all_goals cases r' <;> first | (cases h'; done) | rfl | skip
  rename_i l m
  show (nm l == nm m) = (l == m)
  by_cases e : l = m
  · subst e; simp
  · rw [beq_eq_false_iff_ne.mpr e, beq_eq_false_iff_ne.mpr fun z => e (nm_inj z)]
theorem fls_rep {w : Wd} : ∀ {vs : List V} {ds : List D}, Reps G w vs ds → ds.all flD = true → vs.all flatV = true
  | _, _, .nil, _ => rfl
  | _, _, .cons a b, h => by
    rw [List.all_cons, Bool.and_eq_true] at h ⊢
    exact ⟨fl_rep a h.1, fls_rep b h.2⟩
theorem any_rep {w : Wd} {u : V} {e : D} (r' : Rep G w u e) (h' : flD e = true) : ∀ {vs : List V} {ds : List D}, Reps G w vs ds → ds.all flD = true → vs.any (fun y => eqV y u) = ds.any (fun y => eqFl y e)
  | _, _, .nil, _ => rfl
  | _, _, .cons a b, h => by
    rw [List.all_cons, Bool.and_eq_true] at h
    rw [List.any_cons, List.any_cons, eq_rep a r' h.1 h', any_rep r' h' b h.2]
def inS (neg : Bool) : D → D → Option D := fun x y => match x, y with
  | .str [c], .str l => some (.bl (if neg then !decide (c ∈ l) else decide (c ∈ l)))
  | _, _ => none
def inF (neg : Bool) : D → D → Option D := fun x y => match y with
  | .tup ds => if flD x = true ∧ ds.all flD = true then some (.bl (if neg then !(ds.any fun z => eqFl z x) else ds.any fun z => eqFl z x)) else none
  | .lst ds => if flD x = true ∧ ds.all flD = true then some (.bl (if neg then !(ds.any fun z => eqFl z x) else ds.any fun z => eqFl z x)) else none
  | _ => none
def inP (neg : Bool) : D → D → Option D := fun x y => match toPy x, toPy y with
  | some p, some (.list qs) => if SeqAt.shaped p && SeqAt.shaped (.list qs) then some (.bl (if neg then !(qs.any fun z => PyData.eqv z p) else qs.any fun z => PyData.eqv z p)) else none
  | _, _ => none
theorem nm_list (l : Nm) : (nm l).cps.toList = l := by simp [nm]
theorem opd_inS : OpD G X (compareOp .In) (inS false) := ⟨_, op_in_sign, fun κ w s σ H x y dx dy d Q ok rx ry e q => by
  unfold inS at e
  split at e
  · rename_i c l
    cases e
    cases rx
    cases ry
    exact ⟨c, nm l, rfl, rfl, by rw [nm_list]; exact q w _ H (.refl _) ok (.bl _)⟩
  · cases e⟩
theorem opd_notInS : OpD G X (compareOp .NotIn) (inS true) := ⟨_, op_notIn_sign, fun κ w s σ H x y dx dy d Q ok rx ry e q => by
  unfold inS at e
  split at e
  · rename_i c l
    cases e
    cases rx
    cases ry
    exact ⟨c, nm l, rfl, rfl, by rw [nm_list]; exact q w _ H (.refl _) ok (.bl _)⟩
  · cases e⟩
theorem inF_of (hK : G.K = X.K) {neg : Bool} {κ : Bs} {w : Wd} {s : DS} {σ : L2.St} {H : Hp} {x y : V} {dx dy d : D} {Q : VK} (ok : Ok G κ w s σ H) (rx : Rep G w x dx) (ry : Rep G w y dy) (e : inF neg dx dy = some d) (q : ∀ w' v H', w.le w' → Ok G κ w' s σ H' → Rep G w' v d → Q v H') : rIn X.K neg x y H Q := by
  unfold inF at e
  split at e
  · split at e
    · rename_i h
      cases e
      cases ry with
      | tup h1 r1 =>
        refine ⟨_, _, rfl, .inr (hK ▸ SqT.le h1 ok.fok.sub), fl_rep rx h.1, fls_rep r1 h.2, ?_⟩
        unfold inV
        rw [any_rep rx h.1 r1 h.2]
        exact q w _ H (.refl _) ok (.bl _)
    · cases e
  · split at e
    · rename_i h
      cases e
      cases ry with
      | lst h1 r1 =>
        refine ⟨_, _, rfl, .inl (.inl (.inl (ok.fok.sub _ _ h1))), fl_rep rx h.1, fls_rep r1 h.2, ?_⟩
        unfold inV
        rw [any_rep rx h.1 r1 h.2]
        exact q w _ H (.refl _) ok (.bl _)
    · cases e
  · cases e
theorem opd_inF (hK : G.K = X.K) : OpD G X (compareOp .In) (inF false) := ⟨_, op_in_seq, fun κ w s σ H x y dx dy d Q ok rx ry e q => inF_of hK ok rx ry e q⟩
theorem opd_notInF (hK : G.K = X.K) : OpD G X (compareOp .NotIn) (inF true) := ⟨_, op_notIn_seq, fun κ w s σ H x y dx dy d Q ok rx ry e q => inF_of hK ok rx ry e q⟩
theorem inP_py {neg : Bool} {dx dy d : D} (e : inP neg dx dy = some d) : ∃ p qs, toPy dx = some p ∧ toPy dy = some (.list qs) ∧ SeqAt.shaped p = true ∧ SeqAt.shaped (.list qs) = true ∧ d = .bl (if neg then !(qs.any fun z => PyData.eqv z p) else qs.any fun z => PyData.eqv z p) := by
  unfold inP at e
  split at e
  · rename_i p qs h1 h2
    split at e
    · rename_i h
      cases e
      rw [Bool.and_eq_true] at h
      exact ⟨p, qs, h1, h2, h.1, h.2, rfl⟩
    · cases e
  · cases e
theorem opd_inP (hK : G.K = X.K) (hu : X.A.units + 65 < cLine) : OpD G X (compareOp .In) (inP false) := ⟨_, op_inD hu, fun κ w s σ H x y dx dy d Q ok rx ry e q => by
  obtain ⟨p, qs, h1, h2, s1, s2, rfl⟩ := inP_py e
  exact ⟨p, qs, rx.py hK ok h1, ry.py hK ok h2, s1, s2, q w _ H (.refl _) ok (.bl _)⟩⟩
theorem opd_notInP (hK : G.K = X.K) (hu : X.A.units + 65 < cLine) : OpD G X (compareOp .NotIn) (inP true) := ⟨_, op_notInD hu, fun κ w s σ H x y dx dy d Q ok rx ry e q => by
  obtain ⟨p, qs, h1, h2, s1, s2, rfl⟩ := inP_py e
  exact ⟨p, qs, rx.py hK ok h1, ry.py hK ok h2, s1, s2, q w _ H (.refl _) ok (.bl _)⟩⟩
def dIn (neg : Bool) : D → D → Option D := fun x y => (inS neg x y).orElse fun _ => (inF neg x y).orElse fun _ => inP neg x y
theorem room65 {A : Around} {k : Nat} (hr : Room k A) : A.units + 65 < cLine := by have := hr.un; omega
theorem opd_in (hK : G.K = X.K) (hu : X.A.units + 65 < cLine) : OpD G X (compareOp .In) (dIn false) := (opd_inS.or ((opd_inF hK).or (opd_inP hK hu))).congr fun x y => rfl
theorem opd_notIn (hK : G.K = X.K) (hu : X.A.units + 65 < cLine) : OpD G X (compareOp .NotIn) (dIn true) := (opd_notInS.or ((opd_notInF hK).or (opd_notInP hK hu))).congr fun x y => rfl
/-! ### n.bit_length(), divmod -/
def eBits (f : DE) : DE := fun s => (f s).bind fun d s1 => match d with
  | .int i => .ok (.int (Builtin.Int.intBits i : Nat)) s1
  | _ => .stuck
theorem pd_bits {o : Expr} {f : DE} {apos pos : Pos} (ho : PD G W X o f) (hbase : attributeBase o "bit_length" X.env (eval o X.env) = eval o X.env := by rfl) (hline : (apos.endLine == pos.line) = true := by rfl) : PD G W X (.Call (.Attribute o "bit_length" apos) [] [] pos) (eBits f) :=
  (pe_bits ho hbase hline).imp fun σ H Q ⟨κ, w, s, ok, q⟩ => ⟨κ, w, s, ok, (PostG.bind q).imp fun v H1 ⟨d, s1, w1, le, ok1, r1, q1⟩ => by
    cases r1 with
    | int i => exact ⟨i, rfl, q1 w1 _ H1 (.refl _) ok1 (.int _)⟩
    | _ => exact q1.elim⟩
def bDivmod : List D → Option D
  | [.int i, .int j] => if 0 < j ∧ divOk j = true then some (.tup [.int (i.fdiv j), .int (i.fmod j)]) else none
  | _ => none
theorem pylong_no {i j : Int} (h : j.natAbs.log2 < 9000) : Builtin.divisionGoesByPylong i j = false := by
  unfold Builtin.divisionGoesByPylong
  have : ¬ ((if (j == 0) = true then 0 else j.natAbs.log2 / 30 + 1) > 300) := by
    split
    · omega
    · omega
  simp only [Bool.and_eq_false_iff, decide_eq_false_iff_not]
  exact .inl this
theorem cd_divmod : CallD G X (.builtin "divmod") bDivmod := ⟨_, call_divmodW, fun κ w s σ H vs ds d Q ok rs e q => by
  unfold bDivmod at e
  split at e
  · rename_i i j
    split at e
    · rename_i h
      cases e
      cases rs with
      | cons a rs =>
      cases rs with
      | cons b rs =>
      cases rs
      cases a
      cases b
      have hd := h.2
      unfold divOk at hd
      have hd := of_decide_eq_true hd
      refine ⟨i, j, rfl, ⟨h.1, pylong_no hd.2⟩, fun p hp => ?_⟩
      rw [Int.fdiv_eq_ediv_of_nonneg i (Int.le_of_lt h.1), Int.fmod_eq_emod_of_nonneg i (Int.le_of_lt h.1)] at q
      obtain ⟨le, ok'⟩ := ok.alloc hp (.tup [.int (i / j), .int (i % j)])
      exact q _ _ _ le ok' (.tup (.inl (.inl upd_same)) (.cons (.int _) (.cons (.int _) .nil)))
    · cases e
  · cases e⟩
/-! ### methods of built-in types -/
def MtD (G : Gam) (X : Cx) (T id : String) (o : D → List D → Option D) : Prop := ∃ r, MtR X id r ∧ (∀ (κ : Bs) (w : Wd) (s : DS) (σ : L2.St) (H : Hp) (x : V) (vs : List V) (dx : D) (ds : List D) (d : D) (Q : VK), Ok G κ w s σ H → Rep G w x dx → Reps G w vs ds → o dx ds = some d →
  (∀ w' v H', w.le w' → Ok G κ w' s σ H' → Rep G w' v d → Q v H') → r x vs H Q) ∧ ∀ (κ : Bs) (w : Wd) (s : DS) (σ : L2.St) (H : Hp) (x : V) (dx : D), Ok G κ w s σ H → Rep G w x dx → tyOk T dx = true → tyV X.K T x H
where
  tyOk (T : String) : D → Bool
  | .str _ => T == "str"
  | .lst _ => T == "list"
  | .dic _ => T == "dict"
  | _ => false
def eBM (T : String) (o : D → List D → Option D) (fo : DE) (fa : DA) : DE := fun s => (fo s).bind fun x s1 => if MtD.tyOk T x = true then (fa s1).bind fun ds s2 => match o x ds with
  | some d => .ok d s2
  | none => .stuck
  else .stuck
theorem pd_bm {T id : String} {name : Str} {o : D → List D → Option D} {oe e : Expr} {es : List Expr} {fo : DE} {fa : DA} {apos cpos : Pos} (pa : PlainAttrs T) (slot : Slot T name id) (hty : typeOf (.builtin id) = pure (.type "method_descriptor")) (hm : MtD G X T id o) (ho : PD G W X oe fo) (ha : PDA G W X (e :: es) fa)
    (hbase : attributeBase oe name X.env (eval oe X.env) = eval oe X.env := by rfl)
    (hfew : ((backTo cpos (starEach (e :: es) X.env)).all (fun x => !x.1) && (backToKw cpos (keywordEach [] X.env)).all (fun x => x.1.isSome)
      && decide ((e :: es).length + ([] : List Keyword).length + (if ([] : List Keyword).isEmpty then 0 else 1) < 30)) = true := by rfl)
    (hline : (apos.endLine == cpos.line) = true := by rfl) (hs : starEach (e :: es) X.env = (false, eval e X.env) :: starEach es X.env := by rfl) (hplain : (backTo cpos (starEach es X.env)).any (·.1) = false := by rfl) :
    PD G W X (.Call (.Attribute oe name apos) (e :: es) [] cpos) (eBM T o fo fa) := by
  obtain ⟨r, h1, h2, h3⟩ := hm
  refine (pe_bm pa slot hty h1 ho ha hbase hfew hline hs hplain).imp fun σ H Q ⟨κ, w, s, ok, q⟩ => ⟨κ, w, s, ok, (PostG.bind q).imp fun v H1 ⟨d, s1, w1, le, ok1, r1, q1⟩ => ?_⟩
  by_cases ht : MtD.tyOk T d = true
  · rw [if_pos ht] at q1
    refine ⟨h3 κ w1 s1 σ H1 v d ok1 r1 ht, κ, w1, s1, ok1, (PostG.bind q1).imp fun vs H2 ⟨ds, s2, w2, le2, ok2, r2, q2⟩ => ?_⟩
    cases e : o d ds with
    | none => rw [e] at q2; exact q2.elim
    | some z => rw [e] at q2; exact h2 κ w2 s2 σ H2 v vs d ds z Q ok2 (r1.mono le2) r2 e q2
  · rw [if_neg ht] at q1
    exact q1.elim
theorem ty_ok {T : String} {κ : Bs} {w : Wd} {s : DS} {σ : L2.St} {H : Hp} {x : V} {dx : D} (ok : Ok G κ w s σ H) (r : Rep G w x dx) (h : MtD.tyOk T dx = true) : tyV X.K T x H := by
  cases r <;> first | (cases h; done) | skip
  · exact beq_iff_eq.mp h
  · rename_i h1 _
    exact .inl ⟨beq_iff_eq.mp h, _, .inl (.inl (ok.fok.sub _ _ h1))⟩
  · rename_i h1 _
    exact .inr (.inr (.inl ⟨beq_iff_eq.mp h, .inl ⟨_, ok.fok.sub _ _ h1⟩⟩))
/-- texts of a list -/
def strsOf : List D → Option (List Nm)
  | [] => some []
  | .str l :: r => (strsOf r).map fun m => l :: m
  | _ => none
theorem strs_rep {w : Wd} : ∀ {vs : List V} {ds : List D} {ls : List Nm}, Reps G w vs ds → strsOf ds = some ls → vs = (ls.map nm).map V.str
  | _, _, _, .nil, h => by cases h; rfl
  | _, _, ls, .cons a b, h => by
    cases a <;> first | (simp [strsOf] at h; done) | skip
    simp only [strsOf, Option.map_eq_some_iff] at h
    obtain ⟨m, hm, rfl⟩ := h
    rw [strs_rep b hm]
    rfl
def mJoin : D → List D → Option D
  | .str a, [.lst ds] => match strsOf ds with
    | some ls => if (ls.map (·.length)).sum + ls.length * a.length ≤ 16777216 then some (.str (TL.joinL a ls)) else none
    | none => none
  | _, _ => none
theorem join_nm (a : Nm) (ls : List Nm) : Txt.join (nm a) (ls.map nm) = nm (TL.joinL a ls) := by
  have h := TL.tl_join (nm a) (ls.map nm)
  rw [← TL.join_eq, show TL.tl (nm a) = a from nm_list a, List.map_map] at h
  have e : (TL.tl ∘ nm) = id := by funext l; exact nm_list l
  rw [e, List.map_id] at h
  have : ∀ x : Str, x = nm (TL.tl x) := fun x => by simp [nm, TL.tl]
  rw [this (Txt.join _ _), h]
theorem mtd_join : MtD G X "str" "str.join" mJoin := by
  refine ⟨_, mt_join, fun κ w s σ H x vs dx ds d Q ok rx rs e q => ?_, fun κ w s σ H x dx ok r h => ty_ok ok r h⟩
  unfold mJoin at e
  split at e
  · rename_i a ds'
    split at e
    · rename_i ls hl
      split at e
      · rename_i hz
        cases e
        cases rx
        cases rs with
        | cons r1 rs =>
        cases rs
        cases r1 with
        | lst h1 r1 =>
        have := strs_rep r1 hl
        subst this
        refine ⟨nm a, _, ls.map nm, rfl, rfl, .inl (.inl (.inl (ok.fok.sub _ _ h1))), ?_, by rw [join_nm]; exact q w _ H (.refl _) ok (.str _)⟩
        have e1 : (ls.map nm).map (·.length) = ls.map (·.length) := by
          rw [List.map_map]
          apply List.map_congr_left
          intro l _
          show (nm l).cps.size = l.length
          simp [nm]
        have e2 : (nm a).length = a.length := by show (nm a).cps.size = _; simp [nm]
        rw [e1, e2, List.length_map]
        exact hz
      · cases e
    · cases e
  · cases e
end
end DL
set_option maxRecDepth 100000
set_option maxHeartbeats 4000000
set_option autoImplicit false
namespace DL
open PySem PySem.Spec PyProof.Rows L2
section
variable {G : Gam} {W : WX} {X : Cx}
/-! ### an own list, looked at without giving it away -/
def eIxO (i : Nat) (fb : DE) : DE := fun s => match s.sl[i]? with
  | some (.ol _) => (fb s).bind fun y s1 => match y, s1.sl[i]? with
    | .int k, some (.ol xs) => (match L2.atI xs k with | some d => .ok d s1 | none => .stuck)
    | _, _ => .stuck
  | some (.val x) => (fb s).bind fun y s1 => match y with
    | .int k => (match ixD x k with | some d => .ok d s1 | none => .stuck)
    | _ => .stuck
  | _ => .stuck
theorem ix_run (hK : G.K = X.K) {κ : Bs} {w : Wd} {s : DS} {σ : L2.St} {H : Hp} {v : V} {dx z : D} {k : Int} {Q : VK} (ok : Ok G κ w s σ H) (r1 : Rep G w v dx) (e : ixD dx k = some z) (q : PostG G W (Rep G) κ w σ (.ok z s) Q) : rIx X.K v (.int k) H Q := by
  cases r1 with
  | @tup p vs ds e1 r1 =>
    obtain ⟨y, h1, h2⟩ := Reps.atI r1 e
    exact .inr (.inl ⟨p, vs, k, y, rfl, rfl, hK ▸ SqT.le e1 ok.fok.sub, h1, q w y H (.refl _) ok h2⟩)
  | @lst p vs ds e1 r1 =>
    obtain ⟨y, h1, h2⟩ := Reps.atI r1 e
    exact .inl ⟨p, vs, k, y, rfl, rfl, .inl (.inl (ok.fok.sub _ _ e1)), h1, q w y H (.refl _) ok h2⟩
  | @scr p vs ds e1 r1 =>
    obtain ⟨y, h1, h2⟩ := Reps.atI r1 e
    exact .inl ⟨p, vs, k, y, rfl, rfl, hK ▸ SqL.le e1 ok.fok.sub, h1, q w y H (.refl _) ok h2⟩
  | str l =>
    have e : (if l.length ≤ 16777216 then (L2.atI l k).map fun c => D.str [c] else none) = some z := e
    split at e
    · rename_i hl
      cases e3 : L2.atI l k with
      | none => simp [e3] at e
      | some c =>
        simp only [e3, Option.map_some, Option.some.injEq] at e
        subst e
        refine .inr (.inr ⟨nm l, k, c, rfl, rfl, by rw [nm_len, sizeLine_eq]; exact hl, by simpa [nm] using e3, ?_⟩)
        exact q w _ H (.refl _) ok (.str [c])
    · cases e
  | _ => cases e
theorem pd_ixO (hK : G.K = X.K) {i : Nat} {x : Str} {p pos : Pos} {b : Expr} {fb : DE} (ho : PE X (.Name x p) (tVar i)) (hb : PD G W X b fb) (hs : PlainIx b) : PD G W X (.Subscript (.Name x p) b pos) (eIxO i fb) :=
  (pe_ix ix_seq ho hb hs).imp fun σ H Q ⟨κ, w, s, ok, q⟩ => by
    unfold eIxO at q
    cases e : s.sl[i]? with
    | none => rw [e] at q; exact q.elim
    | some y =>
      rw [e] at q
      cases y with
      | ol xs0 =>
        obtain ⟨a, vs, h1, h2, h3⟩ := own_list ok e
        refine ⟨.ref a, h1, κ, w, s, ok, (PostG.bind q).imp fun v2 H2 ⟨d2, s2, w2, le2, ok2, r2, q2⟩ => ?_⟩
        cases r2 with
        | int k =>
          cases e1 : s2.sl[i]? with
          | none => rw [e1] at q2; exact q2.elim
          | some z =>
            rw [e1] at q2
            cases z with
            | ol xs =>
              replace q2 : PostG G W (Rep G) κ w2 σ (match L2.atI xs k with | some d => .ok d s2 | none => .stuck) Q := q2
              obtain ⟨a', vs', g1, g2, g3⟩ := own_list ok2 e1
              rw [h1] at g1
              cases g1
              cases e2 : L2.atI xs k with
              | none => rw [e2] at q2; exact q2.elim
              | some d =>
                rw [e2] at q2
                obtain ⟨y, h1, h2⟩ := Reps.atI g3 e2
                exact .inl ⟨a, vs', k, y, rfl, rfl, .inl (.inl g2), h1, q2 w2 y H2 (.refl _) ok2 h2⟩
            | _ => exact q2.elim
        | _ => exact q2.elim
      | val dx =>
        obtain ⟨v, h1, r1⟩ := ok.val i dx e
        refine ⟨v, h1, κ, w, s, ok, (PostG.bind q).imp fun v2 H2 ⟨d2, s2, w2, le2, ok2, r2, q2⟩ => ?_⟩
        cases r2 with
        | int k =>
          replace q2 : PostG G W (Rep G) κ w2 σ (match ixD dx k with | some d => .ok d s2 | none => .stuck) Q := q2
          cases e2 : ixD dx k with
          | none => rw [e2] at q2; exact q2.elim
          | some z => rw [e2] at q2; exact ix_run hK ok2 (r1.mono le2) e2 q2
        | _ => exact q2.elim
      | _ => exact q.elim
/-- truth -/
def eTruO (i : Nat) : DT := fun s => match s.sl[i]? with
  | some (.ol xs) => .ok (!xs.isEmpty) s
  | some (.val d) => (match truD d with | some b => .ok b s | none => .stuck)
  | _ => .stuck
theorem ptd_truO (hK : G.K = X.K) {i : Nat} {x : Str} {p : Pos} (ho : PE X (.Name x p) (tVar i)) (he : ∀ whole, isTrue (.Name x p) X.env whole = (do let v ← whole; standAt (Expr.pos (.Name x p)); holding [v] (truthy v)) := by intro _; rfl) : PDT G W X (.Name x p) (eTruO i) :=
  (pt_truth ho he).imp fun σ H Q ⟨κ, w, s, ok, q⟩ => by
    unfold eTruO at q
    cases e : s.sl[i]? with
    | none => rw [e] at q; exact q.elim
    | some y =>
      rw [e] at q
      cases y with
      | ol xs =>
        obtain ⟨a, vs, h1, h2, h3⟩ := own_list ok e
        refine ⟨.ref a, h1, !xs.isEmpty, ?_, q w _ H (.refl _) ok rfl⟩
        exact .inl ⟨vs, .inl (.inl h2), by rw [h3.isEmpty]⟩
      | val d =>
        obtain ⟨v, h1, r1⟩ := ok.val i d e
        replace q : PostG G W (fun _ (v : Bool) d => v = d) κ w σ (match truD d with | some b => .ok b s | none => .stuck) Q := q
        cases e1 : truD d with
        | none => rw [e1] at q; exact q.elim
        | some k => rw [e1] at q; exact ⟨v, h1, k, truV_of hK ok r1 e1, q w k H (.refl _) ok rfl⟩
      | _ => exact q.elim
/-- x[i] = v -/
def sIxO (i : Nat) (fi fv : DE) : DStm := fun s => (fv s).bind fun d s1 => match s1.sl[i]? with
  | some (.ol _) => (fi s1).bind fun y s2 => match y, s2.sl[i]? with
    | .int k, some (.ol xs) => (match ixN xs.length k with | some j => .ok .nx ⟨s2.sl.set i (.ol (xs.set j d)), s2.st⟩ | none => .stuck)
    | _, _ => .stuck
  | _ => .stuck
theorem pds_ixO {i : Nat} {x : Str} {p tp pos : Pos} {b e : Expr} {fi fv : DE} (ho : PE X (.Name x p) (tVar i)) (hb : PD G WF X b fi) (he : PD G W X e fv) (hs : swapsWithSole [.Subscript (.Name x p) b tp] e pos.line X.env = pure false := by rfl) (hw : swappedStores [.Subscript (.Name x p) b tp] e X.env = pure none := by rfl)
    (h1 : (assignEach [.Subscript (.Name x p) b tp] X.env).map (·.2) = [assign (.Subscript (.Name x p) b tp) X.env] := by rfl)
    (ha : ∀ v, assign (.Subscript (.Name x p) b tp) X.env v = (do
      let ov ← holding [v] (eval (.Name x p) X.env)
      let iv ← holding [v, ov] (eval b X.env)
      standAt tp
      holding [v, ov, iv] (setItem ov iv v)
      release [v, ov, iv] []) := by intro _; rfl) (hcol : ∀ (s : DS), (∀ x s', fi s ≠ .exc x s')) : PDS G W X (.Assign [.Subscript (.Name x p) b tp] e pos) (sIxO i fi fv) :=
  (ps_asg he (pg_sub ho hb set_list ha) hs hw h1).imp fun N σ H ⟨κ, w, s, ok, q⟩ => ⟨κ, w, s, ok, (PostG.bindS q).imp fun v H1 ⟨d, s1, w1, le, ok1, r1, q1⟩ => by
    cases e : s1.sl[i]? with
    | none => rw [e] at q1; exact q1.elim
    | some y =>
      rw [e] at q1
      cases y with
      | ol xs0 =>
        obtain ⟨a, vs, h1, h2, h3⟩ := own_list ok1 e
        replace q1 : PostS G W κ w1 ((fi s1).bind fun y s2 => match y, s2.sl[i]? with
          | .int k, some (.ol xs) => (match ixN xs.length k with | some j => .ok .nx ⟨s2.sl.set i (.ol (xs.set j d)), s2.st⟩ | none => .stuck)
          | _, _ => .stuck) N := q1
        refine ⟨.ref a, h1, κ, w1, s1, ok1, ?_⟩
        cases ef : fi s1 with
        | stuck => rw [ef] at q1; exact q1.elim
        | exc z s' => exact absurd ef (hcol s1 z s')
        | ok d2 s2 =>
          rw [ef] at q1
          intro w2 v2 H2 le2 ok2 r2
          cases r2 with
          | int k =>
            cases e1 : s2.sl[i]? with
            | none => simp [e1] at q1; exact q1.elim
            | some z =>
              cases z with
              | ol xs =>
                simp only [Res.bind_ok, e1] at q1
                obtain ⟨a', vs', g1, g2, g3⟩ := own_list ok2 e1
                rw [h1] at g1
                cases g1
                cases e2 : ixN xs.length k with
                | none => rw [e2] at q1; exact q1.elim
                | some j =>
                  rw [e2] at q1
                  refine ⟨a, vs', k, j, rfl, rfl, g2, by rw [g3.length]; exact e2, ?_⟩
                  exact q1 w2 σ _ le2 (ok2.mut e1 rfl rfl h1 ⟨_, upd_same, Reps.set (r1.mono le2) j g3⟩ fun _ _ z => nomatch z)
              | _ => simp only [Res.bind_ok, e1] at q1; exact q1.elim
          | _ => simp only [Res.bind_ok] at q1; exact q1.elim
      | _ => exact q1.elim⟩
/-! ### len of an own list -/
def eLenO (i : Nat) : DE := fun s => match s.sl[i]? with
  | some (.ol xs) => .ok (.int xs.length) s
  | some (.val d) => (match bLen [d] with | some r => .ok r s | none => .stuck)
  | _ => .stuck
/-! ### a property -/
def eProp (c : String) (g : DFn) (f : DE) : DE := fun s => (f s).bind fun d s1 => match insOf d s1 with
  | some (c1, _) => if c1 = c then noX (lift s1 (g [d] s1.st)) else .stuck
  | none => .stuck
theorem pd_prop {c : String} {C p gf : Addr} {k : Nat} {fd : FuncData} {ps : List Str} {g : DFn} {e : Expr} {fe : DE} {f : Str} {pos : Pos} (hC : G.ct c = some C) (hcl : Cls X.K C) (hp : PropOf X.K C f p gf) (F : FnOk X.prog X.w X.K X.mg X.base (L2.CX X.prog X.w) k gf fd ps (spG G 1 g)) (hr : Room (k + 1) X.A) (hb : Binds X.K fd ps [])
    (he : PD G W X e fe) (hab : attributeBase e f X.env (eval e X.env) = eval e X.env := by rfl) : PD G W X (.Attribute e f pos) (eProp c g fe) :=
  (pe_prop (E := fun _ _ _ => False) he hcl hp F hr hb .nil (passes_call takes0 fun _ _ _ _ z => z) hab).imp fun σ H Q ⟨κ, w, s, ok, q⟩ => ⟨κ, w, s, ok, (PostG.bind q).imp fun v H1 ⟨d, s1, w1, le, ok1, r1, q1⟩ => by
    cases e1 : insOf d s1 with
    | none => rw [e1] at q1; exact q1.elim
    | some cf =>
      obtain ⟨c1, fs⟩ := cf
      rw [e1] at q1
      replace q1 : PostG G W (Rep G) κ w1 σ (if c1 = c then noX (lift s1 (g [d] s1.st)) else .stuck) Q := q1
      by_cases hc : c1 = c
      · rw [if_pos hc] at q1
        subst hc
        obtain ⟨a, C', dx, vs, rfl, hC', hH, _⟩ := r1.ins_of ok1 e1
        rw [hC] at hC'
        cases hC'
        refine ⟨a, dx, vs, rfl, hH, rfl, w1, s1.st, [d], ok1.fok, .cons r1 .nil, ?_⟩
        cases eg : g [d] s1.st with
        | stuck => rw [eg] at q1; exact q1.elim
        | exc x S => rw [eg] at q1; exact q1.elim
        | ok d' S => rw [eg] at q1; exact fun w' v H' n fk r => q1 w' v H' n.le (ok1.step n fk) r
      · rw [if_neg hc] at q1
        exact q1.elim⟩
/-! ### constants of the module: texts, numbers, tuples of them -/
def repK (K : PySem.W.Frag) : Nat → Value → D → Bool
  | 0, _, _ => false
  | n + 1, v, d => match v, d with
    | .none, .non => true
    | .bool b, .bl c => b == c
    | .int i _, .int j => i == j
    | .str x _, .str l => x == nm l
    | .ref a, .tup ds => match K.lookup a with
      | some o => o.cls == .type "tuple" && (match o.data with
        | .seq its _ => decide (its.size ≤ 1000) && go n its.toList ds
        | _ => false)
      | none => false
    | _, _ => false
where
  go (n : Nat) : List Value → List D → Bool
  | [], [] => true
  | v :: vs, d :: ds => repK K n v d && go n vs ds
  | _, _ => false
theorem repK_ok {K : PySem.W.Frag} (hK : G.K = K) : ∀ (n : Nat) (v : Value) (d : D), repK K n v d = true → ∃ x, RelV x v ∧ ∀ w, Rep G w x d := by
  intro n
  induction n with
  | zero => intro v d h; simp [repK] at h
  | succ n ih =>
    have goes : ∀ (vs : List Value) (ds : List D), repK.go K n vs ds = true → ∃ xs, Vals xs vs ∧ ∀ w, Reps G w xs ds := by
      intro vs
      induction vs with
      | nil =>
        intro ds h
        cases ds with
        | nil => exact ⟨[], .nil, fun _ => .nil⟩
        | cons _ _ => cases h
      | cons v vs ihv =>
        intro ds h
        cases ds with
        | nil => cases h
        | cons d ds =>
          simp only [repK.go, Bool.and_eq_true] at h
          obtain ⟨x, r1, r2⟩ := ih v d h.1
          obtain ⟨xs, r3, r4⟩ := ihv ds h.2
          exact ⟨x :: xs, .cons r1 r3, fun w => .cons (r2 w) (r4 w)⟩
    intro v d h
    unfold repK at h
    split at h
    · exact ⟨.non, rfl, fun _ => .non⟩
    · rw [beq_iff_eq] at h; subst h; exact ⟨.bl _, rfl, fun _ => .bl _⟩
    · rw [beq_iff_eq] at h; subst h; exact ⟨.int _, ⟨_, rfl⟩, fun _ => .int _⟩
    · rw [beq_iff_eq] at h; subst h; exact ⟨.str _, ⟨_, rfl⟩, fun _ => .str _⟩
    · split at h
      · rename_i o ho
        rw [Bool.and_eq_true, beq_iff_eq] at h
        obtain ⟨h1, h2⟩ := h
        split at h2
        · rename_i its m hd
          rw [Bool.and_eq_true, decide_eq_true_eq] at h2
          obtain ⟨xs, r3, r4⟩ := goes _ _ h2.2
          refine ⟨.ref _, rfl, fun w => .tup (.inr ⟨o, its, m, by rw [hK]; exact ho, h1, hd, by rw [sizeLine_eq]; omega, r3⟩) (r4 w)⟩
        · cases h2
      · cases h
    · cases h
theorem pd_const {x : Str} {v : Value} {d : D} {pos : Pos} (hg : Gl X x) (hm : X.mg x = some v) (hr : ∃ y, RelV y v ∧ ∀ w, Rep G w y d) (hd : (x == ("__debug__" : Str)) = false := by decide) : PD G W X (.Name x pos) (eC d) := by
  obtain ⟨y, r1, r2⟩ := hr
  exact pd_glob hg hm r1 r2 hd
/-! ### text.index(text) -/
def eSix (fo : DE) (fa : DA) : DE := fun s => (fo s).bind fun x s1 => match x with
  | .str a => (fa s1).bind fun ds s2 => match ds with
    | [.str b] => (match Txt.index0 (nm a) (nm b) with | some k => .ok (.int (k : Nat)) s2 | none => .stuck)
    | _ => .stuck
  | _ => .stuck
theorem pd_six {oe e : Expr} {fo : DE} {fa : DA} {apos cpos : Pos} (hc : X.calm = true) (tk : Takes X W) (ho : PD G W X oe fo) (ha : PDA G W X [e] fa)
    (hbase : attributeBase oe "index" X.env (eval oe X.env) = eval oe X.env := by rfl)
    (hfew : ((backTo cpos (starEach [e] X.env)).all (fun x => !x.1) && (backToKw cpos (keywordEach [] X.env)).all (fun x => x.1.isSome)
      && decide ([e].length + ([] : List Keyword).length + (if ([] : List Keyword).isEmpty then 0 else 1) < 30)) = true := by rfl)
    (hline : (apos.endLine == cpos.line) = true := by rfl) (hs : starEach [e] X.env = (false, eval e X.env) :: starEach [] X.env := by rfl) (hplain : (backTo cpos (starEach [] X.env)).any (·.1) = false := by rfl) :
    PD G W X (.Call (.Attribute oe "index" apos) [e] [] cpos) (eSix fo fa) :=
  (pe_bmS PySem.F.plainAttrs_str PySem.F.slot_str_index PySem.F.type_str_index (mt_indexX hc tk) ho ha hbase hfew hline hs hplain).imp fun σ H Q ⟨κ, w, s, ok, q⟩ => ⟨κ, w, s, ok, (PostG.bind q).imp fun v H1 ⟨d, s1, w1, le, ok1, r1, q1⟩ => by
    cases r1 with
    | str a =>
      refine ⟨rfl, κ, w1, s1, ok1, (PostG.bind q1).imp fun vs H2 ⟨ds, s2, w2, le2, ok2, r2, q2⟩ => ?_⟩
      match ds, q2 with
      | [.str b], q2 =>
        cases r2 with
        | cons r2 r3 =>
        cases r3
        cases r2
        replace q2 : PostG G W (Rep G) κ w2 σ (match Txt.index0 (nm a) (nm b) with | some k => .ok (.int (k : Nat)) s2 | none => .stuck) Q := q2
        cases e : Txt.index0 (nm a) (nm b) with
        | none => rw [e] at q2; exact q2.elim
        | some k =>
          rw [e] at q2
          refine ⟨nm a, nm b, rfl, rfl, fun k' hk => ?_, fun hn => ?_⟩
          · rw [e] at hk; cases hk; exact q2 w2 _ H2 (.refl _) ok2 (.int _)
          · rw [e] at hn; cases hn
      | [], q2 => exact q2.elim
      | x :: _ :: _, q2 => cases x <;> exact q2.elim
      | [.non], q2 => exact q2.elim
      | [.bl _], q2 => exact q2.elim
      | [.int _], q2 => exact q2.elim
      | [.tup _], q2 => exact q2.elim
      | [.lst _], q2 => exact q2.elim
      | [.scr _], q2 => exact q2.elim
      | [.dic _], q2 => exact q2.elim
      | [.ins _ _], q2 => exact q2.elim
      | [.cell _], q2 => exact q2.elim
      | [.cls _], q2 => exact q2.elim
      | [.ty _], q2 => exact q2.elim
      | [.fn _], q2 => exact q2.elim
      | [.lam _], q2 => exact q2.elim
    | _ => exact q1.elim⟩
/-! ### a < b < c as a test -/
theorem ptd_chain {op op' : CmpOp} {o o' : D → D → Option D} {a b c : Expr} {fa fb fc : DE} {pos : Pos} (ho : OpD G X (compareOp op) o) (ho' : OpD G X (compareOp op') o') (ha : PD G W X a fa) (hb : PD G W X b fb) (hc : PD G W X c fc)
    (hp : ∀ {r r' : R2} {ta tb tc : TE}, OpR X (compareOp op) r → OpR X (compareOp op') r' → PE X a ta → PE X b tb → PE X c tc → PT X (.Compare a [op, op'] [b, c] pos) (tTest (tChain r r' ta tb tc))) : PDT G W X (.Compare a [op, op'] [b, c] pos) (eB (eChain o o' fa fb fc)) := by
  obtain ⟨r, h1, h2⟩ := ho
  obtain ⟨r', h1', h2'⟩ := ho'
  refine (hp h1 h1' ha hb hc).imp fun σ H Q h => ?_
  obtain ⟨κ, w, s, ok, q⟩ := tB_of h
  refine ⟨κ, w, s, ok, (PostG.bind q).imp fun v H1 ⟨d, s1, w1, le, ok1, r1, q1⟩ => ⟨κ, w1, s1, ok1, (PostG.bind q1).imp fun v2 H2 ⟨d2, s2, w2, le2, ok2, r2, q2⟩ => ?_⟩⟩
  cases e : o d d2 with
  | none => rw [e] at q2; exact q2.elim
  | some z =>
    rw [e] at q2
    refine h2 κ w2 s2 σ H2 v v2 d d2 z _ ok2 (r1.mono le2) r2 e fun w3 v3 H3 l3 o3 r3 => ?_
    cases r3 with
    | bl k =>
      refine ⟨k, rfl, ?_⟩
      cases k with
      | false => exact q2 w3 _ H3 l3 o3 (.bl false)
      | true =>
        refine ⟨κ, w3, s2, o3, (PostG.bind (PostG.mono l3 q2)).imp fun v4 H4 ⟨d4, s4, w4, le4, ok4, r4, q4⟩ => ?_⟩
        cases e' : o' d2 d4 with
        | none => rw [e'] at q4; exact q4.elim
        | some z' => rw [e'] at q4; exact h2' κ w4 s4 σ H4 v2 v4 d2 d4 z' _ ok4 ((r2.mono l3).mono le4) r4 e' q4
    | _ => exact q2.elim
/-! ### readings that raise nothing -/
theorem nx_c (d : D) : ∀ (s : DS), (∀ x s', eC d s ≠ .exc x s') := fun s x s' h => nomatch h
theorem nx_var (i : Nat) : ∀ (s : DS), (∀ x s', eVar i s ≠ .exc x s') := fun s x s' h => by
  unfold eVar at h
  split at h <;> cases h
theorem nx_neg {f : DE} (k : ∀ (s : DS), (∀ x s', f s ≠ .exc x s')) : ∀ (s : DS), (∀ x s', eNeg f s ≠ .exc x s') := fun s x s' h => by
  unfold eNeg at h
  cases e : f s with
  | stuck => rw [e] at h; cases h
  | exc z t => exact k s z t e
  | ok d t =>
    rw [e] at h
    simp only [Res.bind_ok] at h
    split at h <;> cases h
theorem nx_op2 {o : D → D → Option D} {f g : DE} (k : ∀ (s : DS), (∀ x s', f s ≠ .exc x s')) (l : ∀ (s : DS), (∀ x s', g s ≠ .exc x s')) : ∀ (s : DS), (∀ x s', eOp2 o f g s ≠ .exc x s') := fun s x s' h => by
  unfold eOp2 at h
  cases e : f s with
  | stuck => rw [e] at h; cases h
  | exc z t => exact k s z t e
  | ok d t =>
    rw [e] at h
    simp only [Res.bind_ok] at h
    cases e2 : g t with
    | stuck => rw [e2] at h; cases h
    | exc z t' => exact l t z t' e2
    | ok d' t' =>
      rw [e2] at h
      simp only [Res.bind_ok] at h
      split at h <;> cases h
/-! ### an own slot is given away -/
def eFz (i : Nat) (f : DE) : DE := fun s => match s.sl[i]? with
  | some (.ol xs) => f ⟨s.sl.set i (.val (.lst xs)), s.st⟩
  | some (.od kvs) => f ⟨s.sl.set i (.val (.dic kvs)), s.st⟩
  | some (.oi c fs) => f ⟨s.sl.set i (.val (.ins c fs)), s.st⟩
  | _ => f s
theorem pd_fz {i : Nat} {e : Expr} {f : DE} (h : PD G W X e f) : PD G W X e (eFz i f) := h.imp fun σ H Q ⟨κ, w, s, ok, q⟩ => by
  unfold eFz at q
  split at q
  · rename_i xs e
    obtain ⟨a, h1, ⟨vs, h2, h3⟩, _⟩ := ok.own i _ e rfl
    obtain ⟨le, ok'⟩ := ok.freeze (d := .lst xs) e rfl h1 h2 fun w' l f => .lst f (h3.mono l)
    exact ⟨κ, _, _, ok', PostG.mono le q⟩
  · rename_i xs e
    obtain ⟨a, h1, ⟨vs, h2, h3⟩, _⟩ := ok.own i _ e rfl
    obtain ⟨le, ok'⟩ := ok.freeze (d := .dic xs) e rfl h1 h2 fun w' l f => .dic f (h3.mono l)
    exact ⟨κ, _, _, ok', PostG.mono le q⟩
  · rename_i c fs e
    obtain ⟨a, h1, ⟨C, dx, vs, hC, h2, h3⟩, _⟩ := ok.own i _ e rfl
    obtain ⟨le, ok'⟩ := ok.freeze (d := .ins c fs) e rfl h1 h2 fun w' l f => .ins hC f (h3.mono l)
    exact ⟨κ, _, _, ok', PostG.mono le q⟩
  · exact ⟨κ, w, s, ok, q⟩
/-! ### isinstance(x, (A, B)) -/
/-- all items are classes -/
def clsD : D → Bool
  | .ty _ => true
  | .cls _ => true
  | _ => false
def isAny (cs : List String) (t : String ⊕ String) : List D → Option Bool
  | [] => some false
  | c :: r => match isOne cs t c with
    | some true => some true
    | some false => isAny cs t r
    | none => none
def eIsT (cs : List String) (fe : DE) (fa : DA) : DE := fun s => (fe s).bind fun d s1 => (fa s1).bind fun ts s2 => if ts.length ≤ 1000 ∧ ts.all clsD = true then match (tyOfD cs d).bind fun t => isAny cs t ts with
  | some b => .ok (.bl b) s2
  | none => .stuck
  else .stuck
theorem isOne_kit (hK : G.K = X.K) {cs : List String} (I : IsOk G cs) {w : Wd} {t : String ⊕ String} {tv : Value} {c : D} {v : V} {b : Bool} (ht : match t with | .inl a => tv = .type a ∧ a ∈ tyNames | .inr c => c ∈ cs ∧ ∃ C, G.ct c = some C ∧ tv = .ref C) (r : Rep G w v c) (e : isOne cs t c = some b) : ∃ u, ClsV v u ∧ PySem.W.kitOne X.K tv u = some b := by
  cases t with
  | inl a =>
    obtain ⟨rfl, ha⟩ := ht
    cases r with
    | ty n =>
      have e : (if a ∈ tyNames ∧ n ∈ tyNames then some (isTy a n) else none) = some b := e
      split at e
      · rename_i h
        cases e
        exact ⟨_, .ty n, kit_ty (isTy_ok a h.1 n h.2)⟩
      · cases e
    | @cls C n hC =>
      have e : (if a ∈ tyNames ∧ n ∈ cs then some false else none) = some b := e
      split at e
      · rename_i h
        cases e
        exact ⟨_, .own C, hK ▸ (I.bo n h.2 C hC a h.1).2⟩
      · cases e
    | _ => exact nomatch e
  | inr a =>
    obtain ⟨ha, C', hC', rfl⟩ := ht
    cases r with
    | ty n =>
      have e : (if n ∈ tyNames then some false else none) = some b := e
      split at e
      · rename_i h
        cases e
        exact ⟨_, .ty n, hK ▸ (I.bo a ha C' hC' n h).1⟩
      · cases e
    | @cls C n hC =>
      have e : (if n ∈ cs then some (a == n) else none) = some b := e
      split at e
      · rename_i h
        cases e
        exact ⟨_, .own C, hK ▸ I.oo a ha n h C' C hC' hC⟩
      · cases e
    | _ => exact nomatch e
/-- a class value and its object -/
def clsOf : V → Value
  | .ty n => .type n
  | .ref C => .ref C
  | _ => .none
theorem isAny_kit (hK : G.K = X.K) {cs : List String} (I : IsOk G cs) {w : Wd} {t : String ⊕ String} {tv : Value} (ht : match t with | .inl a => tv = .type a ∧ a ∈ tyNames | .inr c => c ∈ cs ∧ ∃ C, G.ct c = some C ∧ tv = .ref C) : ∀ {vs : List V} {ds : List D} {b : Bool}, Reps G w vs ds → ds.all clsD = true → isAny cs t ds = some b → ∃ us, Paired ClsV vs us ∧ PySem.W.kitAny X.K tv us = some b
  | _, _, _, .nil, _, e => by cases e; exact ⟨[], .nil, kitAny_nil⟩
  | _, _, b, .cons (v := v) (d := c) (vs := vs) (ds := ds) r rs, hc, e => by
    rw [List.all_cons, Bool.and_eq_true] at hc
    have rest : ∃ us, Paired ClsV vs us := by
      clear e
      have : ∀ {vs : List V} {ds : List D}, Reps G w vs ds → ds.all clsD = true → ∃ us, Paired ClsV vs us := fun {vs ds} r h => by
        induction ds generalizing vs with
        | nil => cases r; exact ⟨[], .nil⟩
        | cons d ds ih =>
          cases r with
          | cons a b =>
            rw [List.all_cons, Bool.and_eq_true] at h
            obtain ⟨us, hu⟩ := ih b h.2
            cases a with
            | ty n => exact ⟨_, .cons (.ty n) hu⟩
            | @cls C n hC => exact ⟨_, .cons (.own C) hu⟩
            | _ => exact nomatch h.1
      exact this rs hc.2
    simp only [isAny] at e
    split at e
    · rename_i e1
      cases e
      obtain ⟨u, h1, h2⟩ := isOne_kit hK I ht r e1
      obtain ⟨us, hu⟩ := rest
      exact ⟨u :: us, .cons h1 hu, kitAny_cons h2 (fun z => nomatch z) fun _ => rfl⟩
    · rename_i e1
      obtain ⟨u, h1, h2⟩ := isOne_kit hK I ht r e1
      obtain ⟨us, hu, hk⟩ := isAny_kit hK I ht rs hc.2 e
      exact ⟨u :: us, .cons h1 hu, kitAny_cons h2 (fun _ => hk) fun z => nomatch z⟩
    · cases e
theorem pd_isT (hK : G.K = X.K) {cs : List String} (I : IsOk G cs) {x : Str} {p pos pos2 : Pos} {k : Nat} {e : Expr} {es : List Expr} {fe : DE} {fa : DA} (hg : Gl X x) (hm : X.mg x = none) (hv : bootBuiltins x = some (.builtin "isinstance")) (he : PD G W X e fe) (hes : PDA G W X es fa) (hn : x ≠ "__name__" := by decide)
    (hdb : (x == ("__debug__" : Str)) = false := by decide) (h1 : starEach (e :: [Expr.Tuple es k pos2]) X.env = (false, eval e X.env) :: starEach [Expr.Tuple es k pos2] X.env := by rfl) (h2 : starEach [Expr.Tuple es k pos2] X.env = (false, eval (.Tuple es k pos2) X.env) :: starEach [] X.env := by rfl)
    (hpl : (backTo pos (starEach [Expr.Tuple es k pos2] X.env)).any (·.1) = false := by rfl) : PD G W X (.Call (.Name x p) [e, .Tuple es k pos2] [] pos) (eIsT cs fe fa) :=
  (pe_callB call_isiT hg hm hv (pa_cons he (pa_cons (pe_tup hes) pa_nil h2) h1) hn hdb h1 hpl).imp fun σ H Q ⟨κ, w, s, ok, q⟩ => ⟨κ, w, s, ok, (PostG.bind q).imp fun v H1 ⟨d, s1, w1, le, ok1, r1, q1⟩ =>
    ⟨κ, w1, s1, ok1, (PostG.bind q1).imp fun vs H2 ⟨ts, s2, w2, le2, ok2, r2, q2⟩ => by
      by_cases c : ts.length ≤ 1000 ∧ ts.all clsD = true
      · rw [if_pos c] at q2
        refine ⟨by rw [r2.length]; exact sz1000 c.1, fun p hp => ?_⟩
        obtain ⟨le3, ok3⟩ := ok2.alloc hp (.tup vs)
        cases e1 : tyOfD cs d with
        | none => rw [e1] at q2; exact q2.elim
        | some t =>
          rw [e1] at q2
          obtain ⟨tv, ty, ht⟩ := tyX_of hK I ok3 ((r1.mono le2).mono le3) e1
          cases e2 : isAny cs t ts with
          | none => simp only [Option.bind_some, e2] at q2; exact q2.elim
          | some b =>
            simp only [Option.bind_some, e2] at q2
            obtain ⟨us, hu, hk⟩ := isAny_kit hK I (t := t) (tv := tv) (by cases t <;> exact ht) (r2.mono le3) c.2 e2
            exact ⟨v, p, vs, tv, us, b, rfl, upd_same, hu, ty, hk, q2 _ _ _ le3 ok3 (.bl b)⟩
      · rw [if_neg c] at q2
        exact q2.elim⟩⟩
/-! ### x != [] of an own list -/
def eNeO (i : Nat) : DT := fun s => match s.sl[i]? with
  | some (.ol xs) => (match dNe (.lst xs) (.lst []) with | some (.bl b) => .ok b s | _ => .stuck)
  | some (.val d) => (match dNe d (.lst []) with | some (.bl b) => .ok b s | _ => .stuck)
  | _ => .stuck
theorem dNe_parts {x y : D} {b : Bool} (e : dNe x y = some (.bl b)) : ∃ p q, toPy x = some p ∧ toPy y = some q ∧ SeqAt.shaped p = true ∧ SeqAt.shaped q = true ∧ b = !PyData.eqv p q := by
  unfold dNe at e
  cases e1 : toPy x with
  | none => simp [e1] at e
  | some p =>
    cases e2 : toPy y with
    | none => simp [e1, e2] at e
    | some p' =>
      simp only [e1, e2] at e
      split at e
      · rename_i c
        cases e
        rw [Bool.and_eq_true] at c
        exact ⟨p, p', rfl, rfl, c.1, c.2, rfl⟩
      · cases e
theorem ptd_neO (hK : G.K = X.K) (hu : X.A.units + 64 < cLine) {i : Nat} {x : Str} {p pos pos2 : Pos} (ho : PE X (.Name x p) (tVar i)) : PDT G W X (.Compare (.Name x p) [.NotEq] [.List [] pos2] pos) (eNeO i) :=
  (pt_cmpR (op_neD hu) ho (pe_lst pa_nil) (nomark _)).imp fun σ H Q ⟨κ, w, s, ok, q⟩ => by
    unfold eNeO at q
    cases e : s.sl[i]? with
    | none => rw [e] at q; exact q.elim
    | some y =>
      rw [e] at q
      cases y with
      | ol xs =>
        replace q : PostG G W (fun _ (v : Bool) d => v = d) κ w σ (match dNe (.lst xs) (.lst []) with | some (.bl b) => .ok b s | _ => .stuck) Q := q
        obtain ⟨a, vs, h1, h2, h3⟩ := own_list ok e
        refine ⟨.ref a, h1, by decide, fun p hp => ?_⟩
        split at q
        · rename_i b e1
          obtain ⟨p1, p2, t1, t2, c1, c2, rfl⟩ := dNe_parts e1
          obtain ⟨le2, ok2⟩ := ok.alloc hp (.lst [])
          obtain ⟨a', h1', ⟨vs', h2', h3'⟩, _⟩ := ok2.own i _ e rfl
          obtain ⟨le3, ok3⟩ := ok2.freeze (d := .lst xs) e rfl h1' h2' fun w' l f => .lst f (h3'.mono l)
          rw [h1] at h1'
          cases h1'
          have r1 : Dp X.K _ (.ref a) p1 := Rep.py hK ok3 (.lst upd_same (h3'.mono le3)) t1
          have r2 : Dp X.K _ (.ref p) p2 := Rep.py hK ok2 (.lst upd_same .nil) t2
          exact ⟨p1, p2, r1, r2, c1, c2, _, rfl, q _ _ _ le2 ok2 rfl⟩
        · exact q.elim
      | val d =>
        replace q : PostG G W (fun _ (v : Bool) d => v = d) κ w σ (match dNe d (.lst []) with | some (.bl b) => .ok b s | _ => .stuck) Q := q
        obtain ⟨v, h1, r1⟩ := ok.val i d e
        refine ⟨v, h1, by decide, fun p hp => ?_⟩
        split at q
        · rename_i b e1
          obtain ⟨p1, p2, t1, t2, c1, c2, rfl⟩ := dNe_parts e1
          obtain ⟨le2, ok2⟩ := ok.alloc hp (.lst [])
          have r2 : Dp X.K _ (.ref p) p2 := Rep.py hK ok2 (.lst upd_same .nil) t2
          exact ⟨p1, p2, Rep.py hK ok2 (r1.mono le2) t1, r2, c1, c2, _, rfl, q _ _ _ le2 ok2 rfl⟩
        · exact q.elim
      | _ => exact q.elim
end
end DL
set_option maxRecDepth 100000
set_option maxHeartbeats 4000000
set_option autoImplicit false
namespace DL
open PySem PySem.Spec PyProof.Rows L2
section
variable {G : Gam} {W : WX} {X : Cx}
/-! ### a, b, c = [], [], x with lists of one's own -/
def sPar3O (i j l : Nat) (f1 f2 : DA) (f3 : DE) : DStm := fun s => match f1 s with
  | .ok xs s1 => match f2 s1 with
    | .ok ys s2 => match f3 s2 with
      | .ok d s3 => .ok .nx ⟨((s3.sl.set i (.ol xs)).set j (.ol ys)).set l (.val d), s3.st⟩
      | _ => .stuck
    | _ => .stuck
  | _ => .stuck
theorem pds_par3O {i j l : Nat} {x y z : Str} {a b c : Expr} {f1 f2 : DA} {f3 : DE} {px py pz pt pos : Pos} {kt k2 : Nat} {pt2 : Pos} (hc : X.calm = true) (hN : X.N.Nodup) (hi : X.N[i]? = some x) (hj : X.N[j]? = some y) (hl : X.N[l]? = some z) (hij : i ≠ j) (hil : i ≠ l) (hjl : j ≠ l)
    (hx : X.env.scope.names.lookup x = some .local) (hy : X.env.scope.names.lookup y = some .local) (hz : X.env.scope.names.lookup z = some .local) (ha : PDo G W X a f1) (hb : PDo G W X b f2) (hd : PD G W X c f3)
    (hw : swappedStores [.Tuple [.Name x px, .Name y py, .Name z pz] kt pt] (.Tuple [a, b, c] k2 pt2) X.env = pure (some [x, y, z]))
    (hs : swapsWithSole [.Tuple [.Name x px, .Name y py, .Name z pz] kt pt] (.Tuple [a, b, c] k2 pt2) pos.line X.env = pure false := by rfl)
    (s1 : starEach [a, b, c] X.env = (false, eval a X.env) :: starEach [b, c] X.env := by rfl) (s2 : starEach [b, c] X.env = (false, eval b X.env) :: starEach [c] X.env := by rfl) (s3 : starEach [c] X.env = (false, eval c X.env) :: starEach [] X.env := by rfl) :
    PDS G W X (.Assign [.Tuple [.Name x px, .Name y py, .Name z pz] kt pt] (.Tuple [a, b, c] k2 pt2) pos) (sPar3O i j l f1 f2 f3) :=
  (ps_par3 hc hN hi hj hl hij hil hjl hx hy hz (pa_cons ha (pa_cons hb (pa_cons hd pa_nil s3) s2) s1) hw hs).imp fun N σ H ⟨κ, w, s, ok, q⟩ => by
    unfold sPar3O at q
    cases e1 : f1 s with
    | stuck => rw [e1] at q; exact q.elim
    | exc x s' => rw [e1] at q; exact q.elim
    | ok xs s1 =>
      rw [e1] at q
      simp only at q
      refine ⟨κ, w, s, ok, ?_⟩
      rw [e1]
      intro w1 a vs H1 l1 ok1 g1 r1
      cases e2 : f2 s1 with
      | stuck => rw [e2] at q; exact q.elim
      | exc x s' => rw [e2] at q; exact q.elim
      | ok ys s2 =>
        rw [e2] at q
        simp only at q
        refine ⟨_, w1, s1, ok1, ?_⟩
        rw [e2]
        intro w2 b us H2 l2 ok2 g2 r2
        cases e3 : f3 s2 with
        | stuck => rw [e3] at q; exact q.elim
        | exc x s' => rw [e3] at q; exact q.elim
        | ok d s3 =>
          rw [e3] at q
          simp only at q
          refine ⟨_, w2, s2, ok2, ?_⟩
          rw [e3]
          intro w3 v H3 l3 ok3 r3
          refine ⟨_, _, _, rfl, ?_⟩
          have h1 := ok3.setOwn (y := .ol ys) g2 ⟨us, (ok3.gam (b, .lst us) List.mem_cons_self).1, r2.mono l3⟩ rfl (fun _ _ z => nomatch z) j
          have h2 := h1.setOwn (y := .ol xs) g1 ⟨vs, (h1.gam (a, .lst vs) List.mem_cons_self).1, (r1.mono l2).mono l3⟩ rfl (fun _ _ z => nomatch z) i
          have h3 := h2.setVal r3 l
          rw [List.set_comm _ _ hij] 
          rw [List.set_comm _ _ hij] at q
          exact q w3 _ H3 (l1.trans (l2.trans l3)) h3
/-! ### is True, is False -/
def dIsB : D → D → Option D := fun x y => match x, y with
  | .bl a, .bl b => some (.bl (decide (a = b)))
  | _, _ => none
def dNotB : D → D → Option D := fun x y => match x, y with
  | .bl a, .bl b => some (.bl (!decide (a = b)))
  | _, _ => none
theorem opd_isB : OpD G X (compareOp .Is) dIsB := ⟨_, op_isBl, fun κ w s σ H x y dx dy d Q ok rx ry e q => by
  cases rx with
  | bl a =>
    cases ry with
    | bl b =>
      cases e
      exact ⟨_, _, rfl, rfl, q w _ H (.refl _) ok (.bl _)⟩
    | _ => exact nomatch e
  | _ => exact nomatch e⟩
theorem opd_notB : OpD G X (compareOp .IsNot) dNotB := ⟨_, op_notBl, fun κ w s σ H x y dx dy d Q ok rx ry e q => by
  cases rx with
  | bl a =>
    cases ry with
    | bl b =>
      cases e
      exact ⟨_, _, rfl, rfl, q w _ H (.refl _) ok (.bl _)⟩
    | _ => exact nomatch e
  | _ => exact nomatch e⟩
/-! ### a, b = a list of two -/
def gTA (n : Nat) (g : List D → DS → Res DS Unit) : DG := fun d s => match d with
  | .tup ds => if ds.length = n then g ds s else .stuck
  | .lst ds => if ds.length = n then g ds s else .stuck
  | _ => .stuck
theorem pdg_any (hK : G.K = X.K) {es : List Expr} {is : List Nat} {k : Nat} {g : List D → DS → Res DS Unit} {n : Nat} {pos : Pos} (hc : X.calm = true) (h : PDGs G X es is g)
    (hn : (assignEach es X.env).length = n := by rfl) (hst : (assignEach es X.env).findIdx? (·.1) = none := by rfl) : PDG G X (.Tuple es k pos) is (gTA n g) :=
  ⟨fun pins s0 σ H v u Q I r0 ⟨κ, w, s, d, ok, r, q⟩ => by
    cases r with
    | @tup a vs ds e r =>
      by_cases c : ds.length = n
      · have q : PostT G is σ κ w (if ds.length = n then g ds s else .stuck) Q := q
        rw [if_pos c] at q
        exact (pg_tup hc h hn hst).run pins s0 σ H _ u Q I r0 ⟨a, vs, rfl, hK ▸ SqT.le e ok.fok.sub, by rw [r.length]; exact c, κ, w, s, ds, ok, r, q⟩
      · have q : PostT G is σ κ w (if ds.length = n then g ds s else .stuck) Q := q
        rw [if_neg c] at q
        exact q.elim
    | @lst a vs ds e r =>
      by_cases c : ds.length = n
      · have q : PostT G is σ κ w (if ds.length = n then g ds s else .stuck) Q := q
        rw [if_pos c] at q
        exact (pg_unl hc h hn hst).run pins s0 σ H _ u Q I r0 ⟨a, vs, rfl, .inl (.inl (ok.fok.sub _ _ e)), by rw [r.length]; exact c, κ, w, s, ds, ok, r, q⟩
      · have q : PostT G is σ κ w (if ds.length = n then g ds s else .stuck) Q := q
        rw [if_neg c] at q
        exact q.elim
    | _ => exact q.elim⟩
/-! ### text * number -/
theorem op_smul : OpR X (binaryOp .Mult) (fun x y H Q => ∃ (i : Str) (n : Int), x = .str i ∧ y = .int n ∧ i.length ≤ 100 ∧ -100000 ≤ n ∧ n ≤ 100000 ∧ Q (.str (Txt.mul i n)) H) := by
  intro pins s σ H x y v u Q I rx ry h
  obtain ⟨i, n, rfl, rfl, hz, h0, h1, q⟩ := h
  obtain ⟨t, rfl⟩ := rx
  obtain ⟨t', rfl⟩ := ry
  refine SB.mul ⟨?_, fun hn _ => ?_, fun hn _ => ?_⟩ fun t' k => ⟨.str (Txt.mul i n), H, I.tok _, ⟨_, rfl⟩, q⟩
  · rw [decide_eq_false (by omega), decide_eq_false (by omega)]; rfl
  · have : (i.length : Int) ≤ (2 ^ 63 - 1) / n := by
      rw [Int.le_ediv_iff_mul_le (by omega)]
      have := Int.mul_le_mul (show (i.length : Int) ≤ 100 by omega) h1 (by omega) (by omega)
      omega
    omega
  · unfold Builtin.Str.tooLong
    have := Nat.mul_le_mul hz (show n.toNat ≤ 100000 by omega)
    rw [decide_eq_false]
    rw [Nat.not_lt]
    exact Nat.le_trans this (by decide)
theorem foldl_repN (l : List Nat) : ∀ (k : Nat) (acc : List Nat), (List.replicate k l.toArray).foldl (· ++ ·) acc.toArray = (acc ++ (List.replicate k l).flatten).toArray
  | 0, acc => by simp
  | k + 1, acc => by
    rw [List.replicate_succ, List.foldl_cons, List.append_toArray, foldl_repN l k (acc ++ l), List.replicate_succ, List.flatten_cons, List.append_assoc]
theorem mul_nm (l : Nm) (n : Int) : Txt.mul (nm l) n = nm (List.replicate n.toNat l).flatten := by
  unfold Txt.mul
  by_cases c : n < 1
  · rw [if_pos c, show n.toNat = 0 by omega]
    rfl
  · rw [if_neg c]
    by_cases c2 : (n == 1 || (nm l).length == 0) = true
    · rw [if_pos c2]
      rw [Bool.or_eq_true] at c2
      rcases c2 with c2 | c2
      · have : n = 1 := by simpa using c2
        subst this
        simp
      · have hl : l = [] := by
          have := (beq_iff_eq.mp c2)
          rw [nm_len] at this
          exact List.eq_nil_of_length_eq_zero this
        subst hl
        simp
    · rw [if_neg c2]
      have := foldl_repN l n.toNat []
      rw [List.nil_append] at this
      unfold nm
      rw [← this]
def sMul : D → D → Option D := fun x y => match x, y with
  | .str l, .int n => if l.length ≤ 100 ∧ -100000 ≤ n ∧ n ≤ 100000 then some (.str (List.replicate n.toNat l).flatten) else none
  | _, _ => none
theorem opd_smul : OpD G X (binaryOp .Mult) sMul := ⟨_, op_smul, fun κ w s σ H x y dx dy d Q ok rx ry e q => by
  cases rx with
  | str l =>
    cases ry with
    | int n =>
      have e : (if l.length ≤ 100 ∧ -100000 ≤ n ∧ n ≤ 100000 then some (D.str (List.replicate n.toNat l).flatten) else none) = some d := e
      split at e
      · rename_i c
        cases e
        refine ⟨nm l, n, rfl, rfl, by rw [nm_len]; exact c.1, c.2.1, c.2.2, ?_⟩
        rw [mul_nm]
        exact q w _ H (.refl _) ok (.str _)
      · cases e
    | _ => exact nomatch e
  | _ => exact nomatch e⟩
/-! ### tuple + tuple, empty ones too -/
def tAdd : D → D → Option D := fun x y => match x, y with
  | .tup a, .tup b => if a.length + b.length ≤ 1000000 then some (.tup (a ++ b)) else none
  | _, _ => none
theorem opd_tadd (hK : G.K = X.K) : OpD G X (binaryOp .Add) tAdd := ⟨_, op_catA, fun κ w s σ H x y dx dy d Q ok rx ry e q => by
  cases rx with
  | @tup a vs ds e1 r1 =>
    cases ry with
    | @tup a2 vs2 ds2 e2 r2 =>
      have e : (if ds.length + ds2.length ≤ 1000000 then some (D.tup (ds ++ ds2)) else none) = some d := e
      split at e
      · rename_i c
        cases e
        refine ⟨a, a2, vs, vs2, rfl, rfl, hK ▸ SqT.le e1 ok.fok.sub, hK ▸ SqT.le e2 ok.fok.sub, by rw [r1.length, r2.length, sizeLine_eq]; omega, fun z => ?_, fun _ z => ?_, fun _ _ p hp => ?_⟩
        · subst z
          cases r1
          exact q w _ H (.refl _) ok (.tup e2 r2)
        · subst z
          cases r2
          rw [List.append_nil] at q
          exact q w _ H (.refl _) ok (.tup e1 r1)
        · obtain ⟨le2, ok2⟩ := ok.alloc hp (.tup (vs ++ vs2))
          exact q _ _ _ le2 ok2 (.tup (.inl (.inl upd_same)) ((r1.append r2).mono le2))
      · cases e
    | _ => exact nomatch e
  | _ => exact nomatch e⟩
/-! ### max(xs), min(xs) of a list of ints -/
def mxL : List Int → Int
  | [] => 0
  | [x] => x
  | x :: y :: r => if mxL (y :: r) > x then mxL (y :: r) else x
def mnL : List Int → Int
  | [] => 0
  | [x] => x
  | x :: y :: r => if mnL (y :: r) < x then mnL (y :: r) else x
theorem mxL_mem : ∀ {l : List Int}, l ≠ [] → mxL l ∈ l ∧ ∀ y ∈ l, y ≤ mxL l
  | [], h => absurd rfl h
  | [x], _ => ⟨by simp [mxL], fun y hy => by simp at hy; subst hy; simp [mxL]⟩
  | x :: y :: r, _ => by
    obtain ⟨h1, h2⟩ := mxL_mem (l := y :: r) (by simp)
    unfold mxL
    split
    · refine ⟨List.mem_cons_of_mem _ h1, fun z hz => ?_⟩
      rcases List.mem_cons.mp hz with rfl | hz
      · omega
      · exact h2 z hz
    · refine ⟨List.mem_cons_self .., fun z hz => ?_⟩
      rcases List.mem_cons.mp hz with rfl | hz
      · omega
      · have := h2 z hz; omega
theorem mnL_mem : ∀ {l : List Int}, l ≠ [] → mnL l ∈ l ∧ ∀ y ∈ l, mnL l ≤ y
  | [], h => absurd rfl h
  | [x], _ => ⟨by simp [mnL], fun y hy => by simp at hy; subst hy; simp [mnL]⟩
  | x :: y :: r, _ => by
    obtain ⟨h1, h2⟩ := mnL_mem (l := y :: r) (by simp)
    unfold mnL
    split
    · refine ⟨List.mem_cons_of_mem _ h1, fun z hz => ?_⟩
      rcases List.mem_cons.mp hz with rfl | hz
      · omega
      · exact h2 z hz
    · refine ⟨List.mem_cons_self .., fun z hz => ?_⟩
      rcases List.mem_cons.mp hz with rfl | hz
      · omega
      · have := h2 z hz; omega
def bMaxL : List D → Option D
  | [.lst xs] => match intsOf xs with
    | some (n :: ns) => some (.int (mxL (n :: ns)))
    | _ => none
  | _ => none
def bMinL : List D → Option D
  | [.lst xs] => match intsOf xs with
    | some (n :: ns) => some (.int (mnL (n :: ns)))
    | _ => none
  | _ => none
theorem cd_maxL (hc : X.calm = true) : CallD G X (.builtin "max") bMaxL := ⟨_, cr_max hc, fun κ w s σ H vs ds d Q ok rs e q => by
  match ds, e with
  | [.lst xs], e =>
    have e : (match intsOf xs with | some (n :: ns) => some (D.int (mxL (n :: ns))) | _ => none) = some d := e
    cases e1 : intsOf xs with
    | none => rw [e1] at e; cases e
    | some l =>
      rw [e1] at e
      cases l with
      | nil => cases e
      | cons n ns =>
        cases e
        obtain ⟨v, rfl, r⟩ := rs.one
        cases r with
        | @lst a vs ds e r =>
          rw [intsOf_eq e1] at r
          rw [r.ints] at e
          refine ⟨a, n :: ns, rfl, .inl (.inl (ok.fok.sub _ _ e)), by simp, fun m h1 h2 => ?_⟩
          obtain ⟨h3, h4⟩ := mxL_mem (l := n :: ns) (by simp)
          have : m = mxL (n :: ns) := Int.le_antisymm (h4 m h1) (h2 _ h3)
          subst this
          exact q w _ H (.refl _) ok (.int _)⟩
theorem cd_minL (hc : X.calm = true) : CallD G X (.builtin "min") bMinL := ⟨_, cr_min hc, fun κ w s σ H vs ds d Q ok rs e q => by
  match ds, e with
  | [.lst xs], e =>
    have e : (match intsOf xs with | some (n :: ns) => some (D.int (mnL (n :: ns))) | _ => none) = some d := e
    cases e1 : intsOf xs with
    | none => rw [e1] at e; cases e
    | some l =>
      rw [e1] at e
      cases l with
      | nil => cases e
      | cons n ns =>
        cases e
        obtain ⟨v, rfl, r⟩ := rs.one
        cases r with
        | @lst a vs ds e r =>
          rw [intsOf_eq e1] at r
          rw [r.ints] at e
          refine ⟨a, n :: ns, rfl, .inl (.inl (ok.fok.sub _ _ e)), by simp, fun m h1 h2 => ?_⟩
          obtain ⟨h3, h4⟩ := mnL_mem (l := n :: ns) (by simp)
          have : m = mnL (n :: ns) := Int.le_antisymm (h2 _ h3) (h4 m h1)
          subst this
          exact q w _ H (.refl _) ok (.int _)⟩
/-! ### range(i, j, c) -/
def rngC (lo c : Int) (n : Nat) : List D := (List.range n).map fun (i : Nat) => D.int (lo + (i : Int) * c)
theorem itOk_rngC {w : Wd} (lo c : Int) (n : Nat) : ItOk G w (Itc lo c n) (rngC lo c n) := by
  intro w1 S H le fok i
  refine ⟨fun d hd => ?_, fun hn => ?_⟩
  · unfold rngC at hd
    rw [List.getElem?_map] at hd
    by_cases c : i < n
    · rw [List.getElem?_range c] at hd
      cases hd
      refine ⟨c, fun x H' ⟨hH, hx⟩ => ⟨w1, ?_, ?_, ?_⟩⟩
      · rw [hH]; exact .refl _ _
      · rw [hH]; exact fok
      · rw [hx]; exact .int _
    · rw [List.getElem?_eq_none (by rw [List.length_range]; omega)] at hd
      cases hd
  · have := List.getElem?_eq_none_iff.mp hn
    unfold rngC at this
    rw [List.length_map, List.length_range] at this
    exact this
def itR3 (f : DA) : DA := fun s => (f s).bind fun ds s1 => match ds with
  | [.int i, .int j, .int c] => if c ≠ 0 ∧ c.natAbs < 1073741824 ∧ Builtin.Range.small i j c = true ∧ 0 ≤ Builtin.Range.rangeSize i j c then .ok (rngC i c (Builtin.Range.rangeSize i j c).toNat) s1 else .stuck
  | _ => .stuck
theorem pdi_range3 {tg a b c : Expr} {f : DA} {p pos : Pos} (hg : Gl X "range") (hm : X.mg "range" = none) (ha : PDA G W X [a, b, c] f) (hs : starEach [a, b, c] X.env = (false, eval a X.env) :: starEach [b, c] X.env := by rfl) (hpl : (backTo pos (starEach [b, c] X.env)).any (·.1) = false := by rfl) :
    PDI G W X tg (.Call (.Name "range" p) [a, b, c] [] pos) (itR3 f) :=
  (pi_range3 hg hm ha hs hpl).imp fun σ H R ⟨κ, w, s, ok, q⟩ => ⟨κ, w, s, ok, (PostG.bindI q).imp fun v H1 ⟨d, s1, w1, le, ok1, r1, q1⟩ => by
    match d, q1, r1 with
    | [.int i, .int j, .int c], q1, .cons (.int _) (.cons (.int _) (.cons (.int _) .nil)) =>
      have q1 : PostI G W κ w1 σ (if c ≠ 0 ∧ c.natAbs < 1073741824 ∧ Builtin.Range.small i j c = true ∧ 0 ≤ Builtin.Range.rangeSize i j c then .ok (rngC i c (Builtin.Range.rangeSize i j c).toNat) s1 else .stuck) R := q1
      by_cases cc : c ≠ 0 ∧ c.natAbs < 1073741824 ∧ Builtin.Range.small i j c = true ∧ 0 ≤ Builtin.Range.rangeSize i j c
      · rw [if_pos cc] at q1
        exact ⟨i, j, c, _, rfl, ⟨cc.1, cc.2.1, cc.2.2.1, (Int.toNat_of_nonneg cc.2.2.2).symm⟩, q1 w1 _ H1 (.refl _) ok1 (itOk_rngC i c _)⟩
      · rw [if_neg cc] at q1
        exact q1.elim⟩
end
end DL
set_option maxRecDepth 100000
set_option maxHeartbeats 4000000
set_option autoImplicit false
namespace DL
open PySem PySem.Spec PyProof.Rows L2
/-! ### raise C(), the class with no __init__ of its own -/
abbrev veM : List Value := [.type "ValueError", .type "Exception", .type "BaseException", .type "object"]
def x0B (K : PySem.W.Frag) (C : Addr) : Bool := PySem.W.excIn K C veM "ValueError.__new__" && (PySem.W.keepIn K (.ref C) && ((PySem.W.subIn K (.ref C) (.type "BaseException") == some true) && (PySem.W.typeIn K (.ref C) == some (.type "type"))))
def sRaise0 (c : String) : DStm := fun s => .exc ⟨c, []⟩ s
@[simp] theorem r_sRaise0 (c : String) (s : DS) : sRaise0 c s = .exc ⟨c, []⟩ s := rfl
section
variable {G : Gam} {W : WX} {X : Cx}
theorem pmk_own0 {C : Addr} {x : Str} {p pos : Pos} (hB : x0B X.K C = true) (gC : X.mg x = some (.ref C)) (hg : Gl X x) (hdb : (x == ("__debug__" : Str)) = false := by decide) :
    PMk X (.Call (.Name x p) [] [] pos) (fun σ H Q => Q (.ref C) none H) := by
  unfold x0B at hB
  simp only [Bool.and_eq_true, beq_iff_eq] at hB
  obtain ⟨q, kC, b1, b2⟩ := hB
  intro pins s σ H Q I h
  refine wpAny_Call_Name_kw (ld_glob I hg gC ?_ hdb)
  refine PySem.W.callWith_K0 I.kIn kC ?_
  obtain ⟨bm, N, nm, qn, bs, hdct, sn, sub, ab, col, dd, k0, k1, k2, k3, k5, mN, hC, hN, hni, T⟩ := exc_obj I.kIn q
  refine wpAny_call_exc_subT PySem.F.excBase_ValueError T hC hN hni (fun h' e hm => ?_) (by show 0 ≤ sizeLine; rw [sizeLine_eq]; omega)
  exact mk_of I hm (raises_own b1 b2) h (I.hok.gone hm.new)
theorem pds_raise0 {c : String} {C : Addr} {x : Str} {p pos pos' : Pos} (hc : X.calm = true) (tk : Takes X W) (hct : G.ct c = some C) (hB : x0B X.K C = true) (hg : Gl X x) (hm : X.mg x = some (.ref C)) (hdb : (x == ("__debug__" : Str)) = false := by decide) :
    PDS G W X (.Raise (some (.Call (.Name x p) [] [] pos)) none pos') (sRaise0 c) :=
  (ps_raise hc tk (pmk_own0 hB hm hg hdb)).imp fun N σ H ⟨κ, w, s, ok, q⟩ => q w σ (.ref C) none H (.refl _) ok ⟨C, hct, rfl, .inl ⟨rfl, rfl⟩⟩
end
end DL
set_option maxRecDepth 100000
set_option maxHeartbeats 4000000
set_option autoImplicit false
namespace DL
open PySem PySem.Spec PyProof.Rows L2
/-! ### a comprehension whose element calls a def with a lambda of the maker: the maker's own state goes along -/
section
variable {X : Cx}
theorem lcK {elt tg iter : Expr} {ifs : List Expr} {scope : Scope} {own : List (Str × Nat)} {pos : Pos} {wi : TI} {g : TG} {tt : TT} {te : TE} (hc : X.calm = true) (hN : X.N.Nodup) (hi : PI X tg iter wi) (ok : BlkOk X.N X.env.scope scope own)
    (hg : ∀ (s : Shared) (H : Hp) (C : Addr) (cl : List (Str × Addr)) (fp : List Addr), PG (X.blk s H scope (compEnvC scope cl C X.env) fp) tg g) (ht : ∀ (s : Shared) (H : Hp) (C : Addr) (cl : List (Str × Addr)) (fp : List Addr), PTs (X.blk s H scope (compEnvC scope cl C X.env) fp) ifs tt)
    (he : ∀ (pins : List (Addr × Obj)) (σ : L2.St) (s : Shared) (H : Hp) (C : Addr) (cl : List (Str × Addr)) (fp : List Addr), Inv X pins σ H s → (∀ b ∈ fp, FpOk X pins H b) → PE (X.blk s H scope (compEnvC scope cl C X.env) fp) elt (fun σ' H' Q => L2.wipe σ' (own.map (·.2)) = L2.wipe σ (own.map (·.2)) ∧ te σ' H' Q)) (hs : ∀ x, foldedSetIterable iter X.env x = pure x := by intro _; rfl) :
    PE X (.ListComp elt [⟨tg, iter, ifs, 0⟩] scope pos) (tLc wi g tt te (own.map (·.2))) := by
  refine ⟨fun pins s σ H Q I h => ?_⟩
  rw [eval_ListComp]
  have fr : ∀ y ∈ scope.names, y.2 = .free → ∃ c, X.env.cells.lookup y.1 = some c := fun y hy e => (ok.free y hy e).elim (fun k => I.ok.has _ (.inl k)) fun k => I.ok.has _ (.inr k)
  refine wpAny_comprehension_free (use := none) rfl hs (closure_ok fr) ok.kind (fun y hy e => by rw [ok.uniq y hy, e])
    (thn (hi.run pins s σ H _ I h) fun xv s1 hx => thn hx fun itv s2 h2 => ?_)
  obtain ⟨it, fp, tn, J, H2, rfl, I2, T, st2, f2, q⟩ := h2
  refine wpAny_newObj_type (newEnv_comp ?_) (by show 0 ≤ sizeLine; decide)
  generalize hD : s2.heap.objs.size = D
  have nD : H2 D = none := I2.hok.fresh (Nat.le_of_eq hD)
  obtain ⟨Wv, ⟨m0, w0⟩, turn⟩ := q D nD
  generalize e3 : ({ s2 with heap := s2.heap.push { cls := .type "list", data := .seq ([] : List Value).toArray } } : Shared) = s3
  have hh : s3.heap = s2.heap.push { cls := .type "list", data := .seq ([] : List Value).toArray } := by rw [← e3]
  have I3 : Inv X pins σ (upd H2 D (.lst [])) s3 := by
    rw [← e3]
    refine I2.laid (t' := s2.toks) (fun b o e => Heap.get?_push_of_some _ e) (Nat.le_of_eq hD) ⟨Nat.zero_le _, [], 0, .nil, ?_⟩
    rw [← hD]
    exact Heap.get?_push_size _ rfl
  have lt2 : ∀ b ∈ fp, b < s2.heap.objs.size := fun b hb => let ⟨_, e, _⟩ := T.obj _ _ st2 b hb; Heap.lt_size e
  have f3 : ∀ b ∈ fp, FpOk X pins (upd H2 D (.lst [])) b ∧ b < s3.heap.objs.size := fun b hb =>
    ⟨⟨by rw [upd_ne (by rw [← hD]; exact Nat.ne_of_lt (lt2 b hb))]; exact (f2 b hb).1, (f2 b hb).2⟩, by rw [hh, Heap.size_push]; exact Nat.lt_succ_of_lt (lt2 b hb)⟩
  have st3 : tn 0 s3.heap := T.keep _ _ _ st2 fun b _ o e => by rw [hh]; exact Heap.get?_push_of_some _ e
  have I4 := block_start I3 ok hN f3
  show codeAny _ _ (.compStart (.ListComp elt [⟨tg, iter, ifs, 0⟩] scope pos) 0 (.ref it) (.ref D) (compEnvC scope (cellsFrom (s3.heap.objs.size + 1) scope.names (cloFrom X.env.cells scope.names [])) s3.heap.objs.size X.env)) (compPost (model X.prog X.w) X.A X.xe none (EP X pins σ Q) (.ref D) s3.heap.objs.size) { s3 with heap := pushCells (s3.heap.push { cls := .type "dict", data := .dict #[] }) scope.names }
  have pg := hg s3 (upd H2 D (.lst [])) s3.heap.objs.size (cellsFrom (s3.heap.objs.size + 1) scope.names (cloFrom X.env.cells scope.names [])) fp
  have pt := ht s3 (upd H2 D (.lst [])) s3.heap.objs.size (cellsFrom (s3.heap.objs.size + 1) scope.names (cloFrom X.env.cells scope.names [])) fp
  have pe := he pins σ s3 (upd H2 D (.lst [])) s3.heap.objs.size (cellsFrom (s3.heap.objs.size + 1) scope.names (cloFrom X.env.cells scope.names [])) fp I3 fun b hb => (f3 b hb).1
  have nfp : ∀ b ∈ fp, (upd H2 D (.lst [])) b = none := fun b hb => (f3 b hb).1.1
  generalize hce : compEnvC scope (cellsFrom (s3.heap.objs.size + 1) scope.names (cloFrom X.env.cells scope.names [])) s3.heap.objs.size X.env = ce at I4 pg pt pe ⊢
  have cL : ce.locals = s3.heap.objs.size := by subst hce; rfl
  generalize upd H2 D (.lst []) = H3 at I3 I4 pg pt pe w0 nfp f3
  generalize hs4 : ({ s3 with heap := pushCells (s3.heap.push { cls := .type "dict", data := .dict #[] }) scope.names } : Shared) = s4 at I4 ⊢
  have st4 : tn 0 s4.heap := T.keep _ _ _ st3 fun b _ o e => by rw [← hs4]; exact pushCells_keeps _ _ _ _ (Heap.get?_push_of_some _ e)
  have stat : ∀ {σ' : L2.St} {H' : Hp} {s' : Shared}, Inv (X.blk s3 H3 scope ce fp) [] σ' H' s' → (∀ b ∈ fp, H' b = none) → ∀ b ∈ fp, FpOk (X.blk s3 H3 scope ce fp) [] H' b := fun {σ' H' s'} I' hn b hb =>
    ⟨hn b hb, (I'.ok.exf b hb).1, I'.ok.exfs b hb, .inl hb, (I'.ok.exf b hb).2, fun p hp => absurd (show p ∈ ([] : List (Addr × Obj)) ++ [] from hp) (by simp)⟩
  have loop : codeAny (model X.prog X.w) X.A (.compLoop (.ListComp elt [⟨tg, iter, ifs, 0⟩] scope pos) 0 (.ref it) (.ref D) ce) (compPost (model X.prog X.w) X.A X.xe none (EP X pins σ Q) (.ref D) s3.heap.objs.size) s4 := by
    refine compLoop_any (fun n s' => ∃ i H', Inv (X.blk s3 H3 scope ce fp) [] (L2.wipe σ (own.map (·.2))) H' s' ∧ tn i s'.heap ∧ (∀ b ∈ fp, H' b = none) ∧ Wv i n H') ?_ m0 ⟨0, H3, I4, st4, nfp, w0⟩
    rintro n s5 ⟨i, H5, I5, st5, n5, w5⟩
    rcases turn i n H5 w5 with ⟨stop, qq⟩ | ⟨go, Nx, hNx, step⟩
    · refine thnF (T.done (X.blk s3 H3 scope ce fp) rfl rfl rfl hc i [] s5 _ H5 (fun _ _ => False) I5 (stat I5 n5) st5 stop) fun r s6 ⟨hr, I6⟩ => ?_
      subst hr
      have I7 : Inv X pins σ H5 s6 := I3.call' (ch := fp) I6.os I6.base I6.hok I6.bare fun b hb => ⟨(f3 b hb).1.2.2.2.1, (f3 b hb).1.2.1, (f3 b hb).1.2.2.2.2.1, (f3 b hb).1.2.2.2.2.2⟩
      have nC : H5 s3.heap.objs.size = none := by
        have z : H5 ce.locals = none := I6.free
        rw [cL] at z
        exact z
      obtain ⟨m, hn, _⟩ := I6.loc
      have hn : s6.heap.Ns ce.locals m := hn
      rw [cL] at hn
      obtain ⟨f0, f1, f2, f3, f4, f5⟩ := I3.fpOk (Nat.le_refl _) nC
      exact ⟨m, hn, fun h'' sb => ⟨.ref D, H5, I7.turned (t' := s6.toks) (fun b o hb e => (sb.2 b hb).trans e) f0 f1 f3 f4 f5, rfl, qq⟩⟩
    · refine thnF (T.item (X.blk s3 H3 scope ce fp) rfl rfl rfl hc i [] s5 _ H5 (fun _ _ => False) I5 (stat I5 n5) st5 go) fun r s6 ⟨u, hr, h6⟩ => ?_
      subst hr
      refine thnF h6 fun _ s7 ⟨x, H7, I7, r7, y7, st7, n7⟩ => ?_
      refine thnF (pg.run _ s7 _ H7 x u _ (I7.pinned (stat I7 n7) (T.obj _ _ st7)) r7 (step x H7 y7)) fun _ s8 ⟨σ8, H8, I8, hw8, q8⟩ => ?_
      refine thnF (pt.run _ s8 σ8 H8 _ I8 q8) fun b s9 ⟨H9, I9, q9⟩ => ?_
      have fin : ∀ {s' : Shared} {H' : Hp}, Inv (X.blk s3 H3 scope ce fp) ([] ++ pinsAt fp s7.heap) σ8 H' s' → Nx H' → ∃ m, m < n ∧ ∃ i H', Inv (X.blk s3 H3 scope ce fp) [] (L2.wipe σ (own.map (·.2))) H' s' ∧ tn i s'.heap ∧ (∀ b ∈ fp, H' b = none) ∧ Wv i m H' := fun {s' H'} I' nx => by
        obtain ⟨m', hm, w'⟩ := hNx H' nx
        have pin' : ∀ b ∈ fp, ∀ o, s7.heap.get? b = some o → s'.heap.get? b = some o ∧ H' b = none := fun b hb o e =>
          let z := I'.pin (b, o) (List.mem_append_right _ (List.mem_append_right _ (mem_pinsAt hb e)))
          ⟨z.1, z.2.1⟩
        refine ⟨m', hm, i + 1, H', (I'.unpinned (pins := [])).weak (by rw [← hw8, L2.wipe_length]) (fun j v e => by rw [← hw8] at e; exact (wipe_some e).1), T.keep _ _ _ st7 fun b hb o e => (pin' b hb o e).1, fun b hb => ?_, w'⟩
        obtain ⟨o, e, _⟩ := T.obj _ _ st7 b hb
        exact (pin' b hb o e).2
      cases b with
      | false =>
        simp only [Bool.false_eq_true, if_false] at q9 ⊢
        exact fin I9 q9
      | true =>
        simp only [if_true] at q9 ⊢
        refine thnF (pe.run _ s9 σ8 H9 _ I9 ⟨hw8, q9⟩) fun z s10 ⟨yv, H10, I10, r10, acc, hD10, hz10, nx⟩ => ?_
        exact app_ok (X := X.blk s3 H3 scope ce fp) I10 hD10 hz10 r10 fun s11 I11 => fin I11 nx
  exact codeAny_compStart_list loop (T.self X.A 0 _ _ _ st4 loop)
end

def eCallLB (n : Nat) (g : LamR → DFn) (bs : String → Option DE) (vs : List Nat) (fa : DA) : DE := fun s => (fa s).bind fun ds s1 => if ds.length = n then lift s1 (g (lamR bs (wipeD vs s1.sl)) ds s1.st) else .stuck
@[simp] theorem r_eCallLB (n : Nat) (g : LamR → DFn) (bs : String → Option DE) (vs : List Nat) (fa : DA) (s : DS) : eCallLB n g bs vs fa s = (fa s).bind fun ds s1 => if ds.length = n then lift s1 (g (lamR bs (wipeD vs s1.sl)) ds s1.st) else .stuck := rfl
section
variable {G : Gam} {W : WX} {X : Cx}
theorem pd_callLB {T : LamT} {bs : String → Option DE} {k n m i : Nat} {f : Addr} {fd : FuncData} {N ps : List Str} {body : LamR → DStm} {x qual a : Str} {st : Stmt} {p pos : Pos} {e : Expr} {es : List Expr} {fa : DA} {vs : List Nat}
    {pinsX : List (Addr × Obj)} {σX : L2.St} {sX : Shared} {HX : Hp} {scope : Scope} {cenv : Env} {fp : List Addr} (IX : Inv X pinsX σX HX sX) (hfp : ∀ b ∈ fp, FpOk X pinsX HX b) (hK : G.K = X.K) (F : Fun X.K x qual st f fd) (S : FnScope N ps (defScope st)) (hn : ps.length = n) (hm : N.length - n = m)
    (GL : ∀ n f w', G.lam n f w' → T.lam n f w') (hq : T.q = X.env.qual ++ "<lambda>") (hcl : T.cells = X.env.cells) (hbs : LamsOk G X T k bs)
    (hbody : ∀ w, BodyL (G.at w) X.prog X.w X.mg X.base (k + 1) N qual st f a i body) (hN : N[i]? = some a) (hv : Vis (defScope st) a)
    (hr : Room (k + 2) X.A) (hg : Gl (X.blk sX HX scope cenv fp) x) (hmg : X.mg x = some (.ref f)) (hb : Binds X.K fd ps []) (tk : Takes (X.blk sX HX scope cenv fp) WF) (ha : PDA G WF (X.blk sX HX scope cenv fp) (e :: es) fa) (hdb : (x == ("__debug__" : Str)) = false := by decide) (hda : (a == ("__debug__" : Str)) = false := by decide) (hcd : (a == ("__classdict__" : Str)) = false := by decide)
    (he : starEach (e :: es) cenv = (false, eval e cenv) :: starEach es cenv := by rfl) (hpl : (backTo pos (starEach es cenv)).any (·.1) = false := by rfl) :
    PE (X.blk sX HX scope cenv fp) (.Call (.Name x p) (e :: es) [] pos) (fun σ' H' Q => L2.wipe σ' vs = L2.wipe σX vs ∧ tD G WF (eCallLB n (fun Λ => fnD n (body Λ) m) bs vs fa) σ' H' Q) := by
  refine ⟨fun pins s σ H Q I ⟨hw, h⟩ => ?_⟩
  obtain ⟨κ, w, ds, ok, q⟩ := h
  refine wpAny_Call_Name_kw (ld_glob I hg hmg ?_ hdb)
  have hh : tDA G WF fa σ H fun vs' H1 => ∃ d s1 w1, w.le w1 ∧ Ok G κ w1 s1 σ H1 ∧ Reps G w1 vs' d ∧ PostG G WF (Rep G) κ w1 σ (if d.length = n then lift s1 (fnD n (body (lamR bs (wipeD vs s1.sl))) m d s1.st) else .stuck) Q := ⟨κ, w, ds, ok, PostG.bind q⟩
  refine PySem.W.callWith_K (h₀ := X.base) I.ok.mod.kin F.kp (thn (ha.run pos pins s σ H _ I hh) fun us s1 ⟨vs', H1, I1, r, d, s2, w1, le, ok1, rs, q1⟩ => ⟨I1.kIn, ?_⟩) he hpl
  by_cases c : d.length = n
  case neg => rw [if_neg c] at q1; exact q1.elim
  rw [if_pos c] at q1
  have q2 := postF_of ok1 q1
  have J : Inv X pinsX (L2.wipe σX vs) H1 s1 := (IX.call' (ch := fp) I1.os I1.base I1.hok I1.bare fun b hb => ⟨(hfp b hb).2.2.2.1, (hfp b hb).2.1, (hfp b hb).2.2.2.2.1, (hfp b hb).2.2.2.2.2⟩).weak (L2.wipe_length _ _) fun j v e => (wipe_some e).1
  have okW : Ok G κ w1 (wipeS vs s2) (L2.wipe σX vs) H1 := by rw [← hw]; exact ok1.wipe vs
  obtain ⟨oc, od, kV, doc, pm, an, cdv, ct, osl, rfl, lk, hcode⟩ := F.ex
  have hl : vs'.length = n := by rw [rs.length]; exact c
  have hul : us.length = ps.length := by rw [← r.length, hl, hn]
  have rc : codeAny (model X.prog X.w) X.A (.call (.ref f) ⟨us, []⟩) (CR (L2.CX X.prog X.w) X.stack X.prog X.w H1 s1 Q (WE WF σ)) s1 := by
    have hbd := hb s1 us I1.kIn (by simpa using hul)
    rw [List.append_nil] at hbd
    refine LamX.run_ofS (N := N) (ps := ps) (us := us) (vs := vs') lk hcode S hr I1.env0 hbd r (by rw [hl, hn]) fun hr' => ?_
    have hb0 := hbody w1 (lamR bs (wipeD vs s2.sl)) cdv X.A X.stack s1 H1 (WE WF σ) hr' (takes_of rfl rfl rfl rfl) (passes_of rfl) 
    have hK' : (G.at w1).K = X.K := hK
    rw [hK'] at hb0
    refine ⟨_, hb0 fun pn xe W' p1 p2 tk' => pd_act J okW GL hq hcl hbs tk' hr' hN hv hda hcd, ?_⟩
    rw [start_eq (m := m) (by rw [hl]; exact hm)]
    have fok' : FOk (G.at w1) w1 s2.st H1 := ok1.fok.sw (.inr fun _ _ z => ⟨z, .refl _⟩)
    have rs' : Reps (G.at w1) w1 vs' d := rs.sw (.inr fun _ _ z => ⟨z, .refl _⟩)
    refine ⟨⟨w1, H1, [], none⟩, w1, _, Ok.start fok' rs' m, ?_⟩
    unfold fnD at q2
    rw [if_pos c] at q2
    cases e : body (lamR bs (wipeD vs s2.sl)) ⟨d.map Sl.val ++ List.replicate m .un, s2.st⟩ with
    | stuck => rw [e] at q2; exact q2.elim
    | exc x s' =>
      rw [e] at q2
      exact fun w' σ' c dd H' le ok' rx => q2 w' c dd H' ok'.nx (ok'.fok.bk (.inr fun _ _ z => z.1)) (rx.bk (.inr fun _ _ z => z.1))
    | ok o s' =>
      rw [e] at q2
      cases o with
      | nx => exact fun w' σ' H' le ok' => q2 w' .non H' ok'.nx (ok'.fok.bk (.inr fun _ _ z => z.1)) .non
      | rt d => exact fun w' σ' v H' le ok' r' => q2 w' v H' ok'.nx (ok'.fok.bk (.inr fun _ _ z => z.1)) (r'.bk (.inr fun _ _ z => z.1))
      | bk => exact q2.elim
      | ct => exact q2.elim
  refine wpAny_call (codeAny_mono rc fun r s' hq => ?_)
  cases r with
  | error e => exact passAt tk σ pins H1 s1 e s' I1 hq
  | ok fl =>
    cases fl with
    | ret u => exact I1.after hq
    | next => exact False.elim hq
    | brk => exact False.elim hq
    | cont => exact False.elim hq
theorem pdo_lcL {elt tg iter : Expr} {ifs : List Expr} {scope : Scope} {own : List (Str × Nat)} {is : List Nat} {pos : Pos} {it : DA} {g : DG} {t : DT} {e : DE} (hc : X.calm = true) (hN : X.N.Nodup) (hi : PDI G W X tg iter it) (ok : BlkOk X.N X.env.scope scope own) (hs' : ∀ i ∈ is, i ∈ own.map (·.2))
    (hg : ∀ (s : Shared) (H : Hp) (C : Addr) (cl : List (Str × Addr)) (fp : List Addr), PDG G (X.blk s H scope (compEnvC scope cl C X.env) fp) tg is g) (ht : ∀ (s : Shared) (H : Hp) (C : Addr) (cl : List (Str × Addr)) (fp : List Addr), PTs (X.blk s H scope (compEnvC scope cl C X.env) fp) ifs (tDT G WF t))
    (he : ∀ (pins : List (Addr × Obj)) (σ : L2.St) (s : Shared) (H : Hp) (C : Addr) (cl : List (Str × Addr)) (fp : List Addr), Inv X pins σ H s → (∀ b ∈ fp, FpOk X pins H b) → PE (X.blk s H scope (compEnvC scope cl C X.env) fp) elt (fun σ' H' Q => L2.wipe σ' (own.map (·.2)) = L2.wipe σ (own.map (·.2)) ∧ tD G WF e σ' H' Q)) (hs : ∀ x, foldedSetIterable iter X.env x = pure x := by intro _; rfl) :
    PDo G W X (.ListComp elt [⟨tg, iter, ifs, 0⟩] scope pos) (aLc (own.map (·.2)) it g t e) :=
  (lcK hc hN hi ok hg ht he hs).imp fun σ H Q h => pdo_lc.lc_fin hs' h
end
end DL
set_option maxRecDepth 100000
set_option maxHeartbeats 4000000
set_option autoImplicit false
namespace DL
open PySem PySem.Spec PyProof.Rows L2 PySem.W
/-! ### o(..): an instance is called -/
section
variable {M : Model} {A : Around} {E : Value → Shared → Prop} {s : Shared} {env : Env} {pos : Pos} {x : Addr} {first : List Value} {Q : Value → Shared → Prop}
theorem callWithI_of {args : List (Bool × Sem Value)} {keywords : List (Option Str × Sem Value)} (hplain : (args.any (·.1) || keywords.any (·.1.isNone)) = false)
    (h : wpAny M A (evalArgs (.ref x) true args keywords) (fun a s₁ => (∃ (C : Addr) (ox : Obj) (od : Option Obj), PySem.W.InstAt s₁.heap x ox C od ∧ ox.data = .plain) ∧ wpAny M A (call (.ref x) (first ++ a.pos) a.kw) Q E s₁) E s) : wpAny M A (callWith pos (.ref x) first args keywords) Q E s := by
  unfold callWith
  refine wpAny_bind (wpAny_holding (wpAny_mono h (fun a s₁ h₁ => wpAny_bind (wpAny_standAt ?_)) fun _ _ y => y))
  obtain ⟨⟨C, ox, od, I, hd⟩, h2⟩ := h₁
  have L := PySem.W.kco_keeper (M := M) I hd
  simp only [hplain]
  refine wpAny_bind (L.here ?_)
  have tail : ∀ {t : Sem Value}, wpAny M A t Q E s₁ → wpAny M A (t >>= fun r => holding [r] point >>= fun _ => pure r) Q E s₁ :=
    fun ht => wpAny_bind (wpAny_mono ht (fun r s₂ hr => wpAny_bind (wpAny_holding (wpAny_point (wpAny_pure hr)))) fun _ _ y => y)
  exact tail (wpAny_operateT h2)
theorem callWithI {e : Expr} {rest : List Expr} (h : wpAny M A (spliced (backTo pos (starEach (e :: rest) env))) (fun vs s₁ => (∃ (C : Addr) (ox : Obj) (od : Option Obj), PySem.W.InstAt s₁.heap x ox C od ∧ ox.data = .plain) ∧ wpAny M A (call (.ref x) (first ++ vs)) Q E s₁) E s)
    (he : starEach (e :: rest) env = (false, eval e env) :: starEach rest env) (hplain : (backTo pos (starEach rest env)).any (·.1) = false) :
    wpAny M A (callWith pos (.ref x) first (backTo pos (starEach (e :: rest) env)) []) Q E s := by
  rw [he] at h ⊢
  exact callWithI_of (by show ((false || (backTo pos (starEach rest env)).any (·.1)) || false) = false; rw [hplain]; rfl) (PySem.Calls.evalArgs_plain h)
end
theorem fnIn_of {K : PySem.W.Frag} {x qual : Str} {st : Stmt} {f : Addr} {fd : FuncData} (F : Fun K x qual st f fd) : PySem.W.fnIn K f = true := by
  obtain ⟨oc, od, kV, doc, pm, an, cdv, ct, osl, _, lk, _⟩ := F.ex
  unfold PySem.W.fnIn
  rw [lk]
section
variable {G : Gam} {W : WX} {X : Cx}
def eCallI (c : String) (n : Nat) (g : DFn) (fo : DE) (fa : DA) : DE := fun s => (fo s).bind fun d s1 => match d with
  | .ins c' fs => if c' = c then (fa s1).bind fun ds s2 => if ds.length + 1 = n then lift s2 (g (.ins c' fs :: ds) s2.st) else .stuck
    else .stuck
  | _ => .stuck
theorem pd_callI (hK : G.K = X.K) {c : String} {n : Nat} {g : DFn} {fo : DE} {fa : DA} {C f : Addr} {k : Nat} {fd : FuncData} {ps : List Str} {o e : Expr} {es : List Expr} {pos : Pos} (he : PD G W X o fo) (hC : G.ct c = some C) (hm : Meth X.K C "__call__" f) (hfn : PySem.W.fnIn X.K f = true)
    (F : FnOk X.prog X.w X.K X.mg X.base (L2.CX X.prog X.w) k f fd ps (spG G n g)) (hr : Room k X.A) (hb : Binds X.K fd ps []) (tk : Takes X W) (ha : PDA G W X (e :: es) fa)
    (hst : starEach (e :: es) X.env = (false, eval e X.env) :: starEach es X.env := by rfl) (hpl : (backTo pos (starEach es X.env)).any (·.1) = false := by rfl)
    (ht : eval (.Call o (e :: es) [] pos) X.env = (do callWith pos (← eval o X.env) [] (backTo pos (starEach (e :: es) X.env)) (backToKw pos (keywordEach [] X.env))) := by rfl) :
    PD G W X (.Call o (e :: es) [] pos) (eCallI c n g fo fa) := by
  refine ⟨fun pins sh σ H Q I h => ?_⟩
  obtain ⟨κ, w, s, ok, q⟩ := h
  rw [ht]
  have hh : tD G W fo σ H fun v H1 => ∃ d s1 w1, w.le w1 ∧ Ok G κ w1 s1 σ H1 ∧ Rep G w1 v d ∧ PostG G W (Rep G) κ w1 σ (match d with
    | .ins c' fs => if c' = c then (fa s1).bind fun ds s2 => if ds.length + 1 = n then lift s2 (g (.ins c' fs :: ds) s2.st) else .stuck else .stuck
    | _ => .stuck) Q := ⟨κ, w, s, ok, PostG.bind q⟩
  refine wpAny_bind (thn (he.run pins sh σ H _ I hh) fun u s1 ⟨x, H1, I1, rx, d, t1, w1, le, ok1, r1, q1⟩ => ?_)
  cases d with
  | ins c' fs =>
    replace q1 : PostG G W (Rep G) κ w1 σ (if c' = c then (fa t1).bind fun ds s2 => if ds.length + 1 = n then lift s2 (g (.ins c' fs :: ds) s2.st) else .stuck else .stuck) Q := q1
    by_cases hc : c' = c
    · rw [if_pos hc] at q1
      subst hc
      cases r1 with
      | @ins a C' dx _ vs _ hC' hF rf =>
      rw [hC] at hC'
      cases hC'
      obtain rfl : u = Value.ref a := rx
      have hh2 : tDA G W fa σ H1 fun vs H2 => ∃ ds s2 w2, w1.le w2 ∧ Ok G κ w2 s2 σ H2 ∧ Reps G w2 vs ds ∧ PostG G W (Rep G) κ w2 σ (if ds.length + 1 = n then lift s2 (g (.ins c' fs :: ds) s2.st) else .stuck) Q := ⟨κ, w1, t1, ok1, PostG.bind q1⟩
      refine callWithI (first := []) (thn (ha.run pos pins s1 σ H1 _ I1 hh2) fun us s2 ⟨vs2, H2, I2, r2, ds, t2, w2, le2, ok2, rs2, q2⟩ => ?_) hst hpl
      obtain ⟨mA, J, _⟩ := ins_get I2.hok (ok2.fok.sub _ _ (le2.f _ _ hF))
      obtain ⟨od, J, _⟩ := J.look
      refine ⟨⟨C, _, _, J, rfl⟩, ?_⟩
      by_cases c3 : ds.length + 1 = n
      · rw [if_pos c3] at q2
        have rr : Reps G w2 (.ref a :: vs2) (.ins c' fs :: ds) := .cons (.ins hC (le2.f _ _ hF) (rf.mono le2)) rs2
        have hsp : spG G n g (.ref a :: vs2) H2 Q (WE W σ) := ⟨by rw [rr.length]; exact c3, w2, t2.st, _, ok2.fok, rr, postF_of ok2 q2⟩
        have hl := F.len _ _ _ _ hsp
        have rv : Vals (V.ref a :: vs2) (Value.ref a :: us) := .cons rfl r2
        have hl2 : (Value.ref a :: us).length = ps.length := by rw [← rv.length]; exact hl
        refine wpAny_call (PySem.W.kco_code (a := ⟨us, []⟩) I2.kIn J rfl hm.at_ hm.fn hfn (codeAny_mono (F.run X.A X.stack s2 H2 ⟨.ref a :: us, []⟩ (.ref a :: us) (.ref a :: vs2) Q (WE W σ) hr I2.env0 (by
          have := hb s2 (.ref a :: us) I2.kIn (by simpa using hl2)
          simpa using this) rv hsp) fun r s' hq => ?_))
        cases r with
        | error e => exact passAt tk σ pins H2 s2 e s' I2 hq
        | ok fl =>
          cases fl with
          | ret u => exact I2.after hq
          | next => exact False.elim hq
          | brk => exact False.elim hq
          | cont => exact False.elim hq
      · rw [if_neg c3] at q2
        exact q2.elim
    · rw [if_neg hc] at q1
      exact q1.elim
  | _ => exact q1.elim
/-! ### {} -/
def dNil : DD := fun s => .ok [] s
theorem pdod_nil {pos : Pos} : PDod G W X (.Dict [] [] pos) dNil :=
  pe_dnewK.imp fun σ H Q ⟨κ, w, s, ok, q⟩ => fun p hp => q w p [] _ (.refl _) (ok.fresh hp (.dK [])) (ok.apart hp) .nil
@[simp] theorem r_dNil (s : DS) : dNil s = .ok [] s := rfl
@[simp] theorem r_eCallI (c : String) (n : Nat) (g : DFn) (fo : DE) (fa : DA) (s : DS) : eCallI c n g fo fa s = (fo s).bind fun d s1 => match d with
  | .ins c' fs => if c' = c then (fa s1).bind fun ds s2 => if ds.length + 1 = n then lift s2 (g (.ins c' fs :: ds) s2.st) else .stuck else .stuck
  | _ => .stuck := rfl
end
end DL
set_option maxRecDepth 100000
set_option maxHeartbeats 4000000
set_option autoImplicit false
namespace DL
open PySem PySem.Spec PyProof.Rows L2
/-! ### == and != of an own class with anything -/
section
variable {G : Gam} {W : WX} {X : Cx}
def ownA (cs : List String) (c : String) (g : DFn) : DO2 := fun x y s => match insOf x s with
  | some (c1, _) => if c1 = c then (match tyOfD cs y with | some _ => lift s (g [x, y] s.st) | none => .stuck) else .stuck
  | none => .stuck
def ownNeA (cs : List String) (c : String) (g : DFn) : DO2 := fun x y s => negD (ownA cs c g x y s)
theorem ownA_of (hK : G.K = X.K) {cs : List String} (IO : IsOk G cs) {c : String} (hcs : c ∈ cs) {g : DFn} {κ : Bs} {w : Wd} {s : DS} {σ : L2.St} {H : Hp} {x y : V} {dx dy : D} {Q : VK} (ok : Ok G κ w s σ H) (rx : Rep G w x dx) (ry : Rep G w y dy) (q : PostG G W (Rep G) κ w σ (ownA cs c g dx dy s) Q) :
    ∃ a C dxa fa tb, x = .ref a ∧ G.ct c = some C ∧ H a = some (.ins C dxa fa) ∧ TyX X.K H y tb ∧ PySem.W.notFirst X.K C tb = true ∧ PostG G W (Rep G) κ w σ (lift s (g [dx, dy] s.st)) Q := by
  unfold ownA at q
  cases e1 : insOf dx s with
  | none => rw [e1] at q; exact q.elim
  | some p =>
    obtain ⟨c1, f1⟩ := p
    rw [e1] at q
    replace q : PostG G W (Rep G) κ w σ (if c1 = c then (match tyOfD cs dy with | some _ => lift s (g [dx, dy] s.st) | none => .stuck) else .stuck) Q := q
    split at q
    · rename_i h
      subst h
      cases e2 : tyOfD cs dy with
      | none => rw [e2] at q; exact q.elim
      | some t =>
        rw [e2] at q
        obtain ⟨a, C, dxa, vs, ev, hC, hH, _⟩ := rx.ins_of ok e1
        obtain ⟨tb, ty, ht⟩ := tyX_of hK IO ok ry e2
        refine ⟨a, C, dxa, vs, tb, ev, hC, hH, ty, ?_, q⟩
        have sub : PySem.W.kitOne X.K tb (.ref C) = some false → PySem.W.notFirst X.K C tb = true := fun e => by
          unfold PySem.W.kitOne at e
          split at e
          · cases e
          · unfold PySem.W.kitCls at e
            dsimp only at e
            split at e
            · unfold PySem.W.notFirst
              rw [e]
              simp
            · cases e
        cases t with
        | inl b =>
          obtain ⟨rfl, hb⟩ := ht
          exact sub (hK ▸ (IO.bo c1 hcs C hC b hb).2)
        | inr c2 =>
          obtain ⟨hc2, C2, hC2, rfl⟩ := ht
          by_cases hcc : c2 = c1
          · subst hcc
            rw [hC] at hC2
            cases hC2
            simp [PySem.W.notFirst]
          · have := IO.oo c2 hc2 c1 hcs C2 C hC2 hC
            rw [beq_eq_false_iff_ne.mpr hcc] at this
            exact sub (hK ▸ this)
    · exact q.elim
theorem opx_ownA (hK : G.K = X.K) {cs : List String} (IO : IsOk G cs) {c : String} (hcs : c ∈ cs) {C f : Addr} {k : Nat} {fd : FuncData} {ps : List Str} {g : DFn} (hC : G.ct c = some C) (hs : PySem.W.findIn X.K (.ref C) "__eq__" = some (some (.ref f))) (hf : PySem.W.isFn X.K (.ref f) = true)
    (F : FnOk X.prog X.w X.K X.mg X.base (L2.CX X.prog X.w) k f fd ps (spG G 2 g)) (hr : Room k X.A) (hb : Binds X.K fd ps []) (tk : Takes X W) : OpX G W X (compareOp .Eq) (ownA cs c g) := by
  intro pins sh σ H x y v u κ w s dx dy Q I rx ry ok rdx rdy q
  obtain ⟨a, C', dxa, fa, tb, rfl, hC', hH, ty, nf, q⟩ := ownA_of hK IO hcs ok rdx rdy q
  rw [hC] at hC'
  cases hC'
  cases rx
  obtain ⟨mA, J, _⟩ := ins_get I.hok hH
  obtain ⟨od, J, _⟩ := J.look
  obtain ⟨m, hF⟩ := I.fr
  obtain ⟨P, kx, hP, _⟩ := kit_of I ry ty
  show wpAny (model X.prog X.w) X.A (richCompare .Eq (.ref a) u) _ _ _
  refine PySem.W.cmp_K (op := .Eq) (tb := tb) hr.units0 hF I.ok.mod.kin J (kx.ty _ _ I.kIn hP) nf hs hf ?_
  exact thn (callD (us := [.ref a, u]) (vs := [.ref a, y]) (ds := [dx, dy]) F hr hb tk I ok (.cons rdx (.cons rdy .nil)) (.cons rfl (.cons ry .nil)) rfl q) fun v s' h => ep_back h
theorem ne_callV {prog : Program} {w : World} {A : Around} {E : Value → Shared → Prop} {s : Shared} {K : PySem.W.Frag} {a C : Addr} {b : Value} {ox : Obj} {od : Option Obj} {Q : Value → Shared → Prop} (Xk : K.In s.heap) (I : PySem.W.InstAt s.heap a ox C od) (hm : PySem.W.mroIn K C (.type "object") = some true)
    (h : wpAny (model prog w) A.in1 (callSpecialIfBound? (.ref a) "__eq__" [b]) (fun r s' => ∃ b, r = some (.bool b) ∧ Q (.bool (!b)) s') E s) (hu : A.in1.units < cLine) : wpAny (model prog w) A (call (.builtin "object.__ne__") [.ref a, b]) Q E s := by
  have L0 := I.type (M := model prog w)
  have L1 := PySem.W.looks_mroIn (M := model prog w) Xk hm
  refine wpAny_call (codeAny_call_builtin PySem.F.cmp_object.ne.plain PySem.F.cmpEntry_ne ?_)
  obtain ⟨hh, g, dr, t, os⟩ := s
  have hk := PySem.F.cmpKind_ne
  have hs := PySem.F.cmpSplit_ne
  have ha := PySem.F.cmpArgs_ne (.ref a) b
  have fin : wpAny (model prog w) A.in1 (Builtin.«object.__ne__» ⟨[.ref a, b], []⟩) (fun fin s' => match fin with | .done f => (match (.ok f : Result) with | .ok (.ret v) => Q v s' | .ok _ => False | .error e => E e s') | .again c' => c'.quiet = true ∧ codeAny (model prog w) A c' (fun r s' => match r with | .ok (.ret v) => Q v s' | .ok _ => False | .error e => E e s') s') (fun e s' => E e s') ⟨hh, g, dr, t, os⟩ := by
    unfold Builtin.«object.__ne__»
    rw [show slotArgs "__ne__" 1 ⟨[.ref a, b], []⟩ = pure (.ref a, [b]) from rfl]
    refine wpAny_bind (wpAny_pure (wpAny_bind (wpAny_cRoomFor hu (wpAny_bind (wpAny_mono h (fun r s' hr => ?_) fun _ _ e => e)))))
    obtain ⟨b, rfl, q⟩ := hr
    exact wpAny_bind (wpAny_truthy_bool (wpAny_pure q))
  simp only [checkBuiltinCall, hk, hs]
  refine wpAny_bind ?_
  unfold isInstance
  repeat (first | exact fin | lk)
theorem opx_ownNeA (hK : G.K = X.K) {cs : List String} (IO : IsOk G cs) {c : String} (hcs : c ∈ cs) {C f : Addr} {k : Nat} {fd : FuncData} {ps : List Str} {g : DFn} (hC : G.ct c = some C) (hs : PySem.W.findIn X.K (.ref C) "__eq__" = some (some (.ref f))) (hf : PySem.W.isFn X.K (.ref f) = true)
    (hne : PySem.W.findIn X.K (.ref C) "__ne__" = some (some (.builtin "object.__ne__"))) (hob : PySem.W.mroIn X.K C (.type "object") = some true)
    (F : FnOk X.prog X.w X.K X.mg X.base (L2.CX X.prog X.w) k f fd ps (spG G 2 g)) (hr : Room (k + 1) X.A) (hb : Binds X.K fd ps []) (tk : Takes X W) : OpX G W X (compareOp .NotEq) (ownNeA cs c g) := by
  intro pins sh σ H x y v u κ w s dx dy Q I rx ry ok rdx rdy q
  obtain ⟨a, C', dxa, fa, tb, rfl, hC', hH, ty, nf, q⟩ := ownA_of hK IO hcs ok rdx rdy (negD_post q)
  rw [hC] at hC'
  cases hC'
  cases rx
  obtain ⟨mA, J, _⟩ := ins_get I.hok hH
  obtain ⟨od, J, _⟩ := J.look
  obtain ⟨P, kx, hP, _⟩ := kit_of I ry ty
  have KX := I.kIn
  have hbt := kx.ty (model X.prog X.w) _ I.kIn hP
  show wpAny (model X.prog X.w) X.A (richCompare .NotEq (.ref a) u) _ _ _
  have one : wpAny (model X.prog X.w) X.A (tryCompare (.ref a) "__ne__" u) (fun r s' => ∃ v, r = some v ∧ EP X pins σ Q v s') X.xe sh := by
    unfold tryCompare
    refine wpAny_bind (ifBound_B KX J hne PySem.F.cmp_object.ne.bind ?_)
    refine wpAny_mono (ne_callV (Q := fun v s' => ∃ b, v = .bool b ∧ EP X pins σ Q v s') KX J hob ?_ hr.in1.units0) (fun v s' h => ?_) fun _ _ e => e
    case refine_1 =>
      have hc := callD1 (us := [.ref a, u]) (vs := [.ref a, y]) (ds := [dx, dy]) F hr hb tk I ok (.cons rdx (.cons rdy .nil)) (.cons rfl (.cons ry .nil)) rfl q
      refine PySem.W.ifBound_K KX J hs hf (wpAny_mono hc (fun v s' h => ?_) fun _ _ e => e)
      obtain ⟨x, H', I', r, b, rfl, q'⟩ := h
      cases r
      exact ⟨b, rfl, !b, rfl, .bl (!b), H', I', rfl, q'⟩
    case refine_2 =>
      obtain ⟨b, rfl, h⟩ := h
      exact wpAny_pure ⟨_, rfl, h⟩
  unfold richCompare
  simp only [oneThing_ref]
  refine wpAny_holding (wpAny_bind (wpAny_cRoomFor hr.units0 ?_))
  refine wpAny_bind (J.type.here (wpAny_bind (hbt.here ?_)))
  split
  · rename_i q
    have e : PySem.W.subIn X.K tb (.ref C) = some false := by
      rcases Bool.or_eq_true_iff.mp nf with e | e
      · rw [beq_iff_eq.mp e] at q; simp at q
      · exact beq_iff_eq.mp e
    refine wpAny_bind ((PySem.W.looks_subIn KX e).here ?_)
    simp only [Bool.false_eq_true, if_false]
    refine wpAny_bind (wpAny_mono one (fun r s' z => ?_) fun _ _ e => e)
    obtain ⟨v, rfl, hq⟩ := z
    exact wpAny_pure hq
  · refine wpAny_bind (wpAny_pure ?_)
    simp only [Bool.false_eq_true, if_false]
    refine wpAny_bind (wpAny_mono one (fun r s' z => ?_) fun _ _ e => e)
    obtain ⟨v, rfl, hq⟩ := z
    exact wpAny_pure hq
@[simp] theorem r_ownA (cs : List String) (c c1 : String) (f1 : List (Nm × D)) (y : D) (g : DFn) (s : DS) : ownA cs c g (.ins c1 f1) y s = if c1 = c then (match tyOfD cs y with | some _ => lift s (g [.ins c1 f1, y] s.st) | none => .stuck) else .stuck := rfl
@[simp] theorem r_ownNeA (cs : List String) (c : String) (g : DFn) (x y : D) (s : DS) : ownNeA cs c g x y s = negD (ownA cs c g x y s) := rfl
end
end DL
set_option maxRecDepth 100000
set_option maxHeartbeats 4000000
set_option autoImplicit false
namespace DL
/-! ### readings, by simp -/
section
variable {s : DS} {st : List Cell} {sl : List Sl}
@[simp] theorem r_eC (d : D) (s : DS) : eC d s = .ok d s := rfl
@[simp] theorem r_eVar (i : Nat) (sl : List Sl) (st : List Cell) : eVar i ⟨sl, st⟩ = match sl[i]? with
  | some (.val d) => .ok d ⟨sl, st⟩
  | some (.ol xs) => .ok (.lst xs) ⟨sl.set i (.val (.lst xs)), st⟩
  | some (.od kvs) => .ok (.dic kvs) ⟨sl.set i (.val (.dic kvs)), st⟩
  | some (.oi c fs) => .ok (.ins c fs) ⟨sl.set i (.val (.ins c fs)), st⟩
  | _ => .stuck := rfl
@[simp] theorem r_eOp2 (o : D → D → Option D) (fa fb : DE) (s : DS) : eOp2 o fa fb s = (fa s).bind fun x s1 => (fb s1).bind fun y s2 => match o x y with | some d => .ok d s2 | none => .stuck := rfl
@[simp] theorem r_eOpX (o : DO2) (fa fb : DE) (s : DS) : eOpX o fa fb s = (fa s).bind fun x s1 => (fb s1).bind fun y s2 => o x y s2 := rfl
@[simp] theorem r_eB (f : DE) (s : DS) : eB f s = (f s).bind fun d s1 => match d with | .bl b => .ok b s1 | _ => .stuck := rfl
@[simp] theorem r_eTru (f : DE) (s : DS) : eTru f s = (f s).bind fun d s1 => match truD d with | some b => .ok b s1 | none => .stuck := rfl
@[simp] theorem r_bAnd (f g : DT) (s : DS) : bAnd f g s = (f s).bind fun b s1 => if b = true then g s1 else .ok false s1 := rfl
@[simp] theorem r_bOr (f g : DT) (s : DS) : bOr f g s = (f s).bind fun b s1 => if b = true then .ok true s1 else g s1 := rfl
@[simp] theorem r_bNot (f : DT) (s : DS) : bNot f s = (f s).bind fun b s1 => .ok (!b) s1 := rfl
@[simp] theorem r_bYes (s : DS) : bYes s = .ok true s := rfl
@[simp] theorem r_eAndT (f g : DE) (s : DS) : eAndT f g s = (f s).bind fun d s1 => match truD d with | some b => if b = true then g s1 else .ok d s1 | none => .stuck := rfl
@[simp] theorem r_eOrT (f g : DE) (s : DS) : eOrT f g s = (f s).bind fun d s1 => match truD d with | some b => if b = true then .ok d s1 else g s1 | none => .stuck := rfl
@[simp] theorem r_eNotT (f : DE) (s : DS) : eNotT f s = (f s).bind fun d s1 => match truD d with | some b => .ok (.bl (!b)) s1 | none => .stuck := rfl
@[simp] theorem r_eIf (c : DT) (f g : DE) (s : DS) : eIf c f g s = (c s).bind fun b s1 => if b = true then f s1 else g s1 := rfl
@[simp] theorem r_aNil (s : DS) : aNil s = .ok [] s := rfl
@[simp] theorem r_aCons (f : DE) (g : DA) (s : DS) : aCons f g s = (f s).bind fun d s1 => (g s1).bind fun ds s2 => .ok (d :: ds) s2 := rfl
@[simp] theorem r_eTup (g : DA) (s : DS) : eTup g s = (g s).bind fun ds s1 => if ds.length ≤ 1000 then .ok (.tup ds) s1 else .stuck := rfl
@[simp] theorem r_aMax (g : DA) (s : DS) : aMax g s = (g s).bind fun ds s1 => if ds.length ≤ 1000 then .ok ds s1 else .stuck := rfl
@[simp] theorem r_eFrz (f : DA) (s : DS) : eFrz f s = (f s).bind fun xs s1 => .ok (.lst xs) s1 := rfl
@[simp] theorem r_eFrzD (f : DD) (s : DS) : eFrzD f s = (f s).bind fun xs s1 => .ok (.dic xs) s1 := rfl
@[simp] theorem r_sPass (s : DS) : sPass s = .ok .nx s := rfl
@[simp] theorem r_sNever (s : DS) : sNever s = .stuck := rfl
@[simp] theorem r_sBreak (s : DS) : sBreak s = .ok .bk s := rfl
@[simp] theorem r_sCont (s : DS) : sCont s = .ok .ct s := rfl
@[simp] theorem r_sSeq (f g : DStm) (s : DS) : sSeq f g s = (f s).bind fun o s1 => match o with | .nx => g s1 | o => .ok o s1 := rfl
@[simp] theorem r_sExpr (f : DE) (s : DS) : sExpr f s = (f s).bind fun _ s1 => .ok .nx s1 := rfl
@[simp] theorem r_sRet (f : DE) (s : DS) : sRet f s = (f s).bind fun d s1 => .ok (.rt d) s1 := rfl
@[simp] theorem r_sIf (c : DT) (f g : DStm) (s : DS) : sIf c f g s = (c s).bind fun b s1 => if b = true then f s1 else g s1 := rfl
@[simp] theorem r_sSet (i : Nat) (f : DE) (s : DS) : sSet i f s = (f s).bind fun d s1 => .ok .nx ⟨s1.sl.set i (.val d), s1.st⟩ := rfl
@[simp] theorem r_sSetO (i : Nat) (f : DA) (s : DS) : sSetO i f s = (f s).bind fun xs s1 => .ok .nx ⟨s1.sl.set i (.ol xs), s1.st⟩ := rfl
@[simp] theorem r_gN (i : Nat) (d : D) (s : DS) : gN i d s = .ok () ⟨s.sl.set i (.val d), s.st⟩ := rfl
@[simp] theorem r_gsNil (s : DS) : gsNil [] s = .ok () s := rfl
@[simp] theorem r_gsCons (g : DG) (k : List D → DS → Res DS Unit) (d : D) (r : List D) (s : DS) : gsCons g k (d :: r) s = (g d s).bind fun _ s1 => k r s1 := rfl
@[simp] theorem r_gT (n : Nat) (g : List D → DS → Res DS Unit) (ds : List D) (s : DS) : gT n g (.tup ds) s = if ds.length = n then g ds s else .stuck := rfl
@[simp] theorem r_noX_ok {σ α : Type} (a : α) (t : σ) : noX (Res.ok a t) = .ok a t := rfl
@[simp] theorem r_noX_stuck {σ α : Type} : noX (Res.stuck : Res σ α) = .stuck := rfl
@[simp] theorem r_noX_exc {σ α : Type} (x : Xc) (t : σ) : noX (Res.exc x t : Res σ α) = .stuck := rfl
@[simp] theorem r_sAsgT (f : DE) (g : DG) (s : DS) : sAsgT f g s = (f s).bind fun d s1 => (noX (g d s1)).bind fun _ s2 => .ok .nx s2 := rfl
@[simp] theorem r_sPar (i j : Nat) (f : DA) (s : DS) : sPar i j f s = (f s).bind fun ds s1 => match ds with | [x, y] => .ok .nx ⟨(s1.sl.set i (.val x)).set j (.val y), s1.st⟩ | _ => .stuck := rfl
@[simp] theorem r_sPar3 (i j l : Nat) (f : DA) (s : DS) : sPar3 i j l f s = (f s).bind fun ds s1 => match ds with | [x, y, z] => .ok .nx ⟨((s1.sl.set i (.val x)).set j (.val y)).set l (.val z), s1.st⟩ | _ => .stuck := rfl
@[simp] theorem r_lo_nx (s : DS) (k : DS → Res DS Out) : loopOut (.ok .nx s) k = k s := rfl
@[simp] theorem r_lo_ct (s : DS) (k : DS → Res DS Out) : loopOut (.ok .ct s) k = k s := rfl
@[simp] theorem r_lo_bk (s : DS) (k : DS → Res DS Out) : loopOut (.ok .bk s) k = .ok .nx s := rfl
@[simp] theorem r_lo_rt (d : D) (s : DS) (k : DS → Res DS Out) : loopOut (.ok (.rt d) s) k = .ok (.rt d) s := rfl
@[simp] theorem r_lo_stuck (k : DS → Res DS Out) : loopOut .stuck k = .stuck := rfl
@[simp] theorem r_for_nil (g : DG) (b : DStm) (s : DS) : forL g b [] s = .ok .nx s := rfl
@[simp] theorem r_for_cons (g : DG) (b : DStm) (d : D) (r : List D) (s : DS) : forL g b (d :: r) s = (noX (g d s)).bind fun _ s1 => loopOut (b s1) (forL g b r) := rfl
@[simp] theorem r_sFor (it : DA) (g : DG) (b : DStm) (s : DS) : sFor it g b s = (it s).bind fun ds s1 => forL g b ds s1 := rfl
@[simp] theorem r_itSeq (f : DE) (s : DS) : itSeq f s = (f s).bind fun d s1 => match itemsD d with | some xs => .ok xs s1 | none => .stuck := rfl
@[simp] theorem r_itemsD_l (xs : List D) : itemsD (.lst xs) = some xs := rfl
@[simp] theorem r_itemsD_s (xs : List D) : itemsD (.scr xs) = some xs := rfl
@[simp] theorem r_itemsD_t (xs : List D) : itemsD (.tup xs) = some xs := rfl
@[simp] theorem r_itemsD_str (xs : Nm) : itemsD (.str xs) = some (xs.map fun c => .str [c]) := rfl
@[simp] theorem r_eCall (n : Nat) (g : DFn) (fa : DA) (s : DS) : eCall n g fa s = (fa s).bind fun ds s1 => if ds.length = n then lift s1 (g ds s1.st) else .stuck := rfl
@[simp] theorem r_lift_ok {α : Type} (s : DS) (d : α) (S : List Cell) : lift s (.ok d S) = .ok d ⟨s.sl, S⟩ := rfl
@[simp] theorem r_lift_exc {α : Type} (s : DS) (x : Xc) (S : List Cell) : lift s (.exc x S : Res (List Cell) α) = .exc x ⟨s.sl, S⟩ := rfl
@[simp] theorem r_lift_stuck {α : Type} (s : DS) : lift s (.stuck : Res (List Cell) α) = .stuck := rfl
@[simp] theorem r_eMake (c : String) (n : Nat) (g : DIn) (fa : DA) (s : DS) : eMake c n g fa s = (fa s).bind fun ds s1 => if ds.length = n then (lift s1 (g ds s1.st)).bind fun fs s2 => .ok (.ins c fs) s2 else .stuck := rfl
@[simp] theorem r_eMeth (c : String) (m : Nm) (n : Nat) (g : DFn) (fo : DE) (fa : DA) (s : DS) : eMeth c m n g fo fa s = (fo s).bind fun d s1 => match insOf d s1 with
  | some (c', fs) => if c' = c ∧ fs.lookup m = none then (fa s1).bind fun ds s2 => if ds.length + 1 = n then lift s2 (g (d :: ds) s2.st) else .stuck else .stuck
  | none => .stuck := rfl
@[simp] theorem r_eFld (cs : List String) (fn : Nm) (f : DE) (s : DS) : eFld cs fn f s = (f s).bind fun d s1 => match insOf d s1 with
  | some (c, fs) => if c ∈ cs then match fs.lookup fn with | some x => .ok x s1 | none => .stuck else .stuck
  | none => .stuck := rfl
@[simp] theorem r_insOf (c : String) (fs : List (Nm × D)) (s : DS) : insOf (.ins c fs) s = some (c, fs) := rfl
@[simp] theorem r_eInv (c : String) (g : DFn) (f : DE) (s : DS) : eInv c g f s = (f s).bind fun d s1 => match insOf d s1 with | some (c1, _) => if c1 = c then lift s1 (g [d] s1.st) else .stuck | none => .stuck := rfl
@[simp] theorem r_ownO (c c1 c2 : String) (f1 f2 : List (Nm × D)) (g : DFn) (s : DS) : ownO c g (.ins c1 f1) (.ins c2 f2) s = if c1 = c ∧ c2 = c then lift s (g [.ins c1 f1, .ins c2 f2] s.st) else .stuck := rfl
@[simp] theorem r_ownNe (c : String) (g : DFn) (x y : D) (s : DS) : ownNe c g x y s = negD (ownO c g x y s) := rfl
@[simp] theorem r_negD (b : Bool) (s : DS) : negD (.ok (.bl b) s) = .ok (.bl (!b)) s := rfl
@[simp] theorem r_eCB (o : List D → Option D) (fa : DA) (s : DS) : eCB o fa s = (fa s).bind fun ds s1 => match o ds with | some d => .ok d s1 | none => .stuck := rfl
@[simp] theorem r_eNeg (f : DE) (s : DS) : eNeg f s = (f s).bind fun d s1 => match d with | .int i => .ok (.int (-i)) s1 | _ => .stuck := rfl
@[simp] theorem r_eIx (fa fb : DE) (s : DS) : eIx fa fb s = (fa s).bind fun x s1 => (fb s1).bind fun y s2 => match y with | .int i => (match ixD x i with | some d => .ok d s2 | none => .stuck) | _ => .stuck := rfl
@[simp] theorem r_sFldO (c : String) (i : Nat) (fn : Nm) (f : DE) (s : DS) : sFldO c i fn f s = (f s).bind fun d s1 => match s1.sl[i]? with
  | some (.oi c' fs) => if c' = c ∧ fs.length < 1000 then .ok .nx ⟨s1.sl.set i (.oi c (putN fn d fs)), s1.st⟩ else .stuck
  | _ => .stuck := rfl
@[simp] theorem r_aList (fa : DA) (s : DS) : aList fa s = (fa s).bind fun ds s1 => match ds with | [d] => (match seqD d with | some xs => .ok xs s1 | none => .stuck) | _ => .stuck := rfl
@[simp] theorem r_seqD_l (xs : List D) : seqD (.lst xs) = some xs := rfl
@[simp] theorem r_seqD_s (xs : List D) : seqD (.scr xs) = some xs := rfl
@[simp] theorem r_seqD_t (xs : List D) : seqD (.tup xs) = some xs := rfl
@[simp] theorem r_oNone (s : DS) : oNone s = .ok none s := rfl
@[simp] theorem r_oSome (f : DE) (s : DS) : oSome f s = (f s).bind fun d s1 => match d with | .int i => .ok (some i) s1 | _ => .stuck := rfl
@[simp] theorem r_aSl (f : DE) (l h : DOp) (s : DS) : aSl f l h s = (f s).bind fun d s1 => (l s1).bind fun lo s2 => (h s2).bind fun hi s3 => match d with | .lst xs => .ok (cutD xs lo hi) s3 | .scr xs => .ok (cutD xs lo hi) s3 | _ => .stuck := rfl
@[simp] theorem r_eSlT (f : DE) (l h : DOp) (s : DS) : eSlT f l h s = (f s).bind fun d s1 => (l s1).bind fun lo s2 => (h s2).bind fun hi s3 => match d with | .tup xs => if (cutD xs lo hi).length ≠ xs.length then .ok (.tup (cutD xs lo hi)) s3 else .stuck | _ => .stuck := rfl
@[simp] theorem r_eSlA (f : DE) (l h : DOp) (s : DS) : eSlA f l h s = (f s).bind fun d s1 => (l s1).bind fun lo s2 => (h s2).bind fun hi s3 => match slD d lo hi with | some x => .ok x s3 | none => .stuck := rfl
@[simp] theorem r_slD_l (xs : List D) (lo hi : Option Int) : slD (.lst xs) lo hi = some (.lst (cutD xs lo hi)) := rfl
@[simp] theorem r_slD_s (xs : List D) (lo hi : Option Int) : slD (.scr xs) lo hi = some (.lst (cutD xs lo hi)) := rfl
@[simp] theorem r_slD_t (xs : List D) (lo hi : Option Int) : slD (.tup xs) lo hi = if (cutD xs lo hi).length ≠ xs.length then some (.tup (cutD xs lo hi)) else none := rfl
/-! data -/
@[simp] theorem r_iAdd (i j : Int) : iAdd (.int i) (.int j) = some (.int (i + j)) := rfl
@[simp] theorem r_dAdd (i j : Int) : dAdd (.int i) (.int j) = some (.int (i + j)) := rfl
@[simp] theorem r_iSub (i j : Int) : iSub (.int i) (.int j) = some (.int (i - j)) := rfl
@[simp] theorem r_dMul (i j : Int) : dMul (.int i) (.int j) = if mulOk i j = true then some (.int (i * j)) else none := rfl
@[simp] theorem r_iDiv (i j : Int) : iDiv (.int i) (.int j) = if divOk j = true then some (.int (i.fdiv j)) else none := rfl
@[simp] theorem r_iMod (i j : Int) : iMod (.int i) (.int j) = if j ≠ 0 then some (.int (i.fmod j)) else none := rfl
@[simp] theorem r_iPow (i j : Int) : iPow (.int i) (.int j) = if 0 ≤ j ∧ j ≤ 1000000 ∧ i.natAbs < 2 ^ 64 then some (.int (i ^ j.toNat)) else none := rfl
@[simp] theorem r_iLt (i j : Int) : iLt (.int i) (.int j) = some (.bl (decide (i < j))) := rfl
@[simp] theorem r_iLe (i j : Int) : iLe (.int i) (.int j) = some (.bl (decide (i ≤ j))) := rfl
@[simp] theorem r_iGt (i j : Int) : iGt (.int i) (.int j) = some (.bl (decide (j < i))) := rfl
@[simp] theorem r_iGe (i j : Int) : iGe (.int i) (.int j) = some (.bl (decide (j ≤ i))) := rfl
@[simp] theorem r_dEq_int (i j : Int) : dEq (.int i) (.int j) = some (.bl (decide (i = j))) := by
  show (if (true && true) = true then some (D.bl (i == j)) else none) = _
  simp [Bool.beq_eq_decide_eq]
@[simp] theorem r_dNe_int (i j : Int) : dNe (.int i) (.int j) = some (.bl (!decide (i = j))) := by
  show (if (true && true) = true then some (D.bl (!(i == j))) else none) = _
  simp [Bool.beq_eq_decide_eq]
@[simp] theorem r_dIsN (x : D) : dIsN x .non = some (.bl (isNonD x)) := rfl
@[simp] theorem r_dNotN (x : D) : dNotN x .non = some (.bl (!isNonD x)) := rfl
@[simp] theorem r_isNon : isNonD .non = true := rfl
@[simp] theorem r_isNon_t (xs : List D) : isNonD (.tup xs) = false := rfl
@[simp] theorem r_isNon_i (i : Int) : isNonD (.int i) = false := rfl
@[simp] theorem r_isNon_n (c : String) (fs : List (Nm × D)) : isNonD (.ins c fs) = false := rfl
@[simp] theorem r_isNon_l (xs : List D) : isNonD (.lst xs) = false := rfl
@[simp] theorem r_tru_bl (b : Bool) : truD (.bl b) = some b := rfl
@[simp] theorem r_tru_non : truD .non = some false := rfl
@[simp] theorem r_tru_int (i : Int) : truD (.int i) = some (i != 0) := rfl
@[simp] theorem r_tru_lst (xs : List D) : truD (.lst xs) = some (!xs.isEmpty) := rfl
@[simp] theorem r_tru_tup (xs : List D) : truD (.tup xs) = some (!xs.isEmpty) := rfl
@[simp] theorem r_bInt (i : Int) : bInt [.int i] = some (.int i) := rfl
@[simp] theorem r_bInt_b (b : Bool) : bInt [.bl b] = some (.int (if b then 1 else 0)) := rfl
@[simp] theorem r_bLen_l (xs : List D) : bLen [.lst xs] = some (.int xs.length) := rfl
@[simp] theorem r_bLen_s (xs : List D) : bLen [.scr xs] = some (.int xs.length) := rfl
@[simp] theorem r_bLen_t (xs : List D) : bLen [.tup xs] = some (.int xs.length) := rfl
@[simp] theorem r_bAbs (i : Int) : bAbs [.int i] = some (.int (if i < 0 then -i else i)) := rfl
@[simp] theorem r_bTup_l (xs : List D) : bTup [.lst xs] = some (.tup xs) := rfl
@[simp] theorem r_bTup_t (xs : List D) : bTup [.tup xs] = some (.tup xs) := rfl
@[simp] theorem r_bMax (i j : Int) : bMax2 [.int i, .int j] = some (.int (if j > i then j else i)) := rfl
@[simp] theorem r_bMin (i j : Int) : bMin2 [.int i, .int j] = some (.int (if j < i then j else i)) := rfl
@[simp] theorem r_ix_t (xs : List D) (i : Int) : ixD (.tup xs) i = L2.atI xs i := rfl
@[simp] theorem r_ix_l (xs : List D) (i : Int) : ixD (.lst xs) i = L2.atI xs i := rfl
@[simp] theorem r_ix_s (xs : List D) (i : Int) : ixD (.scr xs) i = L2.atI xs i := rfl
@[simp] theorem r_at0 {α : Type} (x : α) (r : List α) : L2.atI (x :: r) 0 = some x := L2.atI_nat (j := 0) rfl
@[simp] theorem r_at1 {α : Type} (x y : α) (r : List α) : L2.atI (x :: y :: r) 1 = some y := L2.atI_nat (j := 1) rfl
@[simp] theorem r_at2 {α : Type} (x y z : α) (r : List α) : L2.atI (x :: y :: z :: r) 2 = some z := L2.atI_nat (j := 2) rfl
@[simp] theorem r_at3 {α : Type} (x y z u : α) (r : List α) : L2.atI (x :: y :: z :: u :: r) 3 = some u := L2.atI_nat (j := 3) rfl
/-! isinstance -/
theorem mem_ty : ("int" ∈ tyNames) = True ∧ ("bool" ∈ tyNames) = True ∧ ("str" ∈ tyNames) = True ∧ ("list" ∈ tyNames) = True ∧ ("tuple" ∈ tyNames) = True ∧ ("dict" ∈ tyNames) = True ∧ ("NoneType" ∈ tyNames) = True := by simp [tyNames]
@[simp] theorem r_isi_int_int (cs : List String) (i : Int) : bIsi cs [.int i, .ty "int"] = some (.bl true) := by simp [bIsi, tyOfD, tyD, isOne, mem_ty, isTy]
@[simp] theorem r_isi_int_bool (cs : List String) (i : Int) : bIsi cs [.int i, .ty "bool"] = some (.bl false) := by simp [bIsi, tyOfD, tyD, isOne, mem_ty, isTy]
@[simp] theorem r_isi_ins_cls (cs : List String) (c : String) (fs : List (Nm × D)) (c' : String) (h : c ∈ cs := by simp) (h' : c' ∈ cs := by simp) : bIsi cs [.ins c fs, .cls c'] = some (.bl (c == c')) := by simp [bIsi, tyOfD, isOne, h, h']
@[simp] theorem r_isi_int_cls (cs : List String) (i : Int) (c' : String) (h' : c' ∈ cs := by simp) : bIsi cs [.int i, .cls c'] = some (.bl false) := by simp [bIsi, tyOfD, tyD, isOne, h', mem_ty]
@[simp] theorem r_isi_non_cls (cs : List String) (c' : String) (h' : c' ∈ cs := by simp) : bIsi cs [.non, .cls c'] = some (.bl false) := by simp [bIsi, tyOfD, tyD, isOne, h', mem_ty]
end
/-! ### bits -/
class Bd (x : Int) (n : outParam Nat) : Prop where
  lt : x.natAbs < 2 ^ n
theorem Bd.le {x : Int} {n m : Nat} (h : Bd x n) (hnm : n ≤ m) : Bd x m := ⟨Nat.lt_of_lt_of_le h.lt (Nat.pow_le_pow_right (by decide) hnm)⟩
instance bd_add {x y : Int} {m n : Nat} [h : Bd x m] [k : Bd y n] : Bd (x + y) (m + n + 1) := ⟨by
  have h1 := h.lt
  have h2 := k.lt
  have h3 : (2 : Nat) ^ m ≤ 2 ^ (m + n) := Nat.pow_le_pow_right (by decide) (by omega)
  have h4 : (2 : Nat) ^ n ≤ 2 ^ (m + n) := Nat.pow_le_pow_right (by decide) (by omega)
  have h5 : (2 : Nat) ^ (m + n + 1) = 2 ^ (m + n) * 2 := Nat.pow_succ ..
  omega⟩
instance bd_neg {x : Int} {m : Nat} [h : Bd x m] : Bd (-x) m := ⟨by rw [Int.natAbs_neg]; exact h.lt⟩
instance bd_sub {x y : Int} {m n : Nat} [h : Bd x m] [k : Bd y n] : Bd (x - y) (m + n + 1) := by
  rw [Int.sub_eq_add_neg]; exact bd_add
instance bd_mul {x y : Int} {m n : Nat} [h : Bd x m] [k : Bd y n] : Bd (x * y) (m + n) := ⟨by
  rw [Int.natAbs_mul, Nat.pow_add]
  exact Nat.mul_lt_mul'' h.lt k.lt⟩
instance bd_0 : Bd 0 0 := ⟨by decide⟩
instance bd_1 : Bd 1 1 := ⟨by decide⟩
theorem log2_lt {x : Int} {n : Nat} (h : Bd x n) : x.natAbs.log2 ≤ n := by
  have := h.lt
  by_cases e : x.natAbs = 0
  · rw [e]; simp
  · exact Nat.le_of_lt ((Nat.log2_lt e).mpr this)
theorem mulOk_of {x y : Int} {m n : Nat} (h : Bd x m) (k : Bd y n) (hl : m + n < 100000000) : mulOk x y = true := by
  unfold mulOk
  have h1 := log2_lt h
  have h2 := log2_lt k
  exact decide_eq_true (by omega)
@[simp] theorem mulOk_bd {x y : Int} {m n : Nat} [h : Bd x m] [k : Bd y n] (hl : m + n < 100000000) : mulOk x y = true := mulOk_of h k hl
theorem divOk_of {y : Int} {n : Nat} (k : Bd y n) (h0 : y ≠ 0) (hl : n < 9000) : divOk y = true := by
  unfold divOk
  exact decide_eq_true ⟨h0, Nat.lt_of_le_of_lt (log2_lt k) hl⟩
@[simp] theorem divOk_bd {y : Int} {n : Nat} [k : Bd y n] (h0 : y ≠ 0) (hl : n < 9000) : divOk y = true := divOk_of k h0 hl
@[simp] theorem divOk_2 : divOk 2 = true := by decide
end DL
set_option maxRecDepth 100000
set_option maxHeartbeats 4000000
set_option autoImplicit false
namespace DL
@[simp] theorem r_eDGet (fo fi : DE) (s : DS) : eDGet fo fi s = (fo s).bind fun d s1 => (fi s1).bind fun k s2 => match dictOf d s2, kOf k with
  | some kvs, some k => match dLook kvs k with
    | some x => .ok x s2
    | none => .stuck
  | _, _ => .stuck := rfl
@[simp] theorem r_dictOf_c (n : Nat) (sl : List Sl) (st : List Cell) : dictOf (.cell n) ⟨sl, st⟩ = match st[n]? with | some (.dic kvs) => some kvs | _ => none := rfl
@[simp] theorem r_dictOf_d (kvs : List (DK × D)) (s : DS) : dictOf (.dic kvs) s = some kvs := rfl
@[simp] theorem r_kOf_s (l : List Nat) : kOf (.str l) = some (.s l) := rfl
@[simp] theorem r_kOf_i (l : Int) : kOf (.int l) = some (.i l) := rfl
@[simp] theorem r_sDPutC (fo fi fv : DE) (s : DS) : sDPutC fo fi fv s = (fv s).bind fun x s1 => (fo s1).bind fun d s2 => (fi s2).bind fun k s3 => match d, kOf k with
  | .cell n, some k => match s3.st[n]? with
    | some (.dic kvs) => if kvs.length < 1000000 ∧ keysNd kvs = true then .ok .nx ⟨s3.sl, s3.st.set n (.dic (dPut kvs k x))⟩ else .stuck
    | _ => .stuck
  | _, _ => .stuck := rfl
@[simp] theorem r_eCellD (f : DD) (s : DS) : eCellD f s = (f s).bind fun xs s1 => .ok (.cell s1.st.length) ⟨s1.sl, s1.st ++ [.dic xs]⟩ := rfl
@[simp] theorem r_dDisp (fs : List (DE × DE)) (s : DS) : dDisp fs s = (pairsD fs s).bind fun ps s1 => match keyed ps with
  | some kvs => if kvs.length ≤ 15 ∧ keysNd kvs = true then .ok kvs s1 else .stuck
  | none => .stuck := rfl
@[simp] theorem r_pairs_nil (s : DS) : pairsD [] s = .ok [] s := rfl
@[simp] theorem r_pairs_cons (fk fv : DE) (r : List (DE × DE)) (s : DS) : pairsD ((fk, fv) :: r) s = (fk s).bind fun k s1 => (fv s1).bind fun x s2 => (pairsD r s2).bind fun ps s3 => .ok ((k, x) :: ps) s3 := rfl
@[simp] theorem r_keyed_nil : keyed [] = some [] := rfl
@[simp] theorem r_keyed_cons (k x : D) (r : List (D × D)) : keyed ((k, x) :: r) = match kOf k, keyed r with
    | some k, some r => some ((k, x) :: r)
    | _, _ => none := rfl
@[simp] theorem r_itR1 (f : DA) (s : DS) : itR1 f s = (f s).bind fun ds s1 => match ds with
  | [.int j] => if -(2 ^ 62) ≤ j ∧ j < 2 ^ 62 then .ok (rngL 0 j.toNat) s1 else .stuck
  | _ => .stuck := rfl
@[simp] theorem r_itEnum_l (f : DA) (s : DS) : itEnum f s = (f s).bind fun ds s1 => match ds with
  | [.lst xs] => .ok (enumL xs) s1
  | [.scr xs] => .ok (enumL xs) s1
  | _ => .stuck := rfl
@[simp] theorem r_itZip (f : DA) (s : DS) : itZip f s = (f s).bind fun ds s1 => match ds with
  | [.lst xs, .lst ys] => .ok (zipL xs ys) s1
  | [.tup xs, .tup ys] => .ok (zipL xs ys) s1
  | _ => .stuck := rfl
@[simp] theorem r_aLc (vs : List Nat) (it : DA) (g : DG) (t : DT) (e : DE) (s : DS) : aLc vs it g t e s = (it s).bind fun items s1 => (noX (lcL vs g t e items [] s1)).bind fun ys s2 => .ok ys ⟨unwipe vs s1.sl (wipeD vs s2.sl), s2.st⟩ := rfl
@[simp] theorem r_lc_nil (vs : List Nat) (g : DG) (t : DT) (e : DE) (acc : List D) (s : DS) : lcL vs g t e [] acc s = .ok acc s := rfl
@[simp] theorem r_lc_cons (vs : List Nat) (g : DG) (t : DT) (e : DE) (d : D) (r acc : List D) (s : DS) : lcL vs g t e (d :: r) acc s = (noX (g d (wipeS vs s))).bind fun _ s1 => (noX (t s1)).bind fun b s2 => if b = true then (noX (e s2)).bind fun y s3 => if acc.length < 1000000 then lcL vs g t e r (acc ++ [y]) s3 else .stuck
    else lcL vs g t e r acc s2 := rfl
@[simp] theorem r_wipe_nil (l : List Sl) : wipeD [] l = l := rfl
@[simp] theorem r_wipe_cons (v : Nat) (vs : List Nat) (l : List Sl) : wipeD (v :: vs) l = (wipeD vs l).set v .un := rfl
@[simp] theorem r_wipeS (vs : List Nat) (s : DS) : wipeS vs s = ⟨wipeD vs s.sl, s.st⟩ := rfl
@[simp] theorem r_unw_nil (o l : List Sl) : unwipe [] o l = l := rfl
@[simp] theorem r_unw_cons (v : Nat) (vs : List Nat) (o l : List Sl) : unwipe (v :: vs) o l = (unwipe vs o l).set v (match o[v]? with | some (.val d) => .val d | _ => .un) := rfl
@[simp] theorem r_sApp (i : Nat) (fa : DA) (s : DS) : sApp i fa s = match s.sl[i]? with
  | some (.ol _) => (fa s).bind fun ds s1 => match ds, s1.sl[i]? with
    | [d], some (.ol xs) => if xs.length < 1000000 then .ok .nx ⟨s1.sl.set i (.ol (xs ++ [d])), s1.st⟩ else .stuck
    | _, _ => .stuck
  | _ => .stuck := rfl
/-! data equality -/
open PySem in
theorem pys_ints (ns : List Int) : toPys (ns.map D.int) = some (ns.map PyData.int) := by
  induction ns with
  | nil => rfl
  | cons a r ih => simp [toPys, toPy, ih]
open PySem in
theorem can_ints (ns : List Int) : PyData.canLayAll0 (ns.map PyData.int) = true := by
  induction ns with
  | nil => rfl
  | cons a r ih => simp [PyData.canLayAll0, PyData.canLay0, ih]
open PySem in
theorem dep_ints (ns : List Int) : PyData.depthAll (ns.map PyData.int) = 0 := by
  induction ns with
  | nil => rfl
  | cons a r ih => simp [PyData.depthAll, PyData.depth, ih]
open PySem in
@[simp] theorem r_ne_nil (ns : List Int) : dNe (.lst (ns.map D.int)) (.lst []) = some (.bl (!ns.isEmpty)) := by
  cases ns with
  | nil => simp [dNe, toPy, toPys, SeqAt.shaped, PyData.canLay0, PyData.depth, PyData.depthAll, PyData.eqv, PyData.eqvAll, PyData.canLayAll0]
  | cons a r => simp [dNe, toPy, toPys, pys_ints, can_ints, dep_ints, SeqAt.shaped, PyData.canLay0, PyData.depth, PyData.depthAll, PyData.eqv, PyData.eqvAll, PyData.canLayAll0]
@[simp] theorem r_ne_nil0 : dNe (.lst []) (.lst []) = some (.bl false) := r_ne_nil []
/-! the draw pen -/
abbrev penD (cs : List Int) (c l : Int) : List (DK × D) := [(.s [99, 101, 108, 108, 115], .lst (cs.map D.int)), (.s [99, 111, 117, 110, 116], .int c), (.s [108, 101, 102, 116], .int l)]
def Pen (n : Nat) (S : List Cell) : Prop := ∃ cs c l, S = [.dic (penD cs c l)] ∧ 0 ≤ c ∧ c ≤ n ∧ 0 ≤ l
theorem Pen.mono {n m : Nat} {S : List Cell} (h : Pen n S) (hm : n ≤ m) : Pen m S := by
  obtain ⟨cs, c, l, h1, h2, h3, h4⟩ := h
  exact ⟨cs, c, l, h1, h2, by omega, h4⟩
theorem ix_mod (cs : List Int) (c : Int) (h : cs ≠ []) : ∃ x : Int, L2.atI (cs.map D.int) (c.fmod cs.length) = some (.int x) := by
  have hp : (0 : Int) < cs.length := by
    cases cs with
    | nil => exact absurd rfl h
    | cons a r => simp
  have h1 : 0 ≤ c.fmod cs.length := Int.fmod_nonneg_of_pos _ hp
  have h2 : c.fmod cs.length < cs.length := Int.fmod_lt_of_pos _ hp
  obtain ⟨k, hk⟩ := Int.eq_ofNat_of_zero_le h1
  rw [hk] at h2 ⊢
  have h3 : k < cs.length := by omega
  refine ⟨cs[k], ?_⟩
  have : (cs.map D.int)[k]? = some (D.int cs[k]) := by simp [h3]
  exact L2.atI_nat this
theorem Bd.of_range {x : Int} {m n : Nat} (h0 : 0 ≤ x) (h1 : x < m) (h : m ≤ 2 ^ n) : Bd x n := ⟨by omega⟩
end DL
set_option maxRecDepth 100000
set_option maxHeartbeats 4000000
set_option autoImplicit false
namespace DL
/-! more bounds -/
instance bd_half {x : Int} {n : Nat} [h : Bd x n] : Bd (x.fdiv 2) n := ⟨by
  have := h.lt
  rw [Int.fdiv_eq_ediv_of_nonneg _ (by decide)]
  omega⟩
instance bd_abs {x : Int} {n : Nat} [h : Bd x n] : Bd (if x < 0 then -x else x) n := ⟨by
  have := h.lt
  split
  · rw [Int.natAbs_neg]; exact this
  · exact this⟩
instance bd_ite {c : Prop} [Decidable c] {x y : Int} {m n : Nat} [h : Bd x m] [k : Bd y n] : Bd (if c then x else y) (m + n) := ⟨by
  split
  · exact Nat.lt_of_lt_of_le h.lt (Nat.pow_le_pow_right (by decide) (by omega))
  · exact Nat.lt_of_lt_of_le k.lt (Nat.pow_le_pow_right (by decide) (by omega))⟩
theorem Bd.of_le {x : Int} {y : Int} {n : Nat} (k : Bd y n) (h0 : 0 ≤ x) (h : x ≤ y) : Bd x n := ⟨by have := k.lt; omega⟩
theorem fdiv_le_abs (x y : Int) : (x.fdiv y).natAbs ≤ x.natAbs + 1 := by
  by_cases hy : y = 0
  · subst hy; simp
  have key : ∀ x y : Int, 0 < y → (x.fdiv y).natAbs ≤ x.natAbs + 1 := fun x y hy => by
    have h1 : y * x.fdiv y + x.fmod y = x := Int.mul_fdiv_add_fmod x y
    have h2 : 0 ≤ x.fmod y := Int.fmod_nonneg_of_pos _ hy
    have h3 : x.fmod y < y := Int.fmod_lt_of_pos _ hy
    generalize x.fdiv y = q at *
    by_cases c : 0 ≤ q
    · have := Int.mul_nonneg (show 0 ≤ y - 1 by omega) c
      rw [Int.sub_mul] at this
      omega
    · have := Int.mul_nonneg (show 0 ≤ y - 1 by omega) (show 0 ≤ -q - 1 by omega)
      rw [show (y - 1) * (-q - 1) = -(y * q) - y + q + 1 by grind] at this
      omega
  by_cases c : 0 < y
  · exact key x y c
  · have h := key (-x) (-y) (by omega)
    rw [show (-x).fdiv (-y) = x.fdiv y from Int.neg_fdiv_neg x y, Int.natAbs_neg] at h
    exact h
instance bd_fdiv {x y : Int} {n : Nat} [h : Bd x n] : Bd (x.fdiv y) (n + 1) := ⟨by
  have h1 := h.lt
  have h2 := fdiv_le_abs x y
  have h3 : (2 : Nat) ^ (n + 1) = 2 ^ n * 2 := Nat.pow_succ ..
  have h4 : 1 ≤ (2 : Nat) ^ n := Nat.one_le_two_pow
  omega⟩
/-! readings of DLu -/
@[simp] theorem r_eBits (f : DE) (s : DS) : eBits f s = (f s).bind fun d s1 => match d with | .int i => .ok (.int (PySem.Builtin.Int.intBits i : Nat)) s1 | _ => .stuck := rfl
@[simp] theorem r_sRaise (c : String) (f : Nm) (fa : DA) (s : DS) : sRaise c f fa s = (fa s).bind fun ds s1 => match ds with | [d] => .exc ⟨c, [(f, d)]⟩ s1 | _ => .stuck := rfl
@[simp] theorem r_iShl (i j : Int) : iShl (.int i) (.int j) = if 0 ≤ j ∧ j ≤ 1000000 ∧ i.natAbs < 2 ^ 64 then some (.int (i * 2 ^ j.toNat)) else none := rfl
@[simp] theorem r_inS (neg : Bool) (c : Nat) (l : Nm) : dIn neg (.str [c]) (.str l) = some (.bl (if neg then !decide (c ∈ l) else decide (c ∈ l))) := rfl
@[simp] theorem r_lo_exc (x : Xc) (s : DS) (k : DS → Res DS Out) : loopOut (.exc x s) k = .exc x s := rfl
theorem inF_ints (neg : Bool) (i : Int) (ns : List Int) : dIn neg (.int i) (.tup (ns.map D.int)) = some (.bl (if neg then !decide (i ∈ ns) else decide (i ∈ ns))) := by
  have h1 : (ns.map D.int).all flD = true := by simp [flD]
  have h2 : (ns.map D.int).any (fun z => eqFl z (.int i)) = decide (i ∈ ns) := by
    induction ns with
    | nil => rfl
    | cons a r ih =>
      simp only [List.map_cons, List.any_cons, ih (by simp [flD])]
      show ((a == i) || decide (i ∈ r)) = _
      by_cases e : a = i
      · subst e; simp
      · simp [e, Ne.symm e]
  simp [dIn, inS, inF, h1, h2, flD]
theorem inF_intsL (neg : Bool) (i : Int) (ns : List Int) : dIn neg (.int i) (.lst (ns.map D.int)) = some (.bl (if neg then !decide (i ∈ ns) else decide (i ∈ ns))) := by
  have h1 : (ns.map D.int).all flD = true := by simp [flD]
  have h2 : (ns.map D.int).any (fun z => eqFl z (.int i)) = decide (i ∈ ns) := by
    induction ns with
    | nil => rfl
    | cons a r ih =>
      simp only [List.map_cons, List.any_cons, ih (by simp [flD])]
      show ((a == i) || decide (i ∈ r)) = _
      by_cases e : a = i
      · subst e; simp
      · simp [e, Ne.symm e]
  simp [dIn, inS, inF, h1, h2, flD]
/-! + and * of sequences -/
@[simp] theorem r_dAdd_ll (xs ys : List D) : dAdd (.lst xs) (.lst ys) = lAdd (.lst xs) (.lst ys) := rfl
@[simp] theorem r_lAdd_ll (xs ys : List D) : lAdd (.lst xs) (.lst ys) = if xs.length + ys.length ≤ 1000000 then some (.lst (xs ++ ys)) else none := rfl
/-! loops -/
theorem forL_inv {g : DG} {b : DStm} {items : List D} (P : Nat → DS → Prop) (step : ∀ (i : Nat) (d : D) (s : DS), items[i]? = some d → P i s → ∃ s1 s2, g d s = .ok () s1 ∧ (b s1 = .ok .nx s2 ∨ b s1 = .ok .ct s2) ∧ P (i + 1) s2) :
    ∀ (l : List D) (i : Nat) (s : DS), (∀ j, l[j]? = items[i + j]?) → P i s → ∃ s', forL g b l s = .ok .nx s' ∧ P (i + l.length) s'
  | [], i, s, h, hp => ⟨s, rfl, hp⟩
  | d :: l, i, s, h, hp => by
    have h0 := h 0
    simp only [List.getElem?_cons_zero, Nat.add_zero] at h0
    obtain ⟨s1, s2, e1, e2, hp2⟩ := step i d s h0.symm hp
    obtain ⟨s', e3, hp3⟩ := forL_inv P step l (i + 1) s2 (fun j => by
      have := h (j + 1)
      rw [List.getElem?_cons_succ] at this
      rw [this]
      congr 1
      omega) hp2
    refine ⟨s', ?_, by rw [show i + (d :: l).length = i + 1 + l.length by simp; omega]; exact hp3⟩
    rw [r_for_cons, e1]
    rcases e2 with e2 | e2 <;> simp [e2, e3]
theorem for_inv {g : DG} {b : DStm} {items : List D} {s : DS} (P : Nat → DS → Prop) (h0 : P 0 s) (step : ∀ (i : Nat) (d : D) (s : DS), items[i]? = some d → P i s → ∃ s1 s2, g d s = .ok () s1 ∧ (b s1 = .ok .nx s2 ∨ b s1 = .ok .ct s2) ∧ P (i + 1) s2) :
    ∃ s', forL g b items s = .ok .nx s' ∧ P items.length s' := by
  obtain ⟨s', e, hp⟩ := forL_inv P step items 0 s (fun j => by simp) h0
  exact ⟨s', e, by simpa using hp⟩
@[simp] theorem rngL_len (lo : Int) (n : Nat) : (rngL lo n).length = n := by simp [rngL]
theorem rngL_get {lo : Int} {n i : Nat} {d : D} (h : (rngL lo n)[i]? = some d) : i < n ∧ d = .int (lo + i) := by
  unfold rngL at h
  rw [List.getElem?_map] at h
  cases e : (List.range n)[i]? with
  | none => rw [e] at h; cases h
  | some k =>
    rw [e] at h
    cases h
    have hi : i < n := by simpa using (List.getElem?_eq_some_iff.mp e).1
    rw [List.getElem?_range hi] at e
    cases e
    exact ⟨hi, rfl⟩
end DL
set_option maxRecDepth 100000
set_option maxHeartbeats 4000000
set_option autoImplicit false
namespace DL
open PySem
/-! ### == of plain data, by data alone -/
mutual
def plD : D → Bool
  | .non => true
  | .bl _ => true
  | .int _ => true
  | .str l => l.all (· < 0x110000)
  | .tup xs => plDs xs
  | .lst xs => plDs xs
  | .scr xs => plDs xs
  | _ => false
def plDs : List D → Bool
  | [] => true
  | x :: r => plD x && plDs r
end
mutual
def dpD : D → Nat
  | .tup xs => dpDs xs + 1
  | .lst xs => dpDs xs + 1
  | .scr xs => dpDs xs + 1
  | _ => 0
def dpDs : List D → Nat
  | [] => 0
  | x :: r => max (dpD x) (dpDs r)
end
mutual
def eqPl : D → D → Bool
  | .non, .non => true
  | .bl a, .bl b => a == b
  | .bl a, .int j => decide ((if a then (1 : Int) else 0) = j)
  | .int i, .bl b => decide (i = if b then (1 : Int) else 0)
  | .int i, .int j => decide (i = j)
  | .str a, .str b => decide (a = b)
  | .tup xs, .tup ys => eqPls xs ys
  | .lst xs, .lst ys => eqPls xs ys
  | .scr xs, .lst ys => eqPls xs ys
  | .lst xs, .scr ys => eqPls xs ys
  | .scr xs, .scr ys => eqPls xs ys
  | _, _ => false
def eqPls : List D → List D → Bool
  | [], [] => true
  | x :: xs, y :: ys => eqPl x y && eqPls xs ys
  | _, _ => false
end
theorem strOk_nm (l : Nm) : PyData.strOk (nm l) = l.all (· < 0x110000) := by simp [PyData.strOk, nm]
mutual
theorem toPy_pl : ∀ d : D, plD d = true → ∃ p, toPy d = some p ∧ p.canLay0 = true ∧ p.depth = dpD d
  | .non, _ => ⟨.none, rfl, rfl, rfl⟩
  | .bl b, _ => ⟨.bool b, rfl, rfl, rfl⟩
  | .int i, _ => ⟨.int i, rfl, rfl, rfl⟩
  | .str l, h => ⟨.str (nm l), rfl, by simp only [plD] at h; simp only [PyData.canLay0, strOk_nm]; exact h, rfl⟩
  | .tup xs, h => by
    obtain ⟨ps, h1, h2, h3⟩ := toPys_pl xs h
    exact ⟨.tuple ps, by simp [toPy, h1], h2, by simp [PyData.depth, dpD, h3]⟩
  | .lst xs, h => by
    obtain ⟨ps, h1, h2, h3⟩ := toPys_pl xs h
    exact ⟨.list ps, by simp [toPy, h1], h2, by simp [PyData.depth, dpD, h3]⟩
  | .scr xs, h => by
    obtain ⟨ps, h1, h2, h3⟩ := toPys_pl xs h
    exact ⟨.list ps, by simp [toPy, h1], h2, by simp [PyData.depth, dpD, h3]⟩
  | .dic _, h => by simp [plD] at h
  | .ins _ _, h => by simp [plD] at h
  | .cell _, h => by simp [plD] at h
  | .cls _, h => by simp [plD] at h
  | .ty _, h => by simp [plD] at h
  | .fn _, h => by simp [plD] at h
  | .lam _, h => by simp [plD] at h
theorem toPys_pl : ∀ ds : List D, plDs ds = true → ∃ ps, toPys ds = some ps ∧ PyData.canLayAll0 ps = true ∧ PyData.depthAll ps = dpDs ds
  | [], _ => ⟨[], rfl, rfl, rfl⟩
  | d :: r, h => by
    simp only [plDs, Bool.and_eq_true] at h
    obtain ⟨p, h1, h2, h3⟩ := toPy_pl d h.1
    obtain ⟨ps, h4, h5, h6⟩ := toPys_pl r h.2
    exact ⟨p :: ps, by simp [toPys, h1, h4], by simp [PyData.canLayAll0, h2, h5], by simp [PyData.depthAll, dpDs, h3, h6]⟩
end
theorem nm_beq (a b : Nm) : (nm a == nm b) = decide (a = b) := by
  by_cases e : a = b
  · subst e; simp
  · rw [beq_eq_false_iff_ne.mpr fun z => e (nm_inj z)]; simp [e]
theorem dec_beq (a b : Int) : (a == b) = decide (a = b) := by simp [Bool.beq_eq_decide_eq]
mutual
theorem eqv_pl : ∀ (x y : D) (p q : PyData), toPy x = some p → toPy y = some q → PyData.eqv p q = eqPl x y := by
  intro x y p q h1 h2
  cases x <;> cases y <;> first
    | (simp [toPy] at h1; done)
    | (simp [toPy] at h2; done)
    | (simp only [toPy, Option.some.injEq] at h1 h2; subst h1; subst h2; first | rfl | exact dec_beq _ _ | exact nm_beq _ _ | (simp [PyData.eqv, eqPl]; done))
    | (simp only [toPy, Option.map_eq_some_iff, Option.some.injEq] at h1 h2
       first
         | (obtain ⟨ps, e1, rfl⟩ := h1; obtain ⟨qs, e2, rfl⟩ := h2; first | exact eqvs_pl _ _ _ _ e1 e2 | rfl)
         | (obtain ⟨ps, e1, rfl⟩ := h1; subst h2; rfl)
         | (obtain ⟨qs, e2, rfl⟩ := h2; subst h1; rfl))
theorem eqvs_pl : ∀ (xs ys : List D) (ps qs : List PyData), toPys xs = some ps → toPys ys = some qs → PyData.eqvAll ps qs = eqPls xs ys
  | [], [], ps, qs, h1, h2 => by cases h1; cases h2; rfl
  | [], y :: ys, ps, qs, h1, h2 => by
    cases h1
    simp only [toPys, Option.bind_eq_some_iff, Option.map_eq_some_iff] at h2
    obtain ⟨p, _, q, _, rfl⟩ := h2
    rfl
  | x :: xs, [], ps, qs, h1, h2 => by
    cases h2
    simp only [toPys, Option.bind_eq_some_iff, Option.map_eq_some_iff] at h1
    obtain ⟨p, _, q, _, rfl⟩ := h1
    rfl
  | x :: xs, y :: ys, ps, qs, h1, h2 => by
    simp only [toPys, Option.bind_eq_some_iff, Option.map_eq_some_iff] at h1 h2
    obtain ⟨p, e1, q, e2, rfl⟩ := h1
    obtain ⟨p', e3, q', e4, rfl⟩ := h2
    simp only [PyData.eqvAll, eqPls, eqv_pl x y p p' e1 e3, eqvs_pl xs ys q q' e2 e4]
end
def plOk (d : D) : Prop := plD d = true ∧ dpD d ≤ 64
theorem dEq_pl (x y : D) (h : plOk x) (k : plOk y) : dEq x y = some (.bl (eqPl x y)) := by
  obtain ⟨p, a1, a2, a3⟩ := toPy_pl x h.1
  obtain ⟨q, b1, b2, b3⟩ := toPy_pl y k.1
  have s1 : SeqAt.shaped p = true := by
    unfold SeqAt.shaped
    rw [a2, a3]
    simp [h.2]
  have s2 : SeqAt.shaped q = true := by
    unfold SeqAt.shaped
    rw [b2, b3]
    simp [k.2]
  unfold dEq
  rw [a1, b1]
  simp only [s1, s2, Bool.and_self, if_true, eqv_pl x y p q a1 b1]
theorem dNe_pl (x y : D) (h : plOk x) (k : plOk y) : dNe x y = some (.bl (!eqPl x y)) := by
  obtain ⟨p, a1, a2, a3⟩ := toPy_pl x h.1
  obtain ⟨q, b1, b2, b3⟩ := toPy_pl y k.1
  have s1 : SeqAt.shaped p = true := by
    unfold SeqAt.shaped
    rw [a2, a3]
    simp [h.2]
  have s2 : SeqAt.shaped q = true := by
    unfold SeqAt.shaped
    rw [b2, b3]
    simp [k.2]
  unfold dNe
  rw [a1, b1]
  simp only [s1, s2, Bool.and_self, if_true, eqv_pl x y p q a1 b1]
@[simp] theorem pl_non : plOk .non := ⟨rfl, by simp [dpD]⟩
@[simp] theorem pl_bl (b : Bool) : plOk (.bl b) := ⟨rfl, by simp [dpD]⟩
@[simp] theorem pl_int (i : Int) : plOk (.int i) := ⟨rfl, by simp [dpD]⟩
theorem pl_str (l : Nm) (h : l.all (· < 0x110000) = true) : plOk (.str l) := ⟨h, by simp [dpD]⟩
/-- flat items -/
def plF (d : D) : Prop := plD d = true ∧ dpD d ≤ 60
def plFs (ds : List D) : Prop := plDs ds = true ∧ dpDs ds ≤ 60
@[simp] theorem plFs_nil : plFs [] ↔ True := by simp [plFs, plDs, dpDs]
@[simp] theorem plFs_cons (d : D) (r : List D) : plFs (d :: r) ↔ plF d ∧ plFs r := by
  simp only [plFs, plF, plDs, dpDs, Bool.and_eq_true, Nat.max_le]
  constructor <;> intro h <;> simp [h]
@[simp] theorem plF_non : plF .non ↔ True := by simp [plF, plD, dpD]
@[simp] theorem plF_bl (b : Bool) : plF (.bl b) ↔ True := by simp [plF, plD, dpD]
@[simp] theorem plF_int (i : Int) : plF (.int i) ↔ True := by simp [plF, plD, dpD]
@[simp] theorem plF_str (l : Nm) : plF (.str l) ↔ l.all (· < 0x110000) = true := by simp [plF, plD, dpD]
theorem plF_tup3 (x y z : Int) : plF (.tup [.int x, .int y, .int z]) := by simp [plF, plD, plDs, dpD, dpDs]
theorem plFs_ints (ns : List Int) : plFs (ns.map D.int) := by
  induction ns with
  | nil => simp
  | cons a r ih => simp [ih]
theorem pl_tup (xs : List D) (h : plFs xs) : plOk (.tup xs) := ⟨h.1, by have := h.2; simp only [dpD]; omega⟩
theorem pl_lst (xs : List D) (h : plFs xs) : plOk (.lst xs) := ⟨h.1, by have := h.2; simp only [dpD]; omega⟩
theorem plF.ok {d : D} (h : plF d) : plOk d := ⟨h.1, by have := h.2; omega⟩
@[simp] theorem dEq_tt (xs ys : List D) (h : plFs xs) (k : plFs ys) : dEq (.tup xs) (.tup ys) = some (.bl (eqPls xs ys)) := dEq_pl _ _ (pl_tup _ h) (pl_tup _ k)
@[simp] theorem dNe_tt (xs ys : List D) (h : plFs xs) (k : plFs ys) : dNe (.tup xs) (.tup ys) = some (.bl (!eqPls xs ys)) := dNe_pl _ _ (pl_tup _ h) (pl_tup _ k)
@[simp] theorem dEq_ll (xs ys : List D) (h : plFs xs) (k : plFs ys) : dEq (.lst xs) (.lst ys) = some (.bl (eqPls xs ys)) := dEq_pl _ _ (pl_lst _ h) (pl_lst _ k)
@[simp] theorem dNe_ll (xs ys : List D) (h : plFs xs) (k : plFs ys) : dNe (.lst xs) (.lst ys) = some (.bl (!eqPls xs ys)) := dNe_pl _ _ (pl_lst _ h) (pl_lst _ k)
@[simp] theorem dEq_ss (a b : Nm) (h : a.all (· < 0x110000) = true) (k : b.all (· < 0x110000) = true) : dEq (.str a) (.str b) = some (.bl (decide (a = b))) := dEq_pl _ _ (pl_str _ h) (pl_str _ k)
@[simp] theorem dNe_ss (a b : Nm) (h : a.all (· < 0x110000) = true) (k : b.all (· < 0x110000) = true) : dNe (.str a) (.str b) = some (.bl (!decide (a = b))) := dNe_pl _ _ (pl_str _ h) (pl_str _ k)
@[simp] theorem dEq_nt (xs : List D) (h : plFs xs) : dEq .non (.tup xs) = some (.bl false) := dEq_pl _ _ pl_non (pl_tup _ h)
@[simp] theorem dEq_tn (xs : List D) (h : plFs xs) : dEq (.tup xs) .non = some (.bl false) := dEq_pl _ _ (pl_tup _ h) pl_non
@[simp] theorem dNe_nt (xs : List D) (h : plFs xs) : dNe .non (.tup xs) = some (.bl true) := dNe_pl _ _ pl_non (pl_tup _ h)
@[simp] theorem dNe_tn (xs : List D) (h : plFs xs) : dNe (.tup xs) .non = some (.bl true) := dNe_pl _ _ (pl_tup _ h) pl_non
@[simp] theorem dEq_nn : dEq .non .non = some (.bl true) := dEq_pl _ _ pl_non pl_non
@[simp] theorem dNe_nn : dNe .non .non = some (.bl false) := dNe_pl _ _ pl_non pl_non
@[simp] theorem eqPls_nil : eqPls [] [] = true := by simp [eqPls]
@[simp] theorem eqPls_cons (x y : D) (xs ys : List D) : eqPls (x :: xs) (y :: ys) = (eqPl x y && eqPls xs ys) := by simp [eqPls]
@[simp] theorem eqPls_nc (y : D) (ys : List D) : eqPls [] (y :: ys) = false := by simp [eqPls]
@[simp] theorem eqPls_cn (y : D) (ys : List D) : eqPls (y :: ys) [] = false := by simp [eqPls]
@[simp] theorem eqPl_int (i j : Int) : eqPl (.int i) (.int j) = decide (i = j) := by simp [eqPl]
@[simp] theorem eqPl_str (i j : Nm) : eqPl (.str i) (.str j) = decide (i = j) := by simp [eqPl]
@[simp] theorem eqPl_tup (i j : List D) : eqPl (.tup i) (.tup j) = eqPls i j := by simp [eqPl]
@[simp] theorem eqPl_lst (i j : List D) : eqPl (.lst i) (.lst j) = eqPls i j := by simp [eqPl]
@[simp] theorem eqPl_nn : eqPl .non .non = true := by simp [eqPl]
@[simp] theorem eqPl_bb (a b : Bool) : eqPl (.bl a) (.bl b) = (a == b) := by simp [eqPl]
mutual
theorem eqPl_refl : ∀ d : D, plD d = true → eqPl d d = true
  | .non, _ => by simp
  | .bl b, _ => by simp
  | .int i, _ => by simp
  | .str l, _ => by simp
  | .tup xs, h => by simp only [eqPl]; exact eqPls_refl xs h
  | .lst xs, h => by simp only [eqPl]; exact eqPls_refl xs h
  | .scr xs, h => by simp only [eqPl]; exact eqPls_refl xs h
  | .dic _, h => by simp [plD] at h
  | .ins _ _, h => by simp [plD] at h
  | .cell _, h => by simp [plD] at h
  | .cls _, h => by simp [plD] at h
  | .ty _, h => by simp [plD] at h
  | .fn _, h => by simp [plD] at h
  | .lam _, h => by simp [plD] at h
theorem eqPls_refl : ∀ ds : List D, plDs ds = true → eqPls ds ds = true
  | [], _ => by simp
  | d :: r, h => by
    simp only [plDs, Bool.and_eq_true] at h
    simp only [eqPls, eqPl_refl d h.1, eqPls_refl r h.2, Bool.and_self]
end
end DL
set_option maxRecDepth 100000
set_option maxHeartbeats 4000000
set_option autoImplicit false
namespace DL
/-! ### readings of DLk -/
@[simp] theorem r_eIxO (i : Nat) (fb : DE) (s : DS) : eIxO i fb s = match s.sl[i]? with
  | some (.ol _) => (fb s).bind fun y s1 => match y, s1.sl[i]? with
    | .int k, some (.ol xs) => (match L2.atI xs k with | some d => .ok d s1 | none => .stuck)
    | _, _ => .stuck
  | some (.val x) => (fb s).bind fun y s1 => match y with
    | .int k => (match ixD x k with | some d => .ok d s1 | none => .stuck)
    | _ => .stuck
  | _ => .stuck := rfl
@[simp] theorem r_eTruO (i : Nat) (s : DS) : eTruO i s = match s.sl[i]? with
  | some (.ol xs) => .ok (!xs.isEmpty) s
  | some (.val d) => (match truD d with | some b => .ok b s | none => .stuck)
  | _ => .stuck := rfl
@[simp] theorem r_sIxO (i : Nat) (fi fv : DE) (s : DS) : sIxO i fi fv s = (fv s).bind fun d s1 => match s1.sl[i]? with
  | some (.ol _) => (fi s1).bind fun y s2 => match y, s2.sl[i]? with
    | .int k, some (.ol xs) => (match L2.ixN xs.length k with | some j => .ok .nx ⟨s2.sl.set i (.ol (xs.set j d)), s2.st⟩ | none => .stuck)
    | _, _ => .stuck
  | _ => .stuck := rfl
@[simp] theorem r_eProp (c : String) (g : DFn) (f : DE) (s : DS) : eProp c g f s = (f s).bind fun d s1 => match insOf d s1 with
  | some (c1, _) => if c1 = c then noX (lift s1 (g [d] s1.st)) else .stuck
  | none => .stuck := rfl
@[simp] theorem r_eChain (o o' : D → D → Option D) (fa fb fc : DE) (s : DS) : eChain o o' fa fb fc s = (fa s).bind fun x s1 => (fb s1).bind fun y s2 => match o x y with
  | some (.bl true) => (fc s2).bind fun z s3 => match o' y z with
    | some d => .ok d s3
    | none => .stuck
  | some (.bl false) => .ok (.bl false) s2
  | _ => .stuck := rfl
@[simp] theorem r_eSix (fo : DE) (fa : DA) (s : DS) : eSix fo fa s = (fo s).bind fun x s1 => match x with
  | .str a => (fa s1).bind fun ds s2 => match ds with
    | [.str b] => (match PySem.Txt.index0 (nm a) (nm b) with | some k => .ok (.int (k : Nat)) s2 | none => .stuck)
    | _ => .stuck
  | _ => .stuck := rfl
@[simp] theorem r_eBM (T : String) (o : D → List D → Option D) (fo : DE) (fa : DA) (s : DS) : eBM T o fo fa s = (fo s).bind fun x s1 => if MtD.tyOk T x = true then (fa s1).bind fun ds s2 => match o x ds with
  | some d => .ok d s2
  | none => .stuck
  else .stuck := rfl
@[simp] theorem r_tyOk_s (T : String) (l : Nm) : MtD.tyOk T (.str l) = (T == "str") := rfl
@[simp] theorem r_mJoin (a : Nm) (ds : List D) : mJoin (.str a) [.lst ds] = match strsOf ds with
    | some ls => if (ls.map (·.length)).sum + ls.length * a.length ≤ 16777216 then some (.str (TL.joinL a ls)) else none
    | none => none := rfl
@[simp] theorem r_bDivmod (i j : Int) : bDivmod [.int i, .int j] = if 0 < j ∧ divOk j = true then some (.tup [.int (i.fdiv j), .int (i.fmod j)]) else none := rfl
@[simp] theorem r_eFz (i : Nat) (f : DE) (s : DS) : eFz i f s = match s.sl[i]? with
  | some (.ol xs) => f ⟨s.sl.set i (.val (.lst xs)), s.st⟩
  | some (.od kvs) => f ⟨s.sl.set i (.val (.dic kvs)), s.st⟩
  | some (.oi c fs) => f ⟨s.sl.set i (.val (.ins c fs)), s.st⟩
  | _ => f s := rfl
/-! ### lambdas, tries -/
@[simp] theorem r_eLam (n : Nat) (tk k : String) (s : DS) : eLam n tk k s = match s.st[n]? with
  | some (.tab t) => if t = tk then .ok (.lam k) s else .stuck
  | _ => .stuck := rfl
@[simp] theorem r_eAct (Λ : LamR) (i : Nat) (s : DS) : eAct Λ i s = match s.sl[i]? with
  | some (.val (.lam k)) => lift s (Λ k s.st)
  | _ => .stuck := rfl
@[simp] theorem r_eCallL (n : Nat) (g : LamR → DFn) (bs : String → Option DE) (fa : DA) (s : DS) : eCallL n g bs fa s = (fa s).bind fun ds s1 => if ds.length = n then lift s1 (g (lamR bs s1.sl) ds s1.st) else .stuck := rfl
@[simp] theorem r_lamR (bs : String → Option DE) (sl : List Sl) (k : String) (st : List Cell) : lamR bs sl k st = match bs k with
  | some b => lamRun b sl st
  | none => .stuck := rfl
@[simp] theorem r_lamRun (b : DE) (sl : List Sl) (st : List Cell) : lamRun b sl st = match b ⟨sl.map stripS, st⟩ with
  | .ok d s' => .ok d s'.st
  | .exc x s' => .exc x s'.st
  | .stuck => .stuck := rfl
@[simp] theorem r_strip_v (d : D) : stripS (.val d) = .val d := rfl
@[simp] theorem r_strip_u : stripS .un = .un := rfl
@[simp] theorem r_strip_l (xs : List D) : stripS (.ol xs) = .un := rfl
@[simp] theorem r_sTry (b : DStm) (hs : List HdR) (s : DS) : sTry b hs s = match b s with
  | .exc x s1 => catchD hs x s1
  | r => r := rfl
@[simp] theorem r_catch_nil (x : Xc) (s : DS) : catchD [] x s = .exc x s := rfl
@[simp] theorem r_catch_none (c : PySem.Value) (m : String → Option Bool) (f : Xc → DStm) (r : List HdR) (x : Xc) (s : DS) : catchD (⟨c, none, m, f⟩ :: r) x s = match m x.cls with
    | some true => noX (f x s)
    | some false => catchD r x s
    | none => .stuck := rfl
@[simp] theorem r_catch_some (c : PySem.Value) (i : Nat) (m : String → Option Bool) (f : Xc → DStm) (r : List HdR) (x : Xc) (s : DS) : catchD (⟨c, some i, m, f⟩ :: r) x s = match m x.cls with
    | some true => if i < s.sl.length then unD i (noX (f x ⟨s.sl.set i .un, s.st⟩)) else .stuck
    | some false => catchD r x s
    | none => .stuck := rfl
@[simp] theorem r_unD (i : Nat) (r : Res DS Out) : unD i r = r.bind fun o s => .ok o ⟨s.sl.set i .un, s.st⟩ := rfl
@[simp] theorem r_hmT (yes no : List String) (k : String) : hmT yes no k = if k ∈ yes then some true else if k ∈ no then some false else none := rfl
@[simp] theorem r_eXf (c : String) (f : Nm) (x : Xc) (s : DS) : eXf c f x s = if x.cls = c then match x.fs.lookup f with | some d => .ok d s | none => .stuck else .stuck := rfl
/-! ### indexes from behind -/
theorem ixN_last {n : Nat} (h : 0 < n) : L2.ixN n (-1) = some (n - 1) := by
  unfold L2.ixN
  rw [if_neg (by omega), if_pos (by omega)]
  congr 1
  omega
theorem at_neg1 {α : Type} (xs : List α) (x : α) : L2.atI (xs ++ [x]) (-1) = some x := by
  unfold L2.atI
  rw [ixN_last (by simp)]
  simp
theorem set_last {α : Type} (xs : List α) (x y : α) : (xs ++ [x]).set ((xs ++ [x]).length - 1) y = xs ++ [y] := by
  simp
theorem at_nat {α : Type} {xs : List α} {i : Nat} {x : α} (h : xs[i]? = some x) : L2.atI xs (i : Int) = some x := L2.atI_nat h
/-! ### comprehensions that leave the store -/
theorem lc_gen {vs : List Nat} {g : DG} {t : DT} {e : DE} {s0 : DS} (τ : D → Bool) (f : D → D) : ∀ (items acc : List D), (∀ d ∈ items, ∃ s1 s2, g d (wipeS vs s0) = .ok () s1 ∧ t s1 = .ok (τ d) s2 ∧ (τ d = true → ∃ s3, e s2 = .ok (f d) s3 ∧ wipeS vs s3 = wipeS vs s0) ∧ (τ d = false → wipeS vs s2 = wipeS vs s0)) →
    items.length + acc.length ≤ 1000000 → ∀ s, wipeS vs s = wipeS vs s0 → ∃ s', lcL vs g t e items acc s = .ok (acc ++ (items.filter τ).map f) s' ∧ wipeS vs s' = wipeS vs s0
  | [], acc, _, _, s, hs => ⟨s, by simp, hs⟩
  | d :: r, acc, h, hl, s, hs => by
    obtain ⟨s1, s2, e1, e2, e3, e4⟩ := h d (List.mem_cons_self ..)
    have hr := fun d hd => h d (List.mem_cons_of_mem _ hd)
    simp only [List.length_cons] at hl
    rw [r_lc_cons, hs, e1]
    cases hτ : τ d with
    | true =>
      obtain ⟨s3, e5, e6⟩ := e3 hτ
      obtain ⟨s', e7, e8⟩ := lc_gen τ f r (acc ++ [f d]) hr (by simp; omega) s3 e6
      refine ⟨s', ?_, e8⟩
      have : acc.length < 1000000 := by omega
      simp [e2, hτ, e5, this, e7]
    | false =>
      obtain ⟨s', e7, e8⟩ := lc_gen τ f r acc hr (by omega) s2 (e4 hτ)
      refine ⟨s', ?_, e8⟩
      simp [e2, hτ, e7]
theorem aLc_gen {vs : List Nat} {it : DA} {g : DG} {t : DT} {e : DE} {s s0 : DS} {items : List D} (τ : D → Bool) (f : D → D) (hi : it s = .ok items s0) (h : ∀ d ∈ items, ∃ s1 s2, g d (wipeS vs s0) = .ok () s1 ∧ t s1 = .ok (τ d) s2 ∧ (τ d = true → ∃ s3, e s2 = .ok (f d) s3 ∧ wipeS vs s3 = wipeS vs s0) ∧ (τ d = false → wipeS vs s2 = wipeS vs s0))
    (hl : items.length ≤ 1000000) : aLc vs it g t e s = .ok ((items.filter τ).map f) ⟨unwipe vs s0.sl (wipeD vs s0.sl), s0.st⟩ := by
  obtain ⟨s', e1, e2⟩ := lc_gen τ f items [] h (by simpa using hl) s0 rfl
  have e3 : wipeD vs s'.sl = wipeD vs s0.sl := congrArg DS.sl e2
  have e4 : s'.st = s0.st := by have := congrArg DS.st e2; simpa using this
  rw [r_aLc, hi]
  simp [e1, e3, e4]
theorem aLc_map {vs : List Nat} {it : DA} {g : DG} {e : DE} {s s0 : DS} {items : List D} (f : D → D) (hi : it s = .ok items s0) (h : ∀ d ∈ items, ∃ s1 s3, g d (wipeS vs s0) = .ok () s1 ∧ e s1 = .ok (f d) s3 ∧ wipeS vs s3 = wipeS vs s0)
    (hl : items.length ≤ 1000000) : aLc vs it g bYes e s = .ok (items.map f) ⟨unwipe vs s0.sl (wipeD vs s0.sl), s0.st⟩ := by
  have := aLc_gen (vs := vs) (it := it) (g := g) (t := bYes) (e := e) (s := s) (fun _ => true) f hi (fun d hd => by
    obtain ⟨s1, s3, e1, e2, e3⟩ := h d hd
    exact ⟨s1, s1, e1, rfl, fun _ => ⟨s3, e2, e3⟩, fun z => nomatch z⟩) hl
  rwa [List.filter_eq_self.mpr (fun _ _ => rfl)] at this
/-! comprehensions that draw: by an invariant of the store -/
theorem lc_inv {vs : List Nat} {g : DG} {e : DE} {s0 : List Sl} {items : List D} (P : Nat → List D → List Cell → Prop) (step : ∀ (i : Nat) (d : D) (acc : List D) (S : List Cell), items[i]? = some d → P i acc S → ∃ s1 y s3, g d ⟨wipeD vs s0, S⟩ = .ok () s1 ∧ e s1 = .ok y s3 ∧ wipeD vs s3.sl = wipeD vs s0 ∧ P (i + 1) (acc ++ [y]) s3.st) :
    ∀ (l : List D) (i : Nat) (acc : List D) (s : DS), (∀ j, l[j]? = items[i + j]?) → l.length + acc.length ≤ 1000000 → wipeD vs s.sl = wipeD vs s0 → P i acc s.st → ∃ ys s', lcL vs g bYes e l acc s = .ok ys s' ∧ wipeD vs s'.sl = wipeD vs s0 ∧ P (i + l.length) ys s'.st
  | [], i, acc, s, h, _, hs, hp => ⟨acc, s, rfl, hs, hp⟩
  | d :: l, i, acc, s, h, hl, hs, hp => by
    have h0 := h 0
    simp only [List.getElem?_cons_zero, Nat.add_zero] at h0
    simp only [List.length_cons] at hl
    obtain ⟨s1, y, s3, e1, e2, e3, hp2⟩ := step i d acc s.st h0.symm hp
    obtain ⟨ys, s', e4, e5, hp3⟩ := lc_inv P step l (i + 1) (acc ++ [y]) s3 (fun j => by
      have := h (j + 1)
      rw [List.getElem?_cons_succ] at this
      rw [this]
      congr 1
      omega) (by simp; omega) e3 hp2
    refine ⟨ys, s', ?_, e5, by rw [show i + (d :: l).length = i + 1 + l.length by simp; omega]; exact hp3⟩
    have : acc.length < 1000000 := by omega
    rw [r_lc_cons, show wipeS vs s = ⟨wipeD vs s0, s.st⟩ by simp [hs], e1]
    simp [e2, this, e4]
theorem aLc_inv {vs : List Nat} {it : DA} {g : DG} {e : DE} {s : DS} {s0 : DS} {items : List D} (P : Nat → List D → List Cell → Prop) (hi : it s = .ok items s0) (h0 : P 0 [] s0.st) (step : ∀ (i : Nat) (d : D) (acc : List D) (S : List Cell), items[i]? = some d → P i acc S → ∃ s1 y s3, g d ⟨wipeD vs s0.sl, S⟩ = .ok () s1 ∧ e s1 = .ok y s3 ∧ wipeD vs s3.sl = wipeD vs s0.sl ∧ P (i + 1) (acc ++ [y]) s3.st)
    (hl : items.length ≤ 1000000) : ∃ ys S', aLc vs it g bYes e s = .ok ys ⟨unwipe vs s0.sl (wipeD vs s0.sl), S'⟩ ∧ P items.length ys S' := by
  obtain ⟨ys, s', e1, e2, hp⟩ := lc_inv P step items 0 [] s0 (fun j => by simp) (by simpa using hl) rfl h0
  refine ⟨ys, s'.st, ?_, by simpa using hp⟩
  rw [r_aLc, hi]
  simp [e1, e2]
/-! isinstance(x, (list, tuple)) -/
def isLT (cs : List String) : D → Option Bool
  | .lst _ => some true
  | .scr _ => some true
  | .tup _ => some true
  | .ins c _ => if c ∈ cs then some false else none
  | .non => some false
  | .bl _ => some false
  | .int _ => some false
  | .str _ => some false
  | .dic _ => some false
  | _ => none
theorem isLT_eq (cs : List String) (d : D) : ((tyOfD cs d).bind fun t => isAny cs t [.ty "list", .ty "tuple"]) = isLT cs d := by
  cases d <;> simp [isLT, tyOfD, tyD, isAny, isOne, mem_ty, isTy]
  split <;> simp [isAny, isOne, mem_ty]
@[simp] theorem r_isLT (cs : List String) (fe : DE) (s : DS) : eIsT cs fe (aCons (eC (.ty "list")) (aCons (eC (.ty "tuple")) aNil)) s = (fe s).bind fun d s1 => match isLT cs d with
  | some b => .ok (.bl b) s1
  | none => .stuck := by
  unfold eIsT
  simp [clsD, isLT_eq]
  all_goals rfl
/-! x != [] of an own list -/
@[simp] theorem r_eNeO (i : Nat) (s : DS) : eNeO i s = match s.sl[i]? with
  | some (.ol xs) => (match dNe (.lst xs) (.lst []) with | some (.bl b) => .ok b s | _ => .stuck)
  | some (.val d) => (match dNe d (.lst []) with | some (.bl b) => .ok b s | _ => .stuck)
  | _ => .stuck := rfl
@[simp] theorem r_sPar3O (i j l : Nat) (f1 f2 : DA) (f3 : DE) (s : DS) : sPar3O i j l f1 f2 f3 s = match f1 s with
  | .ok xs s1 => match f2 s1 with
    | .ok ys s2 => match f3 s2 with
      | .ok d s3 => .ok .nx ⟨((s3.sl.set i (.ol xs)).set j (.ol ys)).set l (.val d), s3.st⟩
      | _ => .stuck
    | _ => .stuck
  | _ => .stuck := rfl
@[simp] theorem r_dIsB (a b : Bool) : dIsB (.bl a) (.bl b) = some (.bl (decide (a = b))) := rfl
@[simp] theorem r_dNotB (a b : Bool) : dNotB (.bl a) (.bl b) = some (.bl (!decide (a = b))) := rfl
@[simp] theorem r_gTA_t (n : Nat) (g : List D → DS → Res DS Unit) (ds : List D) (s : DS) : gTA n g (.tup ds) s = if ds.length = n then g ds s else .stuck := rfl
@[simp] theorem r_gTA_l (n : Nat) (g : List D → DS → Res DS Unit) (ds : List D) (s : DS) : gTA n g (.lst ds) s = if ds.length = n then g ds s else .stuck := rfl
@[simp] theorem r_sMul (l : Nm) (n : Int) : sMul (.str l) (.int n) = if l.length ≤ 100 ∧ -100000 ≤ n ∧ n ≤ 100000 then some (.str (List.replicate n.toNat l).flatten) else none := rfl
@[simp] theorem r_tAdd (a b : List D) : tAdd (.tup a) (.tup b) = if a.length + b.length ≤ 1000000 then some (.tup (a ++ b)) else none := rfl
/-! equality of truth values, refusals -/
@[simp] theorem dNe_bb (a b : Bool) : dNe (.bl a) (.bl b) = some (.bl (!(a == b))) := by
  rw [dNe_pl _ _ (pl_bl a) (pl_bl b)]
  cases a <;> cases b <;> rfl
@[simp] theorem dEq_bb (a b : Bool) : dEq (.bl a) (.bl b) = some (.bl (a == b)) := by
  rw [dEq_pl _ _ (pl_bl a) (pl_bl b)]
  cases a <;> cases b <;> rfl
theorem ne_refl {xs : List D} (h : plFs xs) : dNe (.tup xs) (.tup xs) = some (.bl false) := by
  rw [dNe_tt _ _ h h, eqPls_refl _ h.1]; rfl
theorem noLams_int (cs : List Int) : noLams (cs.map D.int) = true := by
  induction cs with
  | nil => rfl
  | cons c cs ih => simp [noLams, noLam, ih]
/-! ### texts put together -/
theorem joinL_ones : ∀ l : List Nat, TL.joinL [] (l.map fun c => [c]) = l
  | [] => rfl
  | [c] => rfl
  | c :: d :: r => by
    have := joinL_ones (d :: r)
    simp only [List.map_cons] at this ⊢
    simp [TL.joinL, this]
theorem strsOf_ones (l : List Nat) : strsOf (l.map fun c => D.str [c]) = some (l.map fun c => [c]) := by
  induction l with
  | nil => rfl
  | cons c l ih => simp [strsOf, ih]
theorem sum_ones (l : List Nat) : ((l.map fun c => [c]).map (·.length)).sum = l.length := by
  induction l with
  | nil => rfl
  | cons c l ih => simp only [List.map_cons, List.sum_cons, ih, List.length_cons, List.length_nil]; omega
theorem join_ones (l : List Nat) (h : l.length ≤ 10000) : mJoin (.str []) [.lst (l.map fun c => D.str [c])] = some (.str l) := by
  rw [r_mJoin, strsOf_ones]
  simp only [sum_ones, joinL_ones, List.length_nil, Nat.mul_zero, Nat.add_zero]
  rw [if_pos (by omega)]
theorem joinL_nil : ∀ ls : List (List Nat), TL.joinL [] ls = ls.flatten
  | [] => rfl
  | [c] => by simp [TL.joinL]
  | c :: d :: r => by
    have := joinL_nil (d :: r)
    simp only [TL.joinL, this, List.flatten_cons, List.nil_append]
theorem strsOf_map {α : Type} (f : α → List Nat) (l : List α) : strsOf (l.map fun x => D.str (f x)) = some (l.map f) := by
  induction l with
  | nil => rfl
  | cons c l ih => simp [strsOf, ih]
theorem join_map {α : Type} (f : α → List Nat) (l : List α) (h : (l.map f).flatten.length ≤ 10000) : mJoin (.str []) [.lst (l.map fun x => D.str (f x))] = some (.str (l.map f).flatten) := by
  rw [r_mJoin, strsOf_map]
  rw [List.length_flatten] at h
  simp only [joinL_nil, List.length_nil, Nat.mul_zero, Nat.add_zero]
  rw [if_pos (Nat.le_trans h (by decide))]
theorem filter_first {α : Type} (τ : α → Bool) : ∀ (l : List α) (f : Nat) (x : α), l[f]? = some x → τ x = true → (∀ i y, i < f → l[i]? = some y → τ y = false) → ∃ r, l.filter τ = x :: r ∧ (∀ z ∈ r, z ∈ l)
  | [], f, x, h, _, _ => by simp at h
  | y :: l, 0, x, h, h1, h2 => by
    simp only [List.getElem?_cons_zero, Option.some.injEq] at h
    subst h
    exact ⟨l.filter τ, by rw [List.filter_cons_of_pos h1], fun z hz => List.mem_cons_of_mem _ (List.mem_filter.mp hz).1⟩
  | y :: l, f + 1, x, h, h1, h2 => by
    have e := h2 0 y (by omega) rfl
    obtain ⟨r, hr, hm⟩ := filter_first τ l f x (by simpa using h) h1 fun i z hi hz => h2 (i + 1) z (by omega) (by simpa using hz)
    exact ⟨r, by rw [List.filter_cons_of_neg (by rw [e]; decide)]; exact hr, fun z hz => List.mem_cons_of_mem _ (hm z hz)⟩
end DL
set_option maxRecDepth 100000
set_option maxHeartbeats 4000000
set_option autoImplicit false
namespace DL
open PySem PySem.Spec PyProof.Rows L2
/-! ### an own error of two fields: super().__init__(x, y); self.f = x; self.g = y -/
theorem eval_si2 (x x2 : Str) (env : Env) (p0 p1 p2 p3 p4 q3 : Pos) (hp : (p2.endLine == p4.line) = true) : eval (.Call (.Attribute (.Call (.Name "super" p0) [] [] p1) "__init__" p2) [.Name x p3, .Name x2 q3] [] p4) env = (do
      let ov ← attributeBase (.Call (.Name "super" p0) [] [] p1) "__init__" env (eval (.Call (.Name "super" p0) [] [] p1) env)
      standAt p2.atName
      let (f, first) ← holding [ov] (getMethod ov "__init__" (do return (← importBound (.Call (.Name "super" p0) [] [] p1) env).getD true))
      callWith p4 f first (backTo p4 (starEach [.Name x p3, .Name x2 q3] env)) []) := by
  have h : ∀ fm, methodCallPos fm (.Call (.Name "super" p0) [] [] p1) env p2 p4 = pure p4 := fun fm => by
    unfold methodCallPos
    rw [hp]
    simp
  show (do
      let ov ← attributeBase (.Call (.Name "super" p0) [] [] p1) "__init__" env (eval (.Call (.Name "super" p0) [] [] p1) env)
      standAt p2.atName
      let (f, first) ← holding [ov] (calleeOf true (.Call (.Name "super" p0) [] [] p1) env ov "__init__")
      let callPos ← methodCallPos true (.Call (.Name "super" p0) [] [] p1) env p2 p4
      callWith callPos f first (backTo p4 (starEach [.Name x p3, .Name x2 q3] env)) []) = _
  rw [h]
  rfl
def spX2 (C : Addr) (f g : Str) : Sp := fun vs H Q _ => ∃ (a : Addr) (y z : V), vs = [.ref a, y, z] ∧ H a = some (exo a C none) ∧ ∀ dx, H dx = none → dx ≠ a → Q .non (upd (upd H dx (exd dx [(g, z), (f, y)])) a (exo a C (some dx)))
/-- what the text and the linked part say of such a def -/
structure XIn2 (P : Program) (K : PySem.W.Frag) (mg : Str → Option Value) (C fI : Addr) (fd : FuncData) (slf x f x2 g : Str) : Prop where
  ex : ∃ (oc doc pm dV kV ct ccl cl : Value) (od an cdd cld : Option Addr) (osl ccs csl : Array (Option Value)) (cda cc : Addr) (name qual file : Str) (params : Arguments) (scope : Scope) (vs : Array Value) (tf : Tok) (ar : Arg) (p0 p1 p2 p3 p4 p5 p6 p7 p8 p9 q3 q6 q7 q8 q9 : Pos),
    fd = PySem.W.fnX name qual params [.Expr (.Call (.Attribute (.Call (.Name "super" p0) [] [] p1) "__init__" p2) [.Name x p3, .Name x2 q3] [] p4) p5, .Assign [.Attribute (.Name slf p6) f p7] (.Name x p8) p9, .Assign [.Attribute (.Name slf q6) g q7] (.Name x2 q8) q9] scope [("__class__", cc)] dV kV doc pm an (.ref cda) ct ∧
    K.lookup fI = some ⟨oc, od, .func fd, osl⟩ ∧ PySem.W.codeIn K (.ref cda) qual = true ∧ (params.posonlyargs ++ params.args).head? = some ar ∧ ar.arg = slf ∧
    K.lookup cda = some ⟨ccl, cdd, .fields vs, ccs⟩ ∧ vs[2]? = some (.str file tf) ∧ ((P.main.file : Str) == file) = true ∧ K.lookup cc = some ⟨cl, cld, .cell (some (.ref C)), csl⟩ ∧
    scope.names.lookup ("super" : Str) = some .globalImplicit ∧ scope.names.lookup ("__class__" : Str) = some .free ∧ scope.names.lookup slf = some .local ∧ scope.names.lookup x = some .local ∧ scope.names.lookup x2 = some .local ∧ (∀ z ∈ scope.names, z.2 ≠ .cell) ∧ scope.kind = .function ∧ scope.isCoroutine = false ∧ scope.isGenerator = false ∧ (p2.endLine == p4.line) = true
  top : (P.main.scope.names.lookup ("super" : Str)).isSome = false
  sup : mg "super" = none
  self : PySem.W.mroIn K C (.ref C) = some true
  al : PySem.W.ks_superIn K C C "__init__" = some (some (.builtin "ValueError.__init__"))
  ve : PySem.W.subIn K (.ref C) (.type "ValueError") = some true
  any : PySem.W.nsIn K cStatics "thirdparty.any" = some none
  cls : OexC K C
  no : PySem.W.findIn K (.ref C) f = some none
  no2 : PySem.W.findIn K (.ref C) g = some none
  ds : (slf == ("__debug__" : Str)) = false
  dx : (x == ("__debug__" : Str)) = false
  sx : slf ≠ x
  dx2 : (x2 == ("__debug__" : Str)) = false
  sx2 : slf ≠ x2
  xx : x ≠ x2
theorem x_ok2 {P : Program} {w0 : World} {K : PySem.W.Frag} {mg : Str → Option Value} {base : Heap} {CX : CXT} {C fI : Addr} {fd : FuncData} {slf x f x2 g : Str} (T : XIn2 P K mg C fI fd slf x f x2 g) : FnOk P w0 K mg base CX 1 fI fd [slf, x, x2] (spX2 C f g) := by
  obtain ⟨⟨oc, doc, pm, dV, kV, ct, ccl, cl, od, an, cdd, cld, osl, ccs, csl, cda, cc, name, qual, file, params, scope, vs, tf, ar, p0, p1, p2, p3, p4, p5, p6, p7, p8, p9, q3, q6, q7, q8, q9, efd, lk, hcd, har, hars, lcd, hvs, hfile, lcc, ksup, kcls, kslf, kx, kx2, kcell, kk, kco, kgen, kpos⟩, htop, hsup, hself, hal, hve, hany, hcls, hno, hno2, hds, hdx, hsx, hdx2, hsx2, hxx⟩ := T
  subst efd
  refine ⟨fun vs H Q E ⟨a, y, z, e, _⟩ => by rw [e]; rfl, fun A outer s H args us vs' Q E hr e0 hb hv hsp => ?_⟩
  obtain ⟨a, y, z2, rfl, ea, hq⟩ := hsp
  cases hv with
  | @cons _ u0 _ ur ra rest =>
  cases rest with
  | @cons _ u _ ur2 ry rest =>
  cases rest with
  | @cons _ u2 _ ur3 rz rest =>
  cases rest
  obtain rfl : u0 = Value.ref a := ra
  have KX : K.In s.heap := e0.mod.kin.keeps fun b o e => (e0.bs b o e).1
  have lim : s.heap.NoLimit := e0.mod.nolimit.keeps fun b o e => (e0.bs b o e).1
  obtain ⟨t0, hea⟩ := exo_at e0.hok ea
  obtain ⟨cn, cq, NS, b1, b2, sns, sbs, abs, col, dd, j0, j1, j2, j3, j5, hC, hbm⟩ := hcls.cls
  have hcl : PySem.W.clsIn K C = some { name := cn, bases := b1, mro := .ref C :: b2, ns := NS, qualname := cq, hasDict := true, slotNames := sns, subclasses := sbs, abstract := abs, collection := col, hasDel := false } := by unfold PySem.W.clsIn; rw [hC] <;> rfl
  refine ks_codeAny_call_defAt (binds := [(slf, .ref a), (x, u), (x2, u2)]) hr.depth (KX _ _ lk) rfl lim (PySem.W.codeRec_of KX hcd) rfl hb kcell (fun z hz => ?_) (fun h0 hns hk0 => ?_) kco kgen kk
  · rcases List.mem_cons.mp hz with rfl | hz
    · exact kslf
    · rcases List.mem_cons.mp hz with rfl | hz
      · exact kx
      · rcases List.mem_cons.mp hz with rfl | hz
        · exact kx2
        · cases hz
  have X0 : K.In h0 := KX.keeps hk0
  have ns_s : (fun y => ([(slf, Value.ref a), (x, u), (x2, u2)] : List (Str × Value)).reverse.lookup y) slf = some (.ref a) := by
    have h1 : (slf == x) = false := by simpa using hsx
    have h2 : (slf == x2) = false := by simpa using hsx2
    simp [List.lookup, h1, h2]
  have ns_x : (fun y => ([(slf, Value.ref a), (x, u), (x2, u2)] : List (Str × Value)).reverse.lookup y) x = some u := by
    have h1 : (x == x2) = false := by simpa using hxx
    simp [List.lookup, h1]
  have ns_x2 : (fun y => ([(slf, Value.ref a), (x, u), (x2, u2)] : List (Str × Value)).reverse.lookup y) x2 = some u2 := by simp [List.lookup]
  have hea0 := hk0 _ _ hea
  have oC : s.heap.get? C = some _ := KX _ _ hC
  have ne_aC : a ≠ C := fun z => by
    rw [z, oC] at hea
    cases hea
  refine ks_wpAt_execs_cons (ks_wpAt_Expr_any (ks_wpAt_MethodCall ?_ (eval_si2 x x2 _ p0 p1 p2 p3 p4 q3 kpos)) (hi := by show (scope.kind == .module && _) = false; rw [kk]; rfl))
  refine ks_wpAt_super_base ksup kcls (by decide) rfl (X0 _ _ lk) rfl har rfl (X0 _ _ lcd) rfl hvs hfile htop ?_
  obtain ⟨mb, hb1, hb2⟩ := e0.mod.blt
  have bk : ∀ b o, base.get? b = some o → h0.get? b = some o := fun b o e => hk0 _ _ (e0.bs b o e).1
  refine PySem.W.ks_loadName_global kk ksup (Calls.loadGlobal_builtin (e0.mod.glob.keeps bk) hsup (hb1.keeps bk) ((hb2 _ (by decide)).trans PyProof.Rows.Boot.«super») ⟨rfl, ?_⟩)
  refine wpAny_loadName_free kk kcls (c := cc) rfl ⟨_, X0 _ _ lcc, rfl⟩ ?_
  rw [hars]
  refine wpAny_loadName_local kk kslf hns ns_s ?_
  refine ks_wpAny_isType_cls (X0 _ _ hC) rfl ⟨rfl, ?_⟩
  refine ks_wpAny_call_super (X0 _ _ hC) rfl hea0 rfl (fun c z => nomatch z) (PySem.W.looks_mroIn X0 hself) (fun h1 hso hk1 => ?_)
  have X1 : K.In h1 := X0.keeps hk1
  have hea1 := hk1 _ _ hea0
  have inst1 : PySem.W.InstAt h1 a _ C none := ⟨hea1, rfl, rfl, trivial⟩
  have hI : PySem.W.Looks (model P w0) h1 (isInstance (.ref a) (.type "ValueError")) true := inst1.type.andThen (PySem.W.looks_subIn X1 hve)
  have hmro : PySem.W.Looks (model P w0) h1 (mroOf (.ref C)) (.ref C :: b2) := (PySem.W.looks_clsIn X1 hcl).andThen .now
  have hal' : PySem.W.alongIn K "__init__" (((Value.ref C :: b2).dropWhile (· != .ref C)).drop 1) = some (some (.builtin "ValueError.__init__")) := by
    unfold PySem.W.ks_superIn at hal
    rw [hcl] at hal
    exact hal
  refine PySem.W.kxs_getMethod PySem.W.kxs_ValueError hso (PySem.W.looks_opaque X1 hany) hmro rfl X1 hal' hI ne_aC (by decide) ?_
  have hmw : (h1.push (PySem.W.kxs_mw "ValueError.__init__" a)).get? h1.objs.size = some (PySem.W.kxs_mw "ValueError.__init__" a) := Heap.get?_push_at rfl rfl
  have kp2 : ∀ b o, h1.get? b = some o → (h1.push (PySem.W.kxs_mw "ValueError.__init__" a)).get? b = some o := fun b o e => Heap.get?_push_of_some _ e
  have ns2 : (h1.push (PySem.W.kxs_mw "ValueError.__init__" a)).Ns s.heap.objs.size (fun y => ([(slf, Value.ref a), (x, u), (x2, u2)] : List (Str × Value)).reverse.lookup y) := (hns.keeps hk1).keeps kp2
  refine PySem.W.kxs_callWith (i := "ValueError.__init__") (x := a) rfl ?_
  refine Calls.evalArgs_plain (Calls.spliced_cons (wpAny_Name (wpAny_loadName_local kk kx ns2 ns_x (Calls.spliced_cons (wpAny_Name (wpAny_loadName_local kk kx2 ns2 ns_x2 (Calls.spliced_nil ⟨hmw, ?_⟩)) hdx2))) hdx))
  refine call_mwV (X1.keeps kp2 _ _ hC) (kp2 _ _ hea1) hmw (by rw [sizeLine_eq]; show 2 ≤ _; decide) fun h3 t1 hk3 hea3 => ?_
  have lt0 : ∀ {b : Addr} {o : Obj}, s.heap.get? b = some o → b ≠ s.heap.objs.size := fun e => Nat.ne_of_lt (Heap.lt_size e)
  have kall : ∀ b o, b ≠ a → s.heap.get? b = some o → h3.get? b = some o := fun b o hb e => hk3 b o hb (kp2 _ _ (hk1 _ _ (hk0 _ _ e)))
  have ne_aL : s.heap.objs.size ≠ a := fun z => lt0 hea z.symm
  have X3 : K.In h3 := fun b o e => hk3 b o (fun z => by
    have := (e0.bs b o (e0.mod.kin b o e)).2
    rw [z, ea] at this
    cases this) (kp2 _ _ (X1 b o e))
  have ns3 : h3.Ns s.heap.objs.size (fun y => ([(slf, Value.ref a), (x, u), (x2, u2)] : List (Str × Value)).reverse.lookup y) := by
    obtain ⟨ob, es, ep, ho, r⟩ := ns2
    exact ⟨ob, es, ep, hk3 _ _ ne_aL ho, r⟩
  show PySem.wpAt _ _ _ (execs [_, _] _) _ _ _
  refine ks_wpAt_execs_cons (PySem.wpAt_of_wpAny (plainObj_wpAny_Assign_Attribute (wpAny_Name (wpAny_loadName_local kk kx ns3 ns_x (wpAny_Name (wpAny_loadName_local kk kslf ns3 ns_s ?_) hds)) hdx)))
  refine PySem.W.set_plain (ox := { cls := .ref C, dict := none, data := .fields #[.ref t1, .none, .none, .none, .bool false, .none] }) (od := none) X3 ⟨hea3, rfl, rfl, trivial⟩ hcls.sa ?_
  refine PySem.HandSPX.exc_osa X3 hea3 hcl (show PySem.HandSPX.refsVE (.ref C :: b2) = true from hbm) rfl hno (fun h4 tk4 dxa hk4 dn dne hx4 hn4 => ?_)
  have ns4 : h4.Ns s.heap.objs.size (fun y => ([(slf, Value.ref a), (x, u), (x2, u2)] : List (Str × Value)).reverse.lookup y) := by
    obtain ⟨ob, es, ep, ho, r⟩ := ns3
    exact ⟨ob, es, ep, hk4 _ _ ne_aL ho, r⟩
  have X4 : K.In h4 := fun b o e => hk4 b o (fun z => by
    have := (e0.bs b o (e0.mod.kin b o e)).2
    rw [z, ea] at this
    cases this) (X3 b o e)
  show PySem.wpAt _ _ _ (execs [_] _) _ _ _
  refine ks_wpAt_execs_cons (PySem.wpAt_of_wpAny (plainObj_wpAny_Assign_Attribute (wpAny_Name (wpAny_loadName_local kk kx2 ns4 ns_x2 (wpAny_Name (wpAny_loadName_local kk kslf ns4 ns_s ?_) hds)) hdx2)))
  have hw := Within.cons f u Within.nil
  obtain ⟨oD, _, _, hoD, _, _⟩ := hn4.count hw
  refine PySem.W.set_plain (ox := { cls := .ref C, dict := some dxa, data := .fields #[.ref t1, .none, .none, .none, .bool false, .none] }) (od := some oD) X4 ⟨hx4, rfl, rfl, hoD⟩ hcls.sa ?_
  refine PySem.OEX.osa_old X4 hx4 hn4 hw (by show 1 ≤ 1000; decide) hcl (show PySem.HandSPX.refsVE (.ref C :: b2) = true from hbm) rfl hno2 (fun h5 tk5 hk5 hn5 => ?_)
  refine PySem.wpAt_of_wpAny (wpAny_execs_nil ?_)
  have hx5 := hk5 _ _ (Ne.symm dne) hx4
  have szL : s.heap.objs.size < h3.objs.size := by
    obtain ⟨ob, _, _, ho, _⟩ := ns3
    exact Heap.lt_size ho
  have hnd : H dxa = none := e0.hok.fresh (Nat.le_trans (Nat.le_of_lt szL) dn)
  have ndx : ∀ {b : Addr} {o : Obj}, s.heap.get? b = some o → b ≠ dxa := fun {b o} e => Nat.ne_of_lt (Nat.lt_of_lt_of_le (Nat.lt_trans (Heap.lt_size e) szL) dn)
  have kfin : ∀ b o, b ≠ a → s.heap.get? b = some o → h5.get? b = some o := fun b o hb e => hk5 b o (ndx e) (hk4 b o hb (kall b o hb e))
  have na : ∀ {b : Addr}, H b = none → b ≠ a := fun {b} n z => by
    rw [z, ea] at n
    cases n
  refine ⟨.non, upd (upd H dxa (exd dxa [(g, z2), (f, y)])) a (exo a C (some dxa)), rfl, e0.bare, ?_, ?_, rfl, hq dxa hnd dne⟩
  · exact {
      keep := fun b o e n _ _ => kfin b o (na n) e
      slot := fun b o e n _ _ => ⟨o.slots, kfin b o (na n) e⟩
      free := fun b o e n _ => by rw [upd_ne (na n), upd_ne (ndx e)]; exact n
      there := fun b o e _ => by
        by_cases hb : b = a
        · exact ⟨_, by rw [hb]; exact hx5⟩
        · exact ⟨o, kfin b o hb e⟩
      tups := fun b xs e => by rw [upd_ne (at_ne ea e exo_tup), upd_ne (ne_of_none e hnd)]; exact e
      frzs := fun b o v e => by rw [upd_ne (at_ne ea e exo_frz), upd_ne (ne_of_none e hnd)]; exact e
      tbls := fun b ps e => ⟨#[], by rw [upd_ne (at_ne ea e exo_tbl), upd_ne (ne_of_none e hnd), e]; simp⟩ }
  · intro b o e
    by_cases hb : b = a
    · subst hb
      rw [upd_same] at e
      cases e
      exact exo_ok hx5
    · rw [upd_ne hb] at e
      by_cases hd : b = dxa
      · subst hd
        rw [upd_same] at e
        cases e
        exact exd_ok hn5 (relO_put (fs := [(f, y)]) rz (relO_put (fs := []) ry fun g => True.intro))
      · rw [upd_ne hd] at e
        refine (e0.hok b o e).stay (fun c v hc z => kfin c v ?_ z) (fun c hc => ?_) (fun c xs hc => ?_)
        · rcases hc with hc | hc
          · rw [hc]; exact hb
          · exact at_ne ea hc exo_own
        · rw [upd_ne (at_ne ea hc exo_own), upd_ne (ne_of_none hc hnd)]; exact hc
        · rw [upd_ne (at_ne ea hc exo_tup), upd_ne (ne_of_none hc hnd)]; exact hc
/-! ### raise C(e, e') -/
def sRaise2 (c : String) (f g : Nm) (fa : DA) : DStm := fun s => (fa s).bind fun ds s1 => match ds with
  | [d, d2] => .exc ⟨c, [(g, d2), (f, d)]⟩ s1
  | _ => .stuck
section
variable {G : Gam} {W : WX} {X : Cx}
theorem pds_raise2 {c : String} {C fI : Addr} {fd : FuncData} {slf xp f xp2 g x : Str} {fn gn : Nm} {e e2 : Expr} {fa : DA} {p pos pos' : Pos} (hc : X.calm = true) (tk : Takes X W) (T : XCls G X.K c C fI) (T2 : XIn2 X.prog X.K X.mg C fI fd slf xp f xp2 g) (hf : f = nm fn) (hg2 : g = nm gn) (hb : Binds X.K fd [slf, xp, xp2] [])
    (hr : Room 2 X.A) (hg : Gl X x) (hm : X.mg x = some (.ref C)) (ha : PDA G W X [e, e2] fa) (hdb : (x == ("__debug__" : Str)) = false := by decide) (he : starEach [e, e2] X.env = (false, eval e X.env) :: starEach [e2] X.env := by rfl) (hpl : (backTo pos (starEach [e2] X.env)).any (·.1) = false := by rfl) :
    PDS G W X (.Raise (some (.Call (.Name x p) [e, e2] [] pos)) none pos') (sRaise2 c fn gn fa) :=
  (ps_raise hc tk (pmk_oex (CX := L2.CX X.prog X.w) T.cls T.ini T.ty (x_ok2 T2) hr hb .nil (passes_call tk fun _ _ _ _ z => z.elim) hg hm ha hdb he hpl)).imp fun N σ H ⟨κ, w, s, ok, q⟩ => ⟨κ, w, s, ok, (PostG.bindS q).imp fun vs H1 ⟨ds, s1, w1, le, ok1, rs, q1⟩ => by
    match ds, q1 with
    | [d, d2], q1 =>
      cases rs with
      | @cons v _ vs' _ r rs =>
      cases rs with
      | @cons v2 _ vs2 _ r2 rs =>
      cases rs
      refine ⟨by show 2 ≤ 1000; decide, fun a ha => ⟨a, v, v2, rfl, upd_same, fun dx h1 h2 => ⟨rfl, dx, [(g, v2), (f, v)], ?_, ?_, ?_, ?_⟩⟩⟩
      · exact upd_same
      · rw [upd_ne h2, upd_same]
      · rw [upd_ne h2] at h1; exact h1
      · rw [upd_ne h2] at h1
        have eH : upd (del (upd (upd (upd H1 a (exo a C none)) dx (exd dx [(g, v2), (f, v)])) a (exo a C (some dx))) a) dx (.xd [(g, v2), (f, v)]) = upd H1 dx (.xd [(g, v2), (f, v)]) := by
          funext b
          by_cases hb : b = dx
          · rw [hb, upd_same, upd_same]
          · rw [upd_ne hb, upd_ne hb]
            by_cases hba : b = a
            · rw [hba, del_same, ha]
            · rw [del_ne hba, upd_ne hba, upd_ne hb, upd_ne hba]
        rw [eH]
        obtain ⟨le2, ok2⟩ := ok1.alloc h1 (.xd [(g, v2), (f, v)])
        exact q1 _ σ (.ref C) (some dx) _ le2 ok2 ⟨C, T.ct, rfl, .inr ⟨dx, [(g, v2), (f, v)], rfl, upd_same, by subst hf; subst hg2; exact .cons (r2.mono le2) (.cons (r.mono le2) .nil)⟩⟩
    | [], q1 => exact q1.elim
    | [_], q1 => exact q1.elim
    | _ :: _ :: _ :: _, q1 => exact q1.elim⟩
end
/-- the text of an own error's __init__ -/
def XSh2 (st : Stmt) (slf x f x2 g : Str) : Prop := ∃ (ar : Arg) (p0 p1 p2 p3 p4 p5 p6 p7 p8 p9 q3 q6 q7 q8 q9 : Pos),
  defBody st = [.Expr (.Call (.Attribute (.Call (.Name "super" p0) [] [] p1) "__init__" p2) [.Name x p3, .Name x2 q3] [] p4) p5, .Assign [.Attribute (.Name slf p6) f p7] (.Name x p8) p9, .Assign [.Attribute (.Name slf q6) g q7] (.Name x2 q8) q9] ∧
  ((defArgs st).posonlyargs ++ (defArgs st).args).head? = some ar ∧ ar.arg = slf ∧
  (defScope st).names.lookup ("super" : Str) = some .globalImplicit ∧ (defScope st).names.lookup ("__class__" : Str) = some .free ∧ (defScope st).names.lookup slf = some .local ∧ (defScope st).names.lookup x = some .local ∧ (defScope st).names.lookup x2 = some .local ∧ (∀ z ∈ (defScope st).names, z.2 ≠ .cell) ∧
  (defScope st).kind = .function ∧ (defScope st).isCoroutine = false ∧ (defScope st).isGenerator = false ∧ (p2.endLine == p4.line) = true
structure XFacts2 (P : Program) (G : Gam) (mg : Str → Option Value) (c : String) (C fI : Addr) (fd : FuncData) (slf x f x2 g : Str) : Prop where
  T : XCls G G.K c C fI
  I : XIn2 P G.K mg C fI fd slf x f x2 g
  F : XfC G.K C
  B : Binds G.K fd [slf, x, x2] []
theorem xfacts2_of {P : Program} {G : Gam} {mg : Str → Option Value} {c : String} {C fI NS cda cc : Addr} {st : Stmt} {slf x f x2 g nm q name qual file : Str} {bs bm sub : List Value} {sn : List Str} {ab : Bool} {col : Option Bool} {dd : Option Addr} {k0 k1 k2 k3 k5 : Option Value}
    {oc dV kV doc pm ct ccl cl : Value} {od an cdd cld : Option Addr} {osl ccs csl : Array (Option Value)} {vs : Array Value} {tf : Tok}
    (hct : G.ct c = some C) (xl : G.K.lookup C = some (excClassObj nm q C NS bs bm true sn sub ab col dd k0 k1 k2 k3 k5 "ValueError.__new__")) (xr : PySem.HandSPX.refsVE bm = true) (xi : PySem.W.findIn G.K (.ref C) "__init__" = some (some (.ref fI)))
    (xf : G.K.lookup fI = some ⟨oc, od, .func (PySem.W.fnX name qual (defArgs st) (defBody st) (defScope st) [("__class__", cc)] dV kV doc pm an (.ref cda) ct), osl⟩) (xc : PySem.W.codeIn G.K (.ref cda) qual = true) (xd : G.K.lookup cda = some ⟨ccl, cdd, .fields vs, ccs⟩) (xv : vs[2]? = some (.str file tf))
    (xe : ((P.main.file : Str) == file) = true) (xk : G.K.lookup cc = some ⟨cl, cld, .cell (some (.ref C)), csl⟩) (xB : xcB G.K C fI f = true) (xB2 : PySem.W.findIn G.K (.ref C) g = some none) (xt : (P.main.scope.names.lookup ("super" : Str)).isSome = false) (xs : mg "super" = none) (sh : XSh2 st slf x f x2 g)
    (d1 : (slf == ("__debug__" : Str)) = false) (d2 : (x == ("__debug__" : Str)) = false) (d3 : slf ≠ x) (d4 : (x2 == ("__debug__" : Str)) = false) (d5 : slf ≠ x2) (d6 : x ≠ x2) (hb : ∀ us : List Value, us.length = 3 → bindArgs (PySem.W.fnX name qual (defArgs st) (defBody st) (defScope st) [("__class__", cc)] dV kV doc pm an (.ref cda) ct) ⟨us, []⟩ = pure ([slf, x, x2].zip us)) :
    XFacts2 P G mg c C fI (PySem.W.fnX name qual (defArgs st) (defBody st) (defScope st) [("__class__", cc)] dV kV doc pm an (.ref cda) ct) slf x f x2 g := by
  unfold xcB at xB
  simp only [Bool.and_eq_true, beq_iff_eq] at xB
  obtain ⟨b1, b2, b3, b4, b5, b6, b7, b8, b9, b10, b11⟩ := xB
  obtain ⟨ar, p0, p1, p2, p3, p4, p5, p6, p7, p8, p9, q3, q6, q7, q8, q9, s1, s2, s3, s4, s5, s6, s7, s72, s8, s9, s10, s11, s12⟩ := sh
  have oex : OexC G.K C := ⟨⟨nm, q, NS, bs, bm, sn, sub, ab, col, dd, k0, k1, k2, k3, k5, xl, xr⟩, b1, b2, b3, b4⟩
  refine ⟨⟨hct, xi, b5, oex⟩, ⟨⟨oc, doc, pm, dV, kV, ct, ccl, cl, od, an, cdd, cld, osl, ccs, csl, cda, cc, name, qual, file, defArgs st, defScope st, vs, tf, ar, p0, p1, p2, p3, p4, p5, p6, p7, p8, p9, q3, q6, q7, q8, q9, by rw [s1], xf, xc, s2, s3, xd, xv, xe, xk, s4, s5, s6, s7, s72, s8, s9, s10, s11, s12⟩, xt, xs, b6, b7, b8, b9, oex, b10, xB2, d1, d2, d3, d4, d5, d6⟩, xfB_ok b11, .all hb⟩
end DL
set_option maxRecDepth 100000
set_option maxHeartbeats 4000000
set_option autoImplicit false
namespace DL
open PySem PySem.Spec PyProof.Rows L2
/-! ### defs as values; a call of a variable that holds one of some defs -/
abbrev FTb := List (String × Nat × DFn)
def eCallF (tb : FTb) (i : Nat) (fa : DA) : DE := fun s => match s.sl[i]? with
  | some (.val (.fn c)) => match tb.lookup c with
    | some (n, g) => (fa s).bind fun ds s1 => if ds.length = n then lift s1 (g ds s1.st) else .stuck
    | none => .stuck
  | _ => .stuck
def FnsOk (G : Gam) (X : Cx) (tb : FTb) : Prop := ∀ c n g a, tb.lookup c = some (n, g) → G.ft c = some a → ∃ (k : Nat) (fd : FuncData) (ps : List Str), FnOk X.prog X.w X.K X.mg X.base (L2.CX X.prog X.w) k a fd ps (spG G n g) ∧ Room k X.A ∧ PySem.W.keepIn X.K (.ref a) = true ∧ Binds X.K fd ps []
section
variable {G : Gam} {W : WX} {X : Cx}
theorem fnsOk_nil : FnsOk G X [] := fun _ _ _ _ e => by simp at e
theorem fnsOk_cons {c : String} {a : Addr} {k n : Nat} {g : DFn} {fd : FuncData} {ps : List Str} {tb : FTb} (hc : G.ft c = some a) (F : FnOk X.prog X.w X.K X.mg X.base (L2.CX X.prog X.w) k a fd ps (spG G n g)) (hr : Room k X.A) (hk : PySem.W.keepIn X.K (.ref a) = true) (hb : Binds X.K fd ps [])
    (r : FnsOk G X tb) : FnsOk G X ((c, n, g) :: tb) := fun c' n' g' a' e1 e2 => by
  rw [List.lookup_cons] at e1
  by_cases h : (c' == c) = true
  · rw [h] at e1
    cases e1
    obtain rfl : c' = c := by simpa using h
    rw [hc] at e2
    cases e2
    exact ⟨k, fd, ps, F, hr, hk, hb⟩
  · rw [Bool.not_eq_true] at h
    rw [h] at e1
    exact r _ _ _ _ e1 e2
theorem pd_fnv {x : Str} {c : String} {a : Addr} {pos : Pos} (hg : Gl X x) (hm : X.mg x = some (.ref a)) (hc : G.ft c = some a) (hd : (x == ("__debug__" : Str)) = false := by decide) : PD G W X (.Name x pos) (eC (.fn c)) :=
  pd_c (pe_glob (v := .ref a) hg hm rfl hd) fun _ => .fn hc
theorem pd_callF {i : Nat} {tb : FTb} {x : Str} {p pos : Pos} {e : Expr} {es : List Expr} {fa : DA} (T : FnsOk G X tb) (hv : PE X (.Name x p) (tVar i)) (tk : Takes X W) (ha : PDA G W X (e :: es) fa)
    (he : starEach (e :: es) X.env = (false, eval e X.env) :: starEach es X.env := by rfl) (hpl : (backTo pos (starEach es X.env)).any (·.1) = false := by rfl) : PD G W X (.Call (.Name x p) (e :: es) [] pos) (eCallF tb i fa) := by
  refine ⟨fun pins s σ H Q I h => ?_⟩
  obtain ⟨κ, w, ds, ok, q⟩ := h
  unfold eCallF at q
  split at q
  case h_2 => exact q.elim
  case h_1 c hs =>
  split at q
  case h_2 => exact q.elim
  case h_1 n g ht =>
  obtain ⟨v, h1, h2⟩ := ok.val i _ hs
  cases h2 with
  | @fn a _ hc =>
  obtain ⟨k, fd, ps, F, hr, hk, hb⟩ := T _ _ _ _ ht hc
  refine wpAny_Call_Name_kw (thn (hv.run pins s σ H (fun v H1 => v = .ref a ∧ H1 = H) I ⟨.ref a, h1, rfl, rfl⟩) fun u s0 ⟨v, H0, I0, r0, q0⟩ => ?_)
  obtain ⟨rfl, rfl⟩ := q0
  cases r0
  have hh : tDA G W fa σ H0 fun vs H1 => ∃ d s1 w1, w.le w1 ∧ Ok G κ w1 s1 σ H1 ∧ Reps G w1 vs d ∧ PostG G W (Rep G) κ w1 σ (if d.length = n then lift s1 (g d s1.st) else .stuck) Q := ⟨κ, w, ds, ok, PostG.bind q⟩
  refine PySem.W.callWith_K (h₀ := X.base) I0.ok.mod.kin hk (thn (ha.run pos pins s0 σ H0 _ I0 hh) fun us s1 ⟨vs, H1, I1, r, d, s2, w1, le, ok1, rs, q1⟩ => ⟨I1.kIn, ?_⟩) he hpl
  by_cases c : d.length = n
  · rw [if_pos c] at q1
    exact callD F hr hb tk I1 ok1 rs r c q1
  · rw [if_neg c] at q1
    exact q1.elim
end
end DL
set_option maxRecDepth 100000
set_option maxHeartbeats 4000000
set_option autoImplicit false
namespace DL
open PySem PySem.Spec PyProof.Rows L2
/-! ### an own class made by keywords alone, told in the opposite order of its parameters -/
section
variable {G : Gam} {W : WX} {X : Cx}
theorem makeKD {c : String} {n k : Nat} {g : DIn} {C f : Addr} {fd : FuncData} {ps : List Str} {pins : List (Addr × Obj)} {sh : Shared} {κ : Bs} {w : Wd} {s : DS} {σ : L2.St} {H : Hp} {vs : List V} {ds : List D} {us : List Value} {Q : VK} (M : Mk X.K C f) (hC : G.ct c = some C)
    (F : FnOk X.prog X.w X.K X.mg X.base (L2.CX X.prog X.w) k f fd ps (spI G c n g)) (hr : Room (k + 1) X.A) {kw : List (Str × Value)} (hb : ∀ (s : Shared) (a : Value), X.K.In s.heap → BindsTo s fd ⟨[a], kw⟩ (ps.zip (a :: us))) (tk : Takes X W) (I : Inv X pins σ H sh) (ok : Ok G κ w s σ H) (rs : Reps G w vs ds) (r : Vals vs us) (hn : ds.length = n)
    (q : PostG G W (Rep G) κ w σ ((lift s (g ds s.st)).bind fun fs s1 => .ok (.ins c fs) s1) Q) : wpAny (model X.prog X.w) X.A (call (.ref C) [] kw) (EP X pins σ Q) X.xe sh := by
  have key : ∀ x dx, H x = none → H dx = none → dx ≠ x → spI G c n g (.ref x :: (vs ++ [])) (upd (upd H dx (.own x)) x (.ins C dx [])) (fun v H2 => v = .non ∧ Q (.ref x) H2) (WE W σ) := fun x dx nx ndx ne => by
    have o1 := ok.fresh ndx (.own x)
    have nx1 : upd H dx (.own x) x = none := by rw [upd_ne (Ne.symm ne)]; exact nx
    have o2 := o1.fresh nx1 (.ins C dx [])
    obtain ⟨g1, g2, g3, g4, g5⟩ := o2.gam (x, .ins C dx []) List.mem_cons_self
    have kx : ∀ a o, H a = some o → erase (upd (upd H dx (.own x)) x (.ins C dx [])) x a = some o := fun a o e => by
      have h1 : a ≠ x := ne_of_none e nx
      have h2 : a ≠ dx := ne_of_none e ndx
      show (if a = x then none else _) = some o
      rw [if_neg h1, upd_ne h1, upd_ne h2]
      exact e
    have bk : ∀ a, erase (upd (upd H dx (.own x)) x (.ins C dx [])) x a = none → H a = none := fun a e => by
      cases e2 : H a with
      | none => rfl
      | some o => rw [kx a o e2] at e; cases e
    refine ⟨by rw [List.append_nil, List.length_cons, rs.length, hn], w, s.st, ds, x, vs, C, dx, by rw [List.append_nil], hC, g1, o2.fok, g2, g3, rs, ?_⟩
    cases e : g ds s.st with
    | stuck => rw [e] at q; exact q.elim
    | exc x' S' =>
      rw [e] at q
      exact fun w' cc dd H' nn f' r => q w' cc dd H' nn.le (ok.step ⟨nn.le, fun a o e1 e2 => nn.keep a o (kx a o e1) e2, fun a h => (nn.newF a h).imp_right (bk a), fun a h => (nn.newR a h).imp_right (bk a)⟩ f') r
    | ok fs S' =>
      rw [e] at q
      intro w' H' vfs dx' nn f' hx rf hF hR
      refine ⟨rfl, ?_⟩
      have N1 : Nx w H w' H' := ⟨nn.le, fun a o e1 e2 => nn.keep a o (kx a o e1) e2, fun a h => (nn.newF a h).imp_right (bk a), fun a h => (nn.newR a h).imp_right (bk a)⟩
      have o3 : Ok G (κ.plus x (.ins C dx' vfs)) w' ⟨s.sl, S'⟩ σ H' := by
        have o3 := ok.step N1 f'
        refine ⟨o3.fok, o3.nx, o3.len, o3.val, o3.own, o3.ne, fun p hp => ?_, o3.me⟩
        rcases List.mem_cons.mp hp with rfl | hp
        · exact ⟨hx, hF, hR, g4, g5⟩
        · exact o3.gam p hp
      obtain ⟨le, o4⟩ := o3.frz fun p hp => ne_of_none (ok.gam p hp).1 nx
      exact q _ _ _ (nn.le.trans le) o4 (.ins hC upd_same (rf.mono le))
  have hx : PassesAt (L2.CX X.prog X.w) X σ (WE W σ) := passAt tk σ
  have hq := key (sh.heap.objs.size + 1) sh.heap.objs.size (I.hok.fresh (Nat.le_succ _)) (I.hok.fresh (Nat.le_refl _)) (Nat.ne_of_lt (Nat.lt_succ_self _))
  have I2 := Inv.made (C := C) I
  have r2 : Vals (V.ref (sh.heap.objs.size + 1) :: (vs ++ [])) (Value.ref (sh.heap.objs.size + 1) :: (us ++ [])) := .cons rfl (r.append .nil)
  refine wpAny_call (make_map (f := f) I.kIn M.makes M.init (beq_iff_eq.mp M.fn) (codeAny_mono (F.run _ X.stack _ _ ⟨[Value.ref (sh.heap.objs.size + 1)], kw⟩ (Value.ref (sh.heap.objs.size + 1) :: (us ++ [])) _ _ (WE W σ) (hr.make C [] kw)
    (I2.env0.make C [] kw) (by rw [List.append_nil]; exact hb _ _ I2.kIn) r2 hq) fun r s' hq' => ?_))
  cases r with
  | error e => exact hx pins _ _ e s' I2 hq'
  | ok fl =>
    cases fl with
    | ret u =>
      obtain ⟨v, H', I3, rv, ev, q3⟩ := I2.after hq'
      subst ev
      exact ⟨rv, ⟨V.ref (sh.heap.objs.size + 1), H', I3, rfl, q3⟩⟩
    | next => exact False.elim hq'
    | brk => exact False.elim hq'
    | cont => exact False.elim hq'
theorem PK.imp {kws : List Keyword} {t t' : TA} (h : PK X kws t) (k : ∀ σ H Q, t' σ H Q → t σ H Q) : PK X kws t' := ⟨fun pos pins s σ H Q I q => h.run pos pins s σ H Q I (k σ H Q q)⟩
theorem pkd_nil : PK X [] (tDA G W aNil) := PK.imp pk_nil fun σ H Q ⟨κ, w, s, ok, q⟩ => q w [] H (.refl _) ok .nil
theorem pkd_cons {nm : Option Str} {kpos : Pos} {e : Expr} {kws : List Keyword} {f : DE} {g : DA} (h : PD G W X e f) (k : PK X kws (tDA G W g)) : PK X (⟨nm, e, kpos⟩ :: kws) (tDA G W (aCons f g)) :=
  PK.imp (pk_cons h k) fun σ H Q ⟨κ, w, s, ok, q⟩ => ⟨κ, w, s, ok, (PostG.bind q).imp fun v H1 ⟨d, s1, w1, le, ok1, r1, q1⟩ =>
    ⟨κ, w1, s1, ok1, (PostG.bind q1).imp fun v2 H2 ⟨d2, s2, w2, le2, ok2, r2, q2⟩ => q2 w2 _ H2 (.refl _) ok2 (.cons (r1.mono le2) r2)⟩⟩
theorem Reps.snoc {w : Wd} {v : V} {d : D} (r : Rep G w v d) : ∀ {vs : List V} {ds : List D}, Reps G w vs ds → Reps G w (vs ++ [v]) (ds ++ [d])
  | _, _, .nil => .cons r .nil
  | _, _, .cons a b => .cons a (Reps.snoc r b)
theorem Reps.rev {w : Wd} : ∀ {vs : List V} {ds : List D}, Reps G w vs ds → Reps G w vs.reverse ds.reverse
  | _, _, .nil => .nil
  | _, _, .cons a b => by
    rw [List.reverse_cons, List.reverse_cons]
    exact Reps.snoc a (Reps.rev b)
theorem vals_rev {vs : List V} {us : List Value} (h : Vals vs us) : Vals vs.reverse us.reverse := by
  induction h with
  | nil => exact .nil
  | cons a b ih =>
    rw [List.reverse_cons, List.reverse_cons]
    exact ih.append (.cons a .nil)
/-- C(k = v, ..), the keywords in the opposite order of the parameters -/
def eMakeK (c : String) (n : Nat) (g : DIn) (fa : DA) : DE := fun s => (fa s).bind fun ds s1 => if ds.length = n then (lift s1 (g ds.reverse s1.st)).bind fun fs s2 => .ok (.ins c fs) s2 else .stuck
theorem pd_makeK {c : String} {n k : Nat} {g : DIn} {C f : Addr} {fd : FuncData} {ps ks : List Str} {x : Str} {p pos : Pos} {kws : List Keyword} {fa : DA} (M : Mk X.K C f) (hC : G.ct c = some C) (F : FnOk X.prog X.w X.K X.mg X.base (L2.CX X.prog X.w) k f fd ps (spI G c n g)) (hr : Room (k + 1) X.A) (hg : Gl X x)
    (hm : X.mg x = some (.ref C)) (hb : ∀ (a : Value) (ws : List Value), ws.length = n → bindArgs fd ⟨[a], ks.zip ws⟩ = pure (ps.zip (a :: ws.reverse))) (tk : Takes X W) (hkw : PK X kws (tDA G W fa))
    (hall : (backToKw pos (keywordEach kws X.env)).all (·.1.isSome) = true := by rfl) (hks : (backToKw pos (keywordEach kws X.env)).filterMap (·.1) = ks := by rfl) (hdb : (x == ("__debug__" : Str)) = false := by decide)
    (hpl : ((backTo pos (starEach [] X.env)).any (·.1) || (backToKw pos (keywordEach kws X.env)).any (·.1.isNone)) = false := by rfl) : PD G W X (.Call (.Name x p) [] kws pos) (eMakeK c n g fa) := by
  refine ⟨fun pins s σ H Q I h => ?_⟩
  obtain ⟨κ, w, ds, ok, q⟩ := h
  refine wpAny_Call_Name_kw (ld_glob I hg hm ?_ hdb)
  have hh : tDA G W fa σ H fun vs H1 => ∃ d s1 w1, w.le w1 ∧ Ok G κ w1 s1 σ H1 ∧ Reps G w1 vs d ∧ PostG G W (Rep G) κ w1 σ (if d.length = n then (lift s1 (g d.reverse s1.st)).bind fun fs s2 => .ok (.ins c fs) s2 else .stuck) Q := ⟨κ, w, ds, ok, PostG.bind q⟩
  refine PySem.W.callWith_KW0 (h₀ := X.base) I.ok.mod.kin M.kp hall ?_ hpl
  refine thn (hkw.run pos pins s σ H _ I hh) fun ws s1 ⟨vs, H1, I1, r, d, s2, w1, le, ok1, rs, q1⟩ => ⟨I1.kIn, ?_⟩
  rw [hks]
  by_cases c : d.length = n
  · rw [if_pos c] at q1
    have hw : ws.length = n := by rw [← r.length, rs.length]; exact c
    exact makeKD M hC F hr (us := ws.reverse) (kw := ks.zip ws) (fun s a _ => BindsTo.of_looks fun M => .of_pure (hb a ws hw)) tk I1 ok1 rs.rev (vals_rev r) (by rw [List.length_reverse]; exact c) q1
  · rw [if_neg c] at q1
    exact q1.elim
theorem kwb_of {K : PySem.W.Frag} {x qual : Str} {st : Stmt} {f : Addr} {fd : FuncData} (F : Fun K x qual st f fd) {ks ps : List Str} {n : Nat} (h : ∀ (kV doc pm : Value) (an : Option Addr) (cdv ct a : Value) (ws : List Value), ws.length = n → bindArgs (PySem.W.fnOf x qual (defArgs st) (defBody st) (defScope st) .none kV doc pm an cdv ct) ⟨[a], ks.zip ws⟩ = pure (ps.zip (a :: ws.reverse))) : ∀ (a : Value) (ws : List Value), ws.length = n → bindArgs fd ⟨[a], ks.zip ws⟩ = pure (ps.zip (a :: ws.reverse)) := fun a ws hw => by
  obtain ⟨oc, od, kV, doc, pm, an, cdv, ct, osl, rfl, lk, hcd⟩ := F.ex
  exact h _ _ _ _ _ _ a ws hw
end
end DL
set_option maxRecDepth 100000
set_option maxHeartbeats 4000000
set_option autoImplicit false
namespace PySem.W
open PySem PySem.Spec PyProof.Rows PySem.Calls
/-- x op b: x of an own class with the operator, b of a kind of Python's own (its type told over the heap) -/
theorem dl_binT {prog : Program} {w : World} {A : Around} {E : Value → Shared → Prop} {s : Shared} {K : Frag} {x C L f : Addr} {h₀ : Heap} {m : Str → Option Value} {ox : Obj} {od : Option Obj} {T : String} {op : Operator} {b : Value} {fo ro rc : Option Value} {Q : Value → Shared → Prop}
    (F : Fr h₀ L s.heap m) (X₀ : K.In h₀) (I : InstAt s.heap x ox C od) (hb : Looks (model prog w) s.heap (typeOf b) (.type T)) (hc : selfFirst K C = true)
    (hs : findIn K (.ref C) (PySem.dunder op.info.2) = some (some (.ref f))) (hf : isFn K (.ref f) = true) (hr : findIn K (.ref C) (dunderR op.info.2) = some rc) (hp : rc = none ∨ ∃ g : Addr, rc = some (.ref g))
    (h1 : findIn K (.type T) (PySem.dunder op.info.2) = some fo) (h2 : findIn K (.type T) (dunderR op.info.2) = some ro) (hsub : subIn K (.type T) (.ref C) = some false)
    (h : wpAny (model prog w) A (call (.ref f) [.ref x, b]) (CmpBack Q) E s) : wpAny (model prog w) A (binaryOp op (.ref x) b) Q E s := by
  have X := X₀.keeps F.keep
  have tr := ksp_try X I hs hf h
  obtain ⟨cd, rest, hcd, hm⟩ := ksp_first hc
  rcases hi : op.info with ⟨sym, nm⟩
  rw [hi] at hs hr h1 h2 tr
  dsimp only at hs hr h1 h2 tr
  obtain ⟨hh, g, d, tt, os⟩ := s
  have a1 : Looks (model prog w) hh (typeOf (.ref x)) (.ref C) := I.type
  have a2 : Looks (model prog w) hh (typeOf b) (.type T) := hb
  have a3 : Looks (model prog w) hh (fillsNumberSlot (.ref C) nm) true := fills_K X hcd hm hs
  obtain ⟨right, a4⟩ : ∃ right, Looks (model prog w) hh (fillsNumberSlot (.type T) nm) right := ⟨_, ksp_fillsT X h1 h2⟩
  have a5 : Looks (model prog w) hh (isSubtype (.type T) (.ref C)) false := looks_subIn X hsub
  have a6 : Looks (model prog w) hh (numberSlotInPython (.ref C) nm) true := ksp_inPy X hs hr hp
  have a7 : Looks (model prog w) hh (numberSlotInPython (.type T) nm) false := Looks.of_pure rfl
  have a8 : Looks (model prog w) hh (typeLookup (.type T) (dunderR nm)) ro := looks_findIn X h2
  have ne : (Value.ref C == Value.type T) = false := Bool.eq_false_iff.mpr fun q => by cases beq_iff_eq.mp q
  simp only [binaryOp, hi]
  refine wpAny_holding (wpAny_bind ?_)
  unfold binaryOp1
  refine wpAny_bind (a1.at (wpAny_bind (a2.at (wpAny_bind (a3.at ?_)))))
  simp only [ne, Bool.false_eq_true, if_false]
  cases right <;>
  · ksp_lk
    refine wpAny_mono tr (fun r s' hr' => ?_) fun _ _ e => e
    obtain ⟨v, rfl, hq⟩ := hr'
    ksp_lk
    exact hq
end PySem.W
namespace DL
open PySem PySem.Spec PyProof.Rows L2
section
variable {G : Gam} {W : WX} {X : Cx}
/-- an own class's operator, the right value of a kind of Python's own -/
def ownM (cs Ts : List String) (c : String) (g : DFn) : DO2 := fun x y s => match insOf x s with
  | some (c1, _) => if c1 = c then (match tyOfD cs y with
    | some (.inl T) => if T ∈ Ts then lift s (g [x, y] s.st) else .stuck
    | _ => .stuck) else .stuck
  | none => .stuck
@[simp] theorem r_ownM (cs Ts : List String) (c c1 : String) (f1 : List (Nm × D)) (y : D) (g : DFn) (s : DS) : ownM cs Ts c g (.ins c1 f1) y s = if c1 = c then (match tyOfD cs y with
    | some (.inl T) => if T ∈ Ts then lift s (g [.ins c1 f1, y] s.st) else .stuck
    | _ => .stuck) else .stuck := rfl
def opTB (K : PySem.W.Frag) (m r : Str) (Ts : List String) : Bool := Ts.all fun T => (PySem.W.findIn K (.type T) m).isSome && (PySem.W.findIn K (.type T) r).isSome
theorem opx_ownM (hK : G.K = X.K) {cs Ts : List String} (IO : IsOk G cs) {op : Operator} {mname rname : Str} (hm' : PySem.dunder op.info.2 = mname) (hr' : PySem.dunderR op.info.2 = rname) {c : String} (hcs : c ∈ cs) {C f : Addr} {k : Nat} {fd : FuncData} {ps : List Str} {g : DFn} (hC : G.ct c = some C)
    (hs : PySem.W.findIn X.K (.ref C) mname = some (some (.ref f))) (hf : PySem.W.isFn X.K (.ref f) = true) (hc : PySem.W.selfFirst X.K C = true) (hr0 : PySem.W.findIn X.K (.ref C) rname = some none) (hT : opTB X.K mname rname Ts = true)
    (F : FnOk X.prog X.w X.K X.mg X.base (L2.CX X.prog X.w) k f fd ps (spG G 2 g)) (hr : Room k X.A) (hb : Binds X.K fd ps []) (tk : Takes X W) : OpX G W X (binaryOp op) (ownM cs Ts c g) := by
  subst hm'
  subst hr'
  intro pins sh σ H x y v u κ w s dx dy Q I rx ry ok rdx rdy q
  unfold ownM at q
  cases e1 : insOf dx s with
  | none => rw [e1] at q; exact q.elim
  | some p =>
    obtain ⟨c1, f1⟩ := p
    rw [e1] at q
    replace q : PostG G W (Rep G) κ w σ (if c1 = c then (match tyOfD cs dy with
      | some (.inl T) => if T ∈ Ts then lift s (g [dx, dy] s.st) else .stuck
      | _ => .stuck) else .stuck) Q := q
    by_cases h : c1 = c
    case neg => rw [if_neg h] at q; exact q.elim
    rw [if_pos h] at q
    subst h
    cases e2 : tyOfD cs dy with
    | none => rw [e2] at q; exact q.elim
    | some t =>
      rw [e2] at q
      cases t with
      | inr c2 => exact q.elim
      | inl T =>
        replace q : PostG G W (Rep G) κ w σ (if T ∈ Ts then lift s (g [dx, dy] s.st) else .stuck) Q := q
        by_cases hTs : T ∈ Ts
        case neg => rw [if_neg hTs] at q; exact q.elim
        rw [if_pos hTs] at q
        obtain ⟨a, C', dxa, vs, ev, hC', hH, _⟩ := rdx.ins_of ok e1
        rw [hC] at hC'
        cases hC'
        obtain ⟨tb, ty, rfl, hbt⟩ := tyX_of hK IO ok rdy e2
        subst ev
        cases rx
        have sub : PySem.W.subIn X.K (.type T) (.ref C) = some false := by
          have e := (IO.bo c1 hcs C hC T hbt).2
          rw [hK] at e
          unfold PySem.W.kitOne at e
          split at e
          · cases e
          · unfold PySem.W.kitCls at e
            dsimp only at e
            split at e
            · assumption
            · cases e
        have hq := List.all_eq_true.mp hT T hTs
        rw [Bool.and_eq_true] at hq
        obtain ⟨fo, h1⟩ := Option.isSome_iff_exists.mp hq.1
        obtain ⟨ro, h2⟩ := Option.isSome_iff_exists.mp hq.2
        obtain ⟨mA, J, _⟩ := ins_get I.hok hH
        obtain ⟨od, J, _⟩ := J.look
        obtain ⟨m, hF⟩ := I.fr
        obtain ⟨P, kx, hP, _⟩ := kit_of I ry ty
        refine PySem.W.dl_binT hF I.ok.mod.kin J (kx.ty _ _ I.kIn hP) hc hs hf hr0 (.inl rfl) h1 h2 sub ?_
        exact thn (callD (us := [.ref a, u]) (vs := [.ref a, y]) (ds := [dx, dy]) F hr hb tk I ok (.cons rdx (.cons rdy .nil)) (.cons rfl (.cons ry .nil)) rfl q) fun v s' h => ep_back h
end
end DL
set_option maxRecDepth 100000
set_option maxHeartbeats 4000000
set_option autoImplicit false
namespace DL
/-! reading from the left: what stands behind is read once its first part is known -/
def seqK (r : Res DS Out) (g : DStm) : Res DS Out := r.bind fun o s1 => match o with | .nx => g s1 | o => .ok o s1
@[simp] theorem seqK_nx (s : DS) (g : DStm) : seqK (.ok .nx s) g = g s := rfl
@[simp] theorem seqK_rt (d : D) (s : DS) (g : DStm) : seqK (.ok (.rt d) s) g = .ok (.rt d) s := rfl
@[simp] theorem seqK_bk (s : DS) (g : DStm) : seqK (.ok .bk s) g = .ok .bk s := rfl
@[simp] theorem seqK_ct (s : DS) (g : DStm) : seqK (.ok .ct s) g = .ok .ct s := rfl
@[simp] theorem seqK_exc (x : Xc) (s : DS) (g : DStm) : seqK (.exc x s) g = .exc x s := rfl
theorem q_sSeq (f g : DStm) (s : DS) : sSeq f g s = seqK (f s) g := rfl
def ifK (r : Res DS Bool) (f g : DStm) : Res DS Out := r.bind fun b s1 => if b = true then f s1 else g s1
@[simp] theorem ifK_t (s : DS) (f g : DStm) : ifK (.ok true s) f g = f s := rfl
@[simp] theorem ifK_f (s : DS) (f g : DStm) : ifK (.ok false s) f g = g s := rfl
theorem ifK_b (b : Bool) (s : DS) (f g : DStm) : ifK (.ok b s) f g = if b = true then f s else g s := by cases b <;> rfl
theorem q_sIf (c : DT) (f g : DStm) (s : DS) : sIf c f g s = ifK (c s) f g := rfl
/-! ### comprehensions over the images of a list of anything -/
theorem lcA_of {α : Type} {vs : List Nat} {g : DG} {t : DT} {e : DE} {s0 : DS} (G : α → D) (τ : α → Bool) (f : α → D) : ∀ (l : List α) (acc : List D), (∀ a ∈ l, ∃ s1 s2, g (G a) (wipeS vs s0) = .ok () s1 ∧ t s1 = .ok (τ a) s2 ∧ (τ a = true → ∃ s3, e s2 = .ok (f a) s3 ∧ wipeS vs s3 = wipeS vs s0) ∧ (τ a = false → wipeS vs s2 = wipeS vs s0)) →
    l.length + acc.length ≤ 1000000 → ∀ s, wipeS vs s = wipeS vs s0 → ∃ s', lcL vs g t e (l.map G) acc s = .ok (acc ++ (l.filter τ).map f) s' ∧ wipeS vs s' = wipeS vs s0
  | [], acc, _, _, s, hs => ⟨s, by simp [lcL], hs⟩
  | a :: r, acc, h, hl, s, hs => by
    obtain ⟨s1, s2, e1, e2, e3, e4⟩ := h a (List.mem_cons_self ..)
    have hr := fun d hd => h d (List.mem_cons_of_mem _ hd)
    simp only [List.length_cons] at hl
    rw [List.map_cons, r_lc_cons, hs, e1]
    cases hτ : τ a with
    | true =>
      obtain ⟨s3, e5, e6⟩ := e3 hτ
      obtain ⟨s', e7, e8⟩ := lcA_of G τ f r (acc ++ [f a]) hr (by simp; omega) s3 e6
      refine ⟨s', ?_, e8⟩
      have : acc.length < 1000000 := by omega
      simp [e2, hτ, e5, this, e7]
    | false =>
      obtain ⟨s', e7, e8⟩ := lcA_of G τ f r acc hr (by omega) s2 (e4 hτ)
      refine ⟨s', ?_, e8⟩
      simp [e2, hτ, e7]
theorem aLc_ofT {α : Type} {vs : List Nat} {it : DA} {g : DG} {t : DT} {e : DE} {s s0 : DS} {l : List α} (G : α → D) (τ : α → Bool) (f : α → D) (hi : it s = .ok (l.map G) s0) (h : ∀ a ∈ l, ∃ s1 s2, g (G a) (wipeS vs s0) = .ok () s1 ∧ t s1 = .ok (τ a) s2 ∧ (τ a = true → ∃ s3, e s2 = .ok (f a) s3 ∧ wipeS vs s3 = wipeS vs s0) ∧ (τ a = false → wipeS vs s2 = wipeS vs s0))
    (hl : l.length ≤ 1000000) : aLc vs it g t e s = .ok ((l.filter τ).map f) ⟨unwipe vs s0.sl (wipeD vs s0.sl), s0.st⟩ := by
  obtain ⟨s', e1, e2⟩ := lcA_of G τ f l [] h (by simpa using hl) s0 rfl
  have e3 : wipeD vs s'.sl = wipeD vs s0.sl := congrArg DS.sl e2
  have e4 : s'.st = s0.st := by have := congrArg DS.st e2; simpa using this
  rw [r_aLc, hi]
  simp [e1, e3, e4]
theorem aLc_of {α : Type} {vs : List Nat} {it : DA} {g : DG} {e : DE} {s s0 : DS} {l : List α} (G : α → D) (f : α → D) (hi : it s = .ok (l.map G) s0) (h : ∀ a ∈ l, ∃ s1 s3, g (G a) (wipeS vs s0) = .ok () s1 ∧ e s1 = .ok (f a) s3 ∧ wipeS vs s3 = wipeS vs s0)
    (hl : l.length ≤ 1000000) : aLc vs it g bYes e s = .ok (l.map f) ⟨unwipe vs s0.sl (wipeD vs s0.sl), s0.st⟩ := by
  have := aLc_ofT (vs := vs) (it := it) (g := g) (t := bYes) (e := e) (s := s) G (fun _ => true) f hi (fun d hd => by
    obtain ⟨s1, s3, e1, e2, e3⟩ := h d hd
    exact ⟨s1, s1, e1, rfl, fun _ => ⟨s3, e2, e3⟩, fun z => nomatch z⟩) hl
  rwa [List.filter_eq_self.mpr (fun _ _ => rfl)] at this
/-- one variable, an element that leaves the state -/
theorem aLc_T1 {α : Type} {v : Nat} {it : DA} {t : DT} {e : DE} {s s0 : DS} {l : List α} (G : α → D) (τ : α → Bool) (f : α → D) (hi : it s = .ok (l.map G) s0) (hv : s0.sl[v]? = some .un) (h : ∀ a ∈ l, t ⟨s0.sl.set v (.val (G a)), s0.st⟩ = .ok (τ a) ⟨s0.sl.set v (.val (G a)), s0.st⟩ ∧ (τ a = true → e ⟨s0.sl.set v (.val (G a)), s0.st⟩ = .ok (f a) ⟨s0.sl.set v (.val (G a)), s0.st⟩))
    (hl : l.length ≤ 1000000) : aLc [v] it (gN v) t e s = .ok ((l.filter τ).map f) s0 := by
  have hs : s0.sl.set v .un = s0.sl := by
    obtain ⟨h1, h2⟩ := List.getElem?_eq_some_iff.mp hv
    rw [← h2]; exact List.set_getElem_self h1
  have := aLc_ofT (vs := [v]) (it := it) (g := gN v) (t := t) (e := e) (s := s) (s0 := s0) G τ f hi (fun a ha => by
    obtain ⟨h1, h2⟩ := h a ha
    refine ⟨_, _, rfl, ?_, fun ht => ⟨_, h2 ht, ?_⟩, fun _ => ?_⟩
    · simp only [r_wipeS, r_wipe_cons, r_wipe_nil, List.set_set]; exact h1
    · simp only [r_wipeS, r_wipe_cons, r_wipe_nil, List.set_set]
    · simp only [r_wipeS, r_wipe_cons, r_wipe_nil, List.set_set]) hl
  rw [this]
  simp only [r_wipe_cons, r_wipe_nil, r_unw_cons, r_unw_nil, hv, List.set_set, hs]
theorem aLc_M1 {α : Type} {v : Nat} {it : DA} {e : DE} {s s0 : DS} {l : List α} (G : α → D) (f : α → D) (hi : it s = .ok (l.map G) s0) (hv : s0.sl[v]? = some .un) (h : ∀ a ∈ l, e ⟨s0.sl.set v (.val (G a)), s0.st⟩ = .ok (f a) ⟨s0.sl.set v (.val (G a)), s0.st⟩)
    (hl : l.length ≤ 1000000) : aLc [v] it (gN v) bYes e s = .ok (l.map f) s0 := by
  have := aLc_T1 (v := v) (it := it) (t := bYes) (e := e) (s := s) (s0 := s0) G (fun _ => true) f hi hv (fun a ha => ⟨rfl, fun _ => h a ha⟩) hl
  rwa [List.filter_eq_self.mpr (fun _ _ => rfl)] at this
theorem blsOf_map {α : Type} (f : α → Bool) (l : List α) : blsOf (l.map fun a => D.bl (f a)) = some (l.map f) := by
  induction l with
  | nil => rfl
  | cons a l ih => simp only [List.map_cons, blsOf, ih, Option.map_some]
theorem bAll_map {α : Type} (f : α → Bool) (l : List α) : bAll [.lst (l.map fun a => D.bl (f a))] = some (.bl (l.all f)) := by
  simp only [bAll, blsOf_map, Option.map_some, List.all_map]; rfl
theorem bAny_map {α : Type} (f : α → Bool) (l : List α) : bAny [.lst (l.map fun a => D.bl (f a))] = some (.bl (l.any f)) := by
  simp only [bAny, blsOf_map, Option.map_some, List.any_map]; rfl
theorem rngL0 (n : Nat) : rngL 0 n = (List.range n).map fun (i : Nat) => D.int (i : Int) := by
  unfold rngL
  refine List.map_congr_left fun i _ => ?_
  rw [Int.zero_add]
theorem plFs_map {α : Type} (f : α → D) (h : ∀ a, plF (f a)) (l : List α) : plFs (l.map f) := by
  induction l with
  | nil => simp
  | cons a l ih => simp [ih, h a]
theorem eqPls_map {α : Type} [DecidableEq α] (f : α → D) (h : ∀ a b, eqPl (f a) (f b) = decide (a = b)) : ∀ l m : List α, eqPls (l.map f) (m.map f) = decide (l = m)
  | [], [] => by simp
  | [], b :: m => by simp
  | a :: l, [] => by simp
  | a :: l, b :: m => by
    rw [List.map_cons, List.map_cons, eqPls_cons, h, eqPls_map f h l m, ← Bool.decide_and]
    simp
theorem at_map {α : Type} (f : α → D) {l : List α} {k : Nat} {a : α} (h : l[k]? = some a) : L2.atI (l.map f) (k : Int) = some (f a) := L2.atI_nat (by rw [List.getElem?_map, h]; rfl)
def kD (k : Nat) : D := .int (k : Int)
theorem itR1_n {f : DA} {s s1 : DS} {n : Nat} (h : f s = .ok [.int (n : Int)] s1) (hn : n ≤ 1000000) : itR1 f s = .ok ((List.range n).map kD) s1 := by
  obtain ⟨z, hz⟩ : ∃ z : Int, (n : Int) = z := ⟨_, rfl⟩
  have h0 : -4611686018427387904 ≤ z ∧ z < 4611686018427387904 := by omega
  have h1 : z.toNat = n := by omega
  rw [hz] at h
  have e : itR1 f s = .ok (rngL 0 z.toNat) s1 := by
    rw [r_itR1, h]
    simp [h0]
  rw [e, h1, rngL0]; rfl
/-- one statement ahead of the rest -/
theorem sq_nx {f R : DStm} {s s1 : DS} (h : f s = .ok .nx s1) : sSeq f R s = R s1 := by
  rw [r_sSeq, h]; rfl
/-- a call whose arguments leave the state -/
theorem set_c1 {i : Nat} {g : DFn} {a : DE} {s : DS} {x d : D} {S1 : List Cell} (ha : a s = .ok x s) (e : g [x] s.st = .ok d S1) : sSet i (eCall 1 g (aCons a aNil)) s = .ok .nx ⟨s.sl.set i (.val d), S1⟩ := by
  simp [ha, e]
theorem set_c2 {i : Nat} {g : DFn} {a b : DE} {s : DS} {x y d : D} {S1 : List Cell} (ha : a s = .ok x s) (hb : b s = .ok y s) (e : g [x, y] s.st = .ok d S1) : sSet i (eCall 2 g (aCons a (aCons b aNil))) s = .ok .nx ⟨s.sl.set i (.val d), S1⟩ := by
  simp [ha, hb, e]
theorem call_c1 {g : DFn} {a : DE} {s : DS} {x d : D} {S1 : List Cell} (ha : a s = .ok x s) (e : g [x] s.st = .ok d S1) : eCall 1 g (aCons a aNil) s = .ok d ⟨s.sl, S1⟩ := by
  simp [ha, e]
theorem call_c2 {g : DFn} {a b : DE} {s : DS} {x y d : D} {S1 : List Cell} (ha : a s = .ok x s) (hb : b s = .ok y s) (e : g [x, y] s.st = .ok d S1) : eCall 2 g (aCons a (aCons b aNil)) s = .ok d ⟨s.sl, S1⟩ := by
  simp [ha, hb, e]
theorem tup_2 {a b : DE} {s s1 s2 : DS} {x y : D} (ha : a s = .ok x s1) (hb : b s1 = .ok y s2) : eTup (aCons a (aCons b aNil)) s = .ok (.tup [x, y]) s2 := by
  simp [ha, hb]
theorem asg_t {f : DE} {g : DG} {s s1 s2 : DS} {d : D} (h : f s = .ok d s1) (k : g d s1 = .ok () s2) : sAsgT f g s = .ok .nx s2 := by
  simp [h, k]
theorem set_e {i : Nat} {f : DE} {s s1 : DS} {d : D} (h : f s = .ok d s1) : sSet i f s = .ok .nx ⟨s1.sl.set i (.val d), s1.st⟩ := by
  simp [h]
theorem set_o {i : Nat} {f : DA} {s s1 : DS} {ds : List D} (h : f s = .ok ds s1) : sSetO i f s = .ok .nx ⟨s1.sl.set i (.ol ds), s1.st⟩ := by
  simp [h]
theorem if_t {c : DT} {f g : DStm} {s s1 : DS} (h : c s = .ok true s1) : sIf c f g s = f s1 := by
  rw [r_sIf, h]; rfl
theorem if_f {c : DT} {f g : DStm} {s s1 : DS} (h : c s = .ok false s1) : sIf c f g s = g s1 := by
  rw [r_sIf, h]; rfl
theorem ret_e {f : DE} {s s1 : DS} {d : D} (h : f s = .ok d s1) : sRet f s = .ok (.rt d) s1 := by
  simp [h]
theorem sq_rt {f R : DStm} {s s1 : DS} {d : D} (h : f s = .ok (.rt d) s1) : sSeq f R s = .ok (.rt d) s1 := by
  rw [r_sSeq, h]; rfl
theorem op_2 {o : D → D → Option D} {a b : DE} {s s1 s2 : DS} {x y d : D} (ha : a s = .ok x s1) (hb : b s1 = .ok y s2) (h : o x y = some d) : eOp2 o a b s = .ok d s2 := by
  simp [ha, hb, h]
theorem eB_of {f : DE} {s s1 : DS} {b : Bool} (h : f s = .ok (.bl b) s1) : eB f s = .ok b s1 := by
  simp [h]
theorem and_t {f g : DT} {s s1 : DS} (h : f s = .ok true s1) : bAnd f g s = g s1 := by
  rw [r_bAnd, h]; rfl
theorem and_f {f g : DT} {s s1 : DS} (h : f s = .ok false s1) : bAnd f g s = .ok false s1 := by
  rw [r_bAnd, h]; rfl
theorem or_t {f g : DT} {s s1 : DS} (h : f s = .ok true s1) : bOr f g s = .ok true s1 := by
  rw [r_bOr, h]; rfl
theorem or_f {f g : DT} {s s1 : DS} (h : f s = .ok false s1) : bOr f g s = g s1 := by
  rw [r_bOr, h]; rfl
theorem fn_rt {n m : Nat} {b : DStm} {ds : List D} {S S' : List Cell} {d : D} {sl : List Sl} (hn : ds.length = n) (h : b ⟨ds.map .val ++ List.replicate m .un, S⟩ = .ok (.rt d) ⟨sl, S'⟩) : fnD n b m ds S = .ok d S' := by
  simp [fnD, hn, h]
theorem for_seq {f : DE} {g : DG} {b : DStm} {s s1 : DS} {d : D} {xs : List D} {r : Res DS Out} (hf : f s = .ok d s1) (hi : itemsD d = some xs) (h : forL g b xs s1 = r) : sFor (itSeq f) g b s = r := by
  rw [r_sFor, r_itSeq, hf]
  simp only [Res.bind_ok, hi, h]
theorem for_it {it : DA} {g : DG} {b : DStm} {s s1 : DS} {xs : List D} {r : Res DS Out} (hf : it s = .ok xs s1) (h : forL g b xs s1 = r) : sFor it g b s = r := by
  rw [r_sFor, hf]
  simp only [Res.bind_ok, h]
theorem frz_e {f : DA} {s s1 : DS} {xs : List D} (h : f s = .ok xs s1) : eFrz f s = .ok (.lst xs) s1 := by
  rw [r_eFrz, h]; rfl
theorem add_ll {xs ys : List D} (h : xs.length + ys.length ≤ 1000000) : dAdd (.lst xs) (.lst ys) = some (.lst (xs ++ ys)) := by
  rw [r_dAdd_ll, r_lAdd_ll, if_pos h]
theorem app_e {i : Nat} {f : DE} {s s1 : DS} {xs0 xs : List D} {d : D} (h0 : s.sl[i]? = some (.ol xs0)) (h : f s = .ok d s1) (h1 : s1.sl[i]? = some (.ol xs)) (hl : xs.length < 1000000) : sApp i (aCons f aNil) s = .ok .nx ⟨s1.sl.set i (.ol (xs ++ [d])), s1.st⟩ := by
  rw [r_sApp, h0]
  simp only [r_aCons, h, r_aNil, Res.bind_ok, h1, if_pos hl]
theorem for_1 {i : Nat} {b : DStm} {d : D} {r : List D} {s s1 : DS} (h : b ⟨s.sl.set i (.val d), s.st⟩ = .ok .nx s1) : forL (gN i) b (d :: r) s = forL (gN i) b r s1 := by
  rw [r_for_cons]
  simp only [r_gN, r_noX_ok, Res.bind_ok, h, r_lo_nx]
theorem for_rt {i : Nat} {b : DStm} {d v : D} {r : List D} {s s1 : DS} (h : b ⟨s.sl.set i (.val d), s.st⟩ = .ok (.rt v) s1) : forL (gN i) b (d :: r) s = .ok (.rt v) s1 := by
  rw [r_for_cons]
  simp only [r_gN, r_noX_ok, Res.bind_ok, h, r_lo_rt]
end DL
set_option maxRecDepth 100000
set_option maxHeartbeats 4000000
namespace W_k02
open PySem PySem.Spec PyProof.Rows L2 DL
noncomputable section
def topS (i : Nat) : Stmt := PySem.Challenge.pw_areawalks_k02_places.main.body.getD i (.Pass ⟨0, 0, 0, 0⟩)
theorem s_0 : ("area" : Str) = nm [97, 114, 101, 97] := by decide +kernel
theorem s_1 : ("y" : Str) = nm [121] := by decide +kernel
theorem s_2 : ("x" : Str) = nm [120] := by decide +kernel
theorem s_3 : ("value" : Str) = nm [118, 97, 108, 117, 101] := by decide +kernel
theorem s_4 : ("rest" : Str) = nm [114, 101, 115, 116] := by decide +kernel
theorem s_5 : ("stop" : Str) = nm [115, 116, 111, 112] := by decide +kernel
theorem s_6 : ("cells" : Str) = nm [99, 101, 108, 108, 115] := by decide +kernel
theorem s_7 : ("power" : Str) = nm [112, 111, 119, 101, 114] := by decide +kernel
theorem s_8 : ("number" : Str) = nm [110, 117, 109, 98, 101, 114] := by decide +kernel
theorem s_9 : ("place" : Str) = nm [112, 108, 97, 99, 101] := by decide +kernel
theorem s_10 : ("other" : Str) = nm [111, 116, 104, 101, 114] := by decide +kernel
theorem s_11 : ("1" : Str) = nm [49] := by decide +kernel
theorem s_12 : ("twist" : Str) = nm [116, 119, 105, 115, 116] := by decide +kernel
theorem s_13 : ("lifted" : Str) = nm [108, 105, 102, 116, 101, 100] := by decide +kernel
theorem s_14 : ("s" : Str) = nm [115] := by decide +kernel
theorem s_15 : ("n" : Str) = nm [110] := by decide +kernel
theorem s_16 : ("w" : Str) = nm [119] := by decide +kernel
theorem s_17 : ("e" : Str) = nm [101] := by decide +kernel
theorem s_18 : ("ew" : Str) = nm [101, 119] := by decide +kernel
theorem s_19 : ("ewns" : Str) = nm [101, 119, 110, 115] := by decide +kernel
theorem s_20 : ("is_home" : Str) = nm [105, 115, 95, 104, 111, 109, 101] := by decide +kernel
abbrev xst_BadNumber : Stmt := inClass (topS 2) 0
theorem xsh_BadNumber : XSh xst_BadNumber "self" "value" "value" := ⟨_, _, _, _, _, _, _, _, _, _, _, rfl, rfl, rfl, rfl, rfl, rfl, rfl, by decide +kernel, rfl, rfl, rfl, by decide⟩
abbrev xst_BadPlace : Stmt := inClass (topS 3) 0
theorem xsh_BadPlace : XSh xst_BadPlace "self" "value" "value" := ⟨_, _, _, _, _, _, _, _, _, _, _, rfl, rfl, rfl, rfl, rfl, rfl, rfl, by decide +kernel, rfl, rfl, rfl, by decide⟩
/-! Place.__eq__ -/
abbrev st_PlaceX_eqX : Stmt := inClass (topS 8) 1
theorem sc_PlaceX_eqX : FnScope ["self", "other"] ["self", "other"] (defScope st_PlaceX_eqX) := ⟨rfl, rfl, rfl, by decide +kernel, rfl, by decide +kernel, by decide +kernel⟩
/-! is_integer -/
abbrev st_is_integer : Stmt := topS 5
theorem sc_is_integer : FnScope ["value"] ["value"] (defScope st_is_integer) := ⟨rfl, rfl, rfl, by decide +kernel, rfl, by decide +kernel, by decide +kernel⟩
/-! Place.__init__ -/
abbrev st_PlaceX_initX : Stmt := inClass (topS 8) 0
theorem sc_PlaceX_initX : FnScope ["self", "x", "y", "area", "value"] ["self", "x", "y", "area"] (defScope st_PlaceX_initX) := ⟨rfl, rfl, rfl, by decide +kernel, rfl, by decide +kernel, by decide +kernel⟩
/-! Place.__invert__ -/
abbrev st_PlaceX_invertX : Stmt := inClass (topS 8) 3
theorem sc_PlaceX_invertX : FnScope ["self"] ["self"] (defScope st_PlaceX_invertX) := ⟨rfl, rfl, rfl, by decide +kernel, rfl, by decide +kernel, by decide +kernel⟩
/-! Place.__mul__ -/
abbrev st_PlaceX_mulX : Stmt := inClass (topS 8) 2
theorem sc_PlaceX_mulX : FnScope ["self", "other"] ["self", "other"] (defScope st_PlaceX_mulX) := ⟨rfl, rfl, rfl, by decide +kernel, rfl, by decide +kernel, by decide +kernel⟩
/-! Place.is_home -/
abbrev st_Place_is_home : Stmt := inClass (topS 8) 5
theorem sc_Place_is_home : FnScope ["self"] ["self"] (defScope st_Place_is_home) := ⟨rfl, rfl, rfl, by decide +kernel, rfl, by decide +kernel, by decide +kernel⟩
/-! Place.lifted -/
abbrev st_Place_lifted : Stmt := inClass (topS 8) 6
theorem sc_Place_lifted : FnScope ["self", "storeys"] ["self", "storeys"] (defScope st_Place_lifted) := ⟨rfl, rfl, rfl, by decide +kernel, rfl, by decide +kernel, by decide +kernel⟩
/-! need_place -/
abbrev st_need_place : Stmt := topS 9
theorem sc_need_place : FnScope ["value"] ["value"] (defScope st_need_place) := ⟨rfl, rfl, rfl, by decide +kernel, rfl, by decide +kernel, by decide +kernel⟩
/-! Place.twist -/
abbrev st_Place_twist : Stmt := inClass (topS 8) 7
theorem sc_Place_twist : FnScope ["self", "other"] ["self", "other"] (defScope st_Place_twist) := ⟨rfl, rfl, rfl, by decide +kernel, rfl, by decide +kernel, by decide +kernel⟩
/-! _law_draw -/
abbrev st__law_draw : Stmt := topS 15
theorem sc__law_draw : FnScope ["_law_pen_here", "_law_many", "_law_digit", "_law_stop", "_law_cell", "_law_blend"] ["_law_pen_here", "_law_many"] (defScope st__law_draw) := ⟨rfl, rfl, rfl, by decide +kernel, rfl, by decide +kernel, by decide +kernel⟩
/-! _law_pen -/
abbrev st__law_pen : Stmt := topS 14
theorem sc__law_pen : FnScope ["_law_script"] ["_law_script"] (defScope st__law_pen) := ⟨rfl, rfl, rfl, by decide +kernel, rfl, by decide +kernel, by decide +kernel⟩
/-! _law_pick -/
abbrev st__law_pick : Stmt := topS 16
theorem sc__law_pick : FnScope ["_law_pen_here", "_law_items"] ["_law_pen_here", "_law_items"] (defScope st__law_pick) := ⟨rfl, rfl, rfl, by decide +kernel, rfl, by decide +kernel, by decide +kernel⟩
/-! _law_big -/
abbrev st__law_big : Stmt := topS 17
theorem sc__law_big : FnScope ["_law_pen_here", "_law_size", "_law_found", "_law_k"] ["_law_pen_here", "_law_size"] (defScope st__law_big) := ⟨rfl, rfl, rfl, by decide +kernel, rfl, by decide +kernel, by decide +kernel⟩
/-! _law_whole -/
abbrev st__law_whole : Stmt := topS 18
theorem sc__law_whole : FnScope ["_law_pen_here", "_law_size"] ["_law_pen_here", "_law_size"] (defScope st__law_whole) := ⟨rfl, rfl, rfl, by decide +kernel, rfl, by decide +kernel, by decide +kernel⟩
/-! _law_place -/
abbrev st__law_place : Stmt := topS 19
theorem sc__law_place : FnScope ["_law_pen_here", "_law_size"] ["_law_pen_here", "_law_size"] (defScope st__law_place) := ⟨rfl, rfl, rfl, by decide +kernel, rfl, by decide +kernel, by decide +kernel⟩
/-! pairs_below -/
abbrev st_pairs_below : Stmt := topS 6
theorem sc_pairs_below : FnScope ["number"] ["number"] (defScope st_pairs_below) := ⟨rfl, rfl, rfl, by decide +kernel, rfl, by decide +kernel, by decide +kernel⟩
/-! Place.power -/
abbrev st_Place_power : Stmt := inClass (topS 8) 4
theorem sc_Place_power : FnScope ["self", "number"] ["self", "number"] (defScope st_Place_power) := ⟨rfl, rfl, rfl, by decide +kernel, rfl, by decide +kernel, by decide +kernel⟩
/-! home_place -/
abbrev st_home_place : Stmt := topS 11
theorem sc_home_place : FnScope [] [] (defScope st_home_place) := ⟨rfl, rfl, rfl, by decide +kernel, rfl, by decide +kernel, by decide +kernel⟩
/-! need_places -/
abbrev st_need_places : Stmt := topS 10
theorem sc_need_places : FnScope ["values", "value"] ["values"] (defScope st_need_places) := ⟨rfl, rfl, rfl, by decide +kernel, rfl, by decide +kernel, by decide +kernel⟩
/-! product_of -/
abbrev st_product_of : Stmt := topS 12
theorem sc_product_of : FnScope ["places", "found", "place"] ["places"] (defScope st_product_of) := ⟨rfl, rfl, rfl, by decide +kernel, rfl, by decide +kernel, by decide +kernel⟩
/-! _law_powers_right -/
abbrev st__law_powers_right : Stmt := topS 25
theorem sc__law_powers_right : FnScope ["_law_pen_here", "_law_place_here", "_law_many", "_law_few", "_law_far"] ["_law_pen_here", "_law_place_here"] (defScope st__law_powers_right) := ⟨rfl, rfl, rfl, by decide +kernel, rfl, by decide +kernel, by decide +kernel⟩
/-! _law_refused -/
abbrev st__law_refused : Stmt := topS 22
theorem sc__law_refused : FnScope ["_law_ask", "e"] ["_law_ask"] (defScope st__law_refused) := ⟨rfl, rfl, rfl, by decide +kernel, rfl, by decide +kernel, by decide +kernel⟩
/-! _law_same -/
abbrev st__law_same : Stmt := topS 23
theorem sc__law_same : FnScope ["_law_one", "_law_other"] ["_law_one", "_law_other"] (defScope st__law_same) := ⟨rfl, rfl, rfl, by decide +kernel, rfl, by decide +kernel, by decide +kernel⟩
/-! _law_refusals_right -/
abbrev st__law_refusals_right : Stmt := topS 24
theorem sc__law_refusals_right : FnScope ["_law_pen_here", "_law_place_here", "_law_odds", "_law_odd", "_law_other", "_law_thing"] ["_law_pen_here", "_law_place_here"] (defScope st__law_refusals_right) := ⟨rfl, rfl, rfl, by decide +kernel, rfl, by decide +kernel, by decide +kernel⟩
/-! _law_step -/
abbrev st__law_step : Stmt := topS 20
theorem sc__law_step : FnScope ["_law_letter"] ["_law_letter"] (defScope st__law_step) := ⟨rfl, rfl, rfl, by decide +kernel, rfl, by decide +kernel, by decide +kernel⟩
/-! _law_swept -/
abbrev st__law_swept : Stmt := topS 21
theorem sc__law_swept : FnScope ["_law_letters", "_law_across", "_law_upward", "_law_swept_here", "_law_letter"] ["_law_letters"] (defScope st__law_swept) := ⟨rfl, rfl, rfl, by decide +kernel, rfl, by decide +kernel, by decide +kernel⟩
/-! law -/
abbrev st_law : Stmt := topS 26
theorem sc_law : FnScope ["_law_script", "_law_pen_here", "_law_lap", "_law_letters", "_law_led", "_law_size", "_law_one", "_law_two", "_law_three", "_law_k", "_law_letter"] ["_law_script"] (defScope st_law) := ⟨rfl, rfl, rfl, by decide +kernel, rfl, by decide +kernel, by decide +kernel⟩
def b_PlaceX_eqX : DStm := sSeq (sIf (bNot (eTru (eCB (bIsi ["Place"]) (aCons (eVar 1) (aCons (eC (.cls "Place")) (aNil)))))) (sRet (eC (.bl false))) (sPass))
    (sRet (eOp2 dEq (eTup (aCons (eFld ["Place"] [120] (eVar 0)) (aCons (eFld ["Place"] [121] (eVar 0)) (aCons (eFld ["Place"] [97, 114, 101, 97] (eVar 0)) (aNil))))) (eTup (aCons (eFld ["Place"] [120] (eVar 1)) (aCons (eFld ["Place"] [121] (eVar 1)) (aCons (eFld ["Place"] [97, 114, 101, 97] (eVar 1)) (aNil)))))))
def g_PlaceX_eqX : DFn := fnD 2 b_PlaceX_eqX 0
def b_is_integer : DStm := sRet (eAndT (eCB (bIsi ["Place"]) (aCons (eVar 0) (aCons (eC (.ty "int")) (aNil)))) (eNotT (eCB (bIsi ["Place"]) (aCons (eVar 0) (aCons (eC (.ty "bool")) (aNil))))))
def g_is_integer : DFn := fnD 1 b_is_integer 0
def w_PlaceX_initX_0 : DStm := sIf (bNot (eTru (eCall 1 g_is_integer (aCons (eVar 4) (aNil))))) (sRaise "BadNumber" [118, 97, 108, 117, 101] (aCons (eVar 4) (aNil))) (sPass)
def b_PlaceX_initX : DStm := sSeq (sFor (itSeq (eTup (aCons (eVar 1) (aCons (eVar 2) (aCons (eVar 3) (aNil)))))) (gN 4) (w_PlaceX_initX_0))
    (sSeq (sFldO "Place" 0 [120] (eVar 1))
    (sSeq (sFldO "Place" 0 [121] (eVar 2))
    (sFldO "Place" 0 [97, 114, 101, 97] (eVar 3))))
def g_PlaceX_initX : DIn := inD "Place" 3 b_PlaceX_initX 1
def b_PlaceX_invertX : DStm := sRet (eMake "Place" 3 g_PlaceX_initX (aCons (eNeg (eFld ["Place"] [120] (eVar 0))) (aCons (eNeg (eFld ["Place"] [121] (eVar 0))) (aCons (eOp2 iSub (eOp2 dMul (eFld ["Place"] [120] (eVar 0)) (eFld ["Place"] [121] (eVar 0))) (eFld ["Place"] [97, 114, 101, 97] (eVar 0))) (aNil)))))
def g_PlaceX_invertX : DFn := fnD 1 b_PlaceX_invertX 0
def b_PlaceX_mulX : DStm := sSeq (sIf (bNot (eTru (eCB (bIsi ["Place"]) (aCons (eVar 1) (aCons (eC (.cls "Place")) (aNil)))))) (sRaise "BadPlace" [118, 97, 108, 117, 101] (aCons (eVar 1) (aNil))) (sPass))
    (sRet (eMake "Place" 3 g_PlaceX_initX (aCons (eOp2 dAdd (eFld ["Place"] [120] (eVar 0)) (eFld ["Place"] [120] (eVar 1))) (aCons (eOp2 dAdd (eFld ["Place"] [121] (eVar 0)) (eFld ["Place"] [121] (eVar 1))) (aCons (eOp2 dAdd (eOp2 dAdd (eFld ["Place"] [97, 114, 101, 97] (eVar 0)) (eFld ["Place"] [97, 114, 101, 97] (eVar 1))) (eOp2 dMul (eFld ["Place"] [120] (eVar 0)) (eFld ["Place"] [121] (eVar 1)))) (aNil))))))
def g_PlaceX_mulX : DFn := fnD 2 b_PlaceX_mulX 0
def b_Place_is_home : DStm := sRet (eAndT (eOp2 dEq (eFld ["Place"] [120] (eVar 0)) (eC (.int 0))) (eAndT (eOp2 dEq (eFld ["Place"] [121] (eVar 0)) (eC (.int 0))) (eOp2 dEq (eFld ["Place"] [97, 114, 101, 97] (eVar 0)) (eC (.int 0)))))
def g_Place_is_home : DFn := fnD 1 b_Place_is_home 0
def b_Place_lifted : DStm := sSeq (sIf (bNot (eTru (eCall 1 g_is_integer (aCons (eVar 1) (aNil))))) (sRaise "BadNumber" [118, 97, 108, 117, 101] (aCons (eVar 1) (aNil))) (sPass))
    (sRet (eMake "Place" 3 g_PlaceX_initX (aCons (eFld ["Place"] [120] (eVar 0)) (aCons (eFld ["Place"] [121] (eVar 0)) (aCons (eOp2 dAdd (eFld ["Place"] [97, 114, 101, 97] (eVar 0)) (eVar 1)) (aNil))))))
def g_Place_lifted : DFn := fnD 2 b_Place_lifted 0
def b_need_place : DStm := sIf (bNot (eTru (eCB (bIsi ["Place"]) (aCons (eVar 0) (aCons (eC (.cls "Place")) (aNil)))))) (sRaise "BadPlace" [118, 97, 108, 117, 101] (aCons (eVar 0) (aNil))) (sPass)
def g_need_place : DFn := fnD 1 b_need_place 0
def b_Place_twist : DStm := sSeq (sExpr (eCall 1 g_need_place (aCons (eVar 1) (aNil))))
    (sRet (eOp2 iSub (eOp2 dMul (eFld ["Place"] [120] (eVar 0)) (eFld ["Place"] [121] (eVar 1))) (eOp2 dMul (eFld ["Place"] [120] (eVar 1)) (eFld ["Place"] [121] (eVar 0)))))
def g_Place_twist : DFn := fnD 2 b_Place_twist 0
def b__law_draw : DStm := sSeq (sIf (eB (eOp2 iGe (eDGet (eVar 0) (eC (.str [114, 101, 115, 116]))) (eVar 1))) (sSeq (sSet 2 (eOp2 iMod (eCB (bInt) (aCons (eDGet (eVar 0) (eC (.str [114, 101, 115, 116]))) (aNil))) (eVar 1)))
    (sSeq (sDPutC (eVar 0) (eC (.str [114, 101, 115, 116])) (eOp2 iDiv (eDGet (eVar 0) (eC (.str [114, 101, 115, 116]))) (eVar 1)))
    (sRet (eVar 2)))) (sPass))
    (sSeq (sSet 3 (eDGet (eVar 0) (eC (.str [115, 116, 111, 112]))))
    (sSeq (sDPutC (eVar 0) (eC (.str [115, 116, 111, 112])) (eOp2 dAdd (eVar 3) (eC (.int 1))))
    (sSeq (sSet 4 (eOp2 dAdd (eOp2 dMul (eC (.int 73)) (eVar 3)) (eC (.int 41))))
    (sSeq (sIf (eB (eOp2 dNe (eDGet (eVar 0) (eC (.str [99, 101, 108, 108, 115]))) (eFrz (aMax (aNil))))) (sSet 4 (eIx (eDGet (eVar 0) (eC (.str [99, 101, 108, 108, 115]))) (eOp2 iMod (eCB (bInt) (aCons (eVar 3) (aNil))) (eCB (bLen) (aCons (eDGet (eVar 0) (eC (.str [99, 101, 108, 108, 115]))) (aNil)))))) (sPass))
    (sSeq (sIf (bAnd (eB (eOp2 iLt (eVar 3) (eCB (bLen) (aCons (eDGet (eVar 0) (eC (.str [99, 101, 108, 108, 115]))) (aNil))))) (eB (eOp2 iGe (eVar 4) (eOp2 iPow (eC (.int 10)) (eC (.int 18)))))) (sSeq (sDPutC (eVar 0) (eC (.str [114, 101, 115, 116])) (eOp2 iDiv (eOp2 iSub (eVar 4) (eOp2 iPow (eC (.int 10)) (eC (.int 18)))) (eVar 1)))
    (sRet (eOp2 iMod (eCB (bInt) (aCons (eOp2 iSub (eVar 4) (eOp2 iPow (eC (.int 10)) (eC (.int 18)))) (aNil))) (eVar 1)))) (sPass))
    (sSeq (sSet 5 (eOp2 dMul (eOp2 iMod (eCB (bInt) (aCons (eVar 4) (aNil))) (eC (.int 2147483269))) (eC (.int 40177))))
    (sSeq (sSet 5 (eOp2 iMod (eCB (bInt) (aCons (eOp2 dAdd (eOp2 dAdd (eOp2 dAdd (eVar 5) (eOp2 dMul (eOp2 dMul (eC (.int 52489)) (eVar 3)) (eVar 3))) (eOp2 dMul (eC (.int 103)) (eVar 3))) (eC (.int 37))) (aNil))) (eC (.int 2147483323))))
    (sSeq (sSet 5 (eOp2 iMod (eCB (bInt) (aCons (eOp2 dMul (eVar 5) (eOp2 dAdd (eVar 5) (eC (.int 70019)))) (aNil))) (eC (.int 2147483353))))
    (sRet (eOp2 iMod (eCB (bInt) (aCons (eOp2 iDiv (eOp2 iMod (eCB (bInt) (aCons (eOp2 dAdd (eOp2 dMul (eVar 5) (eVar 5)) (eOp2 dMul (eC (.int 19)) (eVar 5))) (aNil))) (eC (.int 2147483399))) (eC (.int 16))) (aNil))) (eVar 1)))))))))))
def g__law_draw : DFn := fnD 2 b__law_draw 4
def b__law_pen : DStm := sRet (eCellD (dDisp [(eC (.str [99, 101, 108, 108, 115]), eFrz (aList (aCons (eSlA (eVar 0) (oNone) (oSome (eC (.int 63)))) (aNil)))), (eC (.str [115, 116, 111, 112]), eC (.int 0)), (eC (.str [114, 101, 115, 116]), eC (.int 0))]))
def g__law_pen : DFn := fnD 1 b__law_pen 0
def b__law_pick : DStm := sRet (eIx (eVar 1) (eCall 2 g__law_draw (aCons (eVar 0) (aCons (eCB (bLen) (aCons (eVar 1) (aNil))) (aNil)))))
def g__law_pick : DFn := fnD 2 b__law_pick 0
def w__law_big_0 : DStm := sSeq (sSet 2 (eOp2 dAdd (eOp2 dMul (eVar 2) (eOp2 iPow (eC (.int 10)) (eC (.int 5)))) (eCall 2 g__law_draw (aCons (eVar 0) (aCons (eOp2 iPow (eC (.int 10)) (eC (.int 5))) (aNil))))))
    (sIf (eB (eOp2 iGt (eVar 2) (eOp2 dMul (eVar 1) (eOp2 iPow (eC (.int 10)) (eC (.int 5)))))) (sRet (eOp2 iMod (eVar 2) (eVar 1))) (sPass))
def b__law_big : DStm := sSeq (sIf (eB (eOp2 iLt (eVar 1) (eOp2 iPow (eC (.int 10)) (eC (.int 7))))) (sRet (eCall 2 g__law_draw (aCons (eVar 0) (aCons (eVar 1) (aNil))))) (sPass))
    (sSeq (sSet 2 (eC (.int 0)))
    (sSeq (sFor (itR1 (aCons (eC (.int 24)) (aNil))) (gN 3) (w__law_big_0))
    (sRet (eOp2 iMod (eVar 2) (eVar 1)))))
def g__law_big : DFn := fnD 2 b__law_big 2
def b__law_whole : DStm := sRet (eOp2 iSub (eCall 2 g__law_big (aCons (eVar 0) (aCons (eOp2 dAdd (eOp2 dMul (eC (.int 2)) (eVar 1)) (eC (.int 1))) (aNil)))) (eVar 1))
def g__law_whole : DFn := fnD 2 b__law_whole 0
def b__law_place : DStm := sRet (eMake "Place" 3 g_PlaceX_initX (aCons (eCall 2 g__law_whole (aCons (eVar 0) (aCons (eVar 1) (aNil)))) (aCons (eCall 2 g__law_whole (aCons (eVar 0) (aCons (eVar 1) (aNil)))) (aCons (eCall 2 g__law_whole (aCons (eVar 0) (aCons (eOp2 dMul (eVar 1) (eVar 1)) (aNil)))) (aNil)))))
def g__law_place : DFn := fnD 2 b__law_place 0
def b_pairs_below : DStm := sRet (eOp2 iDiv (eOp2 dMul (eVar 0) (eOp2 iSub (eVar 0) (eC (.int 1)))) (eC (.int 2)))
def g_pairs_below : DFn := fnD 1 b_pairs_below 0
def b_Place_power : DStm := sSeq (sIf (bNot (eTru (eCall 1 g_is_integer (aCons (eVar 1) (aNil))))) (sRaise "BadNumber" [118, 97, 108, 117, 101] (aCons (eVar 1) (aNil))) (sPass))
    (sRet (eMake "Place" 3 g_PlaceX_initX (aCons (eOp2 dMul (eVar 1) (eFld ["Place"] [120] (eVar 0))) (aCons (eOp2 dMul (eVar 1) (eFld ["Place"] [121] (eVar 0))) (aCons (eOp2 dAdd (eOp2 dMul (eVar 1) (eFld ["Place"] [97, 114, 101, 97] (eVar 0))) (eOp2 dMul (eOp2 dMul (eCall 1 g_pairs_below (aCons (eVar 1) (aNil))) (eFld ["Place"] [120] (eVar 0))) (eFld ["Place"] [121] (eVar 0)))) (aNil))))))
def g_Place_power : DFn := fnD 2 b_Place_power 0
def b_home_place : DStm := sRet (eMake "Place" 3 g_PlaceX_initX (aCons (eC (.int 0)) (aCons (eC (.int 0)) (aCons (eC (.int 0)) (aNil)))))
def g_home_place : DFn := fnD 0 b_home_place 0
def w_need_places_0 : DStm := sExpr (eCall 1 g_need_place (aCons (eVar 1) (aNil)))
def b_need_places : DStm := sFor (itSeq (eVar 0)) (gN 1) (w_need_places_0)
def g_need_places : DFn := fnD 1 b_need_places 1
def w_product_of_0 : DStm := sSet 1 (eOpX (ownO "Place" g_PlaceX_mulX) (eVar 1) (eVar 2))
def b_product_of : DStm := sSeq (sExpr (eCall 1 g_need_places (aCons (eVar 0) (aNil))))
    (sSeq (sSet 1 (eMake "Place" 3 g_PlaceX_initX (aCons (eC (.int 0)) (aCons (eC (.int 0)) (aCons (eC (.int 0)) (aNil))))))
    (sSeq (sFor (itSeq (eVar 0)) (gN 2) (w_product_of_0))
    (sRet (eVar 1))))
def g_product_of : DFn := fnD 1 b_product_of 2
def b__law_powers_right : DStm := sSeq (sPar 2 3 (aCons (eCall 2 g__law_draw (aCons (eVar 0) (aCons (eC (.int 9)) (aNil)))) (aCons (eCall 2 g__law_whole (aCons (eVar 0) (aCons (eCall 2 g__law_pick (aCons (eVar 0) (aCons (eFrz (aMax (aCons (eC (.int 5)) (aCons (eOp2 iPow (eC (.int 10)) (eC (.int 30))) (aNil))))) (aNil)))) (aNil)))) (aNil))))
    (sSeq (sIf (bOr (eB (eOpX (ownNe "Place" g_PlaceX_eqX) (eMeth "Place" [112, 111, 119, 101, 114] 2 g_Place_power (eVar 1) (aCons (eVar 2) (aNil))) (eCall 1 g_product_of (aCons (eOp2 dMul (eFrz (aMax (aCons (eVar 1) (aNil)))) (eVar 2)) (aNil))))) (eB (eOpX (ownNe "Place" g_PlaceX_eqX) (eMeth "Place" [112, 111, 119, 101, 114] 2 g_Place_power (eVar 1) (aCons (eNeg (eVar 2)) (aNil))) (eInv "Place" g_PlaceX_invertX (eMeth "Place" [112, 111, 119, 101, 114] 2 g_Place_power (eVar 1) (aCons (eVar 2) (aNil))))))) (sRet (eC (.bl false))) (sPass))
    (sSeq (sSet 4 (eMeth "Place" [112, 111, 119, 101, 114] 2 g_Place_power (eVar 1) (aCons (eVar 3) (aNil))))
    (sSeq (sIf (eB (eOpX (ownNe "Place" g_PlaceX_eqX) (eOpX (ownO "Place" g_PlaceX_mulX) (eVar 4) (eMeth "Place" [112, 111, 119, 101, 114] 2 g_Place_power (eVar 1) (aCons (eVar 2) (aNil)))) (eMeth "Place" [112, 111, 119, 101, 114] 2 g_Place_power (eVar 1) (aCons (eOp2 dAdd (eVar 3) (eVar 2)) (aNil))))) (sRet (eC (.bl false))) (sPass))
    (sRet (eAndT (eOpX (ownO "Place" g_PlaceX_eqX) (eMeth "Place" [112, 111, 119, 101, 114] 2 g_Place_power (eVar 4) (aCons (eVar 2) (aNil))) (eMeth "Place" [112, 111, 119, 101, 114] 2 g_Place_power (eVar 1) (aCons (eOp2 dMul (eVar 3) (eVar 2)) (aNil)))) (eOpX (ownO "Place" g_PlaceX_eqX) (eMeth "Place" [112, 111, 119, 101, 114] 2 g_Place_power (eVar 1) (aCons (eC (.int 0)) (aNil))) (eCall 0 g_home_place aNil)))))))
def g__law_powers_right : DFn := fnD 2 b__law_powers_right 3
def b__law_refused (Λ : LamR) : DStm := sSeq (sTry (sExpr (eAct Λ 0)) [⟨.none, some 1, hmT ["BadNumber"] ["BadPlace", "WalkError"], fun x => sRet (eTup (aCons (eC (.str [110, 117, 109, 98, 101, 114])) (aCons (eXf "BadNumber" [118, 97, 108, 117, 101] x) (aNil))))⟩, ⟨.none, some 1, hmT ["BadPlace"] ["BadNumber", "WalkError"], fun x => sRet (eTup (aCons (eC (.str [112, 108, 97, 99, 101])) (aCons (eXf "BadPlace" [118, 97, 108, 117, 101] x) (aNil))))⟩, ⟨.none, some 1, hmT ["BadNumber", "BadPlace", "WalkError"] [], fun x => sRet (eTup (aCons (eC (.str [111, 116, 104, 101, 114])) (aCons (eC (.int 0)) (aNil))))⟩])
    (sRet (eC .non))
def b__law_same : DStm := sRet (eAndT (eOpX (deepO (ownInt [("Place", [[120], [121], [97, 114, 101, 97]])]) 5) (eVar 0) (eVar 1)) (eAndT (eOp2 dNotN (eVar 0) (eC .non)) (eOpX (deepO (ownInt [("Place", [[120], [121], [97, 114, 101, 97]])]) 5) (eCB (bIsi ["Place"]) (aCons (eIx (eVar 0) (eC (.int 1))) (aCons (eC (.ty "bool")) (aNil)))) (eCB (bIsi ["Place"]) (aCons (eIx (eVar 1) (eC (.int 1))) (aCons (eC (.ty "bool")) (aNil)))))))
def g__law_same : DFn := fnD 2 b__law_same 0
def lb__law_refusals_right_0 : DE := eMake "Place" 3 g_PlaceX_initX (aCons (eC (.int 1)) (aCons (eVar 3) (aCons (eVar 4) (aNil))))
def lb__law_refusals_right_1 : DE := eMake "Place" 3 g_PlaceX_initX (aCons (eVar 4) (aCons (eVar 3) (aCons (eC (.int 2)) (aNil))))
def lb__law_refusals_right_2 : DE := eMeth "Place" [112, 111, 119, 101, 114] 2 g_Place_power (eVar 1) (aCons (eVar 3) (aNil))
def lb__law_refusals_right_3 : DE := eMeth "Place" [108, 105, 102, 116, 101, 100] 2 g_Place_lifted (eVar 1) (aCons (eVar 4) (aNil))
def lb__law_refusals_right_4 : DE := eMeth "Place" [116, 119, 105, 115, 116] 2 g_Place_twist (eVar 1) (aCons (eVar 3) (aNil))
def lb__law_refusals_right_5 : DE := eCall 1 g_product_of (aCons (eFrz (aMax (aCons (eVar 1) (aCons (eVar 4) (aCons (eVar 3) (aNil)))))) (aNil))
def lb__law_refusals_right_6 : DE := eOpX (ownM ["Place"] ["NoneType", "bool", "int", "str", "list", "tuple", "dict"] "Place" g_PlaceX_mulX) (eVar 1) (eVar 3)
def e__law_refusals_right_0 : DE := eAndT (eOpX (ownNeA ["Place"] "Place" g_PlaceX_eqX) (eVar 1) (eVar 5)) (eNotT (eOpX (ownA ["Place"] "Place" g_PlaceX_eqX) (eVar 1) (eVar 5)))
def b__law_refusals_right : DStm := sSeq (sSet 2 (eFrz (aMax (aCons (eC .non) (aCons (eC (.bl true)) (aCons (eC (.bl false)) (aCons (eC (.str [49])) (aCons (eFrz (aMax (aCons (eC (.int 1)) (aNil)))) (aCons (eTup (aCons (eC (.int 1)) (aCons (eC (.int 2)) (aNil)))) (aCons (eFrzD (dNil)) (aNil)))))))))))
    (sSeq (sAsgT (eTup (aCons (eCall 2 g__law_pick (aCons (eVar 0) (aCons (eVar 2) (aNil)))) (aCons (eCall 2 g__law_pick (aCons (eVar 0) (aCons (eVar 2) (aNil)))) (aNil)))) (gT 2 (gsCons (gN 3) (gsCons (gN 4) (gsNil)))))
    (sSeq (sIf (bNot (eTru (eCall 2 g__law_same (aCons (eCallL 1 (fun Λ => fnD 1 (b__law_refused Λ) 1) (fun n => List.lookup n [("_law_refusals_right.0", lb__law_refusals_right_0), ("_law_refusals_right.1", lb__law_refusals_right_1), ("_law_refusals_right.2", lb__law_refusals_right_2), ("_law_refusals_right.3", lb__law_refusals_right_3), ("_law_refusals_right.4", lb__law_refusals_right_4), ("_law_refusals_right.5", lb__law_refusals_right_5), ("_law_refusals_right.6", lb__law_refusals_right_6)]) (aCons (eLam 0 "_law_refusals_right" "_law_refusals_right.0") (aNil))) (aCons (eTup (aCons (eC (.str [110, 117, 109, 98, 101, 114])) (aCons (eVar 3) (aNil)))) (aNil)))))) (sRet (eC (.bl false))) (sPass))
    (sSeq (sIf (bNot (eTru (eCall 2 g__law_same (aCons (eCallL 1 (fun Λ => fnD 1 (b__law_refused Λ) 1) (fun n => List.lookup n [("_law_refusals_right.0", lb__law_refusals_right_0), ("_law_refusals_right.1", lb__law_refusals_right_1), ("_law_refusals_right.2", lb__law_refusals_right_2), ("_law_refusals_right.3", lb__law_refusals_right_3), ("_law_refusals_right.4", lb__law_refusals_right_4), ("_law_refusals_right.5", lb__law_refusals_right_5), ("_law_refusals_right.6", lb__law_refusals_right_6)]) (aCons (eLam 0 "_law_refusals_right" "_law_refusals_right.1") (aNil))) (aCons (eTup (aCons (eC (.str [110, 117, 109, 98, 101, 114])) (aCons (eVar 4) (aNil)))) (aNil)))))) (sRet (eC (.bl false))) (sPass))
    (sSeq (sIf (bNot (eTru (eCall 2 g__law_same (aCons (eCallL 1 (fun Λ => fnD 1 (b__law_refused Λ) 1) (fun n => List.lookup n [("_law_refusals_right.0", lb__law_refusals_right_0), ("_law_refusals_right.1", lb__law_refusals_right_1), ("_law_refusals_right.2", lb__law_refusals_right_2), ("_law_refusals_right.3", lb__law_refusals_right_3), ("_law_refusals_right.4", lb__law_refusals_right_4), ("_law_refusals_right.5", lb__law_refusals_right_5), ("_law_refusals_right.6", lb__law_refusals_right_6)]) (aCons (eLam 0 "_law_refusals_right" "_law_refusals_right.2") (aNil))) (aCons (eTup (aCons (eC (.str [110, 117, 109, 98, 101, 114])) (aCons (eVar 3) (aNil)))) (aNil)))))) (sRet (eC (.bl false))) (sPass))
    (sSeq (sIf (bNot (eTru (eCall 2 g__law_same (aCons (eCallL 1 (fun Λ => fnD 1 (b__law_refused Λ) 1) (fun n => List.lookup n [("_law_refusals_right.0", lb__law_refusals_right_0), ("_law_refusals_right.1", lb__law_refusals_right_1), ("_law_refusals_right.2", lb__law_refusals_right_2), ("_law_refusals_right.3", lb__law_refusals_right_3), ("_law_refusals_right.4", lb__law_refusals_right_4), ("_law_refusals_right.5", lb__law_refusals_right_5), ("_law_refusals_right.6", lb__law_refusals_right_6)]) (aCons (eLam 0 "_law_refusals_right" "_law_refusals_right.3") (aNil))) (aCons (eTup (aCons (eC (.str [110, 117, 109, 98, 101, 114])) (aCons (eVar 4) (aNil)))) (aNil)))))) (sRet (eC (.bl false))) (sPass))
    (sSeq (sIf (bNot (eTru (eCall 2 g__law_same (aCons (eCallL 1 (fun Λ => fnD 1 (b__law_refused Λ) 1) (fun n => List.lookup n [("_law_refusals_right.0", lb__law_refusals_right_0), ("_law_refusals_right.1", lb__law_refusals_right_1), ("_law_refusals_right.2", lb__law_refusals_right_2), ("_law_refusals_right.3", lb__law_refusals_right_3), ("_law_refusals_right.4", lb__law_refusals_right_4), ("_law_refusals_right.5", lb__law_refusals_right_5), ("_law_refusals_right.6", lb__law_refusals_right_6)]) (aCons (eLam 0 "_law_refusals_right" "_law_refusals_right.4") (aNil))) (aCons (eTup (aCons (eC (.str [112, 108, 97, 99, 101])) (aCons (eVar 3) (aNil)))) (aNil)))))) (sRet (eC (.bl false))) (sPass))
    (sSeq (sIf (bNot (eTru (eCall 2 g__law_same (aCons (eCallL 1 (fun Λ => fnD 1 (b__law_refused Λ) 1) (fun n => List.lookup n [("_law_refusals_right.0", lb__law_refusals_right_0), ("_law_refusals_right.1", lb__law_refusals_right_1), ("_law_refusals_right.2", lb__law_refusals_right_2), ("_law_refusals_right.3", lb__law_refusals_right_3), ("_law_refusals_right.4", lb__law_refusals_right_4), ("_law_refusals_right.5", lb__law_refusals_right_5), ("_law_refusals_right.6", lb__law_refusals_right_6)]) (aCons (eLam 0 "_law_refusals_right" "_law_refusals_right.5") (aNil))) (aCons (eTup (aCons (eC (.str [112, 108, 97, 99, 101])) (aCons (eVar 4) (aNil)))) (aNil)))))) (sRet (eC (.bl false))) (sPass))
    (sSeq (sIf (bNot (eTru (eCall 2 g__law_same (aCons (eCallL 1 (fun Λ => fnD 1 (b__law_refused Λ) 1) (fun n => List.lookup n [("_law_refusals_right.0", lb__law_refusals_right_0), ("_law_refusals_right.1", lb__law_refusals_right_1), ("_law_refusals_right.2", lb__law_refusals_right_2), ("_law_refusals_right.3", lb__law_refusals_right_3), ("_law_refusals_right.4", lb__law_refusals_right_4), ("_law_refusals_right.5", lb__law_refusals_right_5), ("_law_refusals_right.6", lb__law_refusals_right_6)]) (aCons (eLam 0 "_law_refusals_right" "_law_refusals_right.6") (aNil))) (aCons (eTup (aCons (eC (.str [112, 108, 97, 99, 101])) (aCons (eVar 3) (aNil)))) (aNil)))))) (sRet (eC (.bl false))) (sPass))
    (sRet (eCB (bAll) (aCons (eFrz (aLc [5] (itSeq (eOp2 dAdd (eVar 2) (eFrz (aMax (aCons (eTup (aCons (eFld ["Place"] [120] (eVar 1)) (aCons (eFld ["Place"] [121] (eVar 1)) (aCons (eFld ["Place"] [97, 114, 101, 97] (eVar 1)) (aNil))))) (aNil)))))) (gN 5) (bYes) (e__law_refusals_right_0))) (aNil))))))))))))
def g__law_refusals_right : DFn := fnDL 2 b__law_refusals_right 4
def b__law_step : DStm := sRet (eDGet (eFrzD (dDisp [(eC (.str [101]), eMake "Place" 3 g_PlaceX_initX (aCons (eC (.int 1)) (aCons (eC (.int 0)) (aCons (eC (.int 0)) (aNil))))), (eC (.str [119]), eMake "Place" 3 g_PlaceX_initX (aCons (eNeg (eC (.int 1))) (aCons (eC (.int 0)) (aCons (eC (.int 0)) (aNil))))), (eC (.str [110]), eMake "Place" 3 g_PlaceX_initX (aCons (eC (.int 0)) (aCons (eC (.int 1)) (aCons (eC (.int 0)) (aNil))))), (eC (.str [115]), eMake "Place" 3 g_PlaceX_initX (aCons (eC (.int 0)) (aCons (eNeg (eC (.int 1))) (aCons (eC (.int 0)) (aNil)))))])) (eVar 0))
def g__law_step : DFn := fnD 1 b__law_step 0
def w__law_swept_0 : DStm := sIf (eB (eOp2 (dIn false) (eVar 4) (eC (.str [101, 119])))) (sSet 1 (eOp2 dAdd (eVar 1) (eIf (eB (eOp2 dEq (eVar 4) (eC (.str [101])))) (eC (.int 1)) (eNeg (eC (.int 1)))))) (sPar 2 3 (aCons (eOp2 dAdd (eVar 2) (eIf (eB (eOp2 dEq (eVar 4) (eC (.str [110])))) (eC (.int 1)) (eNeg (eC (.int 1))))) (aCons (eOp2 dAdd (eVar 3) (eIf (eB (eOp2 dEq (eVar 4) (eC (.str [110])))) (eVar 1) (eNeg (eVar 1)))) (aNil))))
def b__law_swept : DStm := sSeq (sAsgT (eTup (aCons (eC (.int 0)) (aCons (eC (.int 0)) (aCons (eC (.int 0)) (aNil))))) (gT 3 (gsCons (gN 1) (gsCons (gN 2) (gsCons (gN 3) (gsNil))))))
    (sSeq (sFor (itSeq (eVar 0)) (gN 4) (w__law_swept_0))
    (sRet (eTup (aCons (eVar 1) (aCons (eVar 2) (aCons (eVar 3) (aNil)))))))
def g__law_swept : DFn := fnD 1 b__law_swept 4
def e_law_0 : DE := eCall 2 g__law_pick (aCons (eVar 1) (aCons (eC (.str [101, 119, 110, 115])) (aNil)))
def e_law_1 : DE := eCall 1 g__law_step (aCons (eVar 10) (aNil))
def w_law_2 : DStm := sSeq (sSetO 3 (aLc [9] (itR1 (aCons (eCall 2 g__law_draw (aCons (eVar 1) (aCons (eC (.int 40)) (aNil)))) (aNil))) (gN 9) (bYes) (e_law_0)))
    (sSeq (sSet 4 (eCall 1 g_product_of (aCons (eFrz (aLc [10] (itSeq (eVar 3)) (gN 10) (bYes) (e_law_1))) (aNil))))
    (sSeq (sIf (eB (eOp2 dNe (eTup (aCons (eFld ["Place"] [120] (eVar 4)) (aCons (eFld ["Place"] [121] (eVar 4)) (aCons (eFld ["Place"] [97, 114, 101, 97] (eVar 4)) (aNil))))) (eCall 1 g__law_swept (aCons (eVar 3) (aNil))))) (sRet (eC (.bl false))) (sPass))
    (sSeq (sSet 5 (eCall 2 g__law_pick (aCons (eVar 1) (aCons (eFrz (aMax (aCons (eC (.int 3)) (aCons (eOp2 iPow (eC (.int 10)) (eC (.int 50))) (aNil))))) (aNil)))))
    (sSeq (sPar3 6 7 8 (aCons (eCall 2 g__law_place (aCons (eVar 1) (aCons (eVar 5) (aNil)))) (aCons (eCall 2 g__law_place (aCons (eVar 1) (aCons (eVar 5) (aNil)))) (aCons (eCall 2 g__law_place (aCons (eVar 1) (aCons (eVar 5) (aNil)))) (aNil)))))
    (sSeq (sIf (bOr (eB (eOpX (ownNe "Place" g_PlaceX_eqX) (eOpX (ownO "Place" g_PlaceX_mulX) (eOpX (ownO "Place" g_PlaceX_mulX) (eVar 6) (eVar 7)) (eVar 8)) (eOpX (ownO "Place" g_PlaceX_mulX) (eVar 6) (eOpX (ownO "Place" g_PlaceX_mulX) (eVar 7) (eVar 8))))) (bOr (eB (eOpX (ownNe "Place" g_PlaceX_eqX) (eOpX (ownO "Place" g_PlaceX_mulX) (eVar 6) (eInv "Place" g_PlaceX_invertX (eVar 6))) (eCall 0 g_home_place aNil))) (eB (eOpX (ownNe "Place" g_PlaceX_eqX) (eOpX (ownO "Place" g_PlaceX_mulX) (eInv "Place" g_PlaceX_invertX (eVar 6)) (eVar 6)) (eCall 0 g_home_place aNil))))) (sRet (eC (.bl false))) (sPass))
    (sSeq (sIf (bOr (eB (eOpX (ownNe "Place" g_PlaceX_eqX) (eInv "Place" g_PlaceX_invertX (eOpX (ownO "Place" g_PlaceX_mulX) (eVar 6) (eVar 7))) (eOpX (ownO "Place" g_PlaceX_mulX) (eInv "Place" g_PlaceX_invertX (eVar 7)) (eInv "Place" g_PlaceX_invertX (eVar 6))))) (bOr (bNot (eTru (eMeth "Place" [105, 115, 95, 104, 111, 109, 101] 1 g_Place_is_home (eCall 0 g_home_place aNil) aNil))) (eB (eOp2 dNe (eMeth "Place" [105, 115, 95, 104, 111, 109, 101] 1 g_Place_is_home (eVar 6) aNil) (eOpX (ownO "Place" g_PlaceX_eqX) (eVar 6) (eCall 0 g_home_place aNil)))))) (sRet (eC (.bl false))) (sPass))
    (sSeq (sIf (bOr (eB (eOpX (ownNe "Place" g_PlaceX_eqX) (eOpX (ownO "Place" g_PlaceX_mulX) (eVar 6) (eVar 7)) (eMeth "Place" [108, 105, 102, 116, 101, 100] 2 g_Place_lifted (eOpX (ownO "Place" g_PlaceX_mulX) (eVar 7) (eVar 6)) (aCons (eMeth "Place" [116, 119, 105, 115, 116] 2 g_Place_twist (eVar 6) (aCons (eVar 7) (aNil))) (aNil))))) (eB (eOpX (ownNe "Place" g_PlaceX_eqX) (eMeth "Place" [108, 105, 102, 116, 101, 100] 2 g_Place_lifted (eVar 6) (aCons (eC (.int 5)) (aNil))) (eOpX (ownO "Place" g_PlaceX_mulX) (eVar 6) (eMake "Place" 3 g_PlaceX_initX (aCons (eC (.int 0)) (aCons (eC (.int 0)) (aCons (eC (.int 5)) (aNil))))))))) (sRet (eC (.bl false))) (sPass))
    (sSeq (sIf (bOr (bNot (eTru (eCall 2 g__law_powers_right (aCons (eVar 1) (aCons (eVar 6) (aNil)))))) (bNot (eTru (eCall 2 g__law_refusals_right (aCons (eVar 1) (aCons (eVar 7) (aNil))))))) (sRet (eC (.bl false))) (sPass))
    (sIf (bOr (eB (eOpX (ownNe "Place" g_PlaceX_eqX) (eMake "Place" 3 g_PlaceX_initX (aCons (eFld ["Place"] [120] (eVar 6)) (aCons (eFld ["Place"] [121] (eVar 6)) (aCons (eFld ["Place"] [97, 114, 101, 97] (eVar 6)) (aNil))))) (eVar 6))) (eB (eOpX (ownNe "Place" g_PlaceX_eqX) (eMakeK "Place" 3 g_PlaceX_initX (aCons (eC (.int 1)) (aCons (eC (.int 2)) (aCons (eC (.int 3)) (aNil))))) (eMake "Place" 3 g_PlaceX_initX (aCons (eC (.int 3)) (aCons (eC (.int 2)) (aCons (eC (.int 1)) (aNil)))))))) (sRet (eC (.bl false))) (sPass))))))))))
def b_law : DStm := sSeq (sSet 1 (eCall 1 g__law_pen (aCons (eVar 0) (aNil))))
    (sSeq (sFor (itR1 (aCons (eOp2 dAdd (eC (.int 3)) (eCB (bMin2) (aCons (eC (.int 6)) (aCons (eCB (bLen) (aCons (eVar 0) (aNil))) (aNil))))) (aNil))) (gN 2) (w_law_2))
    (sRet (eC (.bl true))))
def g_law : DFn := fnD 1 b_law 10
structure Ev (P : Program) (G : Gam) (mg : Str → Option Value) (base : Heap) where
  C_Place : Addr
  ct_Place : G.ct "Place" = some C_Place
  cl_Place : Cls G.K C_Place
  m_Place : mg "Place" = some (.ref C_Place)
  sf_Place : PySem.W.selfFirst G.K C_Place = true
  ne_Place : PySem.W.findIn G.K (.ref C_Place) "__ne__" = some (some (.builtin "object.__ne__"))
  mo_Place : PySem.W.mroIn G.K C_Place (.type "object") = some true
  na_Place_x : NoAttr G.K C_Place "x"
  na_Place_y : NoAttr G.K C_Place "y"
  na_Place_area : NoAttr G.K C_Place "area"
  C_BadNumber : Addr
  ct_BadNumber : G.ct "BadNumber" = some C_BadNumber
  m_BadNumber : mg "BadNumber" = some (.ref C_BadNumber)
  fI_BadNumber : Addr
  xfd_BadNumber : FuncData
  X_BadNumber : XFacts P G mg "BadNumber" C_BadNumber fI_BadNumber xfd_BadNumber "self" "value" "value"
  C_BadPlace : Addr
  ct_BadPlace : G.ct "BadPlace" = some C_BadPlace
  m_BadPlace : mg "BadPlace" = some (.ref C_BadPlace)
  fI_BadPlace : Addr
  xfd_BadPlace : FuncData
  X_BadPlace : XFacts P G mg "BadPlace" C_BadPlace fI_BadPlace xfd_BadPlace "self" "value" "value"
  C_WalkError : Addr
  ct_WalkError : G.ct "WalkError" = some C_WalkError
  m_WalkError : mg "WalkError" = some (.ref C_WalkError)
  nr_Place : PySem.W.findIn G.K (.ref C_Place) "__rmul__" = some none
  tm_mul : opTB G.K "__mul__" "__rmul__" ["NoneType", "bool", "int", "str", "list", "tuple", "dict"] = true
  xm_BadNumber_BadNumber : PySem.W.exmOne G.K (.ref C_BadNumber) (.ref C_BadNumber) = some true
  xm_BadNumber_BadPlace : PySem.W.exmOne G.K (.ref C_BadNumber) (.ref C_BadPlace) = some false
  xm_BadNumber_WalkError : PySem.W.exmOne G.K (.ref C_BadNumber) (.ref C_WalkError) = some true
  xm_BadPlace_BadNumber : PySem.W.exmOne G.K (.ref C_BadPlace) (.ref C_BadNumber) = some false
  xm_BadPlace_BadPlace : PySem.W.exmOne G.K (.ref C_BadPlace) (.ref C_BadPlace) = some true
  xm_BadPlace_WalkError : PySem.W.exmOne G.K (.ref C_BadPlace) (.ref C_WalkError) = some true
  xm_WalkError_BadNumber : PySem.W.exmOne G.K (.ref C_WalkError) (.ref C_BadNumber) = some false
  xm_WalkError_BadPlace : PySem.W.exmOne G.K (.ref C_WalkError) (.ref C_BadPlace) = some false
  xm_WalkError_WalkError : PySem.W.exmOne G.K (.ref C_WalkError) (.ref C_WalkError) = some true
  a_PlaceX_eqX : Addr
  fd_PlaceX_eqX : FuncData
  F_PlaceX_eqX : Fun G.K "__eq__" "Place.__eq__" st_PlaceX_eqX a_PlaceX_eqX fd_PlaceX_eqX
  b_PlaceX_eqX : L2.Binds G.K fd_PlaceX_eqX ["self", "other"] []
  M_PlaceX_eqX : Meth G.K C_Place "__eq__" a_PlaceX_eqX
  a_is_integer : Addr
  fd_is_integer : FuncData
  F_is_integer : Fun G.K "is_integer" "is_integer" st_is_integer a_is_integer fd_is_integer
  b_is_integer : L2.Binds G.K fd_is_integer ["value"] []
  m_is_integer : mg "is_integer" = some (.ref a_is_integer)
  a_PlaceX_initX : Addr
  fd_PlaceX_initX : FuncData
  F_PlaceX_initX : Fun G.K "__init__" "Place.__init__" st_PlaceX_initX a_PlaceX_initX fd_PlaceX_initX
  b_PlaceX_initX : L2.Binds G.K fd_PlaceX_initX ["self", "x", "y", "area"] []
  M_PlaceX_initX : Meth G.K C_Place "__init__" a_PlaceX_initX
  a_PlaceX_invertX : Addr
  fd_PlaceX_invertX : FuncData
  F_PlaceX_invertX : Fun G.K "__invert__" "Place.__invert__" st_PlaceX_invertX a_PlaceX_invertX fd_PlaceX_invertX
  b_PlaceX_invertX : L2.Binds G.K fd_PlaceX_invertX ["self"] []
  M_PlaceX_invertX : Meth G.K C_Place "__invert__" a_PlaceX_invertX
  a_PlaceX_mulX : Addr
  fd_PlaceX_mulX : FuncData
  F_PlaceX_mulX : Fun G.K "__mul__" "Place.__mul__" st_PlaceX_mulX a_PlaceX_mulX fd_PlaceX_mulX
  b_PlaceX_mulX : L2.Binds G.K fd_PlaceX_mulX ["self", "other"] []
  M_PlaceX_mulX : Meth G.K C_Place "__mul__" a_PlaceX_mulX
  a_Place_is_home : Addr
  fd_Place_is_home : FuncData
  F_Place_is_home : Fun G.K "is_home" "Place.is_home" st_Place_is_home a_Place_is_home fd_Place_is_home
  b_Place_is_home : L2.Binds G.K fd_Place_is_home ["self"] []
  M_Place_is_home : Meth G.K C_Place "is_home" a_Place_is_home
  a_Place_lifted : Addr
  fd_Place_lifted : FuncData
  F_Place_lifted : Fun G.K "lifted" "Place.lifted" st_Place_lifted a_Place_lifted fd_Place_lifted
  b_Place_lifted : L2.Binds G.K fd_Place_lifted ["self", "storeys"] []
  M_Place_lifted : Meth G.K C_Place "lifted" a_Place_lifted
  a_need_place : Addr
  fd_need_place : FuncData
  F_need_place : Fun G.K "need_place" "need_place" st_need_place a_need_place fd_need_place
  b_need_place : L2.Binds G.K fd_need_place ["value"] []
  m_need_place : mg "need_place" = some (.ref a_need_place)
  a_Place_twist : Addr
  fd_Place_twist : FuncData
  F_Place_twist : Fun G.K "twist" "Place.twist" st_Place_twist a_Place_twist fd_Place_twist
  b_Place_twist : L2.Binds G.K fd_Place_twist ["self", "other"] []
  M_Place_twist : Meth G.K C_Place "twist" a_Place_twist
  a__law_draw : Addr
  fd__law_draw : FuncData
  F__law_draw : Fun G.K "_law_draw" "_law_draw" st__law_draw a__law_draw fd__law_draw
  b__law_draw : L2.Binds G.K fd__law_draw ["_law_pen_here", "_law_many"] []
  m__law_draw : mg "_law_draw" = some (.ref a__law_draw)
  a__law_pen : Addr
  fd__law_pen : FuncData
  F__law_pen : Fun G.K "_law_pen" "_law_pen" st__law_pen a__law_pen fd__law_pen
  b__law_pen : L2.Binds G.K fd__law_pen ["_law_script"] []
  m__law_pen : mg "_law_pen" = some (.ref a__law_pen)
  a__law_pick : Addr
  fd__law_pick : FuncData
  F__law_pick : Fun G.K "_law_pick" "_law_pick" st__law_pick a__law_pick fd__law_pick
  b__law_pick : L2.Binds G.K fd__law_pick ["_law_pen_here", "_law_items"] []
  m__law_pick : mg "_law_pick" = some (.ref a__law_pick)
  a__law_big : Addr
  fd__law_big : FuncData
  F__law_big : Fun G.K "_law_big" "_law_big" st__law_big a__law_big fd__law_big
  b__law_big : L2.Binds G.K fd__law_big ["_law_pen_here", "_law_size"] []
  m__law_big : mg "_law_big" = some (.ref a__law_big)
  a__law_whole : Addr
  fd__law_whole : FuncData
  F__law_whole : Fun G.K "_law_whole" "_law_whole" st__law_whole a__law_whole fd__law_whole
  b__law_whole : L2.Binds G.K fd__law_whole ["_law_pen_here", "_law_size"] []
  m__law_whole : mg "_law_whole" = some (.ref a__law_whole)
  a__law_place : Addr
  fd__law_place : FuncData
  F__law_place : Fun G.K "_law_place" "_law_place" st__law_place a__law_place fd__law_place
  b__law_place : L2.Binds G.K fd__law_place ["_law_pen_here", "_law_size"] []
  m__law_place : mg "_law_place" = some (.ref a__law_place)
  a_pairs_below : Addr
  fd_pairs_below : FuncData
  F_pairs_below : Fun G.K "pairs_below" "pairs_below" st_pairs_below a_pairs_below fd_pairs_below
  b_pairs_below : L2.Binds G.K fd_pairs_below ["number"] []
  m_pairs_below : mg "pairs_below" = some (.ref a_pairs_below)
  a_Place_power : Addr
  fd_Place_power : FuncData
  F_Place_power : Fun G.K "power" "Place.power" st_Place_power a_Place_power fd_Place_power
  b_Place_power : L2.Binds G.K fd_Place_power ["self", "number"] []
  M_Place_power : Meth G.K C_Place "power" a_Place_power
  a_home_place : Addr
  fd_home_place : FuncData
  F_home_place : Fun G.K "home_place" "home_place" st_home_place a_home_place fd_home_place
  b_home_place : L2.Binds G.K fd_home_place [] []
  m_home_place : mg "home_place" = some (.ref a_home_place)
  a_need_places : Addr
  fd_need_places : FuncData
  F_need_places : Fun G.K "need_places" "need_places" st_need_places a_need_places fd_need_places
  b_need_places : L2.Binds G.K fd_need_places ["values"] []
  m_need_places : mg "need_places" = some (.ref a_need_places)
  a_product_of : Addr
  fd_product_of : FuncData
  F_product_of : Fun G.K "product_of" "product_of" st_product_of a_product_of fd_product_of
  b_product_of : L2.Binds G.K fd_product_of ["places"] []
  m_product_of : mg "product_of" = some (.ref a_product_of)
  a__law_powers_right : Addr
  fd__law_powers_right : FuncData
  F__law_powers_right : Fun G.K "_law_powers_right" "_law_powers_right" st__law_powers_right a__law_powers_right fd__law_powers_right
  b__law_powers_right : L2.Binds G.K fd__law_powers_right ["_law_pen_here", "_law_place_here"] []
  m__law_powers_right : mg "_law_powers_right" = some (.ref a__law_powers_right)
  a__law_refused : Addr
  fd__law_refused : FuncData
  F__law_refused : Fun G.K "_law_refused" "_law_refused" st__law_refused a__law_refused fd__law_refused
  b__law_refused : L2.Binds G.K fd__law_refused ["_law_ask"] []
  m__law_refused : mg "_law_refused" = some (.ref a__law_refused)
  a__law_same : Addr
  fd__law_same : FuncData
  F__law_same : Fun G.K "_law_same" "_law_same" st__law_same a__law_same fd__law_same
  b__law_same : L2.Binds G.K fd__law_same ["_law_one", "_law_other"] []
  m__law_same : mg "_law_same" = some (.ref a__law_same)
  a__law_refusals_right : Addr
  fd__law_refusals_right : FuncData
  F__law_refusals_right : Fun G.K "_law_refusals_right" "_law_refusals_right" st__law_refusals_right a__law_refusals_right fd__law_refusals_right
  b__law_refusals_right : L2.Binds G.K fd__law_refusals_right ["_law_pen_here", "_law_place_here"] []
  m__law_refusals_right : mg "_law_refusals_right" = some (.ref a__law_refusals_right)
  tc__law_refusals_right : Addr
  P__law_refusals_right : Addr
  cd__law_refusals_right : fd__law_refusals_right.code = .ref tc__law_refusals_right
  tb__law_refusals_right : LamX.TabB base mg tc__law_refusals_right P__law_refusals_right
  a__law_step : Addr
  fd__law_step : FuncData
  F__law_step : Fun G.K "_law_step" "_law_step" st__law_step a__law_step fd__law_step
  b__law_step : L2.Binds G.K fd__law_step ["_law_letter"] []
  m__law_step : mg "_law_step" = some (.ref a__law_step)
  a__law_swept : Addr
  fd__law_swept : FuncData
  F__law_swept : Fun G.K "_law_swept" "_law_swept" st__law_swept a__law_swept fd__law_swept
  b__law_swept : L2.Binds G.K fd__law_swept ["_law_letters"] []
  m__law_swept : mg "_law_swept" = some (.ref a__law_swept)
  a_law : Addr
  fd_law : FuncData
  F_law : Fun G.K "law" "law" st_law a_law fd_law
  b_law : L2.Binds G.K fd_law ["_law_script"] []
  m_law : mg "law" = some (.ref a_law)
  mk_Place : Mk G.K C_Place a_PlaceX_initX
  f_area : FldOk G ["Place"] [97, 114, 101, 97]
  f_x : FldOk G ["Place"] [120]
  f_y : FldOk G ["Place"] [121]
  z_all : mg "all" = none
  z_bool : mg "bool" = none
  z_int : mg "int" = none
  z_isinstance : mg "isinstance" = none
  z_len : mg "len" = none
  z_list : mg "list" = none
  z_min : mg "min" = none
  z_range : mg "range" = none
  iso : IsOk G ["Place"]
  tabs : G.tab = tabG [("_law_refusals_right", P__law_refusals_right, ((envOfC "_law_refusals_right" (defScope st__law_refusals_right) 0 0 .none).qual ++ "<lambda>"))]
def Ev.sw {P : Program} {G : Gam} {mg : Str → Option Value} {base : Heap} (e : Ev P G mg base) (lam : String → Addr → Wd → Prop) (lamM : ∀ (k : String) (f : Addr) (w w' : Wd), w.le w' → lam k f w → lam k f w') : Ev P (G.sw lam lamM) mg base := {
  C_Place := e.C_Place
  ct_Place := e.ct_Place
  cl_Place := e.cl_Place
  m_Place := e.m_Place
  sf_Place := e.sf_Place
  ne_Place := e.ne_Place
  mo_Place := e.mo_Place
  na_Place_x := e.na_Place_x
  na_Place_y := e.na_Place_y
  na_Place_area := e.na_Place_area
  C_BadNumber := e.C_BadNumber
  ct_BadNumber := e.ct_BadNumber
  m_BadNumber := e.m_BadNumber
  fI_BadNumber := e.fI_BadNumber
  xfd_BadNumber := e.xfd_BadNumber
  X_BadNumber := ⟨⟨e.X_BadNumber.T.ct, e.X_BadNumber.T.ini, e.X_BadNumber.T.ty, e.X_BadNumber.T.cls⟩, e.X_BadNumber.I, e.X_BadNumber.F, e.X_BadNumber.B⟩
  C_BadPlace := e.C_BadPlace
  ct_BadPlace := e.ct_BadPlace
  m_BadPlace := e.m_BadPlace
  fI_BadPlace := e.fI_BadPlace
  xfd_BadPlace := e.xfd_BadPlace
  X_BadPlace := ⟨⟨e.X_BadPlace.T.ct, e.X_BadPlace.T.ini, e.X_BadPlace.T.ty, e.X_BadPlace.T.cls⟩, e.X_BadPlace.I, e.X_BadPlace.F, e.X_BadPlace.B⟩
  C_WalkError := e.C_WalkError
  ct_WalkError := e.ct_WalkError
  m_WalkError := e.m_WalkError
  nr_Place := e.nr_Place
  tm_mul := e.tm_mul
  xm_BadNumber_BadNumber := e.xm_BadNumber_BadNumber
  xm_BadNumber_BadPlace := e.xm_BadNumber_BadPlace
  xm_BadNumber_WalkError := e.xm_BadNumber_WalkError
  xm_BadPlace_BadNumber := e.xm_BadPlace_BadNumber
  xm_BadPlace_BadPlace := e.xm_BadPlace_BadPlace
  xm_BadPlace_WalkError := e.xm_BadPlace_WalkError
  xm_WalkError_BadNumber := e.xm_WalkError_BadNumber
  xm_WalkError_BadPlace := e.xm_WalkError_BadPlace
  xm_WalkError_WalkError := e.xm_WalkError_WalkError
  a_PlaceX_eqX := e.a_PlaceX_eqX
  fd_PlaceX_eqX := e.fd_PlaceX_eqX
  F_PlaceX_eqX := e.F_PlaceX_eqX
  b_PlaceX_eqX := e.b_PlaceX_eqX
  M_PlaceX_eqX := e.M_PlaceX_eqX
  a_is_integer := e.a_is_integer
  fd_is_integer := e.fd_is_integer
  F_is_integer := e.F_is_integer
  b_is_integer := e.b_is_integer
  m_is_integer := e.m_is_integer
  a_PlaceX_initX := e.a_PlaceX_initX
  fd_PlaceX_initX := e.fd_PlaceX_initX
  F_PlaceX_initX := e.F_PlaceX_initX
  b_PlaceX_initX := e.b_PlaceX_initX
  M_PlaceX_initX := e.M_PlaceX_initX
  a_PlaceX_invertX := e.a_PlaceX_invertX
  fd_PlaceX_invertX := e.fd_PlaceX_invertX
  F_PlaceX_invertX := e.F_PlaceX_invertX
  b_PlaceX_invertX := e.b_PlaceX_invertX
  M_PlaceX_invertX := e.M_PlaceX_invertX
  a_PlaceX_mulX := e.a_PlaceX_mulX
  fd_PlaceX_mulX := e.fd_PlaceX_mulX
  F_PlaceX_mulX := e.F_PlaceX_mulX
  b_PlaceX_mulX := e.b_PlaceX_mulX
  M_PlaceX_mulX := e.M_PlaceX_mulX
  a_Place_is_home := e.a_Place_is_home
  fd_Place_is_home := e.fd_Place_is_home
  F_Place_is_home := e.F_Place_is_home
  b_Place_is_home := e.b_Place_is_home
  M_Place_is_home := e.M_Place_is_home
  a_Place_lifted := e.a_Place_lifted
  fd_Place_lifted := e.fd_Place_lifted
  F_Place_lifted := e.F_Place_lifted
  b_Place_lifted := e.b_Place_lifted
  M_Place_lifted := e.M_Place_lifted
  a_need_place := e.a_need_place
  fd_need_place := e.fd_need_place
  F_need_place := e.F_need_place
  b_need_place := e.b_need_place
  m_need_place := e.m_need_place
  a_Place_twist := e.a_Place_twist
  fd_Place_twist := e.fd_Place_twist
  F_Place_twist := e.F_Place_twist
  b_Place_twist := e.b_Place_twist
  M_Place_twist := e.M_Place_twist
  a__law_draw := e.a__law_draw
  fd__law_draw := e.fd__law_draw
  F__law_draw := e.F__law_draw
  b__law_draw := e.b__law_draw
  m__law_draw := e.m__law_draw
  a__law_pen := e.a__law_pen
  fd__law_pen := e.fd__law_pen
  F__law_pen := e.F__law_pen
  b__law_pen := e.b__law_pen
  m__law_pen := e.m__law_pen
  a__law_pick := e.a__law_pick
  fd__law_pick := e.fd__law_pick
  F__law_pick := e.F__law_pick
  b__law_pick := e.b__law_pick
  m__law_pick := e.m__law_pick
  a__law_big := e.a__law_big
  fd__law_big := e.fd__law_big
  F__law_big := e.F__law_big
  b__law_big := e.b__law_big
  m__law_big := e.m__law_big
  a__law_whole := e.a__law_whole
  fd__law_whole := e.fd__law_whole
  F__law_whole := e.F__law_whole
  b__law_whole := e.b__law_whole
  m__law_whole := e.m__law_whole
  a__law_place := e.a__law_place
  fd__law_place := e.fd__law_place
  F__law_place := e.F__law_place
  b__law_place := e.b__law_place
  m__law_place := e.m__law_place
  a_pairs_below := e.a_pairs_below
  fd_pairs_below := e.fd_pairs_below
  F_pairs_below := e.F_pairs_below
  b_pairs_below := e.b_pairs_below
  m_pairs_below := e.m_pairs_below
  a_Place_power := e.a_Place_power
  fd_Place_power := e.fd_Place_power
  F_Place_power := e.F_Place_power
  b_Place_power := e.b_Place_power
  M_Place_power := e.M_Place_power
  a_home_place := e.a_home_place
  fd_home_place := e.fd_home_place
  F_home_place := e.F_home_place
  b_home_place := e.b_home_place
  m_home_place := e.m_home_place
  a_need_places := e.a_need_places
  fd_need_places := e.fd_need_places
  F_need_places := e.F_need_places
  b_need_places := e.b_need_places
  m_need_places := e.m_need_places
  a_product_of := e.a_product_of
  fd_product_of := e.fd_product_of
  F_product_of := e.F_product_of
  b_product_of := e.b_product_of
  m_product_of := e.m_product_of
  a__law_powers_right := e.a__law_powers_right
  fd__law_powers_right := e.fd__law_powers_right
  F__law_powers_right := e.F__law_powers_right
  b__law_powers_right := e.b__law_powers_right
  m__law_powers_right := e.m__law_powers_right
  a__law_refused := e.a__law_refused
  fd__law_refused := e.fd__law_refused
  F__law_refused := e.F__law_refused
  b__law_refused := e.b__law_refused
  m__law_refused := e.m__law_refused
  a__law_same := e.a__law_same
  fd__law_same := e.fd__law_same
  F__law_same := e.F__law_same
  b__law_same := e.b__law_same
  m__law_same := e.m__law_same
  a__law_refusals_right := e.a__law_refusals_right
  fd__law_refusals_right := e.fd__law_refusals_right
  F__law_refusals_right := e.F__law_refusals_right
  b__law_refusals_right := e.b__law_refusals_right
  m__law_refusals_right := e.m__law_refusals_right
  tc__law_refusals_right := e.tc__law_refusals_right
  P__law_refusals_right := e.P__law_refusals_right
  cd__law_refusals_right := e.cd__law_refusals_right
  tb__law_refusals_right := e.tb__law_refusals_right
  a__law_step := e.a__law_step
  fd__law_step := e.fd__law_step
  F__law_step := e.F__law_step
  b__law_step := e.b__law_step
  m__law_step := e.m__law_step
  a__law_swept := e.a__law_swept
  fd__law_swept := e.fd__law_swept
  F__law_swept := e.F__law_swept
  b__law_swept := e.b__law_swept
  m__law_swept := e.m__law_swept
  a_law := e.a_law
  fd_law := e.fd_law
  F_law := e.F_law
  b_law := e.b_law
  m_law := e.m_law
  mk_Place := e.mk_Place
  f_area := e.f_area
  f_x := e.f_x
  f_y := e.f_y
  z_all := e.z_all
  z_bool := e.z_bool
  z_int := e.z_int
  z_isinstance := e.z_isinstance
  z_len := e.z_len
  z_list := e.z_list
  z_min := e.z_min
  z_range := e.z_range
  iso := ⟨e.iso.1, e.iso.2, e.iso.3⟩
  tabs := e.tabs }
theorem Ev.kk {P : Program} {G : Gam} {mg : Str → Option Value} {base : Heap} (e : Ev P G mg base) : G.K = G.K := rfl
def T__law_refusals_right {P : Program} {G : Gam} {mg : Str → Option Value} {base : Heap} (e : Ev P G mg base) (L : Nat) : LamT := ⟨e.P__law_refusals_right, ((envOfC "_law_refusals_right" (defScope st__law_refusals_right) 0 0 .none).qual ++ "<lambda>"), (envOfC "_law_refusals_right" (defScope st__law_refusals_right) L 0 .none).cells, siteOf ["_law_refusals_right.0", "_law_refusals_right.1", "_law_refusals_right.2", "_law_refusals_right.3", "_law_refusals_right.4", "_law_refusals_right.5", "_law_refusals_right.6"] st__law_refusals_right⟩
theorem own_eq_Place (fs gs : List (Nm × D)) (l m : List (Nm × Int)) (st : List Cell) (h1 : intF fs = some l) (h2 : intF gs = some m) (h3 : l.map (·.1) = [[120], [121], [97, 114, 101, 97]]) (h4 : m.map (·.1) = [[120], [121], [97, 114, 101, 97]]) : g_PlaceX_eqX [.ins "Place" fs, .ins "Place" gs] st = .ok (.bl (decide (l = m))) st := by
  obtain ⟨a, b, c, rfl, rfl⟩ := intF3 h1 h3
  obtain ⟨a2, b2, c2, rfl, rfl⟩ := intF3 h2 h4
  simp [g_PlaceX_eqX, b_PlaceX_eqX, fnD, List.lookup]
section
variable {P : Program} {w0 : World} {G : Gam} {mg : Str → Option Value} {base : Heap}
theorem ok_PlaceX_eqX (e : Ev P G mg base) : FnOk P w0 G.K mg base (L2.CX P w0) 1 e.a_PlaceX_eqX e.fd_PlaceX_eqX ["self", "other"] (spG G 2 g_PlaceX_eqX) :=
  fn_okD e.F_PlaceX_eqX sc_PlaceX_eqX rfl rfl fun cdv A outer s H E hr tk ps => pdss_cons (pds_if (ptd_not (ptd_truth e.kk (pd_callB (cd_isi rfl e.iso) (by rfl) e.z_isinstance (by decide +kernel) (pda_cons (pd_var (pv 1)) (pda_cons (pd_cls (by rfl) e.m_Place e.ct_Place) (pda_nil)))))) (pdss_one (pds_ret (pd_bl))) (pdss_nil))
    (pdss_one (pds_ret (pd_cmp (opd_eq e.kk hr.units) (pd_tup (pda_cons (pd_fld rfl s_2 e.f_x (pd_var (pv 0))) (pda_cons (pd_fld rfl s_1 e.f_y (pd_var (pv 0))) (pda_cons (pd_fld rfl s_0 e.f_area (pd_var (pv 0))) (pda_nil))))) (pd_tup (pda_cons (pd_fld rfl s_2 e.f_x (pd_var (pv 1))) (pda_cons (pd_fld rfl s_1 e.f_y (pd_var (pv 1))) (pda_cons (pd_fld rfl s_0 e.f_area (pd_var (pv 1))) (pda_nil))))) (nomark _))))
theorem ok_is_integer (e : Ev P G mg base) : FnOk P w0 G.K mg base (L2.CX P w0) 1 e.a_is_integer e.fd_is_integer ["value"] (spG G 1 g_is_integer) :=
  fn_okD e.F_is_integer sc_is_integer rfl rfl fun cdv A outer s H E hr tk ps => pdss_one (pds_ret (pd_andT e.kk (pd_callB (cd_isi rfl e.iso) (by rfl) e.z_isinstance (by decide +kernel) (pda_cons (pd_var (pv 0)) (pda_cons (pd_bltn (by rfl) e.z_int boot_int) (pda_nil)))) (pd_one (pd_notT e.kk (pd_callB (cd_isi rfl e.iso) (by rfl) e.z_isinstance (by decide +kernel) (pda_cons (pd_var (pv 0)) (pda_cons (pd_bltn (by rfl) e.z_bool boot_bool) (pda_nil))))))))
theorem ok_PlaceX_initX (e : Ev P G mg base) : FnOk P w0 G.K mg base (L2.CX P w0) 3 e.a_PlaceX_initX e.fd_PlaceX_initX ["self", "x", "y", "area"] (spI G "Place" 3 g_PlaceX_initX) :=
  in_okD e.F_PlaceX_initX sc_PlaceX_initX rfl rfl fun cdv A outer s H E hr tk ps => pdss_cons (pds_for ps rfl (pdi_seq rfl (pd_tup (pda_cons (pd_var (pv 1)) (pda_cons (pd_var (pv 2)) (pda_cons (pd_var (pv 3)) (pda_nil)))))) (pdg_name (i := 4) sc_PlaceX_initX.nd rfl (.inl rfl)) (pdss_one (pds_if (ptd_not (ptd_truth e.kk (pd_call (ok_is_integer e) (hr.mono (by decide)) (by rfl) e.m_is_integer e.F_is_integer.kp e.b_is_integer tk (pda_cons (pd_var (pv 4)) (pda_nil))))) (pdss_one (pds_raise rfl tk e.X_BadNumber.T e.X_BadNumber.I s_3 e.X_BadNumber.B (hr.mono (by decide)) (by rfl) e.m_BadNumber (pda_cons (pd_var (pv 4)) (pda_nil)))) (pdss_nil))))
    (pdss_cons (pds_fld rfl (pv 0) s_2 e.ct_Place e.cl_Place (e.na_Place_x) (pd_var (pv 1)))
    (pdss_cons (pds_fld rfl (pv 0) s_1 e.ct_Place e.cl_Place (e.na_Place_y) (pd_var (pv 2)))
    (pdss_one (pds_fld rfl (pv 0) s_0 e.ct_Place e.cl_Place (e.na_Place_area) (pd_var (pv 3))))))
theorem ok_PlaceX_invertX (e : Ev P G mg base) : FnOk P w0 G.K mg base (L2.CX P w0) 5 e.a_PlaceX_invertX e.fd_PlaceX_invertX ["self"] (spG G 1 g_PlaceX_invertX) :=
  fn_okD e.F_PlaceX_invertX sc_PlaceX_invertX rfl rfl fun cdv A outer s H E hr tk ps => pdss_one (pds_ret (pd_make e.mk_Place e.ct_Place (ok_PlaceX_initX e) (hr.mono (by decide)) (by rfl) e.m_Place e.b_PlaceX_initX tk (pda_cons (pd_neg (pd_fld rfl s_2 e.f_x (pd_var (pv 0)))) (pda_cons (pd_neg (pd_fld rfl s_1 e.f_y (pd_var (pv 0)))) (pda_cons (pd_op (opd_sub) (pd_op (opd_mulA) (pd_fld rfl s_2 e.f_x (pd_var (pv 0))) (pd_fld rfl s_1 e.f_y (pd_var (pv 0)))) (pd_fld rfl s_0 e.f_area (pd_var (pv 0)))) (pda_nil))))))
theorem ok_PlaceX_mulX (e : Ev P G mg base) : FnOk P w0 G.K mg base (L2.CX P w0) 5 e.a_PlaceX_mulX e.fd_PlaceX_mulX ["self", "other"] (spG G 2 g_PlaceX_mulX) :=
  fn_okD e.F_PlaceX_mulX sc_PlaceX_mulX rfl rfl fun cdv A outer s H E hr tk ps => pdss_cons (pds_if (ptd_not (ptd_truth e.kk (pd_callB (cd_isi rfl e.iso) (by rfl) e.z_isinstance (by decide +kernel) (pda_cons (pd_var (pv 1)) (pda_cons (pd_cls (by rfl) e.m_Place e.ct_Place) (pda_nil)))))) (pdss_one (pds_raise rfl tk e.X_BadPlace.T e.X_BadPlace.I s_3 e.X_BadPlace.B (hr.mono (by decide)) (by rfl) e.m_BadPlace (pda_cons (pd_var (pv 1)) (pda_nil)))) (pdss_nil))
    (pdss_one (pds_ret (pd_make e.mk_Place e.ct_Place (ok_PlaceX_initX e) (hr.mono (by decide)) (by rfl) e.m_Place e.b_PlaceX_initX tk (pda_cons (pd_op (opd_addA e.kk) (pd_fld rfl s_2 e.f_x (pd_var (pv 0))) (pd_fld rfl s_2 e.f_x (pd_var (pv 1)))) (pda_cons (pd_op (opd_addA e.kk) (pd_fld rfl s_1 e.f_y (pd_var (pv 0))) (pd_fld rfl s_1 e.f_y (pd_var (pv 1)))) (pda_cons (pd_op (opd_addA e.kk) (pd_op (opd_addA e.kk) (pd_fld rfl s_0 e.f_area (pd_var (pv 0))) (pd_fld rfl s_0 e.f_area (pd_var (pv 1)))) (pd_op (opd_mulA) (pd_fld rfl s_2 e.f_x (pd_var (pv 0))) (pd_fld rfl s_1 e.f_y (pd_var (pv 1))))) (pda_nil)))))))
theorem ok_Place_is_home (e : Ev P G mg base) : FnOk P w0 G.K mg base (L2.CX P w0) 1 e.a_Place_is_home e.fd_Place_is_home ["self"] (spG G 1 g_Place_is_home) :=
  fn_okD e.F_Place_is_home sc_Place_is_home rfl rfl fun cdv A outer s H E hr tk ps => pdss_one (pds_ret (pd_andT e.kk (pd_cmp (opd_eq e.kk hr.units) (pd_fld rfl s_2 e.f_x (pd_var (pv 0))) (pd_int) (nomark _)) (pd_andT e.kk (pd_cmp (opd_eq e.kk hr.units) (pd_fld rfl s_1 e.f_y (pd_var (pv 0))) (pd_int) (nomark _)) (pd_one (pd_cmp (opd_eq e.kk hr.units) (pd_fld rfl s_0 e.f_area (pd_var (pv 0))) (pd_int) (nomark _))))))
theorem ok_Place_lifted (e : Ev P G mg base) : FnOk P w0 G.K mg base (L2.CX P w0) 5 e.a_Place_lifted e.fd_Place_lifted ["self", "storeys"] (spG G 2 g_Place_lifted) :=
  fn_okD e.F_Place_lifted sc_Place_lifted rfl rfl fun cdv A outer s H E hr tk ps => pdss_cons (pds_if (ptd_not (ptd_truth e.kk (pd_call (ok_is_integer e) (hr.mono (by decide)) (by rfl) e.m_is_integer e.F_is_integer.kp e.b_is_integer tk (pda_cons (pd_var (pv 1)) (pda_nil))))) (pdss_one (pds_raise rfl tk e.X_BadNumber.T e.X_BadNumber.I s_3 e.X_BadNumber.B (hr.mono (by decide)) (by rfl) e.m_BadNumber (pda_cons (pd_var (pv 1)) (pda_nil)))) (pdss_nil))
    (pdss_one (pds_ret (pd_make e.mk_Place e.ct_Place (ok_PlaceX_initX e) (hr.mono (by decide)) (by rfl) e.m_Place e.b_PlaceX_initX tk (pda_cons (pd_fld rfl s_2 e.f_x (pd_var (pv 0))) (pda_cons (pd_fld rfl s_1 e.f_y (pd_var (pv 0))) (pda_cons (pd_op (opd_addA e.kk) (pd_fld rfl s_0 e.f_area (pd_var (pv 0))) (pd_var (pv 1))) (pda_nil)))))))
theorem ok_need_place (e : Ev P G mg base) : FnOk P w0 G.K mg base (L2.CX P w0) 3 e.a_need_place e.fd_need_place ["value"] (spG G 1 g_need_place) :=
  fn_okD e.F_need_place sc_need_place rfl rfl fun cdv A outer s H E hr tk ps => pdss_one (pds_if (ptd_not (ptd_truth e.kk (pd_callB (cd_isi rfl e.iso) (by rfl) e.z_isinstance (by decide +kernel) (pda_cons (pd_var (pv 0)) (pda_cons (pd_cls (by rfl) e.m_Place e.ct_Place) (pda_nil)))))) (pdss_one (pds_raise rfl tk e.X_BadPlace.T e.X_BadPlace.I s_3 e.X_BadPlace.B (hr.mono (by decide)) (by rfl) e.m_BadPlace (pda_cons (pd_var (pv 0)) (pda_nil)))) (pdss_nil))
theorem ok_Place_twist (e : Ev P G mg base) : FnOk P w0 G.K mg base (L2.CX P w0) 5 e.a_Place_twist e.fd_Place_twist ["self", "other"] (spG G 2 g_Place_twist) :=
  fn_okD e.F_Place_twist sc_Place_twist rfl rfl fun cdv A outer s H E hr tk ps => pdss_cons (pds_expr (pd_call (ok_need_place e) (hr.mono (by decide)) (by rfl) e.m_need_place e.F_need_place.kp e.b_need_place tk (pda_cons (pd_var (pv 1)) (pda_nil))))
    (pdss_one (pds_ret (pd_op (opd_sub) (pd_op (opd_mulA) (pd_fld rfl s_2 e.f_x (pd_var (pv 0))) (pd_fld rfl s_1 e.f_y (pd_var (pv 1)))) (pd_op (opd_mulA) (pd_fld rfl s_2 e.f_x (pd_var (pv 1))) (pd_fld rfl s_1 e.f_y (pd_var (pv 0)))))))
theorem ok__law_draw (e : Ev P G mg base) : FnOk P w0 G.K mg base (L2.CX P w0) 1 e.a__law_draw e.fd__law_draw ["_law_pen_here", "_law_many"] (spG G 2 g__law_draw) :=
  fn_okD e.F__law_draw sc__law_draw rfl rfl fun cdv A outer s H E hr tk ps => pdss_cons (pds_if (ptd_cmp (opd_ge) (pd_dget (hu_of hr) (pd_var (pv 0)) (pd_str s_4) (fun _ _ => rfl)) (pd_var (pv 1)) (nomark _)) (pdss_cons (pds_set (i := 2) sc__law_draw.nd rfl (.inl rfl) (pd_op (opd_mod) (pd_callTy cd_int (by rfl) e.z_int (by decide +kernel) (pda_cons (pd_dget (hu_of hr) (pd_var (pv 0)) (pd_str s_4) (fun _ _ => rfl)) (pda_nil))) (pd_var (pv 1))))
    (pdss_cons (pds_dputC (hu_of hr) (pd_var (pv 0)) (pd_str s_4) (pd_op (opd_div) (pd_dget (hu_of hr) (pd_var (pv 0)) (pd_str s_4) (fun _ _ => rfl)) (pd_var (pv 1))))
    (pdss_one (pds_ret (pd_var (pv 2)))))) (pdss_nil))
    (pdss_cons (pds_set (i := 3) sc__law_draw.nd rfl (.inl rfl) (pd_dget (hu_of hr) (pd_var (pv 0)) (pd_str s_5) (fun _ _ => rfl)))
    (pdss_cons (pds_dputC (hu_of hr) (pd_var (pv 0)) (pd_str s_5) (pd_op (opd_addA e.kk) (pd_var (pv 3)) (pd_int)))
    (pdss_cons (pds_set (i := 4) sc__law_draw.nd rfl (.inl rfl) (pd_op (opd_addA e.kk) (pd_op (opd_mulA) (pd_int) (pd_var (pv 3))) (pd_int)))
    (pdss_cons (pds_if (ptd_cmp (opd_ne e.kk hr.units) (pd_dget (hu_of hr) (pd_var (pv 0)) (pd_str s_6) (fun _ _ => rfl)) (pdo_frz (pdo_lst (pda_nil))) (nomark _)) (pdss_one (pds_set (i := 4) sc__law_draw.nd rfl (.inl rfl) (pd_ix e.kk (pd_dget (hu_of hr) (pd_var (pv 0)) (pd_str s_6) (fun _ _ => rfl)) (pd_op (opd_mod) (pd_callTy cd_int (by rfl) e.z_int (by decide +kernel) (pda_cons (pd_var (pv 3)) (pda_nil))) (pd_callB (cd_len rfl) (by rfl) e.z_len (by decide +kernel) (pda_cons (pd_dget (hu_of hr) (pd_var (pv 0)) (pd_str s_6) (fun _ _ => rfl)) (pda_nil)))) (fun _ _ => rfl)))) (pdss_nil))
    (pdss_cons (pds_if ((pwd_and (ptd_cmp (opd_lt) (pd_var (pv 3)) (pd_callB (cd_len rfl) (by rfl) e.z_len (by decide +kernel) (pda_cons (pd_dget (hu_of hr) (pd_var (pv 0)) (pd_str s_6) (fun _ _ => rfl)) (pda_nil))) (nomark _)) (pwd_and1 (ptd_cmp (opd_ge) (pd_var (pv 4)) (pd_op (opd_pow) (pd_int) (pd_int)) (nomark _)))).pt) (pdss_cons (pds_dputC (hu_of hr) (pd_var (pv 0)) (pd_str s_4) (pd_op (opd_div) (pd_op (opd_sub) (pd_var (pv 4)) (pd_op (opd_pow) (pd_int) (pd_int))) (pd_var (pv 1))))
    (pdss_one (pds_ret (pd_op (opd_mod) (pd_callTy cd_int (by rfl) e.z_int (by decide +kernel) (pda_cons (pd_op (opd_sub) (pd_var (pv 4)) (pd_op (opd_pow) (pd_int) (pd_int))) (pda_nil))) (pd_var (pv 1)))))) (pdss_nil))
    (pdss_cons (pds_set (i := 5) sc__law_draw.nd rfl (.inl rfl) (pd_op (opd_mulA) (pd_op (opd_mod) (pd_callTy cd_int (by rfl) e.z_int (by decide +kernel) (pda_cons (pd_var (pv 4)) (pda_nil))) (pd_int)) (pd_int)))
    (pdss_cons (pds_set (i := 5) sc__law_draw.nd rfl (.inl rfl) (pd_op (opd_mod) (pd_callTy cd_int (by rfl) e.z_int (by decide +kernel) (pda_cons (pd_op (opd_addA e.kk) (pd_op (opd_addA e.kk) (pd_op (opd_addA e.kk) (pd_var (pv 5)) (pd_op (opd_mulA) (pd_op (opd_mulA) (pd_int) (pd_var (pv 3))) (pd_var (pv 3)))) (pd_op (opd_mulA) (pd_int) (pd_var (pv 3)))) (pd_int)) (pda_nil))) (pd_int)))
    (pdss_cons (pds_set (i := 5) sc__law_draw.nd rfl (.inl rfl) (pd_op (opd_mod) (pd_callTy cd_int (by rfl) e.z_int (by decide +kernel) (pda_cons (pd_op (opd_mulA) (pd_var (pv 5)) (pd_op (opd_addA e.kk) (pd_var (pv 5)) (pd_int))) (pda_nil))) (pd_int)))
    (pdss_one (pds_ret (pd_op (opd_mod) (pd_callTy cd_int (by rfl) e.z_int (by decide +kernel) (pda_cons (pd_op (opd_div) (pd_op (opd_mod) (pd_callTy cd_int (by rfl) e.z_int (by decide +kernel) (pda_cons (pd_op (opd_addA e.kk) (pd_op (opd_mulA) (pd_var (pv 5)) (pd_var (pv 5))) (pd_op (opd_mulA) (pd_int) (pd_var (pv 5)))) (pda_nil))) (pd_int)) (pd_int)) (pda_nil))) (pd_var (pv 1)))))))))))))
theorem ok__law_pen (e : Ev P G mg base) : FnOk P w0 G.K mg base (L2.CX P w0) 1 e.a__law_pen e.fd__law_pen ["_law_script"] (spG G 1 g__law_pen) :=
  fn_okD e.F__law_pen sc__law_pen rfl rfl fun cdv A outer s H E hr tk ps => pdss_one (pds_ret (pdod_cell (pdod_disp (fs := [(eC (.str [99, 101, 108, 108, 115]), eFrz (aList (aCons (eSlA (eVar 0) (oNone) (oSome (eC (.int 63)))) (aNil)))), (eC (.str [115, 116, 111, 112]), eC (.int 0)), (eC (.str [114, 101, 115, 116]), eC (.int 0))]) (pps_cons (pd_str s_6) (pdo_frz (pdo_list rfl (by rfl) e.z_list boot_list (pda_cons (pd_slA rfl (pd_var (pv 0)) (pdo_none) (pdo_some (pd_int))) (pda_nil)))) (pps_cons (pd_str s_5) (pd_int) (pps_cons (pd_str s_4) (pd_int) (pps_nil)))) (by rfl) (by rfl) (fun z => by cases z) (by decide))))
theorem ok__law_pick (e : Ev P G mg base) : FnOk P w0 G.K mg base (L2.CX P w0) 3 e.a__law_pick e.fd__law_pick ["_law_pen_here", "_law_items"] (spG G 2 g__law_pick) :=
  fn_okD e.F__law_pick sc__law_pick rfl rfl fun cdv A outer s H E hr tk ps => pdss_one (pds_ret (pd_ix e.kk (pd_var (pv 1)) (pd_call (ok__law_draw e) (hr.mono (by decide)) (by rfl) e.m__law_draw e.F__law_draw.kp e.b__law_draw tk (pda_cons (pd_var (pv 0)) (pda_cons (pd_callB (cd_len rfl) (by rfl) e.z_len (by decide +kernel) (pda_cons (pd_var (pv 1)) (pda_nil))) (pda_nil)))) (fun _ _ => rfl)))
theorem ok__law_big (e : Ev P G mg base) : FnOk P w0 G.K mg base (L2.CX P w0) 3 e.a__law_big e.fd__law_big ["_law_pen_here", "_law_size"] (spG G 2 g__law_big) :=
  fn_okD e.F__law_big sc__law_big rfl rfl fun cdv A outer s H E hr tk ps => pdss_cons (pds_if (ptd_cmp (opd_lt) (pd_var (pv 1)) (pd_op (opd_pow) (pd_int) (pd_int)) (nomark _)) (pdss_one (pds_ret (pd_call (ok__law_draw e) (hr.mono (by decide)) (by rfl) e.m__law_draw e.F__law_draw.kp e.b__law_draw tk (pda_cons (pd_var (pv 0)) (pda_cons (pd_var (pv 1)) (pda_nil)))))) (pdss_nil))
    (pdss_cons (pds_set (i := 2) sc__law_big.nd rfl (.inl rfl) (pd_int))
    (pdss_cons (pds_for ps rfl (pdi_range1 (by rfl) e.z_range (pda_cons (pd_int) (pda_nil))) (pdg_name (i := 3) sc__law_big.nd rfl (.inl rfl)) (pdss_cons (pds_set (i := 2) sc__law_big.nd rfl (.inl rfl) (pd_op (opd_addA e.kk) (pd_op (opd_mulA) (pd_var (pv 2)) (pd_op (opd_pow) (pd_int) (pd_int))) (pd_call (ok__law_draw e) (hr.mono (by decide)) (by rfl) e.m__law_draw e.F__law_draw.kp e.b__law_draw tk (pda_cons (pd_var (pv 0)) (pda_cons (pd_op (opd_pow) (pd_int) (pd_int)) (pda_nil))))))
    (pdss_one (pds_if (ptd_cmp (opd_gt) (pd_var (pv 2)) (pd_op (opd_mulA) (pd_var (pv 1)) (pd_op (opd_pow) (pd_int) (pd_int))) (nomark _)) (pdss_one (pds_ret (pd_op (opd_mod) (pd_var (pv 2)) (pd_var (pv 1))))) (pdss_nil)))))
    (pdss_one (pds_ret (pd_op (opd_mod) (pd_var (pv 2)) (pd_var (pv 1)))))))
theorem ok__law_whole (e : Ev P G mg base) : FnOk P w0 G.K mg base (L2.CX P w0) 5 e.a__law_whole e.fd__law_whole ["_law_pen_here", "_law_size"] (spG G 2 g__law_whole) :=
  fn_okD e.F__law_whole sc__law_whole rfl rfl fun cdv A outer s H E hr tk ps => pdss_one (pds_ret (pd_op (opd_sub) (pd_call (ok__law_big e) (hr.mono (by decide)) (by rfl) e.m__law_big e.F__law_big.kp e.b__law_big tk (pda_cons (pd_var (pv 0)) (pda_cons (pd_op (opd_addA e.kk) (pd_op (opd_mulA) (pd_int) (pd_var (pv 1))) (pd_int)) (pda_nil)))) (pd_var (pv 1))))
theorem ok__law_place (e : Ev P G mg base) : FnOk P w0 G.K mg base (L2.CX P w0) 7 e.a__law_place e.fd__law_place ["_law_pen_here", "_law_size"] (spG G 2 g__law_place) :=
  fn_okD e.F__law_place sc__law_place rfl rfl fun cdv A outer s H E hr tk ps => pdss_one (pds_ret (pd_make e.mk_Place e.ct_Place (ok_PlaceX_initX e) (hr.mono (by decide)) (by rfl) e.m_Place e.b_PlaceX_initX tk (pda_cons (pd_call (ok__law_whole e) (hr.mono (by decide)) (by rfl) e.m__law_whole e.F__law_whole.kp e.b__law_whole tk (pda_cons (pd_var (pv 0)) (pda_cons (pd_var (pv 1)) (pda_nil)))) (pda_cons (pd_call (ok__law_whole e) (hr.mono (by decide)) (by rfl) e.m__law_whole e.F__law_whole.kp e.b__law_whole tk (pda_cons (pd_var (pv 0)) (pda_cons (pd_var (pv 1)) (pda_nil)))) (pda_cons (pd_call (ok__law_whole e) (hr.mono (by decide)) (by rfl) e.m__law_whole e.F__law_whole.kp e.b__law_whole tk (pda_cons (pd_var (pv 0)) (pda_cons (pd_op (opd_mulA) (pd_var (pv 1)) (pd_var (pv 1))) (pda_nil)))) (pda_nil))))))
theorem ok_pairs_below (e : Ev P G mg base) : FnOk P w0 G.K mg base (L2.CX P w0) 1 e.a_pairs_below e.fd_pairs_below ["number"] (spG G 1 g_pairs_below) :=
  fn_okD e.F_pairs_below sc_pairs_below rfl rfl fun cdv A outer s H E hr tk ps => pdss_one (pds_ret (pd_op (opd_div) (pd_op (opd_mulA) (pd_var (pv 0)) (pd_op (opd_sub) (pd_var (pv 0)) (pd_int))) (pd_int)))
theorem ok_Place_power (e : Ev P G mg base) : FnOk P w0 G.K mg base (L2.CX P w0) 5 e.a_Place_power e.fd_Place_power ["self", "number"] (spG G 2 g_Place_power) :=
  fn_okD e.F_Place_power sc_Place_power rfl rfl fun cdv A outer s H E hr tk ps => pdss_cons (pds_if (ptd_not (ptd_truth e.kk (pd_call (ok_is_integer e) (hr.mono (by decide)) (by rfl) e.m_is_integer e.F_is_integer.kp e.b_is_integer tk (pda_cons (pd_var (pv 1)) (pda_nil))))) (pdss_one (pds_raise rfl tk e.X_BadNumber.T e.X_BadNumber.I s_3 e.X_BadNumber.B (hr.mono (by decide)) (by rfl) e.m_BadNumber (pda_cons (pd_var (pv 1)) (pda_nil)))) (pdss_nil))
    (pdss_one (pds_ret (pd_make e.mk_Place e.ct_Place (ok_PlaceX_initX e) (hr.mono (by decide)) (by rfl) e.m_Place e.b_PlaceX_initX tk (pda_cons (pd_op (opd_mulA) (pd_var (pv 1)) (pd_fld rfl s_2 e.f_x (pd_var (pv 0)))) (pda_cons (pd_op (opd_mulA) (pd_var (pv 1)) (pd_fld rfl s_1 e.f_y (pd_var (pv 0)))) (pda_cons (pd_op (opd_addA e.kk) (pd_op (opd_mulA) (pd_var (pv 1)) (pd_fld rfl s_0 e.f_area (pd_var (pv 0)))) (pd_op (opd_mulA) (pd_op (opd_mulA) (pd_call (ok_pairs_below e) (hr.mono (by decide)) (by rfl) e.m_pairs_below e.F_pairs_below.kp e.b_pairs_below tk (pda_cons (pd_var (pv 1)) (pda_nil))) (pd_fld rfl s_2 e.f_x (pd_var (pv 0)))) (pd_fld rfl s_1 e.f_y (pd_var (pv 0))))) (pda_nil)))))))
theorem ok_home_place (e : Ev P G mg base) : FnOk P w0 G.K mg base (L2.CX P w0) 5 e.a_home_place e.fd_home_place [] (spG G 0 g_home_place) :=
  fn_okD e.F_home_place sc_home_place rfl rfl fun cdv A outer s H E hr tk ps => pdss_one (pds_ret (pd_make e.mk_Place e.ct_Place (ok_PlaceX_initX e) (hr.mono (by decide)) (by rfl) e.m_Place e.b_PlaceX_initX tk (pda_cons (pd_int) (pda_cons (pd_int) (pda_cons (pd_int) (pda_nil))))))
theorem ok_need_places (e : Ev P G mg base) : FnOk P w0 G.K mg base (L2.CX P w0) 5 e.a_need_places e.fd_need_places ["values"] (spG G 1 g_need_places) :=
  fn_okD e.F_need_places sc_need_places rfl rfl fun cdv A outer s H E hr tk ps => pdss_one (pds_for ps rfl (pdi_seq rfl (pd_var (pv 0))) (pdg_name (i := 1) sc_need_places.nd rfl (.inl rfl)) (pdss_one (pds_expr (pd_call (ok_need_place e) (hr.mono (by decide)) (by rfl) e.m_need_place e.F_need_place.kp e.b_need_place tk (pda_cons (pd_var (pv 1)) (pda_nil))))))
theorem ok_product_of (e : Ev P G mg base) : FnOk P w0 G.K mg base (L2.CX P w0) 7 e.a_product_of e.fd_product_of ["places"] (spG G 1 g_product_of) :=
  fn_okD e.F_product_of sc_product_of rfl rfl fun cdv A outer s H E hr tk ps => pdss_cons (pds_expr (pd_call (ok_need_places e) (hr.mono (by decide)) (by rfl) e.m_need_places e.F_need_places.kp e.b_need_places tk (pda_cons (pd_var (pv 0)) (pda_nil))))
    (pdss_cons (pds_set (i := 1) sc_product_of.nd rfl (.inl rfl) (pd_make e.mk_Place e.ct_Place (ok_PlaceX_initX e) (hr.mono (by decide)) (by rfl) e.m_Place e.b_PlaceX_initX tk (pda_cons (pd_int) (pda_cons (pd_int) (pda_cons (pd_int) (pda_nil))))))
    (pdss_cons (pds_for ps rfl (pdi_seq rfl (pd_var (pv 0))) (pdg_name (i := 2) sc_product_of.nd rfl (.inl rfl)) (pdss_one (pds_set (i := 1) sc_product_of.nd rfl (.inl rfl) (pd_opX (opx_own (op := .Mult) (by decide +kernel) e.ct_Place e.M_PlaceX_mulX.at_ e.M_PlaceX_mulX.fn e.sf_Place (ok_PlaceX_mulX e) (hr.mono (by decide)) e.b_PlaceX_mulX tk) (pd_var (pv 1)) (pd_var (pv 2))))))
    (pdss_one (pds_ret (pd_var (pv 1))))))
theorem ok__law_powers_right (e : Ev P G mg base) : FnOk P w0 G.K mg base (L2.CX P w0) 9 e.a__law_powers_right e.fd__law_powers_right ["_law_pen_here", "_law_place_here"] (spG G 2 g__law_powers_right) :=
  fn_okD e.F__law_powers_right sc__law_powers_right rfl rfl fun cdv A outer s H E hr tk ps => pdss_cons (pds_par (i := 2) (j := 3) rfl sc__law_powers_right.nd rfl rfl (by decide) rfl rfl (pda_cons (pd_call (ok__law_draw e) (hr.mono (by decide)) (by rfl) e.m__law_draw e.F__law_draw.kp e.b__law_draw tk (pda_cons (pd_var (pv 0)) (pda_cons (pd_int) (pda_nil)))) (pda_cons (pd_call (ok__law_whole e) (hr.mono (by decide)) (by rfl) e.m__law_whole e.F__law_whole.kp e.b__law_whole tk (pda_cons (pd_var (pv 0)) (pda_cons (pd_call (ok__law_pick e) (hr.mono (by decide)) (by rfl) e.m__law_pick e.F__law_pick.kp e.b__law_pick tk (pda_cons (pd_var (pv 0)) (pda_cons (pdo_frz (pdo_lst (pda_cons (pd_int) (pda_cons (pd_op (opd_pow) (pd_int) (pd_int)) (pda_nil))))) (pda_nil)))) (pda_nil)))) (pda_nil))) (by rfl))
    (pdss_cons (pds_if ((pwd_or (ptd_cmpX (opx_ownNe e.ct_Place e.M_PlaceX_eqX.at_ e.M_PlaceX_eqX.fn e.ne_Place e.mo_Place (ok_PlaceX_eqX e) (hr.mono (by decide)) e.b_PlaceX_eqX tk) (pd_meth rfl (pd_var (pv 1)) e.ct_Place e.cl_Place s_7 e.M_Place_power (ok_Place_power e) (hr.mono (by decide)) e.b_Place_power tk (pda_cons (pd_var (pv 2)) (pda_nil))) (pd_call (ok_product_of e) (hr.mono (by decide)) (by rfl) e.m_product_of e.F_product_of.kp e.b_product_of tk (pda_cons (pd_op (opd_mulA) (pdo_frz (pdo_lst (pda_cons (pd_var (pv 1)) (pda_nil)))) (pd_var (pv 2))) (pda_nil))) (nomark _)) (pwd_or1 (ptd_cmpX (opx_ownNe e.ct_Place e.M_PlaceX_eqX.at_ e.M_PlaceX_eqX.fn e.ne_Place e.mo_Place (ok_PlaceX_eqX e) (hr.mono (by decide)) e.b_PlaceX_eqX tk) (pd_meth rfl (pd_var (pv 1)) e.ct_Place e.cl_Place s_7 e.M_Place_power (ok_Place_power e) (hr.mono (by decide)) e.b_Place_power tk (pda_cons (pd_neg (pd_var (pv 2))) (pda_nil))) (pd_inv e.ct_Place e.M_PlaceX_invertX.at_ e.M_PlaceX_invertX.fn (ok_PlaceX_invertX e) (hr.mono (by decide)) e.b_PlaceX_invertX tk (pd_meth rfl (pd_var (pv 1)) e.ct_Place e.cl_Place s_7 e.M_Place_power (ok_Place_power e) (hr.mono (by decide)) e.b_Place_power tk (pda_cons (pd_var (pv 2)) (pda_nil)))) (nomark _)))).pt) (pdss_one (pds_ret (pd_bl))) (pdss_nil))
    (pdss_cons (pds_set (i := 4) sc__law_powers_right.nd rfl (.inl rfl) (pd_meth rfl (pd_var (pv 1)) e.ct_Place e.cl_Place s_7 e.M_Place_power (ok_Place_power e) (hr.mono (by decide)) e.b_Place_power tk (pda_cons (pd_var (pv 3)) (pda_nil))))
    (pdss_cons (pds_if (ptd_cmpX (opx_ownNe e.ct_Place e.M_PlaceX_eqX.at_ e.M_PlaceX_eqX.fn e.ne_Place e.mo_Place (ok_PlaceX_eqX e) (hr.mono (by decide)) e.b_PlaceX_eqX tk) (pd_opX (opx_own (op := .Mult) (by decide +kernel) e.ct_Place e.M_PlaceX_mulX.at_ e.M_PlaceX_mulX.fn e.sf_Place (ok_PlaceX_mulX e) (hr.mono (by decide)) e.b_PlaceX_mulX tk) (pd_var (pv 4)) (pd_meth rfl (pd_var (pv 1)) e.ct_Place e.cl_Place s_7 e.M_Place_power (ok_Place_power e) (hr.mono (by decide)) e.b_Place_power tk (pda_cons (pd_var (pv 2)) (pda_nil)))) (pd_meth rfl (pd_var (pv 1)) e.ct_Place e.cl_Place s_7 e.M_Place_power (ok_Place_power e) (hr.mono (by decide)) e.b_Place_power tk (pda_cons (pd_op (opd_addA e.kk) (pd_var (pv 3)) (pd_var (pv 2))) (pda_nil))) (nomark _)) (pdss_one (pds_ret (pd_bl))) (pdss_nil))
    (pdss_one (pds_ret (pd_andT e.kk (pd_cmpX (opx_ownEq e.ct_Place e.M_PlaceX_eqX.at_ e.M_PlaceX_eqX.fn (ok_PlaceX_eqX e) (hr.mono (by decide)) e.b_PlaceX_eqX tk) (pd_meth rfl (pd_var (pv 4)) e.ct_Place e.cl_Place s_7 e.M_Place_power (ok_Place_power e) (hr.mono (by decide)) e.b_Place_power tk (pda_cons (pd_var (pv 2)) (pda_nil))) (pd_meth rfl (pd_var (pv 1)) e.ct_Place e.cl_Place s_7 e.M_Place_power (ok_Place_power e) (hr.mono (by decide)) e.b_Place_power tk (pda_cons (pd_op (opd_mulA) (pd_var (pv 3)) (pd_var (pv 2))) (pda_nil))) (nomark _)) (pd_one (pd_cmpX (opx_ownEq e.ct_Place e.M_PlaceX_eqX.at_ e.M_PlaceX_eqX.fn (ok_PlaceX_eqX e) (hr.mono (by decide)) e.b_PlaceX_eqX tk) (pd_meth rfl (pd_var (pv 1)) e.ct_Place e.cl_Place s_7 e.M_Place_power (ok_Place_power e) (hr.mono (by decide)) e.b_Place_power tk (pda_cons (pd_int) (pda_nil))) (pd_call0 (ok_home_place e) (hr.mono (by decide)) (by rfl) e.m_home_place e.F_home_place.kp e.b_home_place tk) (nomark _)))))))))
theorem bl__law_refused (e : Ev P G mg base) : BodyL G P w0 mg base 0 ["_law_ask", "e"] "_law_refused" st__law_refused e.a__law_refused "_law_ask" 0 b__law_refused :=
  fun Λ cdv A outer s H E hr tk ps act => pdss_cons (pds_tryB (hs := [⟨.ref e.C_BadNumber, some 1, hmT ["BadNumber"] ["BadPlace", "WalkError"], fun x => sRet (eTup (aCons (eC (.str [110, 117, 109, 98, 101, 114])) (aCons (eXf "BadNumber" [118, 97, 108, 117, 101] x) (aNil))))⟩, ⟨.ref e.C_BadPlace, some 1, hmT ["BadPlace"] ["BadNumber", "WalkError"], fun x => sRet (eTup (aCons (eC (.str [112, 108, 97, 99, 101])) (aCons (eXf "BadPlace" [118, 97, 108, 117, 101] x) (aNil))))⟩, ⟨.ref e.C_WalkError, some 1, hmT ["BadNumber", "BadPlace", "WalkError"] [], fun x => sRet (eTup (aCons (eC (.str [111, 116, 104, 101, 114])) (aCons (eC (.int 0)) (aNil))))⟩]) rfl rfl sc__law_refused.nd tk (fun Wi pn xe tk ps => pdss_one (pds_expr (act _ _ _ _ _ tk))) (fun h hh => by
        simp only [List.mem_cons, List.not_mem_nil, or_false] at hh
        rcases hh with rfl | rfl | rfl
        · exact mok_of (fun k hk C hC => by simp only [List.mem_cons, List.not_mem_nil, or_false] at hk; subst hk; rw [e.ct_BadNumber] at hC; cases hC; exact e.xm_BadNumber_BadNumber) (fun k hk C hC => by simp only [List.mem_cons, List.not_mem_nil, or_false] at hk; rcases hk with rfl | rfl <;> (first | (rw [e.ct_BadPlace] at hC; cases hC; exact e.xm_BadPlace_BadNumber) | (rw [e.ct_WalkError] at hC; cases hC; exact e.xm_WalkError_BadNumber)))
        · exact mok_of (fun k hk C hC => by simp only [List.mem_cons, List.not_mem_nil, or_false] at hk; subst hk; rw [e.ct_BadPlace] at hC; cases hC; exact e.xm_BadPlace_BadPlace) (fun k hk C hC => by simp only [List.mem_cons, List.not_mem_nil, or_false] at hk; rcases hk with rfl | rfl <;> (first | (rw [e.ct_BadNumber] at hC; cases hC; exact e.xm_BadNumber_BadPlace) | (rw [e.ct_WalkError] at hC; cases hC; exact e.xm_WalkError_BadPlace)))
        · exact mok_of (fun k hk C hC => by simp only [List.mem_cons, List.not_mem_nil, or_false] at hk; rcases hk with rfl | rfl | rfl <;> (first | (rw [e.ct_BadNumber] at hC; cases hC; exact e.xm_BadNumber_WalkError) | (rw [e.ct_BadPlace] at hC; cases hC; exact e.xm_BadPlace_WalkError) | (rw [e.ct_WalkError] at hC; cases hC; exact e.xm_WalkError_WalkError))) (fun k hk C hC => by cases hk)) (HdA.as_ (i := 1) (⟨by rfl, by decide, .inl e.m_BadNumber⟩) rfl rfl (su_one fun a ob cl dd pn x hz hfs => pxs_ret (pxd_tup (pxa_cons (pxd_lift (pd_str s_8)) (pxa_cons (pxd_fld (i := 1) rfl e.ct_BadNumber e.X_BadNumber.F e.X_BadNumber.I.no s_3 hz hfs (pv 1)) (pxa_nil))))) (HdA.as_ (i := 1) (⟨by rfl, by decide, .inl e.m_BadPlace⟩) rfl rfl (su_one fun a ob cl dd pn x hz hfs => pxs_ret (pxd_tup (pxa_cons (pxd_lift (pd_str s_9)) (pxa_cons (pxd_fld (i := 1) rfl e.ct_BadPlace e.X_BadPlace.F e.X_BadPlace.I.no s_3 hz hfs (pv 1)) (pxa_nil))))) (HdA.as_ (i := 1) (⟨by rfl, by decide, .inl e.m_WalkError⟩) rfl rfl (su_one fun a ob cl dd pn x hz hfs => pxs_ret (pxd_lift (pd_tup (pda_cons (pd_str s_10) (pda_cons (pd_int) (pda_nil)))))) (HdA.nil)))))
    (pdss_one (pds_ret (pd_non)))
theorem ok__law_same (e : Ev P G mg base) : FnOk P w0 G.K mg base (L2.CX P w0) 7 e.a__law_same e.fd__law_same ["_law_one", "_law_other"] (spG G 2 g__law_same) :=
  fn_okD e.F__law_same sc__law_same rfl rfl fun cdv A outer s H E hr tk ps => pdss_one (pds_ret (pd_andT e.kk (pd_cmpX (opx_deep (k := 1) rfl (ownInt_ok takes0 (fun c ns h => by obtain ⟨rfl, rfl⟩ := lookup_one h; exact ⟨e.C_Place, _, _, _, g_PlaceX_eqX, e.ct_Place, e.M_PlaceX_eqX.at_, e.M_PlaceX_eqX.fn, ok_PlaceX_eqX e, e.b_PlaceX_eqX, own_eq_Place⟩)) (hr.mono (by decide))) (pd_var (pv 0)) (pd_var (pv 1)) (nomark _)) (pd_andT e.kk (pd_cmp (opd_notN) (pd_var (pv 0)) (pd_non) (nomark _)) (pd_one (pd_cmpX (opx_deep (k := 1) rfl (ownInt_ok takes0 (fun c ns h => by obtain ⟨rfl, rfl⟩ := lookup_one h; exact ⟨e.C_Place, _, _, _, g_PlaceX_eqX, e.ct_Place, e.M_PlaceX_eqX.at_, e.M_PlaceX_eqX.fn, ok_PlaceX_eqX e, e.b_PlaceX_eqX, own_eq_Place⟩)) (hr.mono (by decide))) (pd_callB (cd_isi rfl e.iso) (by rfl) e.z_isinstance (by decide +kernel) (pda_cons (pd_ix e.kk (pd_var (pv 0)) (pd_int) (fun _ _ => rfl)) (pda_cons (pd_bltn (by rfl) e.z_bool boot_bool) (pda_nil)))) (pd_callB (cd_isi rfl e.iso) (by rfl) e.z_isinstance (by decide +kernel) (pda_cons (pd_ix e.kk (pd_var (pv 1)) (pd_int) (fun _ _ => rfl)) (pda_cons (pd_bltn (by rfl) e.z_bool boot_bool) (pda_nil)))) (nomark _))))))
theorem ok__law_refusals_right (e0 : Ev P G mg base) : FnOk P w0 G.K mg base (L2.CX P w0) 11 e0.a__law_refusals_right e0.fd__law_refusals_right ["_law_pen_here", "_law_place_here"] (spG G 2 g__law_refusals_right) :=
  fn_okDL e0.F__law_refusals_right sc__law_refusals_right rfl rfl (T__law_refusals_right e0) fun cdv hcd A outer s H E hr tk ps => let e := e0.sw _ _; pdss_cons (pds_set (i := 2) sc__law_refusals_right.nd rfl (.inl rfl) (pdo_frz (pdo_lst (pda_cons (pd_non) (pda_cons (pd_bl) (pda_cons (pd_bl) (pda_cons (pd_str s_11) (pda_cons (pdo_frz (pdo_lst (pda_cons (pd_int) (pda_nil)))) (pda_cons (pd_tup (pda_cons (pd_int) (pda_cons (pd_int) (pda_nil)))) (pda_cons (pdod_frz (pdod_nil)) (pda_nil)))))))))))
    (pdss_cons (pds_asg (pd_tup (pda_cons (pd_call (ok__law_pick e) (hr.mono (by decide)) (by rfl) e.m__law_pick e.F__law_pick.kp e.b__law_pick tk (pda_cons (pd_var (pv 0)) (pda_cons (pd_var (pv 2)) (pda_nil)))) (pda_cons (pd_call (ok__law_pick e) (hr.mono (by decide)) (by rfl) e.m__law_pick e.F__law_pick.kp e.b__law_pick tk (pda_cons (pd_var (pv 0)) (pda_cons (pd_var (pv 2)) (pda_nil)))) (pda_nil)))) (pdg_tup rfl rfl (pdgs_cons (pdg_name (i := 3) sc__law_refusals_right.nd rfl (.inr rfl)) (pdgs_cons (pdg_name (i := 4) sc__law_refusals_right.nd rfl (.inr rfl)) (pdgs_nil)))))
    (pdss_cons (pds_if (ptd_not (ptd_truth e.kk (pd_call (ok__law_same e) (hr.mono (by decide)) (by rfl) e.m__law_same e.F__law_same.kp e.b__law_same tk (pda_cons (pd_callL (k := 8) (T := T__law_refusals_right e0 s.heap.objs.size) (body := b__law_refused) rfl e.F__law_refused sc__law_refused rfl rfl (fun _ _ _ z => z) rfl rfl (lamsOk_cons (n0 := "_law_refusals_right.0") rfl ⟨by exact LamX.lamS_by (sc := defScope st__law_refusals_right) (by decide +kernel), fun _ _ _ _ _ => rfl, fun A outer s H E f c' hr tk => pd_make e.mk_Place e.ct_Place (ok_PlaceX_initX e) (hr.mono (by decide)) (by rfl) e.m_Place e.b_PlaceX_initX tk (pda_cons (pd_int) (pda_cons (pd_var (pv 3)) (pda_cons (pd_var (pv 4)) (pda_nil))))⟩ (lamsOk_cons (n0 := "_law_refusals_right.1") rfl ⟨by exact LamX.lamS_by (sc := defScope st__law_refusals_right) (by decide +kernel), fun _ _ _ _ _ => rfl, fun A outer s H E f c' hr tk => pd_make e.mk_Place e.ct_Place (ok_PlaceX_initX e) (hr.mono (by decide)) (by rfl) e.m_Place e.b_PlaceX_initX tk (pda_cons (pd_var (pv 4)) (pda_cons (pd_var (pv 3)) (pda_cons (pd_int) (pda_nil))))⟩ (lamsOk_cons (n0 := "_law_refusals_right.2") rfl ⟨by exact LamX.lamS_by (sc := defScope st__law_refusals_right) (by decide +kernel), fun _ _ _ _ _ => rfl, fun A outer s H E f c' hr tk => pd_meth rfl (pd_var (pv 1)) e.ct_Place e.cl_Place s_7 e.M_Place_power (ok_Place_power e) (hr.mono (by decide)) e.b_Place_power tk (pda_cons (pd_var (pv 3)) (pda_nil))⟩ (lamsOk_cons (n0 := "_law_refusals_right.3") rfl ⟨by exact LamX.lamS_by (sc := defScope st__law_refusals_right) (by decide +kernel), fun _ _ _ _ _ => rfl, fun A outer s H E f c' hr tk => pd_meth rfl (pd_var (pv 1)) e.ct_Place e.cl_Place s_13 e.M_Place_lifted (ok_Place_lifted e) (hr.mono (by decide)) e.b_Place_lifted tk (pda_cons (pd_var (pv 4)) (pda_nil))⟩ (lamsOk_cons (n0 := "_law_refusals_right.4") rfl ⟨by exact LamX.lamS_by (sc := defScope st__law_refusals_right) (by decide +kernel), fun _ _ _ _ _ => rfl, fun A outer s H E f c' hr tk => pd_meth rfl (pd_var (pv 1)) e.ct_Place e.cl_Place s_12 e.M_Place_twist (ok_Place_twist e) (hr.mono (by decide)) e.b_Place_twist tk (pda_cons (pd_var (pv 3)) (pda_nil))⟩ (lamsOk_cons (n0 := "_law_refusals_right.5") rfl ⟨by exact LamX.lamS_by (sc := defScope st__law_refusals_right) (by decide +kernel), fun _ _ _ _ _ => rfl, fun A outer s H E f c' hr tk => pd_call (ok_product_of e) (hr.mono (by decide)) (by rfl) e.m_product_of e.F_product_of.kp e.b_product_of tk (pda_cons (pdo_frz (pdo_lst (pda_cons (pd_var (pv 1)) (pda_cons (pd_var (pv 4)) (pda_cons (pd_var (pv 3)) (pda_nil)))))) (pda_nil))⟩ (lamsOk_cons (n0 := "_law_refusals_right.6") rfl ⟨by exact LamX.lamS_by (sc := defScope st__law_refusals_right) (by decide +kernel), fun _ _ _ _ _ => rfl, fun A outer s H E f c' hr tk => pd_opX (opx_ownM rfl e.iso (op := .Mult) (by decide +kernel) (by decide +kernel) (by decide) e.ct_Place e.M_PlaceX_mulX.at_ e.M_PlaceX_mulX.fn e.sf_Place e.nr_Place e.tm_mul (ok_PlaceX_mulX e) (hr.mono (by decide)) e.b_PlaceX_mulX tk) (pd_var (pv 1)) (pd_var (pv 3))⟩ (lamsOk_nil)))))))) (fun w => (bl__law_refused (e.sw _ _)).mono (by decide)) (i := 0) rfl (.inl rfl) (hr.mono (by decide)) (by rfl) e.m__law_refused e.b__law_refused tk (pda_cons (pd_lam (T := T__law_refusals_right e0 s.heap.objs.size) (glam_of e.tabs rfl (fun _ _ _ => Iff.rfl)) e.tb__law_refusals_right (hcd.symm.trans e.cd__law_refusals_right) rfl rfl rfl (by exact LamX.lamS_by (sc := defScope st__law_refusals_right) (by decide +kernel)) rfl) (pda_nil))) (pda_cons (pd_tup (pda_cons (pd_str s_8) (pda_cons (pd_var (pv 3)) (pda_nil)))) (pda_nil)))))) (pdss_one (pds_ret (pd_bl))) (pdss_nil))
    (pdss_cons (pds_if (ptd_not (ptd_truth e.kk (pd_call (ok__law_same e) (hr.mono (by decide)) (by rfl) e.m__law_same e.F__law_same.kp e.b__law_same tk (pda_cons (pd_callL (k := 8) (T := T__law_refusals_right e0 s.heap.objs.size) (body := b__law_refused) rfl e.F__law_refused sc__law_refused rfl rfl (fun _ _ _ z => z) rfl rfl (lamsOk_cons (n0 := "_law_refusals_right.0") rfl ⟨by exact LamX.lamS_by (sc := defScope st__law_refusals_right) (by decide +kernel), fun _ _ _ _ _ => rfl, fun A outer s H E f c' hr tk => pd_make e.mk_Place e.ct_Place (ok_PlaceX_initX e) (hr.mono (by decide)) (by rfl) e.m_Place e.b_PlaceX_initX tk (pda_cons (pd_int) (pda_cons (pd_var (pv 3)) (pda_cons (pd_var (pv 4)) (pda_nil))))⟩ (lamsOk_cons (n0 := "_law_refusals_right.1") rfl ⟨by exact LamX.lamS_by (sc := defScope st__law_refusals_right) (by decide +kernel), fun _ _ _ _ _ => rfl, fun A outer s H E f c' hr tk => pd_make e.mk_Place e.ct_Place (ok_PlaceX_initX e) (hr.mono (by decide)) (by rfl) e.m_Place e.b_PlaceX_initX tk (pda_cons (pd_var (pv 4)) (pda_cons (pd_var (pv 3)) (pda_cons (pd_int) (pda_nil))))⟩ (lamsOk_cons (n0 := "_law_refusals_right.2") rfl ⟨by exact LamX.lamS_by (sc := defScope st__law_refusals_right) (by decide +kernel), fun _ _ _ _ _ => rfl, fun A outer s H E f c' hr tk => pd_meth rfl (pd_var (pv 1)) e.ct_Place e.cl_Place s_7 e.M_Place_power (ok_Place_power e) (hr.mono (by decide)) e.b_Place_power tk (pda_cons (pd_var (pv 3)) (pda_nil))⟩ (lamsOk_cons (n0 := "_law_refusals_right.3") rfl ⟨by exact LamX.lamS_by (sc := defScope st__law_refusals_right) (by decide +kernel), fun _ _ _ _ _ => rfl, fun A outer s H E f c' hr tk => pd_meth rfl (pd_var (pv 1)) e.ct_Place e.cl_Place s_13 e.M_Place_lifted (ok_Place_lifted e) (hr.mono (by decide)) e.b_Place_lifted tk (pda_cons (pd_var (pv 4)) (pda_nil))⟩ (lamsOk_cons (n0 := "_law_refusals_right.4") rfl ⟨by exact LamX.lamS_by (sc := defScope st__law_refusals_right) (by decide +kernel), fun _ _ _ _ _ => rfl, fun A outer s H E f c' hr tk => pd_meth rfl (pd_var (pv 1)) e.ct_Place e.cl_Place s_12 e.M_Place_twist (ok_Place_twist e) (hr.mono (by decide)) e.b_Place_twist tk (pda_cons (pd_var (pv 3)) (pda_nil))⟩ (lamsOk_cons (n0 := "_law_refusals_right.5") rfl ⟨by exact LamX.lamS_by (sc := defScope st__law_refusals_right) (by decide +kernel), fun _ _ _ _ _ => rfl, fun A outer s H E f c' hr tk => pd_call (ok_product_of e) (hr.mono (by decide)) (by rfl) e.m_product_of e.F_product_of.kp e.b_product_of tk (pda_cons (pdo_frz (pdo_lst (pda_cons (pd_var (pv 1)) (pda_cons (pd_var (pv 4)) (pda_cons (pd_var (pv 3)) (pda_nil)))))) (pda_nil))⟩ (lamsOk_cons (n0 := "_law_refusals_right.6") rfl ⟨by exact LamX.lamS_by (sc := defScope st__law_refusals_right) (by decide +kernel), fun _ _ _ _ _ => rfl, fun A outer s H E f c' hr tk => pd_opX (opx_ownM rfl e.iso (op := .Mult) (by decide +kernel) (by decide +kernel) (by decide) e.ct_Place e.M_PlaceX_mulX.at_ e.M_PlaceX_mulX.fn e.sf_Place e.nr_Place e.tm_mul (ok_PlaceX_mulX e) (hr.mono (by decide)) e.b_PlaceX_mulX tk) (pd_var (pv 1)) (pd_var (pv 3))⟩ (lamsOk_nil)))))))) (fun w => (bl__law_refused (e.sw _ _)).mono (by decide)) (i := 0) rfl (.inl rfl) (hr.mono (by decide)) (by rfl) e.m__law_refused e.b__law_refused tk (pda_cons (pd_lam (T := T__law_refusals_right e0 s.heap.objs.size) (glam_of e.tabs rfl (fun _ _ _ => Iff.rfl)) e.tb__law_refusals_right (hcd.symm.trans e.cd__law_refusals_right) rfl rfl rfl (by exact LamX.lamS_by (sc := defScope st__law_refusals_right) (by decide +kernel)) rfl) (pda_nil))) (pda_cons (pd_tup (pda_cons (pd_str s_8) (pda_cons (pd_var (pv 4)) (pda_nil)))) (pda_nil)))))) (pdss_one (pds_ret (pd_bl))) (pdss_nil))
    (pdss_cons (pds_if (ptd_not (ptd_truth e.kk (pd_call (ok__law_same e) (hr.mono (by decide)) (by rfl) e.m__law_same e.F__law_same.kp e.b__law_same tk (pda_cons (pd_callL (k := 8) (T := T__law_refusals_right e0 s.heap.objs.size) (body := b__law_refused) rfl e.F__law_refused sc__law_refused rfl rfl (fun _ _ _ z => z) rfl rfl (lamsOk_cons (n0 := "_law_refusals_right.0") rfl ⟨by exact LamX.lamS_by (sc := defScope st__law_refusals_right) (by decide +kernel), fun _ _ _ _ _ => rfl, fun A outer s H E f c' hr tk => pd_make e.mk_Place e.ct_Place (ok_PlaceX_initX e) (hr.mono (by decide)) (by rfl) e.m_Place e.b_PlaceX_initX tk (pda_cons (pd_int) (pda_cons (pd_var (pv 3)) (pda_cons (pd_var (pv 4)) (pda_nil))))⟩ (lamsOk_cons (n0 := "_law_refusals_right.1") rfl ⟨by exact LamX.lamS_by (sc := defScope st__law_refusals_right) (by decide +kernel), fun _ _ _ _ _ => rfl, fun A outer s H E f c' hr tk => pd_make e.mk_Place e.ct_Place (ok_PlaceX_initX e) (hr.mono (by decide)) (by rfl) e.m_Place e.b_PlaceX_initX tk (pda_cons (pd_var (pv 4)) (pda_cons (pd_var (pv 3)) (pda_cons (pd_int) (pda_nil))))⟩ (lamsOk_cons (n0 := "_law_refusals_right.2") rfl ⟨by exact LamX.lamS_by (sc := defScope st__law_refusals_right) (by decide +kernel), fun _ _ _ _ _ => rfl, fun A outer s H E f c' hr tk => pd_meth rfl (pd_var (pv 1)) e.ct_Place e.cl_Place s_7 e.M_Place_power (ok_Place_power e) (hr.mono (by decide)) e.b_Place_power tk (pda_cons (pd_var (pv 3)) (pda_nil))⟩ (lamsOk_cons (n0 := "_law_refusals_right.3") rfl ⟨by exact LamX.lamS_by (sc := defScope st__law_refusals_right) (by decide +kernel), fun _ _ _ _ _ => rfl, fun A outer s H E f c' hr tk => pd_meth rfl (pd_var (pv 1)) e.ct_Place e.cl_Place s_13 e.M_Place_lifted (ok_Place_lifted e) (hr.mono (by decide)) e.b_Place_lifted tk (pda_cons (pd_var (pv 4)) (pda_nil))⟩ (lamsOk_cons (n0 := "_law_refusals_right.4") rfl ⟨by exact LamX.lamS_by (sc := defScope st__law_refusals_right) (by decide +kernel), fun _ _ _ _ _ => rfl, fun A outer s H E f c' hr tk => pd_meth rfl (pd_var (pv 1)) e.ct_Place e.cl_Place s_12 e.M_Place_twist (ok_Place_twist e) (hr.mono (by decide)) e.b_Place_twist tk (pda_cons (pd_var (pv 3)) (pda_nil))⟩ (lamsOk_cons (n0 := "_law_refusals_right.5") rfl ⟨by exact LamX.lamS_by (sc := defScope st__law_refusals_right) (by decide +kernel), fun _ _ _ _ _ => rfl, fun A outer s H E f c' hr tk => pd_call (ok_product_of e) (hr.mono (by decide)) (by rfl) e.m_product_of e.F_product_of.kp e.b_product_of tk (pda_cons (pdo_frz (pdo_lst (pda_cons (pd_var (pv 1)) (pda_cons (pd_var (pv 4)) (pda_cons (pd_var (pv 3)) (pda_nil)))))) (pda_nil))⟩ (lamsOk_cons (n0 := "_law_refusals_right.6") rfl ⟨by exact LamX.lamS_by (sc := defScope st__law_refusals_right) (by decide +kernel), fun _ _ _ _ _ => rfl, fun A outer s H E f c' hr tk => pd_opX (opx_ownM rfl e.iso (op := .Mult) (by decide +kernel) (by decide +kernel) (by decide) e.ct_Place e.M_PlaceX_mulX.at_ e.M_PlaceX_mulX.fn e.sf_Place e.nr_Place e.tm_mul (ok_PlaceX_mulX e) (hr.mono (by decide)) e.b_PlaceX_mulX tk) (pd_var (pv 1)) (pd_var (pv 3))⟩ (lamsOk_nil)))))))) (fun w => (bl__law_refused (e.sw _ _)).mono (by decide)) (i := 0) rfl (.inl rfl) (hr.mono (by decide)) (by rfl) e.m__law_refused e.b__law_refused tk (pda_cons (pd_lam (T := T__law_refusals_right e0 s.heap.objs.size) (glam_of e.tabs rfl (fun _ _ _ => Iff.rfl)) e.tb__law_refusals_right (hcd.symm.trans e.cd__law_refusals_right) rfl rfl rfl (by exact LamX.lamS_by (sc := defScope st__law_refusals_right) (by decide +kernel)) rfl) (pda_nil))) (pda_cons (pd_tup (pda_cons (pd_str s_8) (pda_cons (pd_var (pv 3)) (pda_nil)))) (pda_nil)))))) (pdss_one (pds_ret (pd_bl))) (pdss_nil))
    (pdss_cons (pds_if (ptd_not (ptd_truth e.kk (pd_call (ok__law_same e) (hr.mono (by decide)) (by rfl) e.m__law_same e.F__law_same.kp e.b__law_same tk (pda_cons (pd_callL (k := 8) (T := T__law_refusals_right e0 s.heap.objs.size) (body := b__law_refused) rfl e.F__law_refused sc__law_refused rfl rfl (fun _ _ _ z => z) rfl rfl (lamsOk_cons (n0 := "_law_refusals_right.0") rfl ⟨by exact LamX.lamS_by (sc := defScope st__law_refusals_right) (by decide +kernel), fun _ _ _ _ _ => rfl, fun A outer s H E f c' hr tk => pd_make e.mk_Place e.ct_Place (ok_PlaceX_initX e) (hr.mono (by decide)) (by rfl) e.m_Place e.b_PlaceX_initX tk (pda_cons (pd_int) (pda_cons (pd_var (pv 3)) (pda_cons (pd_var (pv 4)) (pda_nil))))⟩ (lamsOk_cons (n0 := "_law_refusals_right.1") rfl ⟨by exact LamX.lamS_by (sc := defScope st__law_refusals_right) (by decide +kernel), fun _ _ _ _ _ => rfl, fun A outer s H E f c' hr tk => pd_make e.mk_Place e.ct_Place (ok_PlaceX_initX e) (hr.mono (by decide)) (by rfl) e.m_Place e.b_PlaceX_initX tk (pda_cons (pd_var (pv 4)) (pda_cons (pd_var (pv 3)) (pda_cons (pd_int) (pda_nil))))⟩ (lamsOk_cons (n0 := "_law_refusals_right.2") rfl ⟨by exact LamX.lamS_by (sc := defScope st__law_refusals_right) (by decide +kernel), fun _ _ _ _ _ => rfl, fun A outer s H E f c' hr tk => pd_meth rfl (pd_var (pv 1)) e.ct_Place e.cl_Place s_7 e.M_Place_power (ok_Place_power e) (hr.mono (by decide)) e.b_Place_power tk (pda_cons (pd_var (pv 3)) (pda_nil))⟩ (lamsOk_cons (n0 := "_law_refusals_right.3") rfl ⟨by exact LamX.lamS_by (sc := defScope st__law_refusals_right) (by decide +kernel), fun _ _ _ _ _ => rfl, fun A outer s H E f c' hr tk => pd_meth rfl (pd_var (pv 1)) e.ct_Place e.cl_Place s_13 e.M_Place_lifted (ok_Place_lifted e) (hr.mono (by decide)) e.b_Place_lifted tk (pda_cons (pd_var (pv 4)) (pda_nil))⟩ (lamsOk_cons (n0 := "_law_refusals_right.4") rfl ⟨by exact LamX.lamS_by (sc := defScope st__law_refusals_right) (by decide +kernel), fun _ _ _ _ _ => rfl, fun A outer s H E f c' hr tk => pd_meth rfl (pd_var (pv 1)) e.ct_Place e.cl_Place s_12 e.M_Place_twist (ok_Place_twist e) (hr.mono (by decide)) e.b_Place_twist tk (pda_cons (pd_var (pv 3)) (pda_nil))⟩ (lamsOk_cons (n0 := "_law_refusals_right.5") rfl ⟨by exact LamX.lamS_by (sc := defScope st__law_refusals_right) (by decide +kernel), fun _ _ _ _ _ => rfl, fun A outer s H E f c' hr tk => pd_call (ok_product_of e) (hr.mono (by decide)) (by rfl) e.m_product_of e.F_product_of.kp e.b_product_of tk (pda_cons (pdo_frz (pdo_lst (pda_cons (pd_var (pv 1)) (pda_cons (pd_var (pv 4)) (pda_cons (pd_var (pv 3)) (pda_nil)))))) (pda_nil))⟩ (lamsOk_cons (n0 := "_law_refusals_right.6") rfl ⟨by exact LamX.lamS_by (sc := defScope st__law_refusals_right) (by decide +kernel), fun _ _ _ _ _ => rfl, fun A outer s H E f c' hr tk => pd_opX (opx_ownM rfl e.iso (op := .Mult) (by decide +kernel) (by decide +kernel) (by decide) e.ct_Place e.M_PlaceX_mulX.at_ e.M_PlaceX_mulX.fn e.sf_Place e.nr_Place e.tm_mul (ok_PlaceX_mulX e) (hr.mono (by decide)) e.b_PlaceX_mulX tk) (pd_var (pv 1)) (pd_var (pv 3))⟩ (lamsOk_nil)))))))) (fun w => (bl__law_refused (e.sw _ _)).mono (by decide)) (i := 0) rfl (.inl rfl) (hr.mono (by decide)) (by rfl) e.m__law_refused e.b__law_refused tk (pda_cons (pd_lam (T := T__law_refusals_right e0 s.heap.objs.size) (glam_of e.tabs rfl (fun _ _ _ => Iff.rfl)) e.tb__law_refusals_right (hcd.symm.trans e.cd__law_refusals_right) rfl rfl rfl (by exact LamX.lamS_by (sc := defScope st__law_refusals_right) (by decide +kernel)) rfl) (pda_nil))) (pda_cons (pd_tup (pda_cons (pd_str s_8) (pda_cons (pd_var (pv 4)) (pda_nil)))) (pda_nil)))))) (pdss_one (pds_ret (pd_bl))) (pdss_nil))
    (pdss_cons (pds_if (ptd_not (ptd_truth e.kk (pd_call (ok__law_same e) (hr.mono (by decide)) (by rfl) e.m__law_same e.F__law_same.kp e.b__law_same tk (pda_cons (pd_callL (k := 8) (T := T__law_refusals_right e0 s.heap.objs.size) (body := b__law_refused) rfl e.F__law_refused sc__law_refused rfl rfl (fun _ _ _ z => z) rfl rfl (lamsOk_cons (n0 := "_law_refusals_right.0") rfl ⟨by exact LamX.lamS_by (sc := defScope st__law_refusals_right) (by decide +kernel), fun _ _ _ _ _ => rfl, fun A outer s H E f c' hr tk => pd_make e.mk_Place e.ct_Place (ok_PlaceX_initX e) (hr.mono (by decide)) (by rfl) e.m_Place e.b_PlaceX_initX tk (pda_cons (pd_int) (pda_cons (pd_var (pv 3)) (pda_cons (pd_var (pv 4)) (pda_nil))))⟩ (lamsOk_cons (n0 := "_law_refusals_right.1") rfl ⟨by exact LamX.lamS_by (sc := defScope st__law_refusals_right) (by decide +kernel), fun _ _ _ _ _ => rfl, fun A outer s H E f c' hr tk => pd_make e.mk_Place e.ct_Place (ok_PlaceX_initX e) (hr.mono (by decide)) (by rfl) e.m_Place e.b_PlaceX_initX tk (pda_cons (pd_var (pv 4)) (pda_cons (pd_var (pv 3)) (pda_cons (pd_int) (pda_nil))))⟩ (lamsOk_cons (n0 := "_law_refusals_right.2") rfl ⟨by exact LamX.lamS_by (sc := defScope st__law_refusals_right) (by decide +kernel), fun _ _ _ _ _ => rfl, fun A outer s H E f c' hr tk => pd_meth rfl (pd_var (pv 1)) e.ct_Place e.cl_Place s_7 e.M_Place_power (ok_Place_power e) (hr.mono (by decide)) e.b_Place_power tk (pda_cons (pd_var (pv 3)) (pda_nil))⟩ (lamsOk_cons (n0 := "_law_refusals_right.3") rfl ⟨by exact LamX.lamS_by (sc := defScope st__law_refusals_right) (by decide +kernel), fun _ _ _ _ _ => rfl, fun A outer s H E f c' hr tk => pd_meth rfl (pd_var (pv 1)) e.ct_Place e.cl_Place s_13 e.M_Place_lifted (ok_Place_lifted e) (hr.mono (by decide)) e.b_Place_lifted tk (pda_cons (pd_var (pv 4)) (pda_nil))⟩ (lamsOk_cons (n0 := "_law_refusals_right.4") rfl ⟨by exact LamX.lamS_by (sc := defScope st__law_refusals_right) (by decide +kernel), fun _ _ _ _ _ => rfl, fun A outer s H E f c' hr tk => pd_meth rfl (pd_var (pv 1)) e.ct_Place e.cl_Place s_12 e.M_Place_twist (ok_Place_twist e) (hr.mono (by decide)) e.b_Place_twist tk (pda_cons (pd_var (pv 3)) (pda_nil))⟩ (lamsOk_cons (n0 := "_law_refusals_right.5") rfl ⟨by exact LamX.lamS_by (sc := defScope st__law_refusals_right) (by decide +kernel), fun _ _ _ _ _ => rfl, fun A outer s H E f c' hr tk => pd_call (ok_product_of e) (hr.mono (by decide)) (by rfl) e.m_product_of e.F_product_of.kp e.b_product_of tk (pda_cons (pdo_frz (pdo_lst (pda_cons (pd_var (pv 1)) (pda_cons (pd_var (pv 4)) (pda_cons (pd_var (pv 3)) (pda_nil)))))) (pda_nil))⟩ (lamsOk_cons (n0 := "_law_refusals_right.6") rfl ⟨by exact LamX.lamS_by (sc := defScope st__law_refusals_right) (by decide +kernel), fun _ _ _ _ _ => rfl, fun A outer s H E f c' hr tk => pd_opX (opx_ownM rfl e.iso (op := .Mult) (by decide +kernel) (by decide +kernel) (by decide) e.ct_Place e.M_PlaceX_mulX.at_ e.M_PlaceX_mulX.fn e.sf_Place e.nr_Place e.tm_mul (ok_PlaceX_mulX e) (hr.mono (by decide)) e.b_PlaceX_mulX tk) (pd_var (pv 1)) (pd_var (pv 3))⟩ (lamsOk_nil)))))))) (fun w => (bl__law_refused (e.sw _ _)).mono (by decide)) (i := 0) rfl (.inl rfl) (hr.mono (by decide)) (by rfl) e.m__law_refused e.b__law_refused tk (pda_cons (pd_lam (T := T__law_refusals_right e0 s.heap.objs.size) (glam_of e.tabs rfl (fun _ _ _ => Iff.rfl)) e.tb__law_refusals_right (hcd.symm.trans e.cd__law_refusals_right) rfl rfl rfl (by exact LamX.lamS_by (sc := defScope st__law_refusals_right) (by decide +kernel)) rfl) (pda_nil))) (pda_cons (pd_tup (pda_cons (pd_str s_9) (pda_cons (pd_var (pv 3)) (pda_nil)))) (pda_nil)))))) (pdss_one (pds_ret (pd_bl))) (pdss_nil))
    (pdss_cons (pds_if (ptd_not (ptd_truth e.kk (pd_call (ok__law_same e) (hr.mono (by decide)) (by rfl) e.m__law_same e.F__law_same.kp e.b__law_same tk (pda_cons (pd_callL (k := 8) (T := T__law_refusals_right e0 s.heap.objs.size) (body := b__law_refused) rfl e.F__law_refused sc__law_refused rfl rfl (fun _ _ _ z => z) rfl rfl (lamsOk_cons (n0 := "_law_refusals_right.0") rfl ⟨by exact LamX.lamS_by (sc := defScope st__law_refusals_right) (by decide +kernel), fun _ _ _ _ _ => rfl, fun A outer s H E f c' hr tk => pd_make e.mk_Place e.ct_Place (ok_PlaceX_initX e) (hr.mono (by decide)) (by rfl) e.m_Place e.b_PlaceX_initX tk (pda_cons (pd_int) (pda_cons (pd_var (pv 3)) (pda_cons (pd_var (pv 4)) (pda_nil))))⟩ (lamsOk_cons (n0 := "_law_refusals_right.1") rfl ⟨by exact LamX.lamS_by (sc := defScope st__law_refusals_right) (by decide +kernel), fun _ _ _ _ _ => rfl, fun A outer s H E f c' hr tk => pd_make e.mk_Place e.ct_Place (ok_PlaceX_initX e) (hr.mono (by decide)) (by rfl) e.m_Place e.b_PlaceX_initX tk (pda_cons (pd_var (pv 4)) (pda_cons (pd_var (pv 3)) (pda_cons (pd_int) (pda_nil))))⟩ (lamsOk_cons (n0 := "_law_refusals_right.2") rfl ⟨by exact LamX.lamS_by (sc := defScope st__law_refusals_right) (by decide +kernel), fun _ _ _ _ _ => rfl, fun A outer s H E f c' hr tk => pd_meth rfl (pd_var (pv 1)) e.ct_Place e.cl_Place s_7 e.M_Place_power (ok_Place_power e) (hr.mono (by decide)) e.b_Place_power tk (pda_cons (pd_var (pv 3)) (pda_nil))⟩ (lamsOk_cons (n0 := "_law_refusals_right.3") rfl ⟨by exact LamX.lamS_by (sc := defScope st__law_refusals_right) (by decide +kernel), fun _ _ _ _ _ => rfl, fun A outer s H E f c' hr tk => pd_meth rfl (pd_var (pv 1)) e.ct_Place e.cl_Place s_13 e.M_Place_lifted (ok_Place_lifted e) (hr.mono (by decide)) e.b_Place_lifted tk (pda_cons (pd_var (pv 4)) (pda_nil))⟩ (lamsOk_cons (n0 := "_law_refusals_right.4") rfl ⟨by exact LamX.lamS_by (sc := defScope st__law_refusals_right) (by decide +kernel), fun _ _ _ _ _ => rfl, fun A outer s H E f c' hr tk => pd_meth rfl (pd_var (pv 1)) e.ct_Place e.cl_Place s_12 e.M_Place_twist (ok_Place_twist e) (hr.mono (by decide)) e.b_Place_twist tk (pda_cons (pd_var (pv 3)) (pda_nil))⟩ (lamsOk_cons (n0 := "_law_refusals_right.5") rfl ⟨by exact LamX.lamS_by (sc := defScope st__law_refusals_right) (by decide +kernel), fun _ _ _ _ _ => rfl, fun A outer s H E f c' hr tk => pd_call (ok_product_of e) (hr.mono (by decide)) (by rfl) e.m_product_of e.F_product_of.kp e.b_product_of tk (pda_cons (pdo_frz (pdo_lst (pda_cons (pd_var (pv 1)) (pda_cons (pd_var (pv 4)) (pda_cons (pd_var (pv 3)) (pda_nil)))))) (pda_nil))⟩ (lamsOk_cons (n0 := "_law_refusals_right.6") rfl ⟨by exact LamX.lamS_by (sc := defScope st__law_refusals_right) (by decide +kernel), fun _ _ _ _ _ => rfl, fun A outer s H E f c' hr tk => pd_opX (opx_ownM rfl e.iso (op := .Mult) (by decide +kernel) (by decide +kernel) (by decide) e.ct_Place e.M_PlaceX_mulX.at_ e.M_PlaceX_mulX.fn e.sf_Place e.nr_Place e.tm_mul (ok_PlaceX_mulX e) (hr.mono (by decide)) e.b_PlaceX_mulX tk) (pd_var (pv 1)) (pd_var (pv 3))⟩ (lamsOk_nil)))))))) (fun w => (bl__law_refused (e.sw _ _)).mono (by decide)) (i := 0) rfl (.inl rfl) (hr.mono (by decide)) (by rfl) e.m__law_refused e.b__law_refused tk (pda_cons (pd_lam (T := T__law_refusals_right e0 s.heap.objs.size) (glam_of e.tabs rfl (fun _ _ _ => Iff.rfl)) e.tb__law_refusals_right (hcd.symm.trans e.cd__law_refusals_right) rfl rfl rfl (by exact LamX.lamS_by (sc := defScope st__law_refusals_right) (by decide +kernel)) rfl) (pda_nil))) (pda_cons (pd_tup (pda_cons (pd_str s_9) (pda_cons (pd_var (pv 4)) (pda_nil)))) (pda_nil)))))) (pdss_one (pds_ret (pd_bl))) (pdss_nil))
    (pdss_cons (pds_if (ptd_not (ptd_truth e.kk (pd_call (ok__law_same e) (hr.mono (by decide)) (by rfl) e.m__law_same e.F__law_same.kp e.b__law_same tk (pda_cons (pd_callL (k := 8) (T := T__law_refusals_right e0 s.heap.objs.size) (body := b__law_refused) rfl e.F__law_refused sc__law_refused rfl rfl (fun _ _ _ z => z) rfl rfl (lamsOk_cons (n0 := "_law_refusals_right.0") rfl ⟨by exact LamX.lamS_by (sc := defScope st__law_refusals_right) (by decide +kernel), fun _ _ _ _ _ => rfl, fun A outer s H E f c' hr tk => pd_make e.mk_Place e.ct_Place (ok_PlaceX_initX e) (hr.mono (by decide)) (by rfl) e.m_Place e.b_PlaceX_initX tk (pda_cons (pd_int) (pda_cons (pd_var (pv 3)) (pda_cons (pd_var (pv 4)) (pda_nil))))⟩ (lamsOk_cons (n0 := "_law_refusals_right.1") rfl ⟨by exact LamX.lamS_by (sc := defScope st__law_refusals_right) (by decide +kernel), fun _ _ _ _ _ => rfl, fun A outer s H E f c' hr tk => pd_make e.mk_Place e.ct_Place (ok_PlaceX_initX e) (hr.mono (by decide)) (by rfl) e.m_Place e.b_PlaceX_initX tk (pda_cons (pd_var (pv 4)) (pda_cons (pd_var (pv 3)) (pda_cons (pd_int) (pda_nil))))⟩ (lamsOk_cons (n0 := "_law_refusals_right.2") rfl ⟨by exact LamX.lamS_by (sc := defScope st__law_refusals_right) (by decide +kernel), fun _ _ _ _ _ => rfl, fun A outer s H E f c' hr tk => pd_meth rfl (pd_var (pv 1)) e.ct_Place e.cl_Place s_7 e.M_Place_power (ok_Place_power e) (hr.mono (by decide)) e.b_Place_power tk (pda_cons (pd_var (pv 3)) (pda_nil))⟩ (lamsOk_cons (n0 := "_law_refusals_right.3") rfl ⟨by exact LamX.lamS_by (sc := defScope st__law_refusals_right) (by decide +kernel), fun _ _ _ _ _ => rfl, fun A outer s H E f c' hr tk => pd_meth rfl (pd_var (pv 1)) e.ct_Place e.cl_Place s_13 e.M_Place_lifted (ok_Place_lifted e) (hr.mono (by decide)) e.b_Place_lifted tk (pda_cons (pd_var (pv 4)) (pda_nil))⟩ (lamsOk_cons (n0 := "_law_refusals_right.4") rfl ⟨by exact LamX.lamS_by (sc := defScope st__law_refusals_right) (by decide +kernel), fun _ _ _ _ _ => rfl, fun A outer s H E f c' hr tk => pd_meth rfl (pd_var (pv 1)) e.ct_Place e.cl_Place s_12 e.M_Place_twist (ok_Place_twist e) (hr.mono (by decide)) e.b_Place_twist tk (pda_cons (pd_var (pv 3)) (pda_nil))⟩ (lamsOk_cons (n0 := "_law_refusals_right.5") rfl ⟨by exact LamX.lamS_by (sc := defScope st__law_refusals_right) (by decide +kernel), fun _ _ _ _ _ => rfl, fun A outer s H E f c' hr tk => pd_call (ok_product_of e) (hr.mono (by decide)) (by rfl) e.m_product_of e.F_product_of.kp e.b_product_of tk (pda_cons (pdo_frz (pdo_lst (pda_cons (pd_var (pv 1)) (pda_cons (pd_var (pv 4)) (pda_cons (pd_var (pv 3)) (pda_nil)))))) (pda_nil))⟩ (lamsOk_cons (n0 := "_law_refusals_right.6") rfl ⟨by exact LamX.lamS_by (sc := defScope st__law_refusals_right) (by decide +kernel), fun _ _ _ _ _ => rfl, fun A outer s H E f c' hr tk => pd_opX (opx_ownM rfl e.iso (op := .Mult) (by decide +kernel) (by decide +kernel) (by decide) e.ct_Place e.M_PlaceX_mulX.at_ e.M_PlaceX_mulX.fn e.sf_Place e.nr_Place e.tm_mul (ok_PlaceX_mulX e) (hr.mono (by decide)) e.b_PlaceX_mulX tk) (pd_var (pv 1)) (pd_var (pv 3))⟩ (lamsOk_nil)))))))) (fun w => (bl__law_refused (e.sw _ _)).mono (by decide)) (i := 0) rfl (.inl rfl) (hr.mono (by decide)) (by rfl) e.m__law_refused e.b__law_refused tk (pda_cons (pd_lam (T := T__law_refusals_right e0 s.heap.objs.size) (glam_of e.tabs rfl (fun _ _ _ => Iff.rfl)) e.tb__law_refusals_right (hcd.symm.trans e.cd__law_refusals_right) rfl rfl rfl (by exact LamX.lamS_by (sc := defScope st__law_refusals_right) (by decide +kernel)) rfl) (pda_nil))) (pda_cons (pd_tup (pda_cons (pd_str s_9) (pda_cons (pd_var (pv 3)) (pda_nil)))) (pda_nil)))))) (pdss_one (pds_ret (pd_bl))) (pdss_nil))
    (pdss_one (pds_ret (pd_callB (cd_all rfl) (by rfl) e.z_all (by decide +kernel) (pda_cons (pdo_frz (pdo_lc (own := [("_law_thing", 5)]) rfl sc__law_refusals_right.nd (pdi_seq rfl (pd_op (opd_addA e.kk) (pd_var (pv 2)) (pdo_frz (pdo_lst (pda_cons (pd_tup (pda_cons (pd_fld rfl s_2 e.f_x (pd_var (pv 1))) (pda_cons (pd_fld rfl s_1 e.f_y (pd_var (pv 1))) (pda_cons (pd_fld rfl s_0 e.f_area (pd_var (pv 1))) (pda_nil))))) (pda_nil)))))) (by exact blkOk_by (N := ["_law_pen_here", "_law_place_here", "_law_odds", "_law_odd", "_law_other", "_law_thing"]) (sc := defScope st__law_refusals_right) (own := [("_law_thing", 5)]) (by decide +kernel)) (by decide) (fun _ _ _ _ _ => pdg_name (i := 5) sc__law_refusals_right.nd rfl (.inl rfl)) (fun _ _ _ _ _ => ptds_nil) (fun _ _ _ _ _ => pd_andT e.kk (pd_cmpX (opx_ownNeA rfl e.iso (by decide) e.ct_Place e.M_PlaceX_eqX.at_ e.M_PlaceX_eqX.fn e.ne_Place e.mo_Place (ok_PlaceX_eqX e) (hr.mono (by decide)) e.b_PlaceX_eqX takes0) (pd_var (pv 1)) (pd_var (pv 5)) (nomark _)) (pd_one (pd_notT e.kk (pd_cmpX (opx_ownA rfl e.iso (by decide) e.ct_Place e.M_PlaceX_eqX.at_ e.M_PlaceX_eqX.fn (ok_PlaceX_eqX e) (hr.mono (by decide)) e.b_PlaceX_eqX takes0) (pd_var (pv 1)) (pd_var (pv 5)) (nomark _))))))) (pda_nil)))))))))))))
theorem ok__law_step (e : Ev P G mg base) : FnOk P w0 G.K mg base (L2.CX P w0) 5 e.a__law_step e.fd__law_step ["_law_letter"] (spG G 1 g__law_step) :=
  fn_okD e.F__law_step sc__law_step rfl rfl fun cdv A outer s H E hr tk ps => pdss_one (pds_ret (pd_dget (hu_of hr) (pdod_frz (pdod_disp (fs := [(eC (.str [101]), eMake "Place" 3 g_PlaceX_initX (aCons (eC (.int 1)) (aCons (eC (.int 0)) (aCons (eC (.int 0)) (aNil))))), (eC (.str [119]), eMake "Place" 3 g_PlaceX_initX (aCons (eNeg (eC (.int 1))) (aCons (eC (.int 0)) (aCons (eC (.int 0)) (aNil))))), (eC (.str [110]), eMake "Place" 3 g_PlaceX_initX (aCons (eC (.int 0)) (aCons (eC (.int 1)) (aCons (eC (.int 0)) (aNil))))), (eC (.str [115]), eMake "Place" 3 g_PlaceX_initX (aCons (eC (.int 0)) (aCons (eNeg (eC (.int 1))) (aCons (eC (.int 0)) (aNil)))))]) (pps_cons (pd_str s_17) (pd_make e.mk_Place e.ct_Place (ok_PlaceX_initX e) (hr.mono (by decide)) (by rfl) e.m_Place e.b_PlaceX_initX tk (pda_cons (pd_int) (pda_cons (pd_int) (pda_cons (pd_int) (pda_nil))))) (pps_cons (pd_str s_16) (pd_make e.mk_Place e.ct_Place (ok_PlaceX_initX e) (hr.mono (by decide)) (by rfl) e.m_Place e.b_PlaceX_initX tk (pda_cons (pd_neg (pd_int)) (pda_cons (pd_int) (pda_cons (pd_int) (pda_nil))))) (pps_cons (pd_str s_15) (pd_make e.mk_Place e.ct_Place (ok_PlaceX_initX e) (hr.mono (by decide)) (by rfl) e.m_Place e.b_PlaceX_initX tk (pda_cons (pd_int) (pda_cons (pd_int) (pda_cons (pd_int) (pda_nil))))) (pps_cons (pd_str s_14) (pd_make e.mk_Place e.ct_Place (ok_PlaceX_initX e) (hr.mono (by decide)) (by rfl) e.m_Place e.b_PlaceX_initX tk (pda_cons (pd_int) (pda_cons (pd_neg (pd_int)) (pda_cons (pd_int) (pda_nil))))) (pps_nil))))) (by rfl) (by rfl) (fun z => by cases z) (by decide))) (pd_var (pv 0)) (fun _ _ => rfl)))
theorem ok__law_swept (e : Ev P G mg base) : FnOk P w0 G.K mg base (L2.CX P w0) 1 e.a__law_swept e.fd__law_swept ["_law_letters"] (spG G 1 g__law_swept) :=
  fn_okD e.F__law_swept sc__law_swept rfl rfl fun cdv A outer s H E hr tk ps => pdss_cons (pds_asg (pd_tup (pda_cons (pd_int) (pda_cons (pd_int) (pda_cons (pd_int) (pda_nil))))) (pdg_tup rfl rfl (pdgs_cons (pdg_name (i := 1) sc__law_swept.nd rfl (.inl rfl)) (pdgs_cons (pdg_name (i := 2) sc__law_swept.nd rfl (.inl rfl)) (pdgs_cons (pdg_name (i := 3) sc__law_swept.nd rfl (.inl rfl)) (pdgs_nil))))))
    (pdss_cons (pds_for ps rfl (pdi_seq rfl (pd_var (pv 0))) (pdg_name (i := 4) sc__law_swept.nd rfl (.inl rfl)) (pdss_one (pds_if (ptd_cmp (opd_in e.kk (room65 hr)) (pd_var (pv 4)) (pd_str s_18) (by rfl)) (pdss_one (pds_set (i := 1) sc__law_swept.nd rfl (.inl rfl) (pd_op (opd_addA e.kk) (pd_var (pv 1)) (pd_ifExp (ptd_cmp (opd_eq e.kk hr.units) (pd_var (pv 4)) (pd_str s_17) (nomark _)) (pd_int) (pd_neg (pd_int)))))) (pdss_one (pds_par (i := 2) (j := 3) rfl sc__law_swept.nd rfl rfl (by decide) rfl rfl (pda_cons (pd_op (opd_addA e.kk) (pd_var (pv 2)) (pd_ifExp (ptd_cmp (opd_eq e.kk hr.units) (pd_var (pv 4)) (pd_str s_15) (nomark _)) (pd_int) (pd_neg (pd_int)))) (pda_cons (pd_op (opd_addA e.kk) (pd_var (pv 3)) (pd_ifExp (ptd_cmp (opd_eq e.kk hr.units) (pd_var (pv 4)) (pd_str s_15) (nomark _)) (pd_var (pv 1)) (pd_neg (pd_var (pv 1))))) (pda_nil))) (by rfl))))))
    (pdss_one (pds_ret (pd_tup (pda_cons (pd_var (pv 1)) (pda_cons (pd_var (pv 2)) (pda_cons (pd_var (pv 3)) (pda_nil))))))))
theorem ok_law (e : Ev P G mg base) : FnOk P w0 G.K mg base (L2.CX P w0) 13 e.a_law e.fd_law ["_law_script"] (spG G 1 g_law) :=
  fn_okD e.F_law sc_law rfl rfl fun cdv A outer s H E hr tk ps => pdss_cons (pds_set (i := 1) sc_law.nd rfl (.inr rfl) (pd_call (ok__law_pen e) (hr.mono (by decide)) (by rfl) e.m__law_pen e.F__law_pen.kp e.b__law_pen tk (pda_cons (pd_var (pv 0)) (pda_nil))))
    (pdss_cons (pds_for ps rfl (pdi_range1 (by rfl) e.z_range (pda_cons (pd_op (opd_addA e.kk) (pd_int) (pd_callB (cd_min2 rfl) (by rfl) e.z_min (by decide +kernel) (pda_cons (pd_int) (pda_cons (pd_callB (cd_len rfl) (by rfl) e.z_len (by decide +kernel) (pda_cons (pd_var (pv 0)) (pda_nil))) (pda_nil))))) (pda_nil))) (pdg_name (i := 2) sc_law.nd rfl (.inl rfl)) (pdss_cons (pds_setLc (i := 3) (own := [("_law_k", 9)]) rfl sc_law.nd rfl rfl (sw_true rfl rfl rfl (by decide +kernel)) (pdi_range1 (by rfl) e.z_range (pda_cons (pd_call (ok__law_draw e) (hr.mono (by decide)) (by rfl) e.m__law_draw e.F__law_draw.kp e.b__law_draw tk (pda_cons (pd_var (pv 1)) (pda_cons (pd_int) (pda_nil)))) (pda_nil))) (by exact blkOk_by (N := ["_law_script", "_law_pen_here", "_law_lap", "_law_letters", "_law_led", "_law_size", "_law_one", "_law_two", "_law_three", "_law_k", "_law_letter"]) (sc := defScope st_law) (own := [("_law_k", 9)]) (by decide +kernel)) (by decide) (fun _ _ _ _ _ => pdg_name (i := 9) sc_law.nd rfl (.inl rfl)) (fun _ _ _ _ _ => ptds_nil) (fun _ _ _ _ _ => pd_call (ok__law_pick e) (hr.mono (by decide)) (by rfl) e.m__law_pick e.F__law_pick.kp e.b__law_pick takes0 (pda_cons (pd_var (pv 1)) (pda_cons (pd_str s_19) (pda_nil)))))
    (pdss_cons (pds_set (i := 4) sc_law.nd rfl (.inl rfl) (pd_call (ok_product_of e) (hr.mono (by decide)) (by rfl) e.m_product_of e.F_product_of.kp e.b_product_of tk (pda_cons (pdo_frz (pdo_lc (own := [("_law_letter", 10)]) rfl sc_law.nd (pdi_seq rfl (pd_var (pv 3))) (by exact blkOk_by (N := ["_law_script", "_law_pen_here", "_law_lap", "_law_letters", "_law_led", "_law_size", "_law_one", "_law_two", "_law_three", "_law_k", "_law_letter"]) (sc := defScope st_law) (own := [("_law_letter", 10)]) (by decide +kernel)) (by decide) (fun _ _ _ _ _ => pdg_name (i := 10) sc_law.nd rfl (.inl rfl)) (fun _ _ _ _ _ => ptds_nil) (fun _ _ _ _ _ => pd_call (ok__law_step e) (hr.mono (by decide)) (by rfl) e.m__law_step e.F__law_step.kp e.b__law_step takes0 (pda_cons (pd_var (pv 10)) (pda_nil))))) (pda_nil))))
    (pdss_cons (pds_if (ptd_cmp (opd_ne e.kk hr.units) (pd_tup (pda_cons (pd_fld rfl s_2 e.f_x (pd_var (pv 4))) (pda_cons (pd_fld rfl s_1 e.f_y (pd_var (pv 4))) (pda_cons (pd_fld rfl s_0 e.f_area (pd_var (pv 4))) (pda_nil))))) (pd_call (ok__law_swept e) (hr.mono (by decide)) (by rfl) e.m__law_swept e.F__law_swept.kp e.b__law_swept tk (pda_cons (pd_var (pv 3)) (pda_nil))) (nomark _)) (pdss_one (pds_ret (pd_bl))) (pdss_nil))
    (pdss_cons (pds_set (i := 5) sc_law.nd rfl (.inl rfl) (pd_call (ok__law_pick e) (hr.mono (by decide)) (by rfl) e.m__law_pick e.F__law_pick.kp e.b__law_pick tk (pda_cons (pd_var (pv 1)) (pda_cons (pdo_frz (pdo_lst (pda_cons (pd_int) (pda_cons (pd_op (opd_pow) (pd_int) (pd_int)) (pda_nil))))) (pda_nil)))))
    (pdss_cons (pds_par3 (i := 6) (j := 7) (l := 8) rfl sc_law.nd rfl rfl rfl (by decide) (by decide) (by decide) rfl rfl rfl (pda_cons (pd_call (ok__law_place e) (hr.mono (by decide)) (by rfl) e.m__law_place e.F__law_place.kp e.b__law_place tk (pda_cons (pd_var (pv 1)) (pda_cons (pd_var (pv 5)) (pda_nil)))) (pda_cons (pd_call (ok__law_place e) (hr.mono (by decide)) (by rfl) e.m__law_place e.F__law_place.kp e.b__law_place tk (pda_cons (pd_var (pv 1)) (pda_cons (pd_var (pv 5)) (pda_nil)))) (pda_cons (pd_call (ok__law_place e) (hr.mono (by decide)) (by rfl) e.m__law_place e.F__law_place.kp e.b__law_place tk (pda_cons (pd_var (pv 1)) (pda_cons (pd_var (pv 5)) (pda_nil)))) (pda_nil)))) (by rfl))
    (pdss_cons (pds_if ((pwd_or (ptd_cmpX (opx_ownNe e.ct_Place e.M_PlaceX_eqX.at_ e.M_PlaceX_eqX.fn e.ne_Place e.mo_Place (ok_PlaceX_eqX e) (hr.mono (by decide)) e.b_PlaceX_eqX tk) (pd_opX (opx_own (op := .Mult) (by decide +kernel) e.ct_Place e.M_PlaceX_mulX.at_ e.M_PlaceX_mulX.fn e.sf_Place (ok_PlaceX_mulX e) (hr.mono (by decide)) e.b_PlaceX_mulX tk) (pd_opX (opx_own (op := .Mult) (by decide +kernel) e.ct_Place e.M_PlaceX_mulX.at_ e.M_PlaceX_mulX.fn e.sf_Place (ok_PlaceX_mulX e) (hr.mono (by decide)) e.b_PlaceX_mulX tk) (pd_var (pv 6)) (pd_var (pv 7))) (pd_var (pv 8))) (pd_opX (opx_own (op := .Mult) (by decide +kernel) e.ct_Place e.M_PlaceX_mulX.at_ e.M_PlaceX_mulX.fn e.sf_Place (ok_PlaceX_mulX e) (hr.mono (by decide)) e.b_PlaceX_mulX tk) (pd_var (pv 6)) (pd_opX (opx_own (op := .Mult) (by decide +kernel) e.ct_Place e.M_PlaceX_mulX.at_ e.M_PlaceX_mulX.fn e.sf_Place (ok_PlaceX_mulX e) (hr.mono (by decide)) e.b_PlaceX_mulX tk) (pd_var (pv 7)) (pd_var (pv 8)))) (nomark _)) (pwd_or (ptd_cmpX (opx_ownNe e.ct_Place e.M_PlaceX_eqX.at_ e.M_PlaceX_eqX.fn e.ne_Place e.mo_Place (ok_PlaceX_eqX e) (hr.mono (by decide)) e.b_PlaceX_eqX tk) (pd_opX (opx_own (op := .Mult) (by decide +kernel) e.ct_Place e.M_PlaceX_mulX.at_ e.M_PlaceX_mulX.fn e.sf_Place (ok_PlaceX_mulX e) (hr.mono (by decide)) e.b_PlaceX_mulX tk) (pd_var (pv 6)) (pd_inv e.ct_Place e.M_PlaceX_invertX.at_ e.M_PlaceX_invertX.fn (ok_PlaceX_invertX e) (hr.mono (by decide)) e.b_PlaceX_invertX tk (pd_var (pv 6)))) (pd_call0 (ok_home_place e) (hr.mono (by decide)) (by rfl) e.m_home_place e.F_home_place.kp e.b_home_place tk) (nomark _)) (pwd_or1 (ptd_cmpX (opx_ownNe e.ct_Place e.M_PlaceX_eqX.at_ e.M_PlaceX_eqX.fn e.ne_Place e.mo_Place (ok_PlaceX_eqX e) (hr.mono (by decide)) e.b_PlaceX_eqX tk) (pd_opX (opx_own (op := .Mult) (by decide +kernel) e.ct_Place e.M_PlaceX_mulX.at_ e.M_PlaceX_mulX.fn e.sf_Place (ok_PlaceX_mulX e) (hr.mono (by decide)) e.b_PlaceX_mulX tk) (pd_inv e.ct_Place e.M_PlaceX_invertX.at_ e.M_PlaceX_invertX.fn (ok_PlaceX_invertX e) (hr.mono (by decide)) e.b_PlaceX_invertX tk (pd_var (pv 6))) (pd_var (pv 6))) (pd_call0 (ok_home_place e) (hr.mono (by decide)) (by rfl) e.m_home_place e.F_home_place.kp e.b_home_place tk) (nomark _))))).pt) (pdss_one (pds_ret (pd_bl))) (pdss_nil))
    (pdss_cons (pds_if ((pwd_or (ptd_cmpX (opx_ownNe e.ct_Place e.M_PlaceX_eqX.at_ e.M_PlaceX_eqX.fn e.ne_Place e.mo_Place (ok_PlaceX_eqX e) (hr.mono (by decide)) e.b_PlaceX_eqX tk) (pd_inv e.ct_Place e.M_PlaceX_invertX.at_ e.M_PlaceX_invertX.fn (ok_PlaceX_invertX e) (hr.mono (by decide)) e.b_PlaceX_invertX tk (pd_opX (opx_own (op := .Mult) (by decide +kernel) e.ct_Place e.M_PlaceX_mulX.at_ e.M_PlaceX_mulX.fn e.sf_Place (ok_PlaceX_mulX e) (hr.mono (by decide)) e.b_PlaceX_mulX tk) (pd_var (pv 6)) (pd_var (pv 7)))) (pd_opX (opx_own (op := .Mult) (by decide +kernel) e.ct_Place e.M_PlaceX_mulX.at_ e.M_PlaceX_mulX.fn e.sf_Place (ok_PlaceX_mulX e) (hr.mono (by decide)) e.b_PlaceX_mulX tk) (pd_inv e.ct_Place e.M_PlaceX_invertX.at_ e.M_PlaceX_invertX.fn (ok_PlaceX_invertX e) (hr.mono (by decide)) e.b_PlaceX_invertX tk (pd_var (pv 7))) (pd_inv e.ct_Place e.M_PlaceX_invertX.at_ e.M_PlaceX_invertX.fn (ok_PlaceX_invertX e) (hr.mono (by decide)) e.b_PlaceX_invertX tk (pd_var (pv 6)))) (nomark _)) (pwd_or (ptd_not (ptd_truth e.kk (pd_meth0 rfl (pd_call0 (ok_home_place e) (hr.mono (by decide)) (by rfl) e.m_home_place e.F_home_place.kp e.b_home_place tk) e.ct_Place e.cl_Place s_20 e.M_Place_is_home (ok_Place_is_home e) (hr.mono (by decide)) e.b_Place_is_home tk))) (pwd_or1 (ptd_cmp (opd_ne e.kk hr.units) (pd_meth0 rfl (pd_var (pv 6)) e.ct_Place e.cl_Place s_20 e.M_Place_is_home (ok_Place_is_home e) (hr.mono (by decide)) e.b_Place_is_home tk) (pd_cmpX (opx_ownEq e.ct_Place e.M_PlaceX_eqX.at_ e.M_PlaceX_eqX.fn (ok_PlaceX_eqX e) (hr.mono (by decide)) e.b_PlaceX_eqX tk) (pd_var (pv 6)) (pd_call0 (ok_home_place e) (hr.mono (by decide)) (by rfl) e.m_home_place e.F_home_place.kp e.b_home_place tk) (nomark _)) (nomark _))))).pt) (pdss_one (pds_ret (pd_bl))) (pdss_nil))
    (pdss_cons (pds_if ((pwd_or (ptd_cmpX (opx_ownNe e.ct_Place e.M_PlaceX_eqX.at_ e.M_PlaceX_eqX.fn e.ne_Place e.mo_Place (ok_PlaceX_eqX e) (hr.mono (by decide)) e.b_PlaceX_eqX tk) (pd_opX (opx_own (op := .Mult) (by decide +kernel) e.ct_Place e.M_PlaceX_mulX.at_ e.M_PlaceX_mulX.fn e.sf_Place (ok_PlaceX_mulX e) (hr.mono (by decide)) e.b_PlaceX_mulX tk) (pd_var (pv 6)) (pd_var (pv 7))) (pd_meth rfl (pd_opX (opx_own (op := .Mult) (by decide +kernel) e.ct_Place e.M_PlaceX_mulX.at_ e.M_PlaceX_mulX.fn e.sf_Place (ok_PlaceX_mulX e) (hr.mono (by decide)) e.b_PlaceX_mulX tk) (pd_var (pv 7)) (pd_var (pv 6))) e.ct_Place e.cl_Place s_13 e.M_Place_lifted (ok_Place_lifted e) (hr.mono (by decide)) e.b_Place_lifted tk (pda_cons (pd_meth rfl (pd_var (pv 6)) e.ct_Place e.cl_Place s_12 e.M_Place_twist (ok_Place_twist e) (hr.mono (by decide)) e.b_Place_twist tk (pda_cons (pd_var (pv 7)) (pda_nil))) (pda_nil))) (nomark _)) (pwd_or1 (ptd_cmpX (opx_ownNe e.ct_Place e.M_PlaceX_eqX.at_ e.M_PlaceX_eqX.fn e.ne_Place e.mo_Place (ok_PlaceX_eqX e) (hr.mono (by decide)) e.b_PlaceX_eqX tk) (pd_meth rfl (pd_var (pv 6)) e.ct_Place e.cl_Place s_13 e.M_Place_lifted (ok_Place_lifted e) (hr.mono (by decide)) e.b_Place_lifted tk (pda_cons (pd_int) (pda_nil))) (pd_opX (opx_own (op := .Mult) (by decide +kernel) e.ct_Place e.M_PlaceX_mulX.at_ e.M_PlaceX_mulX.fn e.sf_Place (ok_PlaceX_mulX e) (hr.mono (by decide)) e.b_PlaceX_mulX tk) (pd_var (pv 6)) (pd_make e.mk_Place e.ct_Place (ok_PlaceX_initX e) (hr.mono (by decide)) (by rfl) e.m_Place e.b_PlaceX_initX tk (pda_cons (pd_int) (pda_cons (pd_int) (pda_cons (pd_int) (pda_nil)))))) (nomark _)))).pt) (pdss_one (pds_ret (pd_bl))) (pdss_nil))
    (pdss_cons (pds_if ((pwd_or (ptd_not (ptd_truth e.kk (pd_call (ok__law_powers_right e) (hr.mono (by decide)) (by rfl) e.m__law_powers_right e.F__law_powers_right.kp e.b__law_powers_right tk (pda_cons (pd_var (pv 1)) (pda_cons (pd_var (pv 6)) (pda_nil)))))) (pwd_or1 (ptd_not (ptd_truth e.kk (pd_call (ok__law_refusals_right e) (hr.mono (by decide)) (by rfl) e.m__law_refusals_right e.F__law_refusals_right.kp e.b__law_refusals_right tk (pda_cons (pd_var (pv 1)) (pda_cons (pd_var (pv 7)) (pda_nil)))))))).pt) (pdss_one (pds_ret (pd_bl))) (pdss_nil))
    (pdss_one (pds_if ((pwd_or (ptd_cmpX (opx_ownNe e.ct_Place e.M_PlaceX_eqX.at_ e.M_PlaceX_eqX.fn e.ne_Place e.mo_Place (ok_PlaceX_eqX e) (hr.mono (by decide)) e.b_PlaceX_eqX tk) (pd_make e.mk_Place e.ct_Place (ok_PlaceX_initX e) (hr.mono (by decide)) (by rfl) e.m_Place e.b_PlaceX_initX tk (pda_cons (pd_fld rfl s_2 e.f_x (pd_var (pv 6))) (pda_cons (pd_fld rfl s_1 e.f_y (pd_var (pv 6))) (pda_cons (pd_fld rfl s_0 e.f_area (pd_var (pv 6))) (pda_nil))))) (pd_var (pv 6)) (nomark _)) (pwd_or1 (ptd_cmpX (opx_ownNe e.ct_Place e.M_PlaceX_eqX.at_ e.M_PlaceX_eqX.fn e.ne_Place e.mo_Place (ok_PlaceX_eqX e) (hr.mono (by decide)) e.b_PlaceX_eqX tk) (pd_makeK (ps := ["self", "x", "y", "area"]) e.mk_Place e.ct_Place (ok_PlaceX_initX e) (hr.mono (by decide)) (by rfl) e.m_Place (kwb_of e.F_PlaceX_initX fun _ _ _ _ _ _ _ ws hw => match ws, hw with | [_, _, _], _ => rfl) tk (pkd_cons (pd_int) (pkd_cons (pd_int) (pkd_cons (pd_int) (pkd_nil))))) (pd_make e.mk_Place e.ct_Place (ok_PlaceX_initX e) (hr.mono (by decide)) (by rfl) e.m_Place e.b_PlaceX_initX tk (pda_cons (pd_int) (pda_cons (pd_int) (pda_cons (pd_int) (pda_nil))))) (nomark _)))).pt) (pdss_one (pds_ret (pd_bl))) (pdss_nil)))))))))))))
    (pdss_one (pds_ret (pd_bl))))
end
theorem all_mk {l : PySem.W.OpenLaw} {w : World} {q : Program} {K : PySem.W.Frag} {h : Heap} {mg : Str → Option Value} {fa : Addr} {C_Place : Addr} {C_BadNumber : Addr} {fI_BadNumber NS_BadNumber cda_BadNumber cc_BadNumber : Addr} {xnm_BadNumber xq_BadNumber xfile_BadNumber : Str} {xbs_BadNumber xbm_BadNumber xsub_BadNumber : List Value} {xsn_BadNumber : List Str} {xab_BadNumber : Bool} {xcol_BadNumber : Option Bool} {xdd_BadNumber : Option Addr} {xk0_BadNumber xk1_BadNumber xk2_BadNumber xk3_BadNumber xk5_BadNumber : Option Value} {xoc_BadNumber xkV_BadNumber xdoc_BadNumber xpm_BadNumber xct_BadNumber xccl_BadNumber xcl_BadNumber : Value} {xod_BadNumber xan_BadNumber xcdd_BadNumber xcld_BadNumber : Option Addr} {xosl_BadNumber xccs_BadNumber xcsl_BadNumber : Array (Option Value)} {xvs_BadNumber : Array Value} {xtf_BadNumber : Tok} {C_BadPlace : Addr} {fI_BadPlace NS_BadPlace cda_BadPlace cc_BadPlace : Addr} {xnm_BadPlace xq_BadPlace xfile_BadPlace : Str} {xbs_BadPlace xbm_BadPlace xsub_BadPlace : List Value} {xsn_BadPlace : List Str} {xab_BadPlace : Bool} {xcol_BadPlace : Option Bool} {xdd_BadPlace : Option Addr} {xk0_BadPlace xk1_BadPlace xk2_BadPlace xk3_BadPlace xk5_BadPlace : Option Value} {xoc_BadPlace xkV_BadPlace xdoc_BadPlace xpm_BadPlace xct_BadPlace xccl_BadPlace xcl_BadPlace : Value} {xod_BadPlace xan_BadPlace xcdd_BadPlace xcld_BadPlace : Option Addr} {xosl_BadPlace xccs_BadPlace xcsl_BadPlace : Array (Option Value)} {xvs_BadPlace : Array Value} {xtf_BadPlace : Tok} {C_WalkError : Addr} {a_PlaceX_eqX : Addr} {od_PlaceX_eqX an_PlaceX_eqX : Option Addr} {sl_PlaceX_eqX : Array (Option Value)} {oc_PlaceX_eqX kV_PlaceX_eqX dc_PlaceX_eqX pm_PlaceX_eqX cd_PlaceX_eqX ct_PlaceX_eqX : Value} {a_is_integer : Addr} {od_is_integer an_is_integer : Option Addr} {sl_is_integer : Array (Option Value)} {oc_is_integer kV_is_integer dc_is_integer pm_is_integer cd_is_integer ct_is_integer : Value} {a_PlaceX_initX : Addr} {od_PlaceX_initX an_PlaceX_initX : Option Addr} {sl_PlaceX_initX : Array (Option Value)} {oc_PlaceX_initX kV_PlaceX_initX dc_PlaceX_initX pm_PlaceX_initX cd_PlaceX_initX ct_PlaceX_initX : Value} {a_PlaceX_invertX : Addr} {od_PlaceX_invertX an_PlaceX_invertX : Option Addr} {sl_PlaceX_invertX : Array (Option Value)} {oc_PlaceX_invertX kV_PlaceX_invertX dc_PlaceX_invertX pm_PlaceX_invertX cd_PlaceX_invertX ct_PlaceX_invertX : Value} {a_PlaceX_mulX : Addr} {od_PlaceX_mulX an_PlaceX_mulX : Option Addr} {sl_PlaceX_mulX : Array (Option Value)} {oc_PlaceX_mulX kV_PlaceX_mulX dc_PlaceX_mulX pm_PlaceX_mulX cd_PlaceX_mulX ct_PlaceX_mulX : Value} {a_Place_is_home : Addr} {od_Place_is_home an_Place_is_home : Option Addr} {sl_Place_is_home : Array (Option Value)} {oc_Place_is_home kV_Place_is_home dc_Place_is_home pm_Place_is_home cd_Place_is_home ct_Place_is_home : Value} {a_Place_lifted : Addr} {od_Place_lifted an_Place_lifted : Option Addr} {sl_Place_lifted : Array (Option Value)} {oc_Place_lifted kV_Place_lifted dc_Place_lifted pm_Place_lifted cd_Place_lifted ct_Place_lifted : Value} {a_need_place : Addr} {od_need_place an_need_place : Option Addr} {sl_need_place : Array (Option Value)} {oc_need_place kV_need_place dc_need_place pm_need_place cd_need_place ct_need_place : Value} {a_Place_twist : Addr} {od_Place_twist an_Place_twist : Option Addr} {sl_Place_twist : Array (Option Value)} {oc_Place_twist kV_Place_twist dc_Place_twist pm_Place_twist cd_Place_twist ct_Place_twist : Value} {a__law_draw : Addr} {od__law_draw an__law_draw : Option Addr} {sl__law_draw : Array (Option Value)} {oc__law_draw kV__law_draw dc__law_draw pm__law_draw cd__law_draw ct__law_draw : Value} {a__law_pen : Addr} {od__law_pen an__law_pen : Option Addr} {sl__law_pen : Array (Option Value)} {oc__law_pen kV__law_pen dc__law_pen pm__law_pen cd__law_pen ct__law_pen : Value} {a__law_pick : Addr} {od__law_pick an__law_pick : Option Addr} {sl__law_pick : Array (Option Value)} {oc__law_pick kV__law_pick dc__law_pick pm__law_pick cd__law_pick ct__law_pick : Value} {a__law_big : Addr} {od__law_big an__law_big : Option Addr} {sl__law_big : Array (Option Value)} {oc__law_big kV__law_big dc__law_big pm__law_big cd__law_big ct__law_big : Value} {a__law_whole : Addr} {od__law_whole an__law_whole : Option Addr} {sl__law_whole : Array (Option Value)} {oc__law_whole kV__law_whole dc__law_whole pm__law_whole cd__law_whole ct__law_whole : Value} {a__law_place : Addr} {od__law_place an__law_place : Option Addr} {sl__law_place : Array (Option Value)} {oc__law_place kV__law_place dc__law_place pm__law_place cd__law_place ct__law_place : Value} {a_pairs_below : Addr} {od_pairs_below an_pairs_below : Option Addr} {sl_pairs_below : Array (Option Value)} {oc_pairs_below kV_pairs_below dc_pairs_below pm_pairs_below cd_pairs_below ct_pairs_below : Value} {a_Place_power : Addr} {od_Place_power an_Place_power : Option Addr} {sl_Place_power : Array (Option Value)} {oc_Place_power kV_Place_power dc_Place_power pm_Place_power cd_Place_power ct_Place_power : Value} {a_home_place : Addr} {od_home_place an_home_place : Option Addr} {sl_home_place : Array (Option Value)} {oc_home_place kV_home_place dc_home_place pm_home_place cd_home_place ct_home_place : Value} {a_need_places : Addr} {od_need_places an_need_places : Option Addr} {sl_need_places : Array (Option Value)} {oc_need_places kV_need_places dc_need_places pm_need_places cd_need_places ct_need_places : Value} {a_product_of : Addr} {od_product_of an_product_of : Option Addr} {sl_product_of : Array (Option Value)} {oc_product_of kV_product_of dc_product_of pm_product_of cd_product_of ct_product_of : Value} {a__law_powers_right : Addr} {od__law_powers_right an__law_powers_right : Option Addr} {sl__law_powers_right : Array (Option Value)} {oc__law_powers_right kV__law_powers_right dc__law_powers_right pm__law_powers_right cd__law_powers_right ct__law_powers_right : Value} {a__law_refused : Addr} {od__law_refused an__law_refused : Option Addr} {sl__law_refused : Array (Option Value)} {oc__law_refused kV__law_refused dc__law_refused pm__law_refused cd__law_refused ct__law_refused : Value} {a__law_same : Addr} {od__law_same an__law_same : Option Addr} {sl__law_same : Array (Option Value)} {oc__law_same kV__law_same dc__law_same pm__law_same cd__law_same ct__law_same : Value} {a__law_refusals_right : Addr} {od__law_refusals_right an__law_refusals_right : Option Addr} {sl__law_refusals_right : Array (Option Value)} {oc__law_refusals_right kV__law_refusals_right dc__law_refusals_right pm__law_refusals_right  ct__law_refusals_right : Value} {tc__law_refusals_right P__law_refusals_right : Addr} {tcl__law_refusals_right : Value} {tdd__law_refusals_right : Option Addr} {tvs__law_refusals_right : Array Value} {tsl__law_refusals_right : Array (Option Value)} {a__law_step : Addr} {od__law_step an__law_step : Option Addr} {sl__law_step : Array (Option Value)} {oc__law_step kV__law_step dc__law_step pm__law_step cd__law_step ct__law_step : Value} {a__law_swept : Addr} {od__law_swept an__law_swept : Option Addr} {sl__law_swept : Array (Option Value)} {oc__law_swept kV__law_swept dc__law_swept pm__law_swept cd__law_swept ct__law_swept : Value} {a_law : Addr} {od_law an_law : Option Addr} {sl_law : Array (Option Value)} {oc_law kV_law dc_law pm_law cd_law ct_law : Value} (X : K.In h) (G0 : h.Ns mainGlobals mg) (hfa : mg "law" = some (.ref fa)) (TT : TabsT q K h)
    (aC_Place : PySem.W.nsIn K mainGlobals "Place" = some (some (.ref C_Place)))
    (cB_Place : clsB K C_Place ["x", "y", "area"] = true)
    (aC_BadNumber : PySem.W.nsIn K mainGlobals "BadNumber" = some (some (.ref C_BadNumber)))
    (xl_BadNumber : K.lookup C_BadNumber = some (excClassObj xnm_BadNumber xq_BadNumber C_BadNumber NS_BadNumber xbs_BadNumber xbm_BadNumber true xsn_BadNumber xsub_BadNumber xab_BadNumber xcol_BadNumber xdd_BadNumber xk0_BadNumber xk1_BadNumber xk2_BadNumber xk3_BadNumber xk5_BadNumber "ValueError.__new__"))
    (xr_BadNumber : PySem.HandSPX.refsVE xbm_BadNumber = true)
    (xi_BadNumber : PySem.W.findIn K (.ref C_BadNumber) "__init__" = some (some (.ref fI_BadNumber)))
    (xf_BadNumber : K.lookup fI_BadNumber = some ⟨xoc_BadNumber, xod_BadNumber, .func (PySem.W.fnX "__init__" "BadNumber.__init__" (defArgs xst_BadNumber) (defBody xst_BadNumber) (defScope xst_BadNumber) [("__class__", cc_BadNumber)] .none xkV_BadNumber xdoc_BadNumber xpm_BadNumber xan_BadNumber (.ref cda_BadNumber) xct_BadNumber), xosl_BadNumber⟩)
    (xc_BadNumber : PySem.W.codeIn K (.ref cda_BadNumber) "BadNumber.__init__" = true)
    (xd_BadNumber : K.lookup cda_BadNumber = some ⟨xccl_BadNumber, xcdd_BadNumber, .fields xvs_BadNumber, xccs_BadNumber⟩)
    (xv_BadNumber : xvs_BadNumber[2]? = some (.str xfile_BadNumber xtf_BadNumber))
    (xe_BadNumber : ((l.prog.main.file : Str) == xfile_BadNumber) = true)
    (xk_BadNumber : K.lookup cc_BadNumber = some ⟨xcl_BadNumber, xcld_BadNumber, .cell (some (.ref C_BadNumber)), xcsl_BadNumber⟩)
    (xB_BadNumber : xcB K C_BadNumber fI_BadNumber "value" = true)
    (aC_BadPlace : PySem.W.nsIn K mainGlobals "BadPlace" = some (some (.ref C_BadPlace)))
    (xl_BadPlace : K.lookup C_BadPlace = some (excClassObj xnm_BadPlace xq_BadPlace C_BadPlace NS_BadPlace xbs_BadPlace xbm_BadPlace true xsn_BadPlace xsub_BadPlace xab_BadPlace xcol_BadPlace xdd_BadPlace xk0_BadPlace xk1_BadPlace xk2_BadPlace xk3_BadPlace xk5_BadPlace "ValueError.__new__"))
    (xr_BadPlace : PySem.HandSPX.refsVE xbm_BadPlace = true)
    (xi_BadPlace : PySem.W.findIn K (.ref C_BadPlace) "__init__" = some (some (.ref fI_BadPlace)))
    (xf_BadPlace : K.lookup fI_BadPlace = some ⟨xoc_BadPlace, xod_BadPlace, .func (PySem.W.fnX "__init__" "BadPlace.__init__" (defArgs xst_BadPlace) (defBody xst_BadPlace) (defScope xst_BadPlace) [("__class__", cc_BadPlace)] .none xkV_BadPlace xdoc_BadPlace xpm_BadPlace xan_BadPlace (.ref cda_BadPlace) xct_BadPlace), xosl_BadPlace⟩)
    (xc_BadPlace : PySem.W.codeIn K (.ref cda_BadPlace) "BadPlace.__init__" = true)
    (xd_BadPlace : K.lookup cda_BadPlace = some ⟨xccl_BadPlace, xcdd_BadPlace, .fields xvs_BadPlace, xccs_BadPlace⟩)
    (xv_BadPlace : xvs_BadPlace[2]? = some (.str xfile_BadPlace xtf_BadPlace))
    (xe_BadPlace : ((l.prog.main.file : Str) == xfile_BadPlace) = true)
    (xk_BadPlace : K.lookup cc_BadPlace = some ⟨xcl_BadPlace, xcld_BadPlace, .cell (some (.ref C_BadPlace)), xcsl_BadPlace⟩)
    (xB_BadPlace : xcB K C_BadPlace fI_BadPlace "value" = true)
    (aC_WalkError : PySem.W.nsIn K mainGlobals "WalkError" = some (some (.ref C_WalkError)))
    (nr_Place : PySem.W.findIn K (.ref C_Place) "__rmul__" = some none)
    (tm_mul : opTB K "__mul__" "__rmul__" ["NoneType", "bool", "int", "str", "list", "tuple", "dict"] = true)
    (xtop : (l.prog.main.scope.names.lookup ("super" : Str)).isSome = false)
    (xsup : PySem.W.nsIn K mainGlobals "super" = some none)
    (xm_BadNumber_BadNumber : PySem.W.exmOne K (.ref C_BadNumber) (.ref C_BadNumber) = some true)
    (xm_BadNumber_BadPlace : PySem.W.exmOne K (.ref C_BadNumber) (.ref C_BadPlace) = some false)
    (xm_BadNumber_WalkError : PySem.W.exmOne K (.ref C_BadNumber) (.ref C_WalkError) = some true)
    (xm_BadPlace_BadNumber : PySem.W.exmOne K (.ref C_BadPlace) (.ref C_BadNumber) = some false)
    (xm_BadPlace_BadPlace : PySem.W.exmOne K (.ref C_BadPlace) (.ref C_BadPlace) = some true)
    (xm_BadPlace_WalkError : PySem.W.exmOne K (.ref C_BadPlace) (.ref C_WalkError) = some true)
    (xm_WalkError_BadNumber : PySem.W.exmOne K (.ref C_WalkError) (.ref C_BadNumber) = some false)
    (xm_WalkError_BadPlace : PySem.W.exmOne K (.ref C_WalkError) (.ref C_BadPlace) = some false)
    (xm_WalkError_WalkError : PySem.W.exmOne K (.ref C_WalkError) (.ref C_WalkError) = some true)
    (a1_PlaceX_eqX : PySem.W.findIn K (.ref C_Place) "__eq__" = some (some (.ref a_PlaceX_eqX)))
    (i1_PlaceX_eqX : PySem.W.isFn K (.ref a_PlaceX_eqX) = true)
    (l1_PlaceX_eqX : K.lookup a_PlaceX_eqX = some ⟨oc_PlaceX_eqX, od_PlaceX_eqX, .func (PySem.W.fnOf "__eq__" "Place.__eq__" (defArgs st_PlaceX_eqX) (defBody st_PlaceX_eqX) (defScope st_PlaceX_eqX) .none kV_PlaceX_eqX dc_PlaceX_eqX pm_PlaceX_eqX an_PlaceX_eqX cd_PlaceX_eqX ct_PlaceX_eqX), sl_PlaceX_eqX⟩)
    (c1_PlaceX_eqX : PySem.W.codeIn K cd_PlaceX_eqX "Place.__eq__" = true)
    (k1_PlaceX_eqX : PySem.W.keepIn K (.ref a_PlaceX_eqX) = true)
    (a1_is_integer : PySem.W.nsIn K mainGlobals "is_integer" = some (some (.ref a_is_integer)))
    (l1_is_integer : K.lookup a_is_integer = some ⟨oc_is_integer, od_is_integer, .func (PySem.W.fnOf "is_integer" "is_integer" (defArgs st_is_integer) (defBody st_is_integer) (defScope st_is_integer) .none kV_is_integer dc_is_integer pm_is_integer an_is_integer cd_is_integer ct_is_integer), sl_is_integer⟩)
    (c1_is_integer : PySem.W.codeIn K cd_is_integer "is_integer" = true)
    (k1_is_integer : PySem.W.keepIn K (.ref a_is_integer) = true)
    (a1_PlaceX_initX : PySem.W.findIn K (.ref C_Place) "__init__" = some (some (.ref a_PlaceX_initX)))
    (i1_PlaceX_initX : PySem.W.isFn K (.ref a_PlaceX_initX) = true)
    (l1_PlaceX_initX : K.lookup a_PlaceX_initX = some ⟨oc_PlaceX_initX, od_PlaceX_initX, .func (PySem.W.fnOf "__init__" "Place.__init__" (defArgs st_PlaceX_initX) (defBody st_PlaceX_initX) (defScope st_PlaceX_initX) .none kV_PlaceX_initX dc_PlaceX_initX pm_PlaceX_initX an_PlaceX_initX cd_PlaceX_initX ct_PlaceX_initX), sl_PlaceX_initX⟩)
    (c1_PlaceX_initX : PySem.W.codeIn K cd_PlaceX_initX "Place.__init__" = true)
    (k1_PlaceX_initX : PySem.W.keepIn K (.ref a_PlaceX_initX) = true)
    (a1_PlaceX_invertX : PySem.W.findIn K (.ref C_Place) "__invert__" = some (some (.ref a_PlaceX_invertX)))
    (i1_PlaceX_invertX : PySem.W.isFn K (.ref a_PlaceX_invertX) = true)
    (l1_PlaceX_invertX : K.lookup a_PlaceX_invertX = some ⟨oc_PlaceX_invertX, od_PlaceX_invertX, .func (PySem.W.fnOf "__invert__" "Place.__invert__" (defArgs st_PlaceX_invertX) (defBody st_PlaceX_invertX) (defScope st_PlaceX_invertX) .none kV_PlaceX_invertX dc_PlaceX_invertX pm_PlaceX_invertX an_PlaceX_invertX cd_PlaceX_invertX ct_PlaceX_invertX), sl_PlaceX_invertX⟩)
    (c1_PlaceX_invertX : PySem.W.codeIn K cd_PlaceX_invertX "Place.__invert__" = true)
    (k1_PlaceX_invertX : PySem.W.keepIn K (.ref a_PlaceX_invertX) = true)
    (a1_PlaceX_mulX : PySem.W.findIn K (.ref C_Place) "__mul__" = some (some (.ref a_PlaceX_mulX)))
    (i1_PlaceX_mulX : PySem.W.isFn K (.ref a_PlaceX_mulX) = true)
    (l1_PlaceX_mulX : K.lookup a_PlaceX_mulX = some ⟨oc_PlaceX_mulX, od_PlaceX_mulX, .func (PySem.W.fnOf "__mul__" "Place.__mul__" (defArgs st_PlaceX_mulX) (defBody st_PlaceX_mulX) (defScope st_PlaceX_mulX) .none kV_PlaceX_mulX dc_PlaceX_mulX pm_PlaceX_mulX an_PlaceX_mulX cd_PlaceX_mulX ct_PlaceX_mulX), sl_PlaceX_mulX⟩)
    (c1_PlaceX_mulX : PySem.W.codeIn K cd_PlaceX_mulX "Place.__mul__" = true)
    (k1_PlaceX_mulX : PySem.W.keepIn K (.ref a_PlaceX_mulX) = true)
    (a1_Place_is_home : PySem.W.findIn K (.ref C_Place) "is_home" = some (some (.ref a_Place_is_home)))
    (i1_Place_is_home : PySem.W.isFn K (.ref a_Place_is_home) = true)
    (l1_Place_is_home : K.lookup a_Place_is_home = some ⟨oc_Place_is_home, od_Place_is_home, .func (PySem.W.fnOf "is_home" "Place.is_home" (defArgs st_Place_is_home) (defBody st_Place_is_home) (defScope st_Place_is_home) .none kV_Place_is_home dc_Place_is_home pm_Place_is_home an_Place_is_home cd_Place_is_home ct_Place_is_home), sl_Place_is_home⟩)
    (c1_Place_is_home : PySem.W.codeIn K cd_Place_is_home "Place.is_home" = true)
    (k1_Place_is_home : PySem.W.keepIn K (.ref a_Place_is_home) = true)
    (a1_Place_lifted : PySem.W.findIn K (.ref C_Place) "lifted" = some (some (.ref a_Place_lifted)))
    (i1_Place_lifted : PySem.W.isFn K (.ref a_Place_lifted) = true)
    (l1_Place_lifted : K.lookup a_Place_lifted = some ⟨oc_Place_lifted, od_Place_lifted, .func (PySem.W.fnOf "lifted" "Place.lifted" (defArgs st_Place_lifted) (defBody st_Place_lifted) (defScope st_Place_lifted) .none kV_Place_lifted dc_Place_lifted pm_Place_lifted an_Place_lifted cd_Place_lifted ct_Place_lifted), sl_Place_lifted⟩)
    (c1_Place_lifted : PySem.W.codeIn K cd_Place_lifted "Place.lifted" = true)
    (k1_Place_lifted : PySem.W.keepIn K (.ref a_Place_lifted) = true)
    (a1_need_place : PySem.W.nsIn K mainGlobals "need_place" = some (some (.ref a_need_place)))
    (l1_need_place : K.lookup a_need_place = some ⟨oc_need_place, od_need_place, .func (PySem.W.fnOf "need_place" "need_place" (defArgs st_need_place) (defBody st_need_place) (defScope st_need_place) .none kV_need_place dc_need_place pm_need_place an_need_place cd_need_place ct_need_place), sl_need_place⟩)
    (c1_need_place : PySem.W.codeIn K cd_need_place "need_place" = true)
    (k1_need_place : PySem.W.keepIn K (.ref a_need_place) = true)
    (a1_Place_twist : PySem.W.findIn K (.ref C_Place) "twist" = some (some (.ref a_Place_twist)))
    (i1_Place_twist : PySem.W.isFn K (.ref a_Place_twist) = true)
    (l1_Place_twist : K.lookup a_Place_twist = some ⟨oc_Place_twist, od_Place_twist, .func (PySem.W.fnOf "twist" "Place.twist" (defArgs st_Place_twist) (defBody st_Place_twist) (defScope st_Place_twist) .none kV_Place_twist dc_Place_twist pm_Place_twist an_Place_twist cd_Place_twist ct_Place_twist), sl_Place_twist⟩)
    (c1_Place_twist : PySem.W.codeIn K cd_Place_twist "Place.twist" = true)
    (k1_Place_twist : PySem.W.keepIn K (.ref a_Place_twist) = true)
    (a1__law_draw : PySem.W.nsIn K mainGlobals "_law_draw" = some (some (.ref a__law_draw)))
    (l1__law_draw : K.lookup a__law_draw = some ⟨oc__law_draw, od__law_draw, .func (PySem.W.fnOf "_law_draw" "_law_draw" (defArgs st__law_draw) (defBody st__law_draw) (defScope st__law_draw) .none kV__law_draw dc__law_draw pm__law_draw an__law_draw cd__law_draw ct__law_draw), sl__law_draw⟩)
    (c1__law_draw : PySem.W.codeIn K cd__law_draw "_law_draw" = true)
    (k1__law_draw : PySem.W.keepIn K (.ref a__law_draw) = true)
    (a1__law_pen : PySem.W.nsIn K mainGlobals "_law_pen" = some (some (.ref a__law_pen)))
    (l1__law_pen : K.lookup a__law_pen = some ⟨oc__law_pen, od__law_pen, .func (PySem.W.fnOf "_law_pen" "_law_pen" (defArgs st__law_pen) (defBody st__law_pen) (defScope st__law_pen) .none kV__law_pen dc__law_pen pm__law_pen an__law_pen cd__law_pen ct__law_pen), sl__law_pen⟩)
    (c1__law_pen : PySem.W.codeIn K cd__law_pen "_law_pen" = true)
    (k1__law_pen : PySem.W.keepIn K (.ref a__law_pen) = true)
    (a1__law_pick : PySem.W.nsIn K mainGlobals "_law_pick" = some (some (.ref a__law_pick)))
    (l1__law_pick : K.lookup a__law_pick = some ⟨oc__law_pick, od__law_pick, .func (PySem.W.fnOf "_law_pick" "_law_pick" (defArgs st__law_pick) (defBody st__law_pick) (defScope st__law_pick) .none kV__law_pick dc__law_pick pm__law_pick an__law_pick cd__law_pick ct__law_pick), sl__law_pick⟩)
    (c1__law_pick : PySem.W.codeIn K cd__law_pick "_law_pick" = true)
    (k1__law_pick : PySem.W.keepIn K (.ref a__law_pick) = true)
    (a1__law_big : PySem.W.nsIn K mainGlobals "_law_big" = some (some (.ref a__law_big)))
    (l1__law_big : K.lookup a__law_big = some ⟨oc__law_big, od__law_big, .func (PySem.W.fnOf "_law_big" "_law_big" (defArgs st__law_big) (defBody st__law_big) (defScope st__law_big) .none kV__law_big dc__law_big pm__law_big an__law_big cd__law_big ct__law_big), sl__law_big⟩)
    (c1__law_big : PySem.W.codeIn K cd__law_big "_law_big" = true)
    (k1__law_big : PySem.W.keepIn K (.ref a__law_big) = true)
    (a1__law_whole : PySem.W.nsIn K mainGlobals "_law_whole" = some (some (.ref a__law_whole)))
    (l1__law_whole : K.lookup a__law_whole = some ⟨oc__law_whole, od__law_whole, .func (PySem.W.fnOf "_law_whole" "_law_whole" (defArgs st__law_whole) (defBody st__law_whole) (defScope st__law_whole) .none kV__law_whole dc__law_whole pm__law_whole an__law_whole cd__law_whole ct__law_whole), sl__law_whole⟩)
    (c1__law_whole : PySem.W.codeIn K cd__law_whole "_law_whole" = true)
    (k1__law_whole : PySem.W.keepIn K (.ref a__law_whole) = true)
    (a1__law_place : PySem.W.nsIn K mainGlobals "_law_place" = some (some (.ref a__law_place)))
    (l1__law_place : K.lookup a__law_place = some ⟨oc__law_place, od__law_place, .func (PySem.W.fnOf "_law_place" "_law_place" (defArgs st__law_place) (defBody st__law_place) (defScope st__law_place) .none kV__law_place dc__law_place pm__law_place an__law_place cd__law_place ct__law_place), sl__law_place⟩)
    (c1__law_place : PySem.W.codeIn K cd__law_place "_law_place" = true)
    (k1__law_place : PySem.W.keepIn K (.ref a__law_place) = true)
    (a1_pairs_below : PySem.W.nsIn K mainGlobals "pairs_below" = some (some (.ref a_pairs_below)))
    (l1_pairs_below : K.lookup a_pairs_below = some ⟨oc_pairs_below, od_pairs_below, .func (PySem.W.fnOf "pairs_below" "pairs_below" (defArgs st_pairs_below) (defBody st_pairs_below) (defScope st_pairs_below) .none kV_pairs_below dc_pairs_below pm_pairs_below an_pairs_below cd_pairs_below ct_pairs_below), sl_pairs_below⟩)
    (c1_pairs_below : PySem.W.codeIn K cd_pairs_below "pairs_below" = true)
    (k1_pairs_below : PySem.W.keepIn K (.ref a_pairs_below) = true)
    (a1_Place_power : PySem.W.findIn K (.ref C_Place) "power" = some (some (.ref a_Place_power)))
    (i1_Place_power : PySem.W.isFn K (.ref a_Place_power) = true)
    (l1_Place_power : K.lookup a_Place_power = some ⟨oc_Place_power, od_Place_power, .func (PySem.W.fnOf "power" "Place.power" (defArgs st_Place_power) (defBody st_Place_power) (defScope st_Place_power) .none kV_Place_power dc_Place_power pm_Place_power an_Place_power cd_Place_power ct_Place_power), sl_Place_power⟩)
    (c1_Place_power : PySem.W.codeIn K cd_Place_power "Place.power" = true)
    (k1_Place_power : PySem.W.keepIn K (.ref a_Place_power) = true)
    (a1_home_place : PySem.W.nsIn K mainGlobals "home_place" = some (some (.ref a_home_place)))
    (l1_home_place : K.lookup a_home_place = some ⟨oc_home_place, od_home_place, .func (PySem.W.fnOf "home_place" "home_place" (defArgs st_home_place) (defBody st_home_place) (defScope st_home_place) .none kV_home_place dc_home_place pm_home_place an_home_place cd_home_place ct_home_place), sl_home_place⟩)
    (c1_home_place : PySem.W.codeIn K cd_home_place "home_place" = true)
    (k1_home_place : PySem.W.keepIn K (.ref a_home_place) = true)
    (a1_need_places : PySem.W.nsIn K mainGlobals "need_places" = some (some (.ref a_need_places)))
    (l1_need_places : K.lookup a_need_places = some ⟨oc_need_places, od_need_places, .func (PySem.W.fnOf "need_places" "need_places" (defArgs st_need_places) (defBody st_need_places) (defScope st_need_places) .none kV_need_places dc_need_places pm_need_places an_need_places cd_need_places ct_need_places), sl_need_places⟩)
    (c1_need_places : PySem.W.codeIn K cd_need_places "need_places" = true)
    (k1_need_places : PySem.W.keepIn K (.ref a_need_places) = true)
    (a1_product_of : PySem.W.nsIn K mainGlobals "product_of" = some (some (.ref a_product_of)))
    (l1_product_of : K.lookup a_product_of = some ⟨oc_product_of, od_product_of, .func (PySem.W.fnOf "product_of" "product_of" (defArgs st_product_of) (defBody st_product_of) (defScope st_product_of) .none kV_product_of dc_product_of pm_product_of an_product_of cd_product_of ct_product_of), sl_product_of⟩)
    (c1_product_of : PySem.W.codeIn K cd_product_of "product_of" = true)
    (k1_product_of : PySem.W.keepIn K (.ref a_product_of) = true)
    (a1__law_powers_right : PySem.W.nsIn K mainGlobals "_law_powers_right" = some (some (.ref a__law_powers_right)))
    (l1__law_powers_right : K.lookup a__law_powers_right = some ⟨oc__law_powers_right, od__law_powers_right, .func (PySem.W.fnOf "_law_powers_right" "_law_powers_right" (defArgs st__law_powers_right) (defBody st__law_powers_right) (defScope st__law_powers_right) .none kV__law_powers_right dc__law_powers_right pm__law_powers_right an__law_powers_right cd__law_powers_right ct__law_powers_right), sl__law_powers_right⟩)
    (c1__law_powers_right : PySem.W.codeIn K cd__law_powers_right "_law_powers_right" = true)
    (k1__law_powers_right : PySem.W.keepIn K (.ref a__law_powers_right) = true)
    (a1__law_refused : PySem.W.nsIn K mainGlobals "_law_refused" = some (some (.ref a__law_refused)))
    (l1__law_refused : K.lookup a__law_refused = some ⟨oc__law_refused, od__law_refused, .func (PySem.W.fnOf "_law_refused" "_law_refused" (defArgs st__law_refused) (defBody st__law_refused) (defScope st__law_refused) .none kV__law_refused dc__law_refused pm__law_refused an__law_refused cd__law_refused ct__law_refused), sl__law_refused⟩)
    (c1__law_refused : PySem.W.codeIn K cd__law_refused "_law_refused" = true)
    (k1__law_refused : PySem.W.keepIn K (.ref a__law_refused) = true)
    (a1__law_same : PySem.W.nsIn K mainGlobals "_law_same" = some (some (.ref a__law_same)))
    (l1__law_same : K.lookup a__law_same = some ⟨oc__law_same, od__law_same, .func (PySem.W.fnOf "_law_same" "_law_same" (defArgs st__law_same) (defBody st__law_same) (defScope st__law_same) .none kV__law_same dc__law_same pm__law_same an__law_same cd__law_same ct__law_same), sl__law_same⟩)
    (c1__law_same : PySem.W.codeIn K cd__law_same "_law_same" = true)
    (k1__law_same : PySem.W.keepIn K (.ref a__law_same) = true)
    (a1__law_refusals_right : PySem.W.nsIn K mainGlobals "_law_refusals_right" = some (some (.ref a__law_refusals_right)))
    (l1__law_refusals_right : K.lookup a__law_refusals_right = some ⟨oc__law_refusals_right, od__law_refusals_right, .func (PySem.W.fnOf "_law_refusals_right" "_law_refusals_right" (defArgs st__law_refusals_right) (defBody st__law_refusals_right) (defScope st__law_refusals_right) .none kV__law_refusals_right dc__law_refusals_right pm__law_refusals_right an__law_refusals_right (.ref tc__law_refusals_right) ct__law_refusals_right), sl__law_refusals_right⟩)
    (c1__law_refusals_right : PySem.W.codeIn K (.ref tc__law_refusals_right) "_law_refusals_right" = true)
    (k1__law_refusals_right : PySem.W.keepIn K (.ref a__law_refusals_right) = true)
    (tl__law_refusals_right : K.lookup tc__law_refusals_right = some ⟨tcl__law_refusals_right, tdd__law_refusals_right, .fields tvs__law_refusals_right, tsl__law_refusals_right⟩)
    (tv__law_refusals_right : tvs__law_refusals_right[11]? = some (.ref P__law_refusals_right))
    (tq__law_refusals_right : PySem.W.tabIn K "_law_refusals_right" = some (tc__law_refusals_right, P__law_refusals_right))
    (tn__law_refusals_right : K.lookup P__law_refusals_right = none)
    (tr__law_refusals_right : ((recsOf q).find? (fun e => e.name == ("_law_refusals_right" : Str))).isSome = true)
    (a1__law_step : PySem.W.nsIn K mainGlobals "_law_step" = some (some (.ref a__law_step)))
    (l1__law_step : K.lookup a__law_step = some ⟨oc__law_step, od__law_step, .func (PySem.W.fnOf "_law_step" "_law_step" (defArgs st__law_step) (defBody st__law_step) (defScope st__law_step) .none kV__law_step dc__law_step pm__law_step an__law_step cd__law_step ct__law_step), sl__law_step⟩)
    (c1__law_step : PySem.W.codeIn K cd__law_step "_law_step" = true)
    (k1__law_step : PySem.W.keepIn K (.ref a__law_step) = true)
    (a1__law_swept : PySem.W.nsIn K mainGlobals "_law_swept" = some (some (.ref a__law_swept)))
    (l1__law_swept : K.lookup a__law_swept = some ⟨oc__law_swept, od__law_swept, .func (PySem.W.fnOf "_law_swept" "_law_swept" (defArgs st__law_swept) (defBody st__law_swept) (defScope st__law_swept) .none kV__law_swept dc__law_swept pm__law_swept an__law_swept cd__law_swept ct__law_swept), sl__law_swept⟩)
    (c1__law_swept : PySem.W.codeIn K cd__law_swept "_law_swept" = true)
    (k1__law_swept : PySem.W.keepIn K (.ref a__law_swept) = true)
    (a1_law : PySem.W.nsIn K mainGlobals "law" = some (some (.ref a_law)))
    (l1_law : K.lookup a_law = some ⟨oc_law, od_law, .func (PySem.W.fnOf "law" "law" (defArgs st_law) (defBody st_law) (defScope st_law) .none kV_law dc_law pm_law an_law cd_law ct_law), sl_law⟩)
    (c1_law : PySem.W.codeIn K cd_law "law" = true)
    (k1_law : PySem.W.keepIn K (.ref a_law) = true)
    (z1_all : PySem.W.nsIn K mainGlobals "all" = some none)
    (z1_bool : PySem.W.nsIn K mainGlobals "bool" = some none)
    (z1_int : PySem.W.nsIn K mainGlobals "int" = some none)
    (z1_isinstance : PySem.W.nsIn K mainGlobals "isinstance" = some none)
    (z1_len : PySem.W.nsIn K mainGlobals "len" = some none)
    (z1_list : PySem.W.nsIn K mainGlobals "list" = some none)
    (z1_min : PySem.W.nsIn K mainGlobals "min" = some none)
    (z1_range : PySem.W.nsIn K mainGlobals "range" = some none)
    (tnd : ([P__law_refusals_right] : List Addr).Nodup)
    (hl : ∀ ns : List Int, ns.length ≤ 63 → (∀ z ∈ ns, Builtin.Int.intBits z ≤ 1048576) → ∃ S, g_law [.scr (ns.map D.int)] [.tab "_law_refusals_right"] = .ok (.bl true) S) :
    LamX.LawAtS l w K (L2.CX l.prog w) 13 63 "_law_script" mg fa h := by
  have e := hfa.symm.trans (PySem.W.mg_of X G0 a1_law)
  cases e
  let G : Gam := { K := K, ct := fun c => if c = "Place" then some C_Place else if c = "BadNumber" then some C_BadNumber else if c = "BadPlace" then some C_BadPlace else if c = "WalkError" then some C_WalkError else none, ft := fun c => none, tab := tabG [("_law_refusals_right", P__law_refusals_right, ((envOfC "_law_refusals_right" (defScope st__law_refusals_right) 0 0 .none).qual ++ "<lambda>"))], tabM := tabG_mono _ }
  have cF_Place := clsF cB_Place
  have ct_Place : G.ct "Place" = some C_Place := by simp [G]
  have ct_BadNumber : G.ct "BadNumber" = some C_BadNumber := by simp [G]
  have ct_BadPlace : G.ct "BadPlace" = some C_BadPlace := by simp [G]
  have ct_WalkError : G.ct "WalkError" = some C_WalkError := by simp [G]
  have F_PlaceX_eqX := fun_mk (st := st_PlaceX_eqX) l1_PlaceX_eqX c1_PlaceX_eqX k1_PlaceX_eqX
  have F_is_integer := fun_mk (st := st_is_integer) l1_is_integer c1_is_integer k1_is_integer
  have F_PlaceX_initX := fun_mk (st := st_PlaceX_initX) l1_PlaceX_initX c1_PlaceX_initX k1_PlaceX_initX
  have F_PlaceX_invertX := fun_mk (st := st_PlaceX_invertX) l1_PlaceX_invertX c1_PlaceX_invertX k1_PlaceX_invertX
  have F_PlaceX_mulX := fun_mk (st := st_PlaceX_mulX) l1_PlaceX_mulX c1_PlaceX_mulX k1_PlaceX_mulX
  have F_Place_is_home := fun_mk (st := st_Place_is_home) l1_Place_is_home c1_Place_is_home k1_Place_is_home
  have F_Place_lifted := fun_mk (st := st_Place_lifted) l1_Place_lifted c1_Place_lifted k1_Place_lifted
  have F_need_place := fun_mk (st := st_need_place) l1_need_place c1_need_place k1_need_place
  have F_Place_twist := fun_mk (st := st_Place_twist) l1_Place_twist c1_Place_twist k1_Place_twist
  have F__law_draw := fun_mk (st := st__law_draw) l1__law_draw c1__law_draw k1__law_draw
  have F__law_pen := fun_mk (st := st__law_pen) l1__law_pen c1__law_pen k1__law_pen
  have F__law_pick := fun_mk (st := st__law_pick) l1__law_pick c1__law_pick k1__law_pick
  have F__law_big := fun_mk (st := st__law_big) l1__law_big c1__law_big k1__law_big
  have F__law_whole := fun_mk (st := st__law_whole) l1__law_whole c1__law_whole k1__law_whole
  have F__law_place := fun_mk (st := st__law_place) l1__law_place c1__law_place k1__law_place
  have F_pairs_below := fun_mk (st := st_pairs_below) l1_pairs_below c1_pairs_below k1_pairs_below
  have F_Place_power := fun_mk (st := st_Place_power) l1_Place_power c1_Place_power k1_Place_power
  have F_home_place := fun_mk (st := st_home_place) l1_home_place c1_home_place k1_home_place
  have F_need_places := fun_mk (st := st_need_places) l1_need_places c1_need_places k1_need_places
  have F_product_of := fun_mk (st := st_product_of) l1_product_of c1_product_of k1_product_of
  have F__law_powers_right := fun_mk (st := st__law_powers_right) l1__law_powers_right c1__law_powers_right k1__law_powers_right
  have F__law_refused := fun_mk (st := st__law_refused) l1__law_refused c1__law_refused k1__law_refused
  have F__law_same := fun_mk (st := st__law_same) l1__law_same c1__law_same k1__law_same
  have F__law_refusals_right := fun_mk (st := st__law_refusals_right) l1__law_refusals_right c1__law_refusals_right k1__law_refusals_right
  have F__law_step := fun_mk (st := st__law_step) l1__law_step c1__law_step k1__law_step
  have F__law_swept := fun_mk (st := st__law_swept) l1__law_swept c1__law_swept k1__law_swept
  have F_law := fun_mk (st := st_law) l1_law c1_law k1_law
  have mkE : ∀ base : Heap, (∀ m ∈ ([("_law_refusals_right", tc__law_refusals_right, P__law_refusals_right)] : List (String × Addr × Addr)), LamX.TabB base mg m.2.1 m.2.2) → ∃ e : Ev l.prog G mg base, e.a_law = fa ∧ e.fd_law = (PySem.W.fnOf "law" "law" (defArgs st_law) (defBody st_law) (defScope st_law) .none kV_law dc_law pm_law an_law cd_law ct_law) := fun base tb => ⟨{
    C_Place := C_Place
    ct_Place := ct_Place
    cl_Place := cF_Place.cl
    m_Place := PySem.W.mg_of X G0 aC_Place
    sf_Place := cF_Place.sf
    ne_Place := cF_Place.ne
    mo_Place := cF_Place.mo
    na_Place_x := cF_Place.na _ (by simp)
    na_Place_y := cF_Place.na _ (by simp)
    na_Place_area := cF_Place.na _ (by simp)
    C_BadNumber := C_BadNumber
    ct_BadNumber := ct_BadNumber
    m_BadNumber := PySem.W.mg_of X G0 aC_BadNumber
    fI_BadNumber := fI_BadNumber
    xfd_BadNumber := _
    X_BadNumber := xfacts_of (G := G) ct_BadNumber xl_BadNumber xr_BadNumber xi_BadNumber xf_BadNumber xc_BadNumber xd_BadNumber xv_BadNumber xe_BadNumber xk_BadNumber xB_BadNumber xtop (PySem.W.mg_none_of X G0 xsup) xsh_BadNumber (by decide) (by decide) (by decide) (fun us hl => match us, hl with | [_, _], _ => rfl)
    C_BadPlace := C_BadPlace
    ct_BadPlace := ct_BadPlace
    m_BadPlace := PySem.W.mg_of X G0 aC_BadPlace
    fI_BadPlace := fI_BadPlace
    xfd_BadPlace := _
    X_BadPlace := xfacts_of (G := G) ct_BadPlace xl_BadPlace xr_BadPlace xi_BadPlace xf_BadPlace xc_BadPlace xd_BadPlace xv_BadPlace xe_BadPlace xk_BadPlace xB_BadPlace xtop (PySem.W.mg_none_of X G0 xsup) xsh_BadPlace (by decide) (by decide) (by decide) (fun us hl => match us, hl with | [_, _], _ => rfl)
    C_WalkError := C_WalkError
    ct_WalkError := ct_WalkError
    m_WalkError := PySem.W.mg_of X G0 aC_WalkError
    nr_Place := nr_Place
    tm_mul := tm_mul
    xm_BadNumber_BadNumber := xm_BadNumber_BadNumber
    xm_BadNumber_BadPlace := xm_BadNumber_BadPlace
    xm_BadNumber_WalkError := xm_BadNumber_WalkError
    xm_BadPlace_BadNumber := xm_BadPlace_BadNumber
    xm_BadPlace_BadPlace := xm_BadPlace_BadPlace
    xm_BadPlace_WalkError := xm_BadPlace_WalkError
    xm_WalkError_BadNumber := xm_WalkError_BadNumber
    xm_WalkError_BadPlace := xm_WalkError_BadPlace
    xm_WalkError_WalkError := xm_WalkError_WalkError
    a_PlaceX_eqX := a_PlaceX_eqX
    fd_PlaceX_eqX := _
    F_PlaceX_eqX := F_PlaceX_eqX
    b_PlaceX_eqX := F_PlaceX_eqX.binds (ps := ["self", "other"]) fun _ _ _ _ _ _ us hl => match us, hl with | [_, _], _ => rfl
    M_PlaceX_eqX := ⟨a1_PlaceX_eqX, i1_PlaceX_eqX, k1_PlaceX_eqX⟩
    a_is_integer := a_is_integer
    fd_is_integer := _
    F_is_integer := F_is_integer
    b_is_integer := F_is_integer.binds (ps := ["value"]) fun _ _ _ _ _ _ us hl => match us, hl with | [_], _ => rfl
    m_is_integer := PySem.W.mg_of X G0 a1_is_integer
    a_PlaceX_initX := a_PlaceX_initX
    fd_PlaceX_initX := _
    F_PlaceX_initX := F_PlaceX_initX
    b_PlaceX_initX := F_PlaceX_initX.binds (ps := ["self", "x", "y", "area"]) fun _ _ _ _ _ _ us hl => match us, hl with | [_, _, _, _], _ => rfl
    M_PlaceX_initX := ⟨a1_PlaceX_initX, i1_PlaceX_initX, k1_PlaceX_initX⟩
    a_PlaceX_invertX := a_PlaceX_invertX
    fd_PlaceX_invertX := _
    F_PlaceX_invertX := F_PlaceX_invertX
    b_PlaceX_invertX := F_PlaceX_invertX.binds (ps := ["self"]) fun _ _ _ _ _ _ us hl => match us, hl with | [_], _ => rfl
    M_PlaceX_invertX := ⟨a1_PlaceX_invertX, i1_PlaceX_invertX, k1_PlaceX_invertX⟩
    a_PlaceX_mulX := a_PlaceX_mulX
    fd_PlaceX_mulX := _
    F_PlaceX_mulX := F_PlaceX_mulX
    b_PlaceX_mulX := F_PlaceX_mulX.binds (ps := ["self", "other"]) fun _ _ _ _ _ _ us hl => match us, hl with | [_, _], _ => rfl
    M_PlaceX_mulX := ⟨a1_PlaceX_mulX, i1_PlaceX_mulX, k1_PlaceX_mulX⟩
    a_Place_is_home := a_Place_is_home
    fd_Place_is_home := _
    F_Place_is_home := F_Place_is_home
    b_Place_is_home := F_Place_is_home.binds (ps := ["self"]) fun _ _ _ _ _ _ us hl => match us, hl with | [_], _ => rfl
    M_Place_is_home := ⟨a1_Place_is_home, i1_Place_is_home, k1_Place_is_home⟩
    a_Place_lifted := a_Place_lifted
    fd_Place_lifted := _
    F_Place_lifted := F_Place_lifted
    b_Place_lifted := F_Place_lifted.binds (ps := ["self", "storeys"]) fun _ _ _ _ _ _ us hl => match us, hl with | [_, _], _ => rfl
    M_Place_lifted := ⟨a1_Place_lifted, i1_Place_lifted, k1_Place_lifted⟩
    a_need_place := a_need_place
    fd_need_place := _
    F_need_place := F_need_place
    b_need_place := F_need_place.binds (ps := ["value"]) fun _ _ _ _ _ _ us hl => match us, hl with | [_], _ => rfl
    m_need_place := PySem.W.mg_of X G0 a1_need_place
    a_Place_twist := a_Place_twist
    fd_Place_twist := _
    F_Place_twist := F_Place_twist
    b_Place_twist := F_Place_twist.binds (ps := ["self", "other"]) fun _ _ _ _ _ _ us hl => match us, hl with | [_, _], _ => rfl
    M_Place_twist := ⟨a1_Place_twist, i1_Place_twist, k1_Place_twist⟩
    a__law_draw := a__law_draw
    fd__law_draw := _
    F__law_draw := F__law_draw
    b__law_draw := F__law_draw.binds (ps := ["_law_pen_here", "_law_many"]) fun _ _ _ _ _ _ us hl => match us, hl with | [_, _], _ => rfl
    m__law_draw := PySem.W.mg_of X G0 a1__law_draw
    a__law_pen := a__law_pen
    fd__law_pen := _
    F__law_pen := F__law_pen
    b__law_pen := F__law_pen.binds (ps := ["_law_script"]) fun _ _ _ _ _ _ us hl => match us, hl with | [_], _ => rfl
    m__law_pen := PySem.W.mg_of X G0 a1__law_pen
    a__law_pick := a__law_pick
    fd__law_pick := _
    F__law_pick := F__law_pick
    b__law_pick := F__law_pick.binds (ps := ["_law_pen_here", "_law_items"]) fun _ _ _ _ _ _ us hl => match us, hl with | [_, _], _ => rfl
    m__law_pick := PySem.W.mg_of X G0 a1__law_pick
    a__law_big := a__law_big
    fd__law_big := _
    F__law_big := F__law_big
    b__law_big := F__law_big.binds (ps := ["_law_pen_here", "_law_size"]) fun _ _ _ _ _ _ us hl => match us, hl with | [_, _], _ => rfl
    m__law_big := PySem.W.mg_of X G0 a1__law_big
    a__law_whole := a__law_whole
    fd__law_whole := _
    F__law_whole := F__law_whole
    b__law_whole := F__law_whole.binds (ps := ["_law_pen_here", "_law_size"]) fun _ _ _ _ _ _ us hl => match us, hl with | [_, _], _ => rfl
    m__law_whole := PySem.W.mg_of X G0 a1__law_whole
    a__law_place := a__law_place
    fd__law_place := _
    F__law_place := F__law_place
    b__law_place := F__law_place.binds (ps := ["_law_pen_here", "_law_size"]) fun _ _ _ _ _ _ us hl => match us, hl with | [_, _], _ => rfl
    m__law_place := PySem.W.mg_of X G0 a1__law_place
    a_pairs_below := a_pairs_below
    fd_pairs_below := _
    F_pairs_below := F_pairs_below
    b_pairs_below := F_pairs_below.binds (ps := ["number"]) fun _ _ _ _ _ _ us hl => match us, hl with | [_], _ => rfl
    m_pairs_below := PySem.W.mg_of X G0 a1_pairs_below
    a_Place_power := a_Place_power
    fd_Place_power := _
    F_Place_power := F_Place_power
    b_Place_power := F_Place_power.binds (ps := ["self", "number"]) fun _ _ _ _ _ _ us hl => match us, hl with | [_, _], _ => rfl
    M_Place_power := ⟨a1_Place_power, i1_Place_power, k1_Place_power⟩
    a_home_place := a_home_place
    fd_home_place := _
    F_home_place := F_home_place
    b_home_place := F_home_place.binds (ps := []) fun _ _ _ _ _ _ us hl => match us, hl with | [], _ => rfl
    m_home_place := PySem.W.mg_of X G0 a1_home_place
    a_need_places := a_need_places
    fd_need_places := _
    F_need_places := F_need_places
    b_need_places := F_need_places.binds (ps := ["values"]) fun _ _ _ _ _ _ us hl => match us, hl with | [_], _ => rfl
    m_need_places := PySem.W.mg_of X G0 a1_need_places
    a_product_of := a_product_of
    fd_product_of := _
    F_product_of := F_product_of
    b_product_of := F_product_of.binds (ps := ["places"]) fun _ _ _ _ _ _ us hl => match us, hl with | [_], _ => rfl
    m_product_of := PySem.W.mg_of X G0 a1_product_of
    a__law_powers_right := a__law_powers_right
    fd__law_powers_right := _
    F__law_powers_right := F__law_powers_right
    b__law_powers_right := F__law_powers_right.binds (ps := ["_law_pen_here", "_law_place_here"]) fun _ _ _ _ _ _ us hl => match us, hl with | [_, _], _ => rfl
    m__law_powers_right := PySem.W.mg_of X G0 a1__law_powers_right
    a__law_refused := a__law_refused
    fd__law_refused := _
    F__law_refused := F__law_refused
    b__law_refused := F__law_refused.binds (ps := ["_law_ask"]) fun _ _ _ _ _ _ us hl => match us, hl with | [_], _ => rfl
    m__law_refused := PySem.W.mg_of X G0 a1__law_refused
    a__law_same := a__law_same
    fd__law_same := _
    F__law_same := F__law_same
    b__law_same := F__law_same.binds (ps := ["_law_one", "_law_other"]) fun _ _ _ _ _ _ us hl => match us, hl with | [_, _], _ => rfl
    m__law_same := PySem.W.mg_of X G0 a1__law_same
    a__law_refusals_right := a__law_refusals_right
    fd__law_refusals_right := _
    F__law_refusals_right := F__law_refusals_right
    b__law_refusals_right := F__law_refusals_right.binds (ps := ["_law_pen_here", "_law_place_here"]) fun _ _ _ _ _ _ us hl => match us, hl with | [_, _], _ => rfl
    m__law_refusals_right := PySem.W.mg_of X G0 a1__law_refusals_right
    tc__law_refusals_right := tc__law_refusals_right
    P__law_refusals_right := P__law_refusals_right
    cd__law_refusals_right := rfl
    tb__law_refusals_right := tb ("_law_refusals_right", tc__law_refusals_right, P__law_refusals_right) (by simp)
    a__law_step := a__law_step
    fd__law_step := _
    F__law_step := F__law_step
    b__law_step := F__law_step.binds (ps := ["_law_letter"]) fun _ _ _ _ _ _ us hl => match us, hl with | [_], _ => rfl
    m__law_step := PySem.W.mg_of X G0 a1__law_step
    a__law_swept := a__law_swept
    fd__law_swept := _
    F__law_swept := F__law_swept
    b__law_swept := F__law_swept.binds (ps := ["_law_letters"]) fun _ _ _ _ _ _ us hl => match us, hl with | [_], _ => rfl
    m__law_swept := PySem.W.mg_of X G0 a1__law_swept
    a_law := fa
    fd_law := _
    F_law := F_law
    b_law := F_law.binds (ps := ["_law_script"]) fun _ _ _ _ _ _ us hl => match us, hl with | [_], _ => rfl
    m_law := PySem.W.mg_of X G0 a1_law
    mk_Place := ⟨cF_Place.makes, a1_PlaceX_initX, i1_PlaceX_initX, cF_Place.kp⟩
    f_area := fun c hc C hC => by
      simp only [List.mem_cons, List.not_mem_nil, or_false] at hc
      (subst hc; rw [ct_Place] at hC; cases hC; exact ⟨cF_Place.cl, by rw [← s_0]; exact cF_Place.na _ (by simp)⟩)
    f_x := fun c hc C hC => by
      simp only [List.mem_cons, List.not_mem_nil, or_false] at hc
      (subst hc; rw [ct_Place] at hC; cases hC; exact ⟨cF_Place.cl, by rw [← s_2]; exact cF_Place.na _ (by simp)⟩)
    f_y := fun c hc C hC => by
      simp only [List.mem_cons, List.not_mem_nil, or_false] at hc
      (subst hc; rw [ct_Place] at hC; cases hC; exact ⟨cF_Place.cl, by rw [← s_1]; exact cF_Place.na _ (by simp)⟩)
    z_all := PySem.W.mg_none_of X G0 z1_all
    z_bool := PySem.W.mg_none_of X G0 z1_bool
    z_int := PySem.W.mg_none_of X G0 z1_int
    z_isinstance := PySem.W.mg_none_of X G0 z1_isinstance
    z_len := PySem.W.mg_none_of X G0 z1_len
    z_list := PySem.W.mg_none_of X G0 z1_list
    z_min := PySem.W.mg_none_of X G0 z1_min
    z_range := PySem.W.mg_none_of X G0 z1_range
    iso := isOk_of (fun c hc => by
      simp only [List.mem_cons, List.not_mem_nil, or_false] at hc
      (subst hc; exact ⟨C_Place, _, ct_Place, cF_Place⟩)) fun c hc c2 hc2 C1 C2 h1 h2 => by
      simp only [List.mem_cons, List.not_mem_nil, or_false] at hc hc2
      · subst hc; subst hc2; rw [ct_Place] at h1; rw [ct_Place] at h2; cases h1; cases h2; exact kit_self
    tabs := rfl }, rfl, rfl⟩
  exact lawAt_of (G := G) (g := g_law) (fd := (PySem.W.fnOf "law" "law" (defArgs st_law) (defBody st_law) (defScope st_law) .none kV_law dc_law pm_law an_law cd_law ct_law)) [("_law_refusals_right", tc__law_refusals_right, P__law_refusals_right)] (fun m hm => by
    simp only [List.mem_cons, List.not_mem_nil, or_false] at hm
    subst hm; exact TT _ _ _ tr__law_refusals_right tq__law_refusals_right) (fun m hm => by
    simp only [List.mem_cons, List.not_mem_nil, or_false] at hm
    subst hm; exact tn__law_refusals_right) (tnd) (fun s v => .of_eq rfl) (fun base tb => by
    obtain ⟨e, e1, e2⟩ := mkE base tb
    have o := ok_law (w0 := w) e
    rw [e1, e2] at o
    exact o) (fun m hm F => by
    simp only [List.mem_cons, List.not_mem_nil, or_false] at hm
    subst hm; exact ⟨_, rfl, tabP_nil _ _ _⟩) hl
end
end W_k02
set_option maxHeartbeats 4000000
/-! roots of places: the plain law -/
namespace RT
@[ext] structure Q3 where
  x : Int
  y : Int
  a : Int
def hlf (k : Int) : Int := (k * (k - 1)).fdiv 2
theorem hlf2 (k : Int) : 2 * hlf k = k * (k - 1) := by
  unfold hlf
  have h : (k * (k - 1)) % 2 = 0 := by
    rcases Int.emod_two_eq k with h | h
    · rw [Int.mul_emod, h]; simp
    · have : (k - 1) % 2 = 0 := by omega
      rw [Int.mul_emod, this]; simp
  rw [Int.fdiv_eq_ediv_of_nonneg _ (by decide)]
  omega
def pw (p : Q3) (k : Int) : Q3 := ⟨k * p.x, k * p.y, k * p.a + hlf k * p.x * p.y⟩
theorem hlf_mul (n m : Int) : m * hlf n + hlf m * (n * n) = hlf (n * m) := by
  have h1 := hlf2 n
  have h2 := hlf2 m
  have h3 := hlf2 (n * m)
  have : 2 * (m * hlf n + hlf m * (n * n)) = 2 * hlf (n * m) := by grind
  omega
theorem pw_pw (p : Q3) (n m : Int) : pw (pw p n) m = pw p (n * m) := by
  have h := hlf_mul n m
  ext <;> simp only [pw]
  · grind
  · grind
  · rw [← h]; grind
theorem pw_inj {p q : Q3} {m : Int} (hm : m ≠ 0) (h : pw p m = pw q m) : p = q := by
  have h1 : m * p.x = m * q.x := congrArg Q3.x h
  have h2 : m * p.y = m * q.y := congrArg Q3.y h
  have h3 : m * p.a + hlf m * p.x * p.y = m * q.a + hlf m * q.x * q.y := congrArg Q3.a h
  have e1 := Int.eq_of_mul_eq_mul_left hm h1
  have e2 := Int.eq_of_mul_eq_mul_left hm h2
  rw [e1, e2] at h3
  have e3 := Int.eq_of_mul_eq_mul_left hm (show m * p.a = m * q.a by omega)
  exact Q3.ext e1 e2 e3
theorem hlf_one : hlf 1 = 0 := by decide
theorem pw_one (p : Q3) : pw p 1 = p := by
  ext <;> simp [pw, hlf_one]
/-- N is the greatest number of times, and each other divides it -/
structure Big (P : Q3) (N : Int) : Prop where
  pos : 1 ≤ N
  has : ∃ B, pw B N = P
  all : ∀ n C, 1 ≤ n → pw C n = P → n ∣ N
theorem Big.iff {P : Q3} {N n : Int} (h : Big P N) (hn : 1 ≤ n) : (∃ C, pw C n = P) ↔ n ∣ N := by
  constructor
  · rintro ⟨C, e⟩; exact h.all n C hn e
  · rintro ⟨m, e⟩
    obtain ⟨B, hB⟩ := h.has
    exact ⟨pw B m, by rw [pw_pw, Int.mul_comm m n, ← e, hB]⟩
theorem Big.uniq {P : Q3} {N M : Int} (h : Big P N) (k : Big P M) : N = M := by
  obtain ⟨B, hB⟩ := h.has
  obtain ⟨C, hC⟩ := k.has
  exact Int.dvd_antisymm (by have := h.pos; omega) (by have := k.pos; omega) (k.all N B h.pos hB) (h.all M C k.pos hC)
theorem Big.pow {P : Q3} {N N' m : Int} (h : Big P N) (hm : m ≠ 0) (k : Big (pw P m) N') : N' = N * m.natAbs := by
  obtain ⟨B, hB⟩ := h.has
  obtain ⟨C, hC⟩ := k.has
  obtain ⟨s, hs1, hs2⟩ : ∃ s : Int, s * s = 1 ∧ (m.natAbs : Int) = s * m := by
    by_cases c : 0 ≤ m
    · exact ⟨1, rfl, by omega⟩
    · exact ⟨-1, rfl, by omega⟩
  have M0 : 1 ≤ (m.natAbs : Int) := by omega
  have p1 := h.pos
  have d1 : N * m.natAbs ∣ N' := by
    refine k.all _ (pw B s) ?_ ?_
    · have := Int.mul_le_mul p1 M0 (by decide) (by omega); omega
    · rw [pw_pw, ← hB, pw_pw]
      congr 1
      rw [hs2]
      grind
  obtain ⟨j, hj⟩ := d1
  have j1 : 1 ≤ j := by
    have := k.pos
    have h0 : 0 < N * (m.natAbs : Int) := Int.mul_pos (by omega) (by omega)
    rcases Int.lt_or_le 0 j with c | c
    · omega
    · have := Int.mul_nonpos_of_nonneg_of_nonpos (Int.le_of_lt h0) c
      omega
  have e : pw (pw C (N * j * s)) m = pw P m := by
    rw [pw_pw, ← hC]
    congr 1
    rw [hj, hs2]
    grind
  have e2 := pw_inj hm e
  have d2 : N * j ∣ N := h.all _ (pw C s) (by have := Int.mul_le_mul p1 j1 (by decide) (by omega); omega) (by rw [pw_pw, ← e2]; congr 1; grind)
  have j2 : j ∣ 1 := by
    obtain ⟨q, hq⟩ := d2
    exact ⟨q, Int.eq_of_mul_eq_mul_left (show N ≠ 0 by omega) (by grind)⟩
  have : j = 1 := Int.eq_one_of_dvd_one (by omega) j2
  subst this
  rw [hj]; omega
/-! ### when there is a root -/
theorem rt_iff {P : Q3} {g X Y n h : Int} (hx : P.x = g * X) (hy : P.y = g * Y) (hg : g = n * h) (hn : n ≠ 0) : (∃ C, pw C n = P) ↔ n ∣ P.a - hlf n * (h * X) * (h * Y) := by
  constructor
  · rintro ⟨C, e⟩
    have e1 : n * C.x = P.x := congrArg Q3.x e
    have e2 : n * C.y = P.y := congrArg Q3.y e
    have e3 : n * C.a + hlf n * C.x * C.y = P.a := congrArg Q3.a e
    have x1 : C.x = h * X := Int.eq_of_mul_eq_mul_left hn (by rw [e1, hx, hg]; grind)
    have y1 : C.y = h * Y := Int.eq_of_mul_eq_mul_left hn (by rw [e2, hy, hg]; grind)
    exact ⟨C.a, by rw [← e3, x1, y1]; omega⟩
  · rintro ⟨c, e⟩
    refine ⟨⟨h * X, h * Y, c⟩, ?_⟩
    ext <;> simp only [pw]
    · rw [hx, hg]; grind
    · rw [hy, hg]; grind
    · omega
theorem rt_dvd {P C : Q3} {n : Int} (e : pw C n = P) : n ∣ P.x ∧ n ∣ P.y := ⟨⟨C.x, (congrArg Q3.x e).symm⟩, ⟨C.y, (congrArg Q3.y e).symm⟩⟩
theorem odd_iff {n a u v : Int} (h : n % 2 = 1) : n ∣ a - hlf n * u * v ↔ n ∣ a := by
  have h2 := hlf2 n
  have : hlf n = n * ((n - 1) / 2) := by
    have e : n - 1 = 2 * ((n - 1) / 2) := by omega
    have : 2 * hlf n = 2 * (n * ((n - 1) / 2)) := by rw [h2]; grind
    omega
  have d : n ∣ hlf n * u * v := ⟨((n - 1) / 2) * u * v, by rw [this]; grind⟩
  constructor
  · intro k; have := Int.dvd_add k d; rwa [Int.sub_add_cancel] at this
  · intro k; exact Int.dvd_sub k d
theorem even_iff {n a u v w : Int} (h : u * v = 2 * w) : n ∣ a - hlf n * u * v ↔ n ∣ a := by
  have h2 := hlf2 n
  have d : n ∣ hlf n * u * v := ⟨(n - 1) * w, by
    have : hlf n * u * v = 2 * hlf n * w := by grind
    rw [this, h2]; grind⟩
  constructor
  · intro k; have := Int.dvd_add k d; rwa [Int.sub_add_cancel] at this
  · intro k; exact Int.dvd_sub k d
theorem half_iff {j a u v : Int} (hj : j ≠ 0) (h : (u * v) % 2 = 1) : 2 * j ∣ a - hlf (2 * j) * u * v ↔ ∃ f, a = j * f ∧ f % 2 = 1 := by
  have h2 := hlf2 (2 * j)
  have e : hlf (2 * j) = j * (2 * j - 1) := by
    have : 2 * hlf (2 * j) = 2 * (j * (2 * j - 1)) := by rw [h2]; grind
    omega
  have o : ((2 * j - 1) * (u * v)) % 2 = 1 := by rw [Int.mul_emod, h]; omega
  have e2 : hlf (2 * j) * u * v = j * ((2 * j - 1) * (u * v)) := by rw [e]; grind
  rw [e2]
  generalize (2 * j - 1) * (u * v) = z at o
  constructor
  · rintro ⟨c, hc⟩
    exact ⟨2 * c + z, by grind, by omega⟩
  · rintro ⟨f, rfl, hf⟩
    refine ⟨(f - z) / 2, ?_⟩
    have : f - z = 2 * ((f - z) / 2) := by omega
    have : j * f - j * z = j * (f - z) := by grind
    rw [this]
    grind
/-! ### twos -/
structure V2 (m : Int) (t : Nat) : Prop where
  yes : (2 : Int) ^ t ∣ m
  no : ¬ (2 : Int) ^ (t + 1) ∣ m
theorem two_cancel : ∀ (t : Nat) {n e : Int}, e % 2 = 1 → (2 : Int) ^ t ∣ n * e → (2 : Int) ^ t ∣ n
  | 0, n, e, _, _ => ⟨n, by simp⟩
  | t + 1, n, e, he, h => by
    have e2 : n % 2 = 0 := by
      obtain ⟨c, hc⟩ := h
      have : (n * e) % 2 = 0 := by
        rw [hc, Int.pow_succ]
        have : (2 : Int) ^ t * 2 * c = 2 * (2 ^ t * c) := by grind
        omega
      rw [Int.mul_emod, he] at this
      omega
    obtain ⟨k, hk⟩ : ∃ k, n = 2 * k := ⟨n / 2, by omega⟩
    have h' : (2 : Int) ^ t ∣ k * e := by
      obtain ⟨c, hc⟩ := h
      refine ⟨c, Int.eq_of_mul_eq_mul_left (show (2 : Int) ≠ 0 by decide) ?_⟩
      rw [hk, Int.pow_succ] at hc
      grind
    obtain ⟨c, hc⟩ := two_cancel t he h'
    exact ⟨c, by rw [hk, hc, Int.pow_succ]; grind⟩
theorem two_half {t : Nat} {a : Int} (h : (2 : Int) ^ (t + 1) ∣ 2 * a) : (2 : Int) ^ t ∣ a := by
  obtain ⟨c, hc⟩ := h
  exact ⟨c, Int.eq_of_mul_eq_mul_left (show (2 : Int) ≠ 0 by decide) (by rw [hc, Int.pow_succ]; grind)⟩
theorem two_dbl {t : Nat} {a : Int} (h : (2 : Int) ^ t ∣ a) : (2 : Int) ^ (t + 1) ∣ 2 * a := by
  obtain ⟨c, hc⟩ := h
  exact ⟨c, by rw [hc, Int.pow_succ]; grind⟩
theorem odd_mul {u v : Int} : (u * v) % 2 = 1 ↔ u % 2 = 1 ∧ v % 2 = 1 := by
  rcases Int.emod_two_eq u with h | h <;> rcases Int.emod_two_eq v with k | k <;> rw [Int.mul_emod, h, k] <;> simp
theorem dvd_of_le_two {t : Nat} {m : Int} (h : (2 : Int) ^ (t + 1) ∣ m) : m % 2 = 0 := by
  obtain ⟨c, hc⟩ := h
  have : m = 2 * (2 ^ t * c) := by rw [hc, Int.pow_succ]; grind
  omega
end RT
namespace RT
/-! ### the greatest one -/
theorem gdvd {P : Q3} {n : Int} (h1 : n ∣ P.x) (h2 : n ∣ P.y) : n ∣ (Int.gcd P.x P.y : Int) := Int.dvd_coe_gcd h1 h2
/-- all n with n | g: the plain case -/
theorem big_plain {P : Q3} {g d X Y : Int} (g0 : 0 < g) (hx : P.x = g * X) (hy : P.y = g * Y) (hg : ∀ n, n ∣ P.x → n ∣ P.y → n ∣ g) (d0 : 0 < d) (hd1 : d ∣ g) (hd2 : d ∣ P.a) (hd : ∀ n, n ∣ g → n ∣ P.a → n ∣ d)
    (h : ∀ n h, g = n * h → (n % 2 = 1 ∨ ∃ w, (h * X) * (h * Y) = 2 * w)) : Big P d := by
  have key : ∀ n h', g = n * h' → n ≠ 0 → ((∃ C, pw C n = P) ↔ n ∣ P.a) := fun n h' e hn => by
    rw [rt_iff hx hy e hn]
    rcases h n h' e with o | ⟨w, hw⟩
    · exact odd_iff o
    · exact even_iff hw
  refine ⟨d0, ?_, fun n C hn e => ?_⟩
  · obtain ⟨h', e⟩ := hd1
    exact (key d h' e (by omega)).mpr hd2
  · obtain ⟨q1, q2⟩ := rt_dvd e
    have q := hg n q1 q2
    obtain ⟨h', e'⟩ := q
    exact hd n ⟨h', e'⟩ ((key n h' e' (by omega)).mp ⟨C, e⟩)
theorem hh_odd {h X Y : Int} (hX : X % 2 = 1) (hY : Y % 2 = 1) (hh : h % 2 = 1) : ((h * X) * (h * Y)) % 2 = 1 := odd_mul.mpr ⟨odd_mul.mpr ⟨hh, hX⟩, odd_mul.mpr ⟨hh, hY⟩⟩
theorem hh_even {h X Y : Int} (hh : h % 2 = 0) : ∃ w, (h * X) * (h * Y) = 2 * w := ⟨(h / 2) * X * (h * Y), by
  have : h = 2 * (h / 2) := by omega
  grind⟩
section
variable {P : Q3} {g d X Y : Int} {t : Nat} (g0 : 0 < g) (hx : P.x = g * X) (hy : P.y = g * Y) (hg : ∀ n, n ∣ P.x → n ∣ P.y → n ∣ g) (d0 : 0 < d) (hd1 : d ∣ g) (hd2 : d ∣ P.a) (hd : ∀ n, n ∣ g → n ∣ P.a → n ∣ d) (hX : X % 2 = 1) (hY : Y % 2 = 1) (ht : V2 g (t + 1))
include g0 hx hy hg d0 hd1 hd2 hd hX hY ht
/-- a root: the two kinds -/
theorem kinds {n h : Int} (e : g = n * h) (hn : 1 ≤ n) : (∃ C, pw C n = P) ↔ (h % 2 = 0 ∧ n ∣ P.a) ∨ (h % 2 = 1 ∧ ∃ j f, n = 2 * j ∧ P.a = j * f ∧ f % 2 = 1) := by
  rw [rt_iff hx hy e (by omega)]
  rcases Int.emod_two_eq h with c | c
  · obtain ⟨w, hw⟩ := hh_even (X := X) (Y := Y) c
    rw [even_iff hw]
    constructor
    · intro k; exact .inl ⟨c, k⟩
    · rintro (⟨_, k⟩ | ⟨k, _⟩)
      · exact k
      · omega
  · have ne : n % 2 = 0 := by
      have h1 : (2 : Int) ^ (t + 1) ∣ n * h := by rw [← e]; exact ht.yes
      exact dvd_of_le_two (two_cancel _ c h1)
    obtain ⟨j, hj⟩ : ∃ j, n = 2 * j := ⟨n / 2, by omega⟩
    subst hj
    rw [half_iff (by omega) (hh_odd hX hY c)]
    constructor
    · rintro ⟨f, k1, k2⟩; exact .inr ⟨c, j, f, rfl, k1, k2⟩
    · rintro (⟨k, _⟩ | ⟨_, j', f, k1, k2, k3⟩)
      · omega
      · have : j = j' := by omega
        subst this
        exact ⟨f, k2, k3⟩
/-- the area has just one two fewer -/
theorem big_dbl (ha : V2 P.a t) : Big P (d * 2) := by
  have K := fun {n h} => @kinds P g d X Y t g0 hx hy hg d0 hd1 hd2 hd hX hY ht n h
  have t1 : (2 : Int) ^ t ∣ g := by
    obtain ⟨c, hc⟩ := ht.yes
    exact ⟨2 * c, by rw [hc, Int.pow_succ]; grind⟩
  have td : (2 : Int) ^ t ∣ d := hd _ t1 ha.yes
  have ntd : ¬ (2 : Int) ^ (t + 1) ∣ d := fun h => ha.no (Int.dvd_trans h hd2)
  refine ⟨by omega, ?_, fun n C hn e => ?_⟩
  · obtain ⟨e, he⟩ := hd1
    have ev : e % 2 = 0 := by
      rcases Int.emod_two_eq e with c | c
      · exact c
      · exact absurd (two_cancel _ c (by rw [← he]; exact ht.yes)) ntd
    obtain ⟨h, hh⟩ : ∃ h, e = 2 * h := ⟨e / 2, by omega⟩
    have eg : g = (d * 2) * h := by rw [he, hh]; grind
    refine (K eg (by omega)).mpr ?_
    rcases Int.emod_two_eq h with c | c
    · exfalso
      refine ht.no ?_
      obtain ⟨u, hu⟩ := td
      exact ⟨u * (h / 2), by
        have : h = 2 * (h / 2) := by omega
        rw [eg, hu, Int.pow_succ, Int.pow_succ]; grind⟩
    · obtain ⟨f, hf⟩ := hd2
      refine .inr ⟨c, d, f, by omega, hf, ?_⟩
      rcases Int.emod_two_eq f with c2 | c2
      · exfalso
        refine ha.no ?_
        obtain ⟨u, hu⟩ := td
        exact ⟨u * (f / 2), by
          have : f = 2 * (f / 2) := by omega
          rw [hf, hu, Int.pow_succ]; grind⟩
      · exact c2
  · obtain ⟨q1, q2⟩ := rt_dvd e
    obtain ⟨h, eg⟩ := hg n q1 q2
    rcases (K eg hn).mp ⟨C, e⟩ with ⟨_, k⟩ | ⟨_, j, f, rfl, k, _⟩
    · exact Int.dvd_mul_of_dvd_left (hd n ⟨h, eg⟩ k)
    · have := hd j ⟨2 * h, by rw [eg]; grind⟩ ⟨f, k⟩
      rw [Int.mul_comm d 2]
      exact Int.mul_dvd_mul_left 2 this
/-- the area has all the twos of the side, or is 0 -/
theorem big_half (ha : (2 : Int) ^ (t + 1) ∣ P.a) : Big P (d / 2) := by
  have K := fun {n h} => @kinds P g d X Y t g0 hx hy hg d0 hd1 hd2 hd hX hY ht n h
  have td : (2 : Int) ^ (t + 1) ∣ d := hd _ ht.yes ha
  have d2 : d % 2 = 0 := dvd_of_le_two td
  obtain ⟨e, he⟩ := hd1
  obtain ⟨k, hk⟩ : ∃ k, d = 2 * k := ⟨d / 2, by omega⟩
  have dk : d / 2 = k := by omega
  rw [dk]
  refine ⟨by omega, ?_, fun n C hn e' => ?_⟩
  · have eg : g = k * (2 * e) := by rw [he, hk]; grind
    exact (K eg (by omega)).mpr (.inl ⟨by omega, Int.dvd_trans ⟨2, by omega⟩ hd2⟩)
  · obtain ⟨q1, q2⟩ := rt_dvd e'
    obtain ⟨h, eg⟩ := hg n q1 q2
    rcases (K eg hn).mp ⟨C, e'⟩ with ⟨c, q⟩ | ⟨c, j, f, rfl, q, f1⟩
    · obtain ⟨u, hu⟩ := hd n ⟨h, eg⟩ q
      rcases Int.emod_two_eq u with c2 | c2
      · exact ⟨u / 2, by
          have h1 : u = 2 * (u / 2) := by omega
          have : 2 * k = 2 * (n * (u / 2)) := by rw [← hk, hu]; grind
          omega⟩
      · exfalso
        have := two_cancel _ c2 (by rw [← hu]; exact td)
        refine ht.no ?_
        obtain ⟨v, hv⟩ := this
        exact ⟨v * (h / 2), by
          have : h = 2 * (h / 2) := by omega
          rw [eg, hv, Int.pow_succ]; grind⟩
    · exfalso
      rw [q] at ha
      have h1 := two_dbl (two_cancel _ f1 ha)
      exact ht.no (Int.dvd_trans h1 ⟨h, eg⟩)
/-- the area has fewer twos -/
theorem big_few (ha : ¬ (2 : Int) ^ t ∣ P.a) : Big P d := by
  have K := fun {n h} => @kinds P g d X Y t g0 hx hy hg d0 hd1 hd2 hd hX hY ht n h
  refine ⟨d0, ?_, fun n C hn e => ?_⟩
  · obtain ⟨h, eg⟩ := hd1
    refine (K eg (by omega)).mpr (.inl ⟨?_, hd2⟩)
    rcases Int.emod_two_eq h with c | c
    · exact c
    · exfalso
      refine ha (Int.dvd_trans ?_ hd2)
      have := two_cancel _ c (by rw [← eg]; exact ht.yes)
      obtain ⟨v, hv⟩ := this
      exact ⟨2 * v, by rw [hv, Int.pow_succ]; grind⟩
  · obtain ⟨q1, q2⟩ := rt_dvd e
    obtain ⟨h, eg⟩ := hg n q1 q2
    rcases (K eg hn).mp ⟨C, e⟩ with ⟨_, k⟩ | ⟨c, j, f, rfl, k, _⟩
    · exact hd n ⟨h, eg⟩ k
    · exfalso
      have := two_half (two_cancel _ c (by rw [← eg]; exact ht.yes))
      exact ha (Int.dvd_trans this ⟨f, k⟩)
end
end RT
set_option maxRecDepth 100000
set_option maxHeartbeats 4000000
namespace GR
open RT
/-! ### places as a group: plain laws -/
def mul (p q : Q3) : Q3 := ⟨p.x + q.x, p.y + q.y, p.a + q.a + p.x * q.y⟩
def inv (p : Q3) : Q3 := ⟨-p.x, -p.y, p.x * p.y - p.a⟩
def one : Q3 := ⟨0, 0, 0⟩
def tw (p q : Q3) : Int := p.x * q.y - q.x * p.y
def up (p : Q3) (k : Int) : Q3 := ⟨p.x, p.y, p.a + k⟩
def seen (p h : Q3) : Q3 := ⟨p.x, p.y, p.a + tw h p⟩
theorem mul_assoc (p q r : Q3) : mul (mul p q) r = mul p (mul q r) := by ext <;> simp only [mul] <;> grind
theorem one_mul (p : Q3) : mul one p = p := by ext <;> simp only [mul, one] <;> grind
theorem mul_one (p : Q3) : mul p one = p := by ext <;> simp only [mul, one] <;> grind
theorem inv_mul (p : Q3) : mul (inv p) p = one := by ext <;> simp only [mul, inv, one] <;> grind
theorem mul_inv (p : Q3) : mul p (inv p) = one := by ext <;> simp only [mul, inv, one] <;> grind
theorem inv_inv (p : Q3) : inv (inv p) = p := by ext <;> simp only [inv] <;> grind
theorem inv_prod (p q : Q3) : inv (mul p q) = mul (inv q) (inv p) := by ext <;> simp only [mul, inv] <;> grind
theorem inv_one : inv one = one := by ext <;> simp only [inv, one] <;> grind
theorem seen_eq (p h : Q3) : seen p h = mul (mul h p) (inv h) := by ext <;> simp only [mul, inv, seen, tw] <;> grind
theorem seen_seen (p g h : Q3) : seen (seen p g) h = seen p (mul h g) := by ext <;> simp only [mul, seen, tw] <;> grind
theorem seen_back (p g : Q3) : seen (seen p g) (inv g) = p := by ext <;> simp only [inv, seen, tw] <;> grind
theorem seen_mul (p q g : Q3) : seen (mul p q) g = mul (seen p g) (seen q g) := by ext <;> simp only [mul, seen, tw] <;> grind
theorem seen_up (p : Q3) (k : Int) : seen p ⟨0, 0, k⟩ = p := by ext <;> simp only [seen, tw] <;> grind
theorem seen_pw (p : Q3) (k : Int) : seen p (pw p k) = p := by ext <;> simp only [seen, tw, pw] <;> grind
theorem seen_self (p : Q3) : seen p p = p := by ext <;> simp only [seen, tw] <;> grind
theorem seen_inv (p : Q3) : seen p (inv p) = p := by ext <;> simp only [seen, tw, inv] <;> grind
theorem pw_add (p : Q3) (m n : Int) : pw p (m + n) = mul (pw p m) (pw p n) := by
  have h1 := hlf2 m
  have h2 := hlf2 n
  have h3 := hlf2 (m + n)
  ext <;> simp only [pw, mul]
  · grind
  · grind
  · have : hlf (m + n) = hlf m + hlf n + m * n := by grind
    rw [this]; grind
theorem hlf_neg (n : Int) : hlf (-n) = n * n - hlf n := by
  have h1 := hlf2 n
  have h2 := hlf2 (-n)
  grind
theorem pw_neg (p : Q3) (n : Int) : pw p (-n) = inv (pw p n) := by
  ext <;> simp only [pw, inv]
  · grind
  · grind
  · rw [hlf_neg]; grind
theorem pw_zero (p : Q3) : pw p 0 = one := by
  have : hlf 0 = 0 := by decide
  ext <;> simp [pw, one, this]
theorem pw_neg1 (p : Q3) : pw p (-1) = inv p := by rw [pw_neg, pw_one]
/-! renamings: E, N the images of the steps east and north -/
def ren (E N p : Q3) : Q3 := up (mul (pw N p.y) (pw E p.x)) (tw E N * p.a)
theorem hlf_add (m n : Int) : hlf (m + n) = hlf m + hlf n + m * n := by
  have h1 := hlf2 m
  have h2 := hlf2 n
  have h3 := hlf2 (m + n)
  grind
theorem ren_mul (E N p q : Q3) : ren E N (mul p q) = mul (ren E N p) (ren E N q) := by
  ext <;> simp only [ren, up, mul, pw, tw]
  · grind
  · grind
  · rw [hlf_add, hlf_add]; grind
theorem ren_one (E N : Q3) : ren E N one = one := by
  have h : hlf 0 = 0 := by decide
  ext <;> simp [ren, up, mul, pw, tw, one, h]
theorem mul_left {p q r : Q3} (h : mul p q = mul p r) : q = r := by
  have := congrArg (mul (inv p)) h
  rwa [← mul_assoc, ← mul_assoc, inv_mul, one_mul, one_mul] at this
theorem ren_inv (E N p : Q3) : ren E N (inv p) = inv (ren E N p) := by
  apply mul_left (p := ren E N p)
  rw [← ren_mul, mul_inv, mul_inv, ren_one]
theorem ren_e (E N : Q3) : ren E N ⟨1, 0, 0⟩ = E := by
  have h : hlf 0 = 0 := by decide
  have h1 : hlf 1 = 0 := by decide
  ext <;> simp [ren, up, mul, pw, tw, h, h1]
theorem ren_n (E N : Q3) : ren E N ⟨0, 1, 0⟩ = N := by
  have h : hlf 0 = 0 := by decide
  have h1 : hlf 1 = 0 := by decide
  ext <;> simp [ren, up, mul, pw, tw, h, h1]
/-! walks of letters -/
inductive L4 where
  | e | n | w | s
  deriving DecidableEq
def L4.cp : L4 → Nat
  | .e => 101
  | .n => 110
  | .w => 119
  | .s => 115
def L4.back : L4 → L4
  | .e => .w
  | .n => .s
  | .w => .e
  | .s => .n
def L4.st : L4 → Q3
  | .e => ⟨1, 0, 0⟩
  | .n => ⟨0, 1, 0⟩
  | .w => ⟨-1, 0, 0⟩
  | .s => ⟨0, -1, 0⟩
def endF (f : L4 → Q3) (p : Q3) (ls : List L4) : Q3 := ls.foldl (fun q l => mul q (f l)) p
theorem endF_mul (f : L4 → Q3) : ∀ (ls : List L4) (p : Q3), endF f p ls = mul p (endF f one ls)
  | [], p => by simp only [endF, List.foldl_nil, mul_one]
  | l :: ls, p => by
    have h1 := endF_mul f ls (mul p (f l))
    have h2 := endF_mul f ls (mul one (f l))
    simp only [endF, List.foldl_cons] at h1 h2 ⊢
    rw [h1, h2, one_mul, mul_assoc]
def endL (ls : List L4) : Q3 := endF L4.st one ls
theorem endL_app (a b : List L4) : endL (a ++ b) = mul (endL a) (endL b) := by
  unfold endL
  rw [← endF_mul]
  simp only [endF, List.foldl_append]
theorem back_st (l : L4) : l.back.st = inv l.st := by cases l <;> ext <;> simp [L4.back, L4.st, inv]
theorem endL_back (a : List L4) : endL (a.reverse.map L4.back) = inv (endL a) := by
  induction a with
  | nil => simp [endL, endF, inv_one]
  | cons l a ih =>
    have h1 : endL (l :: a) = mul l.st (endL a) := by
      show endF _ (mul one l.st) a = _
      rw [endF_mul, one_mul]; rfl
    rw [List.reverse_cons, List.map_append, endL_app, ih, h1, inv_prod]
    congr 1
    show mul one l.back.st = _
    rw [one_mul, back_st]
/-- how far so many letters come -/
theorem end_bd (f : L4 → Q3) (B C : Nat) (hf : ∀ l, (f l).x.natAbs ≤ B ∧ (f l).y.natAbs ≤ B ∧ (f l).a.natAbs ≤ C) : ∀ (ls : List L4) (p : Q3) (k : Nat), p.x.natAbs ≤ k * B → p.y.natAbs ≤ k * B → p.a.natAbs ≤ k * C + k * k * (B * B) →
    (endF f p ls).x.natAbs ≤ (k + ls.length) * B ∧ (endF f p ls).y.natAbs ≤ (k + ls.length) * B ∧ (endF f p ls).a.natAbs ≤ (k + ls.length) * C + (k + ls.length) * (k + ls.length) * (B * B)
  | [], p, k, h1, h2, h3 => ⟨h1, h2, h3⟩
  | l :: ls, p, k, h1, h2, h3 => by
    obtain ⟨b1, b2, b3⟩ := hf l
    have e1 : (k + 1) * B = k * B + B := by rw [Nat.add_mul, Nat.one_mul]
    have e2 : (k + 1) * C = k * C + C := by rw [Nat.add_mul, Nat.one_mul]
    have e3 : (k + 1) * (k + 1) * (B * B) = k * k * (B * B) + 2 * (k * (B * B)) + B * B := by grind
    have e4 : (p.x * (f l).y).natAbs ≤ k * (B * B) := by
      rw [Int.natAbs_mul]
      have := Nat.mul_le_mul h1 b2
      rwa [Nat.mul_assoc] at this
    have := end_bd f B C hf ls (mul p (f l)) (k + 1) (by simp only [mul]; omega) (by simp only [mul]; omega) (by simp only [mul]; omega)
    rw [show k + (l :: ls).length = k + 1 + ls.length by simp; omega]
    exact this
theorem ren_same (p : Q3) : ren ⟨1, 0, 0⟩ ⟨0, 1, 0⟩ p = p := by
  ext <;> simp only [ren, up, mul, pw, tw] <;> grind
theorem ren_view (p h : Q3) : ren ⟨1, 0, -h.y⟩ ⟨0, 1, h.x⟩ p = seen p h := by
  ext <;> simp only [ren, up, mul, pw, tw, seen] <;> grind
theorem ren_up (E N : Q3) (k : Int) : ren E N ⟨0, 0, k⟩ = ⟨0, 0, tw E N * k⟩ := by
  have h : hlf 0 = 0 := by decide
  ext <;> simp [ren, up, mul, pw, tw, h]
def img (E N : Q3) : L4 → Q3
  | .e => E
  | .n => N
  | .w => inv E
  | .s => inv N
theorem ren_st (E N : Q3) (l : L4) : ren E N l.st = img E N l := by
  cases l
  · exact ren_e E N
  · exact ren_n E N
  · show ren E N ⟨-1, 0, 0⟩ = inv E
    rw [show (⟨-1, 0, 0⟩ : Q3) = inv ⟨1, 0, 0⟩ by ext <;> simp [inv], ren_inv, ren_e]
  · show ren E N ⟨0, -1, 0⟩ = inv N
    rw [show (⟨0, -1, 0⟩ : Q3) = inv ⟨0, 1, 0⟩ by ext <;> simp [inv], ren_inv, ren_n]
theorem ren_endF (E N : Q3) : ∀ (ls : List L4) (p : Q3), ren E N (endF L4.st p ls) = endF (img E N) (ren E N p) ls
  | [], p => rfl
  | l :: ls, p => by
    show ren E N (endF L4.st (mul p l.st) ls) = endF (img E N) (mul (ren E N p) (img E N l)) ls
    rw [ren_endF E N ls, ren_mul, ren_st]
theorem ren_end (E N : Q3) (ls : List L4) : ren E N (endL ls) = endF (img E N) one ls := by
  have := ren_endF E N ls one
  rwa [ren_one] at this
theorem ren_ren (A B E N p : Q3) : ren A B (ren E N p) = ren (ren A B E) (ren A B N) p := by
  have hh : ∀ k : Int, hlf (k * 2) = 2 * hlf k + k * k := fun k => by
    have h1 := hlf2 k
    have h2 := hlf2 (k * 2)
    grind
  have key : ∀ (q : Q3) (k : Int), ren A B (pw q k) = pw (ren A B q) k := fun q k => by
    have h1 := hlf2 k
    ext <;> simp only [ren, up, mul, pw, tw]
    · grind
    · grind
    · have e1 := hlf2 (k * q.y)
      have e2 := hlf2 (k * q.x)
      have e3 := hlf2 q.x
      have e4 := hlf2 q.y
      have e5 := hlf_mul q.y k
      have e6 := hlf_mul q.x k
      rw [Int.mul_comm k q.y, Int.mul_comm k q.x, ← e5, ← e6]
      generalize hlf k = H at *
      generalize hlf q.x = HX at *
      generalize hlf q.y = HY at *
      have this : k * k = 2 * H + k := by grind
      clear e1 e2 e3 e4 e5 e6 h1 hh
      have t : q.y * k * B.x * (q.x * k * A.y) = (k * k) * (q.x * q.y * B.x * A.y) := by grind
      rw [t, this]
      clear t this
      grind
  have up_mul : ∀ (q : Q3) (k : Int), up q k = mul q ⟨0, 0, k⟩ := fun q k => by ext <;> simp [up, mul]
  have e0 : ∀ X Y q : Q3, ren X Y q = mul (mul (pw Y q.y) (pw X q.x)) ⟨0, 0, tw X Y * q.a⟩ := fun X Y q => by rw [← up_mul]; rfl
  rw [e0 E N p, ren_mul, ren_mul, key, key, ren_up, e0 (ren A B E) (ren A B N) p]
  congr 1
  ext
  · rfl
  · rfl
  · simp only [tw, ren, up, mul, pw]
    grind
end GR
set_option maxRecDepth 100000
set_option maxHeartbeats 4000000
namespace GR
open RT DL
/-! ### how many bits places have -/
structure B3 (n : Nat) (p : Q3) : Prop where
  x : Bd p.x n
  y : Bd p.y n
  a : Bd p.a n
theorem B3.le {n m : Nat} {p : Q3} (h : B3 n p) (k : n ≤ m) : B3 m p := ⟨h.x.le k, h.y.le k, h.a.le k⟩
theorem two_mul_pow (n : Nat) : (2 : Nat) ^ (2 * n) = 2 ^ n * 2 ^ n := by rw [← Nat.pow_add]; congr 1; omega
theorem pow_ge (n : Nat) : (2 : Nat) ^ n ≤ 2 ^ (2 * n) := Nat.pow_le_pow_right (by decide) (by omega)
theorem bd_prod {x y : Int} {n : Nat} (h : Bd x n) (k : Bd y n) : (x * y).natAbs < 2 ^ (2 * n) := by
  rw [Int.natAbs_mul, two_mul_pow]
  exact Nat.mul_lt_mul'' h.lt k.lt
theorem B3.mul {n : Nat} {p q : Q3} (h : B3 n p) (k : B3 n q) : B3 (2 * n + 2) (mul p q) := by
  have e : (2 : Nat) ^ (2 * n + 2) = 4 * 2 ^ (2 * n) := by rw [Nat.pow_succ, Nat.pow_succ]; omega
  have g := pow_ge n
  have h1 := h.x.lt
  have h2 := h.y.lt
  have h3 := h.a.lt
  have k1 := k.x.lt
  have k2 := k.y.lt
  have k3 := k.a.lt
  have m := bd_prod h.x k.y
  refine ⟨⟨?_⟩, ⟨?_⟩, ⟨?_⟩⟩ <;> simp only [GR.mul] <;> omega
theorem B3.inv {n : Nat} {p : Q3} (h : B3 n p) : B3 (2 * n + 1) (inv p) := by
  have e : (2 : Nat) ^ (2 * n + 1) = 2 * 2 ^ (2 * n) := by rw [Nat.pow_succ]; omega
  have g := pow_ge n
  have h1 := h.x.lt
  have h2 := h.y.lt
  have h3 := h.a.lt
  have m := bd_prod h.x h.y
  refine ⟨⟨?_⟩, ⟨?_⟩, ⟨?_⟩⟩ <;> simp only [GR.inv] <;> omega
theorem B3.seen {n : Nat} {p q : Q3} (h : B3 n p) (k : B3 n q) : B3 (2 * n + 2) (seen p q) := by
  have e : (2 : Nat) ^ (2 * n + 2) = 4 * 2 ^ (2 * n) := by rw [Nat.pow_succ, Nat.pow_succ]; omega
  have g := pow_ge n
  have h1 := h.x.lt
  have h2 := h.y.lt
  have h3 := h.a.lt
  have m := bd_prod k.x h.y
  have m2 := bd_prod h.x k.y
  refine ⟨⟨?_⟩, ⟨?_⟩, ⟨?_⟩⟩ <;> simp only [GR.seen, GR.tw] <;> omega
theorem bd_tw {n : Nat} {p q : Q3} (h : B3 n p) (k : B3 n q) : Bd (tw p q) (2 * n + 1) := by
  have e : (2 : Nat) ^ (2 * n + 1) = 2 * 2 ^ (2 * n) := by rw [Nat.pow_succ]; omega
  have m := bd_prod h.x k.y
  have m2 := bd_prod k.x h.y
  refine ⟨?_⟩
  simp only [tw]
  omega
theorem bd_hlf {k : Int} {m : Nat} (hk : Bd k m) : Bd (hlf k) (2 * m + 1) := by
  have h := hk.lt
  have e : (2 : Nat) ^ (2 * m + 1) = 2 * 2 ^ (2 * m) := by rw [Nat.pow_succ]; omega
  have h2 := hlf2 k
  have m2 := bd_prod hk hk
  have g := pow_ge m
  refine ⟨?_⟩
  rw [Int.mul_sub, Int.mul_one] at h2
  omega
theorem B3.pw {n m : Nat} {p : Q3} {k : Int} (h : B3 n p) (hk : Bd k m) : B3 (2 * n + 2 * m + 2) (pw p k) := by
  have b1 : Bd (k * p.x) (m + n) := @bd_mul _ _ _ _ hk h.x
  have b2 : Bd (k * p.y) (m + n) := @bd_mul _ _ _ _ hk h.y
  have b3 : Bd (k * p.a) (m + n) := @bd_mul _ _ _ _ hk h.a
  have b4 : Bd (hlf k * p.x * p.y) (2 * m + 1 + n + n) := @bd_mul _ _ _ _ (@bd_mul _ _ _ _ (bd_hlf hk) h.x) h.y
  refine ⟨b1.le (by omega), b2.le (by omega), ⟨?_⟩⟩
  have h1 := (b3.le (show m + n ≤ 2 * n + 2 * m + 1 by omega)).lt
  have h2 := (b4.le (show 2 * m + 1 + n + n ≤ 2 * n + 2 * m + 1 by omega)).lt
  have h3 : (2 : Nat) ^ (2 * n + 2 * m + 2) = 2 * 2 ^ (2 * n + 2 * m + 1) := by rw [Nat.pow_succ]; omega
  show (k * p.a + hlf k * p.x * p.y).natAbs < _
  omega
theorem B3.up {n : Nat} {p : Q3} {k : Int} (h : B3 n p) (hk : Bd k n) : B3 (n + 1) (up p k) := by
  have e : (2 : Nat) ^ (n + 1) = 2 * 2 ^ n := by rw [Nat.pow_succ]; omega
  have h1 := h.x.lt
  have h2 := h.y.lt
  have h3 := h.a.lt
  have h4 := hk.lt
  refine ⟨⟨?_⟩, ⟨?_⟩, ⟨?_⟩⟩ <;> simp only [GR.up] <;> omega
theorem B3.ren {n : Nat} {E N p : Q3} (h1 : B3 n E) (h2 : B3 n N) (h3 : B3 n p) : B3 (10 * n + 10) (ren E N p) := by
  have a := (h2.pw h3.y).mul (h1.pw h3.x)
  have t := bd_tw h1 h2
  have u : Bd (tw E N * p.a) (2 * n + 1 + n) := @bd_mul _ _ _ _ t h3.a
  exact ((a.le (show _ ≤ 10 * n + 9 by omega)).up (u.le (show _ ≤ 10 * n + 9 by omega))).le (by omega)
instance : DecidableEq RT.Q3 := fun p q => decidable_of_iff (p.x = q.x ∧ p.y = q.y ∧ p.a = q.a) Q3.ext_iff.symm
theorem bd_prod2 {x y : Int} {n m : Nat} (h : Bd x n) (k : Bd y m) : (x * y).natAbs < 2 ^ (n + m) := by
  rw [Int.natAbs_mul, Nat.pow_add]
  exact Nat.mul_lt_mul'' h.lt k.lt
theorem B3.ren2 {n m : Nat} {E N p : Q3} (h1 : B3 n E) (h2 : B3 n N) (h3 : B3 m p) : B3 (2 * n + 2 * m + 6) (GR.ren E N p) := by
  have e : (2 : Nat) ^ (2 * n + 2 * m + 6) = 64 * 2 ^ (2 * n + 2 * m) := by rw [Nat.pow_add]; omega
  have q1 := bd_prod2 h3.y h2.x
  have q2 := bd_prod2 h3.x h1.x
  have q3 := bd_prod2 h3.y h2.y
  have q4 := bd_prod2 h3.x h1.y
  have q5 := bd_prod2 h3.y h2.a
  have q6 := bd_prod2 h3.x h1.a
  have q7 := bd_prod2 (@bd_mul _ _ _ _ (bd_hlf h3.y) h2.x) h2.y
  have q8 := bd_prod2 (@bd_mul _ _ _ _ (bd_hlf h3.x) h1.x) h1.y
  have q9 := bd_prod2 (@bd_mul _ _ _ _ h3.y h2.x) (@bd_mul _ _ _ _ h3.x h1.y)
  have q10 := bd_prod2 (bd_tw h1 h2) h3.a
  have l1 : (2 : Nat) ^ (m + n) ≤ 2 ^ (2 * n + 2 * m) := Nat.pow_le_pow_right (by decide) (by omega)
  have l2 : (2 : Nat) ^ (2 * m + 1 + n + n) = 2 * 2 ^ (2 * n + 2 * m) := by rw [show 2 * m + 1 + n + n = 2 * n + 2 * m + 1 by omega, Nat.pow_succ]; omega
  have l3 : (2 : Nat) ^ (m + n + (m + n)) = 2 ^ (2 * n + 2 * m) := by congr 1; omega
  have l4 : (2 : Nat) ^ (2 * n + 1 + m) ≤ 2 * 2 ^ (2 * n + 2 * m) := Nat.le_trans (Nat.pow_le_pow_right (by decide) (show 2 * n + 1 + m ≤ 2 * n + 2 * m + 1 by omega)) (by rw [Nat.pow_succ]; omega)
  rw [l2] at q7 q8
  rw [l3] at q9
  have ez : (2 : Nat) ^ (n + m) = 2 ^ (m + n) := by rw [Nat.add_comm]
  generalize (2 : Nat) ^ (2 * n + 2 * m) = Z at *
  refine ⟨⟨?_⟩, ⟨?_⟩, ⟨?_⟩⟩ <;> simp only [GR.ren, GR.up, GR.mul, RT.pw] <;> omega
theorem one_bd (n : Nat) : B3 n one := ⟨⟨Nat.two_pow_pos n⟩, ⟨Nat.two_pow_pos n⟩, ⟨Nat.two_pow_pos n⟩⟩
abbrev tP (p : Q3) : D := .tup [.int p.x, .int p.y, .int p.a]
abbrev pP (p : Q3) : D := .ins "Place" [([120], .int p.x), ([121], .int p.y), ([97, 114, 101, 97], .int p.a)]
theorem ne_self (p : Q3) : dNe (tP p) (tP p) = some (.bl false) := by simp [eqPl, eqPls]
theorem eq_self (p : Q3) : dEq (tP p) (tP p) = some (.bl true) := by simp [eqPl, eqPls]
abbrev lD (l : L4) : D := .str [l.cp]
end GR
namespace DL
theorem rngL_succ (m : Int) (k : Nat) : rngL m (k + 1) = .int m :: rngL (m + 1) k := by
  unfold rngL
  rw [List.range_succ_eq_map, List.map_cons, List.map_map]
  simp only [Int.natCast_zero, Int.add_zero, List.cons.injEq, true_and]
  apply List.map_congr_left
  intro i _
  show D.int (m + ((i + 1 : Nat) : Int)) = D.int (m + 1 + (i : Int))
  congr 1
  omega
end DL
set_option maxRecDepth 100000
set_option maxHeartbeats 4000000
namespace W_k02
open DL
instance : Bd (2 : Int) 2 := ⟨by decide⟩
instance : Bd (3 : Int) 2 := ⟨by decide⟩
instance : Bd (5 : Int) 3 := ⟨by decide⟩
instance : Bd (6 : Int) 3 := ⟨by decide⟩
instance : Bd (7 : Int) 3 := ⟨by decide⟩
instance : Bd (9 : Int) 4 := ⟨by decide⟩
instance : Bd (10 : Int) 4 := ⟨by decide⟩
instance : Bd (16 : Int) 5 := ⟨by decide⟩
instance : Bd (18 : Int) 5 := ⟨by decide⟩
instance : Bd (19 : Int) 5 := ⟨by decide⟩
instance : Bd (24 : Int) 5 := ⟨by decide⟩
instance : Bd (30 : Int) 5 := ⟨by decide⟩
instance : Bd (37 : Int) 6 := ⟨by decide⟩
instance : Bd (40 : Int) 6 := ⟨by decide⟩
instance : Bd (41 : Int) 6 := ⟨by decide⟩
instance : Bd (50 : Int) 6 := ⟨by decide⟩
instance : Bd (63 : Int) 6 := ⟨by decide⟩
instance : Bd (73 : Int) 7 := ⟨by decide⟩
instance : Bd (103 : Int) 7 := ⟨by decide⟩
instance : Bd (40177 : Int) 16 := ⟨by decide⟩
instance : Bd (52489 : Int) 16 := ⟨by decide⟩
instance : Bd (70019 : Int) 17 := ⟨by decide⟩
instance : Bd (100000 : Int) 17 := ⟨by decide⟩
instance : Bd (10000000 : Int) 24 := ⟨by decide⟩
instance : Bd (2147483269 : Int) 31 := ⟨by decide⟩
instance : Bd (2147483323 : Int) 31 := ⟨by decide⟩
instance : Bd (2147483353 : Int) 31 := ⟨by decide⟩
instance : Bd (2147483399 : Int) 31 := ⟨by decide⟩
instance : Bd (1000000000000000000 : Int) 60 := ⟨by decide⟩
instance : Bd (1000000000000000000000000000000 : Int) 100 := ⟨by decide⟩
instance : Bd (100000000000000000000000000000000000000000000000000 : Int) 167 := ⟨by decide⟩
abbrev penD (cs : List Int) (c l : Int) : List (DK × D) := [(.s [99, 101, 108, 108, 115], .lst (cs.map D.int)), (.s [115, 116, 111, 112], .int c), (.s [114, 101, 115, 116], .int l)]
def Pen (n : Nat) (S : List Cell) : Prop := ∃ cs c l, S = [.tab "_law_refusals_right", .dic (penD cs c l)] ∧ 0 ≤ c ∧ c ≤ n ∧ 0 ≤ l
theorem Pen.mono {n m : Nat} {S : List Cell} (h : Pen n S) (hm : n ≤ m) : Pen m S := by
  obtain ⟨cs, c, l, h1, h2, h3, h4⟩ := h
  exact ⟨cs, c, l, h1, h2, by omega, h4⟩
theorem draw_ok {n : Nat} {S : List Cell} {p : Int} (hS : Pen n S) (hn : n < 2 ^ 20) (hp : 0 < p) (hp2 : p < 2 ^ 60) : ∃ d S', g__law_draw [.cell 1, .int p] S = .ok (.int d) S' ∧ 0 ≤ d ∧ d < p ∧ Pen (n + 1) S' := by
  obtain ⟨cs, c, l, rfl, c0, c1, l0⟩ := hS
  have bp : Bd p 60 := ⟨by omega⟩
  have bc : Bd c 20 := ⟨by omega⟩
  have dp : divOk p = true := divOk_of bp (by omega) (by omega)
  have hp' : p ≠ 0 := by omega
  have m1 := fun x : Int => Int.fmod_nonneg_of_pos x hp
  have m2 := fun x : Int => Int.fmod_lt_of_pos x hp
  have ndk : ∀ (a b c : D), keysNd [(.s [99, 101, 108, 108, 115], a), (.s [115, 116, 111, 112], b), (.s [114, 101, 115, 116], c)] = true := fun a b c => rfl
  have mc (x : Int) : mulOk (x.fmod 2147483269) 40177 = true := by
    have : Bd (x.fmod 2147483269) 31 := .of_range (m := 2147483269) (Int.fmod_nonneg_of_pos _ (by decide)) (Int.fmod_lt_of_pos _ (by decide)) (by decide)
    exact mulOk_bd (by decide)
  have mb (x : Int) : mulOk (x.fmod 2147483323) (x.fmod 2147483323 + 70019) = true := by
    have : Bd (x.fmod 2147483323) 31 := .of_range (m := 2147483323) (Int.fmod_nonneg_of_pos _ (by decide)) (Int.fmod_lt_of_pos _ (by decide)) (by decide)
    exact mulOk_bd (by decide)
  have me (x : Int) : mulOk (x.fmod 2147483353) (x.fmod 2147483353) = true := by
    have : Bd (x.fmod 2147483353) 31 := .of_range (m := 2147483353) (Int.fmod_nonneg_of_pos _ (by decide)) (Int.fmod_lt_of_pos _ (by decide)) (by decide)
    exact mulOk_bd (by decide)
  have mf (x : Int) : mulOk 19 (x.fmod 2147483353) = true := by
    have : Bd (x.fmod 2147483353) 31 := .of_range (m := 2147483353) (Int.fmod_nonneg_of_pos _ (by decide)) (Int.fmod_lt_of_pos _ (by decide)) (by decide)
    exact mulOk_bd (by decide)
  have q0 : mulOk 73 c = true := mulOk_bd (by decide)
  have q1 : mulOk 52489 c = true := mulOk_bd (by decide)
  have q2 : mulOk 103 c = true := mulOk_bd (by decide)
  have qs : mulOk (52489 * c) c = true := mulOk_bd (by decide)
  have qd : divOk 16 = true := by decide
  by_cases a1 : p ≤ l
  · simp [g__law_draw, b__law_draw, fnD, dLook, dPut, dp, hp', ndk, a1]
    exact ⟨_, _, ⟨rfl, rfl⟩, m1 _, m2 _, cs, c, _, rfl, c0, by omega, Int.fdiv_nonneg l0 (by omega)⟩
  · by_cases a2 : cs = []
    · subst a2
      have a3 : ¬ c < 0 := by omega
      simp [g__law_draw, b__law_draw, fnD, dLook, dPut, dp, hp', ndk, a1, q0, q1, q2, qs, qd, mc, mb, me, mf, a3]
      exact ⟨_, _, ⟨rfl, rfl⟩, m1 _, m2 _, [], c + 1, l, rfl, by omega, by omega, l0⟩
    · obtain ⟨x, hx⟩ := ix_mod cs c a2
      by_cases a3 : c < cs.length ∧ 1000000000000000000 ≤ x
      · simp [g__law_draw, b__law_draw, fnD, dLook, dPut, dp, hp', ndk, a1, q0, q1, q2, qs, qd, mc, mb, me, mf, a2, hx, a3]
        exact ⟨_, _, ⟨rfl, rfl⟩, m1 _, m2 _, cs, c + 1, _, rfl, by omega, by omega, Int.fdiv_nonneg (by omega) (by omega)⟩
      · by_cases a4 : c < cs.length
        · have a5 : ¬ 1000000000000000000 ≤ x := fun h => a3 ⟨a4, h⟩
          simp [g__law_draw, b__law_draw, fnD, dLook, dPut, dp, hp', ndk, a1, q0, q1, q2, qs, qd, mc, mb, me, mf, a2, hx, a4, a5]
          exact ⟨_, _, ⟨rfl, rfl⟩, m1 _, m2 _, cs, c + 1, l, rfl, by omega, by omega, l0⟩
        · simp [g__law_draw, b__law_draw, fnD, dLook, dPut, dp, hp', ndk, a1, q0, q1, q2, qs, qd, mc, mb, me, mf, a2, hx, a4]
          exact ⟨_, _, ⟨rfl, rfl⟩, m1 _, m2 _, cs, c + 1, l, rfl, by omega, by omega, l0⟩
theorem begin_ok (ns : List Int) : ∃ S, g__law_pen [.scr (ns.map D.int)] [.tab "_law_refusals_right"] = .ok (.cell 1) S ∧ Pen 0 S := by
  have e : cutD (ns.map D.int) none (some 63) = (cutD ns none (some 63)).map D.int := by
    simp [cutD, List.map_drop, List.map_take]
  have k : ∀ a b c : D, keysNd [(.s [99, 101, 108, 108, 115], a), (.s [115, 116, 111, 112], b), (.s [114, 101, 115, 116], c)] = true := fun a b c => rfl
  simp [g__law_pen, b__law_pen, fnD, e, k]
  exact ⟨_, 0, 0, rfl, by decide, by decide, by decide⟩
theorem pick_ok {n : Nat} {S : List Cell} {xs : List D} (hS : Pen n S) (hn : n < 2 ^ 20) (h0 : xs ≠ []) (h1 : xs.length < 1000) : ∃ d S', g__law_pick [.cell 1, .lst xs] S = .ok d S' ∧ d ∈ xs ∧ Pen (n + 1) S' := by
  have hl : (0 : Int) < xs.length := by
    cases xs with
    | nil => exact absurd rfl h0
    | cons a r => simp
  obtain ⟨d, S', e, d0, d1, hP⟩ := draw_ok hS hn hl (by omega)
  obtain ⟨k, rfl⟩ := Int.eq_ofNat_of_zero_le d0
  have hk : k < xs.length := by omega
  have : L2.atI xs (k : Int) = some xs[k] := L2.atI_nat (by simp [hk])
  refine ⟨xs[k], S', ?_, List.getElem_mem _, hP⟩
  simp [g__law_pick, b__law_pick, fnD, e, this]
end W_k02
set_option maxRecDepth 100000
set_option maxHeartbeats 4000000
set_option exponentiation.threshold 4000
namespace W_k02
open DL RT GR
/-! ### places, rows: as Q3 -/
@[simp] theorem is_integer_ok (i : Int) (S : List Cell) : g_is_integer [.int i] S = .ok (.bl true) S := by
  simp [g_is_integer, b_is_integer, fnD]
@[simp] theorem init_ok (x y a : Int) (S : List Cell) : g_PlaceX_initX [.int x, .int y, .int a] S = .ok [([120], .int x), ([121], .int y), ([97, 114, 101, 97], .int a)] S := by
  simp [g_PlaceX_initX, b_PlaceX_initX, w_PlaceX_initX_0, inD, inFin, putN]
@[simp] theorem need_q (p : Q3) (S : List Cell) : g_need_place [pP p] S = .ok .non S := by
  simp [g_need_place, b_need_place, fnD]
theorem pairs_ok (k : Int) {m : Nat} (hk : Bd k m) (S : List Cell) (h : m < 40000000) : g_pairs_below [.int k] S = .ok (.int (RT.hlf k)) S := by
  have b4 : Bd (k - 1) (m + 1) := ⟨by have := hk.lt; rw [Nat.pow_succ]; have := Nat.one_le_two_pow (n := m); omega⟩
  have m1 : mulOk k (k - 1) = true := mulOk_of hk b4 (by omega)
  simp [g_pairs_below, b_pairs_below, fnD, m1, RT.hlf]
theorem power_q {p : Q3} {k : Int} {n m : Nat} (hp : B3 n p) (hk : Bd k m) (S : List Cell) (h : 2 * n + 4 * m < 90000000) : g_Place_power [pP p, .int k] S = .ok (pP (RT.pw p k)) S := by
  have m2 : mulOk k p.x = true := mulOk_of hk hp.x (by omega)
  have m3 : mulOk k p.y = true := mulOk_of hk hp.y (by omega)
  have m4 : mulOk k p.a = true := mulOk_of hk hp.a (by omega)
  have bh := bd_hlf hk
  have m5 : mulOk (RT.hlf k) p.x = true := mulOk_of bh hp.x (by omega)
  have m6 : mulOk (RT.hlf k * p.x) p.y = true := mulOk_of (@bd_mul _ _ _ _ bh hp.x) hp.y (by omega)
  have q := pairs_ok k hk S (by omega)
  simp only [RT.hlf] at q m5 m6
  simp [g_Place_power, b_Place_power, fnD, m2, m3, m4, m5, m6, q, List.lookup, RT.pw, RT.hlf]
theorem mul_q {p q : Q3} {n : Nat} (hp : B3 n p) (hq : B3 n q) (S : List Cell) (h : n < 40000000) : g_PlaceX_mulX [pP p, pP q] S = .ok (pP (GR.mul p q)) S := by
  have m1 : mulOk p.x q.y = true := mulOk_of hp.x hq.y (by omega)
  simp [g_PlaceX_mulX, b_PlaceX_mulX, fnD, m1, List.lookup, GR.mul]
theorem inv_q {p : Q3} {n : Nat} (hp : B3 n p) (S : List Cell) (h : n < 40000000) : g_PlaceX_invertX [pP p] S = .ok (pP (GR.inv p)) S := by
  have m1 : mulOk p.x p.y = true := mulOk_of hp.x hp.y (by omega)
  simp [g_PlaceX_invertX, b_PlaceX_invertX, fnD, m1, List.lookup, GR.inv]
theorem peq_q (p q : Q3) (S : List Cell) : g_PlaceX_eqX [pP p, pP q] S = .ok (.bl (decide (p = q))) S := by
  have : decide (p = q) = decide (p.x = q.x ∧ p.y = q.y ∧ p.a = q.a) := decide_eq_decide.mpr Q3.ext_iff
  rw [this]
  simp [g_PlaceX_eqX, b_PlaceX_eqX, fnD, List.lookup]
theorem home_q (p : Q3) (S : List Cell) : g_Place_is_home [pP p] S = .ok (.bl (decide (p = GR.one))) S := by
  have : decide (p = GR.one) = decide (p.x = 0 ∧ p.y = 0 ∧ p.a = 0) := decide_eq_decide.mpr Q3.ext_iff
  rw [this]
  by_cases hx : p.x = 0 <;> by_cases hy : p.y = 0 <;> by_cases ha : p.a = 0 <;> simp [g_Place_is_home, b_Place_is_home, fnD, List.lookup, hx, hy, ha]
theorem lifted_q (p : Q3) (k : Int) (S : List Cell) : g_Place_lifted [pP p, .int k] S = .ok (pP (GR.up p k)) S := by
  simp [g_Place_lifted, b_Place_lifted, fnD, List.lookup, GR.up]
theorem twist_q {p q : Q3} {n : Nat} (hp : B3 n p) (hq : B3 n q) (S : List Cell) (h : n < 40000000) : g_Place_twist [pP p, pP q] S = .ok (.int (GR.tw p q)) S := by
  have m1 : mulOk p.x q.y = true := mulOk_of hp.x hq.y (by omega)
  have m2 : mulOk q.x p.y = true := mulOk_of hq.x hp.y (by omega)
  simp [g_Place_twist, b_Place_twist, fnD, m1, m2, List.lookup, GR.tw]
/-! ### walks of letters -/
def toL (z : Int) : L4 := if z.fmod 4 = 0 then .e else if z.fmod 4 = 1 then .n else if z.fmod 4 = 2 then .w else .s
theorem fm4 (z : Int) : z.fmod 4 = 0 ∨ z.fmod 4 = 1 ∨ z.fmod 4 = 2 ∨ z.fmod 4 = 3 := by
  have h1 := Int.fmod_nonneg_of_pos z (show (0 : Int) < 4 by decide)
  have h2 := Int.fmod_lt_of_pos z (show (0 : Int) < 4 by decide)
  omega
theorem st_bd (l : L4) (n : Nat) : B3 (n + 1) l.st := by
  have h : 1 < 2 ^ (n + 1) := by have := Nat.one_le_two_pow (n := n); rw [Nat.pow_succ]; omega
  cases l <;> exact ⟨⟨by simp [L4.st]; try omega⟩, ⟨by simp [L4.st]; try omega⟩, ⟨by simp [L4.st]; try omega⟩⟩
theorem end_b3 (ls : List L4) (h : ls.length ≤ 500) : B3 30 (endL ls) := by
  have := end_bd L4.st 1 0 (fun l => by cases l <;> simp [L4.st]) ls GR.one 0 (by decide) (by decide) (by decide)
  simp only [Nat.zero_add, Nat.mul_one, Nat.mul_zero] at this
  obtain ⟨h1, h2, h3⟩ := this
  have h4 : ls.length * ls.length ≤ 500 * 500 := Nat.mul_le_mul h h
  exact ⟨⟨by unfold endL; omega⟩, ⟨by unfold endL; omega⟩, ⟨by unfold endL; omega⟩⟩
end W_k02
set_option maxRecDepth 100000
set_option maxHeartbeats 4000000
set_option exponentiation.threshold 4000
namespace W_k02
open DL RT GR
theorem w_big_nx {z f d : Int} {x3 : Sl} {S S1 : List Cell} (e : g__law_draw [.cell 1, .int 100000] S = .ok (.int d) S1) (m1 : mulOk f 100000 = true) (m2 : mulOk z 100000 = true) (h : ¬ z * 100000 < f * 100000 + d) :
    w__law_big_0 ⟨[.val (.cell 1), .val (.int z), .val (.int f), x3], S⟩ = .ok .nx ⟨[.val (.cell 1), .val (.int z), .val (.int (f * 100000 + d)), x3], S1⟩ := by
  simp [w__law_big_0, e, m1, m2, h]
theorem w_big_rt {z f d : Int} {x3 : Sl} {S S1 : List Cell} (e : g__law_draw [.cell 1, .int 100000] S = .ok (.int d) S1) (m1 : mulOk f 100000 = true) (m2 : mulOk z 100000 = true) (hz : z ≠ 0) (h : z * 100000 < f * 100000 + d) :
    w__law_big_0 ⟨[.val (.cell 1), .val (.int z), .val (.int f), x3], S⟩ = .ok (.rt (.int ((f * 100000 + d).fmod z))) ⟨[.val (.cell 1), .val (.int z), .val (.int (f * 100000 + d)), x3], S1⟩ := by
  simp [w__law_big_0, e, m1, m2, h, hz]
theorem p24 {j : Nat} (h : j ≤ 24) : (100000 : Int) ^ j < 2 ^ 400 := by
  have h1 : (100000 : Nat) ^ j ≤ 100000 ^ 24 := Nat.pow_le_pow_right (by decide) h
  have h2 : (100000 : Nat) ^ 24 < 2 ^ 400 := by decide
  have h3 := Nat.lt_of_le_of_lt h1 h2
  have e1 : (100000 : Int) ^ j = ((100000 ^ j : Nat) : Int) := by rw [Int.natCast_pow]; rfl
  have e2 : (2 : Int) ^ 400 = ((2 ^ 400 : Nat) : Int) := by rw [Int.natCast_pow]; rfl
  rw [e1, e2]
  exact Int.ofNat_lt.mpr h3
theorem big_loop {z : Int} (hz : 0 < z) (bz : Bd z 800) : ∀ (items : List D) (n j : Nat) (f : Int) (x3 : Sl) (S : List Cell), Pen n S → n + items.length < 2 ^ 20 → 0 ≤ f → f < 100000 ^ j → j + items.length ≤ 24 →
    ∃ o sl S', forL (gN 3) w__law_big_0 items ⟨[.val (.cell 1), .val (.int z), .val (.int f), x3], S⟩ = .ok o ⟨sl, S'⟩ ∧ Pen (n + items.length) S' ∧ ((∃ d, o = .rt (.int d) ∧ 0 ≤ d ∧ d < z) ∨ (o = .nx ∧ ∃ f' y3, sl = [.val (.cell 1), .val (.int z), .val (.int f'), y3]))
  | [], n, j, f, x3, S, hS, hn, h0, h1, hj => ⟨.nx, _, S, rfl, hS, .inr ⟨rfl, f, x3, rfl⟩⟩
  | i :: r, n, j, f, x3, S, hS, hn, h0, h1, hj => by
    rw [List.length_cons] at hn hj
    obtain ⟨d, S1, e, d0, d1, P1⟩ := draw_ok hS (by omega) (p := 100000) (by decide) (by decide)
    have hp := p24 (show j ≤ 24 by omega)
    have bf : Bd f 400 := ⟨by
      have : (f.natAbs : Int) < 2 ^ 400 := by omega
      exact_mod_cast this⟩
    have m1 : mulOk f 100000 = true := mulOk_of bf (show Bd 100000 17 from ⟨by decide⟩) (by decide)
    have m2 : mulOk z 100000 = true := mulOk_of bz (show Bd 100000 17 from ⟨by decide⟩) (by decide)
    by_cases h : z * 100000 < f * 100000 + d
    · have q := w_big_rt (x3 := .val i) e m1 m2 (by omega) h
      exact ⟨_, _, S1, for_rt (i := 3) q, P1.mono (by simp), .inl ⟨_, rfl, Int.fmod_nonneg_of_pos _ hz, Int.fmod_lt_of_pos _ hz⟩⟩
    · have q := w_big_nx (x3 := .val i) e m1 m2 h
      have hf : f * 100000 + d < 100000 ^ (j + 1) := by
        rw [Int.pow_succ]
        omega
      obtain ⟨o, sl, S', e2, P2, hh⟩ := big_loop hz bz r (n + 1) (j + 1) (f * 100000 + d) (.val i) S1 P1 (by omega) (by omega) hf (by omega)
      exact ⟨o, sl, S', (for_1 (i := 3) q).trans e2, P2.mono (by rw [List.length_cons]; omega), hh⟩
theorem big_ok {n : Nat} {S : List Cell} {z : Int} (hS : Pen n S) (hn : n + 30 < 2 ^ 20) (hz : 0 < z) (bz : Bd z 800) : ∃ d S', g__law_big [.cell 1, .int z] S = .ok (.int d) S' ∧ 0 ≤ d ∧ d < z ∧ Pen (n + 24) S' := by
  have hz' : z ≠ 0 := by omega
  by_cases h : z < 10000000
  · obtain ⟨d, S1, e, d0, d1, P1⟩ := draw_ok hS (by omega) (p := z) hz (by omega)
    refine ⟨d, S1, ?_, d0, d1, P1.mono (by omega)⟩
    simp [g__law_big, b__law_big, fnD, h, e]
  · obtain ⟨o, sl, S', e, P2, hh⟩ := big_loop hz bz (rngL 0 24) n 0 0 .un S hS (by simp [rngL]; omega) (by decide) (by decide) (by simp [rngL])
    have P3 : Pen (n + 24) S' := P2.mono (by simp [rngL])
    have c0 : eB (eOp2 iLt (eVar 1) (eOp2 iPow (eC (.int 10)) (eC (.int 7)))) ⟨[.val (.cell 1), .val (.int z), .un, .un], S⟩ = .ok false ⟨[.val (.cell 1), .val (.int z), .un, .un], S⟩ := by simp [h]
    have it : itR1 (aCons (eC (.int 24)) (aNil)) ⟨[.val (.cell 1), .val (.int z), .val (.int 0), .un], S⟩ = .ok (rngL 0 24) ⟨[.val (.cell 1), .val (.int z), .val (.int 0), .un], S⟩ := by simp
    have s0 : sIf (eB (eOp2 iLt (eVar 1) (eOp2 iPow (eC (.int 10)) (eC (.int 7))))) (sRet (eCall 2 g__law_draw (aCons (eVar 0) (aCons (eVar 1) (aNil))))) (sPass) ⟨[.val (.cell 1), .val (.int z), .un, .un], S⟩ = .ok .nx ⟨[.val (.cell 1), .val (.int z), .un, .un], S⟩ := (if_f c0).trans rfl
    have s1 : sSet 2 (eC (.int 0)) ⟨[.val (.cell 1), .val (.int z), .un, .un], S⟩ = .ok .nx ⟨[.val (.cell 1), .val (.int z), .val (.int 0), .un], S⟩ := rfl
    have s2 := for_it it e
    rcases hh with ⟨d, rfl, d0, d1⟩ | ⟨rfl, f, y3, rfl⟩
    · have w : b__law_big ⟨[.val (.cell 1), .val (.int z), .un, .un], S⟩ = .ok (.rt (.int d)) ⟨sl, S'⟩ := (sq_nx s0).trans ((sq_nx s1).trans (sq_rt s2))
      exact ⟨d, S', fn_rt rfl w, d0, d1, P3⟩
    · have s3 : sRet (eOp2 iMod (eVar 2) (eVar 1)) ⟨[.val (.cell 1), .val (.int z), .val (.int f), y3], S'⟩ = .ok (.rt (.int (f.fmod z))) ⟨[.val (.cell 1), .val (.int z), .val (.int f), y3], S'⟩ := by simp [hz']
      have w : b__law_big ⟨[.val (.cell 1), .val (.int z), .un, .un], S⟩ = .ok (.rt (.int (f.fmod z))) ⟨[.val (.cell 1), .val (.int z), .val (.int f), y3], S'⟩ := (sq_nx s0).trans ((sq_nx s1).trans ((sq_nx s2).trans s3))
      exact ⟨_, S', fn_rt rfl w, Int.fmod_nonneg_of_pos _ hz, Int.fmod_lt_of_pos _ hz, P3⟩
theorem whole_ok {n m : Nat} {S : List Cell} {z : Int} (hS : Pen n S) (hn : n + 30 < 2 ^ 20) (hz : 0 ≤ z) (bz : Bd z m) (hm : m ≤ 700) : ∃ d S', g__law_whole [.cell 1, .int z] S = .ok (.int d) S' ∧ Bd d m ∧ Pen (n + 24) S' := by
  have b7 := bz.le hm
  have m1 : mulOk 2 z = true := mulOk_of (show Bd 2 2 from ⟨by decide⟩) b7 (by decide)
  have b8 : Bd (2 * z + 1) 800 := ⟨by
    have := b7.lt
    have e : (2 : Nat) ^ 700 * 2 + 1 < 2 ^ 800 := by decide
    omega⟩
  obtain ⟨d, S', e, d0, d1, P⟩ := big_ok hS hn (z := 2 * z + 1) (by omega) b8
  refine ⟨d - z, S', ?_, ⟨by have := bz.lt; omega⟩, P⟩
  simp [g__law_whole, b__law_whole, fnD, m1, e]
theorem place_ok {n : Nat} {S : List Cell} {z : Int} (hS : Pen n S) (hn : n + 100 < 2 ^ 20) (hz : z = 3 ∨ z = 100000000000000000000000000000000000000000000000000) : ∃ p S', g__law_place [.cell 1, .int z] S = .ok (pP p) S' ∧ B3 400 p ∧ Pen (n + 72) S' := by
  have z0 : 0 ≤ z := by rcases hz with rfl | rfl <;> decide
  have bz : Bd z 170 := by rcases hz with rfl | rfl <;> exact ⟨by decide⟩
  have bzz : Bd (z * z) 340 := by rcases hz with rfl | rfl <;> exact ⟨by decide⟩
  have zz0 : 0 ≤ z * z := Int.mul_nonneg z0 z0
  have m1 : mulOk z z = true := mulOk_of bz bz (by decide)
  obtain ⟨x, S1, e1, b1, P1⟩ := whole_ok hS (by omega) z0 bz (by decide)
  obtain ⟨y, S2, e2, b2, P2⟩ := whole_ok P1 (by omega) z0 bz (by decide)
  obtain ⟨a, S3, e3, b3, P3⟩ := whole_ok P2 (by omega) zz0 bzz (by decide)
  refine ⟨⟨x, y, a⟩, S3, ?_, ⟨b1.le (by decide), b2.le (by decide), b3.le (by decide)⟩, P3⟩
  clear hz
  simp [g__law_place, b__law_place, fnD, e1, e2, e3, m1]
end W_k02
set_option maxRecDepth 100000
set_option maxHeartbeats 4000000
set_option exponentiation.threshold 4000
namespace W_k02
open DL RT GR
theorem home_ok (S : List Cell) : g_home_place [] S = .ok (pP GR.one) S := by
  simp [g_home_place, b_home_place, fnD, GR.one]
theorem need_loop (L : D) (S : List Cell) : ∀ (P : List Q3) (x1 : Sl), ∃ sl, forL (gN 1) w_need_places_0 (P.map pP) ⟨[.val L, x1], S⟩ = .ok .nx ⟨sl, S⟩
  | [], x1 => ⟨_, rfl⟩
  | p :: r, x1 => by
    obtain ⟨sl, e⟩ := need_loop L S r (.val (pP p))
    refine ⟨sl, ?_⟩
    rw [← e]
    simp [w_need_places_0]
theorem needs_q (P : List Q3) (S : List Cell) : g_need_places [.lst (P.map pP)] S = .ok .non S := by
  obtain ⟨sl, e⟩ := need_loop (.lst (P.map pP)) S P .un
  simp [g_need_places, b_need_places, fnD, e]
theorem prod_loop {M : Nat} (hM : M < 30000000) (L : D) (S : List Cell) : ∀ (P : List Q3) (p : Q3) (x2 : Sl), (∀ q ∈ P, B3 M q) → (∀ m, m ≤ P.length → B3 M ((P.take m).foldl GR.mul p)) →
    ∃ y2, forL (gN 2) w_product_of_0 (P.map pP) ⟨[.val L, .val (pP p), x2], S⟩ = .ok .nx ⟨[.val L, .val (pP (P.foldl GR.mul p)), y2], S⟩
  | [], p, x2, _, _ => ⟨x2, rfl⟩
  | q :: r, p, x2, h1, h2 => by
    have h0 : B3 M p := h2 0 (by simp)
    have e := mul_q h0 (h1 q (by simp)) S (by omega)
    obtain ⟨y2, e2⟩ := prod_loop hM L S r (GR.mul p q) (.val (pP q)) (fun z hz => h1 z (by simp [hz])) (fun m hm => h2 (m + 1) (by simp; omega))
    refine ⟨y2, ?_⟩
    rw [List.foldl_cons, ← e2]
    generalize GR.mul p q = z at *
    exact for_1 (i := 2) (by simp [w_product_of_0, e])
theorem product_q {M : Nat} (hM : M < 30000000) (P : List Q3) (S : List Cell) (h1 : ∀ q ∈ P, B3 M q) (h2 : ∀ m, m ≤ P.length → B3 M ((P.take m).foldl GR.mul GR.one)) : g_product_of [.lst (P.map pP)] S = .ok (pP (P.foldl GR.mul GR.one)) S := by
  obtain ⟨y2, e⟩ := prod_loop hM (.lst (P.map pP)) S P GR.one .un h1 h2
  have n := needs_q P S
  generalize P.foldl GR.mul GR.one = Z at *
  have s0 : sExpr (eCall 1 g_need_places (aCons (eVar 0) (aNil))) ⟨[.val (.lst (P.map pP)), .un, .un], S⟩ = .ok .nx ⟨[.val (.lst (P.map pP)), .un, .un], S⟩ := by simp [n]
  have s1 : sSet 1 (eMake "Place" 3 g_PlaceX_initX (aCons (eC (.int 0)) (aCons (eC (.int 0)) (aCons (eC (.int 0)) (aNil))))) ⟨[.val (.lst (P.map pP)), .un, .un], S⟩ = .ok .nx ⟨[.val (.lst (P.map pP)), .val (pP GR.one), .un], S⟩ := by simp [GR.one]
  have s2 : sFor (itSeq (eVar 0)) (gN 2) w_product_of_0 ⟨[.val (.lst (P.map pP)), .val (pP GR.one), .un], S⟩ = .ok .nx ⟨[.val (.lst (P.map pP)), .val (pP Z), y2], S⟩ := for_seq rfl rfl e
  have w : b_product_of ⟨[.val (.lst (P.map pP)), .un, .un], S⟩ = .ok (.rt (pP Z)) ⟨[.val (.lst (P.map pP)), .val (pP Z), y2], S⟩ := (sq_nx s0).trans ((sq_nx s1).trans ((sq_nx s2).trans (ret_e rfl)))
  exact fn_rt rfl w
/-! powers -/
theorem fold_rep (p : Q3) : ∀ k : Nat, (List.replicate k p).foldl GR.mul GR.one = pw p (k : Int)
  | 0 => (pw_zero p).symm
  | k + 1 => by
    rw [List.replicate_succ', List.foldl_append, fold_rep p k]
    show GR.mul (pw p (k : Int)) p = pw p ((k + 1 : Nat) : Int)
    rw [show ((k + 1 : Nat) : Int) = (k : Int) + 1 by omega, pw_add, pw_one]
theorem rep_mul (d : D) {k : Int} (h0 : 0 ≤ k) (h9 : k < 9) : dMul (.lst [d]) (.int k) = some (.lst (List.replicate k.toNat d)) := by
  have : k = 0 ∨ k = 1 ∨ k = 2 ∨ k = 3 ∨ k = 4 ∨ k = 5 ∨ k = 6 ∨ k = 7 ∨ k = 8 := by omega
  rcases this with rfl | rfl | rfl | rfl | rfl | rfl | rfl | rfl | rfl <;> rfl
theorem rep_q {p : Q3} (hp : B3 400 p) {k : Int} (h0 : 0 ≤ k) (h9 : k < 9) (S : List Cell) : g_product_of [.lst (List.replicate k.toNat (pP p))] S = .ok (pP (pw p k)) S := by
  have e := product_q (M := 900) (by decide) (List.replicate k.toNat p) S (fun q hq => by
    rw [List.mem_replicate] at hq
    rw [hq.2]; exact hp.le (by decide)) (fun m hm => by
    rw [List.length_replicate] at hm
    rw [List.take_replicate, fold_rep]
    exact (hp.pw (show Bd ((min m k.toNat : Nat) : Int) 4 from ⟨by omega⟩)).le (by decide))
  rw [fold_rep, List.map_replicate, Int.toNat_of_nonneg h0] at e
  exact e
theorem peq_t (p : Q3) (S : List Cell) : g_PlaceX_eqX [pP p, pP p] S = .ok (.bl true) S := by
  rw [peq_q, decide_eq_true rfl]
/-! steps -/
section
variable {a b o : DE} {s : DS} {p q z : Q3} {k : Int}
theorem ne_e (ha : a s = .ok (pP p) s) (hb : b s = .ok (pP q) s) (h : p = q) : eB (eOpX (ownNe "Place" g_PlaceX_eqX) a b) s = .ok false s := by
  subst h
  have e := peq_t p s.st
  simp [ha, hb, e]
theorem eq_e (ha : a s = .ok (pP p) s) (hb : b s = .ok (pP q) s) (h : p = q) : eOpX (ownO "Place" g_PlaceX_eqX) a b s = .ok (.bl true) s := by
  subst h
  have e := peq_t p s.st
  simp [ha, hb, e]
theorem pow_e (ho : o s = .ok (pP p) s) (ha : a s = .ok (.int k) s) (e : g_Place_power [pP p, .int k] s.st = .ok (pP z) s.st) : eMeth "Place" [112, 111, 119, 101, 114] 2 g_Place_power o (aCons a (aNil)) s = .ok (pP z) s := by
  simp [ho, ha, e]
theorem lift_e (ho : o s = .ok (pP p) s) (ha : a s = .ok (.int k) s) : eMeth "Place" [108, 105, 102, 116, 101, 100] 2 g_Place_lifted o (aCons a (aNil)) s = .ok (pP (GR.up p k)) s := by
  have e := lifted_q p k s.st
  generalize GR.up p k = z at *
  simp [ho, ha, e]
theorem twist_e (ho : o s = .ok (pP p) s) (ha : a s = .ok (pP q) s) (e : g_Place_twist [pP p, pP q] s.st = .ok (.int k) s.st) : eMeth "Place" [116, 119, 105, 115, 116] 2 g_Place_twist o (aCons a (aNil)) s = .ok (.int k) s := by
  simp [ho, ha, e]
theorem mul_e (ha : a s = .ok (pP p) s) (hb : b s = .ok (pP q) s) (e : g_PlaceX_mulX [pP p, pP q] s.st = .ok (pP z) s.st) : eOpX (ownO "Place" g_PlaceX_mulX) a b s = .ok (pP z) s := by
  simp [ha, hb, e]
theorem inv_e (ha : a s = .ok (pP p) s) (e : g_PlaceX_invertX [pP p] s.st = .ok (pP z) s.st) : eInv "Place" g_PlaceX_invertX a s = .ok (pP z) s := by
  simp [ha, e]
theorem home_e : eCall 0 g_home_place aNil s = .ok (pP GR.one) s := by
  have e := home_ok s.st
  simp [e]
theorem ish_e (ho : o s = .ok (pP p) s) : eMeth "Place" [105, 115, 95, 104, 111, 109, 101] 1 g_Place_is_home o aNil s = .ok (.bl (decide (p = GR.one))) s := by
  have e := home_q p s.st
  generalize decide (p = GR.one) = z at *
  simp [ho, e]
end
abbrev ps (p : Q3) (m k : Int) (x4 : Sl) (S : List Cell) : DS := ⟨[.val (.cell 1), .val (pP p), .val (.int m), .val (.int k), x4], S⟩
theorem powers_ok {n : Nat} {S : List Cell} {p : Q3} (hS : Pen n S) (hn : n + 100 < 2 ^ 20) (hp : B3 400 p) : ∃ S', g__law_powers_right [.cell 1, pP p] S = .ok (.bl true) S' ∧ Pen (n + 30) S' := by
  obtain ⟨m, S1, e1, m0, m9, P1⟩ := draw_ok hS (by omega) (p := 9) (by decide) (by decide)
  obtain ⟨z, S2, e2, hz, P2⟩ := pick_ok (xs := [.int 5, .int 1000000000000000000000000000000]) P1 (by omega) (by simp) (by simp)
  obtain ⟨z, rfl, z0, bz⟩ : ∃ x, z = .int x ∧ 0 ≤ x ∧ Bd x 110 := by
    simp only [List.mem_cons, List.not_mem_nil, or_false] at hz
    rcases hz with rfl | rfl
    · exact ⟨_, rfl, by decide, ⟨by decide⟩⟩
    · exact ⟨_, rfl, by decide, ⟨by decide⟩⟩
  obtain ⟨k, S3, e3, bk, P3⟩ := whole_ok P2 (by omega) z0 bz (by decide)
  have bm : Bd m 4 := ⟨by omega⟩
  have bnm : Bd (-m) 4 := ⟨by omega⟩
  have bkm : Bd (k + m) 111 := ⟨by have := bk.lt; omega⟩
  have bkp : Bd (k * m) 114 := @bd_mul _ _ _ _ bk bm
  have mkm : mulOk k m = true := mulOk_of bk bm (by decide)
  have q1 := power_q hp bm S3 (by decide)
  have q2 := power_q hp bnm S3 (by decide)
  have q3 := power_q hp bk S3 (by decide)
  have q4 := power_q hp bkm S3 (by decide)
  have q5 := power_q hp bkp S3 (by decide)
  have q6 := power_q hp (show Bd 0 1 from ⟨by decide⟩) S3 (by decide)
  have r1 := rep_mul (pP p) m0 m9
  have r2 := rep_q hp m0 m9 S3
  have b1 := (hp.pw bm).le (show _ ≤ 1100 by decide)
  have b3 := (hp.pw bk).le (show _ ≤ 1100 by decide)
  have i1 := inv_q b1 S3 (by decide)
  have u1 := mul_q b3 b1 S3 (by decide)
  have w1 := power_q b3 bm S3 (by decide)
  have hm := home_ok S3
  rw [pw_neg] at q2
  rw [← pw_add] at u1
  rw [pw_pw] at w1
  rw [pw_zero] at q6
  refine ⟨S3, ?_, P3.mono (by omega)⟩
  have s0 : sPar 2 3 (aCons (eCall 2 g__law_draw (aCons (eVar 0) (aCons (eC (.int 9)) (aNil)))) (aCons (eCall 2 g__law_whole (aCons (eVar 0) (aCons (eCall 2 g__law_pick (aCons (eVar 0) (aCons (eFrz (aMax (aCons (eC (.int 5)) (aCons (eOp2 iPow (eC (.int 10)) (eC (.int 30))) (aNil))))) (aNil)))) (aNil)))) (aNil))) ⟨[.val (.cell 1), .val (pP p), .un, .un, .un], S⟩ = .ok .nx (ps p m k .un S3) := by
    simp [e1, e2, e3]
  have A1 : ∀ x4, eMeth "Place" [112, 111, 119, 101, 114] 2 g_Place_power (eVar 1) (aCons (eVar 2) (aNil)) (ps p m k x4 S3) = .ok (pP (pw p m)) (ps p m k x4 S3) := fun x4 => pow_e rfl rfl q1
  have A2 : eCall 1 g_product_of (aCons (eOp2 dMul (eFrz (aMax (aCons (eVar 1) (aNil)))) (eVar 2)) (aNil)) (ps p m k .un S3) = .ok (pP (pw p m)) (ps p m k .un S3) := call_c1 (op_2 (frz_e (xs := [pP p]) (s1 := ps p m k .un S3) (by simp)) rfl r1) r2
  have A3 : eMeth "Place" [112, 111, 119, 101, 114] 2 g_Place_power (eVar 1) (aCons (eNeg (eVar 2)) (aNil)) (ps p m k .un S3) = .ok (pP (GR.inv (pw p m))) (ps p m k .un S3) := pow_e rfl (by simp) q2
  have A4 : eInv "Place" g_PlaceX_invertX (eMeth "Place" [112, 111, 119, 101, 114] 2 g_Place_power (eVar 1) (aCons (eVar 2) (aNil))) (ps p m k .un S3) = .ok (pP (GR.inv (pw p m))) (ps p m k .un S3) := inv_e (A1 _) i1
  have c1 := or_f (g := eB (eOpX (ownNe "Place" g_PlaceX_eqX) (eMeth "Place" [112, 111, 119, 101, 114] 2 g_Place_power (eVar 1) (aCons (eNeg (eVar 2)) (aNil))) (eInv "Place" g_PlaceX_invertX (eMeth "Place" [112, 111, 119, 101, 114] 2 g_Place_power (eVar 1) (aCons (eVar 2) (aNil)))))) (ne_e (A1 _) A2 rfl)
  have c1 := c1.trans (ne_e A3 A4 rfl)
  have A5 : eMeth "Place" [112, 111, 119, 101, 114] 2 g_Place_power (eVar 1) (aCons (eVar 3) (aNil)) (ps p m k .un S3) = .ok (pP (pw p k)) (ps p m k .un S3) := pow_e rfl rfl q3
  have s2 : sSet 4 (eMeth "Place" [112, 111, 119, 101, 114] 2 g_Place_power (eVar 1) (aCons (eVar 3) (aNil))) (ps p m k .un S3) = .ok .nx (ps p m k (.val (pP (pw p k))) S3) := set_e A5
  have A6 : eOpX (ownO "Place" g_PlaceX_mulX) (eVar 4) (eMeth "Place" [112, 111, 119, 101, 114] 2 g_Place_power (eVar 1) (aCons (eVar 2) (aNil))) (ps p m k (.val (pP (pw p k))) S3) = .ok (pP (pw p (k + m))) (ps p m k (.val (pP (pw p k))) S3) := mul_e rfl (A1 _) u1
  have A7 : eMeth "Place" [112, 111, 119, 101, 114] 2 g_Place_power (eVar 1) (aCons (eOp2 dAdd (eVar 3) (eVar 2)) (aNil)) (ps p m k (.val (pP (pw p k))) S3) = .ok (pP (pw p (k + m))) (ps p m k (.val (pP (pw p k))) S3) := pow_e rfl (by simp) q4
  have A8 : eMeth "Place" [112, 111, 119, 101, 114] 2 g_Place_power (eVar 4) (aCons (eVar 2) (aNil)) (ps p m k (.val (pP (pw p k))) S3) = .ok (pP (pw p (k * m))) (ps p m k (.val (pP (pw p k))) S3) := pow_e rfl rfl w1
  have A9 : eMeth "Place" [112, 111, 119, 101, 114] 2 g_Place_power (eVar 1) (aCons (eOp2 dMul (eVar 3) (eVar 2)) (aNil)) (ps p m k (.val (pP (pw p k))) S3) = .ok (pP (pw p (k * m))) (ps p m k (.val (pP (pw p k))) S3) := pow_e rfl (by simp [mkm]) q5
  have B1 : eMeth "Place" [112, 111, 119, 101, 114] 2 g_Place_power (eVar 1) (aCons (eC (.int 0)) (aNil)) (ps p m k (.val (pP (pw p k))) S3) = .ok (pP GR.one) (ps p m k (.val (pP (pw p k))) S3) := pow_e rfl rfl q6
  have fin : eAndT (eOpX (ownO "Place" g_PlaceX_eqX) (eMeth "Place" [112, 111, 119, 101, 114] 2 g_Place_power (eVar 4) (aCons (eVar 2) (aNil))) (eMeth "Place" [112, 111, 119, 101, 114] 2 g_Place_power (eVar 1) (aCons (eOp2 dMul (eVar 3) (eVar 2)) (aNil)))) (eOpX (ownO "Place" g_PlaceX_eqX) (eMeth "Place" [112, 111, 119, 101, 114] 2 g_Place_power (eVar 1) (aCons (eC (.int 0)) (aNil))) (eCall 0 g_home_place aNil)) (ps p m k (.val (pP (pw p k))) S3) = .ok (.bl true) (ps p m k (.val (pP (pw p k))) S3) := by
    have t1 := eq_e A8 A9 rfl
    have t2 := eq_e B1 home_e rfl
    unfold eAndT
    rw [t1]
    exact t2
  have w : b__law_powers_right ⟨[.val (.cell 1), .val (pP p), .un, .un, .un], S⟩ = .ok (.rt (.bl true)) (ps p m k (.val (pP (pw p k))) S3) :=
    (sq_nx s0).trans ((sq_nx ((if_f c1).trans rfl)).trans ((sq_nx s2).trans ((sq_nx ((if_f (ne_e A6 A7 rfl)).trans rfl)).trans (ret_e fin))))
  exact fn_rt rfl w
end W_k02
set_option maxRecDepth 100000
set_option maxHeartbeats 4000000
set_option exponentiation.threshold 4000
namespace W_k02
open DL RT GR
/-! ### refusals -/
theorem Pen.tab {n : Nat} {S : List Cell} (h : Pen n S) : S[0]? = some (.tab "_law_refusals_right") := by
  obtain ⟨cs, c, l, rfl, _⟩ := h
  rfl
theorem Pen.noLam {n : Nat} {S : List Cell} (h : Pen n S) : noLamS S = true := by
  obtain ⟨cs, c, l, rfl, _⟩ := h
  simp [noLamS, noLamC, noLamK, DL.noLam, noLams_int]
abbrev badP (o : D) : Xc := ⟨"BadPlace", [([118, 97, 108, 117, 101], o)]⟩
abbrev badN (o : D) : Xc := ⟨"BadNumber", [([118, 97, 108, 117, 101], o)]⟩
abbrev odds : List D := [.non, .bl true, .bl false, .str [49], .lst [.int 1], .tup [.int 1, .int 2], .dic []]
def Odd (o : D) : Prop := o = .non ∨ o = .bl true ∨ o = .bl false ∨ o = .str [49] ∨ o = .lst [.int 1] ∨ o = .tup [.int 1, .int 2] ∨ o = .dic []
theorem odd_of {o : D} (h : o ∈ odds) : Odd o := by
  simp only [odds, List.mem_cons, List.not_mem_nil, or_false] at h
  exact h
theorem int_bad {o : D} (h : Odd o) (S : List Cell) : g_is_integer [o] S = .ok (.bl false) S := by
  rcases h with rfl | rfl | rfl | rfl | rfl | rfl | rfl <;> simp [g_is_integer, b_is_integer, fnD, bIsi, tyOfD, tyD, isOne, mem_ty, isTy]
theorem need_bad {o : D} (h : Odd o) (S : List Cell) : g_need_place [o] S = .exc (badP o) S := by
  rcases h with rfl | rfl | rfl | rfl | rfl | rfl | rfl <;> simp [g_need_place, b_need_place, fnD, bIsi, tyOfD, tyD, isOne, mem_ty, isTy]
theorem init_1 {o : D} (h : Odd o) (z : D) (S : List Cell) : g_PlaceX_initX [.int 1, o, z] S = .exc (badN o) S := by
  have e := int_bad h S
  simp [g_PlaceX_initX, b_PlaceX_initX, w_PlaceX_initX_0, inD, e]
theorem init_0 {o : D} (h : Odd o) (z y : D) (S : List Cell) : g_PlaceX_initX [o, z, y] S = .exc (badN o) S := by
  have e := int_bad h S
  simp [g_PlaceX_initX, b_PlaceX_initX, w_PlaceX_initX_0, inD, e]
theorem pow_b {o : D} (h : Odd o) (p : Q3) (S : List Cell) : g_Place_power [pP p, o] S = .exc (badN o) S := by
  have e := int_bad h S
  simp [g_Place_power, b_Place_power, fnD, e]
theorem lift_b {o : D} (h : Odd o) (p : Q3) (S : List Cell) : g_Place_lifted [pP p, o] S = .exc (badN o) S := by
  have e := int_bad h S
  simp [g_Place_lifted, b_Place_lifted, fnD, e]
theorem twist_b {o : D} (h : Odd o) (p : Q3) (S : List Cell) : g_Place_twist [pP p, o] S = .exc (badP o) S := by
  have e := need_bad h S
  simp [g_Place_twist, b_Place_twist, fnD, e]
theorem mul_b {o : D} (h : Odd o) (p : Q3) (S : List Cell) : g_PlaceX_mulX [pP p, o] S = .exc (badP o) S := by
  rcases h with rfl | rfl | rfl | rfl | rfl | rfl | rfl <;> simp [g_PlaceX_mulX, b_PlaceX_mulX, fnD, bIsi, tyOfD, tyD, isOne, mem_ty, isTy]
theorem eq_b {o : D} (h : Odd o ∨ ∃ p, o = tP p) (p : Q3) (S : List Cell) : g_PlaceX_eqX [pP p, o] S = .ok (.bl false) S := by
  rcases h with (rfl | rfl | rfl | rfl | rfl | rfl | rfl) | ⟨q, rfl⟩ <;> simp [g_PlaceX_eqX, b_PlaceX_eqX, fnD, bIsi, tyOfD, tyD, isOne, mem_ty, isTy]
theorem prod_b {o : D} (h : Odd o) (p : Q3) (z : D) (S : List Cell) : g_product_of [.lst [pP p, o, z]] S = .exc (badP o) S := by
  have e := need_bad h S
  have e2 : g_need_places [.lst [pP p, o, z]] S = .exc (badP o) S := by
    simp [g_need_places, b_need_places, fnD, w_need_places_0, e]
  simp [g_product_of, b_product_of, fnD, e2]
abbrev plw (o : D) : D := .tup [.str [112, 108, 97, 99, 101], o]
abbrev nuw (o : D) : D := .tup [.str [110, 117, 109, 98, 101, 114], o]
inductive Told : Xc → D → Prop
  | pl (o : D) : Told (badP o) (plw o)
  | nu (o : D) : Told (badN o) (nuw o)
theorem how_x {Λ : LamR} {k : String} {S S1 : List Cell} {x : Xc} {t : D} (h : Λ k S = .exc x S1) (ht : Told x t) : fnD 1 (b__law_refused Λ) 1 [.lam k] S = .ok t S1 := by
  cases ht <;> simp [fnD, b__law_refused, h, hmT, List.lookup]
theorem how_e {bs : String → Option DE} {s : DS} {fl b : DE} {k : String} {x : Xc} {t : D} {sl : List Sl} (h1 : fl s = .ok (.lam k) s) (h2 : bs k = some b) (h3 : b ⟨s.sl.map stripS, s.st⟩ = .exc x ⟨sl, s.st⟩) (ht : Told x t) : eCallL 1 (fun Λ => fnD 1 (b__law_refused Λ) 1) bs (aCons fl aNil) s = .ok t s := by
  have e : lamR bs s.sl k s.st = .exc x s.st := by simp [h2, h3]
  have e2 := how_x (Λ := lamR bs s.sl) e ht
  simp [-r_lamR, h1, e2]
abbrev ownQ : OwnQ := ownInt [("Place", [[120], [121], [97, 114, 101, 97]])]
theorem eq_pl {o : D} (h : Odd o) {l : Nm} (hl : l = [112, 108, 97, 99, 101] ∨ l = [110, 117, 109, 98, 101, 114]) : eqD ownQ 5 (.tup [.str l, o]) (.tup [.str l, o]) = some true := by
  have pll : ∀ xs : List D, plFs xs → eqB (.tup xs) (.tup xs) = some true := fun xs h => by
    unfold eqB; rw [dEq_tt _ _ h h, eqPls_refl _ h.1]
  rcases h with rfl | rfl | rfl | rfl | rfl | rfl | rfl
  case inr.inr.inr.inr.inr.inr =>
    have h2 : eqB (.str l) (.str l) = some true := by rcases hl with rfl | rfl <;> simp [eqB]
    have h3 : ∀ y, eqB (.dic []) y = none := fun y => by simp [eqB, dEq, toPy]
    have h4 : ∀ y, eqB (.tup [.str l, .dic []]) y = none := fun y => by simp [eqB, dEq, toPy, toPys]
    simp [eqD, h2, h3, h4, eqSt, eqDs]
  all_goals (rcases hl with rfl | rfl <;> (unfold eqD; rw [pll _ ⟨by decide, by decide⟩]))
theorem eq_bl (b : Bool) : eqD ownQ 5 (.bl b) (.bl b) = some true := by cases b <;> simp [eqD, eqB]
end W_k02
set_option maxRecDepth 100000
set_option maxHeartbeats 4000000
set_option exponentiation.threshold 4000
namespace W_k02
open DL RT GR
theorem bsi_b {o : D} (h : Odd o) : ∃ b, bIsi ["Place"] [o, .ty "bool"] = some (.bl b) := by
  rcases h with rfl | rfl | rfl | rfl | rfl | rfl | rfl <;> exact ⟨_, rfl⟩
theorem same_q {o : D} (h : Odd o) {l : Nm} (hl : l = [112, 108, 97, 99, 101] ∨ l = [110, 117, 109, 98, 101, 114]) (S : List Cell) : g__law_same [.tup [.str l, o], .tup [.str l, o]] S = .ok (.bl true) S := by
  have q := eq_pl h hl
  obtain ⟨b, hb⟩ := bsi_b h
  have q2 := eq_bl b
  simp [g__law_same, b__law_same, fnD, deepO, q, q2, hb]
noncomputable abbrev bsR : String → Option DE := (fun n => List.lookup n [("_law_refusals_right.0", lb__law_refusals_right_0), ("_law_refusals_right.1", lb__law_refusals_right_1), ("_law_refusals_right.2", lb__law_refusals_right_2), ("_law_refusals_right.3", lb__law_refusals_right_3), ("_law_refusals_right.4", lb__law_refusals_right_4), ("_law_refusals_right.5", lb__law_refusals_right_5), ("_law_refusals_right.6", lb__law_refusals_right_6)])
theorem lam_e {s : DS} {k : String} (ht : s.st[0]? = some (.tab "_law_refusals_right")) : eLam 0 "_law_refusals_right" k s = .ok (.lam k) s := by
  simp [ht]
theorem chk {A B : DE} {s : DS} {t : D} (hA : A s = .ok t s) (hB : B s = .ok t s) (e : g__law_same [t, t] s.st = .ok (.bl true) s.st) : sIf (bNot (eTru (eCall 2 g__law_same (aCons A (aCons B (aNil)))))) (sRet (eC (.bl false))) (sPass) s = .ok .nx s := by
  have h := call_c2 (g := g__law_same) hA hB e
  simp [-r_eCall, h]
abbrev rst (p : Q3) (o o2 : D) (S : List Cell) : DS := ⟨[.val (.cell 1), .val (pP p), .val (.lst odds), .val o, .val o2, .un], S⟩
noncomputable abbrev rs0 : DStm := sSet 2 (eFrz (aMax (aCons (eC .non) (aCons (eC (.bl true)) (aCons (eC (.bl false)) (aCons (eC (.str [49])) (aCons (eFrz (aMax (aCons (eC (.int 1)) (aNil)))) (aCons (eTup (aCons (eC (.int 1)) (aCons (eC (.int 2)) (aNil)))) (aCons (eFrzD (dNil)) (aNil))))))))))
noncomputable abbrev rs1 : DStm := sAsgT (eTup (aCons (eCall 2 g__law_pick (aCons (eVar 0) (aCons (eVar 2) (aNil)))) (aCons (eCall 2 g__law_pick (aCons (eVar 0) (aCons (eVar 2) (aNil)))) (aNil)))) (gT 2 (gsCons (gN 3) (gsCons (gN 4) (gsNil))))
noncomputable abbrev rs2 : DStm := sIf (bNot (eTru (eCall 2 g__law_same (aCons (eCallL 1 (fun Λ => fnD 1 (b__law_refused Λ) 1) bsR (aCons (eLam 0 "_law_refusals_right" "_law_refusals_right.0") (aNil))) (aCons (eTup (aCons (eC (.str [110, 117, 109, 98, 101, 114])) (aCons (eVar 3) (aNil)))) (aNil)))))) (sRet (eC (.bl false))) (sPass)
noncomputable abbrev rs3 : DStm := sIf (bNot (eTru (eCall 2 g__law_same (aCons (eCallL 1 (fun Λ => fnD 1 (b__law_refused Λ) 1) bsR (aCons (eLam 0 "_law_refusals_right" "_law_refusals_right.1") (aNil))) (aCons (eTup (aCons (eC (.str [110, 117, 109, 98, 101, 114])) (aCons (eVar 4) (aNil)))) (aNil)))))) (sRet (eC (.bl false))) (sPass)
noncomputable abbrev rs4 : DStm := sIf (bNot (eTru (eCall 2 g__law_same (aCons (eCallL 1 (fun Λ => fnD 1 (b__law_refused Λ) 1) bsR (aCons (eLam 0 "_law_refusals_right" "_law_refusals_right.2") (aNil))) (aCons (eTup (aCons (eC (.str [110, 117, 109, 98, 101, 114])) (aCons (eVar 3) (aNil)))) (aNil)))))) (sRet (eC (.bl false))) (sPass)
noncomputable abbrev rs5 : DStm := sIf (bNot (eTru (eCall 2 g__law_same (aCons (eCallL 1 (fun Λ => fnD 1 (b__law_refused Λ) 1) bsR (aCons (eLam 0 "_law_refusals_right" "_law_refusals_right.3") (aNil))) (aCons (eTup (aCons (eC (.str [110, 117, 109, 98, 101, 114])) (aCons (eVar 4) (aNil)))) (aNil)))))) (sRet (eC (.bl false))) (sPass)
noncomputable abbrev rs6 : DStm := sIf (bNot (eTru (eCall 2 g__law_same (aCons (eCallL 1 (fun Λ => fnD 1 (b__law_refused Λ) 1) bsR (aCons (eLam 0 "_law_refusals_right" "_law_refusals_right.4") (aNil))) (aCons (eTup (aCons (eC (.str [112, 108, 97, 99, 101])) (aCons (eVar 3) (aNil)))) (aNil)))))) (sRet (eC (.bl false))) (sPass)
noncomputable abbrev rs7 : DStm := sIf (bNot (eTru (eCall 2 g__law_same (aCons (eCallL 1 (fun Λ => fnD 1 (b__law_refused Λ) 1) bsR (aCons (eLam 0 "_law_refusals_right" "_law_refusals_right.5") (aNil))) (aCons (eTup (aCons (eC (.str [112, 108, 97, 99, 101])) (aCons (eVar 4) (aNil)))) (aNil)))))) (sRet (eC (.bl false))) (sPass)
noncomputable abbrev rs8 : DStm := sIf (bNot (eTru (eCall 2 g__law_same (aCons (eCallL 1 (fun Λ => fnD 1 (b__law_refused Λ) 1) bsR (aCons (eLam 0 "_law_refusals_right" "_law_refusals_right.6") (aNil))) (aCons (eTup (aCons (eC (.str [112, 108, 97, 99, 101])) (aCons (eVar 3) (aNil)))) (aNil)))))) (sRet (eC (.bl false))) (sPass)
noncomputable abbrev rs9 : DStm := sRet (eCB (bAll) (aCons (eFrz (aLc [5] (itSeq (eOp2 dAdd (eVar 2) (eFrz (aMax (aCons (eTup (aCons (eFld ["Place"] [120] (eVar 1)) (aCons (eFld ["Place"] [121] (eVar 1)) (aCons (eFld ["Place"] [97, 114, 101, 97] (eVar 1)) (aNil))))) (aNil)))))) (gN 5) (bYes) (e__law_refusals_right_0))) (aNil)))
theorem refused_eq : b__law_refusals_right = sSeq rs0 (sSeq rs1 (sSeq rs2 (sSeq rs3 (sSeq rs4 (sSeq rs5 (sSeq rs6 (sSeq rs7 (sSeq rs8 (rs9))))))))) := rfl
section
variable {p : Q3} {o o2 : D} {S : List Cell}
theorem nuw_e (i : Nat) (v : D) (h : (rst p o o2 S).sl[i]? = some (.val v)) : eTup (aCons (eC (.str [110, 117, 109, 98, 101, 114])) (aCons (eVar i) (aNil))) (rst p o o2 S) = .ok (nuw v) (rst p o o2 S) := by
  have e : eVar i (rst p o o2 S) = .ok v (rst p o o2 S) := by unfold eVar; rw [h]
  simp [e]
theorem plw_e (i : Nat) (v : D) (h : (rst p o o2 S).sl[i]? = some (.val v)) : eTup (aCons (eC (.str [112, 108, 97, 99, 101])) (aCons (eVar i) (aNil))) (rst p o o2 S) = .ok (plw v) (rst p o o2 S) := by
  have e : eVar i (rst p o o2 S) = .ok v (rst p o o2 S) := by unfold eVar; rw [h]
  simp [e]
theorem k2 (ht : S[0]? = some (.tab "_law_refusals_right")) (h : Odd o) (h2 : Odd o2) : rs2 (rst p o o2 S) = .ok .nx (rst p o o2 S) := by
  have e := init_1 h o2 S
  have h3 : lb__law_refusals_right_0 (rst p o o2 S) = .exc (badN o) (rst p o o2 S) := by simp [lb__law_refusals_right_0, e]
  exact chk (how_e (lam_e ht) (by simp [List.lookup]) h3 (.nu _)) (nuw_e 3 o rfl) (same_q h (.inr rfl) S)
theorem k3 (ht : S[0]? = some (.tab "_law_refusals_right")) (h : Odd o) (h2 : Odd o2) : rs3 (rst p o o2 S) = .ok .nx (rst p o o2 S) := by
  have e := init_0 h2 o (.int 2) S
  have h3 : lb__law_refusals_right_1 (rst p o o2 S) = .exc (badN o2) (rst p o o2 S) := by simp [lb__law_refusals_right_1, e]
  exact chk (how_e (lam_e ht) (by simp [List.lookup]) h3 (.nu _)) (nuw_e 4 o2 rfl) (same_q h2 (.inr rfl) S)
theorem k4 (ht : S[0]? = some (.tab "_law_refusals_right")) (h : Odd o) (h2 : Odd o2) : rs4 (rst p o o2 S) = .ok .nx (rst p o o2 S) := by
  have e := pow_b h p S
  have h3 : lb__law_refusals_right_2 (rst p o o2 S) = .exc (badN o) (rst p o o2 S) := by simp [lb__law_refusals_right_2, e]
  exact chk (how_e (lam_e ht) (by simp [List.lookup]) h3 (.nu _)) (nuw_e 3 o rfl) (same_q h (.inr rfl) S)
theorem k5 (ht : S[0]? = some (.tab "_law_refusals_right")) (h : Odd o) (h2 : Odd o2) : rs5 (rst p o o2 S) = .ok .nx (rst p o o2 S) := by
  have e := lift_b h2 p S
  have h3 : lb__law_refusals_right_3 (rst p o o2 S) = .exc (badN o2) (rst p o o2 S) := by simp [lb__law_refusals_right_3, e]
  exact chk (how_e (lam_e ht) (by simp [List.lookup]) h3 (.nu _)) (nuw_e 4 o2 rfl) (same_q h2 (.inr rfl) S)
theorem k6 (ht : S[0]? = some (.tab "_law_refusals_right")) (h : Odd o) (h2 : Odd o2) : rs6 (rst p o o2 S) = .ok .nx (rst p o o2 S) := by
  have e := twist_b h p S
  have h3 : lb__law_refusals_right_4 (rst p o o2 S) = .exc (badP o) (rst p o o2 S) := by simp [lb__law_refusals_right_4, e]
  exact chk (how_e (lam_e ht) (by simp [List.lookup]) h3 (.pl _)) (plw_e 3 o rfl) (same_q h (.inl rfl) S)
theorem k7 (ht : S[0]? = some (.tab "_law_refusals_right")) (h : Odd o) (h2 : Odd o2) : rs7 (rst p o o2 S) = .ok .nx (rst p o o2 S) := by
  have e := prod_b h2 p o S
  have h3 : lb__law_refusals_right_5 (rst p o o2 S) = .exc (badP o2) (rst p o o2 S) := by simp [lb__law_refusals_right_5, e]
  exact chk (how_e (lam_e ht) (by simp [List.lookup]) h3 (.pl _)) (plw_e 4 o2 rfl) (same_q h2 (.inl rfl) S)
theorem odd_ty (h : Odd o) : ∃ T, tyOfD ["Place"] o = some (.inl T) ∧ T ∈ ["NoneType", "bool", "int", "str", "list", "tuple", "dict"] := by
  rcases h with rfl | rfl | rfl | rfl | rfl | rfl | rfl <;> exact ⟨_, rfl, by decide⟩
theorem k8 (ht : S[0]? = some (.tab "_law_refusals_right")) (h : Odd o) (h2 : Odd o2) : rs8 (rst p o o2 S) = .ok .nx (rst p o o2 S) := by
  have e := mul_b h p S
  obtain ⟨T, t1, t2⟩ := odd_ty h
  have h3 : lb__law_refusals_right_6 (rst p o o2 S) = .exc (badP o) (rst p o o2 S) := by
    simp only [lb__law_refusals_right_6, r_eOpX, r_eVar, rst, List.getElem?_cons_succ, List.getElem?_cons_zero, Res.bind, r_ownM, t1, if_pos t2, if_true, e]
    rfl
  exact chk (how_e (lam_e ht) (by simp [List.lookup]) h3 (.pl _)) (plw_e 3 o rfl) (same_q h (.inl rfl) S)
theorem all_ty {d : D} (h : Odd d ∨ ∃ p, d = tP p) : ∃ t, tyOfD ["Place"] d = some t := by
  rcases h with (rfl | rfl | rfl | rfl | rfl | rfl | rfl) | ⟨q, rfl⟩ <;> exact ⟨_, rfl⟩
theorem el_ok {d : D} (h : Odd d ∨ ∃ p, d = tP p) : e__law_refusals_right_0 ⟨[.val (.cell 1), .val (pP p), .val (.lst odds), .val o, .val o2, .val d], S⟩ = .ok (.bl true) ⟨[.val (.cell 1), .val (pP p), .val (.lst odds), .val o, .val o2, .val d], S⟩ := by
  have e := eq_b h p S
  obtain ⟨t, ht⟩ := all_ty h
  simp [e__law_refusals_right_0, ht, e]
theorem k9 : rs9 (rst p o o2 S) = .ok (.rt (.bl true)) (rst p o o2 S) := by
  have q : aLc [5] (itSeq (eOp2 dAdd (eVar 2) (eFrz (aMax (aCons (eTup (aCons (eFld ["Place"] [120] (eVar 1)) (aCons (eFld ["Place"] [121] (eVar 1)) (aCons (eFld ["Place"] [97, 114, 101, 97] (eVar 1)) (aNil))))) (aNil)))))) (gN 5) (bYes) (e__law_refusals_right_0) (rst p o o2 S) = .ok ((odds ++ [tP p]).map fun _ => D.bl true) (rst p o o2 S) :=
    aLc_M1 (l := odds ++ [tP p]) id (fun _ => .bl true) (by simp [List.lookup]) rfl (fun d hd => by
      have : Odd d ∨ ∃ p, d = tP p := by
        rcases List.mem_append.mp hd with h | h
        · exact .inl (odd_of h)
        · exact .inr ⟨p, by simpa using h⟩
      exact el_ok this) (by simp)
  have b : bAll [.lst ((odds ++ [tP p]).map fun _ => D.bl true)] = some (.bl true) := by
    rw [bAll_map (fun _ => true)]
    simp
  exact ret_e (by
    show eCB bAll (aCons (eFrz _) aNil) _ = _
    have q2 := frz_e q
    generalize ((odds ++ [tP p]).map fun _ => D.bl true) = Y at *
    simp [-r_eFrz, q2, b])
end
theorem refused_ok {n : Nat} {S : List Cell} {p : Q3} (hS : Pen n S) (hn : n + 2 < 2 ^ 20) : ∃ S', g__law_refusals_right [.cell 1, pP p] S = .ok (.bl true) S' ∧ Pen (n + 2) S' := by
  obtain ⟨o, S1, e1, ho, P1⟩ := pick_ok (xs := odds) hS (by omega) (by simp) (by simp)
  obtain ⟨o2, S2, e2, ho2, P2⟩ := pick_ok (xs := odds) P1 (by omega) (by simp) (by simp)
  have ho := odd_of ho
  have ho2 := odd_of ho2
  refine ⟨S2, ?_, P2⟩
  have s0 : rs0 ⟨[.val (.cell 1), .val (pP p), .un, .un, .un, .un], S⟩ = .ok .nx ⟨[.val (.cell 1), .val (pP p), .val (.lst odds), .un, .un, .un], S⟩ := by simp
  have s1 : rs1 ⟨[.val (.cell 1), .val (pP p), .val (.lst odds), .un, .un, .un], S⟩ = .ok .nx (rst p o o2 S2) := asg_t (tup_2 (call_c2 rfl rfl e1) (call_c2 rfl rfl e2)) (by simp)
  have t := P2.tab
  have w : b__law_refusals_right ⟨[.val (.cell 1), .val (pP p), .un, .un, .un, .un], S⟩ = .ok (.rt (.bl true)) (rst p o o2 S2) :=
    (congrFun refused_eq _).trans ((sq_nx s0).trans ((sq_nx s1).trans ((sq_nx (k2 t ho ho2)).trans ((sq_nx (k3 t ho ho2)).trans ((sq_nx (k4 t ho ho2)).trans ((sq_nx (k5 t ho ho2)).trans ((sq_nx (k6 t ho ho2)).trans ((sq_nx (k7 t ho ho2)).trans ((sq_nx (k8 t ho ho2)).trans k9)))))))))
  have e6 : fnD 2 b__law_refusals_right 4 [.cell 1, pP p] S = .ok (.bl true) S2 := fn_rt rfl w
  have z1 : noLams [D.cell 1, pP p] = true := rfl
  have z2 := hS.noLam
  have z3 := P2.noLam
  have z4 : DL.noLam (.bl true) = true := rfl
  simp only [g__law_refusals_right, fnDL, z1, z2, z3, z4, e6, and_self, if_true]
end W_k02
set_option maxRecDepth 100000
set_option maxHeartbeats 4000000
set_option exponentiation.threshold 4000
namespace W_k02
open DL RT GR
noncomputable def cA0 : DA := aLc [9] (itR1 (aCons (eCall 2 g__law_draw (aCons (eVar 1) (aCons (eC (.int 40)) (aNil)))) (aNil))) (gN 9) (bYes) (e_law_0)
noncomputable def cA1 : DA := aLc [10] (itSeq (eVar 3)) (gN 10) (bYes) (e_law_1)
noncomputable abbrev la0 (A0 : DA) : DStm := sSetO 3 A0
noncomputable abbrev la1 (A1 : DA) : DStm := sSet 4 (eCall 1 g_product_of (aCons (eFrz A1) (aNil)))
noncomputable abbrev la2 : DStm := sIf (eB (eOp2 dNe (eTup (aCons (eFld ["Place"] [120] (eVar 4)) (aCons (eFld ["Place"] [121] (eVar 4)) (aCons (eFld ["Place"] [97, 114, 101, 97] (eVar 4)) (aNil))))) (eCall 1 g__law_swept (aCons (eVar 3) (aNil))))) (sRet (eC (.bl false))) (sPass)
noncomputable abbrev la3 : DStm := sSet 5 (eCall 2 g__law_pick (aCons (eVar 1) (aCons (eFrz (aMax (aCons (eC (.int 3)) (aCons (eOp2 iPow (eC (.int 10)) (eC (.int 50))) (aNil))))) (aNil))))
noncomputable abbrev la4 : DStm := sPar3 6 7 8 (aCons (eCall 2 g__law_place (aCons (eVar 1) (aCons (eVar 5) (aNil)))) (aCons (eCall 2 g__law_place (aCons (eVar 1) (aCons (eVar 5) (aNil)))) (aCons (eCall 2 g__law_place (aCons (eVar 1) (aCons (eVar 5) (aNil)))) (aNil))))
noncomputable abbrev la5 : DStm := sIf (bOr (eB (eOpX (ownNe "Place" g_PlaceX_eqX) (eOpX (ownO "Place" g_PlaceX_mulX) (eOpX (ownO "Place" g_PlaceX_mulX) (eVar 6) (eVar 7)) (eVar 8)) (eOpX (ownO "Place" g_PlaceX_mulX) (eVar 6) (eOpX (ownO "Place" g_PlaceX_mulX) (eVar 7) (eVar 8))))) (bOr (eB (eOpX (ownNe "Place" g_PlaceX_eqX) (eOpX (ownO "Place" g_PlaceX_mulX) (eVar 6) (eInv "Place" g_PlaceX_invertX (eVar 6))) (eCall 0 g_home_place aNil))) (eB (eOpX (ownNe "Place" g_PlaceX_eqX) (eOpX (ownO "Place" g_PlaceX_mulX) (eInv "Place" g_PlaceX_invertX (eVar 6)) (eVar 6)) (eCall 0 g_home_place aNil))))) (sRet (eC (.bl false))) (sPass)
noncomputable abbrev la6 : DStm := sIf (bOr (eB (eOpX (ownNe "Place" g_PlaceX_eqX) (eInv "Place" g_PlaceX_invertX (eOpX (ownO "Place" g_PlaceX_mulX) (eVar 6) (eVar 7))) (eOpX (ownO "Place" g_PlaceX_mulX) (eInv "Place" g_PlaceX_invertX (eVar 7)) (eInv "Place" g_PlaceX_invertX (eVar 6))))) (bOr (bNot (eTru (eMeth "Place" [105, 115, 95, 104, 111, 109, 101] 1 g_Place_is_home (eCall 0 g_home_place aNil) aNil))) (eB (eOp2 dNe (eMeth "Place" [105, 115, 95, 104, 111, 109, 101] 1 g_Place_is_home (eVar 6) aNil) (eOpX (ownO "Place" g_PlaceX_eqX) (eVar 6) (eCall 0 g_home_place aNil)))))) (sRet (eC (.bl false))) (sPass)
noncomputable abbrev la7 : DStm := sIf (bOr (eB (eOpX (ownNe "Place" g_PlaceX_eqX) (eOpX (ownO "Place" g_PlaceX_mulX) (eVar 6) (eVar 7)) (eMeth "Place" [108, 105, 102, 116, 101, 100] 2 g_Place_lifted (eOpX (ownO "Place" g_PlaceX_mulX) (eVar 7) (eVar 6)) (aCons (eMeth "Place" [116, 119, 105, 115, 116] 2 g_Place_twist (eVar 6) (aCons (eVar 7) (aNil))) (aNil))))) (eB (eOpX (ownNe "Place" g_PlaceX_eqX) (eMeth "Place" [108, 105, 102, 116, 101, 100] 2 g_Place_lifted (eVar 6) (aCons (eC (.int 5)) (aNil))) (eOpX (ownO "Place" g_PlaceX_mulX) (eVar 6) (eMake "Place" 3 g_PlaceX_initX (aCons (eC (.int 0)) (aCons (eC (.int 0)) (aCons (eC (.int 5)) (aNil))))))))) (sRet (eC (.bl false))) (sPass)
noncomputable abbrev la8 : DStm := sIf (bOr (bNot (eTru (eCall 2 g__law_powers_right (aCons (eVar 1) (aCons (eVar 6) (aNil)))))) (bNot (eTru (eCall 2 g__law_refusals_right (aCons (eVar 1) (aCons (eVar 7) (aNil))))))) (sRet (eC (.bl false))) (sPass)
noncomputable abbrev la9 : DStm := sIf (bOr (eB (eOpX (ownNe "Place" g_PlaceX_eqX) (eMake "Place" 3 g_PlaceX_initX (aCons (eFld ["Place"] [120] (eVar 6)) (aCons (eFld ["Place"] [121] (eVar 6)) (aCons (eFld ["Place"] [97, 114, 101, 97] (eVar 6)) (aNil))))) (eVar 6))) (eB (eOpX (ownNe "Place" g_PlaceX_eqX) (eMakeK "Place" 3 g_PlaceX_initX (aCons (eC (.int 1)) (aCons (eC (.int 2)) (aCons (eC (.int 3)) (aNil))))) (eMake "Place" 3 g_PlaceX_initX (aCons (eC (.int 3)) (aCons (eC (.int 2)) (aCons (eC (.int 1)) (aNil)))))))) (sRet (eC (.bl false))) (sPass)
theorem lap_eq : w_law_2 = (sSeq (la0 cA0) (sSeq (la1 cA1) (sSeq (la2) (sSeq (la3) (sSeq (la4) (sSeq (la5) (sSeq (la6) (sSeq (la7) (sSeq (la8) (la9)))))))))) := rfl
theorem step_q (l : L4) (S : List Cell) : g__law_step [lD l] S = .ok (pP l.st) S := by
  cases l <;> simp [g__law_step, b__law_step, fnD, L4.cp, L4.st, keyed, keysNd, dLook]
theorem swept_loop (L : D) (S : List Cell) : ∀ (ls : List L4) (p : Q3) (x4 : Sl), ∃ y4, forL (gN 4) w__law_swept_0 (ls.map lD) ⟨[.val L, .val (.int p.x), .val (.int p.y), .val (.int p.a), x4], S⟩ = .ok .nx ⟨[.val L, .val (.int (endF L4.st p ls).x), .val (.int (endF L4.st p ls).y), .val (.int (endF L4.st p ls).a), y4], S⟩
  | [], p, x4 => ⟨x4, rfl⟩
  | l :: r, p, x4 => by
    obtain ⟨y4, e⟩ := swept_loop L S r (GR.mul p l.st) (.val (lD l))
    refine ⟨y4, ?_⟩
    show _ = Res.ok Out.nx (⟨[.val L, .val (.int (endF L4.st (GR.mul p l.st) r).x), .val (.int (endF L4.st (GR.mul p l.st) r).y), .val (.int (endF L4.st (GR.mul p l.st) r).a), y4], S⟩ : DS)
    rw [← e]
    refine for_1 (i := 4) ?_
    cases l <;> simp [w__law_swept_0, L4.cp, L4.st, GR.mul, Int.sub_eq_add_neg]
theorem swept_q (ls : List L4) (S : List Cell) : g__law_swept [.lst (ls.map lD)] S = .ok (tP (endL ls)) S := by
  obtain ⟨y4, e⟩ := swept_loop (.lst (ls.map lD)) S ls GR.one .un
  simp only [GR.one] at e
  have s0 : sAsgT (eTup (aCons (eC (.int 0)) (aCons (eC (.int 0)) (aCons (eC (.int 0)) (aNil))))) (gT 3 (gsCons (gN 1) (gsCons (gN 2) (gsCons (gN 3) (gsNil))))) ⟨[.val (.lst (ls.map lD)), .un, .un, .un, .un], S⟩ = .ok .nx ⟨[.val (.lst (ls.map lD)), .val (.int 0), .val (.int 0), .val (.int 0), .un], S⟩ := by simp
  have s1 := for_seq (f := eVar 0) (g := gN 4) (s := ⟨[.val (.lst (ls.map lD)), .val (.int 0), .val (.int 0), .val (.int 0), .un], S⟩) rfl rfl e
  have hZ : endL ls = endF L4.st ⟨0, 0, 0⟩ ls := rfl
  rw [hZ]
  generalize endF L4.st ⟨0, 0, 0⟩ ls = Z at *
  have s2 : sRet (eTup (aCons (eVar 1) (aCons (eVar 2) (aCons (eVar 3) (aNil))))) ⟨[.val (.lst (ls.map lD)), .val (.int Z.x), .val (.int Z.y), .val (.int Z.a), y4], S⟩ = .ok (.rt (tP Z)) ⟨[.val (.lst (ls.map lD)), .val (.int Z.x), .val (.int Z.y), .val (.int Z.a), y4], S⟩ := by simp
  have w : b__law_swept ⟨[.val (.lst (ls.map lD)), .un, .un, .un, .un], S⟩ = .ok (.rt (tP Z)) ⟨[.val (.lst (ls.map lD)), .val (.int Z.x), .val (.int Z.y), .val (.int Z.a), y4], S⟩ := (sq_nx s0).trans ((sq_nx s1).trans s2)
  exact fn_rt rfl w
theorem fold_end : ∀ (ls : List L4) (p : Q3), (ls.map L4.st).foldl GR.mul p = endF L4.st p ls
  | [], p => rfl
  | l :: r, p => fold_end r (GR.mul p l.st)
theorem prod_letters (ls : List L4) (h : ls.length ≤ 500) (S : List Cell) : g_product_of [.lst (ls.map fun l => pP l.st)] S = .ok (pP (endL ls)) S := by
  have e := product_q (M := 40) (by decide) (ls.map L4.st) S (fun q hq => by
    obtain ⟨l, _, rfl⟩ := List.mem_map.mp hq
    exact (st_bd l 0).le (by decide)) (fun m hm => by
    rw [← List.map_take, fold_end]
    exact (end_b3 (ls.take m) (by rw [List.length_take]; omega)).le (by decide))
  rw [fold_end, List.map_map] at e
  exact e
abbrev st (x0 x2 x3 x4 x5 x6 x7 x8 : Sl) (S : List Cell) : DS := ⟨[x0, .val (.cell 1), x2, x3, x4, x5, x6, x7, x8, .un, .un], S⟩
theorem letters_ok {n : Nat} {S : List Cell} {x0 x2 x3 x4 x5 x6 x7 x8 : Sl} (hS : Pen n S) (hn : n + 50 < 2 ^ 20) :
    ∃ (ls : List L4) (S' : List Cell), cA0 (st x0 x2 x3 x4 x5 x6 x7 x8 S) = .ok (ls.map lD) (st x0 x2 x3 x4 x5 x6 x7 x8 S') ∧ ls.length ≤ 40 ∧ Pen (n + 50) S' := by
  obtain ⟨m, S1, e1, m0, m1, P1⟩ := draw_ok hS (by omega) (p := 40) (by decide) (by decide)
  have hi : itR1 (aCons (eCall 2 g__law_draw (aCons (eVar 1) (aCons (eC (.int 40)) (aNil)))) (aNil)) (st x0 x2 x3 x4 x5 x6 x7 x8 S) = .ok (rngL 0 m.toNat) (st x0 x2 x3 x4 x5 x6 x7 x8 S1) := by
    simp [e1]
    omega
  have i0 : ixD (D.str [101, 119, 110, 115]) 0 = some (lD .e) := rfl
  have i1 : ixD (D.str [101, 119, 110, 115]) 1 = some (lD .w) := rfl
  have i2 : ixD (D.str [101, 119, 110, 115]) 2 = some (lD .n) := rfl
  have i3 : ixD (D.str [101, 119, 110, 115]) 3 = some (lD .s) := rfl
  obtain ⟨ys, S2, e, ls, rfl, hl, P2⟩ := aLc_inv (vs := [9]) (g := gN 9) (e := e_law_0) (fun i acc S => ∃ ls : List L4, acc = ls.map lD ∧ ls.length = i ∧ Pen (n + 1 + i) S) hi ⟨[], rfl, rfl, P1⟩ (fun i d acc S h ⟨ls, h1, h2, h3⟩ => by
    obtain ⟨hi1, rfl⟩ := rngL_get h
    obtain ⟨k, S3, e3, k0, k1, P3⟩ := draw_ok h3 (by omega) (p := 4) (by decide) (by decide)
    have hk : k = 0 ∨ k = 1 ∨ k = 2 ∨ k = 3 := by omega
    have : ∃ l : L4, ixD (D.str [101, 119, 110, 115]) k = some (lD l) := by
      rcases hk with rfl | rfl | rfl | rfl
      · exact ⟨_, i0⟩
      · exact ⟨_, i1⟩
      · exact ⟨_, i2⟩
      · exact ⟨_, i3⟩
    obtain ⟨l, hl⟩ := this
    have e4 : g__law_pick [.cell 1, .str [101, 119, 110, 115]] S = .ok (lD l) S3 := by
      have bl : bLen [D.str [101, 119, 110, 115]] = some (.int 4) := rfl
      simp [g__law_pick, b__law_pick, fnD, e3, hl, bl]
    refine ⟨⟨[x0, .val (.cell 1), x2, x3, x4, x5, x6, x7, x8, .val (.int (0 + i)), .un], S⟩, lD l, ⟨[x0, .val (.cell 1), x2, x3, x4, x5, x6, x7, x8, .val (.int (0 + i)), .un], S3⟩, by simp, ?_, by simp, ls ++ [l], by simp [h1], by simp [h2], by rw [show n + 1 + (i + 1) = n + 1 + i + 1 by omega]; exact P3⟩
    simp [e_law_0, e4]) (by rw [rngL_len]; omega)
  rw [rngL_len] at hl P2
  exact ⟨ls, S2, by unfold cA0; rw [e]; simp, by omega, P2.mono (by omega)⟩
theorem steps_ok {S : List Cell} {x0 x2 x4 x5 x6 x7 x8 : Sl} (ls : List L4) (h : ls.length ≤ 1000) : cA1 (st x0 x2 (.ol (ls.map lD)) x4 x5 x6 x7 x8 S) = .ok (ls.map fun l => pP l.st) (st x0 x2 (.val (.lst (ls.map lD))) x4 x5 x6 x7 x8 S) :=
  aLc_M1 lD (fun l => pP l.st) (by simp) rfl (fun l _ => by
    have e := step_q l S
    simp [e_law_1, e]) (by omega)
end W_k02
set_option maxRecDepth 100000
set_option maxHeartbeats 4000000
set_option exponentiation.threshold 4000
namespace W_k02
open DL RT GR
section
variable {x0 x2 x3 x4 x5 x6 x7 x8 z3 z4 : Sl} {z : Int} {ls : List L4} {p q r : Q3} {S T T2 T3 : List Cell}
abbrev s5 (x0 x2 z3 z4 : Sl) (z : Int) (p q r : Q3) (S : List Cell) : DS := st x0 x2 z3 z4 (.val (.int z)) (.val (pP p)) (.val (pP q)) (.val (pP r)) S
theorem lp0 (e : cA0 (st x0 x2 x3 x4 x5 x6 x7 x8 S) = .ok (ls.map lD) (st x0 x2 x3 x4 x5 x6 x7 x8 T)) : la0 cA0 (st x0 x2 x3 x4 x5 x6 x7 x8 S) = .ok .nx (st x0 x2 (.ol (ls.map lD)) x4 x5 x6 x7 x8 T) := set_o e
theorem lp1 (h : ls.length ≤ 500) : la1 cA1 (st x0 x2 (.ol (ls.map lD)) x4 x5 x6 x7 x8 S) = .ok .nx (st x0 x2 (.val (.lst (ls.map lD))) (.val (pP (endL ls))) x5 x6 x7 x8 S) := by
  have e := frz_e (steps_ok (S := S) (x0 := x0) (x2 := x2) (x4 := x4) (x5 := x5) (x6 := x6) (x7 := x7) (x8 := x8) ls (by omega))
  have e2 := prod_letters ls h S
  generalize endL ls = Z at *
  generalize (ls.map fun l => pP l.st) = Y at *
  generalize cA1 = A at *
  simp [-r_eFrz, e, e2]
theorem lp2 : la2 (st x0 x2 (.val (.lst (ls.map lD))) (.val (pP (endL ls))) x5 x6 x7 x8 S) = .ok .nx (st x0 x2 (.val (.lst (ls.map lD))) (.val (pP (endL ls))) x5 x6 x7 x8 S) := by
  have e := swept_q ls S
  generalize endL ls = Z at *
  have a : eTup (aCons (eFld ["Place"] [120] (eVar 4)) (aCons (eFld ["Place"] [121] (eVar 4)) (aCons (eFld ["Place"] [97, 114, 101, 97] (eVar 4)) (aNil)))) (st x0 x2 (.val (.lst (ls.map lD))) (.val (pP Z)) x5 x6 x7 x8 S) = .ok (tP Z) (st x0 x2 (.val (.lst (ls.map lD))) (.val (pP Z)) x5 x6 x7 x8 S) := by simp [List.lookup]
  have b : eCall 1 g__law_swept (aCons (eVar 3) (aNil)) (st x0 x2 (.val (.lst (ls.map lD))) (.val (pP Z)) x5 x6 x7 x8 S) = .ok (tP Z) (st x0 x2 (.val (.lst (ls.map lD))) (.val (pP Z)) x5 x6 x7 x8 S) := call_c1 rfl e
  have ne : dNe (tP Z) (tP Z) = some (.bl false) := by
    have h : plFs [D.int Z.x, .int Z.y, .int Z.a] := by simp
    rw [dNe_tt _ _ h h, eqPls_refl _ h.1]; rfl
  exact (if_f (eB_of (op_2 a b ne))).trans rfl
theorem lp3 (e : g__law_pick [.cell 1, .lst [.int 3, .int 100000000000000000000000000000000000000000000000000]] S = .ok (.int z) T) : la3 (st x0 x2 z3 z4 x5 x6 x7 x8 S) = .ok .nx (st x0 x2 z3 z4 (.val (.int z)) x6 x7 x8 T) := by
  simp [e]
theorem lp4 (e1 : g__law_place [.cell 1, .int z] S = .ok (pP p) T) (e2 : g__law_place [.cell 1, .int z] T = .ok (pP q) T2) (e3 : g__law_place [.cell 1, .int z] T2 = .ok (pP r) T3) : la4 (st x0 x2 z3 z4 (.val (.int z)) x6 x7 x8 S) = .ok .nx (s5 x0 x2 z3 z4 z p q r T3) := by
  simp [e1, e2, e3]
theorem lp5 (hp : B3 400 p) (hq : B3 400 q) (hr : B3 400 r) : la5 (s5 x0 x2 z3 z4 z p q r S) = .ok .nx (s5 x0 x2 z3 z4 z p q r S) := by
  have b1 := hp.mul hq
  have b2 := hq.mul hr
  have b3 := hp.inv
  have a1 := mul_e (a := eVar 6) (b := eVar 7) (s := s5 x0 x2 z3 z4 z p q r S) rfl rfl (mul_q hp hq S (by decide))
  have a2 := mul_e (b := eVar 8) a1 rfl (mul_q b1 (hr.le (by decide)) S (by decide))
  have a3 := mul_e (a := eVar 7) (b := eVar 8) (s := s5 x0 x2 z3 z4 z p q r S) rfl rfl (mul_q hq hr S (by decide))
  have a4 := mul_e (a := eVar 6) rfl a3 (mul_q (hp.le (by decide)) b2 S (by decide))
  have i1 := inv_e (a := eVar 6) (s := s5 x0 x2 z3 z4 z p q r S) rfl (inv_q hp S (by decide))
  have a5 := mul_e (a := eVar 6) rfl i1 (mul_q (hp.le (by decide)) b3 S (by decide))
  have a6 := mul_e (b := eVar 6) i1 rfl (mul_q b3 (hp.le (by decide)) S (by decide))
  exact (if_f ((or_f (ne_e a2 a4 (mul_assoc p q r))).trans ((or_f (ne_e a5 home_e (mul_inv p))).trans (ne_e a6 home_e (inv_mul p))))).trans rfl
theorem lp6 (hp : B3 400 p) (hq : B3 400 q) : la6 (s5 x0 x2 z3 z4 z p q r S) = .ok .nx (s5 x0 x2 z3 z4 z p q r S) := by
  have b1 := hp.mul hq
  have a1 := mul_e (a := eVar 6) (b := eVar 7) (s := s5 x0 x2 z3 z4 z p q r S) rfl rfl (mul_q hp hq S (by decide))
  have a2 := inv_e a1 (inv_q b1 S (by decide))
  have i1 := inv_e (a := eVar 6) (s := s5 x0 x2 z3 z4 z p q r S) rfl (inv_q hp S (by decide))
  have i2 := inv_e (a := eVar 7) (s := s5 x0 x2 z3 z4 z p q r S) rfl (inv_q hq S (by decide))
  have a3 := mul_e i2 i1 (mul_q hq.inv hp.inv S (by decide))
  have h1 : bNot (eTru (eMeth "Place" [105, 115, 95, 104, 111, 109, 101] 1 g_Place_is_home (eCall 0 g_home_place aNil) aNil)) (s5 x0 x2 z3 z4 z p q r S) = .ok false (s5 x0 x2 z3 z4 z p q r S) := by
    have e := ish_e (home_e (s := s5 x0 x2 z3 z4 z p q r S))
    rw [decide_eq_true rfl] at e
    simp only [bNot, eTru, e]
    rfl
  have h2 := ish_e (o := eVar 6) (s := s5 x0 x2 z3 z4 z p q r S) (p := p) rfl
  have h3 : eOpX (ownO "Place" g_PlaceX_eqX) (eVar 6) (eCall 0 g_home_place aNil) (s5 x0 x2 z3 z4 z p q r S) = .ok (.bl (decide (p = GR.one))) (s5 x0 x2 z3 z4 z p q r S) := by
    have e := peq_q p GR.one S
    have e2 := home_e (s := s5 x0 x2 z3 z4 z p q r S)
    generalize decide (p = GR.one) = bb at *
    generalize GR.one = w at *
    simp [-r_eCall, e2, e]
  exact (if_f ((or_f (ne_e a2 a3 (inv_prod p q))).trans ((or_f h1).trans (eB_of (op_2 h2 h3 (by simp)))))).trans rfl
theorem lp7 (hp : B3 400 p) (hq : B3 400 q) : la7 (s5 x0 x2 z3 z4 z p q r S) = .ok .nx (s5 x0 x2 z3 z4 z p q r S) := by
  have a1 := mul_e (a := eVar 6) (b := eVar 7) (s := s5 x0 x2 z3 z4 z p q r S) rfl rfl (mul_q hp hq S (by decide))
  have a2 := mul_e (a := eVar 7) (b := eVar 6) (s := s5 x0 x2 z3 z4 z p q r S) rfl rfl (mul_q hq hp S (by decide))
  have t1 := twist_e (o := eVar 6) (a := eVar 7) (s := s5 x0 x2 z3 z4 z p q r S) rfl rfl (twist_q hp hq S (by decide))
  have a3 := lift_e a2 t1
  have a4 := lift_e (o := eVar 6) (a := eC (.int 5)) (s := s5 x0 x2 z3 z4 z p q r S) (p := p) (k := 5) rfl rfl
  have m5 : eMake "Place" 3 g_PlaceX_initX (aCons (eC (.int 0)) (aCons (eC (.int 0)) (aCons (eC (.int 5)) (aNil)))) (s5 x0 x2 z3 z4 z p q r S) = .ok (pP ⟨0, 0, 5⟩) (s5 x0 x2 z3 z4 z p q r S) := by simp
  have a5 := mul_e (a := eVar 6) rfl m5 (mul_q hp (show B3 400 ⟨0, 0, 5⟩ from ⟨⟨by decide⟩, ⟨by decide⟩, ⟨by decide⟩⟩) S (by decide))
  exact (if_f ((or_f (ne_e a1 a3 (by ext <;> simp only [GR.mul, GR.up, GR.tw] <;> grind))).trans (ne_e a4 a5 (by ext <;> simp only [GR.mul, GR.up] <;> grind)))).trans rfl
theorem lp8 (e1 : g__law_powers_right [.cell 1, pP p] S = .ok (.bl true) T) (e2 : g__law_refusals_right [.cell 1, pP q] T = .ok (.bl true) T2) : la8 (s5 x0 x2 z3 z4 z p q r S) = .ok .nx (s5 x0 x2 z3 z4 z p q r T2) := by
  simp [e1, e2]
theorem lp9 : la9 (s5 x0 x2 z3 z4 z p q r S) = .ok .nx (s5 x0 x2 z3 z4 z p q r S) := by
  have a1 : eMake "Place" 3 g_PlaceX_initX (aCons (eFld ["Place"] [120] (eVar 6)) (aCons (eFld ["Place"] [121] (eVar 6)) (aCons (eFld ["Place"] [97, 114, 101, 97] (eVar 6)) (aNil)))) (s5 x0 x2 z3 z4 z p q r S) = .ok (pP p) (s5 x0 x2 z3 z4 z p q r S) := by simp [List.lookup]
  have a2 : eMakeK "Place" 3 g_PlaceX_initX (aCons (eC (.int 1)) (aCons (eC (.int 2)) (aCons (eC (.int 3)) (aNil)))) (s5 x0 x2 z3 z4 z p q r S) = .ok (pP ⟨3, 2, 1⟩) (s5 x0 x2 z3 z4 z p q r S) := by simp [eMakeK]
  have a3 : eMake "Place" 3 g_PlaceX_initX (aCons (eC (.int 3)) (aCons (eC (.int 2)) (aCons (eC (.int 1)) (aNil)))) (s5 x0 x2 z3 z4 z p q r S) = .ok (pP ⟨3, 2, 1⟩) (s5 x0 x2 z3 z4 z p q r S) := by simp
  exact (if_f ((or_f (ne_e a1 (b := eVar 6) rfl rfl)).trans (ne_e a2 a3 rfl))).trans rfl
end
end W_k02
set_option maxRecDepth 100000
set_option maxHeartbeats 4000000
set_option exponentiation.threshold 4000
namespace W_k02
open DL RT GR
theorem lap_ok {n : Nat} {S : List Cell} {x0 x2 x3 x4 x5 x6 x7 x8 : Sl} (hS : Pen n S) (hn : n + 500 < 2 ^ 20) :
    ∃ y3 y4 y5 y6 y7 y8 S', w_law_2 (st x0 x2 x3 x4 x5 x6 x7 x8 S) = .ok .nx (st x0 x2 y3 y4 y5 y6 y7 y8 S') ∧ Pen (n + 400) S' := by
  obtain ⟨ls, S1, e1, hl, P1⟩ := letters_ok (x0 := x0) (x2 := x2) (x3 := x3) (x4 := x4) (x5 := x5) (x6 := x6) (x7 := x7) (x8 := x8) hS (by omega)
  obtain ⟨z, S2, e2, hz, P2⟩ := pick_ok (xs := [.int 3, .int 100000000000000000000000000000000000000000000000000]) P1 (by omega) (by simp) (by simp)
  obtain ⟨z, rfl, hz2⟩ : ∃ x, z = .int x ∧ (x = 3 ∨ x = 100000000000000000000000000000000000000000000000000) := by
    simp only [List.mem_cons, List.not_mem_nil, or_false] at hz
    rcases hz with rfl | rfl
    · exact ⟨_, rfl, .inl rfl⟩
    · exact ⟨_, rfl, .inr rfl⟩
  obtain ⟨p, S3, e3, bp, P3⟩ := place_ok P2 (by omega) hz2
  obtain ⟨q, S4, e4, bq, P4⟩ := place_ok P3 (by omega) hz2
  obtain ⟨r, S5, e5, br, P5⟩ := place_ok P4 (by omega) hz2
  obtain ⟨S6, e6, P6⟩ := powers_ok P5 (by omega) bp
  obtain ⟨S7, e7, P7⟩ := refused_ok (p := q) P6 (by omega)
  refine ⟨.val (.lst (ls.map lD)), .val (pP (endL ls)), .val (.int z), .val (pP p), .val (pP q), .val (pP r), S7, ?_, P7.mono (by omega)⟩
  exact (congrFun lap_eq _).trans ((sq_nx (lp0 e1)).trans ((sq_nx (lp1 (by omega))).trans ((sq_nx lp2).trans ((sq_nx (lp3 e2)).trans ((sq_nx (lp4 e3 e4 e5)).trans ((sq_nx (lp5 bp bq br)).trans ((sq_nx (lp6 bp bq)).trans ((sq_nx (lp7 bp bq)).trans ((sq_nx (lp8 e6 e7)).trans lp9)))))))))
theorem min_ok (n : Nat) : ∃ N : Nat, N ≤ 9 ∧ ∃ k : Int, bMin2 [.int 6, .int (n : Int)] = some (.int k) ∧ 3 + k = (N : Int) := by
  by_cases c : n < 6
  · refine ⟨3 + n, by omega, n, ?_, by omega⟩
    show some (D.int (if (n : Int) < 6 then (n : Int) else 6)) = _
    rw [if_pos (by omega)]
  · refine ⟨9, by omega, 6, ?_, by omega⟩
    show some (D.int (if (n : Int) < 6 then (n : Int) else 6)) = _
    rw [if_neg (by omega)]
theorem laps_ok {s : DS} {l : Int} {N : Nat} (hl : eCB (bLen) (aCons (eVar 0) (aNil)) s = .ok (.int l) s) (e : ∃ k : Int, bMin2 [.int 6, .int l] = some (.int k) ∧ 3 + k = (N : Int)) (hN : N ≤ 1000000) : itR1 (aCons (eOp2 dAdd (eC (.int 3)) (eCB (bMin2) (aCons (eC (.int 6)) (aCons (eCB (bLen) (aCons (eVar 0) (aNil))) (aNil))))) (aNil)) s = .ok (rngL 0 N) s := by
  obtain ⟨k, e1, e2⟩ := e
  rw [rngL0]
  refine itR1_n ?_ hN
  rw [← e2]
  generalize eCB (bLen) (aCons (eVar 0) (aNil)) = A at *
  simp [hl, e1]
theorem law_ok : ∀ ns : List Int, ns.length ≤ 63 → (∀ z ∈ ns, PySem.Builtin.Int.intBits z ≤ 1048576) → ∃ S, g_law [.scr (ns.map D.int)] [.tab "_law_refusals_right"] = .ok (.bl true) S := by
  intro ns hl _
  obtain ⟨S0, e0, P0⟩ := begin_ok ns
  have key : ∀ N : Nat, N ≤ 9 → ∃ s', forL (gN 2) w_law_2 (rngL 0 N) ⟨[.val (.scr (ns.map D.int)), .val (.cell 1), .un, .un, .un, .un, .un, .un, .un, .un, .un], S0⟩ = .ok .nx s' := fun N hN => by
    obtain ⟨s', e2, _⟩ := for_inv (g := gN 2) (b := w_law_2) (items := rngL 0 N) (s := ⟨[.val (.scr (ns.map D.int)), .val (.cell 1), .un, .un, .un, .un, .un, .un, .un, .un, .un], S0⟩)
      (fun i s => (∃ y2 y3 y4 y5 y6 y7 y8, s.sl = [.val (.scr (ns.map D.int)), .val (.cell 1), y2, y3, y4, y5, y6, y7, y8, .un, .un]) ∧ Pen (400 * i) s.st)
      ⟨⟨_, _, _, _, _, _, _, rfl⟩, P0⟩ (fun i d s hi hp => by
        obtain ⟨⟨y2, y3, y4, y5, y6, y7, y8, hs⟩, hP⟩ := hp
        obtain ⟨sl, st⟩ := s
        simp only at hs hP
        subst hs
        obtain ⟨hi1, rfl⟩ := rngL_get hi
        obtain ⟨z3, z4, z5, z6, z7, z8, S2, e, P2⟩ := lap_ok (x0 := .val (.scr (ns.map D.int))) (x2 := .val (.int (0 + i))) (x3 := y3) (x4 := y4) (x5 := y5) (x6 := y6) (x7 := y7) (x8 := y8) hP (by omega)
        exact ⟨_, _, rfl, .inl e, ⟨_, _, _, _, _, _, _, rfl⟩, P2.mono (by omega)⟩)
    exact ⟨s', e2⟩
  obtain ⟨N, hN, it⟩ : ∃ N : Nat, N ≤ 9 ∧ itR1 (aCons (eOp2 dAdd (eC (.int 3)) (eCB (bMin2) (aCons (eC (.int 6)) (aCons (eCB (bLen) (aCons (eVar 0) (aNil))) (aNil))))) (aNil)) ⟨[.val (.scr (ns.map D.int)), .val (.cell 1), .un, .un, .un, .un, .un, .un, .un, .un, .un], S0⟩ = .ok (rngL 0 N) ⟨[.val (.scr (ns.map D.int)), .val (.cell 1), .un, .un, .un, .un, .un, .un, .un, .un, .un], S0⟩ := by
    obtain ⟨N, hN, e⟩ := min_ok ns.length
    refine ⟨N, hN, laps_ok ?_ e (by omega)⟩
    simp
  obtain ⟨s', e2⟩ := key N hN
  generalize hw : w_law_2 = w at *
  have : b_law = sSeq (sSet 1 (eCall 1 g__law_pen (aCons (eVar 0) (aNil)))) (sSeq (sFor (itR1 (aCons (eOp2 dAdd (eC (.int 3)) (eCB (bMin2) (aCons (eC (.int 6)) (aCons (eCB (bLen) (aCons (eVar 0) (aNil))) (aNil))))) (aNil))) (gN 2) w) (sRet (eC (.bl true)))) := by rw [← hw]; rfl
  have s0 : sSet 1 (eCall 1 g__law_pen (aCons (eVar 0) (aNil))) ⟨[.val (.scr (ns.map D.int)), .un, .un, .un, .un, .un, .un, .un, .un, .un, .un], [.tab "_law_refusals_right"]⟩ = .ok .nx ⟨[.val (.scr (ns.map D.int)), .val (.cell 1), .un, .un, .un, .un, .un, .un, .un, .un, .un], S0⟩ := set_c1 rfl e0
  obtain ⟨sl, st⟩ := s'
  have w2 : b_law ⟨[.val (.scr (ns.map D.int)), .un, .un, .un, .un, .un, .un, .un, .un, .un, .un], [.tab "_law_refusals_right"]⟩ = .ok (.rt (.bl true)) ⟨sl, st⟩ := by
    rw [this]
    exact (sq_nx s0).trans ((sq_nx (for_it it e2)).trans (ret_e rfl))
  exact ⟨st, fn_rt rfl w2⟩
end W_k02
open PySem PySem.W PyProof.Rows
set_option maxRecDepth 100000 in
set_option maxHeartbeats 0 in
theorem PySem.Challenge.cw_areawalks_k02_places_holds : PySem.Challenge.rw_areawalks_k02_places.Holds := by
  w_on; o_law; k_head; (case hw => w_witness2)
  k_fill
  refine DL.walk_ofD (l := PySem.Challenge.rw_areawalks_k02_places) (n := 63) (k := 13) (x := "_law_script") (CX := fun w => L2.CX PySem.Challenge.rw_areawalks_k02_places.prog w) rfl (by decide) rfl ⟨rfl, by decide, by decide⟩ (fun w h Y => PySem.W.km_in_of Y) ?F (fun w => DL.noCX)
  case F =>
    intro w mg fa h KX G hmg TT
    refine' W_k02.all_mk KX G hmg TT ?aC_Place ?cB_Place ?aC_BadNumber ?xl_BadNumber ?xr_BadNumber ?xi_BadNumber ?xf_BadNumber ?xc_BadNumber ?xd_BadNumber ?xv_BadNumber ?xe_BadNumber ?xk_BadNumber ?xB_BadNumber ?aC_BadPlace ?xl_BadPlace ?xr_BadPlace ?xi_BadPlace ?xf_BadPlace ?xc_BadPlace ?xd_BadPlace ?xv_BadPlace ?xe_BadPlace ?xk_BadPlace ?xB_BadPlace ?aC_WalkError ?nr_Place ?tm_mul ?xtop ?xsup ?xm_BadNumber_BadNumber ?xm_BadNumber_BadPlace ?xm_BadNumber_WalkError ?xm_BadPlace_BadNumber ?xm_BadPlace_BadPlace ?xm_BadPlace_WalkError ?xm_WalkError_BadNumber ?xm_WalkError_BadPlace ?xm_WalkError_WalkError ?a1_PlaceX_eqX ?i1_PlaceX_eqX ?l1_PlaceX_eqX ?c1_PlaceX_eqX ?k1_PlaceX_eqX ?a1_is_integer ?l1_is_integer ?c1_is_integer ?k1_is_integer ?a1_PlaceX_initX ?i1_PlaceX_initX ?l1_PlaceX_initX ?c1_PlaceX_initX ?k1_PlaceX_initX ?a1_PlaceX_invertX ?i1_PlaceX_invertX ?l1_PlaceX_invertX ?c1_PlaceX_invertX ?k1_PlaceX_invertX ?a1_PlaceX_mulX ?i1_PlaceX_mulX ?l1_PlaceX_mulX ?c1_PlaceX_mulX ?k1_PlaceX_mulX ?a1_Place_is_home ?i1_Place_is_home ?l1_Place_is_home ?c1_Place_is_home ?k1_Place_is_home ?a1_Place_lifted ?i1_Place_lifted ?l1_Place_lifted ?c1_Place_lifted ?k1_Place_lifted ?a1_need_place ?l1_need_place ?c1_need_place ?k1_need_place ?a1_Place_twist ?i1_Place_twist ?l1_Place_twist ?c1_Place_twist ?k1_Place_twist ?a1__law_draw ?l1__law_draw ?c1__law_draw ?k1__law_draw ?a1__law_pen ?l1__law_pen ?c1__law_pen ?k1__law_pen ?a1__law_pick ?l1__law_pick ?c1__law_pick ?k1__law_pick ?a1__law_big ?l1__law_big ?c1__law_big ?k1__law_big ?a1__law_whole ?l1__law_whole ?c1__law_whole ?k1__law_whole ?a1__law_place ?l1__law_place ?c1__law_place ?k1__law_place ?a1_pairs_below ?l1_pairs_below ?c1_pairs_below ?k1_pairs_below ?a1_Place_power ?i1_Place_power ?l1_Place_power ?c1_Place_power ?k1_Place_power ?a1_home_place ?l1_home_place ?c1_home_place ?k1_home_place ?a1_need_places ?l1_need_places ?c1_need_places ?k1_need_places ?a1_product_of ?l1_product_of ?c1_product_of ?k1_product_of ?a1__law_powers_right ?l1__law_powers_right ?c1__law_powers_right ?k1__law_powers_right ?a1__law_refused ?l1__law_refused ?c1__law_refused ?k1__law_refused ?a1__law_same ?l1__law_same ?c1__law_same ?k1__law_same ?a1__law_refusals_right ?l1__law_refusals_right ?c1__law_refusals_right ?k1__law_refusals_right ?tl__law_refusals_right ?tv__law_refusals_right ?tq__law_refusals_right ?tn__law_refusals_right ?tr__law_refusals_right ?a1__law_step ?l1__law_step ?c1__law_step ?k1__law_step ?a1__law_swept ?l1__law_swept ?c1__law_swept ?k1__law_swept ?a1_law ?l1_law ?c1_law ?k1_law ?z1_all ?z1_bool ?z1_int ?z1_isinstance ?z1_len ?z1_list ?z1_min ?z1_range ?tnd W_k02.law_ok
    (case aC_Place => k_is)
    (case cB_Place => kernel_rfl)
    (case aC_BadNumber => k_is)
    (case xl_BadNumber => k_is)
    (case xr_BadNumber => kernel_rfl)
    (case xi_BadNumber => k_is)
    (case xf_BadNumber => k_is)
    (case xc_BadNumber => k_is)
    (case xd_BadNumber => k_is)
    (case xv_BadNumber => rfl)
    (case xe_BadNumber => kernel_rfl)
    (case xk_BadNumber => k_is)
    (case xB_BadNumber => kernel_rfl)
    (case aC_BadPlace => k_is)
    (case xl_BadPlace => k_is)
    (case xr_BadPlace => kernel_rfl)
    (case xi_BadPlace => k_is)
    (case xf_BadPlace => k_is)
    (case xc_BadPlace => k_is)
    (case xd_BadPlace => k_is)
    (case xv_BadPlace => rfl)
    (case xe_BadPlace => kernel_rfl)
    (case xk_BadPlace => k_is)
    (case xB_BadPlace => kernel_rfl)
    (case aC_WalkError => k_is)
    (case nr_Place => kernel_rfl)
    (case tm_mul => kernel_rfl)
    (case xtop => kernel_rfl)
    (case xsup => k_is)
    (case xm_BadNumber_BadNumber => kernel_rfl)
    (case xm_BadNumber_BadPlace => kernel_rfl)
    (case xm_BadNumber_WalkError => kernel_rfl)
    (case xm_BadPlace_BadNumber => kernel_rfl)
    (case xm_BadPlace_BadPlace => kernel_rfl)
    (case xm_BadPlace_WalkError => kernel_rfl)
    (case xm_WalkError_BadNumber => kernel_rfl)
    (case xm_WalkError_BadPlace => kernel_rfl)
    (case xm_WalkError_WalkError => kernel_rfl)
    (case a1_PlaceX_eqX => k_is)
    (case i1_PlaceX_eqX => k_is)
    (case l1_PlaceX_eqX => k_is)
    (case c1_PlaceX_eqX => k_is)
    (case k1_PlaceX_eqX => k_is)
    (case a1_is_integer => k_is)
    (case l1_is_integer => k_is)
    (case c1_is_integer => k_is)
    (case k1_is_integer => k_is)
    (case a1_PlaceX_initX => k_is)
    (case i1_PlaceX_initX => k_is)
    (case l1_PlaceX_initX => k_is)
    (case c1_PlaceX_initX => k_is)
    (case k1_PlaceX_initX => k_is)
    (case a1_PlaceX_invertX => k_is)
    (case i1_PlaceX_invertX => k_is)
    (case l1_PlaceX_invertX => k_is)
    (case c1_PlaceX_invertX => k_is)
    (case k1_PlaceX_invertX => k_is)
    (case a1_PlaceX_mulX => k_is)
    (case i1_PlaceX_mulX => k_is)
    (case l1_PlaceX_mulX => k_is)
    (case c1_PlaceX_mulX => k_is)
    (case k1_PlaceX_mulX => k_is)
    (case a1_Place_is_home => k_is)
    (case i1_Place_is_home => k_is)
    (case l1_Place_is_home => k_is)
    (case c1_Place_is_home => k_is)
    (case k1_Place_is_home => k_is)
    (case a1_Place_lifted => k_is)
    (case i1_Place_lifted => k_is)
    (case l1_Place_lifted => k_is)
    (case c1_Place_lifted => k_is)
    (case k1_Place_lifted => k_is)
    (case a1_need_place => k_is)
    (case l1_need_place => k_is)
    (case c1_need_place => k_is)
    (case k1_need_place => k_is)
    (case a1_Place_twist => k_is)
    (case i1_Place_twist => k_is)
    (case l1_Place_twist => k_is)
    (case c1_Place_twist => k_is)
    (case k1_Place_twist => k_is)
    (case a1__law_draw => k_is)
    (case l1__law_draw => k_is)
    (case c1__law_draw => k_is)
    (case k1__law_draw => k_is)
    (case a1__law_pen => k_is)
    (case l1__law_pen => k_is)
    (case c1__law_pen => k_is)
    (case k1__law_pen => k_is)
    (case a1__law_pick => k_is)
    (case l1__law_pick => k_is)
    (case c1__law_pick => k_is)
    (case k1__law_pick => k_is)
    (case a1__law_big => k_is)
    (case l1__law_big => k_is)
    (case c1__law_big => k_is)
    (case k1__law_big => k_is)
    (case a1__law_whole => k_is)
    (case l1__law_whole => k_is)
    (case c1__law_whole => k_is)
    (case k1__law_whole => k_is)
    (case a1__law_place => k_is)
    (case l1__law_place => k_is)
    (case c1__law_place => k_is)
    (case k1__law_place => k_is)
    (case a1_pairs_below => k_is)
    (case l1_pairs_below => k_is)
    (case c1_pairs_below => k_is)
    (case k1_pairs_below => k_is)
    (case a1_Place_power => k_is)
    (case i1_Place_power => k_is)
    (case l1_Place_power => k_is)
    (case c1_Place_power => k_is)
    (case k1_Place_power => k_is)
    (case a1_home_place => k_is)
    (case l1_home_place => k_is)
    (case c1_home_place => k_is)
    (case k1_home_place => k_is)
    (case a1_need_places => k_is)
    (case l1_need_places => k_is)
    (case c1_need_places => k_is)
    (case k1_need_places => k_is)
    (case a1_product_of => k_is)
    (case l1_product_of => k_is)
    (case c1_product_of => k_is)
    (case k1_product_of => k_is)
    (case a1__law_powers_right => k_is)
    (case l1__law_powers_right => k_is)
    (case c1__law_powers_right => k_is)
    (case k1__law_powers_right => k_is)
    (case a1__law_refused => k_is)
    (case l1__law_refused => k_is)
    (case c1__law_refused => k_is)
    (case k1__law_refused => k_is)
    (case a1__law_same => k_is)
    (case l1__law_same => k_is)
    (case c1__law_same => k_is)
    (case k1__law_same => k_is)
    (case a1__law_refusals_right => k_is)
    (case l1__law_refusals_right => k_is)
    (case c1__law_refusals_right => k_is)
    (case k1__law_refusals_right => k_is)
    (case tl__law_refusals_right => k_is)
    (case tv__law_refusals_right => rfl)
    (case tq__law_refusals_right => kernel_rfl)
    (case tn__law_refusals_right => kernel_rfl)
    (case tr__law_refusals_right => kernel_rfl)
    (case a1__law_step => k_is)
    (case l1__law_step => k_is)
    (case c1__law_step => k_is)
    (case k1__law_step => k_is)
    (case a1__law_swept => k_is)
    (case l1__law_swept => k_is)
    (case c1__law_swept => k_is)
    (case k1__law_swept => k_is)
    (case a1_law => k_is)
    (case l1_law => k_is)
    (case c1_law => k_is)
    (case k1_law => k_is)
    (case z1_all => k_is)
    (case z1_bool => k_is)
    (case z1_int => k_is)
    (case z1_isinstance => k_is)
    (case z1_len => k_is)
    (case z1_list => k_is)
    (case z1_min => k_is)
    (case z1_range => k_is)
    (case tnd => decide)
