import PyProof.Rows.All
import Wide.All
import OpenK.AllK
import Wide.FinOn
import HandS.ForMost
import HandS.ForExc
import HandS.CallSlots
import HandS.IsInst
import HandS.Wide
import HandS.Flow
import HandS.Property
import HandS.OwnEq
import KE.KOpsOwn
import HandS.Zip
import HandS.Style
import HandS.Exc
import HandS.ExcInit
import HandS.TryMany
import KE.KExcSuper
import HandS.ExcField
import HandS.Lambda
import HandS.EndTab
import HandS.WideBits
import HandS.Deep
import HandS.StrMore
import HandS.NoneIn
import PyProof.StrBlock2
import HandS.TupAny
import HandS.Iter
import HandS.ExcOwn
import PyProof.ExcBaseAll.ValueError
import KE.KCallOwn
import HandS.More
import PyProof.NeKinds
import PySem.Challenge.RW_areawalks_k54_whole_far_lots
set_option Elab.async false
set_option linter.all false
set_option maxRecDepth 100000
set_option maxHeartbeats 4000000
set_option autoImplicit false
namespace DL
open PySem PySem.Spec PyProof.Rows L2

/-! ### data -/
/-- a name or a text by its code points -/
abbrev Nm := List Nat
def nm (l : Nm) : Str := ⟨l.toArray⟩
theorem nm_inj {a b : Nm} (h : nm a = nm b) : a = b := by
  have := congrArg (fun s : Str => s.cps.toList) h
  simpa [nm] using this
inductive DK where
  | i (n : Int)
  | s (l : List Nat)
  deriving DecidableEq
inductive D where
  | non | bl (b : Bool) | int (i : Int) | str (l : List Nat)
  | tup (xs : List D) | lst (xs : List D) | scr (xs : List D)
  | dic (kvs : List (DK × D))
  | ins (c : String) (fs : List (Nm × D))
  | cell (n : Nat) | cls (c : String) | ty (n : String) | fn (f : String) | lam (k : String)
instance : Inhabited D := ⟨.non⟩
/-- a thing of the store, by reference -/
inductive Cell where
  | dic (kvs : List (DK × D))
  | lst (xs : List D)
  | obj (c : String) (fs : List (Nm × D))
  | tab (k : String)
instance : Inhabited Cell := ⟨.lst []⟩
/-- a slot: no value known, a value, a list / dict / instance of this frame's own -/
inductive Sl where
  | un | val (d : D) | ol (xs : List D) | od (kvs : List (DK × D)) | oi (c : String) (fs : List (Nm × D))
instance : Inhabited Sl := ⟨.un⟩
def Sl.own : Sl → Bool
  | .un => false
  | .val _ => false
  | _ => true
structure Xc where
  cls : String
  fs : List (Nm × D)
structure DS where
  sl : List Sl
  st : List Cell
inductive Res (σ α : Type) where
  | ok (a : α) (t : σ) | exc (x : Xc) (t : σ) | stuck
def Res.bind {σ α β : Type} (r : Res σ α) (k : α → σ → Res σ β) : Res σ β := match r with
  | .ok a t => k a t
  | .exc x t => .exc x t
  | .stuck => .stuck
@[simp] theorem Res.bind_ok {σ α β : Type} (a : α) (t : σ) (k : α → σ → Res σ β) : (Res.ok a t).bind k = k a t := rfl
@[simp] theorem Res.bind_exc {σ α β : Type} (x : Xc) (t : σ) (k : α → σ → Res σ β) : (Res.exc x t).bind k = .exc x t := rfl
@[simp] theorem Res.bind_stuck {σ α β : Type} (k : α → σ → Res σ β) : (Res.stuck).bind k = .stuck := rfl
inductive Out where
  | nx | rt (d : D) | bk | ct
abbrev DE := DS → Res DS D
abbrev DA := DS → Res DS (List D)
abbrev DT := DS → Res DS Bool
abbrev DStm := DS → Res DS Out
abbrev DFn := List D → List Cell → Res (List Cell) D

/-! ### how data lie in the heap -/
structure Wd where
  F : Hp
  ρ : List Addr
structure Wd.le (w w' : Wd) : Prop where
  f : ∀ a o, w.F a = some o → w'.F a = some o
  r : w.ρ <+: w'.ρ
theorem Wd.le.refl (w : Wd) : w.le w := ⟨fun _ _ h => h, List.prefix_refl _⟩
theorem Wd.le.trans {a b c : Wd} (h : a.le b) (k : b.le c) : a.le c := ⟨fun x o e => k.f x o (h.f x o e), h.r.trans k.r⟩
structure Gam where
  K : PySem.W.Frag
  ct : String → Option Addr
  ft : String → Option Addr
  lam : String → Addr → Wd → Prop := fun _ _ _ => False
  lamM : ∀ (k : String) (f : Addr) (w w' : Wd), w.le w' → lam k f w → lam k f w' := by (intros; assumption)
  tab : String → Addr → Hp → HO → Prop := fun _ _ _ _ => False
  tabM : ∀ (k : String) (a : Addr) (F F' : Hp) (o : HO), (∀ a o, F a = some o → F' a = some o) → tab k a F o → tab k a F' o := by (intros; assumption)
def dkey : DK → Key
  | .i n => .inl n
  | .s l => .inr (nm l)
mutual
inductive Rep (G : Gam) (w : Wd) : V → D → Prop
  | non : Rep G w .non .non
  | bl (b : Bool) : Rep G w (.bl b) (.bl b)
  | int (i : Int) : Rep G w (.int i) (.int i)
  | str (l : List Nat) : Rep G w (.str (nm l)) (.str l)
  | tup {a : Addr} {vs : List V} {ds : List D} : SqT G.K w.F a vs → Reps G w vs ds → Rep G w (.ref a) (.tup ds)
  | lst {a : Addr} {vs : List V} {ds : List D} : w.F a = some (.lst vs) → Reps G w vs ds → Rep G w (.ref a) (.lst ds)
  | scr {a : Addr} {vs : List V} {ds : List D} : SqL G.K w.F a vs → Reps G w vs ds → Rep G w (.ref a) (.scr ds)
  | dic {a : Addr} {vs : List (Key × V)} {ds : List (DK × D)} : w.F a = some (.dK vs) → RepK G w vs ds → Rep G w (.ref a) (.dic ds)
  | ins {a C dx : Addr} {c : String} {vs : List (Str × V)} {ds : List (Nm × D)} : G.ct c = some C → w.F a = some (.ins C dx vs) → RepF G w vs ds → Rep G w (.ref a) (.ins c ds)
  | cell {a : Addr} {n : Nat} : w.ρ[n]? = some a → Rep G w (.ref a) (.cell n)
  | cls {C : Addr} {c : String} : G.ct c = some C → Rep G w (.ref C) (.cls c)
  | ty (n : String) : Rep G w (.ty n) (.ty n)
  | fn {a : Addr} {f : String} : G.ft f = some a → Rep G w (.ref a) (.fn f)
  | lam {f : Addr} {k : String} : G.lam k f w → Rep G w (.ref f) (.lam k)
inductive Reps (G : Gam) (w : Wd) : List V → List D → Prop
  | nil : Reps G w [] []
  | cons {v : V} {d : D} {vs : List V} {ds : List D} : Rep G w v d → Reps G w vs ds → Reps G w (v :: vs) (d :: ds)
inductive RepF (G : Gam) (w : Wd) : List (Str × V) → List (Nm × D) → Prop
  | nil : RepF G w [] []
  | cons {f : Nm} {v : V} {d : D} {vs : List (Str × V)} {ds : List (Nm × D)} : Rep G w v d → RepF G w vs ds → RepF G w ((nm f, v) :: vs) ((f, d) :: ds)
inductive RepK (G : Gam) (w : Wd) : List (Key × V) → List (DK × D) → Prop
  | nil : RepK G w [] []
  | cons {k : DK} {v : V} {d : D} {vs : List (Key × V)} {ds : List (DK × D)} : Rep G w v d → RepK G w vs ds → RepK G w ((dkey k, v) :: vs) ((k, d) :: ds)
end
theorem SqT.le {K : PySem.W.Frag} {F F' : Hp} {a : Addr} {xs : List V} (h : SqT K F a xs) (e : ∀ a o, F a = some o → F' a = some o) : SqT K F' a xs := by
  rcases h with (h | ⟨o, h⟩) | h
  · exact .inl (.inl (e _ _ h))
  · exact .inl (.inr ⟨o, e _ _ h⟩)
  · exact .inr h
theorem SqL.le {K : PySem.W.Frag} {F F' : Hp} {a : Addr} {xs : List V} (h : SqL K F a xs) (e : ∀ a o, F a = some o → F' a = some o) : SqL K F' a xs := by
  rcases h with (h | ⟨o, h⟩) | h
  · exact .inl (.inl (e _ _ h))
  · exact .inl (.inr ⟨o, e _ _ h⟩)
  · exact .inr h
theorem pre_get {α : Type} {l l' : List α} {n : Nat} {x : α} (h : l <+: l') (e : l[n]? = some x) : l'[n]? = some x := by
  obtain ⟨r, rfl⟩ := h
  rw [List.getElem?_append_left (by exact (List.getElem?_eq_some_iff.mp e).1)]
  exact e
mutual
theorem Rep.mono {G : Gam} {w w' : Wd} (h : w.le w') : ∀ {v : V} {d : D}, Rep G w v d → Rep G w' v d
  | _, _, .non => .non
  | _, _, .bl b => .bl b
  | _, _, .int i => .int i
  | _, _, .str l => .str l
  | _, _, .tup a b => .tup (SqT.le a h.f) (Reps.mono h b)
  | _, _, .lst a b => .lst (h.f _ _ a) (Reps.mono h b)
  | _, _, .scr a b => .scr (SqL.le a h.f) (Reps.mono h b)
  | _, _, .dic a b => .dic (h.f _ _ a) (RepK.mono h b)
  | _, _, .ins c a b => .ins c (h.f _ _ a) (RepF.mono h b)
  | _, _, .cell a => .cell (pre_get h.r a)
  | _, _, .cls a => .cls a
  | _, _, .ty n => .ty n
  | _, _, .fn a => .fn a
  | _, _, .lam a => .lam (G.lamM _ _ _ _ h a)
theorem Reps.mono {G : Gam} {w w' : Wd} (h : w.le w') : ∀ {v : List V} {d : List D}, Reps G w v d → Reps G w' v d
  | _, _, .nil => .nil
  | _, _, .cons a b => .cons (Rep.mono h a) (Reps.mono h b)
theorem RepF.mono {G : Gam} {w w' : Wd} (h : w.le w') : ∀ {v : List (Str × V)} {d : List (Nm × D)}, RepF G w v d → RepF G w' v d
  | _, _, .nil => .nil
  | _, _, .cons a b => .cons (Rep.mono h a) (RepF.mono h b)
theorem RepK.mono {G : Gam} {w w' : Wd} (h : w.le w') : ∀ {v : List (Key × V)} {d : List (DK × D)}, RepK G w v d → RepK G w' v d
  | _, _, .nil => .nil
  | _, _, .cons a b => .cons (Rep.mono h a) (RepK.mono h b)
end
theorem Reps.length {G : Gam} {w : Wd} : ∀ {v : List V} {d : List D}, Reps G w v d → v.length = d.length
  | _, _, .nil => rfl
  | _, _, .cons _ b => by rw [List.length_cons, List.length_cons, Reps.length b]
theorem Reps.get {G : Gam} {w : Wd} : ∀ {v : List V} {d : List D} {i : Nat} {x : D}, Reps G w v d → d[i]? = some x → ∃ y, v[i]? = some y ∧ Rep G w y x
  | _, _, _, _, .nil, e => by simp at e
  | _, _, 0, _, .cons a _, e => by simp at e; subst e; exact ⟨_, rfl, a⟩
  | _, _, i + 1, x, .cons _ b, e => by
    obtain ⟨y, h1, h2⟩ := Reps.get (i := i) (x := x) b (by simpa using e)
    exact ⟨y, by simpa using h1, h2⟩
theorem Reps.append {G : Gam} {w : Wd} : ∀ {v v' : List V} {d d' : List D}, Reps G w v d → Reps G w v' d' → Reps G w (v ++ v') (d ++ d')
  | _, _, _, _, .nil, h => h
  | _, _, _, _, .cons a b, h => .cons a (Reps.append b h)
theorem Reps.set {G : Gam} {w : Wd} {x : V} {y : D} (r : Rep G w x y) : ∀ {v : List V} {d : List D} (i : Nat), Reps G w v d → Reps G w (v.set i x) (d.set i y)
  | _, _, _, .nil => .nil
  | _, _, 0, .cons _ b => .cons r b
  | _, _, i + 1, .cons a b => .cons a (Reps.set r i b)
theorem Reps.drop {G : Gam} {w : Wd} : ∀ {v : List V} {d : List D} (n : Nat), Reps G w v d → Reps G w (v.drop n) (d.drop n)
  | _, _, 0, r => r
  | _, _, _ + 1, .nil => .nil
  | _, _, n + 1, .cons _ t => Reps.drop n t
theorem Reps.take {G : Gam} {w : Wd} : ∀ {v : List V} {d : List D} (n : Nat), Reps G w v d → Reps G w (v.take n) (d.take n)
  | _, _, 0, _ => .nil
  | _, _, _ + 1, .nil => .nil
  | _, _, n + 1, .cons r t => .cons r (Reps.take n t)
theorem Reps.ints {G : Gam} {w : Wd} : ∀ {v : List V} {ns : List Int}, Reps G w v (ns.map D.int) → v = ns.map V.int
  | _, [], h => by cases h; rfl
  | _, n :: ns, h => by
    cases h with
    | cons a b => cases a; rw [Reps.ints b]; rfl
theorem Reps.of_ints {G : Gam} {w : Wd} : ∀ ns : List Int, Reps G w (ns.map V.int) (ns.map D.int)
  | [] => .nil
  | n :: ns => .cons (.int n) (Reps.of_ints ns)
theorem RepF.look {G : Gam} {w : Wd} : ∀ {v : List (Str × V)} {d : List (Nm × D)} {f : Nm} {x : D}, RepF G w v d → d.lookup f = some x → ∃ y, v.lookup (nm f) = some y ∧ Rep G w y x
  | _, _, _, _, .nil, e => by simp at e
  | _, _, f, x, .cons (f := g) a b, e => by
    by_cases h : f = g
    · subst h
      rw [List.lookup_cons_self] at e
      cases e
      exact ⟨_, List.lookup_cons_self, a⟩
    · have h1 : (f == g) = false := beq_eq_false_iff_ne.mpr h
      have h2 : (nm f == nm g) = false := beq_eq_false_iff_ne.mpr fun q => h (nm_inj q)
      simp only [List.lookup_cons, h1] at e
      obtain ⟨y, q1, q2⟩ := RepF.look b e
      exact ⟨y, by simp only [List.lookup_cons, h2]; exact q1, q2⟩
theorem RepF.none {G : Gam} {w : Wd} : ∀ {v : List (Str × V)} {d : List (Nm × D)} {f : Nm}, RepF G w v d → d.lookup f = none → v.lookup (nm f) = none
  | _, _, _, .nil, e => rfl
  | _, _, f, .cons (f := g) a b, e => by
    by_cases h : f = g
    · subst h
      rw [List.lookup_cons_self] at e
      cases e
    · have h1 : (f == g) = false := beq_eq_false_iff_ne.mpr h
      have h2 : (nm f == nm g) = false := beq_eq_false_iff_ne.mpr fun q => h (nm_inj q)
      simp only [List.lookup_cons, h1] at e
      simp only [List.lookup_cons, h2]
      exact RepF.none b e
theorem RepF.length {G : Gam} {w : Wd} : ∀ {v : List (Str × V)} {d : List (Nm × D)}, RepF G w v d → v.length = d.length
  | _, _, .nil => rfl
  | _, _, .cons _ b => by rw [List.length_cons, List.length_cons, RepF.length b]
def putN (f : Nm) (x : D) : List (Nm × D) → List (Nm × D)
  | [] => [(f, x)]
  | (g, y) :: r => if g = f then (f, x) :: r else (g, y) :: putN f x r
/-! ### the store, the slots -/
def CellOk (G : Gam) (w : Wd) (H : Hp) (a : Addr) : Cell → Prop
  | .dic kvs => ∃ vs, H a = some (.dK vs) ∧ RepK G w vs kvs
  | .lst xs => ∃ vs, H a = some (.lst vs) ∧ Reps G w vs xs
  | .obj c fs => ∃ C dx vs, G.ct c = some C ∧ H a = some (.ins C dx vs) ∧ RepF G w vs fs
  | .tab k => ∃ o, H a = some o ∧ G.tab k a w.F o
structure FOk (G : Gam) (w : Wd) (S : List Cell) (H : Hp) : Prop where
  sub : ∀ a o, w.F a = some o → H a = some o
  len : w.ρ.length = S.length
  cel : ∀ (n : Nat) (a : Addr) (c : Cell), w.ρ[n]? = some a → S[n]? = some c → CellOk G w H a c
  nd : w.ρ.Nodup
  nf : ∀ a, a ∈ w.ρ → w.F a = none
theorem CellOk.there {G : Gam} {w : Wd} {H : Hp} {a : Addr} {c : Cell} (h : CellOk G w H a c) : ∃ o, H a = some o := by
  cases c with
  | dic kvs => obtain ⟨_, h, _⟩ := h; exact ⟨_, h⟩
  | lst xs => obtain ⟨_, h, _⟩ := h; exact ⟨_, h⟩
  | obj c fs => obtain ⟨_, _, _, _, h, _⟩ := h; exact ⟨_, h⟩
  | tab k => obtain ⟨_, h, _⟩ := h; exact ⟨_, h⟩
theorem CellOk.mono {G : Gam} {w w' : Wd} {H H' : Hp} {a : Addr} {c : Cell} (h : CellOk G w H a c) (le : w.le w') (e : H' a = H a) : CellOk G w' H' a c := by
  cases c with
  | dic kvs => obtain ⟨_, h, r⟩ := h; exact ⟨_, e.trans h, r.mono le⟩
  | lst xs => obtain ⟨_, h, r⟩ := h; exact ⟨_, e.trans h, r.mono le⟩
  | obj c fs => obtain ⟨_, _, _, q, h, r⟩ := h; exact ⟨_, _, _, q, e.trans h, r.mono le⟩
  | tab k => obtain ⟨_, h, r⟩ := h; exact ⟨_, e.trans h, G.tabM _ _ _ _ _ le.f r⟩
theorem FOk.rho {G : Gam} {w : Wd} {S : List Cell} {H : Hp} (h : FOk G w S H) {a : Addr} (ha : a ∈ w.ρ) : ∃ o, H a = some o := by
  obtain ⟨n, hn, e⟩ := List.getElem_of_mem ha
  have h1 : w.ρ[n]? = some a := by rw [List.getElem?_eq_getElem hn, e]
  have h2 : n < S.length := by rw [← h.len]; exact hn
  exact (h.cel n a _ h1 (List.getElem?_eq_getElem h2)).there
/-- from one state to a later one: what may have changed -/
structure Nx (w : Wd) (H : Hp) (w' : Wd) (H' : Hp) : Prop where
  le : w.le w'
  keep : ∀ a o, H a = some o → a ∉ w.ρ → H' a = some o
  newF : ∀ a, w'.F a ≠ none → w.F a ≠ none ∨ H a = none
  newR : ∀ a, a ∈ w'.ρ → a ∈ w.ρ ∨ H a = none
theorem Nx.refl (w : Wd) (H : Hp) : Nx w H w H := ⟨.refl w, fun _ _ h _ => h, fun _ h => .inl h, fun _ h => .inl h⟩
theorem Nx.trans {G : Gam} {w w1 w2 : Wd} {H H1 H2 : Hp} {S1 : List Cell} (a : Nx w H w1 H1) (f : FOk G w1 S1 H1) (b : Nx w1 H1 w2 H2) : Nx w H w2 H2 := by
  have back : ∀ x, H1 x = none → H x = none := fun x h => by
    cases e : H x with
    | none => rfl
    | some o =>
      by_cases hx : x ∈ w.ρ
      · obtain ⟨o', q⟩ := f.rho (a.le.r.subset hx)
        rw [q] at h; cases h
      · rw [a.keep x o e hx] at h; cases h
  refine ⟨a.le.trans b.le, fun x o e n => ?_, fun x h => ?_, fun x h => ?_⟩
  · refine b.keep x o (a.keep x o e n) fun q => ?_
    rcases a.newR x q with z | z
    · exact n z
    · rw [z] at e; cases e
  · rcases b.newF x h with z | z
    · exact a.newF x z
    · exact .inr (back x z)
  · rcases b.newR x h with z | z
    · exact a.newR x z
    · exact .inr (back x z)
def OwnOk (G : Gam) (w : Wd) (H : Hp) (a : Addr) : Sl → Prop
  | .ol xs => ∃ vs, H a = some (.lst vs) ∧ Reps G w vs xs
  | .od kvs => ∃ vs, H a = some (.dK vs) ∧ RepK G w vs kvs
  | .oi c fs => ∃ C dx vs, G.ct c = some C ∧ H a = some (.ins C dx vs) ∧ RepF G w vs fs
  | _ => False
/-- a frame's base: the world and the heap at its entry; objects that are set apart -/
structure Bs where
  B : Wd
  H : Hp
  γ : List (Addr × HO)
  me : Option Addr
/-- the state of a frame -/
structure Ok (G : Gam) (κ : Bs) (w : Wd) (s : DS) (σ : L2.St) (H : Hp) : Prop where
  fok : FOk G w s.st H
  nx : Nx κ.B κ.H w H
  len : s.sl.length = σ.length
  val : ∀ (i : Nat) (d : D), s.sl[i]? = some (.val d) → ∃ v, σ[i]? = some (some v) ∧ Rep G w v d
  own : ∀ (i : Nat) (x : Sl), s.sl[i]? = some x → x.own = true → ∃ a, σ[i]? = some (some (.ref a)) ∧ OwnOk G w H a x ∧ w.F a = none ∧ a ∉ w.ρ ∧ κ.H a = none
  ne : ∀ (i j : Nat) (x y : Sl) (a : Addr), s.sl[i]? = some x → s.sl[j]? = some y → x.own = true → y.own = true → σ[i]? = some (some (.ref a)) → σ[j]? = some (some (.ref a)) → i = j
  gam : ∀ p ∈ κ.γ, H p.1 = some p.2 ∧ w.F p.1 = none ∧ p.1 ∉ w.ρ ∧ κ.H p.1 = none ∧ ∀ (i : Nat) (x : Sl), s.sl[i]? = some x → x.own = true → σ[i]? ≠ some (some (.ref p.1))
  me : ∀ a, κ.me = some a → ∀ c fs, s.sl[0]? = some (.oi c fs) → σ[0]? = some (some (.ref a))
theorem OwnOk.there {G : Gam} {w : Wd} {H : Hp} {a : Addr} {c : Sl} (h : OwnOk G w H a c) : ∃ o, H a = some o := by
  cases c with
  | ol xs => obtain ⟨_, h, _⟩ := h; exact ⟨_, h⟩
  | od xs => obtain ⟨_, h, _⟩ := h; exact ⟨_, h⟩
  | oi c fs => obtain ⟨_, _, _, _, h, _⟩ := h; exact ⟨_, h⟩
  | un => exact h.elim
  | val _ => exact h.elim
theorem OwnOk.mono {G : Gam} {w w' : Wd} {H H' : Hp} {a : Addr} {c : Sl} (h : OwnOk G w H a c) (le : w.le w') (e : H' a = H a) : OwnOk G w' H' a c := by
  cases c with
  | ol xs => obtain ⟨_, h, r⟩ := h; exact ⟨_, e.trans h, r.mono le⟩
  | od xs => obtain ⟨_, h, r⟩ := h; exact ⟨_, e.trans h, r.mono le⟩
  | oi c fs => obtain ⟨_, _, _, q, h, r⟩ := h; exact ⟨_, _, _, q, e.trans h, r.mono le⟩
  | un => exact h.elim
  | val _ => exact h.elim
section
variable {G : Gam} {κ : Bs} {w w' : Wd} {s : DS} {σ : L2.St} {H H' : Hp} {S' : List Cell}
/-- a step that leaves the slots as they are -/
theorem Ok.step (h : Ok G κ w s σ H) (n : Nx w H w' H') (f : FOk G w' S' H') : Ok G κ w' ⟨s.sl, S'⟩ σ H' := by
  have nF : ∀ a o, H a = some o → w.F a = none → w'.F a = none := fun a ob he h3 => by
    cases q : w'.F a with
    | none => rfl
    | some o =>
      rcases n.newF a (by rw [q]; exact fun z => nomatch z) with z | z
      · exact absurd h3 z
      · rw [he] at z; cases z
  have nR : ∀ a o, H a = some o → a ∉ w.ρ → a ∉ w'.ρ := fun a ob he h4 q => by
    rcases n.newR a q with z | z
    · exact h4 z
    · rw [he] at z; cases z
  refine ⟨f, h.nx.trans h.fok n, h.len, fun i d e => ?_, fun i x e o => ?_, h.ne, fun p hp => ?_, h.me⟩
  · obtain ⟨v, h1, h2⟩ := h.val i d e
    exact ⟨v, h1, h2.mono n.le⟩
  · obtain ⟨a, h1, h2, h3, h4, h5⟩ := h.own i x e o
    obtain ⟨ob, he⟩ := h2.there
    exact ⟨a, h1, h2.mono n.le ((n.keep a ob he h4).trans he.symm), nF a ob he h3, nR a ob he h4, h5⟩
  · obtain ⟨h1, h2, h3, h4, h5⟩ := h.gam p hp
    exact ⟨n.keep _ _ h1 h3, nF _ _ h1 h2, nR _ _ h1 h3, h4, h5⟩
/-- a new frozen object -/
theorem FOk.alloc {S : List Cell} (h : FOk G w S H) {p : Addr} (hp : H p = none) (o : HO) : FOk G ⟨upd w.F p o, w.ρ⟩ S (upd H p o) ∧ Nx w H ⟨upd w.F p o, w.ρ⟩ (upd H p o) := by
  have le : w.le ⟨upd w.F p o, w.ρ⟩ := ⟨fun a u e => by
    show upd w.F p o a = some u
    rw [upd_ne (ne_of_none (h.sub a u e) hp)]
    exact e, List.prefix_refl _⟩
  have np : p ∉ w.ρ := fun q => by
    obtain ⟨o, e⟩ := h.rho q
    rw [hp] at e; cases e
  refine ⟨⟨fun a u e => ?_, h.len, fun n a c e1 e2 => ?_, h.nd, fun a ha => ?_⟩, ⟨le, fun a u e _ => ?_, fun a q => ?_, fun a q => .inl q⟩⟩
  · by_cases z : a = p
    · subst z
      have e : upd w.F a o a = some u := e
      rw [upd_same] at e ⊢
      exact e
    · have e : upd w.F p o a = some u := e
      rw [upd_ne z] at e ⊢
      exact h.sub a u e
  · refine (h.cel n a c e1 e2).mono le (upd_ne fun z => ?_)
    subst z
    exact np (List.mem_of_getElem? e1)
  · show upd w.F p o a = none
    rw [upd_ne (show a ≠ p from fun z => np (by rw [← z]; exact ha))]
    exact h.nf a ha
  · rw [upd_ne (ne_of_none e hp)]
    exact e
  · by_cases z : a = p
    · subst z; exact .inr hp
    · have q : upd w.F p o a ≠ none := q
      rw [upd_ne z] at q
      exact .inl q
theorem Ok.alloc (h : Ok G κ w s σ H) {p : Addr} (hp : H p = none) (o : HO) : w.le ⟨upd w.F p o, w.ρ⟩ ∧ Ok G κ ⟨upd w.F p o, w.ρ⟩ s σ (upd H p o) := by
  obtain ⟨f, n⟩ := h.fok.alloc hp o
  exact ⟨n.le, h.step n f⟩
end
end DL
set_option maxRecDepth 100000
set_option maxHeartbeats 4000000
set_option autoImplicit false
namespace DL
open PySem PySem.Spec PyProof.Rows L2
/-! ### what is wanted behind a piece of code -/
def RepX (G : Gam) (w : Wd) (c : Value) (dd : Option Addr) (x : Xc) : Prop :=
  ∃ C, G.ct x.cls = some C ∧ c = .ref C ∧ ((x.fs = [] ∧ dd = none) ∨ ∃ a vs, dd = some a ∧ w.F a = some (.xd vs) ∧ RepF G w vs x.fs)
section
variable (G : Gam) (W : WX)
def PostG {α β : Type} (rep : Wd → β → α → Prop) (κ : Bs) (w : Wd) (σ : L2.St) (r : Res DS α) (Q : β → Hp → Prop) : Prop := match r with
  | .ok d s' => ∀ w' v H', w.le w' → Ok G κ w' s' σ H' → rep w' v d → Q v H'
  | .exc x s' => ∀ w' c dd H', w.le w' → Ok G κ w' s' σ H' → RepX G w' c dd x → W c dd σ H'
  | .stuck => False
def tD (f : DE) : TE := fun σ H Q => ∃ κ w s, Ok G κ w s σ H ∧ PostG G W (Rep G) κ w σ (f s) Q
def tDT (f : DT) : TT := fun σ H Q => ∃ κ w s, Ok G κ w s σ H ∧ PostG G W (fun _ (v : Bool) d => v = d) κ w σ (f s) Q
def tDA (f : DA) : TA := fun σ H Q => ∃ κ w s, Ok G κ w s σ H ∧ PostG G W (Reps G) κ w σ (f s) Q
def PostS (κ : Bs) (w : Wd) (r : Res DS Out) (N : Ends) : Prop := match r with
  | .ok .nx s' => ∀ w' σ' H', w.le w' → Ok G κ w' s' σ' H' → N.nx σ' H'
  | .ok .bk s' => ∀ w' σ' H', w.le w' → Ok G κ w' s' σ' H' → N.bk σ' H'
  | .ok .ct s' => ∀ w' σ' H', w.le w' → Ok G κ w' s' σ' H' → N.ct σ' H'
  | .ok (.rt d) s' => ∀ w' σ' v H', w.le w' → Ok G κ w' s' σ' H' → Rep G w' v d → N.rt v H'
  | .exc x s' => ∀ w' σ' c dd H', w.le w' → Ok G κ w' s' σ' H' → RepX G w' c dd x → W c dd σ' H'
  | .stuck => False
def tDS (f : DStm) : TS := fun N σ H => ∃ κ w s, Ok G κ w s σ H ∧ PostS G W κ w (f s) N
end
section
variable {G : Gam} {W : WX} {α β γ δ : Type} {rep : Wd → β → α → Prop} {rep' : Wd → δ → γ → Prop} {κ : Bs} {w w1 : Wd} {σ : L2.St}
theorem PostG.mono {r : Res DS α} {Q : β → Hp → Prop} (le : w.le w1) (h : PostG G W rep κ w σ r Q) : PostG G W rep κ w1 σ r Q := by
  cases r with
  | ok d s' => exact fun w' v H' l o r => h w' v H' (le.trans l) o r
  | exc x s' => exact fun w' c dd H' l o r => h w' c dd H' (le.trans l) o r
  | stuck => exact h
theorem PostG.imp {r : Res DS α} {Q Q' : β → Hp → Prop} (h : PostG G W rep κ w σ r Q) (k : ∀ v H, Q v H → Q' v H) : PostG G W rep κ w σ r Q' := by
  cases r with
  | ok d s' => exact fun w' v H' l o r => k _ _ (h w' v H' l o r)
  | exc x s' => exact h
  | stuck => exact h
/-- behind the first of two -/
theorem PostG.bind {r : Res DS α} {k : α → DS → Res DS γ} {Q : δ → Hp → Prop} (h : PostG G W rep' κ w σ (r.bind k) Q) :
    PostG G W rep κ w σ r (fun v H1 => ∃ d s1 w1, w.le w1 ∧ Ok G κ w1 s1 σ H1 ∧ rep w1 v d ∧ PostG G W rep' κ w1 σ (k d s1) Q) := by
  cases r with
  | ok d s' => exact fun w' v H' l o r => ⟨d, s', w', l, o, r, PostG.mono l h⟩
  | exc x s' => exact h
  | stuck => exact h
theorem PostS.mono {r : Res DS Out} {N : Ends} (le : w.le w1) (h : PostS G W κ w r N) : PostS G W κ w1 r N := by
  cases r with
  | ok o s' =>
    cases o with
    | nx => exact fun w' σ' H' l o => h w' σ' H' (le.trans l) o
    | bk => exact fun w' σ' H' l o => h w' σ' H' (le.trans l) o
    | ct => exact fun w' σ' H' l o => h w' σ' H' (le.trans l) o
    | rt d => exact fun w' σ' v H' l o r => h w' σ' v H' (le.trans l) o r
  | exc x s' => exact fun w' σ' c dd H' l o r => h w' σ' c dd H' (le.trans l) o r
  | stuck => exact h
/-- an expression, then a statement's end -/
theorem PostG.bindS {r : Res DS α} {k : α → DS → Res DS Out} {N : Ends} (h : PostS G W κ w (r.bind k) N) :
    PostG G W rep κ w σ r (fun v H1 => ∃ d s1 w1, w.le w1 ∧ Ok G κ w1 s1 σ H1 ∧ rep w1 v d ∧ PostS G W κ w1 (k d s1) N) := by
  cases r with
  | ok d s' => exact fun w' v H' l o r => ⟨d, s', w', l, o, r, PostS.mono l h⟩
  | exc x s' => exact fun w' c dd H' l o r => h w' σ c dd H' l o r
  | stuck => exact h
end
theorem _root_.L2.PE.imp {X : Cx} {e : Expr} {t t' : TE} (h : PE X e t) (k : ∀ σ H Q, t' σ H Q → t σ H Q) : PE X e t' := ⟨fun pins s σ H Q I q => h.run pins s σ H Q I (k σ H Q q)⟩
theorem _root_.L2.PT.imp {X : Cx} {e : Expr} {t t' : TT} (h : PT X e t) (k : ∀ σ H Q, t' σ H Q → t σ H Q) : PT X e t' := ⟨fun pins s σ H Q I q => h.run pins s σ H Q I (k σ H Q q)⟩
theorem _root_.L2.PA.imp {X : Cx} {e : List Expr} {t t' : TA} (h : PA X e t) (k : ∀ σ H Q, t' σ H Q → t σ H Q) : PA X e t' := ⟨fun pos pins s σ H Q I q => h.run pos pins s σ H Q I (k σ H Q q)⟩
theorem _root_.L2.PS.imp {X : Cx} {e : Stmt} {t t' : TS} (h : PS X e t) (k : ∀ D σ H, t' D σ H → t D σ H) : PS X e t' := ⟨fun pins s σ H D I q => h.run pins s σ H D I (k D σ H q)⟩
theorem _root_.L2.PSs.imp {X : Cx} {e : List Stmt} {t t' : TS} (h : PSs X e t) (k : ∀ D σ H, t' D σ H → t D σ H) : PSs X e t' := ⟨fun pins s σ H D I q => h.run pins s σ H D I (k D σ H q)⟩
abbrev PD (G : Gam) (W : WX) (X : Cx) (e : Expr) (f : DE) : Prop := PE X e (tD G W f)
abbrev PDT (G : Gam) (W : WX) (X : Cx) (e : Expr) (f : DT) : Prop := PT X e (tDT G W f)
abbrev PDA (G : Gam) (W : WX) (X : Cx) (es : List Expr) (f : DA) : Prop := PA X es (tDA G W f)
abbrev PDS (G : Gam) (W : WX) (X : Cx) (st : Stmt) (f : DStm) : Prop := PS X st (tDS G W f)
abbrev PDSs (G : Gam) (W : WX) (X : Cx) (st : List Stmt) (f : DStm) : Prop := PSs X st (tDS G W f)
section
variable {G : Gam} {W : WX} {X : Cx}
/-! ### constants, names -/
def eC (d : D) : DE := fun s => .ok d s
theorem pd_c {e : Expr} {v : V} {d : D} (h : PE X e (tC v)) (r : ∀ w, Rep G w v d) : PD G W X e (eC d) :=
  h.imp fun σ H Q ⟨κ, w, s, ok, q⟩ => q w v H (.refl w) ok (r w)
theorem pd_int {i : Int} {j : Nat} {pos : Pos} : PD G W X (.Constant (.int i) j pos) (eC (.int i)) := pd_c pe_int fun _ => .int i
theorem pd_bl {b : Bool} {j : Nat} {pos : Pos} : PD G W X (.Constant (.bool b) j pos) (eC (.bl b)) := pd_c pe_bl fun _ => .bl b
theorem pd_non {j : Nat} {pos : Pos} : PD G W X (.Constant .none j pos) (eC .non) := pd_c pe_non fun _ => .non
theorem pd_str {x : Str} {l : Nm} {j : Nat} {pos : Pos} (h : x = nm l) : PD G W X (.Constant (.str x) j pos) (eC (.str l)) := pd_c pe_str fun _ => by rw [h]; exact .str l
theorem pd_glob {x : Str} {v : V} {u : Value} {d : D} {pos : Pos} (hg : Gl X x) (hm : X.mg x = some u) (r : RelV v u) (rd : ∀ w, Rep G w v d) (hd : (x == ("__debug__" : Str)) = false := by decide) : PD G W X (.Name x pos) (eC d) :=
  pd_c (pe_glob hg hm r hd) rd
def eVar (i : Nat) : DE := fun s => match s.sl[i]? with
  | some (.val d) => .ok d s
  | some (.ol xs) => .ok (.lst xs) ⟨s.sl.set i (.val (.lst xs)), s.st⟩
  | some (.od kvs) => .ok (.dic kvs) ⟨s.sl.set i (.val (.dic kvs)), s.st⟩
  | some (.oi c fs) => .ok (.ins c fs) ⟨s.sl.set i (.val (.ins c fs)), s.st⟩
  | _ => .stuck
theorem Ok.freeze {κ : Bs} {w : Wd} {s : DS} {σ : L2.St} {H : Hp} (h : Ok G κ w s σ H) {i : Nat} {x : Sl} {a : Addr} {o : HO} {d : D} (hx : s.sl[i]? = some x) (own : x.own = true) (ha : σ[i]? = some (some (.ref a)))
    (ho : H a = some o) (hd : ∀ w' : Wd, w.le w' → w'.F a = some o → Rep G w' (.ref a) d) :
    w.le ⟨upd w.F a o, w.ρ⟩ ∧ Ok G κ ⟨upd w.F a o, w.ρ⟩ ⟨s.sl.set i (.val d), s.st⟩ σ H := by
  obtain ⟨a', h1, h2, h3, h4, h5⟩ := h.own i x hx own
  rw [ha] at h1
  cases h1
  have le : w.le ⟨upd w.F a o, w.ρ⟩ := ⟨fun b u e => by
    show upd w.F a o b = some u
    rw [upd_ne (ne_of_none e h3)]
    exact e, List.prefix_refl _⟩
  have hil : i < s.sl.length := (List.getElem?_eq_some_iff.mp hx).1
  have sub : ∀ (b : Addr) (u : HO), upd w.F a o b = some u → H b = some u := fun b u e => by
    by_cases z : b = a
    · subst z
      rw [upd_same] at e
      cases e
      exact ho
    · rw [upd_ne z] at e
      exact h.fok.sub b u e
  have fok : FOk G ⟨upd w.F a o, w.ρ⟩ s.st H := ⟨sub, h.fok.len, fun n b c e1 e2 => (h.fok.cel n b c e1 e2).mono le rfl, h.fok.nd, fun b hb => by
    show upd w.F a o b = none
    rw [upd_ne (show b ≠ a from fun z => h4 (by rw [← z]; exact hb))]
    exact h.fok.nf b hb⟩
  refine ⟨le, ⟨fok, ⟨h.nx.le.trans le, h.nx.keep, fun b q => ?_, h.nx.newR⟩, by rw [List.length_set]; exact h.len, fun j e hj => ?_, fun j y hj oy => ?_, fun j k y z b hj hk oy oz e1 e2 => ?_, fun p hp => ?_, fun b hb c fs e => ?_⟩⟩
  · by_cases z : b = a
    · subst z; exact .inr h5
    · have q : upd w.F a o b ≠ none := q
      rw [upd_ne z] at q
      exact h.nx.newF b q
  · by_cases z : j = i
    · subst z
      rw [List.getElem?_set_self hil] at hj
      cases hj
      exact ⟨_, ha, hd _ le upd_same⟩
    · rw [List.getElem?_set_ne (Ne.symm z)] at hj
      obtain ⟨v, q1, q2⟩ := h.val j e hj
      exact ⟨v, q1, q2.mono le⟩
  · by_cases z : j = i
    · subst z
      rw [List.getElem?_set_self hil] at hj
      cases hj
      cases oy
    · rw [List.getElem?_set_ne (Ne.symm z)] at hj
      obtain ⟨b, q1, q2, q3, q4, q5⟩ := h.own j y hj oy
      refine ⟨b, q1, q2.mono le rfl, ?_, q4, q5⟩
      show upd w.F a o b = none
      rw [upd_ne (show b ≠ a from fun e => z (h.ne j i y x b hj hx oy own q1 (by rw [e]; exact ha)))]
      exact q3
  · have nj : j ≠ i := fun z => by
      subst z
      rw [List.getElem?_set_self hil] at hj
      cases hj
      cases oy
    have nk : k ≠ i := fun z => by
      subst z
      rw [List.getElem?_set_self hil] at hk
      cases hk
      cases oz
    rw [List.getElem?_set_ne (Ne.symm nj)] at hj
    rw [List.getElem?_set_ne (Ne.symm nk)] at hk
    exact h.ne j k y z b hj hk oy oz e1 e2
  · obtain ⟨q1, q2, q3, q4, q5⟩ := h.gam p hp
    refine ⟨q1, ?_, q3, q4, fun j y hj oy => ?_⟩
    · show upd w.F a o p.1 = none
      rw [upd_ne (show p.1 ≠ a from fun e => q5 i x hx own (by rw [ha, e]))]
      exact q2
    · have nj : j ≠ i := fun z => by
        subst z
        rw [List.getElem?_set_self hil] at hj
        cases hj
        cases oy
      rw [List.getElem?_set_ne (Ne.symm nj)] at hj
      exact q5 j y hj oy
  · by_cases z : i = 0
    · subst z
      rw [List.getElem?_set_self hil] at e
      cases e
    · rw [List.getElem?_set_ne z] at e
      exact h.me b hb c fs e
theorem pd_var {i : Nat} {x : Str} {pos : Pos} (h : PE X (.Name x pos) (tVar i)) : PD G W X (.Name x pos) (eVar i) := h.imp fun σ H Q ⟨κ, w, s, ok, q⟩ => by
  unfold eVar at q
  cases e : s.sl[i]? with
  | none => rw [e] at q; exact q.elim
  | some x =>
    rw [e] at q
    cases x with
    | un => exact q.elim
    | val d =>
      obtain ⟨v, h1, h2⟩ := ok.val i d e
      exact ⟨v, h1, q w v H (.refl w) ok h2⟩
    | ol xs =>
      obtain ⟨a, h1, ⟨vs, h2, h3⟩, _⟩ := ok.own i _ e rfl
      obtain ⟨le, ok'⟩ := ok.freeze (d := .lst xs) e rfl h1 h2 fun w' l f => .lst f (h3.mono l)
      exact ⟨_, h1, q _ _ H le ok' (.lst upd_same (h3.mono le))⟩
    | od xs =>
      obtain ⟨a, h1, ⟨vs, h2, h3⟩, _⟩ := ok.own i _ e rfl
      obtain ⟨le, ok'⟩ := ok.freeze (d := .dic xs) e rfl h1 h2 fun w' l f => .dic f (h3.mono l)
      exact ⟨_, h1, q _ _ H le ok' (.dic upd_same (h3.mono le))⟩
    | oi c fs =>
      obtain ⟨a, h1, ⟨C, dx, vs, hC, h2, h3⟩, _⟩ := ok.own i _ e rfl
      obtain ⟨le, ok'⟩ := ok.freeze (d := .ins c fs) e rfl h1 h2 fun w' l f => .ins hC f (h3.mono l)
      exact ⟨_, h1, q _ _ H le ok' (.ins hC upd_same (h3.mono le))⟩
/-! ### operators -/
def eOp2 (o : D → D → Option D) (fa fb : DE) : DE := fun s => (fa s).bind fun x s1 => (fb s1).bind fun y s2 => match o x y with
  | some d => .ok d s2
  | none => .stuck
/-- an operator by data -/
def OpD (G : Gam) (X : Cx) (f : Value → Value → Sem Value) (o : D → D → Option D) : Prop := ∃ r, OpR X f r ∧ ∀ (κ : Bs) (w : Wd) (s : DS) (σ : L2.St) (H : Hp) (x y : V) (dx dy d : D) (Q : VK),
  Ok G κ w s σ H → Rep G w x dx → Rep G w y dy → o dx dy = some d → (∀ w' v H', w.le w' → Ok G κ w' s σ H' → Rep G w' v d → Q v H') → r x y H Q
theorem op2 {r : R2} {o : D → D → Option D} {fa fb : DE} {σ : L2.St} {H : Hp} {Q : VK}
    (hr : ∀ (κ : Bs) (w : Wd) (s : DS) (σ : L2.St) (H : Hp) (x y : V) (dx dy d : D) (Q : VK), Ok G κ w s σ H → Rep G w x dx → Rep G w y dy → o dx dy = some d → (∀ w' v H', w.le w' → Ok G κ w' s σ H' → Rep G w' v d → Q v H') → r x y H Q)
    (h : tD G W (eOp2 o fa fb) σ H Q) : tOp r (tD G W fa) (tD G W fb) σ H Q := by
  obtain ⟨κ, w, s, ok, q⟩ := h
  refine ⟨κ, w, s, ok, (PostG.bind q).imp fun v H1 ⟨d, s1, w1, le, ok1, r1, q1⟩ => ?_⟩
  refine ⟨κ, w1, s1, ok1, (PostG.bind q1).imp fun v2 H2 ⟨d2, s2, w2, le2, ok2, r2, q2⟩ => ?_⟩
  cases e : o d d2 with
  | none => rw [e] at q2; exact q2.elim
  | some z => rw [e] at q2; exact hr κ w2 s2 σ H2 v v2 d d2 z Q ok2 (r1.mono le2) r2 e q2
theorem pd_op {op : Operator} {o : D → D → Option D} {a b : Expr} {fa fb : DE} {pos : Pos} (ho : OpD G X (binaryOp op) o) (ha : PD G W X a fa) (hb : PD G W X b fb) : PD G W X (.BinOp a op b pos) (eOp2 o fa fb) := by
  obtain ⟨r, h1, h2⟩ := ho
  exact (pe_op h1 ha hb).imp fun σ H Q h => op2 h2 h
theorem pd_cmp {op : CmpOp} {o : D → D → Option D} {a b : Expr} {fa fb : DE} {pos : Pos} (ho : OpD G X (compareOp op) o) (ha : PD G W X a fa) (hb : PD G W X b fb) (hm : behindInMarks op b = false) : PD G W X (.Compare a [op] [b] pos) (eOp2 o fa fb) := by
  obtain ⟨r, h1, h2⟩ := ho
  exact (pe_cmpR h1 ha hb hm).imp fun σ H Q h => op2 h2 h
/-- a value that is a bool, as a test -/
def eB (f : DE) : DT := fun s => (f s).bind fun d s1 => match d with
  | .bl b => .ok b s1
  | _ => .stuck
theorem tB_of {f : DE} {σ : L2.St} {H : Hp} {Q : Bool → Hp → Prop} (h : tDT G W (eB f) σ H Q) : tD G W f σ H fun x H1 => ∃ c, x = .bl c ∧ Q c H1 := by
  obtain ⟨κ, w, s, ok, q⟩ := h
  refine ⟨κ, w, s, ok, (PostG.bind q).imp fun v H1 ⟨d, s1, w1, le, ok1, r1, q1⟩ => ?_⟩
  cases r1 with
  | bl b => exact ⟨b, rfl, q1 w1 b H1 (.refl _) ok1 rfl⟩
  | _ => exact q1.elim
theorem ptd_val {e : Expr} {f : DE} (h : PD G W X e f) (he : ∀ whole, isTrue e X.env whole = (do let v ← whole; standAt e.pos; holding [v] (truthy v)) := by intro _; rfl) : PDT G W X e (eB f) :=
  (pt_val h he).imp fun σ H Q q => tB_of q
theorem ptd_cmp {op : CmpOp} {o : D → D → Option D} {a b : Expr} {fa fb : DE} {pos : Pos} (ho : OpD G X (compareOp op) o) (ha : PD G W X a fa) (hb : PD G W X b fb) (hm : behindInMarks op b = false) : PDT G W X (.Compare a [op] [b] pos) (eB (eOp2 o fa fb)) := by
  obtain ⟨r, h1, h2⟩ := ho
  exact (pt_cmpR h1 ha hb hm).imp fun σ H Q h => op2 h2 (tB_of h)
/-! ### and, or, not, if -/
def bAnd (f g : DT) : DT := fun s => (f s).bind fun b s1 => if b = true then g s1 else .ok false s1
def bOr (f g : DT) : DT := fun s => (f s).bind fun b s1 => if b = true then .ok true s1 else g s1
def bNot (f : DT) : DT := fun s => (f s).bind fun b s1 => .ok (!b) s1
abbrev PDW (G : Gam) (W : WX) (X : Cx) (e : Expr) (f : DT) : Prop := PW X e (tDT G W f)
theorem _root_.L2.PW.imp {X : Cx} {e : Expr} {t t' : TT} (h : PW X e t) (k : ∀ σ H Q, t' σ H Q → t σ H Q) : PW X e t' := ⟨fun wh pins s σ H Q I q => h.run wh pins s σ H Q I (k σ H Q q)⟩
theorem pwd_and1 {a : Expr} {f : DT} {pos : Pos} (h : PDT G W X a f) : PDW G W X (.BoolOp .And [a] pos) f := pw_and1 h
theorem pwd_or1 {a : Expr} {f : DT} {pos : Pos} (h : PDT G W X a f) : PDW G W X (.BoolOp .Or [a] pos) f := pw_or1 h
theorem pwd_and {a b : Expr} {r : List Expr} {f g : DT} {pos : Pos} (h : PDT G W X a f) (k : PDW G W X (.BoolOp .And (b :: r) pos) g) : PDW G W X (.BoolOp .And (a :: b :: r) pos) (bAnd f g) :=
  (pw_and h k).imp fun σ H Q ⟨κ, w, s, ok, q⟩ => ⟨κ, w, s, ok, (PostG.bind q).imp fun v H1 ⟨d, s1, w1, le, ok1, r1, q1⟩ => by
    subst r1
    cases v with
    | true => exact ⟨κ, w1, s1, ok1, q1⟩
    | false => exact q1 w1 false H1 (.refl _) ok1 rfl⟩
theorem pwd_or {a b : Expr} {r : List Expr} {f g : DT} {pos : Pos} (h : PDT G W X a f) (k : PDW G W X (.BoolOp .Or (b :: r) pos) g) : PDW G W X (.BoolOp .Or (a :: b :: r) pos) (bOr f g) :=
  (pw_or h k).imp fun σ H Q ⟨κ, w, s, ok, q⟩ => ⟨κ, w, s, ok, (PostG.bind q).imp fun v H1 ⟨d, s1, w1, le, ok1, r1, q1⟩ => by
    subst r1
    cases v with
    | false => exact ⟨κ, w1, s1, ok1, q1⟩
    | true => exact q1 w1 true H1 (.refl _) ok1 rfl⟩
theorem ptd_not {a : Expr} {f : DT} {pos : Pos} (h : PDT G W X a f) : PDT G W X (.UnaryOp .Not a pos) (bNot f) :=
  (pt_not h).imp fun σ H Q ⟨κ, w, s, ok, q⟩ => ⟨κ, w, s, ok, (PostG.bind q).imp fun v H1 ⟨d, s1, w1, le, ok1, r1, q1⟩ => by
    subst r1
    exact q1 w1 _ H1 (.refl _) ok1 rfl⟩
/-- as values -/
def eAnd (f g : DE) : DE := fun s => (f s).bind fun d s1 => match d with
  | .bl b => if b = true then g s1 else .ok (.bl false) s1
  | _ => .stuck
def eOr (f g : DE) : DE := fun s => (f s).bind fun d s1 => match d with
  | .bl b => if b = true then .ok (.bl true) s1 else g s1
  | _ => .stuck
def eNot (f : DE) : DE := fun s => (f s).bind fun d s1 => match d with
  | .bl b => .ok (.bl (!b)) s1
  | _ => .stuck
theorem pd_one {op : PySem.BoolOp} {a : Expr} {f : DE} {pos : Pos} (h : PD G W X a f) : PD G W X (.BoolOp op [a] pos) f := pe_one h
theorem pd_and {a b : Expr} {r : List Expr} {f g : DE} {pos : Pos} (h : PD G W X a f) (k : PD G W X (.BoolOp .And (b :: r) pos) g) : PD G W X (.BoolOp .And (a :: b :: r) pos) (eAnd f g) :=
  (pe_and h k).imp fun σ H Q ⟨κ, w, s, ok, q⟩ => ⟨κ, w, s, ok, (PostG.bind q).imp fun v H1 ⟨d, s1, w1, le, ok1, r1, q1⟩ => by
    cases r1 with
    | bl b =>
      refine ⟨b, rfl, ?_⟩
      cases b with
      | true => exact ⟨κ, w1, s1, ok1, q1⟩
      | false => exact q1 w1 _ H1 (.refl _) ok1 (.bl false)
    | _ => exact q1.elim⟩
theorem pd_or {a b : Expr} {r : List Expr} {f g : DE} {pos : Pos} (h : PD G W X a f) (k : PD G W X (.BoolOp .Or (b :: r) pos) g) : PD G W X (.BoolOp .Or (a :: b :: r) pos) (eOr f g) :=
  (pe_or h k).imp fun σ H Q ⟨κ, w, s, ok, q⟩ => ⟨κ, w, s, ok, (PostG.bind q).imp fun v H1 ⟨d, s1, w1, le, ok1, r1, q1⟩ => by
    cases r1 with
    | bl b =>
      refine ⟨b, rfl, ?_⟩
      cases b with
      | false => exact ⟨κ, w1, s1, ok1, q1⟩
      | true => exact q1 w1 _ H1 (.refl _) ok1 (.bl true)
    | _ => exact q1.elim⟩
theorem pd_not {a : Expr} {f : DE} {pos : Pos} (h : PD G W X a f) : PD G W X (.UnaryOp .Not a pos) (eNot f) :=
  (pe_not h).imp fun σ H Q ⟨κ, w, s, ok, q⟩ => ⟨κ, w, s, ok, (PostG.bind q).imp fun v H1 ⟨d, s1, w1, le, ok1, r1, q1⟩ => by
    cases r1 with
    | bl b => exact ⟨b, rfl, q1 w1 _ H1 (.refl _) ok1 (.bl _)⟩
    | _ => exact q1.elim⟩
def eIf (c : DT) (f g : DE) : DE := fun s => (c s).bind fun b s1 => if b = true then f s1 else g s1
theorem pd_ifExp {c a b : Expr} {fc : DT} {f g : DE} {pos : Pos} (hc : PDT G W X c fc) (h : PD G W X a f) (k : PD G W X b g) : PD G W X (.IfExp c a b pos) (eIf fc f g) :=
  (pe_ifExp hc h k).imp fun σ H Q ⟨κ, w, s, ok, q⟩ => ⟨κ, w, s, ok, (PostG.bind q).imp fun v H1 ⟨d, s1, w1, le, ok1, r1, q1⟩ => by
    subst r1
    cases v with
    | true => exact ⟨κ, w1, s1, ok1, q1⟩
    | false => exact ⟨κ, w1, s1, ok1, q1⟩⟩
/-! ### argument lists -/
def aNil : DA := fun s => .ok [] s
def aCons (f : DE) (g : DA) : DA := fun s => (f s).bind fun d s1 => (g s1).bind fun ds s2 => .ok (d :: ds) s2
theorem pda_nil : PDA G W X [] aNil := pa_nil.imp fun σ H Q ⟨κ, w, s, ok, q⟩ => q w [] H (.refl _) ok .nil
theorem pda_cons {e : Expr} {es : List Expr} {f : DE} {g : DA} (h : PD G W X e f) (k : PDA G W X es g) (hs : starEach (e :: es) X.env = (false, eval e X.env) :: starEach es X.env := by rfl) : PDA G W X (e :: es) (aCons f g) :=
  (pa_cons h k hs).imp fun σ H Q ⟨κ, w, s, ok, q⟩ => ⟨κ, w, s, ok, (PostG.bind q).imp fun v H1 ⟨d, s1, w1, le, ok1, r1, q1⟩ =>
    ⟨κ, w1, s1, ok1, (PostG.bind q1).imp fun v2 H2 ⟨d2, s2, w2, le2, ok2, r2, q2⟩ => q2 w2 _ H2 (.refl _) ok2 (.cons (r1.mono le2) r2)⟩⟩
/-! ### tuples, lists -/
def eTup (g : DA) : DE := fun s => (g s).bind fun ds s1 => if ds.length ≤ 1000 then .ok (.tup ds) s1 else .stuck
theorem sz1000 {n : Nat} (h : n ≤ 1000) : n ≤ sizeLine := Nat.le_of_lt (small1000 h)
theorem pd_tup {es : List Expr} {k : Nat} {g : DA} {pos : Pos} (h : PDA G W X es g) : PD G W X (.Tuple es k pos) (eTup g) :=
  (pe_tup h).imp fun σ H Q ⟨κ, w, s, ok, q⟩ => ⟨κ, w, s, ok, (PostG.bind q).imp fun v H1 ⟨d, s1, w1, le, ok1, r1, q1⟩ => by
    by_cases c : d.length ≤ 1000
    · rw [if_pos c] at q1
      refine ⟨by rw [r1.length]; exact sz1000 c, fun p hp => ?_⟩
      obtain ⟨le2, ok2⟩ := ok1.alloc hp (.tup v)
      exact q1 _ _ _ le2 ok2 (.tup (.inl (.inl upd_same)) (r1.mono le2))
    · rw [if_neg c] at q1
      exact q1.elim⟩
end
end DL
set_option maxRecDepth 100000
set_option maxHeartbeats 4000000
set_option autoImplicit false
namespace DL
open PySem PySem.Spec PyProof.Rows L2
section
variable {G : Gam} {W : WX} {X : Cx} {κ : Bs} {w : Wd} {s : DS} {σ : L2.St} {H : Hp}
/-- an object set apart -/
abbrev Bs.plus (κ : Bs) (a : Addr) (o : HO) : Bs := ⟨κ.B, κ.H, (a, o) :: κ.γ, κ.me⟩
theorem Ok.back (h : Ok G κ w s σ H) {p : Addr} (hp : H p = none) : κ.H p = none := by
  cases e : κ.H p with
  | none => rfl
  | some o =>
    by_cases hx : p ∈ κ.B.ρ
    · obtain ⟨o', q⟩ := h.fok.rho (h.nx.le.r.subset hx)
      rw [q] at hp; cases hp
    · rw [h.nx.keep p o e hx] at hp; cases hp
/-- a new object, set apart -/
theorem Ok.fresh (h : Ok G κ w s σ H) {p : Addr} (hp : H p = none) (o : HO) : Ok G (κ.plus p o) w s σ (upd H p o) := by
  have ne : ∀ {a : Addr} {u : HO}, H a = some u → a ≠ p := fun e => ne_of_none e hp
  have nF : w.F p = none := by
    cases e : w.F p with
    | none => rfl
    | some u => rw [h.fok.sub p u e] at hp; cases hp
  have nR : p ∉ w.ρ := fun q => by
    obtain ⟨u, e⟩ := h.fok.rho q
    rw [e] at hp; cases hp
  refine ⟨⟨fun a u e => ?_, h.fok.len, fun n a c e1 e2 => ?_, h.fok.nd, h.fok.nf⟩, ⟨h.nx.le, fun a u e n => ?_, h.nx.newF, h.nx.newR⟩, h.len, h.val, fun i x e o' => ?_, h.ne, fun q hq => ?_, h.me⟩
  · rw [upd_ne (ne (h.fok.sub a u e))]
    exact h.fok.sub a u e
  · obtain ⟨u, q⟩ := (h.fok.cel n a c e1 e2).there
    exact (h.fok.cel n a c e1 e2).mono (.refl _) (upd_ne (ne q))
  · rw [upd_ne (ne (h.nx.keep a u e n))]
    exact h.nx.keep a u e n
  · obtain ⟨a, h1, h2, h3, h4, h5⟩ := h.own i x e o'
    obtain ⟨u, q⟩ := h2.there
    exact ⟨a, h1, h2.mono (.refl _) (upd_ne (ne q)), h3, h4, h5⟩
  · rcases List.mem_cons.mp hq with rfl | hq
    · refine ⟨upd_same, nF, nR, h.back hp, fun i x e o' z => ?_⟩
      obtain ⟨a, h1, h2, _⟩ := h.own i x e o'
      rw [h1] at z
      cases z
      obtain ⟨u, q⟩ := h2.there
      exact ne q rfl
    · obtain ⟨h1, h2⟩ := h.gam q hq
      exact ⟨by rw [upd_ne (ne h1)]; exact h1, h2⟩
theorem Ok.unplus {a : Addr} {o : HO} (h : Ok G (κ.plus a o) w s σ H) : Ok G κ w s σ H := ⟨h.fok, h.nx, h.len, h.val, h.own, h.ne, fun p hp => h.gam p (List.mem_cons_of_mem _ hp), h.me⟩
/-- what was set apart is frozen (its address is not set apart twice) -/
theorem Ok.frz {a : Addr} {o : HO} (h : Ok G (κ.plus a o) w s σ H) (hγ : ∀ p ∈ κ.γ, p.1 ≠ a) : w.le ⟨upd w.F a o, w.ρ⟩ ∧ Ok G κ ⟨upd w.F a o, w.ρ⟩ s σ H := by
  obtain ⟨ho, h3, h4, h5, h6⟩ := h.gam (a, o) List.mem_cons_self
  have le : w.le ⟨upd w.F a o, w.ρ⟩ := ⟨fun b u e => by
    show upd w.F a o b = some u
    rw [upd_ne (ne_of_none e h3)]
    exact e, List.prefix_refl _⟩
  have sub : ∀ (b : Addr) (u : HO), upd w.F a o b = some u → H b = some u := fun b u e => by
    by_cases z : b = a
    · subst z
      rw [upd_same] at e
      cases e
      exact ho
    · rw [upd_ne z] at e
      exact h.fok.sub b u e
  refine ⟨le, ⟨⟨sub, h.fok.len, fun n b c e1 e2 => (h.fok.cel n b c e1 e2).mono le rfl, h.fok.nd, fun b hb => ?_⟩, ⟨h.nx.le.trans le, h.nx.keep, fun b q => ?_, h.nx.newR⟩, h.len, fun i d e => ?_, fun i x e o' => ?_, h.ne, fun p hp => ?_, h.me⟩⟩
  · show upd w.F a o b = none
    rw [upd_ne (show b ≠ a from fun z => h4 (by rw [← z]; exact hb))]
    exact h.fok.nf b hb
  · by_cases z : b = a
    · subst z; exact .inr h5
    · have q : upd w.F a o b ≠ none := q
      rw [upd_ne z] at q
      exact h.nx.newF b q
  · obtain ⟨v, h1, h2⟩ := h.val i d e
    exact ⟨v, h1, h2.mono le⟩
  · obtain ⟨b, q1, q2, q3, q4, q5⟩ := h.own i x e o'
    refine ⟨b, q1, q2.mono le rfl, ?_, q4, q5⟩
    show upd w.F a o b = none
    rw [upd_ne (show b ≠ a from fun z => h6 i x e o' (by rw [q1, z]))]
    exact q3
  · obtain ⟨q1, q2, q3⟩ := h.gam p (List.mem_cons_of_mem _ hp)
    refine ⟨q1, ?_, q3⟩
    show upd w.F a o p.1 = none
    rw [upd_ne (hγ p hp)]
    exact q2
/-- a slot is set -/
theorem Ok.setVal (h : Ok G κ w s σ H) {v : V} {d : D} (r : Rep G w v d) (i : Nat) : Ok G κ w ⟨s.sl.set i (.val d), s.st⟩ (σ.set i (some v)) H := by
  have back : ∀ (j : Nat) (x : Sl), (s.sl.set i (.val d))[j]? = some x → (j = i ∧ x = .val d ∧ i < s.sl.length) ∨ (j ≠ i ∧ s.sl[j]? = some x) := fun j x e => by
    by_cases z : j = i
    · subst z
      have hl : j < s.sl.length := by
        have := (List.getElem?_eq_some_iff.mp e).1
        rwa [List.length_set] at this
      rw [List.getElem?_set_self hl] at e
      exact .inl ⟨rfl, (Option.some.inj e).symm, hl⟩
    · rw [List.getElem?_set_ne (Ne.symm z)] at e
      exact .inr ⟨z, e⟩
  refine ⟨h.fok, h.nx, by rw [List.length_set, List.length_set]; exact h.len, fun j e hj => ?_, fun j x hj o => ?_, fun j k x y a hj hk ox oy e1 e2 => ?_, fun p hp => ?_, fun b hb c fs e => ?_⟩
  · rcases back j _ hj with ⟨rfl, q, hl⟩ | ⟨z, hj⟩
    · cases q
      exact ⟨v, List.getElem?_set_self (by rw [← h.len]; exact hl), r⟩
    · rw [List.getElem?_set_ne (Ne.symm z)]
      exact h.val j e hj
  · rcases back j _ hj with ⟨rfl, q, hl⟩ | ⟨z, hj⟩
    · subst q; cases o
    · rw [List.getElem?_set_ne (Ne.symm z)]
      exact h.own j x hj o
  · rcases back j _ hj with ⟨rfl, q, hl⟩ | ⟨z, hj⟩
    · subst q; cases ox
    · rcases back k _ hk with ⟨rfl, q, hl⟩ | ⟨z', hk⟩
      · subst q; cases oy
      · rw [List.getElem?_set_ne (Ne.symm z)] at e1
        rw [List.getElem?_set_ne (Ne.symm z')] at e2
        exact h.ne j k x y a hj hk ox oy e1 e2
  · obtain ⟨q1, q2, q3, q4, q5⟩ := h.gam p hp
    refine ⟨q1, q2, q3, q4, fun j x hj o => ?_⟩
    rcases back j _ hj with ⟨rfl, q, hl⟩ | ⟨z, hj⟩
    · subst q; cases o
    · rw [List.getElem?_set_ne (Ne.symm z)]
      exact q5 j x hj o
  · rcases back 0 _ e with ⟨z, q, hl⟩ | ⟨z, e⟩
    · cases q
    · rw [List.getElem?_set_ne (Ne.symm z)]
      exact h.me b hb c fs e
/-- a slot gets what was set apart -/
theorem Ok.setOwn {a : Addr} {o : HO} (h : Ok G (κ.plus a o) w s σ H) (hγ : ∀ p ∈ κ.γ, p.1 ≠ a) {y : Sl} (hy : OwnOk G w H a y) (oy : y.own = true) (hy0 : ∀ c fs, y ≠ .oi c fs) (i : Nat) : Ok G κ w ⟨s.sl.set i y, s.st⟩ (σ.set i (some (.ref a))) H := by
  obtain ⟨ho, h3, h4, h5, h6⟩ := h.gam (a, o) List.mem_cons_self
  have back : ∀ (j : Nat) (x : Sl), (s.sl.set i y)[j]? = some x → (j = i ∧ x = y ∧ i < s.sl.length) ∨ (j ≠ i ∧ s.sl[j]? = some x) := fun j x e => by
    by_cases z : j = i
    · subst z
      have hl : j < s.sl.length := by
        have := (List.getElem?_eq_some_iff.mp e).1
        rwa [List.length_set] at this
      rw [List.getElem?_set_self hl] at e
      exact .inl ⟨rfl, (Option.some.inj e).symm, hl⟩
    · rw [List.getElem?_set_ne (Ne.symm z)] at e
      exact .inr ⟨z, e⟩
  refine ⟨h.fok, h.nx, by rw [List.length_set, List.length_set]; exact h.len, fun j e hj => ?_, fun j x hj o' => ?_, fun j k x z b hj hk ox oz e1 e2 => ?_, fun p hp => ?_, fun b hb c fs e => ?_⟩
  · rcases back j _ hj with ⟨rfl, q, hl⟩ | ⟨z, hj⟩
    · subst q; cases oy
    · rw [List.getElem?_set_ne (Ne.symm z)]
      exact h.val j e hj
  · rcases back j _ hj with ⟨rfl, q, hl⟩ | ⟨z, hj⟩
    · subst q
      exact ⟨a, List.getElem?_set_self (by rw [← h.len]; exact hl), hy, h3, h4, h5⟩
    · rw [List.getElem?_set_ne (Ne.symm z)]
      exact h.own j x hj o'
  · rcases back j _ hj with ⟨ej, q, hl⟩ | ⟨zj, hj⟩
    · rcases back k _ hk with ⟨ek, q', hl'⟩ | ⟨zk, hk⟩
      · rw [ej, ek]
      · rw [ej, List.getElem?_set_self (by rw [← h.len]; exact hl)] at e1
        cases e1
        rw [List.getElem?_set_ne (Ne.symm zk)] at e2
        exact absurd e2 (h6 k z hk oz)
    · rcases back k _ hk with ⟨ek, q', hl'⟩ | ⟨zk, hk⟩
      · rw [ek, List.getElem?_set_self (by rw [← h.len]; exact hl')] at e2
        cases e2
        rw [List.getElem?_set_ne (Ne.symm zj)] at e1
        exact absurd e1 (h6 j x hj ox)
      · rw [List.getElem?_set_ne (Ne.symm zj)] at e1
        rw [List.getElem?_set_ne (Ne.symm zk)] at e2
        exact h.ne j k x z b hj hk ox oz e1 e2
  · obtain ⟨q1, q2, q3, q4, q5⟩ := h.gam p (List.mem_cons_of_mem _ hp)
    refine ⟨q1, q2, q3, q4, fun j x hj o' => ?_⟩
    rcases back j _ hj with ⟨ej, q, hl⟩ | ⟨z, hj⟩
    · rw [ej, List.getElem?_set_self (by rw [← h.len]; exact hl)]
      exact fun e => hγ p hp (by cases e; rfl)
    · rw [List.getElem?_set_ne (Ne.symm z)]
      exact q5 j x hj o'
  · rcases back 0 _ e with ⟨z, q, hl⟩ | ⟨z, e⟩
    · exact absurd q.symm (hy0 c fs)
    · rw [List.getElem?_set_ne (Ne.symm z)]
      exact h.me b hb c fs e
/-- the thing of an own slot is changed -/
theorem Ok.mut (h : Ok G κ w s σ H) {i : Nat} {x y : Sl} {a : Addr} {o : HO} (hx : s.sl[i]? = some x) (ox : x.own = true) (oy : y.own = true) (ha : σ[i]? = some (some (.ref a))) (hy : OwnOk G w (upd H a o) a y) (hxy : ∀ c fs, y = .oi c fs → ∃ c' fs', x = .oi c' fs') :
    Ok G κ w ⟨s.sl.set i y, s.st⟩ σ (upd H a o) := by
  obtain ⟨a', h1, h2, h3, h4, h5⟩ := h.own i x hx ox
  rw [ha] at h1
  cases h1
  have hil : i < s.sl.length := (List.getElem?_eq_some_iff.mp hx).1
  have back : ∀ (j : Nat) (z : Sl), (s.sl.set i y)[j]? = some z → (j = i ∧ z = y) ∨ (j ≠ i ∧ s.sl[j]? = some z) := fun j z e => by
    by_cases q : j = i
    · subst q
      rw [List.getElem?_set_self hil] at e
      exact .inl ⟨rfl, (Option.some.inj e).symm⟩
    · rw [List.getElem?_set_ne (Ne.symm q)] at e
      exact .inr ⟨q, e⟩
  refine ⟨⟨fun b u e => ?_, h.fok.len, fun n b c e1 e2 => ?_, h.fok.nd, h.fok.nf⟩, ⟨h.nx.le, fun b u e n => ?_, h.nx.newF, h.nx.newR⟩, by rw [List.length_set]; exact h.len, fun j d hj => ?_, fun j z hj oz => ?_, fun j k z z' b hj hk oz oz' e1 e2 => ?_, fun p hp => ?_, fun b hb c fs e => ?_⟩
  · rw [upd_ne (ne_of_none e h3)]
    exact h.fok.sub b u e
  · exact (h.fok.cel n b c e1 e2).mono (.refl _) (upd_ne fun z => h4 (by rw [← z]; exact List.mem_of_getElem? e1))
  · rw [upd_ne (ne_of_none e h5)]
    exact h.nx.keep b u e n
  · rcases back j _ hj with ⟨rfl, q⟩ | ⟨_, hj⟩
    · subst q; cases oy
    · exact h.val j d hj
  · rcases back j _ hj with ⟨rfl, q⟩ | ⟨nj, hj⟩
    · subst q
      exact ⟨a, ha, hy, h3, h4, h5⟩
    · obtain ⟨b, q1, q2, q3, q4, q5⟩ := h.own j z hj oz
      exact ⟨b, q1, q2.mono (.refl _) (upd_ne fun e => nj (h.ne j i z x b hj hx oz ox q1 (by rw [e]; exact ha))), q3, q4, q5⟩
  · rcases back j _ hj with ⟨ej, q⟩ | ⟨nj, hj⟩
    · rcases back k _ hk with ⟨ek, q'⟩ | ⟨nk, hk⟩
      · rw [ej, ek]
      · rw [ej] at e1 ⊢
        exact h.ne i k x z' b hx hk ox oz' e1 e2
    · rcases back k _ hk with ⟨ek, q'⟩ | ⟨nk, hk⟩
      · rw [ek] at e2 ⊢
        exact h.ne j i z x b hj hx oz ox e1 e2
      · exact h.ne j k z z' b hj hk oz oz' e1 e2
  · obtain ⟨q1, q2, q3, q4, q5⟩ := h.gam p hp
    have np : p.1 ≠ a := fun e => q5 i x hx ox (by rw [ha, e])
    refine ⟨by rw [upd_ne np]; exact q1, q2, q3, q4, fun j z hj oz => ?_⟩
    rcases back j _ hj with ⟨ej, q⟩ | ⟨nj, hj⟩
    · rw [ej, ha]
      exact fun e => np (by cases e; rfl)
    · exact q5 j z hj oz
  · rcases back 0 _ e with ⟨z, q⟩ | ⟨z, e⟩
    · obtain ⟨c', fs', q'⟩ := hxy c fs q.symm
      subst q'
      subst z
      exact h.me b hb c' fs' hx
    · exact h.me b hb c fs e
/-- a cell of the store is changed -/
theorem Ok.cell (h : Ok G κ w s σ H) {n : Nat} {a : Addr} {c : Cell} {o : HO} (ha : w.ρ[n]? = some a) (hc : CellOk G w (upd H a o) a c) : Ok G κ w ⟨s.sl, s.st.set n c⟩ σ (upd H a o) := by
  have hm : a ∈ w.ρ := List.mem_of_getElem? ha
  have hn : n < w.ρ.length := (List.getElem?_eq_some_iff.mp ha).1
  refine ⟨⟨fun b u e => ?_, by rw [List.length_set]; exact h.fok.len, fun k b c' e1 e2 => ?_, h.fok.nd, h.fok.nf⟩, ⟨h.nx.le, fun b u e q => ?_, h.nx.newF, h.nx.newR⟩, h.len, h.val, fun j z hj oz => ?_, h.ne, fun p hp => ?_, h.me⟩
  · rw [upd_ne (ne_of_none e (h.fok.nf a hm))]
    exact h.fok.sub b u e
  · by_cases z : k = n
    · subst z
      rw [ha] at e1
      cases e1
      rw [List.getElem?_set_self (by rw [← h.fok.len]; exact hn)] at e2
      cases e2
      exact hc
    · rw [List.getElem?_set_ne (Ne.symm z)] at e2
      refine (h.fok.cel k b c' e1 e2).mono (.refl _) (upd_ne fun e => z ?_)
      subst e
      exact nodup_ix_any h.fok.nd e1 ha
  · have hbne : b ≠ a := fun e' => by
      subst e'
      rcases h.nx.newR b hm with z | z
      · exact q z
      · rw [e] at z; cases z
    rw [upd_ne hbne]
    exact h.nx.keep b u e q
  · obtain ⟨b, q1, q2, q3, q4, q5⟩ := h.own j z hj oz
    exact ⟨b, q1, q2.mono (.refl _) (upd_ne fun e => q4 (by rw [e]; exact hm)), q3, q4, q5⟩
  · obtain ⟨q1, q2, q3, q4⟩ := h.gam p hp
    exact ⟨by rw [upd_ne fun e => q3 (by rw [e]; exact hm)]; exact q1, q2, q3, q4⟩
where
  nodup_ix_any {l : List Addr} (hN : l.Nodup) {i j : Nat} {x : Addr} (a : l[i]? = some x) (b : l[j]? = some x) : i = j := by
    obtain ⟨h1, e1⟩ := List.getElem?_eq_some_iff.mp a
    obtain ⟨h2, e2⟩ := List.getElem?_eq_some_iff.mp b
    exact (List.getElem_inj hN).mp (e1.trans e2.symm)
end
end DL
set_option maxRecDepth 100000
set_option maxHeartbeats 4000000
set_option autoImplicit false
namespace DL
open PySem PySem.Spec PyProof.Rows L2
section
variable (G : Gam) (W : WX)
/-- a new list of one's own -/
def PostO (κ : Bs) (w : Wd) (σ : L2.St) (r : Res DS (List D)) (Q : VK) : Prop := match r with
  | .ok xs s' => ∀ w' a vs H', w.le w' → Ok G (κ.plus a (.lst vs)) w' s' σ H' → (∀ p ∈ κ.γ, p.1 ≠ a) → Reps G w' vs xs → Q (.ref a) H'
  | .exc x s' => ∀ w' c dd H', w.le w' → Ok G κ w' s' σ H' → RepX G w' c dd x → W c dd σ H'
  | .stuck => False
def tDo (f : DA) : TE := fun σ H Q => ∃ κ w s, Ok G κ w s σ H ∧ PostO G W κ w σ (f s) Q
end
abbrev PDo (G : Gam) (W : WX) (X : Cx) (e : Expr) (f : DA) : Prop := PE X e (tDo G W f)
section
variable {G : Gam} {W : WX} {X : Cx}
theorem PostO.mono {κ : Bs} {w w1 : Wd} {σ : L2.St} {r : Res DS (List D)} {Q : VK} (le : w.le w1) (h : PostO G W κ w σ r Q) : PostO G W κ w1 σ r Q := by
  cases r with
  | ok d s' => exact fun w' a vs H' l o g r => h w' a vs H' (le.trans l) o g r
  | exc x s' => exact fun w' c dd H' l o r => h w' c dd H' (le.trans l) o r
  | stuck => exact h
theorem Ok.apart {κ : Bs} {w : Wd} {s : DS} {σ : L2.St} {H : Hp} (h : Ok G κ w s σ H) {p : Addr} (hp : H p = none) : ∀ q ∈ κ.γ, q.1 ≠ p := fun q hq => ne_of_none (h.gam q hq).1 hp
/-- an expression, then a new list -/
theorem PostG.bindO {α β : Type} {rep : Wd → β → α → Prop} {κ : Bs} {w : Wd} {σ : L2.St} {r : Res DS α} {k : α → DS → Res DS (List D)} {Q : VK} (h : PostO G W κ w σ (r.bind k) Q) :
    PostG G W rep κ w σ r (fun v H1 => ∃ d s1 w1, w.le w1 ∧ Ok G κ w1 s1 σ H1 ∧ rep w1 v d ∧ PostO G W κ w1 σ (k d s1) Q) := by
  cases r with
  | ok d s' => exact fun w' v H' l o r => ⟨d, s', w', l, o, r, PostO.mono l h⟩
  | exc x s' => exact h
  | stuck => exact h
def aMax (g : DA) : DA := fun s => (g s).bind fun ds s1 => if ds.length ≤ 1000 then .ok ds s1 else .stuck
theorem pdo_lst {es : List Expr} {g : DA} {pos : Pos} (h : PDA G W X es g) : PDo G W X (.List es pos) (aMax g) :=
  (pe_lst h).imp fun σ H Q ⟨κ, w, s, ok, q⟩ => ⟨κ, w, s, ok, (PostG.bindO q).imp fun v H1 ⟨d, s1, w1, le, ok1, r1, q1⟩ => by
    by_cases c : d.length ≤ 1000
    · rw [if_pos c] at q1
      refine ⟨by rw [r1.length]; exact sz1000 c, fun p hp => ?_⟩
      exact q1 w1 p v _ (.refl _) (ok1.fresh hp _) (ok1.apart hp) r1
    · rw [if_neg c] at q1
      exact q1.elim⟩
def eFrz (f : DA) : DE := fun s => (f s).bind fun xs s1 => .ok (.lst xs) s1
theorem pdo_frz {e : Expr} {f : DA} (h : PDo G W X e f) : PD G W X e (eFrz f) := h.imp fun σ H Q ⟨κ, w, s, ok, q⟩ => ⟨κ, w, s, ok, by
  unfold eFrz at q
  cases e : f s with
  | stuck => rw [e] at q; exact q.elim
  | exc x s' => rw [e] at q; exact q
  | ok xs s' =>
    rw [e] at q
    intro w' a vs H' l o g r
    obtain ⟨le, ok'⟩ := o.frz g
    exact q _ _ H' (l.trans le) ok' (.lst upd_same (r.mono le))⟩
/-! ### statements -/
def sPass : DStm := fun s => .ok .nx s
def sSeq (f g : DStm) : DStm := fun s => (f s).bind fun o s1 => match o with
  | .nx => g s1
  | o => .ok o s1
theorem pdss_nil : PDSs G W X [] sPass := pss_nil.imp fun N σ H ⟨κ, w, s, ok, q⟩ => q w σ H (.refl _) ok
theorem PostS.seq {κ : Bs} {w : Wd} {r : Res DS Out} {g : DStm} {N : Ends} (h : PostS G W κ w (r.bind fun o s1 => match o with | .nx => g s1 | o => .ok o s1) N) : PostS G W κ w r { N with nx := tDS G W g N } := by
  cases r with
  | stuck => exact h
  | exc x s' => exact h
  | ok o s' =>
    cases o with
    | nx => exact fun w' σ' H' l o => ⟨κ, w', s', o, PostS.mono l h⟩
    | bk => exact h
    | ct => exact h
    | rt d => exact h
theorem pdss_cons {st : Stmt} {r : List Stmt} {f g : DStm} (h : PDS G W X st f) (k : PDSs G W X r g) : PDSs G W X (st :: r) (sSeq f g) :=
  (pss_cons h k).imp fun N σ H ⟨κ, w, s, ok, q⟩ => ⟨κ, w, s, ok, PostS.seq q⟩
theorem pdss_one {st : Stmt} {f : DStm} (h : PDS G W X st f) : PDSs G W X [st] f := pss_one h
def sNever : DStm := fun _ => .stuck
theorem pds_never {st : Stmt} : PDS G W X st sNever := ps_never.imp fun N σ H ⟨κ, w, s, ok, q⟩ => q.elim
theorem pdss_never {st : List Stmt} : PDSs G W X st sNever := pss_never.imp fun N σ H ⟨κ, w, s, ok, q⟩ => q.elim
theorem pds_pass {pos : Pos} : PDS G W X (.Pass pos) sPass := ps_pass.imp fun N σ H ⟨κ, w, s, ok, q⟩ => q w σ H (.refl _) ok
def sBreak : DStm := fun s => .ok .bk s
def sCont : DStm := fun s => .ok .ct s
theorem pds_break {pos : Pos} : PDS G W X (.Break pos) sBreak := ps_break.imp fun N σ H ⟨κ, w, s, ok, q⟩ => q w σ H (.refl _) ok
theorem pds_continue {pos : Pos} : PDS G W X (.Continue pos) sCont := ps_continue.imp fun N σ H ⟨κ, w, s, ok, q⟩ => q w σ H (.refl _) ok
def sExpr (f : DE) : DStm := fun s => (f s).bind fun _ s1 => .ok .nx s1
theorem pds_expr {e : Expr} {f : DE} {pos : Pos} (h : PD G W X e f) (hs : swapsWith e none pos.line X.env = pure false := by rfl) : PDS G W X (.Expr e pos) (sExpr f) :=
  (ps_expr h hs).imp fun N σ H ⟨κ, w, s, ok, q⟩ => ⟨κ, w, s, ok, (PostG.bindS q).imp fun v H1 ⟨d, s1, w1, le, ok1, r1, q1⟩ => q1 w1 σ H1 (.refl _) ok1⟩
def sRet (f : DE) : DStm := fun s => (f s).bind fun d s1 => .ok (.rt d) s1
theorem pds_ret {e : Expr} {f : DE} {pos : Pos} (h : PD G W X e f) : PDS G W X (.Return (some e) pos) (sRet f) :=
  (ps_ret h).imp fun N σ H ⟨κ, w, s, ok, q⟩ => ⟨κ, w, s, ok, (PostG.bindS q).imp fun v H1 ⟨d, s1, w1, le, ok1, r1, q1⟩ => q1 w1 σ v H1 (.refl _) ok1 r1⟩
theorem pds_retN {pos : Pos} : PDS G W X (.Return none pos) (sRet (eC .non)) := ps_retN.imp fun N σ H ⟨κ, w, s, ok, q⟩ => q w σ .non H (.refl _) ok .non
def sIf (c : DT) (f g : DStm) : DStm := fun s => (c s).bind fun b s1 => if b = true then f s1 else g s1
theorem pds_if {c : Expr} {a b : List Stmt} {fc : DT} {f g : DStm} {pos : Pos} (hc : PDT G W X c fc) (h : PDSs G W X a f) (k : PDSs G W X b g) : PDS G W X (.If c a b pos) (sIf fc f g) :=
  (ps_if hc h k).imp fun N σ H ⟨κ, w, s, ok, q⟩ => ⟨κ, w, s, ok, (PostG.bindS q).imp fun v H1 ⟨d, s1, w1, le, ok1, r1, q1⟩ => by
    subst r1
    cases v with
    | true => exact ⟨κ, w1, s1, ok1, q1⟩
    | false => exact ⟨κ, w1, s1, ok1, q1⟩⟩
def sSet (i : Nat) (f : DE) : DStm := fun s => (f s).bind fun d s1 => .ok .nx ⟨s1.sl.set i (.val d), s1.st⟩
theorem pds_set {i : Nat} {x : Str} {e : Expr} {f : DE} {pos pos' : Pos} (hN : X.N.Nodup) (hi : X.N[i]? = some x) (hx : Loc X.env.scope x) (he : PD G W X e f) (hs : swapsWith e (some (.Name x pos')) pos.line X.env = pure false := by rfl)
    (hf : X.fn x = true ∨ X.env.scope.names.lookup x = some .local := by first | exact .inl rfl | exact .inr rfl | assumption) : PDS G W X (.Assign [.Name x pos'] e pos) (sSet i f) :=
  (ps_set hN hi hx he hs hf).imp fun N σ H ⟨κ, w, s, ok, q⟩ => ⟨κ, w, s, ok, (PostG.bindS q).imp fun v H1 ⟨d, s1, w1, le, ok1, r1, q1⟩ => q1 w1 _ H1 (.refl _) (ok1.setVal r1 i)⟩
/-- name = a new list -/
def sSetO (i : Nat) (f : DA) : DStm := fun s => (f s).bind fun xs s1 => .ok .nx ⟨s1.sl.set i (.ol xs), s1.st⟩
theorem setO_of {i : Nat} {f : DA} {N : Ends} {σ : L2.St} {H : Hp} (h : tDS G W (sSetO i f) N σ H) : tAsg (tDo G W f) (gName i) N σ H := by
  obtain ⟨κ, w, s, ok, q⟩ := h
  refine ⟨κ, w, s, ok, ?_⟩
  unfold sSetO at q
  cases e : f s with
  | stuck => rw [e] at q; exact q.elim
  | exc x s' =>
    rw [e] at q
    exact fun w' c dd H' l o r => q w' σ c dd H' l o r
  | ok xs s' =>
    rw [e] at q
    intro w' a vs H' l o g r
    exact q w' _ H' l (o.setOwn (y := .ol xs) g ⟨vs, (o.gam (a, .lst vs) List.mem_cons_self).1, r⟩ rfl (fun _ _ z => nomatch z) i)
theorem pds_setO {i : Nat} {x : Str} {e : Expr} {f : DA} {pos pos' : Pos} (hN : X.N.Nodup) (hi : X.N[i]? = some x) (hx : Loc X.env.scope x) (he : PDo G W X e f) (hs : swapsWith e (some (.Name x pos')) pos.line X.env = pure false := by rfl)
    (hf : X.fn x = true ∨ X.env.scope.names.lookup x = some .local := by first | exact .inl rfl | exact .inr rfl | assumption) : PDS G W X (.Assign [.Name x pos'] e pos) (sSetO i f) :=
  (ps_set hN hi hx he hs hf).imp fun N σ H q => setO_of q
/-! ### targets -/
abbrev DG := D → DS → Res DS Unit
section
variable (G : Gam) (W : WX)
def PostT (is : List Nat) (σ : L2.St) (κ : Bs) (w : Wd) (r : Res DS Unit) (Q : L2.St → Hp → Prop) : Prop := match r with
  | .ok _ s' => ∀ w' σ' H', w.le w' → Ok G κ w' s' σ' H' → (σ'.length = σ.length ∧ ∀ i : Nat, i ∉ is → σ'[i]? = σ[i]?) → Q σ' H'
  | .exc x s' => False
  | .stuck => False
def tDG (is : List Nat) (g : DG) : TG := fun v σ H Q => ∃ κ w s d, Ok G κ w s σ H ∧ Rep G w v d ∧ PostT G is σ κ w (g d s) Q
def tDGs (is : List Nat) (g : List D → DS → Res DS Unit) : TGs := fun v σ H Q => ∃ κ w s d, Ok G κ w s σ H ∧ Reps G w v d ∧ PostT G is σ κ w (g d s) Q
end
theorem _root_.L2.PG.imp {X : Cx} {e : Expr} {t t' : TG} (h : PG X e t) (k : ∀ v σ H Q, t' v σ H Q → t v σ H Q) : PG X e t' := ⟨fun pins s σ H v u Q I r q => h.run pins s σ H v u Q I r (k v σ H Q q)⟩
theorem _root_.L2.PGs.imp {X : Cx} {e : List Expr} {t t' : TGs} (h : PGs X e t) (k : ∀ v σ H Q, t' v σ H Q → t v σ H Q) : PGs X e t' := ⟨fun pins s σ H v u Q I r q => h.run pins s σ H v u Q I r (k v σ H Q q)⟩
abbrev PDG (G : Gam) (X : Cx) (e : Expr) (is : List Nat) (g : DG) : Prop := PG X e (tDG G is g)
abbrev PDGs (G : Gam) (X : Cx) (e : List Expr) (is : List Nat) (g : List D → DS → Res DS Unit) : Prop := PGs X e (tDGs G is g)
def gN (i : Nat) : DG := fun d s => .ok () ⟨s.sl.set i (.val d), s.st⟩
theorem pdg_name {i : Nat} {x : Str} {pos : Pos} (hN : X.N.Nodup) (hi : X.N[i]? = some x) (hx : Loc X.env.scope x) (hf : X.fn x = true ∨ X.env.scope.names.lookup x = some .local := by first | exact .inl rfl | exact .inr rfl | assumption) : PDG G X (.Name x pos) [i] (gN i) :=
  (pg_name hN hi hx hf).imp fun v σ H Q ⟨κ, w, s, d, ok, r, q⟩ => q w _ H (.refl _) (ok.setVal r i) ⟨by rw [List.length_set], fun j hj => List.getElem?_set_ne fun z => hj (by rw [z]; exact List.mem_singleton.mpr rfl)⟩
def gsNil : List D → DS → Res DS Unit := fun ds s => match ds with
  | [] => .ok () s
  | _ => .stuck
def gsCons (g : DG) (k : List D → DS → Res DS Unit) : List D → DS → Res DS Unit := fun ds s => match ds with
  | d :: r => (g d s).bind fun _ s1 => k r s1
  | _ => .stuck
theorem pdgs_nil : PDGs G X [] [] gsNil := pgs_nil.imp fun v σ H Q ⟨κ, w, s, d, ok, r, q⟩ => by
  cases r with
  | nil => exact ⟨rfl, q w σ H (.refl _) ok ⟨rfl, fun _ _ => rfl⟩⟩
  | cons a b => exact q.elim
theorem pdgs_cons {e : Expr} {es : List Expr} {is is' : List Nat} {g : DG} {k : List D → DS → Res DS Unit} (h1 : PDG G X e is g) (h2 : PDGs G X es is' k)
    (hs : (assignEach (e :: es) X.env).map (·.2) = assign e X.env :: (assignEach es X.env).map (·.2) := by rfl) : PDGs G X (e :: es) (is ++ is') (gsCons g k) :=
  (pgs_cons h1 h2 hs).imp fun v σ H Q ⟨κ, w, s, d, ok, r, q⟩ => by
    cases r with
    | nil => exact q.elim
    | @cons v d vs ds a b =>
      refine ⟨v, vs, rfl, κ, w, s, d, ok, a, ?_⟩
      have q : PostT G (is ++ is') σ κ w ((g d s).bind fun _ s1 => k ds s1) Q := q
      cases e : g d s with
      | stuck => rw [e] at q; exact q.elim
      | exc x s' => rw [e] at q; exact q.elim
      | ok u s' =>
        rw [e] at q
        intro w' σ' H' l o hσ
        refine ⟨κ, w', s', ds, o, b.mono l, ?_⟩
        have q : PostT G (is ++ is') σ κ w (k ds s') Q := q
        cases e2 : k ds s' with
        | stuck => rw [e2] at q; exact q.elim
        | exc x s' => rw [e2] at q; exact q.elim
        | ok u s2 =>
          rw [e2] at q
          exact fun w2 σ2 H2 l2 o2 h2 => q w2 σ2 H2 (l.trans l2) o2 ⟨h2.1.trans hσ.1, fun i hi => (h2.2 i fun z => hi (List.mem_append_right _ z)).trans (hσ.2 i fun z => hi (List.mem_append_left _ z))⟩
def gT (n : Nat) (g : List D → DS → Res DS Unit) : DG := fun d s => match d with
  | .tup ds => if ds.length = n then g ds s else .stuck
  | _ => .stuck
theorem pdg_tup (hK : G.K = X.K) {es : List Expr} {is : List Nat} {k : Nat} {g : List D → DS → Res DS Unit} {n : Nat} {pos : Pos} (hc : X.calm = true) (h : PDGs G X es is g)
    (hn : (assignEach es X.env).length = n := by rfl) (hst : (assignEach es X.env).findIdx? (·.1) = none := by rfl) : PDG G X (.Tuple es k pos) is (gT n g) :=
  (pg_tup hc h hn hst).imp fun v σ H Q ⟨κ, w, s, d, ok, r, q⟩ => by
    cases r with
    | @tup a vs ds e r =>
      by_cases c : ds.length = n
      · have q : PostT G is σ κ w (if ds.length = n then g ds s else .stuck) Q := q
        rw [if_pos c] at q
        refine ⟨a, vs, rfl, hK ▸ SqT.le e ok.fok.sub, by rw [r.length]; exact c, κ, w, s, ds, ok, r, q⟩
      · have q : PostT G is σ κ w (if ds.length = n then g ds s else .stuck) Q := q
        rw [if_neg c] at q
        exact q.elim
    | _ => exact q.elim
def sAsg (f : DE) (g : DG) : DStm := fun s => (f s).bind fun d s1 => (g d s1).bind fun _ s2 => .ok .nx s2
theorem PostT.toS {is : List Nat} {σ : L2.St} {κ : Bs} {w : Wd} {r : Res DS Unit} {N : Ends} {Wx : WX} (h : PostS G Wx κ w (r.bind fun _ s2 => .ok .nx s2) N) (hx : ∀ x s, r ≠ .exc x s) : PostT G is σ κ w r N.nx := by
  cases r with
  | stuck => exact h
  | exc x s' => exact absurd rfl (hx x s')
  | ok u s' => exact fun w' σ' H' l o _ => h w' σ' H' l o
def noX {σ α : Type} (r : Res σ α) : Res σ α := match r with
  | .exc _ _ => .stuck
  | r => r
theorem noX_exc {σ α : Type} (r : Res σ α) : ∀ x s, noX r ≠ .exc x s := fun x s h => by cases r <;> cases h
def sAsgT (f : DE) (g : DG) : DStm := fun s => (f s).bind fun d s1 => (noX (g d s1)).bind fun _ s2 => .ok .nx s2
theorem PostT.ofNoX {is : List Nat} {σ : L2.St} {κ : Bs} {w : Wd} {r : Res DS Unit} {Q : L2.St → Hp → Prop} (h : PostT G is σ κ w (noX r) Q) : PostT G is σ κ w r Q := by
  cases r with
  | stuck => exact h
  | exc x s' => exact h
  | ok u s' => exact h
theorem pds_asg {tg e : Expr} {f : DE} {is : List Nat} {g : DG} {pos : Pos} (he : PD G W X e f) (hg : PDG G X tg is g) (hs : swapsWithSole [tg] e pos.line X.env = pure false := by rfl) (hw : swappedStores [tg] e X.env = pure none := by rfl)
    (h1 : (assignEach [tg] X.env).map (·.2) = [assign tg X.env] := by rfl) : PDS G W X (.Assign [tg] e pos) (sAsgT f g) :=
  (ps_asg he hg hs hw h1).imp fun N σ H ⟨κ, w, s, ok, q⟩ => ⟨κ, w, s, ok, (PostG.bindS q).imp fun v H1 ⟨d, s1, w1, le, ok1, r1, q1⟩ =>
    ⟨κ, w1, s1, d, ok1, r1, PostT.ofNoX (PostT.toS q1 (noX_exc _))⟩⟩
/-- a, b = x, y with plain locals -/
def sPar (i j : Nat) (f : DA) : DStm := fun s => (f s).bind fun ds s1 => match ds with
  | [x, y] => .ok .nx ⟨(s1.sl.set i (.val x)).set j (.val y), s1.st⟩
  | _ => .stuck
theorem pds_par {i j : Nat} {x y : Str} {a b : Expr} {f : DA} {px py pt pos : Pos} {kt k2 : Nat} {pt2 : Pos} (hc : X.calm = true) (hN : X.N.Nodup) (hi : X.N[i]? = some x) (hj : X.N[j]? = some y) (hij : i ≠ j)
    (hx : X.env.scope.names.lookup x = some .local) (hy : X.env.scope.names.lookup y = some .local) (ha : PDA G W X [a, b] f)
    (hw : swappedStores [.Tuple [.Name x px, .Name y py] kt pt] (.Tuple [a, b] k2 pt2) X.env = pure (some [x, y]))
    (hs : swapsWithSole [.Tuple [.Name x px, .Name y py] kt pt] (.Tuple [a, b] k2 pt2) pos.line X.env = pure false := by rfl) :
    PDS G W X (.Assign [.Tuple [.Name x px, .Name y py] kt pt] (.Tuple [a, b] k2 pt2) pos) (sPar i j f) :=
  (ps_par hc hN hi hj hij hx hy ha hw hs).imp fun N σ H ⟨κ, w, s, ok, q⟩ => ⟨κ, w, s, ok, (PostG.bindS q).imp fun v H1 ⟨d, s1, w1, le, ok1, r1, q1⟩ => by
    cases r1 with
    | nil => exact q1.elim
    | cons a b =>
      cases b with
      | nil => exact q1.elim
      | cons a2 b2 =>
        cases b2 with
        | nil => exact ⟨_, _, rfl, q1 w1 _ H1 (.refl _) ((ok1.setVal a i).setVal a2 j)⟩
        | cons _ _ => exact q1.elim⟩
/-! ### loops -/
def loopOut (r : Res DS Out) (k : DS → Res DS Out) : Res DS Out := match r with
  | .ok .nx s2 => k s2
  | .ok .ct s2 => k s2
  | .ok .bk s2 => .ok .nx s2
  | r => r
def runW (c : DT) (b : DStm) : Nat → DS → Res DS Out
  | 0, _ => .stuck
  | n + 1, s => (c s).bind fun t s1 => if t = true then loopOut (b s1) (runW c b n) else .ok .nx s1
theorem runW_mono (c : DT) (b : DStm) : ∀ (n : Nat) (s : DS), runW c b n s ≠ .stuck → runW c b (n + 1) s = runW c b n s
  | 0, s, h => absurd rfl h
  | n + 1, s, h => by
    show (c s).bind (fun t s1 => if t = true then loopOut (b s1) (runW c b (n + 1)) else .ok .nx s1) = (c s).bind fun t s1 => if t = true then loopOut (b s1) (runW c b n) else .ok .nx s1
    have h : (c s).bind (fun t s1 => if t = true then loopOut (b s1) (runW c b n) else .ok .nx s1) ≠ .stuck := h
    cases e : c s with
    | stuck => rfl
    | exc x s' => rfl
    | ok t s1 =>
      rw [e] at h
      rw [Res.bind_ok] at h ⊢
      rw [Res.bind_ok]
      cases t with
      | false => rfl
      | true =>
        rw [if_pos rfl] at h ⊢
        rw [if_pos rfl]
        cases e2 : b s1 with
        | stuck => rfl
        | exc x s' => rfl
        | ok o s2 =>
          rw [e2] at h
          cases o with
          | nx => exact runW_mono c b n s2 h
          | ct => exact runW_mono c b n s2 h
          | bk => rfl
          | rt d => rfl
theorem runW_le (c : DT) (b : DStm) {n m : Nat} {s : DS} (hnm : n ≤ m) (h : runW c b n s ≠ .stuck) : runW c b m s = runW c b n s := by
  induction hnm with
  | refl => rfl
  | step hk ih => rw [runW_mono c b _ s (by rw [ih]; exact h), ih]
open Classical in
noncomputable def sWhile (c : DT) (b : DStm) : DStm := fun s => if h : ∃ n, runW c b n s ≠ .stuck then runW c b h.choose s else .stuck
theorem sWhile_of {c : DT} {b : DStm} {s : DS} (n : Nat) (h : runW c b n s ≠ .stuck) : sWhile c b s = runW c b n s := by
  have ex : ∃ n, runW c b n s ≠ .stuck := ⟨n, h⟩
  unfold sWhile
  rw [dif_pos ex]
  rcases Nat.le_total n ex.choose with z | z
  · exact runW_le c b z h
  · exact (runW_le c b z ex.choose_spec).symm
theorem sWhile_eq (c : DT) (b : DStm) (s : DS) : sWhile c b s = (c s).bind fun t s1 => if t = true then loopOut (b s1) (sWhile c b) else .ok .nx s1 := by
  have key : ∀ n, runW c b (n + 1) s ≠ .stuck → sWhile c b s = (c s).bind fun t s1 => if t = true then loopOut (b s1) (sWhile c b) else .ok .nx s1 := fun n h => by
    rw [sWhile_of (n + 1) h]
    have h : (c s).bind (fun t s1 => if t = true then loopOut (b s1) (runW c b n) else .ok .nx s1) ≠ .stuck := h
    show (c s).bind (fun t s1 => if t = true then loopOut (b s1) (runW c b n) else .ok .nx s1) = _
    cases e : c s with
    | stuck => rfl
    | exc x s' => rfl
    | ok t s1 =>
      rw [e] at h
      rw [Res.bind_ok] at h ⊢
      rw [Res.bind_ok]
      cases t with
      | false => rfl
      | true =>
        rw [if_pos rfl] at h ⊢
        rw [if_pos rfl]
        cases e2 : b s1 with
        | stuck => rfl
        | exc x s' => rfl
        | ok o s2 =>
          rw [e2] at h
          cases o with
          | nx => exact (sWhile_of n h).symm
          | ct => exact (sWhile_of n h).symm
          | bk => rfl
          | rt d => rfl
  by_cases ex : ∃ n, runW c b n s ≠ .stuck
  · obtain ⟨n, h⟩ := ex
    cases n with
    | zero => exact absurd rfl h
    | succ n => exact key n h
  · have all : ∀ n, runW c b n s = .stuck := fun n => Classical.byContradiction fun h => ex ⟨n, h⟩
    have l : sWhile c b s = .stuck := by
      unfold sWhile
      rw [dif_neg ex]
    rw [l]
    have a1 := all 1
    cases e : c s with
    | stuck => rfl
    | exc x s' =>
      have a1 : (c s).bind (fun t s1 => if t = true then loopOut (b s1) (runW c b 0) else .ok .nx s1) = .stuck := a1
      rw [e] at a1
      cases a1
    | ok t s1 =>
      rw [Res.bind_ok]
      cases t with
      | false =>
        have a1 : (c s).bind (fun t s1 => if t = true then loopOut (b s1) (runW c b 0) else .ok .nx s1) = .stuck := a1
        rw [e] at a1
        cases a1
      | true =>
        rw [if_pos rfl]
        have an : ∀ n, loopOut (b s1) (runW c b n) = .stuck := fun n => by
          have := all (n + 1)
          have a1 : (c s).bind (fun t s1 => if t = true then loopOut (b s1) (runW c b n) else .ok .nx s1) = .stuck := this
          rw [e] at a1
          exact a1
        cases e2 : b s1 with
        | stuck => rfl
        | exc x s' => have := an 0; rw [e2] at this; cases this
        | ok o s2 =>
          have nn : ∀ n, loopOut (.ok o s2) (runW c b n) = .stuck := fun n => by rw [← e2]; exact an n
          have un : (∀ n, runW c b n s2 = .stuck) → sWhile c b s2 = .stuck := fun q => by
            unfold sWhile
            rw [dif_neg fun ⟨n, h⟩ => h (q n)]
          cases o with
          | nx => exact (un nn).symm
          | ct => exact (un nn).symm
          | bk => cases nn 0
          | rt d => cases nn 0
theorem pds_while {c : Expr} {body : List Stmt} {fc : DT} {fb : DStm} {pos : Pos} (hp : PassesOwn (model X.prog X.w) X.A X.env X.xe) (hc : PDT G W X c fc) (hb : PDSs G W X body fb) : PDS G W X (.While c body [] pos) (sWhile fc fb) :=
  (ps_while hp hc hb).imp fun N σ H ⟨κ, w, s, ok, q⟩ => by
    by_cases ex : ∃ n, runW fc fb n s ≠ .stuck
    · obtain ⟨n, hn⟩ := ex
      rw [sWhile_of n hn] at q
      refine ⟨fun m σ H => ∃ w' s', w.le w' ∧ Ok G κ w' s' σ H ∧ PostS G W κ w' (runW fc fb m s') N, ⟨n, w, s, .refl _, ok, q⟩, fun m σ' H' ⟨w', s', le, ok', q'⟩ => ?_⟩
      cases m with
      | zero => exact q'.elim
      | succ m =>
        refine ⟨κ, w', s', ok', (PostG.bindS q').imp fun v H1 ⟨d, s1, w1, le1, ok1, r1, q1⟩ => ?_⟩
        subst r1
        cases v with
        | false => exact q1 w1 σ' H1 (.refl _) ok1
        | true =>
          refine ⟨fun σ2 H2 => ∃ w2 s2, w.le w2 ∧ Ok G κ w2 s2 σ2 H2 ∧ PostS G W κ w2 (runW fc fb m s2) N, fun σ2 H2 z => ⟨m, Nat.lt_succ_self _, z⟩, κ, w1, s1, ok1, ?_⟩
          have q1 : PostS G W κ w1 (loopOut (fb s1) (runW fc fb m)) N := q1
          cases e : fb s1 with
          | stuck => rw [e] at q1; exact q1.elim
          | exc x s' => rw [e] at q1; exact q1
          | ok o s2 =>
            rw [e] at q1
            cases o with
            | nx => exact fun w2 σ2 H2 l o => ⟨w2, s2, (le.trans le1).trans l, o, PostS.mono l q1⟩
            | ct => exact fun w2 σ2 H2 l o => ⟨w2, s2, (le.trans le1).trans l, o, PostS.mono l q1⟩
            | bk => exact q1
            | rt d => exact q1
    · unfold sWhile at q
      rw [dif_neg ex] at q
      exact q.elim
/-! ### what a for walks -/
section
variable (G : Gam) (W : WX)
def ItOk (w : Wd) (J : It) (items : List D) : Prop := ∀ (w1 : Wd) (S : List Cell) (H : Hp), w.le w1 → FOk G w1 S H → ∀ i : Nat,
  (∀ d, items[i]? = some d → J.go i H ∧ ∀ x H', J.yld i H x H' → ∃ w2, Nx w1 H w2 H' ∧ FOk G w2 S H' ∧ Rep G w2 x d) ∧ (items[i]? = none → J.stop i H)
def PostI (κ : Bs) (w : Wd) (σ : L2.St) (r : Res DS (List D)) (R : It → Hp → Prop) : Prop := match r with
  | .ok ds s' => ∀ w' J H', w.le w' → Ok G κ w' s' σ H' → ItOk G w' J ds → R J H'
  | .exc x s' => ∀ w' c dd H', w.le w' → Ok G κ w' s' σ H' → RepX G w' c dd x → W c dd σ H'
  | .stuck => False
def tDI (f : DA) : TI := fun σ H R => ∃ κ w s, Ok G κ w s σ H ∧ PostI G W κ w σ (f s) R
end
theorem _root_.L2.PI.imp {X : Cx} {tg e : Expr} {t t' : TI} (h : PI X tg e t) (k : ∀ σ H R, t' σ H R → t σ H R) : PI X tg e t' := ⟨fun pins s σ H R I q => h.run pins s σ H R I (k σ H R q)⟩
abbrev PDI (G : Gam) (W : WX) (X : Cx) (tg e : Expr) (f : DA) : Prop := PI X tg e (tDI G W f)
theorem PostI.mono {κ : Bs} {w w1 : Wd} {σ : L2.St} {r : Res DS (List D)} {R : It → Hp → Prop} (le : w.le w1) (h : PostI G W κ w σ r R) : PostI G W κ w1 σ r R := by
  cases r with
  | ok d s' => exact fun w' J H' l o g => h w' J H' (le.trans l) o g
  | exc x s' => exact fun w' c dd H' l o r => h w' c dd H' (le.trans l) o r
  | stuck => exact h
theorem PostG.bindI {α β : Type} {rep : Wd → β → α → Prop} {κ : Bs} {w : Wd} {σ : L2.St} {r : Res DS α} {k : α → DS → Res DS (List D)} {Q : It → Hp → Prop} (h : PostI G W κ w σ (r.bind k) Q) :
    PostG G W rep κ w σ r (fun v H1 => ∃ d s1 w1, w.le w1 ∧ Ok G κ w1 s1 σ H1 ∧ rep w1 v d ∧ PostI G W κ w1 σ (k d s1) Q) := by
  cases r with
  | ok d s' => exact fun w' v H' l o r => ⟨d, s', w', l, o, r, PostI.mono l h⟩
  | exc x s' => exact h
  | stuck => exact h
/-- the items of a list; of a tuple -/
def itL (f : DE) : DA := fun s => (f s).bind fun d s1 => match d with
  | .lst xs => .ok xs s1
  | .scr xs => .ok xs s1
  | _ => .stuck
def itT (f : DE) : DA := fun s => (f s).bind fun d s1 => match d with
  | .tup xs => .ok xs s1
  | _ => .stuck
theorem itOk_list (hK : G.K = X.K) {w : Wd} {a : Addr} {vs : List V} {ds : List D} (e : SqL G.K w.F a vs) (un : ∀ (H : Hp) ys, SqL X.K H a vs → SqL X.K H a ys → vs = ys → True) (r : Reps G w vs ds) (inj : ∀ (H : Hp), SqL X.K H a vs → True) : ItOk G w (Itl X.K a) ds := by
  intro w1 S H le fok i
  have q : SqL X.K H a vs := hK ▸ SqL.le (SqL.le e le.f) fok.sub
  refine ⟨fun d hd => ?_, fun hn => ?_⟩
  · obtain ⟨y, h1, h2⟩ := r.get hd
    refine ⟨⟨vs, y, q, h1⟩, fun x H' ⟨hH, hx⟩ => ⟨w1, ?_, ?_, ?_⟩⟩
    · rw [hH]; exact .refl _ _
    · rw [hH]; exact fok
    · have := hx vs q
      rw [h1] at this
      cases this
      exact h2.mono le
  · refine ⟨vs, q, ?_⟩
    rw [r.length]
    exact List.getElem?_eq_none_iff.mp hn
theorem itOk_tup (hK : G.K = X.K) {w : Wd} {a : Addr} {vs : List V} {ds : List D} (e : SqT G.K w.F a vs) (r : Reps G w vs ds) : ItOk G w (Itt X.K a) ds := by
  intro w1 S H le fok i
  have q : SqT X.K H a vs := hK ▸ SqT.le (SqT.le e le.f) fok.sub
  refine ⟨fun d hd => ?_, fun hn => ?_⟩
  · obtain ⟨y, h1, h2⟩ := r.get hd
    refine ⟨⟨vs, y, q, h1⟩, fun x H' ⟨hH, hx⟩ => ⟨w1, ?_, ?_, ?_⟩⟩
    · rw [hH]; exact .refl _ _
    · rw [hH]; exact fok
    · have := hx vs q
      rw [h1] at this
      cases this
      exact h2.mono le
  · refine ⟨vs, q, ?_⟩
    rw [r.length]
    exact List.getElem?_eq_none_iff.mp hn
theorem pdi_list (hK : G.K = X.K) {tg e : Expr} {f : DE} (h : PD G W X e f) : PDI G W X tg e (itL f) :=
  (pi_list h).imp fun σ H R ⟨κ, w, s, ok, q⟩ => ⟨κ, w, s, ok, (PostG.bindI q).imp fun v H1 ⟨d, s1, w1, le, ok1, r1, q1⟩ => by
    cases r1 with
    | @lst a vs ds e r =>
      have e' : SqL G.K w1.F a vs := .inl (.inl e)
      exact ⟨a, rfl, ⟨vs, hK ▸ SqL.le e' ok1.fok.sub⟩, q1 w1 _ H1 (.refl _) ok1 (itOk_list hK e' (fun _ _ _ _ _ => trivial) r fun _ _ => trivial)⟩
    | @scr a vs ds e r =>
      exact ⟨a, rfl, ⟨vs, hK ▸ SqL.le e ok1.fok.sub⟩, q1 w1 _ H1 (.refl _) ok1 (itOk_list hK e (fun _ _ _ _ _ => trivial) r fun _ _ => trivial)⟩
    | _ => exact q1.elim⟩
theorem pdi_tup (hK : G.K = X.K) {tg e : Expr} {f : DE} (h : PD G W X e f) : PDI G W X tg e (itT f) :=
  (pi_tup h).imp fun σ H R ⟨κ, w, s, ok, q⟩ => ⟨κ, w, s, ok, (PostG.bindI q).imp fun v H1 ⟨d, s1, w1, le, ok1, r1, q1⟩ => by
    cases r1 with
    | @tup a vs ds e r => exact ⟨a, rfl, ⟨vs, hK ▸ SqT.le e ok1.fok.sub⟩, q1 w1 _ H1 (.refl _) ok1 (itOk_tup hK e r)⟩
    | _ => exact q1.elim⟩
/-- range -/
def rngL (lo : Int) (n : Nat) : List D := (List.range n).map fun (i : Nat) => D.int (lo + (i : Int))
theorem itOk_rng {w : Wd} (lo : Int) (n : Nat) : ItOk G w (Itr lo n) (rngL lo n) := by
  intro w1 S H le fok i
  refine ⟨fun d hd => ?_, fun hn => ?_⟩
  · unfold rngL at hd
    rw [List.getElem?_map] at hd
    by_cases c : i < n
    · rw [List.getElem?_range c] at hd
      cases hd
      refine ⟨c, fun x H' ⟨hH, hx⟩ => ⟨w1, ?_, ?_, ?_⟩⟩
      · rw [hH]; exact .refl _ _
      · rw [hH]; exact fok
      · rw [hx]; exact .int _
    · rw [List.getElem?_eq_none (by rw [List.length_range]; omega)] at hd
      cases hd
  · have := List.getElem?_eq_none_iff.mp hn
    unfold rngL at this
    rw [List.length_map, List.length_range] at this
    exact this
def itR1 (f : DA) : DA := fun s => (f s).bind fun ds s1 => match ds with
  | [.int j] => if -(2 ^ 62) ≤ j ∧ j < 2 ^ 62 then .ok (rngL 0 j.toNat) s1 else .stuck
  | _ => .stuck
def itR2 (f : DA) : DA := fun s => (f s).bind fun ds s1 => match ds with
  | [.int i, .int j] => if -(2 ^ 62) ≤ i ∧ i < 2 ^ 62 ∧ -(2 ^ 62) ≤ j ∧ j < 2 ^ 62 then .ok (rngL i (j - i).toNat) s1 else .stuck
  | _ => .stuck
theorem pdi_range1 {tg a : Expr} {f : DA} {p pos : Pos} (hg : Gl X "range") (hm : X.mg "range" = none) (ha : PDA G W X [a] f) (hs : starEach [a] X.env = [(false, eval a X.env)] := by rfl) : PDI G W X tg (.Call (.Name "range" p) [a] [] pos) (itR1 f) :=
  (pi_range1 hg hm ha hs).imp fun σ H R ⟨κ, w, s, ok, q⟩ => ⟨κ, w, s, ok, (PostG.bindI q).imp fun v H1 ⟨d, s1, w1, le, ok1, r1, q1⟩ => by
    cases r1 with
    | nil => exact q1.elim
    | cons a b =>
      cases b with
      | cons _ _ => cases a <;> exact q1.elim
      | nil =>
        cases a with
        | int j =>
          have q1 : PostI G W κ w1 σ (if -(2 ^ 62) ≤ j ∧ j < 2 ^ 62 then .ok (rngL 0 j.toNat) s1 else .stuck) R := q1
          by_cases c : -(2 ^ 62) ≤ j ∧ j < 2 ^ 62
          · rw [if_pos c] at q1
            exact ⟨j, rfl, c.1, c.2, q1 w1 _ H1 (.refl _) ok1 (itOk_rng 0 _)⟩
          · rw [if_neg c] at q1
            exact q1.elim
        | _ => exact q1.elim⟩
theorem pdi_range2 {tg a b : Expr} {f : DA} {p pos : Pos} (hg : Gl X "range") (hm : X.mg "range" = none) (ha : PDA G W X [a, b] f) (hs : starEach [a, b] X.env = [(false, eval a X.env), (false, eval b X.env)] := by rfl) (hs2 : starEach [b] X.env = [(false, eval b X.env)] := by rfl) :
    PDI G W X tg (.Call (.Name "range" p) [a, b] [] pos) (itR2 f) :=
  (pi_range2 hg hm ha hs hs2).imp fun σ H R ⟨κ, w, s, ok, q⟩ => ⟨κ, w, s, ok, (PostG.bindI q).imp fun v H1 ⟨d, s1, w1, le, ok1, r1, q1⟩ => by
    cases r1 with
    | nil => exact q1.elim
    | cons a b =>
      cases b with
      | nil => cases a <;> exact q1.elim
      | cons a2 b2 =>
        cases b2 with
        | cons _ _ => cases a <;> first | exact q1.elim | (cases a2 <;> exact q1.elim)
        | nil =>
          cases a with
          | int i =>
            cases a2 with
            | int j =>
              have q1 : PostI G W κ w1 σ (if -(2 ^ 62) ≤ i ∧ i < 2 ^ 62 ∧ -(2 ^ 62) ≤ j ∧ j < 2 ^ 62 then .ok (rngL i (j - i).toNat) s1 else .stuck) R := q1
              by_cases c : -(2 ^ 62) ≤ i ∧ i < 2 ^ 62 ∧ -(2 ^ 62) ≤ j ∧ j < 2 ^ 62
              · rw [if_pos c] at q1
                exact ⟨i, j, rfl, c, q1 w1 _ H1 (.refl _) ok1 (itOk_rng i _)⟩
              · rw [if_neg c] at q1
                exact q1.elim
            | _ => exact q1.elim
          | _ => exact q1.elim⟩
/-! ### for -/
def forL (g : DG) (b : DStm) : List D → DS → Res DS Out
  | [], s => .ok .nx s
  | d :: r, s => (noX (g d s)).bind fun _ s1 => loopOut (b s1) (forL g b r)
def sFor (it : DA) (g : DG) (b : DStm) : DStm := fun s => (it s).bind fun ds s1 => forL g b ds s1
theorem drop_get {α : Type} {l : List α} {i : Nat} {d : α} {r : List α} (h : l.drop i = d :: r) : l[i]? = some d ∧ l.drop (i + 1) = r := by
  refine ⟨?_, ?_⟩
  · have := congrArg (fun l => l[0]?) h
    simpa using this
  · have := congrArg List.tail h
    simpa using this
theorem for_of {is : List Nat} {κ : Bs} {w : Wd} {J : It} {g : DG} {b : DStm} {N : Ends} {items : List D} (hJ : ItOk G w J items) {w0 : Wd} {s : DS} {σ : L2.St} {H : Hp} (le : w.le w0) (ok : Ok G κ w0 s σ H) (q : PostS G W κ w0 (forL g b items s) N) :
    ∃ Wv : Nat → Nat → L2.St → Hp → Prop, (∃ m, Wv 0 m σ H) ∧ ∀ i m σ H, Wv i m σ H →
      (J.stop i H ∧ N.nx σ H) ∨ (J.go i H ∧ ∃ N' : L2.St → Hp → Prop, (∀ σ' H', N' σ' H' → ∃ m', m' < m ∧ Wv (i + 1) m' σ' H') ∧ ∀ x H', J.yld i H x H' → tDG G is g x σ H' fun σ2 H2 => tDS G W b { N with nx := N', ct := N', bk := N.nx } σ2 H2) := by
  refine ⟨fun i m σ H => ∃ w' s', w.le w' ∧ Ok G κ w' s' σ H ∧ (items.drop i).length = m ∧ PostS G W κ w' (forL g b (items.drop i) s') N, ⟨items.length, w0, s, le, ok, by simp, by simpa using q⟩, ?_⟩
  rintro i m σ H ⟨w', s', le', ok', hm, q'⟩
  cases e : items.drop i with
  | nil =>
    rw [e] at q'
    have hn : items[i]? = none := by
      have := congrArg (fun l => l[0]?) e
      simpa using this
    exact .inl ⟨(hJ w' _ H le' ok'.fok i).2 hn, q' w' σ H (.refl _) ok'⟩
  | cons d r =>
    rw [e] at q' hm
    obtain ⟨h1, h2⟩ := drop_get e
    obtain ⟨go, yl⟩ := (hJ w' _ H le' ok'.fok i).1 d h1
    refine .inr ⟨go, fun σ2 H2 => ∃ w2 s2, w.le w2 ∧ Ok G κ w2 s2 σ2 H2 ∧ PostS G W κ w2 (forL g b r s2) N, fun σ2 H2 ⟨w2, s2, l2, o2, q2⟩ => ?_, fun x H' hy => ?_⟩
    · refine ⟨r.length, by rw [← hm]; exact Nat.lt_succ_self _, w2, s2, l2, o2, by rw [h2], by rw [h2]; exact q2⟩
    · obtain ⟨w2, nx, fok, rx⟩ := yl x H' hy
      have ok2 := ok'.step nx fok
      refine ⟨κ, w2, s', d, ok2, rx, ?_⟩
      have q' : PostS G W κ w' ((noX (g d s')).bind fun _ s1 => loopOut (b s1) (forL g b r)) N := q'
      refine PostT.ofNoX ?_
      cases e3 : noX (g d s') with
      | stuck => rw [e3] at q'; exact q'.elim
      | exc x s' => exact absurd e3 (noX_exc _ _ _)
      | ok u s3 =>
        rw [e3] at q'
        intro w3 σ3 H3 l3 o3 _
        refine ⟨κ, w3, s3, o3, ?_⟩
        have q' : PostS G W κ w' (loopOut (b s3) (forL g b r)) N := q'
        have lw : w'.le w3 := nx.le.trans l3
        cases e4 : b s3 with
        | stuck => rw [e4] at q'; exact q'.elim
        | exc x s4 => rw [e4] at q'; exact PostS.mono (r := .exc x s4) lw q'
        | ok o s4 =>
          rw [e4] at q'
          cases o with
          | nx => exact fun w4 σ4 H4 l4 o4 => ⟨w4, s4, (le'.trans lw).trans l4, o4, PostS.mono (lw.trans l4) q'⟩
          | ct => exact fun w4 σ4 H4 l4 o4 => ⟨w4, s4, (le'.trans lw).trans l4, o4, PostS.mono (lw.trans l4) q'⟩
          | bk => exact PostS.mono (r := .ok .nx s4) lw q'
          | rt d => exact PostS.mono (r := .ok (.rt d) s4) lw q'
theorem pds_for {tg iter : Expr} {body : List Stmt} {it : DA} {is : List Nat} {g : DG} {b : DStm} {pos : Pos} (hp : PassesOwn (model X.prog X.w) X.A X.env X.xe) (hc : X.calm = true) (hi : PDI G W X tg iter it) (hg : PDG G X tg is g) (hb : PDSs G W X body b)
    (hs : ∀ x, foldedSetIterable iter X.env x = pure x := by intro _; rfl) : PDS G W X (.For tg iter body [] pos) (sFor it g b) :=
  (ps_for hp hc hi hg hb hs).imp fun N σ H ⟨κ, w, s, ok, q⟩ => ⟨κ, w, s, ok, by
    unfold sFor at q
    cases e : it s with
    | stuck => rw [e] at q; exact q.elim
    | exc x s' =>
      rw [e] at q
      exact fun w' c dd H' l o r => q w' σ c dd H' l o r
    | ok ds s' =>
      rw [e] at q
      intro w' J H' l o hJ
      exact for_of hJ (.refl _) o (PostS.mono l q)⟩
end
end DL
set_option maxRecDepth 100000
set_option maxHeartbeats 4000000
set_option autoImplicit false
namespace DL
open PySem PySem.Spec PyProof.Rows L2
/-! ### what a def promises -/
section
variable (G : Gam)
def PostF {α : Type} (rep : Wd → V → α → Prop) (w : Wd) (H : Hp) (r : Res (List Cell) α) (Q : VK) (E : XK) : Prop := match r with
  | .ok d S' => ∀ w' v H', Nx w H w' H' → FOk G w' S' H' → rep w' v d → Q v H'
  | .exc x S' => ∀ w' c dd H', Nx w H w' H' → FOk G w' S' H' → RepX G w' c dd x → E c dd H'
  | .stuck => False
def spG (n : Nat) (g : DFn) : Sp := fun vs H Q E => vs.length = n ∧ ∃ w S ds, FOk G w S H ∧ Reps G w vs ds ∧ PostF G (Rep G) w H (g ds S) Q E
end
def lift {α : Type} (s : DS) (r : Res (List Cell) α) : Res DS α := match r with
  | .ok d S' => .ok d ⟨s.sl, S'⟩
  | .exc x S' => .exc x ⟨s.sl, S'⟩
  | .stuck => .stuck
section
variable {G : Gam} {W : WX} {X : Cx}
theorem postF_of {κ : Bs} {w : Wd} {s : DS} {σ : L2.St} {H : Hp} {r : Res (List Cell) D} {Q : VK} (ok : Ok G κ w s σ H) (q : PostG G W (Rep G) κ w σ (lift s r) Q) : PostF G (Rep G) w H r Q (WE W σ) := by
  cases r with
  | ok d S' => exact fun w' v H' n f r => q w' v H' n.le (ok.step n f) r
  | exc x S' => exact fun w' c dd H' n f r => q w' c dd H' n.le (ok.step n f) r
  | stuck => exact q
theorem callD {k : Nat} {f : Addr} {fd : FuncData} {ps : List Str} {n : Nat} {g : DFn} {pins : List (Addr × Obj)} {sh : Shared} {κ : Bs} {w : Wd} {s : DS} {σ : L2.St} {H : Hp} {vs : List V} {ds : List D} {us : List Value} {Q : VK}
    (F : FnOk X.prog X.w X.K X.mg X.base (L2.CX X.prog X.w) k f fd ps (spG G n g)) (hr : Room k X.A) (hb : Binds X.K fd ps []) (tk : Takes X W) (I : Inv X pins σ H sh) (ok : Ok G κ w s σ H) (rs : Reps G w vs ds) (r : Vals vs us) (hn : ds.length = n)
    (q : PostG G W (Rep G) κ w σ (lift s (g ds s.st)) Q) : wpAny (model X.prog X.w) X.A (call (.ref f) us) (EP X pins σ Q) X.xe sh := by
  refine run_fnSD (E := WE W) (dvs := []) (ds := []) F hr hb .nil (passAt tk σ) I r ?_
  rw [List.append_nil]
  exact ⟨by rw [rs.length]; exact hn, w, s.st, ds, ok.fok, rs, postF_of ok q⟩
/-! ### f(..) -/
def eCall (n : Nat) (g : DFn) (fa : DA) : DE := fun s => (fa s).bind fun ds s1 => if ds.length = n then lift s1 (g ds s1.st) else .stuck
theorem pd_call {k : Nat} {f : Addr} {fd : FuncData} {ps : List Str} {n : Nat} {g : DFn} {x : Str} {p pos : Pos} {e : Expr} {es : List Expr} {fa : DA} (F : FnOk X.prog X.w X.K X.mg X.base (L2.CX X.prog X.w) k f fd ps (spG G n g)) (hr : Room k X.A) (hg : Gl X x) (hm : X.mg x = some (.ref f))
    (hk : PySem.W.keepIn X.K (.ref f) = true) (hb : Binds X.K fd ps []) (tk : Takes X W) (ha : PDA G W X (e :: es) fa) (hdb : (x == ("__debug__" : Str)) = false := by decide) (he : starEach (e :: es) X.env = (false, eval e X.env) :: starEach es X.env := by rfl)
    (hpl : (backTo pos (starEach es X.env)).any (·.1) = false := by rfl) : PD G W X (.Call (.Name x p) (e :: es) [] pos) (eCall n g fa) := by
  refine ⟨fun pins s σ H Q I h => ?_⟩
  obtain ⟨κ, w, ds, ok, q⟩ := h
  refine wpAny_Call_Name_kw (ld_glob I hg hm ?_ hdb)
  have hh : tDA G W fa σ H fun vs H1 => ∃ d s1 w1, w.le w1 ∧ Ok G κ w1 s1 σ H1 ∧ Reps G w1 vs d ∧ PostG G W (Rep G) κ w1 σ (if d.length = n then lift s1 (g d s1.st) else .stuck) Q := ⟨κ, w, ds, ok, PostG.bind q⟩
  refine PySem.W.callWith_K (h₀ := X.base) I.ok.mod.kin hk (thn (ha.run pos pins s σ H _ I hh) fun us s1 ⟨vs, H1, I1, r, d, s2, w1, le, ok1, rs, q1⟩ => ⟨I1.kIn, ?_⟩) he hpl
  by_cases c : d.length = n
  · rw [if_pos c] at q1
    exact callD F hr hb tk I1 ok1 rs r c q1
  · rw [if_neg c] at q1
    exact q1.elim
theorem pd_call0 {k : Nat} {f : Addr} {fd : FuncData} {ps : List Str} {g : DFn} {x : Str} {p pos : Pos} (F : FnOk X.prog X.w X.K X.mg X.base (L2.CX X.prog X.w) k f fd ps (spG G 0 g)) (hr : Room k X.A) (hg : Gl X x) (hm : X.mg x = some (.ref f))
    (hk : PySem.W.keepIn X.K (.ref f) = true) (hb : Binds X.K fd ps []) (tk : Takes X W) (hdb : (x == ("__debug__" : Str)) = false := by decide) : PD G W X (.Call (.Name x p) [] [] pos) (eCall 0 g aNil) := by
  refine ⟨fun pins s σ H Q I h => ?_⟩
  obtain ⟨κ, w, ds, ok, q⟩ := h
  refine wpAny_Call_Name_kw (ld_glob I hg hm ?_ hdb)
  exact PySem.W.callWith_K0 I.kIn hk (callD (us := []) F hr hb tk I ok .nil .nil rfl q)
/-! ### the body of a def -/
def fnD (n : Nat) (body : DStm) (m : Nat) : DFn := fun ds S => if ds.length = n then match body ⟨ds.map Sl.val ++ List.replicate m .un, S⟩ with
  | .ok (.rt d) s => .ok d s.st
  | .ok .nx s => .ok .non s.st
  | .exc x s => .exc x s.st
  | _ => .stuck
  else .stuck
theorem Ok.start {w : Wd} {S : List Cell} {H : Hp} {vs : List V} {ds : List D} (f : FOk G w S H) (r : Reps G w vs ds) (m : Nat) : Ok G ⟨w, H, [], none⟩ w ⟨ds.map Sl.val ++ List.replicate m .un, S⟩ (vs.map some ++ List.replicate m none) H := by
  have no : ∀ (i : Nat) (x : Sl), (ds.map Sl.val ++ List.replicate m Sl.un)[i]? = some x → x.own = false := fun i x e => by
    have hx := List.mem_of_getElem? e
    rcases List.mem_append.mp hx with h | h
    · obtain ⟨d, _, rfl⟩ := List.mem_map.mp h
      rfl
    · rw [(List.mem_replicate.mp h).2]
      rfl
  refine ⟨f, .refl _ _, by simp [r.length], fun i d e => ?_, fun i x e o => ?_, fun i j x y a e1 e2 o1 o2 _ _ => ?_, fun p hp => by simp at hp, fun a z => nomatch z⟩
  · by_cases c : i < ds.length
    · have e1 : (ds.map Sl.val ++ List.replicate m Sl.un)[i]? = some (.val d) := e
      rw [List.getElem?_append_left (by rw [List.length_map]; exact c), List.getElem?_map] at e1
      cases q : ds[i]? with
      | none => rw [q] at e1; cases e1
      | some d' =>
        rw [q] at e1
        cases e1
        obtain ⟨v, h1, h2⟩ := r.get q
        refine ⟨v, ?_, h2⟩
        rw [List.getElem?_append_left (by rw [List.length_map, r.length]; exact c), List.getElem?_map, h1]
        rfl
    · have e1 : (ds.map Sl.val ++ List.replicate m Sl.un)[i]? = some (.val d) := e
      rw [List.getElem?_append_right (by rw [List.length_map]; omega), List.getElem?_replicate] at e1
      split at e1 <;> cases e1
  · rw [no i x e] at o; cases o
  · rw [no i x e1] at o1; cases o1
theorem start_eq {N : List Str} {vs : List V} {m : Nat} (h : N.length - vs.length = m) : L2.start N vs = vs.map some ++ List.replicate m none := by
  unfold L2.start
  rw [h]
theorem fn_okD {P : Program} {w0 : World} {mg : Str → Option Value} {base : Heap} {x qual : Str} {st : Stmt} {f : Addr} {fd : FuncData} {N ps : List Str} {k n m : Nat} {body : DStm} (F : Fun G.K x qual st f fd) (S : FnScope N ps (defScope st)) (hn : ps.length = n) (hm : N.length - n = m)
    (hbody : ∀ (cdv : Value) (A : Around) (outer : List Env) (s : Shared) (H : Hp) (E : XK), Room k (A.deeper (envOfC qual (defScope st) s.heap.objs.size f cdv)) →
      Takes (cxOf (L2.CX P w0) P w0 G.K mg base N qual (defScope st) f cdv A outer s H E) (fun c d _ H => E c d H) → PassesOwn (model P w0) (A.deeper (envOfC qual (defScope st) s.heap.objs.size f cdv)) (envOfC qual (defScope st) s.heap.objs.size f cdv) (cxOf (L2.CX P w0) P w0 G.K mg base N qual (defScope st) f cdv A outer s H E).xe →
      PDSs G (fun c d _ H => E c d H) (cxOf (L2.CX P w0) P w0 G.K mg base N qual (defScope st) f cdv A outer s H E) (defBody st) body) : FnOk P w0 G.K mg base (L2.CX P w0) (k + 1) f fd ps (spG G n (fnD n body m)) := by
  refine F.okX S (fun vs H Q E h => by rw [h.1, hn]) fun cdv A outer s H vs Q E hr h => ?_
  refine ⟨_, hbody cdv A outer s H E hr (takes_of rfl rfl rfl rfl) (passes_of rfl), ?_⟩
  obtain ⟨hl, w, S', ds, fok, rs, q⟩ := h
  have hd : ds.length = n := by rw [← rs.length]; exact hl
  unfold fnD at q
  rw [if_pos hd] at q
  rw [start_eq (m := m) (by rw [hl]; exact hm)]
  refine ⟨⟨w, H, [], none⟩, w, _, Ok.start fok rs m, ?_⟩
  cases e : body ⟨ds.map Sl.val ++ List.replicate m .un, S'⟩ with
  | stuck => rw [e] at q; exact q.elim
  | exc x s' =>
    rw [e] at q
    exact fun w' σ' c dd H' l o r => q w' c dd H' o.nx o.fok r
  | ok o s' =>
    rw [e] at q
    cases o with
    | nx => exact fun w' σ' H' l o => q w' .non H' o.nx o.fok .non
    | bk => exact q.elim
    | ct => exact q.elim
    | rt d => exact fun w' σ' v H' l o r => q w' v H' o.nx o.fok r
/-! ### attributes -/
def insOf (d : D) (s : DS) : Option (String × List (Nm × D)) := match d with
  | .ins c fs => some (c, fs)
  | .cell n => match s.st[n]? with
    | some (.obj c fs) => some (c, fs)
    | _ => none
  | _ => none
theorem Rep.ins_of {κ : Bs} {w : Wd} {s : DS} {σ : L2.St} {H : Hp} {v : V} {d : D} {c : String} {fs : List (Nm × D)} (r : Rep G w v d) (ok : Ok G κ w s σ H) (h : insOf d s = some (c, fs)) : ∃ a C dx vs, v = .ref a ∧ G.ct c = some C ∧ H a = some (.ins C dx vs) ∧ RepF G w vs fs := by
  cases r with
  | @ins a C dx c' vs ds e1 e2 e3 =>
    have h : some (c', ds) = some (c, fs) := h
    cases h
    exact ⟨a, C, dx, vs, rfl, e1, ok.fok.sub _ _ e2, e3⟩
  | @cell a n e =>
    unfold insOf at h
    cases q : s.st[n]? with
    | none => simp [q] at h
    | some c' =>
      cases c' with
      | obj cc ff =>
        simp only [q] at h
        cases h
        obtain ⟨C, dx, vs, h1, h2, h3⟩ := ok.fok.cel n a _ e q
        exact ⟨a, C, dx, vs, rfl, h1, h2, h3⟩
      | _ => simp [q] at h
  | _ => exact nomatch h
def eFld (cs : List String) (fn : Nm) (f : DE) : DE := fun s => (f s).bind fun d s1 => match insOf d s1 with
  | some (c, fs) => if c ∈ cs then match fs.lookup fn with
    | some x => .ok x s1
    | none => .stuck
    else .stuck
  | none => .stuck
/-- what of the text the classes must have for an attribute -/
def FldOk (G : Gam) (cs : List String) (fn : Nm) : Prop := ∀ c ∈ cs, ∀ C, G.ct c = some C → Cls G.K C ∧ NoAttr G.K C (nm fn)
theorem pd_fld (hK : G.K = X.K) {cs : List String} {fn : Nm} {f : DE} {e : Expr} {x : Str} {pos : Pos} (hx : x = nm fn) (ho : FldOk G cs fn) (h : PD G W X e f) (hb : attributeBase e x X.env (eval e X.env) = eval e X.env := by rfl) : PD G W X (.Attribute e x pos) (eFld cs fn f) :=
  (pe_fld h hb).imp fun σ H Q ⟨κ, w, s, ok, q⟩ => ⟨κ, w, s, ok, (PostG.bind q).imp fun v H1 ⟨d, s1, w1, le, ok1, r1, q1⟩ => by
    cases e1 : insOf d s1 with
    | none => rw [e1] at q1; exact q1.elim
    | some p =>
      obtain ⟨c, fs⟩ := p
      rw [e1] at q1
      obtain ⟨a, C, dx, vs, ev, hC, hH, rf⟩ := r1.ins_of ok1 e1
      have q1 : PostG G W (Rep G) κ w1 σ (if c ∈ cs then match fs.lookup fn with | some x => .ok x s1 | none => .stuck else .stuck) Q := q1
      by_cases hc : c ∈ cs
      · rw [if_pos hc] at q1
        cases e2 : fs.lookup fn with
        | none => rw [e2] at q1; exact q1.elim
        | some z =>
          rw [e2] at q1
          obtain ⟨y, h1, h2⟩ := rf.look e2
          obtain ⟨cl, na⟩ := ho c hc C hC
          refine ⟨a, C, dx, vs, y, ev, hH, hK ▸ cl, by rw [hx]; exact hK ▸ na, by rw [hx]; exact h1, q1 w1 y H1 (.refl _) ok1 h2⟩
      · rw [if_neg hc] at q1
        exact q1.elim⟩
/-! ### o.m(..) -/
def eMeth (c : String) (m : Nm) (n : Nat) (g : DFn) (fo : DE) (fa : DA) : DE := fun s => (fo s).bind fun d s1 => match insOf d s1 with
  | some (c', fs) => if c' = c ∧ fs.lookup m = none then (fa s1).bind fun ds s2 => if ds.length + 1 = n then lift s2 (g (d :: ds) s2.st) else .stuck
    else .stuck
  | none => .stuck
theorem pd_meth (hK : G.K = X.K) {c : String} {mn : Nm} {n : Nat} {g : DFn} {fo : DE} {fa : DA} {C f : Addr} {m : Str} {k : Nat} {fd : FuncData} {ps : List Str} {o e : Expr} {es : List Expr} {apos pos : Pos} {pl : Sem Bool} (he : PD G W X o fo) (hC : G.ct c = some C) (cl : Cls X.K C) (hmn : m = nm mn) (hm : Meth X.K C m f)
    (F : FnOk X.prog X.w X.K X.mg X.base (L2.CX X.prog X.w) k f fd ps (spG G n g)) (hr : Room k X.A) (hb : Binds X.K fd ps []) (tk : Takes X W) (ha : PDA G W X (e :: es) fa)
    (hst : starEach (e :: es) X.env = (false, eval e X.env) :: starEach es X.env := by rfl) (hpl : (backTo pos (starEach es X.env)).any (·.1) = false := by rfl)
    (ht : eval (.Call (.Attribute o m apos) (e :: es) [] pos) X.env = (do
      let ov ← eval o X.env
      standAt apos.atName
      let (f, first) ← holding [ov] (getMethod ov m pl)
      callWith pos f first (backTo pos (starEach (e :: es) X.env)) (backToKw pos (keywordEach [] X.env))) := by rfl) :
    PD G W X (.Call (.Attribute o m apos) (e :: es) [] pos) (eMeth c mn n g fo fa) := by
  refine ⟨fun pins sh σ H Q I h => ?_⟩
  obtain ⟨κ, w, s, ok, q⟩ := h
  have hh : tD G W fo σ H fun v H1 => ∃ d s1 w1, w.le w1 ∧ Ok G κ w1 s1 σ H1 ∧ Rep G w1 v d ∧ PostG G W (Rep G) κ w1 σ (match insOf d s1 with
    | some (c', fs) => if c' = c ∧ fs.lookup mn = none then (fa s1).bind fun ds s2 => if ds.length + 1 = n then lift s2 (g (d :: ds) s2.st) else .stuck else .stuck
    | none => .stuck) Q := ⟨κ, w, s, ok, PostG.bind q⟩
  refine PySem.W.methodCall_KW (pl := pl) (thn (he.run pins sh σ H _ I hh) fun u s1 ⟨x, H1, I1, rx, d, t1, w1, le, ok1, r1, q1⟩ => ?_) ht
  cases e1 : insOf d t1 with
  | none => rw [e1] at q1; exact q1.elim
  | some p =>
    obtain ⟨c', fs⟩ := p
    rw [e1] at q1
    replace q1 : PostG G W (Rep G) κ w1 σ (if c' = c ∧ fs.lookup mn = none then (fa t1).bind fun ds s2 => if ds.length + 1 = n then lift s2 (g (d :: ds) s2.st) else .stuck else .stuck) Q := q1
    by_cases hc : c' = c ∧ fs.lookup mn = none
    · rw [if_pos hc] at q1
      obtain ⟨rfl, hl⟩ := hc
      obtain ⟨a, C', dx, vs, ev, hC', hH, rf⟩ := r1.ins_of ok1 e1
      rw [hC] at hC'
      cases hC'
      subst ev
      obtain rfl : u = Value.ref a := rx
      have hl2 : vs.lookup m = none := by rw [hmn]; exact rf.none hl
      refine getmeth_ok I1 hH cl hm hl2 ?_
      have hh2 : tDA G W fa σ H1 fun vs H2 => ∃ ds s2 w2, w1.le w2 ∧ Ok G κ w2 s2 σ H2 ∧ Reps G w2 vs ds ∧ PostG G W (Rep G) κ w2 σ (if ds.length + 1 = n then lift s2 (g (d :: ds) s2.st) else .stuck) Q := ⟨κ, w1, t1, ok1, PostG.bind q1⟩
      refine PySem.W.callWith_K (first := [.ref a]) (h₀ := X.base) I.ok.mod.kin hm.kp (thn (ha.run pos pins s1 σ H1 _ I1 hh2) fun us s2 ⟨vs2, H2, I2, r2, ds, t2, w2, le2, ok2, rs2, q2⟩ => ⟨I2.kIn, ?_⟩) hst hpl
      by_cases c3 : ds.length + 1 = n
      · rw [if_pos c3] at q2
        exact callD (us := .ref a :: us) (vs := .ref a :: vs2) (ds := d :: ds) F hr hb tk I2 ok2 (.cons (r1.mono le2) rs2) (.cons rfl r2) c3 q2
      · rw [if_neg c3] at q2
        exact q2.elim
    · rw [if_neg hc] at q1
      exact q1.elim
theorem pd_meth0 (hK : G.K = X.K) {c : String} {mn : Nm} {n : Nat} {g : DFn} {fo : DE} {C f : Addr} {m : Str} {k : Nat} {fd : FuncData} {ps : List Str} {o : Expr} {apos pos : Pos} {pl : Sem Bool} (he : PD G W X o fo) (hC : G.ct c = some C) (cl : Cls X.K C) (hmn : m = nm mn) (hm : Meth X.K C m f)
    (F : FnOk X.prog X.w X.K X.mg X.base (L2.CX X.prog X.w) k f fd ps (spG G n g)) (hr : Room k X.A) (hb : Binds X.K fd ps []) (tk : Takes X W)
    (ht : eval (.Call (.Attribute o m apos) [] [] pos) X.env = (do
      let ov ← eval o X.env
      standAt apos.atName
      let (f, first) ← holding [ov] (getMethod ov m pl)
      callWith pos f first (backTo pos (starEach [] X.env)) (backToKw pos (keywordEach [] X.env))) := by rfl) :
    PD G W X (.Call (.Attribute o m apos) [] [] pos) (eMeth c mn n g fo aNil) := by
  refine ⟨fun pins sh σ H Q I h => ?_⟩
  obtain ⟨κ, w, s, ok, q⟩ := h
  have hh : tD G W fo σ H fun v H1 => ∃ d s1 w1, w.le w1 ∧ Ok G κ w1 s1 σ H1 ∧ Rep G w1 v d ∧ PostG G W (Rep G) κ w1 σ (match insOf d s1 with
    | some (c', fs) => if c' = c ∧ fs.lookup mn = none then (aNil s1).bind fun ds s2 => if ds.length + 1 = n then lift s2 (g (d :: ds) s2.st) else .stuck else .stuck
    | none => .stuck) Q := ⟨κ, w, s, ok, PostG.bind q⟩
  refine PySem.W.methodCall_KW (pl := pl) (thn (he.run pins sh σ H _ I hh) fun u s1 ⟨x, H1, I1, rx, d, t1, w1, le, ok1, r1, q1⟩ => ?_) ht
  cases e1 : insOf d t1 with
  | none => rw [e1] at q1; exact q1.elim
  | some p =>
    obtain ⟨c', fs⟩ := p
    rw [e1] at q1
    replace q1 : PostG G W (Rep G) κ w1 σ (if c' = c ∧ fs.lookup mn = none then (if 0 + 1 = n then lift t1 (g [d] t1.st) else .stuck) else .stuck) Q := q1
    by_cases hc : c' = c ∧ fs.lookup mn = none
    · rw [if_pos hc] at q1
      obtain ⟨rfl, hl⟩ := hc
      obtain ⟨a, C', dx, vs, ev, hC', hH, rf⟩ := r1.ins_of ok1 e1
      rw [hC] at hC'
      cases hC'
      subst ev
      obtain rfl : u = Value.ref a := rx
      have hl2 : vs.lookup m = none := by rw [hmn]; exact rf.none hl
      refine getmeth_ok I1 hH cl hm hl2 ?_
      by_cases c3 : 0 + 1 = n
      · rw [if_pos c3] at q1
        exact PySem.W.callWith_K0 (first := [.ref a]) I1.kIn hm.kp (callD (us := [.ref a]) (vs := [.ref a]) (ds := [d]) F hr hb tk I1 ok1 (.cons r1 .nil) (.cons rfl .nil) c3 q1)
      · rw [if_neg c3] at q1
        exact q1.elim
    · rw [if_neg hc] at q1
      exact q1.elim
/-! ### C(..): an instance of one's own class is made -/
abbrev DIn := List D → List Cell → Res (List Cell) (List (Nm × D))
def erase (H : Hp) (x : Addr) : Hp := fun a => if a = x then none else H a
def spI (G : Gam) (c : String) (n : Nat) (g : DIn) : Sp := fun vs H Q E => vs.length = n + 1 ∧ ∃ w S ds x vs' C dx, vs = .ref x :: vs' ∧ G.ct c = some C ∧ H x = some (.ins C dx []) ∧ FOk G w S H ∧ w.F x = none ∧ x ∉ w.ρ ∧ Reps G w vs' ds ∧
  match g ds S with
  | .ok fs S' => ∀ w' H' vfs dx', Nx w (erase H x) w' H' → FOk G w' S' H' → H' x = some (.ins C dx' vfs) → RepF G w' vfs fs → w'.F x = none → x ∉ w'.ρ → Q .non H'
  | .exc x' S' => ∀ w' cc dd H', Nx w (erase H x) w' H' → FOk G w' S' H' → RepX G w' cc dd x' → E cc dd H'
  | .stuck => False
def inFin (c : String) (s : DS) : Res (List Cell) (List (Nm × D)) := match (s.sl[0]? : Option Sl) with
  | some (.oi c' fs) => if c' = c then .ok fs s.st else .stuck
  | _ => .stuck
def inD (c : String) (n : Nat) (body : DStm) (m : Nat) : DIn := fun ds S => if ds.length = n then
  match body ⟨.oi c [] :: ds.map Sl.val ++ List.replicate m .un, S⟩ with
  | .ok (.rt .non) s => inFin c s
  | .ok .nx s => inFin c s
  | .exc x s => .exc x s.st
  | _ => .stuck
  else .stuck
theorem Ok.startI {w : Wd} {S : List Cell} {H : Hp} {vs : List V} {ds : List D} {x C dx : Addr} {c : String} (f : FOk G w S H) (r : Reps G w vs ds) (m : Nat) (hC : G.ct c = some C) (hx : H x = some (.ins C dx [])) (nF : w.F x = none) (nR : x ∉ w.ρ) :
    Ok G ⟨w, erase H x, [], some x⟩ w ⟨.oi c [] :: ds.map Sl.val ++ List.replicate m .un, S⟩ (some (.ref x) :: vs.map some ++ List.replicate m none) H := by
  have base := Ok.start f r m
  have no : ∀ (i : Nat) (y : Sl), (ds.map Sl.val ++ List.replicate m Sl.un)[i]? = some y → y.own = false := fun i y e => by
    have hx := List.mem_of_getElem? e
    rcases List.mem_append.mp hx with h | h
    · obtain ⟨d, _, rfl⟩ := List.mem_map.mp h
      rfl
    · rw [(List.mem_replicate.mp h).2]
      rfl
  refine ⟨f, ⟨.refl _, fun a o e _ => ?_, fun a h => .inl h, fun a h => .inl h⟩, by simp [r.length], fun i d e => ?_, fun i y e o => ?_, fun i j y z a e1 e2 o1 o2 _ _ => ?_, fun p hp => by simp at hp, fun a z c' fs' _ => by cases z; rfl⟩
  · have e : (if a = x then none else H a) = some o := e
    split at e
    · cases e
    · exact e
  · cases i with
    | zero => cases e
    | succ i => exact base.val i d e
  · cases i with
    | zero =>
      cases e
      exact ⟨x, rfl, ⟨C, dx, [], hC, hx, .nil⟩, nF, nR, by show (if x = x then none else H x) = none; rw [if_pos rfl]⟩
    | succ i =>
      rw [no i y e] at o
      cases o
  · cases i with
    | zero =>
      cases j with
      | zero => rfl
      | succ j => rw [no j z e2] at o2; cases o2
    | succ i => rw [no i y e1] at o1; cases o1
theorem in_okD {P : Program} {w0 : World} {mg : Str → Option Value} {base : Heap} {x qual : Str} {st : Stmt} {f : Addr} {fd : FuncData} {N ps : List Str} {c : String} {k n m : Nat} {body : DStm} (F : Fun G.K x qual st f fd) (S : FnScope N ps (defScope st)) (hn : ps.length = n + 1) (hm : N.length - (n + 1) = m)
    (hbody : ∀ (cdv : Value) (A : Around) (outer : List Env) (s : Shared) (H : Hp) (E : XK), Room k (A.deeper (envOfC qual (defScope st) s.heap.objs.size f cdv)) →
      Takes (cxOf (L2.CX P w0) P w0 G.K mg base N qual (defScope st) f cdv A outer s H E) (fun c d _ H => E c d H) → PassesOwn (model P w0) (A.deeper (envOfC qual (defScope st) s.heap.objs.size f cdv)) (envOfC qual (defScope st) s.heap.objs.size f cdv) (cxOf (L2.CX P w0) P w0 G.K mg base N qual (defScope st) f cdv A outer s H E).xe →
      PDSs G (fun c d _ H => E c d H) (cxOf (L2.CX P w0) P w0 G.K mg base N qual (defScope st) f cdv A outer s H E) (defBody st) body) : FnOk P w0 G.K mg base (L2.CX P w0) (k + 1) f fd ps (spI G c n (inD c n body m)) := by
  refine F.okX S (fun vs H Q E h => by rw [h.1, hn]) fun cdv A outer s H vs Q E hr h => ?_
  refine ⟨_, hbody cdv A outer s H E hr (takes_of rfl rfl rfl rfl) (passes_of rfl), ?_⟩
  obtain ⟨hl, w, S', ds, xa, vs', C, dx, ev, hC, hx, fok, nF, nR, rs, q⟩ := h
  subst ev
  have hl' : vs'.length = n := by simpa using hl
  have hd : ds.length = n := by rw [← rs.length]; exact hl'
  unfold inD at q
  rw [if_pos hd] at q
  rw [start_eq (m := m) (by rw [List.length_cons, hl']; exact hm)]
  refine ⟨⟨w, erase H xa, [], some xa⟩, w, _, Ok.startI fok rs m hC hx nF nR, ?_⟩
  have fin : ∀ (w' : Wd) (σ' : L2.St) (H' : Hp) (s' : DS), Ok G ⟨w, erase H xa, [], some xa⟩ w' s' σ' H' →
      (match inFin c s' with
        | .ok fs S' => ∀ w' H' vfs dx', Nx w (erase H xa) w' H' → FOk G w' S' H' → H' xa = some (.ins C dx' vfs) → RepF G w' vfs fs → w'.F xa = none → xa ∉ w'.ρ → Q .non H'
        | .exc x' S' => ∀ w' cc dd H', Nx w (erase H xa) w' H' → FOk G w' S' H' → RepX G w' cc dd x' → E cc dd H'
        | .stuck => False) → Q .non H' := fun w' σ' H' s' o q => by
    unfold inFin at q
    cases e0 : s'.sl[0]? with
    | none => rw [e0] at q; exact q.elim
    | some y =>
      rw [e0] at q
      cases y with
      | oi c' fs =>
        by_cases hc : c' = c
        · subst hc
          simp only [if_true] at q
          have h0 := o.me xa rfl _ _ e0
          obtain ⟨a, h1, ⟨C', dx', vfs, hC', hH, rf⟩, h3, h4, _⟩ := o.own 0 _ e0 rfl
          rw [h0] at h1
          cases h1
          rw [hC] at hC'
          cases hC'
          exact q w' H' vfs dx' o.nx o.fok hH rf h3 h4
        · simp only [if_neg hc] at q
      | _ => exact q.elim
  cases e : body ⟨.oi c [] :: ds.map Sl.val ++ List.replicate m .un, S'⟩ with
  | stuck => rw [e] at q; exact q.elim
  | exc x s' =>
    rw [e] at q
    exact fun w' σ' c dd H' l o r => q w' c dd H' o.nx o.fok r
  | ok o s' =>
    rw [e] at q
    cases o with
    | nx => exact fun w' σ' H' l o => fin w' σ' H' s' o q
    | bk => exact q.elim
    | ct => exact q.elim
    | rt d =>
      intro w' σ' v H' l o r
      cases r with
      | non => exact fin w' σ' H' s' o q
      | _ => exact q.elim
/-- what of the text a class must have to be made -/
theorem makeD {c : String} {n k : Nat} {g : DIn} {C f : Addr} {fd : FuncData} {ps : List Str} {pins : List (Addr × Obj)} {sh : Shared} {κ : Bs} {w : Wd} {s : DS} {σ : L2.St} {H : Hp} {vs : List V} {ds : List D} {us : List Value} {Q : VK} (M : Mk X.K C f) (hC : G.ct c = some C)
    (F : FnOk X.prog X.w X.K X.mg X.base (L2.CX X.prog X.w) k f fd ps (spI G c n g)) (hr : Room (k + 1) X.A) (hb : Binds X.K fd ps []) (tk : Takes X W) (I : Inv X pins σ H sh) (ok : Ok G κ w s σ H) (rs : Reps G w vs ds) (r : Vals vs us) (hn : ds.length = n)
    (q : PostG G W (Rep G) κ w σ ((lift s (g ds s.st)).bind fun fs s1 => .ok (.ins c fs) s1) Q) : wpAny (model X.prog X.w) X.A (call (.ref C) us) (EP X pins σ Q) X.xe sh := by
  have key : ∀ x dx, H x = none → H dx = none → dx ≠ x → spI G c n g (.ref x :: (vs ++ [])) (upd (upd H dx (.own x)) x (.ins C dx [])) (fun v H2 => v = .non ∧ Q (.ref x) H2) (WE W σ) := fun x dx nx ndx ne => by
    have o1 := ok.fresh ndx (.own x)
    have nx1 : upd H dx (.own x) x = none := by rw [upd_ne (Ne.symm ne)]; exact nx
    have o2 := o1.fresh nx1 (.ins C dx [])
    obtain ⟨g1, g2, g3, g4, g5⟩ := o2.gam (x, .ins C dx []) List.mem_cons_self
    have kx : ∀ a o, H a = some o → erase (upd (upd H dx (.own x)) x (.ins C dx [])) x a = some o := fun a o e => by
      have h1 : a ≠ x := ne_of_none e nx
      have h2 : a ≠ dx := ne_of_none e ndx
      show (if a = x then none else _) = some o
      rw [if_neg h1, upd_ne h1, upd_ne h2]
      exact e
    have bk : ∀ a, erase (upd (upd H dx (.own x)) x (.ins C dx [])) x a = none → H a = none := fun a e => by
      cases e2 : H a with
      | none => rfl
      | some o => rw [kx a o e2] at e; cases e
    refine ⟨by rw [List.append_nil, List.length_cons, rs.length, hn], w, s.st, ds, x, vs, C, dx, by rw [List.append_nil], hC, g1, o2.fok, g2, g3, rs, ?_⟩
    cases e : g ds s.st with
    | stuck => rw [e] at q; exact q.elim
    | exc x' S' =>
      rw [e] at q
      exact fun w' cc dd H' nn f' r => q w' cc dd H' nn.le (ok.step ⟨nn.le, fun a o e1 e2 => nn.keep a o (kx a o e1) e2, fun a h => (nn.newF a h).imp_right (bk a), fun a h => (nn.newR a h).imp_right (bk a)⟩ f') r
    | ok fs S' =>
      rw [e] at q
      intro w' H' vfs dx' nn f' hx rf hF hR
      refine ⟨rfl, ?_⟩
      have N1 : Nx w H w' H' := ⟨nn.le, fun a o e1 e2 => nn.keep a o (kx a o e1) e2, fun a h => (nn.newF a h).imp_right (bk a), fun a h => (nn.newR a h).imp_right (bk a)⟩
      have o3 : Ok G (κ.plus x (.ins C dx' vfs)) w' ⟨s.sl, S'⟩ σ H' := by
        have o3 := ok.step N1 f'
        refine ⟨o3.fok, o3.nx, o3.len, o3.val, o3.own, o3.ne, fun p hp => ?_, o3.me⟩
        rcases List.mem_cons.mp hp with rfl | hp
        · exact ⟨hx, hF, hR, g4, g5⟩
        · exact o3.gam p hp
      obtain ⟨le, o4⟩ := o3.frz fun p hp => ne_of_none (ok.gam p hp).1 nx
      exact q _ _ _ (nn.le.trans le) o4 (.ins hC upd_same (rf.mono le))
  have hx : PassesAt (L2.CX X.prog X.w) X σ (WE W σ) := passAt tk σ
  have hq := key (sh.heap.objs.size + 1) sh.heap.objs.size (I.hok.fresh (Nat.le_succ _)) (I.hok.fresh (Nat.le_refl _)) (Nat.ne_of_lt (Nat.lt_succ_self _))
  have I2 := Inv.made (C := C) I
  have r2 : Vals (V.ref (sh.heap.objs.size + 1) :: (vs ++ [])) (Value.ref (sh.heap.objs.size + 1) :: (us ++ [])) := .cons rfl (r.append .nil)
  have hl : (Value.ref (sh.heap.objs.size + 1) :: us ++ []).length = ps.length := by
    have e := r2.length
    rw [F.len _ _ _ _ hq] at e
    exact e.symm
  refine wpAny_call (make_map (f := f) I.kIn M.makes M.init (beq_iff_eq.mp M.fn) (codeAny_mono (F.run _ X.stack _ _ ⟨Value.ref (sh.heap.objs.size + 1) :: us, []⟩ (Value.ref (sh.heap.objs.size + 1) :: (us ++ [])) _ _ (WE W σ) (hr.make C us [])
    (I2.env0.make C us []) (by
      have hbb := hb _ (Value.ref (sh.heap.objs.size + 1) :: us) I2.kIn hl
      rw [List.cons_append] at hbb
      exact hbb) r2 hq) fun r s' hq' => ?_))
  cases r with
  | error e => exact hx pins _ _ e s' I2 hq'
  | ok fl =>
    cases fl with
    | ret u =>
      obtain ⟨v, H', I3, rv, ev, q3⟩ := I2.after hq'
      subst ev
      exact ⟨rv, ⟨V.ref (sh.heap.objs.size + 1), H', I3, rfl, q3⟩⟩
    | next => exact False.elim hq'
    | brk => exact False.elim hq'
    | cont => exact False.elim hq'
def eMake (c : String) (n : Nat) (g : DIn) (fa : DA) : DE := fun s => (fa s).bind fun ds s1 => if ds.length = n then (lift s1 (g ds s1.st)).bind fun fs s2 => .ok (.ins c fs) s2 else .stuck
theorem pd_make {c : String} {n k : Nat} {g : DIn} {C f : Addr} {fd : FuncData} {ps : List Str} {x : Str} {p pos : Pos} {e : Expr} {es : List Expr} {fa : DA} (M : Mk X.K C f) (hC : G.ct c = some C) (F : FnOk X.prog X.w X.K X.mg X.base (L2.CX X.prog X.w) k f fd ps (spI G c n g)) (hr : Room (k + 1) X.A) (hg : Gl X x)
    (hm : X.mg x = some (.ref C)) (hb : Binds X.K fd ps []) (tk : Takes X W) (ha : PDA G W X (e :: es) fa) (hdb : (x == ("__debug__" : Str)) = false := by decide) (he : starEach (e :: es) X.env = (false, eval e X.env) :: starEach es X.env := by rfl)
    (hpl : (backTo pos (starEach es X.env)).any (·.1) = false := by rfl) : PD G W X (.Call (.Name x p) (e :: es) [] pos) (eMake c n g fa) := by
  refine ⟨fun pins s σ H Q I h => ?_⟩
  obtain ⟨κ, w, ds, ok, q⟩ := h
  refine wpAny_Call_Name_kw (ld_glob I hg hm ?_ hdb)
  have hh : tDA G W fa σ H fun vs H1 => ∃ d s1 w1, w.le w1 ∧ Ok G κ w1 s1 σ H1 ∧ Reps G w1 vs d ∧ PostG G W (Rep G) κ w1 σ (if d.length = n then (lift s1 (g d s1.st)).bind fun fs s2 => .ok (.ins c fs) s2 else .stuck) Q := ⟨κ, w, ds, ok, PostG.bind q⟩
  refine PySem.W.callWith_K (h₀ := X.base) I.ok.mod.kin M.kp (thn (ha.run pos pins s σ H _ I hh) fun us s1 ⟨vs, H1, I1, r, d, s2, w1, le, ok1, rs, q1⟩ => ⟨I1.kIn, ?_⟩) he hpl
  by_cases c : d.length = n
  · rw [if_pos c] at q1
    exact makeD M hC F hr hb tk I1 ok1 rs r c q1
  · rw [if_neg c] at q1
    exact q1.elim
/-! ### self.f = e -/
def sFldO (c : String) (i : Nat) (fn : Nm) (f : DE) : DStm := fun s => (f s).bind fun d s1 => match s1.sl[i]? with
  | some (.oi c' fs) => if c' = c ∧ fs.length < 1000 then .ok .nx ⟨s1.sl.set i (.oi c (putN fn d fs)), s1.st⟩ else .stuck
  | _ => .stuck
theorem RepF.put {w : Wd} {y : V} {d : D} {fn : Nm} (r : Rep G w y d) : ∀ {v : List (Str × V)} {ds : List (Nm × D)}, RepF G w v ds → RepF G w (putF (nm fn) y v) (putN fn d ds)
  | _, _, .nil => .cons r .nil
  | _, _, .cons (f := g) a b => by
    unfold putF putN
    by_cases h : g = fn
    · subst h
      rw [if_pos rfl]
      simp only [if_true]
      first
        | exact .cons r b
        | (split <;> first | exact .cons r b | (rename_i q; exact absurd rfl q))
    · have h2 : nm g ≠ nm fn := fun q => h (nm_inj q)
      rw [if_neg h]
      split
      · rename_i q; exact absurd q h2
      · exact .cons a (RepF.put r b)
theorem pds_fld (hK : G.K = X.K) {c : String} {C : Addr} {i : Nat} {fn : Nm} {f : DE} {x y : Str} {p pos' pos : Pos} {value : Expr} (ho : PE X (.Name y p) (tVar i)) (hx : x = nm fn) (hC : G.ct c = some C) (cl : Cls X.K C) (na : NoAttr X.K C x) (hv : PD G W X value f)
    (hs : swapsWith value (some (.Attribute (.Name y p) x pos')) pos.line X.env = pure false := by rfl) : PDS G W X (.Assign [.Attribute (.Name y p) x pos'] value pos) (sFldO c i fn f) :=
  (ps_fld ho hv hs).imp fun N σ H ⟨κ, w, s, ok, q⟩ => ⟨κ, w, s, ok, (PostG.bindS q).imp fun v H1 ⟨d, s1, w1, le, ok1, r1, q1⟩ => by
    cases e : s1.sl[i]? with
    | none => rw [e] at q1; exact q1.elim
    | some z =>
      rw [e] at q1
      cases z with
      | oi c' fs =>
        replace q1 : PostS G W κ w1 (if c' = c ∧ fs.length < 1000 then .ok .nx ⟨s1.sl.set i (.oi c (putN fn d fs)), s1.st⟩ else .stuck) N := q1
        by_cases hc : c' = c ∧ fs.length < 1000
        · rw [if_pos hc] at q1
          obtain ⟨rfl, hl⟩ := hc
          obtain ⟨a, h1, ⟨C', dx, vs, hC', hH, rf⟩, _⟩ := ok1.own i _ e rfl
          rw [hC] at hC'
          cases hC'
          refine ⟨_, h1, a, C, dx, vs, rfl, hH, cl, na, by rw [rf.length]; exact hl, ?_⟩
          refine q1 w1 σ _ (.refl _) (ok1.mut e rfl rfl h1 ⟨C, dx, _, hC, upd_same, ?_⟩ fun _ _ _ => ⟨_, _, rfl⟩)
          rw [hx]
          exact RepF.put r1 rf
        · rw [if_neg hc] at q1
          exact q1.elim
      | _ => exact q1.elim⟩
end
end DL
set_option maxRecDepth 100000
set_option maxHeartbeats 4000000
set_option autoImplicit false
namespace DL
open PySem PySem.Spec PyProof.Rows L2
section
variable {G : Gam} {W : WX} {X : Cx}
/-! ### operators that may call -/
abbrev DO2 := D → D → DS → Res DS D
def OpX (G : Gam) (W : WX) (X : Cx) (f : Value → Value → Sem Value) (o : DO2) : Prop := ∀ (pins : List (Addr × Obj)) (sh : Shared) (σ : L2.St) (H : Hp) (x y : V) (v u : Value) (κ : Bs) (w : Wd) (s : DS) (dx dy : D) (Q : VK),
  Inv X pins σ H sh → RelV x v → RelV y u → Ok G κ w s σ H → Rep G w x dx → Rep G w y dy → PostG G W (Rep G) κ w σ (o dx dy s) Q → wpAny (model X.prog X.w) X.A (f v u) (EP X pins σ Q) X.xe sh
def eOpX (o : DO2) (fa fb : DE) : DE := fun s => (fa s).bind fun x s1 => (fb s1).bind fun y s2 => o x y s2
def liftO (o : D → D → Option D) : DO2 := fun x y s => match o x y with
  | some d => .ok d s
  | none => .stuck
theorem OpD.x {f : Value → Value → Sem Value} {o : D → D → Option D} (h : OpD G X f o) : OpX G W X f (liftO o) := by
  obtain ⟨r, h1, h2⟩ := h
  intro pins sh σ H x y v u κ w s dx dy Q I rx ry ok dx' dy' q
  unfold liftO at q
  cases e : o dx dy with
  | none => rw [e] at q; exact q.elim
  | some z => rw [e] at q; exact h1 pins sh σ H x y v u Q I rx ry (h2 κ w s σ H x y dx dy z Q ok dx' dy' e q)
def orO (o o' : DO2) : DO2 := fun x y s => match o x y s with
  | .stuck => o' x y s
  | r => r
theorem OpX.or {f : Value → Value → Sem Value} {o o' : DO2} (h : OpX G W X f o) (h' : OpX G W X f o') : OpX G W X f (orO o o') := by
  intro pins sh σ H x y v u κ w s dx dy Q I rx ry ok dx' dy' q
  unfold orO at q
  cases e : o dx dy s with
  | stuck => rw [e] at q; exact h' pins sh σ H x y v u κ w s dx dy Q I rx ry ok dx' dy' q
  | exc a b => rw [e] at q; exact h pins sh σ H x y v u κ w s dx dy Q I rx ry ok dx' dy' (by rw [e]; exact q)
  | ok a b => rw [e] at q; exact h pins sh σ H x y v u κ w s dx dy Q I rx ry ok dx' dy' (by rw [e]; exact q)
theorem opX_run {o : DO2} {fa fb : DE} {a b : Expr} (ha : PD G W X a fa) (hb : PD G W X b fb) {f : Value → Value → Sem Value} (ho : OpX G W X f o) {pins : List (Addr × Obj)} {sh : Shared} {σ : L2.St} {H : Hp} {Q : VK} (I : Inv X pins σ H sh) (h : tD G W (eOpX o fa fb) σ H Q) :
    wpAny (model X.prog X.w) X.A (eval a X.env) (fun v s₁ => wpAny (model X.prog X.w) X.A (eval b X.env) (fun u s₂ => wpAny (model X.prog X.w) X.A (f v u) (EP X pins σ Q) X.xe s₂) X.xe s₁) X.xe sh := by
  obtain ⟨κ, w, s, ok, q⟩ := h
  have hh : tD G W fa σ H fun v H1 => tD G W fb σ H1 fun u H2 => ∃ d s1 w1, Ok G κ w1 s1 σ H2 ∧ ∃ d1, Rep G w1 v d1 ∧ Rep G w1 u d ∧ PostG G W (Rep G) κ w1 σ (o d1 d s1) Q :=
    ⟨κ, w, s, ok, (PostG.bind q).imp fun v H1 ⟨d, s1, w1, le, ok1, r1, q1⟩ => ⟨κ, w1, s1, ok1, (PostG.bind q1).imp fun u H2 ⟨d2, s2, w2, le2, ok2, r2, q2⟩ => ⟨d2, s2, w2, ok2, d, r1.mono le2, r2, q2⟩⟩⟩
  refine bin ha hb I (R := fun x y H2 => ∃ d s1 w1, Ok G κ w1 s1 σ H2 ∧ ∃ d1, Rep G w1 x d1 ∧ Rep G w1 y d ∧ PostG G W (Rep G) κ w1 σ (o d1 d s1) Q) hh fun v u s2 x y H2 I2 rx ry ⟨d, s1, w1, ok1, d1, r1, r2, q2⟩ => ?_
  exact ho pins s2 σ H2 x y v u κ w1 s1 d1 d Q I2 rx ry ok1 r1 r2 q2
theorem pd_opX {op : Operator} {o : DO2} {a b : Expr} {fa fb : DE} {pos : Pos} (ho : OpX G W X (binaryOp op) o) (ha : PD G W X a fa) (hb : PD G W X b fb) : PD G W X (.BinOp a op b pos) (eOpX o fa fb) :=
  ⟨fun pins s σ H Q I h => wpAny_BinOp (opX_run ha hb ho I h)⟩
theorem pd_cmpX {op : CmpOp} {o : DO2} {a b : Expr} {fa fb : DE} {pos : Pos} (ho : OpX G W X (compareOp op) o) (ha : PD G W X a fa) (hb : PD G W X b fb) (hm : behindInMarks op b = false) : PD G W X (.Compare a [op] [b] pos) (eOpX o fa fb) :=
  ⟨fun pins s σ H Q I h => wpAny_Compare1 (opX_run ha hb ho I h) hm⟩
/-! ### truth -/
def truD (d : D) : Option Bool := match d with
  | .non => some false
  | .bl b => some b
  | .int i => some (i != 0)
  | .str l => if l.length ≤ 16777216 then some ((l.length : Int) != 0) else none
  | .tup xs => some (!xs.isEmpty)
  | .lst xs => some (!xs.isEmpty)
  | .scr xs => some (!xs.isEmpty)
  | .dic xs => some (!xs.isEmpty)
  | _ => none
theorem Reps.isEmpty {w : Wd} {vs : List V} {ds : List D} (r : Reps G w vs ds) : vs.isEmpty = ds.isEmpty := by cases r <;> rfl
theorem RepK.isEmpty {w : Wd} {vs : List (Key × V)} {ds : List (DK × D)} (r : RepK G w vs ds) : vs.isEmpty = ds.isEmpty := by cases r <;> rfl
theorem nm_len (l : Nm) : (nm l).length = l.length := by simp [nm, Str.length]
theorem truV_of (hK : G.K = X.K) {κ : Bs} {w : Wd} {s : DS} {σ : L2.St} {H : Hp} {v : V} {d : D} {k : Bool} (ok : Ok G κ w s σ H) (r : Rep G w v d) (h : truD d = some k) : TruV X.K v H k := by
  cases r with
  | non => cases h; rfl
  | bl b => cases h; rfl
  | int i => cases h; rfl
  | str l =>
    have h : (if l.length ≤ 16777216 then some ((l.length : Int) != 0) else none) = some k := h
    split at h
    · rename_i c
      cases h
      exact ⟨by rw [nm_len, sizeLine_eq]; exact c, by rw [nm_len]⟩
    · cases h
  | @tup a vs ds e r => cases h; exact .inr (.inl ⟨vs, hK ▸ SqT.le e ok.fok.sub, by rw [r.isEmpty]⟩)
  | @lst a vs ds e r => cases h; exact .inl ⟨vs, .inl (.inl (ok.fok.sub _ _ e)), by rw [r.isEmpty]⟩
  | @scr a vs ds e r => cases h; exact .inl ⟨vs, hK ▸ SqL.le e ok.fok.sub, by rw [r.isEmpty]⟩
  | @dic a vs ds e r => cases h; exact .inr (.inr ⟨vs, ok.fok.sub _ _ e, by rw [r.isEmpty]⟩)
  | _ => cases h
def eTru (f : DE) : DT := fun s => (f s).bind fun d s1 => match truD d with
  | some b => .ok b s1
  | none => .stuck
theorem ptd_truth (hK : G.K = X.K) {e : Expr} {f : DE} (h : PD G W X e f) (he : ∀ whole, isTrue e X.env whole = (do let v ← whole; standAt e.pos; holding [v] (truthy v)) := by intro _; rfl) : PDT G W X e (eTru f) :=
  (pt_truth h he).imp fun σ H Q ⟨κ, w, s, ok, q⟩ => ⟨κ, w, s, ok, (PostG.bind q).imp fun v H1 ⟨d, s1, w1, le, ok1, r1, q1⟩ => by
    cases e1 : truD d with
    | none => rw [e1] at q1; exact q1.elim
    | some k => rw [e1] at q1; exact ⟨k, truV_of hK ok1 r1 e1, q1 w1 k H1 (.refl _) ok1 rfl⟩⟩
theorem ptd_cmpX {op : CmpOp} {o : DO2} {a b : Expr} {fa fb : DE} {pos : Pos} (ho : OpX G W X (compareOp op) o) (ha : PD G W X a fa) (hb : PD G W X b fb) (hm : behindInMarks op b = false) : PDT G W X (.Compare a [op] [b] pos) (eB (eOpX o fa fb)) :=
  ⟨fun pins s σ H Q I h => by
    have hh := tB_of h
    refine wpAny_isTrue_Compare1 (thn (opX_run ha hb ho I hh) fun v s1 h1 => thn h1 fun u s2 h2 => thn h2 fun c s3 ⟨x, H1, I1, r1, q1⟩ => ?_) hm
    obtain ⟨d, rfl, q⟩ := q1
    cases r1
    exact wpAny_truthy_bool ⟨H1, I1, q⟩⟩
/-- x or y, x and y by truth, as values -/
def eOrT (f g : DE) : DE := fun s => (f s).bind fun d s1 => match truD d with
  | some b => if b = true then .ok d s1 else g s1
  | none => .stuck
def eAndT (f g : DE) : DE := fun s => (f s).bind fun d s1 => match truD d with
  | some b => if b = true then g s1 else .ok d s1
  | none => .stuck
def eNotT (f : DE) : DE := fun s => (f s).bind fun d s1 => match truD d with
  | some b => .ok (.bl (!b)) s1
  | none => .stuck
theorem pd_orT (hK : G.K = X.K) {a b : Expr} {r : List Expr} {f g : DE} {pos : Pos} (h : PD G W X a f) (k : PD G W X (.BoolOp .Or (b :: r) pos) g) : PD G W X (.BoolOp .Or (a :: b :: r) pos) (eOrT f g) :=
  (pe_orT h k).imp fun σ H Q ⟨κ, w, s, ok, q⟩ => ⟨κ, w, s, ok, (PostG.bind q).imp fun v H1 ⟨d, s1, w1, le, ok1, r1, q1⟩ => by
    cases e1 : truD d with
    | none => rw [e1] at q1; exact q1.elim
    | some k =>
      rw [e1] at q1
      refine ⟨k, truV_of hK ok1 r1 e1, ?_⟩
      cases k with
      | true => exact q1 w1 v H1 (.refl _) ok1 r1
      | false => exact ⟨κ, w1, s1, ok1, q1⟩⟩
theorem pd_andT (hK : G.K = X.K) {a b : Expr} {r : List Expr} {f g : DE} {pos : Pos} (h : PD G W X a f) (k : PD G W X (.BoolOp .And (b :: r) pos) g) : PD G W X (.BoolOp .And (a :: b :: r) pos) (eAndT f g) :=
  (pe_andT h k).imp fun σ H Q ⟨κ, w, s, ok, q⟩ => ⟨κ, w, s, ok, (PostG.bind q).imp fun v H1 ⟨d, s1, w1, le, ok1, r1, q1⟩ => by
    cases e1 : truD d with
    | none => rw [e1] at q1; exact q1.elim
    | some k =>
      rw [e1] at q1
      refine ⟨k, truV_of hK ok1 r1 e1, ?_⟩
      cases k with
      | false => exact q1 w1 v H1 (.refl _) ok1 r1
      | true => exact ⟨κ, w1, s1, ok1, q1⟩⟩
theorem pd_notT (hK : G.K = X.K) {a : Expr} {f : DE} {pos : Pos} (h : PD G W X a f) : PD G W X (.UnaryOp .Not a pos) (eNotT f) :=
  (pe_notT h).imp fun σ H Q ⟨κ, w, s, ok, q⟩ => ⟨κ, w, s, ok, (PostG.bind q).imp fun v H1 ⟨d, s1, w1, le, ok1, r1, q1⟩ => by
    cases e1 : truD d with
    | none => rw [e1] at q1; exact q1.elim
    | some k => rw [e1] at q1; exact ⟨k, truV_of hK ok1 r1 e1, q1 w1 _ H1 (.refl _) ok1 (.bl _)⟩⟩
/-! ### ints -/
def dI (g : Int → Int → Option D) : D → D → Option D := fun x y => match x, y with
  | .int i, .int j => g i j
  | _, _ => none
theorem opd_I {f : Value → Value → Sem Value} {C : Int → Int → Prop} {gv : Int → Int → V} {g : Int → Int → Option D} (h : OpR X f (rI C gv)) (hg : ∀ i j d, g i j = some d → C i j ∧ ∀ w, Rep G w (gv i j) d) : OpD G X f (dI g) :=
  ⟨_, h, fun κ w s σ H x y dx dy d Q ok rx ry e q => by
    cases rx with
    | int i =>
      cases ry with
      | int j =>
        obtain ⟨c, r⟩ := hg _ _ _ e
        exact ⟨_, _, rfl, rfl, c, q w _ H (.refl _) ok (r w)⟩
      | _ => exact nomatch e
    | _ => exact nomatch e⟩
theorem opd_I0 {f : Value → Value → Sem Value} {gv : Int → Int → V} {g : Int → Int → Option D} (h : OpR X f (rI0 gv)) (hg : ∀ i j d, g i j = some d → ∀ w, Rep G w (gv i j) d) : OpD G X f (dI g) :=
  ⟨_, h, fun κ w s σ H x y dx dy d Q ok rx ry e q => by
    cases rx with
    | int i =>
      cases ry with
      | int j => exact ⟨_, _, rfl, rfl, q w _ H (.refl _) ok (hg _ _ _ e w)⟩
      | _ => exact nomatch e
    | _ => exact nomatch e⟩
/-- a bound on the bits that products may have -/
def mulOk (i j : Int) : Bool := decide (i.natAbs.log2 + j.natAbs.log2 < 100000000)
def divOk (j : Int) : Bool := decide (j ≠ 0 ∧ j.natAbs.log2 < 9000)
def iAdd : D → D → Option D := dI fun i j => some (.int (i + j))
def iSub : D → D → Option D := dI fun i j => some (.int (i - j))
def iMul : D → D → Option D := dI fun i j => if mulOk i j then some (.int (i * j)) else none
def iDiv : D → D → Option D := dI fun i j => if divOk j then some (.int (i.fdiv j)) else none
def iMod : D → D → Option D := dI fun i j => if j ≠ 0 then some (.int (i.fmod j)) else none
def iPow : D → D → Option D := dI fun i j => if 0 ≤ j ∧ j ≤ 1000000 ∧ i.natAbs < 2 ^ 64 then some (.int (i ^ j.toNat)) else none
def iShl : D → D → Option D := dI fun i j => if 0 ≤ j ∧ j ≤ 1000000 ∧ i.natAbs < 2 ^ 64 then some (.int (i * 2 ^ j.toNat)) else none
def iLt : D → D → Option D := dI fun i j => some (.bl (decide (i < j)))
def iLe : D → D → Option D := dI fun i j => some (.bl (decide (i ≤ j)))
def iGt : D → D → Option D := dI fun i j => some (.bl (decide (j < i)))
def iGe : D → D → Option D := dI fun i j => some (.bl (decide (j ≤ i)))
theorem opd_add : OpD G X (binaryOp .Add) iAdd := opd_I0 op_add fun i j d e w => by cases e; exact .int _
theorem opd_sub : OpD G X (binaryOp .Sub) iSub := opd_I0 op_sub fun i j d e w => by cases e; exact .int _
def CMulX (i j : Int) : Prop := i.natAbs.log2 + j.natAbs.log2 < 100000000
theorem CMulX.ok {i j : Int} (h : CMulX i j) : IntMulOk i j := by
  have b : ∀ x : Int, Builtin.Int.intBits x ≤ x.natAbs.log2 + 1 := fun x => by
    unfold Builtin.Int.intBits
    split <;> omega
  have h1 := b i
  have h2 := b j
  have h3 : i.natAbs.log2 + j.natAbs.log2 < 100000000 := h
  have e : bitsLine = 134217728 := by decide
  unfold IntMulOk
  intro z
  rw [Bool.and_eq_true] at z
  have z2 := z.2
  unfold Builtin.Int.intTooBig at z2
  have z3 := of_decide_eq_true z2
  rw [e] at z3
  omega
theorem op_mulX : OpR X (binaryOp .Mult) (rI CMulX fun i j => .int (i * j)) := opI fun _ _ _ _ _ _ _ hc q => mul_int q hc.ok
theorem opd_mul : OpD G X (binaryOp .Mult) iMul := opd_I op_mulX fun i j d e => by
  split at e
  · rename_i h
    cases e
    have h : decide (i.natAbs.log2 + j.natAbs.log2 < 100000000) = true := h
    exact ⟨(of_decide_eq_true h : i.natAbs.log2 + j.natAbs.log2 < 100000000), fun w => .int _⟩
  · cases e
theorem op_fdivX : OpR X (binaryOp .FloorDiv) (rI (fun _ j => j ≠ 0 ∧ j.natAbs.log2 < 9000) fun i j => .int (i.fdiv j)) := opI fun _ _ _ _ _ _ _ hc q => floordiv_int hc.1 q (.inl (PyProof.noPylong_of_log2 hc.2))
theorem opd_div : OpD G X (binaryOp .FloorDiv) iDiv := opd_I op_fdivX fun i j d e => by
  split at e
  · rename_i h
    cases e
    exact ⟨of_decide_eq_true h, fun w => .int _⟩
  · cases e
theorem opd_mod : OpD G X (binaryOp .Mod) iMod := opd_I op_modN fun i j d e => by
  split at e
  · rename_i h
    cases e
    exact ⟨h, fun w => .int _⟩
  · cases e
theorem opd_pow : OpD G X (binaryOp .Pow) iPow := opd_I op_pow fun i j d e => by
  split at e
  · rename_i h
    cases e
    exact ⟨h, fun w => .int _⟩
  · cases e
theorem opd_shl : OpD G X (binaryOp .LShift) iShl := opd_I op_shl fun i j d e => by
  split at e
  · rename_i h
    cases e
    exact ⟨h, fun w => .int _⟩
  · cases e
theorem opd_lt : OpD G X (compareOp .Lt) iLt := opd_I0 op_lt fun i j d e w => by cases e; exact .bl _
theorem opd_le : OpD G X (compareOp .LtE) iLe := opd_I0 op_le fun i j d e w => by cases e; exact .bl _
theorem opd_gt : OpD G X (compareOp .Gt) iGt := opd_I0 op_gt fun i j d e w => by cases e; exact .bl _
theorem opd_ge : OpD G X (compareOp .GtE) iGe := opd_I0 op_ge fun i j d e w => by cases e; exact .bl _
def eNeg (f : DE) : DE := fun s => (f s).bind fun d s1 => match d with
  | .int i => .ok (.int (-i)) s1
  | _ => .stuck
theorem pd_neg {a : Expr} {f : DE} {pos : Pos} (h : PD G W X a f) : PD G W X (.UnaryOp .USub a pos) (eNeg f) :=
  (pe_un un_neg h).imp fun σ H Q ⟨κ, w, s, ok, q⟩ => ⟨κ, w, s, ok, (PostG.bind q).imp fun v H1 ⟨d, s1, w1, le, ok1, r1, q1⟩ => by
    cases r1 with
    | int i => exact ⟨i, rfl, q1 w1 _ H1 (.refl _) ok1 (.int _)⟩
    | _ => exact q1.elim⟩
/-! ### sequences: +, * -/
def sAdd : D → D → Option D := fun x y => match x, y with
  | .str a, .str b => if a.length + b.length ≤ 1000000 then some (.str (a ++ b)) else none
  | .tup a, .tup b => if a ≠ [] ∧ b ≠ [] ∧ a.length + b.length ≤ 1000000 then some (.tup (a ++ b)) else none
  | _, _ => none
theorem nm_append (a b : Nm) : nm a ++ nm b = nm (a ++ b) := by
  show Str.mk _ = _
  simp [nm]
theorem opd_sadd (hK : G.K = X.K) : OpD G X (binaryOp .Add) sAdd := ⟨_, op_add_str.or op_catT, fun κ w s σ H x y dx dy d Q ok rx ry e q => by
  cases rx with
  | str a =>
    cases ry with
    | str b =>
      left
      have e : (if a.length + b.length ≤ 1000000 then some (D.str (a ++ b)) else none) = some d := e
      split at e
      · rename_i c
        cases e
        refine ⟨nm a, nm b, rfl, rfl, by rw [nm_len, nm_len, sizeLine_eq]; omega, ?_⟩
        rw [nm_append]
        exact q w _ H (.refl _) ok (.str _)
      · cases e
    | _ => exact nomatch e
  | @tup a vs ds e1 r1 =>
    cases ry with
    | @tup a2 vs2 ds2 e2 r2 =>
      right
      have e : (if ds ≠ [] ∧ ds2 ≠ [] ∧ ds.length + ds2.length ≤ 1000000 then some (D.tup (ds ++ ds2)) else none) = some d := e
      split at e
      · rename_i c
        cases e
        have n1 : vs ≠ [] := fun z => c.1 (by subst z; cases r1; rfl)
        have n2 : vs2 ≠ [] := fun z => c.2.1 (by subst z; cases r2; rfl)
        refine ⟨a, a2, vs, vs2, rfl, rfl, hK ▸ SqT.le e1 ok.fok.sub, hK ▸ SqT.le e2 ok.fok.sub, n1, by rw [r1.length, r2.length, sizeLine_eq]; omega, ?_⟩
        first
          | exact ⟨fun z => absurd z n2, fun p hp => by
              obtain ⟨le2, ok2⟩ := ok.alloc hp (.tup (vs ++ vs2))
              exact q _ _ _ le2 ok2 (.tup (.inl (.inl upd_same)) ((r1.append r2).mono le2))⟩
          | exact ⟨fun z => absurd z n2, fun _ p hp => by
              obtain ⟨le2, ok2⟩ := ok.alloc hp (.tup (vs ++ vs2))
              exact q _ _ _ le2 ok2 (.tup (.inl (.inl upd_same)) ((r1.append r2).mono le2))⟩
      · cases e
    | _ => exact nomatch e
  | _ => exact nomatch e⟩
/-- a + b of lists: a new list -/
def aCat (fa fb : DE) : DA := fun s => (fa s).bind fun x s1 => (fb s1).bind fun y s2 => match x, y with
  | .lst a, .lst b => if a.length + b.length ≤ 1000000 then .ok (a ++ b) s2 else .stuck
  | _, _ => .stuck
theorem pdo_cat {a b : Expr} {fa fb : DE} {pos : Pos} (ha : PD G W X a fa) (hb : PD G W X b fb) : PDo G W X (.BinOp a .Add b pos) (aCat fa fb) :=
  (pe_op op_cat ha hb).imp fun σ H Q ⟨κ, w, s, ok, q⟩ => ⟨κ, w, s, ok, (PostG.bindO q).imp fun v H1 ⟨d, s1, w1, le, ok1, r1, q1⟩ => ⟨κ, w1, s1, ok1, (PostG.bindO q1).imp fun v2 H2 ⟨d2, s2, w2, le2, ok2, r2, q2⟩ => by
    cases r1 with
    | @lst p vs ds e1 r1 =>
      cases r2 with
      | @lst p2 vs2 ds2 e2 r2 =>
        replace q2 : PostO G W κ w2 σ (if ds.length + ds2.length ≤ 1000000 then .ok (ds ++ ds2) s2 else .stuck) Q := q2
        split at q2
        · refine ⟨p, p2, vs, vs2, rfl, rfl, ok2.fok.sub _ _ (le2.f _ _ e1), ok2.fok.sub _ _ e2, by rw [r1.length, r2.length, sizeLine_eq]; omega, fun p hp => ?_⟩
          exact q2 w2 p _ _ (.refl _) (ok2.fresh hp _) (ok2.apart hp) ((r1.mono le2).append r2)
        · exact q2.elim
      | _ => exact q2.elim
    | _ => exact q2.elim⟩⟩
/-- list * int: a new list -/
def aRep (fa fb : DE) : DA := fun s => (fa s).bind fun x s1 => (fb s1).bind fun y s2 => match x, y with
  | .lst a, .int k => if -(2 ^ 63) ≤ k ∧ k < 2 ^ 63 ∧ a.length * k.toNat ≤ 1000000 then .ok (List.replicate k.toNat a).flatten s2 else .stuck
  | _, _ => .stuck
theorem Reps.rep {w : Wd} {vs : List V} {ds : List D} (r : Reps G w vs ds) : ∀ k : Nat, Reps G w (List.replicate k vs).flatten (List.replicate k ds).flatten
  | 0 => .nil
  | k + 1 => by
    rw [List.replicate_succ, List.replicate_succ, List.flatten_cons, List.flatten_cons]
    exact r.append (Reps.rep r k)
/-! ### subscripts -/
def ixD (d : D) (i : Int) : Option D := match d with
  | .tup xs => atI xs i
  | .lst xs => atI xs i
  | .scr xs => atI xs i
  | .str l => if l.length ≤ 16777216 then (atI l i).map fun c => .str [c] else none
  | _ => none
def eIx (fa fb : DE) : DE := fun s => (fa s).bind fun x s1 => (fb s1).bind fun y s2 => match y with
  | .int i => match ixD x i with
    | some d => .ok d s2
    | none => .stuck
  | _ => .stuck
theorem Reps.atI {w : Wd} {vs : List V} {ds : List D} {i : Int} {d : D} (r : Reps G w vs ds) (h : L2.atI ds i = some d) : ∃ v, L2.atI vs i = some v ∧ Rep G w v d := by
  unfold L2.atI at h ⊢
  rw [r.length]
  cases e : ixN ds.length i with
  | none => rw [e] at h; cases h
  | some j =>
    rw [e] at h
    obtain ⟨v, h1, h2⟩ := r.get (i := j) h
    exact ⟨v, h1, h2⟩
theorem pd_ix (hK : G.K = X.K) {a b : Expr} {fa fb : DE} {pos : Pos} (ha : PD G W X a fa) (hb : PD G W X b fb) (hs : PlainIx b) : PD G W X (.Subscript a b pos) (eIx fa fb) :=
  (pe_ix ix_seq ha hb hs).imp fun σ H Q ⟨κ, w, s, ok, q⟩ => ⟨κ, w, s, ok, (PostG.bind q).imp fun v H1 ⟨d, s1, w1, le, ok1, r1, q1⟩ => ⟨κ, w1, s1, ok1, (PostG.bind q1).imp fun v2 H2 ⟨d2, s2, w2, le2, ok2, r2, q2⟩ => by
    cases r2 with
    | int i =>
      replace q2 : PostG G W (Rep G) κ w2 σ (match ixD d i with | some d => .ok d s2 | none => .stuck) Q := q2
      cases e : ixD d i with
      | none => rw [e] at q2; exact q2.elim
      | some z =>
        rw [e] at q2
        cases r1 with
        | @tup p vs ds e1 r1 =>
          obtain ⟨y, h1, h2⟩ := Reps.atI r1 e
          exact .inr (.inl ⟨p, vs, i, y, rfl, rfl, hK ▸ SqT.le (SqT.le e1 le2.f) ok2.fok.sub, h1, q2 w2 y H2 (.refl _) ok2 (h2.mono le2)⟩)
        | @lst p vs ds e1 r1 =>
          obtain ⟨y, h1, h2⟩ := Reps.atI r1 e
          exact .inl ⟨p, vs, i, y, rfl, rfl, .inl (.inl (ok2.fok.sub _ _ (le2.f _ _ e1))), h1, q2 w2 y H2 (.refl _) ok2 (h2.mono le2)⟩
        | @scr p vs ds e1 r1 =>
          obtain ⟨y, h1, h2⟩ := Reps.atI r1 e
          exact .inl ⟨p, vs, i, y, rfl, rfl, hK ▸ SqL.le (SqL.le e1 le2.f) ok2.fok.sub, h1, q2 w2 y H2 (.refl _) ok2 (h2.mono le2)⟩
        | str l =>
          have e : (if l.length ≤ 16777216 then (L2.atI l i).map fun c => D.str [c] else none) = some z := e
          split at e
          · rename_i hl
            cases e3 : L2.atI l i with
            | none => simp [e3] at e
            | some c =>
              simp only [e3, Option.map_some, Option.some.injEq] at e
              subst e
              refine .inr (.inr ⟨nm l, i, c, rfl, rfl, by rw [nm_len, sizeLine_eq]; exact hl, by simpa [nm] using e3, ?_⟩)
              exact q2 w2 _ H2 (.refl _) ok2 (.str [c])
          · cases e
        | _ => exact nomatch e
    | _ => exact q2.elim⟩⟩
end
end DL
set_option maxRecDepth 100000
set_option maxHeartbeats 4000000
set_option autoImplicit false
namespace DL
open PySem PySem.Spec PyProof.Rows L2
section
variable {G : Gam} {W : WX} {X : Cx}
/-! ### built-ins by name -/
def CallD (G : Gam) (X : Cx) (f : Value) (o : List D → Option D) : Prop := ∃ r, CallR X f r ∧ ∀ (κ : Bs) (w : Wd) (s : DS) (σ : L2.St) (H : Hp) (vs : List V) (ds : List D) (d : D) (Q : VK),
  Ok G κ w s σ H → Reps G w vs ds → o ds = some d → (∀ w' v H', w.le w' → Ok G κ w' s σ H' → Rep G w' v d → Q v H') → r vs H Q
def eCB (o : List D → Option D) (fa : DA) : DE := fun s => (fa s).bind fun ds s1 => match o ds with
  | some d => .ok d s1
  | none => .stuck
theorem cb_of {o : List D → Option D} {r : List V → Hp → VK → Prop} {fa : DA} {σ : L2.St} {H : Hp} {Q : VK} (h2 : ∀ (κ : Bs) (w : Wd) (s : DS) (σ : L2.St) (H : Hp) (vs : List V) (ds : List D) (d : D) (Q : VK),
    Ok G κ w s σ H → Reps G w vs ds → o ds = some d → (∀ w' v H', w.le w' → Ok G κ w' s σ H' → Rep G w' v d → Q v H') → r vs H Q) (h : tD G W (eCB o fa) σ H Q) : tCB r (tDA G W fa) σ H Q := by
  obtain ⟨κ, w, s, ok, q⟩ := h
  refine ⟨κ, w, s, ok, (PostG.bind q).imp fun v H1 ⟨d, s1, w1, le, ok1, r1, q1⟩ => ?_⟩
  cases e : o d with
  | none => rw [e] at q1; exact q1.elim
  | some z => rw [e] at q1; exact h2 κ w1 s1 σ H1 v d z Q ok1 r1 e q1
theorem pd_callB {x : Str} {id : String} {p pos : Pos} {e : Expr} {es : List Expr} {fa : DA} {o : List D → Option D} (hc : CallD G X (.builtin id) o) (hg : Gl X x) (hm : X.mg x = none) (hv : bootBuiltins x = some (.builtin id)) (ha : PDA G W X (e :: es) fa) (hn : x ≠ "__name__" := by decide)
    (hdb : (x == ("__debug__" : Str)) = false := by decide) (he : starEach (e :: es) X.env = (false, eval e X.env) :: starEach es X.env := by rfl) (hpl : (backTo pos (starEach es X.env)).any (·.1) = false := by rfl) : PD G W X (.Call (.Name x p) (e :: es) [] pos) (eCB o fa) := by
  obtain ⟨r, h1, h2⟩ := hc
  exact (pe_callB h1 hg hm hv ha hn hdb he hpl).imp fun σ H Q h => cb_of h2 h
theorem pd_callTy {x : Str} {T : String} {p pos : Pos} {e : Expr} {es : List Expr} {fa : DA} {o : List D → Option D} (hc : CallD G X (.type T) o) (hg : Gl X x) (hm : X.mg x = none) (hv : bootBuiltins x = some (.type T)) (ha : PDA G W X (e :: es) fa) (hn : x ≠ "__name__" := by decide)
    (hdb : (x == ("__debug__" : Str)) = false := by decide) (he : starEach (e :: es) X.env = (false, eval e X.env) :: starEach es X.env := by rfl) (hpl : (backTo pos (starEach es X.env)).any (·.1) = false := by rfl) : PD G W X (.Call (.Name x p) (e :: es) [] pos) (eCB o fa) := by
  obtain ⟨r, h1, h2⟩ := hc
  exact (pe_callTy h1 hg hm hv ha hn hdb he hpl).imp fun σ H Q h => cb_of h2 h
theorem Reps.one {w : Wd} {vs : List V} {d : D} (r : Reps G w vs [d]) : ∃ v, vs = [v] ∧ Rep G w v d := by
  cases r with
  | cons a b => cases b; exact ⟨_, rfl, a⟩
theorem Reps.two {w : Wd} {vs : List V} {d d' : D} (r : Reps G w vs [d, d']) : ∃ v v', vs = [v, v'] ∧ Rep G w v d ∧ Rep G w v' d' := by
  cases r with
  | cons a b =>
    cases b with
    | cons a2 b2 => cases b2; exact ⟨_, _, rfl, a, a2⟩
def bLen : List D → Option D
  | [.tup xs] => some (.int xs.length)
  | [.lst xs] => some (.int xs.length)
  | [.scr xs] => some (.int xs.length)
  | [.str l] => if l.length ≤ 16777216 then some (.int l.length) else none
  | _ => none
theorem cd_len (hK : G.K = X.K) : CallD G X (.builtin "len") bLen := ⟨_, call_len, fun κ w s σ H vs ds d Q ok rs e q => by
  match ds, e with
  | [.tup xs], e =>
    cases e
    obtain ⟨v, rfl, r⟩ := rs.one
    cases r with
    | @tup a vs ds e r => exact ⟨_, _, rfl, .inr ⟨vs, hK ▸ SqT.le e ok.fok.sub, rfl⟩, by rw [r.length]; exact q w _ H (.refl _) ok (.int _)⟩
  | [.lst xs], e =>
    cases e
    obtain ⟨v, rfl, r⟩ := rs.one
    cases r with
    | @lst a vs ds e r => exact ⟨_, _, rfl, .inl ⟨vs, .inl (.inl (ok.fok.sub _ _ e)), rfl⟩, by rw [r.length]; exact q w _ H (.refl _) ok (.int _)⟩
  | [.scr xs], e =>
    cases e
    obtain ⟨v, rfl, r⟩ := rs.one
    cases r with
    | @scr a vs ds e r => exact ⟨_, _, rfl, .inl ⟨vs, hK ▸ SqL.le e ok.fok.sub, rfl⟩, by rw [r.length]; exact q w _ H (.refl _) ok (.int _)⟩
  | [.str l], e =>
    have e : (if l.length ≤ 16777216 then some (D.int l.length) else none) = some d := e
    split at e
    · rename_i c
      cases e
      obtain ⟨v, rfl, r⟩ := rs.one
      cases r
      exact ⟨_, _, rfl, ⟨by rw [nm_len, sizeLine_eq]; exact c, rfl⟩, by rw [nm_len]; exact q w _ H (.refl _) ok (.int _)⟩
    · cases e⟩
def bInt : List D → Option D
  | [.int i] => some (.int i)
  | [.bl b] => some (.int (if b then 1 else 0))
  | _ => none
theorem cd_int : CallD G X (.type "int") bInt := ⟨_, call_int1, fun κ w s σ H vs ds d Q ok rs e q => by
  match ds, e with
  | [.int i], e =>
    cases e
    obtain ⟨v, rfl, r⟩ := rs.one
    cases r
    exact .inl ⟨i, rfl, q w _ H (.refl _) ok (.int _)⟩
  | [.bl b], e =>
    cases e
    obtain ⟨v, rfl, r⟩ := rs.one
    cases r
    exact .inr ⟨b, rfl, q w _ H (.refl _) ok (.int _)⟩⟩
def bAbs : List D → Option D
  | [.int i] => some (.int (if i < 0 then -i else i))
  | _ => none
theorem cd_abs : CallD G X (.builtin "abs") bAbs := ⟨_, call_abs, fun κ w s σ H vs ds d Q ok rs e q => by
  match ds, e with
  | [.int i], e =>
    cases e
    obtain ⟨v, rfl, r⟩ := rs.one
    cases r
    exact ⟨i, rfl, q w _ H (.refl _) ok (.int _)⟩⟩
def bMax2 : List D → Option D
  | [.int i, .int j] => some (.int (if j > i then j else i))
  | _ => none
def bMin2 : List D → Option D
  | [.int i, .int j] => some (.int (if j < i then j else i))
  | _ => none
theorem cd_max2 (hc : X.calm = true) : CallD G X (.builtin "max") bMax2 := ⟨_, call_max2 hc, fun κ w s σ H vs ds d Q ok rs e q => by
  match ds, e with
  | [.int i, .int j], e =>
    cases e
    obtain ⟨v, v', rfl, r, r'⟩ := rs.two
    cases r
    cases r'
    exact ⟨i, j, rfl, q w _ H (.refl _) ok (.int _)⟩⟩
theorem cd_min2 (hc : X.calm = true) : CallD G X (.builtin "min") bMin2 := ⟨_, call_min2 hc, fun κ w s σ H vs ds d Q ok rs e q => by
  match ds, e with
  | [.int i, .int j], e =>
    cases e
    obtain ⟨v, v', rfl, r, r'⟩ := rs.two
    cases r
    cases r'
    exact ⟨i, j, rfl, q w _ H (.refl _) ok (.int _)⟩⟩
def intsOf : List D → Option (List Int)
  | [] => some []
  | .int i :: r => (intsOf r).map (i :: ·)
  | _ => none
theorem intsOf_eq : ∀ {ds : List D} {ns : List Int}, intsOf ds = some ns → ds = ns.map D.int
  | [], ns, e => by cases e; rfl
  | .int i :: r, ns, e => by
    unfold intsOf at e
    cases q : intsOf r with
    | none => rw [q] at e; cases e
    | some ms =>
      rw [q] at e
      cases e
      rw [intsOf_eq q]
      rfl
  | .non :: _, _, e => nomatch e
  | .bl _ :: _, _, e => nomatch e
  | .str _ :: _, _, e => nomatch e
  | .tup _ :: _, _, e => nomatch e
  | .lst _ :: _, _, e => nomatch e
  | .scr _ :: _, _, e => nomatch e
  | .dic _ :: _, _, e => nomatch e
  | .ins _ _ :: _, _, e => nomatch e
  | .cell _ :: _, _, e => nomatch e
  | .cls _ :: _, _, e => nomatch e
  | .ty _ :: _, _, e => nomatch e
  | .fn _ :: _, _, e => nomatch e
def blsOf : List D → Option (List Bool)
  | [] => some []
  | .bl i :: r => (blsOf r).map (i :: ·)
  | _ => none
theorem blsOf_eq : ∀ {ds : List D} {ns : List Bool}, blsOf ds = some ns → ds = ns.map D.bl
  | [], ns, e => by cases e; rfl
  | .bl i :: r, ns, e => by
    unfold blsOf at e
    cases q : blsOf r with
    | none => rw [q] at e; cases e
    | some ms =>
      rw [q] at e
      cases e
      rw [blsOf_eq q]
      rfl
  | .non :: _, _, e => nomatch e
  | .int _ :: _, _, e => nomatch e
  | .str _ :: _, _, e => nomatch e
  | .tup _ :: _, _, e => nomatch e
  | .lst _ :: _, _, e => nomatch e
  | .scr _ :: _, _, e => nomatch e
  | .dic _ :: _, _, e => nomatch e
  | .ins _ _ :: _, _, e => nomatch e
  | .cell _ :: _, _, e => nomatch e
  | .cls _ :: _, _, e => nomatch e
  | .ty _ :: _, _, e => nomatch e
  | .fn _ :: _, _, e => nomatch e
theorem Reps.bls {w : Wd} : ∀ {v : List V} {ns : List Bool}, Reps G w v (ns.map D.bl) → v = ns.map V.bl
  | _, [], h => by cases h; rfl
  | _, n :: ns, h => by
    cases h with
    | cons a b => cases a; rw [Reps.bls b]; rfl
def bSum : List D → Option D
  | [.lst xs] => (intsOf xs).map fun ns => .int ns.sum
  | _ => none
theorem cd_sum (hc : X.calm = true) : CallD G X (.builtin "sum") bSum := ⟨_, cr_sum hc, fun κ w s σ H vs ds d Q ok rs e q => by
  match ds, e with
  | [.lst xs], e =>
    have e : (intsOf xs).map (fun ns => D.int ns.sum) = some d := e
    cases e1 : intsOf xs with
    | none => rw [e1] at e; cases e
    | some ns =>
      rw [e1] at e
      cases e
      obtain ⟨v, rfl, r⟩ := rs.one
      cases r with
      | @lst a vs ds e r =>
        rw [intsOf_eq e1] at r
        rw [r.ints] at e
        exact ⟨a, ns, rfl, .inl (.inl (ok.fok.sub _ _ e)), q w _ H (.refl _) ok (.int _)⟩⟩
def bAll : List D → Option D
  | [.lst xs] => (blsOf xs).map fun ns => .bl (ns.all id)
  | _ => none
def bAny : List D → Option D
  | [.lst xs] => (blsOf xs).map fun ns => .bl (ns.any id)
  | _ => none
theorem cd_all (hc : X.calm = true) : CallD G X (.builtin "all") bAll := ⟨_, cr_all hc, fun κ w s σ H vs ds d Q ok rs e q => by
  match ds, e with
  | [.lst xs], e =>
    have e : (blsOf xs).map (fun ns => D.bl (ns.all id)) = some d := e
    cases e1 : blsOf xs with
    | none => rw [e1] at e; cases e
    | some ns =>
      rw [e1] at e
      cases e
      obtain ⟨v, rfl, r⟩ := rs.one
      cases r with
      | @lst a vs ds e r =>
        rw [blsOf_eq e1] at r
        rw [r.bls] at e
        exact ⟨a, ns, rfl, .inl (.inl (ok.fok.sub _ _ e)), q w _ H (.refl _) ok (.bl _)⟩⟩
theorem cd_any (hc : X.calm = true) : CallD G X (.builtin "any") bAny := ⟨_, cr_any hc, fun κ w s σ H vs ds d Q ok rs e q => by
  match ds, e with
  | [.lst xs], e =>
    have e : (blsOf xs).map (fun ns => D.bl (ns.any id)) = some d := e
    cases e1 : blsOf xs with
    | none => rw [e1] at e; cases e
    | some ns =>
      rw [e1] at e
      cases e
      obtain ⟨v, rfl, r⟩ := rs.one
      cases r with
      | @lst a vs ds e r =>
        rw [blsOf_eq e1] at r
        rw [r.bls] at e
        exact ⟨a, ns, rfl, .inl (.inl (ok.fok.sub _ _ e)), q w _ H (.refl _) ok (.bl _)⟩⟩
/-- tuple(x) -/
def bTup : List D → Option D
  | [.tup xs] => some (.tup xs)
  | [.lst xs] => some (.tup xs)
  | _ => none
theorem cd_tup (hK : G.K = X.K) : CallD G X (.type "tuple") bTup := ⟨_, call_tuple_of, fun κ w s σ H vs ds d Q ok rs e q => by
  match ds, e with
  | [.tup xs], e =>
    cases e
    obtain ⟨v, rfl, r⟩ := rs.one
    cases r with
    | @tup a vs ds e r => exact ⟨a, vs, rfl, .inr ⟨hK ▸ SqT.le e ok.fok.sub, q w _ H (.refl _) ok (.tup e r)⟩⟩
  | [.lst xs], e =>
    cases e
    obtain ⟨v, rfl, r⟩ := rs.one
    cases r with
    | @lst a vs ds e r => exact ⟨a, vs, rfl, .inl ⟨.inl (.inl (ok.fok.sub _ _ e)), fun l hl => by
        obtain ⟨le2, ok2⟩ := ok.alloc hl (.tup vs)
        exact q _ _ _ le2 ok2 (.tup (.inl (.inl upd_same)) (r.mono le2))⟩⟩⟩
/-- list(x): a new list -/
def seqD (d : D) : Option (List D) := match d with
  | .tup xs => some xs
  | .lst xs => some xs
  | .scr xs => some xs
  | _ => none
def aList (fa : DA) : DA := fun s => (fa s).bind fun ds s1 => match ds with
  | [d] => match seqD d with
    | some xs => .ok xs s1
    | none => .stuck
  | _ => .stuck
theorem Rep.seq (hK : G.K = X.K) {κ : Bs} {w : Wd} {s : DS} {σ : L2.St} {H : Hp} {v : V} {d : D} {xs : List D} (ok : Ok G κ w s σ H) (r : Rep G w v d) (h : seqD d = some xs) : ∃ a vs, v = .ref a ∧ (SqL X.K H a vs ∨ SqT X.K H a vs) ∧ Reps G w vs xs := by
  cases r with
  | @tup a vs ds e r => cases h; exact ⟨a, vs, rfl, .inr (hK ▸ SqT.le e ok.fok.sub), r⟩
  | @lst a vs ds e r => cases h; exact ⟨a, vs, rfl, .inl (.inl (.inl (ok.fok.sub _ _ e))), r⟩
  | @scr a vs ds e r => cases h; exact ⟨a, vs, rfl, .inl (hK ▸ SqL.le e ok.fok.sub), r⟩
  | _ => exact nomatch h
theorem pdo_list (hK : G.K = X.K) {x : Str} {p pos : Pos} {e : Expr} {fa : DA} (hg : Gl X x) (hm : X.mg x = none) (hv : bootBuiltins x = some (.type "list")) (ha : PDA G W X [e] fa) (hn : x ≠ "__name__" := by decide) (hdb : (x == ("__debug__" : Str)) = false := by decide)
    (he : starEach [e] X.env = (false, eval e X.env) :: starEach [] X.env := by rfl) (hpl : (backTo pos (starEach [] X.env)).any (·.1) = false := by rfl) : PDo G W X (.Call (.Name x p) [e] [] pos) (aList fa) :=
  (pe_callTy call_list_of hg hm hv ha hn hdb he hpl).imp fun σ H Q ⟨κ, w, s, ok, q⟩ => ⟨κ, w, s, ok, (PostG.bindO q).imp fun v H1 ⟨d, s1, w1, le, ok1, r1, q1⟩ => by
    match d, q1 with
    | [d], q1 =>
      replace q1 : PostO G W κ w1 σ (match seqD d with | some xs => .ok xs s1 | none => .stuck) Q := q1
      cases e1 : seqD d with
      | none => rw [e1] at q1; exact q1.elim
      | some xs =>
        rw [e1] at q1
        obtain ⟨v, rfl, r⟩ := r1.one
        obtain ⟨a, vs, rfl, h1, h2⟩ := r.seq hK ok1 e1
        exact ⟨a, vs, rfl, h1, fun l hl => q1 w1 l vs _ (.refl _) (ok1.fresh hl _) (ok1.apart hl) h2⟩⟩
/-! ### slices -/
abbrev DOp := DS → Res DS (Option Int)
def oNone : DOp := fun s => .ok none s
def oSome (f : DE) : DOp := fun s => (f s).bind fun d s1 => match d with
  | .int i => .ok (some i) s1
  | _ => .stuck
def tDO (G : Gam) (W : WX) (f : DOp) : TO := fun σ H Q => ∃ κ w s, Ok G κ w s σ H ∧ PostG G W (fun _ (v : Option Int) d => v = d) κ w σ (f s) Q
theorem _root_.L2.PO.imp {X : Cx} {e : Option Expr} {t t' : TO} (h : PO X e t) (k : ∀ σ H Q, t' σ H Q → t σ H Q) : PO X e t' := ⟨by
  first
    | exact fun pins s σ H Q I q => h.run pins s σ H Q I (k σ H Q q)
    | exact fun a pins s σ H Q I q => h.run a pins s σ H Q I (k σ H Q q)⟩
theorem pdo_none : PO X none (tDO G W oNone) := po_none.imp fun σ H Q ⟨κ, w, s, ok, q⟩ => q w none H (.refl _) ok rfl
theorem pdo_some {e : Expr} {f : DE} (h : PD G W X e f) : PO X (some e) (tDO G W (oSome f)) := (po_some h).imp fun σ H Q ⟨κ, w, s, ok, q⟩ => ⟨κ, w, s, ok, (PostG.bind q).imp fun v H1 ⟨d, s1, w1, le, ok1, r1, q1⟩ => by
  cases r1 with
  | int i => exact ⟨i, rfl, q1 w1 _ H1 (.refl _) ok1 rfl⟩
  | _ => exact q1.elim⟩
def cutD {α : Type} (xs : List α) (lo hi : Option Int) : List α := (xs.drop (HT.sIx xs.length 0 lo)).take (HT.sIx xs.length xs.length hi - HT.sIx xs.length 0 lo)
theorem Reps.cut {w : Wd} {vs : List V} {ds : List D} (r : Reps G w vs ds) (lo hi : Option Int) : Reps G w (cutV vs lo hi) (cutD ds lo hi) := by
  unfold cutV cutD
  rw [r.length]
  exact (r.drop _).take _
/-- a slice of a list: a new list -/
def aSl (f : DE) (l h : DOp) : DA := fun s => (f s).bind fun d s1 => (l s1).bind fun lo s2 => (h s2).bind fun hi s3 => match d with
  | .lst xs => .ok (cutD xs lo hi) s3
  | .scr xs => .ok (cutD xs lo hi) s3
  | _ => .stuck
theorem pdo_slice (hK : G.K = X.K) {e : Expr} {lo hi : Option Expr} {f : DE} {l h : DOp} {p2 pos : Pos} (he : PD G W X e f) (hl : PO X lo (tDO G W l)) (hh : PO X hi (tDO G W h)) : PDo G W X (.Subscript e (.Slice lo hi none p2) pos) (aSl f l h) :=
  (pe_slice sl_list he hl hh).imp fun σ H Q ⟨κ, w, s, ok, q⟩ => ⟨κ, w, s, ok, (PostG.bindO q).imp fun v H1 ⟨d, s1, w1, le, ok1, r1, q1⟩ => ⟨κ, w1, s1, ok1, (PostG.bindO q1).imp fun v2 H2 ⟨d2, s2, w2, le2, ok2, r2, q2⟩ =>
    ⟨κ, w2, s2, ok2, (PostG.bindO q2).imp fun v3 H3 ⟨d3, s3, w3, le3, ok3, r3, q3⟩ => by
      subst r2
      subst r3
      cases r1 with
      | @lst a vs ds e r =>
        have e := le3.f _ _ (le2.f _ _ e)
        exact ⟨a, vs, rfl, .inl (.inl (ok3.fok.sub _ _ e)), fun p hp => q3 w3 p _ _ (.refl _) (ok3.fresh hp _) (ok3.apart hp) (((r.mono le2).mono le3).cut _ _)⟩
      | @scr a vs ds e r =>
        exact ⟨a, vs, rfl, hK ▸ SqL.le (SqL.le (SqL.le e le2.f) le3.f) ok3.fok.sub, fun p hp => q3 w3 p _ _ (.refl _) (ok3.fresh hp _) (ok3.apart hp) (((r.mono le2).mono le3).cut _ _)⟩
      | _ => exact q3.elim⟩⟩⟩
/-! ### isinstance -/
def tyD (d : D) : Option String := match d with
  | .non => some "NoneType"
  | .bl _ => some "bool"
  | .int _ => some "int"
  | .str _ => some "str"
  | .tup _ => some "tuple"
  | .lst _ => some "list"
  | .scr _ => some "list"
  | .dic _ => some "dict"
  | _ => none
def tyNames : List String := ["NoneType", "bool", "int", "str", "tuple", "list", "dict"]
def isTy (a b : String) : Bool := a == b || (a == "bool" && b == "int")
theorem isTy_ok : ∀ a ∈ tyNames, ∀ b ∈ tyNames, kitB a b = some (isTy a b) := by decide +kernel
/-- what of the text isinstance asks of the own classes -/
structure IsOk (G : Gam) (cs : List String) : Prop where
  cl : ∀ c ∈ cs, ∀ C, G.ct c = some C → Cls G.K C ∧ PySem.W.findIn G.K (.ref C) "__class__" = some (some (.builtin "object.__class__")) ∧ PySem.W.specialIn G.K (.builtin "object.__class__") "__get__" = some (some (.builtin "getset_descriptor.__get__")) ∧
    PySem.W.takesIn G.K (.builtin "object.__class__") = some true ∧ PySem.W.mroIn G.K C (.type "object") = some true
  bo : ∀ c ∈ cs, ∀ C, G.ct c = some C → ∀ b ∈ tyNames, PySem.W.kitOne G.K (.ref C) (.type b) = some false ∧ PySem.W.kitOne G.K (.type b) (.ref C) = some false
  oo : ∀ c ∈ cs, ∀ c' ∈ cs, ∀ C C', G.ct c = some C → G.ct c' = some C' → PySem.W.kitOne G.K (.ref C) (.ref C') = some (c == c')
/-- the type of data: built-in or own -/
def tyOfD (cs : List String) (d : D) : Option (String ⊕ String) := match d with
  | .ins c _ => if c ∈ cs then some (.inr c) else none
  | d => (tyD d).map .inl
def isOne (cs : List String) (t : String ⊕ String) (c : D) : Option Bool := match t, c with
  | .inl a, .ty b => if a ∈ tyNames ∧ b ∈ tyNames then some (isTy a b) else none
  | .inl a, .cls b => if a ∈ tyNames ∧ b ∈ cs then some false else none
  | .inr a, .ty b => if b ∈ tyNames then some false else none
  | .inr a, .cls b => if b ∈ cs then some (a == b) else none
  | _, _ => none
def bIsi (cs : List String) : List D → Option D
  | [d, c] => (tyOfD cs d).bind fun t => (isOne cs t c).map .bl
  | _ => none
theorem tyX_of (hK : G.K = X.K) {cs : List String} (I : IsOk G cs) {κ : Bs} {w : Wd} {s : DS} {σ : L2.St} {H : Hp} {v : V} {d : D} {t : String ⊕ String} (ok : Ok G κ w s σ H) (r : Rep G w v d) (h : tyOfD cs d = some t) :
    ∃ tv, TyX X.K H v tv ∧ (match t with | .inl a => tv = .type a ∧ a ∈ tyNames | .inr c => c ∈ cs ∧ ∃ C, G.ct c = some C ∧ tv = .ref C) := by
  cases r with
  | non => cases h; exact ⟨_, .base .non, rfl, by decide⟩
  | bl b => cases h; exact ⟨_, .base (.bl b), rfl, by decide⟩
  | int i => cases h; exact ⟨_, .base (.int i), rfl, by decide⟩
  | str l => cases h; exact ⟨_, .base (.str _), rfl, by decide⟩
  | @tup a vs ds e r =>
    cases h
    rcases SqT.le e ok.fok.sub with (z | ⟨o, z⟩) | ⟨o, its, n, z1, z2, _⟩
    · exact ⟨_, .base (.tup z), rfl, by decide⟩
    · exact ⟨_, .fTuple z, rfl, by decide⟩
    · exact ⟨_, .kTuple (hK ▸ z1) z2, rfl, by decide⟩
  | @lst a vs ds e r => cases h; exact ⟨_, .base (.lst (ok.fok.sub _ _ e)), rfl, by decide⟩
  | @scr a vs ds e r =>
    cases h
    rcases SqL.le e ok.fok.sub with (z | ⟨o, z⟩) | ⟨o, its, n, z1, z2, _⟩
    · exact ⟨_, .base (.lst z), rfl, by decide⟩
    · exact ⟨_, .base (.frz z), rfl, by decide⟩
    · exact ⟨_, .kList (hK ▸ z1) z2, rfl, by decide⟩
  | @dic a vs ds e r => cases h; exact ⟨_, .base (.dK (ok.fok.sub _ _ e)), rfl, by decide⟩
  | @ins a C dx c vs ds hC e r =>
    have h : (if c ∈ cs then some (Sum.inr c) else none) = some t := h
    split at h
    · rename_i hc
      cases h
      obtain ⟨cl, h1, h2, h3, h4⟩ := I.cl c hc C hC
      exact ⟨_, .base (.ins (ok.fok.sub _ _ e) (hK ▸ cl) (hK ▸ h1) (hK ▸ h2) (hK ▸ h3) (hK ▸ h4)), hc, C, hC, rfl⟩
    · cases h
  | _ => exact nomatch h
theorem cd_isi (hK : G.K = X.K) {cs : List String} (I : IsOk G cs) : CallD G X (.builtin "isinstance") (bIsi cs) := ⟨_, call_isi, fun κ w s σ H vs ds d Q ok rs e q => by
  match ds, e with
  | [x, c], e =>
    have e : ((tyOfD cs x).bind fun t => (isOne cs t c).map D.bl) = some d := e
    cases e1 : tyOfD cs x with
    | none => rw [e1] at e; cases e
    | some t =>
      rw [e1] at e
      obtain ⟨v, v', rfl, r, r'⟩ := rs.two
      obtain ⟨tv, ty, ht⟩ := tyX_of hK I ok r e1
      have e : (isOne cs t c).map D.bl = some d := e
      cases e2 : isOne cs t c with
      | none => rw [e2] at e; cases e
      | some b =>
        rw [e2] at e
        cases e
        cases t with
        | inl a =>
          obtain ⟨rfl, ha⟩ := ht
          cases r' with
          | ty n =>
            have e2 : (if a ∈ tyNames ∧ n ∈ tyNames then some (isTy a n) else none) = some b := e2
            split at e2
            · rename_i h
              cases e2
              exact ⟨v, _, _, .type n, _, rfl, .ty n, ty, kit_ty (isTy_ok a h.1 n h.2), q w _ H (.refl _) ok (.bl _)⟩
            · cases e2
          | @cls C n hC =>
            have e2 : (if a ∈ tyNames ∧ n ∈ cs then some false else none) = some b := e2
            split at e2
            · rename_i h
              cases e2
              exact ⟨v, _, _, .ref C, _, rfl, .own C, ty, hK ▸ (I.bo n h.2 C hC a h.1).2, q w _ H (.refl _) ok (.bl _)⟩
            · cases e2
          | _ => exact nomatch e2
        | inr a =>
          obtain ⟨ha, C', hC', rfl⟩ := ht
          cases r' with
          | ty n =>
            have e2 : (if n ∈ tyNames then some false else none) = some b := e2
            split at e2
            · rename_i h
              cases e2
              exact ⟨v, _, _, .type n, _, rfl, .ty n, ty, hK ▸ (I.bo a ha C' hC' n h).1, q w _ H (.refl _) ok (.bl _)⟩
            · cases e2
          | @cls C n hC =>
            have e2 : (if n ∈ cs then some (a == n) else none) = some b := e2
            split at e2
            · rename_i h
              cases e2
              exact ⟨v, _, _, .ref C, _, rfl, .own C, ty, hK ▸ I.oo a ha n h C' C hC' hC, q w _ H (.refl _) ok (.bl _)⟩
            · cases e2
          | _ => exact nomatch e2⟩
end
end DL
set_option maxRecDepth 100000
set_option maxHeartbeats 4000000
set_option autoImplicit false
namespace DL
open PySem PySem.Spec PyProof.Rows L2
section
variable {G : Gam} {W : WX} {X : Cx}
/-! ### dicts -/
theorem dkey_inj {a b : DK} (h : dkey a = dkey b) : a = b := by
  cases a <;> cases b <;> simp [dkey] at h <;> first | (subst h; rfl) | (rw [nm_inj h])
def kOf (d : D) : Option DK := match d with
  | .int i => some (.i i)
  | .str l => some (.s l)
  | _ => none
theorem Rep.key {w : Wd} {v : V} {d : D} {k : DK} (r : Rep G w v d) (h : kOf d = some k) : v = kV (dkey k) := by
  cases r with
  | int i => cases h; rfl
  | str l => cases h; rfl
  | _ => exact nomatch h
def dLook (kvs : List (DK × D)) (k : DK) : Option D := match kvs with
  | [] => none
  | (k', d) :: r => if k' = k then some d else dLook r k
def dPut (kvs : List (DK × D)) (k : DK) (x : D) : List (DK × D) := match kvs with
  | [] => [(k, x)]
  | (k', d) :: r => if k' = k then (k, x) :: r else (k', d) :: dPut r k x
theorem RepK.look {w : Wd} : ∀ {v : List (Key × V)} {d : List (DK × D)} {k : DK}, RepK G w v d → (∀ x, dLook d k = some x → ∃ y, valV v (dkey k) = some y ∧ Rep G w y x) ∧ (dLook d k = none → valV v (dkey k) = none)
  | _, _, _, .nil => ⟨fun x e => (nomatch e), fun _ => rfl⟩
  | _, _, k, .cons (k := k') (v := v) (d := d) (vs := vs) (ds := ds) a b => by
    by_cases h : k' = k
    · subst h
      refine ⟨fun x e => ?_, fun e => ?_⟩
      · unfold dLook at e
        rw [if_pos rfl] at e
        cases e
        exact ⟨v, valV_pos rfl, a⟩
      · unfold dLook at e
        rw [if_pos rfl] at e
        cases e
    · have h2 : ¬ dkey k' = dkey k := fun q => h (dkey_inj q)
      obtain ⟨i1, i2⟩ := RepK.look (k := k) b
      refine ⟨fun x e => ?_, fun e => ?_⟩
      · unfold dLook at e
        rw [if_neg h] at e
        obtain ⟨y, q1, q2⟩ := i1 x e
        exact ⟨y, (valV_neg h2).trans q1, q2⟩
      · unfold dLook at e
        rw [if_neg h] at e
        exact (valV_neg h2).trans (i2 e)
theorem RepK.length {w : Wd} : ∀ {v : List (Key × V)} {d : List (DK × D)}, RepK G w v d → v.length = d.length
  | _, _, .nil => rfl
  | _, _, .cons _ b => by rw [List.length_cons, List.length_cons, RepK.length b]
/-- what of a dict is told (Nodup keys are not known here: the store at the first place and at the last agree by this) -/
def keysNd : List (DK × D) → Bool
  | [] => true
  | (k, _) :: r => !(r.any fun p => decide (p.1 = k)) && keysNd r
theorem RepK.any {w : Wd} {k : DK} : ∀ {v : List (Key × V)} {d : List (DK × D)}, RepK G w v d → (v.any fun kv => decide (kv.1 = dkey k)) = d.any fun kv => decide (kv.1 = k)
  | _, _, .nil => rfl
  | _, _, .cons (k := k') a b => by
    rw [List.any_cons, List.any_cons, RepK.any b]
    congr 1
    by_cases h : k' = k
    · subst h; simp
    · simp [h, show ¬ dkey k' = dkey k from fun q => h (dkey_inj q)]
theorem RepK.keepMap {w : Wd} {k : DK} {y : V} : ∀ {v : List (Key × V)} {d : List (DK × D)}, RepK G w v d → (d.any fun kv => decide (kv.1 = k)) = false → v.map (fun kv => if kv.1 = dkey k then (kv.1, y) else kv) = v
  | _, _, .nil, _ => rfl
  | _, _, .cons (k := k') a b, h => by
    rw [List.any_cons, Bool.or_eq_false_iff] at h
    have h1 : ¬ k' = k := of_decide_eq_false h.1
    rw [List.map_cons, if_neg (show ¬ dkey k' = dkey k from fun q => h1 (dkey_inj q)), RepK.keepMap b h.2]
theorem dPut_new : ∀ {d : List (DK × D)} {k : DK} {x : D}, (d.any fun kv => decide (kv.1 = k)) = false → dPut d k x = d ++ [(k, x)]
  | [], _, _, _ => rfl
  | (k', z) :: r, k, x, h => by
    rw [List.any_cons, Bool.or_eq_false_iff] at h
    have h1 : ¬ k' = k := of_decide_eq_false h.1
    unfold dPut
    rw [if_neg h1, dPut_new h.2]
    rfl
theorem RepK.append {w : Wd} : ∀ {v v' : List (Key × V)} {d d' : List (DK × D)}, RepK G w v d → RepK G w v' d' → RepK G w (v ++ v') (d ++ d')
  | _, _, _, _, .nil, h => h
  | _, _, _, _, .cons a b, h => .cons a (RepK.append b h)
theorem RepK.putMap {w : Wd} {k : DK} {y : V} {x : D} (r : Rep G w y x) : ∀ {v : List (Key × V)} {d : List (DK × D)}, RepK G w v d → keysNd d = true → (d.any fun kv => decide (kv.1 = k)) = true → RepK G w (v.map fun kv => if kv.1 = dkey k then (kv.1, y) else kv) (dPut d k x)
  | _, _, .nil, _, h => nomatch h
  | _, _, .cons (k := k') a b, nd, h => by
    unfold keysNd at nd
    rw [Bool.and_eq_true, Bool.not_eq_true'] at nd
    unfold dPut
    by_cases e : k' = k
    · subst e
      rw [if_pos rfl, List.map_cons, if_pos rfl, RepK.keepMap b nd.1]
      exact .cons r b
    · rw [if_neg e, List.map_cons, if_neg (show ¬ dkey k' = dkey k from fun q => e (dkey_inj q))]
      refine .cons a (RepK.putMap r b nd.2 ?_)
      rw [List.any_cons, Bool.or_eq_true] at h
      rcases h with h | h
      · exact absurd (of_decide_eq_true h) e
      · exact h
theorem RepK.put {w : Wd} {k : DK} {y : V} {x : D} (r : Rep G w y x) {v : List (Key × V)} {d : List (DK × D)} (h : RepK G w v d) (nd : keysNd d = true) : RepK G w (putK v (dkey k) y) (dPut d k x) := by
  unfold putK
  rw [h.any]
  cases e : d.any fun kv => decide (kv.1 = k) with
  | true => rw [if_pos rfl]; exact h.putMap r nd e
  | false =>
    rw [if_neg (fun z => nomatch z), dPut_new e]
    exact h.append (.cons r .nil)
def dictOf (d : D) (s : DS) : Option (List (DK × D)) := match d with
  | .dic kvs => some kvs
  | .cell n => match s.st[n]? with
    | some (.dic kvs) => some kvs
    | _ => none
  | _ => none
theorem Rep.dict {κ : Bs} {w : Wd} {s : DS} {σ : L2.St} {H : Hp} {v : V} {d : D} {kvs : List (DK × D)} (ok : Ok G κ w s σ H) (r : Rep G w v d) (h : dictOf d s = some kvs) : ∃ a vs, v = .ref a ∧ H a = some (.dK vs) ∧ RepK G w vs kvs := by
  cases r with
  | @dic a vs ds e r => cases h; exact ⟨a, vs, rfl, ok.fok.sub _ _ e, r⟩
  | @cell a n e =>
    have h : (match s.st[n]? with | some (.dic kvs) => some kvs | _ => none) = some kvs := h
    cases q : s.st[n]? with
    | none => rw [q] at h; cases h
    | some c =>
      rw [q] at h
      cases c with
      | dic kvs' =>
        cases h
        obtain ⟨vs, h1, h2⟩ := ok.fok.cel n a _ e q
        exact ⟨a, vs, rfl, h1, h2⟩
      | _ => cases h
  | _ => exact nomatch h
def eDGet (fo fi : DE) : DE := fun s => (fo s).bind fun d s1 => (fi s1).bind fun k s2 => match dictOf d s2, kOf k with
  | some kvs, some k => match dLook kvs k with
    | some x => .ok x s2
    | none => .stuck
  | _, _ => .stuck
theorem pd_dget {o i : Expr} {fo fi : DE} {pos : Pos} (hu : X.A.units + 1 < cLine) (ho : PD G W X o fo) (hi : PD G W X i fi) (hs : NoSl i) : PD G W X (.Subscript o i pos) (eDGet fo fi) :=
  (pe_dget hu ho hi hs).imp fun σ H Q ⟨κ, w, s, ok, q⟩ => ⟨κ, w, s, ok, (PostG.bind q).imp fun v H1 ⟨d, s1, w1, le, ok1, r1, q1⟩ => ⟨κ, w1, s1, ok1, (PostG.bind q1).imp fun v2 H2 ⟨d2, s2, w2, le2, ok2, r2, q2⟩ => by
    cases e1 : dictOf d s2 with
    | none => rw [e1] at q2; exact q2.elim
    | some kvs =>
      cases e2 : kOf d2 with
      | none => rw [e1, e2] at q2; exact q2.elim
      | some k =>
        rw [e1, e2] at q2
        replace q2 : PostG G W (Rep G) κ w2 σ (match dLook kvs k with | some x => .ok x s2 | none => .stuck) Q := q2
        cases e3 : dLook kvs k with
        | none => rw [e3] at q2; exact q2.elim
        | some x =>
          rw [e3] at q2
          obtain ⟨a, vs, rfl, hH, rk⟩ := (r1.mono le2).dict ok2 e1
          obtain ⟨y, h1, h2⟩ := (rk.look (k := k)).1 x e3
          refine ⟨a, y, rfl, ?_, q2 w2 y H2 (.refl _) ok2 h2⟩
          rw [r2.key e2, ← h1]
          exact DGet.k hH⟩⟩
/-- d[k] = v of a dict in the store -/
def sDPutC (fo fi fv : DE) : DStm := fun s => (fv s).bind fun x s1 => (fo s1).bind fun d s2 => (fi s2).bind fun k s3 => match d, kOf k with
  | .cell n, some k => match s3.st[n]? with
    | some (.dic kvs) => if kvs.length < 1000000 ∧ keysNd kvs = true then .ok .nx ⟨s3.sl, s3.st.set n (.dic (dPut kvs k x))⟩ else .stuck
    | _ => .stuck
  | _, _ => .stuck
theorem pds_dputC {o i value : Expr} {fo fi fv : DE} {pos pos' : Pos} (hu : X.A.units + 1 < cLine) (ho : PD G W X o fo) (hi : PD G W X i fi) (hv : PD G W X value fv) (hs : swapsWith value (some (.Subscript o i pos')) pos.line X.env = pure false := by rfl) :
    PDS G W X (.Assign [.Subscript o i pos'] value pos) (sDPutC fo fi fv) :=
  (ps_dput hu ho hi hv hs).imp fun N σ H ⟨κ, w, s, ok, q⟩ => ⟨κ, w, s, ok, (PostG.bindS q).imp fun v H1 ⟨d, s1, w1, le, ok1, r1, q1⟩ => ⟨κ, w1, s1, ok1, (PostG.bindS q1).imp fun v2 H2 ⟨d2, s2, w2, le2, ok2, r2, q2⟩ =>
    ⟨κ, w2, s2, ok2, (PostG.bindS q2).imp fun v3 H3 ⟨d3, s3, w3, le3, ok3, r3, q3⟩ => by
      cases r2 with
      | @cell a n e =>
        cases e2 : kOf d3 with
        | none => rw [e2] at q3; exact q3.elim
        | some k =>
          rw [e2] at q3
          replace q3 : PostS G W κ w3 (match s3.st[n]? with | some (.dic kvs) => if kvs.length < 1000000 ∧ keysNd kvs = true then .ok .nx ⟨s3.sl, s3.st.set n (.dic (dPut kvs k d))⟩ else .stuck | _ => .stuck) N := q3
          cases e3 : s3.st[n]? with
          | none => rw [e3] at q3; exact q3.elim
          | some c =>
            rw [e3] at q3
            cases c with
            | dic kvs =>
              replace q3 : PostS G W κ w3 (if kvs.length < 1000000 ∧ keysNd kvs = true then .ok .nx ⟨s3.sl, s3.st.set n (.dic (dPut kvs k d))⟩ else .stuck) N := q3
              split at q3
              · rename_i c
                have e' := pre_get le3.r e
                obtain ⟨vs, h1, h2⟩ := ok3.fok.cel n a _ e' e3
                refine ⟨a, _, rfl, ?_, q3 w3 σ _ (.refl _) (ok3.cell e' (c := .dic (dPut kvs k d)) ⟨_, upd_same, h2.put ((r1.mono le2).mono le3) c.2⟩)⟩
                rw [r3.key e2]
                exact DPut.k h1 (by rw [h2.length, sizeLine_eq]; omega)
              · exact q3.elim
            | _ => exact q3.elim
      | _ => exact q3.elim⟩⟩⟩
/-! ### a dict is displayed -/
def pairsD : List (DE × DE) → DS → Res DS (List (D × D))
  | [], s => .ok [] s
  | (fk, fv) :: r, s => (fk s).bind fun k s1 => (fv s1).bind fun x s2 => (pairsD r s2).bind fun ps s3 => .ok ((k, x) :: ps) s3
inductive RepP (G : Gam) (w : Wd) : List (V × V) → List (D × D) → Prop
  | nil : RepP G w [] []
  | cons {v v' : V} {d d' : D} {vs : List (V × V)} {ds : List (D × D)} : Rep G w v d → Rep G w v' d' → RepP G w vs ds → RepP G w ((v, v') :: vs) ((d, d') :: ds)
theorem pairs_of : ∀ (fs : List (DE × DE)) {κ : Bs} {w : Wd} {s : DS} {σ : L2.St} {H : Hp} {Q : List (V × V) → Hp → Prop}, Ok G κ w s σ H → PostG G W (RepP G) κ w σ (pairsD fs s) Q → tPairs (fs.map fun p => (tD G W p.1, tD G W p.2)) σ H Q
  | [], κ, w, s, σ, H, Q, ok, q => q w [] H (.refl _) ok .nil
  | (fk, fv) :: r, κ, w, s, σ, H, Q, ok, q => by
    refine ⟨κ, w, s, ok, (PostG.bind q).imp fun v H1 ⟨d, s1, w1, le, ok1, r1, q1⟩ => ⟨κ, w1, s1, ok1, (PostG.bind q1).imp fun v2 H2 ⟨d2, s2, w2, le2, ok2, r2, q2⟩ => ?_⟩⟩
    refine pairs_of r ok2 ((PostG.bind (rep := RepP G) q2).imp fun ps H3 ⟨ds, s3, w3, le3, ok3, r3, q3⟩ => ?_)
    exact q3 w3 _ H3 (.refl _) ok3 (.cons ((r1.mono le2).mono le3) (r2.mono le3) r3)
def keyed : List (D × D) → Option (List (DK × D))
  | [] => some []
  | (k, x) :: r => match kOf k, keyed r with
    | some k, some r => some ((k, x) :: r)
    | _, _ => none
theorem keyed_of {w : Wd} : ∀ {ps : List (V × V)} {ds : List (D × D)} {kvs : List (DK × D)}, RepP G w ps ds → keyed ds = some kvs → ∃ vs : List (Key × V), ps = vs.map (fun kv => (kV kv.1, kv.2)) ∧ RepK G w vs kvs
  | _, _, _, .nil, e => by cases e; exact ⟨[], rfl, .nil⟩
  | _, _, kvs, .cons (d := d) (ds := ds) a b c, e => by
    unfold keyed at e
    cases e1 : kOf d with
    | none => rw [e1] at e; cases e
    | some k =>
      cases e2 : keyed ds with
      | none => rw [e1, e2] at e; cases e
      | some r =>
        rw [e1, e2] at e
        cases e
        obtain ⟨vs, h1, h2⟩ := keyed_of c e2
        refine ⟨(dkey k, _) :: vs, ?_, .cons b h2⟩
        rw [h1, a.key e1]
        rfl
theorem keys_merge {w : Wd} : ∀ {more : List (Key × V)} {kvs : List (DK × D)} {v : List (Key × V)} {d : List (DK × D)}, RepK G w more kvs → RepK G w v d → (keysNd (d ++ kvs) = true) → RepK G w (mergeK v more) (d ++ kvs)
  | _, _, v, d, .nil, h, _ => by rw [List.append_nil]; exact h
  | _, _, v, d, .cons (k := k) (v := y) (d := x) (vs := vs) (ds := ds) a b, h, nd => by
    have new : (d.any fun kv => decide (kv.1 = k)) = false := by
      clear h a b
      induction d with
      | nil => rfl
      | cons p r ih =>
        rw [List.cons_append] at nd
        unfold keysNd at nd
        rw [Bool.and_eq_true, Bool.not_eq_true', List.any_append, Bool.or_eq_false_iff, List.any_cons, Bool.or_eq_false_iff] at nd
        rw [List.any_cons, ih nd.2, Bool.or_false]
        have := of_decide_eq_false nd.1.2.1
        exact decide_eq_false fun q => this q.symm
    have e : mergeK v ((dkey k, y) :: vs) = mergeK (v ++ [(dkey k, y)]) vs := by
      unfold mergeK
      rw [List.foldl_cons]
      congr 1
      unfold putK
      rw [h.any, new]
      rfl
    rw [e]
    have := keys_merge b (h.append (.cons a .nil)) (d := d ++ [(k, x)]) (by rw [List.append_assoc]; exact nd)
    rw [List.append_assoc] at this
    exact this
/-- a new dict of one's own -/
def PostOd (G : Gam) (W : WX) (κ : Bs) (w : Wd) (σ : L2.St) (r : Res DS (List (DK × D))) (Q : VK) : Prop := match r with
  | .ok xs s' => ∀ w' a vs H', w.le w' → Ok G (κ.plus a (.dK vs)) w' s' σ H' → (∀ p ∈ κ.γ, p.1 ≠ a) → RepK G w' vs xs → Q (.ref a) H'
  | .exc x s' => ∀ w' c dd H', w.le w' → Ok G κ w' s' σ H' → RepX G w' c dd x → W c dd σ H'
  | .stuck => False
abbrev DD := DS → Res DS (List (DK × D))
def tDod (G : Gam) (W : WX) (f : DD) : TE := fun σ H Q => ∃ κ w s, Ok G κ w s σ H ∧ PostOd G W κ w σ (f s) Q
abbrev PDod (G : Gam) (W : WX) (X : Cx) (e : Expr) (f : DD) : Prop := PE X e (tDod G W f)
/-- behind what was set apart a new value -/
theorem Ok.swap {κ : Bs} {w : Wd} {s : DS} {σ : L2.St} {H : Hp} {a : Addr} {o o' : HO} (h : Ok G (κ.plus a o) w s σ H) (hγ : ∀ p ∈ κ.γ, p.1 ≠ a) : Ok G (κ.plus a o') w s σ (upd H a o') := by
  obtain ⟨ho, h3, h4, h5, h6⟩ := h.gam (a, o) List.mem_cons_self
  refine ⟨⟨fun b u e => ?_, h.fok.len, fun n b c e1 e2 => ?_, h.fok.nd, h.fok.nf⟩, ⟨h.nx.le, fun b u e n => ?_, h.nx.newF, h.nx.newR⟩, h.len, h.val, fun j z hj oz => ?_, h.ne, fun p hp => ?_, h.me⟩
  · rw [upd_ne (ne_of_none e h3)]
    exact h.fok.sub b u e
  · exact (h.fok.cel n b c e1 e2).mono (.refl _) (upd_ne fun z => h4 (by rw [← z]; exact List.mem_of_getElem? e1))
  · rw [upd_ne (ne_of_none e h5)]
    exact h.nx.keep b u e n
  · obtain ⟨b, q1, q2, q3, q4, q5⟩ := h.own j z hj oz
    exact ⟨b, q1, q2.mono (.refl _) (upd_ne fun e => h6 j z hj oz (by rw [q1, e])), q3, q4, q5⟩
  · rcases List.mem_cons.mp hp with rfl | hp
    · exact ⟨upd_same, h3, h4, h5, h6⟩
    · obtain ⟨q1, q2⟩ := h.gam p (List.mem_cons_of_mem _ hp)
      exact ⟨by rw [upd_ne (hγ p hp)]; exact q1, q2⟩
def dDisp (fs : List (DE × DE)) : DD := fun s => (pairsD fs s).bind fun ps s1 => match keyed ps with
  | some kvs => if kvs.length ≤ 15 ∧ keysNd kvs = true then .ok kvs s1 else .stuck
  | none => .stuck
theorem pdod_disp {pos : Pos} {keys : List (Option Expr)} {values : List Expr} {fs : List (DE × DE)} (h : PPs X pos keys values (fs.map fun p => (tD G W p.1, tD G W p.2))) (hall : keys.all (·.isSome) = true) (hl : keys.length = values.length) (h0 : keys ≠ []) (h15 : keys.length ≤ 15) :
    PDod G W X (.Dict keys values pos) (dDisp fs) :=
  (pe_disp h hall hl h0 h15).imp fun σ H Q ⟨κ, w, s, ok, q⟩ => by
    intro p hp
    have ok1 := ok.fresh hp (.dK [])
    have hγ := ok.apart hp
    unfold dDisp at q
    refine pairs_of fs (κ := κ.plus p (.dK [])) (w := w) (s := s) ok1 ?_
    cases e : pairsD fs s with
    | stuck => rw [e] at q; exact q.elim
    | exc x s' =>
      rw [e] at q
      exact fun w' c dd H' l o r => q w' c dd H' l o.unplus r
    | ok ps s' =>
      rw [e] at q
      intro w' vps H' l o r
      replace q : PostOd G W κ w σ (match keyed ps with | some kvs => if kvs.length ≤ 15 ∧ keysNd kvs = true then .ok kvs s' else .stuck | none => .stuck) Q := q
      cases e2 : keyed ps with
      | none => rw [e2] at q; exact q.elim
      | some kvs =>
        rw [e2] at q
        replace q : PostOd G W κ w σ (if kvs.length ≤ 15 ∧ keysNd kvs = true then .ok kvs s' else .stuck) Q := q
        split at q
        · rename_i c
          obtain ⟨vs, h1, h2⟩ := keyed_of r e2
          refine ⟨(o.gam (p, .dK []) List.mem_cons_self).1, vs, h1, by rw [h2.length]; exact c.1, ?_⟩
          exact q w' p _ _ l (o.swap hγ) hγ (keys_merge h2 .nil (d := []) c.2)
        · exact q.elim
def eFrzD (f : DD) : DE := fun s => (f s).bind fun xs s1 => .ok (.dic xs) s1
theorem pdod_frz {e : Expr} {f : DD} (h : PDod G W X e f) : PD G W X e (eFrzD f) := h.imp fun σ H Q ⟨κ, w, s, ok, q⟩ => ⟨κ, w, s, ok, by
  unfold eFrzD at q
  cases e : f s with
  | stuck => rw [e] at q; exact q.elim
  | exc x s' => rw [e] at q; exact q
  | ok xs s' =>
    rw [e] at q
    intro w' a vs H' l o g r
    obtain ⟨le, ok'⟩ := o.frz g
    exact q _ _ H' (l.trans le) ok' (.dic upd_same (r.mono le))⟩
/-- what was set apart goes into the store -/
theorem Ok.store {κ : Bs} {w : Wd} {s : DS} {σ : L2.St} {H : Hp} {a : Addr} {o : HO} {c : Cell} (h : Ok G (κ.plus a o) w s σ H) (hγ : ∀ p ∈ κ.γ, p.1 ≠ a) (hc : CellOk G w H a c) : w.le ⟨w.F, w.ρ ++ [a]⟩ ∧ Ok G κ ⟨w.F, w.ρ ++ [a]⟩ ⟨s.sl, s.st ++ [c]⟩ σ H := by
  obtain ⟨ho, h3, h4, h5, h6⟩ := h.gam (a, o) List.mem_cons_self
  have le : w.le ⟨w.F, w.ρ ++ [a]⟩ := ⟨fun _ _ e => e, List.prefix_append _ _⟩
  refine ⟨le, ⟨⟨h.fok.sub, ?_, fun n b c' e1 e2 => ?_, ?_, fun b hb => ?_⟩, ⟨h.nx.le.trans le, h.nx.keep, h.nx.newF, fun b hb => ?_⟩, h.len, fun i d e => ?_, fun i x e o' => ?_, h.ne, fun p hp => ?_, h.me⟩⟩
  · show (w.ρ ++ [a]).length = (s.st ++ [c]).length
    rw [List.length_append, List.length_append, h.fok.len]
    rfl
  · have e1 : (w.ρ ++ [a])[n]? = some b := e1
    have e2 : (s.st ++ [c])[n]? = some c' := e2
    by_cases hn : n < w.ρ.length
    · rw [List.getElem?_append_left hn] at e1
      rw [List.getElem?_append_left (by rw [← h.fok.len]; exact hn)] at e2
      exact (h.fok.cel n b c' e1 e2).mono le rfl
    · rw [List.getElem?_append_right (by omega)] at e1
      rw [List.getElem?_append_right (by rw [← h.fok.len]; omega), ← h.fok.len] at e2
      cases z : n - w.ρ.length with
      | zero =>
        rw [z] at e1 e2
        cases e1
        cases e2
        exact hc.mono le rfl
      | succ k => rw [z] at e1; cases e1
  · show (w.ρ ++ [a]).Nodup
    rw [List.nodup_append]
    exact ⟨h.fok.nd, by simp, fun x hx y hy e => by
      rw [List.mem_singleton] at hy
      subst hy
      subst e
      exact h4 hx⟩
  · rcases List.mem_append.mp hb with hb | hb
    · exact h.fok.nf b hb
    · rw [List.mem_singleton.mp hb]
      exact h3
  · rcases List.mem_append.mp hb with hb | hb
    · exact h.nx.newR b hb
    · rw [List.mem_singleton.mp hb]
      exact .inr h5
  · obtain ⟨v, h1, h2⟩ := h.val i d e
    exact ⟨v, h1, h2.mono le⟩
  · obtain ⟨b, q1, q2, q3, q4, q5⟩ := h.own i x e o'
    refine ⟨b, q1, q2.mono le rfl, q3, fun hb => ?_, q5⟩
    rcases List.mem_append.mp hb with hb | hb
    · exact q4 hb
    · exact h6 i x e o' (by rw [q1, List.mem_singleton.mp hb])
  · obtain ⟨q1, q2, q3, q4⟩ := h.gam p (List.mem_cons_of_mem _ hp)
    refine ⟨q1, q2, fun hb => ?_, q4⟩
    rcases List.mem_append.mp hb with hb | hb
    · exact q3 hb
    · exact hγ p hp (List.mem_singleton.mp hb)
def eCellD (f : DD) : DE := fun s => (f s).bind fun xs s1 => .ok (.cell s1.st.length) ⟨s1.sl, s1.st ++ [.dic xs]⟩
theorem pdod_cell {e : Expr} {f : DD} (h : PDod G W X e f) : PD G W X e (eCellD f) := h.imp fun σ H Q ⟨κ, w, s, ok, q⟩ => ⟨κ, w, s, ok, by
  unfold eCellD at q
  cases e : f s with
  | stuck => rw [e] at q; exact q.elim
  | exc x s' => rw [e] at q; exact q
  | ok xs s' =>
    rw [e] at q
    intro w' a vs H' l o g r
    obtain ⟨le, ok'⟩ := o.store (c := .dic xs) g ⟨vs, (o.gam (a, .dK vs) List.mem_cons_self).1, r⟩
    refine q _ _ H' (l.trans le) ok' (.cell ?_)
    show (w'.ρ ++ [a])[s'.st.length]? = some a
    rw [← o.fok.len]
    simp⟩
/-! ### == and != of data -/
mutual
def toPy : D → Option PyData
  | .non => some .none
  | .bl b => some (.bool b)
  | .int i => some (.int i)
  | .str l => some (.str (nm l))
  | .tup xs => (toPys xs).map .tuple
  | .lst xs => (toPys xs).map .list
  | .scr xs => (toPys xs).map .list
  | _ => none
def toPys : List D → Option (List PyData)
  | [] => some []
  | d :: r => (toPy d).bind fun p => (toPys r).map fun q => p :: q
end
mutual
theorem Rep.py (hK : G.K = X.K) {κ : Bs} {w : Wd} {s : DS} {σ : L2.St} {H : Hp} (ok : Ok G κ w s σ H) : ∀ {v : V} {d : D} {p : PyData}, Rep G w v d → toPy d = some p → Dp X.K H v p
  | _, _, _, .non, e => by cases e; exact .non
  | _, _, _, .bl b, e => by cases e; exact .bl b
  | _, _, _, .int b, e => by cases e; exact .int b
  | _, _, _, .str b, e => by cases e; exact .str _
  | _, _, _, .tup (ds := ds) a r, e => by
    cases q : toPys ds with
    | none => simp [toPy, q] at e
    | some ps =>
      simp only [toPy, q, Option.map_some, Option.some.injEq] at e
      subst e
      exact .tup (hK ▸ SqT.le a ok.fok.sub) (Reps.py hK ok r q)
  | _, _, _, .lst (ds := ds) a r, e => by
    cases q : toPys ds with
    | none => simp [toPy, q] at e
    | some ps =>
      simp only [toPy, q, Option.map_some, Option.some.injEq] at e
      subst e
      exact .lst (.inl (.inl (ok.fok.sub _ _ a))) (Reps.py hK ok r q)
  | _, _, _, .scr (ds := ds) a r, e => by
    cases q : toPys ds with
    | none => simp [toPy, q] at e
    | some ps =>
      simp only [toPy, q, Option.map_some, Option.some.injEq] at e
      subst e
      exact .lst (hK ▸ SqL.le a ok.fok.sub) (Reps.py hK ok r q)
  | _, _, _, .dic _ _, e => by simp [toPy] at e
  | _, _, _, .ins _ _ _, e => by simp [toPy] at e
  | _, _, _, .cell _, e => by simp [toPy] at e
  | _, _, _, .cls _, e => by simp [toPy] at e
  | _, _, _, .ty _, e => by simp [toPy] at e
  | _, _, _, .fn _, e => by simp [toPy] at e
theorem Reps.py (hK : G.K = X.K) {κ : Bs} {w : Wd} {s : DS} {σ : L2.St} {H : Hp} (ok : Ok G κ w s σ H) : ∀ {v : List V} {d : List D} {p : List PyData}, Reps G w v d → toPys d = some p → DpAll X.K H v p
  | _, _, _, .nil, e => by simp [toPys] at e; subst e; exact .nil
  | _, _, _, .cons (d := d) (ds := ds) a r, e => by
    cases q1 : toPy d with
    | none => simp [toPys, q1] at e
    | some p =>
      cases q2 : toPys ds with
      | none => simp [toPys, q1, q2] at e
      | some ps =>
        simp only [toPys, q1, q2, Option.bind_some, Option.map_some, Option.some.injEq] at e
        subst e
        exact .cons (Rep.py hK ok a q1) (Reps.py hK ok r q2)
end
def dEq : D → D → Option D := fun x y => match toPy x, toPy y with
  | some p, some q => if SeqAt.shaped p && SeqAt.shaped q then some (.bl (PyData.eqv p q)) else none
  | _, _ => none
def dNe : D → D → Option D := fun x y => match toPy x, toPy y with
  | some p, some q => if SeqAt.shaped p && SeqAt.shaped q then some (.bl (!PyData.eqv p q)) else none
  | _, _ => none
theorem opd_eq (hK : G.K = X.K) (hu : X.A.units + 64 < cLine) : OpD G X (compareOp .Eq) dEq := ⟨_, op_eqD hu, fun κ w s σ H x y dx dy d Q ok rx ry e q => by
  unfold dEq at e
  cases e1 : toPy dx with
  | none => simp [e1] at e
  | some p =>
    cases e2 : toPy dy with
    | none => simp [e1, e2] at e
    | some p' =>
      simp only [e1, e2] at e
      split at e
      · rename_i c
        cases e
        rw [Bool.and_eq_true] at c
        exact ⟨p, p', rx.py hK ok e1, ry.py hK ok e2, c.1, c.2, q w _ H (.refl _) ok (.bl _)⟩
      · cases e⟩
theorem opd_ne (hK : G.K = X.K) (hu : X.A.units + 64 < cLine) : OpD G X (compareOp .NotEq) dNe := ⟨_, op_neD hu, fun κ w s σ H x y dx dy d Q ok rx ry e q => by
  unfold dNe at e
  cases e1 : toPy dx with
  | none => simp [e1] at e
  | some p =>
    cases e2 : toPy dy with
    | none => simp [e1, e2] at e
    | some p' =>
      simp only [e1, e2] at e
      split at e
      · rename_i c
        cases e
        rw [Bool.and_eq_true] at c
        exact ⟨p, p', rx.py hK ok e1, ry.py hK ok e2, c.1, c.2, q w _ H (.refl _) ok (.bl _)⟩
      · cases e⟩
/-- is None -/
def isNonD : D → Bool
  | .non => true
  | _ => false
def dIsN : D → D → Option D := fun x y => match y with
  | .non => some (.bl (isNonD x))
  | _ => none
def dNotN : D → D → Option D := fun x y => match y with
  | .non => some (.bl (!isNonD x))
  | _ => none
theorem Rep.non_iff {w : Wd} {v : V} {d : D} (r : Rep G w v d) : decide (v = .non) = isNonD d := by
  cases r <;> simp [isNonD]
theorem opd_isN : OpD G X (compareOp .Is) dIsN := ⟨_, op_isN, fun κ w s σ H x y dx dy d Q ok rx ry e q => by
  cases ry with
  | non =>
    cases e
    refine ⟨rfl, ?_⟩
    rw [rx.non_iff]
    exact q w _ H (.refl _) ok (.bl _)
  | _ => exact nomatch e⟩
theorem opd_notN : OpD G X (compareOp .IsNot) dNotN := ⟨_, op_notN, fun κ w s σ H x y dx dy d Q ok rx ry e q => by
  cases ry with
  | non =>
    cases e
    refine ⟨rfl, ?_⟩
    rw [rx.non_iff]
    exact q w _ H (.refl _) ok (.bl _)
  | _ => exact nomatch e⟩
/-! ### operators of own classes -/
def ownO (c : String) (g : DFn) : DO2 := fun x y s => match insOf x s, insOf y s with
  | some (c1, _), some (c2, _) => if c1 = c ∧ c2 = c then lift s (g [x, y] s.st) else .stuck
  | _, _ => .stuck
theorem ep_back {pins : List (Addr × Obj)} {σ : L2.St} {Q : VK} {v : Value} {s' : Shared} (h : EP X pins σ Q v s') : PySem.W.CmpBack (EP X pins σ Q) v s' := by
  obtain ⟨x, H, I, r, q⟩ := id h
  cases v <;> first
    | exact h
    | (have := r.abs; cases this)
theorem ownO_of {c : String} {g : DFn} {κ : Bs} {w : Wd} {s : DS} {σ : L2.St} {H : Hp} {x y : V} {dx dy : D} {Q : VK} (ok : Ok G κ w s σ H) (rx : Rep G w x dx) (ry : Rep G w y dy) (q : PostG G W (Rep G) κ w σ (ownO c g dx dy s) Q) :
    ∃ a b C dxa dxb fa fb, x = .ref a ∧ y = .ref b ∧ G.ct c = some C ∧ H a = some (.ins C dxa fa) ∧ H b = some (.ins C dxb fb) ∧ PostG G W (Rep G) κ w σ (lift s (g [dx, dy] s.st)) Q := by
  unfold ownO at q
  cases e1 : insOf dx s with
  | none => rw [e1] at q; exact q.elim
  | some p =>
    cases e2 : insOf dy s with
    | none => rw [e1, e2] at q; exact q.elim
    | some p' =>
      obtain ⟨c1, f1⟩ := p
      obtain ⟨c2, f2⟩ := p'
      rw [e1, e2] at q
      replace q : PostG G W (Rep G) κ w σ (if c1 = c ∧ c2 = c then lift s (g [dx, dy] s.st) else .stuck) Q := q
      split at q
      · rename_i h
        obtain ⟨rfl, rfl⟩ := h
        obtain ⟨a, C, dxa, vs, ev, hC, hH, _⟩ := rx.ins_of ok e1
        obtain ⟨b, C', dxb, vs', ev', hC', hH', _⟩ := ry.ins_of ok e2
        rw [hC] at hC'
        cases hC'
        exact ⟨a, b, C, dxa, dxb, vs, vs', ev, ev', hC, hH, hH', q⟩
      · exact q.elim
theorem opx_own {op : Operator} {mname : Str} {c : String} {C f : Addr} {k : Nat} {fd : FuncData} {ps : List Str} {g : DFn} (hm' : PySem.dunder op.info.2 = mname) (hC : G.ct c = some C) (hs : PySem.W.findIn X.K (.ref C) mname = some (some (.ref f))) (hf : PySem.W.isFn X.K (.ref f) = true) (hc : PySem.W.selfFirst X.K C = true)
    (F : FnOk X.prog X.w X.K X.mg X.base (L2.CX X.prog X.w) k f fd ps (spG G 2 g)) (hr : Room k X.A) (hb : Binds X.K fd ps []) (tk : Takes X W) : OpX G W X (binaryOp op) (ownO c g) := by
  subst hm'
  intro pins sh σ H x y v u κ w s dx dy Q I rx ry ok rdx rdy q
  obtain ⟨a, b, C', dxa, dxb, fa, fb, rfl, rfl, hC', hH, hH', q⟩ := ownO_of ok rdx rdy q
  rw [hC] at hC'
  cases hC'
  cases rx
  cases ry
  obtain ⟨mA, J, _⟩ := ins_get I.hok hH
  obtain ⟨mB, J', _⟩ := ins_get I.hok hH'
  obtain ⟨od, J, _⟩ := J.look
  obtain ⟨od', J', _⟩ := J'.look
  obtain ⟨m, hF⟩ := I.fr
  refine PySem.W.binop_K hF I.ok.mod.kin J J'.type hc hs hf ?_
  exact thn (callD (us := [.ref a, .ref b]) (vs := [.ref a, .ref b]) (ds := [dx, dy]) F hr hb tk I ok (.cons rdx (.cons rdy .nil)) (.cons rfl (.cons rfl .nil)) rfl q) fun v s' h => ep_back h
theorem opx_ownEq {c : String} {C f : Addr} {k : Nat} {fd : FuncData} {ps : List Str} {g : DFn} (hC : G.ct c = some C) (hs : PySem.W.findIn X.K (.ref C) "__eq__" = some (some (.ref f))) (hf : PySem.W.isFn X.K (.ref f) = true)
    (F : FnOk X.prog X.w X.K X.mg X.base (L2.CX X.prog X.w) k f fd ps (spG G 2 g)) (hr : Room k X.A) (hb : Binds X.K fd ps []) (tk : Takes X W) : OpX G W X (compareOp .Eq) (ownO c g) := by
  intro pins sh σ H x y v u κ w s dx dy Q I rx ry ok rdx rdy q
  obtain ⟨a, b, C', dxa, dxb, fa, fb, rfl, rfl, hC', hH, hH', q⟩ := ownO_of ok rdx rdy q
  rw [hC] at hC'
  cases hC'
  cases rx
  cases ry
  obtain ⟨mA, J, _⟩ := ins_get I.hok hH
  obtain ⟨mB, J', _⟩ := ins_get I.hok hH'
  obtain ⟨od, J, _⟩ := J.look
  obtain ⟨od', J', _⟩ := J'.look
  obtain ⟨m, hF⟩ := I.fr
  show wpAny (model X.prog X.w) X.A (richCompare .Eq (.ref a) (.ref b)) _ _ _
  refine PySem.W.cmp_K (op := .Eq) (tb := .ref C) hr.units0 hF I.ok.mod.kin J J'.type (by simp [PySem.W.notFirst]) hs hf ?_
  exact thn (callD (us := [.ref a, .ref b]) (vs := [.ref a, .ref b]) (ds := [dx, dy]) F hr hb tk I ok (.cons rdx (.cons rdy .nil)) (.cons rfl (.cons rfl .nil)) rfl q) fun v s' h => ep_back h
/-- ~x of an own class -/
def eInv (c : String) (g : DFn) (f : DE) : DE := fun s => (f s).bind fun d s1 => match insOf d s1 with
  | some (c1, _) => if c1 = c then lift s1 (g [d] s1.st) else .stuck
  | none => .stuck
theorem pd_inv {c : String} {C f : Addr} {k : Nat} {fd : FuncData} {ps : List Str} {g : DFn} {e : Expr} {fe : DE} {pos : Pos} (hC : G.ct c = some C) (hs : PySem.W.findIn X.K (.ref C) "__invert__" = some (some (.ref f))) (hf : PySem.W.isFn X.K (.ref f) = true)
    (F : FnOk X.prog X.w X.K X.mg X.base (L2.CX X.prog X.w) k f fd ps (spG G 1 g)) (hr : Room k X.A) (hb : Binds X.K fd ps []) (tk : Takes X W) (he : PD G W X e fe) : PD G W X (.UnaryOp .Invert e pos) (eInv c g fe) := by
  refine ⟨fun pins sh σ H Q I h => ?_⟩
  obtain ⟨κ, w, s, ok, q⟩ := h
  have hh : tD G W fe σ H fun v H1 => ∃ d s1 w1, w.le w1 ∧ Ok G κ w1 s1 σ H1 ∧ Rep G w1 v d ∧ PostG G W (Rep G) κ w1 σ (match insOf d s1 with
    | some (c1, _) => if c1 = c then lift s1 (g [d] s1.st) else .stuck
    | none => .stuck) Q := ⟨κ, w, s, ok, PostG.bind q⟩
  refine UnaryOp_ (thn (he.run pins sh σ H _ I hh) fun u s1 ⟨x, H1, I1, rx, d, t1, w1, le, ok1, r1, q1⟩ => ?_)
  cases e1 : insOf d t1 with
  | none => rw [e1] at q1; exact q1.elim
  | some p =>
    obtain ⟨c1, fs⟩ := p
    rw [e1] at q1
    replace q1 : PostG G W (Rep G) κ w1 σ (if c1 = c then lift t1 (g [d] t1.st) else .stuck) Q := q1
    split at q1
    · rename_i hc
      subst hc
      obtain ⟨a, C', dx, vs, ev, hC', hH, rf⟩ := r1.ins_of ok1 e1
      rw [hC] at hC'
      cases hC'
      subst ev
      obtain rfl : u = Value.ref a := rx
      obtain ⟨mA, J, _⟩ := ins_get I1.hok hH
      obtain ⟨od, J, _⟩ := J.look
      obtain ⟨m, hF⟩ := I1.fr
      exact PySem.W.ksp_inv hF I1.ok.mod.kin J hs hf (callD (us := [.ref a]) (vs := [.ref a]) (ds := [d]) F hr hb tk I1 ok1 (.cons r1 .nil) (.cons rfl .nil) rfl q1)
    · exact q1.elim
end
end DL
set_option maxRecDepth 100000
set_option maxHeartbeats 4000000
set_option autoImplicit false
namespace DL
open PySem PySem.Spec PyProof.Rows L2 RZ
section
variable {G : Gam} {W : WX} {X : Cx}
/-! ### list comprehensions -/
abbrev WF : WX := fun _ _ _ _ => False
def wipeD (vs : List Nat) (l : List Sl) : List Sl := match vs with
  | [] => l
  | v :: vs => (wipeD vs l).set v .un
def wipeS (vs : List Nat) (s : DS) : DS := ⟨wipeD vs s.sl, s.st⟩
theorem wipeD_length (l : List Sl) : ∀ vs : List Nat, (wipeD vs l).length = l.length
  | [] => rfl
  | v :: vs => by unfold wipeD; rw [List.length_set, wipeD_length l vs]
theorem wipeD_in {l : List Sl} {i : Nat} {x : Sl} : ∀ {vs : List Nat}, (wipeD vs l)[i]? = some x → (i ∈ vs ∧ x = .un) ∨ (i ∉ vs ∧ l[i]? = some x)
  | [], h => .inr ⟨by simp, h⟩
  | v :: vs, h => by
    unfold wipeD at h
    by_cases hi : v = i
    · subst hi
      by_cases hv : v < (wipeD vs l).length
      · rw [List.getElem?_set_self hv] at h
        cases h
        exact .inl ⟨List.mem_cons_self, rfl⟩
      · rw [List.getElem?_eq_none (by simpa using hv)] at h; cases h
    · rw [List.getElem?_set_ne hi] at h
      rcases wipeD_in h with ⟨h1, h2⟩ | ⟨h1, h2⟩
      · exact .inl ⟨List.mem_cons_of_mem _ h1, h2⟩
      · exact .inr ⟨by simp only [List.mem_cons, not_or]; exact ⟨fun e => hi e.symm, h1⟩, h2⟩
theorem wipe_out' {σ : L2.St} {i : Nat} : ∀ {vs : List Nat}, i ∉ vs → (L2.wipe σ vs)[i]? = σ[i]?
  | [], _ => rfl
  | v :: vs, h => by
    unfold L2.wipe
    rw [List.getElem?_set_ne (fun e => h (by rw [e]; exact List.mem_cons_self)), wipe_out' fun z => h (List.mem_cons_of_mem _ z)]
theorem Ok.wipe {κ : Bs} {w : Wd} {s : DS} {σ : L2.St} {H : Hp} (h : Ok G κ w s σ H) (vs : List Nat) : Ok G κ w (wipeS vs s) (L2.wipe σ vs) H := by
  refine ⟨h.fok, h.nx, by rw [wipe_length]; exact (wipeD_length _ _).trans h.len, fun i d e => ?_, fun i x e o => ?_, fun i j x y a e1 e2 o1 o2 h1 h2 => ?_, fun p hp => ?_, fun a ha c fs e => ?_⟩
  · rcases wipeD_in e with ⟨_, z⟩ | ⟨z, e⟩
    · cases z
    · rw [wipe_out' z]; exact h.val i d e
  · rcases wipeD_in e with ⟨_, z⟩ | ⟨z, e⟩
    · subst z; cases o
    · rw [wipe_out' z]; exact h.own i x e o
  · rcases wipeD_in e1 with ⟨_, z⟩ | ⟨z, e1⟩
    · subst z; cases o1
    · rcases wipeD_in e2 with ⟨_, z'⟩ | ⟨z', e2⟩
      · subst z'; cases o2
      · rw [wipe_out' z] at h1
        rw [wipe_out' z'] at h2
        exact h.ne i j x y a e1 e2 o1 o2 h1 h2
  · obtain ⟨q1, q2, q3, q4, q5⟩ := h.gam p hp
    refine ⟨q1, q2, q3, q4, fun i x e o => ?_⟩
    rcases wipeD_in e with ⟨_, z⟩ | ⟨z, e⟩
    · subst z; cases o
    · rw [wipe_out' z]; exact q5 i x e o
  · rcases wipeD_in e with ⟨_, z⟩ | ⟨z, e⟩
    · cases z
    · rw [wipe_out' z]; exact h.me a ha c fs e
/-- the slots behind the block: the block's own names as they were -/
def unwipe (vs : List Nat) (old new : List Sl) : List Sl := match vs with
  | [] => new
  | v :: vs => (unwipe vs old new).set v (match old[v]? with | some (.val d) => .val d | _ => .un)
theorem unwipe_length (l l' : List Sl) : ∀ vs : List Nat, (unwipe vs l l').length = l'.length
  | [] => rfl
  | v :: vs => by unfold unwipe; rw [List.length_set, unwipe_length l l' vs]
theorem unwipe_in {l l' : List Sl} {i : Nat} {x : Sl} : ∀ {vs : List Nat}, (unwipe vs l l')[i]? = some x → (i ∈ vs ∧ (x = .un ∨ ∃ d, x = .val d ∧ l[i]? = some x)) ∨ (i ∉ vs ∧ l'[i]? = some x)
  | [], h => .inr ⟨by simp, h⟩
  | v :: vs, h => by
    unfold unwipe at h
    by_cases hi : v = i
    · subst hi
      by_cases hv : v < (unwipe vs l l').length
      · rw [List.getElem?_set_self hv] at h
        refine .inl ⟨List.mem_cons_self, ?_⟩
        cases e : l[v]? with
        | none => rw [e] at h; cases h; exact .inl rfl
        | some y =>
          rw [e] at h
          cases y with
          | val d => cases h; exact .inr ⟨d, rfl, rfl⟩
          | _ => cases h; exact .inl rfl
      · rw [List.getElem?_eq_none (by simpa using hv)] at h; cases h
    · rw [List.getElem?_set_ne hi] at h
      rcases unwipe_in h with ⟨h1, h2⟩ | ⟨h1, h2⟩
      · exact .inl ⟨List.mem_cons_of_mem _ h1, h2⟩
      · exact .inr ⟨by simp only [List.mem_cons, not_or]; exact ⟨fun e => hi e.symm, h1⟩, h2⟩
theorem Ok.unwipe {κ κ' : Bs} {w w1 : Wd} {s s1 : DS} {σ : L2.St} {H H1 : Hp} {vs : List Nat} (h1 : Ok G κ' w1 s1 σ H1) (le : w1.le w) (h : Ok G κ w s (L2.wipe σ vs) H) (hme : κ.me = κ'.me) : Ok G κ w ⟨DL.unwipe vs s1.sl s.sl, s.st⟩ σ H := by
  refine ⟨h.fok, h.nx, ?_, fun i d e => ?_, fun i x e o => ?_, fun i j x y a e1 e2 o1 o2 q1 q2 => ?_, fun p hp => ?_, fun a ha c fs e => ?_⟩
  · show (DL.unwipe vs s1.sl s.sl).length = σ.length
    rw [unwipe_length, h.len, wipe_length]
  · rcases unwipe_in e with ⟨_, z | ⟨d', z, e⟩⟩ | ⟨z, e⟩
    · cases z
    · obtain ⟨v, q1, q2⟩ := h1.val i d e
      exact ⟨v, q1, q2.mono le⟩
    · obtain ⟨v, q1, q2⟩ := h.val i d e
      exact ⟨v, by rw [wipe_out' z] at q1; exact q1, q2⟩
  · rcases unwipe_in e with ⟨_, z | ⟨d', z, e⟩⟩ | ⟨z, e⟩
    · subst z; cases o
    · subst z; cases o
    · have := h.own i x e o
      rwa [wipe_out' z] at this
  · rcases unwipe_in e1 with ⟨_, z | ⟨d', z, e1⟩⟩ | ⟨z, e1⟩
    · subst z; cases o1
    · subst z; cases o1
    · rcases unwipe_in e2 with ⟨_, z' | ⟨d', z', e2⟩⟩ | ⟨z', e2⟩
      · subst z'; cases o2
      · subst z'; cases o2
      · exact h.ne i j x y a e1 e2 o1 o2 (by rw [wipe_out' z]; exact q1) (by rw [wipe_out' z']; exact q2)
  · obtain ⟨q1, q2, q3, q4, q5⟩ := h.gam p hp
    refine ⟨q1, q2, q3, q4, fun i x e o => ?_⟩
    rcases unwipe_in e with ⟨_, z | ⟨d', z, e⟩⟩ | ⟨z, e⟩
    · subst z; cases o
    · subst z; cases o
    · have := q5 i x e o
      rwa [wipe_out' z] at this
  · rcases unwipe_in e with ⟨_, z | ⟨d', z, e⟩⟩ | ⟨z, e⟩
    · cases z
    · cases z
    · have := h.me a ha c fs e
      rwa [wipe_out' z] at this
def lcL (vs : List Nat) (g : DG) (t : DT) (e : DE) : List D → List D → DS → Res DS (List D)
  | [], acc, s => .ok acc s
  | d :: r, acc, s => (noX (g d (wipeS vs s))).bind fun _ s1 => (noX (t s1)).bind fun b s2 => if b = true then (noX (e s2)).bind fun y s3 => if acc.length < 1000000 then lcL vs g t e r (acc ++ [y]) s3 else .stuck
    else lcL vs g t e r acc s2
def aLc (vs : List Nat) (it : DA) (g : DG) (t : DT) (e : DE) : DA := fun s => (it s).bind fun items s1 => (noX (lcL vs g t e items [] s1)).bind fun ys s2 => .ok ys ⟨unwipe vs s1.sl (wipeD vs s2.sl), s2.st⟩
def bYes : DT := fun s => .ok true s
theorem ptds_nil : PTs X [] (tDT G W bYes) := ⟨fun pins s σ H Q I ⟨κ, w, d, ok, q⟩ => pts_nil.run pins s σ H Q I (q w true H (.refl _) ok rfl)⟩
theorem ptds_one {c : Expr} {t : DT} (h : PDT G W X c t) : PTs X [c] (tDT G W t) := pts_one h
theorem wipe_same {σ σ2 : L2.St} {vs is : List Nat} (hl : σ2.length = (L2.wipe σ vs).length) (h : ∀ i : Nat, i ∉ is → σ2[i]? = (L2.wipe σ vs)[i]?) (hs : ∀ i ∈ is, i ∈ vs) : L2.wipe σ2 vs = L2.wipe σ vs := by
  have at_ : ∀ (τ : L2.St) (i : Nat), i ∈ vs → (L2.wipe τ vs)[i]? = if i < τ.length then some none else none := by
    intro τ i hi
    clear h hs hl
    induction vs with
    | nil => simp at hi
    | cons v r ih =>
      unfold L2.wipe
      by_cases e : v = i
      · subst e
        by_cases c : v < τ.length
        · rw [List.getElem?_set_self (by rw [wipe_length]; exact c), if_pos c]
        · rw [if_neg c, List.getElem?_eq_none (by rw [List.length_set, wipe_length]; omega)]
      · rw [List.getElem?_set_ne e]
        exact ih (by rcases List.mem_cons.mp hi with z | z; exact absurd z.symm e; exact z)
  have hl2 : σ2.length = σ.length := by rw [hl, wipe_length]
  apply List.ext_getElem?
  intro i
  by_cases hi : i ∈ vs
  · rw [at_ σ2 i hi, at_ σ i hi, hl2]
  · rw [wipe_out' hi]
    exact h i fun z => hi (hs i z)
theorem lc_of {vs is : List Nat} (hs : ∀ i ∈ is, i ∈ vs) {κ : Bs} {w : Wd} {J : It} {g : DG} {t : DT} {e : DE} {items : List D} (hJ : ItOk G w J items) {s0 : DS} {σ : L2.St} {H1 : Hp} {Q : VK} (ok : Ok G κ w s0 σ H1) {Dp : Addr} (hD : H1 Dp = none)
    (q : match noX (lcL vs g t e items [] s0) with
      | .ok ys s2 => ∀ w2 acc H2, w.le w2 → Ok G (κ.plus Dp (.lst acc)) w2 (wipeS vs s2) (L2.wipe σ vs) H2 → Reps G w2 acc ys → Q (.ref Dp) H2
      | _ => False) :
    ∃ Wv : Nat → Nat → Hp → Prop, (∃ m, Wv 0 m (upd H1 Dp (.lst []))) ∧ ∀ i m H, Wv i m H →
      (J.stop i H ∧ Q (.ref Dp) H) ∨ (J.go i H ∧ ∃ Nx : Hp → Prop, (∀ H', Nx H' → ∃ m', m' < m ∧ Wv (i + 1) m' H') ∧ ∀ x H', J.yld i H x H' → tDG G is g x (L2.wipe σ vs) H' fun σ2 H2 => L2.wipe σ2 vs = L2.wipe σ vs ∧ tDT G WF t σ2 H2 fun b H3 =>
        if b = true then tD G WF e σ2 H3 fun y H4 => ∃ acc, H4 Dp = some (.lst acc) ∧ acc.length < sizeLine ∧ Nx (upd H4 Dp (.lst (acc ++ [y]))) else Nx H3) := by
  have hγ := ok.apart hD
  -- a state of the loop: slots wiped
  refine ⟨fun i m H => ∃ w' s' acc accD, w.le w' ∧ Ok G (κ.plus Dp (.lst acc)) w' (wipeS vs s') (L2.wipe σ vs) H ∧ Reps G w' acc accD ∧ (items.drop i).length = m ∧
    (match noX (lcL vs g t e (items.drop i) accD s') with
      | .ok ys s2 => ∀ w2 acc H2, w'.le w2 → Ok G (κ.plus Dp (.lst acc)) w2 (wipeS vs s2) (L2.wipe σ vs) H2 → Reps G w2 acc ys → Q (.ref Dp) H2
      | _ => False), ⟨items.length, w, s0, [], [], .refl _, (ok.fresh hD _).wipe vs, .nil, by simp, ?_⟩, ?_⟩
  · rw [List.drop_zero]
    exact q
  · rintro i m H ⟨w', s', acc, accD, le', ok', ra, hm, q'⟩
    cases ed : items.drop i with
    | nil =>
      rw [ed] at q'
      have hn : items[i]? = none := by
        have := congrArg (fun l => l[0]?) ed
        simpa using this
      exact .inl ⟨(hJ w' _ H le' ok'.fok i).2 hn, q' w' acc H (.refl _) ok' ra⟩
    | cons d r =>
      rw [ed] at q' hm
      obtain ⟨h1, h2⟩ := drop_get ed
      obtain ⟨go, yl⟩ := (hJ w' _ H le' ok'.fok i).1 d h1
      refine .inr ⟨go, fun H2 => ∃ w2 s2 acc accD, w.le w2 ∧ Ok G (κ.plus Dp (.lst acc)) w2 (wipeS vs s2) (L2.wipe σ vs) H2 ∧ Reps G w2 acc accD ∧
        (match noX (lcL vs g t e r accD s2) with
          | .ok ys s3 => ∀ w3 acc H3, w2.le w3 → Ok G (κ.plus Dp (.lst acc)) w3 (wipeS vs s3) (L2.wipe σ vs) H3 → Reps G w3 acc ys → Q (.ref Dp) H3
          | _ => False), fun H2 ⟨w2, s2, acc2, accD2, l2, o2, r2, q2⟩ => ?_, fun x H' hy => ?_⟩
      · exact ⟨r.length, by rw [← hm]; exact Nat.lt_succ_self _, w2, s2, acc2, accD2, l2, o2, r2, by rw [h2], by rw [h2]; exact q2⟩
      · obtain ⟨w2, nx, fok, rx⟩ := yl x H' hy
        have ok2 : Ok G (κ.plus Dp (.lst acc)) w2 (wipeS vs s') (L2.wipe σ vs) H' := ok'.step nx fok
        refine ⟨κ.plus Dp (.lst acc), w2, wipeS vs s', d, ok2, rx, PostT.ofNoX ?_⟩
        unfold lcL at q'
        cases e1 : noX (g d (wipeS vs s')) with
        | stuck => rw [e1] at q'; exact q'.elim
        | exc x s => exact absurd e1 (noX_exc _ _ _)
        | ok u s1 =>
          rw [e1] at q'
          rw [Res.bind_ok] at q'
          intro w3 σ3 H3 l3 o3 hσ
          have hw : L2.wipe σ3 vs = L2.wipe σ vs := wipe_same hσ.1 hσ.2 hs
          refine ⟨hw, κ.plus Dp (.lst acc), w3, s1, o3, ?_⟩
          cases e2 : t s1 with
          | stuck => rw [e2] at q'; exact q'.elim
          | exc x s => rw [e2] at q'; exact q'.elim
          | ok b s2 =>
            rw [e2] at q'
            intro w4 b' H4 l4 o4 eb
            subst eb
            have lw : w'.le w4 := (nx.le.trans l3).trans l4
            cases b' with
            | false =>
              rw [if_neg (fun z => nomatch z)]
              refine ⟨w4, s2, acc, accD, le'.trans lw, by rw [← hw]; exact o4.wipe vs, ra.mono lw, ?_⟩
              replace q' : (match noX (lcL vs g t e r accD s2) with
                | .ok ys s3 => ∀ w3 acc H3, w'.le w3 → Ok G (κ.plus Dp (.lst acc)) w3 (wipeS vs s3) (L2.wipe σ vs) H3 → Reps G w3 acc ys → Q (.ref Dp) H3
                | _ => False) := q'
              cases e3 : noX (lcL vs g t e r accD s2) with
              | stuck => rw [e3] at q'; exact q'.elim
              | exc x s => rw [e3] at q'; exact q'.elim
              | ok ys s3 => rw [e3] at q'; exact fun w5 acc5 H5 l5 o5 r5 => q' w5 acc5 H5 (lw.trans l5) o5 r5
            | true =>
              rw [if_pos rfl]
              refine ⟨κ.plus Dp (.lst acc), w4, s2, o4, ?_⟩
              replace q' : (match noX ((noX (e s2)).bind fun y s3 => if accD.length < 1000000 then lcL vs g t e r (accD ++ [y]) s3 else .stuck) with
                | .ok ys s3 => ∀ w3 acc H3, w'.le w3 → Ok G (κ.plus Dp (.lst acc)) w3 (wipeS vs s3) (L2.wipe σ vs) H3 → Reps G w3 acc ys → Q (.ref Dp) H3
                | _ => False) := q'
              cases e3 : e s2 with
              | stuck => rw [e3] at q'; exact q'.elim
              | exc x s => rw [e3] at q'; exact q'.elim
              | ok y s3 =>
                rw [e3] at q'
                intro w5 v5 H5 l5 o5 r5
                replace q' : (match noX (if accD.length < 1000000 then lcL vs g t e r (accD ++ [y]) s3 else .stuck) with
                  | .ok ys s3 => ∀ w3 acc H3, w'.le w3 → Ok G (κ.plus Dp (.lst acc)) w3 (wipeS vs s3) (L2.wipe σ vs) H3 → Reps G w3 acc ys → Q (.ref Dp) H3
                  | _ => False) := q'
                by_cases c : accD.length < 1000000
                · rw [if_pos c] at q'
                  refine ⟨acc, (o5.gam (Dp, .lst acc) List.mem_cons_self).1, by rw [ra.length, sizeLine_eq]; omega, w5, s3, acc ++ [v5], accD ++ [y], le'.trans (lw.trans l5), ?_, ((ra.mono lw).mono l5).append (.cons r5 .nil), ?_⟩
                  · rw [← hw]
                    exact (o5.swap hγ).wipe vs
                  · cases e4 : noX (lcL vs g t e r (accD ++ [y]) s3) with
                    | stuck => rw [e4] at q'; exact q'.elim
                    | exc x s => rw [e4] at q'; exact q'.elim
                    | ok ys s4 => rw [e4] at q'; exact fun w6 acc6 H6 l6 o6 r6 => q' w6 acc6 H6 ((lw.trans l5).trans l6) o6 r6
                · rw [if_neg c] at q'
                  exact q'.elim
theorem pdo_lc {elt tg iter : Expr} {ifs : List Expr} {scope : Scope} {own : List (Str × Nat)} {is : List Nat} {pos : Pos} {it : DA} {g : DG} {t : DT} {e : DE} (hc : X.calm = true) (hN : X.N.Nodup) (hi : PDI G W X tg iter it) (ok : BlkOk X.N X.env.scope scope own) (hs' : ∀ i ∈ is, i ∈ own.map (·.2))
    (hg : ∀ (s : Shared) (H : Hp) (C : Addr) (cl : List (Str × Addr)) (fp : List Addr), PDG G (X.blk s H scope (compEnvC scope cl C X.env) fp) tg is g) (ht : ∀ (s : Shared) (H : Hp) (C : Addr) (cl : List (Str × Addr)) (fp : List Addr), PTs (X.blk s H scope (compEnvC scope cl C X.env) fp) ifs (tDT G WF t))
    (he : ∀ (s : Shared) (H : Hp) (C : Addr) (cl : List (Str × Addr)) (fp : List Addr), PD G WF (X.blk s H scope (compEnvC scope cl C X.env) fp) elt e) (hs : ∀ x, foldedSetIterable iter X.env x = pure x := by intro _; rfl) :
    PDo G W X (.ListComp elt [⟨tg, iter, ifs, 0⟩] scope pos) (aLc (own.map (·.2)) it g t e) :=
  (pe_lc hc hN hi ok hg ht he hs).imp fun σ H Q h => lc_fin hs' h
where
  lc_fin {vs is : List Nat} (hs : ∀ i ∈ is, i ∈ vs) {it : DA} {g : DG} {t : DT} {e : DE} {σ : L2.St} {H : Hp} {Q : VK} (h : tDo G W (aLc vs it g t e) σ H Q) : tLc (tDI G W it) (tDG G is g) (tDT G WF t) (tD G WF e) vs σ H Q := by
    obtain ⟨κ, w, s, ok, q⟩ := h
    refine ⟨κ, w, s, ok, ?_⟩
    unfold aLc at q
    cases e1 : it s with
    | stuck => rw [e1] at q; exact q.elim
    | exc x s' => rw [e1] at q; exact q
    | ok items s1 =>
      rw [e1] at q
      rw [Res.bind_ok] at q
      intro w1 J H1 l1 o1 hJ D hD
      refine lc_of hs hJ o1 hD ?_
      cases e2 : noX (lcL vs g t e items [] s1) with
      | stuck => rw [e2] at q; exact q.elim
      | exc x s' => exact absurd e2 (noX_exc _ _ _)
      | ok ys s2 =>
        rw [e2] at q
        intro w2 acc H2 l2 o2 r2
        exact q w2 D acc H2 (l1.trans l2) (Ok.unwipe o1 l2 o2 rfl) (o1.apart hD) r2
/-- name = [..] on one line, the name a plain local -/
theorem pds_setLc {i : Nat} {y : Str} {py : Pos} {elt tg iter : Expr} {ifs : List Expr} {scope : Scope} {own : List (Str × Nat)} {is : List Nat} {pos spos : Pos} {it : DA} {g : DG} {t : DT} {e : DE} (hc : X.calm = true) (hN : X.N.Nodup) (hy : X.N[i]? = some y) (hyl : X.env.scope.names.lookup y = some .local)
    (hsw : swapsWith (.ListComp elt [⟨tg, iter, ifs, 0⟩] scope pos) (some (.Name y py)) spos.line X.env = pure true) (hi : PDI G W X tg iter it) (ok : BlkOk X.N X.env.scope scope own) (hs' : ∀ i ∈ is, i ∈ own.map (·.2))
    (hg : ∀ (s : Shared) (H : Hp) (C : Addr) (cl : List (Str × Addr)) (fp : List Addr), PDG G (X.blk s H scope (compEnvC scope cl C X.env) fp) tg is g) (ht : ∀ (s : Shared) (H : Hp) (C : Addr) (cl : List (Str × Addr)) (fp : List Addr), PTs (X.blk s H scope (compEnvC scope cl C X.env) fp) ifs (tDT G WF t))
    (he : ∀ (s : Shared) (H : Hp) (C : Addr) (cl : List (Str × Addr)) (fp : List Addr), PD G WF (X.blk s H scope (compEnvC scope cl C X.env) fp) elt e) (hs : ∀ x, foldedSetIterable iter X.env x = pure x := by intro _; rfl) :
    PDS G W X (.Assign [.Name y py] (.ListComp elt [⟨tg, iter, ifs, 0⟩] scope pos) spos) (sSetO i (aLc (own.map (·.2)) it g t e)) :=
  (ps_setLc hc hN hy hyl hsw hi ok hg ht he hs).imp fun N σ H q => by
    have q := setO_of q
    exact pdo_lc.lc_fin hs' q
/-! ### enumerate, zip -/
def enumL (xs : List D) : List D := (List.range xs.length).zipWith (fun (i : Nat) x => .tup [.int (i : Int), x]) xs
def zipL (xs ys : List D) : List D := xs.zipWith (fun x y => .tup [x, y]) ys
theorem zipL_get {xs ys : List D} {i : Nat} {d : D} (h : (zipL xs ys)[i]? = some d) : ∃ x y, xs[i]? = some x ∧ ys[i]? = some y ∧ d = .tup [x, y] := by
  unfold zipL at h
  rw [List.getElem?_zipWith] at h
  cases e1 : xs[i]? with
  | none => simp [e1] at h
  | some x =>
    cases e2 : ys[i]? with
    | none => simp [e1, e2] at h
    | some y => simp [e1, e2] at h; exact ⟨x, y, rfl, rfl, h.symm⟩
theorem enumL_get {xs : List D} {i : Nat} {d : D} (h : (enumL xs)[i]? = some d) : ∃ x, xs[i]? = some x ∧ d = .tup [.int (i : Int), x] := by
  unfold enumL at h
  rw [List.getElem?_zipWith] at h
  cases e2 : xs[i]? with
  | none => simp [e2] at h
  | some y =>
    have hi : i < xs.length := (List.getElem?_eq_some_iff.mp e2).1
    rw [List.getElem?_range hi, e2] at h
    cases h
    exact ⟨y, rfl, rfl⟩
theorem itOk_enum (hK : G.K = X.K) {w : Wd} {a : Addr} {vs : List V} {ds : List D} (e : SqL G.K w.F a vs) (r : Reps G w vs ds) : ItOk G w (Ite X.K a) (enumL ds) := by
  intro w1 S H le fok i
  have q : SqL X.K H a vs := hK ▸ SqL.le (SqL.le e le.f) fok.sub
  refine ⟨fun d hd => ?_, fun hn => ?_⟩
  · obtain ⟨x, h1, rfl⟩ := enumL_get hd
    obtain ⟨y, h2, h3⟩ := r.get h1
    refine ⟨⟨vs, y, q, h2⟩, fun v H' ⟨T, x', hv, hT, hH, hx⟩ => ?_⟩
    have := hx vs q
    rw [h2] at this
    cases this
    obtain ⟨f2, n2⟩ := fok.alloc hT (.tup [.int (i : Nat), y])
    subst hH
    subst hv
    exact ⟨_, n2, f2, .tup (.inl (.inl upd_same)) (.cons (.int _) (.cons ((h3.mono le).mono n2.le) .nil))⟩
  · refine ⟨vs, q, ?_⟩
    have := List.getElem?_eq_none_iff.mp hn
    unfold enumL at this
    rw [List.length_zipWith, List.length_range] at this
    rw [r.length]
    omega
def itEnum (f : DA) : DA := fun s => (f s).bind fun ds s1 => match ds with
  | [.lst xs] => .ok (enumL xs) s1
  | [.scr xs] => .ok (enumL xs) s1
  | _ => .stuck
theorem pdi_enum (hK : G.K = X.K) {e : Expr} {fa : DA} {p pos tpos : Pos} {elts : List Expr} {kk : Nat} (hg : Gl X "enumerate") (hm : X.mg "enumerate" = none) (ha : PDA G W X [e] fa) (hs : starEach [e] X.env = [(false, eval e X.env)] := by rfl) :
    PDI G W X (.Tuple elts kk tpos) (.Call (.Name "enumerate" p) [e] [] pos) (itEnum fa) :=
  (pi_enum hg hm ha hs).imp fun σ H R ⟨κ, w, s, ok, q⟩ => ⟨κ, w, s, ok, (PostG.bindI q).imp fun v H1 ⟨d, s1, w1, le, ok1, r1, q1⟩ => by
    match d, q1 with
    | [.lst xs], q1 =>
      obtain ⟨v, rfl, r⟩ := r1.one
      cases r with
      | @lst a vs ds e r =>
        have e' : SqL G.K w1.F a vs := .inl (.inl e)
        exact ⟨a, vs, rfl, hK ▸ SqL.le e' ok1.fok.sub, q1 w1 _ H1 (.refl _) ok1 (itOk_enum hK e' r)⟩
    | [.scr xs], q1 =>
      obtain ⟨v, rfl, r⟩ := r1.one
      cases r with
      | @scr a vs ds e r => exact ⟨a, vs, rfl, hK ▸ SqL.le e ok1.fok.sub, q1 w1 _ H1 (.refl _) ok1 (itOk_enum hK e r)⟩⟩
theorem zip_none {vs ws : List V} {ds es : List D} {w : Wd} {i : Nat} (r : Reps G w vs ds) (r' : Reps G w ws es) (hn : (zipL ds es)[i]? = none) : vs.length ≤ i ∨ ws.length ≤ i := by
  have := List.getElem?_eq_none_iff.mp hn
  unfold zipL at this
  rw [List.length_zipWith] at this
  rw [r.length, r'.length]
  omega
theorem itOk_zip (hK : G.K = X.K) {w : Wd} {a b : Addr} {vs ws : List V} {ds es : List D} (e : SqL G.K w.F a vs) (e' : SqL G.K w.F b ws) (r : Reps G w vs ds) (r' : Reps G w ws es) : ItOk G w (Itz X.K a b) (zipL ds es) := by
  intro w1 S H le fok i
  have q : SqL X.K H a vs := hK ▸ SqL.le (SqL.le e le.f) fok.sub
  have q' : SqL X.K H b ws := hK ▸ SqL.le (SqL.le e' le.f) fok.sub
  refine ⟨fun d hd => ?_, fun hn => ⟨vs, ws, q, q', zip_none r r' hn⟩⟩
  obtain ⟨x, y, h1, h1', rfl⟩ := zipL_get hd
  obtain ⟨x', h2, h3⟩ := r.get h1
  obtain ⟨y', h2', h3'⟩ := r'.get h1'
  refine ⟨⟨vs, ws, x', y', q, q', h2, h2'⟩, fun v H' ⟨T, x2, y2, hv, hT, hH, hx, hy⟩ => ?_⟩
  have := hx vs q
  rw [h2] at this
  cases this
  have := hy ws q'
  rw [h2'] at this
  cases this
  obtain ⟨f2, n2⟩ := fok.alloc hT (.tup [x', y'])
  subst hH
  subst hv
  exact ⟨_, n2, f2, .tup (.inl (.inl upd_same)) (.cons ((h3.mono le).mono n2.le) (.cons ((h3'.mono le).mono n2.le) .nil))⟩
theorem itOk_zipT (hK : G.K = X.K) {w : Wd} {a b : Addr} {vs ws : List V} {ds es : List D} (e : SqT G.K w.F a vs) (e' : SqT G.K w.F b ws) (r : Reps G w vs ds) (r' : Reps G w ws es) : ItOk G w (ItzT X.K a b) (zipL ds es) := by
  intro w1 S H le fok i
  have q : SqT X.K H a vs := hK ▸ SqT.le (SqT.le e le.f) fok.sub
  have q' : SqT X.K H b ws := hK ▸ SqT.le (SqT.le e' le.f) fok.sub
  refine ⟨fun d hd => ?_, fun hn => ⟨vs, ws, q, q', zip_none r r' hn⟩⟩
  obtain ⟨x, y, h1, h1', rfl⟩ := zipL_get hd
  obtain ⟨x', h2, h3⟩ := r.get h1
  obtain ⟨y', h2', h3'⟩ := r'.get h1'
  refine ⟨⟨vs, ws, x', y', q, q', h2, h2'⟩, fun v H' ⟨T, x2, y2, hv, hT, hH, hx, hy⟩ => ?_⟩
  have := hx vs q
  rw [h2] at this
  cases this
  have := hy ws q'
  rw [h2'] at this
  cases this
  obtain ⟨f2, n2⟩ := fok.alloc hT (.tup [x', y'])
  subst hH
  subst hv
  exact ⟨_, n2, f2, .tup (.inl (.inl upd_same)) (.cons ((h3.mono le).mono n2.le) (.cons ((h3'.mono le).mono n2.le) .nil))⟩
def itZip (f : DA) : DA := fun s => (f s).bind fun ds s1 => match ds with
  | [.lst xs, .lst ys] => .ok (zipL xs ys) s1
  | [.tup xs, .tup ys] => .ok (zipL xs ys) s1
  | _ => .stuck
theorem pdi_zip (hK : G.K = X.K) {e e2 : Expr} {fa : DA} {p pos tpos : Pos} {elts : List Expr} {kk : Nat} (hg : Gl X "zip") (hm : X.mg "zip" = none) (ha : PDA G W X [e, e2] fa)
    (hs : starEach [e, e2] X.env = (false, eval e X.env) :: starEach [e2] X.env := by rfl) (hpl : (backTo pos (starEach [e2] X.env)).any (·.1) = false := by rfl) :
    PDI G W X (.Tuple elts kk tpos) (.Call (.Name "zip" p) [e, e2] [] pos) (itZip fa) :=
  (pi_zipA hg hm ha hs hpl).imp fun σ H R ⟨κ, w, s, ok, q⟩ => ⟨κ, w, s, ok, (PostG.bindI q).imp fun v H1 ⟨d, s1, w1, le, ok1, r1, q1⟩ => by
    match d, q1 with
    | [.lst xs, .lst ys], q1 =>
      obtain ⟨v, v', rfl, r, r'⟩ := r1.two
      cases r with
      | @lst a vs ds e r =>
        cases r' with
        | @lst b ws es e' r' =>
          have e1 : SqL G.K w1.F a vs := .inl (.inl e)
          have e2 : SqL G.K w1.F b ws := .inl (.inl e')
          exact ⟨a, b, vs, ws, rfl, .inl ⟨hK ▸ SqL.le e1 ok1.fok.sub, hK ▸ SqL.le e2 ok1.fok.sub, q1 w1 _ H1 (.refl _) ok1 (itOk_zip hK e1 e2 r r')⟩⟩
    | [.tup xs, .tup ys], q1 =>
      obtain ⟨v, v', rfl, r, r'⟩ := r1.two
      cases r with
      | @tup a vs ds e r =>
        cases r' with
        | @tup b ws es e' r' =>
          exact ⟨a, b, vs, ws, rfl, .inr ⟨hK ▸ SqT.le e ok1.fok.sub, hK ▸ SqT.le e' ok1.fok.sub, q1 w1 _ H1 (.refl _) ok1 (itOk_zipT hK e e' r r')⟩⟩⟩
/-! ### x.append(e) of an own list; x += e -/
/-- the list at an own slot -/
theorem own_list {κ : Bs} {w : Wd} {s : DS} {σ : L2.St} {H : Hp} {i : Nat} {xs : List D} (ok : Ok G κ w s σ H) (e : s.sl[i]? = some (.ol xs)) : ∃ a vs, σ[i]? = some (some (.ref a)) ∧ H a = some (.lst vs) ∧ Reps G w vs xs := by
  obtain ⟨a, h1, ⟨vs, h2, h3⟩, _⟩ := ok.own i _ e rfl
  exact ⟨a, vs, h1, h2, h3⟩
def sApp (i : Nat) (fa : DA) : DStm := fun s => match s.sl[i]? with
  | some (.ol _) => (fa s).bind fun ds s1 => match ds, s1.sl[i]? with
    | [d], some (.ol xs) => if xs.length < 1000000 then .ok .nx ⟨s1.sl.set i (.ol (xs ++ [d])), s1.st⟩ else .stuck
    | _, _ => .stuck
  | _ => .stuck
theorem app_of {i : Nat} {fa : DA} {N : Ends} {σ : L2.St} {H : Hp} (h : tDS G W (sApp i fa) N σ H) : tDrop (tBM X.K "list" rAppend (tVar i) (tDA G W fa)) N σ H := by
  obtain ⟨κ, w, s, ok, q⟩ := h
  unfold sApp at q
  cases e : s.sl[i]? with
  | none => rw [e] at q; exact q.elim
  | some y =>
    rw [e] at q
    cases y with
    | ol xs0 =>
      obtain ⟨a, vs, h1, h2, h3⟩ := own_list ok e
      refine ⟨.ref a, h1, .inl ⟨rfl, vs, .inl (.inl h2)⟩, κ, w, s, ok, (PostG.bindS q).imp fun v H1 ⟨d, s1, w1, le, ok1, r1, q1⟩ => ?_⟩
      match d, q1 with
      | [d], q1 =>
        cases e1 : s1.sl[i]? with
        | none => rw [e1] at q1; exact q1.elim
        | some z =>
          rw [e1] at q1
          cases z with
          | ol xs =>
            replace q1 : PostS G W κ w1 (if xs.length < 1000000 then .ok .nx ⟨s1.sl.set i (.ol (xs ++ [d])), s1.st⟩ else .stuck) N := q1
            split at q1
            · rename_i c
              obtain ⟨a', vs', g1, g2, g3⟩ := own_list ok1 e1
              rw [h1] at g1
              cases g1
              obtain ⟨y, rfl, ry⟩ := r1.one
              refine ⟨a, vs', y, rfl, rfl, g2, by rw [g3.length, sizeLine_eq]; omega, ?_⟩
              exact q1 w1 σ _ (.refl _) (ok1.mut e1 rfl rfl h1 ⟨_, upd_same, g3.append (.cons ry .nil)⟩ fun _ _ z => nomatch z)
            · exact q1.elim
          | _ => exact q1.elim
      | [], q1 => cases e1 : s1.sl[i]? <;> exact q1.elim
      | _ :: _ :: _, q1 => cases e1 : s1.sl[i]? <;> exact q1.elim
    | _ => exact q.elim
theorem pds_append {i : Nat} {x : Str} {p apos cpos pos : Pos} {e : Expr} {fa : DA} (ho : PE X (.Name x p) (tVar i)) (ha : PDA G W X [e] fa)
    (hbase : attributeBase (.Name x p) "append" X.env (eval (.Name x p) X.env) = eval (.Name x p) X.env := by rfl)
    (hfew : ((backTo cpos (starEach [e] X.env)).all (fun x => !x.1) && (backToKw cpos (keywordEach [] X.env)).all (fun x => x.1.isSome)
      && decide ([e].length + ([] : List Keyword).length + (if ([] : List Keyword).isEmpty then 0 else 1) < 30)) = true := by rfl)
    (hline : (apos.endLine == cpos.line) = true := by rfl) (hs : starEach [e] X.env = (false, eval e X.env) :: starEach [] X.env := by rfl) (hplain : (backTo cpos (starEach [] X.env)).any (·.1) = false := by rfl)
    (hsw : swapsWith (.Call (.Attribute (.Name x p) "append" apos) [e] [] cpos) none pos.line X.env = pure false := by rfl) : PDS G W X (.Expr (.Call (.Attribute (.Name x p) "append" apos) [e] [] cpos) pos) (sApp i fa) :=
  (ps_expr (pe_bm PySem.F.plainAttrs_list PySem.F.slot_list_append PySem.F.type_list_append mt_append ho ha hbase hfew hline hs hplain) hsw).imp fun N σ H q => app_of q
/-- x += e of ints -/
def sAug (i : Nat) (o : Int → Int → Int) (f : DE) : DStm := fun s => match s.sl[i]? with
  | some (.val (.int a)) => (f s).bind fun d s1 => match d with
    | .int b => .ok .nx ⟨s1.sl.set i (.val (.int (o a b))), s1.st⟩
    | _ => .stuck
  | _ => .stuck
theorem pds_aug {i : Nat} {x : Str} {e : Expr} {f : DE} {op : Operator} {o : Int → Int → Int} {pos pos' : Pos} (hN : X.N.Nodup) (hi : X.N[i]? = some x) (hx : Loc X.env.scope x) (he : PD G W X e f) (ho : PIp X op (ipI o))
    (hf : X.fn x = true ∨ X.env.scope.names.lookup x = some .local := by first | exact .inl rfl | exact .inr rfl | assumption) : PDS G W X (.AugAssign (.Name x pos') op e pos) (sAug i o f) :=
  (ps_aug hN hi hx he ho hf).imp fun N σ H ⟨κ, w, s, ok, q⟩ => by
    unfold sAug at q
    cases e : s.sl[i]? with
    | none => rw [e] at q; exact q.elim
    | some y =>
      rw [e] at q
      cases y with
      | val d =>
        cases d with
        | int a =>
          obtain ⟨v, h1, h2⟩ := ok.val i _ e
          cases h2
          refine ⟨.int a, h1, κ, w, s, ok, (PostG.bindS q).imp fun v H1 ⟨d, s1, w1, le, ok1, r1, q1⟩ => ?_⟩
          cases r1 with
          | int b => exact ⟨a, b, rfl, rfl, q1 w1 _ H1 (.refl _) (ok1.setVal (.int _) i)⟩
          | _ => exact q1.elim
        | _ => exact q.elim
      | _ => exact q.elim
/-- a < b < c -/
def eChain (o o' : D → D → Option D) (fa fb fc : DE) : DE := fun s => (fa s).bind fun x s1 => (fb s1).bind fun y s2 => match o x y with
  | some (.bl true) => (fc s2).bind fun z s3 => match o' y z with
    | some d => .ok d s3
    | none => .stuck
  | some (.bl false) => .ok (.bl false) s2
  | _ => .stuck
theorem op2b {r : R2} {o : D → D → Option D} (hr : ∀ (κ : Bs) (w : Wd) (s : DS) (σ : L2.St) (H : Hp) (x y : V) (dx dy d : D) (Q : VK), Ok G κ w s σ H → Rep G w x dx → Rep G w y dy → o dx dy = some d → (∀ w' v H', w.le w' → Ok G κ w' s σ H' → Rep G w' v d → Q v H') → r x y H Q) :
    ∀ (κ : Bs) (w : Wd) (s : DS) (σ : L2.St) (H : Hp) (x y : V) (dx dy d : D) (Q : VK), Ok G κ w s σ H → Rep G w x dx → Rep G w y dy → o dx dy = some d → (∀ w' v H', w.le w' → Ok G κ w' s σ H' → Rep G w' v d → Q v H') → r x y H Q := hr
theorem pd_chain {op op' : CmpOp} {o o' : D → D → Option D} {a b c : Expr} {fa fb fc : DE} {pos : Pos} (ho : OpD G X (compareOp op) o) (ho' : OpD G X (compareOp op') o') (ha : PD G W X a fa) (hb : PD G W X b fb) (hc : PD G W X c fc)
    (hp : ∀ {r r' : R2} {ta tb tc : TE}, OpR X (compareOp op) r → OpR X (compareOp op') r' → PE X a ta → PE X b tb → PE X c tc → PE X (.Compare a [op, op'] [b, c] pos) (tChain r r' ta tb tc)) : PD G W X (.Compare a [op, op'] [b, c] pos) (eChain o o' fa fb fc) := by
  obtain ⟨r, h1, h2⟩ := ho
  obtain ⟨r', h1', h2'⟩ := ho'
  refine (hp h1 h1' ha hb hc).imp fun σ H Q ⟨κ, w, s, ok, q⟩ => ⟨κ, w, s, ok, (PostG.bind q).imp fun v H1 ⟨d, s1, w1, le, ok1, r1, q1⟩ => ⟨κ, w1, s1, ok1, (PostG.bind q1).imp fun v2 H2 ⟨d2, s2, w2, le2, ok2, r2, q2⟩ => ?_⟩⟩
  cases e : o d d2 with
  | none => rw [e] at q2; exact q2.elim
  | some z =>
    rw [e] at q2
    refine h2 κ w2 s2 σ H2 v v2 d d2 z _ ok2 (r1.mono le2) r2 e fun w3 v3 H3 l3 o3 r3 => ?_
    cases r3 with
    | bl k =>
      refine ⟨k, rfl, ?_⟩
      cases k with
      | false => exact q2 w3 _ H3 l3 o3 (.bl false)
      | true =>
        refine ⟨κ, w3, s2, o3, (PostG.bind (PostG.mono l3 q2)).imp fun v4 H4 ⟨d4, s4, w4, le4, ok4, r4, q4⟩ => ?_⟩
        cases e' : o' d2 d4 with
        | none => rw [e'] at q4; exact q4.elim
        | some z' => rw [e'] at q4; exact h2' κ w4 s4 σ H4 v2 v4 d2 d4 z' Q ok4 ((r2.mono l3).mono le4) r4 e' q4
    | _ => exact q2.elim
end
end DL
set_option maxRecDepth 100000
set_option maxHeartbeats 4000000
set_option autoImplicit false
namespace DL
open PySem PySem.Spec PyProof.Rows L2
section
variable {G : Gam} {W : WX} {X : Cx}
/-! ### a for over a list, a tuple, a text -/
theorem pi_any {tg l : Expr} {tl : TE} (hl : PE X l tl) : PI X tg l (fun σ H R => tl σ H fun x H1 => (∃ a, x = .ref a ∧ (∃ xs, SqL X.K H1 a xs) ∧ R (Itl X.K a) H1) ∨ (∃ a, x = .ref a ∧ (∃ xs, SqT X.K H1 a xs) ∧ R (Itt X.K a) H1) ∨ ∃ y, x = .str y ∧ R (Its y) H1) := by
  refine ⟨fun pins s σ H R I h => ?_⟩
  refine thn (hl.run pins s σ H _ I h) fun v s1 ⟨x, H1, I1, r1, q1⟩ => ?_
  rcases q1 with ⟨a, e, ⟨xs, hq⟩, q⟩ | ⟨a, e, ⟨xs, hq⟩, q⟩ | ⟨y, e, q⟩
  · subst e
    cases r1
    obtain ⟨its, rv, p, hz⟩ := I1.list hq
    refine wpAny_pyIter_list p.isList ?_
    refine ⟨s1.heap.objs.size, [s1.heap.objs.size], _, _, H1, rfl, I1.kept (t' := s1.toks) fun b o e => Heap.get?_push_of_some _ e, turn_list a _, ⟨_, Heap.get?_push_size _ rfl, rfl, rfl⟩, fun b hb => ?_, q⟩
    have e : b = s1.heap.objs.size := by simpa using hb
    subst e
    exact I1.fpOk (Nat.le_refl _) (I1.hok.fresh (Nat.le_refl _))
  · subst e
    cases r1
    obtain ⟨its, rv, p, hz⟩ := I1.tuple hq
    refine wpAny_pyIter_tuple (show s1.heap.IsTuple a its.toArray from p) ?_
    refine ⟨s1.heap.objs.size, [s1.heap.objs.size], _, _, H1, rfl, I1.kept (t' := s1.toks) fun b o e => Heap.get?_push_of_some _ e, turn_tuple a _, ⟨_, Heap.get?_push_size _ rfl, rfl, rfl⟩, fun b hb => ?_, q⟩
    have e : b = s1.heap.objs.size := by simpa using hb
    subst e
    exact I1.fpOk (Nat.le_refl _) (I1.hok.fresh (Nat.le_refl _))
  · subst e
    obtain ⟨t, rfl⟩ := r1
    cases ha : y.cps.all (· < 128)
    · exact wpAny_pyIter_wide ha (pi_one (tk := s1.toks) I1 _ (turn_str _ y t "str_iterator" (.inr rfl)) ⟨_, Heap.get?_push_size _ rfl, rfl, rfl⟩ q)
    · exact wpAny_pyIter_ascii ha (pi_one (tk := s1.toks) I1 _ (turn_str _ y t "str_ascii_iterator" (.inl rfl)) ⟨_, Heap.get?_push_size _ rfl, rfl, rfl⟩ q)
theorem itOk_str {w : Wd} (l : Nm) : ItOk G w (Its (nm l)) (l.map fun c => D.str [c]) := by
  intro w1 S H le fok i
  refine ⟨fun d hd => ?_, fun hn => ?_⟩
  · rw [List.getElem?_map] at hd
    cases e : l[i]? with
    | none => rw [e] at hd; cases hd
    | some c =>
      rw [e] at hd
      cases hd
      have hc : (nm l).cps[i]? = some c := by simpa [nm] using e
      refine ⟨?_, fun x H' hy => ?_⟩
      · show i < (nm l).cps.size
        exact (Array.getElem?_eq_some_iff.mp hc).1
      · obtain ⟨hH, c', hc', hx⟩ := hy
        rw [hc] at hc'
        cases hc'
        subst hH
        subst hx
        exact ⟨w1, .refl _ _, fok, .str [c]⟩
  · show (nm l).cps.size ≤ i
    rw [List.getElem?_map] at hn
    cases e : l[i]? with
    | some c => rw [e] at hn; cases hn
    | none =>
      have := List.getElem?_eq_none_iff.mp e
      simpa [nm] using this
def itemsD (d : D) : Option (List D) := match d with
  | .lst xs => some xs
  | .scr xs => some xs
  | .tup xs => some xs
  | .str l => some (l.map fun c => .str [c])
  | _ => none
def itSeq (f : DE) : DA := fun s => (f s).bind fun d s1 => match itemsD d with
  | some xs => .ok xs s1
  | none => .stuck
theorem pdi_seq (hK : G.K = X.K) {tg e : Expr} {f : DE} (h : PD G W X e f) : PDI G W X tg e (itSeq f) :=
  (pi_any h).imp fun σ H R ⟨κ, w, s, ok, q⟩ => ⟨κ, w, s, ok, (PostG.bindI q).imp fun v H1 ⟨d, s1, w1, le, ok1, r1, q1⟩ => by
    cases r1 with
    | @lst a vs ds e r =>
      have e' : SqL G.K w1.F a vs := .inl (.inl e)
      exact .inl ⟨a, rfl, ⟨vs, hK ▸ SqL.le e' ok1.fok.sub⟩, q1 w1 _ H1 (.refl _) ok1 (itOk_list hK e' (fun _ _ _ _ _ => trivial) r fun _ _ => trivial)⟩
    | @scr a vs ds e r =>
      exact .inl ⟨a, rfl, ⟨vs, hK ▸ SqL.le e ok1.fok.sub⟩, q1 w1 _ H1 (.refl _) ok1 (itOk_list hK e (fun _ _ _ _ _ => trivial) r fun _ _ => trivial)⟩
    | @tup a vs ds e r => exact .inr (.inl ⟨a, rfl, ⟨vs, hK ▸ SqT.le e ok1.fok.sub⟩, q1 w1 _ H1 (.refl _) ok1 (itOk_tup hK e r)⟩)
    | str l => exact .inr (.inr ⟨nm l, rfl, q1 w1 _ H1 (.refl _) ok1 (itOk_str l)⟩)
    | _ => exact q1.elim⟩
/-! ### + and * in all -/
def lAdd : D → D → Option D := fun x y => match x, y with
  | .lst a, .lst b => if a.length + b.length ≤ 1000000 then some (.lst (a ++ b)) else none
  | _, _ => none
theorem opd_ladd : OpD G X (binaryOp .Add) lAdd := ⟨_, op_cat, fun κ w s σ H x y dx dy d Q ok rx ry e q => by
  cases rx with
  | @lst a vs ds e1 r1 =>
    cases ry with
    | @lst a2 vs2 ds2 e2 r2 =>
      have e : (if ds.length + ds2.length ≤ 1000000 then some (D.lst (ds ++ ds2)) else none) = some d := e
      split at e
      · cases e
        refine ⟨a, a2, vs, vs2, rfl, rfl, ok.fok.sub _ _ e1, ok.fok.sub _ _ e2, by rw [r1.length, r2.length, sizeLine_eq]; omega, fun p hp => ?_⟩
        obtain ⟨le2, ok2⟩ := ok.alloc hp (.lst (vs ++ vs2))
        exact q _ _ _ le2 ok2 (.lst upd_same ((r1.append r2).mono le2))
      · cases e
    | _ => exact nomatch e
  | _ => exact nomatch e⟩
def lMul : D → D → Option D := fun x y => match x, y with
  | .lst a, .int k => if -(2 ^ 63) ≤ k ∧ k < 2 ^ 63 ∧ a.length * k.toNat ≤ 1000000 then some (.lst (List.replicate k.toNat a).flatten) else none
  | _, _ => none
theorem opd_lmul : OpD G X (binaryOp .Mult) lMul := ⟨_, op_rep, fun κ w s σ H x y dx dy d Q ok rx ry e q => by
  cases rx with
  | @lst a vs ds e1 r1 =>
    cases ry with
    | int k =>
      have e : (if -(2 ^ 63) ≤ k ∧ k < 2 ^ 63 ∧ ds.length * k.toNat ≤ 1000000 then some (D.lst (List.replicate k.toNat ds).flatten) else none) = some d := e
      split at e
      · rename_i c
        cases e
        refine ⟨a, k, vs, rfl, rfl, ok.fok.sub _ _ e1, c.1, c.2.1, by rw [r1.length, sizeLine_eq]; omega, fun p hp => ?_⟩
        obtain ⟨le2, ok2⟩ := ok.alloc hp (.lst (List.replicate k.toNat vs).flatten)
        exact q _ _ _ le2 ok2 (.lst upd_same ((r1.rep _).mono le2))
      · cases e
    | _ => exact nomatch e
  | _ => exact nomatch e⟩
theorem OpD.or {f : Value → Value → Sem Value} {o o' : D → D → Option D} (h : OpD G X f o) (h' : OpD G X f o') : OpD G X f (fun x y => (o x y).orElse fun _ => o' x y) := by
  obtain ⟨r, h1, h2⟩ := h
  obtain ⟨r', h1', h2'⟩ := h'
  refine ⟨_, h1.or h1', fun κ w s σ H x y dx dy d Q ok rx ry e q => ?_⟩
  have e : ((o dx dy).orElse fun _ => o' dx dy) = some d := e
  cases e1 : o dx dy with
  | some z => rw [e1] at e; cases e; exact .inl (h2 κ w s σ H x y dx dy _ Q ok rx ry e1 q)
  | none => rw [e1] at e; exact .inr (h2' κ w s σ H x y dx dy d Q ok rx ry e q)
def dAdd : D → D → Option D := fun x y => match x, y with
  | .int i, .int j => some (.int (i + j))
  | x, y => (sAdd x y).orElse fun _ => lAdd x y
theorem OpD.congr {f : Value → Value → Sem Value} {o o' : D → D → Option D} (h : OpD G X f o) (e : ∀ x y, o' x y = o x y) : OpD G X f o' := by
  have : o' = o := by funext x y; exact e x y
  rw [this]; exact h
theorem opd_addA (hK : G.K = X.K) : OpD G X (binaryOp .Add) dAdd := (opd_add.or ((opd_sadd hK).or opd_ladd)).congr fun x y => by
  cases x <;> cases y <;> rfl
def dMul : D → D → Option D := fun x y => match x, y with
  | .int i, .int j => if mulOk i j then some (.int (i * j)) else none
  | x, y => lMul x y
theorem opd_mulA : OpD G X (binaryOp .Mult) dMul := (opd_mul.or opd_lmul).congr fun x y => by
  cases x <;> cases y <;> first
    | rfl
    | (rename_i i j
       show (if mulOk i j then some (D.int (i * j)) else none) = ((if mulOk i j then some (D.int (i * j)) else none).orElse fun _ => lMul (.int i) (.int j))
       split <;> rfl)
/-! ### a, b, c = x, y, z -/
def sPar3 (i j l : Nat) (f : DA) : DStm := fun s => (f s).bind fun ds s1 => match ds with
  | [x, y, z] => .ok .nx ⟨((s1.sl.set i (.val x)).set j (.val y)).set l (.val z), s1.st⟩
  | _ => .stuck
theorem pds_par3 {i j l : Nat} {x y z : Str} {a b c : Expr} {f : DA} {px py pz pt pos : Pos} {kt k2 : Nat} {pt2 : Pos} (hc : X.calm = true) (hN : X.N.Nodup) (hi : X.N[i]? = some x) (hj : X.N[j]? = some y) (hl : X.N[l]? = some z) (hij : i ≠ j) (hil : i ≠ l) (hjl : j ≠ l)
    (hx : X.env.scope.names.lookup x = some .local) (hy : X.env.scope.names.lookup y = some .local) (hz : X.env.scope.names.lookup z = some .local) (ha : PDA G W X [a, b, c] f)
    (hw : swappedStores [.Tuple [.Name x px, .Name y py, .Name z pz] kt pt] (.Tuple [a, b, c] k2 pt2) X.env = pure (some [x, y, z]))
    (hs : swapsWithSole [.Tuple [.Name x px, .Name y py, .Name z pz] kt pt] (.Tuple [a, b, c] k2 pt2) pos.line X.env = pure false := by rfl) :
    PDS G W X (.Assign [.Tuple [.Name x px, .Name y py, .Name z pz] kt pt] (.Tuple [a, b, c] k2 pt2) pos) (sPar3 i j l f) :=
  (ps_par3 hc hN hi hj hl hij hil hjl hx hy hz ha hw hs).imp fun N σ H ⟨κ, w, s, ok, q⟩ => ⟨κ, w, s, ok, (PostG.bindS q).imp fun v H1 ⟨d, s1, w1, le, ok1, r1, q1⟩ => by
    match d, q1, r1 with
    | [x, y, z], q1, .cons a (.cons b (.cons c .nil)) => exact ⟨_, _, _, rfl, q1 w1 _ H1 (.refl _) (((ok1.setVal a i).setVal b j).setVal c l)⟩
    | [], q1, _ => exact q1.elim
    | [_], q1, _ => exact q1.elim
    | [_, _], q1, _ => exact q1.elim
    | _ :: _ :: _ :: _ :: _, q1, _ => exact q1.elim⟩
/-! ### types as values -/
theorem pd_bltn {x : Str} {n : String} {pos : Pos} (hg : Gl X x) (hm : X.mg x = none) (hv : bootBuiltins x = some (.type n)) (hn : x ≠ "__name__" := by decide) (hd : (x == ("__debug__" : Str)) = false := by decide) : PD G W X (.Name x pos) (eC (.ty n)) :=
  pd_c (pe_bltn (v := .ty n) hg hm hv rfl hn hd) fun _ => .ty n
theorem pd_cls {x : Str} {c : String} {C : Addr} {pos : Pos} (hg : Gl X x) (hm : X.mg x = some (.ref C)) (hC : G.ct c = some C) (hd : (x == ("__debug__" : Str)) = false := by decide) : PD G W X (.Name x pos) (eC (.cls c)) :=
  pd_c (pe_glob (v := .ref C) hg hm rfl hd) fun _ => .cls hC
/-! ### slices of tuples and texts, xs[::-1] -/
def eSlT (f : DE) (l h : DOp) : DE := fun s => (f s).bind fun d s1 => (l s1).bind fun lo s2 => (h s2).bind fun hi s3 => match d with
  | .tup xs => if (cutD xs lo hi).length ≠ xs.length then .ok (.tup (cutD xs lo hi)) s3 else .stuck
  | _ => .stuck
theorem cut_len {w : Wd} {vs : List V} {ds : List D} (r : Reps G w vs ds) (lo hi : Option Int) : (cutV vs lo hi).length = (cutD ds lo hi).length := (r.cut lo hi).length
theorem pd_slT (hK : G.K = X.K) {e : Expr} {lo hi : Option Expr} {f : DE} {l h : DOp} {p2 pos : Pos} (he : PD G W X e f) (hl : PO X lo (tDO G W l)) (hh : PO X hi (tDO G W h)) : PD G W X (.Subscript e (.Slice lo hi none p2) pos) (eSlT f l h) :=
  (pe_slice sl_tup he hl hh).imp fun σ H Q ⟨κ, w, s, ok, q⟩ => ⟨κ, w, s, ok, (PostG.bind q).imp fun v H1 ⟨d, s1, w1, le, ok1, r1, q1⟩ => ⟨κ, w1, s1, ok1, (PostG.bind q1).imp fun v2 H2 ⟨d2, s2, w2, le2, ok2, r2, q2⟩ =>
    ⟨κ, w2, s2, ok2, (PostG.bind q2).imp fun v3 H3 ⟨d3, s3, w3, le3, ok3, r3, q3⟩ => by
      subst r2
      subst r3
      cases r1 with
      | @tup a vs ds e r =>
        replace q3 : PostG G W (Rep G) κ w3 σ (if (cutD ds v2 v3).length ≠ ds.length then .ok (.tup (cutD ds v2 v3)) s3 else .stuck) Q := q3
        split at q3
        · rename_i c
          have rr := (r.mono le2).mono le3
          refine ⟨a, vs, rfl, hK ▸ SqT.le (SqT.le (SqT.le e le2.f) le3.f) ok3.fok.sub, ?_, fun p hp => ?_⟩
          · intro z
            apply c
            rw [← cut_len rr, ← rr.length]
            unfold cutV
            rw [z.1, z.2]
            simp
          · obtain ⟨le4, ok4⟩ := ok3.alloc hp (.tup (cutV vs v2 v3))
            exact q3 _ _ _ le4 ok4 (.tup (.inl (.inl upd_same)) ((rr.cut v2 v3).mono le4))
        · exact q3.elim
      | _ => exact q3.elim⟩⟩⟩
/-- a slice of a list or of a tuple -/
def slD (d : D) (lo hi : Option Int) : Option D := match d with
  | .lst xs => some (.lst (cutD xs lo hi))
  | .scr xs => some (.lst (cutD xs lo hi))
  | .tup xs => if (cutD xs lo hi).length ≠ xs.length then some (.tup (cutD xs lo hi)) else none
  | _ => none
def eSlA (f : DE) (l h : DOp) : DE := fun s => (f s).bind fun d s1 => (l s1).bind fun lo s2 => (h s2).bind fun hi s3 => match slD d lo hi with
  | some x => .ok x s3
  | none => .stuck
theorem pd_slA (hK : G.K = X.K) {e : Expr} {lo hi : Option Expr} {f : DE} {l h : DOp} {p2 pos : Pos} (he : PD G W X e f) (hl : PO X lo (tDO G W l)) (hh : PO X hi (tDO G W h)) : PD G W X (.Subscript e (.Slice lo hi none p2) pos) (eSlA f l h) :=
  (pe_slice (sl_list.or sl_tup) he hl hh).imp fun σ H Q ⟨κ, w, s, ok, q⟩ => ⟨κ, w, s, ok, (PostG.bind q).imp fun v H1 ⟨d, s1, w1, le, ok1, r1, q1⟩ => ⟨κ, w1, s1, ok1, (PostG.bind q1).imp fun v2 H2 ⟨d2, s2, w2, le2, ok2, r2, q2⟩ =>
    ⟨κ, w2, s2, ok2, (PostG.bind q2).imp fun v3 H3 ⟨d3, s3, w3, le3, ok3, r3, q3⟩ => by
      subst r2
      subst r3
      cases r1 with
      | @lst a vs ds e r =>
        have e := le3.f _ _ (le2.f _ _ e)
        refine .inl ⟨a, vs, rfl, .inl (.inl (ok3.fok.sub _ _ e)), fun p hp => ?_⟩
        obtain ⟨le4, ok4⟩ := ok3.alloc hp (.lst (cutV vs v2 v3))
        exact q3 _ _ _ le4 ok4 (.lst upd_same ((((r.mono le2).mono le3).cut v2 v3).mono le4))
      | @scr a vs ds e r =>
        refine .inl ⟨a, vs, rfl, hK ▸ SqL.le (SqL.le (SqL.le e le2.f) le3.f) ok3.fok.sub, fun p hp => ?_⟩
        obtain ⟨le4, ok4⟩ := ok3.alloc hp (.lst (cutV vs v2 v3))
        exact q3 _ _ _ le4 ok4 (.lst upd_same ((((r.mono le2).mono le3).cut v2 v3).mono le4))
      | @tup a vs ds e r =>
        right
        have rr := (r.mono le2).mono le3
        cases e4 : slD (.tup ds) v2 v3 with
        | none => rw [e4] at q3; exact q3.elim
        | some x =>
          rw [e4] at q3
          have e4 : (if (cutD ds v2 v3).length ≠ ds.length then some (D.tup (cutD ds v2 v3)) else none) = some x := e4
          split at e4
          · rename_i c
            cases e4
            refine ⟨a, vs, rfl, hK ▸ SqT.le (SqT.le (SqT.le e le2.f) le3.f) ok3.fok.sub, ?_, fun p hp => ?_⟩
            · intro z
              apply c
              rw [← cut_len rr, ← rr.length]
              unfold cutV
              rw [z.1, z.2]
              simp
            · obtain ⟨le4, ok4⟩ := ok3.alloc hp (.tup (cutV vs v2 v3))
              exact q3 _ _ _ le4 ok4 (.tup (.inl (.inl upd_same)) ((rr.cut v2 v3).mono le4))
          · cases e4
      | _ => exact q3.elim⟩⟩⟩
/-- xs[::-1] of a list: a new list -/
def aRev (f : DE) : DA := fun s => (f s).bind fun d s1 => match d with
  | .lst xs => .ok xs.reverse s1
  | .scr xs => .ok xs.reverse s1
  | _ => .stuck
theorem Reps.reverse {w : Wd} : ∀ {vs : List V} {ds : List D}, Reps G w vs ds → Reps G w vs.reverse ds.reverse
  | _, _, .nil => .nil
  | _, _, .cons a b => by
    rw [List.reverse_cons, List.reverse_cons]
    exact (Reps.reverse b).append (.cons a .nil)
theorem pdo_rev (hK : G.K = X.K) {e : Expr} {f : DE} {k : Nat} {p1 p2 p3 pos : Pos} (he : PD G W X e f) : PDo G W X (.Subscript e (.Slice none none (some (.UnaryOp .USub (.Constant (.int 1) k p1) p2)) p3) pos) (aRev f) :=
  (pe_revL he).imp fun σ H Q ⟨κ, w, s, ok, q⟩ => ⟨κ, w, s, ok, (PostG.bindO q).imp fun v H1 ⟨d, s1, w1, le, ok1, r1, q1⟩ => by
    cases r1 with
    | @lst a vs ds e r => exact ⟨a, vs, rfl, .inl (.inl (ok1.fok.sub _ _ e)), fun p hp => q1 w1 p _ _ (.refl _) (ok1.fresh hp _) (ok1.apart hp) r.reverse⟩
    | @scr a vs ds e r => exact ⟨a, vs, rfl, hK ▸ SqL.le e ok1.fok.sub, fun p hp => q1 w1 p _ _ (.refl _) (ok1.fresh hp _) (ok1.apart hp) r.reverse⟩
    | _ => exact q1.elim⟩
/-! ### the law's end -/
def spLaw (K : PySem.W.Frag) : Sp := fun vs H Q _ => ∃ (a : Addr) (ns : List Int), vs = [.ref a] ∧ SqL K H a (ns.map V.int) ∧ ns.length ≤ 63 ∧ ∀ H', Q (.bl true) H'
theorem law_end {P : Program} {w0 : World} {mg : Str → Option Value} {base : Heap} {k : Nat} {f : Addr} {fd : FuncData} {ps : List Str} {g : DFn} (F : FnOk P w0 G.K mg base (L2.CX P w0) k f fd ps (spG G 1 g))
    (h : ∀ ns : List Int, ns.length ≤ 63 → ∃ S, g [.scr (ns.map D.int)] [] = .ok (.bl true) S) : FnOk P w0 G.K mg base (L2.CX P w0) k f fd ps (spLaw G.K) :=
  F.imp fun vs H Q E ⟨a, ns, e, hS, hl, q⟩ => by
    obtain ⟨S, hg⟩ := h ns hl
    subst e
    refine ⟨rfl, ⟨H, []⟩, [], [.scr (ns.map D.int)], ⟨fun _ _ e => e, rfl, fun n a c e => by simp at e, List.nodup_nil, fun a ha => by simp at ha⟩, .cons (.scr hS (Reps.of_ints ns)) .nil, ?_⟩
    rw [hg]
    intro w' v H' nx f r
    cases r
    exact q H'
theorem noCX {P : Program} {w : World} : ∀ (H : Hp) (s : Shared) (e : Value) (s' : Shared), L2.CX P w [] H s (fun _ _ _ => False) e s' → False := fun H s e s' h => by
  obtain ⟨_, _, _, _, _, _, _, _, _, _, _, _, z⟩ := h
  exact z
end
end DL
set_option maxRecDepth 100000
set_option maxHeartbeats 4000000
set_option autoImplicit false
namespace DL
open PySem PySem.Spec PyProof.Rows L2
section
variable {G : Gam} {W : WX} {X : Cx}
theorem callD1 {k : Nat} {f : Addr} {fd : FuncData} {ps : List Str} {n : Nat} {g : DFn} {pins : List (Addr × Obj)} {sh : Shared} {κ : Bs} {w : Wd} {s : DS} {σ : L2.St} {H : Hp} {vs : List V} {ds : List D} {us : List Value} {Q : VK}
    (F : FnOk X.prog X.w X.K X.mg X.base (L2.CX X.prog X.w) k f fd ps (spG G n g)) (hr : Room (k + 1) X.A) (hb : Binds X.K fd ps []) (tk : Takes X W) (I : Inv X pins σ H sh) (ok : Ok G κ w s σ H) (rs : Reps G w vs ds) (r : Vals vs us) (hn : ds.length = n)
    (q : PostG G W (Rep G) κ w σ (lift s (g ds s.st)) Q) : wpAny (model X.prog X.w) X.A.in1 (call (.ref f) us) (EP X pins σ Q) X.xe sh := by
  have h : spG G n g vs H Q (WE W σ) := ⟨by rw [rs.length]; exact hn, w, s.st, ds, ok.fok, rs, postF_of ok q⟩
  have hl : us.length = ps.length := by rw [← r.length]; exact F.len _ _ _ _ h
  have hbb := hb sh us I.kIn (by rw [List.append_nil]; exact hl)
  rw [List.append_nil] at hbb
  refine wpAny_call (codeAny_mono (F.run X.A.in1 X.stack sh H ⟨us, []⟩ us vs Q (WE W σ) hr.in1 I.env0.in1 hbb r h) fun r s' hq => ?_)
  cases r with
  | error e => exact passAt tk σ pins H sh e s' I hq
  | ok fl =>
    cases fl with
    | ret u => exact I.after hq
    | next => exact False.elim hq
    | brk => exact False.elim hq
    | cont => exact False.elim hq
/-- a built-in special method of an instance of an own class -/
theorem ifBound_B {M : Model} {A : Around} {E : Value → Shared → Prop} {s : Shared} {K : PySem.W.Frag} {x C : Addr} {ox : Obj} {od : Option Obj} {name : Str} {id : String} {args : List Value} {Q : Option Value → Shared → Prop} (Xk : K.In s.heap) (I : PySem.W.InstAt s.heap x ox C od)
    (hs : PySem.W.findIn K (.ref C) name = some (some (.builtin id))) (hb : ∀ self, bindSpecial (.builtin id) self = pure (.builtin id, [self]))
    (h : wpAny M A (call (.builtin id) (.ref x :: args)) (fun v => Q (some v)) E s) : wpAny M A (callSpecialIfBound? (.ref x) name args) Q E s := by
  simp only [callSpecialIfBound?, bindSpecialIfBound?]
  refine wpAny_holding (wpAny_bind (wpAny_bind (wpAny_bind (I.type.here ((PySem.W.looks_findIn Xk hs).here ?_)))))
  refine wpAny_bind (wpAny_askSetting (wpAny_ite ?_))
  have fin : wpAny M A (call (.builtin id) ([.ref x] ++ args) >>= fun v => pure (some v)) Q E s := wpAny_bind (wpAny_mono h (fun v s' h' => wpAny_pure h') fun _ _ h' => h')
  simp only [hb]
  split
  · exact wpAny_bind (wpAny_pure (wpAny_pure (by exact fin)))
  · exact wpAny_tryCatch (wpAny_bind (wpAny_pure (wpAny_pure (by exact fin))))
theorem ne_call {prog : Program} {w : World} {A : Around} {E : Value → Shared → Prop} {s : Shared} {K : PySem.W.Frag} {a C b : Addr} {ox : Obj} {od : Option Obj} {Q : Value → Shared → Prop} (Xk : K.In s.heap) (I : PySem.W.InstAt s.heap a ox C od) (hm : PySem.W.mroIn K C (.type "object") = some true)
    (h : wpAny (model prog w) A.in1 (callSpecialIfBound? (.ref a) "__eq__" [.ref b]) (fun r s' => ∃ b, r = some (.bool b) ∧ Q (.bool (!b)) s') E s) (hu : A.in1.units < cLine) : wpAny (model prog w) A (call (.builtin "object.__ne__") [.ref a, .ref b]) Q E s := by
  have L0 := I.type (M := model prog w)
  have L1 := PySem.W.looks_mroIn (M := model prog w) Xk hm
  refine wpAny_call (codeAny_call_builtin PySem.F.cmp_object.ne.plain PySem.F.cmpEntry_ne ?_)
  obtain ⟨hh, g, dr, t, os⟩ := s
  have hk := PySem.F.cmpKind_ne
  have hs := PySem.F.cmpSplit_ne
  have ha := PySem.F.cmpArgs_ne (.ref a) (.ref b)
  have fin : wpAny (model prog w) A.in1 (Builtin.«object.__ne__» ⟨[.ref a, .ref b], []⟩) (fun fin s' => match fin with | .done f => (match (.ok f : Result) with | .ok (.ret v) => Q v s' | .ok _ => False | .error e => E e s') | .again c' => c'.quiet = true ∧ codeAny (model prog w) A c' (fun r s' => match r with | .ok (.ret v) => Q v s' | .ok _ => False | .error e => E e s') s') (fun e s' => E e s') ⟨hh, g, dr, t, os⟩ := by
    unfold Builtin.«object.__ne__»
    rw [show slotArgs "__ne__" 1 ⟨[.ref a, .ref b], []⟩ = pure (.ref a, [.ref b]) from rfl]
    refine wpAny_bind (wpAny_pure (wpAny_bind (wpAny_cRoomFor hu (wpAny_bind (wpAny_mono h (fun r s' hr => ?_) fun _ _ e => e)))))
    obtain ⟨b, rfl, q⟩ := hr
    exact wpAny_bind (wpAny_truthy_bool (wpAny_pure q))
  simp only [checkBuiltinCall, hk, hs]
  refine wpAny_bind ?_
  unfold isInstance
  repeat (first | exact fin | lk)
def negD (r : Res DS D) : Res DS D := match r with
  | .ok (.bl b) s => .ok (.bl (!b)) s
  | .exc x s => .exc x s
  | _ => .stuck
def ownNe (c : String) (g : DFn) : DO2 := fun x y s => negD (ownO c g x y s)
theorem negD_post {κ : Bs} {w : Wd} {σ : L2.St} {r : Res DS D} {Q : VK} (h : PostG G W (Rep G) κ w σ (negD r) Q) : PostG G W (Rep G) κ w σ r (fun v H => ∃ b, v = .bl b ∧ Q (.bl (!b)) H) := by
  cases r with
  | stuck => exact h
  | exc x s => exact h
  | ok d s =>
    cases d with
    | bl b =>
      intro w' v H' l o r
      cases r
      exact ⟨b, rfl, h w' _ H' l o (.bl _)⟩
    | _ => exact h.elim
theorem opx_ownNe {c : String} {C f : Addr} {k : Nat} {fd : FuncData} {ps : List Str} {g : DFn} (hC : G.ct c = some C) (hs : PySem.W.findIn X.K (.ref C) "__eq__" = some (some (.ref f))) (hf : PySem.W.isFn X.K (.ref f) = true)
    (hne : PySem.W.findIn X.K (.ref C) "__ne__" = some (some (.builtin "object.__ne__"))) (hob : PySem.W.mroIn X.K C (.type "object") = some true)
    (F : FnOk X.prog X.w X.K X.mg X.base (L2.CX X.prog X.w) k f fd ps (spG G 2 g)) (hr : Room (k + 1) X.A) (hb : Binds X.K fd ps []) (tk : Takes X W) : OpX G W X (compareOp .NotEq) (ownNe c g) := by
  intro pins sh σ H x y v u κ w s dx dy Q I rx ry ok rdx rdy q
  obtain ⟨a, b, C', dxa, dxb, fa, fb, rfl, rfl, hC', hH, hH', q⟩ := ownO_of ok rdx rdy (negD_post q)
  rw [hC] at hC'
  cases hC'
  cases rx
  cases ry
  obtain ⟨mA, J, _⟩ := ins_get I.hok hH
  obtain ⟨mB, J', _⟩ := ins_get I.hok hH'
  obtain ⟨od, J, _⟩ := J.look
  obtain ⟨od', J', _⟩ := J'.look
  have KX := I.kIn
  show wpAny (model X.prog X.w) X.A (richCompare .NotEq (.ref a) (.ref b)) _ _ _
  -- object.__ne__: __eq__, turned
  have one : wpAny (model X.prog X.w) X.A (tryCompare (.ref a) "__ne__" (.ref b)) (fun r s' => ∃ v, r = some v ∧ EP X pins σ Q v s') X.xe sh := by
    unfold tryCompare
    refine wpAny_bind (ifBound_B KX J hne PySem.F.cmp_object.ne.bind ?_)
    refine wpAny_mono (ne_call (Q := fun v s' => ∃ b, v = .bool b ∧ EP X pins σ Q v s') KX J hob ?_ hr.in1.units0) (fun v s' h => ?_) fun _ _ e => e
    case refine_1 =>
      have hc := callD1 (us := [.ref a, .ref b]) (vs := [.ref a, .ref b]) (ds := [dx, dy]) F hr hb tk I ok (.cons rdx (.cons rdy .nil)) (.cons rfl (.cons rfl .nil)) rfl q
      refine PySem.W.ifBound_K KX J hs hf (wpAny_mono hc (fun v s' h => ?_) fun _ _ e => e)
      obtain ⟨x, H', I', r, b, rfl, q'⟩ := h
      cases r
      exact ⟨b, rfl, !b, rfl, .bl (!b), H', I', rfl, q'⟩
    case refine_2 =>
      obtain ⟨b, rfl, h⟩ := h
      exact wpAny_pure ⟨_, rfl, h⟩
  unfold richCompare
  simp only [oneThing_ref]
  refine wpAny_holding (wpAny_bind (wpAny_cRoomFor hr.units0 ?_))
  refine wpAny_bind (J.type.here (wpAny_bind (J'.type.here ?_)))
  rw [if_neg (by simp)]
  refine wpAny_bind (wpAny_pure ?_)
  simp only [Bool.false_eq_true, if_false]
  refine wpAny_bind (wpAny_mono one (fun r s' z => ?_) fun _ _ e => e)
  obtain ⟨v, rfl, hq⟩ := z
  exact wpAny_pure hq
end
end DL
set_option maxRecDepth 100000
set_option maxHeartbeats 4000000
set_option autoImplicit false
namespace DL
open PySem PySem.Spec PyProof.Rows L2
/-- all that is asked of a class, in one -/
def clsB (K : PySem.W.Frag) (C : Addr) (fs : List Str) : Bool :=
  PySem.W.plainGet K C Str.empty && (PySem.W.hasDictIn K C && (PySem.W.plainOver K C && (PySem.W.makesIn K C && (PySem.W.keepIn K (.ref C) && (PySem.W.selfFirst K C &&
    ((PySem.W.findIn K (.ref C) "__setattr__" == some (some (.builtin "object.__setattr__"))) && ((PySem.W.findIn K (.ref C) "__ne__" == some (some (.builtin "object.__ne__"))) && ((PySem.W.mroIn K C (.type "object") == some true) &&
    ((PySem.W.findIn K (.ref C) "__class__" == some (some (.builtin "object.__class__"))) && ((PySem.W.specialIn K (.builtin "object.__class__") "__get__" == some (some (.builtin "getset_descriptor.__get__"))) && ((PySem.W.takesIn K (.builtin "object.__class__") == some true) &&
    (fs.all (fun f => PySem.W.findIn K (.ref C) f == some none) && tyNames.all fun b => (PySem.W.kitOne K (.ref C) (.type b) == some false) && (PySem.W.kitOne K (.type b) (.ref C) == some false)))))))))))))
structure ClsF (K : PySem.W.Frag) (C : Addr) (fs : List Str) : Prop where
  cl : Cls K C
  makes : PySem.W.makesIn K C = true
  kp : PySem.W.keepIn K (.ref C) = true
  sf : PySem.W.selfFirst K C = true
  ne : PySem.W.findIn K (.ref C) "__ne__" = some (some (.builtin "object.__ne__"))
  mo : PySem.W.mroIn K C (.type "object") = some true
  i1 : PySem.W.findIn K (.ref C) "__class__" = some (some (.builtin "object.__class__"))
  i2 : PySem.W.specialIn K (.builtin "object.__class__") "__get__" = some (some (.builtin "getset_descriptor.__get__"))
  i3 : PySem.W.takesIn K (.builtin "object.__class__") = some true
  na : ∀ f ∈ fs, NoAttr K C f
  bo : ∀ b ∈ tyNames, PySem.W.kitOne K (.ref C) (.type b) = some false ∧ PySem.W.kitOne K (.type b) (.ref C) = some false
theorem clsF {K : PySem.W.Frag} {C : Addr} {fs : List Str} (h : clsB K C fs = true) : ClsF K C fs := by
  unfold clsB at h
  simp only [Bool.and_eq_true, beq_iff_eq, List.all_eq_true] at h
  obtain ⟨h1, h2, h3, h4, h5, h6, h7, h8, h9, h10, h11, h12, h13, h14⟩ := h
  exact ⟨⟨h1, h2, h3, h7⟩, h4, h5, h6, h8, h9, h10, h11, h12, fun f hf => h13 f hf, fun b hb => h14 b hb⟩
/-- the own classes apart from one another -/
theorem isOk_of {G : Gam} {cs : List String} (h1 : ∀ c ∈ cs, ∃ C fs, G.ct c = some C ∧ ClsF G.K C fs) (h2 : ∀ c ∈ cs, ∀ c' ∈ cs, ∀ C C', G.ct c = some C → G.ct c' = some C' → PySem.W.kitOne G.K (.ref C) (.ref C') = some (c == c')) : IsOk G cs := by
  refine ⟨fun c hc C hC => ?_, fun c hc C hC => ?_, h2⟩
  · obtain ⟨C', fs, e, f⟩ := h1 c hc
    rw [hC] at e
    cases e
    exact ⟨f.cl, f.i1, f.i2, f.i3, f.mo⟩
  · obtain ⟨C', fs, e, f⟩ := h1 c hc
    rw [hC] at e
    cases e
    exact f.bo
theorem kit_self {K : PySem.W.Frag} {C : Addr} : PySem.W.kitOne K (.ref C) (.ref C) = some true := by
  unfold PySem.W.kitOne
  rw [if_pos (by simp)]
end DL
set_option maxRecDepth 100000
set_option maxHeartbeats 4000000
set_option autoImplicit false
namespace DL
open PySem PySem.Spec PyProof.Rows L2
/-! ### an own error whose __init__ says super().__init__(x); self.f = x -/
section
variable {P : Program} {W0 : World} {Ar : Around} {Er : Value → Shared → Prop} {hp : Heap} {gs : Array GenState} {dr : Drawn} {tk : Nat} {osS : OsState}
theorem call_mwV {cn cq : Str} {C NN u e t0 : Addr} {b1 b2 sbs : List Value} {hdc abs : Bool} {sns : List Str} {cl : Option Bool} {dd : Option Addr} {j0 j1 j2 j3 j5 : Option Value} {rest : List Value} {Q : Value → Shared → Prop}
    (hC : hp.get? C = some (excClassObj cn cq C NN b1 b2 hdc sns sbs abs cl dd j0 j1 j2 j3 j5 "ValueError.__new__")) (he : hp.get? e = some (HandSPX.excO C t0)) (hu : hp.get? u = some (PySem.W.kxs_mw "ValueError.__init__" e)) (hrest : rest.length ≤ sizeLine)
    (hq : ∀ h' t1, (∀ b o, b ≠ e → hp.get? b = some o → h'.get? b = some o) → h'.get? e = some (HandSPX.excO C t1) → Q .none ⟨h', gs, dr, tk, osS⟩) :
    wpAny (model P W0) Ar (call (.ref u) rest) Q Er ⟨hp, gs, dr, tk, osS⟩ := by
  refine wpAny_call (codeAny_of_tree ?_)
  show wpAny _ Ar.in1 (callAny (.ref u) ⟨rest, []⟩) _ _ _
  simp only [callAny]
  refine wpAny_bind (wpAny_load hu ?_)
  simp only [PySem.W.kxs_mw, show (Value.type "method-wrapper" == Value.type "method" || Value.type "method-wrapper" == Value.type "builtin_function_or_method" || Value.type "method-wrapper" == Value.type "method-wrapper") = true by decide, if_true]
  refine PySem.W.KFB.if_so (by decide) ?_
  refine wpAny_bind (PySem.W.check_bound_init F.excBase_ValueError.toExcCallFacts hC he rfl ?_)
  refine wpAny_bind (wpAny_pure (wpAny_pure ?_))
  refine ⟨Code.quiet_builtin _ (by decide +kernel), codeAny_builtin F.excBase_ValueError.initEntry ?_⟩
  rw [Around.under_plainId F.excBase_ValueError.init.plain _]
  wp_walk
  refine hq _ hp.objs.size (fun b o hb ho => ?_) ?_
  · rw [Heap.get?_update_other _ _ (Ne.symm hb)]
    exact Heap.get?_push_of_some _ ho
  · rw [Heap.get?_update_self _ (Heap.get?_push_of_some _ he) rfl]
    rfl
end
theorem eval_si (x : Str) (env : Env) (p0 p1 p2 p3 p4 : Pos) (hp : (p2.endLine == p4.line) = true) : eval (.Call (.Attribute (.Call (.Name "super" p0) [] [] p1) "__init__" p2) [.Name x p3] [] p4) env = (do
      let ov ← attributeBase (.Call (.Name "super" p0) [] [] p1) "__init__" env (eval (.Call (.Name "super" p0) [] [] p1) env)
      standAt p2.atName
      let (f, first) ← holding [ov] (getMethod ov "__init__" (do return (← importBound (.Call (.Name "super" p0) [] [] p1) env).getD true))
      callWith p4 f first (backTo p4 (starEach [.Name x p3] env)) []) := by
  have h : ∀ fm, methodCallPos fm (.Call (.Name "super" p0) [] [] p1) env p2 p4 = pure p4 := fun fm => by
    unfold methodCallPos
    rw [hp]
    simp
  show (do
      let ov ← attributeBase (.Call (.Name "super" p0) [] [] p1) "__init__" env (eval (.Call (.Name "super" p0) [] [] p1) env)
      standAt p2.atName
      let (f, first) ← holding [ov] (calleeOf true (.Call (.Name "super" p0) [] [] p1) env ov "__init__")
      let callPos ← methodCallPos true (.Call (.Name "super" p0) [] [] p1) env p2 p4
      callWith callPos f first (backTo p4 (starEach [.Name x p3] env)) []) = _
  rw [h]
  rfl
def spX (C : Addr) (f : Str) : Sp := fun vs H Q _ => ∃ (a : Addr) (y : V), vs = [.ref a, y] ∧ H a = some (exo a C none) ∧ ∀ dx, H dx = none → dx ≠ a → Q .non (upd (upd H dx (exd dx [(f, y)])) a (exo a C (some dx)))
/-- what the text and the linked part say of such a def -/
structure XIn (P : Program) (K : PySem.W.Frag) (mg : Str → Option Value) (C fI : Addr) (fd : FuncData) (slf x f : Str) : Prop where
  ex : ∃ (oc doc pm dV kV ct ccl cl : Value) (od an cdd cld : Option Addr) (osl ccs csl : Array (Option Value)) (cda cc : Addr) (name qual file : Str) (params : Arguments) (scope : Scope) (vs : Array Value) (tf : Tok) (ar : Arg) (p0 p1 p2 p3 p4 p5 p6 p7 p8 p9 : Pos),
    fd = PySem.W.fnX name qual params [.Expr (.Call (.Attribute (.Call (.Name "super" p0) [] [] p1) "__init__" p2) [.Name x p3] [] p4) p5, .Assign [.Attribute (.Name slf p6) f p7] (.Name x p8) p9] scope [("__class__", cc)] dV kV doc pm an (.ref cda) ct ∧
    K.lookup fI = some ⟨oc, od, .func fd, osl⟩ ∧ PySem.W.codeIn K (.ref cda) qual = true ∧ (params.posonlyargs ++ params.args).head? = some ar ∧ ar.arg = slf ∧
    K.lookup cda = some ⟨ccl, cdd, .fields vs, ccs⟩ ∧ vs[2]? = some (.str file tf) ∧ ((P.main.file : Str) == file) = true ∧ K.lookup cc = some ⟨cl, cld, .cell (some (.ref C)), csl⟩ ∧
    scope.names.lookup ("super" : Str) = some .globalImplicit ∧ scope.names.lookup ("__class__" : Str) = some .free ∧ scope.names.lookup slf = some .local ∧ scope.names.lookup x = some .local ∧ (∀ z ∈ scope.names, z.2 ≠ .cell) ∧ scope.kind = .function ∧ scope.isCoroutine = false ∧ scope.isGenerator = false ∧ (p2.endLine == p4.line) = true
  top : (P.main.scope.names.lookup ("super" : Str)).isSome = false
  sup : mg "super" = none
  self : PySem.W.mroIn K C (.ref C) = some true
  al : PySem.W.ks_superIn K C C "__init__" = some (some (.builtin "ValueError.__init__"))
  ve : PySem.W.subIn K (.ref C) (.type "ValueError") = some true
  any : PySem.W.nsIn K cStatics "thirdparty.any" = some none
  cls : OexC K C
  no : PySem.W.findIn K (.ref C) f = some none
  ds : (slf == ("__debug__" : Str)) = false
  dx : (x == ("__debug__" : Str)) = false
  sx : slf ≠ x
theorem x_ok {P : Program} {w0 : World} {K : PySem.W.Frag} {mg : Str → Option Value} {base : Heap} {CX : CXT} {C fI : Addr} {fd : FuncData} {slf x f : Str} (T : XIn P K mg C fI fd slf x f) : FnOk P w0 K mg base CX 1 fI fd [slf, x] (spX C f) := by
  obtain ⟨⟨oc, doc, pm, dV, kV, ct, ccl, cl, od, an, cdd, cld, osl, ccs, csl, cda, cc, name, qual, file, params, scope, vs, tf, ar, p0, p1, p2, p3, p4, p5, p6, p7, p8, p9, efd, lk, hcd, har, hars, lcd, hvs, hfile, lcc, ksup, kcls, kslf, kx, kcell, kk, kco, kgen, kpos⟩, htop, hsup, hself, hal, hve, hany, hcls, hno, hds, hdx, hsx⟩ := T
  subst efd
  refine ⟨fun vs H Q E ⟨a, y, e, _⟩ => by rw [e]; rfl, fun A outer s H args us vs' Q E hr e0 hb hv hsp => ?_⟩
  obtain ⟨a, y, rfl, ea, hq⟩ := hsp
  cases hv with
  | @cons _ u0 _ ur ra rest =>
  cases rest with
  | @cons _ u _ ur2 ry rest =>
  cases rest
  obtain rfl : u0 = Value.ref a := ra
  have KX : K.In s.heap := e0.mod.kin.keeps fun b o e => (e0.bs b o e).1
  have lim : s.heap.NoLimit := e0.mod.nolimit.keeps fun b o e => (e0.bs b o e).1
  obtain ⟨t0, hea⟩ := exo_at e0.hok ea
  obtain ⟨cn, cq, NS, b1, b2, sns, sbs, abs, col, dd, j0, j1, j2, j3, j5, hC, hbm⟩ := hcls.cls
  have hcl : PySem.W.clsIn K C = some { name := cn, bases := b1, mro := .ref C :: b2, ns := NS, qualname := cq, hasDict := true, slotNames := sns, subclasses := sbs, abstract := abs, collection := col, hasDel := false } := by unfold PySem.W.clsIn; rw [hC] <;> rfl
  refine ks_codeAny_call_defAt (binds := [(slf, .ref a), (x, u)]) hr.depth (KX _ _ lk) rfl lim (PySem.W.codeRec_of KX hcd) rfl hb kcell (fun z hz => ?_) (fun h0 hns hk0 => ?_) kco kgen kk
  · rcases List.mem_cons.mp hz with rfl | hz
    · exact kslf
    · rcases List.mem_cons.mp hz with rfl | hz
      · exact kx
      · cases hz
  have X0 : K.In h0 := KX.keeps hk0
  have ns_s : (fun y => ([(slf, Value.ref a), (x, u)] : List (Str × Value)).reverse.lookup y) slf = some (.ref a) := by
    have : (slf == x) = false := by simpa using hsx
    simp [List.lookup, this]
  have ns_x : (fun y => ([(slf, Value.ref a), (x, u)] : List (Str × Value)).reverse.lookup y) x = some u := by simp [List.lookup]
  have hea0 := hk0 _ _ hea
  have oC : s.heap.get? C = some _ := KX _ _ hC
  have ne_aC : a ≠ C := fun z => by
    rw [z, oC] at hea
    cases hea
  refine ks_wpAt_execs_cons (ks_wpAt_Expr_any (ks_wpAt_MethodCall ?_ (eval_si x _ p0 p1 p2 p3 p4 kpos)) (hi := by show (scope.kind == .module && _) = false; rw [kk]; rfl))
  refine ks_wpAt_super_base ksup kcls (by decide) rfl (X0 _ _ lk) rfl har rfl (X0 _ _ lcd) rfl hvs hfile htop ?_
  obtain ⟨mb, hb1, hb2⟩ := e0.mod.blt
  have bk : ∀ b o, base.get? b = some o → h0.get? b = some o := fun b o e => hk0 _ _ (e0.bs b o e).1
  refine PySem.W.ks_loadName_global kk ksup (Calls.loadGlobal_builtin (e0.mod.glob.keeps bk) hsup (hb1.keeps bk) ((hb2 _ (by decide)).trans PyProof.Rows.Boot.«super») ⟨rfl, ?_⟩)
  refine wpAny_loadName_free kk kcls (c := cc) rfl ⟨_, X0 _ _ lcc, rfl⟩ ?_
  rw [hars]
  refine wpAny_loadName_local kk kslf hns ns_s ?_
  refine ks_wpAny_isType_cls (X0 _ _ hC) rfl ⟨rfl, ?_⟩
  refine ks_wpAny_call_super (X0 _ _ hC) rfl hea0 rfl (fun c z => nomatch z) (PySem.W.looks_mroIn X0 hself) (fun h1 hso hk1 => ?_)
  have X1 : K.In h1 := X0.keeps hk1
  have hea1 := hk1 _ _ hea0
  have inst1 : PySem.W.InstAt h1 a _ C none := ⟨hea1, rfl, rfl, trivial⟩
  have hI : PySem.W.Looks (model P w0) h1 (isInstance (.ref a) (.type "ValueError")) true := inst1.type.andThen (PySem.W.looks_subIn X1 hve)
  have hmro : PySem.W.Looks (model P w0) h1 (mroOf (.ref C)) (.ref C :: b2) := (PySem.W.looks_clsIn X1 hcl).andThen .now
  have hal' : PySem.W.alongIn K "__init__" (((Value.ref C :: b2).dropWhile (· != .ref C)).drop 1) = some (some (.builtin "ValueError.__init__")) := by
    unfold PySem.W.ks_superIn at hal
    rw [hcl] at hal
    exact hal
  refine PySem.W.kxs_getMethod PySem.W.kxs_ValueError hso (PySem.W.looks_opaque X1 hany) hmro rfl X1 hal' hI ne_aC (by decide) ?_
  have hmw : (h1.push (PySem.W.kxs_mw "ValueError.__init__" a)).get? h1.objs.size = some (PySem.W.kxs_mw "ValueError.__init__" a) := Heap.get?_push_at rfl rfl
  have kp2 : ∀ b o, h1.get? b = some o → (h1.push (PySem.W.kxs_mw "ValueError.__init__" a)).get? b = some o := fun b o e => Heap.get?_push_of_some _ e
  have ns2 : (h1.push (PySem.W.kxs_mw "ValueError.__init__" a)).Ns s.heap.objs.size (fun y => ([(slf, Value.ref a), (x, u)] : List (Str × Value)).reverse.lookup y) := (hns.keeps hk1).keeps kp2
  refine PySem.W.kxs_callWith (i := "ValueError.__init__") (x := a) rfl ?_
  refine Calls.evalArgs_plain (Calls.spliced_cons (wpAny_Name (wpAny_loadName_local kk kx ns2 ns_x (Calls.spliced_nil ⟨hmw, ?_⟩)) hdx))
  refine call_mwV (X1.keeps kp2 _ _ hC) (kp2 _ _ hea1) hmw (by rw [sizeLine_eq]; show 1 ≤ _; decide) fun h3 t1 hk3 hea3 => ?_
  have lt0 : ∀ {b : Addr} {o : Obj}, s.heap.get? b = some o → b ≠ s.heap.objs.size := fun e => Nat.ne_of_lt (Heap.lt_size e)
  have kall : ∀ b o, b ≠ a → s.heap.get? b = some o → h3.get? b = some o := fun b o hb e => hk3 b o hb (kp2 _ _ (hk1 _ _ (hk0 _ _ e)))
  have ne_aL : s.heap.objs.size ≠ a := fun z => lt0 hea z.symm
  have X3 : K.In h3 := fun b o e => hk3 b o (fun z => by
    have := (e0.bs b o (e0.mod.kin b o e)).2
    rw [z, ea] at this
    cases this) (kp2 _ _ (X1 b o e))
  have ns3 : h3.Ns s.heap.objs.size (fun y => ([(slf, Value.ref a), (x, u)] : List (Str × Value)).reverse.lookup y) := by
    obtain ⟨ob, es, ep, ho, r⟩ := ns2
    exact ⟨ob, es, ep, hk3 _ _ ne_aL ho, r⟩
  show PySem.wpAt _ _ _ (execs [_] _) _ _ _
  refine ks_wpAt_execs_cons (PySem.wpAt_of_wpAny (plainObj_wpAny_Assign_Attribute (wpAny_Name (wpAny_loadName_local kk kx ns3 ns_x (wpAny_Name (wpAny_loadName_local kk kslf ns3 ns_s ?_) hds)) hdx)))
  refine PySem.W.set_plain (ox := { cls := .ref C, dict := none, data := .fields #[.ref t1, .none, .none, .none, .bool false, .none] }) (od := none) X3 ⟨hea3, rfl, rfl, trivial⟩ hcls.sa ?_
  refine PySem.HandSPX.exc_osa X3 hea3 hcl (show PySem.HandSPX.refsVE (.ref C :: b2) = true from hbm) rfl hno (fun h4 tk4 dxa hk4 dn dne hx4 hn4 => ?_)
  refine PySem.wpAt_of_wpAny (wpAny_execs_nil ?_)
  have szL : s.heap.objs.size < h3.objs.size := by
    obtain ⟨ob, _, _, ho, _⟩ := ns3
    exact Heap.lt_size ho
  have hnd : H dxa = none := e0.hok.fresh (Nat.le_trans (Nat.le_of_lt szL) dn)
  have kfin : ∀ b o, b ≠ a → s.heap.get? b = some o → h4.get? b = some o := fun b o hb e => hk4 b o hb (kall b o hb e)
  have ndx : ∀ {b : Addr} {o : Obj}, s.heap.get? b = some o → b ≠ dxa := fun {b o} e => Nat.ne_of_lt (Nat.lt_of_lt_of_le (Nat.lt_trans (Heap.lt_size e) szL) dn)
  have na : ∀ {b : Addr}, H b = none → b ≠ a := fun {b} n z => by
    rw [z, ea] at n
    cases n
  refine ⟨.non, upd (upd H dxa (exd dxa [(f, y)])) a (exo a C (some dxa)), rfl, e0.bare, ?_, ?_, rfl, hq dxa hnd dne⟩
  · exact {
      keep := fun b o e n _ _ => kfin b o (na n) e
      slot := fun b o e n _ _ => ⟨o.slots, kfin b o (na n) e⟩
      free := fun b o e n _ => by rw [upd_ne (na n), upd_ne (ndx e)]; exact n
      there := fun b o e _ => by
        by_cases hb : b = a
        · exact ⟨_, by rw [hb]; exact hx4⟩
        · exact ⟨o, kfin b o hb e⟩
      tups := fun b xs e => by rw [upd_ne (at_ne ea e exo_tup), upd_ne (ne_of_none e hnd)]; exact e
      frzs := fun b o v e => by rw [upd_ne (at_ne ea e exo_frz), upd_ne (ne_of_none e hnd)]; exact e
      tbls := fun b ps e => ⟨#[], by rw [upd_ne (at_ne ea e exo_tbl), upd_ne (ne_of_none e hnd), e]; simp⟩ }
  · intro b o e
    by_cases hb : b = a
    · subst hb
      rw [upd_same] at e
      cases e
      exact exo_ok hx4
    · rw [upd_ne hb] at e
      by_cases hd : b = dxa
      · subst hd
        rw [upd_same] at e
        cases e
        exact exd_ok hn4 (relO_put (fs := []) ry fun g => True.intro)
      · rw [upd_ne hd] at e
        refine (e0.hok b o e).stay (fun c v hc z => kfin c v ?_ z) (fun c hc => ?_) (fun c xs hc => ?_)
        · rcases hc with hc | hc
          · rw [hc]; exact hb
          · exact at_ne ea hc exo_own
        · rw [upd_ne (at_ne ea hc exo_own), upd_ne (ne_of_none hc hnd)]; exact hc
        · rw [upd_ne (at_ne ea hc exo_tup), upd_ne (ne_of_none hc hnd)]; exact hc
/-! ### raise C(e) -/
def sRaise (c : String) (f : Nm) (fa : DA) : DStm := fun s => (fa s).bind fun ds s1 => match ds with
  | [d] => .exc ⟨c, [(f, d)]⟩ s1
  | _ => .stuck
/-- an own error class: made by its own __init__ -/
structure XCls (G : Gam) (K : PySem.W.Frag) (c : String) (C fI : Addr) : Prop where
  ct : G.ct c = some C
  ini : PySem.W.findIn K (.ref C) "__init__" = some (some (.ref fI))
  ty : PySem.W.typeIn K (.ref fI) = some (.type "function")
  cls : OexC K C
section
variable {G : Gam} {W : WX} {X : Cx}
theorem pds_raise {c : String} {C fI : Addr} {fd : FuncData} {slf xp f x : Str} {fn : Nm} {e : Expr} {fa : DA} {p pos pos' : Pos} (hc : X.calm = true) (tk : Takes X W) (T : XCls G X.K c C fI) (T2 : XIn X.prog X.K X.mg C fI fd slf xp f) (hf : f = nm fn) (hb : Binds X.K fd [slf, xp] [])
    (hr : Room 2 X.A) (hg : Gl X x) (hm : X.mg x = some (.ref C)) (ha : PDA G W X [e] fa) (hdb : (x == ("__debug__" : Str)) = false := by decide) (he : starEach [e] X.env = (false, eval e X.env) :: starEach [] X.env := by rfl) :
    PDS G W X (.Raise (some (.Call (.Name x p) [e] [] pos)) none pos') (sRaise c fn fa) :=
  (ps_raise hc tk (pmk_oex (CX := L2.CX X.prog X.w) T.cls T.ini T.ty (x_ok T2) hr hb .nil (passes_call tk fun _ _ _ _ z => z.elim) hg hm ha hdb he)).imp fun N σ H ⟨κ, w, s, ok, q⟩ => ⟨κ, w, s, ok, (PostG.bindS q).imp fun vs H1 ⟨ds, s1, w1, le, ok1, rs, q1⟩ => by
    match ds, q1 with
    | [d], q1 =>
      cases rs with
      | @cons v _ vs' _ r rs =>
      cases rs
      refine ⟨by show 1 ≤ 1000; decide, fun a ha => ⟨a, v, rfl, upd_same, fun dx h1 h2 => ⟨rfl, dx, [(f, v)], ?_, ?_, ?_, ?_⟩⟩⟩
      · exact upd_same
      · rw [upd_ne h2, upd_same]
      · rw [upd_ne h2] at h1; exact h1
      · rw [upd_ne h2] at h1
        have eH : upd (del (upd (upd (upd H1 a (exo a C none)) dx (exd dx [(f, v)])) a (exo a C (some dx))) a) dx (.xd [(f, v)]) = upd H1 dx (.xd [(f, v)]) := by
          funext b
          by_cases hb : b = dx
          · rw [hb, upd_same, upd_same]
          · rw [upd_ne hb, upd_ne hb]
            by_cases hba : b = a
            · rw [hba, del_same, ha]
            · rw [del_ne hba, upd_ne hba, upd_ne hb, upd_ne hba]
        rw [eH]
        obtain ⟨le2, ok2⟩ := ok1.alloc h1 (.xd [(f, v)])
        exact q1 _ σ (.ref C) (some dx) _ le2 ok2 ⟨C, T.ct, rfl, .inr ⟨dx, [(f, v)], rfl, upd_same, by subst hf; exact .cons (r.mono le2) .nil⟩⟩
    | [], q1 => exact q1.elim
    | _ :: _ :: _, q1 => exact q1.elim⟩
end
end DL
set_option maxRecDepth 100000
set_option maxHeartbeats 4000000
set_option autoImplicit false
namespace DL
open PySem PySem.Spec PyProof.Rows L2
/-! ### try with several clauses, each with a name or without -/
abbrev HTs := Addr → Value → Option Addr → TS
def unset (D : Ends) (i : Nat) : Ends := { nx := fun τ Z => D.nx (τ.set i none) Z, rt := D.rt, bk := fun τ Z => D.bk (τ.set i none) Z, ct := fun τ Z => D.ct (τ.set i none) Z }
def wHd (K : PySem.W.Frag) (Wo : WX) (D : Ends) : List (Value × Option Nat × HTs) → WX
  | [] => Wo
  | (c, none, ts) :: r => fun cl dd τ Z => ∃ b, PySem.W.exmOne K cl c = some b ∧ (b = true → ∀ a, Z a = none → ts a cl dd D τ Z) ∧ (b = false → wHd K Wo D r cl dd τ Z)
  | (c, some i, ts) :: r => fun cl dd τ Z => ∃ b, PySem.W.exmOne K cl c = some b ∧ (b = true → ∀ a, Z a = none → ts a cl dd (unset D i) (τ.set i (some (.ref a))) Z) ∧ (b = false → wHd K Wo D r cl dd τ Z)
/-- the suite of a clause -/
def SuOk (X : Cx) (st : List Stmt) (ts : HTs) : Prop := ∀ (a : Addr) (ob : Obj) (cl : Value) (dd : Option Addr) (pn : List (Addr × Obj)), Zc cl dd ob → (∃ vs, ob.data = .fields vs) → PSs (X.suite a ((a, ob) :: pn)) st (ts a cl dd)
inductive HdA (X : Cx) : List ExceptHandler → List (Value × Option Nat × HTs) → Prop
  | nil : HdA X [] []
  | bare {x : Str} {c : Value} {ts : HTs} {s0 : Stmt} {su : List Stmt} {np pp : Pos} {hs : List ExceptHandler} {l : List (Value × Option Nat × HTs)} (nc : Names X x c) (ok : SuOk X (s0 :: su) ts) (r : HdA X hs l) :
      HdA X (.ExceptHandler (some (.Name x np)) none (s0 :: su) pp :: hs) ((c, none, ts) :: l)
  | as_ {x n : Str} {i : Nat} {c : Value} {ts : HTs} {s0 : Stmt} {su : List Stmt} {np pp : Pos} {hs : List ExceptHandler} {l : List (Value × Option Nat × HTs)} (nc : Names X x c) (hi : X.N[i]? = some n) (hl : X.env.kindOf n = some .local) (ok : SuOk X (s0 :: su) ts) (r : HdA X hs l) :
      HdA X (.ExceptHandler (some (.Name x np)) (some n) (s0 :: su) pp :: hs) ((c, some i, ts) :: l)
section
variable {X : Cx} {bd : List Stmt} {g0 : ExceptHandler} {gs : List ExceptHandler} {l : List (Value × Option Nat × HTs)} {tpos : Pos} {tb : WX → TS} {Wo : WX}
theorem ps_tryA (est : X.stack = X.env :: X.outer) (efr : X.env.frame = some X.env.locals) (nd : X.N.Nodup) (tk : Takes X Wo)
    (hbd : ∀ (Wi : WX) (pn : List (Addr × Obj)) (xe : Value → Shared → Prop), Takes (X.tr pn xe) Wi → PassesOwn (model X.prog X.w) X.A X.env xe → PSs (X.tr pn xe) bd (tb Wi)) (hh : HdA X (g0 :: gs) l) :
    PS X (.Try bd (g0 :: gs) [] [] tpos) (fun D τ Z => tb (wHd X.K Wo D l) D τ Z) := by
  refine ⟨fun pins sh τ Z D I h => ?_⟩
  have okX := I.ok
  have frX : X.A.frames = some (X.env :: X.outer) := by rw [okX.frames, est]
  let xeT : Value → Shared → Prop := fun e z1 => wpAny (model X.prog X.w) X.A (noteFrame e X.env) (fun _ z2 => wpAny (model X.prog X.w) X.A (setFlight e none) (fun _ z3 => wpAny (model X.prog X.w) X.A (handleBy e X.env (g0 :: gs)) (SP X pins D) X.xe z3) X.xe z2) X.xe z1
  refine wpAny_Try_except (wpAny_mono ((hbd (wHd X.K Wo D l) (X.pn ++ pins) xeT (fun u sh' xx => ?_) PassesOwn.looking).run [] sh τ Z D (I.toTry _) h) (fun fl sh1 hsp => ?_) (fun e sh1 he => he))
  · obtain ⟨a, Bh, sI, pins', τ', Z', cl, dd, rfl, J', nb, up, sky, na, eos, ag, wish⟩ := xx
    have J : Inv X pins τ' Z' sI := J'.ofTry okX
    have sky2 : Sky Bh (X.env :: X.outer) a (Zc cl dd) X.env.locals sh'.heap := est ▸ sky
    show wpAny (model X.prog X.w) X.A (noteFrame (.ref a) X.env) _ _ _
    refine Sky.land Zc.steady frX efr sky2 fun h3 fl3 up3 => ?_
    have J3 : Inv X pins τ' Z' { sh' with heap := h3 } := J.landed nb fl3.1 (up.trans up3) eos ag
    obtain ⟨ob3, vs3, he3, hz3, hd3⟩ := fl3.there
    have nfr : a ∉ frs (X.env :: X.outer) := fun hm => by
      obtain ⟨_, o', e', hnf⟩ := fl3.2.2.1.mem hm
      rw [he3] at e'
      cases e'
      exact hnf _ hd3
    have nL : a ≠ X.env.locals := fun z => nfr (List.mem_filterMap.mpr ⟨X.env, List.mem_cons_self, efr.trans (congrArg some z.symm)⟩)
    have nF : a ∉ X.fs := fun hm => by
      obtain ⟨ev, hev, eq⟩ := List.mem_filterMap.mp hm
      exact nfr (List.mem_filterMap.mpr ⟨ev, List.mem_cons_of_mem _ hev, eq⟩)
    have S3 := J3.suite he3 hd3 na nL nF
    have LT : PySem.W.Looks (model X.prog X.w) h3 (typeOf (.ref a)) cl := fun A Q E z k q => wpAny_typeOf_ref (k _ _ he3) (hz3.1.symm ▸ q)
    have test : ∀ {x : Str} {c : Value} {np : Pos} {Q : Value → Shared → Prop} {E : Value → Shared → Prop}, Names X x c → Q c { sh' with heap := h3 } → wpAny (model X.prog X.w) (X.A.mark (some (.ref a))) (eval (.Name x np) X.env) Q E { sh' with heap := h3 } := fun {x c np Q E} nc q => by
      obtain ⟨hg, hdb, hm | ⟨hm, hv, hnn⟩⟩ := nc
      · exact ld_glob (X := X.suite a ((a, ob3) :: (X.pn ++ pins))) S3 hg hm q hdb
      · exact ld_blt (X := X.suite a ((a, ob3) :: (X.pn ++ pins))) S3 hg hm hv q hnn hdb
    have go : ∀ {gs' : List ExceptHandler} {l' : List (Value × Option Nat × HTs)}, HdA X gs' l' → wHd X.K Wo D l' cl dd τ' Z' → wpAny (model X.prog X.w) X.A (handleBy (.ref a) X.env gs') (SP X pins D) X.xe { sh' with heap := h3 } := by
      intro gs' l' hk
      induction hk with
      | nil =>
        intro wish
        refine wpAny_handleBy_nil ?_
        obtain ⟨_, _, _, oe, vs, Tb, _, _, he, _, hd, h1, _⟩ := id fl3
        unfold PySem.passOn
        refine wpAny_bind (wpAny_field he hd h1 ?_)
        rw [if_neg (show ¬ ((Value.ref Tb == Value.none) = true) by simp)]
        have fin : wpAny (model X.prog X.w) X.A (setFlight (.ref a) X.env.frame) (fun _ z4 => wpAny (model X.prog X.w) X.A (throw (.ref a) : Sem Flow) (SP X pins D) X.xe z4) X.xe { sh' with heap := h3 } := by
          rw [efr]
          refine HandSPX.setFlight_upZ fl3 fun h4 hh4 up4 => wpAny_throw (tk _ _ ⟨a, Bh, sI, pins, τ', Z', cl, dd, rfl, J, nb, (up.trans up3).trans up4, .inr (.inr ?_), na, eos, ag, wish⟩)
          rw [est]
          exact hh4
        first
          | exact wpAny_bind (wpAny_pure (wpAny_bind fin))
          | exact wpAny_bind fin
      | @bare x c ts s0 su np pp hs2 l2 nc ok r ih =>
        intro wish
        obtain ⟨b, hb1, yes, no⟩ := wish
        refine wpAny_handleBy_cons (codeAny_handlers_test (test nc ((PySem.W.exm_one (M := model X.prog X.w) J3.kIn LT hb1).here ?_))) (by intro q; cases q)
        cases b with
        | false => exact ih (no rfl)
        | true =>
          refine codeAny_handlers_suite (HandSPX.lands_againZ fl3 fun h4 fl4 up4 => ?_)
          have J4 : Inv X pins τ' Z' { sh' with heap := h4 } := J.landed nb fl4.1 ((up.trans up3).trans up4) eos ag
          obtain ⟨ob4, vs4, he4, hz4, hd4⟩ := fl4.there
          refine wpAny_mono ((ok a ob4 cl dd (X.pn ++ pins) hz4 ⟨_, hd4⟩).run [] _ _ Z' _ (J4.suite he4 hd4 na nL nF) (yes rfl a na)) (fun fl z6 hsp => ?_) (fun _ _ z => False.elim z)
          cases fl with
          | ret u => obtain ⟨_, _, _, S6, r6, q6⟩ := hsp; exact ⟨_, _, _, S6.unsuite okX, r6, q6⟩
          | next => obtain ⟨_, _, S6, q6⟩ := hsp; exact ⟨_, _, S6.unsuite okX, q6⟩
          | brk => obtain ⟨_, _, S6, q6⟩ := hsp; exact ⟨_, _, S6.unsuite okX, q6⟩
          | cont => obtain ⟨_, _, S6, q6⟩ := hsp; exact ⟨_, _, S6.unsuite okX, q6⟩
      | @as_ x n i c ts s0 su np pp hs2 l2 nc hi hl ok r ih =>
        intro wish
        obtain ⟨b, hb1, yes, no⟩ := wish
        refine wpAny_handleBy_cons (codeAny_handlers_test (test nc ((PySem.W.exm_one (M := model X.prog X.w) J3.kIn LT hb1).here ?_))) (by intro q; cases q)
        cases b with
        | false => exact ih (no rfl)
        | true =>
          refine codeAny_handlers_suite_as (HandSPX.lands_againZ fl3 fun h4 fl4 up4 => ?_)
          have J4 : Inv X pins τ' Z' { sh' with heap := h4 } := J.landed nb fl4.1 ((up.trans up3).trans up4) eos ag
          obtain ⟨ob4, vs4, he4, hz4, hd4⟩ := fl4.there
          refine store_ok (X := X.suite a ((a, ob4) :: (X.pn ++ pins))) (v := .ref a) (J4.suite he4 hd4 na nL nF) nd hi (.inl hl) rfl (fun z5 S5 => ?_) (.inr hl)
          refine wpAny_mono ((ok a ob4 cl dd (X.pn ++ pins) hz4 ⟨_, hd4⟩).run [] z5 _ Z' _ S5 (yes rfl a na)) (fun fl z6 hsp => ?_) (fun _ _ z => False.elim z)
          have fin : ∀ {τ6 : L2.St} {Z6 : Hp} {R : Shared → Prop}, Inv (X.suite a ((a, ob4) :: (X.pn ++ pins))) [] τ6 Z6 z6 → (∀ z7, Inv X pins (τ6.set i none) Z6 z7 → R z7) → wpAny (model X.prog X.w) X.A (do bindName X.env n .none; unbindBehindTheSuite X.env n pp) (fun _ z7 => R z7) X.xe z6 := fun {τ6 Z6 R} S6 hq => gone_ok (S6.unsuite okX) nd hi hl hq
          cases fl with
          | ret u => obtain ⟨_, _, _, S6, r6, q6⟩ := hsp; exact fin S6 fun _ J7 => ⟨_, _, _, J7, r6, q6⟩
          | next => obtain ⟨_, _, S6, q6⟩ := hsp; exact fin S6 fun _ J7 => ⟨_, _, J7, q6⟩
          | brk => obtain ⟨_, _, S6, q6⟩ := hsp; exact fin S6 fun _ J7 => ⟨_, _, J7, q6⟩
          | cont => obtain ⟨_, _, S6, q6⟩ := hsp; exact fin S6 fun _ J7 => ⟨_, _, J7, q6⟩
    exact go hh wish
  · cases fl with
    | ret u => obtain ⟨v, τ', Z', J', r, q⟩ := hsp; exact ⟨v, τ', Z', J'.ofTry okX, r, q⟩
    | next => obtain ⟨τ', Z', J', q⟩ := hsp; exact wpAny_execs_nil ⟨τ', Z', J'.ofTry okX, q⟩
    | brk => obtain ⟨τ', Z', J', q⟩ := hsp; exact ⟨τ', Z', J'.ofTry okX, q⟩
    | cont => obtain ⟨τ', Z', J', q⟩ := hsp; exact ⟨τ', Z', J'.ofTry okX, q⟩
end
/-! ### the same as a reading -/
section
variable {G : Gam} {W : WX} {X : Cx}
theorem Ok.setUn {κ : Bs} {w : Wd} {s : DS} {σ : L2.St} {H : Hp} (h : Ok G κ w s σ H) (i : Nat) (v : Option V) : Ok G κ w ⟨s.sl.set i .un, s.st⟩ (σ.set i v) H := by
  have inn : ∀ {j : Nat} {x : Sl}, (s.sl.set i .un)[j]? = some x → (x = .un) ∨ (j ≠ i ∧ s.sl[j]? = some x) := fun {j x} e => by
    by_cases hj : i = j
    · subst hj
      by_cases hv : i < s.sl.length
      · rw [List.getElem?_set_self hv] at e
        exact .inl (Option.some.inj e).symm
      · rw [List.getElem?_eq_none (by simpa using hv)] at e; cases e
    · rw [List.getElem?_set_ne hj] at e
      exact .inr ⟨fun z => hj z.symm, e⟩
  have out : ∀ {j : Nat}, j ≠ i → (σ.set i v)[j]? = σ[j]? := fun {j} n => List.getElem?_set_ne (fun z => n z.symm)
  refine ⟨h.fok, h.nx, by simpa using h.len, fun j d e => ?_, fun j x e o => ?_, fun j k x y a e1 e2 o1 o2 h1 h2 => ?_, fun p hp => ?_, fun a ha c fs e => ?_⟩
  · rcases inn e with z | ⟨z, e⟩
    · cases z
    · rw [out z]; exact h.val j d e
  · rcases inn e with z | ⟨z, e⟩
    · subst z; cases o
    · rw [out z]; exact h.own j x e o
  · rcases inn e1 with z | ⟨z, e1⟩
    · subst z; cases o1
    · rcases inn e2 with z' | ⟨z', e2⟩
      · subst z'; cases o2
      · rw [out z] at h1
        rw [out z'] at h2
        exact h.ne j k x y a e1 e2 o1 o2 h1 h2
  · obtain ⟨q1, q2, q3, q4, q5⟩ := h.gam p hp
    refine ⟨q1, q2, q3, q4, fun j x e o => ?_⟩
    rcases inn e with z | ⟨z, e⟩
    · subst z; cases o
    · rw [out z]; exact q5 j x e o
  · rcases inn e with z | ⟨z, e⟩
    · cases z
    · rw [out z]; exact h.me a ha c fs e
theorem RepX.mono {w w' : Wd} {c : Value} {dd : Option Addr} {x : Xc} (h : RepX G w c dd x) (le : w.le w') : RepX G w' c dd x := by
  obtain ⟨C, h1, h2, h3⟩ := h
  refine ⟨C, h1, h2, ?_⟩
  rcases h3 with h3 | ⟨a, vs, e1, e2, e3⟩
  · exact .inl h3
  · exact .inr ⟨a, vs, e1, le.1 _ _ e2, e3.mono le⟩
structure HdR where
  c : Value
  oi : Option Nat
  m : String → Option Bool
  f : Xc → DStm
def unD (i : Nat) (r : Res DS Out) : Res DS Out := r.bind fun o s => .ok o ⟨s.sl.set i .un, s.st⟩
def catchD : List HdR → Xc → DStm
  | [], x, s => .exc x s
  | ⟨_, none, m, f⟩ :: r, x, s => match m x.cls with
    | some true => noX (f x s)
    | some false => catchD r x s
    | none => .stuck
  | ⟨_, some i, m, f⟩ :: r, x, s => match m x.cls with
    | some true => if i < s.sl.length then unD i (noX (f x ⟨s.sl.set i .un, s.st⟩)) else .stuck
    | some false => catchD r x s
    | none => .stuck
def sTry (b : DStm) (hs : List HdR) : DStm := fun s => match b s with
  | .exc x s1 => catchD hs x s1
  | r => r
/-- what is known of the caught one -/
def Fx (G : Gam) (oi : Option Nat) (a : Addr) (cl : Value) (dd : Option Addr) (x : Xc) (w : Wd) (σ : L2.St) : Prop := (∀ i, oi = some i → σ[i]? = some (some (.ref a))) ∧ RepX G w cl dd x
def tXS (G : Gam) (oi : Option Nat) (a : Addr) (cl : Value) (dd : Option Addr) (x : Xc) (f : DStm) : TS := fun N σ H => ∃ κ w s, Ok G κ w s σ H ∧ Fx G oi a cl dd x w σ ∧ PostS G WF κ w (f s) N
def tSu (G : Gam) (h : HdR) : HTs := fun a cl dd N σ H => ∃ x, tXS G h.oi a cl dd x (h.f x) N σ H
/-- the class test of a clause -/
def MOk (G : Gam) (K : PySem.W.Frag) (h : HdR) : Prop := ∀ (k : String) (b : Bool), h.m k = some b → ∀ C, G.ct k = some C → PySem.W.exmOne K (.ref C) h.c = some b
theorem catch_of {D0 : Ends} {κ : Bs} {x : Xc} : ∀ {hs : List HdR}, (∀ h ∈ hs, MOk G X.K h) → ∀ {w : Wd} {s : DS} {cl : Value} {dd : Option Addr} {σ : L2.St} {H : Hp}, PostS G W κ w (catchD hs x s) D0 → Ok G κ w s σ H → RepX G w cl dd x → wHd X.K W D0 (hs.map fun h => (h.c, h.oi, tSu G h)) cl dd σ H
  | [], _, w, s, cl, dd, σ, H, q, ok, rx => q w σ cl dd H (.refl _) ok rx
  | ⟨c, none, m, f⟩ :: r, hm, w, s, cl, dd, σ, H, q, ok, rx => by
    obtain ⟨C, hC, rfl, _⟩ := id rx
    have q : PostS G W κ w (match m x.cls with | some true => noX (f x s) | some false => catchD r x s | none => .stuck) D0 := q
    cases e : m x.cls with
    | none => rw [e] at q; exact q.elim
    | some b =>
      refine ⟨b, hm _ List.mem_cons_self x.cls b e C hC, fun hb a ha => ?_, fun hb => ?_⟩
      · subst hb
        rw [e] at q
        refine ⟨x, κ, w, s, ok, ⟨fun i z => (nomatch z), rx⟩, ?_⟩
        show PostS G WF κ w (f x s) D0
        replace q : PostS G W κ w (noX (f x s)) D0 := q
        cases z : f x s with
        | ok o s' => rw [z] at q; cases o <;> exact q
        | exc y s' => rw [z] at q; exact q.elim
        | stuck => rw [z] at q; exact q.elim
      · subst hb
        rw [e] at q
        exact catch_of (fun h hh => hm h (List.mem_cons_of_mem _ hh)) q ok rx
  | ⟨c, some i, m, f⟩ :: r, hm, w, s, cl, dd, σ, H, q, ok, rx => by
    obtain ⟨C, hC, rfl, _⟩ := id rx
    have q : PostS G W κ w (match m x.cls with | some true => if i < s.sl.length then unD i (noX (f x ⟨s.sl.set i .un, s.st⟩)) else .stuck | some false => catchD r x s | none => .stuck) D0 := q
    cases e : m x.cls with
    | none => rw [e] at q; exact q.elim
    | some b =>
      refine ⟨b, hm _ List.mem_cons_self x.cls b e C hC, fun hb a ha => ?_, fun hb => ?_⟩
      · subst hb
        rw [e] at q
        replace q : PostS G W κ w (if i < s.sl.length then unD i (noX (f x ⟨s.sl.set i .un, s.st⟩)) else .stuck) D0 := q
        have hj : i < s.sl.length := by
          by_cases h : i < s.sl.length
          · exact h
          · rw [if_neg h] at q; exact q.elim
        rw [if_pos hj] at q
        refine ⟨x, κ, w, ⟨s.sl.set i .un, s.st⟩, ok.setUn i _, ⟨fun j z => ?_, rx⟩, ?_⟩
        · have z : some i = some j := z
          cases z
          rw [List.getElem?_set_self (by rw [← ok.len]; exact hj)]
        show PostS G WF κ w (f x ⟨s.sl.set i .un, s.st⟩) (unset D0 i)
        cases z : f x ⟨s.sl.set i .un, s.st⟩ with
        | ok o s' =>
          rw [z] at q
          cases o with
          | nx => exact fun w' σ' H' le ok' => q w' _ H' le (ok'.setUn i none)
          | bk => exact fun w' σ' H' le ok' => q w' _ H' le (ok'.setUn i none)
          | ct => exact fun w' σ' H' le ok' => q w' _ H' le (ok'.setUn i none)
          | rt d => exact fun w' σ' v H' le ok' r' => q w' _ v H' le (ok'.setUn i none) r'
        | exc y s' => rw [z] at q; exact q.elim
        | stuck => rw [z] at q; exact q.elim
      · subst hb
        rw [e] at q
        exact catch_of (fun h hh => hm h (List.mem_cons_of_mem _ hh)) q ok rx
theorem pds_try {bd : List Stmt} {g0 : ExceptHandler} {gs : List ExceptHandler} {hs : List HdR} {tpos : Pos} {fb : DStm} (est : X.stack = X.env :: X.outer) (efr : X.env.frame = some X.env.locals) (nd : X.N.Nodup) (tk : Takes X W)
    (hbd : ∀ (Wi : WX) (pn : List (Addr × Obj)) (xe : Value → Shared → Prop), Takes (X.tr pn xe) Wi → PassesOwn (model X.prog X.w) X.A X.env xe → PDSs G Wi (X.tr pn xe) bd fb) (hm : ∀ h ∈ hs, MOk G X.K h)
    (hh : HdA X (g0 :: gs) (hs.map fun h => (h.c, h.oi, tSu G h))) : PDS G W X (.Try bd (g0 :: gs) [] [] tpos) (sTry fb hs) :=
  (ps_tryA (tb := fun Wi => tDS G Wi fb) est efr nd tk hbd hh).imp fun N σ H ⟨κ, w, s, ok, q⟩ => ⟨κ, w, s, ok, by
    have q : PostS G W κ w (match fb s with | .exc x s1 => catchD hs x s1 | r => r) N := q
    cases e : fb s with
    | stuck => rw [e] at q; exact q.elim
    | ok o s' => rw [e] at q; cases o <;> exact q
    | exc x s' =>
      rw [e] at q
      replace q : PostS G W κ w (catchD hs x s') N := q
      intro w' σ' c dd H' le ok' rx
      have q' : PostS G W κ w' (catchD hs x s') N := PostS.mono le q
      exact catch_of hm q' ok' rx⟩
end
/-! ### the suite's words -/
section
variable {G : Gam} {X : Cx} {oi : Option Nat} {a : Addr} {cl : Value} {dd : Option Addr} {x : Xc}
theorem Fx.mono {w w' : Wd} {σ : L2.St} (h : Fx G oi a cl dd x w σ) (le : w.le w') : Fx G oi a cl dd x w' σ := ⟨h.1, h.2.mono le⟩
def tXD (G : Gam) (oi : Option Nat) (a : Addr) (cl : Value) (dd : Option Addr) (x : Xc) (f : DE) : TE := fun σ H Q => ∃ κ w s, Ok G κ w s σ H ∧ Fx G oi a cl dd x w σ ∧ PostG G WF (Rep G) κ w σ (f s) Q
def tXA (G : Gam) (oi : Option Nat) (a : Addr) (cl : Value) (dd : Option Addr) (x : Xc) (f : DA) : TA := fun σ H Q => ∃ κ w s, Ok G κ w s σ H ∧ Fx G oi a cl dd x w σ ∧ PostG G WF (Reps G) κ w σ (f s) Q
theorem pxd_lift {e : Expr} {f : DE} (h : PD G WF X e f) : PE X e (tXD G oi a cl dd x f) := h.imp fun σ H Q ⟨κ, w, s, ok, _, q⟩ => ⟨κ, w, s, ok, q⟩
theorem pxa_nil : PA X [] (tXA G oi a cl dd x aNil) := pa_nil.imp fun σ H Q ⟨κ, w, s, ok, _, q⟩ => q w [] H (.refl _) ok .nil
theorem pxa_cons {e : Expr} {es : List Expr} {f : DE} {g : DA} (h : PE X e (tXD G oi a cl dd x f)) (k : PA X es (tXA G oi a cl dd x g)) (hs : starEach (e :: es) X.env = (false, eval e X.env) :: starEach es X.env := by rfl) : PA X (e :: es) (tXA G oi a cl dd x (aCons f g)) :=
  (pa_cons h k hs).imp fun σ H Q ⟨κ, w, s, ok, fx, q⟩ => ⟨κ, w, s, ok, fx, (PostG.bind q).imp fun v H1 ⟨d, s1, w1, le, ok1, r1, q1⟩ =>
    ⟨κ, w1, s1, ok1, fx.mono le, (PostG.bind q1).imp fun v2 H2 ⟨d2, s2, w2, le2, ok2, r2, q2⟩ => q2 w2 _ H2 (.refl _) ok2 (.cons (r1.mono le2) r2)⟩⟩
theorem pxd_tup {es : List Expr} {k : Nat} {g : DA} {pos : Pos} (h : PA X es (tXA G oi a cl dd x g)) : PE X (.Tuple es k pos) (tXD G oi a cl dd x (eTup g)) :=
  (pe_tup h).imp fun σ H Q ⟨κ, w, s, ok, fx, q⟩ => ⟨κ, w, s, ok, fx, (PostG.bind q).imp fun v H1 ⟨d, s1, w1, le, ok1, r1, q1⟩ => by
    by_cases c : d.length ≤ 1000
    · rw [if_pos c] at q1
      refine ⟨r1.length ▸ sz1000 c, fun p hp => ?_⟩
      obtain ⟨le2, ok2⟩ := ok1.alloc hp (.tup v)
      exact q1 _ _ _ le2 ok2 (.tup (.inl (.inl upd_same)) (r1.mono le2))
    · rw [if_neg c] at q1
      exact q1.elim⟩
theorem RepF.look' {w : Wd} : ∀ {vs : List (Str × V)} {fs : List (Nm × D)} {f : Nm} {d : D}, RepF G w vs fs → fs.lookup f = some d → ∃ v, vs.lookup (nm f) = some v ∧ Rep G w v d
  | _, _, _, _, .nil, e => nomatch e
  | _, _, f, d, .cons (f := g) (v := v) (d := d') r rs, e => by
    by_cases h : f = g
    · subst h
      simp [List.lookup] at e ⊢
      subst e
      exact r
    · have h1 : (f == g) = false := by simpa using h
      have h2 : (nm f == nm g) = false := by
        have : nm f ≠ nm g := fun z => h (nm_inj z)
        simpa using this
      simp only [List.lookup, h1] at e
      obtain ⟨v', q1, q2⟩ := RepF.look' rs e
      exact ⟨v', by simp only [List.lookup, h2]; exact q1, q2⟩
/-- e.f of the caught one, known to be of the class c -/
def eXf (c : String) (f : Nm) (x : Xc) : DE := fun s => if x.cls = c then match x.fs.lookup f with | some d => .ok d s | none => .stuck else .stuck
theorem pxd_fld {i : Nat} {C : Addr} {ob : Obj} {pn : List (Addr × Obj)} {c : String} {f : Nm} {fn e : Str} {p pos : Pos} (hK : G.K = X.K) (hC : G.ct c = some C) (T : XfC X.K C) (hno : PySem.W.findIn X.K (.ref C) fn = some none) (hf : fn = nm f) (hz : Zc cl dd ob) (hfs : ∃ vs, ob.data = .fields vs)
    (he : PE (X.suite a ((a, ob) :: pn)) (.Name e p) (tVar i)) : PE (X.suite a ((a, ob) :: pn)) (.Attribute (.Name e p) fn pos) (tXD G (some i) a cl dd x (eXf c f x)) :=
  (pe_xf T hno hz hfs he).imp fun σ H Q ⟨κ, w, s, ok, fx, q⟩ => by
    have q : PostG G WF (Rep G) κ w σ (if x.cls = c then match x.fs.lookup f with | some d => .ok d s | none => .stuck else .stuck) Q := q
    by_cases h : x.cls = c
    · rw [if_pos h] at q
      cases e : x.fs.lookup f with
      | none => rw [e] at q; exact q.elim
      | some d =>
        rw [e] at q
        obtain ⟨h1, C', h2, h3, h4⟩ := fx
        rw [h, hC] at h2
        cases h2
        rcases h4 with ⟨h4, _⟩ | ⟨da, vs, h5, h6, h7⟩
        · rw [h4] at e; cases e
        · obtain ⟨v, l1, l2⟩ := h7.look' e
          exact ⟨.ref a, h1 i rfl, rfl, h3, da, vs, v, h5, ok.fok.sub _ _ h6, hf ▸ l1, q w v H (.refl _) ok l2⟩
    · rw [if_neg h] at q
      exact q.elim
theorem pxs_ret {e : Expr} {f : DE} {pos : Pos} (h : PE X e (tXD G oi a cl dd x f)) : PS X (.Return (some e) pos) (tXS G oi a cl dd x (sRet f)) :=
  (ps_ret h).imp fun N σ H ⟨κ, w, s, ok, fx, q⟩ => ⟨κ, w, s, ok, fx, (PostG.bindS q).imp fun v H1 ⟨d, s1, w1, le, ok1, r1, q1⟩ => q1 w1 σ v H1 (.refl _) ok1 r1⟩
theorem pxs_set {i : Nat} {n : Str} {e : Expr} {f : DE} {pos pos' : Pos} (hN : X.N.Nodup) (hi : X.N[i]? = some n) (hx : Loc X.env.scope n) (he : PE X e (tXD G oi a cl dd x f)) (hs : swapsWith e (some (.Name n pos')) pos.line X.env = pure false := by rfl)
    (hf : X.fn n = true ∨ X.env.scope.names.lookup n = some .local := by first | exact .inl rfl | exact .inr rfl | assumption) : PS X (.Assign [.Name n pos'] e pos) (tXS G oi a cl dd x (sSet i f)) :=
  (ps_set hN hi hx he hs hf).imp fun N σ H ⟨κ, w, s, ok, fx, q⟩ => ⟨κ, w, s, ok, fx, (PostG.bindS q).imp fun v H1 ⟨d, s1, w1, le, ok1, r1, q1⟩ => q1 w1 _ H1 (.refl _) (ok1.setVal r1 i)⟩
theorem pxs_lift {st : Stmt} {f : DStm} (h : PDS G WF X st f) : PS X st (tXS G oi a cl dd x f) := h.imp fun N σ H ⟨κ, w, s, ok, _, q⟩ => ⟨κ, w, s, ok, q⟩
/-- a suite of one statement -/
theorem su_one {st : Stmt} {h : HdR} (k : ∀ (a : Addr) (ob : Obj) (cl : Value) (dd : Option Addr) (pn : List (Addr × Obj)) (x : Xc), Zc cl dd ob → (∃ vs, ob.data = .fields vs) → PS (X.suite a ((a, ob) :: pn)) st (tXS G h.oi a cl dd x (h.f x))) : SuOk X [st] (tSu G h) :=
  fun a ob cl dd pn hz hf => pss_one ⟨fun pins s σ H D I ⟨x, z⟩ => (k a ob cl dd pn x hz hf).run pins s σ H D I z⟩
end
end DL
set_option maxRecDepth 100000
set_option maxHeartbeats 4000000
set_option autoImplicit false
namespace DL
open PySem PySem.Spec PyProof.Rows L2
/-! ### lambdas without parameters -/
/-- the function object of a lambda -/
def FnO (f : Addr) (q : Str) (pr : Arguments) (bd : Expr) (sc : Scope) (clo : List (Str × Addr)) (pm : Value) (c : Addr) (ctv : Value) : HO := .ext fun h => h.get? f = some (PySem.W.kla_obj "<lambda>" q pr bd sc clo pm c ctv)
/-- a maker of lambdas: its table, the name of its lambdas' codes, its cells, the sites -/
structure LamT where
  P : Addr
  q : Str
  cells : List (Str × Addr)
  site : String → Option (Arguments × Expr × Scope)
def LamT.lam (T : LamT) : String → Addr → Wd → Prop := fun k f w => ∃ pr bd sc pm c ctv, T.site k = some (pr, bd, sc) ∧ w.F f = some (FnO f T.q pr bd sc (cloFrom T.cells sc.names []) pm c ctv) ∧ w.F c = some (LamX.CodeO c T.q)
def LamT.tab (T : LamT) : Addr → Hp → HO → Prop := fun a F o => a = T.P ∧ ∃ ps : Array Value, o = .tbl ps ∧ TriplesOk ps.toList ∧ ∀ (pos : Pos) (cv : Value), codeAmong pos ps.toList = some cv → ∃ c, cv = .ref c ∧ F c = some (LamX.CodeO c T.q)
theorem LamT.lamM (T : LamT) (k : String) (f : Addr) (w w' : Wd) (e : w.le w') : T.lam k f w → T.lam k f w' := fun ⟨pr, bd, sc, pm, c, ctv, h1, h2, h3⟩ => ⟨pr, bd, sc, pm, c, ctv, h1, e.f _ _ h2, e.f _ _ h3⟩
theorem LamT.tabM (T : LamT) (a : Addr) (F F' : Hp) (o : HO) (e : ∀ a o, F a = some o → F' a = some o) : T.tab a F o → T.tab a F' o := fun ⟨h0, ps, h1, h2, h3⟩ => ⟨h0, ps, h1, h2, fun pos cv hc => by
  obtain ⟨c, z1, z2⟩ := h3 pos cv hc
  exact ⟨c, z1, e _ _ z2⟩⟩
/-- the lambda is made -/
def eLam (n : Nat) (tk k : String) : DE := fun s => match s.st[n]? with
  | some (.tab t) => if t = tk then .ok (.lam k) s else .stuck
  | _ => .stuck
section
variable {G : Gam} {W : WX} {X : Cx}
/-- what G says of the maker's lambdas -/
structure GLam (G : Gam) (tk : String) (T : LamT) : Prop where
  tab : ∀ a F o, G.tab tk a F o ↔ T.tab a F o
  lam : ∀ k f w, (T.site k).isSome = true → (G.lam k f w ↔ T.lam k f w)
theorem fnO_ok {P : Program} {w0 : World} {H : Hp} {h : Heap} {f c : Addr} {q : Str} {pr : Arguments} {bd : Expr} {sc : Scope} {clo : List (Str × Addr)} {pm ctv : Value} (e : h.get? f = some (PySem.W.kla_obj "<lambda>" q pr bd sc clo pm c ctv)) : ObjOk P w0 H h f (FnO f q pr bd sc clo pm c ctv) :=
  ⟨e, ⟨_, e⟩, fun h1 h2 z k => k _ z⟩
theorem pd_lam {n : Nat} {tk k : String} {c : Addr} {T : LamT} {pr : Arguments} {bd : Expr} {sc : Scope} {pos : Pos} (GL : GLam G tk T) (TB : LamX.TabB X.base X.mg c T.P) (hcode : X.env.code = .ref c) (hq : T.q = X.env.qual ++ "<lambda>") (hcl : T.cells = X.env.cells) (hs : T.site k = some (pr, bd, sc))
    (L : LamX.LamS X.env.scope sc) (hdef : defaultsOf pr X.env = ([], [])) : PD G W X (.Lambda pr bd sc pos) (eLam n tk k) := by
  refine ⟨fun pins sh σ H Q I ⟨κ, w, s, ok, q⟩ => ?_⟩
  unfold eLam at q
  cases e : s.st[n]? with
  | none => rw [e] at q; exact q.elim
  | some cel =>
    rw [e] at q
    cases cel with
    | tab t' =>
      replace q : PostG G W (Rep G) κ w σ (if t' = tk then .ok (.lam k) s else .stuck) Q := q
      by_cases ht : t' = tk
      · subst ht
        rw [if_pos rfl] at q
        have hn : n < w.ρ.length := by
          rw [ok.fok.len]
          exact (List.getElem?_eq_some_iff.mp e).1
        have hρ : w.ρ[n]? = some (w.ρ[n]) := List.getElem?_eq_getElem hn
        obtain ⟨o, hP, ht⟩ := ok.fok.cel n _ _ hρ e
        obtain ⟨eP, ps, rfl, tr, among⟩ := (GL.tab _ _ _).mp ht
        rw [eP] at hP hρ
        have hfree := L.has I.ok
        refine PySem.W.kla_eval hdef ?_
        have bP : sh.heap.BuiltinsAt X.mg T.P := TB.bm.keeps I.bk
        have hP' : sh.heap.get? T.P = some { cls := .none, data := .fields ps } := I.hok T.P _ hP
        cases hc : codeAmong pos ps.toList with
        | none =>
          refine PySem.W.kla_makeFunction (mg := X.mg) (c := c) (P := T.P) (ps := ps) (closure_ok hfree) I.ok.glob (I.mod.glob.keeps I.bk) hcode (TB.code.keeps I.bk) hP' tr hc TB.gP bP fun c' ctv h' tk' hx hge hlt hrec htb => ?_
          obtain ⟨c2, oc, vs, t, e2, hoc, hd, hv⟩ := hrec
          cases e2
          have nC : H c' = none := I.hok.fresh hge
          have hsz : sh.heap.objs.size ≤ h'.objs.size := Nat.le_trans hge (Nat.le_of_lt hlt)
          have I1 := LamX.inv_table (t' := tk') (q := X.env.qual ++ "<lambda>") (more := #[rawInt pos.line, rawInt pos.col, .ref c']) (h' := h') I hP (fun b o hb z => hx b o hb z) htb hge ⟨oc, vs, t, hoc, hd, hv⟩
          have I2 := I1.laid (t' := tk') (a := h'.objs.size) (o := FnO h'.objs.size (X.env.qual ++ "<lambda>") pr bd sc (cloFrom X.env.cells sc.names []) ((X.mg "__name__").getD .none) c' ctv)
            (h' := h'.push (PySem.W.kla_obj "<lambda>" (X.env.qual ++ "<lambda>") pr bd sc (cloFrom X.env.cells sc.names []) ((X.mg "__name__").getD .none) c' ctv)) (fun b u z => Heap.get?_push_of_some _ z) (Nat.le_refl _) (fnO_ok (Heap.get?_push_size _ rfl))
          have okC := ok.alloc nC (LamX.CodeO c' (X.env.qual ++ "<lambda>"))
          obtain ⟨le1, ok1⟩ := okC
          have nPc : T.P ≠ c' := ne_of_none hP nC
          have eL : (ps ++ #[rawInt pos.line, rawInt pos.col, .ref c']).toList = ps.toList ++ [rawInt pos.line, rawInt pos.col, .ref c'] := by simp
          have cell1 : CellOk G ⟨upd w.F c' (LamX.CodeO c' (X.env.qual ++ "<lambda>")), w.ρ⟩ (upd (upd H c' (LamX.CodeO c' (X.env.qual ++ "<lambda>"))) T.P (.tbl (ps ++ #[rawInt pos.line, rawInt pos.col, .ref c']))) T.P (.tab t') := by
            refine ⟨_, upd_same, (GL.tab _ _ _).mpr ⟨rfl, _, rfl, by rw [eL]; exact PySem.TriplesOk_snoc _ _ _ _ tr, fun p' cv hcv => ?_⟩⟩
            rw [eL] at hcv
            rcases LamX.among_app _ tr hcv with z | z
            · obtain ⟨c0, e1, e2⟩ := among p' cv z
              exact ⟨c0, e1, le1.f _ _ e2⟩
            · exact ⟨c', z, by rw [hq]; exact upd_same⟩
          have ok2 := ok1.cell (n := n) (a := T.P) hρ cell1
          have eS : s.st.set n (.tab t') = s.st := by
            apply List.ext_getElem?
            intro i
            by_cases hi : n = i
            · subst hi
              rw [List.getElem?_set_self (List.getElem?_eq_some_iff.mp e).1, e]
            · rw [List.getElem?_set_ne hi]
          rw [eS] at ok2
          have swap : upd (upd H c' (LamX.CodeO c' (X.env.qual ++ "<lambda>"))) T.P (.tbl (ps ++ #[rawInt pos.line, rawInt pos.col, .ref c'])) = upd (upd H T.P (.tbl (ps ++ #[rawInt pos.line, rawInt pos.col, .ref c']))) c' (LamX.CodeO c' (X.env.qual ++ "<lambda>")) := by
            funext b
            by_cases h1 : b = T.P
            · rw [h1, upd_same, upd_ne nPc, upd_same]
            · rw [upd_ne h1]
              by_cases h2 : b = c'
              · rw [h2, upd_same, upd_same]
              · rw [upd_ne h2, upd_ne h2, upd_ne h1]
          rw [swap] at ok2
          obtain ⟨le3, ok3⟩ := ok2.alloc (I1.hok.fresh (Nat.le_refl _)) (FnO h'.objs.size (X.env.qual ++ "<lambda>") pr bd sc (cloFrom X.env.cells sc.names []) ((X.mg "__name__").getD .none) c' ctv)
          refine ⟨.ref h'.objs.size, _, I2, rfl, q _ _ _ (le1.trans le3) ok3 (.lam ((GL.lam _ _ _ (by rw [hs]; rfl)).mpr ⟨pr, bd, sc, (X.mg "__name__").getD .none, c', ctv, hs, ?_, ?_⟩))⟩
          · rw [hq, hcl]; exact upd_same
          · rw [hq]
            exact le3.f _ _ upd_same
        | some cv =>
          obtain ⟨c', ecv, hco⟩ := among pos cv hc
          subst ecv
          refine PySem.W.kla_makeFunctionHit (mg := X.mg) (c := c) (P := T.P) (ps := ps) (closure_ok hfree) I.ok.glob (I.mod.glob.keeps I.bk) hcode (TB.code.keeps I.bk) hP' tr hc bP fun ctv h' tk' hx hsz => ?_
          have I2 := I.laid (t' := tk') (a := h'.objs.size) (o := FnO h'.objs.size (X.env.qual ++ "<lambda>") pr bd sc (cloFrom X.env.cells sc.names []) ((X.mg "__name__").getD .none) c' ctv)
            (h' := h'.push (PySem.W.kla_obj "<lambda>" (X.env.qual ++ "<lambda>") pr bd sc (cloFrom X.env.cells sc.names []) ((X.mg "__name__").getD .none) c' ctv)) (fun b u z => Heap.get?_push_of_some _ (hx b u z)) hsz (fnO_ok (Heap.get?_push_size _ rfl))
          obtain ⟨le3, ok3⟩ := ok.alloc (I.hok.fresh hsz) (FnO h'.objs.size (X.env.qual ++ "<lambda>") pr bd sc (cloFrom X.env.cells sc.names []) ((X.mg "__name__").getD .none) c' ctv)
          refine ⟨.ref h'.objs.size, _, I2, rfl, q _ _ _ le3 ok3 (.lam ((GL.lam _ _ _ (by rw [hs]; rfl)).mpr ⟨pr, bd, sc, (X.mg "__name__").getD .none, c', ctv, hs, ?_, ?_⟩))⟩
          · rw [hq, hcl]; exact upd_same
          · exact le3.f _ _ hco
      · rw [if_neg ht] at q
        exact q.elim
    | _ => exact q.elim
end
end DL
set_option maxRecDepth 100000
set_option maxHeartbeats 4000000
set_option autoImplicit false
namespace DL
open PySem PySem.Spec PyProof.Rows L2
/-! ### data without lambdas -/
mutual
def noLam : D → Bool
  | .tup xs => noLams xs
  | .lst xs => noLams xs
  | .scr xs => noLams xs
  | .dic kvs => noLamK kvs
  | .ins _ fs => noLamF fs
  | .lam _ => false
  | _ => true
def noLams : List D → Bool
  | [] => true
  | x :: r => noLam x && noLams r
def noLamK : List (DK × D) → Bool
  | [] => true
  | x :: r => noLam x.2 && noLamK r
def noLamF : List (Nm × D) → Bool
  | [] => true
  | x :: r => noLam x.2 && noLamF r
end
def noLamC : Cell → Bool
  | .dic kvs => noLamK kvs
  | .lst xs => noLams xs
  | .obj _ fs => noLamF fs
  | .tab _ => true
def noLamS : List Cell → Bool
  | [] => true
  | c :: r => noLamC c && noLamS r
/-- other words for lambdas -/
def Gam.sw (G : Gam) (lam : String → Addr → Wd → Prop) (lamM : ∀ (k : String) (f : Addr) (w w' : Wd), w.le w' → lam k f w → lam k f w') : Gam := { G with lam := lam, lamM := lamM }
section
variable {G : Gam} {lam : String → Addr → Wd → Prop} {lamM : ∀ (k : String) (f : Addr) (w w' : Wd), w.le w' → lam k f w → lam k f w'} {w : Wd}
mutual
theorem Rep.sw : ∀ {v : V} {d : D}, (noLam d = true ∨ ∀ k f, G.lam k f w → lam k f w) → Rep G w v d → Rep (G.sw lam lamM) w v d
  | _, _, _, .non => .non
  | _, _, _, .bl b => .bl b
  | _, _, _, .int i => .int i
  | _, _, _, .str l => .str l
  | _, _, h, .tup a b => .tup a (Reps.sw h b)
  | _, _, h, .lst a b => .lst a (Reps.sw h b)
  | _, _, h, .scr a b => .scr a (Reps.sw h b)
  | _, _, h, .dic a b => .dic a (RepK.sw h b)
  | _, _, h, .ins c a b => .ins c a (RepF.sw h b)
  | _, _, _, .cell a => .cell a
  | _, _, _, .cls a => .cls a
  | _, _, _, .ty n => .ty n
  | _, _, _, .fn a => .fn a
  | _, _, h, .lam a => .lam (h.elim (fun z => nomatch z) fun z => z _ _ a)
theorem Reps.sw : ∀ {v : List V} {d : List D}, (noLams d = true ∨ ∀ k f, G.lam k f w → lam k f w) → Reps G w v d → Reps (G.sw lam lamM) w v d
  | _, _, _, .nil => .nil
  | _, _, h, .cons a b => .cons (Rep.sw (h.imp (fun z => ((Bool.and_eq_true _ _).mp z).1) id) a) (Reps.sw (h.imp (fun z => ((Bool.and_eq_true _ _).mp z).2) id) b)
theorem RepF.sw : ∀ {v : List (Str × V)} {d : List (Nm × D)}, (noLamF d = true ∨ ∀ k f, G.lam k f w → lam k f w) → RepF G w v d → RepF (G.sw lam lamM) w v d
  | _, _, _, .nil => .nil
  | _, _, h, .cons a b => .cons (Rep.sw (h.imp (fun z => ((Bool.and_eq_true _ _).mp z).1) id) a) (RepF.sw (h.imp (fun z => ((Bool.and_eq_true _ _).mp z).2) id) b)
theorem RepK.sw : ∀ {v : List (Key × V)} {d : List (DK × D)}, (noLamK d = true ∨ ∀ k f, G.lam k f w → lam k f w) → RepK G w v d → RepK (G.sw lam lamM) w v d
  | _, _, _, .nil => .nil
  | _, _, h, .cons a b => .cons (Rep.sw (h.imp (fun z => ((Bool.and_eq_true _ _).mp z).1) id) a) (RepK.sw (h.imp (fun z => ((Bool.and_eq_true _ _).mp z).2) id) b)
end
theorem CellOk.sw {H : Hp} {a : Addr} {c : Cell} (h : noLamC c = true ∨ ∀ k f, G.lam k f w → lam k f w) (k : CellOk G w H a c) : CellOk (G.sw lam lamM) w H a c := by
  cases c with
  | dic kvs => obtain ⟨vs, e, r⟩ := k; exact ⟨vs, e, r.sw h⟩
  | lst xs => obtain ⟨vs, e, r⟩ := k; exact ⟨vs, e, r.sw h⟩
  | obj c fs => obtain ⟨C, dx, vs, q, e, r⟩ := k; exact ⟨C, dx, vs, q, e, r.sw h⟩
  | tab t => exact k
theorem noLamS_get : ∀ {S : List Cell} {n : Nat} {c : Cell}, noLamS S = true → S[n]? = some c → noLamC c = true
  | [], _, _, _, e => by simp at e
  | x :: r, 0, c, h, e => by
    simp at e; subst e
    exact ((Bool.and_eq_true _ _).mp h).1
  | x :: r, n + 1, c, h, e => noLamS_get (S := r) (n := n) ((Bool.and_eq_true _ _).mp h).2 (by simpa using e)
theorem FOk.sw {S : List Cell} {H : Hp} (h : noLamS S = true ∨ ∀ k f, G.lam k f w → lam k f w) (k : FOk G w S H) : FOk (G.sw lam lamM) w S H :=
  ⟨k.sub, k.len, fun n a c e1 e2 => (k.cel n a c e1 e2).sw (h.imp (fun z => noLamS_get z e2) id), k.nd, k.nf⟩
theorem RepX.sw {c : Value} {dd : Option Addr} {x : Xc} (h : noLamF x.fs = true ∨ ∀ k f, G.lam k f w → lam k f w) (k : RepX G w c dd x) : RepX (G.sw lam lamM) w c dd x := by
  obtain ⟨C, h1, h2, h3⟩ := k
  refine ⟨C, h1, h2, h3.imp id fun ⟨a, vs, q1, q2, q3⟩ => ⟨a, vs, q1, q2, q3.sw h⟩⟩
theorem Rep.bk {v : V} {d : D} (h : noLam d = true ∨ ∀ k f, lam k f w → G.lam k f w) (k : Rep (G.sw lam lamM) w v d) : Rep G w v d := Rep.sw (G := G.sw lam lamM) (lam := G.lam) (lamM := G.lamM) h k
theorem FOk.bk {S : List Cell} {H : Hp} (h : noLamS S = true ∨ ∀ k f, lam k f w → G.lam k f w) (k : FOk (G.sw lam lamM) w S H) : FOk G w S H := FOk.sw (G := G.sw lam lamM) (lam := G.lam) (lamM := G.lamM) h k
theorem RepX.bk {c : Value} {dd : Option Addr} {x : Xc} (h : noLamF x.fs = true ∨ ∀ k f, lam k f w → G.lam k f w) (k : RepX (G.sw lam lamM) w c dd x) : RepX G w c dd x := RepX.sw (G := G.sw lam lamM) (lam := G.lam) (lamM := G.lamM) h k
end
/-! ### a def that makes lambdas -/
def fnDL (n : Nat) (body : DStm) (m : Nat) : DFn := fun ds S => if noLams ds = true ∧ noLamS S = true then match fnD n body m ds S with
  | .ok d S' => if noLam d = true ∧ noLamS S' = true then .ok d S' else .stuck
  | .exc x S' => if noLamF x.fs = true ∧ noLamS S' = true then .exc x S' else .stuck
  | .stuck => .stuck
  else .stuck
/-- the frame's own words for its lambdas -/
theorem fn_okDL {G : Gam} {P : Program} {w0 : World} {mg : Str → Option Value} {base : Heap} {x qual : Str} {st : Stmt} {f : Addr} {fd : FuncData} {N ps : List Str} {k n m : Nat} {body : DStm} (F : Fun G.K x qual st f fd) (S : FnScope N ps (defScope st)) (hn : ps.length = n) (hm : N.length - n = m)
    (T : Nat → LamT)
    (hbody : ∀ (cdv : Value), fd.code = cdv → ∀ (A : Around) (outer : List Env) (s : Shared) (H : Hp) (E : XK), Room k (A.deeper (envOfC qual (defScope st) s.heap.objs.size f cdv)) →
      Takes (cxOf (L2.CX P w0) P w0 G.K mg base N qual (defScope st) f cdv A outer s H E) (fun c d _ H => E c d H) → PassesOwn (model P w0) (A.deeper (envOfC qual (defScope st) s.heap.objs.size f cdv)) (envOfC qual (defScope st) s.heap.objs.size f cdv) (cxOf (L2.CX P w0) P w0 G.K mg base N qual (defScope st) f cdv A outer s H E).xe →
      PDSs (G.sw (T s.heap.objs.size).lam (T s.heap.objs.size).lamM) (fun c d _ H => E c d H) (cxOf (L2.CX P w0) P w0 G.K mg base N qual (defScope st) f cdv A outer s H E) (defBody st) body) : FnOk P w0 G.K mg base (L2.CX P w0) (k + 1) f fd ps (spG G n (fnDL n body m)) := by
  obtain ⟨oc, od, kV, doc, pm, an, cdv, ct, osl, rfl, lk, hcd⟩ := F.ex
  refine fn_of lk hcd S (fun vs H Q E h => by rw [h.1, hn]) fun A outer s H vs Q E hr h => ?_
  refine ⟨_, hbody cdv rfl A outer s H E hr (takes_of rfl rfl rfl rfl) (passes_of rfl), ?_⟩
  obtain ⟨hl, w, S', ds, fok, rs, q⟩ := h
  have hd : ds.length = n := by rw [← rs.length]; exact hl
  unfold fnDL at q
  by_cases hno : noLams ds = true ∧ noLamS S' = true
  case neg => rw [if_neg hno] at q; exact q.elim
  rw [if_pos hno] at q
  rw [start_eq (m := m) (by rw [hl]; exact hm)]
  have fok' := fok.sw (lam := (T s.heap.objs.size).lam) (lamM := (T s.heap.objs.size).lamM) (.inl hno.2)
  have rs' := rs.sw (lam := (T s.heap.objs.size).lam) (lamM := (T s.heap.objs.size).lamM) (.inl hno.1)
  refine ⟨⟨w, H, [], none⟩, w, _, Ok.start fok' rs' m, ?_⟩
  unfold fnD at q
  rw [if_pos hd] at q
  cases e : body ⟨ds.map Sl.val ++ List.replicate m .un, S'⟩ with
  | stuck => rw [e] at q; exact q.elim
  | exc x s' =>
    rw [e] at q
    replace q : PostF G (Rep G) w H (if noLamF x.fs = true ∧ noLamS s'.st = true then .exc x s'.st else .stuck) Q E := q
    by_cases hx : noLamF x.fs = true ∧ noLamS s'.st = true
    case neg => rw [if_neg hx] at q; exact q.elim
    rw [if_pos hx] at q
    exact fun w' σ' c dd H' le ok' rx => q w' c dd H' ok'.nx (ok'.fok.bk (.inl hx.2)) (rx.bk (.inl hx.1))
  | ok o s' =>
    rw [e] at q
    have key : ∀ d, PostF G (Rep G) w H (if noLam d = true ∧ noLamS s'.st = true then .ok d s'.st else .stuck) Q E → ∀ (w' : Wd) (v : L2.St × V) (H' : Hp), Ok (G.sw (T s.heap.objs.size).lam (T s.heap.objs.size).lamM) ⟨w, H, [], none⟩ w' s' v.1 H' → Rep (G.sw (T s.heap.objs.size).lam (T s.heap.objs.size).lamM) w' v.2 d → Q v.2 H' := fun d q w' v H' ok' r' => by
      by_cases hx : noLam d = true ∧ noLamS s'.st = true
      case neg => rw [if_neg hx] at q; exact q.elim
      rw [if_pos hx] at q
      exact q w' v.2 H' ok'.nx (ok'.fok.bk (.inl hx.2)) (r'.bk (.inl hx.1))
    cases o with
    | nx => exact fun w' σ' H' le ok' => key .non q w' (σ', .non) H' ok' .non
    | rt d => exact fun w' σ' v H' le ok' r' => key d q w' (σ', v) H' ok' r'
    | bk => exact q.elim
    | ct => exact q.elim
/-! ### a lambda called in the def that it was handed to -/
abbrev LamR := String → List Cell → Res (List Cell) D
def eAct (Λ : LamR) (i : Nat) : DE := fun s => match s.sl[i]? with
  | some (.val (.lam k)) => lift s (Λ k s.st)
  | _ => .stuck
def stripS : Sl → Sl
  | .val d => .val d
  | _ => .un
def lamRun (b : DE) (sl : List Sl) (st : List Cell) : Res (List Cell) D := match b ⟨sl.map stripS, st⟩ with
  | .ok d s' => .ok d s'.st
  | .exc x s' => .exc x s'.st
  | .stuck => .stuck
def lamR (bs : String → Option DE) (sl : List Sl) : LamR := fun k st => match bs k with
  | some b => lamRun b sl st
  | none => .stuck
def eCallL (n : Nat) (g : LamR → DFn) (bs : String → Option DE) (fa : DA) : DE := fun s => (fa s).bind fun ds s1 => if ds.length = n then lift s1 (g (lamR bs s1.sl) ds s1.st) else .stuck
theorem Ok.strip {G : Gam} {κ : Bs} {w w' : Wd} {s : DS} {σ : L2.St} {H H' : Hp} {S' : List Cell} (h : Ok G κ w s σ H) (le : w.le w') (f : FOk G w' S' H') : Ok G ⟨w', H', [], none⟩ w' ⟨s.sl.map stripS, S'⟩ σ H' := by
  have no : ∀ (i : Nat) (x : Sl), (s.sl.map stripS)[i]? = some x → x.own = false := fun i x e => by
    rw [List.getElem?_map] at e
    cases q : s.sl[i]? with
    | none => rw [q] at e; cases e
    | some y => rw [q] at e; cases e; cases y <;> rfl
  refine ⟨f, .refl _ _, by simp [h.len], fun i d e => ?_, fun i x e o => ?_, fun i j x y a e1 e2 o1 o2 _ _ => ?_, fun p hp => by simp at hp, fun a z => nomatch z⟩
  · replace e : (s.sl.map stripS)[i]? = some (.val d) := e
    rw [List.getElem?_map] at e
    cases q : s.sl[i]? with
    | none => rw [q] at e; cases e
    | some y =>
      rw [q] at e
      cases y with
      | val d' =>
        cases e
        obtain ⟨v, h1, h2⟩ := h.val i d q
        exact ⟨v, h1, h2.mono le⟩
      | _ => cases e
  · rw [no i x e] at o; cases o
  · rw [no i x e1] at o1; cases o1
/-- the words while w stands below -/
def Gam.at (G : Gam) (w : Wd) : Gam := G.sw (fun k f w' => G.lam k f w' ∧ w.le w') (fun k f a b le h => ⟨G.lamM k f a b le h.1, h.2.trans le⟩)
/-- the bodies of a maker's lambdas -/
structure LamB (G : Gam) (X : Cx) (k : Nat) (pr : Arguments) (bd : Expr) (sc : Scope) (b : DE) : Prop where
  L : LamX.LamS X.env.scope sc
  bind : ∀ (q : Str) (cl : List (Str × Addr)) (pm cv ctv : Value), bindArgs (PySem.W.kla_fn "<lambda>" q pr bd sc cl pm cv ctv) ⟨[], []⟩ = pure []
  body : ∀ (A : Around) (outer : List Env) (s : Shared) (H : Hp) (E : XK) (f c' : Addr), Room k (A.deeper (LamX.lamEnv X sc s.heap.objs.size f c')) → Takes (LamX.lamCx X A outer s H E sc f c') (fun c d _ H => E c d H) →
    PD G (fun c d _ H => E c d H) (LamX.lamCx X A outer s H E sc f c') bd b
def LamsOk (G : Gam) (X : Cx) (T : LamT) (k : Nat) (bs : String → Option DE) : Prop := ∀ (n : String) (b : DE), bs n = some b → ∃ pr bd sc, T.site n = some (pr, bd, sc) ∧ LamB G X k pr bd sc b
section
variable {G : Gam} {W : WX} {X : Cx}
theorem pd_act {T : LamT} {bs : String → Option DE} {pins : List (Addr × Obj)} {σ : L2.St} {H : Hp} {sh : Shared} {κ : Bs} {w : Wd} {s : DS} {k i : Nat} {Ng : List Str} {qg : Str} {sg : Scope} {g : Addr} {cdg : Value} {Eg : XK} {pn : List (Addr × Obj)} {xe : Value → Shared → Prop} {a : Str} {Wz : WX} {p1 p2 : Pos}
    (I : Inv X pins σ H sh) (ok : Ok G κ w s σ H) (GL : ∀ n f w', G.lam n f w' → T.lam n f w') (hq : T.q = X.env.qual ++ "<lambda>") (hcl : T.cells = X.env.cells) (hbs : LamsOk G X T k bs)
    (tk : Takes ((cxOf (L2.CX X.prog X.w) X.prog X.w X.K X.mg X.base Ng qg sg g cdg X.A X.stack sh H Eg).tr pn xe) Wz) (hr : Room (k + 1) (X.A.deeper (envOfC qg sg sh.heap.objs.size g cdg)))
    (hN : Ng[i]? = some a) (hv : Vis sg a) (hd : (a == ("__debug__" : Str)) = false := by decide) (hcd : (a == ("__classdict__" : Str)) = false := by decide) :
    PD (G.at w) Wz ((cxOf (L2.CX X.prog X.w) X.prog X.w X.K X.mg X.base Ng qg sg g cdg X.A X.stack sh H Eg).tr pn xe) (.Call (.Name a p1) [] [] p2) (eAct (lamR bs s.sl) i) := by
  refine ⟨fun pinsZ sZ σZ HZ Q IZ ⟨κZ, wZ, dZ, okZ, q⟩ => ?_⟩
  have ⟨n, e⟩ : ∃ n, dZ.sl[i]? = some (.val (.lam n)) := by
    unfold eAct at q
    split at q
    · exact ⟨_, by assumption⟩
    · exact q.elim
  simp only [eAct, e] at q
  obtain ⟨v, hs, rep⟩ := okZ.val i _ e
  cases rep with
  | @lam f _ hl =>
  obtain ⟨hl, le⟩ := hl
  have ⟨b, hb⟩ : ∃ b, bs n = some b := by
    unfold lamR at q
    split at q
    · exact ⟨_, by assumption⟩
    · exact q.elim
  simp only [lamR, hb] at q
  obtain ⟨pr, bd, sc, hsite, B⟩ := hbs n b hb
  obtain ⟨pr', bd', sc', pm, c', ctv, hsite', hF, hC⟩ := GL _ _ _ hl
  rw [hsite] at hsite'
  cases hsite'
  have hf0 := okZ.fok.sub _ _ hF
  have hc0 := okZ.fok.sub _ _ hC
  refine wpAny_Call_Name_kw (thn ((pe_var (pos := p1) (i := i) hN hv hd hcd).run pinsZ sZ σZ HZ (fun v H1 => v = .ref f ∧ H1 = HZ) IZ ⟨.ref f, hs, rfl, rfl⟩) fun u s1 ⟨v, H1, I1, r1, q1⟩ => ?_)
  obtain ⟨ev, eH⟩ := q1
  subst ev
  rw [eH] at I1
  obtain rfl : u = Value.ref f := r1
  have of1 : s1.heap.get? f = some (PySem.W.kla_obj "<lambda>" T.q pr bd sc (cloFrom T.cells sc.names []) pm c' ctv) := (I1.hok f _ hf0).1
  obtain ⟨⟨oc, vs, t, hoc, hdc, hvc⟩, _, _⟩ := I1.hok c' _ hc0
  rw [hq, hcl] at of1
  rw [hq] at hvc
  refine PySem.W.callWith_F0 ⟨_, _, _, _, of1⟩ ?_
  have un : Un (frs X.stack) [] H HZ sh.heap s1.heap := I1.base
  have rc : codeAny (model X.prog X.w) (X.A.deeper (envOfC qg sg sh.heap.objs.size g cdg)) (.call (.ref f) ⟨[], []⟩) (CR (L2.CX X.prog X.w) (envOfC qg sg sh.heap.objs.size g cdg :: X.stack) X.prog X.w HZ s1 Q (WE Wz σZ)) s1 := by
    refine PySem.W.kla_callFunE hr.depth of1 rfl B.L.co B.L.gen rfl ⟨c', oc, vs, t, rfl, hoc, hdc, hvc⟩ ?_
    rw [B.bind]
    refine wpAny_pure (wpAny_newFunctionEnv (fun y hy => (B.L.own y hy).2) (fun y hy => absurd hy (by simp)) (fun h₁ hns hsb => ⟨I1.nolimit.fresh _ hsb, ?_⟩) B.L.kind)
    show codeAny _ _ (.expr bd (LamX.lamEnv X sc s1.heap.objs.size f c')) _ _
    have kp : ∀ b o, s1.heap.get? b = some o → h₁.get? b = some o := fun b o e => hsb.extBut b o (Nat.ne_of_lt (Heap.lt_size e)) (Heap.get?_push_of_some _ e)
    have J : Inv (LamX.lamCx X (X.A.deeper (envOfC qg sg sh.heap.objs.size g cdg)) (envOfC qg sg sh.heap.objs.size g cdg :: X.stack) s1 HZ (WE Wz σZ) sc f c') [] σ HZ { s1 with heap := h₁, toks := s1.toks + ([] : List (Str × Value)).length } :=
      LamX.lam_start2 I B.L I1.env0 hr.hd un hns kp
    have okB := ok.strip le (okZ.fok.bk (.inr fun _ _ z => z.1))
    have ht : tD G (fun c d _ H => WE Wz σZ c d H) b σ HZ Q := by
      refine ⟨_, _, _, okB, ?_⟩
      unfold lamRun at q
      cases er : b ⟨s.sl.map stripS, dZ.st⟩ with
      | stuck => rw [er] at q; exact q.elim
      | ok d s' =>
        rw [er] at q
        intro w' v' H' le' ok' r'
        exact q w' v' H' le' (okZ.step ok'.nx (ok'.fok.sw (.inr fun _ _ z => ⟨z, le.trans le'⟩))) (r'.sw (.inr fun _ _ z => ⟨z, le.trans le'⟩))
      | exc x s' =>
        rw [er] at q
        intro w' cl dd H' le' ok' r'
        exact q w' cl dd H' le' (okZ.step ok'.nx (ok'.fok.sw (.inr fun _ _ z => ⟨z, le.trans le'⟩))) (r'.sw (.inr fun _ _ z => ⟨z, le.trans le'⟩))
    refine PySem.W.kla_codeExpr (wpAny_mono ((B.body _ _ s1 HZ _ _ _ (hr.deeper _) (takes_of rfl rfl rfl rfl)).run [] _ _ HZ Q J ht) (fun v s' hq => ?_) fun e s' hq => hq)
    obtain ⟨w', H', J', rv, q⟩ := hq
    exact ⟨w', H', J'.os, J'.bare, J'.base, J'.hok, rv, q⟩
  refine wpAny_call (codeAny_mono rc fun r s' hq => ?_)
  cases r with
  | error e => exact passAt tk σZ pinsZ HZ s1 e s' I1 hq
  | ok fl =>
    cases fl with
    | ret u => exact I1.after hq
    | next => exact False.elim hq
    | brk => exact False.elim hq
    | cont => exact False.elim hq
/-- the body of a def that is handed lambdas -/
def BodyL (G : Gam) (P : Program) (w0 : World) (mg : Str → Option Value) (base : Heap) (k : Nat) (N : List Str) (qual : Str) (st : Stmt) (f : Addr) (a : Str) (i : Nat) (body : LamR → DStm) : Prop :=
  ∀ (Λ : LamR) (cdv : Value) (A : Around) (outer : List Env) (s : Shared) (H : Hp) (E : XK), Room k (A.deeper (envOfC qual (defScope st) s.heap.objs.size f cdv)) →
    Takes (cxOf (L2.CX P w0) P w0 G.K mg base N qual (defScope st) f cdv A outer s H E) (fun c d _ H => E c d H) → PassesOwn (model P w0) (A.deeper (envOfC qual (defScope st) s.heap.objs.size f cdv)) (envOfC qual (defScope st) s.heap.objs.size f cdv) (cxOf (L2.CX P w0) P w0 G.K mg base N qual (defScope st) f cdv A outer s H E).xe →
    (∀ (pn : List (Addr × Obj)) (xe : Value → Shared → Prop) (W : WX) (p1 p2 : Pos), Takes ((cxOf (L2.CX P w0) P w0 G.K mg base N qual (defScope st) f cdv A outer s H E).tr pn xe) W → PD G W ((cxOf (L2.CX P w0) P w0 G.K mg base N qual (defScope st) f cdv A outer s H E).tr pn xe) (.Call (.Name a p1) [] [] p2) (eAct Λ i)) →
    PDSs G (fun c d _ H => E c d H) (cxOf (L2.CX P w0) P w0 G.K mg base N qual (defScope st) f cdv A outer s H E) (defBody st) (body Λ)
theorem pd_callL {T : LamT} {bs : String → Option DE} {k n m i : Nat} {f : Addr} {fd : FuncData} {N ps : List Str} {body : LamR → DStm} {x qual a : Str} {st : Stmt} {p pos : Pos} {e : Expr} {es : List Expr} {fa : DA} (hK : G.K = X.K) (F : Fun X.K x qual st f fd) (S : FnScope N ps (defScope st)) (hn : ps.length = n) (hm : N.length - n = m)
    (GL : ∀ n f w', G.lam n f w' → T.lam n f w') (hq : T.q = X.env.qual ++ "<lambda>") (hcl : T.cells = X.env.cells) (hbs : LamsOk G X T k bs)
    (hbody : ∀ w, BodyL (G.at w) X.prog X.w X.mg X.base (k + 1) N qual st f a i body) (hN : N[i]? = some a) (hv : Vis (defScope st) a)
    (hr : Room (k + 2) X.A) (hg : Gl X x) (hmg : X.mg x = some (.ref f)) (hb : Binds X.K fd ps []) (tk : Takes X W) (ha : PDA G W X (e :: es) fa) (hdb : (x == ("__debug__" : Str)) = false := by decide) (hda : (a == ("__debug__" : Str)) = false := by decide) (hcd : (a == ("__classdict__" : Str)) = false := by decide)
    (he : starEach (e :: es) X.env = (false, eval e X.env) :: starEach es X.env := by rfl) (hpl : (backTo pos (starEach es X.env)).any (·.1) = false := by rfl) : PD G W X (.Call (.Name x p) (e :: es) [] pos) (eCallL n (fun Λ => fnD n (body Λ) m) bs fa) := by
  refine ⟨fun pins s σ H Q I h => ?_⟩
  obtain ⟨κ, w, ds, ok, q⟩ := h
  refine wpAny_Call_Name_kw (ld_glob I hg hmg ?_ hdb)
  have hh : tDA G W fa σ H fun vs H1 => ∃ d s1 w1, w.le w1 ∧ Ok G κ w1 s1 σ H1 ∧ Reps G w1 vs d ∧ PostG G W (Rep G) κ w1 σ (if d.length = n then lift s1 (fnD n (body (lamR bs s1.sl)) m d s1.st) else .stuck) Q := ⟨κ, w, ds, ok, PostG.bind q⟩
  refine PySem.W.callWith_K (h₀ := X.base) I.ok.mod.kin F.kp (thn (ha.run pos pins s σ H _ I hh) fun us s1 ⟨vs, H1, I1, r, d, s2, w1, le, ok1, rs, q1⟩ => ⟨I1.kIn, ?_⟩) he hpl
  by_cases c : d.length = n
  case neg => rw [if_neg c] at q1; exact q1.elim
  rw [if_pos c] at q1
  have q2 := postF_of ok1 q1
  obtain ⟨oc, od, kV, doc, pm, an, cdv, ct, osl, rfl, lk, hcode⟩ := F.ex
  have hl : vs.length = n := by rw [rs.length]; exact c
  have hul : us.length = ps.length := by rw [← r.length, hl, hn]
  have rc : codeAny (model X.prog X.w) X.A (.call (.ref f) ⟨us, []⟩) (CR (L2.CX X.prog X.w) X.stack X.prog X.w H1 s1 Q (WE W σ)) s1 := by
    have hbd := hb s1 us I1.kIn (by simpa using hul)
    rw [List.append_nil] at hbd
    refine LamX.run_ofS (N := N) (ps := ps) (us := us) (vs := vs) lk hcode S hr I1.env0 hbd r (by rw [hl, hn]) fun hr' => ?_
    have hb0 := hbody w1 (lamR bs s2.sl) cdv X.A X.stack s1 H1 (WE W σ) hr' (takes_of rfl rfl rfl rfl) (passes_of rfl) 
    have hK' : (G.at w1).K = X.K := hK
    rw [hK'] at hb0
    refine ⟨_, hb0 fun pn xe W' p1 p2 tk' => pd_act I1 ok1 GL hq hcl hbs tk' hr' hN hv hda hcd, ?_⟩
    rw [start_eq (m := m) (by rw [hl]; exact hm)]
    have fok' : FOk (G.at w1) w1 s2.st H1 := ok1.fok.sw (.inr fun _ _ z => ⟨z, .refl _⟩)
    have rs' : Reps (G.at w1) w1 vs d := rs.sw (.inr fun _ _ z => ⟨z, .refl _⟩)
    refine ⟨⟨w1, H1, [], none⟩, w1, _, Ok.start fok' rs' m, ?_⟩
    unfold fnD at q2
    rw [if_pos c] at q2
    cases e : body (lamR bs s2.sl) ⟨d.map Sl.val ++ List.replicate m .un, s2.st⟩ with
    | stuck => rw [e] at q2; exact q2.elim
    | exc x s' =>
      rw [e] at q2
      exact fun w' σ' c dd H' le ok' rx => q2 w' c dd H' ok'.nx (ok'.fok.bk (.inr fun _ _ z => z.1)) (rx.bk (.inr fun _ _ z => z.1))
    | ok o s' =>
      rw [e] at q2
      cases o with
      | nx => exact fun w' σ' H' le ok' => q2 w' .non H' ok'.nx (ok'.fok.bk (.inr fun _ _ z => z.1)) .non
      | rt d => exact fun w' σ' v H' le ok' r' => q2 w' v H' ok'.nx (ok'.fok.bk (.inr fun _ _ z => z.1)) (r'.bk (.inr fun _ _ z => z.1))
      | bk => exact q2.elim
      | ct => exact q2.elim
  refine wpAny_call (codeAny_mono rc fun r s' hq => ?_)
  cases r with
  | error e => exact passAt tk σ pins H1 s1 e s' I1 hq
  | ok fl =>
    cases fl with
    | ret u => exact I1.after hq
    | next => exact False.elim hq
    | brk => exact False.elim hq
    | cont => exact False.elim hq
end
end DL
set_option maxRecDepth 100000
set_option maxHeartbeats 4000000
set_option autoImplicit false
namespace DL
open PySem PySem.Spec PyProof.Rows L2
/-! ### the law's end, with tables of code objects -/
def tabP (P : Addr) (q : Str) : Addr → Hp → HO → Prop := fun a F o => a = P ∧ ∃ ps : Array Value, o = .tbl ps ∧ TriplesOk ps.toList ∧ ∀ (pos : Pos) (cv : Value), codeAmong pos ps.toList = some cv → ∃ c, cv = .ref c ∧ F c = some (LamX.CodeO c q)
theorem tabP_nil (P : Addr) (q : Str) (F : Hp) : tabP P q P F (.tbl #[]) := ⟨rfl, #[], rfl, True.intro, fun pos cv hc => by
  have hc : codeAmong pos [] = some cv := hc
  simp [codeAmong] at hc⟩
def tabG (ms : List (String × Addr × Str)) : String → Addr → Hp → HO → Prop := fun k a F o => ∃ m, ms.lookup k = some m ∧ tabP m.1 m.2 a F o
theorem tabG_mono (ms : List (String × Addr × Str)) (k : String) (a : Addr) (F F' : Hp) (o : HO) (e : ∀ a o, F a = some o → F' a = some o) : tabG ms k a F o → tabG ms k a F' o := fun ⟨m, hm, h0, ps, h1, h2, h3⟩ => ⟨m, hm, h0, ps, h1, h2, fun pos cv hc => by
  obtain ⟨c, z1, z2⟩ := h3 pos cv hc
  exact ⟨c, z1, e _ _ z2⟩⟩
theorem glam_of {G : Gam} {ms : List (String × Addr × Str)} {tk : String} {T : LamT} (ht : G.tab = tabG ms) (hl : ms.lookup tk = some (T.P, T.q)) (hlam : ∀ k f w, G.lam k f w ↔ T.lam k f w) : GLam G tk T := by
  refine ⟨fun a F o => ?_, fun k f w _ => hlam k f w⟩
  rw [ht]
  constructor
  · rintro ⟨m, hm, h⟩
    rw [hl] at hm
    cases hm
    exact h
  · intro h
    exact ⟨_, hl, h⟩
def spLawT (K : PySem.W.Frag) (Ps : List Addr) : Sp := fun vs H Q _ => ∃ (a : Addr) (ns : List Int), vs = [.ref a] ∧ SqL K H a (ns.map V.int) ∧ ns.length ≤ 63 ∧ (∀ z ∈ ns, Builtin.Int.intBits z ≤ 1048576) ∧ (∀ P ∈ Ps, H P = some (.tbl #[])) ∧ ∀ H', Q (.bl true) H'
theorem law_endT {G : Gam} {P : Program} {w0 : World} {mg : Str → Option Value} {base : Heap} {k : Nat} {f : Addr} {fd : FuncData} {ps : List Str} {g : DFn} {Ms : List (String × Addr)} (F : FnOk P w0 G.K mg base (L2.CX P w0) k f fd ps (spG G 1 g)) (nd : (Ms.map (·.2)).Nodup)
    (ht : ∀ m ∈ Ms, ∀ F, G.tab m.1 m.2 F (.tbl #[]))
    (h : ∀ ns : List Int, ns.length ≤ 63 → (∀ z ∈ ns, Builtin.Int.intBits z ≤ 1048576) → ∃ S, g [.scr (ns.map D.int)] (Ms.map fun m => .tab m.1) = .ok (.bl true) S) : FnOk P w0 G.K mg base (L2.CX P w0) k f fd ps (spLawT G.K (Ms.map (·.2))) :=
  F.imp fun vs H Q E ⟨a, ns, e, hS, hl, hb, hP, q⟩ => by
    obtain ⟨S, hg⟩ := h ns hl hb
    subst e
    have hF : ∀ b, b ∉ Ms.map (·.2) → (fun b => if b ∈ Ms.map (·.2) then none else H b : Hp) b = H b := fun b hb => if_neg hb
    have nt : ∀ o, H a = some o → (∀ ps, o ≠ .tbl ps) → a ∉ Ms.map (·.2) := fun o e n z => n #[] (Option.some.inj (e.symm.trans (hP a z)))
    refine ⟨rfl, ⟨fun b => if b ∈ Ms.map (·.2) then none else H b, Ms.map (·.2)⟩, Ms.map fun m => .tab m.1, [.scr (ns.map D.int)], ⟨fun b o e => ?_, by simp, fun n b c e1 e2 => ?_, nd, fun b hb => if_pos hb⟩, .cons (.scr ?_ (Reps.of_ints ns)) .nil, ?_⟩
    · by_cases z : b ∈ Ms.map (·.2)
      · have e : (if b ∈ Ms.map (·.2) then none else H b) = some o := e
        rw [if_pos z] at e; cases e
      · have e : (if b ∈ Ms.map (·.2) then none else H b) = some o := e
        rw [if_neg z] at e; exact e
    · rw [List.getElem?_map] at e1 e2
      cases hm : Ms[n]? with
      | none => rw [hm] at e1; cases e1
      | some m =>
        rw [hm] at e1 e2
        cases e1; cases e2
        have mem := List.mem_of_getElem? hm
        exact ⟨_, hP _ (List.mem_map.mpr ⟨m, mem, rfl⟩), ht m mem _⟩
    · rcases hS with (z | ⟨o, z⟩) | z
      · exact .inl (.inl ((hF a (nt _ z fun _ => by simp)).trans z))
      · exact .inl (.inr ⟨o, (hF a (nt _ z fun _ => by simp)).trans z⟩)
      · exact .inr z
    · rw [hg]
      intro w' v H' nx f r
      cases r
      exact q H'
/-- the tables of the makers -/
def TabsT (q : Program) (K : PySem.W.Frag) (h : Heap) : Prop := ∀ (y : Str) (c P : Addr), ((recsOf q).find? (fun e => e.name == y)).isSome = true → PySem.W.tabIn K y = some (c, P) → PySem.W.CodeHd h c P ∧ h.get? P = some { cls := .none, data := .fields #[] }
theorem walk_ofD {l : PySem.W.OpenLaw} {n k : Nat} {q : Program} {loose : List Str} {XP : (Str → Option Value) → Heap → Prop} {YP : World → Heap → Prop} {d : DefRec} {K : Params → PySem.W.Frag} {CX : World → CXT} {x : Str}
    (hn : l.most = some n) (hn2 : n ≤ sizeLine) (hdf : d.params.defaults = []) (hr : Room k callerA) (hY : ∀ (w : World) (h : Heap), YP w h → (K w.params).In h)
    (F : ∀ (w : World) (mg : Str → Option Value) (fa : Addr) (h : Heap), (K w.params).In h → h.Ns mainGlobals mg → mg d.name = some (.ref fa) → TabsT q (K w.params) h → LamX.LawAtS l w (K w.params) (CX w) k n x mg fa h)
    (hCX : ∀ (w : World) (H : Hp) (s : Shared) (e : Value) (s' : Shared), CX w [] H s (fun _ _ _ => False) e s' → False) :
    PySem.W.WalkO q loose XP YP l.row.toRowW d [] (fun f vs => PySem.call f vs) := by
  refine Att.attach_callB hn hdf fun w s₀ s₁ mg mb fa o pm cd doc a vs ns G Y ho hd hcd hmg hobj hints hlen hbits hg => ?_
  have KX := hY w _ Y
  have tt : TabsT q (K w.params) s₁.heap := fun y c P hr ht => by
    obtain ⟨dd, hdd⟩ := Option.isSome_iff_exists.mp hr
    exact PySem.W.tab_of G.T KX hdd ht
  obtain ⟨fd, cs, sp, hT, nT, C, hb, hsp, hF⟩ := F w mg fa _ KX G.T.g hmg tt
  exact LamX.law_callTs KX G.T.g G.T.b G.T.builtins G.T.nolimit hg hT nT C G.T.bmain hobj hints (Nat.le_trans hlen hn2) hr hF hb (fun H hH hS => hsp H a ns hlen hbits hH hS) fun H e s' => hCX w H s₁ e s'
end DL
set_option maxRecDepth 100000
set_option maxHeartbeats 4000000
set_option autoImplicit false
namespace DL
open PySem PySem.Spec PyProof.Rows L2
/-! ### own error classes: the facts of the head -/
/-- the text of an own error's __init__ -/
def XSh (st : Stmt) (slf x f : Str) : Prop := ∃ (ar : Arg) (p0 p1 p2 p3 p4 p5 p6 p7 p8 p9 : Pos),
  defBody st = [.Expr (.Call (.Attribute (.Call (.Name "super" p0) [] [] p1) "__init__" p2) [.Name x p3] [] p4) p5, .Assign [.Attribute (.Name slf p6) f p7] (.Name x p8) p9] ∧
  ((defArgs st).posonlyargs ++ (defArgs st).args).head? = some ar ∧ ar.arg = slf ∧
  (defScope st).names.lookup ("super" : Str) = some .globalImplicit ∧ (defScope st).names.lookup ("__class__" : Str) = some .free ∧ (defScope st).names.lookup slf = some .local ∧ (defScope st).names.lookup x = some .local ∧ (∀ z ∈ (defScope st).names, z.2 ≠ .cell) ∧
  (defScope st).kind = .function ∧ (defScope st).isCoroutine = false ∧ (defScope st).isGenerator = false ∧ (p2.endLine == p4.line) = true
def xcB (K : PySem.W.Frag) (C fI : Addr) (f : Str) : Bool :=
  (PySem.W.findIn K (.ref C) "__setattr__" == some (some (.builtin "object.__setattr__"))) && ((PySem.W.subIn K (.ref C) (.type "BaseException") == some true) && ((PySem.W.typeIn K (.ref C) == some (.type "type")) && (PySem.W.keepIn K (.ref C) && ((PySem.W.typeIn K (.ref fI) == some (.type "function")) &&
  ((PySem.W.mroIn K C (.ref C) == some true) && ((PySem.W.ks_superIn K C C "__init__" == some (some (.builtin "ValueError.__init__"))) && ((PySem.W.subIn K (.ref C) (.type "ValueError") == some true) && ((PySem.W.nsIn K cStatics "thirdparty.any" == some none) && ((PySem.W.findIn K (.ref C) f == some none) && xfB K C)))))))))
structure XFacts (P : Program) (G : Gam) (mg : Str → Option Value) (c : String) (C fI : Addr) (fd : FuncData) (slf x f : Str) : Prop where
  T : XCls G G.K c C fI
  I : XIn P G.K mg C fI fd slf x f
  F : XfC G.K C
  B : Binds G.K fd [slf, x] []
theorem xfacts_of {P : Program} {G : Gam} {mg : Str → Option Value} {c : String} {C fI NS cda cc : Addr} {st : Stmt} {slf x f nm q name qual file : Str} {bs bm sub : List Value} {sn : List Str} {ab : Bool} {col : Option Bool} {dd : Option Addr} {k0 k1 k2 k3 k5 : Option Value}
    {oc dV kV doc pm ct ccl cl : Value} {od an cdd cld : Option Addr} {osl ccs csl : Array (Option Value)} {vs : Array Value} {tf : Tok}
    (hct : G.ct c = some C) (xl : G.K.lookup C = some (excClassObj nm q C NS bs bm true sn sub ab col dd k0 k1 k2 k3 k5 "ValueError.__new__")) (xr : PySem.HandSPX.refsVE bm = true) (xi : PySem.W.findIn G.K (.ref C) "__init__" = some (some (.ref fI)))
    (xf : G.K.lookup fI = some ⟨oc, od, .func (PySem.W.fnX name qual (defArgs st) (defBody st) (defScope st) [("__class__", cc)] dV kV doc pm an (.ref cda) ct), osl⟩) (xc : PySem.W.codeIn G.K (.ref cda) qual = true) (xd : G.K.lookup cda = some ⟨ccl, cdd, .fields vs, ccs⟩) (xv : vs[2]? = some (.str file tf))
    (xe : ((P.main.file : Str) == file) = true) (xk : G.K.lookup cc = some ⟨cl, cld, .cell (some (.ref C)), csl⟩) (xB : xcB G.K C fI f = true) (xt : (P.main.scope.names.lookup ("super" : Str)).isSome = false) (xs : mg "super" = none) (sh : XSh st slf x f)
    (d1 : (slf == ("__debug__" : Str)) = false) (d2 : (x == ("__debug__" : Str)) = false) (d3 : slf ≠ x) (hb : ∀ us : List Value, us.length = 2 → bindArgs (PySem.W.fnX name qual (defArgs st) (defBody st) (defScope st) [("__class__", cc)] dV kV doc pm an (.ref cda) ct) ⟨us, []⟩ = pure ([slf, x].zip us)) :
    XFacts P G mg c C fI (PySem.W.fnX name qual (defArgs st) (defBody st) (defScope st) [("__class__", cc)] dV kV doc pm an (.ref cda) ct) slf x f := by
  unfold xcB at xB
  simp only [Bool.and_eq_true, beq_iff_eq] at xB
  obtain ⟨b1, b2, b3, b4, b5, b6, b7, b8, b9, b10, b11⟩ := xB
  obtain ⟨ar, p0, p1, p2, p3, p4, p5, p6, p7, p8, p9, s1, s2, s3, s4, s5, s6, s7, s8, s9, s10, s11, s12⟩ := sh
  have oex : OexC G.K C := ⟨⟨nm, q, NS, bs, bm, sn, sub, ab, col, dd, k0, k1, k2, k3, k5, xl, xr⟩, b1, b2, b3, b4⟩
  refine ⟨⟨hct, xi, b5, oex⟩, ⟨⟨oc, doc, pm, dV, kV, ct, ccl, cl, od, an, cdd, cld, osl, ccs, csl, cda, cc, name, qual, file, defArgs st, defScope st, vs, tf, ar, p0, p1, p2, p3, p4, p5, p6, p7, p8, p9, by rw [s1], xf, xc, s2, s3, xd, xv, xe, xk, s4, s5, s6, s7, s8, s9, s10, s11, s12⟩, xt, xs, b6, b7, b8, b9, oex, b10, d1, d2, d3⟩, xfB_ok b11, .all hb⟩
/-! ### handlers without addresses -/
def HdR.bare (h : HdR) : HdR := ⟨.none, h.oi, h.m, h.f⟩
theorem catch_bare (x : Xc) : ∀ (hs : List HdR) (s : DS), catchD (hs.map HdR.bare) x s = catchD hs x s
  | [], s => rfl
  | ⟨_, none, m, f⟩ :: r, s => by
    show (match m x.cls with | some true => noX (f x s) | some false => catchD (r.map HdR.bare) x s | none => .stuck) = _
    rw [catch_bare x r s]
    rfl
  | ⟨_, some i, m, f⟩ :: r, s => by
    show (match m x.cls with | some true => (if i < s.sl.length then unD i (noX (f x ⟨s.sl.set i .un, s.st⟩)) else .stuck) | some false => catchD (r.map HdR.bare) x s | none => .stuck) = _
    rw [catch_bare x r s]
    rfl
theorem try_bare (b : DStm) (hs : List HdR) : sTry b (hs.map HdR.bare) = sTry b hs := by
  funext s
  unfold sTry
  cases b s with
  | exc x s1 => exact catch_bare x hs s1
  | ok o s1 => rfl
  | stuck => rfl
def hmT (yes no : List String) : String → Option Bool := fun k => if k ∈ yes then some true else if k ∈ no then some false else none
theorem mok_of {G : Gam} {K : PySem.W.Frag} {c : Value} {oi : Option Nat} {f : Xc → DStm} {yes no : List String} (h1 : ∀ k ∈ yes, ∀ C, G.ct k = some C → PySem.W.exmOne K (.ref C) c = some true) (h2 : ∀ k ∈ no, ∀ C, G.ct k = some C → PySem.W.exmOne K (.ref C) c = some false) : MOk G K ⟨c, oi, hmT yes no, f⟩ := by
  intro k b h C hC
  simp only [hmT] at h
  split at h
  · cases h; exact h1 k (by assumption) C hC
  · split at h
    · cases h; exact h2 k (by assumption) C hC
    · cases h
section
variable {G : Gam} {W : WX} {X : Cx}
theorem pds_tryB {bd : List Stmt} {g0 : ExceptHandler} {gs : List ExceptHandler} {hs : List HdR} {tpos : Pos} {fb : DStm} (est : X.stack = X.env :: X.outer) (efr : X.env.frame = some X.env.locals) (nd : X.N.Nodup) (tk : Takes X W)
    (hbd : ∀ (Wi : WX) (pn : List (Addr × Obj)) (xe : Value → Shared → Prop), Takes (X.tr pn xe) Wi → PassesOwn (model X.prog X.w) X.A X.env xe → PDSs G Wi (X.tr pn xe) bd fb) (hm : ∀ h ∈ hs, MOk G X.K h)
    (hh : HdA X (g0 :: gs) (hs.map fun h => (h.c, h.oi, tSu G h))) : PDS G W X (.Try bd (g0 :: gs) [] [] tpos) (sTry fb (hs.map HdR.bare)) := by
  rw [try_bare]
  exact pds_try est efr nd tk hbd hm hh
end
end DL
set_option maxRecDepth 100000
set_option maxHeartbeats 4000000
set_option autoImplicit false
namespace DL
open PySem PySem.Spec PyProof.Rows L2
/-! ### the lambdas of a text, in their order -/
abbrev LSite := Arguments × Expr × Scope
def lamsE : Nat → Expr → List LSite
  | 0, _ => []
  | n + 1, e => match e with
    | .Lambda a b s _ => [(a, b, s)]
    | .BoolOp _ vs _ => vs.flatMap (lamsE n)
    | .BinOp a _ b _ => lamsE n a ++ lamsE n b
    | .UnaryOp _ a _ => lamsE n a
    | .IfExp a b c _ => lamsE n a ++ lamsE n b ++ lamsE n c
    | .Compare a _ cs _ => lamsE n a ++ cs.flatMap (lamsE n)
    | .Call f as _ _ => lamsE n f ++ as.flatMap (lamsE n)
    | .Attribute a _ _ => lamsE n a
    | .Subscript a b _ => lamsE n a ++ lamsE n b
    | .List es _ => es.flatMap (lamsE n)
    | .Tuple es _ _ => es.flatMap (lamsE n)
    | _ => []
def lamsS : Nat → Stmt → List LSite
  | 0, _ => []
  | n + 1, s => match s with
    | .Return (some e) _ => lamsE 30 e
    | .Assign _ e _ => lamsE 30 e
    | .Expr e _ => lamsE 30 e
    | .AugAssign _ _ e _ => lamsE 30 e
    | .For _ e b _ _ => lamsE 30 e ++ b.flatMap (lamsS n)
    | .While e b _ _ => lamsE 30 e ++ b.flatMap (lamsS n)
    | .If e b c _ => lamsE 30 e ++ b.flatMap (lamsS n) ++ c.flatMap (lamsS n)
    | _ => []
def lamsOf (st : Stmt) : List LSite := (defBody st).flatMap (lamsS 12)
def siteOf (ns : List String) (st : Stmt) : String → Option LSite := fun k => (ns.zip (lamsOf st)).lookup k
section
variable {G : Gam} {W : WX} {X : Cx}
theorem lamsOk_nil {T : LamT} {k : Nat} : LamsOk G X T k (fun n => List.lookup n []) := fun n b h => by simp at h
theorem lamsOk_cons {T : LamT} {k : Nat} {n0 : String} {pr : Arguments} {bd : Expr} {sc : Scope} {b : DE} {L : List (String × DE)} (hs : T.site n0 = some (pr, bd, sc)) (B : LamB G X k pr bd sc b) (r : LamsOk G X T k (fun n => List.lookup n L)) : LamsOk G X T k (fun n => List.lookup n ((n0, b) :: L)) := fun n b' h => by
  have h : List.lookup n ((n0, b) :: L) = some b' := h
  by_cases e : n = n0
  · subst e
    rw [List.lookup_cons_self] at h
    cases h
    exact ⟨pr, bd, sc, hs, B⟩
  · have h1 : (n == n0) = false := beq_eq_false_iff_ne.mpr e
    simp only [List.lookup_cons, h1] at h
    exact r n b' h
theorem fn_stuck {P : Program} {w0 : World} {mg : Str → Option Value} {base : Heap} {f : Addr} {fd : FuncData} {ps : List Str} {k n : Nat} (hn : ps.length = n) : FnOk P w0 G.K mg base (L2.CX P w0) k f fd ps (spG G n (fun _ _ => .stuck)) :=
  ⟨fun vs H Q E h => by rw [h.1, hn], fun A outer s H args us vs Q E hr e0 hb r h => by
    obtain ⟨_, w, S, ds, _, _, q⟩ := h
    exact q.elim⟩
theorem BodyL.mono {P : Program} {w0 : World} {mg : Str → Option Value} {base : Heap} {j k : Nat} {N : List Str} {qual : Str} {st : Stmt} {f : Addr} {a : Str} {i : Nat} {body : LamR → DStm} (h : BodyL G P w0 mg base j N qual st f a i body) (hk : j ≤ k) : BodyL G P w0 mg base k N qual st f a i body :=
  fun Λ cdv A outer s H E hr => h Λ cdv A outer s H E (hr.mono hk)
end
theorem lawAt_of {G : Gam} {l : PySem.W.OpenLaw} {w : World} {k : Nat} {x : Str} {mg : Str → Option Value} {fa : Addr} {h : Heap} {fd : FuncData} {g : DFn} (Ms : List (String × Addr × Addr))
    (ht : ∀ m ∈ Ms, PySem.W.CodeHd h m.2.1 m.2.2 ∧ h.get? m.2.2 = some { cls := .none, data := .fields #[] }) (nl : ∀ m ∈ Ms, G.K.lookup m.2.2 = none) (nd : (Ms.map (·.2.2)).Nodup) (hb : ∀ (s : Shared) (u : Value), BindsTo s fd ⟨[u], []⟩ [(x, u)])
    (F : ∀ base : Heap, (∀ m ∈ Ms, LamX.TabB base mg m.2.1 m.2.2) → FnOk l.prog w G.K mg base (L2.CX l.prog w) k fa fd [x] (spG G 1 g)) (htab : ∀ m ∈ Ms, ∀ F, G.tab m.1 m.2.2 F (.tbl #[]))
    (hl : ∀ ns : List Int, ns.length ≤ 63 → (∀ z ∈ ns, Builtin.Int.intBits z ≤ 1048576) → ∃ S, g [.scr (ns.map D.int)] (Ms.map fun m => .tab m.1) = .ok (.bl true) S) : LamX.LawAtS l w G.K (L2.CX l.prog w) k 63 x mg fa h := by
  refine ⟨fd, Ms.map (·.2), spLawT G.K (Ms.map (·.2.2)), fun p hp => ?_, fun p hp => ?_, fun p hp => ?_, hb, fun H a ns h1 h2 h3 h4 => ⟨a, ns, rfl, h4, h1, h2, fun P hP => ?_, fun _ => rfl⟩, fun base _ _ tb => ?_⟩
  · obtain ⟨m, hm, rfl⟩ := List.mem_map.mp hp
    exact (ht m hm).2
  · obtain ⟨m, hm, rfl⟩ := List.mem_map.mp hp
    exact nl m hm
  · obtain ⟨m, hm, rfl⟩ := List.mem_map.mp hp
    exact (ht m hm).1
  · obtain ⟨m, hm, rfl⟩ := List.mem_map.mp hP
    exact h3 _ (List.mem_map.mpr ⟨m, hm, rfl⟩)
  · have e : Ms.map (·.2.2) = (Ms.map fun m => (m.1, m.2.2)).map (·.2) := by simp
    rw [e]
    refine law_endT (F base fun m hm => tb _ (List.mem_map.mpr ⟨m, hm, rfl⟩)) (by rw [← e]; exact nd) (fun m hm F => ?_) fun ns h1 h2 => ?_
    · obtain ⟨m', hm', rfl⟩ := List.mem_map.mp hm
      exact htab m' hm' F
    · have e2 : ((Ms.map fun m => (m.1, m.2.2)).map fun m => Cell.tab m.1) = Ms.map fun m => .tab m.1 := by simp
      rw [e2]
      exact hl ns h1 h2
end DL
set_option maxRecDepth 100000
set_option maxHeartbeats 4000000
set_option autoImplicit false
namespace DL
open PySem PySem.Spec PyProof.Rows L2
section
variable {G : Gam} {W : WX} {X : Cx}
/-! ### x in y, x not in y -/
def flD : D → Bool
  | .non => true
  | .bl _ => true
  | .int _ => true
  | .str _ => true
  | _ => false
def eqFl : D → D → Bool
  | .non, .non => true
  | .bl a, .bl b => a == b
  | .bl a, .int b => (if a then 1 else 0) == b
  | .int a, .bl b => a == (if b then 1 else 0)
  | .int a, .int b => a == b
  | .str a, .str b => a == b
  | _, _ => false
theorem fl_rep {w : Wd} {v : V} {d : D} (r : Rep G w v d) (h : flD d = true) : flatV v = true := by
  cases r <;> first | rfl | cases h
theorem eq_rep {w : Wd} {v u : V} {d e : D} (r : Rep G w v d) (r' : Rep G w u e) (h : flD d = true) (h' : flD e = true) : eqV v u = eqFl d e := by
  cases r <;> first | (cases h; done) | skip
  all_goals cases r' <;> first | (cases h'; done) | rfl | skip
  rename_i l m
  show (nm l == nm m) = (l == m)
  by_cases e : l = m
  · subst e; simp
  · rw [beq_eq_false_iff_ne.mpr e, beq_eq_false_iff_ne.mpr fun z => e (nm_inj z)]
theorem fls_rep {w : Wd} : ∀ {vs : List V} {ds : List D}, Reps G w vs ds → ds.all flD = true → vs.all flatV = true
  | _, _, .nil, _ => rfl
  | _, _, .cons a b, h => by
    rw [List.all_cons, Bool.and_eq_true] at h ⊢
    exact ⟨fl_rep a h.1, fls_rep b h.2⟩
theorem any_rep {w : Wd} {u : V} {e : D} (r' : Rep G w u e) (h' : flD e = true) : ∀ {vs : List V} {ds : List D}, Reps G w vs ds → ds.all flD = true → vs.any (fun y => eqV y u) = ds.any (fun y => eqFl y e)
  | _, _, .nil, _ => rfl
  | _, _, .cons a b, h => by
    rw [List.all_cons, Bool.and_eq_true] at h
    rw [List.any_cons, List.any_cons, eq_rep a r' h.1 h', any_rep r' h' b h.2]
def inS (neg : Bool) : D → D → Option D := fun x y => match x, y with
  | .str [c], .str l => some (.bl (if neg then !decide (c ∈ l) else decide (c ∈ l)))
  | _, _ => none
def inF (neg : Bool) : D → D → Option D := fun x y => match y with
  | .tup ds => if flD x = true ∧ ds.all flD = true then some (.bl (if neg then !(ds.any fun z => eqFl z x) else ds.any fun z => eqFl z x)) else none
  | .lst ds => if flD x = true ∧ ds.all flD = true then some (.bl (if neg then !(ds.any fun z => eqFl z x) else ds.any fun z => eqFl z x)) else none
  | _ => none
def inP (neg : Bool) : D → D → Option D := fun x y => match toPy x, toPy y with
  | some p, some (.list qs) => if SeqAt.shaped p && SeqAt.shaped (.list qs) then some (.bl (if neg then !(qs.any fun z => PyData.eqv z p) else qs.any fun z => PyData.eqv z p)) else none
  | _, _ => none
theorem nm_list (l : Nm) : (nm l).cps.toList = l := by simp [nm]
theorem opd_inS : OpD G X (compareOp .In) (inS false) := ⟨_, op_in_sign, fun κ w s σ H x y dx dy d Q ok rx ry e q => by
  unfold inS at e
  split at e
  · rename_i c l
    cases e
    cases rx
    cases ry
    exact ⟨c, nm l, rfl, rfl, by rw [nm_list]; exact q w _ H (.refl _) ok (.bl _)⟩
  · cases e⟩
theorem opd_notInS : OpD G X (compareOp .NotIn) (inS true) := ⟨_, op_notIn_sign, fun κ w s σ H x y dx dy d Q ok rx ry e q => by
  unfold inS at e
  split at e
  · rename_i c l
    cases e
    cases rx
    cases ry
    exact ⟨c, nm l, rfl, rfl, by rw [nm_list]; exact q w _ H (.refl _) ok (.bl _)⟩
  · cases e⟩
theorem inF_of (hK : G.K = X.K) {neg : Bool} {κ : Bs} {w : Wd} {s : DS} {σ : L2.St} {H : Hp} {x y : V} {dx dy d : D} {Q : VK} (ok : Ok G κ w s σ H) (rx : Rep G w x dx) (ry : Rep G w y dy) (e : inF neg dx dy = some d) (q : ∀ w' v H', w.le w' → Ok G κ w' s σ H' → Rep G w' v d → Q v H') : rIn X.K neg x y H Q := by
  unfold inF at e
  split at e
  · split at e
    · rename_i h
      cases e
      cases ry with
      | tup h1 r1 =>
        refine ⟨_, _, rfl, .inr (hK ▸ SqT.le h1 ok.fok.sub), fl_rep rx h.1, fls_rep r1 h.2, ?_⟩
        unfold inV
        rw [any_rep rx h.1 r1 h.2]
        exact q w _ H (.refl _) ok (.bl _)
    · cases e
  · split at e
    · rename_i h
      cases e
      cases ry with
      | lst h1 r1 =>
        refine ⟨_, _, rfl, .inl (.inl (.inl (ok.fok.sub _ _ h1))), fl_rep rx h.1, fls_rep r1 h.2, ?_⟩
        unfold inV
        rw [any_rep rx h.1 r1 h.2]
        exact q w _ H (.refl _) ok (.bl _)
    · cases e
  · cases e
theorem opd_inF (hK : G.K = X.K) : OpD G X (compareOp .In) (inF false) := ⟨_, op_in_seq, fun κ w s σ H x y dx dy d Q ok rx ry e q => inF_of hK ok rx ry e q⟩
theorem opd_notInF (hK : G.K = X.K) : OpD G X (compareOp .NotIn) (inF true) := ⟨_, op_notIn_seq, fun κ w s σ H x y dx dy d Q ok rx ry e q => inF_of hK ok rx ry e q⟩
theorem inP_py {neg : Bool} {dx dy d : D} (e : inP neg dx dy = some d) : ∃ p qs, toPy dx = some p ∧ toPy dy = some (.list qs) ∧ SeqAt.shaped p = true ∧ SeqAt.shaped (.list qs) = true ∧ d = .bl (if neg then !(qs.any fun z => PyData.eqv z p) else qs.any fun z => PyData.eqv z p) := by
  unfold inP at e
  split at e
  · rename_i p qs h1 h2
    split at e
    · rename_i h
      cases e
      rw [Bool.and_eq_true] at h
      exact ⟨p, qs, h1, h2, h.1, h.2, rfl⟩
    · cases e
  · cases e
theorem opd_inP (hK : G.K = X.K) (hu : X.A.units + 65 < cLine) : OpD G X (compareOp .In) (inP false) := ⟨_, op_inD hu, fun κ w s σ H x y dx dy d Q ok rx ry e q => by
  obtain ⟨p, qs, h1, h2, s1, s2, rfl⟩ := inP_py e
  exact ⟨p, qs, rx.py hK ok h1, ry.py hK ok h2, s1, s2, q w _ H (.refl _) ok (.bl _)⟩⟩
theorem opd_notInP (hK : G.K = X.K) (hu : X.A.units + 65 < cLine) : OpD G X (compareOp .NotIn) (inP true) := ⟨_, op_notInD hu, fun κ w s σ H x y dx dy d Q ok rx ry e q => by
  obtain ⟨p, qs, h1, h2, s1, s2, rfl⟩ := inP_py e
  exact ⟨p, qs, rx.py hK ok h1, ry.py hK ok h2, s1, s2, q w _ H (.refl _) ok (.bl _)⟩⟩
def dIn (neg : Bool) : D → D → Option D := fun x y => (inS neg x y).orElse fun _ => (inF neg x y).orElse fun _ => inP neg x y
theorem room65 {A : Around} {k : Nat} (hr : Room k A) : A.units + 65 < cLine := by have := hr.un; omega
theorem opd_in (hK : G.K = X.K) (hu : X.A.units + 65 < cLine) : OpD G X (compareOp .In) (dIn false) := (opd_inS.or ((opd_inF hK).or (opd_inP hK hu))).congr fun x y => rfl
theorem opd_notIn (hK : G.K = X.K) (hu : X.A.units + 65 < cLine) : OpD G X (compareOp .NotIn) (dIn true) := (opd_notInS.or ((opd_notInF hK).or (opd_notInP hK hu))).congr fun x y => rfl
/-! ### n.bit_length(), divmod -/
def eBits (f : DE) : DE := fun s => (f s).bind fun d s1 => match d with
  | .int i => .ok (.int (Builtin.Int.intBits i : Nat)) s1
  | _ => .stuck
theorem pd_bits {o : Expr} {f : DE} {apos pos : Pos} (ho : PD G W X o f) (hbase : attributeBase o "bit_length" X.env (eval o X.env) = eval o X.env := by rfl) (hline : (apos.endLine == pos.line) = true := by rfl) : PD G W X (.Call (.Attribute o "bit_length" apos) [] [] pos) (eBits f) :=
  (pe_bits ho hbase hline).imp fun σ H Q ⟨κ, w, s, ok, q⟩ => ⟨κ, w, s, ok, (PostG.bind q).imp fun v H1 ⟨d, s1, w1, le, ok1, r1, q1⟩ => by
    cases r1 with
    | int i => exact ⟨i, rfl, q1 w1 _ H1 (.refl _) ok1 (.int _)⟩
    | _ => exact q1.elim⟩
def bDivmod : List D → Option D
  | [.int i, .int j] => if 0 < j ∧ divOk j = true then some (.tup [.int (i.fdiv j), .int (i.fmod j)]) else none
  | _ => none
theorem pylong_no {i j : Int} (h : j.natAbs.log2 < 9000) : Builtin.divisionGoesByPylong i j = false := by
  unfold Builtin.divisionGoesByPylong
  have : ¬ ((if (j == 0) = true then 0 else j.natAbs.log2 / 30 + 1) > 300) := by
    split
    · omega
    · omega
  simp only [Bool.and_eq_false_iff, decide_eq_false_iff_not]
  exact .inl this
theorem cd_divmod : CallD G X (.builtin "divmod") bDivmod := ⟨_, call_divmodW, fun κ w s σ H vs ds d Q ok rs e q => by
  unfold bDivmod at e
  split at e
  · rename_i i j
    split at e
    · rename_i h
      cases e
      cases rs with
      | cons a rs =>
      cases rs with
      | cons b rs =>
      cases rs
      cases a
      cases b
      have hd := h.2
      unfold divOk at hd
      have hd := of_decide_eq_true hd
      refine ⟨i, j, rfl, ⟨h.1, pylong_no hd.2⟩, fun p hp => ?_⟩
      rw [Int.fdiv_eq_ediv_of_nonneg i (Int.le_of_lt h.1), Int.fmod_eq_emod_of_nonneg i (Int.le_of_lt h.1)] at q
      obtain ⟨le, ok'⟩ := ok.alloc hp (.tup [.int (i / j), .int (i % j)])
      exact q _ _ _ le ok' (.tup (.inl (.inl upd_same)) (.cons (.int _) (.cons (.int _) .nil)))
    · cases e
  · cases e⟩
/-! ### methods of built-in types -/
def MtD (G : Gam) (X : Cx) (T id : String) (o : D → List D → Option D) : Prop := ∃ r, MtR X id r ∧ (∀ (κ : Bs) (w : Wd) (s : DS) (σ : L2.St) (H : Hp) (x : V) (vs : List V) (dx : D) (ds : List D) (d : D) (Q : VK), Ok G κ w s σ H → Rep G w x dx → Reps G w vs ds → o dx ds = some d →
  (∀ w' v H', w.le w' → Ok G κ w' s σ H' → Rep G w' v d → Q v H') → r x vs H Q) ∧ ∀ (κ : Bs) (w : Wd) (s : DS) (σ : L2.St) (H : Hp) (x : V) (dx : D), Ok G κ w s σ H → Rep G w x dx → tyOk T dx = true → tyV X.K T x H
where
  tyOk (T : String) : D → Bool
  | .str _ => T == "str"
  | .lst _ => T == "list"
  | .dic _ => T == "dict"
  | _ => false
def eBM (T : String) (o : D → List D → Option D) (fo : DE) (fa : DA) : DE := fun s => (fo s).bind fun x s1 => if MtD.tyOk T x = true then (fa s1).bind fun ds s2 => match o x ds with
  | some d => .ok d s2
  | none => .stuck
  else .stuck
theorem pd_bm {T id : String} {name : Str} {o : D → List D → Option D} {oe e : Expr} {es : List Expr} {fo : DE} {fa : DA} {apos cpos : Pos} (pa : PlainAttrs T) (slot : Slot T name id) (hty : typeOf (.builtin id) = pure (.type "method_descriptor")) (hm : MtD G X T id o) (ho : PD G W X oe fo) (ha : PDA G W X (e :: es) fa)
    (hbase : attributeBase oe name X.env (eval oe X.env) = eval oe X.env := by rfl)
    (hfew : ((backTo cpos (starEach (e :: es) X.env)).all (fun x => !x.1) && (backToKw cpos (keywordEach [] X.env)).all (fun x => x.1.isSome)
      && decide ((e :: es).length + ([] : List Keyword).length + (if ([] : List Keyword).isEmpty then 0 else 1) < 30)) = true := by rfl)
    (hline : (apos.endLine == cpos.line) = true := by rfl) (hs : starEach (e :: es) X.env = (false, eval e X.env) :: starEach es X.env := by rfl) (hplain : (backTo cpos (starEach es X.env)).any (·.1) = false := by rfl) :
    PD G W X (.Call (.Attribute oe name apos) (e :: es) [] cpos) (eBM T o fo fa) := by
  obtain ⟨r, h1, h2, h3⟩ := hm
  refine (pe_bm pa slot hty h1 ho ha hbase hfew hline hs hplain).imp fun σ H Q ⟨κ, w, s, ok, q⟩ => ⟨κ, w, s, ok, (PostG.bind q).imp fun v H1 ⟨d, s1, w1, le, ok1, r1, q1⟩ => ?_⟩
  by_cases ht : MtD.tyOk T d = true
  · rw [if_pos ht] at q1
    refine ⟨h3 κ w1 s1 σ H1 v d ok1 r1 ht, κ, w1, s1, ok1, (PostG.bind q1).imp fun vs H2 ⟨ds, s2, w2, le2, ok2, r2, q2⟩ => ?_⟩
    cases e : o d ds with
    | none => rw [e] at q2; exact q2.elim
    | some z => rw [e] at q2; exact h2 κ w2 s2 σ H2 v vs d ds z Q ok2 (r1.mono le2) r2 e q2
  · rw [if_neg ht] at q1
    exact q1.elim
theorem ty_ok {T : String} {κ : Bs} {w : Wd} {s : DS} {σ : L2.St} {H : Hp} {x : V} {dx : D} (ok : Ok G κ w s σ H) (r : Rep G w x dx) (h : MtD.tyOk T dx = true) : tyV X.K T x H := by
  cases r <;> first | (cases h; done) | skip
  · exact beq_iff_eq.mp h
  · rename_i h1 _
    exact .inl ⟨beq_iff_eq.mp h, _, .inl (.inl (ok.fok.sub _ _ h1))⟩
  · rename_i h1 _
    exact .inr (.inr (.inl ⟨beq_iff_eq.mp h, .inl ⟨_, ok.fok.sub _ _ h1⟩⟩))
/-- texts of a list -/
def strsOf : List D → Option (List Nm)
  | [] => some []
  | .str l :: r => (strsOf r).map fun m => l :: m
  | _ => none
theorem strs_rep {w : Wd} : ∀ {vs : List V} {ds : List D} {ls : List Nm}, Reps G w vs ds → strsOf ds = some ls → vs = (ls.map nm).map V.str
  | _, _, _, .nil, h => by cases h; rfl
  | _, _, ls, .cons a b, h => by
    cases a <;> first | (simp [strsOf] at h; done) | skip
    simp only [strsOf, Option.map_eq_some_iff] at h
    obtain ⟨m, hm, rfl⟩ := h
    rw [strs_rep b hm]
    rfl
def mJoin : D → List D → Option D
  | .str a, [.lst ds] => match strsOf ds with
    | some ls => if (ls.map (·.length)).sum + ls.length * a.length ≤ 16777216 then some (.str (TL.joinL a ls)) else none
    | none => none
  | _, _ => none
theorem join_nm (a : Nm) (ls : List Nm) : Txt.join (nm a) (ls.map nm) = nm (TL.joinL a ls) := by
  have h := TL.tl_join (nm a) (ls.map nm)
  rw [← TL.join_eq, show TL.tl (nm a) = a from nm_list a, List.map_map] at h
  have e : (TL.tl ∘ nm) = id := by funext l; exact nm_list l
  rw [e, List.map_id] at h
  have : ∀ x : Str, x = nm (TL.tl x) := fun x => by simp [nm, TL.tl]
  rw [this (Txt.join _ _), h]
theorem mtd_join : MtD G X "str" "str.join" mJoin := by
  refine ⟨_, mt_join, fun κ w s σ H x vs dx ds d Q ok rx rs e q => ?_, fun κ w s σ H x dx ok r h => ty_ok ok r h⟩
  unfold mJoin at e
  split at e
  · rename_i a ds'
    split at e
    · rename_i ls hl
      split at e
      · rename_i hz
        cases e
        cases rx
        cases rs with
        | cons r1 rs =>
        cases rs
        cases r1 with
        | lst h1 r1 =>
        have := strs_rep r1 hl
        subst this
        refine ⟨nm a, _, ls.map nm, rfl, rfl, .inl (.inl (.inl (ok.fok.sub _ _ h1))), ?_, by rw [join_nm]; exact q w _ H (.refl _) ok (.str _)⟩
        have e1 : (ls.map nm).map (·.length) = ls.map (·.length) := by
          rw [List.map_map]
          apply List.map_congr_left
          intro l _
          show (nm l).cps.size = l.length
          simp [nm]
        have e2 : (nm a).length = a.length := by show (nm a).cps.size = _; simp [nm]
        rw [e1, e2, List.length_map]
        exact hz
      · cases e
    · cases e
  · cases e
end
end DL
set_option maxRecDepth 100000
set_option maxHeartbeats 4000000
set_option autoImplicit false
namespace DL
open PySem PySem.Spec PyProof.Rows L2
section
variable {G : Gam} {W : WX} {X : Cx}
/-! ### an own list, looked at without giving it away -/
def eIxO (i : Nat) (fb : DE) : DE := fun s => match s.sl[i]? with
  | some (.ol _) => (fb s).bind fun y s1 => match y, s1.sl[i]? with
    | .int k, some (.ol xs) => (match L2.atI xs k with | some d => .ok d s1 | none => .stuck)
    | _, _ => .stuck
  | some (.val x) => (fb s).bind fun y s1 => match y with
    | .int k => (match ixD x k with | some d => .ok d s1 | none => .stuck)
    | _ => .stuck
  | _ => .stuck
theorem ix_run (hK : G.K = X.K) {κ : Bs} {w : Wd} {s : DS} {σ : L2.St} {H : Hp} {v : V} {dx z : D} {k : Int} {Q : VK} (ok : Ok G κ w s σ H) (r1 : Rep G w v dx) (e : ixD dx k = some z) (q : PostG G W (Rep G) κ w σ (.ok z s) Q) : rIx X.K v (.int k) H Q := by
  cases r1 with
  | @tup p vs ds e1 r1 =>
    obtain ⟨y, h1, h2⟩ := Reps.atI r1 e
    exact .inr (.inl ⟨p, vs, k, y, rfl, rfl, hK ▸ SqT.le e1 ok.fok.sub, h1, q w y H (.refl _) ok h2⟩)
  | @lst p vs ds e1 r1 =>
    obtain ⟨y, h1, h2⟩ := Reps.atI r1 e
    exact .inl ⟨p, vs, k, y, rfl, rfl, .inl (.inl (ok.fok.sub _ _ e1)), h1, q w y H (.refl _) ok h2⟩
  | @scr p vs ds e1 r1 =>
    obtain ⟨y, h1, h2⟩ := Reps.atI r1 e
    exact .inl ⟨p, vs, k, y, rfl, rfl, hK ▸ SqL.le e1 ok.fok.sub, h1, q w y H (.refl _) ok h2⟩
  | str l =>
    have e : (if l.length ≤ 16777216 then (L2.atI l k).map fun c => D.str [c] else none) = some z := e
    split at e
    · rename_i hl
      cases e3 : L2.atI l k with
      | none => simp [e3] at e
      | some c =>
        simp only [e3, Option.map_some, Option.some.injEq] at e
        subst e
        refine .inr (.inr ⟨nm l, k, c, rfl, rfl, by rw [nm_len, sizeLine_eq]; exact hl, by simpa [nm] using e3, ?_⟩)
        exact q w _ H (.refl _) ok (.str [c])
    · cases e
  | _ => cases e
theorem pd_ixO (hK : G.K = X.K) {i : Nat} {x : Str} {p pos : Pos} {b : Expr} {fb : DE} (ho : PE X (.Name x p) (tVar i)) (hb : PD G W X b fb) (hs : PlainIx b) : PD G W X (.Subscript (.Name x p) b pos) (eIxO i fb) :=
  (pe_ix ix_seq ho hb hs).imp fun σ H Q ⟨κ, w, s, ok, q⟩ => by
    unfold eIxO at q
    cases e : s.sl[i]? with
    | none => rw [e] at q; exact q.elim
    | some y =>
      rw [e] at q
      cases y with
      | ol xs0 =>
        obtain ⟨a, vs, h1, h2, h3⟩ := own_list ok e
        refine ⟨.ref a, h1, κ, w, s, ok, (PostG.bind q).imp fun v2 H2 ⟨d2, s2, w2, le2, ok2, r2, q2⟩ => ?_⟩
        cases r2 with
        | int k =>
          cases e1 : s2.sl[i]? with
          | none => rw [e1] at q2; exact q2.elim
          | some z =>
            rw [e1] at q2
            cases z with
            | ol xs =>
              replace q2 : PostG G W (Rep G) κ w2 σ (match L2.atI xs k with | some d => .ok d s2 | none => .stuck) Q := q2
              obtain ⟨a', vs', g1, g2, g3⟩ := own_list ok2 e1
              rw [h1] at g1
              cases g1
              cases e2 : L2.atI xs k with
              | none => rw [e2] at q2; exact q2.elim
              | some d =>
                rw [e2] at q2
                obtain ⟨y, h1, h2⟩ := Reps.atI g3 e2
                exact .inl ⟨a, vs', k, y, rfl, rfl, .inl (.inl g2), h1, q2 w2 y H2 (.refl _) ok2 h2⟩
            | _ => exact q2.elim
        | _ => exact q2.elim
      | val dx =>
        obtain ⟨v, h1, r1⟩ := ok.val i dx e
        refine ⟨v, h1, κ, w, s, ok, (PostG.bind q).imp fun v2 H2 ⟨d2, s2, w2, le2, ok2, r2, q2⟩ => ?_⟩
        cases r2 with
        | int k =>
          replace q2 : PostG G W (Rep G) κ w2 σ (match ixD dx k with | some d => .ok d s2 | none => .stuck) Q := q2
          cases e2 : ixD dx k with
          | none => rw [e2] at q2; exact q2.elim
          | some z => rw [e2] at q2; exact ix_run hK ok2 (r1.mono le2) e2 q2
        | _ => exact q2.elim
      | _ => exact q.elim
/-- truth -/
def eTruO (i : Nat) : DT := fun s => match s.sl[i]? with
  | some (.ol xs) => .ok (!xs.isEmpty) s
  | some (.val d) => (match truD d with | some b => .ok b s | none => .stuck)
  | _ => .stuck
theorem ptd_truO (hK : G.K = X.K) {i : Nat} {x : Str} {p : Pos} (ho : PE X (.Name x p) (tVar i)) (he : ∀ whole, isTrue (.Name x p) X.env whole = (do let v ← whole; standAt (Expr.pos (.Name x p)); holding [v] (truthy v)) := by intro _; rfl) : PDT G W X (.Name x p) (eTruO i) :=
  (pt_truth ho he).imp fun σ H Q ⟨κ, w, s, ok, q⟩ => by
    unfold eTruO at q
    cases e : s.sl[i]? with
    | none => rw [e] at q; exact q.elim
    | some y =>
      rw [e] at q
      cases y with
      | ol xs =>
        obtain ⟨a, vs, h1, h2, h3⟩ := own_list ok e
        refine ⟨.ref a, h1, !xs.isEmpty, ?_, q w _ H (.refl _) ok rfl⟩
        exact .inl ⟨vs, .inl (.inl h2), by rw [h3.isEmpty]⟩
      | val d =>
        obtain ⟨v, h1, r1⟩ := ok.val i d e
        replace q : PostG G W (fun _ (v : Bool) d => v = d) κ w σ (match truD d with | some b => .ok b s | none => .stuck) Q := q
        cases e1 : truD d with
        | none => rw [e1] at q; exact q.elim
        | some k => rw [e1] at q; exact ⟨v, h1, k, truV_of hK ok r1 e1, q w k H (.refl _) ok rfl⟩
      | _ => exact q.elim
/-- x[i] = v -/
def sIxO (i : Nat) (fi fv : DE) : DStm := fun s => (fv s).bind fun d s1 => match s1.sl[i]? with
  | some (.ol _) => (fi s1).bind fun y s2 => match y, s2.sl[i]? with
    | .int k, some (.ol xs) => (match ixN xs.length k with | some j => .ok .nx ⟨s2.sl.set i (.ol (xs.set j d)), s2.st⟩ | none => .stuck)
    | _, _ => .stuck
  | _ => .stuck
theorem pds_ixO {i : Nat} {x : Str} {p tp pos : Pos} {b e : Expr} {fi fv : DE} (ho : PE X (.Name x p) (tVar i)) (hb : PD G WF X b fi) (he : PD G W X e fv) (hs : swapsWithSole [.Subscript (.Name x p) b tp] e pos.line X.env = pure false := by rfl) (hw : swappedStores [.Subscript (.Name x p) b tp] e X.env = pure none := by rfl)
    (h1 : (assignEach [.Subscript (.Name x p) b tp] X.env).map (·.2) = [assign (.Subscript (.Name x p) b tp) X.env] := by rfl)
    (ha : ∀ v, assign (.Subscript (.Name x p) b tp) X.env v = (do
      let ov ← holding [v] (eval (.Name x p) X.env)
      let iv ← holding [v, ov] (eval b X.env)
      standAt tp
      holding [v, ov, iv] (setItem ov iv v)
      release [v, ov, iv] []) := by intro _; rfl) (hcol : ∀ (s : DS), (∀ x s', fi s ≠ .exc x s')) : PDS G W X (.Assign [.Subscript (.Name x p) b tp] e pos) (sIxO i fi fv) :=
  (ps_asg he (pg_sub ho hb set_list ha) hs hw h1).imp fun N σ H ⟨κ, w, s, ok, q⟩ => ⟨κ, w, s, ok, (PostG.bindS q).imp fun v H1 ⟨d, s1, w1, le, ok1, r1, q1⟩ => by
    cases e : s1.sl[i]? with
    | none => rw [e] at q1; exact q1.elim
    | some y =>
      rw [e] at q1
      cases y with
      | ol xs0 =>
        obtain ⟨a, vs, h1, h2, h3⟩ := own_list ok1 e
        replace q1 : PostS G W κ w1 ((fi s1).bind fun y s2 => match y, s2.sl[i]? with
          | .int k, some (.ol xs) => (match ixN xs.length k with | some j => .ok .nx ⟨s2.sl.set i (.ol (xs.set j d)), s2.st⟩ | none => .stuck)
          | _, _ => .stuck) N := q1
        refine ⟨.ref a, h1, κ, w1, s1, ok1, ?_⟩
        cases ef : fi s1 with
        | stuck => rw [ef] at q1; exact q1.elim
        | exc z s' => exact absurd ef (hcol s1 z s')
        | ok d2 s2 =>
          rw [ef] at q1
          intro w2 v2 H2 le2 ok2 r2
          cases r2 with
          | int k =>
            cases e1 : s2.sl[i]? with
            | none => simp [e1] at q1; exact q1.elim
            | some z =>
              cases z with
              | ol xs =>
                simp only [Res.bind_ok, e1] at q1
                obtain ⟨a', vs', g1, g2, g3⟩ := own_list ok2 e1
                rw [h1] at g1
                cases g1
                cases e2 : ixN xs.length k with
                | none => rw [e2] at q1; exact q1.elim
                | some j =>
                  rw [e2] at q1
                  refine ⟨a, vs', k, j, rfl, rfl, g2, by rw [g3.length]; exact e2, ?_⟩
                  exact q1 w2 σ _ le2 (ok2.mut e1 rfl rfl h1 ⟨_, upd_same, Reps.set (r1.mono le2) j g3⟩ fun _ _ z => nomatch z)
              | _ => simp only [Res.bind_ok, e1] at q1; exact q1.elim
          | _ => simp only [Res.bind_ok] at q1; exact q1.elim
      | _ => exact q1.elim⟩
/-! ### len of an own list -/
def eLenO (i : Nat) : DE := fun s => match s.sl[i]? with
  | some (.ol xs) => .ok (.int xs.length) s
  | some (.val d) => (match bLen [d] with | some r => .ok r s | none => .stuck)
  | _ => .stuck
/-! ### a property -/
def eProp (c : String) (g : DFn) (f : DE) : DE := fun s => (f s).bind fun d s1 => match insOf d s1 with
  | some (c1, _) => if c1 = c then noX (lift s1 (g [d] s1.st)) else .stuck
  | none => .stuck
theorem pd_prop {c : String} {C p gf : Addr} {k : Nat} {fd : FuncData} {ps : List Str} {g : DFn} {e : Expr} {fe : DE} {f : Str} {pos : Pos} (hC : G.ct c = some C) (hcl : Cls X.K C) (hp : PropOf X.K C f p gf) (F : FnOk X.prog X.w X.K X.mg X.base (L2.CX X.prog X.w) k gf fd ps (spG G 1 g)) (hr : Room (k + 1) X.A) (hb : Binds X.K fd ps [])
    (he : PD G W X e fe) (hab : attributeBase e f X.env (eval e X.env) = eval e X.env := by rfl) : PD G W X (.Attribute e f pos) (eProp c g fe) :=
  (pe_prop (E := fun _ _ _ => False) he hcl hp F hr hb .nil (passes_call takes0 fun _ _ _ _ z => z) hab).imp fun σ H Q ⟨κ, w, s, ok, q⟩ => ⟨κ, w, s, ok, (PostG.bind q).imp fun v H1 ⟨d, s1, w1, le, ok1, r1, q1⟩ => by
    cases e1 : insOf d s1 with
    | none => rw [e1] at q1; exact q1.elim
    | some cf =>
      obtain ⟨c1, fs⟩ := cf
      rw [e1] at q1
      replace q1 : PostG G W (Rep G) κ w1 σ (if c1 = c then noX (lift s1 (g [d] s1.st)) else .stuck) Q := q1
      by_cases hc : c1 = c
      · rw [if_pos hc] at q1
        subst hc
        obtain ⟨a, C', dx, vs, rfl, hC', hH, _⟩ := r1.ins_of ok1 e1
        rw [hC] at hC'
        cases hC'
        refine ⟨a, dx, vs, rfl, hH, rfl, w1, s1.st, [d], ok1.fok, .cons r1 .nil, ?_⟩
        cases eg : g [d] s1.st with
        | stuck => rw [eg] at q1; exact q1.elim
        | exc x S => rw [eg] at q1; exact q1.elim
        | ok d' S => rw [eg] at q1; exact fun w' v H' n fk r => q1 w' v H' n.le (ok1.step n fk) r
      · rw [if_neg hc] at q1
        exact q1.elim⟩
/-! ### constants of the module: texts, numbers, tuples of them -/
def repK (K : PySem.W.Frag) : Nat → Value → D → Bool
  | 0, _, _ => false
  | n + 1, v, d => match v, d with
    | .none, .non => true
    | .bool b, .bl c => b == c
    | .int i _, .int j => i == j
    | .str x _, .str l => x == nm l
    | .ref a, .tup ds => match K.lookup a with
      | some o => o.cls == .type "tuple" && (match o.data with
        | .seq its _ => decide (its.size ≤ 1000) && go n its.toList ds
        | _ => false)
      | none => false
    | _, _ => false
where
  go (n : Nat) : List Value → List D → Bool
  | [], [] => true
  | v :: vs, d :: ds => repK K n v d && go n vs ds
  | _, _ => false
theorem repK_ok {K : PySem.W.Frag} (hK : G.K = K) : ∀ (n : Nat) (v : Value) (d : D), repK K n v d = true → ∃ x, RelV x v ∧ ∀ w, Rep G w x d := by
  intro n
  induction n with
  | zero => intro v d h; simp [repK] at h
  | succ n ih =>
    have goes : ∀ (vs : List Value) (ds : List D), repK.go K n vs ds = true → ∃ xs, Vals xs vs ∧ ∀ w, Reps G w xs ds := by
      intro vs
      induction vs with
      | nil =>
        intro ds h
        cases ds with
        | nil => exact ⟨[], .nil, fun _ => .nil⟩
        | cons _ _ => cases h
      | cons v vs ihv =>
        intro ds h
        cases ds with
        | nil => cases h
        | cons d ds =>
          simp only [repK.go, Bool.and_eq_true] at h
          obtain ⟨x, r1, r2⟩ := ih v d h.1
          obtain ⟨xs, r3, r4⟩ := ihv ds h.2
          exact ⟨x :: xs, .cons r1 r3, fun w => .cons (r2 w) (r4 w)⟩
    intro v d h
    unfold repK at h
    split at h
    · exact ⟨.non, rfl, fun _ => .non⟩
    · rw [beq_iff_eq] at h; subst h; exact ⟨.bl _, rfl, fun _ => .bl _⟩
    · rw [beq_iff_eq] at h; subst h; exact ⟨.int _, ⟨_, rfl⟩, fun _ => .int _⟩
    · rw [beq_iff_eq] at h; subst h; exact ⟨.str _, ⟨_, rfl⟩, fun _ => .str _⟩
    · split at h
      · rename_i o ho
        rw [Bool.and_eq_true, beq_iff_eq] at h
        obtain ⟨h1, h2⟩ := h
        split at h2
        · rename_i its m hd
          rw [Bool.and_eq_true, decide_eq_true_eq] at h2
          obtain ⟨xs, r3, r4⟩ := goes _ _ h2.2
          refine ⟨.ref _, rfl, fun w => .tup (.inr ⟨o, its, m, by rw [hK]; exact ho, h1, hd, by rw [sizeLine_eq]; omega, r3⟩) (r4 w)⟩
        · cases h2
      · cases h
    · cases h
theorem pd_const {x : Str} {v : Value} {d : D} {pos : Pos} (hg : Gl X x) (hm : X.mg x = some v) (hr : ∃ y, RelV y v ∧ ∀ w, Rep G w y d) (hd : (x == ("__debug__" : Str)) = false := by decide) : PD G W X (.Name x pos) (eC d) := by
  obtain ⟨y, r1, r2⟩ := hr
  exact pd_glob hg hm r1 r2 hd
/-! ### text.index(text) -/
def eSix (fo : DE) (fa : DA) : DE := fun s => (fo s).bind fun x s1 => match x with
  | .str a => (fa s1).bind fun ds s2 => match ds with
    | [.str b] => (match Txt.index0 (nm a) (nm b) with | some k => .ok (.int (k : Nat)) s2 | none => .stuck)
    | _ => .stuck
  | _ => .stuck
theorem pd_six {oe e : Expr} {fo : DE} {fa : DA} {apos cpos : Pos} (hc : X.calm = true) (tk : Takes X W) (ho : PD G W X oe fo) (ha : PDA G W X [e] fa)
    (hbase : attributeBase oe "index" X.env (eval oe X.env) = eval oe X.env := by rfl)
    (hfew : ((backTo cpos (starEach [e] X.env)).all (fun x => !x.1) && (backToKw cpos (keywordEach [] X.env)).all (fun x => x.1.isSome)
      && decide ([e].length + ([] : List Keyword).length + (if ([] : List Keyword).isEmpty then 0 else 1) < 30)) = true := by rfl)
    (hline : (apos.endLine == cpos.line) = true := by rfl) (hs : starEach [e] X.env = (false, eval e X.env) :: starEach [] X.env := by rfl) (hplain : (backTo cpos (starEach [] X.env)).any (·.1) = false := by rfl) :
    PD G W X (.Call (.Attribute oe "index" apos) [e] [] cpos) (eSix fo fa) :=
  (pe_bmS PySem.F.plainAttrs_str PySem.F.slot_str_index PySem.F.type_str_index (mt_indexX hc tk) ho ha hbase hfew hline hs hplain).imp fun σ H Q ⟨κ, w, s, ok, q⟩ => ⟨κ, w, s, ok, (PostG.bind q).imp fun v H1 ⟨d, s1, w1, le, ok1, r1, q1⟩ => by
    cases r1 with
    | str a =>
      refine ⟨rfl, κ, w1, s1, ok1, (PostG.bind q1).imp fun vs H2 ⟨ds, s2, w2, le2, ok2, r2, q2⟩ => ?_⟩
      match ds, q2 with
      | [.str b], q2 =>
        cases r2 with
        | cons r2 r3 =>
        cases r3
        cases r2
        replace q2 : PostG G W (Rep G) κ w2 σ (match Txt.index0 (nm a) (nm b) with | some k => .ok (.int (k : Nat)) s2 | none => .stuck) Q := q2
        cases e : Txt.index0 (nm a) (nm b) with
        | none => rw [e] at q2; exact q2.elim
        | some k =>
          rw [e] at q2
          refine ⟨nm a, nm b, rfl, rfl, fun k' hk => ?_, fun hn => ?_⟩
          · rw [e] at hk; cases hk; exact q2 w2 _ H2 (.refl _) ok2 (.int _)
          · rw [e] at hn; cases hn
      | [], q2 => exact q2.elim
      | x :: _ :: _, q2 => cases x <;> exact q2.elim
      | [.non], q2 => exact q2.elim
      | [.bl _], q2 => exact q2.elim
      | [.int _], q2 => exact q2.elim
      | [.tup _], q2 => exact q2.elim
      | [.lst _], q2 => exact q2.elim
      | [.scr _], q2 => exact q2.elim
      | [.dic _], q2 => exact q2.elim
      | [.ins _ _], q2 => exact q2.elim
      | [.cell _], q2 => exact q2.elim
      | [.cls _], q2 => exact q2.elim
      | [.ty _], q2 => exact q2.elim
      | [.fn _], q2 => exact q2.elim
      | [.lam _], q2 => exact q2.elim
    | _ => exact q1.elim⟩
/-! ### a < b < c as a test -/
theorem ptd_chain {op op' : CmpOp} {o o' : D → D → Option D} {a b c : Expr} {fa fb fc : DE} {pos : Pos} (ho : OpD G X (compareOp op) o) (ho' : OpD G X (compareOp op') o') (ha : PD G W X a fa) (hb : PD G W X b fb) (hc : PD G W X c fc)
    (hp : ∀ {r r' : R2} {ta tb tc : TE}, OpR X (compareOp op) r → OpR X (compareOp op') r' → PE X a ta → PE X b tb → PE X c tc → PT X (.Compare a [op, op'] [b, c] pos) (tTest (tChain r r' ta tb tc))) : PDT G W X (.Compare a [op, op'] [b, c] pos) (eB (eChain o o' fa fb fc)) := by
  obtain ⟨r, h1, h2⟩ := ho
  obtain ⟨r', h1', h2'⟩ := ho'
  refine (hp h1 h1' ha hb hc).imp fun σ H Q h => ?_
  obtain ⟨κ, w, s, ok, q⟩ := tB_of h
  refine ⟨κ, w, s, ok, (PostG.bind q).imp fun v H1 ⟨d, s1, w1, le, ok1, r1, q1⟩ => ⟨κ, w1, s1, ok1, (PostG.bind q1).imp fun v2 H2 ⟨d2, s2, w2, le2, ok2, r2, q2⟩ => ?_⟩⟩
  cases e : o d d2 with
  | none => rw [e] at q2; exact q2.elim
  | some z =>
    rw [e] at q2
    refine h2 κ w2 s2 σ H2 v v2 d d2 z _ ok2 (r1.mono le2) r2 e fun w3 v3 H3 l3 o3 r3 => ?_
    cases r3 with
    | bl k =>
      refine ⟨k, rfl, ?_⟩
      cases k with
      | false => exact q2 w3 _ H3 l3 o3 (.bl false)
      | true =>
        refine ⟨κ, w3, s2, o3, (PostG.bind (PostG.mono l3 q2)).imp fun v4 H4 ⟨d4, s4, w4, le4, ok4, r4, q4⟩ => ?_⟩
        cases e' : o' d2 d4 with
        | none => rw [e'] at q4; exact q4.elim
        | some z' => rw [e'] at q4; exact h2' κ w4 s4 σ H4 v2 v4 d2 d4 z' _ ok4 ((r2.mono l3).mono le4) r4 e' q4
    | _ => exact q2.elim
/-! ### readings that raise nothing -/
theorem nx_c (d : D) : ∀ (s : DS), (∀ x s', eC d s ≠ .exc x s') := fun s x s' h => nomatch h
theorem nx_var (i : Nat) : ∀ (s : DS), (∀ x s', eVar i s ≠ .exc x s') := fun s x s' h => by
  unfold eVar at h
  split at h <;> cases h
theorem nx_neg {f : DE} (k : ∀ (s : DS), (∀ x s', f s ≠ .exc x s')) : ∀ (s : DS), (∀ x s', eNeg f s ≠ .exc x s') := fun s x s' h => by
  unfold eNeg at h
  cases e : f s with
  | stuck => rw [e] at h; cases h
  | exc z t => exact k s z t e
  | ok d t =>
    rw [e] at h
    simp only [Res.bind_ok] at h
    split at h <;> cases h
theorem nx_op2 {o : D → D → Option D} {f g : DE} (k : ∀ (s : DS), (∀ x s', f s ≠ .exc x s')) (l : ∀ (s : DS), (∀ x s', g s ≠ .exc x s')) : ∀ (s : DS), (∀ x s', eOp2 o f g s ≠ .exc x s') := fun s x s' h => by
  unfold eOp2 at h
  cases e : f s with
  | stuck => rw [e] at h; cases h
  | exc z t => exact k s z t e
  | ok d t =>
    rw [e] at h
    simp only [Res.bind_ok] at h
    cases e2 : g t with
    | stuck => rw [e2] at h; cases h
    | exc z t' => exact l t z t' e2
    | ok d' t' =>
      rw [e2] at h
      simp only [Res.bind_ok] at h
      split at h <;> cases h
/-! ### an own slot is given away -/
def eFz (i : Nat) (f : DE) : DE := fun s => match s.sl[i]? with
  | some (.ol xs) => f ⟨s.sl.set i (.val (.lst xs)), s.st⟩
  | some (.od kvs) => f ⟨s.sl.set i (.val (.dic kvs)), s.st⟩
  | some (.oi c fs) => f ⟨s.sl.set i (.val (.ins c fs)), s.st⟩
  | _ => f s
theorem pd_fz {i : Nat} {e : Expr} {f : DE} (h : PD G W X e f) : PD G W X e (eFz i f) := h.imp fun σ H Q ⟨κ, w, s, ok, q⟩ => by
  unfold eFz at q
  split at q
  · rename_i xs e
    obtain ⟨a, h1, ⟨vs, h2, h3⟩, _⟩ := ok.own i _ e rfl
    obtain ⟨le, ok'⟩ := ok.freeze (d := .lst xs) e rfl h1 h2 fun w' l f => .lst f (h3.mono l)
    exact ⟨κ, _, _, ok', PostG.mono le q⟩
  · rename_i xs e
    obtain ⟨a, h1, ⟨vs, h2, h3⟩, _⟩ := ok.own i _ e rfl
    obtain ⟨le, ok'⟩ := ok.freeze (d := .dic xs) e rfl h1 h2 fun w' l f => .dic f (h3.mono l)
    exact ⟨κ, _, _, ok', PostG.mono le q⟩
  · rename_i c fs e
    obtain ⟨a, h1, ⟨C, dx, vs, hC, h2, h3⟩, _⟩ := ok.own i _ e rfl
    obtain ⟨le, ok'⟩ := ok.freeze (d := .ins c fs) e rfl h1 h2 fun w' l f => .ins hC f (h3.mono l)
    exact ⟨κ, _, _, ok', PostG.mono le q⟩
  · exact ⟨κ, w, s, ok, q⟩
/-! ### isinstance(x, (A, B)) -/
/-- all items are classes -/
def clsD : D → Bool
  | .ty _ => true
  | .cls _ => true
  | _ => false
def isAny (cs : List String) (t : String ⊕ String) : List D → Option Bool
  | [] => some false
  | c :: r => match isOne cs t c with
    | some true => some true
    | some false => isAny cs t r
    | none => none
def eIsT (cs : List String) (fe : DE) (fa : DA) : DE := fun s => (fe s).bind fun d s1 => (fa s1).bind fun ts s2 => if ts.length ≤ 1000 ∧ ts.all clsD = true then match (tyOfD cs d).bind fun t => isAny cs t ts with
  | some b => .ok (.bl b) s2
  | none => .stuck
  else .stuck
theorem isOne_kit (hK : G.K = X.K) {cs : List String} (I : IsOk G cs) {w : Wd} {t : String ⊕ String} {tv : Value} {c : D} {v : V} {b : Bool} (ht : match t with | .inl a => tv = .type a ∧ a ∈ tyNames | .inr c => c ∈ cs ∧ ∃ C, G.ct c = some C ∧ tv = .ref C) (r : Rep G w v c) (e : isOne cs t c = some b) : ∃ u, ClsV v u ∧ PySem.W.kitOne X.K tv u = some b := by
  cases t with
  | inl a =>
    obtain ⟨rfl, ha⟩ := ht
    cases r with
    | ty n =>
      have e : (if a ∈ tyNames ∧ n ∈ tyNames then some (isTy a n) else none) = some b := e
      split at e
      · rename_i h
        cases e
        exact ⟨_, .ty n, kit_ty (isTy_ok a h.1 n h.2)⟩
      · cases e
    | @cls C n hC =>
      have e : (if a ∈ tyNames ∧ n ∈ cs then some false else none) = some b := e
      split at e
      · rename_i h
        cases e
        exact ⟨_, .own C, hK ▸ (I.bo n h.2 C hC a h.1).2⟩
      · cases e
    | _ => exact nomatch e
  | inr a =>
    obtain ⟨ha, C', hC', rfl⟩ := ht
    cases r with
    | ty n =>
      have e : (if n ∈ tyNames then some false else none) = some b := e
      split at e
      · rename_i h
        cases e
        exact ⟨_, .ty n, hK ▸ (I.bo a ha C' hC' n h).1⟩
      · cases e
    | @cls C n hC =>
      have e : (if n ∈ cs then some (a == n) else none) = some b := e
      split at e
      · rename_i h
        cases e
        exact ⟨_, .own C, hK ▸ I.oo a ha n h C' C hC' hC⟩
      · cases e
    | _ => exact nomatch e
/-- a class value and its object -/
def clsOf : V → Value
  | .ty n => .type n
  | .ref C => .ref C
  | _ => .none
theorem isAny_kit (hK : G.K = X.K) {cs : List String} (I : IsOk G cs) {w : Wd} {t : String ⊕ String} {tv : Value} (ht : match t with | .inl a => tv = .type a ∧ a ∈ tyNames | .inr c => c ∈ cs ∧ ∃ C, G.ct c = some C ∧ tv = .ref C) : ∀ {vs : List V} {ds : List D} {b : Bool}, Reps G w vs ds → ds.all clsD = true → isAny cs t ds = some b → ∃ us, Paired ClsV vs us ∧ PySem.W.kitAny X.K tv us = some b
  | _, _, _, .nil, _, e => by cases e; exact ⟨[], .nil, kitAny_nil⟩
  | _, _, b, .cons (v := v) (d := c) (vs := vs) (ds := ds) r rs, hc, e => by
    rw [List.all_cons, Bool.and_eq_true] at hc
    have rest : ∃ us, Paired ClsV vs us := by
      clear e
      have : ∀ {vs : List V} {ds : List D}, Reps G w vs ds → ds.all clsD = true → ∃ us, Paired ClsV vs us := fun {vs ds} r h => by
        induction ds generalizing vs with
        | nil => cases r; exact ⟨[], .nil⟩
        | cons d ds ih =>
          cases r with
          | cons a b =>
            rw [List.all_cons, Bool.and_eq_true] at h
            obtain ⟨us, hu⟩ := ih b h.2
            cases a with
            | ty n => exact ⟨_, .cons (.ty n) hu⟩
            | @cls C n hC => exact ⟨_, .cons (.own C) hu⟩
            | _ => exact nomatch h.1
      exact this rs hc.2
    simp only [isAny] at e
    split at e
    · rename_i e1
      cases e
      obtain ⟨u, h1, h2⟩ := isOne_kit hK I ht r e1
      obtain ⟨us, hu⟩ := rest
      exact ⟨u :: us, .cons h1 hu, kitAny_cons h2 (fun z => nomatch z) fun _ => rfl⟩
    · rename_i e1
      obtain ⟨u, h1, h2⟩ := isOne_kit hK I ht r e1
      obtain ⟨us, hu, hk⟩ := isAny_kit hK I ht rs hc.2 e
      exact ⟨u :: us, .cons h1 hu, kitAny_cons h2 (fun _ => hk) fun z => nomatch z⟩
    · cases e
theorem pd_isT (hK : G.K = X.K) {cs : List String} (I : IsOk G cs) {x : Str} {p pos pos2 : Pos} {k : Nat} {e : Expr} {es : List Expr} {fe : DE} {fa : DA} (hg : Gl X x) (hm : X.mg x = none) (hv : bootBuiltins x = some (.builtin "isinstance")) (he : PD G W X e fe) (hes : PDA G W X es fa) (hn : x ≠ "__name__" := by decide)
    (hdb : (x == ("__debug__" : Str)) = false := by decide) (h1 : starEach (e :: [Expr.Tuple es k pos2]) X.env = (false, eval e X.env) :: starEach [Expr.Tuple es k pos2] X.env := by rfl) (h2 : starEach [Expr.Tuple es k pos2] X.env = (false, eval (.Tuple es k pos2) X.env) :: starEach [] X.env := by rfl)
    (hpl : (backTo pos (starEach [Expr.Tuple es k pos2] X.env)).any (·.1) = false := by rfl) : PD G W X (.Call (.Name x p) [e, .Tuple es k pos2] [] pos) (eIsT cs fe fa) :=
  (pe_callB call_isiT hg hm hv (pa_cons he (pa_cons (pe_tup hes) pa_nil h2) h1) hn hdb h1 hpl).imp fun σ H Q ⟨κ, w, s, ok, q⟩ => ⟨κ, w, s, ok, (PostG.bind q).imp fun v H1 ⟨d, s1, w1, le, ok1, r1, q1⟩ =>
    ⟨κ, w1, s1, ok1, (PostG.bind q1).imp fun vs H2 ⟨ts, s2, w2, le2, ok2, r2, q2⟩ => by
      by_cases c : ts.length ≤ 1000 ∧ ts.all clsD = true
      · rw [if_pos c] at q2
        refine ⟨by rw [r2.length]; exact sz1000 c.1, fun p hp => ?_⟩
        obtain ⟨le3, ok3⟩ := ok2.alloc hp (.tup vs)
        cases e1 : tyOfD cs d with
        | none => rw [e1] at q2; exact q2.elim
        | some t =>
          rw [e1] at q2
          obtain ⟨tv, ty, ht⟩ := tyX_of hK I ok3 ((r1.mono le2).mono le3) e1
          cases e2 : isAny cs t ts with
          | none => simp only [Option.bind_some, e2] at q2; exact q2.elim
          | some b =>
            simp only [Option.bind_some, e2] at q2
            obtain ⟨us, hu, hk⟩ := isAny_kit hK I (t := t) (tv := tv) (by cases t <;> exact ht) (r2.mono le3) c.2 e2
            exact ⟨v, p, vs, tv, us, b, rfl, upd_same, hu, ty, hk, q2 _ _ _ le3 ok3 (.bl b)⟩
      · rw [if_neg c] at q2
        exact q2.elim⟩⟩
/-! ### x != [] of an own list -/
def eNeO (i : Nat) : DT := fun s => match s.sl[i]? with
  | some (.ol xs) => (match dNe (.lst xs) (.lst []) with | some (.bl b) => .ok b s | _ => .stuck)
  | some (.val d) => (match dNe d (.lst []) with | some (.bl b) => .ok b s | _ => .stuck)
  | _ => .stuck
theorem dNe_parts {x y : D} {b : Bool} (e : dNe x y = some (.bl b)) : ∃ p q, toPy x = some p ∧ toPy y = some q ∧ SeqAt.shaped p = true ∧ SeqAt.shaped q = true ∧ b = !PyData.eqv p q := by
  unfold dNe at e
  cases e1 : toPy x with
  | none => simp [e1] at e
  | some p =>
    cases e2 : toPy y with
    | none => simp [e1, e2] at e
    | some p' =>
      simp only [e1, e2] at e
      split at e
      · rename_i c
        cases e
        rw [Bool.and_eq_true] at c
        exact ⟨p, p', rfl, rfl, c.1, c.2, rfl⟩
      · cases e
theorem ptd_neO (hK : G.K = X.K) (hu : X.A.units + 64 < cLine) {i : Nat} {x : Str} {p pos pos2 : Pos} (ho : PE X (.Name x p) (tVar i)) : PDT G W X (.Compare (.Name x p) [.NotEq] [.List [] pos2] pos) (eNeO i) :=
  (pt_cmpR (op_neD hu) ho (pe_lst pa_nil) (nomark _)).imp fun σ H Q ⟨κ, w, s, ok, q⟩ => by
    unfold eNeO at q
    cases e : s.sl[i]? with
    | none => rw [e] at q; exact q.elim
    | some y =>
      rw [e] at q
      cases y with
      | ol xs =>
        replace q : PostG G W (fun _ (v : Bool) d => v = d) κ w σ (match dNe (.lst xs) (.lst []) with | some (.bl b) => .ok b s | _ => .stuck) Q := q
        obtain ⟨a, vs, h1, h2, h3⟩ := own_list ok e
        refine ⟨.ref a, h1, by decide, fun p hp => ?_⟩
        split at q
        · rename_i b e1
          obtain ⟨p1, p2, t1, t2, c1, c2, rfl⟩ := dNe_parts e1
          obtain ⟨le2, ok2⟩ := ok.alloc hp (.lst [])
          obtain ⟨a', h1', ⟨vs', h2', h3'⟩, _⟩ := ok2.own i _ e rfl
          obtain ⟨le3, ok3⟩ := ok2.freeze (d := .lst xs) e rfl h1' h2' fun w' l f => .lst f (h3'.mono l)
          rw [h1] at h1'
          cases h1'
          have r1 : Dp X.K _ (.ref a) p1 := Rep.py hK ok3 (.lst upd_same (h3'.mono le3)) t1
          have r2 : Dp X.K _ (.ref p) p2 := Rep.py hK ok2 (.lst upd_same .nil) t2
          exact ⟨p1, p2, r1, r2, c1, c2, _, rfl, q _ _ _ le2 ok2 rfl⟩
        · exact q.elim
      | val d =>
        replace q : PostG G W (fun _ (v : Bool) d => v = d) κ w σ (match dNe d (.lst []) with | some (.bl b) => .ok b s | _ => .stuck) Q := q
        obtain ⟨v, h1, r1⟩ := ok.val i d e
        refine ⟨v, h1, by decide, fun p hp => ?_⟩
        split at q
        · rename_i b e1
          obtain ⟨p1, p2, t1, t2, c1, c2, rfl⟩ := dNe_parts e1
          obtain ⟨le2, ok2⟩ := ok.alloc hp (.lst [])
          have r2 : Dp X.K _ (.ref p) p2 := Rep.py hK ok2 (.lst upd_same .nil) t2
          exact ⟨p1, p2, Rep.py hK ok2 (r1.mono le2) t1, r2, c1, c2, _, rfl, q _ _ _ le2 ok2 rfl⟩
        · exact q.elim
      | _ => exact q.elim
end
end DL
set_option maxRecDepth 100000
set_option maxHeartbeats 4000000
set_option autoImplicit false
namespace DL
open PySem PySem.Spec PyProof.Rows L2
section
variable {G : Gam} {W : WX} {X : Cx}
/-! ### a, b, c = [], [], x with lists of one's own -/
def sPar3O (i j l : Nat) (f1 f2 : DA) (f3 : DE) : DStm := fun s => match f1 s with
  | .ok xs s1 => match f2 s1 with
    | .ok ys s2 => match f3 s2 with
      | .ok d s3 => .ok .nx ⟨((s3.sl.set i (.ol xs)).set j (.ol ys)).set l (.val d), s3.st⟩
      | _ => .stuck
    | _ => .stuck
  | _ => .stuck
theorem pds_par3O {i j l : Nat} {x y z : Str} {a b c : Expr} {f1 f2 : DA} {f3 : DE} {px py pz pt pos : Pos} {kt k2 : Nat} {pt2 : Pos} (hc : X.calm = true) (hN : X.N.Nodup) (hi : X.N[i]? = some x) (hj : X.N[j]? = some y) (hl : X.N[l]? = some z) (hij : i ≠ j) (hil : i ≠ l) (hjl : j ≠ l)
    (hx : X.env.scope.names.lookup x = some .local) (hy : X.env.scope.names.lookup y = some .local) (hz : X.env.scope.names.lookup z = some .local) (ha : PDo G W X a f1) (hb : PDo G W X b f2) (hd : PD G W X c f3)
    (hw : swappedStores [.Tuple [.Name x px, .Name y py, .Name z pz] kt pt] (.Tuple [a, b, c] k2 pt2) X.env = pure (some [x, y, z]))
    (hs : swapsWithSole [.Tuple [.Name x px, .Name y py, .Name z pz] kt pt] (.Tuple [a, b, c] k2 pt2) pos.line X.env = pure false := by rfl)
    (s1 : starEach [a, b, c] X.env = (false, eval a X.env) :: starEach [b, c] X.env := by rfl) (s2 : starEach [b, c] X.env = (false, eval b X.env) :: starEach [c] X.env := by rfl) (s3 : starEach [c] X.env = (false, eval c X.env) :: starEach [] X.env := by rfl) :
    PDS G W X (.Assign [.Tuple [.Name x px, .Name y py, .Name z pz] kt pt] (.Tuple [a, b, c] k2 pt2) pos) (sPar3O i j l f1 f2 f3) :=
  (ps_par3 hc hN hi hj hl hij hil hjl hx hy hz (pa_cons ha (pa_cons hb (pa_cons hd pa_nil s3) s2) s1) hw hs).imp fun N σ H ⟨κ, w, s, ok, q⟩ => by
    unfold sPar3O at q
    cases e1 : f1 s with
    | stuck => rw [e1] at q; exact q.elim
    | exc x s' => rw [e1] at q; exact q.elim
    | ok xs s1 =>
      rw [e1] at q
      simp only at q
      refine ⟨κ, w, s, ok, ?_⟩
      rw [e1]
      intro w1 a vs H1 l1 ok1 g1 r1
      cases e2 : f2 s1 with
      | stuck => rw [e2] at q; exact q.elim
      | exc x s' => rw [e2] at q; exact q.elim
      | ok ys s2 =>
        rw [e2] at q
        simp only at q
        refine ⟨_, w1, s1, ok1, ?_⟩
        rw [e2]
        intro w2 b us H2 l2 ok2 g2 r2
        cases e3 : f3 s2 with
        | stuck => rw [e3] at q; exact q.elim
        | exc x s' => rw [e3] at q; exact q.elim
        | ok d s3 =>
          rw [e3] at q
          simp only at q
          refine ⟨_, w2, s2, ok2, ?_⟩
          rw [e3]
          intro w3 v H3 l3 ok3 r3
          refine ⟨_, _, _, rfl, ?_⟩
          have h1 := ok3.setOwn (y := .ol ys) g2 ⟨us, (ok3.gam (b, .lst us) List.mem_cons_self).1, r2.mono l3⟩ rfl (fun _ _ z => nomatch z) j
          have h2 := h1.setOwn (y := .ol xs) g1 ⟨vs, (h1.gam (a, .lst vs) List.mem_cons_self).1, (r1.mono l2).mono l3⟩ rfl (fun _ _ z => nomatch z) i
          have h3 := h2.setVal r3 l
          rw [List.set_comm _ _ hij] 
          rw [List.set_comm _ _ hij] at q
          exact q w3 _ H3 (l1.trans (l2.trans l3)) h3
/-! ### is True, is False -/
def dIsB : D → D → Option D := fun x y => match x, y with
  | .bl a, .bl b => some (.bl (decide (a = b)))
  | _, _ => none
def dNotB : D → D → Option D := fun x y => match x, y with
  | .bl a, .bl b => some (.bl (!decide (a = b)))
  | _, _ => none
theorem opd_isB : OpD G X (compareOp .Is) dIsB := ⟨_, op_isBl, fun κ w s σ H x y dx dy d Q ok rx ry e q => by
  cases rx with
  | bl a =>
    cases ry with
    | bl b =>
      cases e
      exact ⟨_, _, rfl, rfl, q w _ H (.refl _) ok (.bl _)⟩
    | _ => exact nomatch e
  | _ => exact nomatch e⟩
theorem opd_notB : OpD G X (compareOp .IsNot) dNotB := ⟨_, op_notBl, fun κ w s σ H x y dx dy d Q ok rx ry e q => by
  cases rx with
  | bl a =>
    cases ry with
    | bl b =>
      cases e
      exact ⟨_, _, rfl, rfl, q w _ H (.refl _) ok (.bl _)⟩
    | _ => exact nomatch e
  | _ => exact nomatch e⟩
/-! ### a, b = a list of two -/
def gTA (n : Nat) (g : List D → DS → Res DS Unit) : DG := fun d s => match d with
  | .tup ds => if ds.length = n then g ds s else .stuck
  | .lst ds => if ds.length = n then g ds s else .stuck
  | _ => .stuck
theorem pdg_any (hK : G.K = X.K) {es : List Expr} {is : List Nat} {k : Nat} {g : List D → DS → Res DS Unit} {n : Nat} {pos : Pos} (hc : X.calm = true) (h : PDGs G X es is g)
    (hn : (assignEach es X.env).length = n := by rfl) (hst : (assignEach es X.env).findIdx? (·.1) = none := by rfl) : PDG G X (.Tuple es k pos) is (gTA n g) :=
  ⟨fun pins s0 σ H v u Q I r0 ⟨κ, w, s, d, ok, r, q⟩ => by
    cases r with
    | @tup a vs ds e r =>
      by_cases c : ds.length = n
      · have q : PostT G is σ κ w (if ds.length = n then g ds s else .stuck) Q := q
        rw [if_pos c] at q
        exact (pg_tup hc h hn hst).run pins s0 σ H _ u Q I r0 ⟨a, vs, rfl, hK ▸ SqT.le e ok.fok.sub, by rw [r.length]; exact c, κ, w, s, ds, ok, r, q⟩
      · have q : PostT G is σ κ w (if ds.length = n then g ds s else .stuck) Q := q
        rw [if_neg c] at q
        exact q.elim
    | @lst a vs ds e r =>
      by_cases c : ds.length = n
      · have q : PostT G is σ κ w (if ds.length = n then g ds s else .stuck) Q := q
        rw [if_pos c] at q
        exact (pg_unl hc h hn hst).run pins s0 σ H _ u Q I r0 ⟨a, vs, rfl, .inl (.inl (ok.fok.sub _ _ e)), by rw [r.length]; exact c, κ, w, s, ds, ok, r, q⟩
      · have q : PostT G is σ κ w (if ds.length = n then g ds s else .stuck) Q := q
        rw [if_neg c] at q
        exact q.elim
    | _ => exact q.elim⟩
/-! ### text * number -/
theorem op_smul : OpR X (binaryOp .Mult) (fun x y H Q => ∃ (i : Str) (n : Int), x = .str i ∧ y = .int n ∧ i.length ≤ 100 ∧ -100000 ≤ n ∧ n ≤ 100000 ∧ Q (.str (Txt.mul i n)) H) := by
  intro pins s σ H x y v u Q I rx ry h
  obtain ⟨i, n, rfl, rfl, hz, h0, h1, q⟩ := h
  obtain ⟨t, rfl⟩ := rx
  obtain ⟨t', rfl⟩ := ry
  refine SB.mul ⟨?_, fun hn _ => ?_, fun hn _ => ?_⟩ fun t' k => ⟨.str (Txt.mul i n), H, I.tok _, ⟨_, rfl⟩, q⟩
  · rw [decide_eq_false (by omega), decide_eq_false (by omega)]; rfl
  · have : (i.length : Int) ≤ (2 ^ 63 - 1) / n := by
      rw [Int.le_ediv_iff_mul_le (by omega)]
      have := Int.mul_le_mul (show (i.length : Int) ≤ 100 by omega) h1 (by omega) (by omega)
      omega
    omega
  · unfold Builtin.Str.tooLong
    have := Nat.mul_le_mul hz (show n.toNat ≤ 100000 by omega)
    rw [decide_eq_false]
    rw [Nat.not_lt]
    exact Nat.le_trans this (by decide)
theorem foldl_repN (l : List Nat) : ∀ (k : Nat) (acc : List Nat), (List.replicate k l.toArray).foldl (· ++ ·) acc.toArray = (acc ++ (List.replicate k l).flatten).toArray
  | 0, acc => by simp
  | k + 1, acc => by
    rw [List.replicate_succ, List.foldl_cons, List.append_toArray, foldl_repN l k (acc ++ l), List.replicate_succ, List.flatten_cons, List.append_assoc]
theorem mul_nm (l : Nm) (n : Int) : Txt.mul (nm l) n = nm (List.replicate n.toNat l).flatten := by
  unfold Txt.mul
  by_cases c : n < 1
  · rw [if_pos c, show n.toNat = 0 by omega]
    rfl
  · rw [if_neg c]
    by_cases c2 : (n == 1 || (nm l).length == 0) = true
    · rw [if_pos c2]
      rw [Bool.or_eq_true] at c2
      rcases c2 with c2 | c2
      · have : n = 1 := by simpa using c2
        subst this
        simp
      · have hl : l = [] := by
          have := (beq_iff_eq.mp c2)
          rw [nm_len] at this
          exact List.eq_nil_of_length_eq_zero this
        subst hl
        simp
    · rw [if_neg c2]
      have := foldl_repN l n.toNat []
      rw [List.nil_append] at this
      unfold nm
      rw [← this]
def sMul : D → D → Option D := fun x y => match x, y with
  | .str l, .int n => if l.length ≤ 100 ∧ -100000 ≤ n ∧ n ≤ 100000 then some (.str (List.replicate n.toNat l).flatten) else none
  | _, _ => none
theorem opd_smul : OpD G X (binaryOp .Mult) sMul := ⟨_, op_smul, fun κ w s σ H x y dx dy d Q ok rx ry e q => by
  cases rx with
  | str l =>
    cases ry with
    | int n =>
      have e : (if l.length ≤ 100 ∧ -100000 ≤ n ∧ n ≤ 100000 then some (D.str (List.replicate n.toNat l).flatten) else none) = some d := e
      split at e
      · rename_i c
        cases e
        refine ⟨nm l, n, rfl, rfl, by rw [nm_len]; exact c.1, c.2.1, c.2.2, ?_⟩
        rw [mul_nm]
        exact q w _ H (.refl _) ok (.str _)
      · cases e
    | _ => exact nomatch e
  | _ => exact nomatch e⟩
/-! ### tuple + tuple, empty ones too -/
def tAdd : D → D → Option D := fun x y => match x, y with
  | .tup a, .tup b => if a.length + b.length ≤ 1000000 then some (.tup (a ++ b)) else none
  | _, _ => none
theorem opd_tadd (hK : G.K = X.K) : OpD G X (binaryOp .Add) tAdd := ⟨_, op_catA, fun κ w s σ H x y dx dy d Q ok rx ry e q => by
  cases rx with
  | @tup a vs ds e1 r1 =>
    cases ry with
    | @tup a2 vs2 ds2 e2 r2 =>
      have e : (if ds.length + ds2.length ≤ 1000000 then some (D.tup (ds ++ ds2)) else none) = some d := e
      split at e
      · rename_i c
        cases e
        refine ⟨a, a2, vs, vs2, rfl, rfl, hK ▸ SqT.le e1 ok.fok.sub, hK ▸ SqT.le e2 ok.fok.sub, by rw [r1.length, r2.length, sizeLine_eq]; omega, fun z => ?_, fun _ z => ?_, fun _ _ p hp => ?_⟩
        · subst z
          cases r1
          exact q w _ H (.refl _) ok (.tup e2 r2)
        · subst z
          cases r2
          rw [List.append_nil] at q
          exact q w _ H (.refl _) ok (.tup e1 r1)
        · obtain ⟨le2, ok2⟩ := ok.alloc hp (.tup (vs ++ vs2))
          exact q _ _ _ le2 ok2 (.tup (.inl (.inl upd_same)) ((r1.append r2).mono le2))
      · cases e
    | _ => exact nomatch e
  | _ => exact nomatch e⟩
/-! ### max(xs), min(xs) of a list of ints -/
def mxL : List Int → Int
  | [] => 0
  | [x] => x
  | x :: y :: r => if mxL (y :: r) > x then mxL (y :: r) else x
def mnL : List Int → Int
  | [] => 0
  | [x] => x
  | x :: y :: r => if mnL (y :: r) < x then mnL (y :: r) else x
theorem mxL_mem : ∀ {l : List Int}, l ≠ [] → mxL l ∈ l ∧ ∀ y ∈ l, y ≤ mxL l
  | [], h => absurd rfl h
  | [x], _ => ⟨by simp [mxL], fun y hy => by simp at hy; subst hy; simp [mxL]⟩
  | x :: y :: r, _ => by
    obtain ⟨h1, h2⟩ := mxL_mem (l := y :: r) (by simp)
    unfold mxL
    split
    · refine ⟨List.mem_cons_of_mem _ h1, fun z hz => ?_⟩
      rcases List.mem_cons.mp hz with rfl | hz
      · omega
      · exact h2 z hz
    · refine ⟨List.mem_cons_self .., fun z hz => ?_⟩
      rcases List.mem_cons.mp hz with rfl | hz
      · omega
      · have := h2 z hz; omega
theorem mnL_mem : ∀ {l : List Int}, l ≠ [] → mnL l ∈ l ∧ ∀ y ∈ l, mnL l ≤ y
  | [], h => absurd rfl h
  | [x], _ => ⟨by simp [mnL], fun y hy => by simp at hy; subst hy; simp [mnL]⟩
  | x :: y :: r, _ => by
    obtain ⟨h1, h2⟩ := mnL_mem (l := y :: r) (by simp)
    unfold mnL
    split
    · refine ⟨List.mem_cons_of_mem _ h1, fun z hz => ?_⟩
      rcases List.mem_cons.mp hz with rfl | hz
      · omega
      · exact h2 z hz
    · refine ⟨List.mem_cons_self .., fun z hz => ?_⟩
      rcases List.mem_cons.mp hz with rfl | hz
      · omega
      · have := h2 z hz; omega
def bMaxL : List D → Option D
  | [.lst xs] => match intsOf xs with
    | some (n :: ns) => some (.int (mxL (n :: ns)))
    | _ => none
  | _ => none
def bMinL : List D → Option D
  | [.lst xs] => match intsOf xs with
    | some (n :: ns) => some (.int (mnL (n :: ns)))
    | _ => none
  | _ => none
theorem cd_maxL (hc : X.calm = true) : CallD G X (.builtin "max") bMaxL := ⟨_, cr_max hc, fun κ w s σ H vs ds d Q ok rs e q => by
  match ds, e with
  | [.lst xs], e =>
    have e : (match intsOf xs with | some (n :: ns) => some (D.int (mxL (n :: ns))) | _ => none) = some d := e
    cases e1 : intsOf xs with
    | none => rw [e1] at e; cases e
    | some l =>
      rw [e1] at e
      cases l with
      | nil => cases e
      | cons n ns =>
        cases e
        obtain ⟨v, rfl, r⟩ := rs.one
        cases r with
        | @lst a vs ds e r =>
          rw [intsOf_eq e1] at r
          rw [r.ints] at e
          refine ⟨a, n :: ns, rfl, .inl (.inl (ok.fok.sub _ _ e)), by simp, fun m h1 h2 => ?_⟩
          obtain ⟨h3, h4⟩ := mxL_mem (l := n :: ns) (by simp)
          have : m = mxL (n :: ns) := Int.le_antisymm (h4 m h1) (h2 _ h3)
          subst this
          exact q w _ H (.refl _) ok (.int _)⟩
theorem cd_minL (hc : X.calm = true) : CallD G X (.builtin "min") bMinL := ⟨_, cr_min hc, fun κ w s σ H vs ds d Q ok rs e q => by
  match ds, e with
  | [.lst xs], e =>
    have e : (match intsOf xs with | some (n :: ns) => some (D.int (mnL (n :: ns))) | _ => none) = some d := e
    cases e1 : intsOf xs with
    | none => rw [e1] at e; cases e
    | some l =>
      rw [e1] at e
      cases l with
      | nil => cases e
      | cons n ns =>
        cases e
        obtain ⟨v, rfl, r⟩ := rs.one
        cases r with
        | @lst a vs ds e r =>
          rw [intsOf_eq e1] at r
          rw [r.ints] at e
          refine ⟨a, n :: ns, rfl, .inl (.inl (ok.fok.sub _ _ e)), by simp, fun m h1 h2 => ?_⟩
          obtain ⟨h3, h4⟩ := mnL_mem (l := n :: ns) (by simp)
          have : m = mnL (n :: ns) := Int.le_antisymm (h2 _ h3) (h4 m h1)
          subst this
          exact q w _ H (.refl _) ok (.int _)⟩
/-! ### range(i, j, c) -/
def rngC (lo c : Int) (n : Nat) : List D := (List.range n).map fun (i : Nat) => D.int (lo + (i : Int) * c)
theorem itOk_rngC {w : Wd} (lo c : Int) (n : Nat) : ItOk G w (Itc lo c n) (rngC lo c n) := by
  intro w1 S H le fok i
  refine ⟨fun d hd => ?_, fun hn => ?_⟩
  · unfold rngC at hd
    rw [List.getElem?_map] at hd
    by_cases c : i < n
    · rw [List.getElem?_range c] at hd
      cases hd
      refine ⟨c, fun x H' ⟨hH, hx⟩ => ⟨w1, ?_, ?_, ?_⟩⟩
      · rw [hH]; exact .refl _ _
      · rw [hH]; exact fok
      · rw [hx]; exact .int _
    · rw [List.getElem?_eq_none (by rw [List.length_range]; omega)] at hd
      cases hd
  · have := List.getElem?_eq_none_iff.mp hn
    unfold rngC at this
    rw [List.length_map, List.length_range] at this
    exact this
def itR3 (f : DA) : DA := fun s => (f s).bind fun ds s1 => match ds with
  | [.int i, .int j, .int c] => if c ≠ 0 ∧ c.natAbs < 1073741824 ∧ Builtin.Range.small i j c = true ∧ 0 ≤ Builtin.Range.rangeSize i j c then .ok (rngC i c (Builtin.Range.rangeSize i j c).toNat) s1 else .stuck
  | _ => .stuck
theorem pdi_range3 {tg a b c : Expr} {f : DA} {p pos : Pos} (hg : Gl X "range") (hm : X.mg "range" = none) (ha : PDA G W X [a, b, c] f) (hs : starEach [a, b, c] X.env = (false, eval a X.env) :: starEach [b, c] X.env := by rfl) (hpl : (backTo pos (starEach [b, c] X.env)).any (·.1) = false := by rfl) :
    PDI G W X tg (.Call (.Name "range" p) [a, b, c] [] pos) (itR3 f) :=
  (pi_range3 hg hm ha hs hpl).imp fun σ H R ⟨κ, w, s, ok, q⟩ => ⟨κ, w, s, ok, (PostG.bindI q).imp fun v H1 ⟨d, s1, w1, le, ok1, r1, q1⟩ => by
    match d, q1, r1 with
    | [.int i, .int j, .int c], q1, .cons (.int _) (.cons (.int _) (.cons (.int _) .nil)) =>
      have q1 : PostI G W κ w1 σ (if c ≠ 0 ∧ c.natAbs < 1073741824 ∧ Builtin.Range.small i j c = true ∧ 0 ≤ Builtin.Range.rangeSize i j c then .ok (rngC i c (Builtin.Range.rangeSize i j c).toNat) s1 else .stuck) R := q1
      by_cases cc : c ≠ 0 ∧ c.natAbs < 1073741824 ∧ Builtin.Range.small i j c = true ∧ 0 ≤ Builtin.Range.rangeSize i j c
      · rw [if_pos cc] at q1
        exact ⟨i, j, c, _, rfl, ⟨cc.1, cc.2.1, cc.2.2.1, (Int.toNat_of_nonneg cc.2.2.2).symm⟩, q1 w1 _ H1 (.refl _) ok1 (itOk_rngC i c _)⟩
      · rw [if_neg cc] at q1
        exact q1.elim⟩
end
end DL
set_option maxRecDepth 100000
set_option maxHeartbeats 4000000
set_option autoImplicit false
namespace DL
open PySem PySem.Spec PyProof.Rows L2
/-! ### raise C(), the class with no __init__ of its own -/
abbrev veM : List Value := [.type "ValueError", .type "Exception", .type "BaseException", .type "object"]
def x0B (K : PySem.W.Frag) (C : Addr) : Bool := PySem.W.excIn K C veM "ValueError.__new__" && (PySem.W.keepIn K (.ref C) && ((PySem.W.subIn K (.ref C) (.type "BaseException") == some true) && (PySem.W.typeIn K (.ref C) == some (.type "type"))))
def sRaise0 (c : String) : DStm := fun s => .exc ⟨c, []⟩ s
@[simp] theorem r_sRaise0 (c : String) (s : DS) : sRaise0 c s = .exc ⟨c, []⟩ s := rfl
section
variable {G : Gam} {W : WX} {X : Cx}
theorem pmk_own0 {C : Addr} {x : Str} {p pos : Pos} (hB : x0B X.K C = true) (gC : X.mg x = some (.ref C)) (hg : Gl X x) (hdb : (x == ("__debug__" : Str)) = false := by decide) :
    PMk X (.Call (.Name x p) [] [] pos) (fun σ H Q => Q (.ref C) none H) := by
  unfold x0B at hB
  simp only [Bool.and_eq_true, beq_iff_eq] at hB
  obtain ⟨q, kC, b1, b2⟩ := hB
  intro pins s σ H Q I h
  refine wpAny_Call_Name_kw (ld_glob I hg gC ?_ hdb)
  refine PySem.W.callWith_K0 I.kIn kC ?_
  obtain ⟨bm, N, nm, qn, bs, hdct, sn, sub, ab, col, dd, k0, k1, k2, k3, k5, mN, hC, hN, hni, T⟩ := exc_obj I.kIn q
  refine wpAny_call_exc_subT PySem.F.excBase_ValueError T hC hN hni (fun h' e hm => ?_) (by show 0 ≤ sizeLine; rw [sizeLine_eq]; omega)
  exact mk_of I hm (raises_own b1 b2) h (I.hok.gone hm.new)
theorem pds_raise0 {c : String} {C : Addr} {x : Str} {p pos pos' : Pos} (hc : X.calm = true) (tk : Takes X W) (hct : G.ct c = some C) (hB : x0B X.K C = true) (hg : Gl X x) (hm : X.mg x = some (.ref C)) (hdb : (x == ("__debug__" : Str)) = false := by decide) :
    PDS G W X (.Raise (some (.Call (.Name x p) [] [] pos)) none pos') (sRaise0 c) :=
  (ps_raise hc tk (pmk_own0 hB hm hg hdb)).imp fun N σ H ⟨κ, w, s, ok, q⟩ => q w σ (.ref C) none H (.refl _) ok ⟨C, hct, rfl, .inl ⟨rfl, rfl⟩⟩
end
end DL
set_option maxRecDepth 100000
set_option maxHeartbeats 4000000
set_option autoImplicit false
namespace DL
open PySem PySem.Spec PyProof.Rows L2
/-! ### a comprehension whose element calls a def with a lambda of the maker: the maker's own state goes along -/
section
variable {X : Cx}
theorem lcK {elt tg iter : Expr} {ifs : List Expr} {scope : Scope} {own : List (Str × Nat)} {pos : Pos} {wi : TI} {g : TG} {tt : TT} {te : TE} (hc : X.calm = true) (hN : X.N.Nodup) (hi : PI X tg iter wi) (ok : BlkOk X.N X.env.scope scope own)
    (hg : ∀ (s : Shared) (H : Hp) (C : Addr) (cl : List (Str × Addr)) (fp : List Addr), PG (X.blk s H scope (compEnvC scope cl C X.env) fp) tg g) (ht : ∀ (s : Shared) (H : Hp) (C : Addr) (cl : List (Str × Addr)) (fp : List Addr), PTs (X.blk s H scope (compEnvC scope cl C X.env) fp) ifs tt)
    (he : ∀ (pins : List (Addr × Obj)) (σ : L2.St) (s : Shared) (H : Hp) (C : Addr) (cl : List (Str × Addr)) (fp : List Addr), Inv X pins σ H s → (∀ b ∈ fp, FpOk X pins H b) → PE (X.blk s H scope (compEnvC scope cl C X.env) fp) elt (fun σ' H' Q => L2.wipe σ' (own.map (·.2)) = L2.wipe σ (own.map (·.2)) ∧ te σ' H' Q)) (hs : ∀ x, foldedSetIterable iter X.env x = pure x := by intro _; rfl) :
    PE X (.ListComp elt [⟨tg, iter, ifs, 0⟩] scope pos) (tLc wi g tt te (own.map (·.2))) := by
  refine ⟨fun pins s σ H Q I h => ?_⟩
  rw [eval_ListComp]
  have fr : ∀ y ∈ scope.names, y.2 = .free → ∃ c, X.env.cells.lookup y.1 = some c := fun y hy e => (ok.free y hy e).elim (fun k => I.ok.has _ (.inl k)) fun k => I.ok.has _ (.inr k)
  refine wpAny_comprehension_free (use := none) rfl hs (closure_ok fr) ok.kind (fun y hy e => by rw [ok.uniq y hy, e])
    (thn (hi.run pins s σ H _ I h) fun xv s1 hx => thn hx fun itv s2 h2 => ?_)
  obtain ⟨it, fp, tn, J, H2, rfl, I2, T, st2, f2, q⟩ := h2
  refine wpAny_newObj_type (newEnv_comp ?_) (by show 0 ≤ sizeLine; decide)
  generalize hD : s2.heap.objs.size = D
  have nD : H2 D = none := I2.hok.fresh (Nat.le_of_eq hD)
  obtain ⟨Wv, ⟨m0, w0⟩, turn⟩ := q D nD
  generalize e3 : ({ s2 with heap := s2.heap.push { cls := .type "list", data := .seq ([] : List Value).toArray } } : Shared) = s3
  have hh : s3.heap = s2.heap.push { cls := .type "list", data := .seq ([] : List Value).toArray } := by rw [← e3]
  have I3 : Inv X pins σ (upd H2 D (.lst [])) s3 := by
    rw [← e3]
    refine I2.laid (t' := s2.toks) (fun b o e => Heap.get?_push_of_some _ e) (Nat.le_of_eq hD) ⟨Nat.zero_le _, [], 0, .nil, ?_⟩
    rw [← hD]
    exact Heap.get?_push_size _ rfl
  have lt2 : ∀ b ∈ fp, b < s2.heap.objs.size := fun b hb => let ⟨_, e, _⟩ := T.obj _ _ st2 b hb; Heap.lt_size e
  have f3 : ∀ b ∈ fp, FpOk X pins (upd H2 D (.lst [])) b ∧ b < s3.heap.objs.size := fun b hb =>
    ⟨⟨by rw [upd_ne (by rw [← hD]; exact Nat.ne_of_lt (lt2 b hb))]; exact (f2 b hb).1, (f2 b hb).2⟩, by rw [hh, Heap.size_push]; exact Nat.lt_succ_of_lt (lt2 b hb)⟩
  have st3 : tn 0 s3.heap := T.keep _ _ _ st2 fun b _ o e => by rw [hh]; exact Heap.get?_push_of_some _ e
  have I4 := block_start I3 ok hN f3
  show codeAny _ _ (.compStart (.ListComp elt [⟨tg, iter, ifs, 0⟩] scope pos) 0 (.ref it) (.ref D) (compEnvC scope (cellsFrom (s3.heap.objs.size + 1) scope.names (cloFrom X.env.cells scope.names [])) s3.heap.objs.size X.env)) (compPost (model X.prog X.w) X.A X.xe none (EP X pins σ Q) (.ref D) s3.heap.objs.size) { s3 with heap := pushCells (s3.heap.push { cls := .type "dict", data := .dict #[] }) scope.names }
  have pg := hg s3 (upd H2 D (.lst [])) s3.heap.objs.size (cellsFrom (s3.heap.objs.size + 1) scope.names (cloFrom X.env.cells scope.names [])) fp
  have pt := ht s3 (upd H2 D (.lst [])) s3.heap.objs.size (cellsFrom (s3.heap.objs.size + 1) scope.names (cloFrom X.env.cells scope.names [])) fp
  have pe := he pins σ s3 (upd H2 D (.lst [])) s3.heap.objs.size (cellsFrom (s3.heap.objs.size + 1) scope.names (cloFrom X.env.cells scope.names [])) fp I3 fun b hb => (f3 b hb).1
  have nfp : ∀ b ∈ fp, (upd H2 D (.lst [])) b = none := fun b hb => (f3 b hb).1.1
  generalize hce : compEnvC scope (cellsFrom (s3.heap.objs.size + 1) scope.names (cloFrom X.env.cells scope.names [])) s3.heap.objs.size X.env = ce at I4 pg pt pe ⊢
  have cL : ce.locals = s3.heap.objs.size := by subst hce; rfl
  generalize upd H2 D (.lst []) = H3 at I3 I4 pg pt pe w0 nfp f3
  generalize hs4 : ({ s3 with heap := pushCells (s3.heap.push { cls := .type "dict", data := .dict #[] }) scope.names } : Shared) = s4 at I4 ⊢
  have st4 : tn 0 s4.heap := T.keep _ _ _ st3 fun b _ o e => by rw [← hs4]; exact pushCells_keeps _ _ _ _ (Heap.get?_push_of_some _ e)
  have stat : ∀ {σ' : L2.St} {H' : Hp} {s' : Shared}, Inv (X.blk s3 H3 scope ce fp) [] σ' H' s' → (∀ b ∈ fp, H' b = none) → ∀ b ∈ fp, FpOk (X.blk s3 H3 scope ce fp) [] H' b := fun {σ' H' s'} I' hn b hb =>
    ⟨hn b hb, (I'.ok.exf b hb).1, I'.ok.exfs b hb, .inl hb, (I'.ok.exf b hb).2, fun p hp => absurd (show p ∈ ([] : List (Addr × Obj)) ++ [] from hp) (by simp)⟩
  have loop : codeAny (model X.prog X.w) X.A (.compLoop (.ListComp elt [⟨tg, iter, ifs, 0⟩] scope pos) 0 (.ref it) (.ref D) ce) (compPost (model X.prog X.w) X.A X.xe none (EP X pins σ Q) (.ref D) s3.heap.objs.size) s4 := by
    refine compLoop_any (fun n s' => ∃ i H', Inv (X.blk s3 H3 scope ce fp) [] (L2.wipe σ (own.map (·.2))) H' s' ∧ tn i s'.heap ∧ (∀ b ∈ fp, H' b = none) ∧ Wv i n H') ?_ m0 ⟨0, H3, I4, st4, nfp, w0⟩
    rintro n s5 ⟨i, H5, I5, st5, n5, w5⟩
    rcases turn i n H5 w5 with ⟨stop, qq⟩ | ⟨go, Nx, hNx, step⟩
    · refine thnF (T.done (X.blk s3 H3 scope ce fp) rfl rfl rfl hc i [] s5 _ H5 (fun _ _ => False) I5 (stat I5 n5) st5 stop) fun r s6 ⟨hr, I6⟩ => ?_
      subst hr
      have I7 : Inv X pins σ H5 s6 := I3.call' (ch := fp) I6.os I6.base I6.hok I6.bare fun b hb => ⟨(f3 b hb).1.2.2.2.1, (f3 b hb).1.2.1, (f3 b hb).1.2.2.2.2.1, (f3 b hb).1.2.2.2.2.2⟩
      have nC : H5 s3.heap.objs.size = none := by
        have z : H5 ce.locals = none := I6.free
        rw [cL] at z
        exact z
      obtain ⟨m, hn, _⟩ := I6.loc
      have hn : s6.heap.Ns ce.locals m := hn
      rw [cL] at hn
      obtain ⟨f0, f1, f2, f3, f4, f5⟩ := I3.fpOk (Nat.le_refl _) nC
      exact ⟨m, hn, fun h'' sb => ⟨.ref D, H5, I7.turned (t' := s6.toks) (fun b o hb e => (sb.2 b hb).trans e) f0 f1 f3 f4 f5, rfl, qq⟩⟩
    · refine thnF (T.item (X.blk s3 H3 scope ce fp) rfl rfl rfl hc i [] s5 _ H5 (fun _ _ => False) I5 (stat I5 n5) st5 go) fun r s6 ⟨u, hr, h6⟩ => ?_
      subst hr
      refine thnF h6 fun _ s7 ⟨x, H7, I7, r7, y7, st7, n7⟩ => ?_
      refine thnF (pg.run _ s7 _ H7 x u _ (I7.pinned (stat I7 n7) (T.obj _ _ st7)) r7 (step x H7 y7)) fun _ s8 ⟨σ8, H8, I8, hw8, q8⟩ => ?_
      refine thnF (pt.run _ s8 σ8 H8 _ I8 q8) fun b s9 ⟨H9, I9, q9⟩ => ?_
      have fin : ∀ {s' : Shared} {H' : Hp}, Inv (X.blk s3 H3 scope ce fp) ([] ++ pinsAt fp s7.heap) σ8 H' s' → Nx H' → ∃ m, m < n ∧ ∃ i H', Inv (X.blk s3 H3 scope ce fp) [] (L2.wipe σ (own.map (·.2))) H' s' ∧ tn i s'.heap ∧ (∀ b ∈ fp, H' b = none) ∧ Wv i m H' := fun {s' H'} I' nx => by
        obtain ⟨m', hm, w'⟩ := hNx H' nx
        have pin' : ∀ b ∈ fp, ∀ o, s7.heap.get? b = some o → s'.heap.get? b = some o ∧ H' b = none := fun b hb o e =>
          let z := I'.pin (b, o) (List.mem_append_right _ (List.mem_append_right _ (mem_pinsAt hb e)))
          ⟨z.1, z.2.1⟩
        refine ⟨m', hm, i + 1, H', (I'.unpinned (pins := [])).weak (by rw [← hw8, L2.wipe_length]) (fun j v e => by rw [← hw8] at e; exact (wipe_some e).1), T.keep _ _ _ st7 fun b hb o e => (pin' b hb o e).1, fun b hb => ?_, w'⟩
        obtain ⟨o, e, _⟩ := T.obj _ _ st7 b hb
        exact (pin' b hb o e).2
      cases b with
      | false =>
        simp only [Bool.false_eq_true, if_false] at q9 ⊢
        exact fin I9 q9
      | true =>
        simp only [if_true] at q9 ⊢
        refine thnF (pe.run _ s9 σ8 H9 _ I9 ⟨hw8, q9⟩) fun z s10 ⟨yv, H10, I10, r10, acc, hD10, hz10, nx⟩ => ?_
        exact app_ok (X := X.blk s3 H3 scope ce fp) I10 hD10 hz10 r10 fun s11 I11 => fin I11 nx
  exact codeAny_compStart_list loop (T.self X.A 0 _ _ _ st4 loop)
end

def eCallLB (n : Nat) (g : LamR → DFn) (bs : String → Option DE) (vs : List Nat) (fa : DA) : DE := fun s => (fa s).bind fun ds s1 => if ds.length = n then lift s1 (g (lamR bs (wipeD vs s1.sl)) ds s1.st) else .stuck
@[simp] theorem r_eCallLB (n : Nat) (g : LamR → DFn) (bs : String → Option DE) (vs : List Nat) (fa : DA) (s : DS) : eCallLB n g bs vs fa s = (fa s).bind fun ds s1 => if ds.length = n then lift s1 (g (lamR bs (wipeD vs s1.sl)) ds s1.st) else .stuck := rfl
section
variable {G : Gam} {W : WX} {X : Cx}
theorem pd_callLB {T : LamT} {bs : String → Option DE} {k n m i : Nat} {f : Addr} {fd : FuncData} {N ps : List Str} {body : LamR → DStm} {x qual a : Str} {st : Stmt} {p pos : Pos} {e : Expr} {es : List Expr} {fa : DA} {vs : List Nat}
    {pinsX : List (Addr × Obj)} {σX : L2.St} {sX : Shared} {HX : Hp} {scope : Scope} {cenv : Env} {fp : List Addr} (IX : Inv X pinsX σX HX sX) (hfp : ∀ b ∈ fp, FpOk X pinsX HX b) (hK : G.K = X.K) (F : Fun X.K x qual st f fd) (S : FnScope N ps (defScope st)) (hn : ps.length = n) (hm : N.length - n = m)
    (GL : ∀ n f w', G.lam n f w' → T.lam n f w') (hq : T.q = X.env.qual ++ "<lambda>") (hcl : T.cells = X.env.cells) (hbs : LamsOk G X T k bs)
    (hbody : ∀ w, BodyL (G.at w) X.prog X.w X.mg X.base (k + 1) N qual st f a i body) (hN : N[i]? = some a) (hv : Vis (defScope st) a)
    (hr : Room (k + 2) X.A) (hg : Gl (X.blk sX HX scope cenv fp) x) (hmg : X.mg x = some (.ref f)) (hb : Binds X.K fd ps []) (tk : Takes (X.blk sX HX scope cenv fp) WF) (ha : PDA G WF (X.blk sX HX scope cenv fp) (e :: es) fa) (hdb : (x == ("__debug__" : Str)) = false := by decide) (hda : (a == ("__debug__" : Str)) = false := by decide) (hcd : (a == ("__classdict__" : Str)) = false := by decide)
    (he : starEach (e :: es) cenv = (false, eval e cenv) :: starEach es cenv := by rfl) (hpl : (backTo pos (starEach es cenv)).any (·.1) = false := by rfl) :
    PE (X.blk sX HX scope cenv fp) (.Call (.Name x p) (e :: es) [] pos) (fun σ' H' Q => L2.wipe σ' vs = L2.wipe σX vs ∧ tD G WF (eCallLB n (fun Λ => fnD n (body Λ) m) bs vs fa) σ' H' Q) := by
  refine ⟨fun pins s σ H Q I ⟨hw, h⟩ => ?_⟩
  obtain ⟨κ, w, ds, ok, q⟩ := h
  refine wpAny_Call_Name_kw (ld_glob I hg hmg ?_ hdb)
  have hh : tDA G WF fa σ H fun vs' H1 => ∃ d s1 w1, w.le w1 ∧ Ok G κ w1 s1 σ H1 ∧ Reps G w1 vs' d ∧ PostG G WF (Rep G) κ w1 σ (if d.length = n then lift s1 (fnD n (body (lamR bs (wipeD vs s1.sl))) m d s1.st) else .stuck) Q := ⟨κ, w, ds, ok, PostG.bind q⟩
  refine PySem.W.callWith_K (h₀ := X.base) I.ok.mod.kin F.kp (thn (ha.run pos pins s σ H _ I hh) fun us s1 ⟨vs', H1, I1, r, d, s2, w1, le, ok1, rs, q1⟩ => ⟨I1.kIn, ?_⟩) he hpl
  by_cases c : d.length = n
  case neg => rw [if_neg c] at q1; exact q1.elim
  rw [if_pos c] at q1
  have q2 := postF_of ok1 q1
  have J : Inv X pinsX (L2.wipe σX vs) H1 s1 := (IX.call' (ch := fp) I1.os I1.base I1.hok I1.bare fun b hb => ⟨(hfp b hb).2.2.2.1, (hfp b hb).2.1, (hfp b hb).2.2.2.2.1, (hfp b hb).2.2.2.2.2⟩).weak (L2.wipe_length _ _) fun j v e => (wipe_some e).1
  have okW : Ok G κ w1 (wipeS vs s2) (L2.wipe σX vs) H1 := by rw [← hw]; exact ok1.wipe vs
  obtain ⟨oc, od, kV, doc, pm, an, cdv, ct, osl, rfl, lk, hcode⟩ := F.ex
  have hl : vs'.length = n := by rw [rs.length]; exact c
  have hul : us.length = ps.length := by rw [← r.length, hl, hn]
  have rc : codeAny (model X.prog X.w) X.A (.call (.ref f) ⟨us, []⟩) (CR (L2.CX X.prog X.w) X.stack X.prog X.w H1 s1 Q (WE WF σ)) s1 := by
    have hbd := hb s1 us I1.kIn (by simpa using hul)
    rw [List.append_nil] at hbd
    refine LamX.run_ofS (N := N) (ps := ps) (us := us) (vs := vs') lk hcode S hr I1.env0 hbd r (by rw [hl, hn]) fun hr' => ?_
    have hb0 := hbody w1 (lamR bs (wipeD vs s2.sl)) cdv X.A X.stack s1 H1 (WE WF σ) hr' (takes_of rfl rfl rfl rfl) (passes_of rfl) 
    have hK' : (G.at w1).K = X.K := hK
    rw [hK'] at hb0
    refine ⟨_, hb0 fun pn xe W' p1 p2 tk' => pd_act J okW GL hq hcl hbs tk' hr' hN hv hda hcd, ?_⟩
    rw [start_eq (m := m) (by rw [hl]; exact hm)]
    have fok' : FOk (G.at w1) w1 s2.st H1 := ok1.fok.sw (.inr fun _ _ z => ⟨z, .refl _⟩)
    have rs' : Reps (G.at w1) w1 vs' d := rs.sw (.inr fun _ _ z => ⟨z, .refl _⟩)
    refine ⟨⟨w1, H1, [], none⟩, w1, _, Ok.start fok' rs' m, ?_⟩
    unfold fnD at q2
    rw [if_pos c] at q2
    cases e : body (lamR bs (wipeD vs s2.sl)) ⟨d.map Sl.val ++ List.replicate m .un, s2.st⟩ with
    | stuck => rw [e] at q2; exact q2.elim
    | exc x s' =>
      rw [e] at q2
      exact fun w' σ' c dd H' le ok' rx => q2 w' c dd H' ok'.nx (ok'.fok.bk (.inr fun _ _ z => z.1)) (rx.bk (.inr fun _ _ z => z.1))
    | ok o s' =>
      rw [e] at q2
      cases o with
      | nx => exact fun w' σ' H' le ok' => q2 w' .non H' ok'.nx (ok'.fok.bk (.inr fun _ _ z => z.1)) .non
      | rt d => exact fun w' σ' v H' le ok' r' => q2 w' v H' ok'.nx (ok'.fok.bk (.inr fun _ _ z => z.1)) (r'.bk (.inr fun _ _ z => z.1))
      | bk => exact q2.elim
      | ct => exact q2.elim
  refine wpAny_call (codeAny_mono rc fun r s' hq => ?_)
  cases r with
  | error e => exact passAt tk σ pins H1 s1 e s' I1 hq
  | ok fl =>
    cases fl with
    | ret u => exact I1.after hq
    | next => exact False.elim hq
    | brk => exact False.elim hq
    | cont => exact False.elim hq
theorem pdo_lcL {elt tg iter : Expr} {ifs : List Expr} {scope : Scope} {own : List (Str × Nat)} {is : List Nat} {pos : Pos} {it : DA} {g : DG} {t : DT} {e : DE} (hc : X.calm = true) (hN : X.N.Nodup) (hi : PDI G W X tg iter it) (ok : BlkOk X.N X.env.scope scope own) (hs' : ∀ i ∈ is, i ∈ own.map (·.2))
    (hg : ∀ (s : Shared) (H : Hp) (C : Addr) (cl : List (Str × Addr)) (fp : List Addr), PDG G (X.blk s H scope (compEnvC scope cl C X.env) fp) tg is g) (ht : ∀ (s : Shared) (H : Hp) (C : Addr) (cl : List (Str × Addr)) (fp : List Addr), PTs (X.blk s H scope (compEnvC scope cl C X.env) fp) ifs (tDT G WF t))
    (he : ∀ (pins : List (Addr × Obj)) (σ : L2.St) (s : Shared) (H : Hp) (C : Addr) (cl : List (Str × Addr)) (fp : List Addr), Inv X pins σ H s → (∀ b ∈ fp, FpOk X pins H b) → PE (X.blk s H scope (compEnvC scope cl C X.env) fp) elt (fun σ' H' Q => L2.wipe σ' (own.map (·.2)) = L2.wipe σ (own.map (·.2)) ∧ tD G WF e σ' H' Q)) (hs : ∀ x, foldedSetIterable iter X.env x = pure x := by intro _; rfl) :
    PDo G W X (.ListComp elt [⟨tg, iter, ifs, 0⟩] scope pos) (aLc (own.map (·.2)) it g t e) :=
  (lcK hc hN hi ok hg ht he hs).imp fun σ H Q h => pdo_lc.lc_fin hs' h
end
end DL
set_option maxRecDepth 100000
set_option maxHeartbeats 4000000
set_option autoImplicit false
namespace DL
open PySem PySem.Spec PyProof.Rows L2 PySem.W
/-! ### o(..): an instance is called -/
section
variable {M : Model} {A : Around} {E : Value → Shared → Prop} {s : Shared} {env : Env} {pos : Pos} {x : Addr} {first : List Value} {Q : Value → Shared → Prop}
theorem callWithI_of {args : List (Bool × Sem Value)} {keywords : List (Option Str × Sem Value)} (hplain : (args.any (·.1) || keywords.any (·.1.isNone)) = false)
    (h : wpAny M A (evalArgs (.ref x) true args keywords) (fun a s₁ => (∃ (C : Addr) (ox : Obj) (od : Option Obj), PySem.W.InstAt s₁.heap x ox C od ∧ ox.data = .plain) ∧ wpAny M A (call (.ref x) (first ++ a.pos) a.kw) Q E s₁) E s) : wpAny M A (callWith pos (.ref x) first args keywords) Q E s := by
  unfold callWith
  refine wpAny_bind (wpAny_holding (wpAny_mono h (fun a s₁ h₁ => wpAny_bind (wpAny_standAt ?_)) fun _ _ y => y))
  obtain ⟨⟨C, ox, od, I, hd⟩, h2⟩ := h₁
  have L := PySem.W.kco_keeper (M := M) I hd
  simp only [hplain]
  refine wpAny_bind (L.here ?_)
  have tail : ∀ {t : Sem Value}, wpAny M A t Q E s₁ → wpAny M A (t >>= fun r => holding [r] point >>= fun _ => pure r) Q E s₁ :=
    fun ht => wpAny_bind (wpAny_mono ht (fun r s₂ hr => wpAny_bind (wpAny_holding (wpAny_point (wpAny_pure hr)))) fun _ _ y => y)
  exact tail (wpAny_operateT h2)
theorem callWithI {e : Expr} {rest : List Expr} (h : wpAny M A (spliced (backTo pos (starEach (e :: rest) env))) (fun vs s₁ => (∃ (C : Addr) (ox : Obj) (od : Option Obj), PySem.W.InstAt s₁.heap x ox C od ∧ ox.data = .plain) ∧ wpAny M A (call (.ref x) (first ++ vs)) Q E s₁) E s)
    (he : starEach (e :: rest) env = (false, eval e env) :: starEach rest env) (hplain : (backTo pos (starEach rest env)).any (·.1) = false) :
    wpAny M A (callWith pos (.ref x) first (backTo pos (starEach (e :: rest) env)) []) Q E s := by
  rw [he] at h ⊢
  exact callWithI_of (by show ((false || (backTo pos (starEach rest env)).any (·.1)) || false) = false; rw [hplain]; rfl) (PySem.Calls.evalArgs_plain h)
end
theorem fnIn_of {K : PySem.W.Frag} {x qual : Str} {st : Stmt} {f : Addr} {fd : FuncData} (F : Fun K x qual st f fd) : PySem.W.fnIn K f = true := by
  obtain ⟨oc, od, kV, doc, pm, an, cdv, ct, osl, _, lk, _⟩ := F.ex
  unfold PySem.W.fnIn
  rw [lk]
section
variable {G : Gam} {W : WX} {X : Cx}
def eCallI (c : String) (n : Nat) (g : DFn) (fo : DE) (fa : DA) : DE := fun s => (fo s).bind fun d s1 => match d with
  | .ins c' fs => if c' = c then (fa s1).bind fun ds s2 => if ds.length + 1 = n then lift s2 (g (.ins c' fs :: ds) s2.st) else .stuck
    else .stuck
  | _ => .stuck
theorem pd_callI (hK : G.K = X.K) {c : String} {n : Nat} {g : DFn} {fo : DE} {fa : DA} {C f : Addr} {k : Nat} {fd : FuncData} {ps : List Str} {o e : Expr} {es : List Expr} {pos : Pos} (he : PD G W X o fo) (hC : G.ct c = some C) (hm : Meth X.K C "__call__" f) (hfn : PySem.W.fnIn X.K f = true)
    (F : FnOk X.prog X.w X.K X.mg X.base (L2.CX X.prog X.w) k f fd ps (spG G n g)) (hr : Room k X.A) (hb : Binds X.K fd ps []) (tk : Takes X W) (ha : PDA G W X (e :: es) fa)
    (hst : starEach (e :: es) X.env = (false, eval e X.env) :: starEach es X.env := by rfl) (hpl : (backTo pos (starEach es X.env)).any (·.1) = false := by rfl)
    (ht : eval (.Call o (e :: es) [] pos) X.env = (do callWith pos (← eval o X.env) [] (backTo pos (starEach (e :: es) X.env)) (backToKw pos (keywordEach [] X.env))) := by rfl) :
    PD G W X (.Call o (e :: es) [] pos) (eCallI c n g fo fa) := by
  refine ⟨fun pins sh σ H Q I h => ?_⟩
  obtain ⟨κ, w, s, ok, q⟩ := h
  rw [ht]
  have hh : tD G W fo σ H fun v H1 => ∃ d s1 w1, w.le w1 ∧ Ok G κ w1 s1 σ H1 ∧ Rep G w1 v d ∧ PostG G W (Rep G) κ w1 σ (match d with
    | .ins c' fs => if c' = c then (fa s1).bind fun ds s2 => if ds.length + 1 = n then lift s2 (g (.ins c' fs :: ds) s2.st) else .stuck else .stuck
    | _ => .stuck) Q := ⟨κ, w, s, ok, PostG.bind q⟩
  refine wpAny_bind (thn (he.run pins sh σ H _ I hh) fun u s1 ⟨x, H1, I1, rx, d, t1, w1, le, ok1, r1, q1⟩ => ?_)
  cases d with
  | ins c' fs =>
    replace q1 : PostG G W (Rep G) κ w1 σ (if c' = c then (fa t1).bind fun ds s2 => if ds.length + 1 = n then lift s2 (g (.ins c' fs :: ds) s2.st) else .stuck else .stuck) Q := q1
    by_cases hc : c' = c
    · rw [if_pos hc] at q1
      subst hc
      cases r1 with
      | @ins a C' dx _ vs _ hC' hF rf =>
      rw [hC] at hC'
      cases hC'
      obtain rfl : u = Value.ref a := rx
      have hh2 : tDA G W fa σ H1 fun vs H2 => ∃ ds s2 w2, w1.le w2 ∧ Ok G κ w2 s2 σ H2 ∧ Reps G w2 vs ds ∧ PostG G W (Rep G) κ w2 σ (if ds.length + 1 = n then lift s2 (g (.ins c' fs :: ds) s2.st) else .stuck) Q := ⟨κ, w1, t1, ok1, PostG.bind q1⟩
      refine callWithI (first := []) (thn (ha.run pos pins s1 σ H1 _ I1 hh2) fun us s2 ⟨vs2, H2, I2, r2, ds, t2, w2, le2, ok2, rs2, q2⟩ => ?_) hst hpl
      obtain ⟨mA, J, _⟩ := ins_get I2.hok (ok2.fok.sub _ _ (le2.f _ _ hF))
      obtain ⟨od, J, _⟩ := J.look
      refine ⟨⟨C, _, _, J, rfl⟩, ?_⟩
      by_cases c3 : ds.length + 1 = n
      · rw [if_pos c3] at q2
        have rr : Reps G w2 (.ref a :: vs2) (.ins c' fs :: ds) := .cons (.ins hC (le2.f _ _ hF) (rf.mono le2)) rs2
        have hsp : spG G n g (.ref a :: vs2) H2 Q (WE W σ) := ⟨by rw [rr.length]; exact c3, w2, t2.st, _, ok2.fok, rr, postF_of ok2 q2⟩
        have hl := F.len _ _ _ _ hsp
        have rv : Vals (V.ref a :: vs2) (Value.ref a :: us) := .cons rfl r2
        have hl2 : (Value.ref a :: us).length = ps.length := by rw [← rv.length]; exact hl
        refine wpAny_call (PySem.W.kco_code (a := ⟨us, []⟩) I2.kIn J rfl hm.at_ hm.fn hfn (codeAny_mono (F.run X.A X.stack s2 H2 ⟨.ref a :: us, []⟩ (.ref a :: us) (.ref a :: vs2) Q (WE W σ) hr I2.env0 (by
          have := hb s2 (.ref a :: us) I2.kIn (by simpa using hl2)
          simpa using this) rv hsp) fun r s' hq => ?_))
        cases r with
        | error e => exact passAt tk σ pins H2 s2 e s' I2 hq
        | ok fl =>
          cases fl with
          | ret u => exact I2.after hq
          | next => exact False.elim hq
          | brk => exact False.elim hq
          | cont => exact False.elim hq
      · rw [if_neg c3] at q2
        exact q2.elim
    · rw [if_neg hc] at q1
      exact q1.elim
  | _ => exact q1.elim
/-! ### {} -/
def dNil : DD := fun s => .ok [] s
theorem pdod_nil {pos : Pos} : PDod G W X (.Dict [] [] pos) dNil :=
  pe_dnewK.imp fun σ H Q ⟨κ, w, s, ok, q⟩ => fun p hp => q w p [] _ (.refl _) (ok.fresh hp (.dK [])) (ok.apart hp) .nil
@[simp] theorem r_dNil (s : DS) : dNil s = .ok [] s := rfl
@[simp] theorem r_eCallI (c : String) (n : Nat) (g : DFn) (fo : DE) (fa : DA) (s : DS) : eCallI c n g fo fa s = (fo s).bind fun d s1 => match d with
  | .ins c' fs => if c' = c then (fa s1).bind fun ds s2 => if ds.length + 1 = n then lift s2 (g (.ins c' fs :: ds) s2.st) else .stuck else .stuck
  | _ => .stuck := rfl
end
end DL
set_option maxRecDepth 100000
set_option maxHeartbeats 4000000
set_option autoImplicit false
namespace DL
/-! ### readings, by simp -/
section
variable {s : DS} {st : List Cell} {sl : List Sl}
@[simp] theorem r_eC (d : D) (s : DS) : eC d s = .ok d s := rfl
@[simp] theorem r_eVar (i : Nat) (sl : List Sl) (st : List Cell) : eVar i ⟨sl, st⟩ = match sl[i]? with
  | some (.val d) => .ok d ⟨sl, st⟩
  | some (.ol xs) => .ok (.lst xs) ⟨sl.set i (.val (.lst xs)), st⟩
  | some (.od kvs) => .ok (.dic kvs) ⟨sl.set i (.val (.dic kvs)), st⟩
  | some (.oi c fs) => .ok (.ins c fs) ⟨sl.set i (.val (.ins c fs)), st⟩
  | _ => .stuck := rfl
@[simp] theorem r_eOp2 (o : D → D → Option D) (fa fb : DE) (s : DS) : eOp2 o fa fb s = (fa s).bind fun x s1 => (fb s1).bind fun y s2 => match o x y with | some d => .ok d s2 | none => .stuck := rfl
@[simp] theorem r_eOpX (o : DO2) (fa fb : DE) (s : DS) : eOpX o fa fb s = (fa s).bind fun x s1 => (fb s1).bind fun y s2 => o x y s2 := rfl
@[simp] theorem r_eB (f : DE) (s : DS) : eB f s = (f s).bind fun d s1 => match d with | .bl b => .ok b s1 | _ => .stuck := rfl
@[simp] theorem r_eTru (f : DE) (s : DS) : eTru f s = (f s).bind fun d s1 => match truD d with | some b => .ok b s1 | none => .stuck := rfl
@[simp] theorem r_bAnd (f g : DT) (s : DS) : bAnd f g s = (f s).bind fun b s1 => if b = true then g s1 else .ok false s1 := rfl
@[simp] theorem r_bOr (f g : DT) (s : DS) : bOr f g s = (f s).bind fun b s1 => if b = true then .ok true s1 else g s1 := rfl
@[simp] theorem r_bNot (f : DT) (s : DS) : bNot f s = (f s).bind fun b s1 => .ok (!b) s1 := rfl
@[simp] theorem r_bYes (s : DS) : bYes s = .ok true s := rfl
@[simp] theorem r_eAndT (f g : DE) (s : DS) : eAndT f g s = (f s).bind fun d s1 => match truD d with | some b => if b = true then g s1 else .ok d s1 | none => .stuck := rfl
@[simp] theorem r_eOrT (f g : DE) (s : DS) : eOrT f g s = (f s).bind fun d s1 => match truD d with | some b => if b = true then .ok d s1 else g s1 | none => .stuck := rfl
@[simp] theorem r_eNotT (f : DE) (s : DS) : eNotT f s = (f s).bind fun d s1 => match truD d with | some b => .ok (.bl (!b)) s1 | none => .stuck := rfl
@[simp] theorem r_eIf (c : DT) (f g : DE) (s : DS) : eIf c f g s = (c s).bind fun b s1 => if b = true then f s1 else g s1 := rfl
@[simp] theorem r_aNil (s : DS) : aNil s = .ok [] s := rfl
@[simp] theorem r_aCons (f : DE) (g : DA) (s : DS) : aCons f g s = (f s).bind fun d s1 => (g s1).bind fun ds s2 => .ok (d :: ds) s2 := rfl
@[simp] theorem r_eTup (g : DA) (s : DS) : eTup g s = (g s).bind fun ds s1 => if ds.length ≤ 1000 then .ok (.tup ds) s1 else .stuck := rfl
@[simp] theorem r_aMax (g : DA) (s : DS) : aMax g s = (g s).bind fun ds s1 => if ds.length ≤ 1000 then .ok ds s1 else .stuck := rfl
@[simp] theorem r_eFrz (f : DA) (s : DS) : eFrz f s = (f s).bind fun xs s1 => .ok (.lst xs) s1 := rfl
@[simp] theorem r_eFrzD (f : DD) (s : DS) : eFrzD f s = (f s).bind fun xs s1 => .ok (.dic xs) s1 := rfl
@[simp] theorem r_sPass (s : DS) : sPass s = .ok .nx s := rfl
@[simp] theorem r_sNever (s : DS) : sNever s = .stuck := rfl
@[simp] theorem r_sBreak (s : DS) : sBreak s = .ok .bk s := rfl
@[simp] theorem r_sCont (s : DS) : sCont s = .ok .ct s := rfl
@[simp] theorem r_sSeq (f g : DStm) (s : DS) : sSeq f g s = (f s).bind fun o s1 => match o with | .nx => g s1 | o => .ok o s1 := rfl
@[simp] theorem r_sExpr (f : DE) (s : DS) : sExpr f s = (f s).bind fun _ s1 => .ok .nx s1 := rfl
@[simp] theorem r_sRet (f : DE) (s : DS) : sRet f s = (f s).bind fun d s1 => .ok (.rt d) s1 := rfl
@[simp] theorem r_sIf (c : DT) (f g : DStm) (s : DS) : sIf c f g s = (c s).bind fun b s1 => if b = true then f s1 else g s1 := rfl
@[simp] theorem r_sSet (i : Nat) (f : DE) (s : DS) : sSet i f s = (f s).bind fun d s1 => .ok .nx ⟨s1.sl.set i (.val d), s1.st⟩ := rfl
@[simp] theorem r_sSetO (i : Nat) (f : DA) (s : DS) : sSetO i f s = (f s).bind fun xs s1 => .ok .nx ⟨s1.sl.set i (.ol xs), s1.st⟩ := rfl
@[simp] theorem r_gN (i : Nat) (d : D) (s : DS) : gN i d s = .ok () ⟨s.sl.set i (.val d), s.st⟩ := rfl
@[simp] theorem r_gsNil (s : DS) : gsNil [] s = .ok () s := rfl
@[simp] theorem r_gsCons (g : DG) (k : List D → DS → Res DS Unit) (d : D) (r : List D) (s : DS) : gsCons g k (d :: r) s = (g d s).bind fun _ s1 => k r s1 := rfl
@[simp] theorem r_gT (n : Nat) (g : List D → DS → Res DS Unit) (ds : List D) (s : DS) : gT n g (.tup ds) s = if ds.length = n then g ds s else .stuck := rfl
@[simp] theorem r_noX_ok {σ α : Type} (a : α) (t : σ) : noX (Res.ok a t) = .ok a t := rfl
@[simp] theorem r_noX_stuck {σ α : Type} : noX (Res.stuck : Res σ α) = .stuck := rfl
@[simp] theorem r_noX_exc {σ α : Type} (x : Xc) (t : σ) : noX (Res.exc x t : Res σ α) = .stuck := rfl
@[simp] theorem r_sAsgT (f : DE) (g : DG) (s : DS) : sAsgT f g s = (f s).bind fun d s1 => (noX (g d s1)).bind fun _ s2 => .ok .nx s2 := rfl
@[simp] theorem r_sPar (i j : Nat) (f : DA) (s : DS) : sPar i j f s = (f s).bind fun ds s1 => match ds with | [x, y] => .ok .nx ⟨(s1.sl.set i (.val x)).set j (.val y), s1.st⟩ | _ => .stuck := rfl
@[simp] theorem r_sPar3 (i j l : Nat) (f : DA) (s : DS) : sPar3 i j l f s = (f s).bind fun ds s1 => match ds with | [x, y, z] => .ok .nx ⟨((s1.sl.set i (.val x)).set j (.val y)).set l (.val z), s1.st⟩ | _ => .stuck := rfl
@[simp] theorem r_lo_nx (s : DS) (k : DS → Res DS Out) : loopOut (.ok .nx s) k = k s := rfl
@[simp] theorem r_lo_ct (s : DS) (k : DS → Res DS Out) : loopOut (.ok .ct s) k = k s := rfl
@[simp] theorem r_lo_bk (s : DS) (k : DS → Res DS Out) : loopOut (.ok .bk s) k = .ok .nx s := rfl
@[simp] theorem r_lo_rt (d : D) (s : DS) (k : DS → Res DS Out) : loopOut (.ok (.rt d) s) k = .ok (.rt d) s := rfl
@[simp] theorem r_lo_stuck (k : DS → Res DS Out) : loopOut .stuck k = .stuck := rfl
@[simp] theorem r_for_nil (g : DG) (b : DStm) (s : DS) : forL g b [] s = .ok .nx s := rfl
@[simp] theorem r_for_cons (g : DG) (b : DStm) (d : D) (r : List D) (s : DS) : forL g b (d :: r) s = (noX (g d s)).bind fun _ s1 => loopOut (b s1) (forL g b r) := rfl
@[simp] theorem r_sFor (it : DA) (g : DG) (b : DStm) (s : DS) : sFor it g b s = (it s).bind fun ds s1 => forL g b ds s1 := rfl
@[simp] theorem r_itSeq (f : DE) (s : DS) : itSeq f s = (f s).bind fun d s1 => match itemsD d with | some xs => .ok xs s1 | none => .stuck := rfl
@[simp] theorem r_itemsD_l (xs : List D) : itemsD (.lst xs) = some xs := rfl
@[simp] theorem r_itemsD_s (xs : List D) : itemsD (.scr xs) = some xs := rfl
@[simp] theorem r_itemsD_t (xs : List D) : itemsD (.tup xs) = some xs := rfl
@[simp] theorem r_itemsD_str (xs : Nm) : itemsD (.str xs) = some (xs.map fun c => .str [c]) := rfl
@[simp] theorem r_eCall (n : Nat) (g : DFn) (fa : DA) (s : DS) : eCall n g fa s = (fa s).bind fun ds s1 => if ds.length = n then lift s1 (g ds s1.st) else .stuck := rfl
@[simp] theorem r_lift_ok {α : Type} (s : DS) (d : α) (S : List Cell) : lift s (.ok d S) = .ok d ⟨s.sl, S⟩ := rfl
@[simp] theorem r_lift_exc {α : Type} (s : DS) (x : Xc) (S : List Cell) : lift s (.exc x S : Res (List Cell) α) = .exc x ⟨s.sl, S⟩ := rfl
@[simp] theorem r_lift_stuck {α : Type} (s : DS) : lift s (.stuck : Res (List Cell) α) = .stuck := rfl
@[simp] theorem r_eMake (c : String) (n : Nat) (g : DIn) (fa : DA) (s : DS) : eMake c n g fa s = (fa s).bind fun ds s1 => if ds.length = n then (lift s1 (g ds s1.st)).bind fun fs s2 => .ok (.ins c fs) s2 else .stuck := rfl
@[simp] theorem r_eMeth (c : String) (m : Nm) (n : Nat) (g : DFn) (fo : DE) (fa : DA) (s : DS) : eMeth c m n g fo fa s = (fo s).bind fun d s1 => match insOf d s1 with
  | some (c', fs) => if c' = c ∧ fs.lookup m = none then (fa s1).bind fun ds s2 => if ds.length + 1 = n then lift s2 (g (d :: ds) s2.st) else .stuck else .stuck
  | none => .stuck := rfl
@[simp] theorem r_eFld (cs : List String) (fn : Nm) (f : DE) (s : DS) : eFld cs fn f s = (f s).bind fun d s1 => match insOf d s1 with
  | some (c, fs) => if c ∈ cs then match fs.lookup fn with | some x => .ok x s1 | none => .stuck else .stuck
  | none => .stuck := rfl
@[simp] theorem r_insOf (c : String) (fs : List (Nm × D)) (s : DS) : insOf (.ins c fs) s = some (c, fs) := rfl
@[simp] theorem r_eInv (c : String) (g : DFn) (f : DE) (s : DS) : eInv c g f s = (f s).bind fun d s1 => match insOf d s1 with | some (c1, _) => if c1 = c then lift s1 (g [d] s1.st) else .stuck | none => .stuck := rfl
@[simp] theorem r_ownO (c c1 c2 : String) (f1 f2 : List (Nm × D)) (g : DFn) (s : DS) : ownO c g (.ins c1 f1) (.ins c2 f2) s = if c1 = c ∧ c2 = c then lift s (g [.ins c1 f1, .ins c2 f2] s.st) else .stuck := rfl
@[simp] theorem r_ownNe (c : String) (g : DFn) (x y : D) (s : DS) : ownNe c g x y s = negD (ownO c g x y s) := rfl
@[simp] theorem r_negD (b : Bool) (s : DS) : negD (.ok (.bl b) s) = .ok (.bl (!b)) s := rfl
@[simp] theorem r_eCB (o : List D → Option D) (fa : DA) (s : DS) : eCB o fa s = (fa s).bind fun ds s1 => match o ds with | some d => .ok d s1 | none => .stuck := rfl
@[simp] theorem r_eNeg (f : DE) (s : DS) : eNeg f s = (f s).bind fun d s1 => match d with | .int i => .ok (.int (-i)) s1 | _ => .stuck := rfl
@[simp] theorem r_eIx (fa fb : DE) (s : DS) : eIx fa fb s = (fa s).bind fun x s1 => (fb s1).bind fun y s2 => match y with | .int i => (match ixD x i with | some d => .ok d s2 | none => .stuck) | _ => .stuck := rfl
@[simp] theorem r_sFldO (c : String) (i : Nat) (fn : Nm) (f : DE) (s : DS) : sFldO c i fn f s = (f s).bind fun d s1 => match s1.sl[i]? with
  | some (.oi c' fs) => if c' = c ∧ fs.length < 1000 then .ok .nx ⟨s1.sl.set i (.oi c (putN fn d fs)), s1.st⟩ else .stuck
  | _ => .stuck := rfl
@[simp] theorem r_aList (fa : DA) (s : DS) : aList fa s = (fa s).bind fun ds s1 => match ds with | [d] => (match seqD d with | some xs => .ok xs s1 | none => .stuck) | _ => .stuck := rfl
@[simp] theorem r_seqD_l (xs : List D) : seqD (.lst xs) = some xs := rfl
@[simp] theorem r_seqD_s (xs : List D) : seqD (.scr xs) = some xs := rfl
@[simp] theorem r_seqD_t (xs : List D) : seqD (.tup xs) = some xs := rfl
@[simp] theorem r_oNone (s : DS) : oNone s = .ok none s := rfl
@[simp] theorem r_oSome (f : DE) (s : DS) : oSome f s = (f s).bind fun d s1 => match d with | .int i => .ok (some i) s1 | _ => .stuck := rfl
@[simp] theorem r_aSl (f : DE) (l h : DOp) (s : DS) : aSl f l h s = (f s).bind fun d s1 => (l s1).bind fun lo s2 => (h s2).bind fun hi s3 => match d with | .lst xs => .ok (cutD xs lo hi) s3 | .scr xs => .ok (cutD xs lo hi) s3 | _ => .stuck := rfl
@[simp] theorem r_eSlT (f : DE) (l h : DOp) (s : DS) : eSlT f l h s = (f s).bind fun d s1 => (l s1).bind fun lo s2 => (h s2).bind fun hi s3 => match d with | .tup xs => if (cutD xs lo hi).length ≠ xs.length then .ok (.tup (cutD xs lo hi)) s3 else .stuck | _ => .stuck := rfl
@[simp] theorem r_eSlA (f : DE) (l h : DOp) (s : DS) : eSlA f l h s = (f s).bind fun d s1 => (l s1).bind fun lo s2 => (h s2).bind fun hi s3 => match slD d lo hi with | some x => .ok x s3 | none => .stuck := rfl
@[simp] theorem r_slD_l (xs : List D) (lo hi : Option Int) : slD (.lst xs) lo hi = some (.lst (cutD xs lo hi)) := rfl
@[simp] theorem r_slD_s (xs : List D) (lo hi : Option Int) : slD (.scr xs) lo hi = some (.lst (cutD xs lo hi)) := rfl
@[simp] theorem r_slD_t (xs : List D) (lo hi : Option Int) : slD (.tup xs) lo hi = if (cutD xs lo hi).length ≠ xs.length then some (.tup (cutD xs lo hi)) else none := rfl
/-! data -/
@[simp] theorem r_iAdd (i j : Int) : iAdd (.int i) (.int j) = some (.int (i + j)) := rfl
@[simp] theorem r_dAdd (i j : Int) : dAdd (.int i) (.int j) = some (.int (i + j)) := rfl
@[simp] theorem r_iSub (i j : Int) : iSub (.int i) (.int j) = some (.int (i - j)) := rfl
@[simp] theorem r_dMul (i j : Int) : dMul (.int i) (.int j) = if mulOk i j = true then some (.int (i * j)) else none := rfl
@[simp] theorem r_iDiv (i j : Int) : iDiv (.int i) (.int j) = if divOk j = true then some (.int (i.fdiv j)) else none := rfl
@[simp] theorem r_iMod (i j : Int) : iMod (.int i) (.int j) = if j ≠ 0 then some (.int (i.fmod j)) else none := rfl
@[simp] theorem r_iPow (i j : Int) : iPow (.int i) (.int j) = if 0 ≤ j ∧ j ≤ 1000000 ∧ i.natAbs < 2 ^ 64 then some (.int (i ^ j.toNat)) else none := rfl
@[simp] theorem r_iLt (i j : Int) : iLt (.int i) (.int j) = some (.bl (decide (i < j))) := rfl
@[simp] theorem r_iLe (i j : Int) : iLe (.int i) (.int j) = some (.bl (decide (i ≤ j))) := rfl
@[simp] theorem r_iGt (i j : Int) : iGt (.int i) (.int j) = some (.bl (decide (j < i))) := rfl
@[simp] theorem r_iGe (i j : Int) : iGe (.int i) (.int j) = some (.bl (decide (j ≤ i))) := rfl
@[simp] theorem r_dEq_int (i j : Int) : dEq (.int i) (.int j) = some (.bl (decide (i = j))) := by
  show (if (true && true) = true then some (D.bl (i == j)) else none) = _
  simp [Bool.beq_eq_decide_eq]
@[simp] theorem r_dNe_int (i j : Int) : dNe (.int i) (.int j) = some (.bl (!decide (i = j))) := by
  show (if (true && true) = true then some (D.bl (!(i == j))) else none) = _
  simp [Bool.beq_eq_decide_eq]
@[simp] theorem r_dIsN (x : D) : dIsN x .non = some (.bl (isNonD x)) := rfl
@[simp] theorem r_dNotN (x : D) : dNotN x .non = some (.bl (!isNonD x)) := rfl
@[simp] theorem r_isNon : isNonD .non = true := rfl
@[simp] theorem r_isNon_t (xs : List D) : isNonD (.tup xs) = false := rfl
@[simp] theorem r_isNon_i (i : Int) : isNonD (.int i) = false := rfl
@[simp] theorem r_isNon_n (c : String) (fs : List (Nm × D)) : isNonD (.ins c fs) = false := rfl
@[simp] theorem r_isNon_l (xs : List D) : isNonD (.lst xs) = false := rfl
@[simp] theorem r_tru_bl (b : Bool) : truD (.bl b) = some b := rfl
@[simp] theorem r_tru_non : truD .non = some false := rfl
@[simp] theorem r_tru_int (i : Int) : truD (.int i) = some (i != 0) := rfl
@[simp] theorem r_tru_lst (xs : List D) : truD (.lst xs) = some (!xs.isEmpty) := rfl
@[simp] theorem r_tru_tup (xs : List D) : truD (.tup xs) = some (!xs.isEmpty) := rfl
@[simp] theorem r_bInt (i : Int) : bInt [.int i] = some (.int i) := rfl
@[simp] theorem r_bInt_b (b : Bool) : bInt [.bl b] = some (.int (if b then 1 else 0)) := rfl
@[simp] theorem r_bLen_l (xs : List D) : bLen [.lst xs] = some (.int xs.length) := rfl
@[simp] theorem r_bLen_s (xs : List D) : bLen [.scr xs] = some (.int xs.length) := rfl
@[simp] theorem r_bLen_t (xs : List D) : bLen [.tup xs] = some (.int xs.length) := rfl
@[simp] theorem r_bAbs (i : Int) : bAbs [.int i] = some (.int (if i < 0 then -i else i)) := rfl
@[simp] theorem r_bTup_l (xs : List D) : bTup [.lst xs] = some (.tup xs) := rfl
@[simp] theorem r_bTup_t (xs : List D) : bTup [.tup xs] = some (.tup xs) := rfl
@[simp] theorem r_bMax (i j : Int) : bMax2 [.int i, .int j] = some (.int (if j > i then j else i)) := rfl
@[simp] theorem r_bMin (i j : Int) : bMin2 [.int i, .int j] = some (.int (if j < i then j else i)) := rfl
@[simp] theorem r_ix_t (xs : List D) (i : Int) : ixD (.tup xs) i = L2.atI xs i := rfl
@[simp] theorem r_ix_l (xs : List D) (i : Int) : ixD (.lst xs) i = L2.atI xs i := rfl
@[simp] theorem r_ix_s (xs : List D) (i : Int) : ixD (.scr xs) i = L2.atI xs i := rfl
@[simp] theorem r_at0 {α : Type} (x : α) (r : List α) : L2.atI (x :: r) 0 = some x := L2.atI_nat (j := 0) rfl
@[simp] theorem r_at1 {α : Type} (x y : α) (r : List α) : L2.atI (x :: y :: r) 1 = some y := L2.atI_nat (j := 1) rfl
@[simp] theorem r_at2 {α : Type} (x y z : α) (r : List α) : L2.atI (x :: y :: z :: r) 2 = some z := L2.atI_nat (j := 2) rfl
@[simp] theorem r_at3 {α : Type} (x y z u : α) (r : List α) : L2.atI (x :: y :: z :: u :: r) 3 = some u := L2.atI_nat (j := 3) rfl
/-! isinstance -/
theorem mem_ty : ("int" ∈ tyNames) = True ∧ ("bool" ∈ tyNames) = True ∧ ("str" ∈ tyNames) = True ∧ ("list" ∈ tyNames) = True ∧ ("tuple" ∈ tyNames) = True ∧ ("dict" ∈ tyNames) = True ∧ ("NoneType" ∈ tyNames) = True := by simp [tyNames]
@[simp] theorem r_isi_int_int (cs : List String) (i : Int) : bIsi cs [.int i, .ty "int"] = some (.bl true) := by simp [bIsi, tyOfD, tyD, isOne, mem_ty, isTy]
@[simp] theorem r_isi_int_bool (cs : List String) (i : Int) : bIsi cs [.int i, .ty "bool"] = some (.bl false) := by simp [bIsi, tyOfD, tyD, isOne, mem_ty, isTy]
@[simp] theorem r_isi_ins_cls (cs : List String) (c : String) (fs : List (Nm × D)) (c' : String) (h : c ∈ cs := by simp) (h' : c' ∈ cs := by simp) : bIsi cs [.ins c fs, .cls c'] = some (.bl (c == c')) := by simp [bIsi, tyOfD, isOne, h, h']
@[simp] theorem r_isi_int_cls (cs : List String) (i : Int) (c' : String) (h' : c' ∈ cs := by simp) : bIsi cs [.int i, .cls c'] = some (.bl false) := by simp [bIsi, tyOfD, tyD, isOne, h', mem_ty]
@[simp] theorem r_isi_non_cls (cs : List String) (c' : String) (h' : c' ∈ cs := by simp) : bIsi cs [.non, .cls c'] = some (.bl false) := by simp [bIsi, tyOfD, tyD, isOne, h', mem_ty]
end
/-! ### bits -/
class Bd (x : Int) (n : outParam Nat) : Prop where
  lt : x.natAbs < 2 ^ n
theorem Bd.le {x : Int} {n m : Nat} (h : Bd x n) (hnm : n ≤ m) : Bd x m := ⟨Nat.lt_of_lt_of_le h.lt (Nat.pow_le_pow_right (by decide) hnm)⟩
instance bd_add {x y : Int} {m n : Nat} [h : Bd x m] [k : Bd y n] : Bd (x + y) (m + n + 1) := ⟨by
  have h1 := h.lt
  have h2 := k.lt
  have h3 : (2 : Nat) ^ m ≤ 2 ^ (m + n) := Nat.pow_le_pow_right (by decide) (by omega)
  have h4 : (2 : Nat) ^ n ≤ 2 ^ (m + n) := Nat.pow_le_pow_right (by decide) (by omega)
  have h5 : (2 : Nat) ^ (m + n + 1) = 2 ^ (m + n) * 2 := Nat.pow_succ ..
  omega⟩
instance bd_neg {x : Int} {m : Nat} [h : Bd x m] : Bd (-x) m := ⟨by rw [Int.natAbs_neg]; exact h.lt⟩
instance bd_sub {x y : Int} {m n : Nat} [h : Bd x m] [k : Bd y n] : Bd (x - y) (m + n + 1) := by
  rw [Int.sub_eq_add_neg]; exact bd_add
instance bd_mul {x y : Int} {m n : Nat} [h : Bd x m] [k : Bd y n] : Bd (x * y) (m + n) := ⟨by
  rw [Int.natAbs_mul, Nat.pow_add]
  exact Nat.mul_lt_mul'' h.lt k.lt⟩
instance bd_0 : Bd 0 0 := ⟨by decide⟩
instance bd_1 : Bd 1 1 := ⟨by decide⟩
theorem log2_lt {x : Int} {n : Nat} (h : Bd x n) : x.natAbs.log2 ≤ n := by
  have := h.lt
  by_cases e : x.natAbs = 0
  · rw [e]; simp
  · exact Nat.le_of_lt ((Nat.log2_lt e).mpr this)
theorem mulOk_of {x y : Int} {m n : Nat} (h : Bd x m) (k : Bd y n) (hl : m + n < 100000000) : mulOk x y = true := by
  unfold mulOk
  have h1 := log2_lt h
  have h2 := log2_lt k
  exact decide_eq_true (by omega)
@[simp] theorem mulOk_bd {x y : Int} {m n : Nat} [h : Bd x m] [k : Bd y n] (hl : m + n < 100000000) : mulOk x y = true := mulOk_of h k hl
theorem divOk_of {y : Int} {n : Nat} (k : Bd y n) (h0 : y ≠ 0) (hl : n < 9000) : divOk y = true := by
  unfold divOk
  exact decide_eq_true ⟨h0, Nat.lt_of_le_of_lt (log2_lt k) hl⟩
@[simp] theorem divOk_bd {y : Int} {n : Nat} [k : Bd y n] (h0 : y ≠ 0) (hl : n < 9000) : divOk y = true := divOk_of k h0 hl
@[simp] theorem divOk_2 : divOk 2 = true := by decide
end DL
set_option maxRecDepth 100000
set_option maxHeartbeats 4000000
set_option autoImplicit false
namespace DL
@[simp] theorem r_eDGet (fo fi : DE) (s : DS) : eDGet fo fi s = (fo s).bind fun d s1 => (fi s1).bind fun k s2 => match dictOf d s2, kOf k with
  | some kvs, some k => match dLook kvs k with
    | some x => .ok x s2
    | none => .stuck
  | _, _ => .stuck := rfl
@[simp] theorem r_dictOf_c (n : Nat) (sl : List Sl) (st : List Cell) : dictOf (.cell n) ⟨sl, st⟩ = match st[n]? with | some (.dic kvs) => some kvs | _ => none := rfl
@[simp] theorem r_dictOf_d (kvs : List (DK × D)) (s : DS) : dictOf (.dic kvs) s = some kvs := rfl
@[simp] theorem r_kOf_s (l : List Nat) : kOf (.str l) = some (.s l) := rfl
@[simp] theorem r_kOf_i (l : Int) : kOf (.int l) = some (.i l) := rfl
@[simp] theorem r_sDPutC (fo fi fv : DE) (s : DS) : sDPutC fo fi fv s = (fv s).bind fun x s1 => (fo s1).bind fun d s2 => (fi s2).bind fun k s3 => match d, kOf k with
  | .cell n, some k => match s3.st[n]? with
    | some (.dic kvs) => if kvs.length < 1000000 ∧ keysNd kvs = true then .ok .nx ⟨s3.sl, s3.st.set n (.dic (dPut kvs k x))⟩ else .stuck
    | _ => .stuck
  | _, _ => .stuck := rfl
@[simp] theorem r_eCellD (f : DD) (s : DS) : eCellD f s = (f s).bind fun xs s1 => .ok (.cell s1.st.length) ⟨s1.sl, s1.st ++ [.dic xs]⟩ := rfl
@[simp] theorem r_dDisp (fs : List (DE × DE)) (s : DS) : dDisp fs s = (pairsD fs s).bind fun ps s1 => match keyed ps with
  | some kvs => if kvs.length ≤ 15 ∧ keysNd kvs = true then .ok kvs s1 else .stuck
  | none => .stuck := rfl
@[simp] theorem r_pairs_nil (s : DS) : pairsD [] s = .ok [] s := rfl
@[simp] theorem r_pairs_cons (fk fv : DE) (r : List (DE × DE)) (s : DS) : pairsD ((fk, fv) :: r) s = (fk s).bind fun k s1 => (fv s1).bind fun x s2 => (pairsD r s2).bind fun ps s3 => .ok ((k, x) :: ps) s3 := rfl
@[simp] theorem r_keyed_nil : keyed [] = some [] := rfl
@[simp] theorem r_keyed_cons (k x : D) (r : List (D × D)) : keyed ((k, x) :: r) = match kOf k, keyed r with
    | some k, some r => some ((k, x) :: r)
    | _, _ => none := rfl
@[simp] theorem r_itR1 (f : DA) (s : DS) : itR1 f s = (f s).bind fun ds s1 => match ds with
  | [.int j] => if -(2 ^ 62) ≤ j ∧ j < 2 ^ 62 then .ok (rngL 0 j.toNat) s1 else .stuck
  | _ => .stuck := rfl
@[simp] theorem r_itEnum_l (f : DA) (s : DS) : itEnum f s = (f s).bind fun ds s1 => match ds with
  | [.lst xs] => .ok (enumL xs) s1
  | [.scr xs] => .ok (enumL xs) s1
  | _ => .stuck := rfl
@[simp] theorem r_itZip (f : DA) (s : DS) : itZip f s = (f s).bind fun ds s1 => match ds with
  | [.lst xs, .lst ys] => .ok (zipL xs ys) s1
  | [.tup xs, .tup ys] => .ok (zipL xs ys) s1
  | _ => .stuck := rfl
@[simp] theorem r_aLc (vs : List Nat) (it : DA) (g : DG) (t : DT) (e : DE) (s : DS) : aLc vs it g t e s = (it s).bind fun items s1 => (noX (lcL vs g t e items [] s1)).bind fun ys s2 => .ok ys ⟨unwipe vs s1.sl (wipeD vs s2.sl), s2.st⟩ := rfl
@[simp] theorem r_lc_nil (vs : List Nat) (g : DG) (t : DT) (e : DE) (acc : List D) (s : DS) : lcL vs g t e [] acc s = .ok acc s := rfl
@[simp] theorem r_lc_cons (vs : List Nat) (g : DG) (t : DT) (e : DE) (d : D) (r acc : List D) (s : DS) : lcL vs g t e (d :: r) acc s = (noX (g d (wipeS vs s))).bind fun _ s1 => (noX (t s1)).bind fun b s2 => if b = true then (noX (e s2)).bind fun y s3 => if acc.length < 1000000 then lcL vs g t e r (acc ++ [y]) s3 else .stuck
    else lcL vs g t e r acc s2 := rfl
@[simp] theorem r_wipe_nil (l : List Sl) : wipeD [] l = l := rfl
@[simp] theorem r_wipe_cons (v : Nat) (vs : List Nat) (l : List Sl) : wipeD (v :: vs) l = (wipeD vs l).set v .un := rfl
@[simp] theorem r_wipeS (vs : List Nat) (s : DS) : wipeS vs s = ⟨wipeD vs s.sl, s.st⟩ := rfl
@[simp] theorem r_unw_nil (o l : List Sl) : unwipe [] o l = l := rfl
@[simp] theorem r_unw_cons (v : Nat) (vs : List Nat) (o l : List Sl) : unwipe (v :: vs) o l = (unwipe vs o l).set v (match o[v]? with | some (.val d) => .val d | _ => .un) := rfl
@[simp] theorem r_sApp (i : Nat) (fa : DA) (s : DS) : sApp i fa s = match s.sl[i]? with
  | some (.ol _) => (fa s).bind fun ds s1 => match ds, s1.sl[i]? with
    | [d], some (.ol xs) => if xs.length < 1000000 then .ok .nx ⟨s1.sl.set i (.ol (xs ++ [d])), s1.st⟩ else .stuck
    | _, _ => .stuck
  | _ => .stuck := rfl
/-! data equality -/
open PySem in
theorem pys_ints (ns : List Int) : toPys (ns.map D.int) = some (ns.map PyData.int) := by
  induction ns with
  | nil => rfl
  | cons a r ih => simp [toPys, toPy, ih]
open PySem in
theorem can_ints (ns : List Int) : PyData.canLayAll0 (ns.map PyData.int) = true := by
  induction ns with
  | nil => rfl
  | cons a r ih => simp [PyData.canLayAll0, PyData.canLay0, ih]
open PySem in
theorem dep_ints (ns : List Int) : PyData.depthAll (ns.map PyData.int) = 0 := by
  induction ns with
  | nil => rfl
  | cons a r ih => simp [PyData.depthAll, PyData.depth, ih]
open PySem in
@[simp] theorem r_ne_nil (ns : List Int) : dNe (.lst (ns.map D.int)) (.lst []) = some (.bl (!ns.isEmpty)) := by
  cases ns with
  | nil => simp [dNe, toPy, toPys, SeqAt.shaped, PyData.canLay0, PyData.depth, PyData.depthAll, PyData.eqv, PyData.eqvAll, PyData.canLayAll0]
  | cons a r => simp [dNe, toPy, toPys, pys_ints, can_ints, dep_ints, SeqAt.shaped, PyData.canLay0, PyData.depth, PyData.depthAll, PyData.eqv, PyData.eqvAll, PyData.canLayAll0]
@[simp] theorem r_ne_nil0 : dNe (.lst []) (.lst []) = some (.bl false) := r_ne_nil []
/-! the draw pen -/
abbrev penD (cs : List Int) (c l : Int) : List (DK × D) := [(.s [99, 101, 108, 108, 115], .lst (cs.map D.int)), (.s [99, 111, 117, 110, 116], .int c), (.s [108, 101, 102, 116], .int l)]
def Pen (n : Nat) (S : List Cell) : Prop := ∃ cs c l, S = [.dic (penD cs c l)] ∧ 0 ≤ c ∧ c ≤ n ∧ 0 ≤ l
theorem Pen.mono {n m : Nat} {S : List Cell} (h : Pen n S) (hm : n ≤ m) : Pen m S := by
  obtain ⟨cs, c, l, h1, h2, h3, h4⟩ := h
  exact ⟨cs, c, l, h1, h2, by omega, h4⟩
theorem ix_mod (cs : List Int) (c : Int) (h : cs ≠ []) : ∃ x : Int, L2.atI (cs.map D.int) (c.fmod cs.length) = some (.int x) := by
  have hp : (0 : Int) < cs.length := by
    cases cs with
    | nil => exact absurd rfl h
    | cons a r => simp
  have h1 : 0 ≤ c.fmod cs.length := Int.fmod_nonneg_of_pos _ hp
  have h2 : c.fmod cs.length < cs.length := Int.fmod_lt_of_pos _ hp
  obtain ⟨k, hk⟩ := Int.eq_ofNat_of_zero_le h1
  rw [hk] at h2 ⊢
  have h3 : k < cs.length := by omega
  refine ⟨cs[k], ?_⟩
  have : (cs.map D.int)[k]? = some (D.int cs[k]) := by simp [h3]
  exact L2.atI_nat this
theorem Bd.of_range {x : Int} {m n : Nat} (h0 : 0 ≤ x) (h1 : x < m) (h : m ≤ 2 ^ n) : Bd x n := ⟨by omega⟩
end DL
set_option maxRecDepth 100000
set_option maxHeartbeats 4000000
set_option autoImplicit false
namespace DL
/-! more bounds -/
instance bd_half {x : Int} {n : Nat} [h : Bd x n] : Bd (x.fdiv 2) n := ⟨by
  have := h.lt
  rw [Int.fdiv_eq_ediv_of_nonneg _ (by decide)]
  omega⟩
instance bd_abs {x : Int} {n : Nat} [h : Bd x n] : Bd (if x < 0 then -x else x) n := ⟨by
  have := h.lt
  split
  · rw [Int.natAbs_neg]; exact this
  · exact this⟩
instance bd_ite {c : Prop} [Decidable c] {x y : Int} {m n : Nat} [h : Bd x m] [k : Bd y n] : Bd (if c then x else y) (m + n) := ⟨by
  split
  · exact Nat.lt_of_lt_of_le h.lt (Nat.pow_le_pow_right (by decide) (by omega))
  · exact Nat.lt_of_lt_of_le k.lt (Nat.pow_le_pow_right (by decide) (by omega))⟩
theorem Bd.of_le {x : Int} {y : Int} {n : Nat} (k : Bd y n) (h0 : 0 ≤ x) (h : x ≤ y) : Bd x n := ⟨by have := k.lt; omega⟩
theorem fdiv_le_abs (x y : Int) : (x.fdiv y).natAbs ≤ x.natAbs + 1 := by
  by_cases hy : y = 0
  · subst hy; simp
  have key : ∀ x y : Int, 0 < y → (x.fdiv y).natAbs ≤ x.natAbs + 1 := fun x y hy => by
    have h1 : y * x.fdiv y + x.fmod y = x := Int.mul_fdiv_add_fmod x y
    have h2 : 0 ≤ x.fmod y := Int.fmod_nonneg_of_pos _ hy
    have h3 : x.fmod y < y := Int.fmod_lt_of_pos _ hy
    generalize x.fdiv y = q at *
    by_cases c : 0 ≤ q
    · have := Int.mul_nonneg (show 0 ≤ y - 1 by omega) c
      rw [Int.sub_mul] at this
      omega
    · have := Int.mul_nonneg (show 0 ≤ y - 1 by omega) (show 0 ≤ -q - 1 by omega)
      rw [show (y - 1) * (-q - 1) = -(y * q) - y + q + 1 by grind] at this
      omega
  by_cases c : 0 < y
  · exact key x y c
  · have h := key (-x) (-y) (by omega)
    rw [show (-x).fdiv (-y) = x.fdiv y from Int.neg_fdiv_neg x y, Int.natAbs_neg] at h
    exact h
instance bd_fdiv {x y : Int} {n : Nat} [h : Bd x n] : Bd (x.fdiv y) (n + 1) := ⟨by
  have h1 := h.lt
  have h2 := fdiv_le_abs x y
  have h3 : (2 : Nat) ^ (n + 1) = 2 ^ n * 2 := Nat.pow_succ ..
  have h4 : 1 ≤ (2 : Nat) ^ n := Nat.one_le_two_pow
  omega⟩
/-! readings of DLu -/
@[simp] theorem r_eBits (f : DE) (s : DS) : eBits f s = (f s).bind fun d s1 => match d with | .int i => .ok (.int (PySem.Builtin.Int.intBits i : Nat)) s1 | _ => .stuck := rfl
@[simp] theorem r_sRaise (c : String) (f : Nm) (fa : DA) (s : DS) : sRaise c f fa s = (fa s).bind fun ds s1 => match ds with | [d] => .exc ⟨c, [(f, d)]⟩ s1 | _ => .stuck := rfl
@[simp] theorem r_iShl (i j : Int) : iShl (.int i) (.int j) = if 0 ≤ j ∧ j ≤ 1000000 ∧ i.natAbs < 2 ^ 64 then some (.int (i * 2 ^ j.toNat)) else none := rfl
@[simp] theorem r_inS (neg : Bool) (c : Nat) (l : Nm) : dIn neg (.str [c]) (.str l) = some (.bl (if neg then !decide (c ∈ l) else decide (c ∈ l))) := rfl
@[simp] theorem r_lo_exc (x : Xc) (s : DS) (k : DS → Res DS Out) : loopOut (.exc x s) k = .exc x s := rfl
theorem inF_ints (neg : Bool) (i : Int) (ns : List Int) : dIn neg (.int i) (.tup (ns.map D.int)) = some (.bl (if neg then !decide (i ∈ ns) else decide (i ∈ ns))) := by
  have h1 : (ns.map D.int).all flD = true := by simp [flD]
  have h2 : (ns.map D.int).any (fun z => eqFl z (.int i)) = decide (i ∈ ns) := by
    induction ns with
    | nil => rfl
    | cons a r ih =>
      simp only [List.map_cons, List.any_cons, ih (by simp [flD])]
      show ((a == i) || decide (i ∈ r)) = _
      by_cases e : a = i
      · subst e; simp
      · simp [e, Ne.symm e]
  simp [dIn, inS, inF, h1, h2, flD]
theorem inF_intsL (neg : Bool) (i : Int) (ns : List Int) : dIn neg (.int i) (.lst (ns.map D.int)) = some (.bl (if neg then !decide (i ∈ ns) else decide (i ∈ ns))) := by
  have h1 : (ns.map D.int).all flD = true := by simp [flD]
  have h2 : (ns.map D.int).any (fun z => eqFl z (.int i)) = decide (i ∈ ns) := by
    induction ns with
    | nil => rfl
    | cons a r ih =>
      simp only [List.map_cons, List.any_cons, ih (by simp [flD])]
      show ((a == i) || decide (i ∈ r)) = _
      by_cases e : a = i
      · subst e; simp
      · simp [e, Ne.symm e]
  simp [dIn, inS, inF, h1, h2, flD]
/-! + and * of sequences -/
@[simp] theorem r_dAdd_ll (xs ys : List D) : dAdd (.lst xs) (.lst ys) = lAdd (.lst xs) (.lst ys) := rfl
@[simp] theorem r_lAdd_ll (xs ys : List D) : lAdd (.lst xs) (.lst ys) = if xs.length + ys.length ≤ 1000000 then some (.lst (xs ++ ys)) else none := rfl
/-! loops -/
theorem forL_inv {g : DG} {b : DStm} {items : List D} (P : Nat → DS → Prop) (step : ∀ (i : Nat) (d : D) (s : DS), items[i]? = some d → P i s → ∃ s1 s2, g d s = .ok () s1 ∧ (b s1 = .ok .nx s2 ∨ b s1 = .ok .ct s2) ∧ P (i + 1) s2) :
    ∀ (l : List D) (i : Nat) (s : DS), (∀ j, l[j]? = items[i + j]?) → P i s → ∃ s', forL g b l s = .ok .nx s' ∧ P (i + l.length) s'
  | [], i, s, h, hp => ⟨s, rfl, hp⟩
  | d :: l, i, s, h, hp => by
    have h0 := h 0
    simp only [List.getElem?_cons_zero, Nat.add_zero] at h0
    obtain ⟨s1, s2, e1, e2, hp2⟩ := step i d s h0.symm hp
    obtain ⟨s', e3, hp3⟩ := forL_inv P step l (i + 1) s2 (fun j => by
      have := h (j + 1)
      rw [List.getElem?_cons_succ] at this
      rw [this]
      congr 1
      omega) hp2
    refine ⟨s', ?_, by rw [show i + (d :: l).length = i + 1 + l.length by simp; omega]; exact hp3⟩
    rw [r_for_cons, e1]
    rcases e2 with e2 | e2 <;> simp [e2, e3]
theorem for_inv {g : DG} {b : DStm} {items : List D} {s : DS} (P : Nat → DS → Prop) (h0 : P 0 s) (step : ∀ (i : Nat) (d : D) (s : DS), items[i]? = some d → P i s → ∃ s1 s2, g d s = .ok () s1 ∧ (b s1 = .ok .nx s2 ∨ b s1 = .ok .ct s2) ∧ P (i + 1) s2) :
    ∃ s', forL g b items s = .ok .nx s' ∧ P items.length s' := by
  obtain ⟨s', e, hp⟩ := forL_inv P step items 0 s (fun j => by simp) h0
  exact ⟨s', e, by simpa using hp⟩
@[simp] theorem rngL_len (lo : Int) (n : Nat) : (rngL lo n).length = n := by simp [rngL]
theorem rngL_get {lo : Int} {n i : Nat} {d : D} (h : (rngL lo n)[i]? = some d) : i < n ∧ d = .int (lo + i) := by
  unfold rngL at h
  rw [List.getElem?_map] at h
  cases e : (List.range n)[i]? with
  | none => rw [e] at h; cases h
  | some k =>
    rw [e] at h
    cases h
    have hi : i < n := by simpa using (List.getElem?_eq_some_iff.mp e).1
    rw [List.getElem?_range hi] at e
    cases e
    exact ⟨hi, rfl⟩
end DL
set_option maxRecDepth 100000
set_option maxHeartbeats 4000000
set_option autoImplicit false
namespace DL
open PySem
/-! ### == of plain data, by data alone -/
mutual
def plD : D → Bool
  | .non => true
  | .bl _ => true
  | .int _ => true
  | .str l => l.all (· < 0x110000)
  | .tup xs => plDs xs
  | .lst xs => plDs xs
  | .scr xs => plDs xs
  | _ => false
def plDs : List D → Bool
  | [] => true
  | x :: r => plD x && plDs r
end
mutual
def dpD : D → Nat
  | .tup xs => dpDs xs + 1
  | .lst xs => dpDs xs + 1
  | .scr xs => dpDs xs + 1
  | _ => 0
def dpDs : List D → Nat
  | [] => 0
  | x :: r => max (dpD x) (dpDs r)
end
mutual
def eqPl : D → D → Bool
  | .non, .non => true
  | .bl a, .bl b => a == b
  | .bl a, .int j => decide ((if a then (1 : Int) else 0) = j)
  | .int i, .bl b => decide (i = if b then (1 : Int) else 0)
  | .int i, .int j => decide (i = j)
  | .str a, .str b => decide (a = b)
  | .tup xs, .tup ys => eqPls xs ys
  | .lst xs, .lst ys => eqPls xs ys
  | .scr xs, .lst ys => eqPls xs ys
  | .lst xs, .scr ys => eqPls xs ys
  | .scr xs, .scr ys => eqPls xs ys
  | _, _ => false
def eqPls : List D → List D → Bool
  | [], [] => true
  | x :: xs, y :: ys => eqPl x y && eqPls xs ys
  | _, _ => false
end
theorem strOk_nm (l : Nm) : PyData.strOk (nm l) = l.all (· < 0x110000) := by simp [PyData.strOk, nm]
mutual
theorem toPy_pl : ∀ d : D, plD d = true → ∃ p, toPy d = some p ∧ p.canLay0 = true ∧ p.depth = dpD d
  | .non, _ => ⟨.none, rfl, rfl, rfl⟩
  | .bl b, _ => ⟨.bool b, rfl, rfl, rfl⟩
  | .int i, _ => ⟨.int i, rfl, rfl, rfl⟩
  | .str l, h => ⟨.str (nm l), rfl, by simp only [plD] at h; simp only [PyData.canLay0, strOk_nm]; exact h, rfl⟩
  | .tup xs, h => by
    obtain ⟨ps, h1, h2, h3⟩ := toPys_pl xs h
    exact ⟨.tuple ps, by simp [toPy, h1], h2, by simp [PyData.depth, dpD, h3]⟩
  | .lst xs, h => by
    obtain ⟨ps, h1, h2, h3⟩ := toPys_pl xs h
    exact ⟨.list ps, by simp [toPy, h1], h2, by simp [PyData.depth, dpD, h3]⟩
  | .scr xs, h => by
    obtain ⟨ps, h1, h2, h3⟩ := toPys_pl xs h
    exact ⟨.list ps, by simp [toPy, h1], h2, by simp [PyData.depth, dpD, h3]⟩
  | .dic _, h => by simp [plD] at h
  | .ins _ _, h => by simp [plD] at h
  | .cell _, h => by simp [plD] at h
  | .cls _, h => by simp [plD] at h
  | .ty _, h => by simp [plD] at h
  | .fn _, h => by simp [plD] at h
  | .lam _, h => by simp [plD] at h
theorem toPys_pl : ∀ ds : List D, plDs ds = true → ∃ ps, toPys ds = some ps ∧ PyData.canLayAll0 ps = true ∧ PyData.depthAll ps = dpDs ds
  | [], _ => ⟨[], rfl, rfl, rfl⟩
  | d :: r, h => by
    simp only [plDs, Bool.and_eq_true] at h
    obtain ⟨p, h1, h2, h3⟩ := toPy_pl d h.1
    obtain ⟨ps, h4, h5, h6⟩ := toPys_pl r h.2
    exact ⟨p :: ps, by simp [toPys, h1, h4], by simp [PyData.canLayAll0, h2, h5], by simp [PyData.depthAll, dpDs, h3, h6]⟩
end
theorem nm_beq (a b : Nm) : (nm a == nm b) = decide (a = b) := by
  by_cases e : a = b
  · subst e; simp
  · rw [beq_eq_false_iff_ne.mpr fun z => e (nm_inj z)]; simp [e]
theorem dec_beq (a b : Int) : (a == b) = decide (a = b) := by simp [Bool.beq_eq_decide_eq]
mutual
theorem eqv_pl : ∀ (x y : D) (p q : PyData), toPy x = some p → toPy y = some q → PyData.eqv p q = eqPl x y := by
  intro x y p q h1 h2
  cases x <;> cases y <;> first
    | (simp [toPy] at h1; done)
    | (simp [toPy] at h2; done)
    | (simp only [toPy, Option.some.injEq] at h1 h2; subst h1; subst h2; first | rfl | exact dec_beq _ _ | exact nm_beq _ _ | (simp [PyData.eqv, eqPl]; done))
    | (simp only [toPy, Option.map_eq_some_iff, Option.some.injEq] at h1 h2
       first
         | (obtain ⟨ps, e1, rfl⟩ := h1; obtain ⟨qs, e2, rfl⟩ := h2; first | exact eqvs_pl _ _ _ _ e1 e2 | rfl)
         | (obtain ⟨ps, e1, rfl⟩ := h1; subst h2; rfl)
         | (obtain ⟨qs, e2, rfl⟩ := h2; subst h1; rfl))
theorem eqvs_pl : ∀ (xs ys : List D) (ps qs : List PyData), toPys xs = some ps → toPys ys = some qs → PyData.eqvAll ps qs = eqPls xs ys
  | [], [], ps, qs, h1, h2 => by cases h1; cases h2; rfl
  | [], y :: ys, ps, qs, h1, h2 => by
    cases h1
    simp only [toPys, Option.bind_eq_some_iff, Option.map_eq_some_iff] at h2
    obtain ⟨p, _, q, _, rfl⟩ := h2
    rfl
  | x :: xs, [], ps, qs, h1, h2 => by
    cases h2
    simp only [toPys, Option.bind_eq_some_iff, Option.map_eq_some_iff] at h1
    obtain ⟨p, _, q, _, rfl⟩ := h1
    rfl
  | x :: xs, y :: ys, ps, qs, h1, h2 => by
    simp only [toPys, Option.bind_eq_some_iff, Option.map_eq_some_iff] at h1 h2
    obtain ⟨p, e1, q, e2, rfl⟩ := h1
    obtain ⟨p', e3, q', e4, rfl⟩ := h2
    simp only [PyData.eqvAll, eqPls, eqv_pl x y p p' e1 e3, eqvs_pl xs ys q q' e2 e4]
end
def plOk (d : D) : Prop := plD d = true ∧ dpD d ≤ 64
theorem dEq_pl (x y : D) (h : plOk x) (k : plOk y) : dEq x y = some (.bl (eqPl x y)) := by
  obtain ⟨p, a1, a2, a3⟩ := toPy_pl x h.1
  obtain ⟨q, b1, b2, b3⟩ := toPy_pl y k.1
  have s1 : SeqAt.shaped p = true := by
    unfold SeqAt.shaped
    rw [a2, a3]
    simp [h.2]
  have s2 : SeqAt.shaped q = true := by
    unfold SeqAt.shaped
    rw [b2, b3]
    simp [k.2]
  unfold dEq
  rw [a1, b1]
  simp only [s1, s2, Bool.and_self, if_true, eqv_pl x y p q a1 b1]
theorem dNe_pl (x y : D) (h : plOk x) (k : plOk y) : dNe x y = some (.bl (!eqPl x y)) := by
  obtain ⟨p, a1, a2, a3⟩ := toPy_pl x h.1
  obtain ⟨q, b1, b2, b3⟩ := toPy_pl y k.1
  have s1 : SeqAt.shaped p = true := by
    unfold SeqAt.shaped
    rw [a2, a3]
    simp [h.2]
  have s2 : SeqAt.shaped q = true := by
    unfold SeqAt.shaped
    rw [b2, b3]
    simp [k.2]
  unfold dNe
  rw [a1, b1]
  simp only [s1, s2, Bool.and_self, if_true, eqv_pl x y p q a1 b1]
@[simp] theorem pl_non : plOk .non := ⟨rfl, by simp [dpD]⟩
@[simp] theorem pl_bl (b : Bool) : plOk (.bl b) := ⟨rfl, by simp [dpD]⟩
@[simp] theorem pl_int (i : Int) : plOk (.int i) := ⟨rfl, by simp [dpD]⟩
theorem pl_str (l : Nm) (h : l.all (· < 0x110000) = true) : plOk (.str l) := ⟨h, by simp [dpD]⟩
/-- flat items -/
def plF (d : D) : Prop := plD d = true ∧ dpD d ≤ 60
def plFs (ds : List D) : Prop := plDs ds = true ∧ dpDs ds ≤ 60
@[simp] theorem plFs_nil : plFs [] ↔ True := by simp [plFs, plDs, dpDs]
@[simp] theorem plFs_cons (d : D) (r : List D) : plFs (d :: r) ↔ plF d ∧ plFs r := by
  simp only [plFs, plF, plDs, dpDs, Bool.and_eq_true, Nat.max_le]
  constructor <;> intro h <;> simp [h]
@[simp] theorem plF_non : plF .non ↔ True := by simp [plF, plD, dpD]
@[simp] theorem plF_bl (b : Bool) : plF (.bl b) ↔ True := by simp [plF, plD, dpD]
@[simp] theorem plF_int (i : Int) : plF (.int i) ↔ True := by simp [plF, plD, dpD]
@[simp] theorem plF_str (l : Nm) : plF (.str l) ↔ l.all (· < 0x110000) = true := by simp [plF, plD, dpD]
theorem plF_tup3 (x y z : Int) : plF (.tup [.int x, .int y, .int z]) := by simp [plF, plD, plDs, dpD, dpDs]
theorem plFs_ints (ns : List Int) : plFs (ns.map D.int) := by
  induction ns with
  | nil => simp
  | cons a r ih => simp [ih]
theorem pl_tup (xs : List D) (h : plFs xs) : plOk (.tup xs) := ⟨h.1, by have := h.2; simp only [dpD]; omega⟩
theorem pl_lst (xs : List D) (h : plFs xs) : plOk (.lst xs) := ⟨h.1, by have := h.2; simp only [dpD]; omega⟩
theorem plF.ok {d : D} (h : plF d) : plOk d := ⟨h.1, by have := h.2; omega⟩
@[simp] theorem dEq_tt (xs ys : List D) (h : plFs xs) (k : plFs ys) : dEq (.tup xs) (.tup ys) = some (.bl (eqPls xs ys)) := dEq_pl _ _ (pl_tup _ h) (pl_tup _ k)
@[simp] theorem dNe_tt (xs ys : List D) (h : plFs xs) (k : plFs ys) : dNe (.tup xs) (.tup ys) = some (.bl (!eqPls xs ys)) := dNe_pl _ _ (pl_tup _ h) (pl_tup _ k)
@[simp] theorem dEq_ll (xs ys : List D) (h : plFs xs) (k : plFs ys) : dEq (.lst xs) (.lst ys) = some (.bl (eqPls xs ys)) := dEq_pl _ _ (pl_lst _ h) (pl_lst _ k)
@[simp] theorem dNe_ll (xs ys : List D) (h : plFs xs) (k : plFs ys) : dNe (.lst xs) (.lst ys) = some (.bl (!eqPls xs ys)) := dNe_pl _ _ (pl_lst _ h) (pl_lst _ k)
@[simp] theorem dEq_ss (a b : Nm) (h : a.all (· < 0x110000) = true) (k : b.all (· < 0x110000) = true) : dEq (.str a) (.str b) = some (.bl (decide (a = b))) := dEq_pl _ _ (pl_str _ h) (pl_str _ k)
@[simp] theorem dNe_ss (a b : Nm) (h : a.all (· < 0x110000) = true) (k : b.all (· < 0x110000) = true) : dNe (.str a) (.str b) = some (.bl (!decide (a = b))) := dNe_pl _ _ (pl_str _ h) (pl_str _ k)
@[simp] theorem dEq_nt (xs : List D) (h : plFs xs) : dEq .non (.tup xs) = some (.bl false) := dEq_pl _ _ pl_non (pl_tup _ h)
@[simp] theorem dEq_tn (xs : List D) (h : plFs xs) : dEq (.tup xs) .non = some (.bl false) := dEq_pl _ _ (pl_tup _ h) pl_non
@[simp] theorem dNe_nt (xs : List D) (h : plFs xs) : dNe .non (.tup xs) = some (.bl true) := dNe_pl _ _ pl_non (pl_tup _ h)
@[simp] theorem dNe_tn (xs : List D) (h : plFs xs) : dNe (.tup xs) .non = some (.bl true) := dNe_pl _ _ (pl_tup _ h) pl_non
@[simp] theorem dEq_nn : dEq .non .non = some (.bl true) := dEq_pl _ _ pl_non pl_non
@[simp] theorem dNe_nn : dNe .non .non = some (.bl false) := dNe_pl _ _ pl_non pl_non
@[simp] theorem eqPls_nil : eqPls [] [] = true := by simp [eqPls]
@[simp] theorem eqPls_cons (x y : D) (xs ys : List D) : eqPls (x :: xs) (y :: ys) = (eqPl x y && eqPls xs ys) := by simp [eqPls]
@[simp] theorem eqPls_nc (y : D) (ys : List D) : eqPls [] (y :: ys) = false := by simp [eqPls]
@[simp] theorem eqPls_cn (y : D) (ys : List D) : eqPls (y :: ys) [] = false := by simp [eqPls]
@[simp] theorem eqPl_int (i j : Int) : eqPl (.int i) (.int j) = decide (i = j) := by simp [eqPl]
@[simp] theorem eqPl_str (i j : Nm) : eqPl (.str i) (.str j) = decide (i = j) := by simp [eqPl]
@[simp] theorem eqPl_tup (i j : List D) : eqPl (.tup i) (.tup j) = eqPls i j := by simp [eqPl]
@[simp] theorem eqPl_lst (i j : List D) : eqPl (.lst i) (.lst j) = eqPls i j := by simp [eqPl]
@[simp] theorem eqPl_nn : eqPl .non .non = true := by simp [eqPl]
@[simp] theorem eqPl_bb (a b : Bool) : eqPl (.bl a) (.bl b) = (a == b) := by simp [eqPl]
mutual
theorem eqPl_refl : ∀ d : D, plD d = true → eqPl d d = true
  | .non, _ => by simp
  | .bl b, _ => by simp
  | .int i, _ => by simp
  | .str l, _ => by simp
  | .tup xs, h => by simp only [eqPl]; exact eqPls_refl xs h
  | .lst xs, h => by simp only [eqPl]; exact eqPls_refl xs h
  | .scr xs, h => by simp only [eqPl]; exact eqPls_refl xs h
  | .dic _, h => by simp [plD] at h
  | .ins _ _, h => by simp [plD] at h
  | .cell _, h => by simp [plD] at h
  | .cls _, h => by simp [plD] at h
  | .ty _, h => by simp [plD] at h
  | .fn _, h => by simp [plD] at h
  | .lam _, h => by simp [plD] at h
theorem eqPls_refl : ∀ ds : List D, plDs ds = true → eqPls ds ds = true
  | [], _ => by simp
  | d :: r, h => by
    simp only [plDs, Bool.and_eq_true] at h
    simp only [eqPls, eqPl_refl d h.1, eqPls_refl r h.2, Bool.and_self]
end
end DL
set_option maxRecDepth 100000
set_option maxHeartbeats 4000000
set_option autoImplicit false
namespace DL
/-! ### readings of DLk -/
@[simp] theorem r_eIxO (i : Nat) (fb : DE) (s : DS) : eIxO i fb s = match s.sl[i]? with
  | some (.ol _) => (fb s).bind fun y s1 => match y, s1.sl[i]? with
    | .int k, some (.ol xs) => (match L2.atI xs k with | some d => .ok d s1 | none => .stuck)
    | _, _ => .stuck
  | some (.val x) => (fb s).bind fun y s1 => match y with
    | .int k => (match ixD x k with | some d => .ok d s1 | none => .stuck)
    | _ => .stuck
  | _ => .stuck := rfl
@[simp] theorem r_eTruO (i : Nat) (s : DS) : eTruO i s = match s.sl[i]? with
  | some (.ol xs) => .ok (!xs.isEmpty) s
  | some (.val d) => (match truD d with | some b => .ok b s | none => .stuck)
  | _ => .stuck := rfl
@[simp] theorem r_sIxO (i : Nat) (fi fv : DE) (s : DS) : sIxO i fi fv s = (fv s).bind fun d s1 => match s1.sl[i]? with
  | some (.ol _) => (fi s1).bind fun y s2 => match y, s2.sl[i]? with
    | .int k, some (.ol xs) => (match L2.ixN xs.length k with | some j => .ok .nx ⟨s2.sl.set i (.ol (xs.set j d)), s2.st⟩ | none => .stuck)
    | _, _ => .stuck
  | _ => .stuck := rfl
@[simp] theorem r_eProp (c : String) (g : DFn) (f : DE) (s : DS) : eProp c g f s = (f s).bind fun d s1 => match insOf d s1 with
  | some (c1, _) => if c1 = c then noX (lift s1 (g [d] s1.st)) else .stuck
  | none => .stuck := rfl
@[simp] theorem r_eChain (o o' : D → D → Option D) (fa fb fc : DE) (s : DS) : eChain o o' fa fb fc s = (fa s).bind fun x s1 => (fb s1).bind fun y s2 => match o x y with
  | some (.bl true) => (fc s2).bind fun z s3 => match o' y z with
    | some d => .ok d s3
    | none => .stuck
  | some (.bl false) => .ok (.bl false) s2
  | _ => .stuck := rfl
@[simp] theorem r_eSix (fo : DE) (fa : DA) (s : DS) : eSix fo fa s = (fo s).bind fun x s1 => match x with
  | .str a => (fa s1).bind fun ds s2 => match ds with
    | [.str b] => (match PySem.Txt.index0 (nm a) (nm b) with | some k => .ok (.int (k : Nat)) s2 | none => .stuck)
    | _ => .stuck
  | _ => .stuck := rfl
@[simp] theorem r_eBM (T : String) (o : D → List D → Option D) (fo : DE) (fa : DA) (s : DS) : eBM T o fo fa s = (fo s).bind fun x s1 => if MtD.tyOk T x = true then (fa s1).bind fun ds s2 => match o x ds with
  | some d => .ok d s2
  | none => .stuck
  else .stuck := rfl
@[simp] theorem r_tyOk_s (T : String) (l : Nm) : MtD.tyOk T (.str l) = (T == "str") := rfl
@[simp] theorem r_mJoin (a : Nm) (ds : List D) : mJoin (.str a) [.lst ds] = match strsOf ds with
    | some ls => if (ls.map (·.length)).sum + ls.length * a.length ≤ 16777216 then some (.str (TL.joinL a ls)) else none
    | none => none := rfl
@[simp] theorem r_bDivmod (i j : Int) : bDivmod [.int i, .int j] = if 0 < j ∧ divOk j = true then some (.tup [.int (i.fdiv j), .int (i.fmod j)]) else none := rfl
@[simp] theorem r_eFz (i : Nat) (f : DE) (s : DS) : eFz i f s = match s.sl[i]? with
  | some (.ol xs) => f ⟨s.sl.set i (.val (.lst xs)), s.st⟩
  | some (.od kvs) => f ⟨s.sl.set i (.val (.dic kvs)), s.st⟩
  | some (.oi c fs) => f ⟨s.sl.set i (.val (.ins c fs)), s.st⟩
  | _ => f s := rfl
/-! ### lambdas, tries -/
@[simp] theorem r_eLam (n : Nat) (tk k : String) (s : DS) : eLam n tk k s = match s.st[n]? with
  | some (.tab t) => if t = tk then .ok (.lam k) s else .stuck
  | _ => .stuck := rfl
@[simp] theorem r_eAct (Λ : LamR) (i : Nat) (s : DS) : eAct Λ i s = match s.sl[i]? with
  | some (.val (.lam k)) => lift s (Λ k s.st)
  | _ => .stuck := rfl
@[simp] theorem r_eCallL (n : Nat) (g : LamR → DFn) (bs : String → Option DE) (fa : DA) (s : DS) : eCallL n g bs fa s = (fa s).bind fun ds s1 => if ds.length = n then lift s1 (g (lamR bs s1.sl) ds s1.st) else .stuck := rfl
@[simp] theorem r_lamR (bs : String → Option DE) (sl : List Sl) (k : String) (st : List Cell) : lamR bs sl k st = match bs k with
  | some b => lamRun b sl st
  | none => .stuck := rfl
@[simp] theorem r_lamRun (b : DE) (sl : List Sl) (st : List Cell) : lamRun b sl st = match b ⟨sl.map stripS, st⟩ with
  | .ok d s' => .ok d s'.st
  | .exc x s' => .exc x s'.st
  | .stuck => .stuck := rfl
@[simp] theorem r_strip_v (d : D) : stripS (.val d) = .val d := rfl
@[simp] theorem r_strip_u : stripS .un = .un := rfl
@[simp] theorem r_strip_l (xs : List D) : stripS (.ol xs) = .un := rfl
@[simp] theorem r_sTry (b : DStm) (hs : List HdR) (s : DS) : sTry b hs s = match b s with
  | .exc x s1 => catchD hs x s1
  | r => r := rfl
@[simp] theorem r_catch_nil (x : Xc) (s : DS) : catchD [] x s = .exc x s := rfl
@[simp] theorem r_catch_none (c : PySem.Value) (m : String → Option Bool) (f : Xc → DStm) (r : List HdR) (x : Xc) (s : DS) : catchD (⟨c, none, m, f⟩ :: r) x s = match m x.cls with
    | some true => noX (f x s)
    | some false => catchD r x s
    | none => .stuck := rfl
@[simp] theorem r_catch_some (c : PySem.Value) (i : Nat) (m : String → Option Bool) (f : Xc → DStm) (r : List HdR) (x : Xc) (s : DS) : catchD (⟨c, some i, m, f⟩ :: r) x s = match m x.cls with
    | some true => if i < s.sl.length then unD i (noX (f x ⟨s.sl.set i .un, s.st⟩)) else .stuck
    | some false => catchD r x s
    | none => .stuck := rfl
@[simp] theorem r_unD (i : Nat) (r : Res DS Out) : unD i r = r.bind fun o s => .ok o ⟨s.sl.set i .un, s.st⟩ := rfl
@[simp] theorem r_hmT (yes no : List String) (k : String) : hmT yes no k = if k ∈ yes then some true else if k ∈ no then some false else none := rfl
@[simp] theorem r_eXf (c : String) (f : Nm) (x : Xc) (s : DS) : eXf c f x s = if x.cls = c then match x.fs.lookup f with | some d => .ok d s | none => .stuck else .stuck := rfl
/-! ### indexes from behind -/
theorem ixN_last {n : Nat} (h : 0 < n) : L2.ixN n (-1) = some (n - 1) := by
  unfold L2.ixN
  rw [if_neg (by omega), if_pos (by omega)]
  congr 1
  omega
theorem at_neg1 {α : Type} (xs : List α) (x : α) : L2.atI (xs ++ [x]) (-1) = some x := by
  unfold L2.atI
  rw [ixN_last (by simp)]
  simp
theorem set_last {α : Type} (xs : List α) (x y : α) : (xs ++ [x]).set ((xs ++ [x]).length - 1) y = xs ++ [y] := by
  simp
theorem at_nat {α : Type} {xs : List α} {i : Nat} {x : α} (h : xs[i]? = some x) : L2.atI xs (i : Int) = some x := L2.atI_nat h
/-! ### comprehensions that leave the store -/
theorem lc_gen {vs : List Nat} {g : DG} {t : DT} {e : DE} {s0 : DS} (τ : D → Bool) (f : D → D) : ∀ (items acc : List D), (∀ d ∈ items, ∃ s1 s2, g d (wipeS vs s0) = .ok () s1 ∧ t s1 = .ok (τ d) s2 ∧ (τ d = true → ∃ s3, e s2 = .ok (f d) s3 ∧ wipeS vs s3 = wipeS vs s0) ∧ (τ d = false → wipeS vs s2 = wipeS vs s0)) →
    items.length + acc.length ≤ 1000000 → ∀ s, wipeS vs s = wipeS vs s0 → ∃ s', lcL vs g t e items acc s = .ok (acc ++ (items.filter τ).map f) s' ∧ wipeS vs s' = wipeS vs s0
  | [], acc, _, _, s, hs => ⟨s, by simp, hs⟩
  | d :: r, acc, h, hl, s, hs => by
    obtain ⟨s1, s2, e1, e2, e3, e4⟩ := h d (List.mem_cons_self ..)
    have hr := fun d hd => h d (List.mem_cons_of_mem _ hd)
    simp only [List.length_cons] at hl
    rw [r_lc_cons, hs, e1]
    cases hτ : τ d with
    | true =>
      obtain ⟨s3, e5, e6⟩ := e3 hτ
      obtain ⟨s', e7, e8⟩ := lc_gen τ f r (acc ++ [f d]) hr (by simp; omega) s3 e6
      refine ⟨s', ?_, e8⟩
      have : acc.length < 1000000 := by omega
      simp [e2, hτ, e5, this, e7]
    | false =>
      obtain ⟨s', e7, e8⟩ := lc_gen τ f r acc hr (by omega) s2 (e4 hτ)
      refine ⟨s', ?_, e8⟩
      simp [e2, hτ, e7]
theorem aLc_gen {vs : List Nat} {it : DA} {g : DG} {t : DT} {e : DE} {s s0 : DS} {items : List D} (τ : D → Bool) (f : D → D) (hi : it s = .ok items s0) (h : ∀ d ∈ items, ∃ s1 s2, g d (wipeS vs s0) = .ok () s1 ∧ t s1 = .ok (τ d) s2 ∧ (τ d = true → ∃ s3, e s2 = .ok (f d) s3 ∧ wipeS vs s3 = wipeS vs s0) ∧ (τ d = false → wipeS vs s2 = wipeS vs s0))
    (hl : items.length ≤ 1000000) : aLc vs it g t e s = .ok ((items.filter τ).map f) ⟨unwipe vs s0.sl (wipeD vs s0.sl), s0.st⟩ := by
  obtain ⟨s', e1, e2⟩ := lc_gen τ f items [] h (by simpa using hl) s0 rfl
  have e3 : wipeD vs s'.sl = wipeD vs s0.sl := congrArg DS.sl e2
  have e4 : s'.st = s0.st := by have := congrArg DS.st e2; simpa using this
  rw [r_aLc, hi]
  simp [e1, e3, e4]
theorem aLc_map {vs : List Nat} {it : DA} {g : DG} {e : DE} {s s0 : DS} {items : List D} (f : D → D) (hi : it s = .ok items s0) (h : ∀ d ∈ items, ∃ s1 s3, g d (wipeS vs s0) = .ok () s1 ∧ e s1 = .ok (f d) s3 ∧ wipeS vs s3 = wipeS vs s0)
    (hl : items.length ≤ 1000000) : aLc vs it g bYes e s = .ok (items.map f) ⟨unwipe vs s0.sl (wipeD vs s0.sl), s0.st⟩ := by
  have := aLc_gen (vs := vs) (it := it) (g := g) (t := bYes) (e := e) (s := s) (fun _ => true) f hi (fun d hd => by
    obtain ⟨s1, s3, e1, e2, e3⟩ := h d hd
    exact ⟨s1, s1, e1, rfl, fun _ => ⟨s3, e2, e3⟩, fun z => nomatch z⟩) hl
  rwa [List.filter_eq_self.mpr (fun _ _ => rfl)] at this
/-! comprehensions that draw: by an invariant of the store -/
theorem lc_inv {vs : List Nat} {g : DG} {e : DE} {s0 : List Sl} {items : List D} (P : Nat → List D → List Cell → Prop) (step : ∀ (i : Nat) (d : D) (acc : List D) (S : List Cell), items[i]? = some d → P i acc S → ∃ s1 y s3, g d ⟨wipeD vs s0, S⟩ = .ok () s1 ∧ e s1 = .ok y s3 ∧ wipeD vs s3.sl = wipeD vs s0 ∧ P (i + 1) (acc ++ [y]) s3.st) :
    ∀ (l : List D) (i : Nat) (acc : List D) (s : DS), (∀ j, l[j]? = items[i + j]?) → l.length + acc.length ≤ 1000000 → wipeD vs s.sl = wipeD vs s0 → P i acc s.st → ∃ ys s', lcL vs g bYes e l acc s = .ok ys s' ∧ wipeD vs s'.sl = wipeD vs s0 ∧ P (i + l.length) ys s'.st
  | [], i, acc, s, h, _, hs, hp => ⟨acc, s, rfl, hs, hp⟩
  | d :: l, i, acc, s, h, hl, hs, hp => by
    have h0 := h 0
    simp only [List.getElem?_cons_zero, Nat.add_zero] at h0
    simp only [List.length_cons] at hl
    obtain ⟨s1, y, s3, e1, e2, e3, hp2⟩ := step i d acc s.st h0.symm hp
    obtain ⟨ys, s', e4, e5, hp3⟩ := lc_inv P step l (i + 1) (acc ++ [y]) s3 (fun j => by
      have := h (j + 1)
      rw [List.getElem?_cons_succ] at this
      rw [this]
      congr 1
      omega) (by simp; omega) e3 hp2
    refine ⟨ys, s', ?_, e5, by rw [show i + (d :: l).length = i + 1 + l.length by simp; omega]; exact hp3⟩
    have : acc.length < 1000000 := by omega
    rw [r_lc_cons, show wipeS vs s = ⟨wipeD vs s0, s.st⟩ by simp [hs], e1]
    simp [e2, this, e4]
theorem aLc_inv {vs : List Nat} {it : DA} {g : DG} {e : DE} {s : DS} {s0 : DS} {items : List D} (P : Nat → List D → List Cell → Prop) (hi : it s = .ok items s0) (h0 : P 0 [] s0.st) (step : ∀ (i : Nat) (d : D) (acc : List D) (S : List Cell), items[i]? = some d → P i acc S → ∃ s1 y s3, g d ⟨wipeD vs s0.sl, S⟩ = .ok () s1 ∧ e s1 = .ok y s3 ∧ wipeD vs s3.sl = wipeD vs s0.sl ∧ P (i + 1) (acc ++ [y]) s3.st)
    (hl : items.length ≤ 1000000) : ∃ ys S', aLc vs it g bYes e s = .ok ys ⟨unwipe vs s0.sl (wipeD vs s0.sl), S'⟩ ∧ P items.length ys S' := by
  obtain ⟨ys, s', e1, e2, hp⟩ := lc_inv P step items 0 [] s0 (fun j => by simp) (by simpa using hl) rfl h0
  refine ⟨ys, s'.st, ?_, by simpa using hp⟩
  rw [r_aLc, hi]
  simp [e1, e2]
/-! isinstance(x, (list, tuple)) -/
def isLT (cs : List String) : D → Option Bool
  | .lst _ => some true
  | .scr _ => some true
  | .tup _ => some true
  | .ins c _ => if c ∈ cs then some false else none
  | .non => some false
  | .bl _ => some false
  | .int _ => some false
  | .str _ => some false
  | .dic _ => some false
  | _ => none
theorem isLT_eq (cs : List String) (d : D) : ((tyOfD cs d).bind fun t => isAny cs t [.ty "list", .ty "tuple"]) = isLT cs d := by
  cases d <;> simp [isLT, tyOfD, tyD, isAny, isOne, mem_ty, isTy]
  split <;> simp [isAny, isOne, mem_ty]
@[simp] theorem r_isLT (cs : List String) (fe : DE) (s : DS) : eIsT cs fe (aCons (eC (.ty "list")) (aCons (eC (.ty "tuple")) aNil)) s = (fe s).bind fun d s1 => match isLT cs d with
  | some b => .ok (.bl b) s1
  | none => .stuck := by
  unfold eIsT
  simp [clsD, isLT_eq]
  all_goals rfl
/-! x != [] of an own list -/
@[simp] theorem r_eNeO (i : Nat) (s : DS) : eNeO i s = match s.sl[i]? with
  | some (.ol xs) => (match dNe (.lst xs) (.lst []) with | some (.bl b) => .ok b s | _ => .stuck)
  | some (.val d) => (match dNe d (.lst []) with | some (.bl b) => .ok b s | _ => .stuck)
  | _ => .stuck := rfl
@[simp] theorem r_sPar3O (i j l : Nat) (f1 f2 : DA) (f3 : DE) (s : DS) : sPar3O i j l f1 f2 f3 s = match f1 s with
  | .ok xs s1 => match f2 s1 with
    | .ok ys s2 => match f3 s2 with
      | .ok d s3 => .ok .nx ⟨((s3.sl.set i (.ol xs)).set j (.ol ys)).set l (.val d), s3.st⟩
      | _ => .stuck
    | _ => .stuck
  | _ => .stuck := rfl
@[simp] theorem r_dIsB (a b : Bool) : dIsB (.bl a) (.bl b) = some (.bl (decide (a = b))) := rfl
@[simp] theorem r_dNotB (a b : Bool) : dNotB (.bl a) (.bl b) = some (.bl (!decide (a = b))) := rfl
@[simp] theorem r_gTA_t (n : Nat) (g : List D → DS → Res DS Unit) (ds : List D) (s : DS) : gTA n g (.tup ds) s = if ds.length = n then g ds s else .stuck := rfl
@[simp] theorem r_gTA_l (n : Nat) (g : List D → DS → Res DS Unit) (ds : List D) (s : DS) : gTA n g (.lst ds) s = if ds.length = n then g ds s else .stuck := rfl
@[simp] theorem r_sMul (l : Nm) (n : Int) : sMul (.str l) (.int n) = if l.length ≤ 100 ∧ -100000 ≤ n ∧ n ≤ 100000 then some (.str (List.replicate n.toNat l).flatten) else none := rfl
@[simp] theorem r_tAdd (a b : List D) : tAdd (.tup a) (.tup b) = if a.length + b.length ≤ 1000000 then some (.tup (a ++ b)) else none := rfl
/-! equality of truth values, refusals -/
@[simp] theorem dNe_bb (a b : Bool) : dNe (.bl a) (.bl b) = some (.bl (!(a == b))) := by
  rw [dNe_pl _ _ (pl_bl a) (pl_bl b)]
  cases a <;> cases b <;> rfl
@[simp] theorem dEq_bb (a b : Bool) : dEq (.bl a) (.bl b) = some (.bl (a == b)) := by
  rw [dEq_pl _ _ (pl_bl a) (pl_bl b)]
  cases a <;> cases b <;> rfl
theorem ne_refl {xs : List D} (h : plFs xs) : dNe (.tup xs) (.tup xs) = some (.bl false) := by
  rw [dNe_tt _ _ h h, eqPls_refl _ h.1]; rfl
theorem noLams_int (cs : List Int) : noLams (cs.map D.int) = true := by
  induction cs with
  | nil => rfl
  | cons c cs ih => simp [noLams, noLam, ih]
/-! ### texts put together -/
theorem joinL_ones : ∀ l : List Nat, TL.joinL [] (l.map fun c => [c]) = l
  | [] => rfl
  | [c] => rfl
  | c :: d :: r => by
    have := joinL_ones (d :: r)
    simp only [List.map_cons] at this ⊢
    simp [TL.joinL, this]
theorem strsOf_ones (l : List Nat) : strsOf (l.map fun c => D.str [c]) = some (l.map fun c => [c]) := by
  induction l with
  | nil => rfl
  | cons c l ih => simp [strsOf, ih]
theorem sum_ones (l : List Nat) : ((l.map fun c => [c]).map (·.length)).sum = l.length := by
  induction l with
  | nil => rfl
  | cons c l ih => simp only [List.map_cons, List.sum_cons, ih, List.length_cons, List.length_nil]; omega
theorem join_ones (l : List Nat) (h : l.length ≤ 10000) : mJoin (.str []) [.lst (l.map fun c => D.str [c])] = some (.str l) := by
  rw [r_mJoin, strsOf_ones]
  simp only [sum_ones, joinL_ones, List.length_nil, Nat.mul_zero, Nat.add_zero]
  rw [if_pos (by omega)]
theorem joinL_nil : ∀ ls : List (List Nat), TL.joinL [] ls = ls.flatten
  | [] => rfl
  | [c] => by simp [TL.joinL]
  | c :: d :: r => by
    have := joinL_nil (d :: r)
    simp only [TL.joinL, this, List.flatten_cons, List.nil_append]
theorem strsOf_map {α : Type} (f : α → List Nat) (l : List α) : strsOf (l.map fun x => D.str (f x)) = some (l.map f) := by
  induction l with
  | nil => rfl
  | cons c l ih => simp [strsOf, ih]
theorem join_map {α : Type} (f : α → List Nat) (l : List α) (h : (l.map f).flatten.length ≤ 10000) : mJoin (.str []) [.lst (l.map fun x => D.str (f x))] = some (.str (l.map f).flatten) := by
  rw [r_mJoin, strsOf_map]
  rw [List.length_flatten] at h
  simp only [joinL_nil, List.length_nil, Nat.mul_zero, Nat.add_zero]
  rw [if_pos (Nat.le_trans h (by decide))]
theorem filter_first {α : Type} (τ : α → Bool) : ∀ (l : List α) (f : Nat) (x : α), l[f]? = some x → τ x = true → (∀ i y, i < f → l[i]? = some y → τ y = false) → ∃ r, l.filter τ = x :: r ∧ (∀ z ∈ r, z ∈ l)
  | [], f, x, h, _, _ => by simp at h
  | y :: l, 0, x, h, h1, h2 => by
    simp only [List.getElem?_cons_zero, Option.some.injEq] at h
    subst h
    exact ⟨l.filter τ, by rw [List.filter_cons_of_pos h1], fun z hz => List.mem_cons_of_mem _ (List.mem_filter.mp hz).1⟩
  | y :: l, f + 1, x, h, h1, h2 => by
    have e := h2 0 y (by omega) rfl
    obtain ⟨r, hr, hm⟩ := filter_first τ l f x (by simpa using h) h1 fun i z hi hz => h2 (i + 1) z (by omega) (by simpa using hz)
    exact ⟨r, by rw [List.filter_cons_of_neg (by rw [e]; decide)]; exact hr, fun z hz => List.mem_cons_of_mem _ (hm z hz)⟩
end DL
set_option maxRecDepth 100000
set_option maxHeartbeats 4000000
set_option autoImplicit false
namespace DL
open PySem PySem.Spec PyProof.Rows L2
section
variable {G : Gam} {W : WX} {X : Cx}
/-! ### a, b = x, y of which one or both are lists of one's own -/
def sParVO (i j : Nat) (f1 : DE) (f2 : DA) : DStm := fun s => match f1 s with
  | .ok d s1 => match f2 s1 with
    | .ok ys s2 => .ok .nx ⟨(s2.sl.set i (.val d)).set j (.ol ys), s2.st⟩
    | _ => .stuck
  | _ => .stuck
theorem pds_parVO {i j : Nat} {x y : Str} {a b : Expr} {f1 : DE} {f2 : DA} {px py pt pos : Pos} {kt k2 : Nat} {pt2 : Pos} (hc : X.calm = true) (hN : X.N.Nodup) (hi : X.N[i]? = some x) (hj : X.N[j]? = some y) (hij : i ≠ j)
    (hx : X.env.scope.names.lookup x = some .local) (hy : X.env.scope.names.lookup y = some .local) (ha : PD G W X a f1) (hb : PDo G W X b f2)
    (hw : swappedStores [.Tuple [.Name x px, .Name y py] kt pt] (.Tuple [a, b] k2 pt2) X.env = pure (some [x, y]))
    (hs : swapsWithSole [.Tuple [.Name x px, .Name y py] kt pt] (.Tuple [a, b] k2 pt2) pos.line X.env = pure false := by rfl)
    (s1 : starEach [a, b] X.env = (false, eval a X.env) :: starEach [b] X.env := by rfl) (s2 : starEach [b] X.env = (false, eval b X.env) :: starEach [] X.env := by rfl) :
    PDS G W X (.Assign [.Tuple [.Name x px, .Name y py] kt pt] (.Tuple [a, b] k2 pt2) pos) (sParVO i j f1 f2) :=
  (ps_par hc hN hi hj hij hx hy (pa_cons ha (pa_cons hb pa_nil s2) s1) hw hs).imp fun N σ H ⟨κ, w, s, ok, q⟩ => by
    unfold sParVO at q
    cases e1 : f1 s with
    | stuck => rw [e1] at q; exact q.elim
    | exc x s' => rw [e1] at q; exact q.elim
    | ok d s1 =>
      rw [e1] at q
      simp only at q
      refine ⟨κ, w, s, ok, ?_⟩
      rw [e1]
      intro w1 v H1 l1 ok1 r1
      cases e2 : f2 s1 with
      | stuck => rw [e2] at q; exact q.elim
      | exc x s' => rw [e2] at q; exact q.elim
      | ok ys s2 =>
        rw [e2] at q
        simp only at q
        refine ⟨_, w1, s1, ok1, ?_⟩
        rw [e2]
        intro w2 b us H2 l2 ok2 g2 r2
        refine ⟨_, _, rfl, ?_⟩
        have h1 := ok2.setOwn (y := .ol ys) g2 ⟨us, (ok2.gam (b, .lst us) List.mem_cons_self).1, r2⟩ rfl (fun _ _ z => nomatch z) j
        have h2 := h1.setVal (r1.mono l2) i
        rw [List.set_comm _ _ hij]
        rw [List.set_comm _ _ hij] at q
        exact q w2 _ H2 (l1.trans l2) h2
def sParOO (i j : Nat) (f1 : DA) (f2 : DA) : DStm := fun s => match f1 s with
  | .ok xs s1 => match f2 s1 with
    | .ok ys s2 => .ok .nx ⟨(s2.sl.set i (.ol xs)).set j (.ol ys), s2.st⟩
    | _ => .stuck
  | _ => .stuck
theorem pds_parOO {i j : Nat} {x y : Str} {a b : Expr} {f1 f2 : DA} {px py pt pos : Pos} {kt k2 : Nat} {pt2 : Pos} (hc : X.calm = true) (hN : X.N.Nodup) (hi : X.N[i]? = some x) (hj : X.N[j]? = some y) (hij : i ≠ j)
    (hx : X.env.scope.names.lookup x = some .local) (hy : X.env.scope.names.lookup y = some .local) (ha : PDo G W X a f1) (hb : PDo G W X b f2)
    (hw : swappedStores [.Tuple [.Name x px, .Name y py] kt pt] (.Tuple [a, b] k2 pt2) X.env = pure (some [x, y]))
    (hs : swapsWithSole [.Tuple [.Name x px, .Name y py] kt pt] (.Tuple [a, b] k2 pt2) pos.line X.env = pure false := by rfl)
    (s1 : starEach [a, b] X.env = (false, eval a X.env) :: starEach [b] X.env := by rfl) (s2 : starEach [b] X.env = (false, eval b X.env) :: starEach [] X.env := by rfl) :
    PDS G W X (.Assign [.Tuple [.Name x px, .Name y py] kt pt] (.Tuple [a, b] k2 pt2) pos) (sParOO i j f1 f2) :=
  (ps_par hc hN hi hj hij hx hy (pa_cons ha (pa_cons hb pa_nil s2) s1) hw hs).imp fun N σ H ⟨κ, w, s, ok, q⟩ => by
    unfold sParOO at q
    cases e1 : f1 s with
    | stuck => rw [e1] at q; exact q.elim
    | exc x s' => rw [e1] at q; exact q.elim
    | ok xs s1 =>
      rw [e1] at q
      simp only at q
      refine ⟨κ, w, s, ok, ?_⟩
      rw [e1]
      intro w1 a vs H1 l1 ok1 g1 r1
      cases e2 : f2 s1 with
      | stuck => rw [e2] at q; exact q.elim
      | exc x s' => rw [e2] at q; exact q.elim
      | ok ys s2 =>
        rw [e2] at q
        simp only at q
        refine ⟨_, w1, s1, ok1, ?_⟩
        rw [e2]
        intro w2 b us H2 l2 ok2 g2 r2
        refine ⟨_, _, rfl, ?_⟩
        have h1 := ok2.setOwn (y := .ol ys) g2 ⟨us, (ok2.gam (b, .lst us) List.mem_cons_self).1, r2⟩ rfl (fun _ _ z => nomatch z) j
        have h2 := h1.setOwn (y := .ol xs) g1 ⟨vs, (h1.gam (a, .lst vs) List.mem_cons_self).1, r1.mono l2⟩ rfl (fun _ _ z => nomatch z) i
        rw [List.set_comm _ _ hij]
        rw [List.set_comm _ _ hij] at q
        exact q w2 _ H2 (l1.trans l2) h2
end
@[simp] theorem r_sParVO (i j : Nat) (f1 : DE) (f2 : DA) (s : DS) : sParVO i j f1 f2 s = (noX (f1 s)).bind fun d s1 => (noX (f2 s1)).bind fun ys s2 => .ok .nx ⟨(s2.sl.set i (.val d)).set j (.ol ys), s2.st⟩ := by
  unfold sParVO
  cases f1 s with
  | ok d s1 =>
    show _ = (noX (f2 s1)).bind _
    simp only
    cases f2 s1 <;> rfl
  | _ => rfl
@[simp] theorem r_sParOO (i j : Nat) (f1 : DA) (f2 : DA) (s : DS) : sParOO i j f1 f2 s = (noX (f1 s)).bind fun xs s1 => (noX (f2 s1)).bind fun ys s2 => .ok .nx ⟨(s2.sl.set i (.ol xs)).set j (.ol ys), s2.st⟩ := by
  unfold sParOO
  cases f1 s with
  | ok d s1 =>
    show _ = (noX (f2 s1)).bind _
    simp only
    cases f2 s1 <;> rfl
  | _ => rfl
end DL
set_option maxRecDepth 100000
set_option maxHeartbeats 4000000
set_option autoImplicit false
namespace DL
open PySem PySem.Spec PyProof.Rows L2
/-! ### d[k] of a dict that stands in the module -/
def lookN : List (Nm × D) → Nm → Option D
  | [], _ => none
  | (k, d) :: r, l => if k = l then some d else lookN r l
theorem lookN_nl : ∀ {kvs : List (Nm × D)} {l : Nm} {d : D}, (kvs.all fun q => noLam q.2) = true → lookN kvs l = some d → noLam d = true
  | [], _, _, _, h => by cases h
  | (k, x) :: r, l, d, h, e => by
    rw [List.all_cons, Bool.and_eq_true] at h
    unfold lookN at e
    split at e
    · cases e; exact h.1
    · exact lookN_nl h.2 e
def eKd (kvs : List (Nm × D)) (fi : DE) : DE := fun s => (fi s).bind fun k s1 => match k with
  | .str l => (match lookN kvs l with | some d => .ok d s1 | none => .stuck)
  | _ => .stuck
@[simp] theorem r_eKd (kvs : List (Nm × D)) (fi : DE) (s : DS) : eKd kvs fi s = (fi s).bind fun k s1 => match k with
  | .str l => (match lookN kvs l with | some d => .ok d s1 | none => .stuck)
  | _ => .stuck := rfl
/-- the entries of a dict of the module, told as data -/
def kdm (K : PySem.W.Frag) : List DictEntry → List (Nm × D) → Bool
  | [], [] => true
  | e :: es, (k, d) :: kvs => (match e.key with | .str x _ => x == nm k | _ => false) && repK K 6 e.val d && kdm K es kvs
  | _, _ => false
/-- the entries of a dict that stands in the module -/
def dEnt (K : PySem.W.Frag) (v : Value) : List DictEntry := match v with
  | .ref a => (match K.lookup a with
    | some ⟨_, _, .dict es _, _⟩ => es.toList
    | _ => [])
  | _ => []
def dForm (K : PySem.W.Frag) (v : Value) : Bool := match v with
  | .ref a => (match K.lookup a with
    | some ⟨c, none, .dict _ _, sl⟩ => c == .type "dict" && sl.isEmpty
    | _ => false)
  | _ => false
structure KdB (P : Params) (K : PySem.W.Frag) (v : Value) (kvs : List (Nm × D)) : Prop where
  form : dForm K v = true
  ents : kdm K (dEnt K v) kvs = true
  hash : (dEnt K v).map (·.hash) = kvs.map fun q => PyData.keyHash P (nm q.1)
theorem kdm_lit {P : Params} {K : PySem.W.Frag} : ∀ {es : List DictEntry} {kvs : List (Nm × D)}, kdm K es kvs = true → es.map (·.hash) = (kvs.map fun q => PyData.keyHash P (nm q.1)) → PySem.W.KeysLit P es
  | [], [], _, _ => trivial
  | [], _ :: _, h, _ => by cases h
  | _ :: _, [], h, _ => by cases h
  | e :: es, (k, d) :: kvs, h, q => by
    unfold kdm at h
    rw [Bool.and_eq_true, Bool.and_eq_true] at h
    obtain ⟨⟨h1, h2⟩, h3⟩ := h
    simp only [List.map_cons, List.cons.injEq] at q
    refine And.intro ?_ (kdm_lit h3 q.2)
    cases hk : e.key with
    | str x t =>
      rw [hk] at h1
      have h1 : (x == nm k) = true := h1
      rw [beq_iff_eq] at h1
      subst h1
      exact ⟨_, t, rfl, q.1⟩
    | _ => rw [hk] at h1; cases h1
theorem KdB.obj {P : Params} {K : PySem.W.Frag} {v : Value} {kvs : List (Nm × D)} (h : KdB P K v kvs) : ∃ (p : Addr) (es : Array DictEntry) (n : Nat), v = .ref p ∧ K.lookup p = some { cls := .type "dict", data := .dict es n } ∧ PySem.W.KeysLit P es.toList ∧ kdm K es.toList kvs = true := by
  obtain ⟨h1, h2, h3⟩ := h
  cases v with
  | ref a =>
    unfold dForm at h1
    unfold dEnt at h2 h3
    simp only at h1 h2 h3
    cases e : K.lookup a with
    | none => rw [e] at h1; cases h1
    | some o =>
      rw [e] at h1 h2 h3
      obtain ⟨c, dd, data, sl⟩ := o
      cases dd with
      | some _ => cases h1
      | none =>
        cases data with
        | dict es n =>
          simp only [Bool.and_eq_true, beq_iff_eq] at h1
          obtain ⟨rfl, hs⟩ := h1
          have : sl = #[] := Array.isEmpty_iff.mp hs
          subst this
          exact ⟨a, es, n, rfl, e, kdm_lit h2 h3, h2⟩
        | _ => cases h1
  | _ => cases h1
def KdOk (G : Gam) (w0 : World) (v : Value) (kvs : List (Nm × D)) : Prop :=
  ∃ p : Addr, v = .ref p ∧ ∀ l d, lookN kvs l = some d → ∃ y, KDct G.K w0 p (nm l) y ∧ ∀ w, Rep G w y d
theorem kdm_look {G : Gam} : ∀ {es : List DictEntry} {kvs : List (Nm × D)}, kdm G.K es kvs = true → ∀ l d, lookN kvs l = some d → ∃ e, es.find? (fun x => x.key.isStr (nm l)) = some e ∧ ∃ y, RelV y e.val ∧ ∀ w, Rep G w y d
  | [], [], _, l, d, h => by cases h
  | [], _ :: _, h, _, _, _ => by cases h
  | _ :: _, [], h, _, _, _ => by cases h
  | e :: es, (k, d') :: kvs, h, l, d, hl => by
    unfold kdm at h
    rw [Bool.and_eq_true, Bool.and_eq_true] at h
    obtain ⟨⟨h1, h2⟩, h3⟩ := h
    cases hk : e.key with
    | str x t =>
      rw [hk] at h1
      have h1 : (x == nm k) = true := h1
      rw [beq_iff_eq] at h1
      subst h1
      unfold lookN at hl
      by_cases c : k = l
      · rw [if_pos c] at hl
        cases hl
        subst c
        obtain ⟨y, r1, r2⟩ := repK_ok (G := G) rfl 6 _ _ h2
        refine ⟨e, ?_, y, r1, r2⟩
        rw [List.find?_cons_of_pos]
        rw [hk]
        simp [Value.isStr]
      · rw [if_neg c] at hl
        obtain ⟨e', q1, q2⟩ := kdm_look h3 l d hl
        refine ⟨e', ?_, q2⟩
        rw [List.find?_cons_of_neg, q1]
        rw [hk]
        simp [Value.isStr]
        intro z
        exact c (dkey_inj (a := .s k) (b := .s l) (by show Sum.inr (nm k) = Sum.inr (nm l); rw [z]) |> fun q => by cases q; rfl)
    | _ => rw [hk] at h1; cases h1
theorem kdOk_of {G : Gam} {w0 : World} {v : Value} {kvs : List (Nm × D)} (h : KdB w0.params G.K v kvs) : KdOk G w0 v kvs := by
  obtain ⟨p, es, n, rfl, h1, h2, h3⟩ := h.obj
  refine ⟨p, rfl, fun l d hl => ?_⟩
  obtain ⟨e, q1, y, r1, r2⟩ := kdm_look h3 l d hl
  refine ⟨y, ⟨es, n, e.val, h1, h2, ?_, r1⟩, r2⟩
  unfold PySem.W.nsIn
  rw [h1]
  simp only
  rw [q1]
section
variable {G : Gam} {W : WX} {X : Cx}
theorem pd_kd (hK : G.K = X.K) {x : Str} {v : Value} {kvs : List (Nm × D)} {i : Expr} {fi : DE} {pos pos' : Pos} (hg : Gl X x) (hm : X.mg x = some v) (hk : KdOk G X.w v kvs) (hi : PD G W X i fi) (hs : PlainIx i) (hd : (x == ("__debug__" : Str)) = false := by decide) :
    PD G W X (.Subscript (.Name x pos) i pos') (eKd kvs fi) := by
  obtain ⟨p, rfl, hk⟩ := hk
  refine (pe_ix (X := X) (r := rIxD X.K X.w) ix_kdict (pe_glob (v := .ref p) hg hm rfl hd) hi hs).imp fun σ H Q ⟨κ, w, s, ok, q⟩ => ?_
  show _
  refine ⟨κ, w, s, ok, (PostG.bind q).imp fun v2 H2 ⟨d2, s2, w2, le2, ok2, r2, q2⟩ => ?_⟩
  cases r2 with
  | str l =>
    replace q2 : PostG G W (Rep G) κ w2 σ (match lookN kvs l with | some d => .ok d s2 | none => .stuck) Q := q2
    cases e : lookN kvs l with
    | none => rw [e] at q2; exact q2.elim
    | some d =>
      rw [e] at q2
      obtain ⟨y, h1, h2⟩ := hk l d e
      exact ⟨p, nm l, y, rfl, rfl, hK ▸ h1, q2 w2 y H2 (.refl _) ok2 (h2 w2)⟩
  | _ => exact q2.elim
end
end DL
set_option maxRecDepth 100000
set_option maxHeartbeats 4000000
set_option autoImplicit false
namespace DL
open PySem PySem.Spec PyProof.Rows L2
/-! ### sorted(xs) of numbers -/
def insI (x : Int) : List Int → List Int
  | [] => [x]
  | y :: r => if x ≤ y then x :: y :: r else y :: insI x r
def isrt : List Int → List Int
  | [] => []
  | x :: r => insI x (isrt r)
theorem insI_perm (x : Int) : ∀ l : List Int, (insI x l).Perm (x :: l)
  | [] => .refl _
  | y :: r => by
    unfold insI
    split
    · exact .refl _
    · exact ((insI_perm x r).cons y).trans (.swap x y r)
theorem isrt_perm : ∀ l : List Int, (isrt l).Perm l
  | [] => .refl _
  | x :: r => (insI_perm x (isrt r)).trans ((isrt_perm r).cons x)
theorem insI_srt (x : Int) : ∀ {l : List Int}, l.Pairwise (· ≤ ·) → (insI x l).Pairwise (· ≤ ·)
  | [], _ => by simp [insI]
  | y :: r, h => by
    unfold insI
    split
    · rename_i c
      rw [List.pairwise_cons] at h ⊢
      refine ⟨fun z hz => ?_, List.pairwise_cons.mpr h⟩
      rcases List.mem_cons.mp hz with rfl | hz
      · exact c
      · have := h.1 z hz; omega
    · rename_i c
      rw [List.pairwise_cons] at h ⊢
      refine ⟨fun z hz => ?_, insI_srt x h.2⟩
      have := (insI_perm x r).mem_iff.mp hz
      rcases List.mem_cons.mp this with rfl | hz
      · omega
      · exact h.1 z hz
theorem isrt_srt : ∀ l : List Int, (isrt l).Pairwise (· ≤ ·)
  | [] => .nil
  | x :: r => insI_srt x (isrt_srt r)
theorem isrt_eq {l m : List Int} (h : m.Perm l) (k : m.Pairwise (· ≤ ·)) : m = isrt l :=
  List.Perm.eq_of_pairwise (fun a b _ _ h1 h2 => Int.le_antisymm h1 h2) k (isrt_srt l) (h.trans (isrt_perm l).symm)
def bSrt : List D → Option D
  | [.lst xs] => match intsOf xs with
    | some ns => if ns.length < 64 then some (.lst ((isrt ns).map D.int)) else none
    | none => none
  | _ => none
section
variable {G : Gam} {W : WX} {X : Cx}
theorem repsInts {w : Wd} : ∀ ns : List Int, Reps G w (ns.map V.int) (ns.map D.int)
  | [] => .nil
  | n :: r => .cons (.int n) (repsInts r)
theorem cd_sorted : CallD G X (.builtin "sorted") bSrt := ⟨_, cr_sorted, fun κ w s σ H vs ds d Q ok rs e q => by
  match ds, e with
  | [.lst xs], e =>
    have e : (match intsOf xs with | some ns => if ns.length < 64 then some (D.lst ((isrt ns).map D.int)) else none | none => none) = some d := e
    cases e1 : intsOf xs with
    | none => rw [e1] at e; cases e
    | some l =>
      rw [e1] at e
      simp only at e
      split at e
      · rename_i c
        cases e
        obtain ⟨v, rfl, r⟩ := rs.one
        cases r with
        | @lst a vs ds e r =>
          rw [intsOf_eq e1] at r
          rw [r.ints] at e
          refine ⟨a, l, rfl, .inl (.inl (ok.fok.sub _ _ e)), c, fun ns' p h1 h2 hp => ?_⟩
          rw [isrt_eq h1 h2]
          obtain ⟨le2, ok2⟩ := ok.alloc hp (.lst ((isrt l).map V.int))
          exact q _ _ _ le2 ok2 (.lst upd_same (repsInts _))
      · cases e⟩
end
@[simp] theorem r_bSrt (xs : List D) : bSrt [.lst xs] = match intsOf xs with
    | some ns => if ns.length < 64 then some (.lst ((isrt ns).map D.int)) else none
    | none => none := rfl
end DL
set_option maxRecDepth 100000
set_option maxHeartbeats 4000000
set_option autoImplicit false
namespace DL
open PySem PySem.Spec PyProof.Rows L2
section
variable {G : Gam} {W : WX} {X : Cx}
/-! ### x.pop(k) of an own list -/
theorem Reps.eraseIdx {G : Gam} {w : Wd} : ∀ {v : List V} {d : List D} (i : Nat), Reps G w v d → Reps G w (v.eraseIdx i) (d.eraseIdx i)
  | _, _, _, .nil => .nil
  | _, _, 0, .cons _ b => b
  | _, _, i + 1, .cons a b => .cons a (Reps.eraseIdx i b)
def ePopO (i : Nat) (fa : DA) : DE := fun s => match s.sl[i]? with
  | some (.ol _) => (fa s).bind fun ds s1 => match ds, s1.sl[i]? with
    | [.int k], some (.ol xs) => if 0 ≤ k ∧ k < 1000000 then match xs[k.toNat]? with
      | some d => .ok d ⟨s1.sl.set i (.ol (xs.eraseIdx k.toNat)), s1.st⟩
      | none => .stuck
      else .stuck
    | _, _ => .stuck
  | _ => .stuck
theorem pd_popO {i : Nat} {x : Str} {p apos cpos : Pos} {e : Expr} {fa : DA} (ho : PE X (.Name x p) (tVar i)) (ha : PDA G W X [e] fa)
    (hbase : attributeBase (.Name x p) "pop" X.env (eval (.Name x p) X.env) = eval (.Name x p) X.env := by rfl)
    (hfew : ((backTo cpos (starEach [e] X.env)).all (fun x => !x.1) && (backToKw cpos (keywordEach [] X.env)).all (fun x => x.1.isSome)
      && decide ([e].length + ([] : List Keyword).length + (if ([] : List Keyword).isEmpty then 0 else 1) < 30)) = true := by rfl)
    (hline : (apos.endLine == cpos.line) = true := by rfl) (hs : starEach [e] X.env = (false, eval e X.env) :: starEach [] X.env := by rfl) (hplain : (backTo cpos (starEach [] X.env)).any (·.1) = false := by rfl) : PD G W X (.Call (.Attribute (.Name x p) "pop" apos) [e] [] cpos) (ePopO i fa) :=
  (pe_bm PySem.F.plainAttrs_list PySem.F.slot_list_pop PySem.F.type_list_pop mt_popAt ho ha hbase hfew hline hs hplain).imp fun σ H Q ⟨κ, w, s, ok, q⟩ => by
    unfold ePopO at q
    cases e0 : s.sl[i]? with
    | none => rw [e0] at q; exact q.elim
    | some y =>
      rw [e0] at q
      cases y with
      | ol xs0 =>
        obtain ⟨a, vs, h1, h2, h3⟩ := own_list ok e0
        refine ⟨.ref a, h1, .inl ⟨rfl, vs, .inl (.inl h2)⟩, κ, w, s, ok, (PostG.bind q).imp fun v H1 ⟨d, s1, w1, le, ok1, r1, q1⟩ => ?_⟩
        match d, q1 with
        | [.int k], q1 =>
          cases e1 : s1.sl[i]? with
          | none => rw [e1] at q1; exact q1.elim
          | some z =>
            rw [e1] at q1
            cases z with
            | ol xs =>
              replace q1 : PostG G W (Rep G) κ w1 σ (if 0 ≤ k ∧ k < 1000000 then match xs[k.toNat]? with | some d => .ok d ⟨s1.sl.set i (.ol (xs.eraseIdx k.toNat)), s1.st⟩ | none => .stuck else .stuck) Q := q1
              split at q1
              · rename_i c
                cases e2 : xs[k.toNat]? with
                | none => rw [e2] at q1; exact q1.elim
                | some d =>
                  rw [e2] at q1
                  obtain ⟨a', vs', g1, g2, g3⟩ := own_list ok1 e1
                  rw [h1] at g1
                  cases g1
                  obtain ⟨y, rfl, ry⟩ := r1.one
                  cases ry
                  obtain ⟨u, hu, ru⟩ := g3.get e2
                  have hk : k.toNat < xs.length := (List.getElem?_eq_some_iff.mp e2).1
                  refine ⟨a, vs', k, k.toNat, u, rfl, rfl, g2, by omega, by omega, ?_, hu, ?_⟩
                  · unfold seqIndex?
                    rw [g3.length]
                    simp only [show ¬ k < 0 by omega, if_false]
                    rw [if_pos (by simp; omega)]
                  · exact q1 w1 u _ (.refl _) (ok1.mut e1 rfl rfl h1 ⟨_, upd_same, g3.eraseIdx k.toNat⟩ fun _ _ z => nomatch z) ru
              · exact q1.elim
            | _ => exact q1.elim
        | [], q1 => cases e1 : s1.sl[i]? <;> exact q1.elim
        | _ :: _ :: _, q1 => cases e1 : s1.sl[i]? <;> (split at q1 <;> first | exact q1.elim | simp_all)
        | [.non], q1 => exact q1.elim
        | [.bl _], q1 => exact q1.elim
        | [.str _], q1 => exact q1.elim
        | [.tup _], q1 => exact q1.elim
        | [.lst _], q1 => exact q1.elim
        | [.scr _], q1 => exact q1.elim
        | [.dic _], q1 => exact q1.elim
        | [.ins _ _], q1 => exact q1.elim
        | [.cell _], q1 => exact q1.elim
        | [.cls _], q1 => exact q1.elim
        | [.ty _], q1 => exact q1.elim
        | [.fn _], q1 => exact q1.elim
        | [.lam _], q1 => exact q1.elim
      | _ => exact q.elim
end
@[simp] theorem r_ePopO (i : Nat) (fa : DA) (s : DS) : ePopO i fa s = match s.sl[i]? with
  | some (.ol _) => (fa s).bind fun ds s1 => match ds, s1.sl[i]? with
    | [.int k], some (.ol xs) => if 0 ≤ k ∧ k < 1000000 then match xs[k.toNat]? with
      | some d => .ok d ⟨s1.sl.set i (.ol (xs.eraseIdx k.toNat)), s1.st⟩
      | none => .stuck
      else .stuck
    | _, _ => .stuck
  | _ => .stuck := rfl
theorem pop_e {i : Nat} {fa : DA} {s s1 : DS} {xs0 xs : List D} {k : Int} {d : D} (h0 : s.sl[i]? = some (.ol xs0)) (h : fa s = .ok [.int k] s1) (h1 : s1.sl[i]? = some (.ol xs)) (hk : 0 ≤ k ∧ k < 1000000) (hd : xs[k.toNat]? = some d) : ePopO i fa s = .ok d ⟨s1.sl.set i (.ol (xs.eraseIdx k.toNat)), s1.st⟩ := by
  rw [r_ePopO, h0]
  simp only [h, Res.bind_ok, h1, if_pos hk, hd]
end DL
set_option maxRecDepth 100000
set_option maxHeartbeats 4000000
set_option autoImplicit false
namespace DL
open PySem PySem.Spec PyProof.Rows L2
section
variable {G : Gam} {W : WX} {X : Cx}
/-! ### x != [] of an own list with items of any kind -/
def rNeE (K : PySem.W.Frag) : R2 := fun x y H Q => rNeD K x y H Q ∨ ∃ a b xs, x = .ref a ∧ y = .ref b ∧ H a = some (.lst xs) ∧ H b = some (.lst []) ∧ xs ≠ [] ∧ Q (.bl true) H
theorem op_neE (hu : X.A.units + 64 < cLine) : OpR X (compareOp .NotEq) (rNeE X.K) := by
  intro pins s σ H x y v u Q I rx ry h
  rcases h with h | ⟨a, b, xs, rfl, rfl, h1, h2, h3, q⟩
  · exact op_neD hu pins s σ H x y v u Q I rx ry h
  · cases rx
    cases ry
    obtain ⟨z, its, n, r, hl, e⟩ := I.lstM h1
    obtain ⟨z2, its2, n2, r2, hl2, e2⟩ := I.lstM h2
    refine SeqAt.RcNeAt.lists_lengths (items := its.toArray) (items2 := its2.toArray) ⟨_, e, rfl, n, rfl⟩ ⟨_, e2, rfl, n2, rfl⟩ ?_ (by omega) X.prog X.w X.xe _ ⟨.bl true, H, I, rfl, q⟩
    have l1 : 0 < xs.length := List.length_pos_iff.mpr h3
    have l2 : ([] : List V).length = 0 := rfl
    rw [List.size_toArray, List.size_toArray, ← hl, ← hl2, l2]
    simp
    exact h3
def eNeE (i : Nat) : DT := fun s => match s.sl[i]? with
  | some (.ol xs) => .ok (!xs.isEmpty) s
  | _ => .stuck
theorem ptd_neE (hK : G.K = X.K) (hu : X.A.units + 64 < cLine) {i : Nat} {x : Str} {p pos pos2 : Pos} (ho : PE X (.Name x p) (tVar i)) : PDT G W X (.Compare (.Name x p) [.NotEq] [.List [] pos2] pos) (eNeE i) :=
  (pt_cmpR (op_neE hu) ho (pe_lst pa_nil) (nomark _)).imp fun σ H Q ⟨κ, w, s, ok, q⟩ => by
    unfold eNeE at q
    cases e : s.sl[i]? with
    | none => rw [e] at q; exact q.elim
    | some y =>
      rw [e] at q
      cases y with
      | ol xs =>
        replace q : PostG G W (fun _ (v : Bool) d => v = d) κ w σ (.ok (!xs.isEmpty) s) Q := q
        obtain ⟨a, vs, h1, h2, h3⟩ := own_list ok e
        refine ⟨.ref a, h1, by decide, fun p hp => ?_⟩
        obtain ⟨le2, ok2⟩ := ok.alloc hp (.lst [])
        obtain ⟨a', h1', ⟨vs', h2', h3'⟩, _⟩ := ok2.own i _ e rfl
        rw [h1] at h1'
        cases h1'
        cases xs with
        | nil =>
          obtain ⟨le3, ok3⟩ := ok2.freeze (d := .lst []) e rfl h1 h2' fun w' l f => .lst f (h3'.mono l)
          have r1 : Dp X.K _ (.ref a) _ := Rep.py hK ok3 (.lst upd_same (h3'.mono le3)) rfl
          have r2 : Dp X.K _ (.ref p) _ := Rep.py hK ok2 (.lst upd_same .nil) rfl
          exact .inl ⟨_, _, r1, r2, rfl, rfl, _, rfl, q _ _ _ le2 ok2 rfl⟩
        | cons d r =>
          refine .inr ⟨a, p, vs', rfl, rfl, h2', upd_same, fun z => ?_, _, rfl, q _ _ _ le2 ok2 rfl⟩
          subst z
          have := h3'.length
          simp at this
      | _ => exact q.elim
/-! ### len(x) of an own list -/
def eLnO (i : Nat) : DE := fun s => match s.sl[i]? with
  | some (.ol xs) => .ok (.int xs.length) s
  | _ => .stuck
theorem pd_lenO {i : Nat} {x z : Str} {p p2 pos : Pos} (ho : PE X (.Name z p2) (tVar i)) (hg : Gl X x) (hm : X.mg x = none) (hv : bootBuiltins x = some (.builtin "len")) (hn : x ≠ "__name__" := by decide)
    (hdb : (x == ("__debug__" : Str)) = false := by decide) (he : starEach [.Name z p2] X.env = (false, eval (.Name z p2) X.env) :: starEach [] X.env := by rfl) (hpl : (backTo pos (starEach [] X.env)).any (·.1) = false := by rfl) : PD G W X (.Call (.Name x p) [.Name z p2] [] pos) (eLnO i) :=
  (pe_callB call_len hg hm hv (pa_cons ho pa_nil he) hn hdb he hpl).imp fun σ H Q ⟨κ, w, s, ok, q⟩ => by
    unfold eLnO at q
    cases e : s.sl[i]? with
    | none => rw [e] at q; exact q.elim
    | some y =>
      rw [e] at q
      cases y with
      | ol xs =>
        obtain ⟨a, vs, h1, h2, h3⟩ := own_list ok e
        refine ⟨.ref a, h1, _, _, rfl, .inl ⟨vs, .inl (.inl h2), rfl⟩, ?_⟩
        rw [h3.length]
        exact q w _ H (.refl _) ok (.int _)
      | _ => exact q.elim
end
@[simp] theorem r_eLnO (i : Nat) (s : DS) : eLnO i s = match s.sl[i]? with
  | some (.ol xs) => .ok (.int xs.length) s
  | _ => .stuck := rfl
@[simp] theorem r_eNeE (i : Nat) (s : DS) : eNeE i s = match s.sl[i]? with
  | some (.ol xs) => .ok (!xs.isEmpty) s
  | _ => .stuck := rfl
end DL
set_option maxRecDepth 100000
set_option maxHeartbeats 4000000
set_option autoImplicit false
namespace DL
open PySem PySem.Spec PyProof.Rows L2
/-! ### a tuple in a list of plain things -/
theorem any_py (x : D) (p : PyData) (hp : toPy x = some p) : ∀ (ys : List D) (qs : List PyData), toPys ys = some qs → (qs.any fun z => PyData.eqv z p) = ys.any fun z => eqPl z x
  | [], qs, h => by cases h; rfl
  | y :: ys, qs, h => by
    simp only [toPys, Option.bind_eq_some_iff, Option.map_eq_some_iff] at h
    obtain ⟨q, e1, r, e2, rfl⟩ := h
    rw [List.any_cons, List.any_cons, any_py x p hp ys r e2, eqv_pl y x q p e1 hp]
theorem dIn_tl (xs ys : List D) (h : plFs xs) (k : plFs ys) : dIn false (.tup xs) (.lst ys) = some (.bl (ys.any fun z => eqPl z (.tup xs))) := by
  have h1 := pl_tup _ h
  have k1 := pl_lst _ k
  obtain ⟨p, a1, a2, a3⟩ := toPy_pl _ h1.1
  obtain ⟨q, b1, b2, b3⟩ := toPy_pl _ k1.1
  have s1 : SeqAt.shaped p = true := by
    unfold SeqAt.shaped
    rw [a2, a3]
    simp [h1.2]
  have s2 : SeqAt.shaped q = true := by
    unfold SeqAt.shaped
    rw [b2, b3]
    simp [k1.2]
  cases e : toPys ys with
  | none => simp [toPy, e] at b1
  | some qs =>
    simp only [toPy, e, Option.map_some, Option.some.injEq] at b1
    subst b1
    have f1 : inS false (.tup xs) (.lst ys) = none := rfl
    have f2 : inF false (.tup xs) (.lst ys) = none := by
      show (if flD (.tup xs) = true ∧ ys.all flD = true then some (D.bl (ys.any fun z => eqFl z (.tup xs))) else none) = none
      rw [if_neg]
      intro z
      have : flD (.tup xs) = false := rfl
      rw [this] at z
      cases z.1
    have f3 : inP false (.tup xs) (.lst ys) = some (.bl (ys.any fun z => eqPl z (.tup xs))) := by
      have ep := any_py (.tup xs) p a1 ys qs e
      unfold inP
      rw [a1]
      have : toPy (.lst ys) = some (.list qs) := by simp [toPy, e]
      rw [this]
      simp only [s1, s2, Bool.and_self, if_true]
      simp [ep]
    unfold dIn
    rw [f1, f2, f3]
    rfl
end DL
set_option maxRecDepth 100000
set_option maxHeartbeats 4000000
set_option autoImplicit false
namespace DL
/-! reading from the left: what stands behind is read once its first part is known -/
def seqK (r : Res DS Out) (g : DStm) : Res DS Out := r.bind fun o s1 => match o with | .nx => g s1 | o => .ok o s1
@[simp] theorem seqK_nx (s : DS) (g : DStm) : seqK (.ok .nx s) g = g s := rfl
@[simp] theorem seqK_rt (d : D) (s : DS) (g : DStm) : seqK (.ok (.rt d) s) g = .ok (.rt d) s := rfl
@[simp] theorem seqK_bk (s : DS) (g : DStm) : seqK (.ok .bk s) g = .ok .bk s := rfl
@[simp] theorem seqK_ct (s : DS) (g : DStm) : seqK (.ok .ct s) g = .ok .ct s := rfl
@[simp] theorem seqK_exc (x : Xc) (s : DS) (g : DStm) : seqK (.exc x s) g = .exc x s := rfl
theorem q_sSeq (f g : DStm) (s : DS) : sSeq f g s = seqK (f s) g := rfl
def ifK (r : Res DS Bool) (f g : DStm) : Res DS Out := r.bind fun b s1 => if b = true then f s1 else g s1
@[simp] theorem ifK_t (s : DS) (f g : DStm) : ifK (.ok true s) f g = f s := rfl
@[simp] theorem ifK_f (s : DS) (f g : DStm) : ifK (.ok false s) f g = g s := rfl
theorem ifK_b (b : Bool) (s : DS) (f g : DStm) : ifK (.ok b s) f g = if b = true then f s else g s := by cases b <;> rfl
theorem q_sIf (c : DT) (f g : DStm) (s : DS) : sIf c f g s = ifK (c s) f g := rfl
/-! ### comprehensions over the images of a list of anything -/
theorem lcA_of {α : Type} {vs : List Nat} {g : DG} {t : DT} {e : DE} {s0 : DS} (G : α → D) (τ : α → Bool) (f : α → D) : ∀ (l : List α) (acc : List D), (∀ a ∈ l, ∃ s1 s2, g (G a) (wipeS vs s0) = .ok () s1 ∧ t s1 = .ok (τ a) s2 ∧ (τ a = true → ∃ s3, e s2 = .ok (f a) s3 ∧ wipeS vs s3 = wipeS vs s0) ∧ (τ a = false → wipeS vs s2 = wipeS vs s0)) →
    l.length + acc.length ≤ 1000000 → ∀ s, wipeS vs s = wipeS vs s0 → ∃ s', lcL vs g t e (l.map G) acc s = .ok (acc ++ (l.filter τ).map f) s' ∧ wipeS vs s' = wipeS vs s0
  | [], acc, _, _, s, hs => ⟨s, by simp [lcL], hs⟩
  | a :: r, acc, h, hl, s, hs => by
    obtain ⟨s1, s2, e1, e2, e3, e4⟩ := h a (List.mem_cons_self ..)
    have hr := fun d hd => h d (List.mem_cons_of_mem _ hd)
    simp only [List.length_cons] at hl
    rw [List.map_cons, r_lc_cons, hs, e1]
    cases hτ : τ a with
    | true =>
      obtain ⟨s3, e5, e6⟩ := e3 hτ
      obtain ⟨s', e7, e8⟩ := lcA_of G τ f r (acc ++ [f a]) hr (by simp; omega) s3 e6
      refine ⟨s', ?_, e8⟩
      have : acc.length < 1000000 := by omega
      simp [e2, hτ, e5, this, e7]
    | false =>
      obtain ⟨s', e7, e8⟩ := lcA_of G τ f r acc hr (by omega) s2 (e4 hτ)
      refine ⟨s', ?_, e8⟩
      simp [e2, hτ, e7]
theorem aLc_ofT {α : Type} {vs : List Nat} {it : DA} {g : DG} {t : DT} {e : DE} {s s0 : DS} {l : List α} (G : α → D) (τ : α → Bool) (f : α → D) (hi : it s = .ok (l.map G) s0) (h : ∀ a ∈ l, ∃ s1 s2, g (G a) (wipeS vs s0) = .ok () s1 ∧ t s1 = .ok (τ a) s2 ∧ (τ a = true → ∃ s3, e s2 = .ok (f a) s3 ∧ wipeS vs s3 = wipeS vs s0) ∧ (τ a = false → wipeS vs s2 = wipeS vs s0))
    (hl : l.length ≤ 1000000) : aLc vs it g t e s = .ok ((l.filter τ).map f) ⟨unwipe vs s0.sl (wipeD vs s0.sl), s0.st⟩ := by
  obtain ⟨s', e1, e2⟩ := lcA_of G τ f l [] h (by simpa using hl) s0 rfl
  have e3 : wipeD vs s'.sl = wipeD vs s0.sl := congrArg DS.sl e2
  have e4 : s'.st = s0.st := by have := congrArg DS.st e2; simpa using this
  rw [r_aLc, hi]
  simp [e1, e3, e4]
theorem aLc_of {α : Type} {vs : List Nat} {it : DA} {g : DG} {e : DE} {s s0 : DS} {l : List α} (G : α → D) (f : α → D) (hi : it s = .ok (l.map G) s0) (h : ∀ a ∈ l, ∃ s1 s3, g (G a) (wipeS vs s0) = .ok () s1 ∧ e s1 = .ok (f a) s3 ∧ wipeS vs s3 = wipeS vs s0)
    (hl : l.length ≤ 1000000) : aLc vs it g bYes e s = .ok (l.map f) ⟨unwipe vs s0.sl (wipeD vs s0.sl), s0.st⟩ := by
  have := aLc_ofT (vs := vs) (it := it) (g := g) (t := bYes) (e := e) (s := s) G (fun _ => true) f hi (fun d hd => by
    obtain ⟨s1, s3, e1, e2, e3⟩ := h d hd
    exact ⟨s1, s1, e1, rfl, fun _ => ⟨s3, e2, e3⟩, fun z => nomatch z⟩) hl
  rwa [List.filter_eq_self.mpr (fun _ _ => rfl)] at this
/-- one variable, an element that leaves the state -/
theorem aLc_T1 {α : Type} {v : Nat} {it : DA} {t : DT} {e : DE} {s s0 : DS} {l : List α} (G : α → D) (τ : α → Bool) (f : α → D) (hi : it s = .ok (l.map G) s0) (hv : s0.sl[v]? = some .un) (h : ∀ a ∈ l, t ⟨s0.sl.set v (.val (G a)), s0.st⟩ = .ok (τ a) ⟨s0.sl.set v (.val (G a)), s0.st⟩ ∧ (τ a = true → e ⟨s0.sl.set v (.val (G a)), s0.st⟩ = .ok (f a) ⟨s0.sl.set v (.val (G a)), s0.st⟩))
    (hl : l.length ≤ 1000000) : aLc [v] it (gN v) t e s = .ok ((l.filter τ).map f) s0 := by
  have hs : s0.sl.set v .un = s0.sl := by
    obtain ⟨h1, h2⟩ := List.getElem?_eq_some_iff.mp hv
    rw [← h2]; exact List.set_getElem_self h1
  have := aLc_ofT (vs := [v]) (it := it) (g := gN v) (t := t) (e := e) (s := s) (s0 := s0) G τ f hi (fun a ha => by
    obtain ⟨h1, h2⟩ := h a ha
    refine ⟨_, _, rfl, ?_, fun ht => ⟨_, h2 ht, ?_⟩, fun _ => ?_⟩
    · simp only [r_wipeS, r_wipe_cons, r_wipe_nil, List.set_set]; exact h1
    · simp only [r_wipeS, r_wipe_cons, r_wipe_nil, List.set_set]
    · simp only [r_wipeS, r_wipe_cons, r_wipe_nil, List.set_set]) hl
  rw [this]
  simp only [r_wipe_cons, r_wipe_nil, r_unw_cons, r_unw_nil, hv, List.set_set, hs]
theorem aLc_M1 {α : Type} {v : Nat} {it : DA} {e : DE} {s s0 : DS} {l : List α} (G : α → D) (f : α → D) (hi : it s = .ok (l.map G) s0) (hv : s0.sl[v]? = some .un) (h : ∀ a ∈ l, e ⟨s0.sl.set v (.val (G a)), s0.st⟩ = .ok (f a) ⟨s0.sl.set v (.val (G a)), s0.st⟩)
    (hl : l.length ≤ 1000000) : aLc [v] it (gN v) bYes e s = .ok (l.map f) s0 := by
  have := aLc_T1 (v := v) (it := it) (t := bYes) (e := e) (s := s) (s0 := s0) G (fun _ => true) f hi hv (fun a ha => ⟨rfl, fun _ => h a ha⟩) hl
  rwa [List.filter_eq_self.mpr (fun _ _ => rfl)] at this
theorem blsOf_map {α : Type} (f : α → Bool) (l : List α) : blsOf (l.map fun a => D.bl (f a)) = some (l.map f) := by
  induction l with
  | nil => rfl
  | cons a l ih => simp only [List.map_cons, blsOf, ih, Option.map_some]
theorem bAll_map {α : Type} (f : α → Bool) (l : List α) : bAll [.lst (l.map fun a => D.bl (f a))] = some (.bl (l.all f)) := by
  simp only [bAll, blsOf_map, Option.map_some, List.all_map]; rfl
theorem bAny_map {α : Type} (f : α → Bool) (l : List α) : bAny [.lst (l.map fun a => D.bl (f a))] = some (.bl (l.any f)) := by
  simp only [bAny, blsOf_map, Option.map_some, List.any_map]; rfl
theorem rngL0 (n : Nat) : rngL 0 n = (List.range n).map fun (i : Nat) => D.int (i : Int) := by
  unfold rngL
  refine List.map_congr_left fun i _ => ?_
  rw [Int.zero_add]
theorem plFs_map {α : Type} (f : α → D) (h : ∀ a, plF (f a)) (l : List α) : plFs (l.map f) := by
  induction l with
  | nil => simp
  | cons a l ih => simp [ih, h a]
theorem eqPls_map {α : Type} [DecidableEq α] (f : α → D) (h : ∀ a b, eqPl (f a) (f b) = decide (a = b)) : ∀ l m : List α, eqPls (l.map f) (m.map f) = decide (l = m)
  | [], [] => by simp
  | [], b :: m => by simp
  | a :: l, [] => by simp
  | a :: l, b :: m => by
    rw [List.map_cons, List.map_cons, eqPls_cons, h, eqPls_map f h l m, ← Bool.decide_and]
    simp
theorem at_map {α : Type} (f : α → D) {l : List α} {k : Nat} {a : α} (h : l[k]? = some a) : L2.atI (l.map f) (k : Int) = some (f a) := L2.atI_nat (by rw [List.getElem?_map, h]; rfl)
def kD (k : Nat) : D := .int (k : Int)
theorem itR1_n {f : DA} {s s1 : DS} {n : Nat} (h : f s = .ok [.int (n : Int)] s1) (hn : n ≤ 1000000) : itR1 f s = .ok ((List.range n).map kD) s1 := by
  obtain ⟨z, hz⟩ : ∃ z : Int, (n : Int) = z := ⟨_, rfl⟩
  have h0 : -4611686018427387904 ≤ z ∧ z < 4611686018427387904 := by omega
  have h1 : z.toNat = n := by omega
  rw [hz] at h
  have e : itR1 f s = .ok (rngL 0 z.toNat) s1 := by
    rw [r_itR1, h]
    simp [h0]
  rw [e, h1, rngL0]; rfl
/-- one statement ahead of the rest -/
theorem sq_nx {f R : DStm} {s s1 : DS} (h : f s = .ok .nx s1) : sSeq f R s = R s1 := by
  rw [r_sSeq, h]; rfl
/-- a call whose arguments leave the state -/
theorem set_c1 {i : Nat} {g : DFn} {a : DE} {s : DS} {x d : D} {S1 : List Cell} (ha : a s = .ok x s) (e : g [x] s.st = .ok d S1) : sSet i (eCall 1 g (aCons a aNil)) s = .ok .nx ⟨s.sl.set i (.val d), S1⟩ := by
  simp [ha, e]
theorem set_c2 {i : Nat} {g : DFn} {a b : DE} {s : DS} {x y d : D} {S1 : List Cell} (ha : a s = .ok x s) (hb : b s = .ok y s) (e : g [x, y] s.st = .ok d S1) : sSet i (eCall 2 g (aCons a (aCons b aNil))) s = .ok .nx ⟨s.sl.set i (.val d), S1⟩ := by
  simp [ha, hb, e]
theorem call_c1 {g : DFn} {a : DE} {s : DS} {x d : D} {S1 : List Cell} (ha : a s = .ok x s) (e : g [x] s.st = .ok d S1) : eCall 1 g (aCons a aNil) s = .ok d ⟨s.sl, S1⟩ := by
  simp [ha, e]
theorem call_c2 {g : DFn} {a b : DE} {s : DS} {x y d : D} {S1 : List Cell} (ha : a s = .ok x s) (hb : b s = .ok y s) (e : g [x, y] s.st = .ok d S1) : eCall 2 g (aCons a (aCons b aNil)) s = .ok d ⟨s.sl, S1⟩ := by
  simp [ha, hb, e]
theorem tup_2 {a b : DE} {s s1 s2 : DS} {x y : D} (ha : a s = .ok x s1) (hb : b s1 = .ok y s2) : eTup (aCons a (aCons b aNil)) s = .ok (.tup [x, y]) s2 := by
  simp [ha, hb]
theorem asg_t {f : DE} {g : DG} {s s1 s2 : DS} {d : D} (h : f s = .ok d s1) (k : g d s1 = .ok () s2) : sAsgT f g s = .ok .nx s2 := by
  simp [h, k]
theorem set_e {i : Nat} {f : DE} {s s1 : DS} {d : D} (h : f s = .ok d s1) : sSet i f s = .ok .nx ⟨s1.sl.set i (.val d), s1.st⟩ := by
  simp [h]
theorem set_o {i : Nat} {f : DA} {s s1 : DS} {ds : List D} (h : f s = .ok ds s1) : sSetO i f s = .ok .nx ⟨s1.sl.set i (.ol ds), s1.st⟩ := by
  simp [h]
theorem if_t {c : DT} {f g : DStm} {s s1 : DS} (h : c s = .ok true s1) : sIf c f g s = f s1 := by
  rw [r_sIf, h]; rfl
theorem if_f {c : DT} {f g : DStm} {s s1 : DS} (h : c s = .ok false s1) : sIf c f g s = g s1 := by
  rw [r_sIf, h]; rfl
theorem ret_e {f : DE} {s s1 : DS} {d : D} (h : f s = .ok d s1) : sRet f s = .ok (.rt d) s1 := by
  simp [h]
theorem sq_rt {f R : DStm} {s s1 : DS} {d : D} (h : f s = .ok (.rt d) s1) : sSeq f R s = .ok (.rt d) s1 := by
  rw [r_sSeq, h]; rfl
theorem op_2 {o : D → D → Option D} {a b : DE} {s s1 s2 : DS} {x y d : D} (ha : a s = .ok x s1) (hb : b s1 = .ok y s2) (h : o x y = some d) : eOp2 o a b s = .ok d s2 := by
  simp [ha, hb, h]
theorem eB_of {f : DE} {s s1 : DS} {b : Bool} (h : f s = .ok (.bl b) s1) : eB f s = .ok b s1 := by
  simp [h]
theorem and_t {f g : DT} {s s1 : DS} (h : f s = .ok true s1) : bAnd f g s = g s1 := by
  rw [r_bAnd, h]; rfl
theorem and_f {f g : DT} {s s1 : DS} (h : f s = .ok false s1) : bAnd f g s = .ok false s1 := by
  rw [r_bAnd, h]; rfl
theorem or_t {f g : DT} {s s1 : DS} (h : f s = .ok true s1) : bOr f g s = .ok true s1 := by
  rw [r_bOr, h]; rfl
theorem or_f {f g : DT} {s s1 : DS} (h : f s = .ok false s1) : bOr f g s = g s1 := by
  rw [r_bOr, h]; rfl
theorem fn_rt {n m : Nat} {b : DStm} {ds : List D} {S S' : List Cell} {d : D} {sl : List Sl} (hn : ds.length = n) (h : b ⟨ds.map .val ++ List.replicate m .un, S⟩ = .ok (.rt d) ⟨sl, S'⟩) : fnD n b m ds S = .ok d S' := by
  simp [fnD, hn, h]
theorem for_seq {f : DE} {g : DG} {b : DStm} {s s1 : DS} {d : D} {xs : List D} {r : Res DS Out} (hf : f s = .ok d s1) (hi : itemsD d = some xs) (h : forL g b xs s1 = r) : sFor (itSeq f) g b s = r := by
  rw [r_sFor, r_itSeq, hf]
  simp only [Res.bind_ok, hi, h]
theorem for_it {it : DA} {g : DG} {b : DStm} {s s1 : DS} {xs : List D} {r : Res DS Out} (hf : it s = .ok xs s1) (h : forL g b xs s1 = r) : sFor it g b s = r := by
  rw [r_sFor, hf]
  simp only [Res.bind_ok, h]
theorem frz_e {f : DA} {s s1 : DS} {xs : List D} (h : f s = .ok xs s1) : eFrz f s = .ok (.lst xs) s1 := by
  rw [r_eFrz, h]; rfl
theorem add_ll {xs ys : List D} (h : xs.length + ys.length ≤ 1000000) : dAdd (.lst xs) (.lst ys) = some (.lst (xs ++ ys)) := by
  rw [r_dAdd_ll, r_lAdd_ll, if_pos h]
theorem app_e {i : Nat} {f : DE} {s s1 : DS} {xs0 xs : List D} {d : D} (h0 : s.sl[i]? = some (.ol xs0)) (h : f s = .ok d s1) (h1 : s1.sl[i]? = some (.ol xs)) (hl : xs.length < 1000000) : sApp i (aCons f aNil) s = .ok .nx ⟨s1.sl.set i (.ol (xs ++ [d])), s1.st⟩ := by
  rw [r_sApp, h0]
  simp only [r_aCons, h, r_aNil, Res.bind_ok, h1, if_pos hl]
theorem for_1 {i : Nat} {b : DStm} {d : D} {r : List D} {s s1 : DS} (h : b ⟨s.sl.set i (.val d), s.st⟩ = .ok .nx s1) : forL (gN i) b (d :: r) s = forL (gN i) b r s1 := by
  rw [r_for_cons]
  simp only [r_gN, r_noX_ok, Res.bind_ok, h, r_lo_nx]
theorem for_rt {i : Nat} {b : DStm} {d v : D} {r : List D} {s s1 : DS} (h : b ⟨s.sl.set i (.val d), s.st⟩ = .ok (.rt v) s1) : forL (gN i) b (d :: r) s = .ok (.rt v) s1 := by
  rw [r_for_cons]
  simp only [r_gN, r_noX_ok, Res.bind_ok, h, r_lo_rt]
end DL
set_option maxRecDepth 100000
set_option maxHeartbeats 4000000
set_option autoImplicit false
namespace DL
/-! ### steps that leave the state -/
theorem set_k {i : Nat} {f : DE} {s : DS} {d : D} (h : f s = .ok d s) : sSet i f s = .ok .nx ⟨s.sl.set i (.val d), s.st⟩ := by
  simp [h]
/-- one assignment whose value leaves the state, ahead of the rest -/
theorem sq_set {i : Nat} {f : DE} {R : DStm} {s : DS} {d : D} (h : f s = .ok d s) : sSeq (sSet i f) R s = R ⟨s.sl.set i (.val d), s.st⟩ := by
  rw [r_sSeq, set_k h]; rfl
theorem sq_if_f {c : DT} {f R : DStm} {s s1 : DS} (h : c s = .ok false s1) : sSeq (sIf c f sPass) R s = R s1 := by
  rw [r_sSeq, if_f h]; rfl
theorem sq_par {i j : Nat} {a b : DE} {R : DStm} {s s1 s2 : DS} {x y : D} (ha : a s = .ok x s1) (hb : b s1 = .ok y s2) : sSeq (sPar i j (aCons a (aCons b aNil))) R s = R ⟨(s2.sl.set i (.val x)).set j (.val y), s2.st⟩ := by
  simp [ha, hb]
theorem neg_e {f : DE} {s s1 : DS} {x : Int} (h : f s = .ok (.int x) s1) : eNeg f s = .ok (.int (-x)) s1 := by
  simp [h]
theorem not_e {f : DT} {s s1 : DS} {b : Bool} (h : f s = .ok b s1) : bNot f s = .ok (!b) s1 := by
  simp [h]
theorem tru_e {f : DE} {s s1 : DS} {b : Bool} (h : f s = .ok (.bl b) s1) : eTru f s = .ok b s1 := by
  simp [h]
theorem call_c3 {g : DFn} {a b c : DE} {s : DS} {x y z d : D} {S1 : List Cell} (ha : a s = .ok x s) (hb : b s = .ok y s) (hc : c s = .ok z s) (e : g [x, y, z] s.st = .ok d S1) : eCall 3 g (aCons a (aCons b (aCons c aNil))) s = .ok d ⟨s.sl, S1⟩ := by
  simp [ha, hb, hc, e]
theorem andT_t {f g : DE} {s s1 s2 : DS} {d : D} (h : f s = .ok (.bl true) s1) (k : g s1 = .ok d s2) : eAndT f g s = .ok d s2 := by
  simp [h, k]
theorem call_c0 {g : DFn} {s : DS} {d : D} {S1 : List Cell} (e : g [] s.st = .ok d S1) : eCall 0 g aNil s = .ok d ⟨s.sl, S1⟩ := by
  simp [e]
end DL
set_option maxRecDepth 100000
set_option maxHeartbeats 4000000
namespace W_k54
open PySem PySem.Spec PyProof.Rows L2 DL
noncomputable section
abbrev kd_MIRRORED : List (Nm × D) := [([101], .str [119]), ([110], .str [110]), ([119], .str [101]), ([115], .str [115])]
abbrev kd_TURNED : List (Nm × D) := [([101], .str [119]), ([110], .str [115]), ([119], .str [101]), ([115], .str [110])]
def topS (i : Nat) : Stmt := PySem.Challenge.pw_areawalks_k54_whole_far_lots.main.body.getD i (.Pass ⟨0, 0, 0, 0⟩)
theorem s_0 : ("value" : Str) = nm [118, 97, 108, 117, 101] := by decide +kernel
theorem s_1 : ("east" : Str) = nm [101, 97, 115, 116] := by decide +kernel
theorem s_2 : ("north" : Str) = nm [110, 111, 114, 116, 104] := by decide +kernel
theorem s_3 : ("west" : Str) = nm [119, 101, 115, 116] := by decide +kernel
theorem s_4 : ("south" : Str) = nm [115, 111, 117, 116, 104] := by decide +kernel
theorem s_5 : ("ends" : Str) = nm [101, 110, 100, 115] := by decide +kernel
theorem s_6 : ("runs" : Str) = nm [114, 117, 110, 115] := by decide +kernel
theorem s_7 : ("w" : Str) = nm [119] := by decide +kernel
theorem s_8 : ("n" : Str) = nm [110] := by decide +kernel
theorem s_9 : ("s" : Str) = nm [115] := by decide +kernel
theorem s_10 : ("e" : Str) = nm [101] := by decide +kernel
theorem s_11 : ("swept_areas" : Str) = nm [115, 119, 101, 112, 116, 95, 97, 114, 101, 97, 115] := by decide +kernel
theorem s_12 : ("rest" : Str) = nm [114, 101, 115, 116] := by decide +kernel
theorem s_13 : ("mark" : Str) = nm [109, 97, 114, 107] := by decide +kernel
theorem s_14 : ("cells" : Str) = nm [99, 101, 108, 108, 115] := by decide +kernel
theorem s_15 : ("ew" : Str) = nm [101, 119] := by decide +kernel
theorem s_16 : ("x" : Str) = nm [120] := by decide +kernel
theorem s_17 : ("y" : Str) = nm [121] := by decide +kernel
theorem s_18 : ("area" : Str) = nm [97, 114, 101, 97] := by decide +kernel
theorem s_19 : ("spots" : Str) = nm [115, 112, 111, 116, 115] := by decide +kernel
theorem s_20 : ("enws" : Str) = nm [101, 110, 119, 115] := by decide +kernel
theorem s_21 : ("walk_with" : Str) = nm [119, 97, 108, 107, 95, 119, 105, 116, 104] := by decide +kernel
theorem s_22 : ("place" : Str) = nm [112, 108, 97, 99, 101] := by decide +kernel
abbrev xst_BadNumber : Stmt := inClass (topS 3) 0
theorem xsh_BadNumber : XSh xst_BadNumber "self" "value" "value" := ⟨_, _, _, _, _, _, _, _, _, _, _, rfl, rfl, rfl, rfl, rfl, rfl, rfl, by decide +kernel, rfl, rfl, rfl, by decide⟩
abbrev xst_BadWord : Stmt := inClass (topS 5) 0
theorem xsh_BadWord : XSh xst_BadWord "self" "value" "value" := ⟨_, _, _, _, _, _, _, _, _, _, _, rfl, rfl, rfl, rfl, rfl, rfl, rfl, by decide +kernel, rfl, rfl, rfl, by decide⟩
/-! is_integer -/
abbrev st_is_integer : Stmt := topS 8
theorem sc_is_integer : FnScope ["value"] ["value"] (defScope st_is_integer) := ⟨rfl, rfl, rfl, by decide +kernel, rfl, by decide +kernel, by decide +kernel⟩
/-! is_whole -/
abbrev st_is_whole : Stmt := topS 9
theorem sc_is_whole : FnScope ["value", "least"] ["value", "least"] (defScope st_is_whole) := ⟨rfl, rfl, rfl, by decide +kernel, rfl, by decide +kernel, by decide +kernel⟩
/-! Lot.__init__ -/
abbrev st_LotX_initX : Stmt := inClass (topS 32) 0
theorem sc_LotX_initX : FnScope ["self", "east", "north", "west", "south", "value"] ["self", "east", "north", "west", "south"] (defScope st_LotX_initX) := ⟨rfl, rfl, rfl, by decide +kernel, rfl, by decide +kernel, by decide +kernel⟩
/-! Lot.ends -/
abbrev st_Lot_ends : Stmt := inClass (topS 32) 2
theorem sc_Lot_ends : FnScope ["self"] ["self"] (defScope st_Lot_ends) := ⟨rfl, rfl, rfl, by decide +kernel, rfl, by decide +kernel, by decide +kernel⟩
/-! Lot.swept_areas -/
abbrev st_Lot_swept_areas : Stmt := inClass (topS 32) 3
theorem sc_Lot_swept_areas : FnScope ["self", "x", "y", "most"] ["self"] (defScope st_Lot_swept_areas) := ⟨rfl, rfl, rfl, by decide +kernel, rfl, by decide +kernel, by decide +kernel⟩
/-! merged -/
abbrev st_merged : Stmt := topS 22
theorem sc_merged : FnScope ["pairs", "found", "letter", "times"] ["pairs"] (defScope st_merged) := ⟨rfl, rfl, rfl, by decide +kernel, rfl, by decide +kernel, by decide +kernel⟩
/-! is_list -/
abbrev st_is_list : Stmt := topS 10
theorem sc_is_list : FnScope ["value"] ["value"] (defScope st_is_list) := ⟨rfl, rfl, rfl, by decide +kernel, rfl, by decide +kernel, by decide +kernel⟩
/-! is_pair -/
abbrev st_is_pair : Stmt := topS 21
theorem sc_is_pair : FnScope ["value"] ["value"] (defScope st_is_pair) := ⟨rfl, rfl, rfl, by decide +kernel, rfl, by decide +kernel, by decide +kernel⟩
/-! pairs_told -/
abbrev st_pairs_told : Stmt := topS 20
theorem sc_pairs_told : FnScope ["told", "letter", "pair"] ["told"] (defScope st_pairs_told) := ⟨rfl, rfl, rfl, by decide +kernel, rfl, by decide +kernel, by decide +kernel⟩
/-! Walk.__init__ -/
abbrev st_WalkX_initX : Stmt := inClass (topS 24) 0
theorem sc_WalkX_initX : FnScope ["self", "told"] ["self", "told"] (defScope st_WalkX_initX) := ⟨rfl, rfl, rfl, by decide +kernel, rfl, by decide +kernel, by decide +kernel⟩
/-! falling_pairs -/
abbrev st_falling_pairs : Stmt := topS 30
theorem sc_falling_pairs : FnScope ["east", "north", "west", "south", "area", "low", "full", "part", "wide", "lifted", "rest", "found"] ["east", "north", "west", "south", "area"] (defScope st_falling_pairs) := ⟨rfl, rfl, rfl, by decide +kernel, rfl, by decide +kernel, by decide +kernel⟩
/-! rising_pairs -/
abbrev st_rising_pairs : Stmt := topS 29
theorem sc_rising_pairs : FnScope ["east", "north", "west", "south", "area", "columns", "cells"] ["east", "north", "west", "south", "area"] (defScope st_rising_pairs) := ⟨rfl, rfl, rfl, by decide +kernel, rfl, by decide +kernel, by decide +kernel⟩
/-! swept_pairs -/
abbrev st_swept_pairs : Stmt := topS 31
theorem sc_swept_pairs : FnScope ["east", "north", "west", "south", "area", "pairs", "letter", "times"] ["east", "north", "west", "south", "area"] (defScope st_swept_pairs) := ⟨rfl, rfl, rfl, by decide +kernel, rfl, by decide +kernel, by decide +kernel⟩
/-! Lot.walk_with -/
abbrev st_Lot_walk_with : Stmt := inClass (topS 32) 4
theorem sc_Lot_walk_with : FnScope ["self", "area", "low", "high"] ["self", "area"] (defScope st_Lot_walk_with) := ⟨rfl, rfl, rfl, by decide +kernel, rfl, by decide +kernel, by decide +kernel⟩
/-! _law_begin -/
abbrev st__law_begin : Stmt := topS 36
theorem sc__law_begin : FnScope ["_law_script"] ["_law_script"] (defScope st__law_begin) := ⟨rfl, rfl, rfl, by decide +kernel, rfl, by decide +kernel, by decide +kernel⟩
/-! _law_draw -/
abbrev st__law_draw : Stmt := topS 37
theorem sc__law_draw : FnScope ["_law_pen", "_law_span", "_law_digit", "_law_at", "_law_cell", "_law_n"] ["_law_pen", "_law_span"] (defScope st__law_draw) := ⟨rfl, rfl, rfl, by decide +kernel, rfl, by decide +kernel, by decide +kernel⟩
/-! _law_number -/
abbrev st__law_number : Stmt := topS 40
theorem sc__law_number : FnScope ["_law_pen", "_law_groups", "_law_found", "_law_k"] ["_law_pen", "_law_groups"] (defScope st__law_number) := ⟨rfl, rfl, rfl, by decide +kernel, rfl, by decide +kernel, by decide +kernel⟩
/-! _law_great -/
abbrev st__law_great : Stmt := topS 41
theorem sc__law_great : FnScope ["_law_pen"] ["_law_pen"] (defScope st__law_great) := ⟨rfl, rfl, rfl, by decide +kernel, rfl, by decide +kernel, by decide +kernel⟩
/-! _law_pick -/
abbrev st__law_pick : Stmt := topS 38
theorem sc__law_pick : FnScope ["_law_pen", "_law_some"] ["_law_pen", "_law_some"] (defScope st__law_pick) := ⟨rfl, rfl, rfl, by decide +kernel, rfl, by decide +kernel, by decide +kernel⟩
/-! _law_signed -/
abbrev st__law_signed : Stmt := topS 42
theorem sc__law_signed : FnScope ["_law_pen"] ["_law_pen"] (defScope st__law_signed) := ⟨rfl, rfl, rfl, by decide +kernel, rfl, by decide +kernel, by decide +kernel⟩
/-! best_sides -/
abbrev st_best_sides : Stmt := topS 14
theorem sc_best_sides : FnScope ["x", "y", "extra"] ["x", "y", "extra"] (defScope st_best_sides) := ⟨rfl, rfl, rfl, by decide +kernel, rfl, by decide +kernel, by decide +kernel⟩
/-! areas_of -/
abbrev st_areas_of : Stmt := topS 15
theorem sc_areas_of : FnScope ["x", "y", "number", "extra", "wide", "high", "span"] ["x", "y", "number"] (defScope st_areas_of) := ⟨rfl, rfl, rfl, by decide +kernel, rfl, by decide +kernel, by decide +kernel⟩
/-! areas -/
abbrev st_areas : Stmt := topS 34
theorem sc_areas : FnScope ["x", "y", "number", "value"] ["x", "y", "number"] (defScope st_areas) := ⟨rfl, rfl, rfl, by decide +kernel, rfl, by decide +kernel, by decide +kernel⟩
/-! _law_best_right -/
abbrev st__law_best_right : Stmt := topS 50
theorem sc__law_best_right : FnScope ["_law_pen", "_law_x", "_law_y", "_law_extra", "_law_told", "_law_aside", "_law_found", "_law_wide", "_law_east", "_law_west", "_law_high", "_law_north", "_law_south", "_law_low"] ["_law_pen"] (defScope st__law_best_right) := ⟨rfl, rfl, rfl, by decide +kernel, rfl, by decide +kernel, by decide +kernel⟩
/-! _law_step -/
abbrev st__law_step : Stmt := topS 43
theorem sc__law_step : FnScope ["_law_spot", "_law_letter", "_law_times", "_law_x", "_law_y", "_law_area"] ["_law_spot", "_law_letter", "_law_times"] (defScope st__law_step) := ⟨rfl, rfl, rfl, by decide +kernel, rfl, by decide +kernel, by decide +kernel⟩
/-! _law_led -/
abbrev st__law_led : Stmt := topS 44
theorem sc__law_led : FnScope ["_law_runs", "_law_spot", "_law_letter", "_law_times"] ["_law_runs"] (defScope st__law_led) := ⟨rfl, rfl, rfl, by decide +kernel, rfl, by decide +kernel, by decide +kernel⟩
/-! _law_greatest -/
abbrev st__law_greatest : Stmt := topS 47
theorem sc__law_greatest : FnScope ["_law_lot_here", "_law_east", "_law_north", "_law_west", "_law_south", "_law_one", "_law_other", "_law_third", "_law_last", "_law_spot"] ["_law_lot_here"] (defScope st__law_greatest) := ⟨rfl, rfl, rfl, by decide +kernel, rfl, by decide +kernel, by decide +kernel⟩
/-! Place.__init__ -/
abbrev st_PlaceX_initX : Stmt := inClass (topS 12) 0
theorem sc_PlaceX_initX : FnScope ["self", "x", "y", "area", "value"] ["self", "x", "y", "area"] (defScope st_PlaceX_initX) := ⟨rfl, rfl, rfl, by decide +kernel, rfl, by decide +kernel, by decide +kernel⟩
/-! gone_on -/
abbrev st_gone_on : Stmt := topS 23
theorem sc_gone_on : FnScope ["spot", "letter", "times", "x", "y", "area"] ["spot", "letter", "times"] (defScope st_gone_on) := ⟨rfl, rfl, rfl, by decide +kernel, rfl, by decide +kernel, by decide +kernel⟩
/-! Walk.spots -/
abbrev st_Walk_spots : Stmt := inClass (topS 24) 6
theorem sc_Walk_spots : FnScope ["self", "found", "letter", "times"] ["self"] (defScope st_Walk_spots) := ⟨rfl, rfl, rfl, by decide +kernel, rfl, by decide +kernel, by decide +kernel⟩
/-! Walk.place -/
abbrev st_Walk_place : Stmt := inClass (topS 24) 5
theorem sc_Walk_place : FnScope ["self", "spot"] ["self"] (defScope st_Walk_place) := ⟨rfl, rfl, rfl, by decide +kernel, rfl, by decide +kernel, by decide +kernel⟩
/-! _law_counts -/
abbrev st__law_counts : Stmt := topS 45
theorem sc__law_counts : FnScope ["_law_runs", "_law_kind", "_law_letter", "_law_times"] ["_law_runs"] (defScope st__law_counts) := ⟨rfl, rfl, rfl, by decide +kernel, rfl, by decide +kernel, by decide +kernel⟩
/-! _law_is_walked -/
abbrev st__law_is_walked : Stmt := topS 49
theorem sc__law_is_walked : FnScope ["_law_told", "_law_lot_here", "_law_area", "_law_walk"] ["_law_told", "_law_lot_here", "_law_area"] (defScope st__law_is_walked) := ⟨rfl, rfl, rfl, by decide +kernel, rfl, by decide +kernel, by decide +kernel⟩
/-! _law_lot -/
abbrev st__law_lot : Stmt := topS 46
theorem sc__law_lot : FnScope ["_law_pen", "_law_k"] ["_law_pen"] (defScope st__law_lot) := ⟨rfl, rfl, rfl, by decide +kernel, rfl, by decide +kernel, by decide +kernel⟩
/-! _law_shuffled -/
abbrev st__law_shuffled : Stmt := topS 39
theorem sc__law_shuffled : FnScope ["_law_pen", "_law_some", "_law_left", "_law_found"] ["_law_pen", "_law_some"] (defScope st__law_shuffled) := ⟨rfl, rfl, rfl, by decide +kernel, rfl, by decide +kernel, by decide +kernel⟩
/-! _law_parted -/
abbrev st__law_parted : Stmt := topS 48
theorem sc__law_parted : FnScope ["_law_pen", "_law_lot_here", "_law_runs", "_law_k", "_law_left", "_law_part", "_law_here"] ["_law_pen", "_law_lot_here"] (defScope st__law_parted) := ⟨rfl, rfl, rfl, by decide +kernel, rfl, by decide +kernel, by decide +kernel⟩
/-! law -/
abbrev st_law : Stmt := topS 51
theorem sc_law : FnScope ["_law_script", "_law_pen", "_law_turn", "_law_lot_here", "_law_east", "_law_north", "_law_west", "_law_south", "_law_told", "_law_low", "_law_high", "_law_area", "_law_again", "_law_runs", "_law_spot"] ["_law_script"] (defScope st_law) := ⟨rfl, rfl, rfl, by decide +kernel, rfl, by decide +kernel, by decide +kernel⟩
def b_is_integer : DStm := sRet (eAndT (eCB (bIsi ["Place", "Walk", "Lot"]) (aCons (eVar 0) (aCons (eC (.ty "int")) (aNil)))) (eNotT (eCB (bIsi ["Place", "Walk", "Lot"]) (aCons (eVar 0) (aCons (eC (.ty "bool")) (aNil))))))
def g_is_integer : DFn := fnD 1 b_is_integer 0
def b_is_whole : DStm := sRet (eAndT (eCall 1 g_is_integer (aCons (eVar 0) (aNil))) (eOp2 iGe (eVar 0) (eVar 1)))
def g_is_whole : DFn := fnD 2 b_is_whole 0
def w_LotX_initX_0 : DStm := sIf (bNot (eTru (eCall 2 g_is_whole (aCons (eVar 5) (aCons (eC (.int 0)) (aNil)))))) (sRaise "BadNumber" [118, 97, 108, 117, 101] (aCons (eVar 5) (aNil))) (sPass)
def b_LotX_initX : DStm := sSeq (sFor (itSeq (eTup (aCons (eVar 1) (aCons (eVar 2) (aCons (eVar 3) (aCons (eVar 4) (aNil))))))) (gN 5) (w_LotX_initX_0))
    (sSeq (sFldO "Lot" 0 [101, 97, 115, 116] (eVar 1))
    (sSeq (sFldO "Lot" 0 [110, 111, 114, 116, 104] (eVar 2))
    (sSeq (sFldO "Lot" 0 [119, 101, 115, 116] (eVar 3))
    (sFldO "Lot" 0 [115, 111, 117, 116, 104] (eVar 4)))))
def g_LotX_initX : DIn := inD "Lot" 4 b_LotX_initX 1
def b_Lot_ends : DStm := sRet (eTup (aCons (eOp2 iSub (eFld ["Lot"] [101, 97, 115, 116] (eVar 0)) (eFld ["Lot"] [119, 101, 115, 116] (eVar 0))) (aCons (eOp2 iSub (eFld ["Lot"] [110, 111, 114, 116, 104] (eVar 0)) (eFld ["Lot"] [115, 111, 117, 116, 104] (eVar 0))) (aNil))))
def g_Lot_ends : DFn := fnD 1 b_Lot_ends 0
def b_Lot_swept_areas : DStm := sSeq (sAsgT (eMeth "Lot" [101, 110, 100, 115] 1 g_Lot_ends (eVar 0) aNil) (gT 2 (gsCons (gN 1) (gsCons (gN 2) (gsNil)))))
    (sSeq (sSet 3 (eOp2 dMul (eCB (bMax2) (aCons (eCB (bInt) (aCons (eFld ["Lot"] [101, 97, 115, 116] (eVar 0)) (aNil))) (aCons (eCB (bInt) (aCons (eFld ["Lot"] [119, 101, 115, 116] (eVar 0)) (aNil))) (aNil)))) (eCB (bMax2) (aCons (eCB (bInt) (aCons (eFld ["Lot"] [110, 111, 114, 116, 104] (eVar 0)) (aNil))) (aCons (eCB (bInt) (aCons (eFld ["Lot"] [115, 111, 117, 116, 104] (eVar 0)) (aNil))) (aNil))))))
    (sRet (eTup (aCons (eOp2 iSub (eCB (bMax2) (aCons (eC (.int 0)) (aCons (eCB (bInt) (aCons (eOp2 dMul (eVar 1) (eVar 2)) (aNil))) (aNil)))) (eVar 3)) (aCons (eOp2 iSub (eVar 3) (eCB (bMax2) (aCons (eC (.int 0)) (aCons (eCB (bInt) (aCons (eOp2 dMul (eNeg (eVar 1)) (eVar 2)) (aNil))) (aNil))))) (aNil))))))
def g_Lot_swept_areas : DFn := fnD 1 b_Lot_swept_areas 3
def w_merged_0 : DStm := sIf (bAnd (eTruO 1) (eB (eOp2 dEq (eIx (eIxO 1 (eNeg (eC (.int 1)))) (eC (.int 0))) (eVar 2)))) (sIxO 1 (eNeg (eC (.int 1))) (eTup (aCons (eVar 2) (aCons (eOp2 dAdd (eIx (eIxO 1 (eNeg (eC (.int 1)))) (eC (.int 1))) (eVar 3)) (aNil))))) (sIf (eB (eOp2 iGt (eVar 3) (eC (.int 0)))) (sApp 1 (aCons (eTup (aCons (eVar 2) (aCons (eVar 3) (aNil)))) (aNil))) (sPass))
def b_merged : DStm := sSeq (sSetO 1 (aMax (aNil)))
    (sSeq (sFor (itSeq (eVar 0)) (gT 2 (gsCons (gN 2) (gsCons (gN 3) (gsNil)))) (w_merged_0))
    (sRet (eCB (bTup) (aCons (eVar 1) (aNil)))))
def g_merged : DFn := fnD 1 b_merged 3
def b_is_list : DStm := sRet (eIsT ["Place", "Walk", "Lot"] (eVar 0) (aCons (eC (.ty "list")) (aCons (eC (.ty "tuple")) (aNil))))
def g_is_list : DFn := fnD 1 b_is_list 0
def b_is_pair : DStm := sSeq (sIf (bOr (bNot (eTru (eCall 1 g_is_list (aCons (eVar 0) (aNil))))) (bOr (eB (eOp2 dNe (eCB (bLen) (aCons (eVar 0) (aNil))) (eC (.int 2)))) (bNot (eTru (eCB (bIsi ["Place", "Walk", "Lot"]) (aCons (eIx (eVar 0) (eC (.int 0))) (aCons (eC (.ty "str")) (aNil)))))))) (sRet (eC (.bl false))) (sPass))
    (sRet (eAndT (eOp2 dEq (eCB (bLen) (aCons (eIx (eVar 0) (eC (.int 0))) (aNil))) (eC (.int 1))) (eAndT (eOp2 (dIn false) (eIx (eVar 0) (eC (.int 0))) (eC (.str [101, 110, 119, 115]))) (eCall 2 g_is_whole (aCons (eIx (eVar 0) (eC (.int 1))) (aCons (eC (.int 0)) (aNil)))))))
def g_is_pair : DFn := fnD 1 b_is_pair 0
def e_pairs_told_0 : DE := eOp2 (dIn false) (eVar 1) (eC (.str [101, 110, 119, 115]))
def e_pairs_told_1 : DE := eTup (aCons (eVar 1) (aCons (eC (.int 1)) (aNil)))
def e_pairs_told_2 : DE := eCall 1 g_is_pair (aCons (eVar 2) (aNil))
def e_pairs_told_3 : DE := eTup (aCons (eIx (eVar 2) (eC (.int 0))) (aCons (eIx (eVar 2) (eC (.int 1))) (aNil)))
def b_pairs_told : DStm := sSeq (sIf (bAnd (eTru (eCB (bIsi ["Place", "Walk", "Lot"]) (aCons (eVar 0) (aCons (eC (.ty "str")) (aNil))))) (bAnd (eB (eOp2 iLe (eCB (bLen) (aCons (eVar 0) (aNil))) (eC (.int 10000)))) (eTru (eCB (bAll) (aCons (eFrz (aLc [1] (itSeq (eVar 0)) (gN 1) (bYes) (e_pairs_told_0))) (aNil)))))) (sRet (eFrz (aLc [1] (itSeq (eVar 0)) (gN 1) (bYes) (e_pairs_told_1)))) (sPass))
    (sSeq (sIf (bAnd (eTru (eCall 1 g_is_list (aCons (eVar 0) (aNil)))) (bAnd (eB (eOp2 iLe (eCB (bLen) (aCons (eVar 0) (aNil))) (eC (.int 10000)))) (eTru (eCB (bAll) (aCons (eFrz (aLc [2] (itSeq (eVar 0)) (gN 2) (bYes) (e_pairs_told_2))) (aNil)))))) (sRet (eFrz (aLc [2] (itSeq (eVar 0)) (gN 2) (bYes) (e_pairs_told_3)))) (sPass))
    (sRaise "BadWord" [118, 97, 108, 117, 101] (aCons (eVar 0) (aNil))))
def g_pairs_told : DFn := fnD 1 b_pairs_told 2
def b_WalkX_initX : DStm := sFldO "Walk" 0 [114, 117, 110, 115] (eCall 1 g_merged (aCons (eCall 1 g_pairs_told (aCons (eVar 1) (aNil))) (aNil)))
def g_WalkX_initX : DIn := inD "Walk" 1 b_WalkX_initX 0
def b_falling_pairs : DStm := sSeq (sSet 5 (eCB (bMin2) (aCons (eCB (bInt) (aCons (eVar 4) (aNil))) (aCons (eCB (bInt) (aCons (eOp2 dMul (eVar 2) (eVar 3)) (aNil))) (aNil)))))
    (sSeq (sAsgT (eIf (eB (eOp2 iGt (eVar 2) (eC (.int 0)))) (eCB (bDivmod) (aCons (eVar 5) (aCons (eVar 2) (aNil)))) (eTup (aCons (eC (.int 0)) (aCons (eC (.int 0)) (aNil))))) (gT 2 (gsCons (gN 6) (gsCons (gN 7) (gsNil)))))
    (sSeq (sSet 8 (eOp2 iSub (eVar 0) (eVar 2)))
    (sSeq (sAsgT (eIf (eB (eOp2 iGt (eVar 8) (eC (.int 0)))) (eCB (bDivmod) (aCons (eOp2 iSub (eVar 4) (eVar 5)) (aCons (eVar 8) (aNil)))) (eTup (aCons (eC (.int 0)) (aCons (eC (.int 0)) (aNil))))) (gT 2 (gsCons (gN 9) (gsCons (gN 10) (gsNil)))))
    (sSeq (sSet 11 (eFrz (aMax (aCons (eTup (aCons (eC (.str [115])) (aCons (eOp2 iSub (eOp2 iSub (eVar 3) (eVar 6)) (eCB (bInt) (aCons (eOp2 iGt (eVar 7) (eC (.int 0))) (aNil)))) (aNil)))) (aCons (eTup (aCons (eC (.str [110])) (aCons (eOp2 iSub (eOp2 iSub (eVar 1) (eVar 9)) (eCB (bInt) (aCons (eOp2 iGt (eVar 10) (eC (.int 0))) (aNil)))) (aNil)))) (aCons (eTup (aCons (eC (.str [119])) (aCons (eVar 7) (aNil)))) (aNil)))))))
    (sSeq (sSet 11 (eOp2 dAdd (eVar 11) (eFrz (aMax (aCons (eTup (aCons (eC (.str [115])) (aCons (eCB (bInt) (aCons (eOp2 iGt (eVar 7) (eC (.int 0))) (aNil))) (aNil)))) (aCons (eTup (aCons (eC (.str [119])) (aCons (eOp2 iSub (eVar 2) (eVar 7)) (aNil)))) (aCons (eTup (aCons (eC (.str [115])) (aCons (eVar 6) (aNil)))) (aCons (eTup (aCons (eC (.str [101])) (aCons (eOp2 dAdd (eVar 2) (eVar 10)) (aNil)))) (aCons (eTup (aCons (eC (.str [110])) (aCons (eCB (bInt) (aCons (eOp2 iGt (eVar 10) (eC (.int 0))) (aNil))) (aNil)))) (aNil))))))))))
    (sRet (eOp2 dAdd (eVar 11) (eFrz (aMax (aCons (eTup (aCons (eC (.str [101])) (aCons (eOp2 iSub (eVar 8) (eVar 10)) (aNil)))) (aCons (eTup (aCons (eC (.str [110])) (aCons (eVar 9) (aNil)))) (aNil))))))))))))
def g_falling_pairs : DFn := fnD 5 b_falling_pairs 7
def b_rising_pairs : DStm := sSeq (sIf (bOr (eB (eOp2 dEq (eVar 1) (eC (.int 0)))) (eB (eOp2 dEq (eVar 0) (eC (.int 0))))) (sRet (eFrz (aMax (aCons (eTup (aCons (eC (.str [115])) (aCons (eVar 3) (aNil)))) (aCons (eTup (aCons (eC (.str [101])) (aCons (eVar 0) (aNil)))) (aCons (eTup (aCons (eC (.str [110])) (aCons (eVar 1) (aNil)))) (aCons (eTup (aCons (eC (.str [119])) (aCons (eVar 2) (aNil)))) (aNil)))))))) (sPass))
    (sSeq (sAsgT (eCB (bDivmod) (aCons (eOp2 iSub (eOp2 dMul (eVar 0) (eVar 1)) (eVar 4)) (aCons (eVar 1) (aNil)))) (gT 2 (gsCons (gN 5) (gsCons (gN 6) (gsNil)))))
    (sSeq (sIf (eB (eOp2 dEq (eVar 5) (eVar 0))) (sPar 5 6 (aCons (eOp2 iSub (eVar 0) (eC (.int 1))) (aCons (eVar 1) (aNil)))) (sPass))
    (sRet (eFrz (aMax (aCons (eTup (aCons (eC (.str [115])) (aCons (eVar 3) (aNil)))) (aCons (eTup (aCons (eC (.str [101])) (aCons (eOp2 iSub (eOp2 iSub (eVar 0) (eC (.int 1))) (eVar 5)) (aNil)))) (aCons (eTup (aCons (eC (.str [110])) (aCons (eVar 6) (aNil)))) (aCons (eTup (aCons (eC (.str [101])) (aCons (eC (.int 1)) (aNil)))) (aCons (eTup (aCons (eC (.str [110])) (aCons (eOp2 iSub (eVar 1) (eVar 6)) (aNil)))) (aCons (eTup (aCons (eC (.str [101])) (aCons (eVar 5) (aNil)))) (aCons (eTup (aCons (eC (.str [119])) (aCons (eVar 2) (aNil)))) (aNil)))))))))))))
def g_rising_pairs : DFn := fnD 5 b_rising_pairs 2
def b_swept_pairs (g_swept_pairs_n : DFn) : DStm := sSeq (sIf (eB (eOp2 iLt (eVar 4) (eC (.int 0)))) (sSeq (sSet 5 (eCall 5 g_swept_pairs_n (aCons (eVar 2) (aCons (eVar 1) (aCons (eVar 0) (aCons (eVar 3) (aCons (eNeg (eVar 4)) (aNil))))))))
    (sRet (eFrz (aLc [6, 7] (itSeq (eVar 5)) (gT 2 (gsCons (gN 6) (gsCons (gN 7) (gsNil)))) (bYes) (eTup (aCons (eKd kd_MIRRORED (eVar 6)) (aCons (eVar 7) (aNil)))))))) (sPass))
    (sSeq (sIf (bOr (eB (eOp2 iLt (eVar 0) (eVar 2))) (bAnd (eB (eOp2 dEq (eVar 0) (eVar 2))) (eB (eOp2 iLt (eVar 1) (eVar 3))))) (sSeq (sSet 5 (eCall 5 g_swept_pairs_n (aCons (eVar 2) (aCons (eVar 3) (aCons (eVar 0) (aCons (eVar 1) (aCons (eVar 4) (aNil))))))))
    (sRet (eFrz (aLc [6, 7] (itSeq (eVar 5)) (gT 2 (gsCons (gN 6) (gsCons (gN 7) (gsNil)))) (bYes) (eTup (aCons (eKd kd_TURNED (eVar 6)) (aCons (eVar 7) (aNil)))))))) (sPass))
    (sSeq (sIf (eB (eOp2 iGe (eVar 1) (eVar 3))) (sRet (eCall 5 g_rising_pairs (aCons (eVar 0) (aCons (eVar 1) (aCons (eVar 2) (aCons (eVar 3) (aCons (eVar 4) (aNil)))))))) (sPass))
    (sRet (eCall 5 g_falling_pairs (aCons (eVar 0) (aCons (eVar 1) (aCons (eVar 2) (aCons (eVar 3) (aCons (eVar 4) (aNil))))))))))
def g_swept_pairs : Nat → DFn
  | 0 => fun _ _ => .stuck
  | n + 1 => fnD 5 (b_swept_pairs (g_swept_pairs n)) 3
def b_Lot_walk_with : DStm := sSeq (sAsgT (eMeth "Lot" [115, 119, 101, 112, 116, 95, 97, 114, 101, 97, 115] 1 g_Lot_swept_areas (eVar 0) aNil) (gT 2 (gsCons (gN 2) (gsCons (gN 3) (gsNil)))))
    (sSeq (sIf (bNot (eB (eChain iLe iLe (eVar 2) (eVar 1) (eVar 3)))) (sRet (eC .non)) (sPass))
    (sRet (eMake "Walk" 1 g_WalkX_initX (aCons (eCall 5 (g_swept_pairs 3) (aCons (eFld ["Lot"] [101, 97, 115, 116] (eVar 0)) (aCons (eFld ["Lot"] [110, 111, 114, 116, 104] (eVar 0)) (aCons (eFld ["Lot"] [119, 101, 115, 116] (eVar 0)) (aCons (eFld ["Lot"] [115, 111, 117, 116, 104] (eVar 0)) (aCons (eVar 1) (aNil))))))) (aNil)))))
def g_Lot_walk_with : DFn := fnD 2 b_Lot_walk_with 2
def b__law_begin : DStm := sRet (eCellD (dDisp [(eC (.str [99, 101, 108, 108, 115]), eFrz (aList (aCons (eSlA (eVar 0) (oNone) (oSome (eC (.int 63)))) (aNil)))), (eC (.str [109, 97, 114, 107]), eC (.int 0)), (eC (.str [114, 101, 115, 116]), eC (.int 0))]))
def g__law_begin : DFn := fnD 1 b__law_begin 0
def b__law_draw : DStm := sSeq (sIf (eB (eOp2 iGt (eDGet (eVar 0) (eC (.str [114, 101, 115, 116]))) (eC (.int 0)))) (sSeq (sSet 2 (eOp2 iMod (eCB (bInt) (aCons (eDGet (eVar 0) (eC (.str [114, 101, 115, 116]))) (aNil))) (eVar 1)))
    (sSeq (sDPutC (eVar 0) (eC (.str [114, 101, 115, 116])) (eOp2 iDiv (eDGet (eVar 0) (eC (.str [114, 101, 115, 116]))) (eVar 1)))
    (sRet (eVar 2)))) (sPass))
    (sSeq (sSet 3 (eDGet (eVar 0) (eC (.str [109, 97, 114, 107]))))
    (sSeq (sDPutC (eVar 0) (eC (.str [109, 97, 114, 107])) (eOp2 dAdd (eVar 3) (eC (.int 1))))
    (sSeq (sSet 4 (eOp2 dAdd (eOp2 dMul (eC (.int 97)) (eVar 3)) (eC (.int 61))))
    (sSeq (sIf (eB (eOp2 dNe (eDGet (eVar 0) (eC (.str [99, 101, 108, 108, 115]))) (eFrz (aMax (aNil))))) (sSet 4 (eIx (eDGet (eVar 0) (eC (.str [99, 101, 108, 108, 115]))) (eOp2 iMod (eCB (bInt) (aCons (eVar 3) (aNil))) (eCB (bLen) (aCons (eDGet (eVar 0) (eC (.str [99, 101, 108, 108, 115]))) (aNil)))))) (sPass))
    (sSeq (sIf (bAnd (eB (eOp2 iLt (eVar 3) (eCB (bLen) (aCons (eDGet (eVar 0) (eC (.str [99, 101, 108, 108, 115]))) (aNil))))) (eB (eOp2 iGe (eCB (bAbs) (aCons (eVar 4) (aNil))) (eOp2 iPow (eC (.int 10)) (eC (.int 18)))))) (sSeq (sDPutC (eVar 0) (eC (.str [114, 101, 115, 116])) (eOp2 iDiv (eOp2 iSub (eCB (bAbs) (aCons (eVar 4) (aNil))) (eOp2 iPow (eC (.int 10)) (eC (.int 18)))) (eVar 1)))
    (sRet (eOp2 iMod (eCB (bInt) (aCons (eOp2 iSub (eCB (bAbs) (aCons (eVar 4) (aNil))) (eOp2 iPow (eC (.int 10)) (eC (.int 18)))) (aNil))) (eVar 1)))) (sPass))
    (sSeq (sSet 5 (eOp2 dAdd (eOp2 dMul (eOp2 iMod (eCB (bInt) (aCons (eVar 4) (aNil))) (eC (.int 4294966297))) (eC (.int 48947))) (eOp2 dMul (eOp2 dMul (eC (.int 30671)) (eVar 3)) (eVar 3))))
    (sSeq (sSet 5 (eOp2 iMod (eCB (bInt) (aCons (eOp2 dAdd (eOp2 dAdd (eVar 5) (eOp2 dMul (eC (.int 577)) (eVar 3))) (eC (.int 43))) (aNil))) (eC (.int 4294966279))))
    (sSeq (sSet 5 (eOp2 iMod (eCB (bInt) (aCons (eOp2 dAdd (eOp2 dAdd (eOp2 dAdd (eOp2 dMul (eVar 5) (eVar 5)) (eOp2 dMul (eC (.int 41231)) (eVar 5))) (eOp2 dMul (eC (.int 73)) (eVar 3))) (eC (.int 5))) (aNil))) (eC (.int 4294966237))))
    (sSeq (sSet 5 (eOp2 iMod (eCB (bInt) (aCons (eOp2 dAdd (eOp2 dAdd (eOp2 dMul (eVar 5) (eVar 5)) (eOp2 dMul (eC (.int 28723)) (eVar 5))) (eVar 3)) (aNil))) (eC (.int 4294966217))))
    (sRet (eOp2 iMod (eCB (bInt) (aCons (eOp2 iDiv (eOp2 iMod (eCB (bInt) (aCons (eOp2 dMul (eVar 5) (eOp2 dAdd (eVar 5) (eC (.int 51341)))) (aNil))) (eC (.int 4294966187))) (eC (.int 64))) (aNil))) (eVar 1))))))))))))
def g__law_draw : DFn := fnD 2 b__law_draw 4
def w__law_number_0 : DStm := sSet 2 (eOp2 dAdd (eOp2 dMul (eVar 2) (eOp2 iPow (eC (.int 10)) (eC (.int 7)))) (eCall 2 g__law_draw (aCons (eVar 0) (aCons (eOp2 iPow (eC (.int 10)) (eC (.int 7))) (aNil)))))
def b__law_number : DStm := sSeq (sSet 2 (eC (.int 0)))
    (sSeq (sFor (itR1 (aCons (eOp2 dAdd (eC (.int 1)) (eCall 2 g__law_draw (aCons (eVar 0) (aCons (eVar 1) (aNil))))) (aNil))) (gN 3) (w__law_number_0))
    (sRet (eVar 2)))
def g__law_number : DFn := fnD 2 b__law_number 2
def b__law_great : DStm := sRet (eIf (eB (eOp2 dEq (eCall 2 g__law_draw (aCons (eVar 0) (aCons (eC (.int 4)) (aNil)))) (eC (.int 0)))) (eCall 2 g__law_draw (aCons (eVar 0) (aCons (eC (.int 9)) (aNil)))) (eCall 2 g__law_number (aCons (eVar 0) (aCons (eC (.int 4)) (aNil)))))
def g__law_great : DFn := fnD 1 b__law_great 0
def b__law_pick : DStm := sRet (eIx (eVar 1) (eCall 2 g__law_draw (aCons (eVar 0) (aCons (eCB (bLen) (aCons (eVar 1) (aNil))) (aNil)))))
def g__law_pick : DFn := fnD 2 b__law_pick 0
def b__law_signed : DStm := sRet (eOp2 dMul (eCall 1 g__law_great (aCons (eVar 0) (aNil))) (eCall 2 g__law_pick (aCons (eVar 0) (aCons (eFrz (aMax (aCons (eC (.int 1)) (aCons (eNeg (eC (.int 1))) (aNil))))) (aNil)))))
def g__law_signed : DFn := fnD 1 b__law_signed 0
def b_best_sides : DStm := sSeq (sIf (eB (eOp2 iLe (eVar 2) (eCB (bAbs) (aCons (eOp2 iSub (eVar 0) (eVar 1)) (aNil))))) (sRet (eIf (eB (eOp2 iGe (eVar 0) (eVar 1))) (eTup (aCons (eVar 0) (aCons (eOp2 dAdd (eVar 1) (eVar 2)) (aNil)))) (eTup (aCons (eOp2 dAdd (eVar 0) (eVar 2)) (aCons (eVar 1) (aNil)))))) (sPass))
    (sRet (eTup (aCons (eOp2 iDiv (eOp2 dAdd (eOp2 dAdd (eOp2 dAdd (eVar 0) (eVar 1)) (eVar 2)) (eC (.int 1))) (eC (.int 2))) (aCons (eOp2 iDiv (eOp2 dAdd (eOp2 dAdd (eVar 0) (eVar 1)) (eVar 2)) (eC (.int 2))) (aNil)))))
def g_best_sides : DFn := fnD 3 b_best_sides 0
def b_areas_of : DStm := sSeq (sSet 3 (eOp2 iSub (eOp2 iSub (eVar 2) (eCB (bAbs) (aCons (eVar 0) (aNil)))) (eCB (bAbs) (aCons (eVar 1) (aNil)))))
    (sSeq (sIf (bOr (eB (eOp2 iLt (eVar 3) (eC (.int 0)))) (eB (eOp2 dEq (eOp2 iMod (eVar 3) (eC (.int 2))) (eC (.int 1))))) (sRet (eC .non)) (sPass))
    (sSeq (sAsgT (eCall 3 g_best_sides (aCons (eCB (bAbs) (aCons (eVar 0) (aNil))) (aCons (eCB (bAbs) (aCons (eVar 1) (aNil))) (aCons (eOp2 iDiv (eVar 3) (eC (.int 2))) (aNil))))) (gT 2 (gsCons (gN 4) (gsCons (gN 5) (gsNil)))))
    (sSeq (sSet 6 (eOp2 iSub (eOp2 dMul (eOp2 dMul (eC (.int 2)) (eVar 4)) (eVar 5)) (eCB (bAbs) (aCons (eOp2 dMul (eVar 0) (eVar 1)) (aNil)))))
    (sRet (eTup (aCons (eOp2 iDiv (eOp2 iSub (eOp2 dMul (eVar 0) (eVar 1)) (eVar 6)) (eC (.int 2))) (aCons (eOp2 iDiv (eOp2 dAdd (eOp2 dMul (eVar 0) (eVar 1)) (eVar 6)) (eC (.int 2))) (aNil))))))))
def g_areas_of : DFn := fnD 3 b_areas_of 4
def w_areas_0 : DStm := sIf (bNot (eTru (eCall 1 g_is_integer (aCons (eVar 3) (aNil))))) (sRaise "BadNumber" [118, 97, 108, 117, 101] (aCons (eVar 3) (aNil))) (sPass)
def b_areas : DStm := sSeq (sFor (itSeq (eTup (aCons (eVar 0) (aCons (eVar 1) (aNil))))) (gN 3) (w_areas_0))
    (sSeq (sIf (bNot (eTru (eCall 2 g_is_whole (aCons (eVar 2) (aCons (eC (.int 0)) (aNil)))))) (sRaise "BadNumber" [118, 97, 108, 117, 101] (aCons (eVar 2) (aNil))) (sPass))
    (sRet (eCall 3 g_areas_of (aCons (eVar 0) (aCons (eVar 1) (aCons (eVar 2) (aNil)))))))
def g_areas : DFn := fnD 3 b_areas 1
def w__law_best_right_0 : DStm := sIf (eB (eChain iLe iLe (eC (.int 0)) (eVar 7) (eVar 3))) (sSeq (sAsgT (eIf (eB (eOp2 iGe (eVar 1) (eC (.int 0)))) (eTup (aCons (eOp2 dAdd (eVar 1) (eVar 7)) (aCons (eVar 7) (aNil)))) (eTup (aCons (eVar 7) (aCons (eOp2 iSub (eVar 7) (eVar 1)) (aNil))))) (gT 2 (gsCons (gN 8) (gsCons (gN 9) (gsNil)))))
    (sSeq (sSet 10 (eOp2 iSub (eVar 3) (eVar 7)))
    (sSeq (sAsgT (eIf (eB (eOp2 iGe (eVar 2) (eC (.int 0)))) (eTup (aCons (eOp2 dAdd (eVar 2) (eVar 10)) (aCons (eVar 10) (aNil)))) (eTup (aCons (eVar 10) (aCons (eOp2 iSub (eVar 10) (eVar 2)) (aNil))))) (gT 2 (gsCons (gN 11) (gsCons (gN 12) (gsNil)))))
    (sApp 6 (aCons (eMeth "Lot" [115, 119, 101, 112, 116, 95, 97, 114, 101, 97, 115] 1 g_Lot_swept_areas (eMake "Lot" 4 g_LotX_initX (aCons (eVar 8) (aCons (eVar 11) (aCons (eVar 9) (aCons (eVar 12) (aNil)))))) aNil) (aNil)))))) (sPass)
def w__law_best_right_1 : DStm := sIf (bOr (eB (eOp2 iLt (eVar 13) (eIx (eVar 4) (eC (.int 0))))) (eB (eOp2 iGt (eVar 10) (eIx (eVar 4) (eC (.int 1)))))) (sRet (eC (.bl false))) (sPass)
def b__law_best_right : DStm := sSeq (sPar3 1 2 3 (aCons (eCall 1 g__law_signed (aCons (eVar 0) (aNil))) (aCons (eCall 1 g__law_signed (aCons (eVar 0) (aNil))) (aCons (eCall 1 g__law_great (aCons (eVar 0) (aNil))) (aNil)))))
    (sSeq (sSet 4 (eCall 3 g_areas (aCons (eVar 1) (aCons (eVar 2) (aCons (eOp2 dAdd (eOp2 dAdd (eCB (bAbs) (aCons (eVar 1) (aNil))) (eCB (bAbs) (aCons (eVar 2) (aNil)))) (eOp2 dMul (eC (.int 2)) (eVar 3))) (aNil))))))
    (sSeq (sSet 5 (eOp2 iDiv (eOp2 iSub (eOp2 dAdd (eVar 3) (eCB (bAbs) (aCons (eVar 2) (aNil)))) (eCB (bAbs) (aCons (eVar 1) (aNil)))) (eC (.int 2))))
    (sSeq (sSet 5 (eIf (eB (eOp2 iLt (eVar 5) (eC (.int 0)))) (eC (.int 0)) (eIf (eB (eOp2 iGt (eVar 5) (eVar 3))) (eVar 3) (eVar 5))))
    (sSeq (sSetO 6 (aMax (aNil)))
    (sSeq (sFor (itSeq (eFrz (aMax (aCons (eVar 5) (aCons (eOp2 dAdd (eVar 5) (eC (.int 1))) (aCons (eC (.int 0)) (aCons (eVar 3) (aCons (eOp2 iMod (eCB (bInt) (aCons (eCall 1 g__law_great (aCons (eVar 0) (aNil))) (aNil))) (eOp2 dAdd (eVar 3) (eC (.int 1)))) (aNil))))))))) (gN 7) (w__law_best_right_0))
    (sSeq (sFor (itSeq (eVar 6)) (gT 2 (gsCons (gN 13) (gsCons (gN 10) (gsNil)))) (w__law_best_right_1))
    (sRet (eOp2 (dIn false) (eVar 4) (eVar 6)))))))))
def g__law_best_right : DFn := fnD 1 b__law_best_right 13
def b__law_step : DStm := sSeq (sAsgT (eVar 0) (gT 3 (gsCons (gN 3) (gsCons (gN 4) (gsCons (gN 5) (gsNil))))))
    (sSeq (sIf (eB (eOp2 (dIn false) (eVar 1) (eC (.str [101, 119])))) (sRet (eTup (aCons (eIf (eB (eOp2 dEq (eVar 1) (eC (.str [101])))) (eOp2 dAdd (eVar 3) (eVar 2)) (eOp2 iSub (eVar 3) (eVar 2))) (aCons (eVar 4) (aCons (eVar 5) (aNil)))))) (sPass))
    (sRet (eIf (eB (eOp2 dEq (eVar 1) (eC (.str [110])))) (eTup (aCons (eVar 3) (aCons (eOp2 dAdd (eVar 4) (eVar 2)) (aCons (eOp2 dAdd (eVar 5) (eOp2 dMul (eVar 3) (eVar 2))) (aNil))))) (eTup (aCons (eVar 3) (aCons (eOp2 iSub (eVar 4) (eVar 2)) (aCons (eOp2 iSub (eVar 5) (eOp2 dMul (eVar 3) (eVar 2))) (aNil))))))))
def g__law_step : DFn := fnD 3 b__law_step 3
def w__law_led_0 : DStm := sSet 1 (eCall 3 g__law_step (aCons (eVar 1) (aCons (eVar 2) (aCons (eVar 3) (aNil)))))
def b__law_led : DStm := sSeq (sSet 1 (eTup (aCons (eC (.int 0)) (aCons (eC (.int 0)) (aCons (eC (.int 0)) (aNil))))))
    (sSeq (sFor (itSeq (eVar 0)) (gT 2 (gsCons (gN 2) (gsCons (gN 3) (gsNil)))) (w__law_led_0))
    (sRet (eVar 1)))
def g__law_led : DFn := fnD 1 b__law_led 3
def e__law_greatest_0 : DE := eCB (bInt) (aCons (eIx (eVar 9) (eC (.int 2))) (aNil))
def b__law_greatest : DStm := sSeq (sAsgT (eVar 0) (gTA 4 (gsCons (gN 1) (gsCons (gN 2) (gsCons (gN 3) (gsCons (gN 4) (gsNil)))))))
    (sSeq (sSet 5 (eCall 1 g__law_led (aCons (eFrz (aMax (aCons (eTup (aCons (eC (.str [115])) (aCons (eVar 4) (aNil)))) (aCons (eTup (aCons (eC (.str [101])) (aCons (eVar 1) (aNil)))) (aCons (eTup (aCons (eC (.str [110])) (aCons (eVar 2) (aNil)))) (aCons (eTup (aCons (eC (.str [119])) (aCons (eVar 3) (aNil)))) (aNil))))))) (aNil))))
    (sSeq (sSet 6 (eCall 1 g__law_led (aCons (eFrz (aMax (aCons (eTup (aCons (eC (.str [119])) (aCons (eVar 3) (aNil)))) (aCons (eTup (aCons (eC (.str [115])) (aCons (eVar 4) (aNil)))) (aCons (eTup (aCons (eC (.str [101])) (aCons (eVar 1) (aNil)))) (aCons (eTup (aCons (eC (.str [110])) (aCons (eVar 2) (aNil)))) (aNil))))))) (aNil))))
    (sSeq (sSet 7 (eCall 1 g__law_led (aCons (eFrz (aMax (aCons (eTup (aCons (eC (.str [110])) (aCons (eVar 2) (aNil)))) (aCons (eTup (aCons (eC (.str [119])) (aCons (eVar 3) (aNil)))) (aCons (eTup (aCons (eC (.str [115])) (aCons (eVar 4) (aNil)))) (aCons (eTup (aCons (eC (.str [101])) (aCons (eVar 1) (aNil)))) (aNil))))))) (aNil))))
    (sSeq (sSet 8 (eCall 1 g__law_led (aCons (eFrz (aMax (aCons (eTup (aCons (eC (.str [101])) (aCons (eVar 1) (aNil)))) (aCons (eTup (aCons (eC (.str [110])) (aCons (eVar 2) (aNil)))) (aCons (eTup (aCons (eC (.str [119])) (aCons (eVar 3) (aNil)))) (aCons (eTup (aCons (eC (.str [115])) (aCons (eVar 4) (aNil)))) (aNil))))))) (aNil))))
    (sRet (eIx (eCB (bSrt) (aCons (eFrz (aLc [9] (itSeq (eFrz (aMax (aCons (eVar 5) (aCons (eVar 6) (aCons (eVar 7) (aCons (eVar 8) (aNil)))))))) (gN 9) (bYes) (e__law_greatest_0))) (aNil))) (eNeg (eC (.int 1)))))))))
def g__law_greatest : DFn := fnD 1 b__law_greatest 9
def w_PlaceX_initX_0 : DStm := sIf (bNot (eTru (eCall 1 g_is_integer (aCons (eVar 4) (aNil))))) (sRaise "BadNumber" [118, 97, 108, 117, 101] (aCons (eVar 4) (aNil))) (sPass)
def b_PlaceX_initX : DStm := sSeq (sFor (itSeq (eTup (aCons (eVar 1) (aCons (eVar 2) (aCons (eVar 3) (aNil)))))) (gN 4) (w_PlaceX_initX_0))
    (sSeq (sFldO "Place" 0 [120] (eVar 1))
    (sSeq (sFldO "Place" 0 [121] (eVar 2))
    (sFldO "Place" 0 [97, 114, 101, 97] (eVar 3))))
def g_PlaceX_initX : DIn := inD "Place" 3 b_PlaceX_initX 1
def b_gone_on : DStm := sSeq (sAsgT (eVar 0) (gT 3 (gsCons (gN 3) (gsCons (gN 4) (gsCons (gN 5) (gsNil))))))
    (sSeq (sIf (eB (eOp2 dEq (eVar 1) (eC (.str [101])))) (sRet (eTup (aCons (eOp2 dAdd (eVar 3) (eVar 2)) (aCons (eVar 4) (aCons (eVar 5) (aNil)))))) (sPass))
    (sSeq (sIf (eB (eOp2 dEq (eVar 1) (eC (.str [119])))) (sRet (eTup (aCons (eOp2 iSub (eVar 3) (eVar 2)) (aCons (eVar 4) (aCons (eVar 5) (aNil)))))) (sPass))
    (sRet (eIf (eB (eOp2 dEq (eVar 1) (eC (.str [110])))) (eTup (aCons (eVar 3) (aCons (eOp2 dAdd (eVar 4) (eVar 2)) (aCons (eOp2 dAdd (eVar 5) (eOp2 dMul (eVar 3) (eVar 2))) (aNil))))) (eTup (aCons (eVar 3) (aCons (eOp2 iSub (eVar 4) (eVar 2)) (aCons (eOp2 iSub (eVar 5) (eOp2 dMul (eVar 3) (eVar 2))) (aNil)))))))))
def g_gone_on : DFn := fnD 3 b_gone_on 3
def w_Walk_spots_0 : DStm := sApp 1 (aCons (eCall 3 g_gone_on (aCons (eIxO 1 (eNeg (eC (.int 1)))) (aCons (eVar 2) (aCons (eVar 3) (aNil))))) (aNil))
def b_Walk_spots : DStm := sSeq (sSetO 1 (aMax (aCons (eTup (aCons (eC (.int 0)) (aCons (eC (.int 0)) (aCons (eC (.int 0)) (aNil))))) (aNil))))
    (sSeq (sFor (itSeq (eFld ["Walk"] [114, 117, 110, 115] (eVar 0))) (gT 2 (gsCons (gN 2) (gsCons (gN 3) (gsNil)))) (w_Walk_spots_0))
    (sRet (eVar 1)))
def g_Walk_spots : DFn := fnD 1 b_Walk_spots 3
def b_Walk_place : DStm := sSeq (sSet 1 (eIx (eMeth "Walk" [115, 112, 111, 116, 115] 1 g_Walk_spots (eVar 0) aNil) (eNeg (eC (.int 1)))))
    (sRet (eMake "Place" 3 g_PlaceX_initX (aCons (eIx (eVar 1) (eC (.int 0))) (aCons (eIx (eVar 1) (eC (.int 1))) (aCons (eIx (eVar 1) (eC (.int 2))) (aNil))))))
def g_Walk_place : DFn := fnD 1 b_Walk_place 1
def e__law_counts_0 : DE := eVar 3
def t__law_counts_0 : DT := eB (eOp2 dEq (eVar 2) (eVar 1))
def e__law_counts_2 : DE := eCB (bSum) (aCons (eFrz (aLc [2, 3] (itSeq (eVar 0)) (gT 2 (gsCons (gN 2) (gsCons (gN 3) (gsNil)))) (t__law_counts_0) (e__law_counts_0))) (aNil))
def b__law_counts : DStm := sRet (eFrz (aLc [1] (itSeq (eC (.str [101, 110, 119, 115]))) (gN 1) (bYes) (e__law_counts_2)))
def g__law_counts : DFn := fnD 1 b__law_counts 3
def b__law_is_walked : DStm := sSeq (sSet 3 (eMeth "Lot" [119, 97, 108, 107, 95, 119, 105, 116, 104] 2 g_Lot_walk_with (eVar 0) (aCons (eVar 2) (aNil))))
    (sSeq (sIf (bOr (bNot (eTru (eCB (bIsi ["Place", "Walk", "Lot"]) (aCons (eVar 3) (aCons (eC (.cls "Walk")) (aNil)))))) (eB (eOp2 iGt (eCB (bLen) (aCons (eFld ["Walk"] [114, 117, 110, 115] (eVar 3)) (aNil))) (eC (.int 9))))) (sRet (eC (.bl false))) (sPass))
    (sRet (eAndT (eOp2 dEq (eCall 1 g__law_counts (aCons (eFld ["Walk"] [114, 117, 110, 115] (eVar 3)) (aNil))) (eVar 1)) (eAndT (eOp2 dEq (eIx (eCall 1 g__law_led (aCons (eFld ["Walk"] [114, 117, 110, 115] (eVar 3)) (aNil))) (eC (.int 2))) (eVar 2)) (eOp2 dEq (eFld ["Place"] [97, 114, 101, 97] (eMeth "Walk" [112, 108, 97, 99, 101] 1 g_Walk_place (eVar 3) aNil)) (eVar 2))))))
def g__law_is_walked : DFn := fnD 3 b__law_is_walked 1
def e__law_lot_0 : DE := eIf (eB (eOp2 dEq (eCall 2 g__law_draw (aCons (eVar 0) (aCons (eC (.int 5)) (aNil)))) (eC (.int 0)))) (eC (.int 0)) (eCall 1 g__law_great (aCons (eVar 0) (aNil)))
def b__law_lot : DStm := sRet (eFrz (aLc [1] (itR1 (aCons (eC (.int 4)) (aNil))) (gN 1) (bYes) (e__law_lot_0)))
def g__law_lot : DFn := fnD 1 b__law_lot 1
def c__law_shuffled_0 : DT := eNeE 2
def w__law_shuffled_0 : DStm := sApp 3 (aCons (ePopO 2 (aCons (eCall 2 g__law_draw (aCons (eVar 0) (aCons (eLnO 2) (aNil)))) (aNil))) (aNil))
def b__law_shuffled : DStm := sSeq (sParOO 2 3 (aList (aCons (eVar 1) (aNil))) (aMax (aNil)))
    (sSeq (sWhile (c__law_shuffled_0) (w__law_shuffled_0))
    (sRet (eVar 3)))
def g__law_shuffled : DFn := fnD 2 b__law_shuffled 2
def w__law_parted_0 : DStm := sSeq (sSet 6 (eOp2 iMod (eCB (bInt) (aCons (eCall 1 g__law_great (aCons (eVar 0) (aNil))) (aNil))) (eOp2 dAdd (eVar 4) (eC (.int 1)))))
    (sSeq (sApp 2 (aCons (eTup (aCons (eIx (eC (.str [101, 110, 119, 115])) (eVar 3)) (aCons (eVar 6) (aNil)))) (aNil)))
    (sSet 4 (eOp2 iSub (eVar 4) (eVar 6))))
def w__law_parted_1 : DStm := sSeq (sSet 4 (eIx (eVar 1) (eVar 3)))
    (sSeq (sFor (itR1 (aCons (eC (.int 3)) (aNil))) (gN 5) (w__law_parted_0))
    (sApp 2 (aCons (eTup (aCons (eIx (eC (.str [101, 110, 119, 115])) (eVar 3)) (aCons (eVar 4) (aNil)))) (aNil))))
def b__law_parted : DStm := sSeq (sSetO 2 (aMax (aNil)))
    (sSeq (sFor (itR1 (aCons (eC (.int 4)) (aNil))) (gN 3) (w__law_parted_1))
    (sRet (eCall 2 g__law_shuffled (aCons (eVar 0) (aCons (eVar 2) (aNil))))))
def g__law_parted : DFn := fnD 2 b__law_parted 5
def w_law_0 : DStm := sIf (bNot (eTru (eCall 3 g__law_is_walked (aCons (eVar 8) (aCons (eVar 3) (aCons (eVar 11) (aNil))))))) (sRet (eC (.bl false))) (sPass)
def w_law_1 : DStm := sSeq (sSet 13 (eCall 2 g__law_parted (aCons (eVar 1) (aCons (eVar 3) (aNil)))))
    (sSeq (sSet 14 (eCall 1 g__law_led (aCons (eVar 13) (aNil))))
    (sIf (bOr (bNot (eB (eChain iLe iLe (eVar 9) (eIx (eVar 14) (eC (.int 2))) (eVar 10)))) (bOr (eB (eOp2 dNe (eMeth "Lot" [101, 110, 100, 115] 1 g_Lot_ends (eVar 8) aNil) (eSlA (eVar 14) (oNone) (oSome (eC (.int 2)))))) (bNot (eTru (eCall 3 g__law_is_walked (aCons (eVar 8) (aCons (eVar 3) (aCons (eIx (eVar 14) (eC (.int 2))) (aNil))))))))) (sRet (eC (.bl false))) (sPass)))
def w_law_2 : DStm := sSeq (sSet 3 (eCall 1 g__law_lot (aCons (eVar 1) (aNil))))
    (sSeq (sAsgT (eVar 3) (gTA 4 (gsCons (gN 4) (gsCons (gN 5) (gsCons (gN 6) (gsCons (gN 7) (gsNil)))))))
    (sSeq (sSet 8 (eMake "Lot" 4 g_LotX_initX (aCons (eVar 4) (aCons (eVar 5) (aCons (eVar 6) (aCons (eVar 7) (aNil)))))))
    (sSeq (sAsgT (eMeth "Lot" [115, 119, 101, 112, 116, 95, 97, 114, 101, 97, 115] 1 g_Lot_swept_areas (eVar 8) aNil) (gT 2 (gsCons (gN 9) (gsCons (gN 10) (gsNil)))))
    (sSeq (sIf (bOr (eB (eOp2 dNe (eVar 10) (eCall 1 g__law_greatest (aCons (eVar 3) (aNil))))) (eB (eOp2 dNe (eNeg (eVar 9)) (eCall 1 g__law_greatest (aCons (eFrz (aMax (aCons (eVar 6) (aCons (eVar 5) (aCons (eVar 4) (aCons (eVar 7) (aNil))))))) (aNil)))))) (sRet (eC (.bl false))) (sPass))
    (sSeq (sFor (itSeq (eFrz (aMax (aCons (eVar 9) (aCons (eVar 10) (aCons (eOp2 dAdd (eVar 9) (eOp2 iMod (eCB (bInt) (aCons (eCall 1 g__law_great (aCons (eVar 1) (aNil))) (aNil))) (eOp2 dAdd (eOp2 iSub (eVar 10) (eVar 9)) (eC (.int 1))))) (aCons (eOp2 iSub (eVar 10) (eOp2 iMod (eCB (bInt) (aCons (eCall 1 g__law_great (aCons (eVar 1) (aNil))) (aNil))) (eOp2 dAdd (eOp2 iSub (eVar 10) (eVar 9)) (eC (.int 1))))) (aCons (eC (.int 0)) (aNil))))))))) (gN 11) (w_law_0))
    (sSeq (sIf (bOr (eB (eOp2 dNotN (eMeth "Lot" [119, 97, 108, 107, 95, 119, 105, 116, 104] 2 g_Lot_walk_with (eVar 8) (aCons (eOp2 iSub (eVar 9) (eC (.int 1))) (aNil))) (eC .non))) (eB (eOp2 dNotN (eMeth "Lot" [119, 97, 108, 107, 95, 119, 105, 116, 104] 2 g_Lot_walk_with (eVar 8) (aCons (eOp2 dAdd (eOp2 dAdd (eVar 10) (eC (.int 1))) (eCall 1 g__law_great (aCons (eVar 1) (aNil)))) (aNil))) (eC .non)))) (sRet (eC (.bl false))) (sPass))
    (sSeq (sFor (itR1 (aCons (eC (.int 4)) (aNil))) (gN 12) (w_law_1))
    (sIf (bNot (eTru (eCall 1 g__law_best_right (aCons (eVar 1) (aNil))))) (sRet (eC (.bl false))) (sPass)))))))))
def b_law : DStm := sSeq (sSet 1 (eCall 1 g__law_begin (aCons (eVar 0) (aNil))))
    (sSeq (sFor (itR1 (aCons (eOp2 dAdd (eC (.int 3)) (eCB (bMin2) (aCons (eC (.int 3)) (aCons (eCB (bLen) (aCons (eVar 0) (aNil))) (aNil))))) (aNil))) (gN 2) (w_law_2))
    (sRet (eC (.bl true))))
def g_law : DFn := fnD 1 b_law 14
structure Ev (w0 : World) (P : Program) (G : Gam) (mg : Str → Option Value) (base : Heap) where
  C_Place : Addr
  ct_Place : G.ct "Place" = some C_Place
  cl_Place : Cls G.K C_Place
  m_Place : mg "Place" = some (.ref C_Place)
  sf_Place : PySem.W.selfFirst G.K C_Place = true
  ne_Place : PySem.W.findIn G.K (.ref C_Place) "__ne__" = some (some (.builtin "object.__ne__"))
  mo_Place : PySem.W.mroIn G.K C_Place (.type "object") = some true
  na_Place_x : NoAttr G.K C_Place "x"
  na_Place_y : NoAttr G.K C_Place "y"
  na_Place_area : NoAttr G.K C_Place "area"
  C_Walk : Addr
  ct_Walk : G.ct "Walk" = some C_Walk
  cl_Walk : Cls G.K C_Walk
  m_Walk : mg "Walk" = some (.ref C_Walk)
  sf_Walk : PySem.W.selfFirst G.K C_Walk = true
  ne_Walk : PySem.W.findIn G.K (.ref C_Walk) "__ne__" = some (some (.builtin "object.__ne__"))
  mo_Walk : PySem.W.mroIn G.K C_Walk (.type "object") = some true
  na_Walk_runs : NoAttr G.K C_Walk "runs"
  C_Lot : Addr
  ct_Lot : G.ct "Lot" = some C_Lot
  cl_Lot : Cls G.K C_Lot
  m_Lot : mg "Lot" = some (.ref C_Lot)
  sf_Lot : PySem.W.selfFirst G.K C_Lot = true
  ne_Lot : PySem.W.findIn G.K (.ref C_Lot) "__ne__" = some (some (.builtin "object.__ne__"))
  mo_Lot : PySem.W.mroIn G.K C_Lot (.type "object") = some true
  na_Lot_east : NoAttr G.K C_Lot "east"
  na_Lot_north : NoAttr G.K C_Lot "north"
  na_Lot_west : NoAttr G.K C_Lot "west"
  na_Lot_south : NoAttr G.K C_Lot "south"
  C_BadNumber : Addr
  ct_BadNumber : G.ct "BadNumber" = some C_BadNumber
  m_BadNumber : mg "BadNumber" = some (.ref C_BadNumber)
  fI_BadNumber : Addr
  xfd_BadNumber : FuncData
  X_BadNumber : XFacts P G mg "BadNumber" C_BadNumber fI_BadNumber xfd_BadNumber "self" "value" "value"
  C_BadWord : Addr
  ct_BadWord : G.ct "BadWord" = some C_BadWord
  m_BadWord : mg "BadWord" = some (.ref C_BadWord)
  fI_BadWord : Addr
  xfd_BadWord : FuncData
  X_BadWord : XFacts P G mg "BadWord" C_BadWord fI_BadWord xfd_BadWord "self" "value" "value"
  a_is_integer : Addr
  fd_is_integer : FuncData
  F_is_integer : Fun G.K "is_integer" "is_integer" st_is_integer a_is_integer fd_is_integer
  b_is_integer : L2.Binds G.K fd_is_integer ["value"] []
  m_is_integer : mg "is_integer" = some (.ref a_is_integer)
  a_is_whole : Addr
  fd_is_whole : FuncData
  F_is_whole : Fun G.K "is_whole" "is_whole" st_is_whole a_is_whole fd_is_whole
  b_is_whole : L2.Binds G.K fd_is_whole ["value", "least"] []
  m_is_whole : mg "is_whole" = some (.ref a_is_whole)
  a_LotX_initX : Addr
  fd_LotX_initX : FuncData
  F_LotX_initX : Fun G.K "__init__" "Lot.__init__" st_LotX_initX a_LotX_initX fd_LotX_initX
  b_LotX_initX : L2.Binds G.K fd_LotX_initX ["self", "east", "north", "west", "south"] []
  M_LotX_initX : Meth G.K C_Lot "__init__" a_LotX_initX
  a_Lot_ends : Addr
  fd_Lot_ends : FuncData
  F_Lot_ends : Fun G.K "ends" "Lot.ends" st_Lot_ends a_Lot_ends fd_Lot_ends
  b_Lot_ends : L2.Binds G.K fd_Lot_ends ["self"] []
  M_Lot_ends : Meth G.K C_Lot "ends" a_Lot_ends
  a_Lot_swept_areas : Addr
  fd_Lot_swept_areas : FuncData
  F_Lot_swept_areas : Fun G.K "swept_areas" "Lot.swept_areas" st_Lot_swept_areas a_Lot_swept_areas fd_Lot_swept_areas
  b_Lot_swept_areas : L2.Binds G.K fd_Lot_swept_areas ["self"] []
  M_Lot_swept_areas : Meth G.K C_Lot "swept_areas" a_Lot_swept_areas
  a_merged : Addr
  fd_merged : FuncData
  F_merged : Fun G.K "merged" "merged" st_merged a_merged fd_merged
  b_merged : L2.Binds G.K fd_merged ["pairs"] []
  m_merged : mg "merged" = some (.ref a_merged)
  a_is_list : Addr
  fd_is_list : FuncData
  F_is_list : Fun G.K "is_list" "is_list" st_is_list a_is_list fd_is_list
  b_is_list : L2.Binds G.K fd_is_list ["value"] []
  m_is_list : mg "is_list" = some (.ref a_is_list)
  a_is_pair : Addr
  fd_is_pair : FuncData
  F_is_pair : Fun G.K "is_pair" "is_pair" st_is_pair a_is_pair fd_is_pair
  b_is_pair : L2.Binds G.K fd_is_pair ["value"] []
  m_is_pair : mg "is_pair" = some (.ref a_is_pair)
  a_pairs_told : Addr
  fd_pairs_told : FuncData
  F_pairs_told : Fun G.K "pairs_told" "pairs_told" st_pairs_told a_pairs_told fd_pairs_told
  b_pairs_told : L2.Binds G.K fd_pairs_told ["told"] []
  m_pairs_told : mg "pairs_told" = some (.ref a_pairs_told)
  a_WalkX_initX : Addr
  fd_WalkX_initX : FuncData
  F_WalkX_initX : Fun G.K "__init__" "Walk.__init__" st_WalkX_initX a_WalkX_initX fd_WalkX_initX
  b_WalkX_initX : L2.Binds G.K fd_WalkX_initX ["self", "told"] []
  M_WalkX_initX : Meth G.K C_Walk "__init__" a_WalkX_initX
  a_falling_pairs : Addr
  fd_falling_pairs : FuncData
  F_falling_pairs : Fun G.K "falling_pairs" "falling_pairs" st_falling_pairs a_falling_pairs fd_falling_pairs
  b_falling_pairs : L2.Binds G.K fd_falling_pairs ["east", "north", "west", "south", "area"] []
  m_falling_pairs : mg "falling_pairs" = some (.ref a_falling_pairs)
  a_rising_pairs : Addr
  fd_rising_pairs : FuncData
  F_rising_pairs : Fun G.K "rising_pairs" "rising_pairs" st_rising_pairs a_rising_pairs fd_rising_pairs
  b_rising_pairs : L2.Binds G.K fd_rising_pairs ["east", "north", "west", "south", "area"] []
  m_rising_pairs : mg "rising_pairs" = some (.ref a_rising_pairs)
  a_swept_pairs : Addr
  fd_swept_pairs : FuncData
  F_swept_pairs : Fun G.K "swept_pairs" "swept_pairs" st_swept_pairs a_swept_pairs fd_swept_pairs
  b_swept_pairs : L2.Binds G.K fd_swept_pairs ["east", "north", "west", "south", "area"] []
  m_swept_pairs : mg "swept_pairs" = some (.ref a_swept_pairs)
  a_Lot_walk_with : Addr
  fd_Lot_walk_with : FuncData
  F_Lot_walk_with : Fun G.K "walk_with" "Lot.walk_with" st_Lot_walk_with a_Lot_walk_with fd_Lot_walk_with
  b_Lot_walk_with : L2.Binds G.K fd_Lot_walk_with ["self", "area"] []
  M_Lot_walk_with : Meth G.K C_Lot "walk_with" a_Lot_walk_with
  a__law_begin : Addr
  fd__law_begin : FuncData
  F__law_begin : Fun G.K "_law_begin" "_law_begin" st__law_begin a__law_begin fd__law_begin
  b__law_begin : L2.Binds G.K fd__law_begin ["_law_script"] []
  m__law_begin : mg "_law_begin" = some (.ref a__law_begin)
  a__law_draw : Addr
  fd__law_draw : FuncData
  F__law_draw : Fun G.K "_law_draw" "_law_draw" st__law_draw a__law_draw fd__law_draw
  b__law_draw : L2.Binds G.K fd__law_draw ["_law_pen", "_law_span"] []
  m__law_draw : mg "_law_draw" = some (.ref a__law_draw)
  a__law_number : Addr
  fd__law_number : FuncData
  F__law_number : Fun G.K "_law_number" "_law_number" st__law_number a__law_number fd__law_number
  b__law_number : L2.Binds G.K fd__law_number ["_law_pen", "_law_groups"] []
  m__law_number : mg "_law_number" = some (.ref a__law_number)
  a__law_great : Addr
  fd__law_great : FuncData
  F__law_great : Fun G.K "_law_great" "_law_great" st__law_great a__law_great fd__law_great
  b__law_great : L2.Binds G.K fd__law_great ["_law_pen"] []
  m__law_great : mg "_law_great" = some (.ref a__law_great)
  a__law_pick : Addr
  fd__law_pick : FuncData
  F__law_pick : Fun G.K "_law_pick" "_law_pick" st__law_pick a__law_pick fd__law_pick
  b__law_pick : L2.Binds G.K fd__law_pick ["_law_pen", "_law_some"] []
  m__law_pick : mg "_law_pick" = some (.ref a__law_pick)
  a__law_signed : Addr
  fd__law_signed : FuncData
  F__law_signed : Fun G.K "_law_signed" "_law_signed" st__law_signed a__law_signed fd__law_signed
  b__law_signed : L2.Binds G.K fd__law_signed ["_law_pen"] []
  m__law_signed : mg "_law_signed" = some (.ref a__law_signed)
  a_best_sides : Addr
  fd_best_sides : FuncData
  F_best_sides : Fun G.K "best_sides" "best_sides" st_best_sides a_best_sides fd_best_sides
  b_best_sides : L2.Binds G.K fd_best_sides ["x", "y", "extra"] []
  m_best_sides : mg "best_sides" = some (.ref a_best_sides)
  a_areas_of : Addr
  fd_areas_of : FuncData
  F_areas_of : Fun G.K "areas_of" "areas_of" st_areas_of a_areas_of fd_areas_of
  b_areas_of : L2.Binds G.K fd_areas_of ["x", "y", "number"] []
  m_areas_of : mg "areas_of" = some (.ref a_areas_of)
  a_areas : Addr
  fd_areas : FuncData
  F_areas : Fun G.K "areas" "areas" st_areas a_areas fd_areas
  b_areas : L2.Binds G.K fd_areas ["x", "y", "number"] []
  m_areas : mg "areas" = some (.ref a_areas)
  a__law_best_right : Addr
  fd__law_best_right : FuncData
  F__law_best_right : Fun G.K "_law_best_right" "_law_best_right" st__law_best_right a__law_best_right fd__law_best_right
  b__law_best_right : L2.Binds G.K fd__law_best_right ["_law_pen"] []
  m__law_best_right : mg "_law_best_right" = some (.ref a__law_best_right)
  a__law_step : Addr
  fd__law_step : FuncData
  F__law_step : Fun G.K "_law_step" "_law_step" st__law_step a__law_step fd__law_step
  b__law_step : L2.Binds G.K fd__law_step ["_law_spot", "_law_letter", "_law_times"] []
  m__law_step : mg "_law_step" = some (.ref a__law_step)
  a__law_led : Addr
  fd__law_led : FuncData
  F__law_led : Fun G.K "_law_led" "_law_led" st__law_led a__law_led fd__law_led
  b__law_led : L2.Binds G.K fd__law_led ["_law_runs"] []
  m__law_led : mg "_law_led" = some (.ref a__law_led)
  a__law_greatest : Addr
  fd__law_greatest : FuncData
  F__law_greatest : Fun G.K "_law_greatest" "_law_greatest" st__law_greatest a__law_greatest fd__law_greatest
  b__law_greatest : L2.Binds G.K fd__law_greatest ["_law_lot_here"] []
  m__law_greatest : mg "_law_greatest" = some (.ref a__law_greatest)
  a_PlaceX_initX : Addr
  fd_PlaceX_initX : FuncData
  F_PlaceX_initX : Fun G.K "__init__" "Place.__init__" st_PlaceX_initX a_PlaceX_initX fd_PlaceX_initX
  b_PlaceX_initX : L2.Binds G.K fd_PlaceX_initX ["self", "x", "y", "area"] []
  M_PlaceX_initX : Meth G.K C_Place "__init__" a_PlaceX_initX
  a_gone_on : Addr
  fd_gone_on : FuncData
  F_gone_on : Fun G.K "gone_on" "gone_on" st_gone_on a_gone_on fd_gone_on
  b_gone_on : L2.Binds G.K fd_gone_on ["spot", "letter", "times"] []
  m_gone_on : mg "gone_on" = some (.ref a_gone_on)
  a_Walk_spots : Addr
  fd_Walk_spots : FuncData
  F_Walk_spots : Fun G.K "spots" "Walk.spots" st_Walk_spots a_Walk_spots fd_Walk_spots
  b_Walk_spots : L2.Binds G.K fd_Walk_spots ["self"] []
  M_Walk_spots : Meth G.K C_Walk "spots" a_Walk_spots
  a_Walk_place : Addr
  fd_Walk_place : FuncData
  F_Walk_place : Fun G.K "place" "Walk.place" st_Walk_place a_Walk_place fd_Walk_place
  b_Walk_place : L2.Binds G.K fd_Walk_place ["self"] []
  M_Walk_place : Meth G.K C_Walk "place" a_Walk_place
  a__law_counts : Addr
  fd__law_counts : FuncData
  F__law_counts : Fun G.K "_law_counts" "_law_counts" st__law_counts a__law_counts fd__law_counts
  b__law_counts : L2.Binds G.K fd__law_counts ["_law_runs"] []
  m__law_counts : mg "_law_counts" = some (.ref a__law_counts)
  a__law_is_walked : Addr
  fd__law_is_walked : FuncData
  F__law_is_walked : Fun G.K "_law_is_walked" "_law_is_walked" st__law_is_walked a__law_is_walked fd__law_is_walked
  b__law_is_walked : L2.Binds G.K fd__law_is_walked ["_law_told", "_law_lot_here", "_law_area"] []
  m__law_is_walked : mg "_law_is_walked" = some (.ref a__law_is_walked)
  a__law_lot : Addr
  fd__law_lot : FuncData
  F__law_lot : Fun G.K "_law_lot" "_law_lot" st__law_lot a__law_lot fd__law_lot
  b__law_lot : L2.Binds G.K fd__law_lot ["_law_pen"] []
  m__law_lot : mg "_law_lot" = some (.ref a__law_lot)
  a__law_shuffled : Addr
  fd__law_shuffled : FuncData
  F__law_shuffled : Fun G.K "_law_shuffled" "_law_shuffled" st__law_shuffled a__law_shuffled fd__law_shuffled
  b__law_shuffled : L2.Binds G.K fd__law_shuffled ["_law_pen", "_law_some"] []
  m__law_shuffled : mg "_law_shuffled" = some (.ref a__law_shuffled)
  a__law_parted : Addr
  fd__law_parted : FuncData
  F__law_parted : Fun G.K "_law_parted" "_law_parted" st__law_parted a__law_parted fd__law_parted
  b__law_parted : L2.Binds G.K fd__law_parted ["_law_pen", "_law_lot_here"] []
  m__law_parted : mg "_law_parted" = some (.ref a__law_parted)
  a_law : Addr
  fd_law : FuncData
  F_law : Fun G.K "law" "law" st_law a_law fd_law
  b_law : L2.Binds G.K fd_law ["_law_script"] []
  m_law : mg "law" = some (.ref a_law)
  mk_Place : Mk G.K C_Place a_PlaceX_initX
  mk_Walk : Mk G.K C_Walk a_WalkX_initX
  mk_Lot : Mk G.K C_Lot a_LotX_initX
  f_area : FldOk G ["Place"] [97, 114, 101, 97]
  f_east : FldOk G ["Lot"] [101, 97, 115, 116]
  f_north : FldOk G ["Lot"] [110, 111, 114, 116, 104]
  f_runs : FldOk G ["Walk"] [114, 117, 110, 115]
  f_south : FldOk G ["Lot"] [115, 111, 117, 116, 104]
  f_west : FldOk G ["Lot"] [119, 101, 115, 116]
  f_x : FldOk G ["Place"] [120]
  f_y : FldOk G ["Place"] [121]
  z_abs : mg "abs" = none
  z_all : mg "all" = none
  z_bool : mg "bool" = none
  z_divmod : mg "divmod" = none
  z_int : mg "int" = none
  z_isinstance : mg "isinstance" = none
  z_len : mg "len" = none
  z_list : mg "list" = none
  z_max : mg "max" = none
  z_min : mg "min" = none
  z_range : mg "range" = none
  z_sorted : mg "sorted" = none
  z_str : mg "str" = none
  z_sum : mg "sum" = none
  z_tuple : mg "tuple" = none
  kv_MIRRORED : Value
  kc_MIRRORED : mg "MIRRORED" = some kv_MIRRORED
  kd_MIRRORED : KdOk G w0 kv_MIRRORED kd_MIRRORED
  kv_TURNED : Value
  kc_TURNED : mg "TURNED" = some kv_TURNED
  kd_TURNED : KdOk G w0 kv_TURNED kd_TURNED
  kv_LETTERS : Value
  kc_LETTERS : mg "LETTERS" = some kv_LETTERS
  kr_LETTERS : ∃ y, RelV y kv_LETTERS ∧ ∀ w, Rep G w y (.str [101, 110, 119, 115])
  kv_MOST_LETTERS : Value
  kc_MOST_LETTERS : mg "MOST_LETTERS" = some kv_MOST_LETTERS
  kr_MOST_LETTERS : ∃ y, RelV y kv_MOST_LETTERS ∧ ∀ w, Rep G w y (.int 10000)
  kv_MOST_RUNS : Value
  kc_MOST_RUNS : mg "MOST_RUNS" = some kv_MOST_RUNS
  kr_MOST_RUNS : ∃ y, RelV y kv_MOST_RUNS ∧ ∀ w, Rep G w y (.int 10000)
  iso : IsOk G ["Place", "Walk", "Lot"]
  tabs : G.tab = tabG []
def Ev.sw {w0 : World} {P : Program} {G : Gam} {mg : Str → Option Value} {base : Heap} (e : Ev w0 P G mg base) (lam : String → Addr → Wd → Prop) (lamM : ∀ (k : String) (f : Addr) (w w' : Wd), w.le w' → lam k f w → lam k f w') : Ev w0 P (G.sw lam lamM) mg base := {
  C_Place := e.C_Place
  ct_Place := e.ct_Place
  cl_Place := e.cl_Place
  m_Place := e.m_Place
  sf_Place := e.sf_Place
  ne_Place := e.ne_Place
  mo_Place := e.mo_Place
  na_Place_x := e.na_Place_x
  na_Place_y := e.na_Place_y
  na_Place_area := e.na_Place_area
  C_Walk := e.C_Walk
  ct_Walk := e.ct_Walk
  cl_Walk := e.cl_Walk
  m_Walk := e.m_Walk
  sf_Walk := e.sf_Walk
  ne_Walk := e.ne_Walk
  mo_Walk := e.mo_Walk
  na_Walk_runs := e.na_Walk_runs
  C_Lot := e.C_Lot
  ct_Lot := e.ct_Lot
  cl_Lot := e.cl_Lot
  m_Lot := e.m_Lot
  sf_Lot := e.sf_Lot
  ne_Lot := e.ne_Lot
  mo_Lot := e.mo_Lot
  na_Lot_east := e.na_Lot_east
  na_Lot_north := e.na_Lot_north
  na_Lot_west := e.na_Lot_west
  na_Lot_south := e.na_Lot_south
  C_BadNumber := e.C_BadNumber
  ct_BadNumber := e.ct_BadNumber
  m_BadNumber := e.m_BadNumber
  fI_BadNumber := e.fI_BadNumber
  xfd_BadNumber := e.xfd_BadNumber
  X_BadNumber := ⟨⟨e.X_BadNumber.T.ct, e.X_BadNumber.T.ini, e.X_BadNumber.T.ty, e.X_BadNumber.T.cls⟩, e.X_BadNumber.I, e.X_BadNumber.F, e.X_BadNumber.B⟩
  C_BadWord := e.C_BadWord
  ct_BadWord := e.ct_BadWord
  m_BadWord := e.m_BadWord
  fI_BadWord := e.fI_BadWord
  xfd_BadWord := e.xfd_BadWord
  X_BadWord := ⟨⟨e.X_BadWord.T.ct, e.X_BadWord.T.ini, e.X_BadWord.T.ty, e.X_BadWord.T.cls⟩, e.X_BadWord.I, e.X_BadWord.F, e.X_BadWord.B⟩
  a_is_integer := e.a_is_integer
  fd_is_integer := e.fd_is_integer
  F_is_integer := e.F_is_integer
  b_is_integer := e.b_is_integer
  m_is_integer := e.m_is_integer
  a_is_whole := e.a_is_whole
  fd_is_whole := e.fd_is_whole
  F_is_whole := e.F_is_whole
  b_is_whole := e.b_is_whole
  m_is_whole := e.m_is_whole
  a_LotX_initX := e.a_LotX_initX
  fd_LotX_initX := e.fd_LotX_initX
  F_LotX_initX := e.F_LotX_initX
  b_LotX_initX := e.b_LotX_initX
  M_LotX_initX := e.M_LotX_initX
  a_Lot_ends := e.a_Lot_ends
  fd_Lot_ends := e.fd_Lot_ends
  F_Lot_ends := e.F_Lot_ends
  b_Lot_ends := e.b_Lot_ends
  M_Lot_ends := e.M_Lot_ends
  a_Lot_swept_areas := e.a_Lot_swept_areas
  fd_Lot_swept_areas := e.fd_Lot_swept_areas
  F_Lot_swept_areas := e.F_Lot_swept_areas
  b_Lot_swept_areas := e.b_Lot_swept_areas
  M_Lot_swept_areas := e.M_Lot_swept_areas
  a_merged := e.a_merged
  fd_merged := e.fd_merged
  F_merged := e.F_merged
  b_merged := e.b_merged
  m_merged := e.m_merged
  a_is_list := e.a_is_list
  fd_is_list := e.fd_is_list
  F_is_list := e.F_is_list
  b_is_list := e.b_is_list
  m_is_list := e.m_is_list
  a_is_pair := e.a_is_pair
  fd_is_pair := e.fd_is_pair
  F_is_pair := e.F_is_pair
  b_is_pair := e.b_is_pair
  m_is_pair := e.m_is_pair
  a_pairs_told := e.a_pairs_told
  fd_pairs_told := e.fd_pairs_told
  F_pairs_told := e.F_pairs_told
  b_pairs_told := e.b_pairs_told
  m_pairs_told := e.m_pairs_told
  a_WalkX_initX := e.a_WalkX_initX
  fd_WalkX_initX := e.fd_WalkX_initX
  F_WalkX_initX := e.F_WalkX_initX
  b_WalkX_initX := e.b_WalkX_initX
  M_WalkX_initX := e.M_WalkX_initX
  a_falling_pairs := e.a_falling_pairs
  fd_falling_pairs := e.fd_falling_pairs
  F_falling_pairs := e.F_falling_pairs
  b_falling_pairs := e.b_falling_pairs
  m_falling_pairs := e.m_falling_pairs
  a_rising_pairs := e.a_rising_pairs
  fd_rising_pairs := e.fd_rising_pairs
  F_rising_pairs := e.F_rising_pairs
  b_rising_pairs := e.b_rising_pairs
  m_rising_pairs := e.m_rising_pairs
  a_swept_pairs := e.a_swept_pairs
  fd_swept_pairs := e.fd_swept_pairs
  F_swept_pairs := e.F_swept_pairs
  b_swept_pairs := e.b_swept_pairs
  m_swept_pairs := e.m_swept_pairs
  a_Lot_walk_with := e.a_Lot_walk_with
  fd_Lot_walk_with := e.fd_Lot_walk_with
  F_Lot_walk_with := e.F_Lot_walk_with
  b_Lot_walk_with := e.b_Lot_walk_with
  M_Lot_walk_with := e.M_Lot_walk_with
  a__law_begin := e.a__law_begin
  fd__law_begin := e.fd__law_begin
  F__law_begin := e.F__law_begin
  b__law_begin := e.b__law_begin
  m__law_begin := e.m__law_begin
  a__law_draw := e.a__law_draw
  fd__law_draw := e.fd__law_draw
  F__law_draw := e.F__law_draw
  b__law_draw := e.b__law_draw
  m__law_draw := e.m__law_draw
  a__law_number := e.a__law_number
  fd__law_number := e.fd__law_number
  F__law_number := e.F__law_number
  b__law_number := e.b__law_number
  m__law_number := e.m__law_number
  a__law_great := e.a__law_great
  fd__law_great := e.fd__law_great
  F__law_great := e.F__law_great
  b__law_great := e.b__law_great
  m__law_great := e.m__law_great
  a__law_pick := e.a__law_pick
  fd__law_pick := e.fd__law_pick
  F__law_pick := e.F__law_pick
  b__law_pick := e.b__law_pick
  m__law_pick := e.m__law_pick
  a__law_signed := e.a__law_signed
  fd__law_signed := e.fd__law_signed
  F__law_signed := e.F__law_signed
  b__law_signed := e.b__law_signed
  m__law_signed := e.m__law_signed
  a_best_sides := e.a_best_sides
  fd_best_sides := e.fd_best_sides
  F_best_sides := e.F_best_sides
  b_best_sides := e.b_best_sides
  m_best_sides := e.m_best_sides
  a_areas_of := e.a_areas_of
  fd_areas_of := e.fd_areas_of
  F_areas_of := e.F_areas_of
  b_areas_of := e.b_areas_of
  m_areas_of := e.m_areas_of
  a_areas := e.a_areas
  fd_areas := e.fd_areas
  F_areas := e.F_areas
  b_areas := e.b_areas
  m_areas := e.m_areas
  a__law_best_right := e.a__law_best_right
  fd__law_best_right := e.fd__law_best_right
  F__law_best_right := e.F__law_best_right
  b__law_best_right := e.b__law_best_right
  m__law_best_right := e.m__law_best_right
  a__law_step := e.a__law_step
  fd__law_step := e.fd__law_step
  F__law_step := e.F__law_step
  b__law_step := e.b__law_step
  m__law_step := e.m__law_step
  a__law_led := e.a__law_led
  fd__law_led := e.fd__law_led
  F__law_led := e.F__law_led
  b__law_led := e.b__law_led
  m__law_led := e.m__law_led
  a__law_greatest := e.a__law_greatest
  fd__law_greatest := e.fd__law_greatest
  F__law_greatest := e.F__law_greatest
  b__law_greatest := e.b__law_greatest
  m__law_greatest := e.m__law_greatest
  a_PlaceX_initX := e.a_PlaceX_initX
  fd_PlaceX_initX := e.fd_PlaceX_initX
  F_PlaceX_initX := e.F_PlaceX_initX
  b_PlaceX_initX := e.b_PlaceX_initX
  M_PlaceX_initX := e.M_PlaceX_initX
  a_gone_on := e.a_gone_on
  fd_gone_on := e.fd_gone_on
  F_gone_on := e.F_gone_on
  b_gone_on := e.b_gone_on
  m_gone_on := e.m_gone_on
  a_Walk_spots := e.a_Walk_spots
  fd_Walk_spots := e.fd_Walk_spots
  F_Walk_spots := e.F_Walk_spots
  b_Walk_spots := e.b_Walk_spots
  M_Walk_spots := e.M_Walk_spots
  a_Walk_place := e.a_Walk_place
  fd_Walk_place := e.fd_Walk_place
  F_Walk_place := e.F_Walk_place
  b_Walk_place := e.b_Walk_place
  M_Walk_place := e.M_Walk_place
  a__law_counts := e.a__law_counts
  fd__law_counts := e.fd__law_counts
  F__law_counts := e.F__law_counts
  b__law_counts := e.b__law_counts
  m__law_counts := e.m__law_counts
  a__law_is_walked := e.a__law_is_walked
  fd__law_is_walked := e.fd__law_is_walked
  F__law_is_walked := e.F__law_is_walked
  b__law_is_walked := e.b__law_is_walked
  m__law_is_walked := e.m__law_is_walked
  a__law_lot := e.a__law_lot
  fd__law_lot := e.fd__law_lot
  F__law_lot := e.F__law_lot
  b__law_lot := e.b__law_lot
  m__law_lot := e.m__law_lot
  a__law_shuffled := e.a__law_shuffled
  fd__law_shuffled := e.fd__law_shuffled
  F__law_shuffled := e.F__law_shuffled
  b__law_shuffled := e.b__law_shuffled
  m__law_shuffled := e.m__law_shuffled
  a__law_parted := e.a__law_parted
  fd__law_parted := e.fd__law_parted
  F__law_parted := e.F__law_parted
  b__law_parted := e.b__law_parted
  m__law_parted := e.m__law_parted
  a_law := e.a_law
  fd_law := e.fd_law
  F_law := e.F_law
  b_law := e.b_law
  m_law := e.m_law
  mk_Place := e.mk_Place
  mk_Walk := e.mk_Walk
  mk_Lot := e.mk_Lot
  f_area := e.f_area
  f_east := e.f_east
  f_north := e.f_north
  f_runs := e.f_runs
  f_south := e.f_south
  f_west := e.f_west
  f_x := e.f_x
  f_y := e.f_y
  z_abs := e.z_abs
  z_all := e.z_all
  z_bool := e.z_bool
  z_divmod := e.z_divmod
  z_int := e.z_int
  z_isinstance := e.z_isinstance
  z_len := e.z_len
  z_list := e.z_list
  z_max := e.z_max
  z_min := e.z_min
  z_range := e.z_range
  z_sorted := e.z_sorted
  z_str := e.z_str
  z_sum := e.z_sum
  z_tuple := e.z_tuple
  kv_MIRRORED := e.kv_MIRRORED
  kc_MIRRORED := e.kc_MIRRORED
  kd_MIRRORED := (by obtain ⟨p, h, f⟩ := e.kd_MIRRORED; exact ⟨p, h, fun l d hl => by obtain ⟨y, a, b⟩ := f l d hl; exact ⟨y, a, fun w => (b w).sw (.inl (lookN_nl (by rfl) hl))⟩⟩)
  kv_TURNED := e.kv_TURNED
  kc_TURNED := e.kc_TURNED
  kd_TURNED := (by obtain ⟨p, h, f⟩ := e.kd_TURNED; exact ⟨p, h, fun l d hl => by obtain ⟨y, a, b⟩ := f l d hl; exact ⟨y, a, fun w => (b w).sw (.inl (lookN_nl (by rfl) hl))⟩⟩)
  kv_LETTERS := e.kv_LETTERS
  kc_LETTERS := e.kc_LETTERS
  kr_LETTERS := (by obtain ⟨y, r1, r2⟩ := e.kr_LETTERS; exact ⟨y, r1, fun w => (r2 w).sw (.inl rfl)⟩)
  kv_MOST_LETTERS := e.kv_MOST_LETTERS
  kc_MOST_LETTERS := e.kc_MOST_LETTERS
  kr_MOST_LETTERS := (by obtain ⟨y, r1, r2⟩ := e.kr_MOST_LETTERS; exact ⟨y, r1, fun w => (r2 w).sw (.inl rfl)⟩)
  kv_MOST_RUNS := e.kv_MOST_RUNS
  kc_MOST_RUNS := e.kc_MOST_RUNS
  kr_MOST_RUNS := (by obtain ⟨y, r1, r2⟩ := e.kr_MOST_RUNS; exact ⟨y, r1, fun w => (r2 w).sw (.inl rfl)⟩)
  iso := ⟨e.iso.1, e.iso.2, e.iso.3⟩
  tabs := e.tabs }
theorem Ev.kk {w0 : World} {P : Program} {G : Gam} {mg : Str → Option Value} {base : Heap} (e : Ev w0 P G mg base) : G.K = G.K := rfl
section
variable {P : Program} {w0 : World} {G : Gam} {mg : Str → Option Value} {base : Heap}
theorem ok_is_integer (e : Ev w0 P G mg base) : FnOk P w0 G.K mg base (L2.CX P w0) 1 e.a_is_integer e.fd_is_integer ["value"] (spG G 1 g_is_integer) :=
  fn_okD e.F_is_integer sc_is_integer rfl rfl fun cdv A outer s H E hr tk ps => pdss_one (pds_ret (pd_andT e.kk (pd_callB (cd_isi rfl e.iso) (by rfl) e.z_isinstance (by decide +kernel) (pda_cons (pd_var (pv 0)) (pda_cons (pd_bltn (by rfl) e.z_int boot_int) (pda_nil)))) (pd_one (pd_notT e.kk (pd_callB (cd_isi rfl e.iso) (by rfl) e.z_isinstance (by decide +kernel) (pda_cons (pd_var (pv 0)) (pda_cons (pd_bltn (by rfl) e.z_bool boot_bool) (pda_nil))))))))
theorem ok_is_whole (e : Ev w0 P G mg base) : FnOk P w0 G.K mg base (L2.CX P w0) 3 e.a_is_whole e.fd_is_whole ["value", "least"] (spG G 2 g_is_whole) :=
  fn_okD e.F_is_whole sc_is_whole rfl rfl fun cdv A outer s H E hr tk ps => pdss_one (pds_ret (pd_andT e.kk (pd_call (ok_is_integer e) (hr.mono (by decide)) (by rfl) e.m_is_integer e.F_is_integer.kp e.b_is_integer tk (pda_cons (pd_var (pv 0)) (pda_nil))) (pd_one (pd_cmp (opd_ge) (pd_var (pv 0)) (pd_var (pv 1)) (nomark _)))))
theorem ok_LotX_initX (e : Ev w0 P G mg base) : FnOk P w0 G.K mg base (L2.CX P w0) 5 e.a_LotX_initX e.fd_LotX_initX ["self", "east", "north", "west", "south"] (spI G "Lot" 4 g_LotX_initX) :=
  in_okD e.F_LotX_initX sc_LotX_initX rfl rfl fun cdv A outer s H E hr tk ps => pdss_cons (pds_for ps rfl (pdi_seq rfl (pd_tup (pda_cons (pd_var (pv 1)) (pda_cons (pd_var (pv 2)) (pda_cons (pd_var (pv 3)) (pda_cons (pd_var (pv 4)) (pda_nil))))))) (pdg_name (i := 5) sc_LotX_initX.nd rfl (.inl rfl)) (pdss_one (pds_if (ptd_not (ptd_truth e.kk (pd_call (ok_is_whole e) (hr.mono (by decide)) (by rfl) e.m_is_whole e.F_is_whole.kp e.b_is_whole tk (pda_cons (pd_var (pv 5)) (pda_cons (pd_int) (pda_nil)))))) (pdss_one (pds_raise rfl tk e.X_BadNumber.T e.X_BadNumber.I s_0 e.X_BadNumber.B (hr.mono (by decide)) (by rfl) e.m_BadNumber (pda_cons (pd_var (pv 5)) (pda_nil)))) (pdss_nil))))
    (pdss_cons (pds_fld rfl (pv 0) s_1 e.ct_Lot e.cl_Lot (e.na_Lot_east) (pd_var (pv 1)))
    (pdss_cons (pds_fld rfl (pv 0) s_2 e.ct_Lot e.cl_Lot (e.na_Lot_north) (pd_var (pv 2)))
    (pdss_cons (pds_fld rfl (pv 0) s_3 e.ct_Lot e.cl_Lot (e.na_Lot_west) (pd_var (pv 3)))
    (pdss_one (pds_fld rfl (pv 0) s_4 e.ct_Lot e.cl_Lot (e.na_Lot_south) (pd_var (pv 4)))))))
theorem ok_Lot_ends (e : Ev w0 P G mg base) : FnOk P w0 G.K mg base (L2.CX P w0) 1 e.a_Lot_ends e.fd_Lot_ends ["self"] (spG G 1 g_Lot_ends) :=
  fn_okD e.F_Lot_ends sc_Lot_ends rfl rfl fun cdv A outer s H E hr tk ps => pdss_one (pds_ret (pd_tup (pda_cons (pd_op (opd_sub) (pd_fld rfl s_1 e.f_east (pd_var (pv 0))) (pd_fld rfl s_3 e.f_west (pd_var (pv 0)))) (pda_cons (pd_op (opd_sub) (pd_fld rfl s_2 e.f_north (pd_var (pv 0))) (pd_fld rfl s_4 e.f_south (pd_var (pv 0)))) (pda_nil)))))
theorem ok_Lot_swept_areas (e : Ev w0 P G mg base) : FnOk P w0 G.K mg base (L2.CX P w0) 3 e.a_Lot_swept_areas e.fd_Lot_swept_areas ["self"] (spG G 1 g_Lot_swept_areas) :=
  fn_okD e.F_Lot_swept_areas sc_Lot_swept_areas rfl rfl fun cdv A outer s H E hr tk ps => pdss_cons (pds_asg (pd_meth0 rfl (pd_var (pv 0)) e.ct_Lot e.cl_Lot s_5 e.M_Lot_ends (ok_Lot_ends e) (hr.mono (by decide)) e.b_Lot_ends tk) (pdg_tup rfl rfl (pdgs_cons (pdg_name (i := 1) sc_Lot_swept_areas.nd rfl (.inl rfl)) (pdgs_cons (pdg_name (i := 2) sc_Lot_swept_areas.nd rfl (.inl rfl)) (pdgs_nil)))))
    (pdss_cons (pds_set (i := 3) sc_Lot_swept_areas.nd rfl (.inl rfl) (pd_op (opd_mulA) (pd_callB (cd_max2 rfl) (by rfl) e.z_max (by decide +kernel) (pda_cons (pd_callTy cd_int (by rfl) e.z_int (by decide +kernel) (pda_cons (pd_fld rfl s_1 e.f_east (pd_var (pv 0))) (pda_nil))) (pda_cons (pd_callTy cd_int (by rfl) e.z_int (by decide +kernel) (pda_cons (pd_fld rfl s_3 e.f_west (pd_var (pv 0))) (pda_nil))) (pda_nil)))) (pd_callB (cd_max2 rfl) (by rfl) e.z_max (by decide +kernel) (pda_cons (pd_callTy cd_int (by rfl) e.z_int (by decide +kernel) (pda_cons (pd_fld rfl s_2 e.f_north (pd_var (pv 0))) (pda_nil))) (pda_cons (pd_callTy cd_int (by rfl) e.z_int (by decide +kernel) (pda_cons (pd_fld rfl s_4 e.f_south (pd_var (pv 0))) (pda_nil))) (pda_nil))))))
    (pdss_one (pds_ret (pd_tup (pda_cons (pd_op (opd_sub) (pd_callB (cd_max2 rfl) (by rfl) e.z_max (by decide +kernel) (pda_cons (pd_int) (pda_cons (pd_callTy cd_int (by rfl) e.z_int (by decide +kernel) (pda_cons (pd_op (opd_mulA) (pd_var (pv 1)) (pd_var (pv 2))) (pda_nil))) (pda_nil)))) (pd_var (pv 3))) (pda_cons (pd_op (opd_sub) (pd_var (pv 3)) (pd_callB (cd_max2 rfl) (by rfl) e.z_max (by decide +kernel) (pda_cons (pd_int) (pda_cons (pd_callTy cd_int (by rfl) e.z_int (by decide +kernel) (pda_cons (pd_op (opd_mulA) (pd_neg (pd_var (pv 1))) (pd_var (pv 2))) (pda_nil))) (pda_nil))))) (pda_nil)))))))
theorem ok_merged (e : Ev w0 P G mg base) : FnOk P w0 G.K mg base (L2.CX P w0) 1 e.a_merged e.fd_merged ["pairs"] (spG G 1 g_merged) :=
  fn_okD e.F_merged sc_merged rfl rfl fun cdv A outer s H E hr tk ps => pdss_cons (pds_setO (i := 1) sc_merged.nd rfl (.inl rfl) (pdo_lst (pda_nil)))
    (pdss_cons (pds_for ps rfl (pdi_seq rfl (pd_var (pv 0))) (pdg_tup rfl rfl (pdgs_cons (pdg_name (i := 2) sc_merged.nd rfl (.inl rfl)) (pdgs_cons (pdg_name (i := 3) sc_merged.nd rfl (.inl rfl)) (pdgs_nil)))) (pdss_one (pds_if ((pwd_and (ptd_truO e.kk (pv 1)) (pwd_and1 (ptd_cmp (opd_eq e.kk hr.units) (pd_ix e.kk (pd_ixO e.kk (pv 1) (pd_neg (pd_int)) (fun _ _ => rfl)) (pd_int) (fun _ _ => rfl)) (pd_var (pv 2)) (nomark _)))).pt) (pdss_one (pds_ixO (pv 1) (pd_neg (pd_int)) (pd_tup (pda_cons (pd_var (pv 2)) (pda_cons (pd_op (opd_addA e.kk) (pd_ix e.kk (pd_ixO e.kk (pv 1) (pd_neg (pd_int)) (fun _ _ => rfl)) (pd_int) (fun _ _ => rfl)) (pd_var (pv 3))) (pda_nil)))) (hcol := nx_neg (nx_c _)))) (pdss_one (pds_if (ptd_cmp (opd_gt) (pd_var (pv 3)) (pd_int) (nomark _)) (pdss_one (pds_append (pv 1) (pda_cons (pd_tup (pda_cons (pd_var (pv 2)) (pda_cons (pd_var (pv 3)) (pda_nil)))) (pda_nil)))) (pdss_nil))))))
    (pdss_one (pds_ret (pd_callTy (cd_tup rfl) (by rfl) e.z_tuple (by decide +kernel) (pda_cons (pd_var (pv 1)) (pda_nil))))))
theorem ok_is_list (e : Ev w0 P G mg base) : FnOk P w0 G.K mg base (L2.CX P w0) 1 e.a_is_list e.fd_is_list ["value"] (spG G 1 g_is_list) :=
  fn_okD e.F_is_list sc_is_list rfl rfl fun cdv A outer s H E hr tk ps => pdss_one (pds_ret (pd_isT rfl e.iso (by rfl) e.z_isinstance (by decide +kernel) (pd_var (pv 0)) (pda_cons (pd_bltn (by rfl) e.z_list boot_list) (pda_cons (pd_bltn (by rfl) e.z_tuple boot_tuple) (pda_nil)))))
theorem ok_is_pair (e : Ev w0 P G mg base) : FnOk P w0 G.K mg base (L2.CX P w0) 5 e.a_is_pair e.fd_is_pair ["value"] (spG G 1 g_is_pair) :=
  fn_okD e.F_is_pair sc_is_pair rfl rfl fun cdv A outer s H E hr tk ps => pdss_cons (pds_if ((pwd_or (ptd_not (ptd_truth e.kk (pd_call (ok_is_list e) (hr.mono (by decide)) (by rfl) e.m_is_list e.F_is_list.kp e.b_is_list tk (pda_cons (pd_var (pv 0)) (pda_nil))))) (pwd_or (ptd_cmp (opd_ne e.kk hr.units) (pd_callB (cd_len rfl) (by rfl) e.z_len (by decide +kernel) (pda_cons (pd_var (pv 0)) (pda_nil))) (pd_int) (nomark _)) (pwd_or1 (ptd_not (ptd_truth e.kk (pd_callB (cd_isi rfl e.iso) (by rfl) e.z_isinstance (by decide +kernel) (pda_cons (pd_ix e.kk (pd_var (pv 0)) (pd_int) (fun _ _ => rfl)) (pda_cons (pd_bltn (by rfl) e.z_str boot_str) (pda_nil))))))))).pt) (pdss_one (pds_ret (pd_bl))) (pdss_nil))
    (pdss_one (pds_ret (pd_andT e.kk (pd_cmp (opd_eq e.kk hr.units) (pd_callB (cd_len rfl) (by rfl) e.z_len (by decide +kernel) (pda_cons (pd_ix e.kk (pd_var (pv 0)) (pd_int) (fun _ _ => rfl)) (pda_nil))) (pd_int) (nomark _)) (pd_andT e.kk (pd_cmp (opd_in e.kk (room65 hr)) (pd_ix e.kk (pd_var (pv 0)) (pd_int) (fun _ _ => rfl)) (pd_const (by rfl) e.kc_LETTERS e.kr_LETTERS) (by rfl)) (pd_one (pd_call (ok_is_whole e) (hr.mono (by decide)) (by rfl) e.m_is_whole e.F_is_whole.kp e.b_is_whole tk (pda_cons (pd_ix e.kk (pd_var (pv 0)) (pd_int) (fun _ _ => rfl)) (pda_cons (pd_int) (pda_nil)))))))))
theorem ok_pairs_told (e : Ev w0 P G mg base) : FnOk P w0 G.K mg base (L2.CX P w0) 7 e.a_pairs_told e.fd_pairs_told ["told"] (spG G 1 g_pairs_told) :=
  fn_okD e.F_pairs_told sc_pairs_told rfl rfl fun cdv A outer s H E hr tk ps => pdss_cons (pds_if ((pwd_and (ptd_truth e.kk (pd_callB (cd_isi rfl e.iso) (by rfl) e.z_isinstance (by decide +kernel) (pda_cons (pd_var (pv 0)) (pda_cons (pd_bltn (by rfl) e.z_str boot_str) (pda_nil))))) (pwd_and (ptd_cmp (opd_le) (pd_callB (cd_len rfl) (by rfl) e.z_len (by decide +kernel) (pda_cons (pd_var (pv 0)) (pda_nil))) (pd_const (by rfl) e.kc_MOST_LETTERS e.kr_MOST_LETTERS) (nomark _)) (pwd_and1 (ptd_truth e.kk (pd_callB (cd_all rfl) (by rfl) e.z_all (by decide +kernel) (pda_cons (pdo_frz (pdo_lc (own := [("letter", 1)]) rfl sc_pairs_told.nd (pdi_seq rfl (pd_var (pv 0))) (by exact blkOk_by (N := ["told", "letter", "pair"]) (sc := defScope st_pairs_told) (own := [("letter", 1)]) (by decide +kernel)) (by decide) (fun _ _ _ _ _ => pdg_name (i := 1) sc_pairs_told.nd rfl (.inl rfl)) (fun _ _ _ _ _ => ptds_nil) (fun _ _ _ _ _ => pd_cmp (opd_in e.kk (room65 hr)) (pd_var (pv 1)) (pd_const (by rfl) e.kc_LETTERS e.kr_LETTERS) (by rfl)))) (pda_nil))))))).pt) (pdss_one (pds_ret (pdo_frz (pdo_lc (own := [("letter", 1)]) rfl sc_pairs_told.nd (pdi_seq rfl (pd_var (pv 0))) (by exact blkOk_by (N := ["told", "letter", "pair"]) (sc := defScope st_pairs_told) (own := [("letter", 1)]) (by decide +kernel)) (by decide) (fun _ _ _ _ _ => pdg_name (i := 1) sc_pairs_told.nd rfl (.inl rfl)) (fun _ _ _ _ _ => ptds_nil) (fun _ _ _ _ _ => pd_tup (pda_cons (pd_var (pv 1)) (pda_cons (pd_int) (pda_nil)))))))) (pdss_nil))
    (pdss_cons (pds_if ((pwd_and (ptd_truth e.kk (pd_call (ok_is_list e) (hr.mono (by decide)) (by rfl) e.m_is_list e.F_is_list.kp e.b_is_list tk (pda_cons (pd_var (pv 0)) (pda_nil)))) (pwd_and (ptd_cmp (opd_le) (pd_callB (cd_len rfl) (by rfl) e.z_len (by decide +kernel) (pda_cons (pd_var (pv 0)) (pda_nil))) (pd_const (by rfl) e.kc_MOST_RUNS e.kr_MOST_RUNS) (nomark _)) (pwd_and1 (ptd_truth e.kk (pd_callB (cd_all rfl) (by rfl) e.z_all (by decide +kernel) (pda_cons (pdo_frz (pdo_lc (own := [("pair", 2)]) rfl sc_pairs_told.nd (pdi_seq rfl (pd_var (pv 0))) (by exact blkOk_by (N := ["told", "letter", "pair"]) (sc := defScope st_pairs_told) (own := [("pair", 2)]) (by decide +kernel)) (by decide) (fun _ _ _ _ _ => pdg_name (i := 2) sc_pairs_told.nd rfl (.inl rfl)) (fun _ _ _ _ _ => ptds_nil) (fun _ _ _ _ _ => pd_call (ok_is_pair e) (hr.mono (by decide)) (by rfl) e.m_is_pair e.F_is_pair.kp e.b_is_pair takes0 (pda_cons (pd_var (pv 2)) (pda_nil))))) (pda_nil))))))).pt) (pdss_one (pds_ret (pdo_frz (pdo_lc (own := [("pair", 2)]) rfl sc_pairs_told.nd (pdi_seq rfl (pd_var (pv 0))) (by exact blkOk_by (N := ["told", "letter", "pair"]) (sc := defScope st_pairs_told) (own := [("pair", 2)]) (by decide +kernel)) (by decide) (fun _ _ _ _ _ => pdg_name (i := 2) sc_pairs_told.nd rfl (.inl rfl)) (fun _ _ _ _ _ => ptds_nil) (fun _ _ _ _ _ => pd_tup (pda_cons (pd_ix e.kk (pd_var (pv 2)) (pd_int) (fun _ _ => rfl)) (pda_cons (pd_ix e.kk (pd_var (pv 2)) (pd_int) (fun _ _ => rfl)) (pda_nil)))))))) (pdss_nil))
    (pdss_one (pds_raise rfl tk e.X_BadWord.T e.X_BadWord.I s_0 e.X_BadWord.B (hr.mono (by decide)) (by rfl) e.m_BadWord (pda_cons (pd_var (pv 0)) (pda_nil)))))
theorem ok_WalkX_initX (e : Ev w0 P G mg base) : FnOk P w0 G.K mg base (L2.CX P w0) 9 e.a_WalkX_initX e.fd_WalkX_initX ["self", "told"] (spI G "Walk" 1 g_WalkX_initX) :=
  in_okD e.F_WalkX_initX sc_WalkX_initX rfl rfl fun cdv A outer s H E hr tk ps => pdss_one (pds_fld rfl (pv 0) s_6 e.ct_Walk e.cl_Walk (e.na_Walk_runs) (pd_call (ok_merged e) (hr.mono (by decide)) (by rfl) e.m_merged e.F_merged.kp e.b_merged tk (pda_cons (pd_call (ok_pairs_told e) (hr.mono (by decide)) (by rfl) e.m_pairs_told e.F_pairs_told.kp e.b_pairs_told tk (pda_cons (pd_var (pv 1)) (pda_nil))) (pda_nil))))
theorem ok_falling_pairs (e : Ev w0 P G mg base) : FnOk P w0 G.K mg base (L2.CX P w0) 1 e.a_falling_pairs e.fd_falling_pairs ["east", "north", "west", "south", "area"] (spG G 5 g_falling_pairs) :=
  fn_okD e.F_falling_pairs sc_falling_pairs rfl rfl fun cdv A outer s H E hr tk ps => pdss_cons (pds_set (i := 5) sc_falling_pairs.nd rfl (.inl rfl) (pd_callB (cd_min2 rfl) (by rfl) e.z_min (by decide +kernel) (pda_cons (pd_callTy cd_int (by rfl) e.z_int (by decide +kernel) (pda_cons (pd_var (pv 4)) (pda_nil))) (pda_cons (pd_callTy cd_int (by rfl) e.z_int (by decide +kernel) (pda_cons (pd_op (opd_mulA) (pd_var (pv 2)) (pd_var (pv 3))) (pda_nil))) (pda_nil)))))
    (pdss_cons (pds_asg (pd_ifExp (ptd_cmp (opd_gt) (pd_var (pv 2)) (pd_int) (nomark _)) (pd_callB cd_divmod (by rfl) e.z_divmod (by decide +kernel) (pda_cons (pd_var (pv 5)) (pda_cons (pd_var (pv 2)) (pda_nil)))) (pd_tup (pda_cons (pd_int) (pda_cons (pd_int) (pda_nil))))) (pdg_tup rfl rfl (pdgs_cons (pdg_name (i := 6) sc_falling_pairs.nd rfl (.inl rfl)) (pdgs_cons (pdg_name (i := 7) sc_falling_pairs.nd rfl (.inl rfl)) (pdgs_nil)))))
    (pdss_cons (pds_set (i := 8) sc_falling_pairs.nd rfl (.inl rfl) (pd_op (opd_sub) (pd_var (pv 0)) (pd_var (pv 2))))
    (pdss_cons (pds_asg (pd_ifExp (ptd_cmp (opd_gt) (pd_var (pv 8)) (pd_int) (nomark _)) (pd_callB cd_divmod (by rfl) e.z_divmod (by decide +kernel) (pda_cons (pd_op (opd_sub) (pd_var (pv 4)) (pd_var (pv 5))) (pda_cons (pd_var (pv 8)) (pda_nil)))) (pd_tup (pda_cons (pd_int) (pda_cons (pd_int) (pda_nil))))) (pdg_tup rfl rfl (pdgs_cons (pdg_name (i := 9) sc_falling_pairs.nd rfl (.inl rfl)) (pdgs_cons (pdg_name (i := 10) sc_falling_pairs.nd rfl (.inl rfl)) (pdgs_nil)))))
    (pdss_cons (pds_set (i := 11) sc_falling_pairs.nd rfl (.inl rfl) (pdo_frz (pdo_lst (pda_cons (pd_tup (pda_cons (pd_str s_9) (pda_cons (pd_op (opd_sub) (pd_op (opd_sub) (pd_var (pv 3)) (pd_var (pv 6))) (pd_callTy cd_int (by rfl) e.z_int (by decide +kernel) (pda_cons (pd_cmp (opd_gt) (pd_var (pv 7)) (pd_int) (nomark _)) (pda_nil)))) (pda_nil)))) (pda_cons (pd_tup (pda_cons (pd_str s_8) (pda_cons (pd_op (opd_sub) (pd_op (opd_sub) (pd_var (pv 1)) (pd_var (pv 9))) (pd_callTy cd_int (by rfl) e.z_int (by decide +kernel) (pda_cons (pd_cmp (opd_gt) (pd_var (pv 10)) (pd_int) (nomark _)) (pda_nil)))) (pda_nil)))) (pda_cons (pd_tup (pda_cons (pd_str s_7) (pda_cons (pd_var (pv 7)) (pda_nil)))) (pda_nil)))))))
    (pdss_cons (pds_set (i := 11) sc_falling_pairs.nd rfl (.inl rfl) (pd_op (opd_addA e.kk) (pd_var (pv 11)) (pdo_frz (pdo_lst (pda_cons (pd_tup (pda_cons (pd_str s_9) (pda_cons (pd_callTy cd_int (by rfl) e.z_int (by decide +kernel) (pda_cons (pd_cmp (opd_gt) (pd_var (pv 7)) (pd_int) (nomark _)) (pda_nil))) (pda_nil)))) (pda_cons (pd_tup (pda_cons (pd_str s_7) (pda_cons (pd_op (opd_sub) (pd_var (pv 2)) (pd_var (pv 7))) (pda_nil)))) (pda_cons (pd_tup (pda_cons (pd_str s_9) (pda_cons (pd_var (pv 6)) (pda_nil)))) (pda_cons (pd_tup (pda_cons (pd_str s_10) (pda_cons (pd_op (opd_addA e.kk) (pd_var (pv 2)) (pd_var (pv 10))) (pda_nil)))) (pda_cons (pd_tup (pda_cons (pd_str s_8) (pda_cons (pd_callTy cd_int (by rfl) e.z_int (by decide +kernel) (pda_cons (pd_cmp (opd_gt) (pd_var (pv 10)) (pd_int) (nomark _)) (pda_nil))) (pda_nil)))) (pda_nil))))))))))
    (pdss_one (pds_ret (pd_op (opd_addA e.kk) (pd_var (pv 11)) (pdo_frz (pdo_lst (pda_cons (pd_tup (pda_cons (pd_str s_10) (pda_cons (pd_op (opd_sub) (pd_var (pv 8)) (pd_var (pv 10))) (pda_nil)))) (pda_cons (pd_tup (pda_cons (pd_str s_8) (pda_cons (pd_var (pv 9)) (pda_nil)))) (pda_nil)))))))))))))
theorem ok_rising_pairs (e : Ev w0 P G mg base) : FnOk P w0 G.K mg base (L2.CX P w0) 1 e.a_rising_pairs e.fd_rising_pairs ["east", "north", "west", "south", "area"] (spG G 5 g_rising_pairs) :=
  fn_okD e.F_rising_pairs sc_rising_pairs rfl rfl fun cdv A outer s H E hr tk ps => pdss_cons (pds_if ((pwd_or (ptd_cmp (opd_eq e.kk hr.units) (pd_var (pv 1)) (pd_int) (nomark _)) (pwd_or1 (ptd_cmp (opd_eq e.kk hr.units) (pd_var (pv 0)) (pd_int) (nomark _)))).pt) (pdss_one (pds_ret (pdo_frz (pdo_lst (pda_cons (pd_tup (pda_cons (pd_str s_9) (pda_cons (pd_var (pv 3)) (pda_nil)))) (pda_cons (pd_tup (pda_cons (pd_str s_10) (pda_cons (pd_var (pv 0)) (pda_nil)))) (pda_cons (pd_tup (pda_cons (pd_str s_8) (pda_cons (pd_var (pv 1)) (pda_nil)))) (pda_cons (pd_tup (pda_cons (pd_str s_7) (pda_cons (pd_var (pv 2)) (pda_nil)))) (pda_nil))))))))) (pdss_nil))
    (pdss_cons (pds_asg (pd_callB cd_divmod (by rfl) e.z_divmod (by decide +kernel) (pda_cons (pd_op (opd_sub) (pd_op (opd_mulA) (pd_var (pv 0)) (pd_var (pv 1))) (pd_var (pv 4))) (pda_cons (pd_var (pv 1)) (pda_nil)))) (pdg_tup rfl rfl (pdgs_cons (pdg_name (i := 5) sc_rising_pairs.nd rfl (.inl rfl)) (pdgs_cons (pdg_name (i := 6) sc_rising_pairs.nd rfl (.inl rfl)) (pdgs_nil)))))
    (pdss_cons (pds_if (ptd_cmp (opd_eq e.kk hr.units) (pd_var (pv 5)) (pd_var (pv 0)) (nomark _)) (pdss_one (pds_par (i := 5) (j := 6) rfl sc_rising_pairs.nd rfl rfl (by decide) rfl rfl (pda_cons (pd_op (opd_sub) (pd_var (pv 0)) (pd_int)) (pda_cons (pd_var (pv 1)) (pda_nil))) (by rfl))) (pdss_nil))
    (pdss_one (pds_ret (pdo_frz (pdo_lst (pda_cons (pd_tup (pda_cons (pd_str s_9) (pda_cons (pd_var (pv 3)) (pda_nil)))) (pda_cons (pd_tup (pda_cons (pd_str s_10) (pda_cons (pd_op (opd_sub) (pd_op (opd_sub) (pd_var (pv 0)) (pd_int)) (pd_var (pv 5))) (pda_nil)))) (pda_cons (pd_tup (pda_cons (pd_str s_8) (pda_cons (pd_var (pv 6)) (pda_nil)))) (pda_cons (pd_tup (pda_cons (pd_str s_10) (pda_cons (pd_int) (pda_nil)))) (pda_cons (pd_tup (pda_cons (pd_str s_8) (pda_cons (pd_op (opd_sub) (pd_var (pv 1)) (pd_var (pv 6))) (pda_nil)))) (pda_cons (pd_tup (pda_cons (pd_str s_10) (pda_cons (pd_var (pv 5)) (pda_nil)))) (pda_cons (pd_tup (pda_cons (pd_str s_7) (pda_cons (pd_var (pv 2)) (pda_nil)))) (pda_nil))))))))))))))
theorem ok_swept_pairs (e : Ev w0 P G mg base) : ∀ n : Nat, FnOk P w0 G.K mg base (L2.CX P w0) (3 + n) e.a_swept_pairs e.fd_swept_pairs ["east", "north", "west", "south", "area"] (spG G 5 (g_swept_pairs n))
  | 0 => fn_stuck rfl
  | n + 1 => fn_okD (k := 3 + n) e.F_swept_pairs sc_swept_pairs rfl rfl fun cdv A outer s H E hr tk ps => pdss_cons (pds_if (ptd_cmp (opd_lt) (pd_var (pv 4)) (pd_int) (nomark _)) (pdss_cons (pds_set (i := 5) sc_swept_pairs.nd rfl (.inl rfl) (pd_call ((ok_swept_pairs e n)) (hr.mono (by omega)) (by rfl) e.m_swept_pairs e.F_swept_pairs.kp e.b_swept_pairs tk (pda_cons (pd_var (pv 2)) (pda_cons (pd_var (pv 1)) (pda_cons (pd_var (pv 0)) (pda_cons (pd_var (pv 3)) (pda_cons (pd_neg (pd_var (pv 4))) (pda_nil))))))))
    (pdss_one (pds_ret (pdo_frz (pdo_lc (own := [("letter", 6), ("times", 7)]) rfl sc_swept_pairs.nd (pdi_seq rfl (pd_var (pv 5))) (by exact blkOk_by (N := ["east", "north", "west", "south", "area", "pairs", "letter", "times"]) (sc := defScope st_swept_pairs) (own := [("letter", 6), ("times", 7)]) (by decide +kernel)) (by decide) (fun _ _ _ _ _ => pdg_tup rfl rfl (pdgs_cons (pdg_name (i := 6) sc_swept_pairs.nd rfl (.inl rfl)) (pdgs_cons (pdg_name (i := 7) sc_swept_pairs.nd rfl (.inl rfl)) (pdgs_nil)))) (fun _ _ _ _ _ => ptds_nil) (fun _ _ _ _ _ => pd_tup (pda_cons (pd_kd (kvs := kd_MIRRORED) e.kk (by rfl) e.kc_MIRRORED e.kd_MIRRORED (pd_var (pv 6)) (fun _ _ => rfl)) (pda_cons (pd_var (pv 7)) (pda_nil))))))))) (pdss_nil))
    (pdss_cons (pds_if ((pwd_or (ptd_cmp (opd_lt) (pd_var (pv 0)) (pd_var (pv 2)) (nomark _)) (pwd_or1 ((pwd_and (ptd_cmp (opd_eq e.kk hr.units) (pd_var (pv 0)) (pd_var (pv 2)) (nomark _)) (pwd_and1 (ptd_cmp (opd_lt) (pd_var (pv 1)) (pd_var (pv 3)) (nomark _)))).pt))).pt) (pdss_cons (pds_set (i := 5) sc_swept_pairs.nd rfl (.inl rfl) (pd_call ((ok_swept_pairs e n)) (hr.mono (by omega)) (by rfl) e.m_swept_pairs e.F_swept_pairs.kp e.b_swept_pairs tk (pda_cons (pd_var (pv 2)) (pda_cons (pd_var (pv 3)) (pda_cons (pd_var (pv 0)) (pda_cons (pd_var (pv 1)) (pda_cons (pd_var (pv 4)) (pda_nil))))))))
    (pdss_one (pds_ret (pdo_frz (pdo_lc (own := [("letter", 6), ("times", 7)]) rfl sc_swept_pairs.nd (pdi_seq rfl (pd_var (pv 5))) (by exact blkOk_by (N := ["east", "north", "west", "south", "area", "pairs", "letter", "times"]) (sc := defScope st_swept_pairs) (own := [("letter", 6), ("times", 7)]) (by decide +kernel)) (by decide) (fun _ _ _ _ _ => pdg_tup rfl rfl (pdgs_cons (pdg_name (i := 6) sc_swept_pairs.nd rfl (.inl rfl)) (pdgs_cons (pdg_name (i := 7) sc_swept_pairs.nd rfl (.inl rfl)) (pdgs_nil)))) (fun _ _ _ _ _ => ptds_nil) (fun _ _ _ _ _ => pd_tup (pda_cons (pd_kd (kvs := kd_TURNED) e.kk (by rfl) e.kc_TURNED e.kd_TURNED (pd_var (pv 6)) (fun _ _ => rfl)) (pda_cons (pd_var (pv 7)) (pda_nil))))))))) (pdss_nil))
    (pdss_cons (pds_if (ptd_cmp (opd_ge) (pd_var (pv 1)) (pd_var (pv 3)) (nomark _)) (pdss_one (pds_ret (pd_call (ok_rising_pairs e) (hr.mono (by omega)) (by rfl) e.m_rising_pairs e.F_rising_pairs.kp e.b_rising_pairs tk (pda_cons (pd_var (pv 0)) (pda_cons (pd_var (pv 1)) (pda_cons (pd_var (pv 2)) (pda_cons (pd_var (pv 3)) (pda_cons (pd_var (pv 4)) (pda_nil))))))))) (pdss_nil))
    (pdss_one (pds_ret (pd_call (ok_falling_pairs e) (hr.mono (by omega)) (by rfl) e.m_falling_pairs e.F_falling_pairs.kp e.b_falling_pairs tk (pda_cons (pd_var (pv 0)) (pda_cons (pd_var (pv 1)) (pda_cons (pd_var (pv 2)) (pda_cons (pd_var (pv 3)) (pda_cons (pd_var (pv 4)) (pda_nil)))))))))))
theorem ok_Lot_walk_with (e : Ev w0 P G mg base) : FnOk P w0 G.K mg base (L2.CX P w0) 11 e.a_Lot_walk_with e.fd_Lot_walk_with ["self", "area"] (spG G 2 g_Lot_walk_with) :=
  fn_okD e.F_Lot_walk_with sc_Lot_walk_with rfl rfl fun cdv A outer s H E hr tk ps => pdss_cons (pds_asg (pd_meth0 rfl (pd_var (pv 0)) e.ct_Lot e.cl_Lot s_11 e.M_Lot_swept_areas (ok_Lot_swept_areas e) (hr.mono (by decide)) e.b_Lot_swept_areas tk) (pdg_tup rfl rfl (pdgs_cons (pdg_name (i := 2) sc_Lot_walk_with.nd rfl (.inl rfl)) (pdgs_cons (pdg_name (i := 3) sc_Lot_walk_with.nd rfl (.inl rfl)) (pdgs_nil)))))
    (pdss_cons (pds_if (ptd_not (ptd_chain (opd_le) (opd_le) (pd_var (pv 2)) (pd_var (pv 1)) (pd_var (pv 3)) (fun h1 h2 h3 h4 h5 => pt_chain h1 h2 h3 h4 h5))) (pdss_one (pds_ret (pd_non))) (pdss_nil))
    (pdss_one (pds_ret (pd_make e.mk_Walk e.ct_Walk (ok_WalkX_initX e) (hr.mono (by decide)) (by rfl) e.m_Walk e.b_WalkX_initX tk (pda_cons (pd_call (ok_swept_pairs e 3) (hr.mono (by decide)) (by rfl) e.m_swept_pairs e.F_swept_pairs.kp e.b_swept_pairs tk (pda_cons (pd_fld rfl s_1 e.f_east (pd_var (pv 0))) (pda_cons (pd_fld rfl s_2 e.f_north (pd_var (pv 0))) (pda_cons (pd_fld rfl s_3 e.f_west (pd_var (pv 0))) (pda_cons (pd_fld rfl s_4 e.f_south (pd_var (pv 0))) (pda_cons (pd_var (pv 1)) (pda_nil))))))) (pda_nil))))))
theorem ok__law_begin (e : Ev w0 P G mg base) : FnOk P w0 G.K mg base (L2.CX P w0) 1 e.a__law_begin e.fd__law_begin ["_law_script"] (spG G 1 g__law_begin) :=
  fn_okD e.F__law_begin sc__law_begin rfl rfl fun cdv A outer s H E hr tk ps => pdss_one (pds_ret (pdod_cell (pdod_disp (fs := [(eC (.str [99, 101, 108, 108, 115]), eFrz (aList (aCons (eSlA (eVar 0) (oNone) (oSome (eC (.int 63)))) (aNil)))), (eC (.str [109, 97, 114, 107]), eC (.int 0)), (eC (.str [114, 101, 115, 116]), eC (.int 0))]) (pps_cons (pd_str s_14) (pdo_frz (pdo_list rfl (by rfl) e.z_list boot_list (pda_cons (pd_slA rfl (pd_var (pv 0)) (pdo_none) (pdo_some (pd_int))) (pda_nil)))) (pps_cons (pd_str s_13) (pd_int) (pps_cons (pd_str s_12) (pd_int) (pps_nil)))) (by rfl) (by rfl) (fun z => by cases z) (by decide))))
theorem ok__law_draw (e : Ev w0 P G mg base) : FnOk P w0 G.K mg base (L2.CX P w0) 1 e.a__law_draw e.fd__law_draw ["_law_pen", "_law_span"] (spG G 2 g__law_draw) :=
  fn_okD e.F__law_draw sc__law_draw rfl rfl fun cdv A outer s H E hr tk ps => pdss_cons (pds_if (ptd_cmp (opd_gt) (pd_dget (hu_of hr) (pd_var (pv 0)) (pd_str s_12) (fun _ _ => rfl)) (pd_int) (nomark _)) (pdss_cons (pds_set (i := 2) sc__law_draw.nd rfl (.inl rfl) (pd_op (opd_mod) (pd_callTy cd_int (by rfl) e.z_int (by decide +kernel) (pda_cons (pd_dget (hu_of hr) (pd_var (pv 0)) (pd_str s_12) (fun _ _ => rfl)) (pda_nil))) (pd_var (pv 1))))
    (pdss_cons (pds_dputC (hu_of hr) (pd_var (pv 0)) (pd_str s_12) (pd_op (opd_div) (pd_dget (hu_of hr) (pd_var (pv 0)) (pd_str s_12) (fun _ _ => rfl)) (pd_var (pv 1))))
    (pdss_one (pds_ret (pd_var (pv 2)))))) (pdss_nil))
    (pdss_cons (pds_set (i := 3) sc__law_draw.nd rfl (.inl rfl) (pd_dget (hu_of hr) (pd_var (pv 0)) (pd_str s_13) (fun _ _ => rfl)))
    (pdss_cons (pds_dputC (hu_of hr) (pd_var (pv 0)) (pd_str s_13) (pd_op (opd_addA e.kk) (pd_var (pv 3)) (pd_int)))
    (pdss_cons (pds_set (i := 4) sc__law_draw.nd rfl (.inl rfl) (pd_op (opd_addA e.kk) (pd_op (opd_mulA) (pd_int) (pd_var (pv 3))) (pd_int)))
    (pdss_cons (pds_if (ptd_cmp (opd_ne e.kk hr.units) (pd_dget (hu_of hr) (pd_var (pv 0)) (pd_str s_14) (fun _ _ => rfl)) (pdo_frz (pdo_lst (pda_nil))) (nomark _)) (pdss_one (pds_set (i := 4) sc__law_draw.nd rfl (.inl rfl) (pd_ix e.kk (pd_dget (hu_of hr) (pd_var (pv 0)) (pd_str s_14) (fun _ _ => rfl)) (pd_op (opd_mod) (pd_callTy cd_int (by rfl) e.z_int (by decide +kernel) (pda_cons (pd_var (pv 3)) (pda_nil))) (pd_callB (cd_len rfl) (by rfl) e.z_len (by decide +kernel) (pda_cons (pd_dget (hu_of hr) (pd_var (pv 0)) (pd_str s_14) (fun _ _ => rfl)) (pda_nil)))) (fun _ _ => rfl)))) (pdss_nil))
    (pdss_cons (pds_if ((pwd_and (ptd_cmp (opd_lt) (pd_var (pv 3)) (pd_callB (cd_len rfl) (by rfl) e.z_len (by decide +kernel) (pda_cons (pd_dget (hu_of hr) (pd_var (pv 0)) (pd_str s_14) (fun _ _ => rfl)) (pda_nil))) (nomark _)) (pwd_and1 (ptd_cmp (opd_ge) (pd_callB cd_abs (by rfl) e.z_abs (by decide +kernel) (pda_cons (pd_var (pv 4)) (pda_nil))) (pd_op (opd_pow) (pd_int) (pd_int)) (nomark _)))).pt) (pdss_cons (pds_dputC (hu_of hr) (pd_var (pv 0)) (pd_str s_12) (pd_op (opd_div) (pd_op (opd_sub) (pd_callB cd_abs (by rfl) e.z_abs (by decide +kernel) (pda_cons (pd_var (pv 4)) (pda_nil))) (pd_op (opd_pow) (pd_int) (pd_int))) (pd_var (pv 1))))
    (pdss_one (pds_ret (pd_op (opd_mod) (pd_callTy cd_int (by rfl) e.z_int (by decide +kernel) (pda_cons (pd_op (opd_sub) (pd_callB cd_abs (by rfl) e.z_abs (by decide +kernel) (pda_cons (pd_var (pv 4)) (pda_nil))) (pd_op (opd_pow) (pd_int) (pd_int))) (pda_nil))) (pd_var (pv 1)))))) (pdss_nil))
    (pdss_cons (pds_set (i := 5) sc__law_draw.nd rfl (.inl rfl) (pd_op (opd_addA e.kk) (pd_op (opd_mulA) (pd_op (opd_mod) (pd_callTy cd_int (by rfl) e.z_int (by decide +kernel) (pda_cons (pd_var (pv 4)) (pda_nil))) (pd_int)) (pd_int)) (pd_op (opd_mulA) (pd_op (opd_mulA) (pd_int) (pd_var (pv 3))) (pd_var (pv 3)))))
    (pdss_cons (pds_set (i := 5) sc__law_draw.nd rfl (.inl rfl) (pd_op (opd_mod) (pd_callTy cd_int (by rfl) e.z_int (by decide +kernel) (pda_cons (pd_op (opd_addA e.kk) (pd_op (opd_addA e.kk) (pd_var (pv 5)) (pd_op (opd_mulA) (pd_int) (pd_var (pv 3)))) (pd_int)) (pda_nil))) (pd_int)))
    (pdss_cons (pds_set (i := 5) sc__law_draw.nd rfl (.inl rfl) (pd_op (opd_mod) (pd_callTy cd_int (by rfl) e.z_int (by decide +kernel) (pda_cons (pd_op (opd_addA e.kk) (pd_op (opd_addA e.kk) (pd_op (opd_addA e.kk) (pd_op (opd_mulA) (pd_var (pv 5)) (pd_var (pv 5))) (pd_op (opd_mulA) (pd_int) (pd_var (pv 5)))) (pd_op (opd_mulA) (pd_int) (pd_var (pv 3)))) (pd_int)) (pda_nil))) (pd_int)))
    (pdss_cons (pds_set (i := 5) sc__law_draw.nd rfl (.inl rfl) (pd_op (opd_mod) (pd_callTy cd_int (by rfl) e.z_int (by decide +kernel) (pda_cons (pd_op (opd_addA e.kk) (pd_op (opd_addA e.kk) (pd_op (opd_mulA) (pd_var (pv 5)) (pd_var (pv 5))) (pd_op (opd_mulA) (pd_int) (pd_var (pv 5)))) (pd_var (pv 3))) (pda_nil))) (pd_int)))
    (pdss_one (pds_ret (pd_op (opd_mod) (pd_callTy cd_int (by rfl) e.z_int (by decide +kernel) (pda_cons (pd_op (opd_div) (pd_op (opd_mod) (pd_callTy cd_int (by rfl) e.z_int (by decide +kernel) (pda_cons (pd_op (opd_mulA) (pd_var (pv 5)) (pd_op (opd_addA e.kk) (pd_var (pv 5)) (pd_int))) (pda_nil))) (pd_int)) (pd_int)) (pda_nil))) (pd_var (pv 1))))))))))))))
theorem ok__law_number (e : Ev w0 P G mg base) : FnOk P w0 G.K mg base (L2.CX P w0) 3 e.a__law_number e.fd__law_number ["_law_pen", "_law_groups"] (spG G 2 g__law_number) :=
  fn_okD e.F__law_number sc__law_number rfl rfl fun cdv A outer s H E hr tk ps => pdss_cons (pds_set (i := 2) sc__law_number.nd rfl (.inl rfl) (pd_int))
    (pdss_cons (pds_for ps rfl (pdi_range1 (by rfl) e.z_range (pda_cons (pd_op (opd_addA e.kk) (pd_int) (pd_call (ok__law_draw e) (hr.mono (by decide)) (by rfl) e.m__law_draw e.F__law_draw.kp e.b__law_draw tk (pda_cons (pd_var (pv 0)) (pda_cons (pd_var (pv 1)) (pda_nil))))) (pda_nil))) (pdg_name (i := 3) sc__law_number.nd rfl (.inl rfl)) (pdss_one (pds_set (i := 2) sc__law_number.nd rfl (.inl rfl) (pd_op (opd_addA e.kk) (pd_op (opd_mulA) (pd_var (pv 2)) (pd_op (opd_pow) (pd_int) (pd_int))) (pd_call (ok__law_draw e) (hr.mono (by decide)) (by rfl) e.m__law_draw e.F__law_draw.kp e.b__law_draw tk (pda_cons (pd_var (pv 0)) (pda_cons (pd_op (opd_pow) (pd_int) (pd_int)) (pda_nil))))))))
    (pdss_one (pds_ret (pd_var (pv 2)))))
theorem ok__law_great (e : Ev w0 P G mg base) : FnOk P w0 G.K mg base (L2.CX P w0) 5 e.a__law_great e.fd__law_great ["_law_pen"] (spG G 1 g__law_great) :=
  fn_okD e.F__law_great sc__law_great rfl rfl fun cdv A outer s H E hr tk ps => pdss_one (pds_ret (pd_ifExp (ptd_cmp (opd_eq e.kk hr.units) (pd_call (ok__law_draw e) (hr.mono (by decide)) (by rfl) e.m__law_draw e.F__law_draw.kp e.b__law_draw tk (pda_cons (pd_var (pv 0)) (pda_cons (pd_int) (pda_nil)))) (pd_int) (nomark _)) (pd_call (ok__law_draw e) (hr.mono (by decide)) (by rfl) e.m__law_draw e.F__law_draw.kp e.b__law_draw tk (pda_cons (pd_var (pv 0)) (pda_cons (pd_int) (pda_nil)))) (pd_call (ok__law_number e) (hr.mono (by decide)) (by rfl) e.m__law_number e.F__law_number.kp e.b__law_number tk (pda_cons (pd_var (pv 0)) (pda_cons (pd_int) (pda_nil))))))
theorem ok__law_pick (e : Ev w0 P G mg base) : FnOk P w0 G.K mg base (L2.CX P w0) 3 e.a__law_pick e.fd__law_pick ["_law_pen", "_law_some"] (spG G 2 g__law_pick) :=
  fn_okD e.F__law_pick sc__law_pick rfl rfl fun cdv A outer s H E hr tk ps => pdss_one (pds_ret (pd_ix e.kk (pd_var (pv 1)) (pd_call (ok__law_draw e) (hr.mono (by decide)) (by rfl) e.m__law_draw e.F__law_draw.kp e.b__law_draw tk (pda_cons (pd_var (pv 0)) (pda_cons (pd_callB (cd_len rfl) (by rfl) e.z_len (by decide +kernel) (pda_cons (pd_var (pv 1)) (pda_nil))) (pda_nil)))) (fun _ _ => rfl)))
theorem ok__law_signed (e : Ev w0 P G mg base) : FnOk P w0 G.K mg base (L2.CX P w0) 7 e.a__law_signed e.fd__law_signed ["_law_pen"] (spG G 1 g__law_signed) :=
  fn_okD e.F__law_signed sc__law_signed rfl rfl fun cdv A outer s H E hr tk ps => pdss_one (pds_ret (pd_op (opd_mulA) (pd_call (ok__law_great e) (hr.mono (by decide)) (by rfl) e.m__law_great e.F__law_great.kp e.b__law_great tk (pda_cons (pd_var (pv 0)) (pda_nil))) (pd_call (ok__law_pick e) (hr.mono (by decide)) (by rfl) e.m__law_pick e.F__law_pick.kp e.b__law_pick tk (pda_cons (pd_var (pv 0)) (pda_cons (pdo_frz (pdo_lst (pda_cons (pd_int) (pda_cons (pd_neg (pd_int)) (pda_nil))))) (pda_nil))))))
theorem ok_best_sides (e : Ev w0 P G mg base) : FnOk P w0 G.K mg base (L2.CX P w0) 1 e.a_best_sides e.fd_best_sides ["x", "y", "extra"] (spG G 3 g_best_sides) :=
  fn_okD e.F_best_sides sc_best_sides rfl rfl fun cdv A outer s H E hr tk ps => pdss_cons (pds_if (ptd_cmp (opd_le) (pd_var (pv 2)) (pd_callB cd_abs (by rfl) e.z_abs (by decide +kernel) (pda_cons (pd_op (opd_sub) (pd_var (pv 0)) (pd_var (pv 1))) (pda_nil))) (nomark _)) (pdss_one (pds_ret (pd_ifExp (ptd_cmp (opd_ge) (pd_var (pv 0)) (pd_var (pv 1)) (nomark _)) (pd_tup (pda_cons (pd_var (pv 0)) (pda_cons (pd_op (opd_addA e.kk) (pd_var (pv 1)) (pd_var (pv 2))) (pda_nil)))) (pd_tup (pda_cons (pd_op (opd_addA e.kk) (pd_var (pv 0)) (pd_var (pv 2))) (pda_cons (pd_var (pv 1)) (pda_nil))))))) (pdss_nil))
    (pdss_one (pds_ret (pd_tup (pda_cons (pd_op (opd_div) (pd_op (opd_addA e.kk) (pd_op (opd_addA e.kk) (pd_op (opd_addA e.kk) (pd_var (pv 0)) (pd_var (pv 1))) (pd_var (pv 2))) (pd_int)) (pd_int)) (pda_cons (pd_op (opd_div) (pd_op (opd_addA e.kk) (pd_op (opd_addA e.kk) (pd_var (pv 0)) (pd_var (pv 1))) (pd_var (pv 2))) (pd_int)) (pda_nil))))))
theorem ok_areas_of (e : Ev w0 P G mg base) : FnOk P w0 G.K mg base (L2.CX P w0) 3 e.a_areas_of e.fd_areas_of ["x", "y", "number"] (spG G 3 g_areas_of) :=
  fn_okD e.F_areas_of sc_areas_of rfl rfl fun cdv A outer s H E hr tk ps => pdss_cons (pds_set (i := 3) sc_areas_of.nd rfl (.inl rfl) (pd_op (opd_sub) (pd_op (opd_sub) (pd_var (pv 2)) (pd_callB cd_abs (by rfl) e.z_abs (by decide +kernel) (pda_cons (pd_var (pv 0)) (pda_nil)))) (pd_callB cd_abs (by rfl) e.z_abs (by decide +kernel) (pda_cons (pd_var (pv 1)) (pda_nil)))))
    (pdss_cons (pds_if ((pwd_or (ptd_cmp (opd_lt) (pd_var (pv 3)) (pd_int) (nomark _)) (pwd_or1 (ptd_cmp (opd_eq e.kk hr.units) (pd_op (opd_mod) (pd_var (pv 3)) (pd_int)) (pd_int) (nomark _)))).pt) (pdss_one (pds_ret (pd_non))) (pdss_nil))
    (pdss_cons (pds_asg (pd_call (ok_best_sides e) (hr.mono (by decide)) (by rfl) e.m_best_sides e.F_best_sides.kp e.b_best_sides tk (pda_cons (pd_callB cd_abs (by rfl) e.z_abs (by decide +kernel) (pda_cons (pd_var (pv 0)) (pda_nil))) (pda_cons (pd_callB cd_abs (by rfl) e.z_abs (by decide +kernel) (pda_cons (pd_var (pv 1)) (pda_nil))) (pda_cons (pd_op (opd_div) (pd_var (pv 3)) (pd_int)) (pda_nil))))) (pdg_tup rfl rfl (pdgs_cons (pdg_name (i := 4) sc_areas_of.nd rfl (.inl rfl)) (pdgs_cons (pdg_name (i := 5) sc_areas_of.nd rfl (.inl rfl)) (pdgs_nil)))))
    (pdss_cons (pds_set (i := 6) sc_areas_of.nd rfl (.inl rfl) (pd_op (opd_sub) (pd_op (opd_mulA) (pd_op (opd_mulA) (pd_int) (pd_var (pv 4))) (pd_var (pv 5))) (pd_callB cd_abs (by rfl) e.z_abs (by decide +kernel) (pda_cons (pd_op (opd_mulA) (pd_var (pv 0)) (pd_var (pv 1))) (pda_nil)))))
    (pdss_one (pds_ret (pd_tup (pda_cons (pd_op (opd_div) (pd_op (opd_sub) (pd_op (opd_mulA) (pd_var (pv 0)) (pd_var (pv 1))) (pd_var (pv 6))) (pd_int)) (pda_cons (pd_op (opd_div) (pd_op (opd_addA e.kk) (pd_op (opd_mulA) (pd_var (pv 0)) (pd_var (pv 1))) (pd_var (pv 6))) (pd_int)) (pda_nil)))))))))
theorem ok_areas (e : Ev w0 P G mg base) : FnOk P w0 G.K mg base (L2.CX P w0) 5 e.a_areas e.fd_areas ["x", "y", "number"] (spG G 3 g_areas) :=
  fn_okD e.F_areas sc_areas rfl rfl fun cdv A outer s H E hr tk ps => pdss_cons (pds_for ps rfl (pdi_seq rfl (pd_tup (pda_cons (pd_var (pv 0)) (pda_cons (pd_var (pv 1)) (pda_nil))))) (pdg_name (i := 3) sc_areas.nd rfl (.inl rfl)) (pdss_one (pds_if (ptd_not (ptd_truth e.kk (pd_call (ok_is_integer e) (hr.mono (by decide)) (by rfl) e.m_is_integer e.F_is_integer.kp e.b_is_integer tk (pda_cons (pd_var (pv 3)) (pda_nil))))) (pdss_one (pds_raise rfl tk e.X_BadNumber.T e.X_BadNumber.I s_0 e.X_BadNumber.B (hr.mono (by decide)) (by rfl) e.m_BadNumber (pda_cons (pd_var (pv 3)) (pda_nil)))) (pdss_nil))))
    (pdss_cons (pds_if (ptd_not (ptd_truth e.kk (pd_call (ok_is_whole e) (hr.mono (by decide)) (by rfl) e.m_is_whole e.F_is_whole.kp e.b_is_whole tk (pda_cons (pd_var (pv 2)) (pda_cons (pd_int) (pda_nil)))))) (pdss_one (pds_raise rfl tk e.X_BadNumber.T e.X_BadNumber.I s_0 e.X_BadNumber.B (hr.mono (by decide)) (by rfl) e.m_BadNumber (pda_cons (pd_var (pv 2)) (pda_nil)))) (pdss_nil))
    (pdss_one (pds_ret (pd_call (ok_areas_of e) (hr.mono (by decide)) (by rfl) e.m_areas_of e.F_areas_of.kp e.b_areas_of tk (pda_cons (pd_var (pv 0)) (pda_cons (pd_var (pv 1)) (pda_cons (pd_var (pv 2)) (pda_nil))))))))
theorem ok__law_best_right (e : Ev w0 P G mg base) : FnOk P w0 G.K mg base (L2.CX P w0) 9 e.a__law_best_right e.fd__law_best_right ["_law_pen"] (spG G 1 g__law_best_right) :=
  fn_okD e.F__law_best_right sc__law_best_right rfl rfl fun cdv A outer s H E hr tk ps => pdss_cons (pds_par3 (i := 1) (j := 2) (l := 3) rfl sc__law_best_right.nd rfl rfl rfl (by decide) (by decide) (by decide) rfl rfl rfl (pda_cons (pd_call (ok__law_signed e) (hr.mono (by decide)) (by rfl) e.m__law_signed e.F__law_signed.kp e.b__law_signed tk (pda_cons (pd_var (pv 0)) (pda_nil))) (pda_cons (pd_call (ok__law_signed e) (hr.mono (by decide)) (by rfl) e.m__law_signed e.F__law_signed.kp e.b__law_signed tk (pda_cons (pd_var (pv 0)) (pda_nil))) (pda_cons (pd_call (ok__law_great e) (hr.mono (by decide)) (by rfl) e.m__law_great e.F__law_great.kp e.b__law_great tk (pda_cons (pd_var (pv 0)) (pda_nil))) (pda_nil)))) (by rfl))
    (pdss_cons (pds_set (i := 4) sc__law_best_right.nd rfl (.inl rfl) (pd_call (ok_areas e) (hr.mono (by decide)) (by rfl) e.m_areas e.F_areas.kp e.b_areas tk (pda_cons (pd_var (pv 1)) (pda_cons (pd_var (pv 2)) (pda_cons (pd_op (opd_addA e.kk) (pd_op (opd_addA e.kk) (pd_callB cd_abs (by rfl) e.z_abs (by decide +kernel) (pda_cons (pd_var (pv 1)) (pda_nil))) (pd_callB cd_abs (by rfl) e.z_abs (by decide +kernel) (pda_cons (pd_var (pv 2)) (pda_nil)))) (pd_op (opd_mulA) (pd_int) (pd_var (pv 3)))) (pda_nil))))))
    (pdss_cons (pds_set (i := 5) sc__law_best_right.nd rfl (.inl rfl) (pd_op (opd_div) (pd_op (opd_sub) (pd_op (opd_addA e.kk) (pd_var (pv 3)) (pd_callB cd_abs (by rfl) e.z_abs (by decide +kernel) (pda_cons (pd_var (pv 2)) (pda_nil)))) (pd_callB cd_abs (by rfl) e.z_abs (by decide +kernel) (pda_cons (pd_var (pv 1)) (pda_nil)))) (pd_int)))
    (pdss_cons (pds_set (i := 5) sc__law_best_right.nd rfl (.inl rfl) (pd_ifExp (ptd_cmp (opd_lt) (pd_var (pv 5)) (pd_int) (nomark _)) (pd_int) (pd_ifExp (ptd_cmp (opd_gt) (pd_var (pv 5)) (pd_var (pv 3)) (nomark _)) (pd_var (pv 3)) (pd_var (pv 5)))))
    (pdss_cons (pds_setO (i := 6) sc__law_best_right.nd rfl (.inl rfl) (pdo_lst (pda_nil)))
    (pdss_cons (pds_for ps rfl (pdi_seq rfl (pdo_frz (pdo_lst (pda_cons (pd_var (pv 5)) (pda_cons (pd_op (opd_addA e.kk) (pd_var (pv 5)) (pd_int)) (pda_cons (pd_int) (pda_cons (pd_var (pv 3)) (pda_cons (pd_op (opd_mod) (pd_callTy cd_int (by rfl) e.z_int (by decide +kernel) (pda_cons (pd_call (ok__law_great e) (hr.mono (by decide)) (by rfl) e.m__law_great e.F__law_great.kp e.b__law_great tk (pda_cons (pd_var (pv 0)) (pda_nil))) (pda_nil))) (pd_op (opd_addA e.kk) (pd_var (pv 3)) (pd_int))) (pda_nil))))))))) (pdg_name (i := 7) sc__law_best_right.nd rfl (.inl rfl)) (pdss_one (pds_if (ptd_chain (opd_le) (opd_le) (pd_int) (pd_var (pv 7)) (pd_var (pv 3)) (fun h1 h2 h3 h4 h5 => pt_chain h1 h2 h3 h4 h5)) (pdss_cons (pds_asg (pd_ifExp (ptd_cmp (opd_ge) (pd_var (pv 1)) (pd_int) (nomark _)) (pd_tup (pda_cons (pd_op (opd_addA e.kk) (pd_var (pv 1)) (pd_var (pv 7))) (pda_cons (pd_var (pv 7)) (pda_nil)))) (pd_tup (pda_cons (pd_var (pv 7)) (pda_cons (pd_op (opd_sub) (pd_var (pv 7)) (pd_var (pv 1))) (pda_nil))))) (pdg_tup rfl rfl (pdgs_cons (pdg_name (i := 8) sc__law_best_right.nd rfl (.inl rfl)) (pdgs_cons (pdg_name (i := 9) sc__law_best_right.nd rfl (.inl rfl)) (pdgs_nil)))))
    (pdss_cons (pds_set (i := 10) sc__law_best_right.nd rfl (.inl rfl) (pd_op (opd_sub) (pd_var (pv 3)) (pd_var (pv 7))))
    (pdss_cons (pds_asg (pd_ifExp (ptd_cmp (opd_ge) (pd_var (pv 2)) (pd_int) (nomark _)) (pd_tup (pda_cons (pd_op (opd_addA e.kk) (pd_var (pv 2)) (pd_var (pv 10))) (pda_cons (pd_var (pv 10)) (pda_nil)))) (pd_tup (pda_cons (pd_var (pv 10)) (pda_cons (pd_op (opd_sub) (pd_var (pv 10)) (pd_var (pv 2))) (pda_nil))))) (pdg_tup rfl rfl (pdgs_cons (pdg_name (i := 11) sc__law_best_right.nd rfl (.inl rfl)) (pdgs_cons (pdg_name (i := 12) sc__law_best_right.nd rfl (.inl rfl)) (pdgs_nil)))))
    (pdss_one (pds_append (pv 6) (pda_cons (pd_meth0 rfl (pd_make e.mk_Lot e.ct_Lot (ok_LotX_initX e) (hr.mono (by decide)) (by rfl) e.m_Lot e.b_LotX_initX tk (pda_cons (pd_var (pv 8)) (pda_cons (pd_var (pv 11)) (pda_cons (pd_var (pv 9)) (pda_cons (pd_var (pv 12)) (pda_nil)))))) e.ct_Lot e.cl_Lot s_11 e.M_Lot_swept_areas (ok_Lot_swept_areas e) (hr.mono (by decide)) e.b_Lot_swept_areas tk) (pda_nil))))))) (pdss_nil))))
    (pdss_cons (pds_for ps rfl (pdi_seq rfl (pd_var (pv 6))) (pdg_tup rfl rfl (pdgs_cons (pdg_name (i := 13) sc__law_best_right.nd rfl (.inl rfl)) (pdgs_cons (pdg_name (i := 10) sc__law_best_right.nd rfl (.inl rfl)) (pdgs_nil)))) (pdss_one (pds_if ((pwd_or (ptd_cmp (opd_lt) (pd_var (pv 13)) (pd_ix e.kk (pd_var (pv 4)) (pd_int) (fun _ _ => rfl)) (nomark _)) (pwd_or1 (ptd_cmp (opd_gt) (pd_var (pv 10)) (pd_ix e.kk (pd_var (pv 4)) (pd_int) (fun _ _ => rfl)) (nomark _)))).pt) (pdss_one (pds_ret (pd_bl))) (pdss_nil))))
    (pdss_one (pds_ret (pd_cmp (opd_in e.kk (room65 hr)) (pd_var (pv 4)) (pd_var (pv 6)) (by rfl))))))))))
theorem ok__law_step (e : Ev w0 P G mg base) : FnOk P w0 G.K mg base (L2.CX P w0) 1 e.a__law_step e.fd__law_step ["_law_spot", "_law_letter", "_law_times"] (spG G 3 g__law_step) :=
  fn_okD e.F__law_step sc__law_step rfl rfl fun cdv A outer s H E hr tk ps => pdss_cons (pds_asg (pd_var (pv 0)) (pdg_tup rfl rfl (pdgs_cons (pdg_name (i := 3) sc__law_step.nd rfl (.inl rfl)) (pdgs_cons (pdg_name (i := 4) sc__law_step.nd rfl (.inl rfl)) (pdgs_cons (pdg_name (i := 5) sc__law_step.nd rfl (.inl rfl)) (pdgs_nil))))))
    (pdss_cons (pds_if (ptd_cmp (opd_in e.kk (room65 hr)) (pd_var (pv 1)) (pd_str s_15) (by rfl)) (pdss_one (pds_ret (pd_tup (pda_cons (pd_ifExp (ptd_cmp (opd_eq e.kk hr.units) (pd_var (pv 1)) (pd_str s_10) (nomark _)) (pd_op (opd_addA e.kk) (pd_var (pv 3)) (pd_var (pv 2))) (pd_op (opd_sub) (pd_var (pv 3)) (pd_var (pv 2)))) (pda_cons (pd_var (pv 4)) (pda_cons (pd_var (pv 5)) (pda_nil))))))) (pdss_nil))
    (pdss_one (pds_ret (pd_ifExp (ptd_cmp (opd_eq e.kk hr.units) (pd_var (pv 1)) (pd_str s_8) (nomark _)) (pd_tup (pda_cons (pd_var (pv 3)) (pda_cons (pd_op (opd_addA e.kk) (pd_var (pv 4)) (pd_var (pv 2))) (pda_cons (pd_op (opd_addA e.kk) (pd_var (pv 5)) (pd_op (opd_mulA) (pd_var (pv 3)) (pd_var (pv 2)))) (pda_nil))))) (pd_tup (pda_cons (pd_var (pv 3)) (pda_cons (pd_op (opd_sub) (pd_var (pv 4)) (pd_var (pv 2))) (pda_cons (pd_op (opd_sub) (pd_var (pv 5)) (pd_op (opd_mulA) (pd_var (pv 3)) (pd_var (pv 2)))) (pda_nil)))))))))
theorem ok__law_led (e : Ev w0 P G mg base) : FnOk P w0 G.K mg base (L2.CX P w0) 3 e.a__law_led e.fd__law_led ["_law_runs"] (spG G 1 g__law_led) :=
  fn_okD e.F__law_led sc__law_led rfl rfl fun cdv A outer s H E hr tk ps => pdss_cons (pds_set (i := 1) sc__law_led.nd rfl (.inl rfl) (pd_tup (pda_cons (pd_int) (pda_cons (pd_int) (pda_cons (pd_int) (pda_nil))))))
    (pdss_cons (pds_for ps rfl (pdi_seq rfl (pd_var (pv 0))) (pdg_tup rfl rfl (pdgs_cons (pdg_name (i := 2) sc__law_led.nd rfl (.inl rfl)) (pdgs_cons (pdg_name (i := 3) sc__law_led.nd rfl (.inl rfl)) (pdgs_nil)))) (pdss_one (pds_set (i := 1) sc__law_led.nd rfl (.inl rfl) (pd_call (ok__law_step e) (hr.mono (by decide)) (by rfl) e.m__law_step e.F__law_step.kp e.b__law_step tk (pda_cons (pd_var (pv 1)) (pda_cons (pd_var (pv 2)) (pda_cons (pd_var (pv 3)) (pda_nil))))))))
    (pdss_one (pds_ret (pd_var (pv 1)))))
theorem ok__law_greatest (e : Ev w0 P G mg base) : FnOk P w0 G.K mg base (L2.CX P w0) 5 e.a__law_greatest e.fd__law_greatest ["_law_lot_here"] (spG G 1 g__law_greatest) :=
  fn_okD e.F__law_greatest sc__law_greatest rfl rfl fun cdv A outer s H E hr tk ps => pdss_cons (pds_asg (pd_var (pv 0)) (pdg_any rfl rfl (pdgs_cons (pdg_name (i := 1) sc__law_greatest.nd rfl (.inl rfl)) (pdgs_cons (pdg_name (i := 2) sc__law_greatest.nd rfl (.inl rfl)) (pdgs_cons (pdg_name (i := 3) sc__law_greatest.nd rfl (.inl rfl)) (pdgs_cons (pdg_name (i := 4) sc__law_greatest.nd rfl (.inl rfl)) (pdgs_nil)))))))
    (pdss_cons (pds_set (i := 5) sc__law_greatest.nd rfl (.inl rfl) (pd_call (ok__law_led e) (hr.mono (by decide)) (by rfl) e.m__law_led e.F__law_led.kp e.b__law_led tk (pda_cons (pdo_frz (pdo_lst (pda_cons (pd_tup (pda_cons (pd_str s_9) (pda_cons (pd_var (pv 4)) (pda_nil)))) (pda_cons (pd_tup (pda_cons (pd_str s_10) (pda_cons (pd_var (pv 1)) (pda_nil)))) (pda_cons (pd_tup (pda_cons (pd_str s_8) (pda_cons (pd_var (pv 2)) (pda_nil)))) (pda_cons (pd_tup (pda_cons (pd_str s_7) (pda_cons (pd_var (pv 3)) (pda_nil)))) (pda_nil))))))) (pda_nil))))
    (pdss_cons (pds_set (i := 6) sc__law_greatest.nd rfl (.inl rfl) (pd_call (ok__law_led e) (hr.mono (by decide)) (by rfl) e.m__law_led e.F__law_led.kp e.b__law_led tk (pda_cons (pdo_frz (pdo_lst (pda_cons (pd_tup (pda_cons (pd_str s_7) (pda_cons (pd_var (pv 3)) (pda_nil)))) (pda_cons (pd_tup (pda_cons (pd_str s_9) (pda_cons (pd_var (pv 4)) (pda_nil)))) (pda_cons (pd_tup (pda_cons (pd_str s_10) (pda_cons (pd_var (pv 1)) (pda_nil)))) (pda_cons (pd_tup (pda_cons (pd_str s_8) (pda_cons (pd_var (pv 2)) (pda_nil)))) (pda_nil))))))) (pda_nil))))
    (pdss_cons (pds_set (i := 7) sc__law_greatest.nd rfl (.inl rfl) (pd_call (ok__law_led e) (hr.mono (by decide)) (by rfl) e.m__law_led e.F__law_led.kp e.b__law_led tk (pda_cons (pdo_frz (pdo_lst (pda_cons (pd_tup (pda_cons (pd_str s_8) (pda_cons (pd_var (pv 2)) (pda_nil)))) (pda_cons (pd_tup (pda_cons (pd_str s_7) (pda_cons (pd_var (pv 3)) (pda_nil)))) (pda_cons (pd_tup (pda_cons (pd_str s_9) (pda_cons (pd_var (pv 4)) (pda_nil)))) (pda_cons (pd_tup (pda_cons (pd_str s_10) (pda_cons (pd_var (pv 1)) (pda_nil)))) (pda_nil))))))) (pda_nil))))
    (pdss_cons (pds_set (i := 8) sc__law_greatest.nd rfl (.inl rfl) (pd_call (ok__law_led e) (hr.mono (by decide)) (by rfl) e.m__law_led e.F__law_led.kp e.b__law_led tk (pda_cons (pdo_frz (pdo_lst (pda_cons (pd_tup (pda_cons (pd_str s_10) (pda_cons (pd_var (pv 1)) (pda_nil)))) (pda_cons (pd_tup (pda_cons (pd_str s_8) (pda_cons (pd_var (pv 2)) (pda_nil)))) (pda_cons (pd_tup (pda_cons (pd_str s_7) (pda_cons (pd_var (pv 3)) (pda_nil)))) (pda_cons (pd_tup (pda_cons (pd_str s_9) (pda_cons (pd_var (pv 4)) (pda_nil)))) (pda_nil))))))) (pda_nil))))
    (pdss_one (pds_ret (pd_ix e.kk (pd_callB cd_sorted (by rfl) e.z_sorted (by decide +kernel) (pda_cons (pdo_frz (pdo_lc (own := [("_law_spot", 9)]) rfl sc__law_greatest.nd (pdi_seq rfl (pdo_frz (pdo_lst (pda_cons (pd_var (pv 5)) (pda_cons (pd_var (pv 6)) (pda_cons (pd_var (pv 7)) (pda_cons (pd_var (pv 8)) (pda_nil)))))))) (by exact blkOk_by (N := ["_law_lot_here", "_law_east", "_law_north", "_law_west", "_law_south", "_law_one", "_law_other", "_law_third", "_law_last", "_law_spot"]) (sc := defScope st__law_greatest) (own := [("_law_spot", 9)]) (by decide +kernel)) (by decide) (fun _ _ _ _ _ => pdg_name (i := 9) sc__law_greatest.nd rfl (.inl rfl)) (fun _ _ _ _ _ => ptds_nil) (fun _ _ _ _ _ => pd_callTy cd_int (by rfl) e.z_int (by decide +kernel) (pda_cons (pd_ix e.kk (pd_var (pv 9)) (pd_int) (fun _ _ => rfl)) (pda_nil))))) (pda_nil))) (pd_neg (pd_int)) (fun _ _ => rfl))))))))
theorem ok_PlaceX_initX (e : Ev w0 P G mg base) : FnOk P w0 G.K mg base (L2.CX P w0) 3 e.a_PlaceX_initX e.fd_PlaceX_initX ["self", "x", "y", "area"] (spI G "Place" 3 g_PlaceX_initX) :=
  in_okD e.F_PlaceX_initX sc_PlaceX_initX rfl rfl fun cdv A outer s H E hr tk ps => pdss_cons (pds_for ps rfl (pdi_seq rfl (pd_tup (pda_cons (pd_var (pv 1)) (pda_cons (pd_var (pv 2)) (pda_cons (pd_var (pv 3)) (pda_nil)))))) (pdg_name (i := 4) sc_PlaceX_initX.nd rfl (.inl rfl)) (pdss_one (pds_if (ptd_not (ptd_truth e.kk (pd_call (ok_is_integer e) (hr.mono (by decide)) (by rfl) e.m_is_integer e.F_is_integer.kp e.b_is_integer tk (pda_cons (pd_var (pv 4)) (pda_nil))))) (pdss_one (pds_raise rfl tk e.X_BadNumber.T e.X_BadNumber.I s_0 e.X_BadNumber.B (hr.mono (by decide)) (by rfl) e.m_BadNumber (pda_cons (pd_var (pv 4)) (pda_nil)))) (pdss_nil))))
    (pdss_cons (pds_fld rfl (pv 0) s_16 e.ct_Place e.cl_Place (e.na_Place_x) (pd_var (pv 1)))
    (pdss_cons (pds_fld rfl (pv 0) s_17 e.ct_Place e.cl_Place (e.na_Place_y) (pd_var (pv 2)))
    (pdss_one (pds_fld rfl (pv 0) s_18 e.ct_Place e.cl_Place (e.na_Place_area) (pd_var (pv 3))))))
theorem ok_gone_on (e : Ev w0 P G mg base) : FnOk P w0 G.K mg base (L2.CX P w0) 1 e.a_gone_on e.fd_gone_on ["spot", "letter", "times"] (spG G 3 g_gone_on) :=
  fn_okD e.F_gone_on sc_gone_on rfl rfl fun cdv A outer s H E hr tk ps => pdss_cons (pds_asg (pd_var (pv 0)) (pdg_tup rfl rfl (pdgs_cons (pdg_name (i := 3) sc_gone_on.nd rfl (.inl rfl)) (pdgs_cons (pdg_name (i := 4) sc_gone_on.nd rfl (.inl rfl)) (pdgs_cons (pdg_name (i := 5) sc_gone_on.nd rfl (.inl rfl)) (pdgs_nil))))))
    (pdss_cons (pds_if (ptd_cmp (opd_eq e.kk hr.units) (pd_var (pv 1)) (pd_str s_10) (nomark _)) (pdss_one (pds_ret (pd_tup (pda_cons (pd_op (opd_addA e.kk) (pd_var (pv 3)) (pd_var (pv 2))) (pda_cons (pd_var (pv 4)) (pda_cons (pd_var (pv 5)) (pda_nil))))))) (pdss_nil))
    (pdss_cons (pds_if (ptd_cmp (opd_eq e.kk hr.units) (pd_var (pv 1)) (pd_str s_7) (nomark _)) (pdss_one (pds_ret (pd_tup (pda_cons (pd_op (opd_sub) (pd_var (pv 3)) (pd_var (pv 2))) (pda_cons (pd_var (pv 4)) (pda_cons (pd_var (pv 5)) (pda_nil))))))) (pdss_nil))
    (pdss_one (pds_ret (pd_ifExp (ptd_cmp (opd_eq e.kk hr.units) (pd_var (pv 1)) (pd_str s_8) (nomark _)) (pd_tup (pda_cons (pd_var (pv 3)) (pda_cons (pd_op (opd_addA e.kk) (pd_var (pv 4)) (pd_var (pv 2))) (pda_cons (pd_op (opd_addA e.kk) (pd_var (pv 5)) (pd_op (opd_mulA) (pd_var (pv 3)) (pd_var (pv 2)))) (pda_nil))))) (pd_tup (pda_cons (pd_var (pv 3)) (pda_cons (pd_op (opd_sub) (pd_var (pv 4)) (pd_var (pv 2))) (pda_cons (pd_op (opd_sub) (pd_var (pv 5)) (pd_op (opd_mulA) (pd_var (pv 3)) (pd_var (pv 2)))) (pda_nil))))))))))
theorem ok_Walk_spots (e : Ev w0 P G mg base) : FnOk P w0 G.K mg base (L2.CX P w0) 3 e.a_Walk_spots e.fd_Walk_spots ["self"] (spG G 1 g_Walk_spots) :=
  fn_okD e.F_Walk_spots sc_Walk_spots rfl rfl fun cdv A outer s H E hr tk ps => pdss_cons (pds_setO (i := 1) sc_Walk_spots.nd rfl (.inl rfl) (pdo_lst (pda_cons (pd_tup (pda_cons (pd_int) (pda_cons (pd_int) (pda_cons (pd_int) (pda_nil))))) (pda_nil))))
    (pdss_cons (pds_for ps rfl (pdi_seq rfl (pd_fld rfl s_6 e.f_runs (pd_var (pv 0)))) (pdg_tup rfl rfl (pdgs_cons (pdg_name (i := 2) sc_Walk_spots.nd rfl (.inl rfl)) (pdgs_cons (pdg_name (i := 3) sc_Walk_spots.nd rfl (.inl rfl)) (pdgs_nil)))) (pdss_one (pds_append (pv 1) (pda_cons (pd_call (ok_gone_on e) (hr.mono (by decide)) (by rfl) e.m_gone_on e.F_gone_on.kp e.b_gone_on tk (pda_cons (pd_ixO e.kk (pv 1) (pd_neg (pd_int)) (fun _ _ => rfl)) (pda_cons (pd_var (pv 2)) (pda_cons (pd_var (pv 3)) (pda_nil))))) (pda_nil)))))
    (pdss_one (pds_ret (pd_var (pv 1)))))
theorem ok_Walk_place (e : Ev w0 P G mg base) : FnOk P w0 G.K mg base (L2.CX P w0) 5 e.a_Walk_place e.fd_Walk_place ["self"] (spG G 1 g_Walk_place) :=
  fn_okD e.F_Walk_place sc_Walk_place rfl rfl fun cdv A outer s H E hr tk ps => pdss_cons (pds_set (i := 1) sc_Walk_place.nd rfl (.inl rfl) (pd_ix e.kk (pd_meth0 rfl (pd_var (pv 0)) e.ct_Walk e.cl_Walk s_19 e.M_Walk_spots (ok_Walk_spots e) (hr.mono (by decide)) e.b_Walk_spots tk) (pd_neg (pd_int)) (fun _ _ => rfl)))
    (pdss_one (pds_ret (pd_make e.mk_Place e.ct_Place (ok_PlaceX_initX e) (hr.mono (by decide)) (by rfl) e.m_Place e.b_PlaceX_initX tk (pda_cons (pd_ix e.kk (pd_var (pv 1)) (pd_int) (fun _ _ => rfl)) (pda_cons (pd_ix e.kk (pd_var (pv 1)) (pd_int) (fun _ _ => rfl)) (pda_cons (pd_ix e.kk (pd_var (pv 1)) (pd_int) (fun _ _ => rfl)) (pda_nil)))))))
theorem ok__law_counts (e : Ev w0 P G mg base) : FnOk P w0 G.K mg base (L2.CX P w0) 1 e.a__law_counts e.fd__law_counts ["_law_runs"] (spG G 1 g__law_counts) :=
  fn_okD e.F__law_counts sc__law_counts rfl rfl fun cdv A outer s H E hr tk ps => pdss_one (pds_ret (pdo_frz (pdo_lc (own := [("_law_kind", 1)]) rfl sc__law_counts.nd (pdi_seq rfl (pd_str s_20)) (by exact blkOk_by (N := ["_law_runs", "_law_kind", "_law_letter", "_law_times"]) (sc := defScope st__law_counts) (own := [("_law_kind", 1)]) (by decide +kernel)) (by decide) (fun _ _ _ _ _ => pdg_name (i := 1) sc__law_counts.nd rfl (.inr rfl)) (fun _ _ _ _ _ => ptds_nil) (fun _ _ _ _ _ => pd_callB (cd_sum rfl) (by rfl) e.z_sum (by decide +kernel) (pda_cons (pdo_frz (pdo_lc (own := [("_law_letter", 2), ("_law_times", 3)]) rfl sc__law_counts.nd (pdi_seq rfl (pd_var (pv 0))) (blkOk_by (own := [("_law_letter", 2), ("_law_times", 3)]) (by kernel_rfl)) (by decide) (fun _ _ _ _ _ => pdg_tup rfl rfl (pdgs_cons (pdg_name (i := 2) sc__law_counts.nd rfl (.inl rfl)) (pdgs_cons (pdg_name (i := 3) sc__law_counts.nd rfl (.inl rfl)) (pdgs_nil)))) (fun _ _ _ _ _ => ptds_one (ptd_cmp (opd_eq e.kk hr.units) (pd_var (pv 2)) (pd_var (pv 1)) (nomark _))) (fun _ _ _ _ _ => pd_var (pv 3)))) (pda_nil))))))
theorem ok__law_is_walked (e : Ev w0 P G mg base) : FnOk P w0 G.K mg base (L2.CX P w0) 13 e.a__law_is_walked e.fd__law_is_walked ["_law_told", "_law_lot_here", "_law_area"] (spG G 3 g__law_is_walked) :=
  fn_okD e.F__law_is_walked sc__law_is_walked rfl rfl fun cdv A outer s H E hr tk ps => pdss_cons (pds_set (i := 3) sc__law_is_walked.nd rfl (.inl rfl) (pd_meth rfl (pd_var (pv 0)) e.ct_Lot e.cl_Lot s_21 e.M_Lot_walk_with (ok_Lot_walk_with e) (hr.mono (by decide)) e.b_Lot_walk_with tk (pda_cons (pd_var (pv 2)) (pda_nil))))
    (pdss_cons (pds_if ((pwd_or (ptd_not (ptd_truth e.kk (pd_callB (cd_isi rfl e.iso) (by rfl) e.z_isinstance (by decide +kernel) (pda_cons (pd_var (pv 3)) (pda_cons (pd_cls (by rfl) e.m_Walk e.ct_Walk) (pda_nil)))))) (pwd_or1 (ptd_cmp (opd_gt) (pd_callB (cd_len rfl) (by rfl) e.z_len (by decide +kernel) (pda_cons (pd_fld rfl s_6 e.f_runs (pd_var (pv 3))) (pda_nil))) (pd_int) (nomark _)))).pt) (pdss_one (pds_ret (pd_bl))) (pdss_nil))
    (pdss_one (pds_ret (pd_andT e.kk (pd_cmp (opd_eq e.kk hr.units) (pd_call (ok__law_counts e) (hr.mono (by decide)) (by rfl) e.m__law_counts e.F__law_counts.kp e.b__law_counts tk (pda_cons (pd_fld rfl s_6 e.f_runs (pd_var (pv 3))) (pda_nil))) (pd_var (pv 1)) (nomark _)) (pd_andT e.kk (pd_cmp (opd_eq e.kk hr.units) (pd_ix e.kk (pd_call (ok__law_led e) (hr.mono (by decide)) (by rfl) e.m__law_led e.F__law_led.kp e.b__law_led tk (pda_cons (pd_fld rfl s_6 e.f_runs (pd_var (pv 3))) (pda_nil))) (pd_int) (fun _ _ => rfl)) (pd_var (pv 2)) (nomark _)) (pd_one (pd_cmp (opd_eq e.kk hr.units) (pd_fld rfl s_18 e.f_area (pd_meth0 rfl (pd_var (pv 3)) e.ct_Walk e.cl_Walk s_22 e.M_Walk_place (ok_Walk_place e) (hr.mono (by decide)) e.b_Walk_place tk)) (pd_var (pv 2)) (nomark _))))))))
theorem ok__law_lot (e : Ev w0 P G mg base) : FnOk P w0 G.K mg base (L2.CX P w0) 7 e.a__law_lot e.fd__law_lot ["_law_pen"] (spG G 1 g__law_lot) :=
  fn_okD e.F__law_lot sc__law_lot rfl rfl fun cdv A outer s H E hr tk ps => pdss_one (pds_ret (pdo_frz (pdo_lc (own := [("_law_k", 1)]) rfl sc__law_lot.nd (pdi_range1 (by rfl) e.z_range (pda_cons (pd_int) (pda_nil))) (by exact blkOk_by (N := ["_law_pen", "_law_k"]) (sc := defScope st__law_lot) (own := [("_law_k", 1)]) (by decide +kernel)) (by decide) (fun _ _ _ _ _ => pdg_name (i := 1) sc__law_lot.nd rfl (.inl rfl)) (fun _ _ _ _ _ => ptds_nil) (fun _ _ _ _ _ => pd_ifExp (ptd_cmp (opd_eq e.kk hr.units) (pd_call (ok__law_draw e) (hr.mono (by decide)) (by rfl) e.m__law_draw e.F__law_draw.kp e.b__law_draw takes0 (pda_cons (pd_var (pv 0)) (pda_cons (pd_int) (pda_nil)))) (pd_int) (nomark _)) (pd_int) (pd_call (ok__law_great e) (hr.mono (by decide)) (by rfl) e.m__law_great e.F__law_great.kp e.b__law_great takes0 (pda_cons (pd_var (pv 0)) (pda_nil)))))))
theorem ok__law_shuffled (e : Ev w0 P G mg base) : FnOk P w0 G.K mg base (L2.CX P w0) 3 e.a__law_shuffled e.fd__law_shuffled ["_law_pen", "_law_some"] (spG G 2 g__law_shuffled) :=
  fn_okD e.F__law_shuffled sc__law_shuffled rfl rfl fun cdv A outer s H E hr tk ps => pdss_cons (pds_parOO (i := 2) (j := 3) rfl sc__law_shuffled.nd rfl rfl (by decide) rfl rfl (pdo_list rfl (by rfl) e.z_list boot_list (pda_cons (pd_var (pv 1)) (pda_nil))) (pdo_lst (pda_nil)) (by rfl))
    (pdss_cons (pds_while ps (ptd_neE e.kk hr.units (pv 2)) (pdss_one (pds_append (pv 3) (pda_cons (pd_popO (pv 2) (pda_cons (pd_call (ok__law_draw e) (hr.mono (by decide)) (by rfl) e.m__law_draw e.F__law_draw.kp e.b__law_draw tk (pda_cons (pd_var (pv 0)) (pda_cons (pd_lenO (pv 2) (by rfl) e.z_len PySem.boot_len) (pda_nil)))) (pda_nil))) (pda_nil)))))
    (pdss_one (pds_ret (pd_var (pv 3)))))
theorem ok__law_parted (e : Ev w0 P G mg base) : FnOk P w0 G.K mg base (L2.CX P w0) 7 e.a__law_parted e.fd__law_parted ["_law_pen", "_law_lot_here"] (spG G 2 g__law_parted) :=
  fn_okD e.F__law_parted sc__law_parted rfl rfl fun cdv A outer s H E hr tk ps => pdss_cons (pds_setO (i := 2) sc__law_parted.nd rfl (.inl rfl) (pdo_lst (pda_nil)))
    (pdss_cons (pds_for ps rfl (pdi_range1 (by rfl) e.z_range (pda_cons (pd_int) (pda_nil))) (pdg_name (i := 3) sc__law_parted.nd rfl (.inl rfl)) (pdss_cons (pds_set (i := 4) sc__law_parted.nd rfl (.inl rfl) (pd_ix e.kk (pd_var (pv 1)) (pd_var (pv 3)) (fun _ _ => rfl)))
    (pdss_cons (pds_for ps rfl (pdi_range1 (by rfl) e.z_range (pda_cons (pd_int) (pda_nil))) (pdg_name (i := 5) sc__law_parted.nd rfl (.inl rfl)) (pdss_cons (pds_set (i := 6) sc__law_parted.nd rfl (.inl rfl) (pd_op (opd_mod) (pd_callTy cd_int (by rfl) e.z_int (by decide +kernel) (pda_cons (pd_call (ok__law_great e) (hr.mono (by decide)) (by rfl) e.m__law_great e.F__law_great.kp e.b__law_great tk (pda_cons (pd_var (pv 0)) (pda_nil))) (pda_nil))) (pd_op (opd_addA e.kk) (pd_var (pv 4)) (pd_int))))
    (pdss_cons (pds_append (pv 2) (pda_cons (pd_tup (pda_cons (pd_ix e.kk (pd_str s_20) (pd_var (pv 3)) (fun _ _ => rfl)) (pda_cons (pd_var (pv 6)) (pda_nil)))) (pda_nil)))
    (pdss_one (pds_set (i := 4) sc__law_parted.nd rfl (.inl rfl) (pd_op (opd_sub) (pd_var (pv 4)) (pd_var (pv 6))))))))
    (pdss_one (pds_append (pv 2) (pda_cons (pd_tup (pda_cons (pd_ix e.kk (pd_str s_20) (pd_var (pv 3)) (fun _ _ => rfl)) (pda_cons (pd_var (pv 4)) (pda_nil)))) (pda_nil)))))))
    (pdss_one (pds_ret (pd_call (ok__law_shuffled e) (hr.mono (by decide)) (by rfl) e.m__law_shuffled e.F__law_shuffled.kp e.b__law_shuffled tk (pda_cons (pd_var (pv 0)) (pda_cons (pd_var (pv 2)) (pda_nil)))))))
theorem ok_law (e : Ev w0 P G mg base) : FnOk P w0 G.K mg base (L2.CX P w0) 15 e.a_law e.fd_law ["_law_script"] (spG G 1 g_law) :=
  fn_okD e.F_law sc_law rfl rfl fun cdv A outer s H E hr tk ps => pdss_cons (pds_set (i := 1) sc_law.nd rfl (.inl rfl) (pd_call (ok__law_begin e) (hr.mono (by decide)) (by rfl) e.m__law_begin e.F__law_begin.kp e.b__law_begin tk (pda_cons (pd_var (pv 0)) (pda_nil))))
    (pdss_cons (pds_for ps rfl (pdi_range1 (by rfl) e.z_range (pda_cons (pd_op (opd_addA e.kk) (pd_int) (pd_callB (cd_min2 rfl) (by rfl) e.z_min (by decide +kernel) (pda_cons (pd_int) (pda_cons (pd_callB (cd_len rfl) (by rfl) e.z_len (by decide +kernel) (pda_cons (pd_var (pv 0)) (pda_nil))) (pda_nil))))) (pda_nil))) (pdg_name (i := 2) sc_law.nd rfl (.inl rfl)) (pdss_cons (pds_set (i := 3) sc_law.nd rfl (.inl rfl) (pd_call (ok__law_lot e) (hr.mono (by decide)) (by rfl) e.m__law_lot e.F__law_lot.kp e.b__law_lot tk (pda_cons (pd_var (pv 1)) (pda_nil))))
    (pdss_cons (pds_asg (pd_var (pv 3)) (pdg_any rfl rfl (pdgs_cons (pdg_name (i := 4) sc_law.nd rfl (.inl rfl)) (pdgs_cons (pdg_name (i := 5) sc_law.nd rfl (.inl rfl)) (pdgs_cons (pdg_name (i := 6) sc_law.nd rfl (.inl rfl)) (pdgs_cons (pdg_name (i := 7) sc_law.nd rfl (.inl rfl)) (pdgs_nil)))))))
    (pdss_cons (pds_set (i := 8) sc_law.nd rfl (.inl rfl) (pd_make e.mk_Lot e.ct_Lot (ok_LotX_initX e) (hr.mono (by decide)) (by rfl) e.m_Lot e.b_LotX_initX tk (pda_cons (pd_var (pv 4)) (pda_cons (pd_var (pv 5)) (pda_cons (pd_var (pv 6)) (pda_cons (pd_var (pv 7)) (pda_nil)))))))
    (pdss_cons (pds_asg (pd_meth0 rfl (pd_var (pv 8)) e.ct_Lot e.cl_Lot s_11 e.M_Lot_swept_areas (ok_Lot_swept_areas e) (hr.mono (by decide)) e.b_Lot_swept_areas tk) (pdg_tup rfl rfl (pdgs_cons (pdg_name (i := 9) sc_law.nd rfl (.inl rfl)) (pdgs_cons (pdg_name (i := 10) sc_law.nd rfl (.inl rfl)) (pdgs_nil)))))
    (pdss_cons (pds_if ((pwd_or (ptd_cmp (opd_ne e.kk hr.units) (pd_var (pv 10)) (pd_call (ok__law_greatest e) (hr.mono (by decide)) (by rfl) e.m__law_greatest e.F__law_greatest.kp e.b__law_greatest tk (pda_cons (pd_var (pv 3)) (pda_nil))) (nomark _)) (pwd_or1 (ptd_cmp (opd_ne e.kk hr.units) (pd_neg (pd_var (pv 9))) (pd_call (ok__law_greatest e) (hr.mono (by decide)) (by rfl) e.m__law_greatest e.F__law_greatest.kp e.b__law_greatest tk (pda_cons (pdo_frz (pdo_lst (pda_cons (pd_var (pv 6)) (pda_cons (pd_var (pv 5)) (pda_cons (pd_var (pv 4)) (pda_cons (pd_var (pv 7)) (pda_nil))))))) (pda_nil))) (nomark _)))).pt) (pdss_one (pds_ret (pd_bl))) (pdss_nil))
    (pdss_cons (pds_for ps rfl (pdi_seq rfl (pdo_frz (pdo_lst (pda_cons (pd_var (pv 9)) (pda_cons (pd_var (pv 10)) (pda_cons (pd_op (opd_addA e.kk) (pd_var (pv 9)) (pd_op (opd_mod) (pd_callTy cd_int (by rfl) e.z_int (by decide +kernel) (pda_cons (pd_call (ok__law_great e) (hr.mono (by decide)) (by rfl) e.m__law_great e.F__law_great.kp e.b__law_great tk (pda_cons (pd_var (pv 1)) (pda_nil))) (pda_nil))) (pd_op (opd_addA e.kk) (pd_op (opd_sub) (pd_var (pv 10)) (pd_var (pv 9))) (pd_int)))) (pda_cons (pd_op (opd_sub) (pd_var (pv 10)) (pd_op (opd_mod) (pd_callTy cd_int (by rfl) e.z_int (by decide +kernel) (pda_cons (pd_call (ok__law_great e) (hr.mono (by decide)) (by rfl) e.m__law_great e.F__law_great.kp e.b__law_great tk (pda_cons (pd_var (pv 1)) (pda_nil))) (pda_nil))) (pd_op (opd_addA e.kk) (pd_op (opd_sub) (pd_var (pv 10)) (pd_var (pv 9))) (pd_int)))) (pda_cons (pd_int) (pda_nil))))))))) (pdg_name (i := 11) sc_law.nd rfl (.inl rfl)) (pdss_one (pds_if (ptd_not (ptd_truth e.kk (pd_call (ok__law_is_walked e) (hr.mono (by decide)) (by rfl) e.m__law_is_walked e.F__law_is_walked.kp e.b__law_is_walked tk (pda_cons (pd_var (pv 8)) (pda_cons (pd_var (pv 3)) (pda_cons (pd_var (pv 11)) (pda_nil))))))) (pdss_one (pds_ret (pd_bl))) (pdss_nil))))
    (pdss_cons (pds_if ((pwd_or (ptd_cmp (opd_notN) (pd_meth rfl (pd_var (pv 8)) e.ct_Lot e.cl_Lot s_21 e.M_Lot_walk_with (ok_Lot_walk_with e) (hr.mono (by decide)) e.b_Lot_walk_with tk (pda_cons (pd_op (opd_sub) (pd_var (pv 9)) (pd_int)) (pda_nil))) (pd_non) (nomark _)) (pwd_or1 (ptd_cmp (opd_notN) (pd_meth rfl (pd_var (pv 8)) e.ct_Lot e.cl_Lot s_21 e.M_Lot_walk_with (ok_Lot_walk_with e) (hr.mono (by decide)) e.b_Lot_walk_with tk (pda_cons (pd_op (opd_addA e.kk) (pd_op (opd_addA e.kk) (pd_var (pv 10)) (pd_int)) (pd_call (ok__law_great e) (hr.mono (by decide)) (by rfl) e.m__law_great e.F__law_great.kp e.b__law_great tk (pda_cons (pd_var (pv 1)) (pda_nil)))) (pda_nil))) (pd_non) (nomark _)))).pt) (pdss_one (pds_ret (pd_bl))) (pdss_nil))
    (pdss_cons (pds_for ps rfl (pdi_range1 (by rfl) e.z_range (pda_cons (pd_int) (pda_nil))) (pdg_name (i := 12) sc_law.nd rfl (.inl rfl)) (pdss_cons (pds_set (i := 13) sc_law.nd rfl (.inl rfl) (pd_call (ok__law_parted e) (hr.mono (by decide)) (by rfl) e.m__law_parted e.F__law_parted.kp e.b__law_parted tk (pda_cons (pd_var (pv 1)) (pda_cons (pd_var (pv 3)) (pda_nil)))))
    (pdss_cons (pds_set (i := 14) sc_law.nd rfl (.inl rfl) (pd_call (ok__law_led e) (hr.mono (by decide)) (by rfl) e.m__law_led e.F__law_led.kp e.b__law_led tk (pda_cons (pd_var (pv 13)) (pda_nil))))
    (pdss_one (pds_if ((pwd_or (ptd_not (ptd_chain (opd_le) (opd_le) (pd_var (pv 9)) (pd_ix e.kk (pd_var (pv 14)) (pd_int) (fun _ _ => rfl)) (pd_var (pv 10)) (fun h1 h2 h3 h4 h5 => pt_chain h1 h2 h3 h4 h5))) (pwd_or (ptd_cmp (opd_ne e.kk hr.units) (pd_meth0 rfl (pd_var (pv 8)) e.ct_Lot e.cl_Lot s_5 e.M_Lot_ends (ok_Lot_ends e) (hr.mono (by decide)) e.b_Lot_ends tk) (pd_slA rfl (pd_var (pv 14)) (pdo_none) (pdo_some (pd_int))) (nomark _)) (pwd_or1 (ptd_not (ptd_truth e.kk (pd_call (ok__law_is_walked e) (hr.mono (by decide)) (by rfl) e.m__law_is_walked e.F__law_is_walked.kp e.b__law_is_walked tk (pda_cons (pd_var (pv 8)) (pda_cons (pd_var (pv 3)) (pda_cons (pd_ix e.kk (pd_var (pv 14)) (pd_int) (fun _ _ => rfl)) (pda_nil)))))))))).pt) (pdss_one (pds_ret (pd_bl))) (pdss_nil))))))
    (pdss_one (pds_if (ptd_not (ptd_truth e.kk (pd_call (ok__law_best_right e) (hr.mono (by decide)) (by rfl) e.m__law_best_right e.F__law_best_right.kp e.b__law_best_right tk (pda_cons (pd_var (pv 1)) (pda_nil))))) (pdss_one (pds_ret (pd_bl))) (pdss_nil))))))))))))
    (pdss_one (pds_ret (pd_bl))))
end
theorem all_mk {l : PySem.W.OpenLaw} {w : World} {q : Program} {K : PySem.W.Frag} {h : Heap} {mg : Str → Option Value} {fa : Addr} {C_Place : Addr} {C_Walk : Addr} {C_Lot : Addr} {C_BadNumber : Addr} {fI_BadNumber NS_BadNumber cda_BadNumber cc_BadNumber : Addr} {xnm_BadNumber xq_BadNumber xfile_BadNumber : Str} {xbs_BadNumber xbm_BadNumber xsub_BadNumber : List Value} {xsn_BadNumber : List Str} {xab_BadNumber : Bool} {xcol_BadNumber : Option Bool} {xdd_BadNumber : Option Addr} {xk0_BadNumber xk1_BadNumber xk2_BadNumber xk3_BadNumber xk5_BadNumber : Option Value} {xoc_BadNumber xkV_BadNumber xdoc_BadNumber xpm_BadNumber xct_BadNumber xccl_BadNumber xcl_BadNumber : Value} {xod_BadNumber xan_BadNumber xcdd_BadNumber xcld_BadNumber : Option Addr} {xosl_BadNumber xccs_BadNumber xcsl_BadNumber : Array (Option Value)} {xvs_BadNumber : Array Value} {xtf_BadNumber : Tok} {C_BadWord : Addr} {fI_BadWord NS_BadWord cda_BadWord cc_BadWord : Addr} {xnm_BadWord xq_BadWord xfile_BadWord : Str} {xbs_BadWord xbm_BadWord xsub_BadWord : List Value} {xsn_BadWord : List Str} {xab_BadWord : Bool} {xcol_BadWord : Option Bool} {xdd_BadWord : Option Addr} {xk0_BadWord xk1_BadWord xk2_BadWord xk3_BadWord xk5_BadWord : Option Value} {xoc_BadWord xkV_BadWord xdoc_BadWord xpm_BadWord xct_BadWord xccl_BadWord xcl_BadWord : Value} {xod_BadWord xan_BadWord xcdd_BadWord xcld_BadWord : Option Addr} {xosl_BadWord xccs_BadWord xcsl_BadWord : Array (Option Value)} {xvs_BadWord : Array Value} {xtf_BadWord : Tok} {a_is_integer : Addr} {od_is_integer an_is_integer : Option Addr} {sl_is_integer : Array (Option Value)} {oc_is_integer kV_is_integer dc_is_integer pm_is_integer cd_is_integer ct_is_integer : Value} {a_is_whole : Addr} {od_is_whole an_is_whole : Option Addr} {sl_is_whole : Array (Option Value)} {oc_is_whole kV_is_whole dc_is_whole pm_is_whole cd_is_whole ct_is_whole : Value} {a_LotX_initX : Addr} {od_LotX_initX an_LotX_initX : Option Addr} {sl_LotX_initX : Array (Option Value)} {oc_LotX_initX kV_LotX_initX dc_LotX_initX pm_LotX_initX cd_LotX_initX ct_LotX_initX : Value} {a_Lot_ends : Addr} {od_Lot_ends an_Lot_ends : Option Addr} {sl_Lot_ends : Array (Option Value)} {oc_Lot_ends kV_Lot_ends dc_Lot_ends pm_Lot_ends cd_Lot_ends ct_Lot_ends : Value} {a_Lot_swept_areas : Addr} {od_Lot_swept_areas an_Lot_swept_areas : Option Addr} {sl_Lot_swept_areas : Array (Option Value)} {oc_Lot_swept_areas kV_Lot_swept_areas dc_Lot_swept_areas pm_Lot_swept_areas cd_Lot_swept_areas ct_Lot_swept_areas : Value} {a_merged : Addr} {od_merged an_merged : Option Addr} {sl_merged : Array (Option Value)} {oc_merged kV_merged dc_merged pm_merged cd_merged ct_merged : Value} {a_is_list : Addr} {od_is_list an_is_list : Option Addr} {sl_is_list : Array (Option Value)} {oc_is_list kV_is_list dc_is_list pm_is_list cd_is_list ct_is_list : Value} {a_is_pair : Addr} {od_is_pair an_is_pair : Option Addr} {sl_is_pair : Array (Option Value)} {oc_is_pair kV_is_pair dc_is_pair pm_is_pair cd_is_pair ct_is_pair : Value} {a_pairs_told : Addr} {od_pairs_told an_pairs_told : Option Addr} {sl_pairs_told : Array (Option Value)} {oc_pairs_told kV_pairs_told dc_pairs_told pm_pairs_told cd_pairs_told ct_pairs_told : Value} {a_WalkX_initX : Addr} {od_WalkX_initX an_WalkX_initX : Option Addr} {sl_WalkX_initX : Array (Option Value)} {oc_WalkX_initX kV_WalkX_initX dc_WalkX_initX pm_WalkX_initX cd_WalkX_initX ct_WalkX_initX : Value} {a_falling_pairs : Addr} {od_falling_pairs an_falling_pairs : Option Addr} {sl_falling_pairs : Array (Option Value)} {oc_falling_pairs kV_falling_pairs dc_falling_pairs pm_falling_pairs cd_falling_pairs ct_falling_pairs : Value} {a_rising_pairs : Addr} {od_rising_pairs an_rising_pairs : Option Addr} {sl_rising_pairs : Array (Option Value)} {oc_rising_pairs kV_rising_pairs dc_rising_pairs pm_rising_pairs cd_rising_pairs ct_rising_pairs : Value} {a_swept_pairs : Addr} {od_swept_pairs an_swept_pairs : Option Addr} {sl_swept_pairs : Array (Option Value)} {oc_swept_pairs kV_swept_pairs dc_swept_pairs pm_swept_pairs cd_swept_pairs ct_swept_pairs : Value} {a_Lot_walk_with : Addr} {od_Lot_walk_with an_Lot_walk_with : Option Addr} {sl_Lot_walk_with : Array (Option Value)} {oc_Lot_walk_with kV_Lot_walk_with dc_Lot_walk_with pm_Lot_walk_with cd_Lot_walk_with ct_Lot_walk_with : Value} {a__law_begin : Addr} {od__law_begin an__law_begin : Option Addr} {sl__law_begin : Array (Option Value)} {oc__law_begin kV__law_begin dc__law_begin pm__law_begin cd__law_begin ct__law_begin : Value} {a__law_draw : Addr} {od__law_draw an__law_draw : Option Addr} {sl__law_draw : Array (Option Value)} {oc__law_draw kV__law_draw dc__law_draw pm__law_draw cd__law_draw ct__law_draw : Value} {a__law_number : Addr} {od__law_number an__law_number : Option Addr} {sl__law_number : Array (Option Value)} {oc__law_number kV__law_number dc__law_number pm__law_number cd__law_number ct__law_number : Value} {a__law_great : Addr} {od__law_great an__law_great : Option Addr} {sl__law_great : Array (Option Value)} {oc__law_great kV__law_great dc__law_great pm__law_great cd__law_great ct__law_great : Value} {a__law_pick : Addr} {od__law_pick an__law_pick : Option Addr} {sl__law_pick : Array (Option Value)} {oc__law_pick kV__law_pick dc__law_pick pm__law_pick cd__law_pick ct__law_pick : Value} {a__law_signed : Addr} {od__law_signed an__law_signed : Option Addr} {sl__law_signed : Array (Option Value)} {oc__law_signed kV__law_signed dc__law_signed pm__law_signed cd__law_signed ct__law_signed : Value} {a_best_sides : Addr} {od_best_sides an_best_sides : Option Addr} {sl_best_sides : Array (Option Value)} {oc_best_sides kV_best_sides dc_best_sides pm_best_sides cd_best_sides ct_best_sides : Value} {a_areas_of : Addr} {od_areas_of an_areas_of : Option Addr} {sl_areas_of : Array (Option Value)} {oc_areas_of kV_areas_of dc_areas_of pm_areas_of cd_areas_of ct_areas_of : Value} {a_areas : Addr} {od_areas an_areas : Option Addr} {sl_areas : Array (Option Value)} {oc_areas kV_areas dc_areas pm_areas cd_areas ct_areas : Value} {a__law_best_right : Addr} {od__law_best_right an__law_best_right : Option Addr} {sl__law_best_right : Array (Option Value)} {oc__law_best_right kV__law_best_right dc__law_best_right pm__law_best_right cd__law_best_right ct__law_best_right : Value} {a__law_step : Addr} {od__law_step an__law_step : Option Addr} {sl__law_step : Array (Option Value)} {oc__law_step kV__law_step dc__law_step pm__law_step cd__law_step ct__law_step : Value} {a__law_led : Addr} {od__law_led an__law_led : Option Addr} {sl__law_led : Array (Option Value)} {oc__law_led kV__law_led dc__law_led pm__law_led cd__law_led ct__law_led : Value} {a__law_greatest : Addr} {od__law_greatest an__law_greatest : Option Addr} {sl__law_greatest : Array (Option Value)} {oc__law_greatest kV__law_greatest dc__law_greatest pm__law_greatest cd__law_greatest ct__law_greatest : Value} {a_PlaceX_initX : Addr} {od_PlaceX_initX an_PlaceX_initX : Option Addr} {sl_PlaceX_initX : Array (Option Value)} {oc_PlaceX_initX kV_PlaceX_initX dc_PlaceX_initX pm_PlaceX_initX cd_PlaceX_initX ct_PlaceX_initX : Value} {a_gone_on : Addr} {od_gone_on an_gone_on : Option Addr} {sl_gone_on : Array (Option Value)} {oc_gone_on kV_gone_on dc_gone_on pm_gone_on cd_gone_on ct_gone_on : Value} {a_Walk_spots : Addr} {od_Walk_spots an_Walk_spots : Option Addr} {sl_Walk_spots : Array (Option Value)} {oc_Walk_spots kV_Walk_spots dc_Walk_spots pm_Walk_spots cd_Walk_spots ct_Walk_spots : Value} {a_Walk_place : Addr} {od_Walk_place an_Walk_place : Option Addr} {sl_Walk_place : Array (Option Value)} {oc_Walk_place kV_Walk_place dc_Walk_place pm_Walk_place cd_Walk_place ct_Walk_place : Value} {a__law_counts : Addr} {od__law_counts an__law_counts : Option Addr} {sl__law_counts : Array (Option Value)} {oc__law_counts kV__law_counts dc__law_counts pm__law_counts cd__law_counts ct__law_counts : Value} {a__law_is_walked : Addr} {od__law_is_walked an__law_is_walked : Option Addr} {sl__law_is_walked : Array (Option Value)} {oc__law_is_walked kV__law_is_walked dc__law_is_walked pm__law_is_walked cd__law_is_walked ct__law_is_walked : Value} {a__law_lot : Addr} {od__law_lot an__law_lot : Option Addr} {sl__law_lot : Array (Option Value)} {oc__law_lot kV__law_lot dc__law_lot pm__law_lot cd__law_lot ct__law_lot : Value} {a__law_shuffled : Addr} {od__law_shuffled an__law_shuffled : Option Addr} {sl__law_shuffled : Array (Option Value)} {oc__law_shuffled kV__law_shuffled dc__law_shuffled pm__law_shuffled cd__law_shuffled ct__law_shuffled : Value} {a__law_parted : Addr} {od__law_parted an__law_parted : Option Addr} {sl__law_parted : Array (Option Value)} {oc__law_parted kV__law_parted dc__law_parted pm__law_parted cd__law_parted ct__law_parted : Value} {a_law : Addr} {od_law an_law : Option Addr} {sl_law : Array (Option Value)} {oc_law kV_law dc_law pm_law cd_law ct_law : Value} {kv_MIRRORED : Value} {kv_TURNED : Value} {kv_LETTERS : Value} {kv_MOST_LETTERS : Value} {kv_MOST_RUNS : Value} (X : K.In h) (G0 : h.Ns mainGlobals mg) (hfa : mg "law" = some (.ref fa)) (TT : TabsT q K h)
    (aC_Place : PySem.W.nsIn K mainGlobals "Place" = some (some (.ref C_Place)))
    (cB_Place : clsB K C_Place ["x", "y", "area"] = true)
    (aC_Walk : PySem.W.nsIn K mainGlobals "Walk" = some (some (.ref C_Walk)))
    (cB_Walk : clsB K C_Walk ["runs"] = true)
    (aC_Lot : PySem.W.nsIn K mainGlobals "Lot" = some (some (.ref C_Lot)))
    (cB_Lot : clsB K C_Lot ["east", "north", "west", "south"] = true)
    (cc_Place_Walk : PySem.W.kitOne K (.ref C_Place) (.ref C_Walk) = some false)
    (cc_Place_Lot : PySem.W.kitOne K (.ref C_Place) (.ref C_Lot) = some false)
    (cc_Walk_Place : PySem.W.kitOne K (.ref C_Walk) (.ref C_Place) = some false)
    (cc_Walk_Lot : PySem.W.kitOne K (.ref C_Walk) (.ref C_Lot) = some false)
    (cc_Lot_Place : PySem.W.kitOne K (.ref C_Lot) (.ref C_Place) = some false)
    (cc_Lot_Walk : PySem.W.kitOne K (.ref C_Lot) (.ref C_Walk) = some false)
    (aC_BadNumber : PySem.W.nsIn K mainGlobals "BadNumber" = some (some (.ref C_BadNumber)))
    (xl_BadNumber : K.lookup C_BadNumber = some (excClassObj xnm_BadNumber xq_BadNumber C_BadNumber NS_BadNumber xbs_BadNumber xbm_BadNumber true xsn_BadNumber xsub_BadNumber xab_BadNumber xcol_BadNumber xdd_BadNumber xk0_BadNumber xk1_BadNumber xk2_BadNumber xk3_BadNumber xk5_BadNumber "ValueError.__new__"))
    (xr_BadNumber : PySem.HandSPX.refsVE xbm_BadNumber = true)
    (xi_BadNumber : PySem.W.findIn K (.ref C_BadNumber) "__init__" = some (some (.ref fI_BadNumber)))
    (xf_BadNumber : K.lookup fI_BadNumber = some ⟨xoc_BadNumber, xod_BadNumber, .func (PySem.W.fnX "__init__" "BadNumber.__init__" (defArgs xst_BadNumber) (defBody xst_BadNumber) (defScope xst_BadNumber) [("__class__", cc_BadNumber)] .none xkV_BadNumber xdoc_BadNumber xpm_BadNumber xan_BadNumber (.ref cda_BadNumber) xct_BadNumber), xosl_BadNumber⟩)
    (xc_BadNumber : PySem.W.codeIn K (.ref cda_BadNumber) "BadNumber.__init__" = true)
    (xd_BadNumber : K.lookup cda_BadNumber = some ⟨xccl_BadNumber, xcdd_BadNumber, .fields xvs_BadNumber, xccs_BadNumber⟩)
    (xv_BadNumber : xvs_BadNumber[2]? = some (.str xfile_BadNumber xtf_BadNumber))
    (xe_BadNumber : ((l.prog.main.file : Str) == xfile_BadNumber) = true)
    (xk_BadNumber : K.lookup cc_BadNumber = some ⟨xcl_BadNumber, xcld_BadNumber, .cell (some (.ref C_BadNumber)), xcsl_BadNumber⟩)
    (xB_BadNumber : xcB K C_BadNumber fI_BadNumber "value" = true)
    (aC_BadWord : PySem.W.nsIn K mainGlobals "BadWord" = some (some (.ref C_BadWord)))
    (xl_BadWord : K.lookup C_BadWord = some (excClassObj xnm_BadWord xq_BadWord C_BadWord NS_BadWord xbs_BadWord xbm_BadWord true xsn_BadWord xsub_BadWord xab_BadWord xcol_BadWord xdd_BadWord xk0_BadWord xk1_BadWord xk2_BadWord xk3_BadWord xk5_BadWord "ValueError.__new__"))
    (xr_BadWord : PySem.HandSPX.refsVE xbm_BadWord = true)
    (xi_BadWord : PySem.W.findIn K (.ref C_BadWord) "__init__" = some (some (.ref fI_BadWord)))
    (xf_BadWord : K.lookup fI_BadWord = some ⟨xoc_BadWord, xod_BadWord, .func (PySem.W.fnX "__init__" "BadWord.__init__" (defArgs xst_BadWord) (defBody xst_BadWord) (defScope xst_BadWord) [("__class__", cc_BadWord)] .none xkV_BadWord xdoc_BadWord xpm_BadWord xan_BadWord (.ref cda_BadWord) xct_BadWord), xosl_BadWord⟩)
    (xc_BadWord : PySem.W.codeIn K (.ref cda_BadWord) "BadWord.__init__" = true)
    (xd_BadWord : K.lookup cda_BadWord = some ⟨xccl_BadWord, xcdd_BadWord, .fields xvs_BadWord, xccs_BadWord⟩)
    (xv_BadWord : xvs_BadWord[2]? = some (.str xfile_BadWord xtf_BadWord))
    (xe_BadWord : ((l.prog.main.file : Str) == xfile_BadWord) = true)
    (xk_BadWord : K.lookup cc_BadWord = some ⟨xcl_BadWord, xcld_BadWord, .cell (some (.ref C_BadWord)), xcsl_BadWord⟩)
    (xB_BadWord : xcB K C_BadWord fI_BadWord "value" = true)
    (xtop : (l.prog.main.scope.names.lookup ("super" : Str)).isSome = false)
    (xsup : PySem.W.nsIn K mainGlobals "super" = some none)
    (a1_is_integer : PySem.W.nsIn K mainGlobals "is_integer" = some (some (.ref a_is_integer)))
    (l1_is_integer : K.lookup a_is_integer = some ⟨oc_is_integer, od_is_integer, .func (PySem.W.fnOf "is_integer" "is_integer" (defArgs st_is_integer) (defBody st_is_integer) (defScope st_is_integer) .none kV_is_integer dc_is_integer pm_is_integer an_is_integer cd_is_integer ct_is_integer), sl_is_integer⟩)
    (c1_is_integer : PySem.W.codeIn K cd_is_integer "is_integer" = true)
    (k1_is_integer : PySem.W.keepIn K (.ref a_is_integer) = true)
    (a1_is_whole : PySem.W.nsIn K mainGlobals "is_whole" = some (some (.ref a_is_whole)))
    (l1_is_whole : K.lookup a_is_whole = some ⟨oc_is_whole, od_is_whole, .func (PySem.W.fnOf "is_whole" "is_whole" (defArgs st_is_whole) (defBody st_is_whole) (defScope st_is_whole) .none kV_is_whole dc_is_whole pm_is_whole an_is_whole cd_is_whole ct_is_whole), sl_is_whole⟩)
    (c1_is_whole : PySem.W.codeIn K cd_is_whole "is_whole" = true)
    (k1_is_whole : PySem.W.keepIn K (.ref a_is_whole) = true)
    (a1_LotX_initX : PySem.W.findIn K (.ref C_Lot) "__init__" = some (some (.ref a_LotX_initX)))
    (i1_LotX_initX : PySem.W.isFn K (.ref a_LotX_initX) = true)
    (l1_LotX_initX : K.lookup a_LotX_initX = some ⟨oc_LotX_initX, od_LotX_initX, .func (PySem.W.fnOf "__init__" "Lot.__init__" (defArgs st_LotX_initX) (defBody st_LotX_initX) (defScope st_LotX_initX) .none kV_LotX_initX dc_LotX_initX pm_LotX_initX an_LotX_initX cd_LotX_initX ct_LotX_initX), sl_LotX_initX⟩)
    (c1_LotX_initX : PySem.W.codeIn K cd_LotX_initX "Lot.__init__" = true)
    (k1_LotX_initX : PySem.W.keepIn K (.ref a_LotX_initX) = true)
    (a1_Lot_ends : PySem.W.findIn K (.ref C_Lot) "ends" = some (some (.ref a_Lot_ends)))
    (i1_Lot_ends : PySem.W.isFn K (.ref a_Lot_ends) = true)
    (l1_Lot_ends : K.lookup a_Lot_ends = some ⟨oc_Lot_ends, od_Lot_ends, .func (PySem.W.fnOf "ends" "Lot.ends" (defArgs st_Lot_ends) (defBody st_Lot_ends) (defScope st_Lot_ends) .none kV_Lot_ends dc_Lot_ends pm_Lot_ends an_Lot_ends cd_Lot_ends ct_Lot_ends), sl_Lot_ends⟩)
    (c1_Lot_ends : PySem.W.codeIn K cd_Lot_ends "Lot.ends" = true)
    (k1_Lot_ends : PySem.W.keepIn K (.ref a_Lot_ends) = true)
    (a1_Lot_swept_areas : PySem.W.findIn K (.ref C_Lot) "swept_areas" = some (some (.ref a_Lot_swept_areas)))
    (i1_Lot_swept_areas : PySem.W.isFn K (.ref a_Lot_swept_areas) = true)
    (l1_Lot_swept_areas : K.lookup a_Lot_swept_areas = some ⟨oc_Lot_swept_areas, od_Lot_swept_areas, .func (PySem.W.fnOf "swept_areas" "Lot.swept_areas" (defArgs st_Lot_swept_areas) (defBody st_Lot_swept_areas) (defScope st_Lot_swept_areas) .none kV_Lot_swept_areas dc_Lot_swept_areas pm_Lot_swept_areas an_Lot_swept_areas cd_Lot_swept_areas ct_Lot_swept_areas), sl_Lot_swept_areas⟩)
    (c1_Lot_swept_areas : PySem.W.codeIn K cd_Lot_swept_areas "Lot.swept_areas" = true)
    (k1_Lot_swept_areas : PySem.W.keepIn K (.ref a_Lot_swept_areas) = true)
    (a1_merged : PySem.W.nsIn K mainGlobals "merged" = some (some (.ref a_merged)))
    (l1_merged : K.lookup a_merged = some ⟨oc_merged, od_merged, .func (PySem.W.fnOf "merged" "merged" (defArgs st_merged) (defBody st_merged) (defScope st_merged) .none kV_merged dc_merged pm_merged an_merged cd_merged ct_merged), sl_merged⟩)
    (c1_merged : PySem.W.codeIn K cd_merged "merged" = true)
    (k1_merged : PySem.W.keepIn K (.ref a_merged) = true)
    (a1_is_list : PySem.W.nsIn K mainGlobals "is_list" = some (some (.ref a_is_list)))
    (l1_is_list : K.lookup a_is_list = some ⟨oc_is_list, od_is_list, .func (PySem.W.fnOf "is_list" "is_list" (defArgs st_is_list) (defBody st_is_list) (defScope st_is_list) .none kV_is_list dc_is_list pm_is_list an_is_list cd_is_list ct_is_list), sl_is_list⟩)
    (c1_is_list : PySem.W.codeIn K cd_is_list "is_list" = true)
    (k1_is_list : PySem.W.keepIn K (.ref a_is_list) = true)
    (a1_is_pair : PySem.W.nsIn K mainGlobals "is_pair" = some (some (.ref a_is_pair)))
    (l1_is_pair : K.lookup a_is_pair = some ⟨oc_is_pair, od_is_pair, .func (PySem.W.fnOf "is_pair" "is_pair" (defArgs st_is_pair) (defBody st_is_pair) (defScope st_is_pair) .none kV_is_pair dc_is_pair pm_is_pair an_is_pair cd_is_pair ct_is_pair), sl_is_pair⟩)
    (c1_is_pair : PySem.W.codeIn K cd_is_pair "is_pair" = true)
    (k1_is_pair : PySem.W.keepIn K (.ref a_is_pair) = true)
    (a1_pairs_told : PySem.W.nsIn K mainGlobals "pairs_told" = some (some (.ref a_pairs_told)))
    (l1_pairs_told : K.lookup a_pairs_told = some ⟨oc_pairs_told, od_pairs_told, .func (PySem.W.fnOf "pairs_told" "pairs_told" (defArgs st_pairs_told) (defBody st_pairs_told) (defScope st_pairs_told) .none kV_pairs_told dc_pairs_told pm_pairs_told an_pairs_told cd_pairs_told ct_pairs_told), sl_pairs_told⟩)
    (c1_pairs_told : PySem.W.codeIn K cd_pairs_told "pairs_told" = true)
    (k1_pairs_told : PySem.W.keepIn K (.ref a_pairs_told) = true)
    (a1_WalkX_initX : PySem.W.findIn K (.ref C_Walk) "__init__" = some (some (.ref a_WalkX_initX)))
    (i1_WalkX_initX : PySem.W.isFn K (.ref a_WalkX_initX) = true)
    (l1_WalkX_initX : K.lookup a_WalkX_initX = some ⟨oc_WalkX_initX, od_WalkX_initX, .func (PySem.W.fnOf "__init__" "Walk.__init__" (defArgs st_WalkX_initX) (defBody st_WalkX_initX) (defScope st_WalkX_initX) .none kV_WalkX_initX dc_WalkX_initX pm_WalkX_initX an_WalkX_initX cd_WalkX_initX ct_WalkX_initX), sl_WalkX_initX⟩)
    (c1_WalkX_initX : PySem.W.codeIn K cd_WalkX_initX "Walk.__init__" = true)
    (k1_WalkX_initX : PySem.W.keepIn K (.ref a_WalkX_initX) = true)
    (a1_falling_pairs : PySem.W.nsIn K mainGlobals "falling_pairs" = some (some (.ref a_falling_pairs)))
    (l1_falling_pairs : K.lookup a_falling_pairs = some ⟨oc_falling_pairs, od_falling_pairs, .func (PySem.W.fnOf "falling_pairs" "falling_pairs" (defArgs st_falling_pairs) (defBody st_falling_pairs) (defScope st_falling_pairs) .none kV_falling_pairs dc_falling_pairs pm_falling_pairs an_falling_pairs cd_falling_pairs ct_falling_pairs), sl_falling_pairs⟩)
    (c1_falling_pairs : PySem.W.codeIn K cd_falling_pairs "falling_pairs" = true)
    (k1_falling_pairs : PySem.W.keepIn K (.ref a_falling_pairs) = true)
    (a1_rising_pairs : PySem.W.nsIn K mainGlobals "rising_pairs" = some (some (.ref a_rising_pairs)))
    (l1_rising_pairs : K.lookup a_rising_pairs = some ⟨oc_rising_pairs, od_rising_pairs, .func (PySem.W.fnOf "rising_pairs" "rising_pairs" (defArgs st_rising_pairs) (defBody st_rising_pairs) (defScope st_rising_pairs) .none kV_rising_pairs dc_rising_pairs pm_rising_pairs an_rising_pairs cd_rising_pairs ct_rising_pairs), sl_rising_pairs⟩)
    (c1_rising_pairs : PySem.W.codeIn K cd_rising_pairs "rising_pairs" = true)
    (k1_rising_pairs : PySem.W.keepIn K (.ref a_rising_pairs) = true)
    (a1_swept_pairs : PySem.W.nsIn K mainGlobals "swept_pairs" = some (some (.ref a_swept_pairs)))
    (l1_swept_pairs : K.lookup a_swept_pairs = some ⟨oc_swept_pairs, od_swept_pairs, .func (PySem.W.fnOf "swept_pairs" "swept_pairs" (defArgs st_swept_pairs) (defBody st_swept_pairs) (defScope st_swept_pairs) .none kV_swept_pairs dc_swept_pairs pm_swept_pairs an_swept_pairs cd_swept_pairs ct_swept_pairs), sl_swept_pairs⟩)
    (c1_swept_pairs : PySem.W.codeIn K cd_swept_pairs "swept_pairs" = true)
    (k1_swept_pairs : PySem.W.keepIn K (.ref a_swept_pairs) = true)
    (a1_Lot_walk_with : PySem.W.findIn K (.ref C_Lot) "walk_with" = some (some (.ref a_Lot_walk_with)))
    (i1_Lot_walk_with : PySem.W.isFn K (.ref a_Lot_walk_with) = true)
    (l1_Lot_walk_with : K.lookup a_Lot_walk_with = some ⟨oc_Lot_walk_with, od_Lot_walk_with, .func (PySem.W.fnOf "walk_with" "Lot.walk_with" (defArgs st_Lot_walk_with) (defBody st_Lot_walk_with) (defScope st_Lot_walk_with) .none kV_Lot_walk_with dc_Lot_walk_with pm_Lot_walk_with an_Lot_walk_with cd_Lot_walk_with ct_Lot_walk_with), sl_Lot_walk_with⟩)
    (c1_Lot_walk_with : PySem.W.codeIn K cd_Lot_walk_with "Lot.walk_with" = true)
    (k1_Lot_walk_with : PySem.W.keepIn K (.ref a_Lot_walk_with) = true)
    (a1__law_begin : PySem.W.nsIn K mainGlobals "_law_begin" = some (some (.ref a__law_begin)))
    (l1__law_begin : K.lookup a__law_begin = some ⟨oc__law_begin, od__law_begin, .func (PySem.W.fnOf "_law_begin" "_law_begin" (defArgs st__law_begin) (defBody st__law_begin) (defScope st__law_begin) .none kV__law_begin dc__law_begin pm__law_begin an__law_begin cd__law_begin ct__law_begin), sl__law_begin⟩)
    (c1__law_begin : PySem.W.codeIn K cd__law_begin "_law_begin" = true)
    (k1__law_begin : PySem.W.keepIn K (.ref a__law_begin) = true)
    (a1__law_draw : PySem.W.nsIn K mainGlobals "_law_draw" = some (some (.ref a__law_draw)))
    (l1__law_draw : K.lookup a__law_draw = some ⟨oc__law_draw, od__law_draw, .func (PySem.W.fnOf "_law_draw" "_law_draw" (defArgs st__law_draw) (defBody st__law_draw) (defScope st__law_draw) .none kV__law_draw dc__law_draw pm__law_draw an__law_draw cd__law_draw ct__law_draw), sl__law_draw⟩)
    (c1__law_draw : PySem.W.codeIn K cd__law_draw "_law_draw" = true)
    (k1__law_draw : PySem.W.keepIn K (.ref a__law_draw) = true)
    (a1__law_number : PySem.W.nsIn K mainGlobals "_law_number" = some (some (.ref a__law_number)))
    (l1__law_number : K.lookup a__law_number = some ⟨oc__law_number, od__law_number, .func (PySem.W.fnOf "_law_number" "_law_number" (defArgs st__law_number) (defBody st__law_number) (defScope st__law_number) .none kV__law_number dc__law_number pm__law_number an__law_number cd__law_number ct__law_number), sl__law_number⟩)
    (c1__law_number : PySem.W.codeIn K cd__law_number "_law_number" = true)
    (k1__law_number : PySem.W.keepIn K (.ref a__law_number) = true)
    (a1__law_great : PySem.W.nsIn K mainGlobals "_law_great" = some (some (.ref a__law_great)))
    (l1__law_great : K.lookup a__law_great = some ⟨oc__law_great, od__law_great, .func (PySem.W.fnOf "_law_great" "_law_great" (defArgs st__law_great) (defBody st__law_great) (defScope st__law_great) .none kV__law_great dc__law_great pm__law_great an__law_great cd__law_great ct__law_great), sl__law_great⟩)
    (c1__law_great : PySem.W.codeIn K cd__law_great "_law_great" = true)
    (k1__law_great : PySem.W.keepIn K (.ref a__law_great) = true)
    (a1__law_pick : PySem.W.nsIn K mainGlobals "_law_pick" = some (some (.ref a__law_pick)))
    (l1__law_pick : K.lookup a__law_pick = some ⟨oc__law_pick, od__law_pick, .func (PySem.W.fnOf "_law_pick" "_law_pick" (defArgs st__law_pick) (defBody st__law_pick) (defScope st__law_pick) .none kV__law_pick dc__law_pick pm__law_pick an__law_pick cd__law_pick ct__law_pick), sl__law_pick⟩)
    (c1__law_pick : PySem.W.codeIn K cd__law_pick "_law_pick" = true)
    (k1__law_pick : PySem.W.keepIn K (.ref a__law_pick) = true)
    (a1__law_signed : PySem.W.nsIn K mainGlobals "_law_signed" = some (some (.ref a__law_signed)))
    (l1__law_signed : K.lookup a__law_signed = some ⟨oc__law_signed, od__law_signed, .func (PySem.W.fnOf "_law_signed" "_law_signed" (defArgs st__law_signed) (defBody st__law_signed) (defScope st__law_signed) .none kV__law_signed dc__law_signed pm__law_signed an__law_signed cd__law_signed ct__law_signed), sl__law_signed⟩)
    (c1__law_signed : PySem.W.codeIn K cd__law_signed "_law_signed" = true)
    (k1__law_signed : PySem.W.keepIn K (.ref a__law_signed) = true)
    (a1_best_sides : PySem.W.nsIn K mainGlobals "best_sides" = some (some (.ref a_best_sides)))
    (l1_best_sides : K.lookup a_best_sides = some ⟨oc_best_sides, od_best_sides, .func (PySem.W.fnOf "best_sides" "best_sides" (defArgs st_best_sides) (defBody st_best_sides) (defScope st_best_sides) .none kV_best_sides dc_best_sides pm_best_sides an_best_sides cd_best_sides ct_best_sides), sl_best_sides⟩)
    (c1_best_sides : PySem.W.codeIn K cd_best_sides "best_sides" = true)
    (k1_best_sides : PySem.W.keepIn K (.ref a_best_sides) = true)
    (a1_areas_of : PySem.W.nsIn K mainGlobals "areas_of" = some (some (.ref a_areas_of)))
    (l1_areas_of : K.lookup a_areas_of = some ⟨oc_areas_of, od_areas_of, .func (PySem.W.fnOf "areas_of" "areas_of" (defArgs st_areas_of) (defBody st_areas_of) (defScope st_areas_of) .none kV_areas_of dc_areas_of pm_areas_of an_areas_of cd_areas_of ct_areas_of), sl_areas_of⟩)
    (c1_areas_of : PySem.W.codeIn K cd_areas_of "areas_of" = true)
    (k1_areas_of : PySem.W.keepIn K (.ref a_areas_of) = true)
    (a1_areas : PySem.W.nsIn K mainGlobals "areas" = some (some (.ref a_areas)))
    (l1_areas : K.lookup a_areas = some ⟨oc_areas, od_areas, .func (PySem.W.fnOf "areas" "areas" (defArgs st_areas) (defBody st_areas) (defScope st_areas) .none kV_areas dc_areas pm_areas an_areas cd_areas ct_areas), sl_areas⟩)
    (c1_areas : PySem.W.codeIn K cd_areas "areas" = true)
    (k1_areas : PySem.W.keepIn K (.ref a_areas) = true)
    (a1__law_best_right : PySem.W.nsIn K mainGlobals "_law_best_right" = some (some (.ref a__law_best_right)))
    (l1__law_best_right : K.lookup a__law_best_right = some ⟨oc__law_best_right, od__law_best_right, .func (PySem.W.fnOf "_law_best_right" "_law_best_right" (defArgs st__law_best_right) (defBody st__law_best_right) (defScope st__law_best_right) .none kV__law_best_right dc__law_best_right pm__law_best_right an__law_best_right cd__law_best_right ct__law_best_right), sl__law_best_right⟩)
    (c1__law_best_right : PySem.W.codeIn K cd__law_best_right "_law_best_right" = true)
    (k1__law_best_right : PySem.W.keepIn K (.ref a__law_best_right) = true)
    (a1__law_step : PySem.W.nsIn K mainGlobals "_law_step" = some (some (.ref a__law_step)))
    (l1__law_step : K.lookup a__law_step = some ⟨oc__law_step, od__law_step, .func (PySem.W.fnOf "_law_step" "_law_step" (defArgs st__law_step) (defBody st__law_step) (defScope st__law_step) .none kV__law_step dc__law_step pm__law_step an__law_step cd__law_step ct__law_step), sl__law_step⟩)
    (c1__law_step : PySem.W.codeIn K cd__law_step "_law_step" = true)
    (k1__law_step : PySem.W.keepIn K (.ref a__law_step) = true)
    (a1__law_led : PySem.W.nsIn K mainGlobals "_law_led" = some (some (.ref a__law_led)))
    (l1__law_led : K.lookup a__law_led = some ⟨oc__law_led, od__law_led, .func (PySem.W.fnOf "_law_led" "_law_led" (defArgs st__law_led) (defBody st__law_led) (defScope st__law_led) .none kV__law_led dc__law_led pm__law_led an__law_led cd__law_led ct__law_led), sl__law_led⟩)
    (c1__law_led : PySem.W.codeIn K cd__law_led "_law_led" = true)
    (k1__law_led : PySem.W.keepIn K (.ref a__law_led) = true)
    (a1__law_greatest : PySem.W.nsIn K mainGlobals "_law_greatest" = some (some (.ref a__law_greatest)))
    (l1__law_greatest : K.lookup a__law_greatest = some ⟨oc__law_greatest, od__law_greatest, .func (PySem.W.fnOf "_law_greatest" "_law_greatest" (defArgs st__law_greatest) (defBody st__law_greatest) (defScope st__law_greatest) .none kV__law_greatest dc__law_greatest pm__law_greatest an__law_greatest cd__law_greatest ct__law_greatest), sl__law_greatest⟩)
    (c1__law_greatest : PySem.W.codeIn K cd__law_greatest "_law_greatest" = true)
    (k1__law_greatest : PySem.W.keepIn K (.ref a__law_greatest) = true)
    (a1_PlaceX_initX : PySem.W.findIn K (.ref C_Place) "__init__" = some (some (.ref a_PlaceX_initX)))
    (i1_PlaceX_initX : PySem.W.isFn K (.ref a_PlaceX_initX) = true)
    (l1_PlaceX_initX : K.lookup a_PlaceX_initX = some ⟨oc_PlaceX_initX, od_PlaceX_initX, .func (PySem.W.fnOf "__init__" "Place.__init__" (defArgs st_PlaceX_initX) (defBody st_PlaceX_initX) (defScope st_PlaceX_initX) .none kV_PlaceX_initX dc_PlaceX_initX pm_PlaceX_initX an_PlaceX_initX cd_PlaceX_initX ct_PlaceX_initX), sl_PlaceX_initX⟩)
    (c1_PlaceX_initX : PySem.W.codeIn K cd_PlaceX_initX "Place.__init__" = true)
    (k1_PlaceX_initX : PySem.W.keepIn K (.ref a_PlaceX_initX) = true)
    (a1_gone_on : PySem.W.nsIn K mainGlobals "gone_on" = some (some (.ref a_gone_on)))
    (l1_gone_on : K.lookup a_gone_on = some ⟨oc_gone_on, od_gone_on, .func (PySem.W.fnOf "gone_on" "gone_on" (defArgs st_gone_on) (defBody st_gone_on) (defScope st_gone_on) .none kV_gone_on dc_gone_on pm_gone_on an_gone_on cd_gone_on ct_gone_on), sl_gone_on⟩)
    (c1_gone_on : PySem.W.codeIn K cd_gone_on "gone_on" = true)
    (k1_gone_on : PySem.W.keepIn K (.ref a_gone_on) = true)
    (a1_Walk_spots : PySem.W.findIn K (.ref C_Walk) "spots" = some (some (.ref a_Walk_spots)))
    (i1_Walk_spots : PySem.W.isFn K (.ref a_Walk_spots) = true)
    (l1_Walk_spots : K.lookup a_Walk_spots = some ⟨oc_Walk_spots, od_Walk_spots, .func (PySem.W.fnOf "spots" "Walk.spots" (defArgs st_Walk_spots) (defBody st_Walk_spots) (defScope st_Walk_spots) .none kV_Walk_spots dc_Walk_spots pm_Walk_spots an_Walk_spots cd_Walk_spots ct_Walk_spots), sl_Walk_spots⟩)
    (c1_Walk_spots : PySem.W.codeIn K cd_Walk_spots "Walk.spots" = true)
    (k1_Walk_spots : PySem.W.keepIn K (.ref a_Walk_spots) = true)
    (a1_Walk_place : PySem.W.findIn K (.ref C_Walk) "place" = some (some (.ref a_Walk_place)))
    (i1_Walk_place : PySem.W.isFn K (.ref a_Walk_place) = true)
    (l1_Walk_place : K.lookup a_Walk_place = some ⟨oc_Walk_place, od_Walk_place, .func (PySem.W.fnOf "place" "Walk.place" (defArgs st_Walk_place) (defBody st_Walk_place) (defScope st_Walk_place) .none kV_Walk_place dc_Walk_place pm_Walk_place an_Walk_place cd_Walk_place ct_Walk_place), sl_Walk_place⟩)
    (c1_Walk_place : PySem.W.codeIn K cd_Walk_place "Walk.place" = true)
    (k1_Walk_place : PySem.W.keepIn K (.ref a_Walk_place) = true)
    (a1__law_counts : PySem.W.nsIn K mainGlobals "_law_counts" = some (some (.ref a__law_counts)))
    (l1__law_counts : K.lookup a__law_counts = some ⟨oc__law_counts, od__law_counts, .func (PySem.W.fnOf "_law_counts" "_law_counts" (defArgs st__law_counts) (defBody st__law_counts) (defScope st__law_counts) .none kV__law_counts dc__law_counts pm__law_counts an__law_counts cd__law_counts ct__law_counts), sl__law_counts⟩)
    (c1__law_counts : PySem.W.codeIn K cd__law_counts "_law_counts" = true)
    (k1__law_counts : PySem.W.keepIn K (.ref a__law_counts) = true)
    (a1__law_is_walked : PySem.W.nsIn K mainGlobals "_law_is_walked" = some (some (.ref a__law_is_walked)))
    (l1__law_is_walked : K.lookup a__law_is_walked = some ⟨oc__law_is_walked, od__law_is_walked, .func (PySem.W.fnOf "_law_is_walked" "_law_is_walked" (defArgs st__law_is_walked) (defBody st__law_is_walked) (defScope st__law_is_walked) .none kV__law_is_walked dc__law_is_walked pm__law_is_walked an__law_is_walked cd__law_is_walked ct__law_is_walked), sl__law_is_walked⟩)
    (c1__law_is_walked : PySem.W.codeIn K cd__law_is_walked "_law_is_walked" = true)
    (k1__law_is_walked : PySem.W.keepIn K (.ref a__law_is_walked) = true)
    (a1__law_lot : PySem.W.nsIn K mainGlobals "_law_lot" = some (some (.ref a__law_lot)))
    (l1__law_lot : K.lookup a__law_lot = some ⟨oc__law_lot, od__law_lot, .func (PySem.W.fnOf "_law_lot" "_law_lot" (defArgs st__law_lot) (defBody st__law_lot) (defScope st__law_lot) .none kV__law_lot dc__law_lot pm__law_lot an__law_lot cd__law_lot ct__law_lot), sl__law_lot⟩)
    (c1__law_lot : PySem.W.codeIn K cd__law_lot "_law_lot" = true)
    (k1__law_lot : PySem.W.keepIn K (.ref a__law_lot) = true)
    (a1__law_shuffled : PySem.W.nsIn K mainGlobals "_law_shuffled" = some (some (.ref a__law_shuffled)))
    (l1__law_shuffled : K.lookup a__law_shuffled = some ⟨oc__law_shuffled, od__law_shuffled, .func (PySem.W.fnOf "_law_shuffled" "_law_shuffled" (defArgs st__law_shuffled) (defBody st__law_shuffled) (defScope st__law_shuffled) .none kV__law_shuffled dc__law_shuffled pm__law_shuffled an__law_shuffled cd__law_shuffled ct__law_shuffled), sl__law_shuffled⟩)
    (c1__law_shuffled : PySem.W.codeIn K cd__law_shuffled "_law_shuffled" = true)
    (k1__law_shuffled : PySem.W.keepIn K (.ref a__law_shuffled) = true)
    (a1__law_parted : PySem.W.nsIn K mainGlobals "_law_parted" = some (some (.ref a__law_parted)))
    (l1__law_parted : K.lookup a__law_parted = some ⟨oc__law_parted, od__law_parted, .func (PySem.W.fnOf "_law_parted" "_law_parted" (defArgs st__law_parted) (defBody st__law_parted) (defScope st__law_parted) .none kV__law_parted dc__law_parted pm__law_parted an__law_parted cd__law_parted ct__law_parted), sl__law_parted⟩)
    (c1__law_parted : PySem.W.codeIn K cd__law_parted "_law_parted" = true)
    (k1__law_parted : PySem.W.keepIn K (.ref a__law_parted) = true)
    (a1_law : PySem.W.nsIn K mainGlobals "law" = some (some (.ref a_law)))
    (l1_law : K.lookup a_law = some ⟨oc_law, od_law, .func (PySem.W.fnOf "law" "law" (defArgs st_law) (defBody st_law) (defScope st_law) .none kV_law dc_law pm_law an_law cd_law ct_law), sl_law⟩)
    (c1_law : PySem.W.codeIn K cd_law "law" = true)
    (k1_law : PySem.W.keepIn K (.ref a_law) = true)
    (z1_abs : PySem.W.nsIn K mainGlobals "abs" = some none)
    (z1_all : PySem.W.nsIn K mainGlobals "all" = some none)
    (z1_bool : PySem.W.nsIn K mainGlobals "bool" = some none)
    (z1_divmod : PySem.W.nsIn K mainGlobals "divmod" = some none)
    (z1_int : PySem.W.nsIn K mainGlobals "int" = some none)
    (z1_isinstance : PySem.W.nsIn K mainGlobals "isinstance" = some none)
    (z1_len : PySem.W.nsIn K mainGlobals "len" = some none)
    (z1_list : PySem.W.nsIn K mainGlobals "list" = some none)
    (z1_max : PySem.W.nsIn K mainGlobals "max" = some none)
    (z1_min : PySem.W.nsIn K mainGlobals "min" = some none)
    (z1_range : PySem.W.nsIn K mainGlobals "range" = some none)
    (z1_sorted : PySem.W.nsIn K mainGlobals "sorted" = some none)
    (z1_str : PySem.W.nsIn K mainGlobals "str" = some none)
    (z1_sum : PySem.W.nsIn K mainGlobals "sum" = some none)
    (z1_tuple : PySem.W.nsIn K mainGlobals "tuple" = some none)
    (k0_MIRRORED : PySem.W.nsIn K mainGlobals "MIRRORED" = some (some kv_MIRRORED))
    (kda_MIRRORED : dForm K kv_MIRRORED = true)
    (kdb_MIRRORED : kdm K (dEnt K kv_MIRRORED) kd_MIRRORED = true)
    (kdc_MIRRORED : (dEnt K kv_MIRRORED).map (·.hash) = kd_MIRRORED.map fun q => PyData.keyHash w.params (nm q.1))
    (k0_TURNED : PySem.W.nsIn K mainGlobals "TURNED" = some (some kv_TURNED))
    (kda_TURNED : dForm K kv_TURNED = true)
    (kdb_TURNED : kdm K (dEnt K kv_TURNED) kd_TURNED = true)
    (kdc_TURNED : (dEnt K kv_TURNED).map (·.hash) = kd_TURNED.map fun q => PyData.keyHash w.params (nm q.1))
    (k0_LETTERS : PySem.W.nsIn K mainGlobals "LETTERS" = some (some kv_LETTERS))
    (kx_LETTERS : repK K 6 kv_LETTERS (.str [101, 110, 119, 115]) = true)
    (k0_MOST_LETTERS : PySem.W.nsIn K mainGlobals "MOST_LETTERS" = some (some kv_MOST_LETTERS))
    (kx_MOST_LETTERS : repK K 6 kv_MOST_LETTERS (.int 10000) = true)
    (k0_MOST_RUNS : PySem.W.nsIn K mainGlobals "MOST_RUNS" = some (some kv_MOST_RUNS))
    (kx_MOST_RUNS : repK K 6 kv_MOST_RUNS (.int 10000) = true)
    (hl : ∀ ns : List Int, ns.length ≤ 63 → (∀ z ∈ ns, Builtin.Int.intBits z ≤ 1048576) → ∃ S, g_law [.scr (ns.map D.int)] [] = .ok (.bl true) S) :
    LamX.LawAtS l w K (L2.CX l.prog w) 15 63 "_law_script" mg fa h := by
  have e := hfa.symm.trans (PySem.W.mg_of X G0 a1_law)
  cases e
  let G : Gam := { K := K, ct := fun c => if c = "Place" then some C_Place else if c = "Walk" then some C_Walk else if c = "Lot" then some C_Lot else if c = "BadNumber" then some C_BadNumber else if c = "BadWord" then some C_BadWord else none, ft := fun c => none, tab := tabG [], tabM := tabG_mono _ }
  have cF_Place := clsF cB_Place
  have cF_Walk := clsF cB_Walk
  have cF_Lot := clsF cB_Lot
  have ct_Place : G.ct "Place" = some C_Place := by simp [G]
  have ct_Walk : G.ct "Walk" = some C_Walk := by simp [G]
  have ct_Lot : G.ct "Lot" = some C_Lot := by simp [G]
  have ct_BadNumber : G.ct "BadNumber" = some C_BadNumber := by simp [G]
  have ct_BadWord : G.ct "BadWord" = some C_BadWord := by simp [G]
  have F_is_integer := fun_mk (st := st_is_integer) l1_is_integer c1_is_integer k1_is_integer
  have F_is_whole := fun_mk (st := st_is_whole) l1_is_whole c1_is_whole k1_is_whole
  have F_LotX_initX := fun_mk (st := st_LotX_initX) l1_LotX_initX c1_LotX_initX k1_LotX_initX
  have F_Lot_ends := fun_mk (st := st_Lot_ends) l1_Lot_ends c1_Lot_ends k1_Lot_ends
  have F_Lot_swept_areas := fun_mk (st := st_Lot_swept_areas) l1_Lot_swept_areas c1_Lot_swept_areas k1_Lot_swept_areas
  have F_merged := fun_mk (st := st_merged) l1_merged c1_merged k1_merged
  have F_is_list := fun_mk (st := st_is_list) l1_is_list c1_is_list k1_is_list
  have F_is_pair := fun_mk (st := st_is_pair) l1_is_pair c1_is_pair k1_is_pair
  have F_pairs_told := fun_mk (st := st_pairs_told) l1_pairs_told c1_pairs_told k1_pairs_told
  have F_WalkX_initX := fun_mk (st := st_WalkX_initX) l1_WalkX_initX c1_WalkX_initX k1_WalkX_initX
  have F_falling_pairs := fun_mk (st := st_falling_pairs) l1_falling_pairs c1_falling_pairs k1_falling_pairs
  have F_rising_pairs := fun_mk (st := st_rising_pairs) l1_rising_pairs c1_rising_pairs k1_rising_pairs
  have F_swept_pairs := fun_mk (st := st_swept_pairs) l1_swept_pairs c1_swept_pairs k1_swept_pairs
  have F_Lot_walk_with := fun_mk (st := st_Lot_walk_with) l1_Lot_walk_with c1_Lot_walk_with k1_Lot_walk_with
  have F__law_begin := fun_mk (st := st__law_begin) l1__law_begin c1__law_begin k1__law_begin
  have F__law_draw := fun_mk (st := st__law_draw) l1__law_draw c1__law_draw k1__law_draw
  have F__law_number := fun_mk (st := st__law_number) l1__law_number c1__law_number k1__law_number
  have F__law_great := fun_mk (st := st__law_great) l1__law_great c1__law_great k1__law_great
  have F__law_pick := fun_mk (st := st__law_pick) l1__law_pick c1__law_pick k1__law_pick
  have F__law_signed := fun_mk (st := st__law_signed) l1__law_signed c1__law_signed k1__law_signed
  have F_best_sides := fun_mk (st := st_best_sides) l1_best_sides c1_best_sides k1_best_sides
  have F_areas_of := fun_mk (st := st_areas_of) l1_areas_of c1_areas_of k1_areas_of
  have F_areas := fun_mk (st := st_areas) l1_areas c1_areas k1_areas
  have F__law_best_right := fun_mk (st := st__law_best_right) l1__law_best_right c1__law_best_right k1__law_best_right
  have F__law_step := fun_mk (st := st__law_step) l1__law_step c1__law_step k1__law_step
  have F__law_led := fun_mk (st := st__law_led) l1__law_led c1__law_led k1__law_led
  have F__law_greatest := fun_mk (st := st__law_greatest) l1__law_greatest c1__law_greatest k1__law_greatest
  have F_PlaceX_initX := fun_mk (st := st_PlaceX_initX) l1_PlaceX_initX c1_PlaceX_initX k1_PlaceX_initX
  have F_gone_on := fun_mk (st := st_gone_on) l1_gone_on c1_gone_on k1_gone_on
  have F_Walk_spots := fun_mk (st := st_Walk_spots) l1_Walk_spots c1_Walk_spots k1_Walk_spots
  have F_Walk_place := fun_mk (st := st_Walk_place) l1_Walk_place c1_Walk_place k1_Walk_place
  have F__law_counts := fun_mk (st := st__law_counts) l1__law_counts c1__law_counts k1__law_counts
  have F__law_is_walked := fun_mk (st := st__law_is_walked) l1__law_is_walked c1__law_is_walked k1__law_is_walked
  have F__law_lot := fun_mk (st := st__law_lot) l1__law_lot c1__law_lot k1__law_lot
  have F__law_shuffled := fun_mk (st := st__law_shuffled) l1__law_shuffled c1__law_shuffled k1__law_shuffled
  have F__law_parted := fun_mk (st := st__law_parted) l1__law_parted c1__law_parted k1__law_parted
  have F_law := fun_mk (st := st_law) l1_law c1_law k1_law
  have mkE : ∀ base : Heap, (∀ m ∈ ([] : List (String × Addr × Addr)), LamX.TabB base mg m.2.1 m.2.2) → ∃ e : Ev w l.prog G mg base, e.a_law = fa ∧ e.fd_law = (PySem.W.fnOf "law" "law" (defArgs st_law) (defBody st_law) (defScope st_law) .none kV_law dc_law pm_law an_law cd_law ct_law) := fun base tb => ⟨{
    C_Place := C_Place
    ct_Place := ct_Place
    cl_Place := cF_Place.cl
    m_Place := PySem.W.mg_of X G0 aC_Place
    sf_Place := cF_Place.sf
    ne_Place := cF_Place.ne
    mo_Place := cF_Place.mo
    na_Place_x := cF_Place.na _ (by simp)
    na_Place_y := cF_Place.na _ (by simp)
    na_Place_area := cF_Place.na _ (by simp)
    C_Walk := C_Walk
    ct_Walk := ct_Walk
    cl_Walk := cF_Walk.cl
    m_Walk := PySem.W.mg_of X G0 aC_Walk
    sf_Walk := cF_Walk.sf
    ne_Walk := cF_Walk.ne
    mo_Walk := cF_Walk.mo
    na_Walk_runs := cF_Walk.na _ (by simp)
    C_Lot := C_Lot
    ct_Lot := ct_Lot
    cl_Lot := cF_Lot.cl
    m_Lot := PySem.W.mg_of X G0 aC_Lot
    sf_Lot := cF_Lot.sf
    ne_Lot := cF_Lot.ne
    mo_Lot := cF_Lot.mo
    na_Lot_east := cF_Lot.na _ (by simp)
    na_Lot_north := cF_Lot.na _ (by simp)
    na_Lot_west := cF_Lot.na _ (by simp)
    na_Lot_south := cF_Lot.na _ (by simp)
    C_BadNumber := C_BadNumber
    ct_BadNumber := ct_BadNumber
    m_BadNumber := PySem.W.mg_of X G0 aC_BadNumber
    fI_BadNumber := fI_BadNumber
    xfd_BadNumber := _
    X_BadNumber := xfacts_of (G := G) ct_BadNumber xl_BadNumber xr_BadNumber xi_BadNumber xf_BadNumber xc_BadNumber xd_BadNumber xv_BadNumber xe_BadNumber xk_BadNumber xB_BadNumber xtop (PySem.W.mg_none_of X G0 xsup) xsh_BadNumber (by decide) (by decide) (by decide) (fun us hl => match us, hl with | [_, _], _ => rfl)
    C_BadWord := C_BadWord
    ct_BadWord := ct_BadWord
    m_BadWord := PySem.W.mg_of X G0 aC_BadWord
    fI_BadWord := fI_BadWord
    xfd_BadWord := _
    X_BadWord := xfacts_of (G := G) ct_BadWord xl_BadWord xr_BadWord xi_BadWord xf_BadWord xc_BadWord xd_BadWord xv_BadWord xe_BadWord xk_BadWord xB_BadWord xtop (PySem.W.mg_none_of X G0 xsup) xsh_BadWord (by decide) (by decide) (by decide) (fun us hl => match us, hl with | [_, _], _ => rfl)
    a_is_integer := a_is_integer
    fd_is_integer := _
    F_is_integer := F_is_integer
    b_is_integer := F_is_integer.binds (ps := ["value"]) fun _ _ _ _ _ _ us hl => match us, hl with | [_], _ => rfl
    m_is_integer := PySem.W.mg_of X G0 a1_is_integer
    a_is_whole := a_is_whole
    fd_is_whole := _
    F_is_whole := F_is_whole
    b_is_whole := F_is_whole.binds (ps := ["value", "least"]) fun _ _ _ _ _ _ us hl => match us, hl with | [_, _], _ => rfl
    m_is_whole := PySem.W.mg_of X G0 a1_is_whole
    a_LotX_initX := a_LotX_initX
    fd_LotX_initX := _
    F_LotX_initX := F_LotX_initX
    b_LotX_initX := F_LotX_initX.binds (ps := ["self", "east", "north", "west", "south"]) fun _ _ _ _ _ _ us hl => match us, hl with | [_, _, _, _, _], _ => rfl
    M_LotX_initX := ⟨a1_LotX_initX, i1_LotX_initX, k1_LotX_initX⟩
    a_Lot_ends := a_Lot_ends
    fd_Lot_ends := _
    F_Lot_ends := F_Lot_ends
    b_Lot_ends := F_Lot_ends.binds (ps := ["self"]) fun _ _ _ _ _ _ us hl => match us, hl with | [_], _ => rfl
    M_Lot_ends := ⟨a1_Lot_ends, i1_Lot_ends, k1_Lot_ends⟩
    a_Lot_swept_areas := a_Lot_swept_areas
    fd_Lot_swept_areas := _
    F_Lot_swept_areas := F_Lot_swept_areas
    b_Lot_swept_areas := F_Lot_swept_areas.binds (ps := ["self"]) fun _ _ _ _ _ _ us hl => match us, hl with | [_], _ => rfl
    M_Lot_swept_areas := ⟨a1_Lot_swept_areas, i1_Lot_swept_areas, k1_Lot_swept_areas⟩
    a_merged := a_merged
    fd_merged := _
    F_merged := F_merged
    b_merged := F_merged.binds (ps := ["pairs"]) fun _ _ _ _ _ _ us hl => match us, hl with | [_], _ => rfl
    m_merged := PySem.W.mg_of X G0 a1_merged
    a_is_list := a_is_list
    fd_is_list := _
    F_is_list := F_is_list
    b_is_list := F_is_list.binds (ps := ["value"]) fun _ _ _ _ _ _ us hl => match us, hl with | [_], _ => rfl
    m_is_list := PySem.W.mg_of X G0 a1_is_list
    a_is_pair := a_is_pair
    fd_is_pair := _
    F_is_pair := F_is_pair
    b_is_pair := F_is_pair.binds (ps := ["value"]) fun _ _ _ _ _ _ us hl => match us, hl with | [_], _ => rfl
    m_is_pair := PySem.W.mg_of X G0 a1_is_pair
    a_pairs_told := a_pairs_told
    fd_pairs_told := _
    F_pairs_told := F_pairs_told
    b_pairs_told := F_pairs_told.binds (ps := ["told"]) fun _ _ _ _ _ _ us hl => match us, hl with | [_], _ => rfl
    m_pairs_told := PySem.W.mg_of X G0 a1_pairs_told
    a_WalkX_initX := a_WalkX_initX
    fd_WalkX_initX := _
    F_WalkX_initX := F_WalkX_initX
    b_WalkX_initX := F_WalkX_initX.binds (ps := ["self", "told"]) fun _ _ _ _ _ _ us hl => match us, hl with | [_, _], _ => rfl
    M_WalkX_initX := ⟨a1_WalkX_initX, i1_WalkX_initX, k1_WalkX_initX⟩
    a_falling_pairs := a_falling_pairs
    fd_falling_pairs := _
    F_falling_pairs := F_falling_pairs
    b_falling_pairs := F_falling_pairs.binds (ps := ["east", "north", "west", "south", "area"]) fun _ _ _ _ _ _ us hl => match us, hl with | [_, _, _, _, _], _ => rfl
    m_falling_pairs := PySem.W.mg_of X G0 a1_falling_pairs
    a_rising_pairs := a_rising_pairs
    fd_rising_pairs := _
    F_rising_pairs := F_rising_pairs
    b_rising_pairs := F_rising_pairs.binds (ps := ["east", "north", "west", "south", "area"]) fun _ _ _ _ _ _ us hl => match us, hl with | [_, _, _, _, _], _ => rfl
    m_rising_pairs := PySem.W.mg_of X G0 a1_rising_pairs
    a_swept_pairs := a_swept_pairs
    fd_swept_pairs := _
    F_swept_pairs := F_swept_pairs
    b_swept_pairs := F_swept_pairs.binds (ps := ["east", "north", "west", "south", "area"]) fun _ _ _ _ _ _ us hl => match us, hl with | [_, _, _, _, _], _ => rfl
    m_swept_pairs := PySem.W.mg_of X G0 a1_swept_pairs
    a_Lot_walk_with := a_Lot_walk_with
    fd_Lot_walk_with := _
    F_Lot_walk_with := F_Lot_walk_with
    b_Lot_walk_with := F_Lot_walk_with.binds (ps := ["self", "area"]) fun _ _ _ _ _ _ us hl => match us, hl with | [_, _], _ => rfl
    M_Lot_walk_with := ⟨a1_Lot_walk_with, i1_Lot_walk_with, k1_Lot_walk_with⟩
    a__law_begin := a__law_begin
    fd__law_begin := _
    F__law_begin := F__law_begin
    b__law_begin := F__law_begin.binds (ps := ["_law_script"]) fun _ _ _ _ _ _ us hl => match us, hl with | [_], _ => rfl
    m__law_begin := PySem.W.mg_of X G0 a1__law_begin
    a__law_draw := a__law_draw
    fd__law_draw := _
    F__law_draw := F__law_draw
    b__law_draw := F__law_draw.binds (ps := ["_law_pen", "_law_span"]) fun _ _ _ _ _ _ us hl => match us, hl with | [_, _], _ => rfl
    m__law_draw := PySem.W.mg_of X G0 a1__law_draw
    a__law_number := a__law_number
    fd__law_number := _
    F__law_number := F__law_number
    b__law_number := F__law_number.binds (ps := ["_law_pen", "_law_groups"]) fun _ _ _ _ _ _ us hl => match us, hl with | [_, _], _ => rfl
    m__law_number := PySem.W.mg_of X G0 a1__law_number
    a__law_great := a__law_great
    fd__law_great := _
    F__law_great := F__law_great
    b__law_great := F__law_great.binds (ps := ["_law_pen"]) fun _ _ _ _ _ _ us hl => match us, hl with | [_], _ => rfl
    m__law_great := PySem.W.mg_of X G0 a1__law_great
    a__law_pick := a__law_pick
    fd__law_pick := _
    F__law_pick := F__law_pick
    b__law_pick := F__law_pick.binds (ps := ["_law_pen", "_law_some"]) fun _ _ _ _ _ _ us hl => match us, hl with | [_, _], _ => rfl
    m__law_pick := PySem.W.mg_of X G0 a1__law_pick
    a__law_signed := a__law_signed
    fd__law_signed := _
    F__law_signed := F__law_signed
    b__law_signed := F__law_signed.binds (ps := ["_law_pen"]) fun _ _ _ _ _ _ us hl => match us, hl with | [_], _ => rfl
    m__law_signed := PySem.W.mg_of X G0 a1__law_signed
    a_best_sides := a_best_sides
    fd_best_sides := _
    F_best_sides := F_best_sides
    b_best_sides := F_best_sides.binds (ps := ["x", "y", "extra"]) fun _ _ _ _ _ _ us hl => match us, hl with | [_, _, _], _ => rfl
    m_best_sides := PySem.W.mg_of X G0 a1_best_sides
    a_areas_of := a_areas_of
    fd_areas_of := _
    F_areas_of := F_areas_of
    b_areas_of := F_areas_of.binds (ps := ["x", "y", "number"]) fun _ _ _ _ _ _ us hl => match us, hl with | [_, _, _], _ => rfl
    m_areas_of := PySem.W.mg_of X G0 a1_areas_of
    a_areas := a_areas
    fd_areas := _
    F_areas := F_areas
    b_areas := F_areas.binds (ps := ["x", "y", "number"]) fun _ _ _ _ _ _ us hl => match us, hl with | [_, _, _], _ => rfl
    m_areas := PySem.W.mg_of X G0 a1_areas
    a__law_best_right := a__law_best_right
    fd__law_best_right := _
    F__law_best_right := F__law_best_right
    b__law_best_right := F__law_best_right.binds (ps := ["_law_pen"]) fun _ _ _ _ _ _ us hl => match us, hl with | [_], _ => rfl
    m__law_best_right := PySem.W.mg_of X G0 a1__law_best_right
    a__law_step := a__law_step
    fd__law_step := _
    F__law_step := F__law_step
    b__law_step := F__law_step.binds (ps := ["_law_spot", "_law_letter", "_law_times"]) fun _ _ _ _ _ _ us hl => match us, hl with | [_, _, _], _ => rfl
    m__law_step := PySem.W.mg_of X G0 a1__law_step
    a__law_led := a__law_led
    fd__law_led := _
    F__law_led := F__law_led
    b__law_led := F__law_led.binds (ps := ["_law_runs"]) fun _ _ _ _ _ _ us hl => match us, hl with | [_], _ => rfl
    m__law_led := PySem.W.mg_of X G0 a1__law_led
    a__law_greatest := a__law_greatest
    fd__law_greatest := _
    F__law_greatest := F__law_greatest
    b__law_greatest := F__law_greatest.binds (ps := ["_law_lot_here"]) fun _ _ _ _ _ _ us hl => match us, hl with | [_], _ => rfl
    m__law_greatest := PySem.W.mg_of X G0 a1__law_greatest
    a_PlaceX_initX := a_PlaceX_initX
    fd_PlaceX_initX := _
    F_PlaceX_initX := F_PlaceX_initX
    b_PlaceX_initX := F_PlaceX_initX.binds (ps := ["self", "x", "y", "area"]) fun _ _ _ _ _ _ us hl => match us, hl with | [_, _, _, _], _ => rfl
    M_PlaceX_initX := ⟨a1_PlaceX_initX, i1_PlaceX_initX, k1_PlaceX_initX⟩
    a_gone_on := a_gone_on
    fd_gone_on := _
    F_gone_on := F_gone_on
    b_gone_on := F_gone_on.binds (ps := ["spot", "letter", "times"]) fun _ _ _ _ _ _ us hl => match us, hl with | [_, _, _], _ => rfl
    m_gone_on := PySem.W.mg_of X G0 a1_gone_on
    a_Walk_spots := a_Walk_spots
    fd_Walk_spots := _
    F_Walk_spots := F_Walk_spots
    b_Walk_spots := F_Walk_spots.binds (ps := ["self"]) fun _ _ _ _ _ _ us hl => match us, hl with | [_], _ => rfl
    M_Walk_spots := ⟨a1_Walk_spots, i1_Walk_spots, k1_Walk_spots⟩
    a_Walk_place := a_Walk_place
    fd_Walk_place := _
    F_Walk_place := F_Walk_place
    b_Walk_place := F_Walk_place.binds (ps := ["self"]) fun _ _ _ _ _ _ us hl => match us, hl with | [_], _ => rfl
    M_Walk_place := ⟨a1_Walk_place, i1_Walk_place, k1_Walk_place⟩
    a__law_counts := a__law_counts
    fd__law_counts := _
    F__law_counts := F__law_counts
    b__law_counts := F__law_counts.binds (ps := ["_law_runs"]) fun _ _ _ _ _ _ us hl => match us, hl with | [_], _ => rfl
    m__law_counts := PySem.W.mg_of X G0 a1__law_counts
    a__law_is_walked := a__law_is_walked
    fd__law_is_walked := _
    F__law_is_walked := F__law_is_walked
    b__law_is_walked := F__law_is_walked.binds (ps := ["_law_told", "_law_lot_here", "_law_area"]) fun _ _ _ _ _ _ us hl => match us, hl with | [_, _, _], _ => rfl
    m__law_is_walked := PySem.W.mg_of X G0 a1__law_is_walked
    a__law_lot := a__law_lot
    fd__law_lot := _
    F__law_lot := F__law_lot
    b__law_lot := F__law_lot.binds (ps := ["_law_pen"]) fun _ _ _ _ _ _ us hl => match us, hl with | [_], _ => rfl
    m__law_lot := PySem.W.mg_of X G0 a1__law_lot
    a__law_shuffled := a__law_shuffled
    fd__law_shuffled := _
    F__law_shuffled := F__law_shuffled
    b__law_shuffled := F__law_shuffled.binds (ps := ["_law_pen", "_law_some"]) fun _ _ _ _ _ _ us hl => match us, hl with | [_, _], _ => rfl
    m__law_shuffled := PySem.W.mg_of X G0 a1__law_shuffled
    a__law_parted := a__law_parted
    fd__law_parted := _
    F__law_parted := F__law_parted
    b__law_parted := F__law_parted.binds (ps := ["_law_pen", "_law_lot_here"]) fun _ _ _ _ _ _ us hl => match us, hl with | [_, _], _ => rfl
    m__law_parted := PySem.W.mg_of X G0 a1__law_parted
    a_law := fa
    fd_law := _
    F_law := F_law
    b_law := F_law.binds (ps := ["_law_script"]) fun _ _ _ _ _ _ us hl => match us, hl with | [_], _ => rfl
    m_law := PySem.W.mg_of X G0 a1_law
    mk_Place := ⟨cF_Place.makes, a1_PlaceX_initX, i1_PlaceX_initX, cF_Place.kp⟩
    mk_Walk := ⟨cF_Walk.makes, a1_WalkX_initX, i1_WalkX_initX, cF_Walk.kp⟩
    mk_Lot := ⟨cF_Lot.makes, a1_LotX_initX, i1_LotX_initX, cF_Lot.kp⟩
    f_area := fun c hc C hC => by
      simp only [List.mem_cons, List.not_mem_nil, or_false] at hc
      (subst hc; rw [ct_Place] at hC; cases hC; exact ⟨cF_Place.cl, by rw [← s_18]; exact cF_Place.na _ (by simp)⟩)
    f_east := fun c hc C hC => by
      simp only [List.mem_cons, List.not_mem_nil, or_false] at hc
      (subst hc; rw [ct_Lot] at hC; cases hC; exact ⟨cF_Lot.cl, by rw [← s_1]; exact cF_Lot.na _ (by simp)⟩)
    f_north := fun c hc C hC => by
      simp only [List.mem_cons, List.not_mem_nil, or_false] at hc
      (subst hc; rw [ct_Lot] at hC; cases hC; exact ⟨cF_Lot.cl, by rw [← s_2]; exact cF_Lot.na _ (by simp)⟩)
    f_runs := fun c hc C hC => by
      simp only [List.mem_cons, List.not_mem_nil, or_false] at hc
      (subst hc; rw [ct_Walk] at hC; cases hC; exact ⟨cF_Walk.cl, by rw [← s_6]; exact cF_Walk.na _ (by simp)⟩)
    f_south := fun c hc C hC => by
      simp only [List.mem_cons, List.not_mem_nil, or_false] at hc
      (subst hc; rw [ct_Lot] at hC; cases hC; exact ⟨cF_Lot.cl, by rw [← s_4]; exact cF_Lot.na _ (by simp)⟩)
    f_west := fun c hc C hC => by
      simp only [List.mem_cons, List.not_mem_nil, or_false] at hc
      (subst hc; rw [ct_Lot] at hC; cases hC; exact ⟨cF_Lot.cl, by rw [← s_3]; exact cF_Lot.na _ (by simp)⟩)
    f_x := fun c hc C hC => by
      simp only [List.mem_cons, List.not_mem_nil, or_false] at hc
      (subst hc; rw [ct_Place] at hC; cases hC; exact ⟨cF_Place.cl, by rw [← s_16]; exact cF_Place.na _ (by simp)⟩)
    f_y := fun c hc C hC => by
      simp only [List.mem_cons, List.not_mem_nil, or_false] at hc
      (subst hc; rw [ct_Place] at hC; cases hC; exact ⟨cF_Place.cl, by rw [← s_17]; exact cF_Place.na _ (by simp)⟩)
    z_abs := PySem.W.mg_none_of X G0 z1_abs
    z_all := PySem.W.mg_none_of X G0 z1_all
    z_bool := PySem.W.mg_none_of X G0 z1_bool
    z_divmod := PySem.W.mg_none_of X G0 z1_divmod
    z_int := PySem.W.mg_none_of X G0 z1_int
    z_isinstance := PySem.W.mg_none_of X G0 z1_isinstance
    z_len := PySem.W.mg_none_of X G0 z1_len
    z_list := PySem.W.mg_none_of X G0 z1_list
    z_max := PySem.W.mg_none_of X G0 z1_max
    z_min := PySem.W.mg_none_of X G0 z1_min
    z_range := PySem.W.mg_none_of X G0 z1_range
    z_sorted := PySem.W.mg_none_of X G0 z1_sorted
    z_str := PySem.W.mg_none_of X G0 z1_str
    z_sum := PySem.W.mg_none_of X G0 z1_sum
    z_tuple := PySem.W.mg_none_of X G0 z1_tuple
    kv_MIRRORED := kv_MIRRORED
    kc_MIRRORED := PySem.W.mg_of X G0 k0_MIRRORED
    kd_MIRRORED := kdOk_of ⟨kda_MIRRORED, kdb_MIRRORED, kdc_MIRRORED⟩
    kv_TURNED := kv_TURNED
    kc_TURNED := PySem.W.mg_of X G0 k0_TURNED
    kd_TURNED := kdOk_of ⟨kda_TURNED, kdb_TURNED, kdc_TURNED⟩
    kv_LETTERS := kv_LETTERS
    kc_LETTERS := PySem.W.mg_of X G0 k0_LETTERS
    kr_LETTERS := repK_ok (G := G) rfl 6 _ _ kx_LETTERS
    kv_MOST_LETTERS := kv_MOST_LETTERS
    kc_MOST_LETTERS := PySem.W.mg_of X G0 k0_MOST_LETTERS
    kr_MOST_LETTERS := repK_ok (G := G) rfl 6 _ _ kx_MOST_LETTERS
    kv_MOST_RUNS := kv_MOST_RUNS
    kc_MOST_RUNS := PySem.W.mg_of X G0 k0_MOST_RUNS
    kr_MOST_RUNS := repK_ok (G := G) rfl 6 _ _ kx_MOST_RUNS
    iso := isOk_of (fun c hc => by
      simp only [List.mem_cons, List.not_mem_nil, or_false] at hc
      rcases hc with hc | hc | hc
      · (subst hc; exact ⟨C_Place, _, ct_Place, cF_Place⟩)
      · (subst hc; exact ⟨C_Walk, _, ct_Walk, cF_Walk⟩)
      · (subst hc; exact ⟨C_Lot, _, ct_Lot, cF_Lot⟩)) fun c hc c2 hc2 C1 C2 h1 h2 => by
      simp only [List.mem_cons, List.not_mem_nil, or_false] at hc hc2
      rcases hc with hc | hc | hc <;> rcases hc2 with hc2 | hc2 | hc2
      · subst hc; subst hc2; rw [ct_Place] at h1; rw [ct_Place] at h2; cases h1; cases h2; exact kit_self
      · subst hc; subst hc2; rw [ct_Place] at h1; rw [ct_Walk] at h2; cases h1; cases h2; exact cc_Place_Walk
      · subst hc; subst hc2; rw [ct_Place] at h1; rw [ct_Lot] at h2; cases h1; cases h2; exact cc_Place_Lot
      · subst hc; subst hc2; rw [ct_Walk] at h1; rw [ct_Place] at h2; cases h1; cases h2; exact cc_Walk_Place
      · subst hc; subst hc2; rw [ct_Walk] at h1; rw [ct_Walk] at h2; cases h1; cases h2; exact kit_self
      · subst hc; subst hc2; rw [ct_Walk] at h1; rw [ct_Lot] at h2; cases h1; cases h2; exact cc_Walk_Lot
      · subst hc; subst hc2; rw [ct_Lot] at h1; rw [ct_Place] at h2; cases h1; cases h2; exact cc_Lot_Place
      · subst hc; subst hc2; rw [ct_Lot] at h1; rw [ct_Walk] at h2; cases h1; cases h2; exact cc_Lot_Walk
      · subst hc; subst hc2; rw [ct_Lot] at h1; rw [ct_Lot] at h2; cases h1; cases h2; exact kit_self
    tabs := rfl }, rfl, rfl⟩
  exact lawAt_of (G := G) (g := g_law) (fd := (PySem.W.fnOf "law" "law" (defArgs st_law) (defBody st_law) (defScope st_law) .none kV_law dc_law pm_law an_law cd_law ct_law)) [] (fun m hm => by simp at hm) (fun m hm => by simp at hm) (List.nodup_nil) (fun s v => .of_eq rfl) (fun base tb => by
    obtain ⟨e, e1, e2⟩ := mkE base tb
    have o := ok_law (w0 := w) e
    rw [e1, e2] at o
    exact o) (fun m hm => by simp at hm) hl
end
end W_k54
set_option maxRecDepth 100000
set_option maxHeartbeats 4000000
namespace ST
/-! ### fewest steps: the plain law -/
abbrev ab (i : Int) : Int := if i < 0 then -i else i
/-- the ground that a walk must have room for -/
def gnd (x y a : Int) : Int := (ab (2 * a - x * y) + ab (x * y)).fdiv 2
/-- the least r with n ≤ r * r -/
def IsRt (n r : Int) : Prop := 0 ≤ r ∧ n ≤ r * r ∧ (0 < r → (r - 1) * (r - 1) < n)
/-- p by q holds the place -/
structure Box (x y a p q : Int) : Prop where
  px : ab x ≤ p
  qy : ab y ≤ q
  room : gnd x y a ≤ p * q
theorem gnd_max (x y a : Int) : (0 ≤ x * y → gnd x y a = if x * y ≤ 2 * a then a else x * y - a) ∧ (x * y < 0 → gnd x y a = if x * y ≤ 2 * a then a - x * y else -a) := by
  unfold gnd ab
  generalize x * y = t
  rw [Int.fdiv_eq_ediv_of_nonneg _ (by decide)]
  constructor <;> intro h <;> (repeat' split) <;> omega
/-- the room, by the two ends of the areas -/
theorem gnd_le (x y a m : Int) : gnd x y a ≤ m ↔ a ≤ m - (if x * y < 0 then -(x * y) else 0) ∧ (if x * y < 0 then 0 else x * y) - m ≤ a := by
  have h := gnd_max x y a
  by_cases c : x * y < 0
  · rw [h.2 c]; simp only [c, if_true]; split <;> omega
  · rw [h.1 (by omega)]; simp only [c, if_false]; split <;> omega
theorem gnd_nonneg (x y a : Int) : 0 ≤ gnd x y a := by
  unfold gnd ab
  rw [Int.fdiv_eq_ediv_of_nonneg _ (by decide)]
  split <;> split <;> omega
theorem ab_nonneg (x : Int) : 0 ≤ ab x := by unfold ab; split <;> omega
theorem ab_neg (x : Int) : ab (-x) = ab x := by unfold ab; split <;> split <;> omega
/-! mirrors -/
theorem gnd_mx (x y a : Int) : gnd (-x) y (-a) = gnd x y a := by
  unfold gnd
  rw [show 2 * -a - -x * y = -(2 * a - x * y) by grind, show -x * y = -(x * y) by grind, ab_neg, ab_neg]
theorem gnd_my (x y a : Int) : gnd x (-y) (-a) = gnd x y a := by
  unfold gnd
  rw [show 2 * -a - x * -y = -(2 * a - x * y) by grind, show x * -y = -(x * y) by grind, ab_neg, ab_neg]
theorem gnd_t (x y a : Int) : gnd y x (x * y - a) = gnd x y a := by
  unfold gnd
  rw [show 2 * (x * y - a) - y * x = -(2 * a - x * y) by grind, show y * x = x * y by grind, ab_neg]
theorem Box.mx {x y a p q : Int} (b : Box x y a p q) : Box (-x) y (-a) p q := ⟨by rw [ab_neg]; exact b.px, b.qy, by rw [gnd_mx]; exact b.room⟩
theorem Box.my {x y a p q : Int} (b : Box x y a p q) : Box x (-y) (-a) p q := ⟨b.px, by rw [ab_neg]; exact b.qy, by rw [gnd_my]; exact b.room⟩
theorem Box.t {x y a p q : Int} (b : Box x y a p q) : Box y x (x * y - a) q p := ⟨b.qy, b.px, by rw [gnd_t, Int.mul_comm]; exact b.room⟩
/-- a step is taken -/
inductive Stp : Int → Int → Int → Int → Int → Int → Prop
  | e (x y a : Int) : Stp x y a (x + 1) y a
  | w (x y a : Int) : Stp x y a (x - 1) y a
  | n (x y a : Int) : Stp x y a x (y + 1) (a + x)
  | s (x y a : Int) : Stp x y a x (y - 1) (a - x)
theorem Stp.mx {x y a x' y' a' : Int} (h : Stp x y a x' y' a') : Stp (-x) y (-a) (-x') y' (-a') := by
  cases h with
  | e => rw [show -(x + 1) = -x - 1 by omega]; exact .w ..
  | w => rw [show -(x - 1) = -x + 1 by omega]; exact .e ..
  | n => rw [show -(a + x) = -a + -x by omega]; exact .n ..
  | s => rw [show -(a - x) = -a - -x by omega]; exact .s ..
theorem Stp.my {x y a x' y' a' : Int} (h : Stp x y a x' y' a') : Stp x (-y) (-a) x' (-y') (-a') := by
  cases h with
  | e => exact .e ..
  | w => exact .w ..
  | n => rw [show -(y + 1) = -y - 1 by omega, show -(a + x) = -a - x by omega]; exact .s ..
  | s => rw [show -(y - 1) = -y + 1 by omega, show -(a - x) = -a + x by omega]; exact .n ..
theorem Stp.t {x y a x' y' a' : Int} (h : Stp x y a x' y' a') : Stp y x (x * y - a) y' x' (x' * y' - a') := by
  cases h with
  | e => rw [show (x + 1) * y - a = x * y - a + y by grind]; exact .n ..
  | w => rw [show (x - 1) * y - a = x * y - a - y by grind]; exact .s ..
  | n => rw [show x * (y + 1) - (a + x) = x * y - a by grind]; exact .e ..
  | s => rw [show x * (y - 1) - (a - x) = x * y - a by grind]; exact .w ..
theorem Stp.back {x y a x' y' a' : Int} (h : Stp x y a x' y' a') : Stp x' y' a' x y a := by
  cases h with
  | e => have := Stp.w (x + 1) y a; rwa [show x + 1 - 1 = x by omega] at this
  | w => have := Stp.e (x - 1) y a; rwa [show x - 1 + 1 = x by omega] at this
  | n => have := Stp.s x (y + 1) (a + x); rwa [show y + 1 - 1 = y by omega, show a + x - x = a by omega] at this
  | s => have := Stp.n x (y - 1) (a - x); rwa [show y - 1 + 1 = y by omega, show a - x + x = a by omega] at this
def cost (x y p q : Int) : Int := 2 * (p + q) - ab x - ab y
theorem pr_pos {u v : Int} (hu : 0 ≤ u) (hv : 0 ≤ v) : 0 ≤ u * v := Int.mul_nonneg hu hv
/-- a step further costs one more at most: east -/
theorem up_e {x y a p q : Int} (b : Box x y a p q) : ∃ p' q', Box (x + 1) y a p' q' ∧ cost (x + 1) y p' q' ≤ cost x y p q + 1 := by
  obtain ⟨h1, h2, h3⟩ := b
  rw [gnd_le] at h3
  by_cases hx : 0 ≤ x
  · refine ⟨p + 1, q, ⟨by unfold ab at *; split <;> split at h1 <;> omega, h2, ?_⟩, by unfold cost ab; split <;> split <;> split <;> omega⟩
    rw [gnd_le, show (x + 1) * y = x * y + y by grind, show (p + 1) * q = p * q + q by grind]
    have hq := ab_nonneg y
    by_cases hy : 0 ≤ y
    · have := pr_pos hx hy
      have hy' : y ≤ q := by unfold ab at h2; split at h2 <;> omega
      simp only [show ¬ x * y < 0 by omega, show ¬ x * y + y < 0 by omega, if_false] at h3 ⊢
      omega
    · have hy' : -y ≤ q := by unfold ab at h2; split at h2 <;> omega
      have h5 : x * y ≤ 0 := by have := pr_pos hx (show 0 ≤ -y by omega); rw [Int.mul_neg] at this; omega
      by_cases c : x * y < 0
      · simp only [c, show x * y + y < 0 by omega, if_true] at h3 ⊢; omega
      · simp only [c, show x * y + y < 0 by omega, if_true, if_false] at h3 ⊢; omega
  · refine ⟨p, q, ⟨by unfold ab at *; split <;> split at h1 <;> omega, h2, ?_⟩, by unfold cost ab; split <;> split <;> split <;> omega⟩
    rw [gnd_le, show (x + 1) * y = x * y + y by grind]
    by_cases hy : 0 ≤ y
    · have h5 : x * y ≤ -y := by have := pr_pos (show 0 ≤ -x - 1 by omega) hy; rw [show (-x - 1) * y = -(x * y) - y by grind] at this; omega
      by_cases c : x * y < 0 <;> by_cases c' : x * y + y < 0 <;> simp only [c, c', if_true, if_false] at h3 ⊢ <;> omega
    · have h5 : 0 ≤ x * y + y := by have := pr_pos (show 0 ≤ -x - 1 by omega) (show 0 ≤ -y by omega); rw [show (-x - 1) * -y = x * y + y by grind] at this; omega
      by_cases c : x * y < 0 <;> by_cases c' : x * y + y < 0 <;> simp only [c, c', if_true, if_false] at h3 ⊢ <;> omega
theorem cost_mx (x y p q : Int) : cost (-x) y p q = cost x y p q := by unfold cost; rw [ab_neg]
theorem cost_my (x y p q : Int) : cost x (-y) p q = cost x y p q := by unfold cost; rw [ab_neg]
theorem cost_t (x y p q : Int) : cost y x q p = cost x y p q := by unfold cost; omega
theorem up_w {x y a p q : Int} (b : Box x y a p q) : ∃ p' q', Box (x - 1) y a p' q' ∧ cost (x - 1) y p' q' ≤ cost x y p q + 1 := by
  obtain ⟨p', q', b', c⟩ := up_e b.mx
  have := b'.mx
  rw [show -(-x + 1) = x - 1 by omega, show - -a = a by omega] at this
  refine ⟨p', q', this, ?_⟩
  rw [cost_mx] at c
  rw [← cost_mx, show -(x - 1) = -x + 1 by omega]
  exact c
theorem up {x y a x' y' a' p q : Int} (h : Stp x y a x' y' a') (b : Box x y a p q) : ∃ p' q', Box x' y' a' p' q' ∧ cost x' y' p' q' ≤ cost x y p q + 1 := by
  cases h with
  | e => exact up_e b
  | w => exact up_w b
  | n =>
    obtain ⟨p', q', b', c⟩ := up_e b.t
    have := b'.t
    rw [show (y + 1) * x - (x * y - a) = a + x by grind] at this
    exact ⟨q', p', this, by rw [cost_t, ← cost_t x y p q]; exact c⟩
  | s =>
    obtain ⟨p', q', b', c⟩ := up_w b.t
    have := b'.t
    rw [show (y - 1) * x - (x * y - a) = a - x by grind] at this
    exact ⟨q', p', this, by rw [cost_t, ← cost_t x y p q]; exact c⟩
/-- one less at some neighbour: over the first quarter, from half the oblong on -/
theorem down0 {x y a p q : Int} (b : Box x y a p q) (hx : 0 ≤ x) (hy : 0 ≤ y) (h2 : x * y ≤ 2 * a) (h0 : ¬ (x = 0 ∧ y = 0 ∧ a = 0)) :
    ∃ x' y' a' p' q', Stp x y a x' y' a' ∧ Box x' y' a' p' q' ∧ cost x' y' p' q' = cost x y p q - 1 := by
  obtain ⟨b1, b2, b3⟩ := b
  have t0 := pr_pos hx hy
  rw [gnd_le] at b3
  simp only [show ¬ x * y < 0 by omega, if_false] at b3
  have e1 : ab x = x := by unfold ab; split <;> omega
  have e2 : ab y = y := by unfold ab; split <;> omega
  rw [e1] at b1
  rw [e2] at b2
  by_cases hp : x < p
  · refine ⟨_, _, _, p, q, .e x y a, ⟨by unfold ab; split <;> omega, by rw [e2]; exact b2, ?_⟩, by unfold cost; rw [e1, e2]; unfold ab; split <;> omega⟩
    rw [gnd_le, show (x + 1) * y = x * y + y by grind]
    simp only [show ¬ x * y + y < 0 by omega, if_false]
    have h5 := pr_pos (show 0 ≤ p - x - 1 by omega) (show 0 ≤ q by omega)
    have h6 := pr_pos (show 0 ≤ x + 1 by omega) (show 0 ≤ q - y by omega)
    rw [show (p - x - 1) * q = p * q - x * q - q by grind] at h5
    rw [show (x + 1) * (q - y) = x * q - x * y + q - y by grind] at h6
    omega
  · have hpx : p = x := by omega
    subst hpx
    by_cases hq : y < q
    · have h5 := pr_pos hx (show 0 ≤ q - y - 1 by omega)
      rw [show p * (q - y - 1) = p * q - p * y - p by grind] at h5
      by_cases y1 : 1 ≤ y
      · refine ⟨_, _, _, p, q - 1, .s p y a, ⟨by rw [e1]; exact Int.le_refl _, by unfold ab; split <;> omega, ?_⟩, by unfold cost; rw [e1, e2]; unfold ab; split <;> omega⟩
        have h6 := pr_pos hx (show 0 ≤ y - 1 by omega)
        rw [gnd_le, show p * (y - 1) = p * y - p by grind, show p * (q - 1) = p * q - p by grind]
        rw [show p * (y - 1) = p * y - p by grind] at h6
        simp only [show ¬ p * y - p < 0 by omega, if_false]
        omega
      · have y0 : y = 0 := by omega
        subst y0
        refine ⟨_, _, _, p, q, .s p 0 a, ⟨by rw [e1]; exact Int.le_refl _, by unfold ab; split <;> omega, ?_⟩, by unfold cost; rw [e1, e2]; unfold ab; split <;> omega⟩
        rw [gnd_le, show p * (0 - 1) = -p by grind]
        rw [Int.mul_zero] at h5 h2 b3
        by_cases c : -p < 0 <;> simp only [c, if_true, if_false] <;> omega
    · have hqy : q = y := by omega
      subst hqy
      by_cases ha : 1 ≤ q ∧ p ≤ a
      · refine ⟨_, _, _, p, q - 1, .s p q a, ⟨by rw [e1]; exact Int.le_refl _, by unfold ab; split <;> omega, ?_⟩, by unfold cost; rw [e1, e2]; unfold ab; split <;> omega⟩
        have h6 := pr_pos hx (show 0 ≤ q - 1 by omega)
        rw [gnd_le, show p * (q - 1) = p * q - p by grind]
        rw [show p * (q - 1) = p * q - p by grind] at h6
        simp only [show ¬ p * q - p < 0 by omega, if_false]
        omega
      · have x1 : 1 ≤ p := by
          by_cases z : 1 ≤ p
          · exact z
          · have p0 : p = 0 := by omega
            subst p0
            rw [Int.zero_mul] at b3
            omega
        refine ⟨_, _, _, p - 1, q, .w p q a, ⟨by unfold ab; split <;> omega, by rw [e2]; exact Int.le_refl _, ?_⟩, by unfold cost; rw [e1, e2]; unfold ab; split <;> omega⟩
        have h6 := pr_pos (show 0 ≤ p - 1 by omega) hy
        rw [gnd_le, show (p - 1) * q = p * q - q by grind]
        rw [show (p - 1) * q = p * q - q by grind] at h6
        simp only [show ¬ p * q - q < 0 by omega, if_false]
        by_cases q1 : 1 ≤ q
        · have h7 := pr_pos (show 0 ≤ p - 1 by omega) (show 0 ≤ q - 1 by omega)
          rw [show (p - 1) * (q - 1) = p * q - p - q + 1 by grind] at h7
          omega
        · have q0 : q = 0 := by omega
          subst q0
          rw [Int.mul_zero] at b3 h2 ⊢
          omega
theorem down1 {x y a p q : Int} (b : Box x y a p q) (hx : 0 ≤ x) (hy : 0 ≤ y) (h0 : ¬ (x = 0 ∧ y = 0 ∧ a = 0)) :
    ∃ x' y' a' p' q', Stp x y a x' y' a' ∧ Box x' y' a' p' q' ∧ cost x' y' p' q' = cost x y p q - 1 := by
  by_cases h : x * y ≤ 2 * a
  · exact down0 b hx hy h h0
  · obtain ⟨x', y', a', p', q', s, b', c⟩ := down0 b.t hy hx (by rw [Int.mul_comm]; omega) (fun z => h0 ⟨z.2.1, z.1, by rw [z.1, Int.mul_zero] at z; omega⟩)
    have s' := s.t
    rw [show y * x - (x * y - a) = a by grind] at s'
    exact ⟨y', x', _, q', p', s', b'.t, by rw [cost_t, c, cost_t]⟩
theorem down {x y a p q : Int} (b : Box x y a p q) (h0 : ¬ (x = 0 ∧ y = 0 ∧ a = 0)) :
    ∃ x' y' a' p' q', Stp x y a x' y' a' ∧ Box x' y' a' p' q' ∧ cost x' y' p' q' = cost x y p q - 1 := by
  have half : ∀ {x y a p q : Int}, Box x y a p q → 0 ≤ y → ¬ (x = 0 ∧ y = 0 ∧ a = 0) → ∃ x' y' a' p' q', Stp x y a x' y' a' ∧ Box x' y' a' p' q' ∧ cost x' y' p' q' = cost x y p q - 1 := fun {x y a p q} b hy h0 => by
    by_cases hx : 0 ≤ x
    · exact down1 b hx hy h0
    · obtain ⟨x', y', a', p', q', s, b', c⟩ := down1 b.mx (by omega) hy (by omega)
      have s' := s.mx
      rw [show - -x = x by omega, show - -a = a by omega] at s'
      exact ⟨_, _, _, p', q', s', b'.mx, by rw [cost_mx, c, cost_mx]⟩
  by_cases hy : 0 ≤ y
  · exact half b hy h0
  · obtain ⟨x', y', a', p', q', s, b', c⟩ := half b.my (by omega) (by omega)
    have s' := s.my
    rw [show - -y = y by omega, show - -a = a by omega] at s'
    exact ⟨_, _, _, p', q', s', b'.my, by rw [cost_my, c, cost_my]⟩
/-! the formula -/
/-- c by ceiling: the least c with Z ≤ X * c -/
def ceilD (z m : Int) : Int := -((-z).fdiv m)
theorem ceilD_le {z m : Int} (hm : 0 < m) : z ≤ m * ceilD z m ∧ m * (ceilD z m - 1) < z := by
  unfold ceilD
  have h1 : m * (-z).fdiv m + (-z).fmod m = -z := Int.mul_fdiv_add_fmod (-z) m
  have h2 : 0 ≤ (-z).fmod m := Int.fmod_nonneg_of_pos _ hm
  have h3 : (-z).fmod m < m := Int.fmod_lt_of_pos _ hm
  rw [show m * (-(-z).fdiv m - 1) = -(m * (-z).fdiv m) - m by grind, Int.mul_neg]
  omega
def mor (x y : Int) : Int := if ab y ≤ ab x then ab x else ab y
def les (x y : Int) : Int := if ab y ≤ ab x then ab y else ab x
/-- what the formula tells, r being the least root of 4 * ground -/
def stpF (x y a r : Int) : Int :=
  if gnd x y a ≤ mor x y * les x y then mor x y + les x y
  else if gnd x y a ≤ mor x y * mor x y then 2 * ceilD (gnd x y a) (mor x y) + mor x y - les x y
  else 2 * r - mor x y - les x y
theorem mor_les (x y : Int) : mor x y + les x y = ab x + ab y ∧ les x y ≤ mor x y ∧ 0 ≤ les x y := by
  have h1 := ab_nonneg x
  have h2 := ab_nonneg y
  unfold mor les
  split <;> omega
theorem sq_le {u v : Int} (hu : 0 ≤ u) (hv : 0 ≤ v) (h : u * u ≤ v * v) : u ≤ v := by
  by_cases c : u ≤ v
  · exact c
  · have h1 := pr_pos (show 0 ≤ u - v - 1 by omega) (show 0 ≤ u + v by omega)
    rw [show (u - v - 1) * (u + v) = u * u - v * v - u - v by grind] at h1
    omega
theorem sq_lt {u v : Int} (hu : 0 ≤ u) (hv : 0 ≤ v) (h : u * u < v * v) : u < v := by
  by_cases c : u < v
  · exact c
  · have h1 := pr_pos (show 0 ≤ u - v by omega) (show 0 ≤ u + v by omega)
    rw [show (u - v) * (u + v) = u * u - v * v by grind] at h1
    omega
/-- no box is cheaper -/
theorem low_box {X Y Z p q r : Int} (hY : 0 ≤ Y) (hXY : Y ≤ X) (hp : X ≤ p) (hq : Y ≤ q) (hz : Z ≤ p * q) (hr : IsRt (4 * Z) r) :
    (if Z ≤ X * Y then X + Y else if Z ≤ X * X then 2 * ceilD Z X + X - Y else 2 * r - X - Y) ≤ 2 * (p + q) - X - Y := by
  split
  · omega
  · rename_i h1
    split
    · rename_i h2
      have hX : 0 < X := by
        by_cases c : 0 < X
        · exact c
        · have x0 : X = 0 := by omega
          subst x0
          rw [Int.zero_mul] at h1 h2
          omega
      obtain ⟨c1, c2⟩ := ceilD_le (z := Z) hX
      generalize ceilD Z X = c at *
      have hc : c ≤ X := by
        have : X * (c - 1) < X * X := Int.lt_of_lt_of_le c2 h2
        have := Int.lt_of_mul_lt_mul_left this (Int.le_of_lt hX)
        omega
      by_cases g : c + X ≤ p + q
      · omega
      · have h5 := pr_pos (show 0 ≤ p - X by omega) (show 0 ≤ X - c + 1 by omega)
        have h6 := pr_pos (show 0 ≤ p - X by omega) (show 0 ≤ p - X by omega)
        have h7 := pr_pos (show 0 ≤ p by omega) (show 0 ≤ c + X - 1 - p - q by omega)
        rw [show (p - X) * (X - c + 1) = p * X - p * c + p - X * X + X * c - X by grind] at h5
        rw [show (p - X) * (p - X) = p * p - 2 * (p * X) + X * X by grind] at h6
        rw [show p * (c + X - 1 - p - q) = p * c + p * X - p - p * p - p * q by grind] at h7
        rw [show X * (c - 1) = X * c - X by grind] at c2
        omega
    · have : r ≤ p + q := by
        by_cases c : r ≤ p + q
        · exact c
        · have h5 := hr.2.2 (by omega)
          have h6 := pr_pos (show 0 ≤ r - 1 - (p + q) by omega) (show 0 ≤ r - 1 + (p + q) by omega)
          rw [show (r - 1 - (p + q)) * (r - 1 + (p + q)) = (r - 1) * (r - 1) - (p * p + 2 * (p * q) + q * q) by grind] at h6
          have h7 : 0 ≤ (p - q) * (p - q) := by
            by_cases g : 0 ≤ p - q
            · exact pr_pos g g
            · have := pr_pos (show 0 ≤ q - p by omega) (show 0 ≤ q - p by omega)
              rw [show (q - p) * (q - p) = (p - q) * (p - q) by grind] at this
              exact this
          rw [show (p - q) * (p - q) = p * p - 2 * (p * q) + q * q by grind] at h7
          omega
      omega
/-- some box is as cheap -/
theorem has_box {X Y Z r : Int} (hY : 0 ≤ Y) (hXY : Y ≤ X) (hr : IsRt (4 * Z) r) : ∃ p q, X ≤ p ∧ Y ≤ q ∧ Z ≤ p * q ∧
    (if Z ≤ X * Y then X + Y else if Z ≤ X * X then 2 * ceilD Z X + X - Y else 2 * r - X - Y) = 2 * (p + q) - X - Y := by
  split
  · rename_i h1
    exact ⟨X, Y, Int.le_refl _, Int.le_refl _, h1, by omega⟩
  · rename_i h1
    split
    · rename_i h2
      have hX : 0 < X := by
        by_cases c : 0 < X
        · exact c
        · have x0 : X = 0 := by omega
          subst x0
          rw [Int.zero_mul] at h1 h2
          omega
      obtain ⟨c1, c2⟩ := ceilD_le (z := Z) hX
      generalize ceilD Z X = c at *
      have : Y < c := by
        have : X * Y < X * c := by omega
        exact Int.lt_of_mul_lt_mul_left this (Int.le_of_lt hX)
      exact ⟨X, c, Int.le_refl _, by omega, c1, by omega⟩
    · rename_i h2
      have h3 : 2 * X < r := sq_lt (by omega) hr.1 (by have := hr.2.1; rw [show 2 * X * (2 * X) = 4 * (X * X) by grind]; omega)
      have h4 := hr.2.1
      have ⟨k, hk⟩ : ∃ k, r = 2 * k ∨ r = 2 * k + 1 := ⟨r / 2, by omega⟩
      rcases hk with rfl | rfl
      · refine ⟨k, k, by omega, by omega, ?_, by omega⟩
        rw [show 2 * k * (2 * k) = 4 * (k * k) by grind] at h4
        omega
      · refine ⟨k + 1, k, by omega, by omega, ?_, by omega⟩
        rw [show (2 * k + 1) * (2 * k + 1) = 4 * (k * k) + 4 * k + 1 by grind] at h4
        rw [show (k + 1) * k = k * k + k by grind]
        omega
theorem stp_low {x y a p q r : Int} (b : Box x y a p q) (hr : IsRt (4 * gnd x y a) r) : stpF x y a r ≤ cost x y p q := by
  obtain ⟨h1, h2, h3⟩ := b
  obtain ⟨m1, m2, m3⟩ := mor_les x y
  have key : ∀ p q, mor x y ≤ p → les x y ≤ q → gnd x y a ≤ p * q → stpF x y a r ≤ 2 * (p + q) - mor x y - les x y := fun p q hp hq hz => low_box m3 m2 hp hq hz hr
  unfold cost
  unfold mor les at key m1
  split at key
  · rename_i c
    have := key p q h1 h2 h3
    omega
  · have := key q p h2 h1 (by rw [Int.mul_comm]; exact h3)
    omega
theorem stp_has {x y a r : Int} (hr : IsRt (4 * gnd x y a) r) : ∃ p q, Box x y a p q ∧ stpF x y a r = cost x y p q := by
  obtain ⟨m1, m2, m3⟩ := mor_les x y
  obtain ⟨p, q, hp, hq, hz, e⟩ := has_box (Z := gnd x y a) m3 m2 hr
  have e : stpF x y a r = 2 * (p + q) - mor x y - les x y := e
  unfold mor at hp
  unfold les at hq
  unfold cost
  split at hp <;> rename_i c <;> simp only [c, if_true, if_false] at hq
  · exact ⟨p, q, ⟨hp, hq, hz⟩, by omega⟩
  · exact ⟨q, p, ⟨hq, hp, by rw [Int.mul_comm]; exact hz⟩, by omega⟩
/-- the least root of a whole number -/
theorem rt_ex (n : Int) (h : 0 ≤ n) : ∃ r, IsRt n r := by
  have : ∀ k : Nat, (∃ r, 0 ≤ r ∧ r ≤ k ∧ IsRt n r) ∨ (k : Int) * k < n := fun k => by
    induction k with
    | zero =>
      by_cases c : n = 0
      · exact .inl ⟨0, by omega, by omega, by omega, by omega, by omega⟩
      · exact .inr (by simp; omega)
    | succ k ih =>
      rcases ih with ⟨r, h1, h2, h3⟩ | h
      · exact .inl ⟨r, h1, by omega, h3⟩
      · by_cases c : ((k + 1 : Nat) : Int) * (k + 1 : Nat) < n
        · exact .inr c
        · exact .inl ⟨(k + 1 : Nat), by omega, by omega, by omega, by omega, fun _ => by
            rw [show ((k + 1 : Nat) : Int) - 1 = k by omega]
            exact h⟩
  rcases this (n.toNat + 1) with ⟨r, _, _, h⟩ | h
  · exact ⟨r, h⟩
  · exfalso
    have e : ((n.toNat + 1 : Nat) : Int) = n + 1 := by omega
    rw [e, show (n + 1) * (n + 1) = n * n + 2 * n + 1 by grind] at h
    have := pr_pos (show (0:Int) ≤ n from by assumption) (show (0:Int) ≤ n from by assumption)
    omega
theorem rt_uniq {n r r' : Int} (h : IsRt n r) (h' : IsRt n r') : r = r' := by
  have key : ∀ {r r' : Int}, IsRt n r → IsRt n r' → r ≤ r' := fun {r r'} h h' => by
    by_cases c : r ≤ r'
    · exact c
    · have h1 := h.2.2 (by have := h'.1; omega)
      have h2 := h'.2.1
      have := sq_lt (by have := h'.1; omega) h'.1 (Int.lt_of_lt_of_le h1 h2)
      omega
  have h1 := key h h'
  have h2 := key h' h
  omega
open Classical in
noncomputable def rt (n : Int) : Int := if h : 0 ≤ n then Classical.choose (rt_ex n h) else 0
theorem rt_is {n : Int} (h : 0 ≤ n) : IsRt n (rt n) := by
  unfold rt
  rw [dif_pos h]
  exact Classical.choose_spec (rt_ex n h)
theorem rt_eq {n r : Int} (h : IsRt n r) : rt n = r := by
  by_cases c : 0 ≤ n
  · exact rt_uniq (rt_is c) h
  · unfold rt
    rw [dif_neg c]
    by_cases g : 0 < r
    · have := h.2.2 g
      have := pr_pos (show 0 ≤ r - 1 by omega) (show 0 ≤ r - 1 by omega)
      omega
    · have := h.1
      omega
/-- the steps of a place -/
noncomputable def stp (x y a : Int) : Int := stpF x y a (rt (4 * gnd x y a))
theorem g4 (x y a : Int) : 0 ≤ 4 * gnd x y a := by have := gnd_nonneg x y a; omega
theorem stp_le {x y a p q : Int} (b : Box x y a p q) : stp x y a ≤ cost x y p q := stp_low b (rt_is (g4 x y a))
theorem stp_box (x y a : Int) : ∃ p q, Box x y a p q ∧ stp x y a = cost x y p q := stp_has (rt_is (g4 x y a))
theorem stp_up {x y a x' y' a' : Int} (h : Stp x y a x' y' a') : stp x' y' a' ≤ stp x y a + 1 := by
  obtain ⟨p, q, b, e⟩ := stp_box x y a
  obtain ⟨p', q', b', c⟩ := up h b
  have := stp_le b'
  omega
theorem stp_par (x y a : Int) : (stp x y a - x - y) % 2 = 0 := by
  obtain ⟨p, q, b, e⟩ := stp_box x y a
  rw [e]
  unfold cost ab
  split <;> split <;> omega
theorem stp_adj {x y a x' y' a' : Int} (h : Stp x y a x' y' a') : stp x' y' a' = stp x y a + 1 ∨ stp x' y' a' = stp x y a - 1 := by
  have h1 := stp_up h
  have h2 := stp_up h.back
  have h3 := stp_par x y a
  have h4 := stp_par x' y' a'
  have h5 : (x' + y' - x - y) % 2 = 1 := by cases h <;> omega
  omega
theorem stp_dec {x y a : Int} (h0 : ¬ (x = 0 ∧ y = 0 ∧ a = 0)) : ∃ x' y' a', Stp x y a x' y' a' ∧ stp x' y' a' = stp x y a - 1 := by
  obtain ⟨p, q, b, e⟩ := stp_box x y a
  obtain ⟨x', y', a', p', q', s, b', c⟩ := down b h0
  refine ⟨x', y', a', s, ?_⟩
  have h1 := stp_le b'
  have h2 := stp_adj s
  omega
theorem stp_nonneg (x y a : Int) : 0 ≤ stp x y a := by
  obtain ⟨p, q, b, e⟩ := stp_box x y a
  rw [e]
  have := b.px
  have := b.qy
  have := ab_nonneg x
  have := ab_nonneg y
  unfold cost
  omega
theorem stp_zero : stp 0 0 0 = 0 := by
  have h := stp_le (x := 0) (y := 0) (a := 0) (p := 0) (q := 0) ⟨by decide, by decide, by decide⟩
  have h2 := stp_nonneg 0 0 0
  have : cost 0 0 0 0 = 0 := by decide
  omega
theorem stp_pos {x y a : Int} (h0 : ¬ (x = 0 ∧ y = 0 ∧ a = 0)) : 0 < stp x y a := by
  obtain ⟨x', y', a', s, e⟩ := stp_dec h0
  have := stp_nonneg x' y' a'
  omega
theorem stp_sym {x y a x' y' a' : Int} (h : ∀ p q, Box x y a p q → ∃ p' q', Box x' y' a' p' q' ∧ cost x' y' p' q' = cost x y p q) : stp x' y' a' ≤ stp x y a := by
  obtain ⟨p, q, b, e⟩ := stp_box x y a
  obtain ⟨p', q', b', c⟩ := h p q b
  have := stp_le b'
  omega
theorem stp_mx (x y a : Int) : stp (-x) y (-a) = stp x y a := by
  have key : ∀ x y a : Int, stp (-x) y (-a) ≤ stp x y a := fun x y a => stp_sym fun p q b => ⟨p, q, b.mx, cost_mx ..⟩
  have h1 := key x y a
  have h2 := key (-x) y (-a)
  rw [show - -x = x by omega, show - -a = a by omega] at h2
  omega
theorem stp_my (x y a : Int) : stp x (-y) (-a) = stp x y a := by
  have key : ∀ x y a : Int, stp x (-y) (-a) ≤ stp x y a := fun x y a => stp_sym fun p q b => ⟨p, q, b.my, cost_my ..⟩
  have h1 := key x y a
  have h2 := key x (-y) (-a)
  rw [show - -y = y by omega, show - -a = a by omega] at h2
  omega
theorem stp_t (x y a : Int) : stp y x (x * y - a) = stp x y a := by
  have key : ∀ x y a : Int, stp y x (x * y - a) ≤ stp x y a := fun x y a => stp_sym fun p q b => ⟨q, p, b.t, cost_t ..⟩
  have h1 := key x y a
  have h2 := key y x (x * y - a)
  rw [show y * x - (x * y - a) = a by grind] at h2
  omega
/-- a place, walked on by a step, ahead of it another one -/
theorem Stp.ahead {x y a x' y' a' : Int} (h : Stp x y a x' y' a') (u v b : Int) : Stp (u + x) (v + y) (b + a + u * y) (u + x') (v + y') (b + a' + u * y') := by
  cases h with
  | e => rw [show u + (x + 1) = u + x + 1 by omega]; exact .e ..
  | w => rw [show u + (x - 1) = u + x - 1 by omega]; exact .w ..
  | n => rw [show v + (y + 1) = v + y + 1 by omega, show b + (a + x) + u * (y + 1) = b + a + u * y + (u + x) by grind]; exact .n ..
  | s => rw [show v + (y - 1) = v + y - 1 by omega, show b + (a - x) + u * (y - 1) = b + a + u * y - (u + x) by grind]; exact .s ..
theorem stp_tri (u v b : Int) : ∀ (n : Nat) (x y a : Int), stp x y a = n → stp (u + x) (v + y) (b + a + u * y) ≤ stp u v b + n
  | 0, x, y, a, h => by
    by_cases h0 : x = 0 ∧ y = 0 ∧ a = 0
    · obtain ⟨rfl, rfl, rfl⟩ := h0
      rw [show u + 0 = u by omega, show v + 0 = v by omega, show b + 0 + u * 0 = b by grind]
      simp
    · have := stp_pos h0
      simp at h
      omega
  | n + 1, x, y, a, h => by
    by_cases h0 : x = 0 ∧ y = 0 ∧ a = 0
    · obtain ⟨rfl, rfl, rfl⟩ := h0
      rw [stp_zero] at h
      omega
    · obtain ⟨x', y', a', s, e⟩ := stp_dec h0
      have h1 := stp_tri u v b n x' y' a' (by omega)
      have h2 := stp_up (s.ahead u v b).back
      omega
theorem tri (u v b x y a : Int) : stp (u + x) (v + y) (b + a + u * y) ≤ stp u v b + stp x y a := by
  have h := stp_nonneg x y a
  obtain ⟨n, hn⟩ := Int.eq_ofNat_of_zero_le h
  have := stp_tri u v b n x y a hn
  omega
/-! closed values -/
theorem stp_eq {x y a v p q : Int} (b : Box x y a p q) (hc : cost x y p q = v) (hl : ∀ p q, Box x y a p q → v ≤ cost x y p q) : stp x y a = v := by
  have h1 := stp_le b
  obtain ⟨p', q', b', e⟩ := stp_box x y a
  have h2 := hl p' q' b'
  omega
theorem ab_of {x : Int} (h : 0 ≤ x) : ab x = x := by unfold ab; split <;> omega
theorem gnd0 {x a : Int} : gnd x 0 a = ab a := by
  unfold gnd ab
  rw [Int.mul_zero, Int.fdiv_eq_ediv_of_nonneg _ (by decide)]
  split <;> split <;> omega
theorem gnd00 {a : Int} : gnd 0 0 a = ab a := gnd0
theorem sq4 (p q : Int) : 4 * (p * q) ≤ (p + q) * (p + q) := by
  have h : 0 ≤ (p - q) * (p - q) := by
    by_cases g : 0 ≤ p - q
    · exact pr_pos g g
    · have := pr_pos (show 0 ≤ q - p by omega) (show 0 ≤ q - p by omega)
      rw [show (q - p) * (q - p) = (p - q) * (p - q) by grind] at this
      exact this
  rw [show (p - q) * (p - q) = (p + q) * (p + q) - 4 * (p * q) by grind] at h
  omega
theorem closed_sq {s m : Int} (hs : 1 ≤ s) (hm : m = 0 ∨ m = 1) : stp 0 0 (s * (s + m)) = 4 * s + 2 * m ∧ stp 0 0 (s * (s + m) + 1) = 4 * s + 2 * m + 2 := by
  have hA := pr_pos (show 0 ≤ s by omega) (show 0 ≤ s + m by omega)
  have c0 : ∀ p q : Int, cost 0 0 p q = 2 * (p + q) := fun p q => by unfold cost ab; simp
  have low : ∀ (p q t : Int), 0 ≤ p → 0 ≤ q → 0 ≤ t → t * t < 4 * (p * q) → t < p + q := fun p q t hp hq ht h => sq_lt ht (by omega) (by have := sq4 p q; omega)
  constructor
  · refine stp_eq (p := s) (q := s + m) ⟨by rw [ab_of (by omega)]; omega, by rw [ab_of (by omega)]; omega, by rw [gnd00, ab_of hA]; exact Int.le_refl _⟩ (by rw [c0]; omega) fun p q b => ?_
    have h1 := b.px
    have h2 := b.qy
    have h3 := b.room
    rw [gnd00, ab_of hA] at h3
    rw [ab_of (by omega)] at h1 h2
    rw [c0]
    have := low p q (2 * s + m - 1) h1 h2 (by omega) (by
      rcases hm with rfl | rfl
      · rw [show (2 * s + 0 - 1) * (2 * s + 0 - 1) = 4 * (s * s) - 4 * s + 1 by grind]
        rw [show s * (s + 0) = s * s by grind] at h3
        omega
      · rw [show (2 * s + 1 - 1) * (2 * s + 1 - 1) = 4 * (s * s) by grind]
        rw [show s * (s + 1) = s * s + s by grind] at h3
        omega)
    omega
  · refine stp_eq (p := s + 1) (q := s + m) ⟨by rw [ab_of (by omega)]; omega, by rw [ab_of (by omega)]; omega, ?_⟩ (by rw [c0]; omega) fun p q b => ?_
    · rw [gnd00, ab_of (by omega), show (s + 1) * (s + m) = s * (s + m) + s + m by grind]
      omega
    have h1 := b.px
    have h2 := b.qy
    have h3 := b.room
    rw [gnd00, ab_of (by omega)] at h3
    rw [ab_of (by omega)] at h1 h2
    rw [c0]
    have := low p q (2 * s + m) h1 h2 (by omega) (by
      rcases hm with rfl | rfl
      · rw [show (2 * s + 0) * (2 * s + 0) = 4 * (s * s) by grind]
        rw [show s * (s + 0) = s * s by grind] at h3
        omega
      · rw [show (2 * s + 1) * (2 * s + 1) = 4 * (s * s) + 4 * s + 1 by grind]
        rw [show s * (s + 1) = s * s + s by grind] at h3
        omega)
    omega
theorem sum_ge {W H p q : Int} (hH : 0 ≤ H) (hW : H ≤ W) (hp : W ≤ p) (hq : 0 ≤ q) (h : W * H - W < p * q) : W + H ≤ p + q := by
  by_cases c : W + H ≤ p + q
  · exact c
  · have h1 := pr_pos (show 0 ≤ p by omega) (show 0 ≤ W + H - 1 - p - q by omega)
    have h2 := pr_pos (show 0 ≤ p - W by omega) (show 0 ≤ W - H + 1 by omega)
    have h3 := pr_pos (show 0 ≤ p - W by omega) (show 0 ≤ p - W by omega)
    rw [show p * (W + H - 1 - p - q) = p * W + p * H - p - p * p - p * q by grind] at h1
    rw [show (p - W) * (W - H + 1) = p * W - p * H + p - W * W + W * H - W by grind] at h2
    rw [show (p - W) * (p - W) = p * p - 2 * (p * W) + W * W by grind] at h3
    omega
theorem closed_ob {W H : Int} (hH : 1 ≤ H) (hW : H ≤ W) : stp W H (W * H) = W + H ∧ stp W H 0 = W + H ∧ stp W 0 (W * H) = W + 2 * H ∧ stp W H (W * H + 1) = W + H + 2 ∧ stp W 0 (-W * H + 1) = W + 2 * H - 2 * (if W = 1 then 1 else 0) := by
  have hA := pr_pos (show 0 ≤ W by omega) (show 0 ≤ H by omega)
  have aW : ab W = W := ab_of (by omega)
  have aH : ab H = H := ab_of (by omega)
  have a0 : ab 0 = 0 := ab_of (by omega)
  have g := gnd_max W H
  have big : 1 ≤ W * H := by
    have := pr_pos (show 0 ≤ W - 1 by omega) (show 0 ≤ H - 1 by omega)
    rw [show (W - 1) * (H - 1) = W * H - W - H + 1 by grind] at this
    omega
  have c1 : ∀ p q, cost W H p q = 2 * (p + q) - W - H := fun p q => by unfold cost; rw [aW, aH]
  have c2 : ∀ p q, cost W 0 p q = 2 * (p + q) - W := fun p q => by unfold cost; rw [aW, a0]; omega
  refine ⟨?_, ?_, ?_, ?_, ?_⟩
  · refine stp_eq (p := W) (q := H) ⟨by rw [aW]; exact Int.le_refl _, by rw [aH]; exact Int.le_refl _, by rw [(g _).1 hA]; split <;> omega⟩ (by rw [c1]; omega) fun p q b => ?_
    have h1 := b.px
    have h2 := b.qy
    rw [aW] at h1
    rw [aH] at h2
    rw [c1]
    omega
  · refine stp_eq (p := W) (q := H) ⟨by rw [aW]; exact Int.le_refl _, by rw [aH]; exact Int.le_refl _, by rw [(g _).1 hA]; split <;> omega⟩ (by rw [c1]; omega) fun p q b => ?_
    have h1 := b.px
    have h2 := b.qy
    rw [aW] at h1
    rw [aH] at h2
    rw [c1]
    omega
  · refine stp_eq (p := W) (q := H) ⟨by rw [aW]; exact Int.le_refl _, by rw [a0]; omega, by rw [gnd0, ab_of hA]; exact Int.le_refl _⟩ (by rw [c2]; omega) fun p q b => ?_
    have h1 := b.px
    have h2 := b.qy
    have h3 := b.room
    rw [aW] at h1
    rw [a0] at h2
    rw [gnd0, ab_of hA] at h3
    rw [c2]
    have := sum_ge (show 0 ≤ H by omega) hW h1 h2 (by omega)
    omega
  · refine stp_eq (p := W + 1) (q := H) ⟨by rw [aW]; omega, by rw [aH]; exact Int.le_refl _, ?_⟩ (by rw [c1]; omega) fun p q b => ?_
    · rw [(g _).1 hA, show (W + 1) * H = W * H + H by grind]; split <;> omega
    have h1 := b.px
    have h2 := b.qy
    have h3 := b.room
    rw [aW] at h1
    rw [aH] at h2
    rw [(g _).1 hA] at h3
    rw [if_pos (by omega)] at h3
    rw [c1]
    by_cases e : p + q = W + H
    · have e1 : p = W := by omega
      have e2 : q = H := by omega
      subst e1
      subst e2
      omega
    · omega
  · rw [show -W * H + 1 = -(W * H - 1) by grind]
    have gz : gnd W 0 (-(W * H - 1)) = W * H - 1 := by rw [gnd0, ab_neg, ab_of (by omega)]
    by_cases w1 : W = 1
    · subst w1
      have h1 : H = 1 := by omega
      subst h1
      rw [if_pos rfl]
      refine stp_eq (p := 1) (q := 0) ⟨by rw [aW]; exact Int.le_refl _, by rw [a0]; omega, by rw [gz]; decide⟩ (by rw [c2]; decide) fun p q b => ?_
      have h1 := b.px
      have h2 := b.qy
      rw [aW] at h1
      rw [a0] at h2
      rw [c2]
      omega
    · rw [if_neg w1]
      refine stp_eq (p := W) (q := H) ⟨by rw [aW]; exact Int.le_refl _, by rw [a0]; omega, by rw [gz]; omega⟩ (by rw [c2]; omega) fun p q b => ?_
      have h1 := b.px
      have h2 := b.qy
      have h3 := b.room
      rw [aW] at h1
      rw [a0] at h2
      rw [gz] at h3
      rw [c2]
      have := sum_ge (show 0 ≤ H by omega) hW h1 h2 (by omega)
      omega
theorem stp_congr {x y a x' y' a' : Int} (h : gnd x y a = gnd x' y' a') (hx : ab x = ab x') (hy : ab y = ab y') : stp x y a = stp x' y' a' := by
  unfold stp stpF mor les
  rw [h, hx, hy]
theorem stp_back (x y a : Int) : stp (-x) (-y) (x * y - a) = stp x y a := by
  refine stp_congr ?_ (ab_neg x) (ab_neg y)
  unfold gnd
  rw [show 2 * (x * y - a) - -x * -y = -(2 * a - x * y) by grind, show -x * -y = x * y by grind, ab_neg]
end ST
set_option maxRecDepth 100000
set_option maxHeartbeats 4000000
namespace ST
/-! ### walks as runs: the plain law -/
/-- letters: e 101, n 110, w 119, s 115 -/
def isL (c : Nat) : Prop := c = 101 ∨ c = 110 ∨ c = 119 ∨ c = 115
structure Sp where
  x : Int
  y : Int
  a : Int
def gone (p : Sp) (c : Nat) (t : Int) : Sp :=
  if c = 101 then ⟨p.x + t, p.y, p.a⟩ else if c = 119 then ⟨p.x - t, p.y, p.a⟩ else if c = 110 then ⟨p.x, p.y + t, p.a + p.x * t⟩ else ⟨p.x, p.y - t, p.a - p.x * t⟩
abbrev Runs := List (Nat × Int)
def led (p : Sp) : Runs → Sp
  | [] => p
  | (c, t) :: r => led (gone p c t) r
def len : Runs → Int
  | [] => 0
  | (_, t) :: r => t + len r
abbrev home : Sp := ⟨0, 0, 0⟩
/-- all letters are letters, all numbers are 0 or greater -/
def Good (r : Runs) : Prop := ∀ q ∈ r, isL q.1 ∧ 0 ≤ q.2
theorem Good.tail {q : Nat × Int} {r : Runs} (h : Good (q :: r)) : Good r := fun p hp => h p (List.mem_cons_of_mem _ hp)
theorem Good.head {q : Nat × Int} {r : Runs} (h : Good (q :: r)) : isL q.1 ∧ 0 ≤ q.2 := h q (List.mem_cons_self ..)
theorem Good.app {r r' : Runs} (h : Good r) (h' : Good r') : Good (r ++ r') := fun p hp => by
  rcases List.mem_append.mp hp with z | z
  · exact h p z
  · exact h' p z
theorem led_app (p : Sp) (r r' : Runs) : led p (r ++ r') = led (led p r) r' := by
  induction r generalizing p with
  | nil => rfl
  | cons q r ih => exact ih _
theorem len_app (r r' : Runs) : len (r ++ r') = len r + len r' := by
  induction r with
  | nil => simp [len]
  | cons q r ih => simp only [List.cons_append, len, ih]; omega
theorem len_nonneg {r : Runs} (h : Good r) : 0 ≤ len r := by
  induction r with
  | nil => exact Int.le_refl _
  | cons q r ih =>
    have h1 := h.head.2
    have h2 := ih h.tail
    simp only [len]
    omega
theorem gone_zero (p : Sp) (c : Nat) : gone p c 0 = p := by
  unfold gone
  split
  · simp
  · split
    · simp
    · split <;> simp
theorem gone_add (p : Sp) (c : Nat) (t u : Int) : gone (gone p c t) c u = gone p c (t + u) := by
  unfold gone
  split
  · simp; omega
  · split
    · simp; omega
    · split
      · simp only [Sp.mk.injEq, true_and]; exact ⟨by omega, by grind⟩
      · simp only [Sp.mk.injEq, true_and]; exact ⟨by omega, by grind⟩
/-- one step -/
theorem gone_one {p : Sp} {c : Nat} (h : isL c) : Stp p.x p.y p.a (gone p c 1).x (gone p c 1).y (gone p c 1).a := by
  unfold gone
  rcases h with rfl | rfl | rfl | rfl
  · exact .e ..
  · simp only [show ¬ (110 = 101) by decide, show ¬ (110 = 119) by decide, if_false, if_true, Int.mul_one]; exact .n ..
  · simp only [show ¬ (119 = 101) by decide, if_false, if_true]; exact .w ..
  · simp only [show ¬ (115 = 101) by decide, show ¬ (115 = 119) by decide, show ¬ (115 = 110) by decide, if_false, Int.mul_one]; exact .s ..
noncomputable def st (p : Sp) : Int := stp p.x p.y p.a
theorem st_gone1 {p : Sp} {c : Nat} (h : isL c) : st (gone p c 1) = st p + 1 ∨ st (gone p c 1) = st p - 1 := stp_adj (gone_one h)
theorem st_gone {p : Sp} {c : Nat} (h : isL c) : ∀ n : Nat, st (gone p c n) ≤ st p + n ∧ st p ≤ st (gone p c n) + n
  | 0 => by
    rw [show ((0 : Nat) : Int) = 0 from rfl, gone_zero]
    omega
  | n + 1 => by
    have h1 := st_gone (p := p) h n
    have h2 := st_gone1 (p := gone p c n) h
    rw [gone_add] at h2
    rw [show ((n + 1 : Nat) : Int) = (n : Int) + 1 by omega]
    omega
theorem st_goneI {p : Sp} {c : Nat} {t : Int} (h : isL c) (ht : 0 ≤ t) : st (gone p c t) ≤ st p + t ∧ st p ≤ st (gone p c t) + t := by
  obtain ⟨n, rfl⟩ := Int.eq_ofNat_of_zero_le ht
  exact st_gone h n
theorem st_led {p : Sp} {r : Runs} (h : Good r) : st (led p r) ≤ st p + len r := by
  induction r generalizing p with
  | nil => simp [led, len]
  | cons q r ih =>
    have h1 := (st_goneI (p := p) h.head.1 h.head.2).1
    have h2 := ih (p := gone p q.1 q.2) h.tail
    simp only [led, len]
    omega
theorem st_home : st home = 0 := stp_zero
/-- a walk is no shorter than the steps of its place -/
theorem st_le_len {r : Runs} (h : Good r) : st (led home r) ≤ len r := by
  have := st_led (p := home) h
  rw [st_home] at this
  omega
/-! ### runs put together -/
def mgStep (acc : Runs) (q : Nat × Int) : Runs := match acc.getLast? with
  | some l => if l.1 = q.1 then acc.dropLast ++ [(q.1, l.2 + q.2)] else if 0 < q.2 then acc ++ [q] else acc
  | none => if 0 < q.2 then acc ++ [q] else acc
def mg (r : Runs) : Runs := r.foldl mgStep []
/-- unlike letters next to one another, numbers from 1 on -/
def Neat : Runs → Prop
  | [] => True
  | [q] => isL q.1 ∧ 1 ≤ q.2
  | q :: q' :: r => (isL q.1 ∧ 1 ≤ q.2) ∧ q.1 ≠ q'.1 ∧ Neat (q' :: r)
theorem Neat.tail {q : Nat × Int} {r : Runs} (h : Neat (q :: r)) : Neat r := by
  cases r with
  | nil => trivial
  | cons q' r => exact h.2.2
theorem Neat.head {q : Nat × Int} {r : Runs} (h : Neat (q :: r)) : isL q.1 ∧ 1 ≤ q.2 := by
  cases r with
  | nil => exact h
  | cons q' r => exact h.1
theorem Neat.good : ∀ {r : Runs}, Neat r → Good r
  | [], _ => fun q hq => by cases hq
  | q :: r, h => fun p hp => by
    rcases List.mem_cons.mp hp with z | z
    · subst z
      exact ⟨h.head.1, by have := h.head.2; omega⟩
    · exact Neat.good h.tail p z
theorem neat_snoc : ∀ {r : Runs} {q : Nat × Int}, Neat r → isL q.1 → 1 ≤ q.2 → (∀ l, r.getLast? = some l → l.1 ≠ q.1) → Neat (r ++ [q])
  | [], q, _, h1, h2, _ => ⟨h1, h2⟩
  | [l], q, h, h1, h2, h3 => ⟨h, h3 l rfl, h1, h2⟩
  | l :: l' :: r, q, h, h1, h2, h3 => ⟨h.1, h.2.1, neat_snoc (r := l' :: r) h.2.2 h1 h2 (fun z hz => h3 z (by rw [List.getLast?_cons_cons]; exact hz))⟩
theorem neat_app : ∀ {r r' : Runs}, Neat (r ++ r') → Neat r ∧ Neat r'
  | [], r', h => ⟨trivial, h⟩
  | [q], [], h => ⟨h, trivial⟩
  | [q], q' :: r', h => ⟨h.head, h.tail⟩
  | q :: q' :: r, r', h => ⟨⟨h.1, h.2.1, (neat_app (r := q' :: r) h.2.2).1⟩, (neat_app (r := q' :: r) h.2.2).2⟩
theorem mgStep_ok {acc : Runs} {q : Nat × Int} (h : Neat acc) (h1 : isL q.1) (h2 : 0 ≤ q.2) (p : Sp) : Neat (mgStep acc q) ∧ led p (mgStep acc q) = gone (led p acc) q.1 q.2 ∧ len (mgStep acc q) = len acc + q.2 := by
  have zero : q.2 = 0 → led p acc = gone (led p acc) q.1 q.2 ∧ len acc = len acc + q.2 := fun z => by rw [z, gone_zero]; simp
  unfold mgStep
  split
  · rename_i l hl
    have e : acc = acc.dropLast ++ [l] := by
      rw [List.getLast?_eq_some_iff] at hl
      obtain ⟨ys, rfl⟩ := hl
      simp
    split
    · rename_i hc
      have hn := (neat_app (e ▸ h)).1
      have hl2 : isL l.1 ∧ 1 ≤ l.2 := (neat_app (r := acc.dropLast) (r' := [l]) (e ▸ h)).2
      refine ⟨neat_snoc hn h1 (by show 1 ≤ l.2 + q.2; omega) (fun l' hl' => ?_), ?_, ?_⟩
      · rw [List.getLast?_eq_some_iff] at hl'
        obtain ⟨ys, hy⟩ := hl'
        rw [hy] at e
        have : Neat (ys ++ ([l'] ++ [l])) := by rw [← List.append_assoc, ← e]; exact h
        have := (neat_app this).2
        rw [← hc]
        exact this.2.1
      · rw [led_app]
        conv => rhs; rw [e, led_app]
        show gone (led p acc.dropLast) q.1 (l.2 + q.2) = gone (gone (led p acc.dropLast) l.1 l.2) q.1 q.2
        rw [hc, gone_add]
      · rw [len_app]
        conv => rhs; rw [e, len_app]
        simp only [len]
        omega
    · rename_i hc
      split
      · refine ⟨neat_snoc h h1 (by omega) (fun l' hl' => ?_), by rw [led_app]; rfl, by rw [len_app]; simp only [len]; omega⟩
        rw [hl] at hl'
        cases hl'
        exact hc
      · exact ⟨h, zero (by omega)⟩
  · rename_i hl
    have e : acc = [] := List.getLast?_eq_none_iff.mp hl
    subst e
    split
    · exact ⟨⟨h1, by omega⟩, rfl, by simp [len]⟩
    · exact ⟨trivial, zero (by omega)⟩
theorem fold_ok (p : Sp) : ∀ (r acc : Runs), Good r → Neat acc → Neat (r.foldl mgStep acc) ∧ led p (r.foldl mgStep acc) = led (led p acc) r ∧ len (r.foldl mgStep acc) = len acc + len r
  | [], acc, _, h => ⟨h, rfl, by simp [len]⟩
  | q :: r, acc, g, h => by
    obtain ⟨h1, h2, h3⟩ := mgStep_ok h g.head.1 g.head.2 p
    obtain ⟨k1, k2, k3⟩ := fold_ok p r (mgStep acc q) g.tail h1
    refine ⟨k1, ?_, ?_⟩
    · show led p (r.foldl mgStep (mgStep acc q)) = led (gone (led p acc) q.1 q.2) r
      rw [k2, h2]
    · show len (r.foldl mgStep (mgStep acc q)) = len acc + (q.2 + len r)
      rw [k3, h3]
      omega
theorem mg_neat {r : Runs} (g : Good r) : Neat (mg r) := (fold_ok home r [] g trivial).1
theorem mg_led {r : Runs} (g : Good r) (p : Sp) : led p (mg r) = led p r := (fold_ok p r [] g trivial).2.1
theorem mg_len {r : Runs} (g : Good r) : len (mg r) = len r := by
  have := (fold_ok home r [] g trivial).2.2
  simp only [len] at this
  unfold mg
  omega
/-! ### the best sides for so many steps more -/
def bs (x y k : Int) : Int × Int := if k ≤ ab (x - y) then (if y ≤ x then (x, y + k) else (x + k, y)) else ((x + y + k + 1).fdiv 2, (x + y + k).fdiv 2)
theorem bs_ok {x y k : Int} (hx : 0 ≤ x) (hy : 0 ≤ y) (hk : 0 ≤ k) : x ≤ (bs x y k).1 ∧ y ≤ (bs x y k).2 ∧ (bs x y k).1 + (bs x y k).2 = x + y + k := by
  unfold bs ab
  rw [Int.fdiv_eq_ediv_of_nonneg _ (by decide), Int.fdiv_eq_ediv_of_nonneg _ (by decide)]
  by_cases c : x - y < 0
  · simp only [c, if_true]
    split
    · simp only [show ¬ y ≤ x by omega, if_false]; omega
    · simp only; omega
  · simp only [c, if_false]
    split
    · simp only [show y ≤ x by omega, if_true]; omega
    · simp only; omega
/-- no other sides hold more -/
theorem bs_max {x y k p q : Int} (hx : 0 ≤ x) (hy : 0 ≤ y) (hk : 0 ≤ k) (hp : x ≤ p) (hq : y ≤ q) (h : p + q = x + y + k) : p * q ≤ (bs x y k).1 * (bs x y k).2 := by
  have main : ∀ {u v p q : Int}, u + v = p + q → (u - v) * (u - v) ≤ (p - q) * (p - q) → p * q ≤ u * v := fun {u v p q} h1 h2 => by
    have e1 : (u - v) * (u - v) = (u + v) * (u + v) - 4 * (u * v) := by grind
    have e2 : (p - q) * (p - q) = (p + q) * (p + q) - 4 * (p * q) := by grind
    rw [e1, e2, h1] at h2
    omega
  have sqm : ∀ {s t : Int}, (s ≤ t ∨ s ≤ -t) → (-s ≤ t ∨ -s ≤ -t) → s * s ≤ t * t := fun {s t} h1 h2 => by
    have a1 : ab s ≤ ab t := by unfold ab; split <;> split <;> omega
    have a2 : ab s * ab s = s * s := by unfold ab; split <;> grind
    have a3 : ab t * ab t = t * t := by unfold ab; split <;> grind
    rw [← a2, ← a3]
    exact Int.mul_le_mul a1 a1 (ab_nonneg s) (ab_nonneg t)
  have hb := bs_ok hx hy hk
  have sol : ∀ u v : Int, u + v = p + q → (u - v ≤ p - q ∨ u - v ≤ -(p - q)) → (-(u - v) ≤ p - q ∨ -(u - v) ≤ -(p - q)) → p * q ≤ u * v := fun u v h1 h2 h3 => main h1 (sqm h2 h3)
  unfold bs ab
  rw [Int.fdiv_eq_ediv_of_nonneg _ (by decide), Int.fdiv_eq_ediv_of_nonneg _ (by decide)]
  by_cases c : x - y < 0
  · simp only [c, if_true]
    split
    · simp only [show ¬ y ≤ x by omega, if_false]
      exact sol _ _ (by omega) (by omega) (by omega)
    · exact sol _ _ (by omega) (by omega) (by omega)
  · simp only [c, if_false]
    split
    · simp only [show y ≤ x by omega, if_true]
      exact sol _ _ (by omega) (by omega) (by omega)
    · exact sol _ _ (by omega) (by omega) (by omega)
end ST
set_option maxRecDepth 100000
set_option maxHeartbeats 4000000
namespace ST
/-! ### the areas of walks of a length -/
def loA (x y m : Int) : Int := (x * y - (2 * m - ab (x * y))).fdiv 2
def hiA (x y m : Int) : Int := (x * y + (2 * m - ab (x * y))).fdiv 2
theorem between_iff (x y a m : Int) : (loA x y m ≤ a ∧ a ≤ hiA x y m) ↔ gnd x y a ≤ m := by
  rw [gnd_le]
  unfold loA hiA ab
  generalize x * y = t
  rw [Int.fdiv_eq_ediv_of_nonneg _ (by decide), Int.fdiv_eq_ediv_of_nonneg _ (by decide)]
  by_cases c : t < 0 <;> simp only [c, if_true, if_false] <;> omega
/-- a walk of n steps has room just if the steps are no more -/
theorem room_iff {x y a n k : Int} (hk : 0 ≤ k) (hn : n = ab x + ab y + 2 * k) : gnd x y a ≤ (bs (ab x) (ab y) k).1 * (bs (ab x) (ab y) k).2 ↔ stp x y a ≤ n := by
  have hx := ab_nonneg x
  have hy := ab_nonneg y
  obtain ⟨b1, b2, b3⟩ := bs_ok hx hy hk
  constructor
  · intro h
    have := stp_le ⟨b1, b2, h⟩
    unfold cost at this
    omega
  · intro h
    obtain ⟨p, q, b, e⟩ := stp_box x y a
    have c1 := b.px
    have c2 := b.qy
    have c3 := b.room
    unfold cost at e
    have hp := stp_par x y a
    have h2 : 0 ≤ n - stp x y a := by omega
    have h3 : ∃ d, 0 ≤ d ∧ p + d + q = ab x + ab y + k := ⟨ab x + ab y + k - p - q, by omega, by omega⟩
    obtain ⟨d, d0, d1⟩ := h3
    have h4 := bs_max hx hy hk (p := p + d) (q := q) (by omega) c2 d1
    have h5 := pr_pos d0 (show 0 ≤ q by omega)
    rw [show (p + d) * q = p * q + d * q by grind] at h4
    omega
/-! ### mirrored letters -/
def sw1 (c : Nat) : Nat := if c = 101 then 119 else if c = 119 then 101 else c
def sw2 (c : Nat) : Nat := if c = 110 then 115 else if c = 115 then 110 else c
def sw3 (c : Nat) : Nat := if c = 101 then 110 else if c = 110 then 101 else if c = 119 then 115 else if c = 115 then 119 else c
theorem isL_sw1 {c : Nat} (h : isL c) : isL (sw1 c) := by
  rcases h with rfl | rfl | rfl | rfl <;> unfold isL sw1 <;> decide
theorem isL_sw2 {c : Nat} (h : isL c) : isL (sw2 c) := by
  rcases h with rfl | rfl | rfl | rfl <;> unfold isL sw2 <;> decide
theorem isL_sw3 {c : Nat} (h : isL c) : isL (sw3 c) := by
  rcases h with rfl | rfl | rfl | rfl <;> unfold isL sw3 <;> decide
def mX (p : Sp) : Sp := ⟨-p.x, p.y, -p.a⟩
def mY (p : Sp) : Sp := ⟨p.x, -p.y, -p.a⟩
def mT (p : Sp) : Sp := ⟨p.y, p.x, p.x * p.y - p.a⟩
theorem gone_mX {p : Sp} {c : Nat} {t : Int} (h : isL c) : gone (mX p) (sw1 c) t = mX (gone p c t) := by
  rcases h with rfl | rfl | rfl | rfl <;> simp [gone, mX, sw1] <;> grind
theorem gone_mY {p : Sp} {c : Nat} {t : Int} (h : isL c) : gone (mY p) (sw2 c) t = mY (gone p c t) := by
  rcases h with rfl | rfl | rfl | rfl <;> simp [gone, mY, sw2] <;> grind
theorem gone_mT {p : Sp} {c : Nat} {t : Int} (h : isL c) : gone (mT p) (sw3 c) t = mT (gone p c t) := by
  rcases h with rfl | rfl | rfl | rfl <;> simp [gone, mT, sw3] <;> grind
abbrev mp (f : Nat → Nat) (r : Runs) : Runs := r.map fun q => (f q.1, q.2)
theorem led_mp {f : Nat → Nat} {m : Sp → Sp} (hf : ∀ {p : Sp} {c : Nat} {t : Int}, isL c → gone (m p) (f c) t = m (gone p c t)) : ∀ {r : Runs} {p : Sp}, Good r → led (m p) (mp f r) = m (led p r)
  | [], _, _ => rfl
  | q :: r, p, g => by
    show led (gone (m p) (f q.1) q.2) (mp f r) = m (led (gone p q.1 q.2) r)
    rw [hf g.head.1]
    exact led_mp hf g.tail
theorem len_mp (f : Nat → Nat) (r : Runs) : len (mp f r) = len r := by
  induction r with
  | nil => rfl
  | cons q r ih => show q.2 + len (mp f r) = q.2 + len r; rw [ih]
theorem good_mp {f : Nat → Nat} (hf : ∀ {c : Nat}, isL c → isL (f c)) {r : Runs} (g : Good r) : Good (mp f r) := fun q hq => by
  obtain ⟨q', h1, rfl⟩ := List.mem_map.mp hq
  exact ⟨hf (g q' h1).1, (g q' h1).2⟩
theorem mX_home : mX home = home := by simp [mX]
theorem mY_home : mY home = home := by simp [mY]
theorem mT_home : mT home = home := by simp [mT]
/-! ### a walk of so many steps -/
def colsOf (W H a : Int) : Int × Int := if (W * H - a).fdiv H = W then (W - 1, H) else ((W * H - a).fdiv H, (W * H - a).fmod H)
def wp (x y a k : Int) : Runs :=
  if (bs x y k).1 * (bs x y k).2 = 0 then [(115, (bs x y k).2 - y), (101, (bs x y k).1), (110, (bs x y k).2), (119, (bs x y k).1 - x)]
  else [(115, (bs x y k).2 - y), (101, (bs x y k).1 - 1 - (colsOf (bs x y k).1 (bs x y k).2 a).1), (110, (colsOf (bs x y k).1 (bs x y k).2 a).2), (101, 1), (110, (bs x y k).2 - (colsOf (bs x y k).1 (bs x y k).2 a).2), (101, (colsOf (bs x y k).1 (bs x y k).2 a).1), (119, (bs x y k).1 - x)]
/-- the walk in the first quarter -/
theorem wp_ok {x y a k : Int} (hx : 0 ≤ x) (hy : 0 ≤ y) (hk : 0 ≤ k) (h0 : 0 ≤ a) (h1 : a ≤ (bs x y k).1 * (bs x y k).2) : Good (wp x y a k) ∧ led home (wp x y a k) = ⟨x, y, a⟩ ∧ len (wp x y a k) = x + y + 2 * k := by
  obtain ⟨b1, b2, b3⟩ := bs_ok hx hy hk
  unfold wp
  generalize (bs x y k).1 = W at *
  generalize (bs x y k).2 = H at *
  have L : ∀ c : Nat, c = 101 ∨ c = 110 ∨ c = 119 ∨ c = 115 → isL c := fun c h => h
  split
  · rename_i hz
    refine ⟨fun q hq => ?_, ?_, ?_⟩
    · simp only [List.mem_cons, List.not_mem_nil, or_false] at hq
      rcases hq with rfl | rfl | rfl | rfl
      all_goals exact ⟨by unfold isL; simp, by simp only; omega⟩
    · simp only [led, gone]
      simp
      have : a = 0 := by omega
      exact ⟨by omega, by omega, by omega⟩
    · simp only [len]; omega
  · rename_i hz
    have hW : 0 < W := by
      by_cases c : 0 < W
      · exact c
      · have : W = 0 := by omega
        subst this
        simp at hz
    have hH : 0 < H := by
      by_cases c : 0 < H
      · exact c
      · have : H = 0 := by omega
        subst this
        simp at hz
    have e1 : H * (W * H - a).fdiv H + (W * H - a).fmod H = W * H - a := Int.mul_fdiv_add_fmod _ _
    have e2 : 0 ≤ (W * H - a).fmod H := Int.fmod_nonneg_of_pos _ hH
    have e3 : (W * H - a).fmod H < H := Int.fmod_lt_of_pos _ hH
    have key : ∃ c e : Int, colsOf W H a = (c, e) ∧ c * H + e = W * H - a ∧ 0 ≤ c ∧ c ≤ W - 1 ∧ 0 ≤ e ∧ e ≤ H := by
      unfold colsOf
      have q0 : 0 ≤ (W * H - a).fdiv H := Int.fdiv_nonneg (by omega) (by omega)
      generalize (W * H - a).fdiv H = c at *
      generalize (W * H - a).fmod H = e at *
      split
      · rename_i hc
        subst hc
        refine ⟨c - 1, H, rfl, ?_, by omega, by omega, by omega, by omega⟩
        have : H * c = c * H := Int.mul_comm _ _
        rw [show (c - 1) * H + H = c * H by grind]
        omega
      · rename_i hc
        refine ⟨c, e, rfl, by rw [Int.mul_comm]; exact e1, q0, ?_, e2, by omega⟩
        have h5 : H * c ≤ H * W := by rw [show H * W = W * H from Int.mul_comm _ _]; omega
        have := Int.le_of_mul_le_mul_left h5 hH
        omega
    obtain ⟨c, e, he, k1, k2, k3, k4, k5⟩ := key
    rw [he]
    refine ⟨fun q hq => ?_, ?_, ?_⟩
    · simp only [List.mem_cons, List.not_mem_nil, or_false] at hq
      rcases hq with rfl | rfl | rfl | rfl | rfl | rfl | rfl
      all_goals exact ⟨by unfold isL; simp, by simp only; omega⟩
    · simp only [led, gone]
      simp
      refine ⟨by omega, by omega, ?_⟩
      rw [show (W - 1 - c) * e + (W - 1 - c + 1) * (H - e) = W * H - (c * H + e) by grind, k1]
      omega
    · simp only [len]; omega
/-- as the program goes: mirrored to the first quarter and above the half -/
def pt (x y a n : Int) : Runs :=
  let x1 := if x < 0 then -x else x
  let a1 := if x < 0 then -a else a
  let y1 := if y < 0 then -y else y
  let a2 := if y < 0 then -a1 else a1
  let f1 : Nat → Nat := if x < 0 then sw1 else id
  let f2 : Nat → Nat := if y < 0 then fun c => f1 (sw2 c) else f1
  if 2 * a2 < x1 * y1 then mp (fun c => f2 (sw3 c)) (wp y1 x1 (x1 * y1 - a2) ((n - y1 - x1).fdiv 2)) else mp f2 (wp x1 y1 a2 ((n - x1 - y1).fdiv 2))
theorem mp_mp (f g : Nat → Nat) (r : Runs) : mp f (mp g r) = mp (fun c => f (g c)) r := by simp [mp]
theorem mp_id (r : Runs) : mp id r = r := by simp [mp]
theorem mX_mX (p : Sp) : mX (mX p) = p := by simp [mX]
theorem mY_mY (p : Sp) : mY (mY p) = p := by simp [mY]
theorem mT_mT (p : Sp) : mT (mT p) = p := by
  obtain ⟨x, y, a⟩ := p
  simp only [mT, Sp.mk.injEq, true_and]
  grind
/-- what is known of a told walk -/
structure Leads (r : Runs) (p : Sp) (n : Int) : Prop where
  good : Good r
  to : led home r = p
  len : len r = n
theorem Leads.sw {f : Nat → Nat} {m : Sp → Sp} (hf : ∀ {p : Sp} {c : Nat} {t : Int}, isL c → gone (m p) (f c) t = m (gone p c t)) (hl : ∀ {c : Nat}, isL c → isL (f c)) (hh : m home = home) {r : Runs} {p : Sp} {n : Int} (h : Leads r p n) : Leads (mp f r) (m p) n :=
  ⟨good_mp hl h.good, by have := led_mp (f := f) (m := m) (fun h => hf h) (p := home) h.good; rw [hh] at this; rw [this, h.to], by rw [len_mp]; exact h.len⟩
theorem pt_ok {x y a n k : Int} (hk : 0 ≤ k) (hn : n = ab x + ab y + 2 * k) (hs : stp x y a ≤ n) : Leads (pt x y a n) ⟨x, y, a⟩ n := by
  have core : ∀ x y a : Int, 0 ≤ x → 0 ≤ y → n = x + y + 2 * k → x * y ≤ 2 * a → stp x y a ≤ n → Leads (wp x y a ((n - x - y).fdiv 2)) ⟨x, y, a⟩ n := fun x y a hx hy hn h2 hs => by
    have e : (n - x - y).fdiv 2 = k := by rw [Int.fdiv_eq_ediv_of_nonneg _ (by decide)]; omega
    rw [e]
    have t0 := pr_pos hx hy
    have hg := (room_iff (x := x) (y := y) (a := a) hk (by rw [ab_of hx, ab_of hy]; exact hn)).mpr hs
    rw [ab_of hx, ab_of hy, (gnd_max x y a).1 t0, if_pos h2] at hg
    obtain ⟨w1, w2, w3⟩ := wp_ok hx hy hk (by omega) hg
    exact ⟨w1, w2, by omega⟩
  have quarter : ∀ x y a : Int, 0 ≤ x → 0 ≤ y → n = x + y + 2 * k → stp x y a ≤ n → Leads (if 2 * a < x * y then mp sw3 (wp y x (x * y - a) ((n - y - x).fdiv 2)) else wp x y a ((n - x - y).fdiv 2)) ⟨x, y, a⟩ n := fun x y a hx hy hn hs => by
    split
    · rename_i c
      have := core y x (x * y - a) hy hx (by omega) (by rw [Int.mul_comm y x]; omega) (by rw [stp_t]; exact hs)
      have := this.sw gone_mT isL_sw3 mT_home
      rw [show mT ⟨y, x, x * y - a⟩ = ⟨x, y, a⟩ by simp only [mT, Sp.mk.injEq, true_and]; grind] at this
      exact this
    · rename_i c
      exact core x y a hx hy hn (by omega) hs
  have upper : ∀ x y a : Int, 0 ≤ x → n = x + ab y + 2 * k → stp x y a ≤ n → Leads (if y < 0 then mp sw2 (if 2 * -a < x * -y then mp sw3 (wp (-y) x (x * -y - -a) ((n - -y - x).fdiv 2)) else wp x (-y) (-a) ((n - x - -y).fdiv 2)) else (if 2 * a < x * y then mp sw3 (wp y x (x * y - a) ((n - y - x).fdiv 2)) else wp x y a ((n - x - y).fdiv 2))) ⟨x, y, a⟩ n := fun x y a hx hn hs => by
    split
    · rename_i c
      have := quarter x (-y) (-a) hx (by omega) (by rw [hn]; unfold ab; simp only [c, if_true]) (by rw [stp_my]; exact hs)
      have := this.sw gone_mY isL_sw2 mY_home
      rw [show mY ⟨x, -y, -a⟩ = ⟨x, y, a⟩ by simp [mY]] at this
      exact this
    · rename_i c
      exact quarter x y a hx (by omega) (by rw [hn]; unfold ab; simp only [c, if_false]) hs
  unfold pt
  by_cases cx : x < 0
  · have := upper (-x) y (-a) (by omega) (by rw [hn]; unfold ab; simp only [cx, if_true]) (by rw [stp_mx]; exact hs)
    have := this.sw gone_mX isL_sw1 mX_home
    rw [show mX ⟨-x, y, -a⟩ = ⟨x, y, a⟩ by simp [mX]] at this
    simp only [cx, if_true]
    by_cases cy : y < 0
    · simp only [cy, if_true] at this ⊢
      split at this
      · rename_i c; rw [if_pos c]; simpa [mp, Function.comp_def] using this
      · rename_i c; rw [if_neg c]; simpa [mp, Function.comp_def] using this
    · simp only [cy, if_false] at this ⊢
      split at this
      · rename_i c; rw [if_pos c]; simpa [mp, Function.comp_def] using this
      · rename_i c; rw [if_neg c]; simpa [mp, Function.comp_def] using this
  · have := upper x y a (by omega) (by rw [hn]; unfold ab; simp only [cx, if_false]) hs
    simp only [cx, if_false]
    by_cases cy : y < 0
    · simp only [cy, if_true] at this ⊢
      split at this
      · rename_i c; rw [if_pos c]; simpa [mp, Function.comp_def] using this
      · rename_i c; rw [if_neg c]; simpa [mp, Function.comp_def] using this
    · simp only [cy, if_false] at this ⊢
      split at this
      · rename_i c; rw [if_pos c]; simpa [mp, Function.comp_def] using this
      · rename_i c; rw [if_neg c]; simpa [mp, Function.comp_def] using this
end ST
set_option maxRecDepth 100000
set_option maxHeartbeats 4000000
namespace ST
/-! ### which numbers of steps have a walk -/
theorem stp_ge (x y a : Int) : ab x + ab y ≤ stp x y a := by
  obtain ⟨p, q, b, e⟩ := stp_box x y a
  have h1 := b.px
  have h2 := b.qy
  unfold cost at e
  omega
/-- the areas that so many steps can sweep -/
def lim (x y n : Int) : Option (Int × Int) :=
  if n - ab x - ab y < 0 ∨ (n - ab x - ab y).fmod 2 = 1 then none
  else some (loA x y ((bs (ab x) (ab y) ((n - ab x - ab y).fdiv 2)).1 * (bs (ab x) (ab y) ((n - ab x - ab y).fdiv 2)).2), hiA x y ((bs (ab x) (ab y) ((n - ab x - ab y).fdiv 2)).1 * (bs (ab x) (ab y) ((n - ab x - ab y).fdiv 2)).2))
/-- what walk_of looks for -/
def ptO (x y a n : Int) : Option Runs := match lim x y n with
  | none => none
  | some (lo, hi) => if lo ≤ a ∧ a ≤ hi then some (pt x y a n) else none
theorem ab_par (x : Int) : (ab x - x) % 2 = 0 := by unfold ab; split <;> omega
theorem lim_none {x y n : Int} (a : Int) (h : lim x y n = none) : ¬ (stp x y a ≤ n ∧ (n - stp x y a) % 2 = 0) := by
  unfold lim at h
  have h1 := stp_ge x y a
  have h2 := stp_par x y a
  have h3 := ab_par x
  have h4 := ab_par y
  rw [Int.fmod_eq_emod_of_nonneg _ (by decide)] at h
  split at h
  · omega
  · cases h
theorem lim_some {x y n lo hi : Int} (a : Int) (h : lim x y n = some (lo, hi)) : (∃ k, 0 ≤ k ∧ n = ab x + ab y + 2 * k) ∧ ((lo ≤ a ∧ a ≤ hi) ↔ stp x y a ≤ n) ∧ (n - stp x y a) % 2 = 0 := by
  unfold lim at h
  have h2 := stp_par x y a
  have h3 := ab_par x
  have h4 := ab_par y
  rw [Int.fmod_eq_emod_of_nonneg _ (by decide), Int.fdiv_eq_ediv_of_nonneg _ (by decide)] at h
  split at h
  · cases h
  · rename_i c
    cases h
    have hk : 0 ≤ (n - ab x - ab y) / 2 := by omega
    have hn : n = ab x + ab y + 2 * ((n - ab x - ab y) / 2) := by omega
    refine ⟨⟨_, hk, hn⟩, ?_, by omega⟩
    rw [between_iff]
    exact room_iff hk hn
theorem ptO_eq (x y a n : Int) : ptO x y a n = if stp x y a ≤ n ∧ (n - stp x y a) % 2 = 0 then some (pt x y a n) else none := by
  unfold ptO
  cases h : lim x y n with
  | none => rw [if_neg (lim_none a h)]
  | some p =>
    obtain ⟨lo, hi⟩ := p
    obtain ⟨_, h1, h2⟩ := lim_some a h
    by_cases c : stp x y a ≤ n
    · simp only [if_pos (h1.mpr c), if_pos (And.intro c h2)]
    · simp only [if_neg (fun z => c (h1.mp z)), if_neg (fun z : stp x y a ≤ n ∧ _ => c z.1)]
theorem pt_leads {x y a n : Int} (h : stp x y a ≤ n) (h' : (n - stp x y a) % 2 = 0) : Leads (pt x y a n) ⟨x, y, a⟩ n := by
  have h1 := stp_ge x y a
  have h2 := stp_par x y a
  have h3 := ab_par x
  have h4 := ab_par y
  exact pt_ok (k := (n - ab x - ab y) / 2) (by omega) (by omega) h
/-! ### how many runs -/
def cnt (r : Runs) : Nat := (r.filter fun q => decide (0 < q.2)).length
theorem cnt_le (r : Runs) : cnt r ≤ r.length := List.length_filter_le ..
theorem cnt_mp (f : Nat → Nat) (r : Runs) : cnt (mp f r) = cnt r := by
  induction r with
  | nil => rfl
  | cons q r ih =>
    obtain ⟨c, t⟩ := q
    simp only [cnt, mp, List.map_cons, List.filter_cons] at *
    split <;> simp [ih]
theorem fold_cnt : ∀ (r acc : Runs), (r.foldl mgStep acc).length ≤ acc.length + cnt r
  | [], acc => by simp
  | q :: r, acc => by
    have h := fold_cnt r (mgStep acc q)
    have h1 : (mgStep acc q).length + cnt r ≤ acc.length + cnt (q :: r) := by
      have h2 : cnt (q :: r) = cnt r + if 0 < q.2 then 1 else 0 := by
        unfold cnt
        rw [List.filter_cons]
        by_cases c : 0 < q.2
        · simp [c]
        · simp [c]
      rw [h2]
      unfold mgStep
      cases e : acc.getLast? with
      | none =>
        simp only
        split
        · simp; omega
        · omega
      | some l =>
        have hne : 0 < acc.length := by
          cases acc with
          | nil => cases e
          | cons => simp
        simp only
        split
        · simp; omega
        · split
          · simp; omega
          · omega
    exact Nat.le_trans h h1
theorem mg_cnt (r : Runs) : (mg r).length ≤ cnt r := by
  have := fold_cnt r []
  rw [List.length_nil, Nat.zero_add] at this
  exact this
theorem wp_len (x y a k : Int) : (wp x y a k).length ≤ 7 := by
  unfold wp
  split <;> simp
theorem pt_len (x y a n : Int) : (pt x y a n).length ≤ 7 := by
  have h : ∀ (c : Prop) [Decidable c] (f g : Nat → Nat) (u v : Runs), u.length ≤ 7 → v.length ≤ 7 → List.length (if c then mp f u else mp g v) ≤ 7 := fun c _ f g u v hu hv => by
    split
    · rw [mp, List.length_map]; exact hu
    · rw [mp, List.length_map]; exact hv
  exact h _ _ _ _ _ (wp_len ..) (wp_len ..)
theorem mg_pt (x y a n : Int) : (mg (pt x y a n)).length ≤ 7 := Nat.le_trans (mg_cnt _) (Nat.le_trans (cnt_le _) (pt_len ..))
theorem wp_six {x y a k n : Int} (hx : 0 ≤ x) (hy : 0 ≤ y) (hk : 0 ≤ k) (hn : n = x + y + 2 * k) (h2 : x * y ≤ 2 * a) (hs : stp x y a = n) : cnt (wp x y a k) ≤ 6 := by
  have t0 := pr_pos hx hy
  have room := (room_iff (x := x) (y := y) (a := a) hk (by rw [ab_of hx, ab_of hy]; exact hn)).mpr (Int.le_of_eq hs)
  have hg : gnd x y a = a := by rw [(gnd_max x y a).1 t0, if_pos h2]
  rw [ab_of hx, ab_of hy, hg] at room
  obtain ⟨b1, b2, b3⟩ := bs_ok hx hy hk
  have key : (bs x y k).1 = x ∨ (bs x y k).2 = y ∨ (bs x y k).1 * (bs x y k).2 - a < (bs x y k).2 := by
    by_cases c : k ≤ ab (x - y)
    · by_cases c1 : y ≤ x
      · left; unfold bs; rw [if_pos c, if_pos c1]
      · right; left; unfold bs; rw [if_pos c, if_neg c1]
    · right; right
      have e1 : (bs x y k).1 = (x + y + k + 1) / 2 := by unfold bs; rw [if_neg c, Int.fdiv_eq_ediv_of_nonneg _ (by decide)]
      have e2 : (bs x y k).2 = (x + y + k) / 2 := by unfold bs; rw [if_neg c]; simp only; rw [Int.fdiv_eq_ediv_of_nonneg _ (by decide)]
      have hab : x - y ≤ ab (x - y) ∧ y - x ≤ ab (x - y) ∧ 0 ≤ ab (x - y) := by unfold ab; split <;> omega
      have r2 := room_iff (x := x) (y := y) (a := a) (n := n - 2) (k := k - 1) (by omega) (by rw [ab_of hx, ab_of hy]; omega)
      rw [ab_of hx, ab_of hy, hg] at r2
      have mx := bs_max (x := x) (y := y) (k := k - 1) (p := (bs x y k).1 - 1) (q := (bs x y k).2) hx hy (by omega) (by omega) (by omega) (by omega)
      have nr : ¬ a ≤ (bs x y (k - 1)).1 * (bs x y (k - 1)).2 := fun z => by have := r2.mp z; omega
      generalize (bs x y k).1 = W at *
      generalize (bs x y k).2 = H at *
      rw [show (W - 1) * H = W * H - H by grind] at mx
      omega
  unfold wp
  generalize (bs x y k).1 = W at *
  generalize (bs x y k).2 = H at *
  split
  · exact Nat.le_trans (cnt_le _) (by simp)
  · rename_i hz
    have hH : 0 < H := by
      by_cases c : 0 < H
      · exact c
      · have : H = 0 := by omega
        subst this
        simp at hz
    have hW : 0 < W := by
      by_cases c : 0 < W
      · exact c
      · have : W = 0 := by omega
        subst this
        simp at hz
    have lt : ∀ r : Runs, (∃ q ∈ r, ¬ 0 < q.2) → cnt r < r.length := fun r ⟨q, h1, h2⟩ => by
      unfold cnt
      rw [List.length_filter_lt_length_iff_exists]
      exact ⟨q, h1, by simpa using h2⟩
    refine Nat.le_of_lt_succ (lt _ ?_)
    rcases key with e | e | e
    · exact ⟨(119, W - x), by simp, by simp only; omega⟩
    · exact ⟨(115, H - y), by simp, by simp only; omega⟩
    · have q0 : (W * H - a).fdiv H = 0 := by
        rw [Int.fdiv_eq_ediv_of_nonneg _ (by omega)]
        exact Int.ediv_eq_zero_of_lt (by omega) e
      have : (colsOf W H a).1 = 0 := by
        unfold colsOf
        rw [q0, if_neg (by omega)]
      exact ⟨(101, (colsOf W H a).1), by simp, by simp only; omega⟩
theorem pt_six {x y a : Int} : cnt (pt x y a (stp x y a)) ≤ 6 := by
  have h1 := stp_ge x y a
  have h2 := stp_par x y a
  have h3 := ab_par x
  have h4 := ab_par y
  generalize hn : stp x y a = n at *
  simp only [pt]
  have e0 : stp (if x < 0 then -x else x) (if y < 0 then -y else y) (if y < 0 then -(if x < 0 then -a else a) else (if x < 0 then -a else a)) = n := by
    by_cases c : x < 0
    · by_cases d : y < 0
      · simp only [if_pos c, if_pos d]; rw [stp_my, stp_mx, hn]
      · simp only [if_pos c, if_neg d]; rw [stp_mx, hn]
    · by_cases d : y < 0
      · simp only [if_neg c, if_pos d]; rw [stp_my, hn]
      · simp only [if_neg c, if_neg d]; rw [hn]
  have px : 0 ≤ (if x < 0 then -x else x) := ab_nonneg x
  have py : 0 ≤ (if y < 0 then -y else y) := ab_nonneg y
  have ex : (if x < 0 then -x else x) = ab x := rfl
  have ey : (if y < 0 then -y else y) = ab y := rfl
  generalize (if y < 0 then -(if x < 0 then -a else a) else (if x < 0 then -a else a)) = A at *
  generalize (if x < 0 then -x else x) = X at *
  generalize (if y < 0 then -y else y) = Y at *
  split
  · rename_i c
    rw [cnt_mp]
    refine wp_six (n := n) py px (by rw [Int.fdiv_eq_ediv_of_nonneg _ (by decide)]; omega) (by rw [Int.fdiv_eq_ediv_of_nonneg _ (by decide)]; omega) ?_ (by rw [stp_t, e0])
    rw [show Y * X = X * Y from Int.mul_comm _ _]
    omega
  · rw [cnt_mp]
    exact wp_six (n := n) px py (by rw [Int.fdiv_eq_ediv_of_nonneg _ (by decide)]; omega) (by rw [Int.fdiv_eq_ediv_of_nonneg _ (by decide)]; omega) (by omega) e0
end ST
namespace ST
/-! walks parted -/
def mn (a b : Int) : Int := if b < a then b else a
theorem mn_le {a b : Int} : mn a b ≤ a ∧ mn a b ≤ b := by unfold mn; split <;> omega
theorem mn_nn {a b : Int} (h : 0 ≤ a) (k : 0 ≤ b) : 0 ≤ mn a b := by unfold mn; split <;> omega
def hd : Runs → Int → Runs
  | [], _ => []
  | q :: r, k => (q.1, mn k q.2) :: hd r (k - mn k q.2)
def tl : Runs → Int → Runs
  | [], _ => []
  | q :: r, k => (q.1, q.2 - mn k q.2) :: tl r (k - mn k q.2)
theorem hd_snoc : ∀ (r : Runs) (q : Nat × Int) (k : Int), hd (r ++ [q]) k = hd r k ++ [(q.1, mn (k - len (hd r k)) q.2)]
  | [], q, k => by simp [hd, len]
  | p :: r, q, k => by
    show (p.1, mn k p.2) :: hd (r ++ [q]) (k - mn k p.2) = _
    rw [hd_snoc r q]
    show _ = (p.1, mn k p.2) :: (hd r (k - mn k p.2) ++ [(q.1, mn (k - (mn k p.2 + len (hd r (k - mn k p.2)))) q.2)])
    rw [show k - (mn k p.2 + len (hd r (k - mn k p.2))) = k - mn k p.2 - len (hd r (k - mn k p.2)) by omega]
theorem tl_snoc : ∀ (r : Runs) (q : Nat × Int) (k : Int), tl (r ++ [q]) k = tl r k ++ [(q.1, q.2 - mn (k - len (hd r k)) q.2)]
  | [], q, k => by simp [hd, tl, len]
  | p :: r, q, k => by
    show (p.1, p.2 - mn k p.2) :: tl (r ++ [q]) (k - mn k p.2) = _
    rw [tl_snoc r q]
    show _ = (p.1, p.2 - mn k p.2) :: (tl r (k - mn k p.2) ++ [(q.1, q.2 - mn (k - (mn k p.2 + len (hd r (k - mn k p.2)))) q.2)])
    rw [show k - (mn k p.2 + len (hd r (k - mn k p.2))) = k - mn k p.2 - len (hd r (k - mn k p.2)) by omega]
theorem hd_length : ∀ (r : Runs) (k : Int), (hd r k).length = r.length
  | [], _ => rfl
  | q :: r, k => by simp [hd, hd_length r]
theorem tl_length : ∀ (r : Runs) (k : Int), (tl r k).length = r.length
  | [], _ => rfl
  | q :: r, k => by simp [tl, tl_length r]
theorem hd_good : ∀ {r : Runs} {k : Int}, Good r → 0 ≤ k → Good (hd r k)
  | [], _, _, _ => fun _ h => nomatch h
  | q :: r, k, g, hk => fun p hp => by
    have h0 := g.head
    have h1 := mn_le (a := k) (b := q.2)
    rcases List.mem_cons.mp hp with rfl | hp
    · exact ⟨h0.1, mn_nn hk h0.2⟩
    · exact hd_good g.tail (by omega) p hp
theorem tl_good : ∀ {r : Runs} {k : Int}, Good r → 0 ≤ k → Good (tl r k)
  | [], _, _, _ => fun _ h => nomatch h
  | q :: r, k, g, hk => fun p hp => by
    have h0 := g.head
    have h1 := mn_le (a := k) (b := q.2)
    rcases List.mem_cons.mp hp with rfl | hp
    · exact ⟨h0.1, by show 0 ≤ q.2 - mn k q.2; omega⟩
    · exact tl_good g.tail (by omega) p hp
theorem hd_len : ∀ {r : Runs} {k : Int}, Good r → 0 ≤ k → k ≤ len r → len (hd r k) = k
  | [], k, _, h, h' => by
    show (0 : Int) = k
    have : len ([] : Runs) = 0 := rfl
    omega
  | q :: r, k, g, hk, h' => by
    have h0 := g.head
    have h1 := mn_le (a := k) (b := q.2)
    have h2 := len_nonneg g.tail
    have h3 : len (q :: r) = q.2 + len r := rfl
    show mn k q.2 + len (hd r (k - mn k q.2)) = k
    rw [hd_len g.tail (by omega) (by unfold mn; split <;> omega)]
    omega
theorem hd_tl_len : ∀ (r : Runs) (k : Int), len (hd r k) + len (tl r k) = len r
  | [], _ => rfl
  | q :: r, k => by
    have := hd_tl_len r (k - mn k q.2)
    show mn k q.2 + len (hd r (k - mn k q.2)) + (q.2 - mn k q.2 + len (tl r (k - mn k q.2))) = q.2 + len r
    omega
theorem hd_zero : ∀ {r : Runs} (p : Sp), Good r → led p (hd r 0) = p
  | [], _, _ => rfl
  | q :: r, p, g => by
    have h0 := g.head.2
    have : mn 0 q.2 = 0 := by unfold mn; split <;> omega
    show led (gone p q.1 (mn 0 q.2)) (hd r (0 - mn 0 q.2)) = p
    rw [this, gone_zero]
    exact hd_zero p g.tail
theorem tl_zero : ∀ {r : Runs}, Good r → tl r 0 = r
  | [], _ => rfl
  | q :: r, g => by
    have h0 := g.head.2
    have : mn 0 q.2 = 0 := by unfold mn; split <;> omega
    show (q.1, q.2 - mn 0 q.2) :: tl r (0 - mn 0 q.2) = _
    rw [this, show (0 : Int) - 0 = 0 from rfl, tl_zero g.tail]
    simp
theorem hd_tl_led : ∀ {r : Runs} {k : Int} (p : Sp), Good r → 0 ≤ k → led (led p (hd r k)) (tl r k) = led p r
  | [], _, _, _, _ => rfl
  | q :: r, k, p, g, hk => by
    have h0 := g.head.2
    show led (gone (led (gone p q.1 (mn k q.2)) (hd r (k - mn k q.2))) q.1 (q.2 - mn k q.2)) (tl r (k - mn k q.2)) = led (gone p q.1 q.2) r
    by_cases c : q.2 < k
    · have e : mn k q.2 = q.2 := by unfold mn; rw [if_pos c]
      rw [e, Int.sub_self, gone_zero]
      exact hd_tl_led _ g.tail (by omega)
    · have e : mn k q.2 = k := by unfold mn; rw [if_neg c]
      rw [e, Int.sub_self, hd_zero _ g.tail, tl_zero g.tail, gone_add, show k + (q.2 - k) = q.2 by omega]
/-! the middle of a least walk -/
/-- the product of two spots -/
def mul (p q : Sp) : Sp := ⟨p.x + q.x, p.y + q.y, p.a + q.a + p.x * q.y⟩
def inv (p : Sp) : Sp := ⟨-p.x, -p.y, p.x * p.y - p.a⟩
theorem mul_gone (p q : Sp) (c : Nat) (t : Int) : gone (mul p q) c t = mul p (gone q c t) := by
  unfold gone mul
  repeat' split
  all_goals (simp only [Sp.mk.injEq]; refine ⟨by grind, by grind, by grind⟩)
theorem mul_led (p : Sp) : ∀ (r : Runs) (q : Sp), led (mul p q) r = mul p (led q r)
  | [], _ => rfl
  | c :: r, q => by
    show led (gone (mul p q) c.1 c.2) r = mul p (led (gone q c.1 c.2) r)
    rw [mul_gone, mul_led p r]
theorem mul_home (p : Sp) : mul p home = p := by simp [mul]
theorem led_from (p : Sp) (r : Runs) : led p r = mul p (led home r) := by
  rw [← mul_led, mul_home]
theorem mul_assoc (p q s : Sp) : mul (mul p q) s = mul p (mul q s) := by
  unfold mul
  simp only [Sp.mk.injEq]
  refine ⟨by omega, by omega, by grind⟩
theorem inv_mul (p : Sp) : mul (inv p) p = home := by
  unfold mul inv
  simp only [Sp.mk.injEq]
  refine ⟨by omega, by omega, by grind⟩
theorem mul_inv (p : Sp) : mul p (inv p) = home := by
  unfold mul inv
  simp only [Sp.mk.injEq]
  refine ⟨by omega, by omega, by grind⟩
theorem home_mul (p : Sp) : mul home p = p := by simp [mul]
theorem inv_inv (p : Sp) : inv (inv p) = p := by
  unfold inv
  cases p
  simp only [Sp.mk.injEq]
  refine ⟨by omega, by omega, by grind⟩
theorem inv_of_mul (p q : Sp) : inv (mul p q) = mul (inv q) (inv p) := by
  unfold mul inv
  simp only [Sp.mk.injEq]
  refine ⟨by omega, by omega, by grind⟩
theorem cancel (t p q : Sp) : mul (inv (mul t p)) (mul t q) = mul (inv p) q := by
  rw [inv_of_mul, mul_assoc, ← mul_assoc (inv t), inv_mul, home_mul]
theorem st_tri (p q : Sp) : st (mul p q) ≤ st p + st q := tri ..
theorem st_inv (p : Sp) : st (inv p) = st p := stp_back ..
/-- the steps between two places -/
noncomputable def dst (p q : Sp) : Int := st (mul (inv p) q)
theorem dst_sym (p q : Sp) : dst p q = dst q p := by
  unfold dst
  rw [← st_inv, inv_of_mul, inv_inv]
theorem dst_tri (p q s : Sp) : dst p q ≤ dst p s + dst s q := by
  unfold dst
  have h : mul (inv p) q = mul (mul (inv p) s) (mul (inv s) q) := by
    rw [mul_assoc, ← mul_assoc s, mul_inv, home_mul]
  rw [h]
  exact st_tri _ _
theorem dst_move (t p q : Sp) : dst (mul t p) (mul t q) = dst p q := by unfold dst; rw [cancel]
theorem dst_self (p : Sp) : dst p p = 0 := by unfold dst; rw [inv_mul]; exact st_home
theorem inv_home : inv home = home := by simp [inv]
theorem dst_home (p : Sp) : dst home p = st p := by unfold dst; rw [inv_home, home_mul]
theorem st_zero {p : Sp} (h : st p = 0) : p = home := by
  obtain ⟨x, y, a⟩ := p
  by_cases c : x = 0 ∧ y = 0 ∧ a = 0
  · obtain ⟨rfl, rfl, rfl⟩ := c; rfl
  · have := stp_pos c
    have : stp x y a = 0 := h
    omega
theorem dst_zero {p q : Sp} (h : dst p q = 0) : p = q := by
  have h1 : mul (inv p) q = home := st_zero h
  have h2 := congrArg (mul p) h1
  rw [← mul_assoc, mul_inv, home_mul, mul_home] at h2
  exact h2.symm
theorem mid {p q : Sp} {r : Runs} (g : Good r) (to : led home r = mul (inv p) q) (hl : len r = dst p q) {k : Int} (hk : 0 ≤ k) (hk2 : k ≤ len r) :
    dst p (mul p (led home (hd r k))) = k ∧ dst (mul p (led home (hd r k))) q = len r - k := by
  have h1 := hd_len g hk hk2
  have h2 := hd_tl_len r k
  have h3 := hd_tl_led home g hk
  have h4 : dst p (mul p (led home (hd r k))) ≤ k := by
    have : dst (mul p home) (mul p (led home (hd r k))) = st (led home (hd r k)) := by rw [dst_move, dst_home]
    rw [mul_home] at this
    rw [this]
    have := st_le_len (hd_good g hk)
    omega
  have h5 : dst (mul p (led home (hd r k))) q ≤ len r - k := by
    have : q = mul p (led home r) := by rw [to, ← mul_assoc, mul_inv, home_mul]
    rw [this, dst_move, ← h3, led_from (led home (hd r k)), ← mul_home (led home (hd r k))]
    rw [show mul (mul (led home (hd r k)) home) (led home (tl r k)) = mul (led home (hd r k)) (led home (tl r k)) by rw [mul_home], dst_move, dst_home]
    have := st_le_len (tl_good g hk)
    omega
  have h6 := dst_tri p q (mul p (led home (hd r k)))
  omega
end ST
namespace ST
/-! ### letters that lead nearer -/
abbrev four : List Nat := [101, 110, 119, 115]
noncomputable def nr (p : Sp) : List Nat := four.filter fun c => decide (st (gone p c 1) < st p)
theorem four_isL {c : Nat} (h : c ∈ four) : isL c := by
  simp only [four, List.mem_cons, List.not_mem_nil, or_false] at h
  exact h
theorem isL_four {c : Nat} (h : isL c) : c ∈ four := by
  rcases h with rfl | rfl | rfl | rfl <;> simp [four]
theorem mem_nr {p : Sp} {c : Nat} : c ∈ nr p ↔ isL c ∧ st (gone p c 1) < st p := by
  unfold nr
  rw [List.mem_filter, decide_eq_true_eq]
  exact ⟨fun h => ⟨four_isL h.1, h.2⟩, fun h => ⟨isL_four h.1, h.2⟩⟩
/-- the step of a letter as a place -/
def stepP (c : Nat) : Sp := gone home c 1
theorem gone_mul (p : Sp) (c : Nat) (t : Int) : gone p c t = mul p (gone home c t) := by
  rw [← mul_gone, mul_home]
theorem nr_home : nr home = [] := by
  unfold nr
  rw [List.filter_eq_nil_iff]
  intro c _
  rw [decide_eq_true_eq]
  have h1 : st home = 0 := st_home
  have h2 : 0 ≤ st (gone home c 1) := stp_nonneg ..
  omega
theorem nr_ne {p : Sp} (h : p ≠ home) : nr p ≠ [] := by
  obtain ⟨x, y, a⟩ := p
  have h0 : ¬ (x = 0 ∧ y = 0 ∧ a = 0) := fun ⟨h1, h2, h3⟩ => h (by subst h1 h2 h3; rfl)
  obtain ⟨x', y', a', hs, hd⟩ := stp_dec h0
  have key : ∀ c, isL c → gone ⟨x, y, a⟩ c 1 = ⟨x', y', a'⟩ → nr ⟨x, y, a⟩ ≠ [] := fun c hc e z => by
    have : c ∈ nr ⟨x, y, a⟩ := mem_nr.mpr ⟨hc, by rw [e]; show stp x' y' a' < stp x y a; omega⟩
    rw [z] at this
    cases this
  rcases hs with ⟨rfl, rfl, rfl⟩ | ⟨rfl, rfl, rfl⟩ | ⟨rfl, rfl, rfl⟩ | ⟨rfl, rfl, rfl⟩
  · exact key 101 (by simp [isL]) (by simp [gone])
  · exact key 119 (by simp [isL]) (by simp [gone]; try omega)
  · exact key 110 (by simp [isL]) (by simp [gone])
  · exact key 115 (by simp [isL]) (by simp [gone]; try omega)
theorem nr_nil {p : Sp} : nr p = [] ↔ p = home := ⟨fun h => by
  by_cases c : p = home
  · exact c
  · exact absurd h (nr_ne c), fun h => h ▸ nr_home⟩
theorem st_nr {p : Sp} {c : Nat} (h : c ∈ nr p) : st (gone p c 1) = st p - 1 := by
  obtain ⟨h1, h2⟩ := mem_nr.mp h
  have := st_gone1 (p := p) h1
  omega
/-- the letters with which a least walk can begin -/
theorem first_eq (p : Sp) {c : Nat} (hc : isL c) : (st (mul (inv (stepP c)) p) < st p) ↔ c ∈ nr (inv p) := by
  rw [mem_nr, st_inv, gone_mul, ← st_inv (mul (inv p) _), inv_of_mul, inv_inv]
  exact ⟨fun h => ⟨hc, h⟩, fun h => h.2⟩
theorem first_in {r : Runs} {p : Sp} {c : Nat} {t : Int} (g : Good ((c, t) :: r)) (ht : 1 ≤ t) (to : led home ((c, t) :: r) = p) (hl : len ((c, t) :: r) = st p) : c ∈ nr (inv p) := by
  have hc := g.head.1
  rw [← first_eq p hc]
  have e : led home ((c, t) :: r) = mul (stepP c) (led home ((c, t - 1) :: r)) := by
    show led (gone home c t) r = mul (stepP c) (led (gone home c (t - 1)) r)
    rw [← mul_led, ← mul_gone, mul_home]
    unfold stepP
    rw [gone_add, show 1 + (t - 1) = t by omega]
  rw [← to, e, ← mul_assoc, inv_mul, home_mul]
  have g2 : Good ((c, t - 1) :: r) := fun q hq => by
    rcases List.mem_cons.mp hq with rfl | hq
    · exact ⟨hc, by show 0 ≤ t - 1; omega⟩
    · exact g.tail q hq
  have h1 := st_le_len g2
  rw [← e, to, ← hl]
  have h2 : len ((c, t - 1) :: r) = t - 1 + len r := rfl
  have h3 : len ((c, t) :: r) = t + len r := rfl
  omega
/-- the letter turned about -/
def about (c : Nat) : Nat := if c = 101 then 119 else if c = 119 then 101 else if c = 110 then 115 else 110
theorem isL_about {c : Nat} (h : isL c) : isL (about c) := by
  rcases h with rfl | rfl | rfl | rfl <;> simp [about, isL]
theorem about_back {c : Nat} (h : isL c) (p : Sp) (t : Int) : gone (gone p c t) (about c) 1 = gone p c (t - 1) := by
  rcases h with rfl | rfl | rfl | rfl <;> simp [about, gone] <;> grind
theorem last_in {r : Runs} {p : Sp} {c : Nat} {t : Int} (g : Good (r ++ [(c, t)])) (ht : 1 ≤ t) (to : led home (r ++ [(c, t)]) = p) (hl : len (r ++ [(c, t)]) = st p) : about c ∈ nr p := by
  have hc := (g (c, t) (by simp)).1
  refine mem_nr.mpr ⟨isL_about hc, ?_⟩
  have e1 : led home (r ++ [(c, t)]) = gone (led home r) c t := by rw [led_app]; rfl
  rw [← to] at *
  rw [e1, about_back hc]
  rw [← e1, ← hl]
  have gr : Good r := fun q hq => g q (by simp [hq])
  have g2 : Good (r ++ [(c, t - 1)]) := gr.app fun q hq => by
    rcases List.mem_singleton.mp hq with rfl
    exact ⟨hc, by show 0 ≤ t - 1; omega⟩
  have h1 := st_le_len g2
  rw [led_app, len_app] at h1
  rw [len_app]
  have h2 : len [(c, t - 1)] = t - 1 + 0 := rfl
  have h3 : len [(c, t)] = t + 0 := rfl
  have h4 : led (led home r) [(c, t - 1)] = gone (led home r) c (t - 1) := rfl
  rw [h4] at h1
  show st (gone (led home r) c (t - 1)) < _
  omega
/-! ### summits -/
theorem nr_all {p : Sp} (h : ∀ c, isL c → st (gone p c 1) < st p) : nr p = four := by
  unfold nr
  rw [List.filter_eq_self]
  intro c hc
  exact decide_eq_true (h c (four_isL hc))
theorem nr_len4 (p : Sp) : (nr p).length = 4 ↔ ∀ c, isL c → st (gone p c 1) < st p := by
  constructor
  · intro h c hc
    have : nr p = four := List.Sublist.eq_of_length List.filter_sublist h
    have hm : c ∈ nr p := this ▸ isL_four hc
    exact (mem_nr.mp hm).2
  · intro h
    rw [nr_all h]; rfl
theorem box_st {x y a p q : Int} (h1 : ab x ≤ p) (h2 : ab y ≤ q) (h3 : gnd x y a ≤ p * q) : stp x y a ≤ 2 * (p + q) - ab x - ab y := stp_le ⟨h1, h2, h3⟩
theorem gnd_x0 (y a : Int) : gnd 0 y a = ab a := by
  unfold gnd
  rw [Int.zero_mul, Int.fdiv_eq_ediv_of_nonneg _ (by decide)]
  unfold ab
  split <;> split <;> split <;> omega
theorem summit_near {a p q : Int} (hp : 1 ≤ p) (hq : 1 ≤ q) (ha : ab a ≤ p * q) (hs : stp 0 0 a = 2 * (p + q)) : ∀ c, isL c → st (gone ⟨0, 0, a⟩ c 1) < st ⟨0, 0, a⟩ := fun c hc => by
  have e : st ⟨0, 0, a⟩ = 2 * (p + q) := hs
  have a1 : ab 1 = 1 := by decide
  have a2 : ab (-1) = 1 := by decide
  have a0 : ab 0 = 0 := by decide
  rw [e]
  rcases hc with rfl | rfl | rfl | rfl
  · have := box_st (x := 1) (y := 0) (a := a) (p := p) (q := q) (by omega) (by omega) (by rw [gnd0]; exact ha)
    exact Int.lt_of_le_of_lt (show stp (0 + 1) 0 a ≤ _ from this) (by omega)
  · have := box_st (x := 0) (y := 1) (a := a + 0 * 1) (p := p) (q := q) (by omega) (by omega) (by rw [gnd_x0]; simpa using ha)
    exact Int.lt_of_le_of_lt (show stp 0 (0 + 1) (a + 0 * 1) ≤ _ from this) (by omega)
  · have := box_st (x := -1) (y := 0) (a := a) (p := p) (q := q) (by omega) (by omega) (by rw [gnd0]; exact ha)
    exact Int.lt_of_le_of_lt (show stp (0 - 1) 0 a ≤ _ from this) (by omega)
  · have := box_st (x := 0) (y := -1) (a := a - 0 * 1) (p := p) (q := q) (by omega) (by omega) (by rw [gnd_x0]; simpa using ha)
    exact Int.lt_of_le_of_lt (show stp 0 (0 - 1) (a - 0 * 1) ≤ _ from this) (by omega)
theorem summit_sq {s : Int} (hs : 1 ≤ s) : (nr ⟨0, 0, s * s⟩).length = 4 := by
  have h := (closed_sq hs (.inl rfl) (m := 0)).1
  rw [Int.add_zero] at h
  refine (nr_len4 _).mpr (summit_near hs hs ?_ (by omega))
  have := Int.mul_pos (show 0 < s by omega) (show 0 < s by omega)
  rw [ab_of (by omega)]
  omega
theorem summit_ob {s : Int} (hs : 1 ≤ s) : (nr ⟨0, 0, -(s * (s + 1))⟩).length = 4 := by
  have h := (closed_sq hs (.inr rfl) (m := 1)).1
  have e := stp_mx 0 0 (s * (s + 1))
  rw [show (-0 : Int) = 0 from rfl] at e
  have := Int.mul_pos (show 0 < s by omega) (show 0 < s + 1 by omega)
  refine (nr_len4 _).mpr (summit_near (p := s) (q := s + 1) hs (by omega) ?_ (by omega))
  rw [ab_neg, ab_of (by omega)]
  omega
theorem no_summit {s : Int} (hs : 1 ≤ s) : ¬ (nr ⟨s, s, 0⟩).length = 4 := fun h => by
  have h1 := (nr_len4 _).mp h 101 (by simp [isL])
  have h2 := (closed_ob hs (Int.le_refl s)).2.1
  have h3 : st (gone ⟨s, s, 0⟩ 101 1) = stp (s + 1) s 0 := rfl
  have h4 : st ⟨s, s, 0⟩ = stp s s 0 := rfl
  have h5 := stp_ge (s + 1) s 0
  rw [ab_of (by omega), ab_of (by omega)] at h5
  omega
theorem nr_east {s : Int} (hs : 1 ≤ s) : nr ⟨s, 0, 0⟩ = [119] := by
  have a0 : ab 0 = 0 := by decide
  have a1 : ab 1 = 1 := by decide
  have a2 : ab (-1) = 1 := by decide
  have g : ∀ z : Int, gnd z 0 0 = 0 := fun z => by rw [gnd0]; decide
  have st0 : ∀ z : Int, 0 ≤ z → stp z 0 0 = z := fun z hz => by
    have h1 := box_st (x := z) (y := 0) (a := 0) (p := z) (q := 0) (by rw [ab_of hz]; omega) (by omega) (by rw [g]; omega)
    have h2 := stp_ge z 0 0
    rw [ab_of hz, a0] at h1 h2
    omega
  have e0 : st ⟨s, 0, 0⟩ = s := st0 s (by omega)
  have e1 : st (gone ⟨s, 0, 0⟩ 101 1) = s + 1 := st0 (s + 1) (by omega)
  have e3 : st (gone ⟨s, 0, 0⟩ 119 1) = s - 1 := st0 (s - 1) (by omega)
  have e2 : s + 1 ≤ st (gone ⟨s, 0, 0⟩ 110 1) := by
    have := stp_ge s (0 + 1) (0 + s * 1)
    rw [ab_of (by omega)] at this
    have a1' : ab (0 + 1) = 1 := by decide
    show s + 1 ≤ stp s (0 + 1) (0 + s * 1)
    omega
  have e4 : s + 1 ≤ st (gone ⟨s, 0, 0⟩ 115 1) := by
    have := stp_ge s (0 - 1) (0 - s * 1)
    rw [ab_of (by omega)] at this
    have a1' : ab (0 - 1) = 1 := by decide
    show s + 1 ≤ stp s (0 - 1) (0 - s * 1)
    omega
  have d1 : decide (st (gone ⟨s, 0, 0⟩ 101 1) < st ⟨s, 0, 0⟩) = false := decide_eq_false (by omega)
  have d2 : decide (st (gone ⟨s, 0, 0⟩ 110 1) < st ⟨s, 0, 0⟩) = false := decide_eq_false (by omega)
  have d3 : decide (st (gone ⟨s, 0, 0⟩ 119 1) < st ⟨s, 0, 0⟩) = true := decide_eq_true (by omega)
  have d4 : decide (st (gone ⟨s, 0, 0⟩ 115 1) < st ⟨s, 0, 0⟩) = false := decide_eq_false (by omega)
  unfold nr
  rw [List.filter_cons_of_neg (by rw [d1]; decide), List.filter_cons_of_neg (by rw [d2]; decide), List.filter_cons_of_pos (by rw [d3]), List.filter_cons_of_neg (by rw [d4]; decide)]
  rfl
end ST
set_option maxRecDepth 100000
set_option maxHeartbeats 4000000
namespace ST
/-! ### least prices: the plain law -/
structure Pr where
  e : Int
  n : Int
  w : Int
  s : Int
def Pr.mx (P : Pr) : Pr := ⟨P.w, P.n, P.e, P.s⟩
def Pr.my (P : Pr) : Pr := ⟨P.e, P.s, P.w, P.n⟩
def Pr.t (P : Pr) : Pr := ⟨P.n, P.e, P.s, P.w⟩
structure Pr.Pos (P : Pr) : Prop where
  e : 1 ≤ P.e
  n : 1 ≤ P.n
  w : 1 ≤ P.w
  s : 1 ≤ P.s
theorem Pr.Pos.mx {P : Pr} (h : P.Pos) : P.mx.Pos := ⟨h.w, h.n, h.e, h.s⟩
theorem Pr.Pos.my {P : Pr} (h : P.Pos) : P.my.Pos := ⟨h.e, h.s, h.w, h.n⟩
theorem Pr.Pos.tt {P : Pr} (h : P.Pos) : P.t.Pos := ⟨h.n, h.e, h.s, h.w⟩
/-- steps of a kind over a frame's side -/
def ce (x p : Int) : Int := (if x < 0 then 0 else x) + p - ab x
/-- the price of a frame -/
def pc (P : Pr) (x y p q : Int) : Int := P.e * ce x p + P.n * ce y q + P.w * ce (-x) p + P.s * ce (-y) q
theorem ce_pos {x p : Int} (h : 0 ≤ x) : ce x p = p := by unfold ce ab; split <;> omega
theorem ce_neg {x p : Int} (h : x ≤ 0) : ce x p = p + x := by unfold ce ab; split <;> omega
theorem ce_nn {x p : Int} (h : ab x ≤ p) : 0 ≤ ce x p := by
  by_cases c : 0 ≤ x
  · rw [ce_pos c]; unfold ab at h; split at h <;> omega
  · rw [ce_neg (by omega)]; unfold ab at h; split at h <;> omega
theorem pc_mx (P : Pr) (x y p q : Int) : pc P.mx (-x) y p q = pc P x y p q := by
  unfold pc Pr.mx; rw [Int.neg_neg]; dsimp only; omega
theorem pc_my (P : Pr) (x y p q : Int) : pc P.my x (-y) p q = pc P x y p q := by
  unfold pc Pr.my; rw [Int.neg_neg]; dsimp only; omega
theorem pc_t (P : Pr) (x y p q : Int) : pc P.t y x q p = pc P x y p q := by
  unfold pc Pr.t; dsimp only; omega
theorem pc_nn {P : Pr} (hP : P.Pos) {x y a p q : Int} (b : Box x y a p q) : 0 ≤ pc P x y p q := by
  have h1 := ce_nn b.px
  have h2 := ce_nn b.qy
  have h3 := ce_nn (x := -x) (p := p) (by rw [ab_neg]; exact b.px)
  have h4 := ce_nn (x := -y) (p := q) (by rw [ab_neg]; exact b.qy)
  have k1 := pr_pos (show 0 ≤ P.e by have := hP.e; omega) h1
  have k2 := pr_pos (show 0 ≤ P.n by have := hP.n; omega) h2
  have k3 := pr_pos (show 0 ≤ P.w by have := hP.w; omega) h3
  have k4 := pr_pos (show 0 ≤ P.s by have := hP.s; omega) h4
  unfold pc
  omega
/-- a step and its price -/
inductive Sk (P : Pr) : Int → Int → Int → Int → Int → Int → Int → Prop
  | e (x y a : Int) : Sk P x y a (x + 1) y a P.e
  | w (x y a : Int) : Sk P x y a (x - 1) y a P.w
  | n (x y a : Int) : Sk P x y a x (y + 1) (a + x) P.n
  | s (x y a : Int) : Sk P x y a x (y - 1) (a - x) P.s
theorem Sk.pos {P : Pr} (hP : P.Pos) {x y a x' y' a' k : Int} (h : Sk P x y a x' y' a' k) : 1 ≤ k := by
  cases h with
  | e => exact hP.e
  | w => exact hP.w
  | n => exact hP.n
  | s => exact hP.s
theorem Sk.mx {P : Pr} {x y a x' y' a' k : Int} (h : Sk P x y a x' y' a' k) : Sk P.mx (-x) y (-a) (-x') y' (-a') k := by
  cases h with
  | e => rw [show -(x + 1) = -x - 1 by omega]; exact .w (P := P.mx) ..
  | w => rw [show -(x - 1) = -x + 1 by omega]; exact .e (P := P.mx) ..
  | n => rw [show -(a + x) = -a + -x by omega]; exact .n (P := P.mx) ..
  | s => rw [show -(a - x) = -a - -x by omega]; exact .s (P := P.mx) ..
theorem Sk.my {P : Pr} {x y a x' y' a' k : Int} (h : Sk P x y a x' y' a' k) : Sk P.my x (-y) (-a) x' (-y') (-a') k := by
  cases h with
  | e => exact .e (P := P.my) ..
  | w => exact .w (P := P.my) ..
  | n => rw [show -(y + 1) = -y - 1 by omega, show -(a + x) = -a - x by omega]; exact .s (P := P.my) ..
  | s => rw [show -(y - 1) = -y + 1 by omega, show -(a - x) = -a + x by omega]; exact .n (P := P.my) ..
theorem Sk.t {P : Pr} {x y a x' y' a' k : Int} (h : Sk P x y a x' y' a' k) : Sk P.t y x (x * y - a) y' x' (x' * y' - a') k := by
  cases h with
  | e => rw [show (x + 1) * y - a = x * y - a + y by grind]; exact .n (P := P.t) ..
  | w => rw [show (x - 1) * y - a = x * y - a - y by grind]; exact .s (P := P.t) ..
  | n => rw [show x * (y + 1) - (a + x) = x * y - a by grind]; exact .e (P := P.t) ..
  | s => rw [show x * (y - 1) - (a - x) = x * y - a by grind]; exact .w (P := P.t) ..
theorem Sk.ahead {P : Pr} {x y a x' y' a' k : Int} (h : Sk P x y a x' y' a' k) (u v b : Int) : Sk P (u + x) (v + y) (b + a + u * y) (u + x') (v + y') (b + a' + u * y') k := by
  cases h with
  | e => rw [show u + (x + 1) = u + x + 1 by omega]; exact .e ..
  | w => rw [show u + (x - 1) = u + x - 1 by omega]; exact .w ..
  | n => rw [show v + (y + 1) = v + y + 1 by omega, show b + (a + x) + u * (y + 1) = b + a + u * y + (u + x) by grind]; exact .n ..
  | s => rw [show v + (y - 1) = v + y - 1 by omega, show b + (a - x) + u * (y - 1) = b + a + u * y - (u + x) by grind]; exact .s ..
theorem pc_e {P : Pr} {x x' y p p' q : Int} (h : ce x' p' = ce x p + 1) (k : ce (-x') p' = ce (-x) p) : pc P x' y p' q = pc P x y p q + P.e := by
  unfold pc; rw [h, k, show P.e * (ce x p + 1) = P.e * ce x p + P.e by grind]; omega
theorem pc_w {P : Pr} {x x' y p p' q : Int} (h : ce (-x') p' = ce (-x) p + 1) (k : ce x' p' = ce x p) : pc P x' y p' q = pc P x y p q + P.w := by
  unfold pc; rw [h, k, show P.w * (ce (-x) p + 1) = P.w * ce (-x) p + P.w by grind]; omega
theorem pc_n {P : Pr} {x y y' p q q' : Int} (h : ce y' q' = ce y q + 1) (k : ce (-y') q' = ce (-y) q) : pc P x y' p q' = pc P x y p q + P.n := by
  unfold pc; rw [h, k, show P.n * (ce y q + 1) = P.n * ce y q + P.n by grind]; omega
/-- a step further costs its price more: east -/
theorem kup_e (P : Pr) {x y a p q : Int} (b : Box x y a p q) : ∃ p' q', Box (x + 1) y a p' q' ∧ pc P (x + 1) y p' q' = pc P x y p q + P.e := by
  obtain ⟨h1, h2, h3⟩ := b
  rw [gnd_le] at h3
  by_cases hx : 0 ≤ x
  · refine ⟨p + 1, q, ⟨by unfold ab at *; split <;> split at h1 <;> omega, h2, ?_⟩, pc_e (by (try rw [Int.neg_zero]); (first | rw [ce_pos (by omega)] | rw [ce_neg (by omega)]); (try (first | rw [ce_pos (by omega)] | rw [ce_neg (by omega)])); (try omega)) (by (try rw [Int.neg_zero]); (first | rw [ce_pos (by omega)] | rw [ce_neg (by omega)]); (try (first | rw [ce_pos (by omega)] | rw [ce_neg (by omega)])); (try omega))⟩
    rw [gnd_le, show (x + 1) * y = x * y + y by grind, show (p + 1) * q = p * q + q by grind]
    have hq := ab_nonneg y
    by_cases hy : 0 ≤ y
    · have := pr_pos hx hy
      have hy' : y ≤ q := by unfold ab at h2; split at h2 <;> omega
      simp only [show ¬ x * y < 0 by omega, show ¬ x * y + y < 0 by omega, if_false] at h3 ⊢
      omega
    · have hy' : -y ≤ q := by unfold ab at h2; split at h2 <;> omega
      have h5 : x * y ≤ 0 := by have := pr_pos hx (show 0 ≤ -y by omega); rw [Int.mul_neg] at this; omega
      by_cases c : x * y < 0
      · simp only [c, show x * y + y < 0 by omega, if_true] at h3 ⊢; omega
      · simp only [c, show x * y + y < 0 by omega, if_true, if_false] at h3 ⊢; omega
  · refine ⟨p, q, ⟨by unfold ab at *; split <;> split at h1 <;> omega, h2, ?_⟩, pc_e (by (try rw [Int.neg_zero]); (first | rw [ce_pos (by omega)] | rw [ce_neg (by omega)]); (try (first | rw [ce_pos (by omega)] | rw [ce_neg (by omega)])); (try omega)) (by (try rw [Int.neg_zero]); (first | rw [ce_pos (by omega)] | rw [ce_neg (by omega)]); (try (first | rw [ce_pos (by omega)] | rw [ce_neg (by omega)])); (try omega))⟩
    rw [gnd_le, show (x + 1) * y = x * y + y by grind]
    by_cases hy : 0 ≤ y
    · have h5 : x * y ≤ -y := by have := pr_pos (show 0 ≤ -x - 1 by omega) hy; rw [show (-x - 1) * y = -(x * y) - y by grind] at this; omega
      by_cases c : x * y < 0 <;> by_cases c' : x * y + y < 0 <;> simp only [c, c', if_true, if_false] at h3 ⊢ <;> omega
    · have h5 : 0 ≤ x * y + y := by have := pr_pos (show 0 ≤ -x - 1 by omega) (show 0 ≤ -y by omega); rw [show (-x - 1) * -y = x * y + y by grind] at this; omega
      by_cases c : x * y < 0 <;> by_cases c' : x * y + y < 0 <;> simp only [c, c', if_true, if_false] at h3 ⊢ <;> omega
theorem kup_w (P : Pr) {x y a p q : Int} (b : Box x y a p q) : ∃ p' q', Box (x - 1) y a p' q' ∧ pc P (x - 1) y p' q' = pc P x y p q + P.w := by
  obtain ⟨p', q', b', c⟩ := kup_e P.mx b.mx
  have := b'.mx
  rw [show -(-x + 1) = x - 1 by omega, show - -a = a by omega] at this
  refine ⟨p', q', this, ?_⟩
  rw [pc_mx] at c
  rw [← pc_mx, show -(x - 1) = -x + 1 by omega]
  exact c
theorem kup {P : Pr} {x y a x' y' a' k p q : Int} (h : Sk P x y a x' y' a' k) (b : Box x y a p q) : ∃ p' q', Box x' y' a' p' q' ∧ pc P x' y' p' q' = pc P x y p q + k := by
  cases h with
  | e => exact kup_e P b
  | w => exact kup_w P b
  | n =>
    obtain ⟨p', q', b', c⟩ := kup_e P.t b.t
    have := b'.t
    rw [show (y + 1) * x - (x * y - a) = a + x by grind] at this
    exact ⟨q', p', this, by rw [← pc_t P, c, pc_t]; rfl⟩
  | s =>
    obtain ⟨p', q', b', c⟩ := kup_w P.t b.t
    have := b'.t
    rw [show (y - 1) * x - (x * y - a) = a - x by grind] at this
    exact ⟨q', p', this, by rw [← pc_t P, c, pc_t]; rfl⟩
/-- the last step: over the first quarter, from half the oblong on -/
def Dn (P : Pr) (x y a p q : Int) : Prop := ∃ x' y' a' p' q' k, Sk P x' y' a' x y a k ∧ Box x' y' a' p' q' ∧ pc P x y p q = pc P x' y' p' q' + k
theorem sk_e (P : Pr) (x y a : Int) : Sk P (x - 1) y a x y a P.e := by have := Sk.e (P := P) (x - 1) y a; rwa [show x - 1 + 1 = x by omega] at this
theorem sk_w (P : Pr) (x y a : Int) : Sk P (x + 1) y a x y a P.w := by have := Sk.w (P := P) (x + 1) y a; rwa [show x + 1 - 1 = x by omega] at this
theorem sk_n (P : Pr) (x y a : Int) : Sk P x (y - 1) (a - x) x y a P.n := by have := Sk.n (P := P) x (y - 1) (a - x); rwa [show y - 1 + 1 = y by omega, show a - x + x = a by omega] at this
theorem kdown0 (P : Pr) {x y a p q : Int} (b : Box x y a p q) (hx : 0 ≤ x) (hy : 0 ≤ y) (h2 : x * y ≤ 2 * a) (h0 : ¬ (x = 0 ∧ y = 0 ∧ a = 0)) : Dn P x y a p q := by
  obtain ⟨b1, b2, b3⟩ := b
  have t0 := pr_pos hx hy
  rw [gnd_le] at b3
  simp only [show ¬ x * y < 0 by omega, if_false] at b3
  have e1 : ab x = x := by unfold ab; split <;> omega
  have e2 : ab y = y := by unfold ab; split <;> omega
  rw [e1] at b1
  rw [e2] at b2
  by_cases hp : x < p
  · refine ⟨_, _, _, p, q, _, sk_w P x y a, ⟨by unfold ab; split <;> omega, by rw [e2]; exact b2, ?_⟩, pc_w (by (try rw [Int.neg_zero]); (first | rw [ce_pos (by omega)] | rw [ce_neg (by omega)]); (try (first | rw [ce_pos (by omega)] | rw [ce_neg (by omega)])); (try omega)) (by (try rw [Int.neg_zero]); (first | rw [ce_pos (by omega)] | rw [ce_neg (by omega)]); (try (first | rw [ce_pos (by omega)] | rw [ce_neg (by omega)])); (try omega))⟩
    rw [gnd_le, show (x + 1) * y = x * y + y by grind]
    simp only [show ¬ x * y + y < 0 by omega, if_false]
    have h5 := pr_pos (show 0 ≤ p - x - 1 by omega) (show 0 ≤ q by omega)
    have h6 := pr_pos (show 0 ≤ x + 1 by omega) (show 0 ≤ q - y by omega)
    rw [show (p - x - 1) * q = p * q - x * q - q by grind] at h5
    rw [show (x + 1) * (q - y) = x * q - x * y + q - y by grind] at h6
    omega
  · have hpx : p = x := by omega
    subst hpx
    by_cases hq : y < q
    · have h5 := pr_pos hx (show 0 ≤ q - y - 1 by omega)
      rw [show p * (q - y - 1) = p * q - p * y - p by grind] at h5
      by_cases y1 : 1 ≤ y
      · refine ⟨_, _, _, p, q - 1, _, sk_n P p y a, ⟨by rw [e1]; exact Int.le_refl _, by unfold ab; split <;> omega, ?_⟩, pc_n (by (try rw [Int.neg_zero]); (first | rw [ce_pos (by omega)] | rw [ce_neg (by omega)]); (try (first | rw [ce_pos (by omega)] | rw [ce_neg (by omega)])); (try omega)) (by (try rw [Int.neg_zero]); (first | rw [ce_pos (by omega)] | rw [ce_neg (by omega)]); (try (first | rw [ce_pos (by omega)] | rw [ce_neg (by omega)])); (try omega))⟩
        have h6 := pr_pos hx (show 0 ≤ y - 1 by omega)
        rw [gnd_le, show p * (y - 1) = p * y - p by grind, show p * (q - 1) = p * q - p by grind]
        rw [show p * (y - 1) = p * y - p by grind] at h6
        simp only [show ¬ p * y - p < 0 by omega, if_false]
        omega
      · have y0 : y = 0 := by omega
        subst y0
        refine ⟨_, _, _, p, q, _, sk_n P p 0 a, ⟨by rw [e1]; exact Int.le_refl _, by unfold ab; split <;> omega, ?_⟩, pc_n (by (try rw [Int.neg_zero]); (first | rw [ce_pos (by omega)] | rw [ce_neg (by omega)]); (try (first | rw [ce_pos (by omega)] | rw [ce_neg (by omega)])); (try omega)) (by (try rw [Int.neg_zero]); (first | rw [ce_pos (by omega)] | rw [ce_neg (by omega)]); (try (first | rw [ce_pos (by omega)] | rw [ce_neg (by omega)])); (try omega))⟩
        rw [gnd_le, show p * (0 - 1) = -p by grind]
        rw [Int.mul_zero] at h5 h2 b3
        by_cases c : -p < 0 <;> simp only [c, if_true, if_false] <;> omega
    · have hqy : q = y := by omega
      subst hqy
      by_cases ha : 1 ≤ q ∧ p ≤ a
      · refine ⟨_, _, _, p, q - 1, _, sk_n P p q a, ⟨by rw [e1]; exact Int.le_refl _, by unfold ab; split <;> omega, ?_⟩, pc_n (by (try rw [Int.neg_zero]); (first | rw [ce_pos (by omega)] | rw [ce_neg (by omega)]); (try (first | rw [ce_pos (by omega)] | rw [ce_neg (by omega)])); (try omega)) (by (try rw [Int.neg_zero]); (first | rw [ce_pos (by omega)] | rw [ce_neg (by omega)]); (try (first | rw [ce_pos (by omega)] | rw [ce_neg (by omega)])); (try omega))⟩
        have h6 := pr_pos hx (show 0 ≤ q - 1 by omega)
        rw [gnd_le, show p * (q - 1) = p * q - p by grind]
        rw [show p * (q - 1) = p * q - p by grind] at h6
        simp only [show ¬ p * q - p < 0 by omega, if_false]
        omega
      · have x1 : 1 ≤ p := by
          by_cases z : 1 ≤ p
          · exact z
          · have p0 : p = 0 := by omega
            subst p0
            rw [Int.zero_mul] at b3
            omega
        refine ⟨_, _, _, p - 1, q, _, sk_e P p q a, ⟨by unfold ab; split <;> omega, by rw [e2]; exact Int.le_refl _, ?_⟩, pc_e (by (try rw [Int.neg_zero]); (first | rw [ce_pos (by omega)] | rw [ce_neg (by omega)]); (try (first | rw [ce_pos (by omega)] | rw [ce_neg (by omega)])); (try omega)) (by (try rw [Int.neg_zero]); (first | rw [ce_pos (by omega)] | rw [ce_neg (by omega)]); (try (first | rw [ce_pos (by omega)] | rw [ce_neg (by omega)])); (try omega))⟩
        have h6 := pr_pos (show 0 ≤ p - 1 by omega) hy
        rw [gnd_le, show (p - 1) * q = p * q - q by grind]
        rw [show (p - 1) * q = p * q - q by grind] at h6
        simp only [show ¬ p * q - q < 0 by omega, if_false]
        by_cases q1 : 1 ≤ q
        · have h7 := pr_pos (show 0 ≤ p - 1 by omega) (show 0 ≤ q - 1 by omega)
          rw [show (p - 1) * (q - 1) = p * q - p - q + 1 by grind] at h7
          omega
        · have q0 : q = 0 := by omega
          subst q0
          rw [Int.mul_zero] at b3 h2 ⊢
          omega
theorem kdown1 (P : Pr) {x y a p q : Int} (b : Box x y a p q) (hx : 0 ≤ x) (hy : 0 ≤ y) (h0 : ¬ (x = 0 ∧ y = 0 ∧ a = 0)) : Dn P x y a p q := by
  by_cases h : x * y ≤ 2 * a
  · exact kdown0 P b hx hy h h0
  · obtain ⟨x', y', a', p', q', k, s, b', c⟩ := kdown0 P.t b.t hy hx (by rw [Int.mul_comm]; omega) (fun z => h0 ⟨z.2.1, z.1, by rw [z.1, Int.mul_zero] at z; omega⟩)
    have s' := s.t
    rw [show y * x - (x * y - a) = a by grind] at s'
    refine ⟨y', x', _, q', p', k, s', b'.t, ?_⟩
    rw [← pc_t P, c, ← pc_t P.t]
    rfl
theorem kdown (P : Pr) {x y a p q : Int} (b : Box x y a p q) (h0 : ¬ (x = 0 ∧ y = 0 ∧ a = 0)) : Dn P x y a p q := by
  have half : ∀ (P : Pr) {x y a p q : Int}, Box x y a p q → 0 ≤ y → ¬ (x = 0 ∧ y = 0 ∧ a = 0) → Dn P x y a p q := fun P {x y a p q} b hy h0 => by
    by_cases hx : 0 ≤ x
    · exact kdown1 P b hx hy h0
    · obtain ⟨x', y', a', p', q', k, s, b', c⟩ := kdown1 P.mx b.mx (by omega) hy (by omega)
      have s' := s.mx
      rw [show - -x = x by omega, show - -a = a by omega] at s'
      refine ⟨_, _, _, p', q', k, s', b'.mx, ?_⟩
      rw [← pc_mx P, c, ← pc_mx P.mx]
      rfl
  by_cases hy : 0 ≤ y
  · exact half P b hy h0
  · obtain ⟨x', y', a', p', q', k, s, b', c⟩ := half P.my b.my (by omega) (by omega)
    have s' := s.my
    rw [show - -y = y by omega, show - -a = a by omega] at s'
    refine ⟨_, _, _, p', q', k, s', b'.my, ?_⟩
    rw [← pc_my P, c, ← pc_my P.my]
    rfl
/-! ### the least price of a place -/
structure Lp (P : Pr) (s : Sp) (v : Int) : Prop where
  has : ∃ p q, Box s.x s.y s.a p q ∧ pc P s.x s.y p q = v
  low : ∀ p q, Box s.x s.y s.a p q → v ≤ pc P s.x s.y p q
theorem Lp.uniq {P : Pr} {s : Sp} {v v' : Int} (h : Lp P s v) (h' : Lp P s v') : v = v' := by
  obtain ⟨p, q, b, e⟩ := h.has
  obtain ⟨p', q', b', e'⟩ := h'.has
  have := h.low _ _ b'
  have := h'.low _ _ b
  omega
theorem Lp.sym {P P' : Pr} {s s' : Sp} {v : Int} (h : Lp P s v) (f : ∀ p q, Box s.x s.y s.a p q → ∃ p' q', Box s'.x s'.y s'.a p' q' ∧ pc P' s'.x s'.y p' q' = pc P s.x s.y p q)
    (g : ∀ p q, Box s'.x s'.y s'.a p q → ∃ p' q', Box s.x s.y s.a p' q' ∧ pc P' s'.x s'.y p q = pc P s.x s.y p' q') : Lp P' s' v := by
  obtain ⟨p, q, b, e⟩ := h.has
  obtain ⟨p', q', b', e'⟩ := f p q b
  refine ⟨⟨p', q', b', by rw [e', e]⟩, fun p q b => ?_⟩
  obtain ⟨p', q', b', e'⟩ := g p q b
  rw [e']
  exact h.low _ _ b'
theorem Lp.mx {P : Pr} {s : Sp} {v : Int} (h : Lp P s v) : Lp P.mx ⟨-s.x, s.y, -s.a⟩ v :=
  h.sym (fun p q b => ⟨p, q, b.mx, pc_mx ..⟩) (fun p q b => ⟨p, q, by have := b.mx; dsimp only at this; rwa [Int.neg_neg, Int.neg_neg] at this, pc_mx ..⟩)
theorem Lp.my {P : Pr} {s : Sp} {v : Int} (h : Lp P s v) : Lp P.my ⟨s.x, -s.y, -s.a⟩ v :=
  h.sym (fun p q b => ⟨p, q, b.my, pc_my ..⟩) (fun p q b => ⟨p, q, by have := b.my; dsimp only at this; rwa [Int.neg_neg, Int.neg_neg] at this, pc_my ..⟩)
theorem Lp.t {P : Pr} {s : Sp} {v : Int} (h : Lp P s v) : Lp P.t ⟨s.y, s.x, s.x * s.y - s.a⟩ v :=
  h.sym (fun p q b => ⟨q, p, b.t, pc_t ..⟩) (fun p q b => ⟨q, p, by have := b.t; dsimp only at this; rwa [show s.y * s.x - (s.x * s.y - s.a) = s.a by grind] at this, pc_t P s.x s.y q p⟩)
theorem gnd_bk (x y a : Int) : gnd (-x) (-y) (x * y - a) = gnd x y a := by
  unfold gnd
  rw [show 2 * (x * y - a) - -x * -y = -(2 * a - x * y) by grind, show -x * -y = x * y by grind, ab_neg]
theorem Lp.bk {P : Pr} {s : Sp} {v : Int} (h : Lp P s v) : Lp P.mx.my ⟨-s.x, -s.y, s.x * s.y - s.a⟩ v :=
  h.sym (fun p q b => ⟨p, q, ⟨by rw [ab_neg]; exact b.px, by rw [ab_neg]; exact b.qy, by rw [gnd_bk]; exact b.room⟩, by rw [pc_my, pc_mx]⟩)
    (fun p q b => ⟨p, q, ⟨by have := b.px; rwa [ab_neg] at this, by have := b.qy; rwa [ab_neg] at this, by have := b.room; rwa [gnd_bk] at this⟩, by dsimp only; rw [pc_my, pc_mx]⟩)
theorem Lp.nn {P : Pr} (hP : P.Pos) {s : Sp} {v : Int} (h : Lp P s v) : 0 ≤ v := by
  obtain ⟨p, q, b, e⟩ := h.has
  rw [← e]
  exact pc_nn hP b
def Pr.tms (k : Int) (P : Pr) : Pr := ⟨P.e * k, P.n * k, P.w * k, P.s * k⟩
theorem pc_mul (k : Int) (P : Pr) (x y p q : Int) : pc (P.tms k) x y p q = pc P x y p q * k := by
  unfold pc Pr.tms; dsimp only; grind
theorem Lp.tms {P : Pr} {s : Sp} {v k : Int} (hk : 0 ≤ k) (h : Lp P s v) : Lp (P.tms k) s (v * k) := by
  obtain ⟨p, q, b, e⟩ := h.has
  refine ⟨⟨p, q, b, by rw [pc_mul, e]⟩, fun p q b => ?_⟩
  rw [pc_mul]
  exact Int.mul_le_mul_of_nonneg_right (h.low _ _ b) hk
theorem pc_one (k : Int) (x y p q : Int) : pc ⟨k, k, k, k⟩ x y p q = k * cost x y p q := by
  have h1 : ce x p + ce (-x) p = 2 * p - ab x := by
    unfold ce; rw [ab_neg]; unfold ab
    repeat' split
    all_goals omega
  have h2 : ce y q + ce (-y) q = 2 * q - ab y := by
    unfold ce; rw [ab_neg]; unfold ab
    repeat' split
    all_goals omega
  unfold pc cost
  dsimp only
  rw [show k * ce x p + k * ce y q + k * ce (-x) p + k * ce (-y) q = k * (ce x p + ce (-x) p) + k * (ce y q + ce (-y) q) by grind, h1, h2]
  grind
theorem Lp.one {s : Sp} {k : Int} (hk : 0 ≤ k) : Lp ⟨k, k, k, k⟩ s (k * st s) := by
  obtain ⟨p, q, b, e⟩ := stp_box s.x s.y s.a
  refine ⟨⟨p, q, b, by rw [pc_one, ← e]; rfl⟩, fun p q b => ?_⟩
  rw [pc_one]
  exact Int.mul_le_mul_of_nonneg_left (stp_le b) hk
structure Pr.Le (P Q : Pr) : Prop where
  e : P.e ≤ Q.e
  n : P.n ≤ Q.n
  w : P.w ≤ Q.w
  s : P.s ≤ Q.s
theorem Lp.dear {P Q : Pr} {s : Sp} {v w : Int} (h : Lp P s v) (h' : Lp Q s w) (l : P.Le Q) : v ≤ w := by
  obtain ⟨p, q, b, e⟩ := h'.has
  have h0 := h.low _ _ b
  have k1 := Int.mul_le_mul_of_nonneg_right l.e (ce_nn b.px)
  have k2 := Int.mul_le_mul_of_nonneg_right l.n (ce_nn b.qy)
  have k3 := Int.mul_le_mul_of_nonneg_right l.w (ce_nn (x := -s.x) (p := p) (by rw [ab_neg]; exact b.px))
  have k4 := Int.mul_le_mul_of_nonneg_right l.s (ce_nn (x := -s.y) (p := q) (by rw [ab_neg]; exact b.qy))
  unfold pc at h0 e
  omega
theorem tri_box {P : Pr} (hP : P.Pos) {u v b p q : Int} (B : Box u v b p q) : ∀ (n : Nat) (x y a p' q' : Int), Box x y a p' q' → pc P x y p' q' ≤ n →
    ∃ p2 q2, Box (u + x) (v + y) (b + a + u * y) p2 q2 ∧ pc P (u + x) (v + y) p2 q2 ≤ pc P u v p q + pc P x y p' q' := by
  intro n
  induction n with
  | zero =>
    intro x y a p' q' B' h
    by_cases h0 : x = 0 ∧ y = 0 ∧ a = 0
    · obtain ⟨rfl, rfl, rfl⟩ := h0
      refine ⟨p, q, ?_, ?_⟩
      · rw [show u + 0 = u by omega, show v + 0 = v by omega, show b + 0 + u * 0 = b by grind]
        exact B
      · rw [show u + 0 = u by omega, show v + 0 = v by omega]
        have := pc_nn hP B'
        omega
    · obtain ⟨x', y', a', p2, q2, k, s, B2, c⟩ := kdown P B' h0
      have := pc_nn hP B2
      have := s.pos hP
      simp at h
      omega
  | succ n ih =>
    intro x y a p' q' B' h
    by_cases h0 : x = 0 ∧ y = 0 ∧ a = 0
    · obtain ⟨rfl, rfl, rfl⟩ := h0
      refine ⟨p, q, ?_, ?_⟩
      · rw [show u + 0 = u by omega, show v + 0 = v by omega, show b + 0 + u * 0 = b by grind]
        exact B
      · rw [show u + 0 = u by omega, show v + 0 = v by omega]
        have := pc_nn hP B'
        omega
    · obtain ⟨x', y', a', p2, q2, k, s, B2, c⟩ := kdown P B' h0
      have hk := s.pos hP
      obtain ⟨p3, q3, B3, c3⟩ := ih x' y' a' p2 q2 B2 (by omega)
      obtain ⟨p4, q4, B4, c4⟩ := kup (s.ahead u v b) B3
      exact ⟨p4, q4, B4, by omega⟩
theorem Lp.tri {P : Pr} (hP : P.Pos) {s t : Sp} {v w z : Int} (h : Lp P s v) (k : Lp P t w) (m : Lp P (ST.mul s t) z) : z ≤ v + w := by
  obtain ⟨p, q, b, e⟩ := h.has
  obtain ⟨p', q', b', e'⟩ := k.has
  have hn := pc_nn hP b'
  obtain ⟨p2, q2, b2, c⟩ := tri_box hP b (pc P t.x t.y p' q').toNat t.x t.y t.a p' q' b' (by omega)
  have := m.low p2 q2 b2
  dsimp only [ST.mul] at this
  omega
/-! ### walks -/
def prL (P : Pr) (c : Nat) : Int := if c = 101 then P.e else if c = 110 then P.n else if c = 119 then P.w else P.s
def cst (P : Pr) : Runs → Int
  | [] => 0
  | q :: r => prL P q.1 * q.2 + cst P r
theorem sk_gone (P : Pr) {p : Sp} {c : Nat} (h : isL c) : Sk P p.x p.y p.a (gone p c 1).x (gone p c 1).y (gone p c 1).a (prL P c) := by
  rcases h with rfl | rfl | rfl | rfl
  · exact .e ..
  · have := Sk.n (P := P) p.x p.y p.a
    simpa [gone, prL] using this
  · exact .w ..
  · have := Sk.s (P := P) p.x p.y p.a
    simpa [gone, prL] using this
theorem run_box {P : Pr} {c : Nat} (hc : isL c) {s : Sp} : ∀ (n : Nat) {p q : Int}, Box s.x s.y s.a p q →
    ∃ p' q', Box (gone s c n).x (gone s c n).y (gone s c n).a p' q' ∧ pc P (gone s c n).x (gone s c n).y p' q' = pc P s.x s.y p q + prL P c * n
  | 0, p, q, b => ⟨p, q, by simp only [Int.natCast_zero, gone_zero]; exact b, by simp [gone_zero]⟩
  | n + 1, p, q, b => by
    obtain ⟨p', q', b', e'⟩ := run_box hc n b
    obtain ⟨p2, q2, b2, e2⟩ := kup (sk_gone P (p := gone s c n) hc) b'
    rw [gone_add] at b2 e2
    refine ⟨p2, q2, by exact_mod_cast b2, ?_⟩
    rw [show ((n + 1 : Nat) : Int) = (n : Int) + 1 by omega, e2, e']
    grind
theorem led_box {P : Pr} : ∀ {r : Runs} {s : Sp} {p q : Int}, Good r → Box s.x s.y s.a p q →
    ∃ p' q', Box (led s r).x (led s r).y (led s r).a p' q' ∧ pc P (led s r).x (led s r).y p' q' = pc P s.x s.y p q + cst P r
  | [], s, p, q, _, b => ⟨p, q, b, by simp [cst, led]⟩
  | (c, t) :: r, s, p, q, g, b => by
    obtain ⟨hc, ht⟩ := g.head
    dsimp only at hc ht
    obtain ⟨n, rfl⟩ := Int.eq_ofNat_of_zero_le ht
    obtain ⟨p', q', b', e'⟩ := run_box (P := P) hc n b
    obtain ⟨p2, q2, b2, e2⟩ := led_box (P := P) g.tail b'
    refine ⟨p2, q2, b2, ?_⟩
    refine e2.trans ?_
    rw [e']
    simp only [cst]
    omega
theorem Lp.walk {P : Pr} {r : Runs} (g : Good r) {v : Int} (h : Lp P (led home r) v) : v ≤ cst P r := by
  obtain ⟨p, q, b, e⟩ := led_box (P := P) (s := home) (p := 0) (q := 0) g ⟨by decide, by decide, by decide⟩
  have := h.low _ _ b
  have : pc P home.x home.y 0 0 = 0 := by simp [pc, ce, ab]
  omega
end ST
set_option maxRecDepth 100000
set_option maxHeartbeats 4000000
namespace ST
/-! ### the best frame: the plain law -/
def mxI (i j : Int) : Int := if j > i then j else i
def mnI (i j : Int) : Int := if j < i then j else i
theorem mxI_le {i j : Int} : i ≤ mxI i j ∧ j ≤ mxI i j ∧ (mxI i j = i ∨ mxI i j = j) := by unfold mxI; split <;> omega
theorem mnI_le {i j : Int} : mnI i j ≤ i ∧ mnI i j ≤ j ∧ (mnI i j = i ∨ mnI i j = j) := by unfold mnI; split <;> omega
/-- sides of a frame that hold the room -/
structure Fe (X Y R p q : Int) : Prop where
  x : X ≤ p
  y : Y ≤ q
  r : R ≤ p * q
structure Bst (A U X Y R p q : Int) : Prop where
  fe : Fe X Y R p q
  low : ∀ p' q', Fe X Y R p' q' → A * p + U * q ≤ A * p' + U * q'
theorem bst0 {A U X Y R : Int} (hA : 1 ≤ A) (hU : 1 ≤ U) (h : R ≤ X * Y) : Bst A U X Y R X Y :=
  ⟨⟨Int.le_refl _, Int.le_refl _, h⟩, fun p' q' f => by
    have h1 := Int.mul_le_mul_of_nonneg_left f.x (show 0 ≤ A by omega)
    have h2 := Int.mul_le_mul_of_nonneg_left f.y (show 0 ≤ U by omega)
    omega⟩
theorem low1 {A U X Y R p q : Int} (hA : 1 ≤ A) (hU : 1 ≤ U) (hX : 0 < X) (hY : 0 ≤ Y) (h : U * R < A * X * X) (f : Fe X Y R p q) : A * X + ceilD (U * R) X ≤ A * p + U * q := by
  have hc := (ceilD_le (z := U * R) hX).2
  have key : U * R ≤ X * (A * p + U * q - A * X) := by
    have h1 := Int.mul_le_mul_of_nonneg_left f.r (show 0 ≤ U by omega)
    have hd := f.x
    have hq : 0 ≤ q := by have := f.y; omega
    obtain ⟨d, rfl⟩ : ∃ d, p = X + d := ⟨p - X, by omega⟩
    have hd0 : 0 ≤ d := by omega
    rw [show X * (A * (X + d) + U * q - A * X) = X * A * d + X * U * q by grind]
    by_cases c : U * q ≤ A * X
    · have h2 := Int.mul_le_mul_of_nonneg_right c hd0
      rw [show U * ((X + d) * q) = X * U * q + U * q * d by grind] at h1
      rw [show X * A * d = A * X * d by grind]
      omega
    · have h2 := Int.mul_le_mul_of_nonneg_left (show A * X ≤ U * q by omega) (show 0 ≤ X by omega)
      have h3 := pr_pos (pr_pos (show 0 ≤ X by omega) (show 0 ≤ A by omega)) hd0
      rw [show X * (A * X) = A * X * X by grind, show X * (U * q) = X * U * q by grind] at h2
      omega
  by_cases c : A * X + ceilD (U * R) X ≤ A * p + U * q
  · exact c
  · have := Int.mul_le_mul_of_nonneg_left (show A * p + U * q - A * X ≤ ceilD (U * R) X - 1 by omega) (show 0 ≤ X by omega)
    omega
theorem low3 {A U X Y R p q : Int} (hA : 1 ≤ A) (hU : 1 ≤ U) (hX : 0 ≤ X) (hY : 0 ≤ Y) (hR : 0 ≤ R) (f : Fe X Y R p q) : rt (4 * A * U * R) ≤ A * p + U * q := by
  have hn : 0 ≤ 4 * A * U * R := pr_pos (pr_pos (pr_pos (by decide) (by omega)) (by omega)) hR
  have hp : 0 ≤ p := by have := f.x; omega
  have hq : 0 ≤ q := by have := f.y; omega
  have hr := rt_is hn
  have h1 := pr_pos (show 0 ≤ A by omega) hp
  have h2 := pr_pos (show 0 ≤ U by omega) hq
  by_cases c : rt (4 * A * U * R) ≤ A * p + U * q
  · exact c
  · obtain ⟨r0, r1, r2⟩ := hr
    have r3 := r2 (by omega)
    generalize rt (4 * A * U * R) = r at *
    have h3 : 4 * A * U * R ≤ (A * p + U * q) * (A * p + U * q) := by
      have h4 := Int.mul_le_mul_of_nonneg_left f.r (pr_pos (pr_pos (show (0 : Int) ≤ 4 by decide) (show 0 ≤ A by omega)) (show 0 ≤ U by omega))
      have h5 := sq4 (A * p) (U * q)
      rw [show 4 * A * U * (p * q) = 4 * (A * p * (U * q)) by grind] at h4
      omega
    have h6 : (A * p + U * q) * (A * p + U * q) ≤ (r - 1) * (r - 1) := Int.mul_le_mul (by omega) (by omega) (by omega) (by omega)
    omega
noncomputable def lowP (X Y R A U : Int) : Int :=
  if U * R < A * X * X then A * X + ceilD (U * R) X
  else if A * R < U * Y * Y then U * Y + ceilD (A * R) Y
  else rt (4 * A * U * R)
theorem sqp {A X V : Int} (hX : 0 ≤ X) (hV : 0 ≤ V) (h : V < A * X * X) : 0 < X := by
  by_cases c : X = 0
  · subst c; rw [Int.mul_zero] at h; omega
  · omega
theorem lowP_le {A U X Y R p q : Int} (hA : 1 ≤ A) (hU : 1 ≤ U) (hX : 0 ≤ X) (hY : 0 ≤ Y) (hR : 0 ≤ R) (f : Fe X Y R p q) : lowP X Y R A U ≤ A * p + U * q := by
  unfold lowP
  split
  · rename_i c
    exact low1 hA hU (sqp hX (pr_pos (by omega) hR) c) hY c f
  · split
    · rename_i c
      have := low1 (X := Y) (Y := X) (R := R) (p := q) (q := p) hU hA (sqp hY (pr_pos (by omega) hR) c) hX c ⟨f.y, f.x, by rw [Int.mul_comm]; exact f.r⟩
      omega
    · exact low3 hA hU hX hY hR f
/-! the divisor of both prices -/
structure Gd (A U g s a u t : Int) : Prop where
  hA : A = g * a
  hU : U = g * u
  e : s * a + t * u = 1
  g1 : 1 ≤ g
  a1 : 1 ≤ a
  u1 : 1 ≤ u
theorem gd_of {A U g s t : Int} (hA : 1 ≤ A) (hU : 1 ≤ U) (hg : g = Int.gcd A U) (e : s * A + t * U = g) : ∃ a u, Gd A U g s a u t := by
  have dA : g ∣ A := hg ▸ Int.gcd_dvd_left ..
  have dU : g ∣ U := hg ▸ Int.gcd_dvd_right ..
  obtain ⟨a, rfl⟩ := dA
  obtain ⟨u, rfl⟩ := dU
  have g0 : 0 ≤ g := by rw [hg]; omega
  have g1 : 1 ≤ g := by
    by_cases z : g = 0
    · subst z; rw [Int.zero_mul] at hA; omega
    · omega
  refine ⟨a, u, rfl, rfl, ?_, g1, ?_, ?_⟩
  · have : g * (s * a + t * u) = g * 1 := by rw [Int.mul_one]; grind
    exact Int.eq_of_mul_eq_mul_left (by omega) this
  · by_cases z : 1 ≤ a
    · exact z
    · have := Int.mul_le_mul_of_nonneg_left (show a ≤ 0 by omega) g0; rw [Int.mul_zero] at this; omega
  · by_cases z : 1 ≤ u
    · exact z
    · have := Int.mul_le_mul_of_nonneg_left (show u ≤ 0 by omega) g0; rw [Int.mul_zero] at this; omega
def lstS (A U Y c : Int) : Int := (c - U * Y).fdiv A
def midS (A U X Y c : Int) : Int := mnI (mxI (c.fdiv (2 * A)) X) (lstS A U Y c)
def fstS (g s u c : Int) : Int := (c.fdiv g * s).fmod u
def belS (A U X Y g s u c : Int) : Int := midS A U X Y c - (midS A U X Y c - fstS g s u c).fmod u
theorem fdiv_le_iff {m A b : Int} (hA : 0 < A) : m ≤ b.fdiv A ↔ A * m ≤ b := by
  have h1 : A * b.fdiv A + b.fmod A = b := Int.mul_fdiv_add_fmod b A
  have h2 := Int.fmod_nonneg_of_pos b hA
  have h3 := Int.fmod_lt_of_pos b hA
  constructor
  · intro h
    have := Int.mul_le_mul_of_nonneg_left h (show 0 ≤ A by omega)
    omega
  · intro h
    by_cases c : m ≤ b.fdiv A
    · exact c
    · have := Int.mul_le_mul_of_nonneg_left (show b.fdiv A + 1 ≤ m by omega) (show 0 ≤ A by omega)
      rw [show A * (b.fdiv A + 1) = A * b.fdiv A + A by grind] at this
      omega
theorem mul_fdiv {g m : Int} (hg : 0 < g) : (g * m).fdiv g = m := by rw [Int.mul_comm]; exact Int.mul_fdiv_cancel m (by omega)
/-- the sides that may be the best ones of a price -/
theorem cand_ok {A U X Y g s a u t m W : Int} (d : Gd A U g s a u t) (hW : W = belS A U X Y g s u (g * m) ∨ W = belS A U X Y g s u (g * m) + u) (hl : W ≤ lstS A U Y (g * m)) :
    Y ≤ (g * m - A * W).fdiv U ∧ A * W + U * (g * m - A * W).fdiv U = g * m := by
  obtain ⟨rfl, rfl, e, g1, a1, u1⟩ := d
  have hU : 0 < g * u := Int.mul_pos (by omega) (by omega)
  have hA : 0 < g * a := Int.mul_pos (by omega) (by omega)
  have hm : ∃ k, W = m * s + u * k := by
    have h1 : ∃ k, belS (g * a) (g * u) X Y g s u (g * m) = m * s + u * k := by
      unfold belS fstS
      rw [mul_fdiv (by omega)]
      generalize midS (g * a) (g * u) X Y (g * m) = M
      have h2 : u * (m * s).fdiv u + (m * s).fmod u = m * s := Int.mul_fdiv_add_fmod _ u
      generalize (m * s).fmod u = f at *
      have h3 : u * (M - f).fdiv u + (M - f).fmod u = M - f := Int.mul_fdiv_add_fmod _ u
      refine ⟨(M - f).fdiv u - (m * s).fdiv u, ?_⟩
      rw [Int.mul_sub]
      omega
    obtain ⟨k, hk⟩ := h1
    rcases hW with h | h
    · exact ⟨k, by rw [h, hk]⟩
    · exact ⟨k + 1, by rw [h, hk]; grind⟩
  obtain ⟨k, rfl⟩ := hm
  have hs : g * m - g * a * (m * s + u * k) = g * u * (m * t - a * k) := by
    have : m * (s * a + t * u) = m := by rw [e, Int.mul_one]
    grind
  rw [hs, mul_fdiv hU]
  constructor
  · unfold lstS at hl
    rw [fdiv_le_iff hA] at hl
    rw [← mul_fdiv (m := m * t - a * k) hU, ← hs, fdiv_le_iff hU]
    omega
  · omega
theorem cand_all {A U X Y g s a u t m p q : Int} (d : Gd A U g s a u t) (hp : X ≤ p) (hq : Y ≤ q) (e : A * p + U * q = g * m) :
    ∃ W, (W = belS A U X Y g s u (g * m) ∨ W = belS A U X Y g s u (g * m) + u) ∧ X ≤ W ∧ W ≤ lstS A U Y (g * m) ∧ p * q ≤ W * (g * m - A * W).fdiv U := by
  have hco := fun (W : Int) h k => cand_ok (X := X) (Y := Y) (m := m) (W := W) d h k
  obtain ⟨rfl, rfl, ed, g1, a1, u1⟩ := d
  have hU : 0 < g * u := Int.mul_pos (by omega) (by omega)
  have hA : 0 < g * a := Int.mul_pos (by omega) (by omega)
  have e1 : a * p + u * q = m := Int.eq_of_mul_eq_mul_left (show g ≠ 0 by omega) (by rw [← e]; grind)
  have hlast : p ≤ lstS (g * a) (g * u) Y (g * m) := by
    unfold lstS
    rw [fdiv_le_iff hA]
    have := Int.mul_le_mul_of_nonneg_left hq (show 0 ≤ g * u by omega)
    omega
  -- p is of the rest
  have hmod : ∃ k, p = fstS g s u (g * m) + u * k := by
    unfold fstS
    rw [mul_fdiv (by omega)]
    have h2 : u * (m * s).fdiv u + (m * s).fmod u = m * s := Int.mul_fdiv_add_fmod _ u
    refine ⟨t * p - s * q + (m * s).fdiv u, ?_⟩
    have h3 : p * (s * a + t * u) = p := by rw [ed, Int.mul_one]
    have h4 : s * (a * p + u * q) = m * s := by rw [e1]; grind
    grind
  obtain ⟨k, hk⟩ := hmod
  -- the peak
  have ht1 : 2 * a * (g * m).fdiv (2 * (g * a)) ≤ m ∧ m < 2 * a * ((g * m).fdiv (2 * (g * a)) + 1) := by
    have h1 : 2 * (g * a) * (g * m).fdiv (2 * (g * a)) + (g * m).fmod (2 * (g * a)) = g * m := Int.mul_fdiv_add_fmod _ _
    have h2 := Int.fmod_nonneg_of_pos (g * m) (show 0 < 2 * (g * a) by omega)
    have h3 := Int.fmod_lt_of_pos (g * m) (show 0 < 2 * (g * a) by omega)
    generalize (g * m).fdiv (2 * (g * a)) = z at *
    constructor
    · by_cases c : 2 * a * z ≤ m
      · exact c
      · have := Int.mul_le_mul_of_nonneg_left (show m + 1 ≤ 2 * a * z by omega) (show 0 ≤ g by omega)
        rw [show g * (2 * a * z) = 2 * (g * a) * z by grind, show g * (m + 1) = g * m + g by grind] at this
        omega
    · by_cases c : m < 2 * a * (z + 1)
      · exact c
      · have := Int.mul_le_mul_of_nonneg_left (show 2 * a * (z + 1) ≤ m by omega) (show 0 ≤ g by omega)
        rw [show g * (2 * a * (z + 1)) = 2 * (g * a) * z + 2 * (g * a) by grind] at this
        omega
  obtain ⟨t1, t2⟩ := ht1
  -- products compared
  have cmp : ∀ W : Int, (W = belS (g * a) (g * u) X Y g s u (g * m) ∨ W = belS (g * a) (g * u) X Y g s u (g * m) + u) → W ≤ lstS (g * a) (g * u) Y (g * m) → 0 ≤ (W - p) * (m - a * (W + p)) → p * q ≤ W * (g * m - g * a * W).fdiv (g * u) := fun W hW hl hc => by
    have h1 := (hco W hW hl).2
    generalize (g * m - g * a * W).fdiv (g * u) = h at *
    have e2 : a * W + u * h = m := Int.eq_of_mul_eq_mul_left (show g ≠ 0 by omega) (by rw [← h1]; grind)
    have : u * (W * h - p * q) = (W - p) * (m - a * (W + p)) := by
      have e3 : u * h = m - a * W := by omega
      have e4 : u * q = m - a * p := by omega
      rw [show u * (W * h - p * q) = W * (u * h) - p * (u * q) by grind, e3, e4]
      grind
    by_cases c : p * q ≤ W * h
    · exact c
    · have := Int.mul_le_mul_of_nonneg_left (show W * h - p * q ≤ -1 by omega) (show 0 ≤ u by omega)
      omega
  have hM := (mnI_le (i := mxI ((g * m).fdiv (2 * (g * a))) X) (j := lstS (g * a) (g * u) Y (g * m)))
  have hx := (mxI_le (i := (g * m).fdiv (2 * (g * a))) (j := X))
  have hb : belS (g * a) (g * u) X Y g s u (g * m) ≤ midS (g * a) (g * u) X Y (g * m) ∧ midS (g * a) (g * u) X Y (g * m) < belS (g * a) (g * u) X Y g s u (g * m) + u ∧ ∃ j, belS (g * a) (g * u) X Y g s u (g * m) = fstS g s u (g * m) + u * j := by
    unfold belS
    generalize midS (g * a) (g * u) X Y (g * m) = M
    generalize fstS g s u (g * m) = f
    have h3 : u * (M - f).fdiv u + (M - f).fmod u = M - f := Int.mul_fdiv_add_fmod _ u
    have h4 := Int.fmod_nonneg_of_pos (M - f) (show 0 < u by omega)
    have h5 := Int.fmod_lt_of_pos (M - f) (show 0 < u by omega)
    exact ⟨by omega, by omega, (M - f).fdiv u, by omega⟩
  obtain ⟨b1, b2, j, b3⟩ := hb
  have hmd : midS (g * a) (g * u) X Y (g * m) = mnI (mxI ((g * m).fdiv (2 * (g * a))) X) (lstS (g * a) (g * u) Y (g * m)) := rfl
  rw [← hmd] at hM
  generalize midS (g * a) (g * u) X Y (g * m) = M at *
  generalize (g * m).fdiv (2 * (g * a)) = z at *
  generalize lstS (g * a) (g * u) Y (g * m) = L at *
  generalize belS (g * a) (g * u) X Y g s u (g * m) = B at *
  generalize mxI z X = T at *
  generalize fstS g s u (g * m) = f at *
  by_cases c : p ≤ M
  · have hpB : p ≤ B := by
      by_cases hkj : k ≤ j
      · have := Int.mul_le_mul_of_nonneg_left hkj (show 0 ≤ u by omega)
        omega
      · have := Int.mul_le_mul_of_nonneg_left (show j + 1 ≤ k by omega) (show 0 ≤ u by omega)
        rw [show u * (j + 1) = u * j + u by grind] at this
        omega
    refine ⟨B, .inl rfl, by omega, by omega, cmp B (.inl rfl) (by omega) ?_⟩
    by_cases cz : M ≤ z
    · have := Int.mul_le_mul_of_nonneg_left (show B + p ≤ 2 * z by omega) (show 0 ≤ a by omega)
      rw [show a * (2 * z) = 2 * a * z by grind] at this
      exact pr_pos (by omega) (by omega)
    · have : B = p := by omega
      rw [this, Int.sub_self, Int.zero_mul]
      exact Int.le_refl _
  · have hpB : B + u ≤ p := by
      by_cases hkj : j + 1 ≤ k
      · have := Int.mul_le_mul_of_nonneg_left hkj (show 0 ≤ u by omega)
        rw [show u * (j + 1) = u * j + u by grind] at this
        omega
      · have := Int.mul_le_mul_of_nonneg_left (show k ≤ j by omega) (show 0 ≤ u by omega)
        omega
    refine ⟨B + u, .inr rfl, by omega, by omega, cmp (B + u) (.inr rfl) (by omega) ?_⟩
    have := Int.mul_le_mul_of_nonneg_left (show 2 * (z + 1) ≤ B + u + p by omega) (show 0 ≤ a by omega)
    rw [show a * (2 * (z + 1)) = 2 * a * (z + 1) by grind] at this
    have h9 := pr_pos (show 0 ≤ p - (B + u) by omega) (show 0 ≤ a * (B + u + p) - m by omega)
    rw [show (B + u - p) * (m - a * (B + u + p)) = (p - (B + u)) * (a * (B + u + p) - m) by grind]
    exact h9
/-- the first price that is asked, and all that are -/
def c0S (L g : Int) : Int := ceilD L g * g
theorem c0_le {A U g s a u t L p q : Int} (d : Gd A U g s a u t) (h : L ≤ A * p + U * q) : c0S L g ≤ A * p + U * q ∧ ∃ m, A * p + U * q = g * m := by
  obtain ⟨rfl, rfl, ed, g1, a1, u1⟩ := d
  have e : g * a * p + g * u * q = g * (a * p + u * q) := by grind
  refine ⟨?_, _, e⟩
  rw [e] at h ⊢
  have h1 := (ceilD_le (z := L) (m := g) (by omega)).2
  unfold c0S
  rw [Int.mul_comm]
  refine Int.mul_le_mul_of_nonneg_left ?_ (by omega)
  by_cases c : ceilD L g ≤ a * p + u * q
  · exact c
  · have := Int.mul_le_mul_of_nonneg_left (show a * p + u * q ≤ ceilD L g - 1 by omega) (show 0 ≤ g by omega)
    omega
/-- a frame of the best sides tells the least price -/
theorem Bst.lp {P : Pr} {s : Sp} {p q : Int} (h : Bst (P.e + P.w) (P.n + P.s) (ab s.x) (ab s.y) (gnd s.x s.y s.a) p q) : Lp P s (pc P s.x s.y p q) := by
  refine ⟨⟨p, q, ⟨h.fe.x, h.fe.y, h.fe.r⟩, rfl⟩, fun p' q' b => ?_⟩
  have := h.low p' q' ⟨b.px, b.qy, b.room⟩
  unfold pc ce
  generalize (if s.x < 0 then 0 else s.x) = x1
  generalize (if -s.x < 0 then 0 else -s.x) = x2
  generalize (if s.y < 0 then 0 else s.y) = y1
  generalize (if -s.y < 0 then 0 else -s.y) = y2
  rw [ab_neg, ab_neg]
  grind
end ST
set_option maxRecDepth 100000
set_option maxHeartbeats 4000000
namespace ST
/-! ### prices of walks: the plain law -/
theorem cst_app (P : Pr) : ∀ (r r' : Runs), cst P (r ++ r') = cst P r + cst P r'
  | [], r' => by simp [cst]
  | q :: r, r' => by
    show prL P q.1 * q.2 + cst P (r ++ r') = prL P q.1 * q.2 + cst P r + cst P r'
    rw [cst_app P r r']; omega
theorem cst_step (P : Pr) (acc : Runs) (q : Nat × Int) (h : 0 ≤ q.2) : cst P (mgStep acc q) = cst P acc + prL P q.1 * q.2 := by
  have app : cst P (if 0 < q.2 then acc ++ [q] else acc) = cst P acc + prL P q.1 * q.2 := by
    split
    · rw [cst_app]; simp [cst]
    · rw [show q.2 = 0 by omega]; simp
  unfold mgStep
  split
  · rename_i l hl
    split
    · rename_i he
      have e : acc = acc.dropLast ++ [l] := by
        obtain ⟨init, hi⟩ := List.getLast?_eq_some_iff.mp hl
        rw [hi]; simp
      rw [cst_app]
      conv => rhs; rw [e, cst_app]
      simp [cst, he]
      grind
    · exact app
  · exact app
theorem cst_fold (P : Pr) : ∀ (r acc : Runs), Good r → cst P (r.foldl mgStep acc) = cst P acc + cst P r
  | [], acc, _ => by simp [cst]
  | q :: r, acc, g => by
    rw [List.foldl_cons, cst_fold P r _ g.tail, cst_step P acc q g.head.2]
    simp only [cst]; omega
theorem cst_mg (P : Pr) {r : Runs} (g : Good r) : cst P (mg r) = cst P r := by
  unfold mg; rw [cst_fold P r [] g]; simp [cst]
/-- how many steps of a kind -/
def cn (c : Nat) : Runs → Int
  | [] => 0
  | q :: r => (if q.1 = c then q.2 else 0) + cn c r
theorem cst_cn (P : Pr) : ∀ {r : Runs}, Good r → cst P r = cn 101 r * P.e + cn 110 r * P.n + cn 119 r * P.w + cn 115 r * P.s
  | [], _ => by simp [cst, cn]
  | (c, t) :: r, g => by
    have h := cst_cn P g.tail
    have hc := g.head.1
    simp only [cst, cn]
    rw [h]
    rcases hc with e | e | e | e <;> dsimp only at e <;> subst e <;> simp [prL] <;> grind
theorem cn_nn (c : Nat) : ∀ {r : Runs}, Good r → 0 ≤ cn c r ∧ cn c r ≤ len r
  | [], _ => by simp [cn, len]
  | (d, t) :: r, g => by
    have h := cn_nn c g.tail
    have := g.head.2
    simp only [cn, len]
    simp only at this
    split <;> omega
end ST
set_option maxRecDepth 100000
set_option maxHeartbeats 4000000
namespace ST
/-! ### walks with told numbers of steps and a told area: the plain law -/
structure Lt (e n w s a : Int) (r : Runs) : Prop where
  good : Good r
  to : led home r = ⟨e - w, n - s, a⟩
  ce : cn 101 r = e
  cnn : cn 110 r = n
  cw : cn 119 r = w
  cs : cn 115 r = s
  few : r.length ≤ 10
def rise (e n w s a : Int) : Runs :=
  if n = 0 ∨ e = 0 then [(115, s), (101, e), (110, n), (119, w)]
  else [(115, s), (101, e - 1 - (colsOf e n a).1), (110, (colsOf e n a).2), (101, 1), (110, n - (colsOf e n a).2), (101, (colsOf e n a).1), (119, w)]
theorem isL_e : isL 101 := .inl rfl
theorem isL_n : isL 110 := .inr (.inl rfl)
theorem isL_w : isL 119 := .inr (.inr (.inl rfl))
theorem isL_s : isL 115 := .inr (.inr (.inr rfl))
theorem cols_ok {W H a : Int} (hW : 1 ≤ W) (hH : 1 ≤ H) (h0 : 0 ≤ a) (h1 : a ≤ W * H) : 0 ≤ (colsOf W H a).1 ∧ (colsOf W H a).1 ≤ W - 1 ∧ 0 ≤ (colsOf W H a).2 ∧ (colsOf W H a).2 ≤ H ∧ W * H - a = H * (colsOf W H a).1 + (colsOf W H a).2 := by
  unfold colsOf
  have d1 : H * (W * H - a).fdiv H + (W * H - a).fmod H = W * H - a := Int.mul_fdiv_add_fmod _ H
  have d2 := Int.fmod_nonneg_of_pos (W * H - a) (show 0 < H by omega)
  have d3 := Int.fmod_lt_of_pos (W * H - a) (show 0 < H by omega)
  have d4 : 0 ≤ (W * H - a).fdiv H := Int.fdiv_nonneg (by omega) (by omega)
  have d5 : (W * H - a).fdiv H ≤ W := by
    by_cases c : (W * H - a).fdiv H ≤ W
    · exact c
    · have := Int.mul_le_mul_of_nonneg_left (show W + 1 ≤ (W * H - a).fdiv H by omega) (show 0 ≤ H by omega)
      rw [show H * (W + 1) = W * H + H by grind] at this
      omega
  generalize (W * H - a).fdiv H = q at *
  generalize (W * H - a).fmod H = m at *
  split
  · rename_i e
    subst e
    have e1 : q * H = H * q := Int.mul_comm ..
    have e2 : H * (q - 1) = H * q - H := by grind
    dsimp only
    omega
  · dsimp only
    omega
theorem rise_ok {e n w s a : Int} (he : 0 ≤ e) (hn : 0 ≤ n) (hw : 0 ≤ w) (hs : 0 ≤ s) (h0 : 0 ≤ a) (h1 : a ≤ e * n) : Lt e n w s a (rise e n w s a) := by
  unfold rise
  split
  · rename_i c
    have e0 : e * n = 0 := by rcases c with rfl | rfl <;> simp
    have a0 : a = 0 := by omega
    subst a0
    refine ⟨?_, ?_, ?_, ?_, ?_, ?_, by simp⟩
    · intro q hq
      simp only [List.mem_cons, List.not_mem_nil, or_false] at hq
      rcases hq with rfl | rfl | rfl | rfl
      · exact ⟨isL_s, hs⟩
      · exact ⟨isL_e, he⟩
      · exact ⟨isL_n, hn⟩
      · exact ⟨isL_w, hw⟩
    · rcases c with rfl | rfl <;> simp [led, gone, home] <;> omega
    all_goals simp [cn]
  · rename_i c
    obtain ⟨k1, k2, k3, k4, k5⟩ := cols_ok (W := e) (H := n) (a := a) (by omega) (by omega) h0 h1
    generalize (colsOf e n a).1 = k at *
    generalize (colsOf e n a).2 = m at *
    refine ⟨?_, ?_, ?_, ?_, ?_, ?_, by simp⟩
    · intro q hq
      simp only [List.mem_cons, List.not_mem_nil, or_false] at hq
      rcases hq with rfl | rfl | rfl | rfl | rfl | rfl | rfl
      · exact ⟨isL_s, hs⟩
      · exact ⟨isL_e, by dsimp only; omega⟩
      · exact ⟨isL_n, k3⟩
      · exact ⟨isL_e, by decide⟩
      · exact ⟨isL_n, by dsimp only; omega⟩
      · exact ⟨isL_e, k1⟩
      · exact ⟨isL_w, hw⟩
    · simp [led, gone, home]
      refine ⟨by omega, by omega, ?_⟩
      grind
    all_goals simp [cn]
    all_goals omega
def b01 (x : Int) : Int := if 0 < x then 1 else 0
def fallF (e n w s a : Int) : Int × Int × Int × Int × Int :=
  let low := mnI a (w * s)
  let wide := e - w
  (if 0 < w then low.fdiv w else 0, if 0 < w then low.fmod w else 0, wide, if 0 < wide then (a - low).fdiv wide else 0, if 0 < wide then (a - low).fmod wide else 0)
def fallR (n w s full part wide lift rest : Int) : Runs :=
  [(115, s - full - b01 part), (110, n - lift - b01 rest), (119, part), (115, b01 part), (119, w - part), (115, full), (101, w + rest), (110, b01 rest), (101, wide - rest), (110, lift)]
def fall (e n w s a : Int) : Runs :=
  fallR n w s (fallF e n w s a).1 (fallF e n w s a).2.1 (fallF e n w s a).2.2.1 (fallF e n w s a).2.2.2.1 (fallF e n w s a).2.2.2.2
theorem part_ok {m d b : Int} (h0 : 0 ≤ m) (hd : 0 ≤ d) (hm : m ≤ d * b) (hb : 0 ≤ b) : 0 ≤ (if 0 < d then m.fdiv d else 0) ∧ 0 ≤ (if 0 < d then m.fmod d else 0) ∧ (if 0 < d then m.fmod d else 0) ≤ d ∧ (if 0 < d then m.fdiv d else 0) + b01 (if 0 < d then m.fmod d else 0) ≤ b ∧ d * (if 0 < d then m.fdiv d else 0) + (if 0 < d then m.fmod d else 0) = m := by
  by_cases c : 0 < d
  · simp only [c, if_true]
    have d1 : d * m.fdiv d + m.fmod d = m := Int.mul_fdiv_add_fmod _ d
    have d2 := Int.fmod_nonneg_of_pos m c
    have d3 := Int.fmod_lt_of_pos m c
    have d4 : 0 ≤ m.fdiv d := Int.fdiv_nonneg h0 (by omega)
    generalize m.fdiv d = q at *
    generalize m.fmod d = r at *
    have d5 : q + b01 r ≤ b := by
      unfold b01
      split
      · by_cases k : q + 1 ≤ b
        · exact k
        · have := Int.mul_le_mul_of_nonneg_left (show b ≤ q by omega) hd
          omega
      · by_cases k : q ≤ b
        · omega
        · have := Int.mul_le_mul_of_nonneg_left (show b + 1 ≤ q by omega) hd
          rw [show d * (b + 1) = d * b + d by grind] at this
          omega
    exact ⟨d4, d2, by omega, d5, d1⟩
  · have : d = 0 := by omega
    subst this
    simp only [Int.lt_irrefl, if_false]
    rw [Int.zero_mul] at hm
    have : b01 0 = 0 := rfl
    omega
theorem b01_ok (x : Int) (h : 0 ≤ x) : 0 ≤ b01 x ∧ (x = 0 → b01 x = 0) ∧ (x ≠ 0 → b01 x = 1) := by unfold b01; split <;> omega
theorem fall_ok {e n w s a : Int} (he : w < e) (hn : 0 ≤ n) (hw : 0 ≤ w) (hs : n ≤ s) (h0 : 0 ≤ a) (h1 : a ≤ (e - w) * n + w * s) : Lt e n w s a (fall e n w s a) := by
  unfold fall fallF
  dsimp only
  have ws := pr_pos hw (show 0 ≤ s by omega)
  have l1 := mnI_le (i := a) (j := w * s)
  have hlow : 0 ≤ mnI a (w * s) := by omega
  have hrest : 0 ≤ a - mnI a (w * s) ∧ a - mnI a (w * s) ≤ (e - w) * n := by
    have := pr_pos (show 0 ≤ e - w by omega) hn
    omega
  generalize mnI a (w * s) = low at *
  obtain ⟨p1, p2, p3, p4, p5⟩ := part_ok (m := low) (d := w) (b := s) hlow hw (by omega) (by omega)
  obtain ⟨q1, q2, q3, q4, q5⟩ := part_ok (m := a - low) (d := e - w) (b := n) hrest.1 (by omega) hrest.2 hn
  generalize (if 0 < w then low.fdiv w else 0) = full at *
  generalize (if 0 < w then low.fmod w else 0) = part at *
  generalize (if 0 < e - w then (a - low).fdiv (e - w) else 0) = lift at *
  generalize (if 0 < e - w then (a - low).fmod (e - w) else 0) = rest at *
  have b1 := b01_ok part p2
  have b2 := b01_ok rest q2
  have m1 : part * b01 part = part := by
    by_cases z : part = 0
    · rw [z]; simp
    · rw [b1.2.2 z]; omega
  have m2 : rest * b01 rest = rest := by
    by_cases z : rest = 0
    · rw [z]; simp
    · rw [b2.2.2 z]; omega
  unfold fallR
  generalize b01 part = x at *
  generalize b01 rest = y at *
  refine ⟨?_, ?_, ?_, ?_, ?_, ?_, by simp⟩
  · intro q hq
    simp only [List.mem_cons, List.not_mem_nil, or_false] at hq
    rcases hq with rfl | rfl | rfl | rfl | rfl | rfl | rfl | rfl | rfl | rfl
    · exact ⟨isL_s, by dsimp only; omega⟩
    · exact ⟨isL_n, by dsimp only; omega⟩
    · exact ⟨isL_w, p2⟩
    · exact ⟨isL_s, b1.1⟩
    · exact ⟨isL_w, by dsimp only; omega⟩
    · exact ⟨isL_s, p1⟩
    · exact ⟨isL_e, by dsimp only; omega⟩
    · exact ⟨isL_n, b2.1⟩
    · exact ⟨isL_e, by dsimp only; omega⟩
    · exact ⟨isL_n, q1⟩
  · simp [led, gone, home]
    refine ⟨by omega, by omega, ?_⟩
    grind
  all_goals simp [cn]
  all_goals omega
theorem cn_mp {f g : Nat → Nat} (hf : ∀ c d, isL c → (f c = d ↔ c = g d)) : ∀ {r : Runs} (d : Nat), Good r → cn d (mp f r) = cn (g d) r
  | [], _, _ => rfl
  | (c, t) :: r, d, k => by
    have ih := cn_mp hf d k.tail
    show (if f c = d then t else 0) + cn d (mp f r) = (if c = g d then t else 0) + cn (g d) r
    rw [ih]
    by_cases z : f c = d
    · rw [if_pos z, if_pos ((hf c d k.head.1).mp z)]
    · rw [if_neg z, if_neg fun q => z ((hf c d k.head.1).mpr q)]
theorem Lt.mx {e n w s a : Int} {r : Runs} (h : Lt e n w s a r) : Lt w n e s (-a) (mp sw1 r) := by
  have key : ∀ c d, isL c → isL d → (sw1 c = d ↔ c = sw1 d) := fun c d hc hd => by
    rcases hc with rfl | rfl | rfl | rfl <;> rcases hd with rfl | rfl | rfl | rfl <;> simp [sw1]
  have cnk : ∀ (d : Nat), isL d → ∀ {r : Runs}, Good r → cn d (mp sw1 r) = cn (sw1 d) r := fun d hd {r} g => by
    induction r with
    | nil => rfl
    | cons q r ih =>
      obtain ⟨c, t⟩ := q
      show (if sw1 c = d then t else 0) + cn d (mp sw1 r) = (if c = sw1 d then t else 0) + cn (sw1 d) r
      rw [ih g.tail]
      by_cases z : sw1 c = d
      · rw [if_pos z, if_pos ((key c d g.head.1 hd).mp z)]
      · rw [if_neg z, if_neg fun q => z ((key c d g.head.1 hd).mpr q)]
  have l : led home (mp sw1 r) = mX (led home r) := by
    have := led_mp (f := sw1) (m := mX) gone_mX (r := r) (p := home) h.good
    rwa [mX_home] at this
  refine ⟨good_mp isL_sw1 h.good, ?_, ?_, ?_, ?_, ?_, by simp only [List.length_map]; exact h.few⟩
  · rw [l, h.to]; simp [mX]; omega
  · rw [cnk 101 isL_e h.good]; exact h.cw
  · rw [cnk 110 isL_n h.good]; exact h.cnn
  · rw [cnk 119 isL_w h.good]; exact h.ce
  · rw [cnk 115 isL_s h.good]; exact h.cs
def sw12 (c : Nat) : Nat := if c = 101 then 119 else if c = 110 then 115 else if c = 119 then 101 else if c = 115 then 110 else c
def mXY (p : Sp) : Sp := ⟨-p.x, -p.y, p.a⟩
theorem isL_sw12 {c : Nat} (h : isL c) : isL (sw12 c) := by rcases h with rfl | rfl | rfl | rfl <;> simp [sw12, isL]
theorem gone_mXY {p : Sp} {c : Nat} {t : Int} (h : isL c) : gone (mXY p) (sw12 c) t = mXY (gone p c t) := by
  rcases h with rfl | rfl | rfl | rfl <;> simp [gone, sw12, mXY, Int.neg_mul] <;> omega
theorem Lt.turn {e n w s a : Int} {r : Runs} (h : Lt e n w s a r) : Lt w s e n a (mp sw12 r) := by
  have key : ∀ c d, isL c → isL d → (sw12 c = d ↔ c = sw12 d) := fun c d hc hd => by
    rcases hc with rfl | rfl | rfl | rfl <;> rcases hd with rfl | rfl | rfl | rfl <;> simp [sw12]
  have cnk : ∀ (d : Nat), isL d → ∀ {r : Runs}, Good r → cn d (mp sw12 r) = cn (sw12 d) r := fun d hd {r} g => by
    induction r with
    | nil => rfl
    | cons q r ih =>
      obtain ⟨c, t⟩ := q
      show (if sw12 c = d then t else 0) + cn d (mp sw12 r) = (if c = sw12 d then t else 0) + cn (sw12 d) r
      rw [ih g.tail]
      by_cases z : sw12 c = d
      · rw [if_pos z, if_pos ((key c d g.head.1 hd).mp z)]
      · rw [if_neg z, if_neg fun q => z ((key c d g.head.1 hd).mpr q)]
  have l : led home (mp sw12 r) = mXY (led home r) := by
    have := led_mp (f := sw12) (m := mXY) gone_mXY (r := r) (p := home) h.good
    rwa [show mXY home = home by simp [mXY]] at this
  refine ⟨good_mp isL_sw12 h.good, ?_, ?_, ?_, ?_, ?_, by simp only [List.length_map]; exact h.few⟩
  · rw [l, h.to]; simp [mXY]; omega
  · rw [cnk 101 isL_e h.good]; exact h.cw
  · rw [cnk 110 isL_n h.good]; exact h.cs
  · rw [cnk 119 isL_w h.good]; exact h.ce
  · rw [cnk 115 isL_s h.good]; exact h.cnn
/-- the least and the greatest area -/
def hiL (e n w s : Int) : Int := mxI e w * mxI n s - (if 0 < -(e - w) * (n - s) then -(e - w) * (n - s) else 0)
def loL (e n w s : Int) : Int := (if 0 < (e - w) * (n - s) then (e - w) * (n - s) else 0) - mxI e w * mxI n s
def base (e n w s a : Int) : Runs := if s ≤ n then rise e n w s a else fall e n w s a
def trn (e n w s a : Int) : Runs := if e < w ∨ (e = w ∧ n < s) then mp sw12 (base w s e n a) else base e n w s a
def swp (e n w s a : Int) : Runs := if a < 0 then mp sw1 (trn w n e s (-a)) else trn e n w s a
theorem mxI_pos {i j : Int} (h : j ≤ i) : mxI i j = i := by unfold mxI; split <;> omega
theorem mxI_neg {i j : Int} (h : i ≤ j) : mxI i j = j := by unfold mxI; split <;> omega
theorem base_ok {e n w s a : Int} (he : w ≤ e) (he2 : e = w → s ≤ n) (hn : 0 ≤ n) (hw : 0 ≤ w) (hs : 0 ≤ s) (h0 : 0 ≤ a) (h1 : a ≤ hiL e n w s) : Lt e n w s a (base e n w s a) := by
  unfold base hiL at *
  rw [mxI_pos he] at h1
  split
  · rename_i c
    rw [mxI_pos c] at h1
    refine rise_ok (by omega) hn hw hs h0 ?_
    split at h1 <;> omega
  · rename_i c
    rw [mxI_neg (show n ≤ s by omega)] at h1
    have h2 := pr_pos (show 0 ≤ e - w - 1 by omega) (show 0 ≤ s - n - 1 by omega)
    have h3 : 0 < -(e - w) * (n - s) := by
      have := pr_pos (show 0 ≤ e - w - 1 by omega) (show 0 ≤ s - n by omega)
      rw [show -(e - w) * (n - s) = (e - w - 1) * (s - n) + (s - n) by grind]
      omega
    rw [if_pos h3] at h1
    refine fall_ok (by omega) hn hw (by omega) h0 ?_
    rw [show (e - w) * n + w * s = e * s - -(e - w) * (n - s) by grind]
    exact h1
theorem hiL_turn (e n w s : Int) : hiL w s e n = hiL e n w s := by
  unfold hiL
  have e1 : mxI w e = mxI e w := by unfold mxI; split <;> split <;> omega
  have e2 : mxI s n = mxI n s := by unfold mxI; split <;> split <;> omega
  rw [e1, e2, show -(w - e) * (s - n) = -(e - w) * (n - s) by grind]
theorem trn_ok {e n w s a : Int} (he : 0 ≤ e) (hn : 0 ≤ n) (hw : 0 ≤ w) (hs : 0 ≤ s) (h0 : 0 ≤ a) (h1 : a ≤ hiL e n w s) : Lt e n w s a (trn e n w s a) := by
  unfold trn
  split
  · rename_i c
    exact (base_ok (e := w) (n := s) (w := e) (s := n) (by omega) (by omega) hs he hn h0 (by rw [hiL_turn]; exact h1)).turn
  · rename_i c
    exact base_ok (by omega) (by omega) hn hw hs h0 h1
theorem swp_ok {e n w s a : Int} (he : 0 ≤ e) (hn : 0 ≤ n) (hw : 0 ≤ w) (hs : 0 ≤ s) (h0 : loL e n w s ≤ a) (h1 : a ≤ hiL e n w s) : Lt e n w s a (swp e n w s a) := by
  unfold swp
  split
  · rename_i c
    have h2 : -a ≤ hiL w n e s := by
      unfold hiL loL at *
      have e1 : mxI w e = mxI e w := by unfold mxI; split <;> split <;> omega
      rw [e1, show -(w - e) * (n - s) = (e - w) * (n - s) by grind]
      omega
    have := (trn_ok (a := -a) hw hn he hs (by omega) h2).mx
    rwa [Int.neg_neg] at this
  · rename_i c
    exact trn_ok he hn hw hs (by omega) h1
/-! steps of a kind stay when runs are put together -/
theorem cn_app (c : Nat) : ∀ (r r' : Runs), cn c (r ++ r') = cn c r + cn c r'
  | [], r' => by simp [cn]
  | q :: r, r' => by
    show (if q.1 = c then q.2 else 0) + cn c (r ++ r') = (if q.1 = c then q.2 else 0) + cn c r + cn c r'
    rw [cn_app c r r']; omega
theorem cn_step (c : Nat) (acc : Runs) (q : Nat × Int) (h : 0 ≤ q.2) : cn c (mgStep acc q) = cn c acc + (if q.1 = c then q.2 else 0) := by
  have app : cn c (if 0 < q.2 then acc ++ [q] else acc) = cn c acc + (if q.1 = c then q.2 else 0) := by
    split
    · rw [cn_app]; simp [cn]
    · rw [show q.2 = 0 by omega]; simp
  unfold mgStep
  split
  · rename_i l hl
    split
    · rename_i he
      have e : acc = acc.dropLast ++ [l] := by
        obtain ⟨init, hi⟩ := List.getLast?_eq_some_iff.mp hl
        rw [hi]; simp
      rw [cn_app]
      conv => rhs; rw [e, cn_app]
      simp [cn, he]
      split <;> omega
    · exact app
  · exact app
theorem cn_mg (c : Nat) {r : Runs} (g : Good r) : cn c (mg r) = cn c r := by
  have key : ∀ (r acc : Runs), Good r → cn c (r.foldl mgStep acc) = cn c acc + cn c r := fun r => by
    induction r with
    | nil => intro acc _; simp [cn]
    | cons q r ih =>
      intro acc g
      rw [List.foldl_cons, ih _ g.tail, cn_step c acc q g.head.2]
      simp only [cn]; omega
  have := key r [] g
  simp only [cn] at this
  unfold mg
  omega
/-! neighbours -/
theorem Lp.step {P : Pr} {p : Sp} {v w : Int} {c : Nat} (hc : isL c) (h : Lp P p v) (k : Lp P (gone p c 1) w) : w ≤ v + prL P c := by
  obtain ⟨a, b, B, e⟩ := h.has
  obtain ⟨a2, b2, B2, e2⟩ := kup (sk_gone P hc) B
  have := k.low _ _ B2
  omega
theorem Sk.letter {P : Pr} {x y a x' y' a' k : Int} (h : Sk P x y a x' y' a' k) : ∃ c, isL c ∧ gone ⟨x, y, a⟩ c 1 = ⟨x', y', a'⟩ ∧ k = prL P c := by
  cases h with
  | e => exact ⟨101, isL_e, by simp [gone], rfl⟩
  | w => exact ⟨119, isL_w, by simp [gone], rfl⟩
  | n => exact ⟨110, isL_n, by simp [gone], rfl⟩
  | s => exact ⟨115, isL_s, by simp [gone], rfl⟩
theorem Lp.dec {P : Pr} {p : Sp} {v : Int} (h : Lp P p v) (h0 : p ≠ home) : ∃ c b, isL c ∧ gone b c 1 = p ∧ ∀ w, Lp P b w → v = w + prL P c := by
  obtain ⟨a, b, B, e⟩ := h.has
  obtain ⟨x', y', a', p', q', k, s, B2, e2⟩ := kdown P B (fun z => h0 (by obtain ⟨x, y, a⟩ := p; simp only at z; simp [home, z]))
  obtain ⟨c, hc, hg, rfl⟩ := s.letter
  refine ⟨c, ⟨x', y', a'⟩, hc, hg, fun w k => ?_⟩
  have h1 := k.low _ _ B2
  have h2 := Lp.step hc k (by rw [hg]; exact h)
  dsimp only at h1
  omega
end ST
set_option maxRecDepth 100000
set_option maxHeartbeats 4000000
namespace ST
/-! ### the areas of all walks of a lot: the plain law -/
theorem hi_four {e n w s : Int} (he : 0 ≤ e) (hn : 0 ≤ n) (hw : 0 ≤ w) (hs : 0 ≤ s) : (e * n ≤ hiL e n w s ∧ e * n + w * s - w * n ≤ hiL e n w s ∧ w * s ≤ hiL e n w s ∧ e * n + w * s - e * s ≤ hiL e n w s) ∧
    (hiL e n w s = e * n ∨ hiL e n w s = e * n + w * s - w * n ∨ hiL e n w s = w * s ∨ hiL e n w s = e * n + w * s - e * s) := by
  unfold hiL
  have x1 : -(e - w) * (n - s) = w * n - w * s - e * n + e * s := by grind
  rw [x1]
  by_cases c1 : w ≤ e <;> by_cases c2 : s ≤ n
  · rw [mxI_pos c1, mxI_pos c2]
    have h1 := pr_pos (show 0 ≤ e - w by omega) hn
    have h2 := pr_pos hw (show 0 ≤ n - s by omega)
    have h3 := pr_pos he (show 0 ≤ n - s by omega)
    have h4 := pr_pos (show 0 ≤ e - w by omega) (show 0 ≤ n - s by omega)
    have h5 := pr_pos (show 0 ≤ e - w by omega) hs
    rw [Int.sub_mul] at h5
    rw [Int.sub_mul] at h1 h4
    rw [Int.mul_sub] at h2 h3
    rw [Int.mul_sub, Int.mul_sub] at h4
    split <;> omega
  · rw [mxI_pos c1, mxI_neg (show n ≤ s by omega)]
    have h1 := pr_pos (show 0 ≤ e - w by omega) hn
    have h2 := pr_pos hw (show 0 ≤ s - n by omega)
    have h3 := pr_pos he (show 0 ≤ s - n by omega)
    have h4 := pr_pos (show 0 ≤ e - w by omega) (show 0 ≤ s - n by omega)
    rw [Int.sub_mul] at h1 h4
    rw [Int.mul_sub] at h2 h3
    rw [Int.mul_sub, Int.mul_sub] at h4
    split <;> omega
  · rw [mxI_neg (show e ≤ w by omega), mxI_pos c2]
    have h1 := pr_pos (show 0 ≤ w - e by omega) hs
    have h2 := pr_pos hw (show 0 ≤ n - s by omega)
    have h3 := pr_pos he (show 0 ≤ n - s by omega)
    have h4 := pr_pos (show 0 ≤ w - e by omega) (show 0 ≤ n - s by omega)
    rw [Int.sub_mul] at h1 h4
    rw [Int.mul_sub] at h2 h3
    rw [Int.mul_sub, Int.mul_sub] at h4
    split <;> omega
  · rw [mxI_neg (show e ≤ w by omega), mxI_neg (show n ≤ s by omega)]
    have h1 := pr_pos (show 0 ≤ w - e by omega) hs
    have h2 := pr_pos hw (show 0 ≤ s - n by omega)
    have h3 := pr_pos he (show 0 ≤ s - n by omega)
    have h4 := pr_pos (show 0 ≤ w - e by omega) (show 0 ≤ s - n by omega)
    have h5 := pr_pos (show 0 ≤ w - e by omega) hn
    rw [Int.sub_mul] at h5
    rw [Int.sub_mul] at h1 h4
    rw [Int.mul_sub] at h2 h3
    rw [Int.mul_sub, Int.mul_sub] at h4
    split <;> omega
theorem hi_nn {e n w s : Int} (he : 0 ≤ e) (hn : 0 ≤ n) (hw : 0 ≤ w) (hs : 0 ≤ s) : 0 ≤ hiL e n w s := by
  have := (hi_four he hn hw hs).1.1
  have := pr_pos he hn
  omega
theorem lo_hi (e n w s : Int) : loL e n w s = -hiL w n e s := by
  unfold loL hiL
  have e1 : mxI w e = mxI e w := by unfold mxI; split <;> split <;> omega
  rw [e1, show -(w - e) * (n - s) = (e - w) * (n - s) by grind]
  omega
theorem hi_e {e n w s : Int} (he : 0 ≤ e) (hn : 0 ≤ n) (hw : 0 ≤ w) (hs : 0 ≤ s) : hiL e n w s ≤ hiL (e + 1) n w s := by
  have h := hi_four he hn hw hs
  have k := hi_four (show 0 ≤ e + 1 by omega) hn hw hs
  rw [show (e + 1) * n = e * n + n by grind, show (e + 1) * s = e * s + s by grind] at k
  have d : s ≤ n ∨ e * n ≤ e * s := by
    by_cases c : s ≤ n
    · exact .inl c
    · exact .inr (Int.mul_le_mul_of_nonneg_left (by omega) he)
  omega
theorem hi_n {e n w s : Int} (he : 0 ≤ e) (hn : 0 ≤ n) (hw : 0 ≤ w) (hs : 0 ≤ s) : hiL e n w s + (e - w) ≤ hiL e (n + 1) w s := by
  have h := hi_four he hn hw hs
  have k := hi_four he (show 0 ≤ n + 1 by omega) hw hs
  rw [show e * (n + 1) = e * n + e by grind, show w * (n + 1) = w * n + w by grind] at k
  have d : e ≤ w ∨ w * n ≤ e * n := by
    by_cases c : e ≤ w
    · exact .inl c
    · exact .inr (Int.mul_le_mul_of_nonneg_right (by omega) hn)
  omega
theorem hi_w {e n w s : Int} (he : 0 ≤ e) (hn : 0 ≤ n) (hw : 0 ≤ w) (hs : 0 ≤ s) : hiL e n w s ≤ hiL e n (w + 1) s := by
  have h := hi_four he hn hw hs
  have k := hi_four he hn (show 0 ≤ w + 1 by omega) hs
  rw [show (w + 1) * s = w * s + s by grind, show (w + 1) * n = w * n + n by grind] at k
  have d : n ≤ s ∨ w * s ≤ w * n := by
    by_cases c : n ≤ s
    · exact .inl c
    · exact .inr (Int.mul_le_mul_of_nonneg_left (by omega) hw)
  omega
theorem hi_s {e n w s : Int} (he : 0 ≤ e) (hn : 0 ≤ n) (hw : 0 ≤ w) (hs : 0 ≤ s) : hiL e n w s - (e - w) ≤ hiL e n w (s + 1) := by
  have h := hi_four he hn hw hs
  have k := hi_four he hn hw (show 0 ≤ s + 1 by omega)
  rw [show w * (s + 1) = w * s + w by grind, show e * (s + 1) = e * s + e by grind] at k
  have d : w ≤ e ∨ e * s ≤ w * s := by
    by_cases c : w ≤ e
    · exact .inl c
    · exact .inr (Int.mul_le_mul_of_nonneg_right (by omega) hs)
  omega
/-- how many steps of a kind a run adds -/
def ad (c d : Nat) (t : Int) : Int := if c = d then t else 0
theorem hi_run {c : Nat} (hc : isL c) {e n w s : Int} (he : 0 ≤ e) (hn : 0 ≤ n) (hw : 0 ≤ w) (hs : 0 ≤ s) {p : Sp} (hx : p.x = e - w) (hy : p.y = n - s) (ha : p.a ≤ hiL e n w s) : ∀ t : Nat,
    (gone p c t).x = (e + ad c 101 t) - (w + ad c 119 t) ∧ (gone p c t).y = (n + ad c 110 t) - (s + ad c 115 t) ∧ (gone p c t).a ≤ hiL (e + ad c 101 t) (n + ad c 110 t) (w + ad c 119 t) (s + ad c 115 t)
  | 0 => by
    have z : ∀ d, ad c d ((0 : Nat) : Int) = 0 := fun d => by unfold ad; split <;> rfl
    rw [z, z, z, z]
    simp only [Int.natCast_zero, gone_zero, Int.add_zero]
    exact ⟨hx, hy, ha⟩
  | t + 1 => by
    obtain ⟨h1, h2, h3⟩ := hi_run hc he hn hw hs hx hy ha t
    have e1 : gone p c ((t + 1 : Nat) : Int) = gone (gone p c t) c 1 := by rw [gone_add]; simp
    rw [e1]
    have nn : ∀ d, 0 ≤ ad c d (t : Int) := fun d => by unfold ad; split <;> omega
    have k1 := nn 101
    have k2 := nn 110
    have k3 := nn 119
    have k4 := nn 115
    generalize gone p c t = q at *
    rcases hc with rfl | rfl | rfl | rfl
    · have a1 : ad 101 101 ((t + 1 : Nat) : Int) = ad 101 101 (t : Int) + 1 := by simp [ad]
      have a2 : ad 101 110 ((t + 1 : Nat) : Int) = ad 101 110 (t : Int) := by simp [ad]
      have a3 : ad 101 119 ((t + 1 : Nat) : Int) = ad 101 119 (t : Int) := by simp [ad]
      have a4 : ad 101 115 ((t + 1 : Nat) : Int) = ad 101 115 (t : Int) := by simp [ad]
      rw [a1, a2, a3, a4]
      have := hi_e (show 0 ≤ e + ad 101 101 (t : Int) by omega) (show 0 ≤ n + ad 101 110 (t : Int) by omega) (show 0 ≤ w + ad 101 119 (t : Int) by omega) (show 0 ≤ s + ad 101 115 (t : Int) by omega)
      rw [← Int.add_assoc]
      simp [gone]
      omega
    · have a1 : ad 110 101 ((t + 1 : Nat) : Int) = ad 110 101 (t : Int) := by simp [ad]
      have a2 : ad 110 110 ((t + 1 : Nat) : Int) = ad 110 110 (t : Int) + 1 := by simp [ad]
      have a3 : ad 110 119 ((t + 1 : Nat) : Int) = ad 110 119 (t : Int) := by simp [ad]
      have a4 : ad 110 115 ((t + 1 : Nat) : Int) = ad 110 115 (t : Int) := by simp [ad]
      rw [a1, a2, a3, a4]
      have := hi_n (show 0 ≤ e + ad 110 101 (t : Int) by omega) (show 0 ≤ n + ad 110 110 (t : Int) by omega) (show 0 ≤ w + ad 110 119 (t : Int) by omega) (show 0 ≤ s + ad 110 115 (t : Int) by omega)
      rw [← Int.add_assoc]
      simp [gone]
      omega
    · have a1 : ad 119 101 ((t + 1 : Nat) : Int) = ad 119 101 (t : Int) := by simp [ad]
      have a2 : ad 119 110 ((t + 1 : Nat) : Int) = ad 119 110 (t : Int) := by simp [ad]
      have a3 : ad 119 119 ((t + 1 : Nat) : Int) = ad 119 119 (t : Int) + 1 := by simp [ad]
      have a4 : ad 119 115 ((t + 1 : Nat) : Int) = ad 119 115 (t : Int) := by simp [ad]
      rw [a1, a2, a3, a4]
      have := hi_w (show 0 ≤ e + ad 119 101 (t : Int) by omega) (show 0 ≤ n + ad 119 110 (t : Int) by omega) (show 0 ≤ w + ad 119 119 (t : Int) by omega) (show 0 ≤ s + ad 119 115 (t : Int) by omega)
      rw [← Int.add_assoc]
      simp [gone]
      omega
    · have a1 : ad 115 101 ((t + 1 : Nat) : Int) = ad 115 101 (t : Int) := by simp [ad]
      have a2 : ad 115 110 ((t + 1 : Nat) : Int) = ad 115 110 (t : Int) := by simp [ad]
      have a3 : ad 115 119 ((t + 1 : Nat) : Int) = ad 115 119 (t : Int) := by simp [ad]
      have a4 : ad 115 115 ((t + 1 : Nat) : Int) = ad 115 115 (t : Int) + 1 := by simp [ad]
      rw [a1, a2, a3, a4]
      have := hi_s (show 0 ≤ e + ad 115 101 (t : Int) by omega) (show 0 ≤ n + ad 115 110 (t : Int) by omega) (show 0 ≤ w + ad 115 119 (t : Int) by omega) (show 0 ≤ s + ad 115 115 (t : Int) by omega)
      rw [← Int.add_assoc]
      simp [gone]
      omega
theorem hi_led : ∀ {r : Runs} {e n w s : Int} {p : Sp}, Good r → 0 ≤ e → 0 ≤ n → 0 ≤ w → 0 ≤ s → p.x = e - w → p.y = n - s → p.a ≤ hiL e n w s →
    (led p r).x = (e + cn 101 r) - (w + cn 119 r) ∧ (led p r).y = (n + cn 110 r) - (s + cn 115 r) ∧ (led p r).a ≤ hiL (e + cn 101 r) (n + cn 110 r) (w + cn 119 r) (s + cn 115 r)
  | [], e, n, w, s, p, _, _, _, _, _, hx, hy, ha => by
    simp only [cn, Int.add_zero]
    exact ⟨hx, hy, ha⟩
  | (c, t) :: r, e, n, w, s, p, g, he, hn, hw, hs, hx, hy, ha => by
    obtain ⟨hc, ht⟩ := g.head
    dsimp only at hc ht
    obtain ⟨k, rfl⟩ := Int.eq_ofNat_of_zero_le ht
    obtain ⟨h1, h2, h3⟩ := hi_run hc he hn hw hs hx hy ha k
    have nn : ∀ d, 0 ≤ ad c d (k : Int) := fun d => by unfold ad; split <;> omega
    have := hi_led (r := r) g.tail (show 0 ≤ e + ad c 101 (k : Int) by have := nn 101; omega) (show 0 ≤ n + ad c 110 (k : Int) by have := nn 110; omega) (show 0 ≤ w + ad c 119 (k : Int) by have := nn 119; omega) (show 0 ≤ s + ad c 115 (k : Int) by have := nn 115; omega) h1 h2 h3
    rw [Int.add_assoc, Int.add_assoc, Int.add_assoc, Int.add_assoc] at this
    exact this
theorem cn_sw1 : ∀ {r : Runs}, Good r → cn 101 (mp sw1 r) = cn 119 r ∧ cn 119 (mp sw1 r) = cn 101 r ∧ cn 110 (mp sw1 r) = cn 110 r ∧ cn 115 (mp sw1 r) = cn 115 r
  | [], _ => ⟨rfl, rfl, rfl, rfl⟩
  | (c, t) :: r, g => by
    obtain ⟨h1, h2, h3, h4⟩ := cn_sw1 g.tail
    have hc : isL c := g.head.1
    simp only [mp, List.map_cons, cn] at h1 h2 h3 h4 ⊢
    rw [h1, h2, h3, h4]
    rcases hc with rfl | rfl | rfl | rfl <;> simp [sw1]
/-- the area of any walk of a lot -/
theorem in_lot {r : Runs} (g : Good r) : (led home r).x = cn 101 r - cn 119 r ∧ (led home r).y = cn 110 r - cn 115 r ∧ loL (cn 101 r) (cn 110 r) (cn 119 r) (cn 115 r) ≤ (led home r).a ∧ (led home r).a ≤ hiL (cn 101 r) (cn 110 r) (cn 119 r) (cn 115 r) := by
  have z : (home.a : Int) ≤ hiL 0 0 0 0 := by decide
  have h := hi_led (e := 0) (n := 0) (w := 0) (s := 0) (p := home) g (by decide) (by decide) (by decide) (by decide) rfl rfl z
  have h' := hi_led (e := 0) (n := 0) (w := 0) (s := 0) (p := home) (r := mp sw1 r) (good_mp isL_sw1 g) (by decide) (by decide) (by decide) (by decide) rfl rfl z
  have l : led home (mp sw1 r) = mX (led home r) := by
    have := led_mp (f := sw1) (m := mX) gone_mX (r := r) (p := home) g
    rwa [mX_home] at this
  obtain ⟨c1, c2, c3, c4⟩ := cn_sw1 g
  rw [l, c1, c2, c3, c4] at h'
  simp only [Int.zero_add] at h h'
  refine ⟨h.1, h.2.1, ?_, h.2.2⟩
  rw [lo_hi]
  have := h'.2.2
  simp only [mX] at this
  omega
/-! few runs -/
theorem cnt_app (r r' : Runs) : cnt (r ++ r') = cnt r + cnt r' := by simp [cnt]
theorem fall_cnt (e n w s a : Int) : cnt (fall e n w s a) ≤ 9 := by
  unfold fall fallF
  dsimp only
  have h : mnI a (w * s) = w * s ∨ a - mnI a (w * s) = 0 := by
    rcases (mnI_le (i := a) (j := w * s)).2.2 with h | h
    · right; omega
    · left; exact h
  have key : ∀ full part wide lift rest : Int, (part = 0 ∨ rest = 0) → cnt (fallR n w s full part wide lift rest) ≤ 9 := fun full part wide lift rest h => by
    unfold fallR cnt
    have l8 : ∀ l : Runs, (l.filter fun q => decide (0 < q.2)).length ≤ l.length := fun l => List.length_filter_le ..
    rcases h with rfl | rfl
    · have := l8 [(115, s - full - b01 0), (110, n - lift - b01 rest), (115, b01 0), (119, w - 0), (115, full), (101, w + rest), (110, b01 rest), (101, wide - rest), (110, lift)]
      simp only [List.length_cons, List.length_nil] at this
      refine Nat.le_trans ?_ this
      simp only [List.filter_cons]
      simp
    · have := l8 [(115, s - full - b01 part), (110, n - lift - b01 0), (119, part), (115, b01 part), (119, w - part), (115, full), (101, w + 0), (101, wide - 0), (110, lift)]
      simp only [List.length_cons, List.length_nil] at this
      refine Nat.le_trans ?_ this
      simp only [List.filter_cons]
      simp [b01]
  apply key
  rcases h with h | h
  · left
    rw [h]
    split
    · rename_i c
      rw [Int.mul_comm]; exact Int.mul_fmod_left ..
    · rfl
  · right
    rw [h]
    split
    · exact Int.zero_fmod ..
    · rfl
theorem rise_cnt (e n w s a : Int) : cnt (rise e n w s a) ≤ 9 := by
  refine Nat.le_trans (cnt_le _) ?_
  unfold rise
  split <;> simp
theorem swp_cnt (e n w s a : Int) : cnt (swp e n w s a) ≤ 9 := by
  have b : ∀ e n w s a, cnt (base e n w s a) ≤ 9 := fun e n w s a => by
    unfold base; split
    · exact rise_cnt ..
    · exact fall_cnt ..
  have t : ∀ e n w s a, cnt (trn e n w s a) ≤ 9 := fun e n w s a => by
    unfold trn; split
    · rw [cnt_mp]; exact b ..
    · exact b ..
  unfold swp
  split
  · rw [cnt_mp]; exact t ..
  · exact t ..
theorem swp_few (e n w s a : Int) : (mg (swp e n w s a)).length ≤ 9 := Nat.le_trans (mg_cnt _) (swp_cnt ..)
/-! the walks of a length -/
theorem lo_A (x y m : Int) : loA x y m = (if 0 < x * y then x * y else 0) - m := by
  unfold loA ab
  rw [Int.fdiv_eq_ediv_of_nonneg _ (by decide)]
  generalize x * y = t
  split <;> split <;> omega
theorem hi_A (x y m : Int) : hiA x y m = m - (if 0 < -(x * y) then -(x * y) else 0) := by
  unfold hiA ab
  rw [Int.fdiv_eq_ediv_of_nonneg _ (by decide)]
  generalize x * y = t
  split <;> split <;> omega
def asd (X Y k : Int) : Int := if (k + Y - X).fdiv 2 < 0 then 0 else if k < (k + Y - X).fdiv 2 then k else (k + Y - X).fdiv 2
theorem asd_ok {X Y k : Int} (hk : 0 ≤ k) : 0 ≤ asd X Y k ∧ asd X Y k ≤ k ∧ (X + asd X Y k) * (Y + k - asd X Y k) = (bs X Y k).1 * (bs X Y k).2 := by
  unfold asd bs ab
  rw [Int.fdiv_eq_ediv_of_nonneg _ (by decide), Int.fdiv_eq_ediv_of_nonneg _ (by decide), Int.fdiv_eq_ediv_of_nonneg _ (by decide)]
  by_cases c1 : (k + Y - X) / 2 < 0
  · rw [if_pos c1]
    refine ⟨by omega, by omega, ?_⟩
    rw [if_pos (by split <;> omega), if_pos (by omega)]
    dsimp only; grind
  · rw [if_neg c1]
    by_cases c2 : k < (k + Y - X) / 2
    · rw [if_pos c2]
      refine ⟨by omega, by omega, ?_⟩
      rw [if_pos (by split <;> omega), if_neg (by omega)]
      dsimp only; grind
    · rw [if_neg c2]
      refine ⟨by omega, by omega, ?_⟩
      by_cases c3 : k ≤ (if X - Y < 0 then -(X - Y) else X - Y)
      · rw [if_pos c3]
        by_cases c4 : Y ≤ X
        · rw [if_pos c4]
          have : (k + Y - X) / 2 = 0 := by split at c3 <;> omega
          rw [this]; dsimp only; grind
        · rw [if_neg c4]
          have : (k + Y - X) / 2 = k := by split at c3 <;> omega
          rw [this]; dsimp only; grind
      · rw [if_neg c3]
        have e1 : X + (k + Y - X) / 2 = (X + Y + k) / 2 := by omega
        have e2 : Y + k - (k + Y - X) / 2 = (X + Y + k + 1) / 2 := by omega
        rw [e1, e2, Int.mul_comm]
end ST
set_option maxRecDepth 100000
set_option maxHeartbeats 4000000
namespace BZ
open DL
/-! ### divisors of two numbers with what makes them (plain law) -/
def ab (x : Int) : Int := if x < 0 then -x else x
theorem ab_nn (x : Int) : 0 ≤ ab x := by unfold ab; split <;> omega
theorem ab_le (x : Int) : ab x = x ∨ ab x = -x := by unfold ab; split <;> omega
theorem ab_nat (x : Int) : ab x = (x.natAbs : Int) := by unfold ab; split <;> omega
def sg (x : Int) : Int := if 0 ≤ x then 1 else -1
theorem sg_ab (x : Int) : sg x * x = ab x := by unfold sg ab; split <;> split <;> omega
theorem gcd_step {x y : Int} (h1 : 0 ≤ x) (h2 : 0 ≤ y) : Int.gcd y (x.fmod y) = Int.gcd x y := by
  rw [Int.fmod_eq_emod_of_nonneg _ h2]
  obtain ⟨m, rfl⟩ := Int.eq_ofNat_of_zero_le h1
  obtain ⟨n, rfl⟩ := Int.eq_ofNat_of_zero_le h2
  rw [← Int.natCast_emod]
  simp only [Int.gcd_natCast_natCast]
  rw [Nat.gcd_comm n, ← Nat.gcd_rec, Nat.gcd_comm]
structure Bz (a b r0 s0 t0 r1 s1 t1 : Int) : Prop where
  n0 : 0 ≤ r0
  n1 : 0 ≤ r1
  e0 : s0 * a + t0 * b = r0
  e1 : s1 * a + t1 * b = r1
  g : Int.gcd r0 r1 = Int.gcd a b
  s : r0 * ab s1 + r1 * ab s0 ≤ ab b
  t : r0 * ab t1 + r1 * ab t0 ≤ ab a
  bs : ab s0 ≤ ab b + 1
  bt : ab t0 ≤ ab a + 1
  z : 1 ≤ r0 ∨ (ab s1 ≤ 1 ∧ ab t1 ≤ 1)
  l0 : r0 ≤ ab a + ab b
  l1 : r1 ≤ ab b
theorem Bz.init (a b : Int) : Bz a b (ab a) (sg a) 0 (ab b) 0 (sg b) := by
  have ha := ab_nn a
  have hb := ab_nn b
  have s1 : ab (sg a) = 1 := by unfold sg ab; split <;> simp
  have s2 : ab (sg b) = 1 := by unfold sg ab; split <;> simp
  have z : ab 0 = 0 := rfl
  refine ⟨ha, hb, by rw [sg_ab]; omega, by rw [sg_ab]; omega, ?_, ?_, ?_, ?_, ?_, ?_, by omega, by omega⟩
  · rw [ab_nat, ab_nat]; simp [Int.gcd]
  · rw [z, s1]; omega
  · rw [z, s2]; omega
  · rw [s1]; omega
  · rw [z]; omega
  · right; rw [z, s2]; omega
theorem ab_tri (x y : Int) : ab (x - y) ≤ ab x + ab y := by unfold ab; split <;> split <;> split <;> omega
theorem ab_mul (x y : Int) : ab (x * y) = ab x * ab y := by rw [ab_nat, ab_nat, ab_nat, Int.natAbs_mul]; simp
theorem Bz.step {a b r0 s0 t0 r1 s1 t1 : Int} (h : Bz a b r0 s0 t0 r1 s1 t1) (p : 0 < r1) : Bz a b r1 s1 t1 (r0 - r0.fdiv r1 * r1) (s0 - r0.fdiv r1 * s1) (t0 - r0.fdiv r1 * t1) ∧ r0 - r0.fdiv r1 * r1 < r1 := by
  have hm : r0 - r0.fdiv r1 * r1 = r0.fmod r1 := by
    have := Int.mul_fdiv_add_fmod r0 r1
    rw [Int.mul_comm] at this
    omega
  have m0 := Int.fmod_nonneg_of_pos r0 p
  have m1 := Int.fmod_lt_of_pos r0 p
  have q0 : 0 ≤ r0.fdiv r1 := Int.fdiv_nonneg h.n0 (by omega)
  have aq : ab (r0.fdiv r1) = r0.fdiv r1 := by unfold ab; rw [if_neg (by omega)]
  have n0 := h.n0
  have e0 := h.e0
  have e1 := h.e1
  have hs := h.s
  have ht := h.t
  have ns := ab_nn s0
  have nt := ab_nn t0
  have ns1 := ab_nn s1
  have nt1 := ab_nn t1
  have nb := ab_nn b
  have na := ab_nn a
  have bb : ∀ x y z : Int, 0 ≤ x → 0 ≤ y → r0 * x + r1 * y ≤ z → (1 ≤ r0 ∨ x ≤ 1) → 0 ≤ z → x ≤ z + 1 := fun x y z hx hy hz hc h0 => by
    have p1 := Int.mul_nonneg (show 0 ≤ r1 by omega) hy
    rcases hc with c | c
    · have := Int.mul_le_mul_of_nonneg_right c hx
      omega
    · omega
  refine ⟨⟨h.n1, by rw [hm]; exact m0, e1, by rw [← e0, ← e1]; grind, ?_, ?_, ?_, ?_, ?_, .inl p, by have := h.l1; omega, by have := h.l1; omega⟩, by rw [hm]; exact m1⟩
  · rw [hm, ← h.g]
    exact gcd_step h.n0 h.n1
  · have t1 := ab_tri s0 (r0.fdiv r1 * s1)
    rw [ab_mul, aq] at t1
    have t2 := Int.mul_le_mul_of_nonneg_left t1 h.n1
    have : r1 * (ab s0 + r0.fdiv r1 * ab s1) + (r0 - r0.fdiv r1 * r1) * ab s1 = r0 * ab s1 + r1 * ab s0 := by grind
    omega
  · have t1' := ab_tri t0 (r0.fdiv r1 * t1)
    rw [ab_mul, aq] at t1'
    have t2 := Int.mul_le_mul_of_nonneg_left t1' h.n1
    have : r1 * (ab t0 + r0.fdiv r1 * ab t1) + (r0 - r0.fdiv r1 * r1) * ab t1 = r0 * ab t1 + r1 * ab t0 := by grind
    omega
  · exact bb _ _ _ ns1 ns hs (by rcases h.z with c | c; exact .inl c; exact .inr c.1) nb
  · exact bb _ _ _ nt1 nt ht (by rcases h.z with c | c; exact .inl c; exact .inr c.2) na
structure Bf (a b g s t : Int) : Prop where
  hg : g = Int.gcd a b
  e : s * a + t * b = g
  bs : ab s ≤ ab b + 1
  bt : ab t ≤ ab a + 1
theorem Bz.fin {a b r0 s0 t0 r1 s1 t1 : Int} (h : Bz a b r0 s0 t0 r1 s1 t1) (z : r1 = 0) : Bf a b r0 s0 t0 := by
  refine ⟨?_, h.e0, h.bs, h.bt⟩
  have := h.g
  rw [z, Int.gcd_zero_right] at this
  rw [← this]
  have := h.n0
  omega
theorem Bf.bs' {a b g s t : Int} (h : Bf a b g s t) {n : Nat} (k : Bd b n) : Bd s (n + 1) := ⟨by
  have h1 := h.bs
  rw [ab_nat, ab_nat] at h1
  have h2 := k.lt
  have : (2 : Nat) ^ (n + 1) = 2 * 2 ^ n := by rw [Nat.pow_succ]; omega
  omega⟩
theorem Bf.bt' {a b g s t : Int} (h : Bf a b g s t) {n : Nat} (k : Bd a n) : Bd t (n + 1) := ⟨by
  have h1 := h.bt
  rw [ab_nat, ab_nat] at h1
  have h2 := k.lt
  have : (2 : Nat) ^ (n + 1) = 2 * 2 ^ n := by rw [Nat.pow_succ]; omega
  omega⟩
theorem bd_gcd {a b : Int} {n : Nat} (h : Bd a n) (k : Bd b n) : Bd (Int.gcd a b : Int) n := ⟨by
  rw [Int.natAbs_natCast]
  by_cases z : a = 0
  · subst z
    rw [Int.gcd_zero_left]; exact k.lt
  · have := Nat.le_of_dvd (by omega) (Int.natAbs_dvd_natAbs.mpr (Int.gcd_dvd_left (a := a) (b := b)))
    have h1 := h.lt
    rw [Int.natAbs_natCast] at this
    omega⟩
theorem bez_run {a b : Int} : ∀ (k : Nat) (r0 s0 t0 r1 s1 t1 : Int), r1.toNat ≤ k → Bz a b r0 s0 t0 r1 s1 t1 → ∃ g s t, Bf a b g s t
  | 0, r0, s0, t0, r1, s1, t1, hk, h => ⟨r0, s0, t0, h.fin (by have := h.n1; omega)⟩
  | k + 1, r0, s0, t0, r1, s1, t1, hk, h => by
    by_cases c : 0 < r1
    · have st := h.step c
      exact bez_run k _ _ _ _ _ _ (by have := st.2; omega) st.1
    · exact ⟨r0, s0, t0, h.fin (by have := h.n1; omega)⟩
theorem bezout_ex (a b : Int) : ∃ s t, s * a + t * b = (Int.gcd a b : Int) := by
  obtain ⟨g, s, t, f⟩ := bez_run _ _ _ _ _ _ _ (Nat.le_refl _) (Bz.init a b)
  exact ⟨s, t, by rw [f.e, f.hg]⟩
end BZ
set_option maxRecDepth 100000
set_option maxHeartbeats 4000000
set_option exponentiation.threshold 4000
namespace DL
open ST
/-! ### how great places are -/
theorem bd_plus {x y : Int} {n : Nat} (h : Bd x n) (k : Bd y n) : Bd (x + y) (n + 1) := ⟨by
  have := h.lt
  have := k.lt
  rw [Nat.pow_succ]
  omega⟩
structure Sz (n : Nat) (p : Sp) : Prop where
  x : Bd p.x n
  y : Bd p.y n
  a : Bd p.a (2 * n + 20)
theorem Sz.mono {n m : Nat} {p : Sp} (h : Sz n p) (hm : n ≤ m) : Sz m p := ⟨h.x.le hm, h.y.le hm, h.a.le (by omega)⟩
theorem Sz.mul {n : Nat} {p q : Sp} (h : Sz n p) (k : Sz n q) : Sz (n + 1) (mul p q) :=
  ⟨bd_plus h.x k.x, bd_plus h.y k.y, by
    have h1 := bd_plus h.a k.a
    have h2 : Bd (p.x * q.y) (n + n) := @bd_mul _ _ _ _ h.x k.y
    exact (bd_plus h1 (h2.le (by omega))).le (by omega)⟩
theorem Sz.inv {n : Nat} {p : Sp} (h : Sz n p) : Sz (n + 1) (inv p) :=
  ⟨(@bd_neg _ _ h.x).le (by omega), (@bd_neg _ _ h.y).le (by omega), by
    have h2 : Bd (p.x * p.y) (n + n) := @bd_mul _ _ _ _ h.x h.y
    have h3 := @bd_neg _ _ h.a
    have h4 := bd_plus (h2.le (show n + n ≤ 2 * n + 20 by omega)) h3
    rw [show p.x * p.y + -p.a = p.x * p.y - p.a by omega] at h4
    exact h4.le (by omega)⟩
theorem Sz.mulOk {n : Nat} {p q : Sp} (h : Sz n p) (k : Sz n q) (hn : n < 40000) : mulOk p.x q.y = true := mulOk_of h.x k.y (by omega)
theorem ab_lt {x : Int} {n : Nat} (h : Bd x n) : ab x < 2 ^ n := by
  have := h.lt
  have e : ((2 ^ n : Nat) : Int) = 2 ^ n := by simp
  unfold ab
  split <;> omega
theorem gnd_up (x y a : Int) : gnd x y a ≤ ab a + ab (x * y) := by
  unfold gnd
  rw [Int.fdiv_eq_ediv_of_nonneg _ (by decide)]
  unfold ab
  split <;> split <;> split <;> omega
theorem gnd_dn (x y a : Int) : ab a ≤ gnd x y a + ab (x * y) := by
  unfold gnd
  rw [Int.fdiv_eq_ediv_of_nonneg _ (by decide)]
  unfold ab
  split <;> split <;> split <;> omega
theorem two_le (n : Nat) : (1 : Int) ≤ 2 ^ n := by
  have e : ((2 ^ n : Nat) : Int) = 2 ^ n := by simp
  have : 1 ≤ 2 ^ n := Nat.one_le_two_pow
  omega
theorem Sz.st {n : Nat} {p : Sp} (h : Sz n p) : Bd (ST.st p) (n + 14) := by
  have hx := ab_lt h.x
  have hy := ab_lt h.y
  have ha := ab_lt h.a
  have hxy : ab (p.x * p.y) < 2 ^ (2 * n) := by
    have : Bd (p.x * p.y) (n + n) := @bd_mul _ _ _ _ h.x h.y
    have := ab_lt this
    rwa [show n + n = 2 * n by omega] at this
  have hg := gnd_up p.x p.y p.a
  have e1 : (2 : Int) ^ (2 * n + 20) = 2 ^ (2 * n) * 1048576 := by rw [Int.pow_add]; rfl
  have e2 : (2 : Int) ^ (n + 11) * 2 ^ (n + 11) = 2 ^ (2 * n) * 4194304 := by rw [← Int.pow_add, show n + 11 + (n + 11) = 2 * n + 22 by omega, Int.pow_add]; rfl
  have e3 : (2 : Int) ^ (n + 11) = 2 ^ n * 2048 := by rw [Int.pow_add]; rfl
  have o1 := two_le n
  have o2 := two_le (2 * n)
  have b : Box p.x p.y p.a (2 ^ (n + 11)) (2 ^ (n + 11)) := ⟨by omega, by omega, by omega⟩
  have h1 := stp_le b
  have h2 := stp_nonneg p.x p.y p.a
  have h3 := ab_nonneg p.x
  have h4 := ab_nonneg p.y
  have e4 : (2 : Int) ^ (n + 14) = 2 ^ n * 16384 := by rw [Int.pow_add]; rfl
  refine ⟨?_⟩
  have e5 : ((2 ^ (n + 14) : Nat) : Int) = 2 ^ (n + 14) := by simp
  unfold cost at h1
  show (stp p.x p.y p.a).natAbs < _
  omega
theorem Sz.of_st {n : Nat} {p : Sp} (h : ST.st p < 2 ^ n) : Sz n p := by
  have h0 := stp_ge p.x p.y p.a
  have h1 := stp_nonneg p.x p.y p.a
  have h2 := ab_nonneg p.x
  have h3 := ab_nonneg p.y
  have h' : stp p.x p.y p.a < 2 ^ n := h
  have e : ((2 ^ n : Nat) : Int) = 2 ^ n := by simp
  have bs : Bd (stp p.x p.y p.a) n := ⟨by omega⟩
  have hx : ab p.x ≤ stp p.x p.y p.a := by omega
  have hy : ab p.y ≤ stp p.x p.y p.a := by omega
  have ax : ∀ z : Int, (ab z).natAbs = z.natAbs := fun z => by unfold ab; split <;> omega
  obtain ⟨p', q', b, hb⟩ := stp_box p.x p.y p.a
  have b1 := b.px
  have b2 := b.qy
  have b3 := b.room
  unfold cost at hb
  have hp : p' ≤ stp p.x p.y p.a := by omega
  have hq : q' ≤ stp p.x p.y p.a := by omega
  have m1 : p' * q' ≤ stp p.x p.y p.a * stp p.x p.y p.a := Int.mul_le_mul hp hq (by omega) h1
  have m2 : ab (p.x * p.y) ≤ stp p.x p.y p.a * stp p.x p.y p.a := by
    have : ab (p.x * p.y) = ab p.x * ab p.y := by
      unfold ab
      have := @Int.mul_nonneg p.x p.y
      by_cases c1 : p.x < 0
      · by_cases c2 : p.y < 0
        · have := Int.mul_pos_of_neg_of_neg c1 c2
          rw [if_neg (by omega), if_pos c1, if_pos c2, Int.neg_mul_neg]
        · rw [if_pos c1, if_neg c2]
          have := Int.mul_nonneg (show 0 ≤ -p.x by omega) (show 0 ≤ p.y by omega)
          rw [Int.neg_mul] at this
          split
          · rw [Int.neg_mul]
          · rw [Int.neg_mul]; omega
      · by_cases c2 : p.y < 0
        · rw [if_neg c1, if_pos c2]
          have := Int.mul_nonneg (show 0 ≤ p.x by omega) (show 0 ≤ -p.y by omega)
          rw [Int.mul_neg] at this
          split
          · rw [Int.mul_neg]
          · rw [Int.mul_neg]; omega
        · have := Int.mul_nonneg (show 0 ≤ p.x by omega) (show 0 ≤ p.y by omega)
          rw [if_neg (by omega), if_neg c1, if_neg c2]
    rw [this]
    exact Int.mul_le_mul hx hy h3 h1
  have m3 := gnd_dn p.x p.y p.a
  have bb : Bd (stp p.x p.y p.a * stp p.x p.y p.a) (n + n) := @bd_mul _ _ _ _ bs bs
  have bb2 := bd_plus bb bb
  refine ⟨⟨?_⟩, ⟨?_⟩, ?_⟩
  · have := ax p.x
    omega
  · have := ax p.y
    omega
  · have := (bb2.of_le (ab_nonneg p.a) (by omega)).le (show n + n + 1 ≤ 2 * n + 20 by omega)
    exact ⟨by rw [← ax]; exact this.lt⟩
end DL
set_option maxRecDepth 100000
set_option maxHeartbeats 4000000
namespace W_k54
open DL
instance : Bd (2 : Int) 2 := ⟨by decide⟩
instance : Bd (3 : Int) 2 := ⟨by decide⟩
instance : Bd (4 : Int) 3 := ⟨by decide⟩
instance : Bd (5 : Int) 3 := ⟨by decide⟩
instance : Bd (6 : Int) 3 := ⟨by decide⟩
instance : Bd (7 : Int) 3 := ⟨by decide⟩
instance : Bd (9 : Int) 4 := ⟨by decide⟩
instance : Bd (10 : Int) 4 := ⟨by decide⟩
instance : Bd (18 : Int) 5 := ⟨by decide⟩
instance : Bd (43 : Int) 6 := ⟨by decide⟩
instance : Bd (61 : Int) 6 := ⟨by decide⟩
instance : Bd (63 : Int) 6 := ⟨by decide⟩
instance : Bd (64 : Int) 7 := ⟨by decide⟩
instance : Bd (73 : Int) 7 := ⟨by decide⟩
instance : Bd (97 : Int) 7 := ⟨by decide⟩
instance : Bd (577 : Int) 10 := ⟨by decide⟩
instance : Bd (10000 : Int) 14 := ⟨by decide⟩
instance : Bd (28723 : Int) 15 := ⟨by decide⟩
instance : Bd (30671 : Int) 15 := ⟨by decide⟩
instance : Bd (41231 : Int) 16 := ⟨by decide⟩
instance : Bd (48947 : Int) 16 := ⟨by decide⟩
instance : Bd (51341 : Int) 16 := ⟨by decide⟩
instance : Bd (10000000 : Int) 24 := ⟨by decide⟩
instance : Bd (4294966187 : Int) 32 := ⟨by decide⟩
instance : Bd (4294966217 : Int) 32 := ⟨by decide⟩
instance : Bd (4294966237 : Int) 32 := ⟨by decide⟩
instance : Bd (4294966279 : Int) 32 := ⟨by decide⟩
instance : Bd (4294966297 : Int) 32 := ⟨by decide⟩
instance : Bd (1000000000000000000 : Int) 60 := ⟨by decide⟩
abbrev penD (cs : List Int) (c l : Int) : List (DK × D) := [(.s [99, 101, 108, 108, 115], .lst (cs.map D.int)), (.s [109, 97, 114, 107], .int c), (.s [114, 101, 115, 116], .int l)]
def Pen (n : Nat) (S : List Cell) : Prop := ∃ cs c l, S = [.dic (penD cs c l)] ∧ 0 ≤ c ∧ c ≤ n ∧ 0 ≤ l
theorem Pen.mono {n m : Nat} {S : List Cell} (h : Pen n S) (hm : n ≤ m) : Pen m S := by
  obtain ⟨cs, c, l, h1, h2, h3, h4⟩ := h
  exact ⟨cs, c, l, h1, h2, by omega, h4⟩
theorem draw_ok {n : Nat} {S : List Cell} {p : Int} (hS : Pen n S) (hn : n < 2 ^ 20) (hp : 0 < p) (hp2 : p < 2 ^ 60) : ∃ d S', g__law_draw [.cell 0, .int p] S = .ok (.int d) S' ∧ 0 ≤ d ∧ d < p ∧ Pen (n + 1) S' := by
  obtain ⟨cs, c, l, rfl, c0, c1, l0⟩ := hS
  have bp : Bd p 60 := ⟨by omega⟩
  have bc : Bd c 20 := ⟨by omega⟩
  have dp : divOk p = true := divOk_of bp (by omega) (by omega)
  have hp' : p ≠ 0 := by omega
  have m1 := fun x : Int => Int.fmod_nonneg_of_pos x hp
  have m2 := fun x : Int => Int.fmod_lt_of_pos x hp
  have ndk : ∀ (a b c : D), keysNd [(.s [99, 101, 108, 108, 115], a), (.s [109, 97, 114, 107], b), (.s [114, 101, 115, 116], c)] = true := fun a b c => rfl
  have n1 (x : Int) : mulOk (x.fmod 4294966297) 48947 = true := by
    have : Bd (x.fmod 4294966297) 33 := .of_range (m := 4294966297) (Int.fmod_nonneg_of_pos _ (by decide)) (Int.fmod_lt_of_pos _ (by decide)) (by decide)
    exact mulOk_bd (by decide)
  have n2 (x : Int) : mulOk (x.fmod 4294966279) (x.fmod 4294966279) = true := by
    have : Bd (x.fmod 4294966279) 33 := .of_range (m := 4294966279) (Int.fmod_nonneg_of_pos _ (by decide)) (Int.fmod_lt_of_pos _ (by decide)) (by decide)
    exact mulOk_bd (by decide)
  have n3 (x : Int) : mulOk 41231 (x.fmod 4294966279) = true := by
    have : Bd (x.fmod 4294966279) 33 := .of_range (m := 4294966279) (Int.fmod_nonneg_of_pos _ (by decide)) (Int.fmod_lt_of_pos _ (by decide)) (by decide)
    exact mulOk_bd (by decide)
  have n4 (x : Int) : mulOk (x.fmod 4294966237) (x.fmod 4294966237) = true := by
    have : Bd (x.fmod 4294966237) 33 := .of_range (m := 4294966237) (Int.fmod_nonneg_of_pos _ (by decide)) (Int.fmod_lt_of_pos _ (by decide)) (by decide)
    exact mulOk_bd (by decide)
  have n5 (x : Int) : mulOk 28723 (x.fmod 4294966237) = true := by
    have : Bd (x.fmod 4294966237) 33 := .of_range (m := 4294966237) (Int.fmod_nonneg_of_pos _ (by decide)) (Int.fmod_lt_of_pos _ (by decide)) (by decide)
    exact mulOk_bd (by decide)
  have n6 (x : Int) : mulOk (x.fmod 4294966217) (x.fmod 4294966217 + 51341) = true := by
    have : Bd (x.fmod 4294966217) 33 := .of_range (m := 4294966217) (Int.fmod_nonneg_of_pos _ (by decide)) (Int.fmod_lt_of_pos _ (by decide)) (by decide)
    exact mulOk_bd (by decide)
  have q0 : mulOk 97 c = true := mulOk_bd (by decide)
  have q1 : mulOk 30671 c = true := mulOk_bd (by decide)
  have q2 : mulOk 577 c = true := mulOk_bd (by decide)
  have q3 : mulOk 73 c = true := mulOk_bd (by decide)
  have qs : mulOk (30671 * c) c = true := mulOk_bd (by decide)
  have qd : divOk 64 = true := by decide
  by_cases a1 : 0 < l
  · simp [g__law_draw, b__law_draw, fnD, dLook, dPut, dp, hp', ndk, a1]
    exact ⟨_, _, ⟨rfl, rfl⟩, m1 _, m2 _, cs, c, _, rfl, c0, by omega, Int.fdiv_nonneg l0 (by omega)⟩
  · by_cases a2 : cs = []
    · subst a2
      have a3 : ¬ c < 0 := by omega
      simp [g__law_draw, b__law_draw, fnD, dLook, dPut, dp, hp', ndk, a1, q0, q1, q2, q3, qs, qd, n1, n2, n3, n4, n5, n6, a3]
      exact ⟨_, _, ⟨rfl, rfl⟩, m1 _, m2 _, [], c + 1, l, rfl, by omega, by omega, l0⟩
    · obtain ⟨x, hx⟩ := ix_mod cs c a2
      by_cases a3 : c < cs.length ∧ 1000000000000000000 ≤ (if x < 0 then -x else x)
      · simp [g__law_draw, b__law_draw, fnD, dLook, dPut, dp, hp', ndk, a1, q0, q1, q2, q3, qs, qd, n1, n2, n3, n4, n5, n6, a2, hx, a3]
        exact ⟨_, _, ⟨rfl, rfl⟩, m1 _, m2 _, cs, c + 1, _, rfl, by omega, by omega, Int.fdiv_nonneg (by omega) (by omega)⟩
      · by_cases a4 : c < cs.length
        · have a5 : ¬ 1000000000000000000 ≤ (if x < 0 then -x else x) := fun h => a3 ⟨a4, h⟩
          simp [g__law_draw, b__law_draw, fnD, dLook, dPut, dp, hp', ndk, a1, q0, q1, q2, q3, qs, qd, n1, n2, n3, n4, n5, n6, a2, hx, a4, a5]
          exact ⟨_, _, ⟨rfl, rfl⟩, m1 _, m2 _, cs, c + 1, l, rfl, by omega, by omega, l0⟩
        · simp [g__law_draw, b__law_draw, fnD, dLook, dPut, dp, hp', ndk, a1, q0, q1, q2, q3, qs, qd, n1, n2, n3, n4, n5, n6, a2, hx, a4]
          exact ⟨_, _, ⟨rfl, rfl⟩, m1 _, m2 _, cs, c + 1, l, rfl, by omega, by omega, l0⟩
theorem begin_ok (ns : List Int) : ∃ S, g__law_begin [.scr (ns.map D.int)] [] = .ok (.cell 0) S ∧ Pen 0 S := by
  have e : cutD (ns.map D.int) none (some 63) = (cutD ns none (some 63)).map D.int := by
    simp [cutD, List.map_drop, List.map_take]
  have k : ∀ a b c : D, keysNd [(.s [99, 101, 108, 108, 115], a), (.s [109, 97, 114, 107], b), (.s [114, 101, 115, 116], c)] = true := fun a b c => rfl
  simp [g__law_begin, b__law_begin, fnD, e, k]
  exact ⟨_, 0, 0, rfl, by decide, by decide, by decide⟩
theorem pick_ok {n : Nat} {S : List Cell} {xs : List D} (hS : Pen n S) (hn : n < 2 ^ 20) (h0 : xs ≠ []) (h1 : xs.length < 1000) : ∃ d S', g__law_pick [.cell 0, .lst xs] S = .ok d S' ∧ d ∈ xs ∧ Pen (n + 1) S' := by
  have hl : (0 : Int) < xs.length := by
    cases xs with
    | nil => exact absurd rfl h0
    | cons a r => simp
  obtain ⟨d, S', e, d0, d1, hP⟩ := draw_ok hS hn hl (by omega)
  obtain ⟨k, rfl⟩ := Int.eq_ofNat_of_zero_le d0
  have hk : k < xs.length := by omega
  have : L2.atI xs (k : Int) = some xs[k] := L2.atI_nat (by simp [hk])
  refine ⟨xs[k], S', ?_, List.getElem_mem _, hP⟩
  simp [g__law_pick, b__law_pick, fnD, e, this]
end W_k54
set_option maxRecDepth 100000
set_option maxHeartbeats 4000000
set_option exponentiation.threshold 4000
namespace W_k54
open DL ST
/-! ### the whole root -/
def IsFl (n r : Int) : Prop := 0 ≤ r ∧ r * r ≤ n ∧ n < (r + 1) * (r + 1)
theorem newton {n f : Int} (hf : 1 ≤ f) : n < ((f + n.fdiv f).fdiv 2 + 1) * ((f + n.fdiv f).fdiv 2 + 1) := by
  have h1 : f * n.fdiv f + n.fmod f = n := Int.mul_fdiv_add_fmod n f
  have h3 : n.fmod f < f := Int.fmod_lt_of_pos _ (by omega)
  generalize n.fdiv f = q at *
  rw [Int.fdiv_eq_ediv_of_nonneg _ (by decide)]
  have h5 : f + q ≤ 2 * ((f + q) / 2) + 1 := by omega
  generalize (f + q) / 2 = t at *
  by_cases c : 0 ≤ f + q + 1
  · have h6 := pr_pos (show 0 ≤ 2 * t + 2 - (f + q + 1) by omega) (show 0 ≤ 2 * t + 2 + (f + q + 1) by omega)
    have h7 : 0 ≤ (f - q - 1) * (f - q - 1) := by
      by_cases g : 0 ≤ f - q - 1
      · exact pr_pos g g
      · have := pr_pos (show 0 ≤ -(f - q - 1) by omega) (show 0 ≤ -(f - q - 1) by omega)
        rw [Int.neg_mul_neg] at this
        exact this
    rw [show (2 * t + 2 - (f + q + 1)) * (2 * t + 2 + (f + q + 1)) = 4 * ((t + 1) * (t + 1)) - (f + q + 1) * (f + q + 1) by grind] at h6
    rw [show (f - q - 1) * (f - q - 1) = (f + q + 1) * (f + q + 1) - 4 * (f * q + f) by grind] at h7
    omega
  · have h6 : f * q ≤ f * (-f - 2) := Int.mul_le_mul_of_nonneg_left (by omega) (by omega)
    have h7 := pr_pos (show 0 ≤ f by omega) (show 0 ≤ f by omega)
    have h8 : 0 ≤ (t + 1) * (t + 1) := by
      by_cases g : 0 ≤ t + 1
      · exact pr_pos g g
      · have := pr_pos (show 0 ≤ -(t + 1) by omega) (show 0 ≤ -(t + 1) by omega)
        rw [Int.neg_mul_neg] at this
        exact this
    rw [show f * (-f - 2) = -(f * f) - 2 * f by grind] at h6
    omega
theorem bits_lt (n : Int) (h : 0 ≤ n) : n < 2 ^ (PySem.Builtin.Int.intBits n) := by
  unfold PySem.Builtin.Int.intBits
  by_cases e : n = 0
  · subst e; decide
  · have h1 : n.natAbs < 2 ^ (n.natAbs.log2 + 1) := Nat.lt_log2_self
    rw [if_neg (by simpa using e)]
    have h2 : ((2 ^ (n.natAbs.log2 + 1) : Nat) : Int) = 2 ^ (n.natAbs.log2 + 1) := by simp
    rw [← h2]
    omega
theorem bits_le {n : Int} {k : Nat} (b : Bd n k) : PySem.Builtin.Int.intBits n ≤ k := by
  unfold PySem.Builtin.Int.intBits
  by_cases e : n = 0
  · subst e; simp
  · rw [if_neg (by simpa using e)]
    have := (Nat.log2_lt (show n.natAbs ≠ 0 by omega)).mpr b.lt
    omega
theorem fl_rt {n r : Int} (h : IsFl n r) : rt n = if r * r = n then r else r + 1 := by
  obtain ⟨h1, h2, h3⟩ := h
  split
  · rename_i e
    refine rt_eq ⟨h1, by omega, fun hr => ?_⟩
    rw [show (r - 1) * (r - 1) = r * r - 2 * r + 1 by grind]
    omega
  · refine rt_eq ⟨by omega, by omega, fun _ => ?_⟩
    rw [show r + 1 - 1 = r by omega]
    omega
/-! ### steps -/
theorem bd_gnd {x y a : Int} (bx : Bd x 600) (bY : Bd y 600) (ba : Bd a 1200) : Bd (gnd x y a) 3604 := by
  unfold gnd ab
  infer_instance
abbrev tr (x y a : Int) : D := .tup [.int x, .int y, .int a]
abbrev plc (x y a : Int) : D := .ins "Place" [([120], .int x), ([121], .int y), ([97, 114, 101, 97], .int a)]
@[simp] theorem is_integer_ok (i : Int) (S : List Cell) : g_is_integer [.int i] S = .ok (.bl true) S := by
  simp [g_is_integer, b_is_integer, fnD]
@[simp] theorem init_ok (x y a : Int) (S : List Cell) : g_PlaceX_initX [.int x, .int y, .int a] S = .ok [([120], .int x), ([121], .int y), ([97, 114, 101, 97], .int a)] S := by
  simp [g_PlaceX_initX, b_PlaceX_initX, w_PlaceX_initX_0, inD, inFin, putN]
/-- a place of the size that is drawn -/
structure PB (x y a : Int) : Prop where
  x : Bd x 600
  y : Bd y 600
  a : Bd a 1200
end W_k54
set_option maxRecDepth 100000
set_option maxHeartbeats 4000000
set_option exponentiation.threshold 4000
namespace W_k54
open DL ST
/-! ### runs as data -/
abbrev qD (q : Nat × Int) : D := .tup [.str [q.1], .int q.2]
abbrev rD (r : Runs) : List D := r.map qD
abbrev wk (r : Runs) : D := .ins "Walk" [([114, 117, 110, 115], .tup (rD r))]
abbrev spD (p : Sp) : D := tr p.x p.y p.a
theorem isL_lt {c : Nat} (h : isL c) : c < 1114112 := by rcases h with rfl | rfl | rfl | rfl <;> decide
theorem mgStep_len (acc : Runs) (q : Nat × Int) : (mgStep acc q).length ≤ acc.length + 1 := by
  unfold mgStep
  split
  · split
    · simp
    · split <;> simp
  · split <;> simp
theorem take_snoc {α : Type} {l : List α} {i : Nat} {x : α} (h : l[i]? = some x) : l.take (i + 1) = l.take i ++ [x] := by
  rw [List.take_add_one, h]
  rfl
theorem merged_ok (d : D) (r : Runs) (S : List Cell) (hd : itemsD d = some (rD r)) (g : Good r) (hl : r.length ≤ 100000) : g_merged [d] S = .ok (.tup (rD (mg r))) S := by
  obtain ⟨s', e, ⟨y2, y3, hs⟩, hS⟩ := for_inv (g := gT 2 (gsCons (gN 2) (gsCons (gN 3) gsNil))) (b := w_merged_0) (items := rD r) (s := ⟨[.val d, .ol [], .un, .un], S⟩)
    (fun i s => (∃ y2 y3, s.sl = [.val d, .ol (rD ((r.take i).foldl mgStep [])), y2, y3]) ∧ s.st = S ∧ ((r.take i).foldl mgStep []).length ≤ i) ⟨⟨_, _, rfl⟩, rfl, Nat.le_refl _⟩ (fun i x s hi hp => by
      obtain ⟨⟨y2, y3, hs⟩, hS, hlen⟩ := hp
      obtain ⟨sl, st⟩ := s
      simp only at hs hS
      subst hs hS
      rw [List.getElem?_map, Option.map_eq_some_iff] at hi
      obtain ⟨q, hq, rfl⟩ := hi
      have hg := g q (List.mem_of_getElem? hq)
      have hlt := isL_lt hg.1
      have hi : i < r.length := (List.getElem?_eq_some_iff.mp hq).1
      refine ⟨DS.mk [.val d, .ol (rD ((r.take i).foldl mgStep [])), .val (.str [q.1]), .val (.int q.2)] st, DS.mk [.val d, .ol (rD ((r.take (i + 1)).foldl mgStep [])), .val (.str [q.1]), .val (.int q.2)] st, by simp, .inl ?_, ⟨_, _, rfl⟩, rfl, ?_⟩
      · rw [take_snoc hq, List.foldl_append]
        show _ = Res.ok Out.nx (DS.mk [.val d, .ol (rD (mgStep ((r.take i).foldl mgStep []) q)), .val (.str [q.1]), .val (.int q.2)] st)
        have nt := (fold_ok home (r.take i) [] (fun p hp => g p (List.mem_of_mem_take hp)) trivial).1
        generalize (r.take i).foldl mgStep [] = acc at *
        unfold mgStep
        have small : acc.length < 1000000 := by omega
        cases hl : acc.getLast? with
        | none =>
          have : acc = [] := List.getLast?_eq_none_iff.mp hl
          subst this
          by_cases c : 0 < q.2
          · simp [w_merged_0, c]
          · simp [w_merged_0, c]
        | some l =>
          rw [List.getLast?_eq_some_iff] at hl
          obtain ⟨ys, rfl⟩ := hl
          have hl2 : isL l.1 := (neat_app nt).2.1
          have hlt2 := isL_lt hl2
          have a1 := at_neg1 (rD ys) (qD l)
          have a2 : L2.ixN (ys.length + 1) (-1) = some ys.length := by rw [ixN_last (by omega)]; rfl
          by_cases c1 : l.1 = q.1
          · have hlt3 : q.1 < 1114112 := hlt
            simp [w_merged_0, a1, a2, c1, hlt]
          · by_cases c2 : 0 < q.2
            · simp only [List.length_append, List.length_cons, List.length_nil] at small
              simp [w_merged_0, a1, c1, hlt, hlt2, c2, small]
            · simp [w_merged_0, a1, c1, hlt, hlt2, c2]
      · rw [take_snoc hq, List.foldl_append]
        have := mgStep_len ((r.take i).foldl mgStep []) q
        show (mgStep _ q).length ≤ _
        omega)
  obtain ⟨sl, st⟩ := s'
  simp only at hs hS
  obtain ⟨rfl, hlen⟩ := hS
  subst hs
  rw [List.length_map, List.take_length] at e
  simp [g_merged, b_merged, fnD, hd, e]
  rfl
end W_k54
set_option maxRecDepth 100000
set_option maxHeartbeats 4000000
set_option exponentiation.threshold 4000
namespace W_k54
open DL ST
/-! ### told walks -/
@[simp] theorem is_list_lst (xs : List D) (S : List Cell) : g_is_list [.lst xs] S = .ok (.bl true) S := by
  simp [g_is_list, b_is_list, fnD, isLT]
@[simp] theorem is_list_tup (xs : List D) (S : List Cell) : g_is_list [.tup xs] S = .ok (.bl true) S := by
  simp [g_is_list, b_is_list, fnD, isLT]
@[simp] theorem is_whole_ok (i j : Int) (S : List Cell) : g_is_whole [.int i, .int j] S = .ok (.bl (decide (j ≤ i))) S := by
  simp [g_is_whole, b_is_whole, fnD]
theorem isi_str (l : Nm) : bIsi ["Place", "Walk", "Lot"] [.str l, .ty "str"] = some (.bl true) := by simp [bIsi, tyOfD, tyD, isOne, mem_ty, isTy]
theorem isi_lst_str (l : List D) : bIsi ["Place", "Walk", "Lot"] [.lst l, .ty "str"] = some (.bl false) := by simp [bIsi, tyOfD, tyD, isOne, mem_ty, isTy]
theorem isi_tup_str (l : List D) : bIsi ["Place", "Walk", "Lot"] [.tup l, .ty "str"] = some (.bl false) := by simp [bIsi, tyOfD, tyD, isOne, mem_ty, isTy]
theorem is_pair_ok (q : Nat × Int) (S : List Cell) (h : isL q.1 ∧ 0 ≤ q.2) : g_is_pair [qD q] S = .ok (.bl true) S := by
  have h1 : (q.1 = 101 ∨ q.1 = 110 ∨ q.1 = 119 ∨ q.1 = 115) = True := eq_true h.1
  simp [g_is_pair, b_is_pair, fnD, isi_str, h.2, h1, bLen]
theorem all_true (n : Nat) : bAll [.lst (List.replicate n (.bl true))] = some (.bl true) := by
  have h : blsOf (List.replicate n (D.bl true)) = some (List.replicate n true) := by
    induction n with
    | zero => rfl
    | succ n ih => simp [List.replicate_succ, blsOf, ih]
  simp [bAll, h]
theorem told_of (d : D) (r : Runs) (S : List Cell) (hd : d = .lst (rD r) ∨ d = .tup (rD r)) (g : Good r) (hl : r.length ≤ 10000) : g_pairs_told [d] S = .ok (.lst (rD r)) S := by
  have hit : itemsD d = some (rD r) := by rcases hd with rfl | rfl <;> rfl
  have e1 : aLc [2] (itSeq (eVar 0)) (gN 2) bYes e_pairs_told_2 ⟨[.val d, .un, .un], S⟩ = .ok (List.replicate r.length (.bl true)) ⟨[.val d, .un, .un], S⟩ := by
    have := aLc_map (vs := [2]) (it := itSeq (eVar 0)) (g := gN 2) (e := e_pairs_told_2) (s := ⟨[.val d, .un, .un], S⟩) (s0 := ⟨[.val d, .un, .un], S⟩) (items := rD r) (fun _ => .bl true) (by simp [hit]) (fun z hz => by
      obtain ⟨q, hq, rfl⟩ := List.mem_map.mp hz
      refine ⟨⟨[.val d, .un, .val (qD q)], S⟩, ⟨[.val d, .un, .val (qD q)], S⟩, by simp, ?_, by simp⟩
      simp [e_pairs_told_2, is_pair_ok q S (g q hq)]) (by simp; omega)
    rw [List.map_const', List.length_map] at this
    simpa [-r_aLc] using this
  have e2 : aLc [2] (itSeq (eVar 0)) (gN 2) bYes e_pairs_told_3 ⟨[.val d, .un, .un], S⟩ = .ok (rD r) ⟨[.val d, .un, .un], S⟩ := by
    have := aLc_map (vs := [2]) (it := itSeq (eVar 0)) (g := gN 2) (e := e_pairs_told_3) (s := ⟨[.val d, .un, .un], S⟩) (s0 := ⟨[.val d, .un, .un], S⟩) (items := rD r) id (by simp [hit]) (fun z hz => by
      obtain ⟨q, hq, rfl⟩ := List.mem_map.mp hz
      refine ⟨⟨[.val d, .un, .val (qD q)], S⟩, ⟨[.val d, .un, .val (qD q)], S⟩, by simp, ?_, by simp⟩
      simp [e_pairs_told_3]) (by simp; omega)
    simpa [-r_aLc] using this
  have h3 := all_true r.length
  have h4 : ((r.length : Int) ≤ 10000) = True := eq_true (by omega)
  rcases hd with rfl | rfl
  · simp [-r_aLc, g_pairs_told, b_pairs_told, fnD, isi_lst_str, bLen, h4, e1, e2, h3]
  · simp [-r_aLc, g_pairs_told, b_pairs_told, fnD, isi_tup_str, bLen, h4, e1, e2, h3]
theorem winit_ok (d : D) (r : Runs) (S : List Cell) (hd : d = .lst (rD r) ∨ d = .tup (rD r)) (g : Good r) (hl : r.length ≤ 10000) : g_WalkX_initX [d] S = .ok [([114, 117, 110, 115], .tup (rD (mg r)))] S := by
  have h1 := told_of d r S hd g hl
  have h2 := merged_ok (.lst (rD r)) r S rfl g (by omega)
  simp [g_WalkX_initX, b_WalkX_initX, inD, inFin, putN, h1, h2]
/-! ### sides, areas -/
theorem ab_eq (x : Int) : (if x < 0 then -x else x) = ab x := rfl
theorem best_ok (x y k : Int) (S : List Cell) : g_best_sides [.int x, .int y, .int k] S = .ok (.tup [.int (bs x y k).1, .int (bs x y k).2]) S := by
  unfold bs
  by_cases c : k ≤ ab (x - y)
  · by_cases c1 : y ≤ x
    · simp [g_best_sides, b_best_sides, fnD, ab_eq, c, c1]
    · simp [g_best_sides, b_best_sides, fnD, ab_eq, c, c1]
  · simp [g_best_sides, b_best_sides, fnD, ab_eq, c]
theorem Bd.plus {x y : Int} {n : Nat} (h : Bd x n) (k : Bd y n) : Bd (x + y) (n + 1) := ⟨by
  have := h.lt
  have := k.lt
  rw [Nat.pow_succ]
  omega⟩
theorem bd_ab {x : Int} {n : Nat} (h : Bd x n) : Bd (ab x) n := by unfold ab; infer_instance
theorem bd_stp {x y a : Int} (bx : Bd x 600) (bY : Bd y 600) (ba : Bd a 1200) : Bd (stp x y a) 3620 := by
  have bg := bd_gnd bx bY ba
  have hg := gnd_nonneg x y a
  have h := rt_is (show 0 ≤ 4 * gnd x y a by omega)
  obtain ⟨h1, h2, h3⟩ := h
  have hx := ab_nonneg x
  have hy := ab_nonneg y
  obtain ⟨m1, m2, m3⟩ := mor_les x y
  have up : stp x y a ≤ 8 * gnd x y a + 2 + (ab x + ab y) := by
    unfold stp stpF
    split
    · omega
    · rename_i c
      split
      · rename_i c2
        have hm : 0 < mor x y := by
          by_cases z : 0 < mor x y
          · exact z
          · have : mor x y = 0 := by omega
            rw [this] at c c2
            simp at c c2
            omega
        have : ceilD (gnd x y a) (mor x y) ≤ gnd x y a := by
          unfold ceilD
          have e1 : mor x y * (-gnd x y a).fdiv (mor x y) + (-gnd x y a).fmod (mor x y) = -gnd x y a := Int.mul_fdiv_add_fmod _ _
          have e2 : (-gnd x y a).fmod (mor x y) < mor x y := Int.fmod_lt_of_pos _ hm
          generalize (-gnd x y a).fdiv (mor x y) = q at *
          by_cases z : -q ≤ gnd x y a
          · exact z
          · have := pr_pos (show 0 ≤ mor x y - 1 by omega) (show 0 ≤ -q - 1 by omega)
            rw [show (mor x y - 1) * (-q - 1) = -(mor x y * q) - mor x y + q + 1 by grind] at this
            omega
        omega
      · have : rt (4 * gnd x y a) ≤ 4 * gnd x y a + 1 := by
          by_cases z : 0 < rt (4 * gnd x y a)
          · have h4 := h3 z
            by_cases z1 : rt (4 * gnd x y a) = 1
            · omega
            · have := pr_pos (show 0 ≤ rt (4 * gnd x y a) - 2 by omega) (show 0 ≤ rt (4 * gnd x y a) - 1 by omega)
              generalize rt (4 * gnd x y a) = r at *
              rw [show (r - 2) * (r - 1) = (r - 1) * (r - 1) - (r - 1) by grind] at this
              omega
          · omega
        omega
  have b8 : Bd (8 : Int) 4 := ⟨by decide⟩
  have b1 : Bd (8 * gnd x y a) 3610 := (bd_mul (m := 4) (n := 3604) : Bd (8 * gnd x y a) _).le (by decide)
  have b2 : Bd (ab x + ab y) 3611 := (Bd.plus (bd_ab bx) (bd_ab bY)).le (by decide)
  have b3 : Bd (8 * gnd x y a + 2) 3611 := Bd.plus b1 ((inferInstance : Bd (2 : Int) 2).le (by decide))
  exact ((Bd.plus b3 b2).of_le (stp_nonneg x y a) up).le (by decide)
theorem bd_bs {x y k : Int} (bx : Bd x 600) (bY : Bd y 600) (bk : Bd k 5300) : Bd (bs x y k).1 7000 ∧ Bd (bs x y k).2 7000 := by
  have b1 : Bd (x + k) 7000 := (Bd.plus (bx.le (by decide)) bk).le (by decide)
  have b2 : Bd (y + k) 7000 := (Bd.plus (bY.le (by decide)) bk).le (by decide)
  have b0 : Bd (x + y + k) 5301 := Bd.plus ((Bd.plus bx bY).le (by decide)) bk
  have b3 : Bd ((x + y + k).fdiv 2) 7000 := (bd_half (h := b0)).le (by decide)
  have b4 : Bd ((x + y + k + 1).fdiv 2) 7000 := (bd_half (h := Bd.plus b0 ((inferInstance : Bd (1 : Int) 1).le (by decide)))).le (by decide)
  unfold bs
  split
  · split
    · exact ⟨bx.le (by decide), b2⟩
    · exact ⟨b1, bY.le (by decide)⟩
  · exact ⟨b4, b3⟩
def limD : Option (Int × Int) → D
  | none => .non
  | some (a, b) => .tup [.int a, .int b]
theorem bd_ext {x y n : Int} (bx : Bd x 600) (bY : Bd y 600) (bn : Bd n 4000) : Bd ((n - ab x - ab y).fdiv 2) 5300 := by
  have b1 := bd_ab bx
  have b2 := bd_ab bY
  exact (inferInstance : Bd ((n - ab x - ab y).fdiv 2) _).le (by decide)
theorem areas_of_ok (x y n : Int) (S : List Cell) (bx : Bd x 600) (bY : Bd y 600) (bn : Bd n 4000) : g_areas_of [.int x, .int y, .int n] S = .ok (limD (lim x y n)) S := by
  have be := bd_ext bx bY bn
  have m0 : mulOk x y = true := mulOk_bd (by decide)
  unfold lim
  by_cases c1 : n - ab x - ab y < 0
  · simp [g_areas_of, b_areas_of, fnD, ab_eq, c1, limD]
  · by_cases c2 : (n - ab x - ab y).fmod 2 = 1
    · simp [g_areas_of, b_areas_of, fnD, ab_eq, c1, c2, limD]
    · generalize hk : (n - ab x - ab y).fdiv 2 = k at *
      have hb := best_ok (ab x) (ab y) k S
      obtain ⟨b1, b2⟩ := bd_bs (bd_ab bx) (bd_ab bY) be
      generalize (bs (ab x) (ab y) k).1 = W at *
      generalize (bs (ab x) (ab y) k).2 = H at *
      have m1 : mulOk 2 W = true := mulOk_bd (by decide)
      have m2 : mulOk (2 * W) H = true := mulOk_bd (by decide)
      have e : 2 * W * H = 2 * (W * H) := by grind
      simp [g_areas_of, b_areas_of, fnD, ab_eq, c1, c2, hk, hb, m0, m1, m2, limD, loA, hiA, e]
/-! ### a walk of so many steps -/
def nmD (f : Nat → Nat) : D := .dic [(.s [101], .str [f 101]), (.s [110], .str [f 110]), (.s [119], .str [f 119]), (.s [115], .str [f 115])]
theorem nm_nd (a b c d : D) : keysNd [(.s [101], a), (.s [110], b), (.s [119], c), (.s [115], d)] = true := rfl
theorem wp_isL {x y a k : Int} : ∀ q ∈ wp x y a k, isL q.1 := fun q hq => by
  unfold wp at hq
  split at hq <;> simp only [List.mem_cons, List.not_mem_nil, or_false] at hq
  · rcases hq with rfl | rfl | rfl | rfl <;> simp [isL]
  · rcases hq with rfl | rfl | rfl | rfl | rfl | rfl | rfl <;> simp [isL]
theorem wp_short {x y a k : Int} : (wp x y a k).length ≤ 7 := by
  unfold wp
  split <;> simp
def ptD : Option Runs → D
  | none => .non
  | some r => .lst (rD r)
/-! ### how far a walk leads -/
theorem led_x : ∀ (r : Runs) (p : Sp), Good r → -(len r) ≤ (led p r).x - p.x ∧ (led p r).x - p.x ≤ len r
  | [], p, _ => by simp [led, len]
  | (c, t) :: r, p, g => by
    have h := led_x r (gone p c t) g.tail
    have h1 := g.head.2
    simp only [led, len] at *
    have h2 : -t ≤ (gone p c t).x - p.x ∧ (gone p c t).x - p.x ≤ t := by
      unfold gone
      split
      · simp; omega
      · split
        · simp; omega
        · split <;> simp <;> omega
    omega
theorem len_take {r : Runs} (g : Good r) (i : Nat) : len (r.take i) ≤ len r := by
  have h : len (r.take i) + len (r.drop i) = len r := by rw [← len_app, List.take_append_drop]
  have := len_nonneg (r := r.drop i) (fun q hq => g q (List.mem_of_mem_drop hq))
  omega
theorem mem_len : ∀ {r : Runs} (q : Nat × Int), Good r → q ∈ r → q.2 ≤ len r
  | (c, t) :: r, q, g, h => by
    have h1 := g.head.2
    have h2 := len_nonneg g.tail
    rcases List.mem_cons.mp h with z | z
    · subst z; simp only [len]; omega
    · have := mem_len q g.tail z
      simp only [len] at *
      omega
theorem bd_pm {x m : Int} {n : Nat} (b : Bd m n) (h1 : -m ≤ x) (h2 : x ≤ m) : Bd x n := ⟨by have := b.lt; omega⟩
theorem gone_mul {r : Runs} (g : Good r) {n : Nat} (bl : Bd (len r) n) (hn : n < 40000) {i : Nat} {q : Nat × Int} (hq : r[i]? = some q) : mulOk (led home (r.take i)).x q.2 = true := by
  have h1 := led_x (r.take i) home (fun q hq => g q (List.mem_of_mem_take hq))
  have h2 := len_take g i
  have h3 := mem_len q g (List.mem_of_getElem? hq)
  have h4 := (g q (List.mem_of_getElem? hq)).2
  simp only [home] at h1
  have b1 : Bd (led home (r.take i)).x n := bd_pm bl (by simp only [home]; omega) (by simp only [home]; omega)
  have b2 : Bd q.2 n := bl.of_le h4 h3
  exact mulOk_bd (by omega)
theorem led_take {r : Runs} {i : Nat} {q : Nat × Int} (hq : r[i]? = some q) (p : Sp) : led p (r.take (i + 1)) = gone (led p (r.take i)) q.1 q.2 := by
  rw [take_snoc hq, led_app]
  rfl
theorem gone_on_ok (p : Sp) (c : Nat) (t : Int) (S : List Cell) (hc : isL c) (hm : mulOk p.x t = true) : g_gone_on [spD p, .str [c], .int t] S = .ok (spD (gone p c t)) S := by
  rcases hc with rfl | rfl | rfl | rfl <;> simp [g_gone_on, b_gone_on, fnD, hm, gone]
def spts (r : Runs) (i : Nat) : List D := (List.range i).map fun j => spD (led home (r.take j))
theorem spts_snoc (r : Runs) (i : Nat) : spts r (i + 1) = spts r i ++ [spD (led home (r.take i))] := by
  simp [spts, List.range_succ]
theorem spts_len (r : Runs) (i : Nat) : (spts r i).length = i := by simp [spts]
theorem spots_ok (r : Runs) (S : List Cell) (g : Good r) {n : Nat} (bl : Bd (len r) n) (hn : n < 40000) (hl : r.length ≤ 100000) : g_Walk_spots [wk r] S = .ok (.lst (spts r (r.length + 1))) S := by
  obtain ⟨s', e, ⟨y2, y3, hs⟩, hS⟩ := for_inv (g := gT 2 (gsCons (gN 2) (gsCons (gN 3) gsNil))) (b := w_Walk_spots_0) (items := rD r) (s := ⟨[.val (wk r), .ol (spts r 1), .un, .un], S⟩)
    (fun i s => (∃ y2 y3, s.sl = [.val (wk r), .ol (spts r (i + 1)), y2, y3]) ∧ s.st = S) ⟨⟨_, _, rfl⟩, rfl⟩ (fun i x s hi hp => by
      obtain ⟨⟨y2, y3, hs⟩, hS⟩ := hp
      obtain ⟨sl, st⟩ := s
      simp only at hs hS
      subst hs hS
      rw [List.getElem?_map, Option.map_eq_some_iff] at hi
      obtain ⟨q, hq, rfl⟩ := hi
      have hg := g q (List.mem_of_getElem? hq)
      have hi : i < r.length := (List.getElem?_eq_some_iff.mp hq).1
      refine ⟨DS.mk [.val (wk r), .ol (spts r (i + 1)), .val (.str [q.1]), .val (.int q.2)] st, DS.mk [.val (wk r), .ol (spts r (i + 1 + 1)), .val (.str [q.1]), .val (.int q.2)] st, by simp, .inl ?_, ⟨_, _, rfl⟩, rfl⟩
      have h1 := gone_on_ok (led home (r.take i)) q.1 q.2 st hg.1 (gone_mul g bl hn hq)
      have h2 : L2.atI (spts r (i + 1)) (-1) = some (spD (led home (r.take i))) := by rw [spts_snoc]; exact at_neg1 _ _
      have h3 : (spts r (i + 1)).length < 1000000 := by rw [spts_len]; omega
      rw [spts_snoc r (i + 1), led_take hq]
      simp [w_Walk_spots_0, h1, h2, h3])
  obtain ⟨sl, st⟩ := s'
  simp only at hs hS
  subst hs hS
  rw [List.length_map] at e
  rw [show spts r 1 = [D.tup [.int 0, .int 0, .int 0]] from rfl] at e
  simp [g_Walk_spots, b_Walk_spots, fnD, List.lookup, e]
theorem plFs_rD : ∀ (r : Runs), (∀ q ∈ r, q.1 < 1114112) → plFs (rD r)
  | [], _ => by simp
  | q :: r, h => by
    have h1 := plFs_rD r (fun p hp => h p (List.mem_cons_of_mem _ hp))
    have h2 := h q (List.mem_cons_self ..)
    rw [rD, List.map_cons, plFs_cons]
    exact ⟨by simp [plF, plD, plDs, dpD, dpDs, h2], h1⟩
theorem sum_times (r : Runs) : bSum [.lst (r.map fun q => D.int q.2)] = some (.int (len r)) := by
  have h : ∀ r : Runs, intsOf (r.map fun q => D.int q.2) = some (r.map fun q => q.2) := fun r => by
    induction r with
    | nil => rfl
    | cons q r ih => simp [intsOf, ih]
  have h2 : ∀ r : Runs, (r.map fun q : Nat × Int => q.2).sum = len r := fun r => by
    induction r with
    | nil => rfl
    | cons q r ih => simp only [List.map_cons, List.sum_cons, ih]; rfl
  simp [bSum, h, h2]
end W_k54
set_option maxRecDepth 100000
set_option maxHeartbeats 4000000
set_option exponentiation.threshold 4000
namespace W_k54
open DL ST
abbrev plS (p : Sp) : D := plc p.x p.y p.a
theorem Sz.pb {n : Nat} {p : Sp} (h : Sz n p) (hn : n ≤ 590) : PB p.x p.y p.a := ⟨h.x.le (by omega), h.y.le (by omega), h.a.le (by omega)⟩
/-! ### prices -/
abbrev fE : Nm := [101, 97, 115, 116]
abbrev fN : Nm := [110, 111, 114, 116, 104]
abbrev fW : Nm := [119, 101, 115, 116]
abbrev fS : Nm := [115, 111, 117, 116, 104]
abbrev prD (P : Pr) : D := .ins "Prices" [(fE, .int P.e), (fN, .int P.n), (fW, .int P.w), (fS, .int P.s)]
abbrev ltD (e n w s : Int) : D := .ins "Lot" [(fE, .int e), (fN, .int n), (fW, .int w), (fS, .int s)]
/-- prices that are let -/
structure Pk (P : Pr) : Prop where
  e : 1 ≤ P.e ∧ P.e ≤ 1000
  n : 1 ≤ P.n ∧ P.n ≤ 1000
  w : 1 ≤ P.w ∧ P.w ≤ 1000
  s : 1 ≤ P.s ∧ P.s ≤ 1000
theorem Pk.pos {P : Pr} (h : Pk P) : P.Pos := ⟨h.e.1, h.n.1, h.w.1, h.s.1⟩
theorem lotinit_ok {e n w s : Int} (h1 : 0 ≤ e) (h2 : 0 ≤ n) (h3 : 0 ≤ w) (h4 : 0 ≤ s) (S : List Cell) : g_LotX_initX [.int e, .int n, .int w, .int s] S = .ok [(fE, .int e), (fN, .int n), (fW, .int w), (fS, .int s)] S := by
  simp [g_LotX_initX, b_LotX_initX, w_LotX_initX_0, inD, inFin, putN, h1, h2, h3, h4]
theorem mx0 (x : Int) : (if 0 < x then x else 0) = (if x < 0 then 0 else x) := by split <;> split <;> omega
theorem ce_eq (x u : Int) : (if 0 < x then x else 0) + (u - ab x) = ce x u := by unfold ce; rw [mx0]; omega
theorem ce_eq' (x u : Int) : (if x < 0 then -x else 0) + (u - ab x) = ce (-x) u := by unfold ce; rw [ab_neg]; split <;> split <;> omega
theorem ce_le {x u : Int} (h : ab x ≤ u) : ce x u ≤ u := by
  unfold ce ab at *
  split <;> omega
theorem bst_bd {P : Pr} (hP : Pk P) {n : Nat} {p : Sp} (h : Sz n p) (hn : n ≤ 290) {u v : Int} (B : Bst (P.e + P.w) (P.n + P.s) (ab p.x) (ab p.y) (gnd p.x p.y p.a) u v) : Bd u 1500 ∧ Bd v 1500 := by
  have hx : Bd (ab p.x) 300 := bd_ab (h.x.le (by omega))
  have hy : Bd (ab p.y) 300 := bd_ab (h.y.le (by omega))
  have hR : Bd (gnd p.x p.y p.a) 700 := by
    have k1 := gnd_up p.x p.y p.a
    have k2 := gnd_nonneg p.x p.y p.a
    have k3 : Bd (ab p.a) 600 := bd_ab (h.a.le (by omega))
    have k4 : Bd (ab (p.x * p.y)) 600 := bd_ab (Bd.le (@bd_mul _ _ _ _ h.x h.y) (by omega))
    exact (bd_plus k3 k4).of_le k2 (by omega) |>.le (by decide)
  have x0 := ab_nonneg p.x
  have y0 := ab_nonneg p.y
  have r0 := gnd_nonneg p.x p.y p.a
  have l := B.low (ab p.x + gnd p.x p.y p.a) (ab p.y + 1) ⟨by omega, by omega, by
    have h1 := pr_pos x0 y0
    have h2 := pr_pos r0 y0
    rw [show (ab p.x + gnd p.x p.y p.a) * (ab p.y + 1) = ab p.x * ab p.y + ab p.x + gnd p.x p.y p.a * ab p.y + gnd p.x p.y p.a by grind]
    omega⟩
  have fx := B.fe.x
  have fy := B.fe.y
  have bA : Bd (P.e + P.w) 12 := ⟨by have := hP.e; have := hP.w; omega⟩
  have bU : Bd (P.n + P.s) 12 := ⟨by have := hP.n; have := hP.s; omega⟩
  have hA : 1 ≤ P.e + P.w := by have := hP.e; have := hP.w; omega
  have hU : 1 ≤ P.n + P.s := by have := hP.n; have := hP.s; omega
  generalize P.e + P.w = A at *
  generalize P.n + P.s = U at *
  generalize gnd p.x p.y p.a = R at *
  generalize ab p.x = X at *
  generalize ab p.y = Y at *
  have bC : Bd (A * (X + R) + U * (Y + 1)) 1500 := (inferInstance : Bd (A * (X + R) + U * (Y + 1)) _).le (by decide)
  have h1 := Int.mul_le_mul_of_nonneg_right hA (show 0 ≤ u by omega)
  have h2 := Int.mul_le_mul_of_nonneg_right hU (show 0 ≤ v by omega)
  exact ⟨bC.of_le (by omega) (by omega), bC.of_le (by omega) (by omega)⟩
end W_k54
set_option maxRecDepth 100000
set_option maxHeartbeats 4000000
set_option exponentiation.threshold 4000
namespace W_k54
open DL ST
/-! ### walks parted -/
theorem wplace_ok (r : Runs) (S : List Cell) (g : Good r) {n : Nat} (bl : Bd (len r) n) (hn : n < 40000) (hl : r.length ≤ 100000) : g_Walk_place [wk r] S = .ok (plS (led home r)) S := by
  have e1 := spots_ok r S g bl hn hl
  rw [spts_snoc, List.take_length] at e1
  have e4 := at_neg1 (spts r r.length) (spD (led home r))
  generalize spts r r.length = L at *
  simp [g_Walk_place, b_Walk_place, fnD, e1, e4]
/-! ### products, ways back, distances -/
theorem sp_eq (p q : Sp) : (p.x = q.x ∧ p.y = q.y ∧ p.a = q.a) ↔ p = q := by
  cases p; cases q
  simp
/-! ### what is refused -/
abbrev badP (o : D) : Xc := ⟨"BadPlace", [([118, 97, 108, 117, 101], o)]⟩
abbrev badN (o : D) : Xc := ⟨"BadNumber", [([118, 97, 108, 117, 101], o)]⟩
end W_k54
set_option maxRecDepth 100000
set_option maxHeartbeats 4000000
set_option exponentiation.threshold 4000
namespace W_k54
open DL ST
/-! ### draws -/
theorem ipow_le {i j : Nat} (h : i ≤ j) : (10000000 : Int) ^ i ≤ 10000000 ^ j := by
  have h1 : ((10000000 ^ i : Nat) : Int) = 10000000 ^ i := by simp
  have h2 : ((10000000 ^ j : Nat) : Int) = 10000000 ^ j := by simp
  rw [← h1, ← h2]
  exact Int.ofNat_le.mpr (Nat.pow_le_pow_right (by decide) h)
theorem number_ok {n : Nat} {S : List Cell} {f : Int} (hS : Pen n S) (hn : n + 20 < 2 ^ 20) (h1 : 1 ≤ f) (h2 : f ≤ 4) : ∃ d S', g__law_number [.cell 0, .int f] S = .ok (.int d) S' ∧ 0 ≤ d ∧ Bd d 96 ∧ Pen (n + 6) S' := by
  obtain ⟨c, S1, e1, c0, c1, P1⟩ := draw_ok hS (by omega) (p := f) (by omega) (by omega)
  have hk : ∃ k : Nat, (1 + c).toNat = k ∧ k ≤ 4 ∧ 1 + c = (k : Int) := ⟨(1 + c).toNat, rfl, by omega, by omega⟩
  obtain ⟨k, hk1, hk2, hk3⟩ := hk
  obtain ⟨s', e2, v, x, hs, v0, v1, hP⟩ := for_inv (g := gN 3) (b := w__law_number_0) (items := rngL 0 k) (s := ⟨[.val (.cell 0), .val (.int f), .val (.int 0), .un], S1⟩)
    (fun i s => ∃ (v : Int) (x : Sl), s.sl = [.val (.cell 0), .val (.int f), .val (.int v), x] ∧ 0 ≤ v ∧ v < 10000000 ^ i ∧ Pen (n + 1 + i) s.st)
    ⟨0, .un, rfl, by omega, by decide, P1⟩ (fun i d s hi hp => by
      obtain ⟨v, x, hs, v0, v1, hP⟩ := hp
      obtain ⟨sl, st⟩ := s
      simp only at hs hP
      subst hs
      obtain ⟨hi1, rfl⟩ := rngL_get hi
      obtain ⟨c, S2, e, c0, c1, P2⟩ := draw_ok hP (by omega) (p := 10000000) (by decide) (by decide)
      have hi2 : i ≤ 4 := by omega
      have hle : (10000000 : Int) ^ i ≤ 10000000 ^ 4 := ipow_le hi2
      have bv : Bd v 96 := ⟨by
        have : (10000000 : Int) ^ 4 < 2 ^ 96 := by decide
        omega⟩
      have m : mulOk v 10000000 = true := mulOk_bd (by decide)
      refine ⟨_, ⟨[.val (.cell 0), .val (.int f), .val (.int (v * 10000000 + c)), .val (.int (0 + i))], S2⟩, rfl, .inl ?_, v * 10000000 + c, _, rfl, by omega, ?_, P2⟩
      · simp [w__law_number_0, e, m]
      · rw [Int.pow_succ]
        omega)
  rw [rngL_len] at v1 hP
  obtain ⟨sl, st⟩ := s'
  simp only at hs hP
  subst hs
  have hle : (10000000 : Int) ^ k ≤ 10000000 ^ 4 := ipow_le hk2
  have hlt : (10000000 : Int) ^ 4 < 2 ^ 96 := by decide
  refine ⟨v, st, ?_, v0, ⟨by omega⟩, hP.mono (by omega)⟩
  have q : -4611686018427387904 ≤ (1 + c) ∧ 1 + c < 4611686018427387904 := by omega
  simp [g__law_number, b__law_number, fnD, e1, hk1, q, e2]
theorem great_ok {n : Nat} {S : List Cell} (hS : Pen n S) (hn : n + 30 < 2 ^ 20) : ∃ d S', g__law_great [.cell 0] S = .ok (.int d) S' ∧ 0 ≤ d ∧ Bd d 96 ∧ Pen (n + 8) S' := by
  obtain ⟨t, S1, e1, t0, t1, P1⟩ := draw_ok hS (by omega) (p := 4) (by decide) (by decide)
  by_cases h : t = 0
  · obtain ⟨d, S2, e2, d0, d1, P2⟩ := draw_ok P1 (by omega) (p := 9) (by decide) (by decide)
    exact ⟨d, S2, by simp [g__law_great, b__law_great, fnD, e1, h, e2], d0, ⟨by omega⟩, P2.mono (by omega)⟩
  · obtain ⟨d, S2, e2, d0, d1, P2⟩ := number_ok P1 (by omega) (f := 4) (by decide) (by decide)
    exact ⟨d, S2, by simp [g__law_great, b__law_great, fnD, e1, h, e2], d0, d1, P2.mono (by omega)⟩
theorem signed_ok {n : Nat} {S : List Cell} (hS : Pen n S) (hn : n + 40 < 2 ^ 20) : ∃ d S', g__law_signed [.cell 0] S = .ok (.int d) S' ∧ Bd d 96 ∧ Pen (n + 9) S' := by
  obtain ⟨d, S1, e1, d0, bd, P1⟩ := great_ok hS (by omega)
  obtain ⟨k, S2, e2, hk, P2⟩ := pick_ok (xs := [.int 1, .int (-1)]) P1 (by omega) (by simp) (by simp)
  have bn : Bd (-d) 96 := bd_neg
  simp at hk
  rcases hk with rfl | rfl
  · have m : mulOk d 1 = true := mulOk_bd (by decide)
    exact ⟨d, S2, by simp [g__law_signed, b__law_signed, fnD, e1, e2, m], bd, P2.mono (by omega)⟩
  · have m : mulOk d (-1) = true := mulOk_bd (by decide)
    refine ⟨-d, S2, ?_, bn, P2.mono (by omega)⟩
    simp [g__law_signed, b__law_signed, fnD, e1, e2, m]
theorem pickS_ok {n : Nat} {S : List Cell} (hS : Pen n S) (hn : n < 2 ^ 20) : ∃ c S', g__law_pick [.cell 0, .str [101, 110, 119, 115]] S = .ok (.str [c]) S' ∧ isL c ∧ Pen (n + 1) S' := by
  obtain ⟨d, S', e, d0, d1, hP⟩ := draw_ok hS hn (p := 4) (by decide) (by decide)
  obtain ⟨k, rfl⟩ := Int.eq_ofNat_of_zero_le d0
  have hk : k < [101, 110, 119, 115].length := by simp; omega
  have h2 : L2.atI [101, 110, 119, 115] (k : Int) = some [101, 110, 119, 115][k] := L2.atI_nat (by simp [hk])
  refine ⟨[101, 110, 119, 115][k], S', ?_, four_isL (List.getElem_mem _), hP⟩
  simp [g__law_pick, b__law_pick, fnD, bLen, e, ixD, h2]
/-! ### what a walk costs -/
theorem letter_get (P : Pr) {c : Nat} (h : isL c) : dLook [(DK.s [101], D.int P.e), (DK.s [110], D.int P.n), (DK.s [119], D.int P.w), (DK.s [115], D.int P.s)] (DK.s [c]) = some (D.int (prL P c)) := by
  rcases h with rfl | rfl | rfl | rfl <;> simp [dLook, prL]
theorem sum_cst (P : Pr) (r : Runs) : bSum [.lst (r.map fun q => D.int (prL P q.1 * q.2))] = some (.int (cst P r)) := by
  have h : ∀ r : Runs, intsOf (r.map fun q => D.int (prL P q.1 * q.2)) = some (r.map fun q => prL P q.1 * q.2) := fun r => by
    induction r with
    | nil => rfl
    | cons q r ih => simp [intsOf, ih]
  have h2 : ∀ r : Runs, (r.map fun q : Nat × Int => prL P q.1 * q.2).sum = cst P r := fun r => by
    induction r with
    | nil => rfl
    | cons q r ih => simp only [List.map_cons, List.sum_cons, ih]; rfl
  simp [bSum, h, h2]
theorem prL_bd {P : Pr} (h : Pk P) (c : Nat) : Bd (prL P c) 12 := ⟨by
  obtain ⟨⟨h1, h2⟩, ⟨h3, h4⟩, ⟨h5, h6⟩, ⟨h7, h8⟩⟩ := h
  unfold prL
  repeat' split
  all_goals omega⟩
abbrev pcD (P : Pr) : D := .dic [(.s [101], .int P.e), (.s [110], .int P.n), (.s [119], .int P.w), (.s [115], .int P.s)]
end W_k54
set_option maxRecDepth 100000
set_option maxHeartbeats 4000000
set_option exponentiation.threshold 4000
namespace W_k54
open DL ST
/-! ### the law's own walk -/
theorem lstep_ok (p : Sp) (c : Nat) (t : Int) (S : List Cell) (hc : isL c) (hm : mulOk p.x t = true) : g__law_step [spD p, .str [c], .int t] S = .ok (spD (gone p c t)) S := by
  rcases hc with rfl | rfl | rfl | rfl <;> simp [g__law_step, b__law_step, fnD, gone, hm]
theorem led_ok (d : D) (r : Runs) (S : List Cell) (hd : itemsD d = some (rD r)) (g : Good r) {n : Nat} (bl : Bd (len r) n) (hn : n < 40000) : g__law_led [d] S = .ok (spD (led home r)) S := by
  obtain ⟨s', e, ⟨y2, y3, hs⟩, hS⟩ := for_inv (g := gT 2 (gsCons (gN 2) (gsCons (gN 3) gsNil))) (b := w__law_led_0) (items := rD r) (s := ⟨[.val d, .val (spD home), .un, .un], S⟩)
    (fun i s => (∃ y2 y3, s.sl = [.val d, .val (spD (led home (r.take i))), y2, y3]) ∧ s.st = S) ⟨⟨_, _, rfl⟩, rfl⟩ (fun i x s hi hp => by
      obtain ⟨⟨y2, y3, hs⟩, hS⟩ := hp
      obtain ⟨sl, st⟩ := s
      simp only at hs hS
      subst hs hS
      rw [List.getElem?_map, Option.map_eq_some_iff] at hi
      obtain ⟨q, hq, rfl⟩ := hi
      have hg := g q (List.mem_of_getElem? hq)
      refine ⟨DS.mk [.val d, .val (spD (led home (r.take i))), .val (.str [q.1]), .val (.int q.2)] st, DS.mk [.val d, .val (spD (led home (r.take (i + 1)))), .val (.str [q.1]), .val (.int q.2)] st, by simp, .inl ?_, ⟨_, _, rfl⟩, rfl⟩
      have h1 := lstep_ok (led home (r.take i)) q.1 q.2 st hg.1 (gone_mul g bl hn hq)
      rw [led_take hq]
      simp [w__law_led_0, h1])
  obtain ⟨sl, st⟩ := s'
  simp only at hs hS
  subst hs hS
  rw [List.length_map, List.take_length] at e
  simp [g__law_led, b__law_led, fnD, hd, e]
/-! ### steps of each kind -/
theorem sum_cn (c : Nat) (r : Runs) : bSum [.lst ((r.filter fun q => decide (q.1 = c)).map fun q => D.int q.2)] = some (.int (cn c r)) := by
  have h : ∀ r : Runs, intsOf (r.map fun q => D.int q.2) = some (r.map fun q => q.2) := fun r => by
    induction r with
    | nil => rfl
    | cons q r ih => simp [intsOf, ih]
  have h2 : ∀ r : Runs, ((r.filter fun q => decide (q.1 = c)).map fun q : Nat × Int => q.2).sum = cn c r := fun r => by
    induction r with
    | nil => rfl
    | cons q r ih =>
      by_cases k : q.1 = c
      · simp [List.filter_cons, k, cn, ih]
      · simp [List.filter_cons, k, cn, ih]
  simp [bSum, h, h2]
abbrev cnD (r : Runs) : D := .lst ([101, 110, 119, 115].map fun c => D.int (cn c r))
theorem counts_ok (r : Runs) (S : List Cell) (g : Good r) (hl : r.length ≤ 100000) : g__law_counts [.lst (rD r)] S = .ok (cnD r) S := by
  have e1 : ∀ c : Nat, c < 1114112 → aLc [2, 3] (itSeq (eVar 0)) (gT 2 (gsCons (gN 2) (gsCons (gN 3) (gsNil)))) (t__law_counts_0) (e__law_counts_0) ⟨[.val (.lst (rD r)), .val (.str [c]), .un, .un], S⟩ = .ok ((r.filter fun q => decide (q.1 = c)).map fun q => D.int q.2) ⟨[.val (.lst (rD r)), .val (.str [c]), .un, .un], S⟩ := fun c hc => by
    have := aLc_ofT (vs := [2, 3]) (it := itSeq (eVar 0)) (g := gT 2 (gsCons (gN 2) (gsCons (gN 3) (gsNil)))) (t := t__law_counts_0) (e := e__law_counts_0) (s := ⟨[.val (.lst (rD r)), .val (.str [c]), .un, .un], S⟩) (s0 := ⟨[.val (.lst (rD r)), .val (.str [c]), .un, .un], S⟩) (l := r) qD
      (fun q => decide (q.1 = c)) (fun q => .int q.2) (by simp) (fun q hq => by
        refine ⟨⟨[.val (.lst (rD r)), .val (.str [c]), .val (.str [q.1]), .val (.int q.2)], S⟩, ⟨[.val (.lst (rD r)), .val (.str [c]), .val (.str [q.1]), .val (.int q.2)], S⟩, by simp, ?_, fun _ => ⟨⟨[.val (.lst (rD r)), .val (.str [c]), .val (.str [q.1]), .val (.int q.2)], S⟩, by simp [e__law_counts_0], by simp⟩, fun _ => by simp⟩
        have hq1 : q.1 < 1114112 := isL_lt (g q hq).1
        simp [t__law_counts_0, hq1, hc]) (by omega)
    simpa [-r_aLc] using this
  have e2 : ∀ c : Nat, c < 1114112 → e__law_counts_2 ⟨[.val (.lst (rD r)), .val (.str [c]), .un, .un], S⟩ = .ok (.int (cn c r)) ⟨[.val (.lst (rD r)), .val (.str [c]), .un, .un], S⟩ := fun c hc => by
    have h := e1 c hc
    have h3 := sum_cn c r
    generalize ((r.filter fun q => decide (q.1 = c)).map fun q => D.int q.2) = R at *
    simp [-r_aLc, e__law_counts_2, h, h3]
  have e3 := aLc_M1 (v := 1) (it := itSeq (eC (.str [101, 110, 119, 115]))) (e := e__law_counts_2) (s := ⟨[.val (.lst (rD r)), .un, .un, .un], S⟩) (s0 := ⟨[.val (.lst (rD r)), .un, .un, .un], S⟩) (l := [101, 110, 119, 115]) (fun c => D.str [c]) (fun c => D.int (cn c r)) (by simp) rfl (fun c hc => e2 c (by simp at hc; omega)) (by simp)
  exact fn_rt rfl (ret_e (frz_e e3))
/-! ### mirrored places -/
abbrev tpP (P : Pr) : D := .tup [.int P.e, .int P.n, .int P.w, .int P.s]
abbrev lsP (P : Pr) : D := .lst [.int P.e, .int P.n, .int P.w, .int P.s]
abbrev rwD (q : Pr × Sp) : D := .tup [tpP q.1, spD q.2]
theorem Pk.mx {P : Pr} (h : Pk P) : Pk P.mx := ⟨h.w, h.n, h.e, h.s⟩
theorem Pk.my {P : Pr} (h : Pk P) : Pk P.my := ⟨h.e, h.s, h.w, h.n⟩
theorem Pk.tt {P : Pr} (h : Pk P) : Pk P.t := ⟨h.n, h.e, h.s, h.w⟩
/-! ### drawn walks -/
abbrev gd (n : Nat) (i : Nat) (acc : List D) (S : List Cell) : Prop := ∃ r : Runs, acc = rD r ∧ r.length = i ∧ Good r ∧ (∀ q ∈ r, Bd q.2 96) ∧ Pen (n + 1 + 10 * i) S
theorem len_lt {m : Nat} : ∀ {r : Runs}, Good r → (∀ q ∈ r, Bd q.2 m) → len r ≤ r.length * 2 ^ m
  | [], _, _ => by simp [len]
  | q :: r, g, h => by
    have h1 := len_lt g.tail fun z hz => h z (List.mem_cons_of_mem _ hz)
    have h2 := (h q (List.mem_cons_self ..)).lt
    have e : ((2 ^ m : Nat) : Int) = 2 ^ m := by simp
    show q.2 + len r ≤ ((r.length + 1 : Nat) : Int) * 2 ^ m
    rw [Int.natCast_add, Int.add_mul]
    simp only [Int.natCast_one, Int.one_mul]
    omega
end W_k54
set_option maxRecDepth 100000
set_option maxHeartbeats 4000000
set_option exponentiation.threshold 4000
namespace W_k54
open DL ST
/-! ### walks with told numbers of steps, read -/
theorem rising_ok {e n w s a : Int} (hn : 0 ≤ n) (be : Bd e 1500) (bn : Bd n 1500) (S : List Cell) : g_rising_pairs [.int e, .int n, .int w, .int s, .int a] S = .ok (.lst (rD (rise e n w s a))) S := by
  have m : mulOk e n = true := mulOk_bd (by decide)
  unfold rise
  by_cases c : n = 0
  · rw [if_pos (.inl c)]
    simp [g_rising_pairs, b_rising_pairs, fnD, c]
  · by_cases c2 : e = 0
    · rw [if_pos (.inr c2)]
      simp [g_rising_pairs, b_rising_pairs, fnD, c, c2]
    · rw [if_neg (by omega)]
      have n0 : 0 < n := by omega
      have dn : divOk n = true := divOk_of bn c (by decide)
      unfold colsOf
      generalize hq : (e * n - a).fdiv n = q at *
      generalize hr : (e * n - a).fmod n = r at *
      by_cases c3 : q = e
      · subst c3
        simp [g_rising_pairs, b_rising_pairs, fnD, c, c2, m, dn, n0, hq, hr]
      · simp [g_rising_pairs, b_rising_pairs, fnD, c, c2, m, dn, n0, hq, hr, c3]
def q2D (c : Prop) [Decidable c] (x y : Int) : D := .tup [.int (if c then x else 0), .int (if c then y else 0)]
theorem dm_e {x d : Int} {fx fd : DE} {t : DS} (hx : fx t = .ok (.int x) t) (hd : fd t = .ok (.int d) t) (bd : Bd d 4000) : eIf (eB (eOp2 iGt fd (eC (.int 0)))) (eCB (bDivmod) (aCons fx (aCons fd (aNil)))) (eTup (aCons (eC (.int 0)) (aCons (eC (.int 0)) (aNil)))) t = .ok (.tup [.int (if 0 < d then x.fdiv d else 0), .int (if 0 < d then x.fmod d else 0)]) t := by
  by_cases c : 0 < d
  · have dv : divOk d = true := divOk_of bd (by omega) (by decide)
    simp [hx, hd, c, dv]
  · simp [hx, hd, c]
theorem b01_e {x : Int} {f : DE} {t : DS} (h : f t = .ok (.int x) t) : eCB (bInt) (aCons (eOp2 iGt f (eC (.int 0))) (aNil)) t = .ok (.int (b01 x)) t := by
  by_cases c : 0 < x <;> simp [h, c, b01]
theorem falling_ok {e n w s a : Int} (be : Bd e 1500) (bw : Bd w 1500) (bs : Bd s 1500) (S : List Cell) : g_falling_pairs [.int e, .int n, .int w, .int s, .int a] S = .ok (.lst (rD (fall e n w s a))) S := by
  have m : mulOk w s = true := mulOk_bd (by decide)
  have bd : Bd (e - w) 4000 := (inferInstance : Bd (e - w) _).le (by decide)
  unfold fall fallF fallR
  dsimp only
  have eL : (if w * s < a then w * s else a) = mnI a (w * s) := rfl
  generalize mnI a (w * s) = low at *
  have e1 := @dm_e low w (eVar 5) (eVar 2) ⟨[.val (.int e), .val (.int n), .val (.int w), .val (.int s), .val (.int a), .val (.int low), .un, .un, .un, .un, .un, .un], S⟩ rfl rfl (bw.le (by decide))
  have e2 := fun q r => @dm_e (a - low) (e - w) (eOp2 iSub (eVar 4) (eVar 5)) (eVar 8) ⟨[.val (.int e), .val (.int n), .val (.int w), .val (.int s), .val (.int a), .val (.int low), .val (.int q), .val (.int r), .val (.int (e - w)), .un, .un, .un], S⟩ (by simp) rfl bd
  generalize hq : (if 0 < w then low.fdiv w else 0) = q at *
  generalize hr : (if 0 < w then low.fmod w else 0) = r at *
  generalize (if 0 < e - w then (a - low).fdiv (e - w) else 0) = q2 at *
  generalize (if 0 < e - w then (a - low).fmod (e - w) else 0) = r2 at *
  have s1 : sAsgT (eIf (eB (eOp2 iGt (eVar 2) (eC (.int 0)))) (eCB (bDivmod) (aCons (eVar 5) (aCons (eVar 2) (aNil)))) (eTup (aCons (eC (.int 0)) (aCons (eC (.int 0)) (aNil))))) (gT 2 (gsCons (gN 6) (gsCons (gN 7) (gsNil)))) ⟨[.val (.int e), .val (.int n), .val (.int w), .val (.int s), .val (.int a), .val (.int low), .un, .un, .un, .un, .un, .un], S⟩ = .ok .nx ⟨[.val (.int e), .val (.int n), .val (.int w), .val (.int s), .val (.int a), .val (.int low), .val (.int q), .val (.int r), .un, .un, .un, .un], S⟩ := asg_t e1 (by simp)
  have s2 : sAsgT (eIf (eB (eOp2 iGt (eVar 8) (eC (.int 0)))) (eCB (bDivmod) (aCons (eOp2 iSub (eVar 4) (eVar 5)) (aCons (eVar 8) (aNil)))) (eTup (aCons (eC (.int 0)) (aCons (eC (.int 0)) (aNil))))) (gT 2 (gsCons (gN 9) (gsCons (gN 10) (gsNil)))) ⟨[.val (.int e), .val (.int n), .val (.int w), .val (.int s), .val (.int a), .val (.int low), .val (.int q), .val (.int r), .val (.int (e - w)), .un, .un, .un], S⟩ = .ok .nx ⟨[.val (.int e), .val (.int n), .val (.int w), .val (.int s), .val (.int a), .val (.int low), .val (.int q), .val (.int r), .val (.int (e - w)), .val (.int q2), .val (.int r2), .un], S⟩ := asg_t (e2 q r) (by simp)
  have b1 := fun x11 => @b01_e r (eVar 7) ⟨[.val (.int e), .val (.int n), .val (.int w), .val (.int s), .val (.int a), .val (.int low), .val (.int q), .val (.int r), .val (.int (e - w)), .val (.int q2), .val (.int r2), x11], S⟩ rfl
  have b2 := fun x11 => @b01_e r2 (eVar 10) ⟨[.val (.int e), .val (.int n), .val (.int w), .val (.int s), .val (.int a), .val (.int low), .val (.int q), .val (.int r), .val (.int (e - w)), .val (.int q2), .val (.int r2), x11], S⟩ rfl
  generalize b01 r = y1 at *
  generalize b01 r2 = y2 at *
  unfold g_falling_pairs b_falling_pairs
  generalize eCB (bInt) (aCons (eOp2 iGt (eVar 7) (eC (.int 0))) (aNil)) = E1 at *
  generalize eCB (bInt) (aCons (eOp2 iGt (eVar 10) (eC (.int 0))) (aNil)) = E2 at *
  refine fn_rt (sl := [.val (.int e), .val (.int n), .val (.int w), .val (.int s), .val (.int a), .val (.int low), .val (.int q), .val (.int r), .val (.int (e - w)), .val (.int q2), .val (.int r2), .val (.lst (rD [(115, s - q - y1), (110, n - q2 - y2), (119, r), (115, y1), (119, w - r), (115, q), (101, w + r2), (110, y2)]))]) rfl ((sq_set (d := .int low) ?_).trans ((sq_nx s1).trans ((sq_set (d := .int (e - w)) ?_).trans ((sq_nx s2).trans ((sq_set (d := .lst (rD [(115, s - q - y1), (110, n - q2 - y2), (119, r)])) ?_).trans ((sq_set (d := .lst (rD [(115, s - q - y1), (110, n - q2 - y2), (119, r), (115, y1), (119, w - r), (115, q), (101, w + r2), (110, y2)])) ?_).trans (ret_e ?_)))))))
  · simp [m, eL]
  · simp
  · simp [b1, b2]
  · simp [b1, b2]
  · simp
/-! ### pairs of a lot -/
def kdf (f : Nat → Nat) (kd : List (Nm × D)) : Prop := ∀ c, isL c → lookN kd [c] = some (.str [f c])
theorem kd_mir : kdf sw1 kd_MIRRORED := fun c hc => by rcases hc with rfl | rfl | rfl | rfl <;> rfl
theorem kd_tur : kdf sw12 kd_TURNED := fun c hc => by rcases hc with rfl | rfl | rfl | rfl <;> rfl
theorem names_lc {f : Nat → Nat} {kd : List (Nm × D)} (hf : kdf f kd) {r : Runs} (g : Good r) (hl : r.length ≤ 1000) (e n w s a : Int) (S : List Cell) :
    aLc [6, 7] (itSeq (eVar 5)) (gT 2 (gsCons (gN 6) (gsCons (gN 7) (gsNil)))) (bYes) (eTup (aCons (eKd kd (eVar 6)) (aCons (eVar 7) (aNil)))) ⟨[.val (.int e), .val (.int n), .val (.int w), .val (.int s), .val (.int a), .val (.lst (rD r)), .un, .un], S⟩ = .ok (rD (mp f r)) ⟨[.val (.int e), .val (.int n), .val (.int w), .val (.int s), .val (.int a), .val (.lst (rD r)), .un, .un], S⟩ := by
  have := aLc_of (vs := [6, 7]) (it := itSeq (eVar 5)) (g := gT 2 (gsCons (gN 6) (gsCons (gN 7) (gsNil)))) (e := eTup (aCons (eKd kd (eVar 6)) (aCons (eVar 7) (aNil)))) (s := ⟨[.val (.int e), .val (.int n), .val (.int w), .val (.int s), .val (.int a), .val (.lst (rD r)), .un, .un], S⟩) (s0 := ⟨[.val (.int e), .val (.int n), .val (.int w), .val (.int s), .val (.int a), .val (.lst (rD r)), .un, .un], S⟩) (l := r) qD (fun q => qD (f q.1, q.2)) (by simp) (fun q hq => by
    have h := hf q.1 (g q hq).1
    refine ⟨⟨[.val (.int e), .val (.int n), .val (.int w), .val (.int s), .val (.int a), .val (.lst (rD r)), .val (.str [q.1]), .val (.int q.2)], S⟩, ⟨[.val (.int e), .val (.int n), .val (.int w), .val (.int s), .val (.int a), .val (.lst (rD r)), .val (.str [q.1]), .val (.int q.2)], S⟩, by simp, by simp [h], by simp⟩) (by omega)
  have e0 : rD (mp f r) = r.map fun q => qD (f q.1, q.2) := by simp only [rD, mp, List.map_map]; rfl
  rw [e0]
  simpa [-r_aLc] using this
theorem sw_base {e n w s a : Int} (k : Nat) (h0 : 0 ≤ a) (h1 : ¬ (e < w ∨ (e = w ∧ n < s))) (hn : 0 ≤ n) (be : Bd e 1500) (bn : Bd n 1500) (bw : Bd w 1500) (bs : Bd s 1500) (S : List Cell) : g_swept_pairs (k + 1) [.int e, .int n, .int w, .int s, .int a] S = .ok (.lst (rD (base e n w s a))) S := by
  have c0 : ¬ a < 0 := by omega
  have c1 : ¬ e < w := by omega
  have er := rising_ok (e := e) (n := n) (w := w) (s := s) (a := a) hn be bn S
  have ef := falling_ok (e := e) (n := n) (w := w) (s := s) (a := a) be bw bs S
  unfold base
  generalize rise e n w s a = R1 at *
  generalize fall e n w s a = R2 at *
  generalize hL1 : D.lst (rD R1) = L1 at *
  generalize hL2 : D.lst (rD R2) = L2 at *
  show fnD 5 (b_swept_pairs (g_swept_pairs k)) 3 _ S = _
  by_cases c2 : e = w
  · have c3 : ¬ n < s := by omega
    have c4 : s ≤ n := by omega
    rw [if_pos c4, hL1]
    simp [b_swept_pairs, fnD, c0, c1, c2, c3, c4]
    simp [c2] at er
    simp [er]
  · by_cases c4 : s ≤ n
    · rw [if_pos c4, hL1]
      simp [b_swept_pairs, fnD, c0, c1, c2, c4, er]
    · rw [if_neg c4, hL2]
      simp [b_swept_pairs, fnD, c0, c1, c2, c4, ef]
theorem sw_trn {e n w s a : Int} (k : Nat) (h0 : 0 ≤ a) (h1 : a ≤ hiL e n w s) (he : 0 ≤ e) (hn : 0 ≤ n) (hw : 0 ≤ w) (hs : 0 ≤ s) (be : Bd e 1500) (bn : Bd n 1500) (bw : Bd w 1500) (bs : Bd s 1500) (S : List Cell) : g_swept_pairs (k + 2) [.int e, .int n, .int w, .int s, .int a] S = .ok (.lst (rD (trn e n w s a))) S := by
  by_cases c : e < w ∨ (e = w ∧ n < s)
  · have c0 : ¬ a < 0 := by omega
    have eb := sw_base (e := w) (n := s) (w := e) (s := n) (a := a) k h0 (by omega) hs bw bs be bn S
    have g : Lt w s e n a (base w s e n a) := base_ok (by omega) (by omega) hs he hn h0 (by rw [hiL_turn]; exact h1)
    have en := names_lc kd_tur g.good (by have := g.few; omega) e n w s a S
    unfold trn
    rw [if_pos c]
    generalize base w s e n a = R at *
    show fnD 5 (b_swept_pairs (g_swept_pairs (k + 1))) 3 _ S = _
    have cc : bOr (eB (eOp2 iLt (eVar 0) (eVar 2))) (bAnd (eB (eOp2 dEq (eVar 0) (eVar 2))) (eB (eOp2 iLt (eVar 1) (eVar 3)))) ⟨[.val (.int e), .val (.int n), .val (.int w), .val (.int s), .val (.int a), .un, .un, .un], S⟩ = .ok true ⟨[.val (.int e), .val (.int n), .val (.int w), .val (.int s), .val (.int a), .un, .un, .un], S⟩ := by
      rcases c with c | ⟨c, c'⟩
      · simp [c]
      · subst c; simp [c']
    have ca : sSet 5 (eCall 5 (g_swept_pairs (k + 1)) (aCons (eVar 2) (aCons (eVar 3) (aCons (eVar 0) (aCons (eVar 1) (aCons (eVar 4) (aNil))))))) ⟨[.val (.int e), .val (.int n), .val (.int w), .val (.int s), .val (.int a), .un, .un, .un], S⟩ = .ok .nx ⟨[.val (.int e), .val (.int n), .val (.int w), .val (.int s), .val (.int a), .val (.lst (rD R)), .un, .un], S⟩ := by
      generalize g_swept_pairs (k + 1) = gg at *
      generalize D.lst (rD R) = Z at *
      simp [eb]
    unfold b_swept_pairs
    exact fn_rt rfl ((sq_if_f (s1 := ⟨[.val (.int e), .val (.int n), .val (.int w), .val (.int s), .val (.int a), .un, .un, .un], S⟩) (by simp [c0])).trans (sq_rt ((if_t cc).trans ((sq_nx ca).trans (ret_e (frz_e en))))))
  · have := sw_base (e := e) (n := n) (w := w) (s := s) (a := a) (k + 1) h0 c hn be bn bw bs S
    unfold trn
    rw [if_neg c]
    exact this
theorem sw_swp {e n w s a : Int} (k : Nat) (h0 : loL e n w s ≤ a) (h1 : a ≤ hiL e n w s) (he : 0 ≤ e) (hn : 0 ≤ n) (hw : 0 ≤ w) (hs : 0 ≤ s) (be : Bd e 1500) (bn : Bd n 1500) (bw : Bd w 1500) (bs : Bd s 1500) (S : List Cell) : g_swept_pairs (k + 3) [.int e, .int n, .int w, .int s, .int a] S = .ok (.lst (rD (swp e n w s a))) S := by
  by_cases c : a < 0
  · have h2 : -a ≤ hiL w n e s := by
      unfold hiL loL at *
      have e1 : mxI w e = mxI e w := by unfold mxI; split <;> split <;> omega
      rw [e1, show -(w - e) * (n - s) = (e - w) * (n - s) by grind]
      omega
    have eb := sw_trn (e := w) (n := n) (w := e) (s := s) (a := -a) k (by omega) h2 hw hn he hs bw bn be bs S
    have g : Lt w n e s (-a) (trn w n e s (-a)) := trn_ok hw hn he hs (by omega) h2
    have en := names_lc kd_mir g.good (by have := g.few; omega) e n w s a S
    unfold swp
    rw [if_pos c]
    generalize trn w n e s (-a) = R at *
    show fnD 5 (b_swept_pairs (g_swept_pairs (k + 2))) 3 _ S = _
    have ca : sSet 5 (eCall 5 (g_swept_pairs (k + 2)) (aCons (eVar 2) (aCons (eVar 1) (aCons (eVar 0) (aCons (eVar 3) (aCons (eNeg (eVar 4)) (aNil))))))) ⟨[.val (.int e), .val (.int n), .val (.int w), .val (.int s), .val (.int a), .un, .un, .un], S⟩ = .ok .nx ⟨[.val (.int e), .val (.int n), .val (.int w), .val (.int s), .val (.int a), .val (.lst (rD R)), .un, .un], S⟩ := by
      generalize g_swept_pairs (k + 2) = gg at *
      generalize D.lst (rD R) = Z at *
      simp [eb]
    unfold b_swept_pairs
    exact fn_rt rfl (sq_rt ((if_t (s1 := ⟨[.val (.int e), .val (.int n), .val (.int w), .val (.int s), .val (.int a), .un, .un, .un], S⟩) (by simp [c])).trans ((sq_nx ca).trans (ret_e (frz_e en)))))
  · have := sw_trn (e := e) (n := n) (w := w) (s := s) (a := a) (k + 1) (by omega) h1 he hn hw hs be bn bw bs S
    unfold swp
    rw [if_neg c]
    exact this
end W_k54
set_option maxRecDepth 100000
set_option maxHeartbeats 4000000
set_option exponentiation.threshold 4000
namespace W_k54
open DL ST
/-! ### a cheapest walk -/
theorem counts_t (r : Runs) (S : List Cell) (g : Good r) (hl : r.length ≤ 100000) : g__law_counts [.tup (rD r)] S = .ok (cnD r) S := by
  have e1 : ∀ c : Nat, c < 1114112 → aLc [2, 3] (itSeq (eVar 0)) (gT 2 (gsCons (gN 2) (gsCons (gN 3) (gsNil)))) (t__law_counts_0) (e__law_counts_0) ⟨[.val (.tup (rD r)), .val (.str [c]), .un, .un], S⟩ = .ok ((r.filter fun q => decide (q.1 = c)).map fun q => D.int q.2) ⟨[.val (.tup (rD r)), .val (.str [c]), .un, .un], S⟩ := fun c hc => by
    have := aLc_ofT (vs := [2, 3]) (it := itSeq (eVar 0)) (g := gT 2 (gsCons (gN 2) (gsCons (gN 3) (gsNil)))) (t := t__law_counts_0) (e := e__law_counts_0) (s := ⟨[.val (.tup (rD r)), .val (.str [c]), .un, .un], S⟩) (s0 := ⟨[.val (.tup (rD r)), .val (.str [c]), .un, .un], S⟩) (l := r) qD
      (fun q => decide (q.1 = c)) (fun q => .int q.2) (by simp) (fun q hq => by
        refine ⟨⟨[.val (.tup (rD r)), .val (.str [c]), .val (.str [q.1]), .val (.int q.2)], S⟩, ⟨[.val (.tup (rD r)), .val (.str [c]), .val (.str [q.1]), .val (.int q.2)], S⟩, by simp, ?_, fun _ => ⟨⟨[.val (.tup (rD r)), .val (.str [c]), .val (.str [q.1]), .val (.int q.2)], S⟩, by simp [e__law_counts_0], by simp⟩, fun _ => by simp⟩
        have hq1 : q.1 < 1114112 := isL_lt (g q hq).1
        simp [t__law_counts_0, hq1, hc]) (by omega)
    simpa [-r_aLc] using this
  have e2 : ∀ c : Nat, c < 1114112 → e__law_counts_2 ⟨[.val (.tup (rD r)), .val (.str [c]), .un, .un], S⟩ = .ok (.int (cn c r)) ⟨[.val (.tup (rD r)), .val (.str [c]), .un, .un], S⟩ := fun c hc => by
    have h := e1 c hc
    have h3 := sum_cn c r
    generalize ((r.filter fun q => decide (q.1 = c)).map fun q => D.int q.2) = R at *
    simp [-r_aLc, e__law_counts_2, h, h3]
  have e3 := aLc_M1 (v := 1) (it := itSeq (eC (.str [101, 110, 119, 115]))) (e := e__law_counts_2) (s := ⟨[.val (.tup (rD r)), .un, .un, .un], S⟩) (s0 := ⟨[.val (.tup (rD r)), .un, .un, .un], S⟩) (l := [101, 110, 119, 115]) (fun c => D.str [c]) (fun c => D.int (cn c r)) (by simp) rfl (fun c hc => e2 c (by simp at hc; omega)) (by simp)
  exact fn_rt rfl (ret_e (frz_e e3))
theorem ce_diff (x u : Int) : ce x u - ce (-x) u = x := by
  by_cases c : 0 ≤ x
  · rw [ce_pos c, ce_neg (show -x ≤ 0 by omega)]; omega
  · rw [ce_neg (show x ≤ 0 by omega), ce_pos (show 0 ≤ -x by omega)]; omega
theorem ce_max (x u : Int) : mxI (ce x u) (ce (-x) u) = u := by
  unfold mxI
  by_cases c : 0 ≤ x
  · rw [ce_pos c, ce_neg (show -x ≤ 0 by omega)]; split <;> omega
  · rw [ce_neg (show x ≤ 0 by omega), ce_pos (show 0 ≤ -x by omega)]; split <;> omega
theorem len_cn : ∀ {r : Runs}, Good r → len r = cn 101 r + cn 110 r + cn 119 r + cn 115 r
  | [], _ => rfl
  | (c, t) :: r, g => by
    have h := len_cn g.tail
    have hc := g.head.1
    simp only [len, cn]
    rw [h]
    rcases hc with e | e | e | e <;> dsimp only at e <;> subst e <;> simp <;> omega
theorem ends_ok (e n w s : Int) (S : List Cell) : g_Lot_ends [ltD e n w s] S = .ok (.tup [.int (e - w), .int (n - s)]) S := by
  simp [g_Lot_ends, b_Lot_ends, fnD, List.lookup]
theorem mx_e (i j : Int) : (if i < j then j else i) = mxI i j := rfl
theorem areas_ok {e n w s : Int} (be : Bd e 1500) (bn : Bd n 1500) (bw : Bd w 1500) (bs : Bd s 1500) (S : List Cell) : g_Lot_swept_areas [ltD e n w s] S = .ok (.tup [.int (loL e n w s), .int (hiL e n w s)]) S := by
  have ee := ends_ok e n w s S
  have bx : Bd (e - w) 4000 := (inferInstance : Bd (e - w) _).le (by decide)
  have bY : Bd (n - s) 4000 := (inferInstance : Bd (n - s) _).le (by decide)
  have bm1 : Bd (mxI e w) 1500 := by
    rcases (mxI_le (i := e) (j := w)).2.2 with h | h <;> rw [h] <;> assumption
  have bm2 : Bd (mxI n s) 1500 := by
    rcases (mxI_le (i := n) (j := s)).2.2 with h | h <;> rw [h] <;> assumption
  have m1 : mulOk (e - w) (n - s) = true := mulOk_bd (by decide)
  have m2 : mulOk (-(e - w)) (n - s) = true := mulOk_bd (by decide)
  have m3 : mulOk (mxI e w) (mxI n s) = true := mulOk_bd (by decide)
  have e1 := mx_e e w
  have e2 := mx_e n s
  unfold loL hiL
  generalize mxI e w = p at *
  generalize mxI n s = q at *
  generalize e - w = x at *
  generalize n - s = y at *
  have hn : -x * y = -(x * y) := Int.neg_mul ..
  rw [hn]
  by_cases c1 : 0 < x * y
  · have c2 : ¬ x * y < 0 := by omega
    simp [g_Lot_swept_areas, b_Lot_swept_areas, fnD, List.lookup, ee, m1, m2, m3, e1, e2, c1, c2, hn]
  · by_cases c2 : x * y < 0
    · simp [g_Lot_swept_areas, b_Lot_swept_areas, fnD, List.lookup, ee, m1, m2, m3, e1, e2, c1, c2, hn]
    · simp [g_Lot_swept_areas, b_Lot_swept_areas, fnD, List.lookup, ee, m1, m2, m3, e1, e2, c1, c2, hn]
theorem with_ok {e n w s a : Int} (he : 0 ≤ e) (hn : 0 ≤ n) (hw : 0 ≤ w) (hs : 0 ≤ s) (be : Bd e 1500) (bn : Bd n 1500) (bw : Bd w 1500) (bs : Bd s 1500) (h0 : loL e n w s ≤ a) (h1 : a ≤ hiL e n w s) (S : List Cell) : g_Lot_walk_with [ltD e n w s, .int a] S = .ok (wk (mg (swp e n w s a))) S := by
  have ea := areas_ok be bn bw bs S
  have es := sw_swp 0 h0 h1 he hn hw hs be bn bw bs S
  have g := swp_ok he hn hw hs h0 h1
  have ei := winit_ok (.lst (rD (swp e n w s a))) _ S (.inl rfl) g.good (by have := g.few; omega)
  generalize swp e n w s a = r at *
  generalize loL e n w s = lo at *
  generalize hiL e n w s = hi at *
  generalize hR : D.lst (rD r) = R at *
  simp [g_Lot_walk_with, b_Lot_walk_with, fnD, List.lookup, ea, h0, h1, es, ei]
structure Chp (P : Pr) (p : Sp) (u v : Int) (r : Runs) : Prop where
  good : Good r
  few : r.length ≤ 10
  to : led home r = p
  cost : cst P r = pc P p.x p.y u v
  bd : Bd (len r) 6100
theorem straight {P : Pr} {x y u v : Int} : pc P x y u v = (if 0 < x then P.e * x else -P.w * x) + (if 0 < y then P.n * y else -P.s * y) + ((P.e + P.w) * (u - ab x) + (P.n + P.s) * (v - ab y)) := by
  have key : ∀ (a b x u : Int), a * ce x u + b * ce (-x) u = (if 0 < x then a * x else -b * x) + (a + b) * (u - ab x) := fun a b x u => by
    by_cases c : 0 < x
    · rw [if_pos c, ce_pos (show 0 ≤ x by omega), ce_neg (show -x ≤ 0 by omega), ab_of (show 0 ≤ x by omega)]; grind
    · have : ab x = -x := by unfold ab; split <;> omega
      rw [if_neg c, ce_neg (show x ≤ 0 by omega), ce_pos (show 0 ≤ -x by omega), this]; grind
  have k1 := key P.e P.w x u
  have k2 := key P.n P.s y v
  unfold pc
  omega
end W_k54
set_option maxRecDepth 100000
set_option maxHeartbeats 4000000
set_option exponentiation.threshold 4000
namespace W_k54
open DL ST
theorem srt_last {l : List Int} {m : Int} (h : m ∈ l) (hm : ∀ x ∈ l, x ≤ m) : L2.atI ((isrt l).map D.int) (-1) = some (.int m) := by
  have hp := isrt_perm l
  have hs := isrt_srt l
  generalize isrt l = r at *
  have hne : r ≠ [] := fun z => by rw [z] at hp; have := hp.symm.mem_iff.mp h; cases this
  obtain ⟨ys, z, rfl⟩ : ∃ ys z, r = ys ++ [z] := ⟨r.dropLast, r.getLast hne, (List.dropLast_concat_getLast hne).symm⟩
  have hz : z ≤ m := hm z (hp.mem_iff.mp (by simp))
  have hmz : m ≤ z := by
    have := hp.symm.mem_iff.mp h
    rw [List.pairwise_append] at hs
    rcases List.mem_append.mp this with k | k
    · exact hs.2.2 m k z (by simp)
    · simp at k; omega
  have : z = m := by omega
  subst this
  rw [List.map_append]
  exact at_neg1 _ _
abbrev lotD (e n w s : Int) : D := .lst [.int e, .int n, .int w, .int s]
structure LB (e n w s : Int) : Prop where
  e0 : 0 ≤ e
  n0 : 0 ≤ n
  w0 : 0 ≤ w
  s0 : 0 ≤ s
  be : Bd e 96
  bn : Bd n 96
  bw : Bd w 96
  bs : Bd s 96
theorem LB.mir {e n w s : Int} (h : LB e n w s) : LB w n e s := ⟨h.w0, h.n0, h.e0, h.s0, h.bw, h.bn, h.be, h.bs⟩
theorem g4 {c1 c2 c3 c4 : Nat} {t1 t2 t3 t4 : Int} (h1 : isL c1) (h2 : isL c2) (h3 : isL c3) (h4 : isL c4) (k1 : 0 ≤ t1) (k2 : 0 ≤ t2) (k3 : 0 ≤ t3) (k4 : 0 ≤ t4) : Good [(c1, t1), (c2, t2), (c3, t3), (c4, t4)] := fun q hq => by
  simp only [List.mem_cons, List.not_mem_nil, or_false] at hq
  rcases hq with rfl | rfl | rfl | rfl
  · exact ⟨h1, k1⟩
  · exact ⟨h2, k2⟩
  · exact ⟨h3, k3⟩
  · exact ⟨h4, k4⟩
theorem led4_ok {c1 c2 c3 c4 : Nat} {t1 t2 t3 t4 : Int} (S : List Cell) (h1 : isL c1) (h2 : isL c2) (h3 : isL c3) (h4 : isL c4) (k1 : 0 ≤ t1) (k2 : 0 ≤ t2) (k3 : 0 ≤ t3) (k4 : 0 ≤ t4) (b1 : Bd t1 96) (b2 : Bd t2 96) (b3 : Bd t3 96) (b4 : Bd t4 96) : g__law_led [.lst [qD (c1, t1), qD (c2, t2), qD (c3, t3), qD (c4, t4)]] S = .ok (spD (led home [(c1, t1), (c2, t2), (c3, t3), (c4, t4)])) S :=
  led_ok (.lst (rD [(c1, t1), (c2, t2), (c3, t3), (c4, t4)])) _ S rfl (g4 h1 h2 h3 h4 k1 k2 k3 k4) (n := 500) (by
    show Bd (t1 + (t2 + (t3 + (t4 + 0)))) 500
    exact (inferInstance : Bd (t1 + (t2 + (t3 + (t4 + 0)))) _).le (by decide)) (by decide)
theorem greatest_ok {e n w s : Int} (h : LB e n w s) (S : List Cell) : g__law_greatest [lotD e n w s] S = .ok (.int (hiL e n w s)) S := by
  obtain ⟨e0, n0, w0, s0, be, bn, bw, bs⟩ := h
  have l1 := led4_ok (c1 := 115) (c2 := 101) (c3 := 110) (c4 := 119) S isL_s isL_e isL_n isL_w s0 e0 n0 w0 bs be bn bw
  have l2 := led4_ok (c1 := 119) (c2 := 115) (c3 := 101) (c4 := 110) S isL_w isL_s isL_e isL_n w0 s0 e0 n0 bw bs be bn
  have l3 := led4_ok (c1 := 110) (c2 := 119) (c3 := 115) (c4 := 101) S isL_n isL_w isL_s isL_e n0 w0 s0 e0 bn bw bs be
  have l4 := led4_ok (c1 := 101) (c2 := 110) (c3 := 119) (c4 := 115) S isL_e isL_n isL_w isL_s e0 n0 w0 s0 be bn bw bs
  have a1 : (led home [(115, s), (101, e), (110, n), (119, w)]).a = e * n := by simp [led, gone, home]
  have a2 : (led home [(119, w), (115, s), (101, e), (110, n)]).a = e * n + w * s - w * n := by simp [led, gone, home]; grind
  have a3 : (led home [(110, n), (119, w), (115, s), (101, e)]).a = w * s := by simp [led, gone, home]; grind
  have a4 : (led home [(101, e), (110, n), (119, w), (115, s)]).a = e * n + w * s - e * s := by simp [led, gone, home]; grind
  generalize led home [(115, s), (101, e), (110, n), (119, w)] = p1 at *
  generalize led home [(119, w), (115, s), (101, e), (110, n)] = p2 at *
  generalize led home [(110, n), (119, w), (115, s), (101, e)] = p3 at *
  generalize led home [(101, e), (110, n), (119, w), (115, s)] = p4 at *
  have hf := hi_four e0 n0 w0 s0
  have st := srt_last (l := [p1.a, p2.a, p3.a, p4.a]) (m := hiL e n w s) (by simp only [List.mem_cons]; omega) (fun x hx => by simp only [List.mem_cons, List.not_mem_nil, or_false] at hx; omega)
  have lc := aLc_M1 (v := 9) (it := itSeq (eFrz (aMax (aCons (eVar 5) (aCons (eVar 6) (aCons (eVar 7) (aCons (eVar 8) (aNil)))))))) (e := e__law_greatest_0) (s := ⟨[.val (lotD e n w s), .val (.int e), .val (.int n), .val (.int w), .val (.int s), .val (spD p1), .val (spD p2), .val (spD p3), .val (spD p4), .un], S⟩) (s0 := ⟨[.val (lotD e n w s), .val (.int e), .val (.int n), .val (.int w), .val (.int s), .val (spD p1), .val (spD p2), .val (spD p3), .val (spD p4), .un], S⟩) (l := [p1, p2, p3, p4]) spD (fun p => D.int p.a) (by simp) rfl (fun p _ => by simp [e__law_greatest_0]) (by simp)
  generalize hiL e n w s = m at *
  unfold g__law_greatest b__law_greatest
  refine fn_rt (sl := [.val (lotD e n w s), .val (.int e), .val (.int n), .val (.int w), .val (.int s), .val (spD p1), .val (spD p2), .val (spD p3), .val (spD p4), .un]) rfl ?_
  refine (sq_nx (asg_t (d := lotD e n w s) (s1 := ⟨[.val (lotD e n w s), .un, .un, .un, .un, .un, .un, .un, .un, .un], S⟩) (s2 := ⟨[.val (lotD e n w s), .val (.int e), .val (.int n), .val (.int w), .val (.int s), .un, .un, .un, .un, .un], S⟩) rfl (by simp))).trans ?_
  refine (sq_set (d := spD p1) ((call_c1 (frz_e (xs := [qD (115, s), qD (101, e), qD (110, n), qD (119, w)]) (by simp)) l1).trans rfl)).trans ?_
  refine (sq_set (d := spD p2) ((call_c1 (frz_e (xs := [qD (119, w), qD (115, s), qD (101, e), qD (110, n)]) (by simp)) l2).trans rfl)).trans ?_
  refine (sq_set (d := spD p3) ((call_c1 (frz_e (xs := [qD (110, n), qD (119, w), qD (115, s), qD (101, e)]) (by simp)) l3).trans rfl)).trans ?_
  refine (sq_set (d := spD p4) ((call_c1 (frz_e (xs := [qD (101, e), qD (110, n), qD (119, w), qD (115, s)]) (by simp)) l4).trans rfl)).trans ?_
  refine ret_e ?_
  simp only [List.map_cons, List.map_nil] at lc st
  generalize aLc [9] (itSeq (eFrz (aMax (aCons (eVar 5) (aCons (eVar 6) (aCons (eVar 7) (aCons (eVar 8) (aNil)))))))) (gN 9) (bYes) (e__law_greatest_0) = F at *
  generalize hI : isrt [p1.a, p2.a, p3.a, p4.a] = I at *
  simp [lc, intsOf, hI, st, ixD]
/-! ### walks of a lot -/
theorem with_none {e n w s a : Int} (be : Bd e 1500) (bn : Bd n 1500) (bw : Bd w 1500) (bs : Bd s 1500) (h : a < loL e n w s ∨ hiL e n w s < a) (S : List Cell) : g_Lot_walk_with [ltD e n w s, .int a] S = .ok .non S := by
  have ea := areas_ok be bn bw bs S
  generalize loL e n w s = lo at *
  generalize hiL e n w s = hi at *
  by_cases c1 : lo ≤ a
  · have c2 : ¬ a ≤ hi := by omega
    simp [g_Lot_walk_with, b_Lot_walk_with, fnD, List.lookup, ea, c1, c2]
  · simp [g_Lot_walk_with, b_Lot_walk_with, fnD, List.lookup, ea, c1]
theorem walked_ok {e n w s a : Int} (h : LB e n w s) (h0 : loL e n w s ≤ a) (h1 : a ≤ hiL e n w s) (S : List Cell) : g__law_is_walked [ltD e n w s, lotD e n w s, .int a] S = .ok (.bl true) S := by
  obtain ⟨e0, n0, w0, s0, be, bn, bw, bs⟩ := h
  have ew := with_ok e0 n0 w0 s0 (be.le (by decide)) (bn.le (by decide)) (bw.le (by decide)) (bs.le (by decide)) h0 h1 S
  have L := swp_ok e0 n0 w0 s0 h0 h1
  have few := swp_few e n w s a
  generalize swp e n w s a = r at *
  have gm := (mg_neat L.good).good
  have bl : Bd (len (mg r)) 500 := by
    rw [mg_len L.good, len_cn L.good, L.ce, L.cnn, L.cw, L.cs]
    exact (inferInstance : Bd (e + n + w + s) _).le (by decide)
  have el := led_ok (.tup (rD (mg r))) (mg r) S rfl gm bl (by decide)
  have ep := wplace_ok (mg r) S gm bl (by decide) (by omega)
  rw [mg_led L.good, L.to] at el ep
  have ec := counts_t (mg r) S gm (by omega)
  have ec' : g__law_counts [.tup (rD (mg r))] S = .ok (lotD e n w s) S := by
    rw [ec]; simp [cn_mg, L.good, L.ce, L.cnn, L.cw, L.cs]
  generalize mg r = M at *
  have fl : eFld ["Walk"] [114, 117, 110, 115] (eVar 3) ⟨[.val (ltD e n w s), .val (lotD e n w s), .val (.int a), .val (wk M)], S⟩ = .ok (.tup (rD M)) ⟨[.val (ltD e n w s), .val (lotD e n w s), .val (.int a), .val (wk M)], S⟩ := by simp [List.lookup]
  have hl9 : (rD M).length ≤ 9 := by simp only [rD, List.length_map]; omega
  have ln : ¬ (9 : Int) < (rD M).length := by omega
  have s1 : sSet 3 (eMeth "Lot" [119, 97, 108, 107, 95, 119, 105, 116, 104] 2 g_Lot_walk_with (eVar 0) (aCons (eVar 2) (aNil))) ⟨[.val (ltD e n w s), .val (lotD e n w s), .val (.int a), .un], S⟩ = .ok .nx ⟨[.val (ltD e n w s), .val (lotD e n w s), .val (.int a), .val (wk M)], S⟩ := by
    generalize wk M = W at *
    simp [List.lookup, ew]
  have c1 : bOr (bNot (eTru (eCB (bIsi ["Place", "Walk", "Lot"]) (aCons (eVar 3) (aCons (eC (.cls "Walk")) (aNil)))))) (eB (eOp2 iGt (eCB (bLen) (aCons (eFld ["Walk"] [114, 117, 110, 115] (eVar 3)) (aNil))) (eC (.int 9)))) ⟨[.val (ltD e n w s), .val (lotD e n w s), .val (.int a), .val (wk M)], S⟩ = .ok false ⟨[.val (ltD e n w s), .val (lotD e n w s), .val (.int a), .val (wk M)], S⟩ := by
    refine (or_f (s1 := ⟨[.val (ltD e n w s), .val (lotD e n w s), .val (.int a), .val (wk M)], S⟩) (not_e (b := true) (by simp))).trans (eB_of (op_2 (x := .int (rD M).length) (y := .int 9) (s1 := ⟨[.val (ltD e n w s), .val (lotD e n w s), .val (.int a), .val (wk M)], S⟩) ?_ rfl (by show some (D.bl (decide ((9 : Int) < ((rD M).length : Int)))) = some (.bl false); rw [decide_eq_false ln])))
    obtain ⟨R, hR⟩ : ∃ R, rD M = R := ⟨_, rfl⟩
    rw [hR] at fl ⊢
    generalize eFld ["Walk"] [114, 117, 110, 115] (eVar 3) = F at *
    have l2 : R.length = (rD M).length := by rw [hR]
    simp [fl, bLen]
  have d1 : dEq (lotD e n w s) (lotD e n w s) = some (.bl true) := by simp
  have q2 : eIx (eCall 1 g__law_led (aCons (eFld ["Walk"] [114, 117, 110, 115] (eVar 3)) (aNil))) (eC (.int 2)) ⟨[.val (ltD e n w s), .val (lotD e n w s), .val (.int a), .val (wk M)], S⟩ = .ok (.int a) ⟨[.val (ltD e n w s), .val (lotD e n w s), .val (.int a), .val (wk M)], S⟩ := by
    have := call_c1 (g := g__law_led) fl el
    generalize eCall 1 g__law_led (aCons (eFld ["Walk"] [114, 117, 110, 115] (eVar 3)) (aNil)) = F at *
    simp [this]
  have q3 : eFld ["Place"] [97, 114, 101, 97] (eMeth "Walk" [112, 108, 97, 99, 101] 1 g_Walk_place (eVar 3) aNil) ⟨[.val (ltD e n w s), .val (lotD e n w s), .val (.int a), .val (wk M)], S⟩ = .ok (.int a) ⟨[.val (ltD e n w s), .val (lotD e n w s), .val (.int a), .val (wk M)], S⟩ := by
    simp [ep, List.lookup]
  unfold g__law_is_walked b__law_is_walked
  refine fn_rt (sl := [.val (ltD e n w s), .val (lotD e n w s), .val (.int a), .val (wk M)]) rfl ((sq_nx s1).trans ((sq_if_f c1).trans (ret_e ?_)))
  exact andT_t (op_2 (b := eVar 1) (call_c1 fl ec') rfl d1) (andT_t (op_2 (b := eVar 2) q2 rfl (by simp)) (op_2 (b := eVar 2) q3 rfl (by simp)))
end W_k54
set_option maxRecDepth 100000
set_option maxHeartbeats 4000000
set_option exponentiation.threshold 4000
namespace W_k54
open DL ST
/-! ### shuffled runs -/
theorem pop_perm {α : Type} : ∀ {I : List α} {d : Nat} {a : α}, I[d]? = some a → (a :: I.eraseIdx d).Perm I
  | [], _, _, h => by simp at h
  | b :: I, 0, a, h => by
    simp at h
    subst h
    exact .refl _
  | b :: I, d + 1, a, h => by
    have := pop_perm (I := I) (d := d) (a := a) (by simpa using h)
    exact (List.Perm.swap b a _).trans (.cons b this)
theorem map_erase {α β : Type} (g : α → β) : ∀ (I : List α) (d : Nat), (I.map g).eraseIdx d = (I.eraseIdx d).map g
  | [], _ => rfl
  | _ :: _, 0 => rfl
  | b :: I, d + 1 => by
    simp only [List.map_cons, List.eraseIdx_cons_succ, List.map_cons]
    rw [map_erase g I d]
theorem shuf_step {R' : Sl} {F J : List D} {d : Nat} {x : D} {S S1 : List Cell} (e : g__law_draw [.cell 0, .int F.length] S = .ok (.int (d : Int)) S1) (hd : d < 1000) (hx : F[d]? = some x) (hJ : J.length < 1000) : w__law_shuffled_0 ⟨[.val (.cell 0), R', .ol F, .ol J], S⟩ = .ok .nx ⟨[.val (.cell 0), R', .ol (F.eraseIdx d), .ol (J ++ [x])], S1⟩ := by
  have h1 : aCons (eCall 2 g__law_draw (aCons (eVar 0) (aCons (eLnO 2) aNil))) aNil ⟨[.val (.cell 0), R', .ol F, .ol J], S⟩ = .ok [.int (d : Int)] ⟨[.val (.cell 0), R', .ol F, .ol J], S1⟩ := by
    have : eCall 2 g__law_draw (aCons (eVar 0) (aCons (eLnO 2) aNil)) ⟨[.val (.cell 0), R', .ol F, .ol J], S⟩ = .ok (.int (d : Int)) ⟨[.val (.cell 0), R', .ol F, .ol J], S1⟩ := call_c2 rfl rfl e
    simp only [r_aCons, this, r_aNil, Res.bind_ok]
  have h2 : ePopO 2 (aCons (eCall 2 g__law_draw (aCons (eVar 0) (aCons (eLnO 2) aNil))) aNil) ⟨[.val (.cell 0), R', .ol F, .ol J], S⟩ = .ok x ⟨[.val (.cell 0), R', .ol (F.eraseIdx d), .ol J], S1⟩ := pop_e rfl h1 rfl (by omega) hx
  exact app_e rfl h2 rfl (by omega)
theorem shuf_loop {R' : Sl} : ∀ (m n : Nat) (I J : Runs) (S : List Cell), I.length = m → J.length + m ≤ 100 → Pen n S → n + m < 2 ^ 19 → ∃ (J' : Runs) (S' : List Cell), sWhile c__law_shuffled_0 w__law_shuffled_0 ⟨[.val (.cell 0), R', .ol (rD I), .ol (rD J)], S⟩ = .ok .nx ⟨[.val (.cell 0), R', .ol [], .ol (rD J')], S'⟩ ∧ J'.Perm (J ++ I) ∧ Pen (n + m) S'
  | 0, n, I, J, S, hI, _, hS, _ => by
    have : I = [] := List.eq_nil_of_length_eq_zero hI
    subst this
    refine ⟨J, S, ?_, by rw [List.append_nil], hS⟩
    rw [sWhile_eq]
    show (eNeE 2 _).bind _ = _
    simp
  | m + 1, n, I, J, S, hI, hJ, hS, hn => by
    obtain ⟨z, S1, e, z0, z1, P1⟩ := draw_ok hS (by omega) (p := (I.length : Int)) (by omega) (by omega)
    obtain ⟨d, rfl⟩ := Int.eq_ofNat_of_zero_le z0
    have hd : d < I.length := by omega
    have st := shuf_step (R' := R') (F := rD I) (J := rD J) (d := d) (x := qD I[d]) (S := S) (S1 := S1) (by rw [List.length_map]; exact e) (by omega) (by rw [List.getElem?_map, List.getElem?_eq_getElem hd]; rfl) (by rw [List.length_map]; omega)
    obtain ⟨J', S', e2, hp, P2⟩ := shuf_loop m (n + 1) (I.eraseIdx d) (J ++ [I[d]]) S1 (by rw [List.length_eraseIdx_of_lt hd]; omega) (by simp; omega) P1 (by omega)
    refine ⟨J', S', ?_, ?_, P2.mono (by omega)⟩
    · rw [sWhile_eq]
      have c : c__law_shuffled_0 ⟨[.val (.cell 0), R', .ol (rD I), .ol (rD J)], S⟩ = .ok true ⟨[.val (.cell 0), R', .ol (rD I), .ol (rD J)], S⟩ := by
        show eNeE 2 _ = _
        cases I with
        | nil => simp at hI
        | cons a r => simp
      rw [c, Res.bind_ok, if_pos rfl, st, r_lo_nx, rD, map_erase]
      rw [rD, rD, List.map_append] at e2
      exact e2
    · refine hp.trans ?_
      rw [List.append_assoc]
      exact List.Perm.append_left J (pop_perm (List.getElem?_eq_getElem hd))
theorem shuffled_ok {n : Nat} {S : List Cell} {r : Runs} (hl : r.length ≤ 50) (hS : Pen n S) (hn : n + 100 < 2 ^ 19) : ∃ (r' : Runs) (S' : List Cell), g__law_shuffled [.cell 0, .lst (rD r)] S = .ok (.lst (rD r')) S' ∧ r'.Perm r ∧ Pen (n + r.length) S' := by
  obtain ⟨J, S', e, hp, P'⟩ := shuf_loop (R' := .val (.lst (rD r))) r.length n r [] S rfl (by simp; omega) hS (by omega)
  refine ⟨J, S', ?_, by simpa using hp, P'⟩
  have h0 : sParOO 2 3 (aList (aCons (eVar 1) aNil)) (aMax aNil) ⟨[.val (.cell 0), .val (.lst (rD r)), .un, .un], S⟩ = .ok .nx ⟨[.val (.cell 0), .val (.lst (rD r)), .ol (rD r), .ol (rD [])], S⟩ := by simp
  have h2 : sRet (eVar 3) ⟨[.val (.cell 0), .val (.lst (rD r)), .ol [], .ol (rD J)], S'⟩ = .ok (.rt (.lst (rD J))) ⟨[.val (.cell 0), .val (.lst (rD r)), .ol [], .val (.lst (rD J))], S'⟩ := by simp
  have w : b__law_shuffled ⟨[.val (.cell 0), .val (.lst (rD r)), .un, .un], S⟩ = .ok (.rt (.lst (rD J))) ⟨[.val (.cell 0), .val (.lst (rD r)), .ol [], .val (.lst (rD J))], S'⟩ := (sq_nx h0).trans ((sq_nx e).trans h2)
  exact fn_rt rfl w
theorem cn_perm (c : Nat) {r r' : Runs} (h : r'.Perm r) : cn c r' = cn c r := by
  induction h with
  | nil => rfl
  | cons x _ ih => simp only [cn, ih]
  | swap x y l => simp only [cn]; omega
  | trans _ _ ih1 ih2 => rw [ih1, ih2]
theorem good_perm {r r' : Runs} (h : r'.Perm r) (g : Good r) : Good r' := fun q hq => g q (h.mem_iff.mp hq)
/-! ### parted -/
def Lk (k : Nat) : Nat := if k = 0 then 101 else if k = 1 then 110 else if k = 2 then 119 else 115
theorem Lk_isL (k : Nat) : isL (Lk k) := by
  unfold Lk
  by_cases h0 : k = 0
  · rw [if_pos h0]; exact .inl rfl
  · rw [if_neg h0]
    by_cases h1 : k = 1
    · rw [if_pos h1]; exact .inr (.inl rfl)
    · rw [if_neg h1]
      by_cases h2 : k = 2
      · rw [if_pos h2]; exact .inr (.inr (.inl rfl))
      · rw [if_neg h2]; exact .inr (.inr (.inr rfl))
theorem ix_L {k : Nat} (h : k < 4) : ixD (.str [101, 110, 119, 115]) (k : Int) = some (.str [Lk k]) := by
  have : k = 0 ∨ k = 1 ∨ k = 2 ∨ k = 3 := by omega
  rcases this with rfl | rfl | rfl | rfl <;> rfl
def lk (e n w s : Int) (k : Nat) : Int := if k = 0 then e else if k = 1 then n else if k = 2 then w else s
theorem ix_lk (e n w s : Int) {k : Nat} (h : k < 4) : ixD (lotD e n w s) (k : Int) = some (.int (lk e n w s k)) := by
  have : k = 0 ∨ k = 1 ∨ k = 2 ∨ k = 3 := by omega
  rcases this with rfl | rfl | rfl | rfl <;> rfl
theorem ixe {a b : DE} {s s1 s2 : DS} {x d : D} {i : Int} (ha : a s = .ok x s1) (hb : b s1 = .ok (.int i) s2) (h : ixD x i = some d) : eIx a b s = .ok d s2 := by
  simp [ha, hb, h]
abbrev pS (L : D) (r : Runs) (x3 x4 x5 x6 : Sl) (S : List Cell) : DS := ⟨[.val (.cell 0), .val L, .ol (rD r), x3, x4, x5, x6], S⟩
theorem part0 {n : Nat} {S : List Cell} {L : D} {r : Runs} {k : Nat} {x5 x6 : Sl} {l : Int} (hk : k < 4) (hr : r.length < 1000) (l0 : 0 ≤ l) (bl : Bd l 96) (hS : Pen n S) (hn : n + 100 < 2 ^ 20) : ∃ h S', w__law_parted_0 (pS L r (.val (.int (k : Int))) (.val (.int l)) x5 x6 S) = .ok .nx (pS L (r ++ [(Lk k, h)]) (.val (.int (k : Int))) (.val (.int (l - h))) x5 (.val (.int h)) S') ∧ 0 ≤ h ∧ h ≤ l ∧ Pen (n + 8) S' := by
  obtain ⟨d, S1, e1, d0, bd, P1⟩ := great_ok hS (by omega)
  have b1 : Bd (l + 1) 100 := (inferInstance : Bd (l + 1) _).le (by decide)
  have dv : divOk (l + 1) = true := divOk_of b1 (by omega) (by decide)
  have m1 := Int.fmod_nonneg_of_pos d (show 0 < l + 1 by omega)
  have m2 := Int.fmod_lt_of_pos d (show 0 < l + 1 by omega)
  have nz : l + 1 ≠ 0 := by omega
  have il := ix_L hk
  refine ⟨d.fmod (l + 1), S1, ?_, m1, by omega, P1⟩
  generalize hh : d.fmod (l + 1) = h at *
  generalize (k : Int) = K at *
  unfold w__law_parted_0
  refine (sq_nx (s1 := pS L r (.val (.int K)) (.val (.int l)) x5 (.val (.int h)) S1) (by simp [e1, dv, nz, hh])).trans ?_
  refine (sq_nx (s1 := pS L (r ++ [(Lk k, h)]) (.val (.int K)) (.val (.int l)) x5 (.val (.int h)) S1) ?_).trans (by simp)
  have e2 : eTup (aCons (eIx (eC (.str [101, 110, 119, 115])) (eVar 3)) (aCons (eVar 6) (aNil))) (pS L r (.val (.int K)) (.val (.int l)) x5 (.val (.int h)) S1) = .ok (qD (Lk k, h)) (pS L r (.val (.int K)) (.val (.int l)) x5 (.val (.int h)) S1) := tup_2 (ixe (b := eVar 3) rfl rfl il) rfl
  refine (app_e (i := 2) rfl e2 rfl (by simp; omega)).trans ?_
  simp [pS, rD]
/-- four runs of one letter -/
structure Four (c : Nat) (t : Int) (q : Runs) : Prop where
  four : q.length = 4
  good : Good q
  same : cn c q = t
  none : ∀ d, d ≠ c → cn d q = 0
theorem part1 {n : Nat} {S : List Cell} {e nn w s : Int} (hB : LB e nn w s) {r : Runs} {k : Nat} {x4 x5 x6 : Sl} (hk : k < 4) (hr : r.length < 900) (hS : Pen n S) (hn : n + 300 < 2 ^ 20) : ∃ q y4 y5 y6 S', w__law_parted_1 (pS (lotD e nn w s) r (.val (.int (k : Int))) x4 x5 x6 S) = .ok .nx (pS (lotD e nn w s) (r ++ q) (.val (.int (k : Int))) y4 y5 y6 S') ∧ Four (Lk k) (lk e nn w s k) q ∧ Pen (n + 24) S' := by
  have il := ix_L hk
  have iv := ix_lk e nn w s hk
  have hv : 0 ≤ lk e nn w s k ∧ Bd (lk e nn w s k) 96 := by
    obtain ⟨e0, n0, w0, s0, be, bn, bw, bs⟩ := hB
    unfold lk
    split
    · exact ⟨e0, be⟩
    · split
      · exact ⟨n0, bn⟩
      · split
        · exact ⟨w0, bw⟩
        · exact ⟨s0, bs⟩
  have hL := Lk_isL k
  obtain ⟨v0, bv⟩ := hv
  generalize lk e nn w s k = v at *
  obtain ⟨h1, S1, e1, p1, q1, P1⟩ := part0 (L := lotD e nn w s) (r := r) (k := k) (x5 := .val (kD 0)) (x6 := x6) hk (by omega) v0 bv hS (by omega)
  have b1 : Bd (v - h1) 96 := bv.of_le (by omega) (by omega)
  obtain ⟨h2, S2, e2, p2, q2, P2⟩ := part0 (L := lotD e nn w s) (r := r ++ [(Lk k, h1)]) (k := k) (x5 := .val (kD 1)) (x6 := .val (.int h1)) hk (by simp; omega) (show 0 ≤ v - h1 by omega) b1 P1 (by omega)
  have b2 : Bd (v - h1 - h2) 96 := bv.of_le (by omega) (by omega)
  obtain ⟨h3, S3, e3, p3, q3, P3⟩ := part0 (L := lotD e nn w s) (r := r ++ [(Lk k, h1)] ++ [(Lk k, h2)]) (k := k) (x5 := .val (kD 2)) (x6 := .val (.int h2)) hk (by simp; omega) (show 0 ≤ v - h1 - h2 by omega) b2 P2 (by omega)
  refine ⟨[(Lk k, h1), (Lk k, h2), (Lk k, h3), (Lk k, v - h1 - h2 - h3)], .val (.int (v - h1 - h2 - h3)), .val (kD 2), .val (.int h3), S3, ?_, ⟨rfl, ?_, ?_, fun d hd => ?_⟩, P3.mono (by omega)⟩
  · unfold w__law_parted_1
    refine (sq_set (d := .int v) (ixe (a := eVar 1) (b := eVar 3) rfl rfl iv)).trans ?_
    refine (sq_nx (s1 := pS (lotD e nn w s) (r ++ [(Lk k, h1)] ++ [(Lk k, h2)] ++ [(Lk k, h3)]) (.val (.int (k : Int))) (.val (.int (v - h1 - h2 - h3))) (.val (kD 2)) (.val (.int h3)) S3) (for_it (itR1_n (n := 3) rfl (by decide)) ?_)).trans ?_
    · show forL (gN 5) w__law_parted_0 [kD 0, kD 1, kD 2] _ = _
      exact (for_1 (i := 5) e1).trans ((for_1 (i := 5) e2).trans ((for_1 (i := 5) e3).trans rfl))
    · have e4 : eTup (aCons (eIx (eC (.str [101, 110, 119, 115])) (eVar 3)) (aCons (eVar 4) (aNil))) (pS (lotD e nn w s) (r ++ [(Lk k, h1)] ++ [(Lk k, h2)] ++ [(Lk k, h3)]) (.val (.int (k : Int))) (.val (.int (v - h1 - h2 - h3))) (.val (kD 2)) (.val (.int h3)) S3) = .ok (qD (Lk k, v - h1 - h2 - h3)) (pS (lotD e nn w s) (r ++ [(Lk k, h1)] ++ [(Lk k, h2)] ++ [(Lk k, h3)]) (.val (.int (k : Int))) (.val (.int (v - h1 - h2 - h3))) (.val (kD 2)) (.val (.int h3)) S3) := tup_2 (ixe (b := eVar 3) rfl rfl il) rfl
      refine (app_e (i := 2) rfl e4 rfl (by simp; omega)).trans ?_
      simp [pS, rD]
  · exact g4 hL hL hL hL p1 p2 p3 (by omega)
  · simp [cn]; omega
  · simp [cn, hd.symm]
theorem parted_ok {n : Nat} {S : List Cell} {e nn w s : Int} (hB : LB e nn w s) (hS : Pen n S) (hn : n + 500 < 2 ^ 18) : ∃ r S', g__law_parted [.cell 0, lotD e nn w s] S = .ok (.lst (rD r)) S' ∧ Good r ∧ r.length = 16 ∧ cn 101 r = e ∧ cn 110 r = nn ∧ cn 119 r = w ∧ cn 115 r = s ∧ Pen (n + 200) S' := by
  obtain ⟨s', e2, ⟨r, y3, y4, y5, y6, hs, g, hl, c1, c2, c3, c4⟩, hP⟩ := for_inv (g := gN 3) (b := w__law_parted_1) (items := (List.range 4).map kD) (s := pS (lotD e nn w s) [] .un .un .un .un S)
    (fun i z => (∃ r y3 y4 y5 y6, z.sl = (pS (lotD e nn w s) r y3 y4 y5 y6 S).sl ∧ Good r ∧ r.length = 4 * i ∧ cn 101 r = (if 0 < i then e else 0) ∧ cn 110 r = (if 1 < i then nn else 0) ∧ cn 119 r = (if 2 < i then w else 0) ∧ cn 115 r = (if 3 < i then s else 0)) ∧ Pen (n + 24 * i) z.st)
    ⟨⟨[], _, _, _, _, rfl, fun _ h => (nomatch h), rfl, rfl, rfl, rfl, rfl⟩, hS⟩ (fun i d z hi hp => by
      obtain ⟨⟨r, y3, y4, y5, y6, hs, g, hl, c1, c2, c3, c4⟩, hP⟩ := hp
      obtain ⟨sl, st⟩ := z
      simp only at hs hP
      subst hs
      have hi4 : i < 4 := by
        have := (List.getElem?_eq_some_iff.mp hi).1
        simpa using this
      have hd : d = .int (i : Int) := by
        rw [List.getElem?_map, List.getElem?_range hi4] at hi
        simp [kD] at hi
        exact hi.symm
      subst hd
      obtain ⟨q, z4, z5, z6, S', e1, F, P'⟩ := part1 hB (r := r) (x4 := y4) (x5 := y5) (x6 := y6) hi4 (by omega) hP (by omega)
      refine ⟨_, _, rfl, .inl e1, ⟨r ++ q, _, z4, z5, z6, rfl, g.app F.good, by rw [List.length_append, hl, F.four]; omega, ?_, ?_, ?_, ?_⟩, P'.mono (by omega)⟩
      all_goals rw [cn_app]
      all_goals
        have : i = 0 ∨ i = 1 ∨ i = 2 ∨ i = 3 := by omega
        rcases this with rfl | rfl | rfl | rfl
      all_goals
        first
        | rw [c1] | rw [c2] | rw [c3] | rw [c4]
      all_goals
        first
        | (rw [F.none _ (by decide)]; simp; done)
        | (have := F.same; simp [Lk, lk] at this; rw [this]; simp; done))
  obtain ⟨sl, st⟩ := s'
  simp only at hs hP
  subst hs
  simp at c1 c2 c3 c4 hl hP
  obtain ⟨r', S', e3, hp, P3⟩ := shuffled_ok (r := r) (by omega) hP (by omega)
  refine ⟨r', S', ?_, good_perm hp g, by rw [hp.length_eq, hl], by rw [cn_perm _ hp, c1], by rw [cn_perm _ hp, c2], by rw [cn_perm _ hp, c3], by rw [cn_perm _ hp, c4], P3.mono (by omega)⟩
  unfold g__law_parted b__law_parted
  refine fn_rt (sl := [.val (.cell 0), .val (lotD e nn w s), .val (.lst (rD r)), y3, y4, y5, y6]) rfl ((sq_nx (set_o (s1 := ⟨[.val (.cell 0), .val (lotD e nn w s), .un, .un, .un, .un, .un], S⟩) (ds := []) (by simp))).trans ((sq_nx (for_it (itR1_n rfl (by decide)) e2)).trans (ret_e ?_)))
  simp [e3]
end W_k54
set_option maxRecDepth 100000
set_option maxHeartbeats 4000000
set_option exponentiation.threshold 4000
namespace W_k54
open DL ST
/-! ### the walks of a length reach as far as the best lots -/
abbrev t2 (p : Int × Int) : D := .tup [.int p.1, .int p.2]
/-- the areas of a lot over an end, so much wider -/
def ex (x y k wd : Int) : Int × Int :=
  ((if 0 < x * y then x * y else 0) - (ab x + wd) * (ab y + (k - wd)), (ab x + wd) * (ab y + (k - wd)) - (if 0 < -(x * y) then -(x * y) else 0))
theorem side_max {x wd : Int} (h : 0 ≤ wd) : (if 0 ≤ x then mxI (x + wd) wd else mxI wd (wd - x)) = ab x + wd := by
  unfold mxI ab
  split <;> split <;> split <;> omega
def sdE (x wd : Int) : Int := if 0 ≤ x then x + wd else wd
def sdW (x wd : Int) : Int := if 0 ≤ x then wd else wd - x
theorem sd_diff (x wd : Int) : sdE x wd - sdW x wd = x := by unfold sdE sdW; split <;> omega
theorem sd_max (x wd : Int) : mxI (sdE x wd) (sdW x wd) = ab x + wd := by unfold sdE sdW mxI ab; split <;> split <;> split <;> omega
theorem sd_nn {x wd : Int} (h : 0 ≤ wd) : 0 ≤ sdE x wd ∧ 0 ≤ sdW x wd := by unfold sdE sdW; split <;> omega
theorem ex_lot {x y k wd : Int} (h0 : 0 ≤ wd) (h1 : wd ≤ k) : loL (sdE x wd) (sdE y (k - wd)) (sdW x wd) (sdW y (k - wd)) = (ex x y k wd).1 ∧ hiL (sdE x wd) (sdE y (k - wd)) (sdW x wd) (sdW y (k - wd)) = (ex x y k wd).2 := by
  unfold loL hiL ex
  rw [sd_diff, sd_diff, sd_max, sd_max, show -x * y = -(x * y) from Int.neg_mul ..]
  exact ⟨rfl, rfl⟩
abbrev bS (x y k : Int) (L : Int × Int) (x5 : Sl) (F : List (Int × Int)) (x7 x8 x9 x10 x11 x12 x13 : Sl) (S : List Cell) : DS := ⟨[.val (.cell 0), .val (.int x), .val (.int y), .val (.int k), .val (t2 L), x5, .ol (F.map t2), x7, x8, x9, x10, x11, x12, x13], S⟩
theorem lotinit_at {e n w s : Int} (h1 : 0 ≤ e) (h2 : 0 ≤ n) (h3 : 0 ≤ w) (h4 : 0 ≤ s) {a b c d : DE} {t : DS} (ha : a t = .ok (.int e) t) (hb : b t = .ok (.int n) t) (hc : c t = .ok (.int w) t) (hd : d t = .ok (.int s) t) : eMake "Lot" 4 g_LotX_initX (aCons a (aCons b (aCons c (aCons d aNil)))) t = .ok (ltD e n w s) t := by
  have e := lotinit_ok h1 h2 h3 h4 t.st
  simp [ha, hb, hc, hd, e]
theorem body_ok {x y k wd : Int} {L : Int × Int} {F : List (Int × Int)} {x5 x8 x9 x10 x11 x12 x13 : Sl} {S : List Cell} (bx : Bd x 96) (bY : Bd y 96) (bk : Bd k 96) (hF : F.length < 1000) :
    ∃ y8 y9 y10 y11 y12, w__law_best_right_0 (bS x y k L x5 F (.val (.int wd)) x8 x9 x10 x11 x12 x13 S) = .ok .nx (bS x y k L x5 (F ++ (if 0 ≤ wd ∧ wd ≤ k then [ex x y k wd] else [])) (.val (.int wd)) y8 y9 y10 y11 y12 x13 S) := by
  by_cases c : 0 ≤ wd ∧ wd ≤ k
  · obtain ⟨c0, c1⟩ := c
    rw [if_pos ⟨c0, c1⟩]
    have bw : Bd wd 96 := bk.of_le c0 c1
    obtain ⟨n1, n3⟩ := sd_nn (x := x) c0
    obtain ⟨n2, n4⟩ := sd_nn (x := y) (show 0 ≤ k - wd by omega)
    have b1 : Bd (sdE x wd) 1500 := by unfold sdE; split <;> exact (inferInstance : Bd _ _).le (by decide)
    have b3 : Bd (sdW x wd) 1500 := by unfold sdW; split <;> exact (inferInstance : Bd _ _).le (by decide)
    have b2 : Bd (sdE y (k - wd)) 1500 := by unfold sdE; split <;> exact (inferInstance : Bd _ _).le (by decide)
    have b4 : Bd (sdW y (k - wd)) 1500 := by unfold sdW; split <;> exact (inferInstance : Bd _ _).le (by decide)
    have ea := areas_ok b1 b2 b3 b4 S
    obtain ⟨q1, q2⟩ := ex_lot (x := x) (y := y) c0 c1
    rw [q1, q2] at ea
    refine ⟨.val (.int (sdE x wd)), .val (.int (sdW x wd)), .val (.int (k - wd)), .val (.int (sdE y (k - wd))), .val (.int (sdW y (k - wd))), ?_⟩
    have s1 : sAsgT (eIf (eB (eOp2 iGe (eVar 1) (eC (.int 0)))) (eTup (aCons (eOp2 dAdd (eVar 1) (eVar 7)) (aCons (eVar 7) (aNil)))) (eTup (aCons (eVar 7) (aCons (eOp2 iSub (eVar 7) (eVar 1)) (aNil))))) (gT 2 (gsCons (gN 8) (gsCons (gN 9) (gsNil)))) (bS x y k L x5 F (.val (.int wd)) x8 x9 x10 x11 x12 x13 S) = .ok .nx (bS x y k L x5 F (.val (.int wd)) (.val (.int (sdE x wd))) (.val (.int (sdW x wd))) x10 x11 x12 x13 S) := by
      unfold sdE sdW
      by_cases cx : 0 ≤ x <;> simp [cx]
    have s2 : sAsgT (eIf (eB (eOp2 iGe (eVar 2) (eC (.int 0)))) (eTup (aCons (eOp2 dAdd (eVar 2) (eVar 10)) (aCons (eVar 10) (aNil)))) (eTup (aCons (eVar 10) (aCons (eOp2 iSub (eVar 10) (eVar 2)) (aNil))))) (gT 2 (gsCons (gN 11) (gsCons (gN 12) (gsNil)))) (bS x y k L x5 F (.val (.int wd)) (.val (.int (sdE x wd))) (.val (.int (sdW x wd))) (.val (.int (k - wd))) x11 x12 x13 S) = .ok .nx (bS x y k L x5 F (.val (.int wd)) (.val (.int (sdE x wd))) (.val (.int (sdW x wd))) (.val (.int (k - wd))) (.val (.int (sdE y (k - wd)))) (.val (.int (sdW y (k - wd)))) x13 S) := by
      generalize sdE x wd = z1 at *
      generalize sdW x wd = z3 at *
      unfold sdE sdW
      generalize k - wd = h at *
      by_cases cx : 0 ≤ y <;> simp [cx]
    generalize ex x y k wd = X at *
    generalize sdE x wd = z1 at *
    generalize sdW x wd = z3 at *
    generalize sdE y (k - wd) = z2 at *
    generalize sdW y (k - wd) = z4 at *
    have s3 : eMeth "Lot" [115, 119, 101, 112, 116, 95, 97, 114, 101, 97, 115] 1 g_Lot_swept_areas (eMake "Lot" 4 g_LotX_initX (aCons (eVar 8) (aCons (eVar 11) (aCons (eVar 9) (aCons (eVar 12) (aNil)))))) aNil (bS x y k L x5 F (.val (.int wd)) (.val (.int z1)) (.val (.int z3)) (.val (.int (k - wd))) (.val (.int z2)) (.val (.int z4)) x13 S) = .ok (t2 X) (bS x y k L x5 F (.val (.int wd)) (.val (.int z1)) (.val (.int z3)) (.val (.int (k - wd))) (.val (.int z2)) (.val (.int z4)) x13 S) := by
      have := lotinit_at (t := bS x y k L x5 F (.val (.int wd)) (.val (.int z1)) (.val (.int z3)) (.val (.int (k - wd))) (.val (.int z2)) (.val (.int z4)) x13 S) n1 n2 n3 n4 (a := eVar 8) (b := eVar 11) (c := eVar 9) (d := eVar 12) rfl rfl rfl rfl
      generalize eMake "Lot" 4 g_LotX_initX (aCons (eVar 8) (aCons (eVar 11) (aCons (eVar 9) (aCons (eVar 12) (aNil))))) = M at *
      simp [this, List.lookup, ea]
    unfold w__law_best_right_0
    refine (if_t (s1 := bS x y k L x5 F (.val (.int wd)) x8 x9 x10 x11 x12 x13 S) (by simp [c0, c1])).trans ?_
    refine (sq_nx s1).trans ((sq_set (d := .int (k - wd)) (by simp)).trans ((sq_nx s2).trans ?_))
    refine (app_e (i := 6) rfl s3 rfl (by simp; omega)).trans ?_
    simp
  · rw [if_neg c, List.append_nil]
    refine ⟨x8, x9, x10, x11, x12, ?_⟩
    unfold w__law_best_right_0
    refine (if_f (s1 := bS x y k L x5 F (.val (.int wd)) x8 x9 x10 x11 x12 x13 S) ?_).trans rfl
    by_cases c0 : 0 ≤ wd
    · have c1 : ¬ wd ≤ k := fun z => c ⟨c0, z⟩
      simp [c0, c1]
    · simp [c0]
theorem bodies {x y k : Int} {L : Int × Int} {x5 x13 : Sl} {S : List Cell} (bx : Bd x 96) (bY : Bd y 96) (bk : Bd k 96) : ∀ (l : List Int) (F : List (Int × Int)) (x7 x8 x9 x10 x11 x12 : Sl), F.length + l.length < 900 →
    ∃ y7 y8 y9 y10 y11 y12, forL (gN 7) w__law_best_right_0 (l.map D.int) (bS x y k L x5 F x7 x8 x9 x10 x11 x12 x13 S) = .ok .nx (bS x y k L x5 (F ++ (l.filter fun wd => decide (0 ≤ wd ∧ wd ≤ k)).map (ex x y k)) y7 y8 y9 y10 y11 y12 x13 S)
  | [], F, x7, x8, x9, x10, x11, x12, _ => ⟨x7, x8, x9, x10, x11, x12, by simp⟩
  | wd :: l, F, x7, x8, x9, x10, x11, x12, h => by
    simp only [List.length_cons] at h
    obtain ⟨y8, y9, y10, y11, y12, e⟩ := body_ok (wd := wd) (L := L) (F := F) (x5 := x5) (x8 := x8) (x9 := x9) (x10 := x10) (x11 := x11) (x12 := x12) (x13 := x13) (S := S) bx bY bk (by omega)
    obtain ⟨z7, z8, z9, z10, z11, z12, e2⟩ := bodies bx bY bk (L := L) (x5 := x5) (x13 := x13) (S := S) l (F ++ (if 0 ≤ wd ∧ wd ≤ k then [ex x y k wd] else [])) (.val (.int wd)) y8 y9 y10 y11 y12 (by
      rw [List.length_append]; split <;> simp <;> omega)
    refine ⟨z7, z8, z9, z10, z11, z12, ?_⟩
    rw [List.map_cons]
    refine (for_1 (i := 7) e).trans (e2.trans ?_)
    have : (F ++ (if 0 ≤ wd ∧ wd ≤ k then [ex x y k wd] else [])) ++ (l.filter fun wd => decide (0 ≤ wd ∧ wd ≤ k)).map (ex x y k) = F ++ ((wd :: l).filter fun wd => decide (0 ≤ wd ∧ wd ≤ k)).map (ex x y k) := by
      by_cases c : 0 ≤ wd ∧ wd ≤ k <;> simp [List.filter_cons, c]
    rw [this]
/-- all within what is told -/
theorem within {x y k wd : Int} (h0 : 0 ≤ wd) (h1 : wd ≤ k) : (ex x y k (asd (ab x) (ab y) k)).1 ≤ (ex x y k wd).1 ∧ (ex x y k wd).2 ≤ (ex x y k (asd (ab x) (ab y) k)).2 := by
  have ha := asd_ok (X := ab x) (Y := ab y) (k := k) (by omega)
  have hb := bs_max (x := ab x) (y := ab y) (k := k) (p := ab x + wd) (q := ab y + (k - wd)) (ab_nonneg x) (ab_nonneg y) (by omega) (by omega) (by omega) (by omega)
  have e : (ab x + asd (ab x) (ab y) k) * (ab y + (k - asd (ab x) (ab y) k)) = (ab x + asd (ab x) (ab y) k) * (ab y + k - asd (ab x) (ab y) k) := by grind
  unfold ex
  dsimp only
  rw [e, ha.2.2]
  omega
theorem told_A {x y k : Int} (hk : 0 ≤ k) : lim x y (ab x + ab y + 2 * k) = some (ex x y k (asd (ab x) (ab y) k)) := by
  have ha := asd_ok (X := ab x) (Y := ab y) (k := k) hk
  have e : (ab x + asd (ab x) (ab y) k) * (ab y + (k - asd (ab x) (ab y) k)) = (ab x + asd (ab x) (ab y) k) * (ab y + k - asd (ab x) (ab y) k) := by grind
  have e1 : ab x + ab y + 2 * k - ab x - ab y = 2 * k := by omega
  have e2 : (2 * k).fdiv 2 = k := by rw [Int.fdiv_eq_ediv_of_nonneg _ (by decide)]; omega
  have e3 : (2 * k).fmod 2 = 0 := by rw [Int.fmod_eq_emod_of_nonneg _ (by decide)]; omega
  unfold lim
  rw [e1, if_neg (by rw [e3]; omega), e2, lo_A, hi_A]
  unfold ex
  rw [e, ha.2.2]
abbrev cS (x y k : Int) (L : Int × Int) (x5 : Sl) (F : List (Int × Int)) (x7 x8 x9 x10 x11 x12 x13 : Sl) (S : List Cell) : DS := ⟨[.val (.cell 0), .val (.int x), .val (.int y), .val (.int k), .val (t2 L), x5, .val (.lst (F.map t2)), x7, x8, x9, x10, x11, x12, x13], S⟩
theorem checks {x y k : Int} {L : Int × Int} {x5 x7 x8 x9 x11 x12 : Sl} {G : List (Int × Int)} {S : List Cell} : ∀ (F : List (Int × Int)) (x10 x13 : Sl), (∀ p ∈ F, L.1 ≤ p.1 ∧ p.2 ≤ L.2) → ∃ y10 y13, forL (gT 2 (gsCons (gN 13) (gsCons (gN 10) (gsNil)))) w__law_best_right_1 (F.map t2) (cS x y k L x5 G x7 x8 x9 x10 x11 x12 x13 S) = .ok .nx (cS x y k L x5 G x7 x8 x9 y10 x11 x12 y13 S)
  | [], x10, x13, _ => ⟨x10, x13, rfl⟩
  | p :: F, x10, x13, h => by
    obtain ⟨h1, h2⟩ := h p (List.mem_cons_self ..)
    obtain ⟨y10, y13, e⟩ := checks (x := x) (y := y) (k := k) (L := L) (x5 := x5) (x7 := x7) (x8 := x8) (x9 := x9) (x11 := x11) (x12 := x12) (G := G) (S := S) F (.val (.int p.2)) (.val (.int p.1)) fun q hq => h q (List.mem_cons_of_mem _ hq)
    refine ⟨y10, y13, ?_⟩
    have c1 : ¬ p.1 < L.1 := by omega
    have c2 : ¬ L.2 < p.2 := by omega
    have e1 : w__law_best_right_1 (cS x y k L x5 G x7 x8 x9 (.val (.int p.2)) x11 x12 (.val (.int p.1)) S) = .ok .nx (cS x y k L x5 G x7 x8 x9 (.val (.int p.2)) x11 x12 (.val (.int p.1)) S) := by
      simp [w__law_best_right_1, c1, c2]
    rw [List.map_cons, r_for_cons]
    simp [e1, e]
theorem in_told {L : Int × Int} {F : List (Int × Int)} (h : L ∈ F) : dIn false (t2 L) (.lst (F.map t2)) = some (.bl true) := by
  have k : plFs (F.map t2) := plFs_map t2 (fun p => by simp [plF, plD, plDs, dpD, dpDs]) F
  rw [dIn_tl _ _ (by simp) k]
  have : ((F.map t2).any fun z => eqPl z (t2 L)) = true := by
    rw [List.any_map, List.any_eq_true]
    exact ⟨L, h, by simp⟩
  rw [this]
theorem best_right_ok {n : Nat} {S : List Cell} (hS : Pen n S) (hn : n + 300 < 2 ^ 18) : ∃ S', g__law_best_right [.cell 0] S = .ok (.bl true) S' ∧ Pen (n + 100) S' := by
  obtain ⟨x, S1, e1, bx, P1⟩ := signed_ok hS (by omega)
  obtain ⟨y, S2, e2, bY, P2⟩ := signed_ok P1 (by omega)
  obtain ⟨k, S3, e3, k0, bk, P3⟩ := great_ok P2 (by omega)
  obtain ⟨d, S4, e4, d0, bd, P4⟩ := great_ok P3 (by omega)
  have bax : Bd (ab x) 96 := bd_ab bx
  have bay : Bd (ab y) 96 := bd_ab bY
  have bN : Bd (ab x + ab y + 2 * k) 4000 := (inferInstance : Bd (ab x + ab y + 2 * k) _).le (by decide)
  have ea := areas_of_ok x y (ab x + ab y + 2 * k) S3 (bx.le (by decide)) (bY.le (by decide)) bN
  rw [told_A k0] at ea
  have ha := asd_ok (X := ab x) (Y := ab y) (k := k) k0
  have hw := fun wd h0 h1 => within (x := x) (y := y) (k := k) (wd := wd) h0 h1
  have ax : (if x < 0 then -x else x) = ab x := rfl
  have ay : (if y < 0 then -y else y) = ab y := rfl
  have m1 : mulOk 2 k = true := mulOk_bd (by decide)
  have nx := ab_nonneg x
  have ny := ab_nonneg y
  have hN : 0 ≤ ab x + ab y + 2 * k := by omega
  have ega : g_areas [.int x, .int y, .int (ab x + ab y + 2 * k)] S3 = .ok (t2 (ex x y k (asd (ab x) (ab y) k))) S3 := by
    have ea' : g_areas_of [.int x, .int y, .int (ab x + ab y + 2 * k)] S3 = .ok (t2 (ex x y k (asd (ab x) (ab y) k))) S3 := ea
    generalize ex x y k (asd (ab x) (ab y) k) = L at *
    generalize ab x + ab y + 2 * k = N at *
    simp [g_areas, b_areas, w_areas_0, fnD, hN, ea']
  have b1 : Bd (k + 1) 100 := (inferInstance : Bd (k + 1) _).le (by decide)
  have dv : divOk (k + 1) = true := divOk_of b1 (by omega) (by decide)
  have nz : k + 1 ≠ 0 := by omega
  obtain ⟨y7, y8, y9, y10, y11, y12, eb⟩ := bodies (L := ex x y k (asd (ab x) (ab y) k)) (x5 := .val (.int (asd (ab x) (ab y) k))) (x13 := .un) (S := S4) bx bY bk [asd (ab x) (ab y) k, asd (ab x) (ab y) k + 1, 0, k, d.fmod (k + 1)] [] .un .un .un .un .un .un (by simp)
  have hin : ex x y k (asd (ab x) (ab y) k) ∈ ([asd (ab x) (ab y) k, asd (ab x) (ab y) k + 1, 0, k, d.fmod (k + 1)].filter fun wd => decide (0 ≤ wd ∧ wd ≤ k)).map (ex x y k) := by
    rw [List.mem_map]
    exact ⟨_, by rw [List.mem_filter]; exact ⟨by simp, by simp [ha.1, ha.2.1]⟩, rfl⟩
  have hall : ∀ p ∈ ([asd (ab x) (ab y) k, asd (ab x) (ab y) k + 1, 0, k, d.fmod (k + 1)].filter fun wd => decide (0 ≤ wd ∧ wd ≤ k)).map (ex x y k), (ex x y k (asd (ab x) (ab y) k)).1 ≤ p.1 ∧ p.2 ≤ (ex x y k (asd (ab x) (ab y) k)).2 := fun p hp => by
    obtain ⟨wd, h1, rfl⟩ := List.mem_map.mp hp
    have := (List.mem_filter.mp h1).2
    simp at this
    exact hw wd this.1 this.2
  rw [List.nil_append] at eb
  generalize hFF : ([asd (ab x) (ab y) k, asd (ab x) (ab y) k + 1, 0, k, d.fmod (k + 1)].filter fun wd => decide (0 ≤ wd ∧ wd ≤ k)).map (ex x y k) = F at *
  have hasd : asd (ab x) (ab y) k = (if (k + ab y - ab x).fdiv 2 < 0 then 0 else if k < (k + ab y - ab x).fdiv 2 then k else (k + ab y - ab x).fdiv 2) := rfl
  generalize ex x y k (asd (ab x) (ab y) k) = L at *
  obtain ⟨z10, z13, ec⟩ := checks (x := x) (y := y) (k := k) (L := L) (x5 := .val (.int (asd (ab x) (ab y) k))) (x7 := y7) (x8 := y8) (x9 := y9) (x11 := y11) (x12 := y12) (G := F) (S := S4) F y10 .un hall
  have di := in_told hin
  refine ⟨S4, ?_, P4.mono (by omega)⟩
  generalize hA : asd (ab x) (ab y) k = A at *
  unfold g__law_best_right b__law_best_right
  refine fn_rt (sl := (cS x y k L (.val (.int A)) F y7 y8 y9 z10 y11 y12 z13 S4).sl) rfl ?_
  refine (sq_nx (s1 := ⟨[.val (.cell 0), .val (.int x), .val (.int y), .val (.int k), .un, .un, .un, .un, .un, .un, .un, .un, .un, .un], S3⟩) (by simp [e1, e2, e3])).trans ?_
  refine (sq_set (d := t2 L) ((call_c3 (a := eVar 1) (b := eVar 2) (z := .int (ab x + ab y + 2 * k)) rfl rfl (by simp [ax, ay, m1]) ega).trans rfl)).trans ?_
  refine (sq_set (d := .int ((k + ab y - ab x).fdiv 2)) (by simp [ax, ay])).trans ?_
  refine (sq_set (d := .int A) ?_).trans ?_
  · rw [hasd]
    generalize (k + ab y - ab x).fdiv 2 = q at *
    by_cases q1 : q < 0
    · simp [q1]
    · by_cases q2 : k < q
      · simp [q1, q2]
      · simp [q1, q2]
  refine (sq_nx (s1 := bS x y k L (.val (.int A)) [] .un .un .un .un .un .un .un S3) (by simp)).trans ?_
  refine (sq_nx (for_it (s1 := bS x y k L (.val (.int A)) [] .un .un .un .un .un .un .un S4) (xs := [A, A + 1, 0, k, d.fmod (k + 1)].map D.int) ?_ eb)).trans ?_
  · generalize hdm : d.fmod (k + 1) = dm at *
    simp [e4, dv, nz, hdm]
  refine (sq_nx (for_it (s1 := cS x y k L (.val (.int A)) F y7 y8 y9 y10 y11 y12 .un S4) (xs := F.map t2) (by simp) ec)).trans ?_
  exact ret_e (op_2 (a := eVar 4) (b := eVar 6) rfl rfl di)
end W_k54
set_option maxRecDepth 100000
set_option maxHeartbeats 4000000
set_option exponentiation.threshold 4000
namespace W_k54
open DL ST
/-! ### the lap -/
theorem lot_ok {n : Nat} {S : List Cell} (hS : Pen n S) (hn : n + 200 < 2 ^ 20) : ∃ e nn w s S', g__law_lot [.cell 0] S = .ok (lotD e nn w s) S' ∧ LB e nn w s ∧ Pen (n + 50) S' := by
  have hi : itR1 (aCons (eC (.int 4)) (aNil)) ⟨[.val (.cell 0), .un], S⟩ = .ok ((List.range 4).map kD) ⟨[.val (.cell 0), .un], S⟩ := itR1_n rfl (by decide)
  obtain ⟨ys, S', e2, l, rfl, rl, rb, rP⟩ := aLc_inv (vs := [1]) (g := gN 1) (e := e__law_lot_0) (fun i acc S => ∃ l : List Int, acc = l.map D.int ∧ l.length = i ∧ (∀ z ∈ l, 0 ≤ z ∧ Bd z 96) ∧ Pen (n + 10 * i) S) hi ⟨[], rfl, rfl, fun _ h => (nomatch h), hS⟩ (fun i d acc S2 hd ⟨l, h1, h2, h3, h4⟩ => by
    have hil : i < 4 := by
      have := (List.getElem?_eq_some_iff.mp hd).1
      simpa using this
    obtain ⟨t, S3, e3, t0, t1, P3⟩ := draw_ok h4 (by omega) (p := 5) (by decide) (by decide)
    have done : ∀ (z : Int) (S4 : List Cell), e__law_lot_0 ⟨[.val (.cell 0), .val d], S2⟩ = .ok (.int z) ⟨[.val (.cell 0), .val d], S4⟩ → 0 ≤ z → Bd z 96 → Pen (n + 10 * (i + 1)) S4 → ∃ s1 y s3, gN 1 d ⟨wipeD [1] [.val (.cell 0), .un], S2⟩ = .ok () s1 ∧ e__law_lot_0 s1 = .ok y s3 ∧ wipeD [1] s3.sl = wipeD [1] [.val (.cell 0), .un] ∧ (∃ l : List Int, acc ++ [y] = l.map D.int ∧ l.length = i + 1 ∧ (∀ z ∈ l, 0 ≤ z ∧ Bd z 96) ∧ Pen (n + 10 * (i + 1)) s3.st) := fun z S4 ez z0 bz P4 => by
      refine ⟨⟨[.val (.cell 0), .val d], S2⟩, .int z, ⟨[.val (.cell 0), .val d], S4⟩, by simp, ez, by simp, l ++ [z], ?_, ?_, ?_, P4⟩
      · rw [h1]; simp
      · simp [h2]
      · intro q hq
        rcases List.mem_append.mp hq with k | k
        · exact h3 q k
        · simp at k; subst k; exact ⟨z0, bz⟩
    by_cases c : t = 0
    · exact done 0 S3 (by simp [e__law_lot_0, e3, c]) (by decide) ⟨by decide⟩ (P3.mono (by omega))
    · obtain ⟨z, S4, e4, z0, bz, P4⟩ := great_ok P3 (by omega)
      exact done z S4 (by simp [e__law_lot_0, e3, c, e4]) z0 bz (P4.mono (by omega))) (by simp)
  simp at rl
  obtain ⟨a, b, c, d, rfl⟩ : ∃ a b c d, l = [a, b, c, d] := by
    match l, rl with
    | [a, b, c, d], _ => exact ⟨a, b, c, d, rfl⟩
  have ha := rb a (by simp)
  have hb := rb b (by simp)
  have hc := rb c (by simp)
  have hd := rb d (by simp)
  refine ⟨a, b, c, d, S', ?_, ⟨ha.1, hb.1, hc.1, hd.1, ha.2, hb.2, hc.2, hd.2⟩, rP.mono (by simp)⟩
  unfold g__law_lot b__law_lot
  exact fn_rt rfl (ret_e (frz_e (e2.trans rfl)))
theorem bd_hi {e n w s : Int} (h : LB e n w s) : Bd (hiL e n w s) 400 := by
  obtain ⟨e0, n0, w0, s0, be, bn, bw, bs⟩ := h
  have h1 := hi_four e0 n0 w0 s0
  have h2 := hi_nn e0 n0 w0 s0
  have b : Bd (e * n + w * s) 400 := (inferInstance : Bd (e * n + w * s) _).le (by decide)
  have k1 := pr_pos w0 n0
  have k2 := pr_pos e0 s0
  have k3 := pr_pos e0 n0
  have k4 := pr_pos w0 s0
  exact b.of_le h2 (by omega)
abbrev lS (x0 x2 x3 x4 x5 x6 x7 x8 x9 x10 x11 x12 x13 x14 : Sl) (S : List Cell) : DS := ⟨[x0, .val (.cell 0), x2, x3, x4, x5, x6, x7, x8, x9, x10, x11, x12, x13, x14], S⟩
section
variable {x0 x2 x11 x12 x13 x14 : Sl} {e n w s : Int} {S : List Cell}
abbrev mS (x0 x2 : Sl) (e n w s : Int) (x11 x12 x13 x14 : Sl) (S : List Cell) : DS := lS x0 x2 (.val (lotD e n w s)) (.val (.int e)) (.val (.int n)) (.val (.int w)) (.val (.int s)) (.val (ltD e n w s)) (.val (.int (loL e n w s))) (.val (.int (hiL e n w s))) x11 x12 x13 x14 S
theorem area_e (h : LB e n w s) {a : Int} (h0 : loL e n w s ≤ a) (h1 : a ≤ hiL e n w s) : w_law_0 (mS x0 x2 e n w s (.val (.int a)) x12 x13 x14 S) = .ok .nx (mS x0 x2 e n w s (.val (.int a)) x12 x13 x14 S) := by
  unfold w_law_0
  exact (if_f (not_e (b := true) (tru_e (call_c3 (a := eVar 8) (b := eVar 3) (c := eVar 11) rfl rfl rfl (walked_ok h h0 h1 S))))).trans rfl
theorem areas_e (h : LB e n w s) : ∀ (l : List Int) (x11 : Sl), (∀ a ∈ l, loL e n w s ≤ a ∧ a ≤ hiL e n w s) → ∃ y11, forL (gN 11) w_law_0 (l.map D.int) (mS x0 x2 e n w s x11 x12 x13 x14 S) = .ok .nx (mS x0 x2 e n w s y11 x12 x13 x14 S)
  | [], x11, _ => ⟨x11, rfl⟩
  | a :: l, x11, hl => by
    obtain ⟨h0, h1⟩ := hl a (List.mem_cons_self ..)
    obtain ⟨y, e2⟩ := areas_e h l (.val (.int a)) fun z hz => hl z (List.mem_cons_of_mem _ hz)
    refine ⟨y, ?_⟩
    rw [List.map_cons]
    exact (for_1 (i := 11) (area_e h h0 h1)).trans e2
theorem runs_e (h : LB e n w s) {m : Nat} (hS : Pen m S) (hm : m + 600 < 2 ^ 18) : ∃ y13 y14 S', w_law_1 (mS x0 x2 e n w s x11 x12 x13 x14 S) = .ok .nx (mS x0 x2 e n w s x11 x12 y13 y14 S') ∧ Pen (m + 200) S' := by
  obtain ⟨r, S', e1, g, hl, c1, c2, c3, c4, P'⟩ := parted_ok h hS (by omega)
  have hb : Bd (len r) 500 := by
    rw [len_cn g, c1, c2, c3, c4]
    have := h.be; have := h.bn; have := h.bw; have := h.bs
    exact (inferInstance : Bd (e + n + w + s) _).le (by decide)
  have e2 := led_ok (.lst (rD r)) r S' rfl g hb (by decide)
  obtain ⟨px, py, h0, h1⟩ := in_lot g
  rw [c1, c3] at px
  rw [c2, c4] at py
  rw [c1, c2, c3, c4] at h0 h1
  have ew := walked_ok h h0 h1 S'
  have ee := ends_ok e n w s S'
  generalize led home r = p at *
  refine ⟨.val (.lst (rD r)), .val (spD p), S', ?_, P'⟩
  generalize hL : rD r = R at *
  generalize hlo : loL e n w s = lo at *
  generalize hhi : hiL e n w s = hi at *
  have z : ∀ y13 y14, mS x0 x2 e n w s x11 x12 y13 y14 S' = lS x0 x2 (.val (lotD e n w s)) (.val (.int e)) (.val (.int n)) (.val (.int w)) (.val (.int s)) (.val (ltD e n w s)) (.val (.int lo)) (.val (.int hi)) x11 x12 y13 y14 S' := fun y13 y14 => by rw [← hlo, ← hhi]
  have zS : ∀ y13 y14, mS x0 x2 e n w s x11 x12 y13 y14 S = lS x0 x2 (.val (lotD e n w s)) (.val (.int e)) (.val (.int n)) (.val (.int w)) (.val (.int s)) (.val (ltD e n w s)) (.val (.int lo)) (.val (.int hi)) x11 x12 y13 y14 S := fun y13 y14 => by rw [← hlo, ← hhi]
  rw [z, zS]
  unfold w_law_1
  refine (sq_nx ((set_c2 (a := eVar 1) (b := eVar 3) rfl rfl e1).trans rfl)).trans ((sq_nx ((set_c1 (a := eVar 13) rfl e2).trans rfl)).trans ?_)
  refine (if_f (s1 := lS x0 x2 (.val (lotD e n w s)) (.val (.int e)) (.val (.int n)) (.val (.int w)) (.val (.int s)) (.val (ltD e n w s)) (.val (.int lo)) (.val (.int hi)) x11 x12 (.val (.lst R)) (.val (spD p)) S') ?_).trans rfl
  refine (or_f (s1 := lS x0 x2 (.val (lotD e n w s)) (.val (.int e)) (.val (.int n)) (.val (.int w)) (.val (.int s)) (.val (ltD e n w s)) (.val (.int lo)) (.val (.int hi)) x11 x12 (.val (.lst R)) (.val (spD p)) S') ?_).trans ((or_f (s1 := lS x0 x2 (.val (lotD e n w s)) (.val (.int e)) (.val (.int n)) (.val (.int w)) (.val (.int s)) (.val (ltD e n w s)) (.val (.int lo)) (.val (.int hi)) x11 x12 (.val (.lst R)) (.val (spD p)) S') ?_).trans (not_e (b := true) (tru_e ?_)))
  · refine not_e (b := true) ?_
    simp [h0, h1]
  · refine eB_of (op_2 (x := .tup [.int (e - w), .int (n - s)]) (y := .tup [.int (e - w), .int (n - s)]) (s1 := lS x0 x2 (.val (lotD e n w s)) (.val (.int e)) (.val (.int n)) (.val (.int w)) (.val (.int s)) (.val (ltD e n w s)) (.val (.int lo)) (.val (.int hi)) x11 x12 (.val (.lst R)) (.val (spD p)) S') ?_ ?_ (by simp))
    · simp [ee, List.lookup]
    · rw [← px, ← py]
      rfl
  · refine (call_c3 (a := eVar 8) (b := eVar 3) (z := .int p.a) rfl rfl ?_ ew).trans rfl
    simp
end
theorem lap_ok {m : Nat} {S : List Cell} {x0 x2 x3 x4 x5 x6 x7 x8 x9 x10 x11 x12 x13 x14 : Sl} (hS : Pen m S) (hm : m + 3000 < 2 ^ 18) : ∃ y3 y4 y5 y6 y7 y8 y9 y10 y11 y12 y13 y14 S', w_law_2 (lS x0 x2 x3 x4 x5 x6 x7 x8 x9 x10 x11 x12 x13 x14 S) = .ok .nx (lS x0 x2 y3 y4 y5 y6 y7 y8 y9 y10 y11 y12 y13 y14 S') ∧ Pen (m + 2000) S' := by
  obtain ⟨e, n, w, s, S1, e1, h, P1⟩ := lot_ok hS (by omega)
  obtain ⟨d1, S2, e2, d10, bd1, P2⟩ := great_ok P1 (by omega)
  obtain ⟨d2, S3, e3, d20, bd2, P3⟩ := great_ok P2 (by omega)
  obtain ⟨d3, S4, e4, d30, bd3, P4⟩ := great_ok P3 (by omega)
  have gr := greatest_ok h S1
  have gl := greatest_ok h.mir S1
  have ea := areas_ok (h.be.le (show 96 ≤ 1500 by decide)) (h.bn.le (show 96 ≤ 1500 by decide)) (h.bw.le (show 96 ≤ 1500 by decide)) (h.bs.le (show 96 ≤ 1500 by decide)) S1
  have bh := bd_hi h
  have bl : Bd (loL e n w s) 400 := by rw [lo_hi]; exact @bd_neg _ _ (bd_hi h.mir)
  have hn0 := hi_nn h.e0 h.n0 h.w0 h.s0
  have ln0 : loL e n w s ≤ 0 := by rw [lo_hi]; have := hi_nn h.w0 h.n0 h.e0 h.s0; omega
  have li := lotinit_at (t := lS x0 x2 (.val (lotD e n w s)) (.val (.int e)) (.val (.int n)) (.val (.int w)) (.val (.int s)) x8 x9 x10 x11 x12 x13 x14 S1) h.e0 h.n0 h.w0 h.s0 (a := eVar 4) (b := eVar 5) (c := eVar 6) (d := eVar 7) rfl rfl rfl rfl
  have n1 := with_none (a := loL e n w s - 1) (h.be.le (show 96 ≤ 1500 by decide)) (h.bn.le (show 96 ≤ 1500 by decide)) (h.bw.le (show 96 ≤ 1500 by decide)) (h.bs.le (show 96 ≤ 1500 by decide)) (.inl (by omega)) S3
  have n2 := with_none (a := hiL e n w s + 1 + d3) (h.be.le (show 96 ≤ 1500 by decide)) (h.bn.le (show 96 ≤ 1500 by decide)) (h.bw.le (show 96 ≤ 1500 by decide)) (h.bs.le (show 96 ≤ 1500 by decide)) (.inr (by omega)) S4
  have bs1 : Bd (hiL e n w s - loL e n w s + 1) 900 := (inferInstance : Bd (hiL e n w s - loL e n w s + 1) _).le (by decide)
  have dv : divOk (hiL e n w s - loL e n w s + 1) = true := divOk_of bs1 (by omega) (by decide)
  have nz : hiL e n w s - loL e n w s + 1 ≠ 0 := by omega
  have f1 := Int.fmod_nonneg_of_pos d1 (show 0 < hiL e n w s - loL e n w s + 1 by omega)
  have f2 := Int.fmod_lt_of_pos d1 (show 0 < hiL e n w s - loL e n w s + 1 by omega)
  have f3 := Int.fmod_nonneg_of_pos d2 (show 0 < hiL e n w s - loL e n w s + 1 by omega)
  have f4 := Int.fmod_lt_of_pos d2 (show 0 < hiL e n w s - loL e n w s + 1 by omega)
  obtain ⟨y11, e5⟩ := areas_e (x0 := x0) (x2 := x2) (x12 := x12) (x13 := x13) (x14 := x14) (S := S3) h [loL e n w s, hiL e n w s, loL e n w s + d1.fmod (hiL e n w s - loL e n w s + 1), hiL e n w s - d2.fmod (hiL e n w s - loL e n w s + 1), 0] x11 (fun a ha => by
    simp only [List.mem_cons, List.not_mem_nil, or_false] at ha
    omega)
  obtain ⟨s', e6, ⟨y12, y13, y14, hs⟩, hP⟩ := for_inv (g := gN 12) (b := w_law_1) (items := (List.range 4).map kD) (s := mS x0 x2 e n w s y11 x12 x13 x14 S4)
    (fun i z => (∃ y12 y13 y14, z.sl = (mS x0 x2 e n w s y11 y12 y13 y14 S4).sl) ∧ Pen (m + 50 + 8 + 8 + 8 + 200 * i) z.st) ⟨⟨_, _, _, rfl⟩, P4⟩ (fun i d z hi hp => by
      obtain ⟨⟨y12, y13, y14, hs⟩, hP⟩ := hp
      obtain ⟨sl, st⟩ := z
      simp only at hs hP
      subst hs
      have hi4 : i < 4 := by
        have := (List.getElem?_eq_some_iff.mp hi).1
        simpa using this
      obtain ⟨z13, z14, S', e, P'⟩ := runs_e (x0 := x0) (x2 := x2) (x11 := y11) (x12 := .val d) (x13 := y13) (x14 := y14) h hP (by omega)
      exact ⟨_, _, rfl, .inl e, ⟨_, z13, z14, rfl⟩, P'.mono (by omega)⟩)
  obtain ⟨sl, st⟩ := s'
  simp only at hs hP
  subst hs
  obtain ⟨S6, e7, P6⟩ := best_right_ok hP (by simp; omega)
  refine ⟨.val (lotD e n w s), .val (.int e), .val (.int n), .val (.int w), .val (.int s), .val (ltD e n w s), .val (.int (loL e n w s)), .val (.int (hiL e n w s)), y11, y12, y13, y14, S6, ?_, P6.mono (by simp)⟩
  have gl' : g__law_greatest [lotD w n e s] S1 = .ok (.int (-loL e n w s)) S1 := by rw [gl, lo_hi, Int.neg_neg]
  generalize hlo : loL e n w s = lo at *
  generalize hhi : hiL e n w s = hi at *
  have zM : ∀ x11 x12 x13 x14 S, mS x0 x2 e n w s x11 x12 x13 x14 S = lS x0 x2 (.val (lotD e n w s)) (.val (.int e)) (.val (.int n)) (.val (.int w)) (.val (.int s)) (.val (ltD e n w s)) (.val (.int lo)) (.val (.int hi)) x11 x12 x13 x14 S := fun x11 x12 x13 x14 S => by rw [← hlo, ← hhi]
  rw [zM, zM] at e5
  rw [zM] at e6
  unfold w_law_2
  refine (sq_nx ((set_c1 (a := eVar 1) rfl e1).trans rfl)).trans ?_
  refine (sq_nx (asg_t (d := lotD e n w s) (s1 := lS x0 x2 (.val (lotD e n w s)) x4 x5 x6 x7 x8 x9 x10 x11 x12 x13 x14 S1) (s2 := lS x0 x2 (.val (lotD e n w s)) (.val (.int e)) (.val (.int n)) (.val (.int w)) (.val (.int s)) x8 x9 x10 x11 x12 x13 x14 S1) rfl (by simp))).trans ?_
  refine (sq_set li).trans ?_
  refine (sq_nx (asg_t (d := .tup [.int lo, .int hi]) (s1 := lS x0 x2 (.val (lotD e n w s)) (.val (.int e)) (.val (.int n)) (.val (.int w)) (.val (.int s)) (.val (ltD e n w s)) x9 x10 x11 x12 x13 x14 S1) (s2 := lS x0 x2 (.val (lotD e n w s)) (.val (.int e)) (.val (.int n)) (.val (.int w)) (.val (.int s)) (.val (ltD e n w s)) (.val (.int lo)) (.val (.int hi)) x11 x12 x13 x14 S1) (by simp [List.lookup, ea]) (by simp))).trans ?_
  refine (sq_if_f ((or_f (s1 := lS x0 x2 (.val (lotD e n w s)) (.val (.int e)) (.val (.int n)) (.val (.int w)) (.val (.int s)) (.val (ltD e n w s)) (.val (.int lo)) (.val (.int hi)) x11 x12 x13 x14 S1) (eB_of (op_2 (a := eVar 10) (x := .int hi) (y := .int hi) rfl ((call_c1 (a := eVar 3) rfl gr).trans rfl) (by simp)))).trans (eB_of (op_2 (x := .int (-lo)) (y := .int (-lo)) (neg_e (f := eVar 9) rfl) ((call_c1 (a := eFrz (aMax (aCons (eVar 6) (aCons (eVar 5) (aCons (eVar 4) (aCons (eVar 7) (aNil))))))) (frz_e (xs := [.int w, .int n, .int e, .int s]) (by simp)) gl').trans rfl) (by simp))))).trans ?_
  refine (sq_nx (for_it (s1 := lS x0 x2 (.val (lotD e n w s)) (.val (.int e)) (.val (.int n)) (.val (.int w)) (.val (.int s)) (.val (ltD e n w s)) (.val (.int lo)) (.val (.int hi)) x11 x12 x13 x14 S3) (xs := [lo, hi, lo + d1.fmod (hi - lo + 1), hi - d2.fmod (hi - lo + 1), 0].map D.int) ?_ e5)).trans ?_
  · generalize hd1 : d1.fmod (hi - lo + 1) = r1 at *
    generalize hd2 : d2.fmod (hi - lo + 1) = r2 at *
    simp [e2, e3, dv, nz, hd1, hd2]
  refine (sq_if_f (s1 := lS x0 x2 (.val (lotD e n w s)) (.val (.int e)) (.val (.int n)) (.val (.int w)) (.val (.int s)) (.val (ltD e n w s)) (.val (.int lo)) (.val (.int hi)) y11 x12 x13 x14 S4) ?_).trans ?_
  · refine (or_f (s1 := lS x0 x2 (.val (lotD e n w s)) (.val (.int e)) (.val (.int n)) (.val (.int w)) (.val (.int s)) (.val (ltD e n w s)) (.val (.int lo)) (.val (.int hi)) y11 x12 x13 x14 S3) ?_).trans ?_
    · simp [List.lookup, n1]
    · simp [List.lookup, e4, n2]
  refine (sq_nx (for_it (itR1_n rfl (by decide)) e6)).trans ?_
  exact (if_f (not_e (b := true) (tru_e (call_c1 (a := eVar 1) rfl e7)))).trans rfl
theorem law_ok : ∀ ns : List Int, ns.length ≤ 63 → (∀ z ∈ ns, PySem.Builtin.Int.intBits z ≤ 1048576) → ∃ S, g_law [.scr (ns.map D.int)] [] = .ok (.bl true) S := by
  intro ns hl _
  obtain ⟨S0, e0, P0⟩ := begin_ok ns
  have hm : ∃ m : Nat, (3 + (if (ns.length : Int) < 3 then (ns.length : Int) else 3)) = (m : Int) ∧ m ≤ 6 := by
    by_cases c : (ns.length : Int) < 3
    · rw [if_pos c]; exact ⟨3 + ns.length, by omega, by omega⟩
    · rw [if_neg c]; exact ⟨6, rfl, by omega⟩
  obtain ⟨m, hm1, hm2⟩ := hm
  obtain ⟨s', e2, ⟨y2, y3, y4, y5, y6, y7, y8, y9, y10, y11, y12, y13, y14, hs⟩, hP⟩ := for_inv (g := gN 2) (b := w_law_2) (items := (List.range m).map kD) (s := lS (.val (.scr (ns.map D.int))) .un .un .un .un .un .un .un .un .un .un .un .un .un S0)
    (fun i s => (∃ y2 y3 y4 y5 y6 y7 y8 y9 y10 y11 y12 y13 y14, s.sl = (lS (.val (.scr (ns.map D.int))) y2 y3 y4 y5 y6 y7 y8 y9 y10 y11 y12 y13 y14 S0).sl) ∧ Pen (2000 * i) s.st)
    ⟨⟨_, _, _, _, _, _, _, _, _, _, _, _, _, rfl⟩, P0⟩ (fun i d s hi hp => by
      obtain ⟨⟨y2, y3, y4, y5, y6, y7, y8, y9, y10, y11, y12, y13, y14, hs⟩, hP⟩ := hp
      obtain ⟨sl, st⟩ := s
      simp only at hs hP
      subst hs
      have hi1 : i < m := by
        have := (List.getElem?_eq_some_iff.mp hi).1
        simpa using this
      obtain ⟨z3, z4, z5, z6, z7, z8, z9, z10, z11, z12, z13, z14, S2, e, P2⟩ := lap_ok (x0 := .val (.scr (ns.map D.int))) (x2 := .val d) (x3 := y3) (x4 := y4) (x5 := y5) (x6 := y6) (x7 := y7) (x8 := y8) (x9 := y9) (x10 := y10) (x11 := y11) (x12 := y12) (x13 := y13) (x14 := y14) hP (by omega)
      exact ⟨_, _, rfl, .inl e, ⟨_, _, _, _, _, _, _, _, _, _, _, _, _, rfl⟩, P2.mono (by omega)⟩)
  obtain ⟨sl, st⟩ := s'
  simp only at hs hP
  subst hs
  have hi : itR1 (aCons (eOp2 dAdd (eC (.int 3)) (eCB (bMin2) (aCons (eC (.int 3)) (aCons (eCB (bLen) (aCons (eVar 0) (aNil))) (aNil))))) (aNil)) (lS (.val (.scr (ns.map D.int))) .un .un .un .un .un .un .un .un .un .un .un .un .un S0) = .ok ((List.range m).map kD) (lS (.val (.scr (ns.map D.int))) .un .un .un .un .un .un .un .un .un .un .un .un .un S0) :=
    itR1_n (by simp [bLen, hm1]) (by omega)
  refine ⟨st, fn_rt rfl ((sq_nx (set_c1 (a := eVar 0) rfl e0)).trans ((sq_nx (for_it hi e2)).trans (ret_e rfl)))⟩
end W_k54
open PySem PySem.W PyProof.Rows
set_option maxRecDepth 100000 in
set_option maxHeartbeats 0 in
theorem PySem.Challenge.cw_areawalks_k54_whole_far_lots_holds : PySem.Challenge.rw_areawalks_k54_whole_far_lots.Holds := by
  w_on; o_law; k_head; (case hw => w_witness2)
  k_fill
  refine DL.walk_ofD (l := PySem.Challenge.rw_areawalks_k54_whole_far_lots) (n := 63) (k := 15) (x := "_law_script") (CX := fun w => L2.CX PySem.Challenge.rw_areawalks_k54_whole_far_lots.prog w) rfl (by decide) rfl ⟨rfl, by decide, by decide⟩ (fun w h Y => PySem.W.kIn_of Y) ?F (fun w => DL.noCX)
  case F =>
    intro w mg fa h KX G hmg TT
    refine' W_k54.all_mk KX G hmg TT ?aC_Place ?cB_Place ?aC_Walk ?cB_Walk ?aC_Lot ?cB_Lot ?cc_Place_Walk ?cc_Place_Lot ?cc_Walk_Place ?cc_Walk_Lot ?cc_Lot_Place ?cc_Lot_Walk ?aC_BadNumber ?xl_BadNumber ?xr_BadNumber ?xi_BadNumber ?xf_BadNumber ?xc_BadNumber ?xd_BadNumber ?xv_BadNumber ?xe_BadNumber ?xk_BadNumber ?xB_BadNumber ?aC_BadWord ?xl_BadWord ?xr_BadWord ?xi_BadWord ?xf_BadWord ?xc_BadWord ?xd_BadWord ?xv_BadWord ?xe_BadWord ?xk_BadWord ?xB_BadWord ?xtop ?xsup ?a1_is_integer ?l1_is_integer ?c1_is_integer ?k1_is_integer ?a1_is_whole ?l1_is_whole ?c1_is_whole ?k1_is_whole ?a1_LotX_initX ?i1_LotX_initX ?l1_LotX_initX ?c1_LotX_initX ?k1_LotX_initX ?a1_Lot_ends ?i1_Lot_ends ?l1_Lot_ends ?c1_Lot_ends ?k1_Lot_ends ?a1_Lot_swept_areas ?i1_Lot_swept_areas ?l1_Lot_swept_areas ?c1_Lot_swept_areas ?k1_Lot_swept_areas ?a1_merged ?l1_merged ?c1_merged ?k1_merged ?a1_is_list ?l1_is_list ?c1_is_list ?k1_is_list ?a1_is_pair ?l1_is_pair ?c1_is_pair ?k1_is_pair ?a1_pairs_told ?l1_pairs_told ?c1_pairs_told ?k1_pairs_told ?a1_WalkX_initX ?i1_WalkX_initX ?l1_WalkX_initX ?c1_WalkX_initX ?k1_WalkX_initX ?a1_falling_pairs ?l1_falling_pairs ?c1_falling_pairs ?k1_falling_pairs ?a1_rising_pairs ?l1_rising_pairs ?c1_rising_pairs ?k1_rising_pairs ?a1_swept_pairs ?l1_swept_pairs ?c1_swept_pairs ?k1_swept_pairs ?a1_Lot_walk_with ?i1_Lot_walk_with ?l1_Lot_walk_with ?c1_Lot_walk_with ?k1_Lot_walk_with ?a1__law_begin ?l1__law_begin ?c1__law_begin ?k1__law_begin ?a1__law_draw ?l1__law_draw ?c1__law_draw ?k1__law_draw ?a1__law_number ?l1__law_number ?c1__law_number ?k1__law_number ?a1__law_great ?l1__law_great ?c1__law_great ?k1__law_great ?a1__law_pick ?l1__law_pick ?c1__law_pick ?k1__law_pick ?a1__law_signed ?l1__law_signed ?c1__law_signed ?k1__law_signed ?a1_best_sides ?l1_best_sides ?c1_best_sides ?k1_best_sides ?a1_areas_of ?l1_areas_of ?c1_areas_of ?k1_areas_of ?a1_areas ?l1_areas ?c1_areas ?k1_areas ?a1__law_best_right ?l1__law_best_right ?c1__law_best_right ?k1__law_best_right ?a1__law_step ?l1__law_step ?c1__law_step ?k1__law_step ?a1__law_led ?l1__law_led ?c1__law_led ?k1__law_led ?a1__law_greatest ?l1__law_greatest ?c1__law_greatest ?k1__law_greatest ?a1_PlaceX_initX ?i1_PlaceX_initX ?l1_PlaceX_initX ?c1_PlaceX_initX ?k1_PlaceX_initX ?a1_gone_on ?l1_gone_on ?c1_gone_on ?k1_gone_on ?a1_Walk_spots ?i1_Walk_spots ?l1_Walk_spots ?c1_Walk_spots ?k1_Walk_spots ?a1_Walk_place ?i1_Walk_place ?l1_Walk_place ?c1_Walk_place ?k1_Walk_place ?a1__law_counts ?l1__law_counts ?c1__law_counts ?k1__law_counts ?a1__law_is_walked ?l1__law_is_walked ?c1__law_is_walked ?k1__law_is_walked ?a1__law_lot ?l1__law_lot ?c1__law_lot ?k1__law_lot ?a1__law_shuffled ?l1__law_shuffled ?c1__law_shuffled ?k1__law_shuffled ?a1__law_parted ?l1__law_parted ?c1__law_parted ?k1__law_parted ?a1_law ?l1_law ?c1_law ?k1_law ?z1_abs ?z1_all ?z1_bool ?z1_divmod ?z1_int ?z1_isinstance ?z1_len ?z1_list ?z1_max ?z1_min ?z1_range ?z1_sorted ?z1_str ?z1_sum ?z1_tuple ?k0_MIRRORED ?kda_MIRRORED ?kdb_MIRRORED ?kdc_MIRRORED ?k0_TURNED ?kda_TURNED ?kdb_TURNED ?kdc_TURNED ?k0_LETTERS ?kx_LETTERS ?k0_MOST_LETTERS ?kx_MOST_LETTERS ?k0_MOST_RUNS ?kx_MOST_RUNS W_k54.law_ok
    (case aC_Place => k_is)
    (case cB_Place => kernel_rfl)
    (case aC_Walk => k_is)
    (case cB_Walk => kernel_rfl)
    (case aC_Lot => k_is)
    (case cB_Lot => kernel_rfl)
    (case cc_Place_Walk => kernel_rfl)
    (case cc_Place_Lot => kernel_rfl)
    (case cc_Walk_Place => kernel_rfl)
    (case cc_Walk_Lot => kernel_rfl)
    (case cc_Lot_Place => kernel_rfl)
    (case cc_Lot_Walk => kernel_rfl)
    (case aC_BadNumber => k_is)
    (case xl_BadNumber => k_is)
    (case xr_BadNumber => kernel_rfl)
    (case xi_BadNumber => k_is)
    (case xf_BadNumber => k_is)
    (case xc_BadNumber => k_is)
    (case xd_BadNumber => k_is)
    (case xv_BadNumber => rfl)
    (case xe_BadNumber => kernel_rfl)
    (case xk_BadNumber => k_is)
    (case xB_BadNumber => kernel_rfl)
    (case aC_BadWord => k_is)
    (case xl_BadWord => k_is)
    (case xr_BadWord => kernel_rfl)
    (case xi_BadWord => k_is)
    (case xf_BadWord => k_is)
    (case xc_BadWord => k_is)
    (case xd_BadWord => k_is)
    (case xv_BadWord => rfl)
    (case xe_BadWord => kernel_rfl)
    (case xk_BadWord => k_is)
    (case xB_BadWord => kernel_rfl)
    (case xtop => kernel_rfl)
    (case xsup => k_is)
    (case a1_is_integer => k_is)
    (case l1_is_integer => k_is)
    (case c1_is_integer => k_is)
    (case k1_is_integer => k_is)
    (case a1_is_whole => k_is)
    (case l1_is_whole => k_is)
    (case c1_is_whole => k_is)
    (case k1_is_whole => k_is)
    (case a1_LotX_initX => k_is)
    (case i1_LotX_initX => k_is)
    (case l1_LotX_initX => k_is)
    (case c1_LotX_initX => k_is)
    (case k1_LotX_initX => k_is)
    (case a1_Lot_ends => k_is)
    (case i1_Lot_ends => k_is)
    (case l1_Lot_ends => k_is)
    (case c1_Lot_ends => k_is)
    (case k1_Lot_ends => k_is)
    (case a1_Lot_swept_areas => k_is)
    (case i1_Lot_swept_areas => k_is)
    (case l1_Lot_swept_areas => k_is)
    (case c1_Lot_swept_areas => k_is)
    (case k1_Lot_swept_areas => k_is)
    (case a1_merged => k_is)
    (case l1_merged => k_is)
    (case c1_merged => k_is)
    (case k1_merged => k_is)
    (case a1_is_list => k_is)
    (case l1_is_list => k_is)
    (case c1_is_list => k_is)
    (case k1_is_list => k_is)
    (case a1_is_pair => k_is)
    (case l1_is_pair => k_is)
    (case c1_is_pair => k_is)
    (case k1_is_pair => k_is)
    (case a1_pairs_told => k_is)
    (case l1_pairs_told => k_is)
    (case c1_pairs_told => k_is)
    (case k1_pairs_told => k_is)
    (case a1_WalkX_initX => k_is)
    (case i1_WalkX_initX => k_is)
    (case l1_WalkX_initX => k_is)
    (case c1_WalkX_initX => k_is)
    (case k1_WalkX_initX => k_is)
    (case a1_falling_pairs => k_is)
    (case l1_falling_pairs => k_is)
    (case c1_falling_pairs => k_is)
    (case k1_falling_pairs => k_is)
    (case a1_rising_pairs => k_is)
    (case l1_rising_pairs => k_is)
    (case c1_rising_pairs => k_is)
    (case k1_rising_pairs => k_is)
    (case a1_swept_pairs => k_is)
    (case l1_swept_pairs => k_is)
    (case c1_swept_pairs => k_is)
    (case k1_swept_pairs => k_is)
    (case a1_Lot_walk_with => k_is)
    (case i1_Lot_walk_with => k_is)
    (case l1_Lot_walk_with => k_is)
    (case c1_Lot_walk_with => k_is)
    (case k1_Lot_walk_with => k_is)
    (case a1__law_begin => k_is)
    (case l1__law_begin => k_is)
    (case c1__law_begin => k_is)
    (case k1__law_begin => k_is)
    (case a1__law_draw => k_is)
    (case l1__law_draw => k_is)
    (case c1__law_draw => k_is)
    (case k1__law_draw => k_is)
    (case a1__law_number => k_is)
    (case l1__law_number => k_is)
    (case c1__law_number => k_is)
    (case k1__law_number => k_is)
    (case a1__law_great => k_is)
    (case l1__law_great => k_is)
    (case c1__law_great => k_is)
    (case k1__law_great => k_is)
    (case a1__law_pick => k_is)
    (case l1__law_pick => k_is)
    (case c1__law_pick => k_is)
    (case k1__law_pick => k_is)
    (case a1__law_signed => k_is)
    (case l1__law_signed => k_is)
    (case c1__law_signed => k_is)
    (case k1__law_signed => k_is)
    (case a1_best_sides => k_is)
    (case l1_best_sides => k_is)
    (case c1_best_sides => k_is)
    (case k1_best_sides => k_is)
    (case a1_areas_of => k_is)
    (case l1_areas_of => k_is)
    (case c1_areas_of => k_is)
    (case k1_areas_of => k_is)
    (case a1_areas => k_is)
    (case l1_areas => k_is)
    (case c1_areas => k_is)
    (case k1_areas => k_is)
    (case a1__law_best_right => k_is)
    (case l1__law_best_right => k_is)
    (case c1__law_best_right => k_is)
    (case k1__law_best_right => k_is)
    (case a1__law_step => k_is)
    (case l1__law_step => k_is)
    (case c1__law_step => k_is)
    (case k1__law_step => k_is)
    (case a1__law_led => k_is)
    (case l1__law_led => k_is)
    (case c1__law_led => k_is)
    (case k1__law_led => k_is)
    (case a1__law_greatest => k_is)
    (case l1__law_greatest => k_is)
    (case c1__law_greatest => k_is)
    (case k1__law_greatest => k_is)
    (case a1_PlaceX_initX => k_is)
    (case i1_PlaceX_initX => k_is)
    (case l1_PlaceX_initX => k_is)
    (case c1_PlaceX_initX => k_is)
    (case k1_PlaceX_initX => k_is)
    (case a1_gone_on => k_is)
    (case l1_gone_on => k_is)
    (case c1_gone_on => k_is)
    (case k1_gone_on => k_is)
    (case a1_Walk_spots => k_is)
    (case i1_Walk_spots => k_is)
    (case l1_Walk_spots => k_is)
    (case c1_Walk_spots => k_is)
    (case k1_Walk_spots => k_is)
    (case a1_Walk_place => k_is)
    (case i1_Walk_place => k_is)
    (case l1_Walk_place => k_is)
    (case c1_Walk_place => k_is)
    (case k1_Walk_place => k_is)
    (case a1__law_counts => k_is)
    (case l1__law_counts => k_is)
    (case c1__law_counts => k_is)
    (case k1__law_counts => k_is)
    (case a1__law_is_walked => k_is)
    (case l1__law_is_walked => k_is)
    (case c1__law_is_walked => k_is)
    (case k1__law_is_walked => k_is)
    (case a1__law_lot => k_is)
    (case l1__law_lot => k_is)
    (case c1__law_lot => k_is)
    (case k1__law_lot => k_is)
    (case a1__law_shuffled => k_is)
    (case l1__law_shuffled => k_is)
    (case c1__law_shuffled => k_is)
    (case k1__law_shuffled => k_is)
    (case a1__law_parted => k_is)
    (case l1__law_parted => k_is)
    (case c1__law_parted => k_is)
    (case k1__law_parted => k_is)
    (case a1_law => k_is)
    (case l1_law => k_is)
    (case c1_law => k_is)
    (case k1_law => k_is)
    (case z1_abs => k_is)
    (case z1_all => k_is)
    (case z1_bool => k_is)
    (case z1_divmod => k_is)
    (case z1_int => k_is)
    (case z1_isinstance => k_is)
    (case z1_len => k_is)
    (case z1_list => k_is)
    (case z1_max => k_is)
    (case z1_min => k_is)
    (case z1_range => k_is)
    (case z1_sorted => k_is)
    (case z1_str => k_is)
    (case z1_sum => k_is)
    (case z1_tuple => k_is)
    (case k0_MIRRORED => k_is)
    (case kda_MIRRORED => kernel_rfl)
    (case kdb_MIRRORED => kernel_rfl)
    (case kdc_MIRRORED => kernel_rfl)
    (case k0_TURNED => k_is)
    (case kda_TURNED => kernel_rfl)
    (case kdb_TURNED => kernel_rfl)
    (case kdc_TURNED => kernel_rfl)
    (case k0_LETTERS => k_is)
    (case kx_LETTERS => kernel_rfl)
    (case k0_MOST_LETTERS => k_is)
    (case kx_MOST_LETTERS => kernel_rfl)
    (case k0_MOST_RUNS => k_is)
    (case kx_MOST_RUNS => kernel_rfl)
