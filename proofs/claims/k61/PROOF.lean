import PyProof.Rows.All
import Wide.All
import OpenK.AllK
import Wide.FinOn
import HandS.ForMost
import HandS.ForExc
import HandS.CallSlots
import HandS.IsInst
import HandS.Wide
import HandS.Flow
import HandS.Property
import HandS.OwnEq
import KE.KOpsOwn
import HandS.Zip
import HandS.Style
import HandS.Exc
import HandS.ExcInit
import HandS.TryMany
import KE.KExcSuper
import HandS.ExcField
import HandS.Lambda
import HandS.EndTab
import HandS.WideBits
import HandS.Deep
import HandS.StrMore
import HandS.NoneIn
import PyProof.StrBlock2
import HandS.TupAny
import HandS.Iter
import HandS.ExcOwn
import PyProof.ExcBaseAll.ValueError
import KE.KCallOwn
import HandS.More
import PyProof.InstEq
import PySem.Challenge.RW_areawalks_k61_whole_paths_far
set_option Elab.async false
set_option linter.all false
set_option maxRecDepth 100000
set_option maxHeartbeats 4000000
set_option autoImplicit false
namespace DL
open PySem PySem.Spec PyProof.Rows L2

/-! ### data -/
/-- a name or a text by its code points -/
abbrev Nm := List Nat
def nm (l : Nm) : Str := ⟨l.toArray⟩
theorem nm_inj {a b : Nm} (h : nm a = nm b) : a = b := by
  have := congrArg (fun s : Str => s.cps.toList) h
  simpa [nm] using this
inductive DK where
  | i (n : Int)
  | s (l : List Nat)
  deriving DecidableEq
inductive D where
  | non | bl (b : Bool) | int (i : Int) | str (l : List Nat)
  | tup (xs : List D) | lst (xs : List D) | scr (xs : List D)
  | dic (kvs : List (DK × D))
  | dct (kvs : List (List DK × D))
  | ins (c : String) (fs : List (Nm × D))
  | cell (n : Nat) | cls (c : String) | ty (n : String) | fn (f : String) | lam (k : String)
instance : Inhabited D := ⟨.non⟩
/-- a thing of the store, by reference -/
inductive Cell where
  | dic (kvs : List (DK × D))
  | lst (xs : List D)
  | obj (c : String) (fs : List (Nm × D))
  | tab (k : String)
  | dct (kvs : List (List DK × D))
instance : Inhabited Cell := ⟨.lst []⟩
/-- a slot: no value known, a value, a list / dict / instance of this frame's own -/
inductive Sl where
  | un | val (d : D) | ol (xs : List D) | od (kvs : List (DK × D)) | ot (kvs : List (List DK × D)) | oi (c : String) (fs : List (Nm × D))
instance : Inhabited Sl := ⟨.un⟩
def Sl.own : Sl → Bool
  | .un => false
  | .val _ => false
  | _ => true
structure Xc where
  cls : String
  fs : List (Nm × D)
structure DS where
  sl : List Sl
  st : List Cell
inductive Res (σ α : Type) where
  | ok (a : α) (t : σ) | exc (x : Xc) (t : σ) | stuck
def Res.bind {σ α β : Type} (r : Res σ α) (k : α → σ → Res σ β) : Res σ β := match r with
  | .ok a t => k a t
  | .exc x t => .exc x t
  | .stuck => .stuck
@[simp] theorem Res.bind_ok {σ α β : Type} (a : α) (t : σ) (k : α → σ → Res σ β) : (Res.ok a t).bind k = k a t := rfl
@[simp] theorem Res.bind_exc {σ α β : Type} (x : Xc) (t : σ) (k : α → σ → Res σ β) : (Res.exc x t).bind k = .exc x t := rfl
@[simp] theorem Res.bind_stuck {σ α β : Type} (k : α → σ → Res σ β) : (Res.stuck).bind k = .stuck := rfl
inductive Out where
  | nx | rt (d : D) | bk | ct
abbrev DE := DS → Res DS D
abbrev DA := DS → Res DS (List D)
abbrev DT := DS → Res DS Bool
abbrev DStm := DS → Res DS Out
abbrev DFn := List D → List Cell → Res (List Cell) D

/-! ### how data lie in the heap -/
structure Wd where
  F : Hp
  ρ : List Addr
structure Wd.le (w w' : Wd) : Prop where
  f : ∀ a o, w.F a = some o → w'.F a = some o
  r : w.ρ <+: w'.ρ
theorem Wd.le.refl (w : Wd) : w.le w := ⟨fun _ _ h => h, List.prefix_refl _⟩
theorem Wd.le.trans {a b c : Wd} (h : a.le b) (k : b.le c) : a.le c := ⟨fun x o e => k.f x o (h.f x o e), h.r.trans k.r⟩
structure Gam where
  K : PySem.W.Frag
  ct : String → Option Addr
  ft : String → Option Addr
  lam : String → Addr → Wd → Prop := fun _ _ _ => False
  lamM : ∀ (k : String) (f : Addr) (w w' : Wd), w.le w' → lam k f w → lam k f w' := by (intros; assumption)
  tab : String → Addr → Hp → HO → Prop := fun _ _ _ _ => False
  tabM : ∀ (k : String) (a : Addr) (F F' : Hp) (o : HO), (∀ a o, F a = some o → F' a = some o) → tab k a F o → tab k a F' o := by (intros; assumption)
  hs : List Key → Int := fun _ => 0
def dkey : DK → Key
  | .i n => .inl n
  | .s l => .inr (nm l)
/-- a dict object by its entries -/
def dctO (a : Addr) (es : List DictEntry) (ep : Nat) : HO := .ext fun h => ∃ o es', h.get? a = some o ∧ o.ExactDict ∧ o.data = .dict es' ep ∧ es'.toList = es
mutual
inductive Rep (G : Gam) (w : Wd) : V → D → Prop
  | non : Rep G w .non .non
  | bl (b : Bool) : Rep G w (.bl b) (.bl b)
  | int (i : Int) : Rep G w (.int i) (.int i)
  | str (l : List Nat) : Rep G w (.str (nm l)) (.str l)
  | tup {a : Addr} {vs : List V} {ds : List D} : SqT G.K w.F a vs → Reps G w vs ds → Rep G w (.ref a) (.tup ds)
  | lst {a : Addr} {vs : List V} {ds : List D} : w.F a = some (.lst vs) → Reps G w vs ds → Rep G w (.ref a) (.lst ds)
  | scr {a : Addr} {vs : List V} {ds : List D} : SqL G.K w.F a vs → Reps G w vs ds → Rep G w (.ref a) (.scr ds)
  | dic {a : Addr} {vs : List (Key × V)} {ds : List (DK × D)} : w.F a = some (.dK vs) → RepK G w vs ds → Rep G w (.ref a) (.dic ds)
  | dct {a : Addr} {es : List DictEntry} {ep : Nat} {ds : List (List DK × D)} : w.F a = some (dctO a es ep) → RepT G w es ds → (ds.map (·.1)).Nodup → (a == sysModules) = false → Rep G w (.ref a) (.dct ds)
  | ins {a C dx : Addr} {c : String} {vs : List (Str × V)} {ds : List (Nm × D)} : G.ct c = some C → w.F a = some (.ins C dx vs) → RepF G w vs ds → Rep G w (.ref a) (.ins c ds)
  | cell {a : Addr} {n : Nat} : w.ρ[n]? = some a → Rep G w (.ref a) (.cell n)
  | cls {C : Addr} {c : String} : G.ct c = some C → Rep G w (.ref C) (.cls c)
  | ty (n : String) : Rep G w (.ty n) (.ty n)
  | fn {a : Addr} {f : String} : G.ft f = some a → Rep G w (.ref a) (.fn f)
  | lam {f : Addr} {k : String} : G.lam k f w → Rep G w (.ref f) (.lam k)
inductive Reps (G : Gam) (w : Wd) : List V → List D → Prop
  | nil : Reps G w [] []
  | cons {v : V} {d : D} {vs : List V} {ds : List D} : Rep G w v d → Reps G w vs ds → Reps G w (v :: vs) (d :: ds)
inductive RepF (G : Gam) (w : Wd) : List (Str × V) → List (Nm × D) → Prop
  | nil : RepF G w [] []
  | cons {f : Nm} {v : V} {d : D} {vs : List (Str × V)} {ds : List (Nm × D)} : Rep G w v d → RepF G w vs ds → RepF G w ((nm f, v) :: vs) ((f, d) :: ds)
inductive RepK (G : Gam) (w : Wd) : List (Key × V) → List (DK × D) → Prop
  | nil : RepK G w [] []
  | cons {k : DK} {v : V} {d : D} {vs : List (Key × V)} {ds : List (DK × D)} : Rep G w v d → RepK G w vs ds → RepK G w ((dkey k, v) :: vs) ((k, d) :: ds)
inductive RepT (G : Gam) (w : Wd) : List DictEntry → List (List DK × D) → Prop
  | nil : RepT G w [] []
  | cons {k : List DK} {b : Addr} {v : V} {u : Value} {d : D} {es : List DictEntry} {ds : List (List DK × D)} : SqT G.K w.F b (k.map fun x => kV (dkey x)) → RelV v u → Rep G w v d → RepT G w es ds → RepT G w (⟨G.hs (k.map dkey), .ref b, u⟩ :: es) ((k, d) :: ds)
end
theorem SqT.le {K : PySem.W.Frag} {F F' : Hp} {a : Addr} {xs : List V} (h : SqT K F a xs) (e : ∀ a o, F a = some o → F' a = some o) : SqT K F' a xs := by
  rcases h with (h | ⟨o, h⟩) | h
  · exact .inl (.inl (e _ _ h))
  · exact .inl (.inr ⟨o, e _ _ h⟩)
  · exact .inr h
theorem SqL.le {K : PySem.W.Frag} {F F' : Hp} {a : Addr} {xs : List V} (h : SqL K F a xs) (e : ∀ a o, F a = some o → F' a = some o) : SqL K F' a xs := by
  rcases h with (h | ⟨o, h⟩) | h
  · exact .inl (.inl (e _ _ h))
  · exact .inl (.inr ⟨o, e _ _ h⟩)
  · exact .inr h
theorem pre_get {α : Type} {l l' : List α} {n : Nat} {x : α} (h : l <+: l') (e : l[n]? = some x) : l'[n]? = some x := by
  obtain ⟨r, rfl⟩ := h
  rw [List.getElem?_append_left (by exact (List.getElem?_eq_some_iff.mp e).1)]
  exact e
mutual
theorem Rep.mono {G : Gam} {w w' : Wd} (h : w.le w') : ∀ {v : V} {d : D}, Rep G w v d → Rep G w' v d
  | _, _, .non => .non
  | _, _, .bl b => .bl b
  | _, _, .int i => .int i
  | _, _, .str l => .str l
  | _, _, .tup a b => .tup (SqT.le a h.f) (Reps.mono h b)
  | _, _, .lst a b => .lst (h.f _ _ a) (Reps.mono h b)
  | _, _, .scr a b => .scr (SqL.le a h.f) (Reps.mono h b)
  | _, _, .dic a b => .dic (h.f _ _ a) (RepK.mono h b)
  | _, _, .dct a b c d => .dct (h.f _ _ a) (RepT.mono h b) c d
  | _, _, .ins c a b => .ins c (h.f _ _ a) (RepF.mono h b)
  | _, _, .cell a => .cell (pre_get h.r a)
  | _, _, .cls a => .cls a
  | _, _, .ty n => .ty n
  | _, _, .fn a => .fn a
  | _, _, .lam a => .lam (G.lamM _ _ _ _ h a)
theorem Reps.mono {G : Gam} {w w' : Wd} (h : w.le w') : ∀ {v : List V} {d : List D}, Reps G w v d → Reps G w' v d
  | _, _, .nil => .nil
  | _, _, .cons a b => .cons (Rep.mono h a) (Reps.mono h b)
theorem RepF.mono {G : Gam} {w w' : Wd} (h : w.le w') : ∀ {v : List (Str × V)} {d : List (Nm × D)}, RepF G w v d → RepF G w' v d
  | _, _, .nil => .nil
  | _, _, .cons a b => .cons (Rep.mono h a) (RepF.mono h b)
theorem RepK.mono {G : Gam} {w w' : Wd} (h : w.le w') : ∀ {v : List (Key × V)} {d : List (DK × D)}, RepK G w v d → RepK G w' v d
  | _, _, .nil => .nil
  | _, _, .cons a b => .cons (Rep.mono h a) (RepK.mono h b)
theorem RepT.mono {G : Gam} {w w' : Wd} (h : w.le w') : ∀ {v : List DictEntry} {d : List (List DK × D)}, RepT G w v d → RepT G w' v d
  | _, _, .nil => .nil
  | _, _, .cons s r a b => .cons (SqT.le s h.f) r (Rep.mono h a) (RepT.mono h b)
end
theorem Reps.length {G : Gam} {w : Wd} : ∀ {v : List V} {d : List D}, Reps G w v d → v.length = d.length
  | _, _, .nil => rfl
  | _, _, .cons _ b => by rw [List.length_cons, List.length_cons, Reps.length b]
theorem Reps.get {G : Gam} {w : Wd} : ∀ {v : List V} {d : List D} {i : Nat} {x : D}, Reps G w v d → d[i]? = some x → ∃ y, v[i]? = some y ∧ Rep G w y x
  | _, _, _, _, .nil, e => by simp at e
  | _, _, 0, _, .cons a _, e => by simp at e; subst e; exact ⟨_, rfl, a⟩
  | _, _, i + 1, x, .cons _ b, e => by
    obtain ⟨y, h1, h2⟩ := Reps.get (i := i) (x := x) b (by simpa using e)
    exact ⟨y, by simpa using h1, h2⟩
theorem Reps.append {G : Gam} {w : Wd} : ∀ {v v' : List V} {d d' : List D}, Reps G w v d → Reps G w v' d' → Reps G w (v ++ v') (d ++ d')
  | _, _, _, _, .nil, h => h
  | _, _, _, _, .cons a b, h => .cons a (Reps.append b h)
theorem Reps.set {G : Gam} {w : Wd} {x : V} {y : D} (r : Rep G w x y) : ∀ {v : List V} {d : List D} (i : Nat), Reps G w v d → Reps G w (v.set i x) (d.set i y)
  | _, _, _, .nil => .nil
  | _, _, 0, .cons _ b => .cons r b
  | _, _, i + 1, .cons a b => .cons a (Reps.set r i b)
theorem Reps.drop {G : Gam} {w : Wd} : ∀ {v : List V} {d : List D} (n : Nat), Reps G w v d → Reps G w (v.drop n) (d.drop n)
  | _, _, 0, r => r
  | _, _, _ + 1, .nil => .nil
  | _, _, n + 1, .cons _ t => Reps.drop n t
theorem Reps.take {G : Gam} {w : Wd} : ∀ {v : List V} {d : List D} (n : Nat), Reps G w v d → Reps G w (v.take n) (d.take n)
  | _, _, 0, _ => .nil
  | _, _, _ + 1, .nil => .nil
  | _, _, n + 1, .cons r t => .cons r (Reps.take n t)
theorem Reps.ints {G : Gam} {w : Wd} : ∀ {v : List V} {ns : List Int}, Reps G w v (ns.map D.int) → v = ns.map V.int
  | _, [], h => by cases h; rfl
  | _, n :: ns, h => by
    cases h with
    | cons a b => cases a; rw [Reps.ints b]; rfl
theorem Reps.of_ints {G : Gam} {w : Wd} : ∀ ns : List Int, Reps G w (ns.map V.int) (ns.map D.int)
  | [] => .nil
  | n :: ns => .cons (.int n) (Reps.of_ints ns)
theorem RepF.look {G : Gam} {w : Wd} : ∀ {v : List (Str × V)} {d : List (Nm × D)} {f : Nm} {x : D}, RepF G w v d → d.lookup f = some x → ∃ y, v.lookup (nm f) = some y ∧ Rep G w y x
  | _, _, _, _, .nil, e => by simp at e
  | _, _, f, x, .cons (f := g) a b, e => by
    by_cases h : f = g
    · subst h
      rw [List.lookup_cons_self] at e
      cases e
      exact ⟨_, List.lookup_cons_self, a⟩
    · have h1 : (f == g) = false := beq_eq_false_iff_ne.mpr h
      have h2 : (nm f == nm g) = false := beq_eq_false_iff_ne.mpr fun q => h (nm_inj q)
      simp only [List.lookup_cons, h1] at e
      obtain ⟨y, q1, q2⟩ := RepF.look b e
      exact ⟨y, by simp only [List.lookup_cons, h2]; exact q1, q2⟩
theorem RepF.none {G : Gam} {w : Wd} : ∀ {v : List (Str × V)} {d : List (Nm × D)} {f : Nm}, RepF G w v d → d.lookup f = none → v.lookup (nm f) = none
  | _, _, _, .nil, e => rfl
  | _, _, f, .cons (f := g) a b, e => by
    by_cases h : f = g
    · subst h
      rw [List.lookup_cons_self] at e
      cases e
    · have h1 : (f == g) = false := beq_eq_false_iff_ne.mpr h
      have h2 : (nm f == nm g) = false := beq_eq_false_iff_ne.mpr fun q => h (nm_inj q)
      simp only [List.lookup_cons, h1] at e
      simp only [List.lookup_cons, h2]
      exact RepF.none b e
theorem RepF.length {G : Gam} {w : Wd} : ∀ {v : List (Str × V)} {d : List (Nm × D)}, RepF G w v d → v.length = d.length
  | _, _, .nil => rfl
  | _, _, .cons _ b => by rw [List.length_cons, List.length_cons, RepF.length b]
def putN (f : Nm) (x : D) : List (Nm × D) → List (Nm × D)
  | [] => [(f, x)]
  | (g, y) :: r => if g = f then (f, x) :: r else (g, y) :: putN f x r
/-! ### the store, the slots -/
/-- a dict whose keys are tuples, at a -/
def TOk (G : Gam) (w : Wd) (H : Hp) (a : Addr) (kvs : List (List DK × D)) : Prop := ∃ es ep, H a = some (dctO a es ep) ∧ RepT G w es kvs ∧ (kvs.map (·.1)).Nodup ∧ (a == sysModules) = false
theorem TOk.mono {G : Gam} {w w' : Wd} {H H' : Hp} {a : Addr} {kvs : List (List DK × D)} (h : TOk G w H a kvs) (le : w.le w') (e : H' a = H a) : TOk G w' H' a kvs := by
  obtain ⟨es, ep, h1, h2, h3⟩ := h
  exact ⟨es, ep, e.trans h1, h2.mono le, h3⟩
def CellOk (G : Gam) (w : Wd) (H : Hp) (a : Addr) : Cell → Prop
  | .dic kvs => ∃ vs, H a = some (.dK vs) ∧ RepK G w vs kvs
  | .lst xs => ∃ vs, H a = some (.lst vs) ∧ Reps G w vs xs
  | .obj c fs => ∃ C dx vs, G.ct c = some C ∧ H a = some (.ins C dx vs) ∧ RepF G w vs fs
  | .tab k => ∃ o, H a = some o ∧ G.tab k a w.F o
  | .dct kvs => TOk G w H a kvs
structure FOk (G : Gam) (w : Wd) (S : List Cell) (H : Hp) : Prop where
  sub : ∀ a o, w.F a = some o → H a = some o
  len : w.ρ.length = S.length
  cel : ∀ (n : Nat) (a : Addr) (c : Cell), w.ρ[n]? = some a → S[n]? = some c → CellOk G w H a c
  nd : w.ρ.Nodup
  nf : ∀ a, a ∈ w.ρ → w.F a = none
theorem CellOk.there {G : Gam} {w : Wd} {H : Hp} {a : Addr} {c : Cell} (h : CellOk G w H a c) : ∃ o, H a = some o := by
  cases c with
  | dic kvs => obtain ⟨_, h, _⟩ := h; exact ⟨_, h⟩
  | lst xs => obtain ⟨_, h, _⟩ := h; exact ⟨_, h⟩
  | obj c fs => obtain ⟨_, _, _, _, h, _⟩ := h; exact ⟨_, h⟩
  | tab k => obtain ⟨_, h, _⟩ := h; exact ⟨_, h⟩
  | dct kvs => obtain ⟨_, _, h, _⟩ := h; exact ⟨_, h⟩
theorem CellOk.mono {G : Gam} {w w' : Wd} {H H' : Hp} {a : Addr} {c : Cell} (h : CellOk G w H a c) (le : w.le w') (e : H' a = H a) : CellOk G w' H' a c := by
  cases c with
  | dic kvs => obtain ⟨_, h, r⟩ := h; exact ⟨_, e.trans h, r.mono le⟩
  | lst xs => obtain ⟨_, h, r⟩ := h; exact ⟨_, e.trans h, r.mono le⟩
  | obj c fs => obtain ⟨_, _, _, q, h, r⟩ := h; exact ⟨_, _, _, q, e.trans h, r.mono le⟩
  | tab k => obtain ⟨_, h, r⟩ := h; exact ⟨_, e.trans h, G.tabM _ _ _ _ _ le.f r⟩
  | dct kvs => exact TOk.mono h le e
theorem FOk.rho {G : Gam} {w : Wd} {S : List Cell} {H : Hp} (h : FOk G w S H) {a : Addr} (ha : a ∈ w.ρ) : ∃ o, H a = some o := by
  obtain ⟨n, hn, e⟩ := List.getElem_of_mem ha
  have h1 : w.ρ[n]? = some a := by rw [List.getElem?_eq_getElem hn, e]
  have h2 : n < S.length := by rw [← h.len]; exact hn
  exact (h.cel n a _ h1 (List.getElem?_eq_getElem h2)).there
/-- from one state to a later one: what may have changed -/
structure Nx (w : Wd) (H : Hp) (w' : Wd) (H' : Hp) : Prop where
  le : w.le w'
  keep : ∀ a o, H a = some o → a ∉ w.ρ → H' a = some o
  newF : ∀ a, w'.F a ≠ none → w.F a ≠ none ∨ H a = none
  newR : ∀ a, a ∈ w'.ρ → a ∈ w.ρ ∨ H a = none
theorem Nx.refl (w : Wd) (H : Hp) : Nx w H w H := ⟨.refl w, fun _ _ h _ => h, fun _ h => .inl h, fun _ h => .inl h⟩
theorem Nx.trans {G : Gam} {w w1 w2 : Wd} {H H1 H2 : Hp} {S1 : List Cell} (a : Nx w H w1 H1) (f : FOk G w1 S1 H1) (b : Nx w1 H1 w2 H2) : Nx w H w2 H2 := by
  have back : ∀ x, H1 x = none → H x = none := fun x h => by
    cases e : H x with
    | none => rfl
    | some o =>
      by_cases hx : x ∈ w.ρ
      · obtain ⟨o', q⟩ := f.rho (a.le.r.subset hx)
        rw [q] at h; cases h
      · rw [a.keep x o e hx] at h; cases h
  refine ⟨a.le.trans b.le, fun x o e n => ?_, fun x h => ?_, fun x h => ?_⟩
  · refine b.keep x o (a.keep x o e n) fun q => ?_
    rcases a.newR x q with z | z
    · exact n z
    · rw [z] at e; cases e
  · rcases b.newF x h with z | z
    · exact a.newF x z
    · exact .inr (back x z)
  · rcases b.newR x h with z | z
    · exact a.newR x z
    · exact .inr (back x z)
def OwnOk (G : Gam) (w : Wd) (H : Hp) (a : Addr) : Sl → Prop
  | .ol xs => ∃ vs, H a = some (.lst vs) ∧ Reps G w vs xs
  | .od kvs => ∃ vs, H a = some (.dK vs) ∧ RepK G w vs kvs
  | .ot kvs => TOk G w H a kvs
  | .oi c fs => ∃ C dx vs, G.ct c = some C ∧ H a = some (.ins C dx vs) ∧ RepF G w vs fs
  | _ => False
/-- a frame's base: the world and the heap at its entry; objects that are set apart -/
structure Bs where
  B : Wd
  H : Hp
  γ : List (Addr × HO)
  me : Option Addr
/-- the state of a frame -/
structure Ok (G : Gam) (κ : Bs) (w : Wd) (s : DS) (σ : L2.St) (H : Hp) : Prop where
  fok : FOk G w s.st H
  nx : Nx κ.B κ.H w H
  len : s.sl.length = σ.length
  val : ∀ (i : Nat) (d : D), s.sl[i]? = some (.val d) → ∃ v, σ[i]? = some (some v) ∧ Rep G w v d
  own : ∀ (i : Nat) (x : Sl), s.sl[i]? = some x → x.own = true → ∃ a, σ[i]? = some (some (.ref a)) ∧ OwnOk G w H a x ∧ w.F a = none ∧ a ∉ w.ρ ∧ κ.H a = none
  ne : ∀ (i j : Nat) (x y : Sl) (a : Addr), s.sl[i]? = some x → s.sl[j]? = some y → x.own = true → y.own = true → σ[i]? = some (some (.ref a)) → σ[j]? = some (some (.ref a)) → i = j
  gam : ∀ p ∈ κ.γ, H p.1 = some p.2 ∧ w.F p.1 = none ∧ p.1 ∉ w.ρ ∧ κ.H p.1 = none ∧ ∀ (i : Nat) (x : Sl), s.sl[i]? = some x → x.own = true → σ[i]? ≠ some (some (.ref p.1))
  me : ∀ a, κ.me = some a → ∀ c fs, s.sl[0]? = some (.oi c fs) → σ[0]? = some (some (.ref a))
theorem OwnOk.there {G : Gam} {w : Wd} {H : Hp} {a : Addr} {c : Sl} (h : OwnOk G w H a c) : ∃ o, H a = some o := by
  cases c with
  | ol xs => obtain ⟨_, h, _⟩ := h; exact ⟨_, h⟩
  | od xs => obtain ⟨_, h, _⟩ := h; exact ⟨_, h⟩
  | ot xs => obtain ⟨_, _, h, _⟩ := h; exact ⟨_, h⟩
  | oi c fs => obtain ⟨_, _, _, _, h, _⟩ := h; exact ⟨_, h⟩
  | un => exact h.elim
  | val _ => exact h.elim
theorem OwnOk.mono {G : Gam} {w w' : Wd} {H H' : Hp} {a : Addr} {c : Sl} (h : OwnOk G w H a c) (le : w.le w') (e : H' a = H a) : OwnOk G w' H' a c := by
  cases c with
  | ol xs => obtain ⟨_, h, r⟩ := h; exact ⟨_, e.trans h, r.mono le⟩
  | od xs => obtain ⟨_, h, r⟩ := h; exact ⟨_, e.trans h, r.mono le⟩
  | ot xs => exact TOk.mono h le e
  | oi c fs => obtain ⟨_, _, _, q, h, r⟩ := h; exact ⟨_, _, _, q, e.trans h, r.mono le⟩
  | un => exact h.elim
  | val _ => exact h.elim
section
variable {G : Gam} {κ : Bs} {w w' : Wd} {s : DS} {σ : L2.St} {H H' : Hp} {S' : List Cell}
/-- a step that leaves the slots as they are -/
theorem Ok.step (h : Ok G κ w s σ H) (n : Nx w H w' H') (f : FOk G w' S' H') : Ok G κ w' ⟨s.sl, S'⟩ σ H' := by
  have nF : ∀ a o, H a = some o → w.F a = none → w'.F a = none := fun a ob he h3 => by
    cases q : w'.F a with
    | none => rfl
    | some o =>
      rcases n.newF a (by rw [q]; exact fun z => nomatch z) with z | z
      · exact absurd h3 z
      · rw [he] at z; cases z
  have nR : ∀ a o, H a = some o → a ∉ w.ρ → a ∉ w'.ρ := fun a ob he h4 q => by
    rcases n.newR a q with z | z
    · exact h4 z
    · rw [he] at z; cases z
  refine ⟨f, h.nx.trans h.fok n, h.len, fun i d e => ?_, fun i x e o => ?_, h.ne, fun p hp => ?_, h.me⟩
  · obtain ⟨v, h1, h2⟩ := h.val i d e
    exact ⟨v, h1, h2.mono n.le⟩
  · obtain ⟨a, h1, h2, h3, h4, h5⟩ := h.own i x e o
    obtain ⟨ob, he⟩ := h2.there
    exact ⟨a, h1, h2.mono n.le ((n.keep a ob he h4).trans he.symm), nF a ob he h3, nR a ob he h4, h5⟩
  · obtain ⟨h1, h2, h3, h4, h5⟩ := h.gam p hp
    exact ⟨n.keep _ _ h1 h3, nF _ _ h1 h2, nR _ _ h1 h3, h4, h5⟩
/-- a new frozen object -/
theorem FOk.alloc {S : List Cell} (h : FOk G w S H) {p : Addr} (hp : H p = none) (o : HO) : FOk G ⟨upd w.F p o, w.ρ⟩ S (upd H p o) ∧ Nx w H ⟨upd w.F p o, w.ρ⟩ (upd H p o) := by
  have le : w.le ⟨upd w.F p o, w.ρ⟩ := ⟨fun a u e => by
    show upd w.F p o a = some u
    rw [upd_ne (ne_of_none (h.sub a u e) hp)]
    exact e, List.prefix_refl _⟩
  have np : p ∉ w.ρ := fun q => by
    obtain ⟨o, e⟩ := h.rho q
    rw [hp] at e; cases e
  refine ⟨⟨fun a u e => ?_, h.len, fun n a c e1 e2 => ?_, h.nd, fun a ha => ?_⟩, ⟨le, fun a u e _ => ?_, fun a q => ?_, fun a q => .inl q⟩⟩
  · by_cases z : a = p
    · subst z
      have e : upd w.F a o a = some u := e
      rw [upd_same] at e ⊢
      exact e
    · have e : upd w.F p o a = some u := e
      rw [upd_ne z] at e ⊢
      exact h.sub a u e
  · refine (h.cel n a c e1 e2).mono le (upd_ne fun z => ?_)
    subst z
    exact np (List.mem_of_getElem? e1)
  · show upd w.F p o a = none
    rw [upd_ne (show a ≠ p from fun z => np (by rw [← z]; exact ha))]
    exact h.nf a ha
  · rw [upd_ne (ne_of_none e hp)]
    exact e
  · by_cases z : a = p
    · subst z; exact .inr hp
    · have q : upd w.F p o a ≠ none := q
      rw [upd_ne z] at q
      exact .inl q
theorem Ok.alloc (h : Ok G κ w s σ H) {p : Addr} (hp : H p = none) (o : HO) : w.le ⟨upd w.F p o, w.ρ⟩ ∧ Ok G κ ⟨upd w.F p o, w.ρ⟩ s σ (upd H p o) := by
  obtain ⟨f, n⟩ := h.fok.alloc hp o
  exact ⟨n.le, h.step n f⟩
end
end DL
set_option maxRecDepth 100000
set_option maxHeartbeats 4000000
set_option autoImplicit false
namespace DL
open PySem PySem.Spec PyProof.Rows L2
/-! ### what is wanted behind a piece of code -/
def RepX (G : Gam) (w : Wd) (c : Value) (dd : Option Addr) (x : Xc) : Prop :=
  ∃ C, G.ct x.cls = some C ∧ c = .ref C ∧ ((x.fs = [] ∧ dd = none) ∨ ∃ a vs, dd = some a ∧ w.F a = some (.xd vs) ∧ RepF G w vs x.fs)
section
variable (G : Gam) (W : WX)
def PostG {α β : Type} (rep : Wd → β → α → Prop) (κ : Bs) (w : Wd) (σ : L2.St) (r : Res DS α) (Q : β → Hp → Prop) : Prop := match r with
  | .ok d s' => ∀ w' v H', w.le w' → Ok G κ w' s' σ H' → rep w' v d → Q v H'
  | .exc x s' => ∀ w' c dd H', w.le w' → Ok G κ w' s' σ H' → RepX G w' c dd x → W c dd σ H'
  | .stuck => False
def tD (f : DE) : TE := fun σ H Q => ∃ κ w s, Ok G κ w s σ H ∧ PostG G W (Rep G) κ w σ (f s) Q
def tDT (f : DT) : TT := fun σ H Q => ∃ κ w s, Ok G κ w s σ H ∧ PostG G W (fun _ (v : Bool) d => v = d) κ w σ (f s) Q
def tDA (f : DA) : TA := fun σ H Q => ∃ κ w s, Ok G κ w s σ H ∧ PostG G W (Reps G) κ w σ (f s) Q
def PostS (κ : Bs) (w : Wd) (r : Res DS Out) (N : Ends) : Prop := match r with
  | .ok .nx s' => ∀ w' σ' H', w.le w' → Ok G κ w' s' σ' H' → N.nx σ' H'
  | .ok .bk s' => ∀ w' σ' H', w.le w' → Ok G κ w' s' σ' H' → N.bk σ' H'
  | .ok .ct s' => ∀ w' σ' H', w.le w' → Ok G κ w' s' σ' H' → N.ct σ' H'
  | .ok (.rt d) s' => ∀ w' σ' v H', w.le w' → Ok G κ w' s' σ' H' → Rep G w' v d → N.rt v H'
  | .exc x s' => ∀ w' σ' c dd H', w.le w' → Ok G κ w' s' σ' H' → RepX G w' c dd x → W c dd σ' H'
  | .stuck => False
def tDS (f : DStm) : TS := fun N σ H => ∃ κ w s, Ok G κ w s σ H ∧ PostS G W κ w (f s) N
end
section
variable {G : Gam} {W : WX} {α β γ δ : Type} {rep : Wd → β → α → Prop} {rep' : Wd → δ → γ → Prop} {κ : Bs} {w w1 : Wd} {σ : L2.St}
theorem PostG.mono {r : Res DS α} {Q : β → Hp → Prop} (le : w.le w1) (h : PostG G W rep κ w σ r Q) : PostG G W rep κ w1 σ r Q := by
  cases r with
  | ok d s' => exact fun w' v H' l o r => h w' v H' (le.trans l) o r
  | exc x s' => exact fun w' c dd H' l o r => h w' c dd H' (le.trans l) o r
  | stuck => exact h
theorem PostG.imp {r : Res DS α} {Q Q' : β → Hp → Prop} (h : PostG G W rep κ w σ r Q) (k : ∀ v H, Q v H → Q' v H) : PostG G W rep κ w σ r Q' := by
  cases r with
  | ok d s' => exact fun w' v H' l o r => k _ _ (h w' v H' l o r)
  | exc x s' => exact h
  | stuck => exact h
/-- behind the first of two -/
theorem PostG.bind {r : Res DS α} {k : α → DS → Res DS γ} {Q : δ → Hp → Prop} (h : PostG G W rep' κ w σ (r.bind k) Q) :
    PostG G W rep κ w σ r (fun v H1 => ∃ d s1 w1, w.le w1 ∧ Ok G κ w1 s1 σ H1 ∧ rep w1 v d ∧ PostG G W rep' κ w1 σ (k d s1) Q) := by
  cases r with
  | ok d s' => exact fun w' v H' l o r => ⟨d, s', w', l, o, r, PostG.mono l h⟩
  | exc x s' => exact h
  | stuck => exact h
theorem PostS.mono {r : Res DS Out} {N : Ends} (le : w.le w1) (h : PostS G W κ w r N) : PostS G W κ w1 r N := by
  cases r with
  | ok o s' =>
    cases o with
    | nx => exact fun w' σ' H' l o => h w' σ' H' (le.trans l) o
    | bk => exact fun w' σ' H' l o => h w' σ' H' (le.trans l) o
    | ct => exact fun w' σ' H' l o => h w' σ' H' (le.trans l) o
    | rt d => exact fun w' σ' v H' l o r => h w' σ' v H' (le.trans l) o r
  | exc x s' => exact fun w' σ' c dd H' l o r => h w' σ' c dd H' (le.trans l) o r
  | stuck => exact h
/-- an expression, then a statement's end -/
theorem PostG.bindS {r : Res DS α} {k : α → DS → Res DS Out} {N : Ends} (h : PostS G W κ w (r.bind k) N) :
    PostG G W rep κ w σ r (fun v H1 => ∃ d s1 w1, w.le w1 ∧ Ok G κ w1 s1 σ H1 ∧ rep w1 v d ∧ PostS G W κ w1 (k d s1) N) := by
  cases r with
  | ok d s' => exact fun w' v H' l o r => ⟨d, s', w', l, o, r, PostS.mono l h⟩
  | exc x s' => exact fun w' c dd H' l o r => h w' σ c dd H' l o r
  | stuck => exact h
end
theorem _root_.L2.PE.imp {X : Cx} {e : Expr} {t t' : TE} (h : PE X e t) (k : ∀ σ H Q, t' σ H Q → t σ H Q) : PE X e t' := ⟨fun pins s σ H Q I q => h.run pins s σ H Q I (k σ H Q q)⟩
theorem _root_.L2.PT.imp {X : Cx} {e : Expr} {t t' : TT} (h : PT X e t) (k : ∀ σ H Q, t' σ H Q → t σ H Q) : PT X e t' := ⟨fun pins s σ H Q I q => h.run pins s σ H Q I (k σ H Q q)⟩
theorem _root_.L2.PA.imp {X : Cx} {e : List Expr} {t t' : TA} (h : PA X e t) (k : ∀ σ H Q, t' σ H Q → t σ H Q) : PA X e t' := ⟨fun pos pins s σ H Q I q => h.run pos pins s σ H Q I (k σ H Q q)⟩
theorem _root_.L2.PS.imp {X : Cx} {e : Stmt} {t t' : TS} (h : PS X e t) (k : ∀ D σ H, t' D σ H → t D σ H) : PS X e t' := ⟨fun pins s σ H D I q => h.run pins s σ H D I (k D σ H q)⟩
theorem _root_.L2.PSs.imp {X : Cx} {e : List Stmt} {t t' : TS} (h : PSs X e t) (k : ∀ D σ H, t' D σ H → t D σ H) : PSs X e t' := ⟨fun pins s σ H D I q => h.run pins s σ H D I (k D σ H q)⟩
abbrev PD (G : Gam) (W : WX) (X : Cx) (e : Expr) (f : DE) : Prop := PE X e (tD G W f)
abbrev PDT (G : Gam) (W : WX) (X : Cx) (e : Expr) (f : DT) : Prop := PT X e (tDT G W f)
abbrev PDA (G : Gam) (W : WX) (X : Cx) (es : List Expr) (f : DA) : Prop := PA X es (tDA G W f)
abbrev PDS (G : Gam) (W : WX) (X : Cx) (st : Stmt) (f : DStm) : Prop := PS X st (tDS G W f)
abbrev PDSs (G : Gam) (W : WX) (X : Cx) (st : List Stmt) (f : DStm) : Prop := PSs X st (tDS G W f)
section
variable {G : Gam} {W : WX} {X : Cx}
/-! ### constants, names -/
def eC (d : D) : DE := fun s => .ok d s
theorem pd_c {e : Expr} {v : V} {d : D} (h : PE X e (tC v)) (r : ∀ w, Rep G w v d) : PD G W X e (eC d) :=
  h.imp fun σ H Q ⟨κ, w, s, ok, q⟩ => q w v H (.refl w) ok (r w)
theorem pd_int {i : Int} {j : Nat} {pos : Pos} : PD G W X (.Constant (.int i) j pos) (eC (.int i)) := pd_c pe_int fun _ => .int i
theorem pd_bl {b : Bool} {j : Nat} {pos : Pos} : PD G W X (.Constant (.bool b) j pos) (eC (.bl b)) := pd_c pe_bl fun _ => .bl b
theorem pd_non {j : Nat} {pos : Pos} : PD G W X (.Constant .none j pos) (eC .non) := pd_c pe_non fun _ => .non
theorem pd_str {x : Str} {l : Nm} {j : Nat} {pos : Pos} (h : x = nm l) : PD G W X (.Constant (.str x) j pos) (eC (.str l)) := pd_c pe_str fun _ => by rw [h]; exact .str l
theorem pd_glob {x : Str} {v : V} {u : Value} {d : D} {pos : Pos} (hg : Gl X x) (hm : X.mg x = some u) (r : RelV v u) (rd : ∀ w, Rep G w v d) (hd : (x == ("__debug__" : Str)) = false := by decide) : PD G W X (.Name x pos) (eC d) :=
  pd_c (pe_glob hg hm r hd) rd
def eVar (i : Nat) : DE := fun s => match s.sl[i]? with
  | some (.val d) => .ok d s
  | some (.ol xs) => .ok (.lst xs) ⟨s.sl.set i (.val (.lst xs)), s.st⟩
  | some (.od kvs) => .ok (.dic kvs) ⟨s.sl.set i (.val (.dic kvs)), s.st⟩
  | some (.ot kvs) => .ok (.dct kvs) ⟨s.sl.set i (.val (.dct kvs)), s.st⟩
  | some (.oi c fs) => .ok (.ins c fs) ⟨s.sl.set i (.val (.ins c fs)), s.st⟩
  | _ => .stuck
theorem Ok.freeze {κ : Bs} {w : Wd} {s : DS} {σ : L2.St} {H : Hp} (h : Ok G κ w s σ H) {i : Nat} {x : Sl} {a : Addr} {o : HO} {d : D} (hx : s.sl[i]? = some x) (own : x.own = true) (ha : σ[i]? = some (some (.ref a)))
    (ho : H a = some o) (hd : ∀ w' : Wd, w.le w' → w'.F a = some o → Rep G w' (.ref a) d) :
    w.le ⟨upd w.F a o, w.ρ⟩ ∧ Ok G κ ⟨upd w.F a o, w.ρ⟩ ⟨s.sl.set i (.val d), s.st⟩ σ H := by
  obtain ⟨a', h1, h2, h3, h4, h5⟩ := h.own i x hx own
  rw [ha] at h1
  cases h1
  have le : w.le ⟨upd w.F a o, w.ρ⟩ := ⟨fun b u e => by
    show upd w.F a o b = some u
    rw [upd_ne (ne_of_none e h3)]
    exact e, List.prefix_refl _⟩
  have hil : i < s.sl.length := (List.getElem?_eq_some_iff.mp hx).1
  have sub : ∀ (b : Addr) (u : HO), upd w.F a o b = some u → H b = some u := fun b u e => by
    by_cases z : b = a
    · subst z
      rw [upd_same] at e
      cases e
      exact ho
    · rw [upd_ne z] at e
      exact h.fok.sub b u e
  have fok : FOk G ⟨upd w.F a o, w.ρ⟩ s.st H := ⟨sub, h.fok.len, fun n b c e1 e2 => (h.fok.cel n b c e1 e2).mono le rfl, h.fok.nd, fun b hb => by
    show upd w.F a o b = none
    rw [upd_ne (show b ≠ a from fun z => h4 (by rw [← z]; exact hb))]
    exact h.fok.nf b hb⟩
  refine ⟨le, ⟨fok, ⟨h.nx.le.trans le, h.nx.keep, fun b q => ?_, h.nx.newR⟩, by rw [List.length_set]; exact h.len, fun j e hj => ?_, fun j y hj oy => ?_, fun j k y z b hj hk oy oz e1 e2 => ?_, fun p hp => ?_, fun b hb c fs e => ?_⟩⟩
  · by_cases z : b = a
    · subst z; exact .inr h5
    · have q : upd w.F a o b ≠ none := q
      rw [upd_ne z] at q
      exact h.nx.newF b q
  · by_cases z : j = i
    · subst z
      rw [List.getElem?_set_self hil] at hj
      cases hj
      exact ⟨_, ha, hd _ le upd_same⟩
    · rw [List.getElem?_set_ne (Ne.symm z)] at hj
      obtain ⟨v, q1, q2⟩ := h.val j e hj
      exact ⟨v, q1, q2.mono le⟩
  · by_cases z : j = i
    · subst z
      rw [List.getElem?_set_self hil] at hj
      cases hj
      cases oy
    · rw [List.getElem?_set_ne (Ne.symm z)] at hj
      obtain ⟨b, q1, q2, q3, q4, q5⟩ := h.own j y hj oy
      refine ⟨b, q1, q2.mono le rfl, ?_, q4, q5⟩
      show upd w.F a o b = none
      rw [upd_ne (show b ≠ a from fun e => z (h.ne j i y x b hj hx oy own q1 (by rw [e]; exact ha)))]
      exact q3
  · have nj : j ≠ i := fun z => by
      subst z
      rw [List.getElem?_set_self hil] at hj
      cases hj
      cases oy
    have nk : k ≠ i := fun z => by
      subst z
      rw [List.getElem?_set_self hil] at hk
      cases hk
      cases oz
    rw [List.getElem?_set_ne (Ne.symm nj)] at hj
    rw [List.getElem?_set_ne (Ne.symm nk)] at hk
    exact h.ne j k y z b hj hk oy oz e1 e2
  · obtain ⟨q1, q2, q3, q4, q5⟩ := h.gam p hp
    refine ⟨q1, ?_, q3, q4, fun j y hj oy => ?_⟩
    · show upd w.F a o p.1 = none
      rw [upd_ne (show p.1 ≠ a from fun e => q5 i x hx own (by rw [ha, e]))]
      exact q2
    · have nj : j ≠ i := fun z => by
        subst z
        rw [List.getElem?_set_self hil] at hj
        cases hj
        cases oy
      rw [List.getElem?_set_ne (Ne.symm nj)] at hj
      exact q5 j y hj oy
  · by_cases z : i = 0
    · subst z
      rw [List.getElem?_set_self hil] at e
      cases e
    · rw [List.getElem?_set_ne z] at e
      exact h.me b hb c fs e
theorem pd_var {i : Nat} {x : Str} {pos : Pos} (h : PE X (.Name x pos) (tVar i)) : PD G W X (.Name x pos) (eVar i) := h.imp fun σ H Q ⟨κ, w, s, ok, q⟩ => by
  unfold eVar at q
  cases e : s.sl[i]? with
  | none => rw [e] at q; exact q.elim
  | some x =>
    rw [e] at q
    cases x with
    | un => exact q.elim
    | val d =>
      obtain ⟨v, h1, h2⟩ := ok.val i d e
      exact ⟨v, h1, q w v H (.refl w) ok h2⟩
    | ol xs =>
      obtain ⟨a, h1, ⟨vs, h2, h3⟩, _⟩ := ok.own i _ e rfl
      obtain ⟨le, ok'⟩ := ok.freeze (d := .lst xs) e rfl h1 h2 fun w' l f => .lst f (h3.mono l)
      exact ⟨_, h1, q _ _ H le ok' (.lst upd_same (h3.mono le))⟩
    | od xs =>
      obtain ⟨a, h1, ⟨vs, h2, h3⟩, _⟩ := ok.own i _ e rfl
      obtain ⟨le, ok'⟩ := ok.freeze (d := .dic xs) e rfl h1 h2 fun w' l f => .dic f (h3.mono l)
      exact ⟨_, h1, q _ _ H le ok' (.dic upd_same (h3.mono le))⟩
    | ot xs =>
      obtain ⟨a, h1, ⟨es, ep, h2, h3, h4, h5⟩, _⟩ := ok.own i _ e rfl
      obtain ⟨le, ok'⟩ := ok.freeze (d := .dct xs) e rfl h1 h2 fun w' l f => .dct f (h3.mono l) h4 h5
      exact ⟨_, h1, q _ _ H le ok' (.dct upd_same (h3.mono le) h4 h5)⟩
    | oi c fs =>
      obtain ⟨a, h1, ⟨C, dx, vs, hC, h2, h3⟩, _⟩ := ok.own i _ e rfl
      obtain ⟨le, ok'⟩ := ok.freeze (d := .ins c fs) e rfl h1 h2 fun w' l f => .ins hC f (h3.mono l)
      exact ⟨_, h1, q _ _ H le ok' (.ins hC upd_same (h3.mono le))⟩
/-! ### operators -/
def eOp2 (o : D → D → Option D) (fa fb : DE) : DE := fun s => (fa s).bind fun x s1 => (fb s1).bind fun y s2 => match o x y with
  | some d => .ok d s2
  | none => .stuck
/-- an operator by data -/
def OpD (G : Gam) (X : Cx) (f : Value → Value → Sem Value) (o : D → D → Option D) : Prop := ∃ r, OpR X f r ∧ ∀ (κ : Bs) (w : Wd) (s : DS) (σ : L2.St) (H : Hp) (x y : V) (dx dy d : D) (Q : VK),
  Ok G κ w s σ H → Rep G w x dx → Rep G w y dy → o dx dy = some d → (∀ w' v H', w.le w' → Ok G κ w' s σ H' → Rep G w' v d → Q v H') → r x y H Q
theorem op2 {r : R2} {o : D → D → Option D} {fa fb : DE} {σ : L2.St} {H : Hp} {Q : VK}
    (hr : ∀ (κ : Bs) (w : Wd) (s : DS) (σ : L2.St) (H : Hp) (x y : V) (dx dy d : D) (Q : VK), Ok G κ w s σ H → Rep G w x dx → Rep G w y dy → o dx dy = some d → (∀ w' v H', w.le w' → Ok G κ w' s σ H' → Rep G w' v d → Q v H') → r x y H Q)
    (h : tD G W (eOp2 o fa fb) σ H Q) : tOp r (tD G W fa) (tD G W fb) σ H Q := by
  obtain ⟨κ, w, s, ok, q⟩ := h
  refine ⟨κ, w, s, ok, (PostG.bind q).imp fun v H1 ⟨d, s1, w1, le, ok1, r1, q1⟩ => ?_⟩
  refine ⟨κ, w1, s1, ok1, (PostG.bind q1).imp fun v2 H2 ⟨d2, s2, w2, le2, ok2, r2, q2⟩ => ?_⟩
  cases e : o d d2 with
  | none => rw [e] at q2; exact q2.elim
  | some z => rw [e] at q2; exact hr κ w2 s2 σ H2 v v2 d d2 z Q ok2 (r1.mono le2) r2 e q2
theorem pd_op {op : Operator} {o : D → D → Option D} {a b : Expr} {fa fb : DE} {pos : Pos} (ho : OpD G X (binaryOp op) o) (ha : PD G W X a fa) (hb : PD G W X b fb) : PD G W X (.BinOp a op b pos) (eOp2 o fa fb) := by
  obtain ⟨r, h1, h2⟩ := ho
  exact (pe_op h1 ha hb).imp fun σ H Q h => op2 h2 h
theorem pd_cmp {op : CmpOp} {o : D → D → Option D} {a b : Expr} {fa fb : DE} {pos : Pos} (ho : OpD G X (compareOp op) o) (ha : PD G W X a fa) (hb : PD G W X b fb) (hm : behindInMarks op b = false) : PD G W X (.Compare a [op] [b] pos) (eOp2 o fa fb) := by
  obtain ⟨r, h1, h2⟩ := ho
  exact (pe_cmpR h1 ha hb hm).imp fun σ H Q h => op2 h2 h
/-- a value that is a bool, as a test -/
def eB (f : DE) : DT := fun s => (f s).bind fun d s1 => match d with
  | .bl b => .ok b s1
  | _ => .stuck
theorem tB_of {f : DE} {σ : L2.St} {H : Hp} {Q : Bool → Hp → Prop} (h : tDT G W (eB f) σ H Q) : tD G W f σ H fun x H1 => ∃ c, x = .bl c ∧ Q c H1 := by
  obtain ⟨κ, w, s, ok, q⟩ := h
  refine ⟨κ, w, s, ok, (PostG.bind q).imp fun v H1 ⟨d, s1, w1, le, ok1, r1, q1⟩ => ?_⟩
  cases r1 with
  | bl b => exact ⟨b, rfl, q1 w1 b H1 (.refl _) ok1 rfl⟩
  | _ => exact q1.elim
theorem ptd_val {e : Expr} {f : DE} (h : PD G W X e f) (he : ∀ whole, isTrue e X.env whole = (do let v ← whole; standAt e.pos; holding [v] (truthy v)) := by intro _; rfl) : PDT G W X e (eB f) :=
  (pt_val h he).imp fun σ H Q q => tB_of q
theorem ptd_cmp {op : CmpOp} {o : D → D → Option D} {a b : Expr} {fa fb : DE} {pos : Pos} (ho : OpD G X (compareOp op) o) (ha : PD G W X a fa) (hb : PD G W X b fb) (hm : behindInMarks op b = false) : PDT G W X (.Compare a [op] [b] pos) (eB (eOp2 o fa fb)) := by
  obtain ⟨r, h1, h2⟩ := ho
  exact (pt_cmpR h1 ha hb hm).imp fun σ H Q h => op2 h2 (tB_of h)
/-! ### and, or, not, if -/
def bAnd (f g : DT) : DT := fun s => (f s).bind fun b s1 => if b = true then g s1 else .ok false s1
def bOr (f g : DT) : DT := fun s => (f s).bind fun b s1 => if b = true then .ok true s1 else g s1
def bNot (f : DT) : DT := fun s => (f s).bind fun b s1 => .ok (!b) s1
abbrev PDW (G : Gam) (W : WX) (X : Cx) (e : Expr) (f : DT) : Prop := PW X e (tDT G W f)
theorem _root_.L2.PW.imp {X : Cx} {e : Expr} {t t' : TT} (h : PW X e t) (k : ∀ σ H Q, t' σ H Q → t σ H Q) : PW X e t' := ⟨fun wh pins s σ H Q I q => h.run wh pins s σ H Q I (k σ H Q q)⟩
theorem pwd_and1 {a : Expr} {f : DT} {pos : Pos} (h : PDT G W X a f) : PDW G W X (.BoolOp .And [a] pos) f := pw_and1 h
theorem pwd_or1 {a : Expr} {f : DT} {pos : Pos} (h : PDT G W X a f) : PDW G W X (.BoolOp .Or [a] pos) f := pw_or1 h
theorem pwd_and {a b : Expr} {r : List Expr} {f g : DT} {pos : Pos} (h : PDT G W X a f) (k : PDW G W X (.BoolOp .And (b :: r) pos) g) : PDW G W X (.BoolOp .And (a :: b :: r) pos) (bAnd f g) :=
  (pw_and h k).imp fun σ H Q ⟨κ, w, s, ok, q⟩ => ⟨κ, w, s, ok, (PostG.bind q).imp fun v H1 ⟨d, s1, w1, le, ok1, r1, q1⟩ => by
    subst r1
    cases v with
    | true => exact ⟨κ, w1, s1, ok1, q1⟩
    | false => exact q1 w1 false H1 (.refl _) ok1 rfl⟩
theorem pwd_or {a b : Expr} {r : List Expr} {f g : DT} {pos : Pos} (h : PDT G W X a f) (k : PDW G W X (.BoolOp .Or (b :: r) pos) g) : PDW G W X (.BoolOp .Or (a :: b :: r) pos) (bOr f g) :=
  (pw_or h k).imp fun σ H Q ⟨κ, w, s, ok, q⟩ => ⟨κ, w, s, ok, (PostG.bind q).imp fun v H1 ⟨d, s1, w1, le, ok1, r1, q1⟩ => by
    subst r1
    cases v with
    | false => exact ⟨κ, w1, s1, ok1, q1⟩
    | true => exact q1 w1 true H1 (.refl _) ok1 rfl⟩
theorem ptd_not {a : Expr} {f : DT} {pos : Pos} (h : PDT G W X a f) : PDT G W X (.UnaryOp .Not a pos) (bNot f) :=
  (pt_not h).imp fun σ H Q ⟨κ, w, s, ok, q⟩ => ⟨κ, w, s, ok, (PostG.bind q).imp fun v H1 ⟨d, s1, w1, le, ok1, r1, q1⟩ => by
    subst r1
    exact q1 w1 _ H1 (.refl _) ok1 rfl⟩
/-- as values -/
def eAnd (f g : DE) : DE := fun s => (f s).bind fun d s1 => match d with
  | .bl b => if b = true then g s1 else .ok (.bl false) s1
  | _ => .stuck
def eOr (f g : DE) : DE := fun s => (f s).bind fun d s1 => match d with
  | .bl b => if b = true then .ok (.bl true) s1 else g s1
  | _ => .stuck
def eNot (f : DE) : DE := fun s => (f s).bind fun d s1 => match d with
  | .bl b => .ok (.bl (!b)) s1
  | _ => .stuck
theorem pd_one {op : PySem.BoolOp} {a : Expr} {f : DE} {pos : Pos} (h : PD G W X a f) : PD G W X (.BoolOp op [a] pos) f := pe_one h
theorem pd_and {a b : Expr} {r : List Expr} {f g : DE} {pos : Pos} (h : PD G W X a f) (k : PD G W X (.BoolOp .And (b :: r) pos) g) : PD G W X (.BoolOp .And (a :: b :: r) pos) (eAnd f g) :=
  (pe_and h k).imp fun σ H Q ⟨κ, w, s, ok, q⟩ => ⟨κ, w, s, ok, (PostG.bind q).imp fun v H1 ⟨d, s1, w1, le, ok1, r1, q1⟩ => by
    cases r1 with
    | bl b =>
      refine ⟨b, rfl, ?_⟩
      cases b with
      | true => exact ⟨κ, w1, s1, ok1, q1⟩
      | false => exact q1 w1 _ H1 (.refl _) ok1 (.bl false)
    | _ => exact q1.elim⟩
theorem pd_or {a b : Expr} {r : List Expr} {f g : DE} {pos : Pos} (h : PD G W X a f) (k : PD G W X (.BoolOp .Or (b :: r) pos) g) : PD G W X (.BoolOp .Or (a :: b :: r) pos) (eOr f g) :=
  (pe_or h k).imp fun σ H Q ⟨κ, w, s, ok, q⟩ => ⟨κ, w, s, ok, (PostG.bind q).imp fun v H1 ⟨d, s1, w1, le, ok1, r1, q1⟩ => by
    cases r1 with
    | bl b =>
      refine ⟨b, rfl, ?_⟩
      cases b with
      | false => exact ⟨κ, w1, s1, ok1, q1⟩
      | true => exact q1 w1 _ H1 (.refl _) ok1 (.bl true)
    | _ => exact q1.elim⟩
theorem pd_not {a : Expr} {f : DE} {pos : Pos} (h : PD G W X a f) : PD G W X (.UnaryOp .Not a pos) (eNot f) :=
  (pe_not h).imp fun σ H Q ⟨κ, w, s, ok, q⟩ => ⟨κ, w, s, ok, (PostG.bind q).imp fun v H1 ⟨d, s1, w1, le, ok1, r1, q1⟩ => by
    cases r1 with
    | bl b => exact ⟨b, rfl, q1 w1 _ H1 (.refl _) ok1 (.bl _)⟩
    | _ => exact q1.elim⟩
def eIf (c : DT) (f g : DE) : DE := fun s => (c s).bind fun b s1 => if b = true then f s1 else g s1
theorem pd_ifExp {c a b : Expr} {fc : DT} {f g : DE} {pos : Pos} (hc : PDT G W X c fc) (h : PD G W X a f) (k : PD G W X b g) : PD G W X (.IfExp c a b pos) (eIf fc f g) :=
  (pe_ifExp hc h k).imp fun σ H Q ⟨κ, w, s, ok, q⟩ => ⟨κ, w, s, ok, (PostG.bind q).imp fun v H1 ⟨d, s1, w1, le, ok1, r1, q1⟩ => by
    subst r1
    cases v with
    | true => exact ⟨κ, w1, s1, ok1, q1⟩
    | false => exact ⟨κ, w1, s1, ok1, q1⟩⟩
/-! ### argument lists -/
def aNil : DA := fun s => .ok [] s
def aCons (f : DE) (g : DA) : DA := fun s => (f s).bind fun d s1 => (g s1).bind fun ds s2 => .ok (d :: ds) s2
theorem pda_nil : PDA G W X [] aNil := pa_nil.imp fun σ H Q ⟨κ, w, s, ok, q⟩ => q w [] H (.refl _) ok .nil
theorem pda_cons {e : Expr} {es : List Expr} {f : DE} {g : DA} (h : PD G W X e f) (k : PDA G W X es g) (hs : starEach (e :: es) X.env = (false, eval e X.env) :: starEach es X.env := by rfl) : PDA G W X (e :: es) (aCons f g) :=
  (pa_cons h k hs).imp fun σ H Q ⟨κ, w, s, ok, q⟩ => ⟨κ, w, s, ok, (PostG.bind q).imp fun v H1 ⟨d, s1, w1, le, ok1, r1, q1⟩ =>
    ⟨κ, w1, s1, ok1, (PostG.bind q1).imp fun v2 H2 ⟨d2, s2, w2, le2, ok2, r2, q2⟩ => q2 w2 _ H2 (.refl _) ok2 (.cons (r1.mono le2) r2)⟩⟩
/-! ### tuples, lists -/
def eTup (g : DA) : DE := fun s => (g s).bind fun ds s1 => if ds.length ≤ 1000 then .ok (.tup ds) s1 else .stuck
theorem sz1000 {n : Nat} (h : n ≤ 1000) : n ≤ sizeLine := Nat.le_of_lt (small1000 h)
theorem pd_tup {es : List Expr} {k : Nat} {g : DA} {pos : Pos} (h : PDA G W X es g) : PD G W X (.Tuple es k pos) (eTup g) :=
  (pe_tup h).imp fun σ H Q ⟨κ, w, s, ok, q⟩ => ⟨κ, w, s, ok, (PostG.bind q).imp fun v H1 ⟨d, s1, w1, le, ok1, r1, q1⟩ => by
    by_cases c : d.length ≤ 1000
    · rw [if_pos c] at q1
      refine ⟨by rw [r1.length]; exact sz1000 c, fun p hp => ?_⟩
      obtain ⟨le2, ok2⟩ := ok1.alloc hp (.tup v)
      exact q1 _ _ _ le2 ok2 (.tup (.inl (.inl upd_same)) (r1.mono le2))
    · rw [if_neg c] at q1
      exact q1.elim⟩
end
end DL
set_option maxRecDepth 100000
set_option maxHeartbeats 4000000
set_option autoImplicit false
namespace DL
open PySem PySem.Spec PyProof.Rows L2
section
variable {G : Gam} {W : WX} {X : Cx} {κ : Bs} {w : Wd} {s : DS} {σ : L2.St} {H : Hp}
/-- an object set apart -/
abbrev Bs.plus (κ : Bs) (a : Addr) (o : HO) : Bs := ⟨κ.B, κ.H, (a, o) :: κ.γ, κ.me⟩
theorem Ok.back (h : Ok G κ w s σ H) {p : Addr} (hp : H p = none) : κ.H p = none := by
  cases e : κ.H p with
  | none => rfl
  | some o =>
    by_cases hx : p ∈ κ.B.ρ
    · obtain ⟨o', q⟩ := h.fok.rho (h.nx.le.r.subset hx)
      rw [q] at hp; cases hp
    · rw [h.nx.keep p o e hx] at hp; cases hp
/-- a new object, set apart -/
theorem Ok.fresh (h : Ok G κ w s σ H) {p : Addr} (hp : H p = none) (o : HO) : Ok G (κ.plus p o) w s σ (upd H p o) := by
  have ne : ∀ {a : Addr} {u : HO}, H a = some u → a ≠ p := fun e => ne_of_none e hp
  have nF : w.F p = none := by
    cases e : w.F p with
    | none => rfl
    | some u => rw [h.fok.sub p u e] at hp; cases hp
  have nR : p ∉ w.ρ := fun q => by
    obtain ⟨u, e⟩ := h.fok.rho q
    rw [e] at hp; cases hp
  refine ⟨⟨fun a u e => ?_, h.fok.len, fun n a c e1 e2 => ?_, h.fok.nd, h.fok.nf⟩, ⟨h.nx.le, fun a u e n => ?_, h.nx.newF, h.nx.newR⟩, h.len, h.val, fun i x e o' => ?_, h.ne, fun q hq => ?_, h.me⟩
  · rw [upd_ne (ne (h.fok.sub a u e))]
    exact h.fok.sub a u e
  · obtain ⟨u, q⟩ := (h.fok.cel n a c e1 e2).there
    exact (h.fok.cel n a c e1 e2).mono (.refl _) (upd_ne (ne q))
  · rw [upd_ne (ne (h.nx.keep a u e n))]
    exact h.nx.keep a u e n
  · obtain ⟨a, h1, h2, h3, h4, h5⟩ := h.own i x e o'
    obtain ⟨u, q⟩ := h2.there
    exact ⟨a, h1, h2.mono (.refl _) (upd_ne (ne q)), h3, h4, h5⟩
  · rcases List.mem_cons.mp hq with rfl | hq
    · refine ⟨upd_same, nF, nR, h.back hp, fun i x e o' z => ?_⟩
      obtain ⟨a, h1, h2, _⟩ := h.own i x e o'
      rw [h1] at z
      cases z
      obtain ⟨u, q⟩ := h2.there
      exact ne q rfl
    · obtain ⟨h1, h2⟩ := h.gam q hq
      exact ⟨by rw [upd_ne (ne h1)]; exact h1, h2⟩
theorem Ok.unplus {a : Addr} {o : HO} (h : Ok G (κ.plus a o) w s σ H) : Ok G κ w s σ H := ⟨h.fok, h.nx, h.len, h.val, h.own, h.ne, fun p hp => h.gam p (List.mem_cons_of_mem _ hp), h.me⟩
/-- what was set apart is frozen (its address is not set apart twice) -/
theorem Ok.frz {a : Addr} {o : HO} (h : Ok G (κ.plus a o) w s σ H) (hγ : ∀ p ∈ κ.γ, p.1 ≠ a) : w.le ⟨upd w.F a o, w.ρ⟩ ∧ Ok G κ ⟨upd w.F a o, w.ρ⟩ s σ H := by
  obtain ⟨ho, h3, h4, h5, h6⟩ := h.gam (a, o) List.mem_cons_self
  have le : w.le ⟨upd w.F a o, w.ρ⟩ := ⟨fun b u e => by
    show upd w.F a o b = some u
    rw [upd_ne (ne_of_none e h3)]
    exact e, List.prefix_refl _⟩
  have sub : ∀ (b : Addr) (u : HO), upd w.F a o b = some u → H b = some u := fun b u e => by
    by_cases z : b = a
    · subst z
      rw [upd_same] at e
      cases e
      exact ho
    · rw [upd_ne z] at e
      exact h.fok.sub b u e
  refine ⟨le, ⟨⟨sub, h.fok.len, fun n b c e1 e2 => (h.fok.cel n b c e1 e2).mono le rfl, h.fok.nd, fun b hb => ?_⟩, ⟨h.nx.le.trans le, h.nx.keep, fun b q => ?_, h.nx.newR⟩, h.len, fun i d e => ?_, fun i x e o' => ?_, h.ne, fun p hp => ?_, h.me⟩⟩
  · show upd w.F a o b = none
    rw [upd_ne (show b ≠ a from fun z => h4 (by rw [← z]; exact hb))]
    exact h.fok.nf b hb
  · by_cases z : b = a
    · subst z; exact .inr h5
    · have q : upd w.F a o b ≠ none := q
      rw [upd_ne z] at q
      exact h.nx.newF b q
  · obtain ⟨v, h1, h2⟩ := h.val i d e
    exact ⟨v, h1, h2.mono le⟩
  · obtain ⟨b, q1, q2, q3, q4, q5⟩ := h.own i x e o'
    refine ⟨b, q1, q2.mono le rfl, ?_, q4, q5⟩
    show upd w.F a o b = none
    rw [upd_ne (show b ≠ a from fun z => h6 i x e o' (by rw [q1, z]))]
    exact q3
  · obtain ⟨q1, q2, q3⟩ := h.gam p (List.mem_cons_of_mem _ hp)
    refine ⟨q1, ?_, q3⟩
    show upd w.F a o p.1 = none
    rw [upd_ne (hγ p hp)]
    exact q2
/-- a slot is set -/
theorem Ok.setVal (h : Ok G κ w s σ H) {v : V} {d : D} (r : Rep G w v d) (i : Nat) : Ok G κ w ⟨s.sl.set i (.val d), s.st⟩ (σ.set i (some v)) H := by
  have back : ∀ (j : Nat) (x : Sl), (s.sl.set i (.val d))[j]? = some x → (j = i ∧ x = .val d ∧ i < s.sl.length) ∨ (j ≠ i ∧ s.sl[j]? = some x) := fun j x e => by
    by_cases z : j = i
    · subst z
      have hl : j < s.sl.length := by
        have := (List.getElem?_eq_some_iff.mp e).1
        rwa [List.length_set] at this
      rw [List.getElem?_set_self hl] at e
      exact .inl ⟨rfl, (Option.some.inj e).symm, hl⟩
    · rw [List.getElem?_set_ne (Ne.symm z)] at e
      exact .inr ⟨z, e⟩
  refine ⟨h.fok, h.nx, by rw [List.length_set, List.length_set]; exact h.len, fun j e hj => ?_, fun j x hj o => ?_, fun j k x y a hj hk ox oy e1 e2 => ?_, fun p hp => ?_, fun b hb c fs e => ?_⟩
  · rcases back j _ hj with ⟨rfl, q, hl⟩ | ⟨z, hj⟩
    · cases q
      exact ⟨v, List.getElem?_set_self (by rw [← h.len]; exact hl), r⟩
    · rw [List.getElem?_set_ne (Ne.symm z)]
      exact h.val j e hj
  · rcases back j _ hj with ⟨rfl, q, hl⟩ | ⟨z, hj⟩
    · subst q; cases o
    · rw [List.getElem?_set_ne (Ne.symm z)]
      exact h.own j x hj o
  · rcases back j _ hj with ⟨rfl, q, hl⟩ | ⟨z, hj⟩
    · subst q; cases ox
    · rcases back k _ hk with ⟨rfl, q, hl⟩ | ⟨z', hk⟩
      · subst q; cases oy
      · rw [List.getElem?_set_ne (Ne.symm z)] at e1
        rw [List.getElem?_set_ne (Ne.symm z')] at e2
        exact h.ne j k x y a hj hk ox oy e1 e2
  · obtain ⟨q1, q2, q3, q4, q5⟩ := h.gam p hp
    refine ⟨q1, q2, q3, q4, fun j x hj o => ?_⟩
    rcases back j _ hj with ⟨rfl, q, hl⟩ | ⟨z, hj⟩
    · subst q; cases o
    · rw [List.getElem?_set_ne (Ne.symm z)]
      exact q5 j x hj o
  · rcases back 0 _ e with ⟨z, q, hl⟩ | ⟨z, e⟩
    · cases q
    · rw [List.getElem?_set_ne (Ne.symm z)]
      exact h.me b hb c fs e
/-- a slot gets what was set apart -/
theorem Ok.setOwn {a : Addr} {o : HO} (h : Ok G (κ.plus a o) w s σ H) (hγ : ∀ p ∈ κ.γ, p.1 ≠ a) {y : Sl} (hy : OwnOk G w H a y) (oy : y.own = true) (hy0 : ∀ c fs, y ≠ .oi c fs) (i : Nat) : Ok G κ w ⟨s.sl.set i y, s.st⟩ (σ.set i (some (.ref a))) H := by
  obtain ⟨ho, h3, h4, h5, h6⟩ := h.gam (a, o) List.mem_cons_self
  have back : ∀ (j : Nat) (x : Sl), (s.sl.set i y)[j]? = some x → (j = i ∧ x = y ∧ i < s.sl.length) ∨ (j ≠ i ∧ s.sl[j]? = some x) := fun j x e => by
    by_cases z : j = i
    · subst z
      have hl : j < s.sl.length := by
        have := (List.getElem?_eq_some_iff.mp e).1
        rwa [List.length_set] at this
      rw [List.getElem?_set_self hl] at e
      exact .inl ⟨rfl, (Option.some.inj e).symm, hl⟩
    · rw [List.getElem?_set_ne (Ne.symm z)] at e
      exact .inr ⟨z, e⟩
  refine ⟨h.fok, h.nx, by rw [List.length_set, List.length_set]; exact h.len, fun j e hj => ?_, fun j x hj o' => ?_, fun j k x z b hj hk ox oz e1 e2 => ?_, fun p hp => ?_, fun b hb c fs e => ?_⟩
  · rcases back j _ hj with ⟨rfl, q, hl⟩ | ⟨z, hj⟩
    · subst q; cases oy
    · rw [List.getElem?_set_ne (Ne.symm z)]
      exact h.val j e hj
  · rcases back j _ hj with ⟨rfl, q, hl⟩ | ⟨z, hj⟩
    · subst q
      exact ⟨a, List.getElem?_set_self (by rw [← h.len]; exact hl), hy, h3, h4, h5⟩
    · rw [List.getElem?_set_ne (Ne.symm z)]
      exact h.own j x hj o'
  · rcases back j _ hj with ⟨ej, q, hl⟩ | ⟨zj, hj⟩
    · rcases back k _ hk with ⟨ek, q', hl'⟩ | ⟨zk, hk⟩
      · rw [ej, ek]
      · rw [ej, List.getElem?_set_self (by rw [← h.len]; exact hl)] at e1
        cases e1
        rw [List.getElem?_set_ne (Ne.symm zk)] at e2
        exact absurd e2 (h6 k z hk oz)
    · rcases back k _ hk with ⟨ek, q', hl'⟩ | ⟨zk, hk⟩
      · rw [ek, List.getElem?_set_self (by rw [← h.len]; exact hl')] at e2
        cases e2
        rw [List.getElem?_set_ne (Ne.symm zj)] at e1
        exact absurd e1 (h6 j x hj ox)
      · rw [List.getElem?_set_ne (Ne.symm zj)] at e1
        rw [List.getElem?_set_ne (Ne.symm zk)] at e2
        exact h.ne j k x z b hj hk ox oz e1 e2
  · obtain ⟨q1, q2, q3, q4, q5⟩ := h.gam p (List.mem_cons_of_mem _ hp)
    refine ⟨q1, q2, q3, q4, fun j x hj o' => ?_⟩
    rcases back j _ hj with ⟨ej, q, hl⟩ | ⟨z, hj⟩
    · rw [ej, List.getElem?_set_self (by rw [← h.len]; exact hl)]
      exact fun e => hγ p hp (by cases e; rfl)
    · rw [List.getElem?_set_ne (Ne.symm z)]
      exact q5 j x hj o'
  · rcases back 0 _ e with ⟨z, q, hl⟩ | ⟨z, e⟩
    · exact absurd q.symm (hy0 c fs)
    · rw [List.getElem?_set_ne (Ne.symm z)]
      exact h.me b hb c fs e
/-- the thing of an own slot is changed -/
theorem Ok.mut (h : Ok G κ w s σ H) {i : Nat} {x y : Sl} {a : Addr} {o : HO} (hx : s.sl[i]? = some x) (ox : x.own = true) (oy : y.own = true) (ha : σ[i]? = some (some (.ref a))) (hy : OwnOk G w (upd H a o) a y) (hxy : ∀ c fs, y = .oi c fs → ∃ c' fs', x = .oi c' fs') :
    Ok G κ w ⟨s.sl.set i y, s.st⟩ σ (upd H a o) := by
  obtain ⟨a', h1, h2, h3, h4, h5⟩ := h.own i x hx ox
  rw [ha] at h1
  cases h1
  have hil : i < s.sl.length := (List.getElem?_eq_some_iff.mp hx).1
  have back : ∀ (j : Nat) (z : Sl), (s.sl.set i y)[j]? = some z → (j = i ∧ z = y) ∨ (j ≠ i ∧ s.sl[j]? = some z) := fun j z e => by
    by_cases q : j = i
    · subst q
      rw [List.getElem?_set_self hil] at e
      exact .inl ⟨rfl, (Option.some.inj e).symm⟩
    · rw [List.getElem?_set_ne (Ne.symm q)] at e
      exact .inr ⟨q, e⟩
  refine ⟨⟨fun b u e => ?_, h.fok.len, fun n b c e1 e2 => ?_, h.fok.nd, h.fok.nf⟩, ⟨h.nx.le, fun b u e n => ?_, h.nx.newF, h.nx.newR⟩, by rw [List.length_set]; exact h.len, fun j d hj => ?_, fun j z hj oz => ?_, fun j k z z' b hj hk oz oz' e1 e2 => ?_, fun p hp => ?_, fun b hb c fs e => ?_⟩
  · rw [upd_ne (ne_of_none e h3)]
    exact h.fok.sub b u e
  · exact (h.fok.cel n b c e1 e2).mono (.refl _) (upd_ne fun z => h4 (by rw [← z]; exact List.mem_of_getElem? e1))
  · rw [upd_ne (ne_of_none e h5)]
    exact h.nx.keep b u e n
  · rcases back j _ hj with ⟨rfl, q⟩ | ⟨_, hj⟩
    · subst q; cases oy
    · exact h.val j d hj
  · rcases back j _ hj with ⟨rfl, q⟩ | ⟨nj, hj⟩
    · subst q
      exact ⟨a, ha, hy, h3, h4, h5⟩
    · obtain ⟨b, q1, q2, q3, q4, q5⟩ := h.own j z hj oz
      exact ⟨b, q1, q2.mono (.refl _) (upd_ne fun e => nj (h.ne j i z x b hj hx oz ox q1 (by rw [e]; exact ha))), q3, q4, q5⟩
  · rcases back j _ hj with ⟨ej, q⟩ | ⟨nj, hj⟩
    · rcases back k _ hk with ⟨ek, q'⟩ | ⟨nk, hk⟩
      · rw [ej, ek]
      · rw [ej] at e1 ⊢
        exact h.ne i k x z' b hx hk ox oz' e1 e2
    · rcases back k _ hk with ⟨ek, q'⟩ | ⟨nk, hk⟩
      · rw [ek] at e2 ⊢
        exact h.ne j i z x b hj hx oz ox e1 e2
      · exact h.ne j k z z' b hj hk oz oz' e1 e2
  · obtain ⟨q1, q2, q3, q4, q5⟩ := h.gam p hp
    have np : p.1 ≠ a := fun e => q5 i x hx ox (by rw [ha, e])
    refine ⟨by rw [upd_ne np]; exact q1, q2, q3, q4, fun j z hj oz => ?_⟩
    rcases back j _ hj with ⟨ej, q⟩ | ⟨nj, hj⟩
    · rw [ej, ha]
      exact fun e => np (by cases e; rfl)
    · exact q5 j z hj oz
  · rcases back 0 _ e with ⟨z, q⟩ | ⟨z, e⟩
    · obtain ⟨c', fs', q'⟩ := hxy c fs q.symm
      subst q'
      subst z
      exact h.me b hb c' fs' hx
    · exact h.me b hb c fs e
/-- a cell of the store is changed -/
theorem Ok.cell (h : Ok G κ w s σ H) {n : Nat} {a : Addr} {c : Cell} {o : HO} (ha : w.ρ[n]? = some a) (hc : CellOk G w (upd H a o) a c) : Ok G κ w ⟨s.sl, s.st.set n c⟩ σ (upd H a o) := by
  have hm : a ∈ w.ρ := List.mem_of_getElem? ha
  have hn : n < w.ρ.length := (List.getElem?_eq_some_iff.mp ha).1
  refine ⟨⟨fun b u e => ?_, by rw [List.length_set]; exact h.fok.len, fun k b c' e1 e2 => ?_, h.fok.nd, h.fok.nf⟩, ⟨h.nx.le, fun b u e q => ?_, h.nx.newF, h.nx.newR⟩, h.len, h.val, fun j z hj oz => ?_, h.ne, fun p hp => ?_, h.me⟩
  · rw [upd_ne (ne_of_none e (h.fok.nf a hm))]
    exact h.fok.sub b u e
  · by_cases z : k = n
    · subst z
      rw [ha] at e1
      cases e1
      rw [List.getElem?_set_self (by rw [← h.fok.len]; exact hn)] at e2
      cases e2
      exact hc
    · rw [List.getElem?_set_ne (Ne.symm z)] at e2
      refine (h.fok.cel k b c' e1 e2).mono (.refl _) (upd_ne fun e => z ?_)
      subst e
      exact nodup_ix_any h.fok.nd e1 ha
  · have hbne : b ≠ a := fun e' => by
      subst e'
      rcases h.nx.newR b hm with z | z
      · exact q z
      · rw [e] at z; cases z
    rw [upd_ne hbne]
    exact h.nx.keep b u e q
  · obtain ⟨b, q1, q2, q3, q4, q5⟩ := h.own j z hj oz
    exact ⟨b, q1, q2.mono (.refl _) (upd_ne fun e => q4 (by rw [e]; exact hm)), q3, q4, q5⟩
  · obtain ⟨q1, q2, q3, q4⟩ := h.gam p hp
    exact ⟨by rw [upd_ne fun e => q3 (by rw [e]; exact hm)]; exact q1, q2, q3, q4⟩
where
  nodup_ix_any {l : List Addr} (hN : l.Nodup) {i j : Nat} {x : Addr} (a : l[i]? = some x) (b : l[j]? = some x) : i = j := by
    obtain ⟨h1, e1⟩ := List.getElem?_eq_some_iff.mp a
    obtain ⟨h2, e2⟩ := List.getElem?_eq_some_iff.mp b
    exact (List.getElem_inj hN).mp (e1.trans e2.symm)
end
end DL
set_option maxRecDepth 100000
set_option maxHeartbeats 4000000
set_option autoImplicit false
namespace DL
open PySem PySem.Spec PyProof.Rows L2
section
variable (G : Gam) (W : WX)
/-- a new list of one's own -/
def PostO (κ : Bs) (w : Wd) (σ : L2.St) (r : Res DS (List D)) (Q : VK) : Prop := match r with
  | .ok xs s' => ∀ w' a vs H', w.le w' → Ok G (κ.plus a (.lst vs)) w' s' σ H' → (∀ p ∈ κ.γ, p.1 ≠ a) → Reps G w' vs xs → Q (.ref a) H'
  | .exc x s' => ∀ w' c dd H', w.le w' → Ok G κ w' s' σ H' → RepX G w' c dd x → W c dd σ H'
  | .stuck => False
def tDo (f : DA) : TE := fun σ H Q => ∃ κ w s, Ok G κ w s σ H ∧ PostO G W κ w σ (f s) Q
end
abbrev PDo (G : Gam) (W : WX) (X : Cx) (e : Expr) (f : DA) : Prop := PE X e (tDo G W f)
section
variable {G : Gam} {W : WX} {X : Cx}
theorem PostO.mono {κ : Bs} {w w1 : Wd} {σ : L2.St} {r : Res DS (List D)} {Q : VK} (le : w.le w1) (h : PostO G W κ w σ r Q) : PostO G W κ w1 σ r Q := by
  cases r with
  | ok d s' => exact fun w' a vs H' l o g r => h w' a vs H' (le.trans l) o g r
  | exc x s' => exact fun w' c dd H' l o r => h w' c dd H' (le.trans l) o r
  | stuck => exact h
theorem Ok.apart {κ : Bs} {w : Wd} {s : DS} {σ : L2.St} {H : Hp} (h : Ok G κ w s σ H) {p : Addr} (hp : H p = none) : ∀ q ∈ κ.γ, q.1 ≠ p := fun q hq => ne_of_none (h.gam q hq).1 hp
/-- an expression, then a new list -/
theorem PostG.bindO {α β : Type} {rep : Wd → β → α → Prop} {κ : Bs} {w : Wd} {σ : L2.St} {r : Res DS α} {k : α → DS → Res DS (List D)} {Q : VK} (h : PostO G W κ w σ (r.bind k) Q) :
    PostG G W rep κ w σ r (fun v H1 => ∃ d s1 w1, w.le w1 ∧ Ok G κ w1 s1 σ H1 ∧ rep w1 v d ∧ PostO G W κ w1 σ (k d s1) Q) := by
  cases r with
  | ok d s' => exact fun w' v H' l o r => ⟨d, s', w', l, o, r, PostO.mono l h⟩
  | exc x s' => exact h
  | stuck => exact h
def aMax (g : DA) : DA := fun s => (g s).bind fun ds s1 => if ds.length ≤ 1000 then .ok ds s1 else .stuck
theorem pdo_lst {es : List Expr} {g : DA} {pos : Pos} (h : PDA G W X es g) : PDo G W X (.List es pos) (aMax g) :=
  (pe_lst h).imp fun σ H Q ⟨κ, w, s, ok, q⟩ => ⟨κ, w, s, ok, (PostG.bindO q).imp fun v H1 ⟨d, s1, w1, le, ok1, r1, q1⟩ => by
    by_cases c : d.length ≤ 1000
    · rw [if_pos c] at q1
      refine ⟨by rw [r1.length]; exact sz1000 c, fun p hp => ?_⟩
      exact q1 w1 p v _ (.refl _) (ok1.fresh hp _) (ok1.apart hp) r1
    · rw [if_neg c] at q1
      exact q1.elim⟩
def eFrz (f : DA) : DE := fun s => (f s).bind fun xs s1 => .ok (.lst xs) s1
theorem pdo_frz {e : Expr} {f : DA} (h : PDo G W X e f) : PD G W X e (eFrz f) := h.imp fun σ H Q ⟨κ, w, s, ok, q⟩ => ⟨κ, w, s, ok, by
  unfold eFrz at q
  cases e : f s with
  | stuck => rw [e] at q; exact q.elim
  | exc x s' => rw [e] at q; exact q
  | ok xs s' =>
    rw [e] at q
    intro w' a vs H' l o g r
    obtain ⟨le, ok'⟩ := o.frz g
    exact q _ _ H' (l.trans le) ok' (.lst upd_same (r.mono le))⟩
/-! ### statements -/
def sPass : DStm := fun s => .ok .nx s
def sSeq (f g : DStm) : DStm := fun s => (f s).bind fun o s1 => match o with
  | .nx => g s1
  | o => .ok o s1
theorem pdss_nil : PDSs G W X [] sPass := pss_nil.imp fun N σ H ⟨κ, w, s, ok, q⟩ => q w σ H (.refl _) ok
theorem PostS.seq {κ : Bs} {w : Wd} {r : Res DS Out} {g : DStm} {N : Ends} (h : PostS G W κ w (r.bind fun o s1 => match o with | .nx => g s1 | o => .ok o s1) N) : PostS G W κ w r { N with nx := tDS G W g N } := by
  cases r with
  | stuck => exact h
  | exc x s' => exact h
  | ok o s' =>
    cases o with
    | nx => exact fun w' σ' H' l o => ⟨κ, w', s', o, PostS.mono l h⟩
    | bk => exact h
    | ct => exact h
    | rt d => exact h
theorem pdss_cons {st : Stmt} {r : List Stmt} {f g : DStm} (h : PDS G W X st f) (k : PDSs G W X r g) : PDSs G W X (st :: r) (sSeq f g) :=
  (pss_cons h k).imp fun N σ H ⟨κ, w, s, ok, q⟩ => ⟨κ, w, s, ok, PostS.seq q⟩
theorem pdss_one {st : Stmt} {f : DStm} (h : PDS G W X st f) : PDSs G W X [st] f := pss_one h
def sNever : DStm := fun _ => .stuck
theorem pds_never {st : Stmt} : PDS G W X st sNever := ps_never.imp fun N σ H ⟨κ, w, s, ok, q⟩ => q.elim
theorem pdss_never {st : List Stmt} : PDSs G W X st sNever := pss_never.imp fun N σ H ⟨κ, w, s, ok, q⟩ => q.elim
theorem pds_pass {pos : Pos} : PDS G W X (.Pass pos) sPass := ps_pass.imp fun N σ H ⟨κ, w, s, ok, q⟩ => q w σ H (.refl _) ok
def sBreak : DStm := fun s => .ok .bk s
def sCont : DStm := fun s => .ok .ct s
theorem pds_break {pos : Pos} : PDS G W X (.Break pos) sBreak := ps_break.imp fun N σ H ⟨κ, w, s, ok, q⟩ => q w σ H (.refl _) ok
theorem pds_continue {pos : Pos} : PDS G W X (.Continue pos) sCont := ps_continue.imp fun N σ H ⟨κ, w, s, ok, q⟩ => q w σ H (.refl _) ok
def sExpr (f : DE) : DStm := fun s => (f s).bind fun _ s1 => .ok .nx s1
theorem pds_expr {e : Expr} {f : DE} {pos : Pos} (h : PD G W X e f) (hs : swapsWith e none pos.line X.env = pure false := by rfl) : PDS G W X (.Expr e pos) (sExpr f) :=
  (ps_expr h hs).imp fun N σ H ⟨κ, w, s, ok, q⟩ => ⟨κ, w, s, ok, (PostG.bindS q).imp fun v H1 ⟨d, s1, w1, le, ok1, r1, q1⟩ => q1 w1 σ H1 (.refl _) ok1⟩
def sRet (f : DE) : DStm := fun s => (f s).bind fun d s1 => .ok (.rt d) s1
theorem pds_ret {e : Expr} {f : DE} {pos : Pos} (h : PD G W X e f) : PDS G W X (.Return (some e) pos) (sRet f) :=
  (ps_ret h).imp fun N σ H ⟨κ, w, s, ok, q⟩ => ⟨κ, w, s, ok, (PostG.bindS q).imp fun v H1 ⟨d, s1, w1, le, ok1, r1, q1⟩ => q1 w1 σ v H1 (.refl _) ok1 r1⟩
theorem pds_retN {pos : Pos} : PDS G W X (.Return none pos) (sRet (eC .non)) := ps_retN.imp fun N σ H ⟨κ, w, s, ok, q⟩ => q w σ .non H (.refl _) ok .non
def sIf (c : DT) (f g : DStm) : DStm := fun s => (c s).bind fun b s1 => if b = true then f s1 else g s1
theorem pds_if {c : Expr} {a b : List Stmt} {fc : DT} {f g : DStm} {pos : Pos} (hc : PDT G W X c fc) (h : PDSs G W X a f) (k : PDSs G W X b g) : PDS G W X (.If c a b pos) (sIf fc f g) :=
  (ps_if hc h k).imp fun N σ H ⟨κ, w, s, ok, q⟩ => ⟨κ, w, s, ok, (PostG.bindS q).imp fun v H1 ⟨d, s1, w1, le, ok1, r1, q1⟩ => by
    subst r1
    cases v with
    | true => exact ⟨κ, w1, s1, ok1, q1⟩
    | false => exact ⟨κ, w1, s1, ok1, q1⟩⟩
def sSet (i : Nat) (f : DE) : DStm := fun s => (f s).bind fun d s1 => .ok .nx ⟨s1.sl.set i (.val d), s1.st⟩
theorem pds_set {i : Nat} {x : Str} {e : Expr} {f : DE} {pos pos' : Pos} (hN : X.N.Nodup) (hi : X.N[i]? = some x) (hx : Loc X.env.scope x) (he : PD G W X e f) (hs : swapsWith e (some (.Name x pos')) pos.line X.env = pure false := by rfl)
    (hf : X.fn x = true ∨ X.env.scope.names.lookup x = some .local := by first | exact .inl rfl | exact .inr rfl | assumption) : PDS G W X (.Assign [.Name x pos'] e pos) (sSet i f) :=
  (ps_set hN hi hx he hs hf).imp fun N σ H ⟨κ, w, s, ok, q⟩ => ⟨κ, w, s, ok, (PostG.bindS q).imp fun v H1 ⟨d, s1, w1, le, ok1, r1, q1⟩ => q1 w1 _ H1 (.refl _) (ok1.setVal r1 i)⟩
/-- name = a new list -/
def sSetO (i : Nat) (f : DA) : DStm := fun s => (f s).bind fun xs s1 => .ok .nx ⟨s1.sl.set i (.ol xs), s1.st⟩
theorem setO_of {i : Nat} {f : DA} {N : Ends} {σ : L2.St} {H : Hp} (h : tDS G W (sSetO i f) N σ H) : tAsg (tDo G W f) (gName i) N σ H := by
  obtain ⟨κ, w, s, ok, q⟩ := h
  refine ⟨κ, w, s, ok, ?_⟩
  unfold sSetO at q
  cases e : f s with
  | stuck => rw [e] at q; exact q.elim
  | exc x s' =>
    rw [e] at q
    exact fun w' c dd H' l o r => q w' σ c dd H' l o r
  | ok xs s' =>
    rw [e] at q
    intro w' a vs H' l o g r
    exact q w' _ H' l (o.setOwn (y := .ol xs) g ⟨vs, (o.gam (a, .lst vs) List.mem_cons_self).1, r⟩ rfl (fun _ _ z => nomatch z) i)
theorem pds_setO {i : Nat} {x : Str} {e : Expr} {f : DA} {pos pos' : Pos} (hN : X.N.Nodup) (hi : X.N[i]? = some x) (hx : Loc X.env.scope x) (he : PDo G W X e f) (hs : swapsWith e (some (.Name x pos')) pos.line X.env = pure false := by rfl)
    (hf : X.fn x = true ∨ X.env.scope.names.lookup x = some .local := by first | exact .inl rfl | exact .inr rfl | assumption) : PDS G W X (.Assign [.Name x pos'] e pos) (sSetO i f) :=
  (ps_set hN hi hx he hs hf).imp fun N σ H q => setO_of q
/-! ### targets -/
abbrev DG := D → DS → Res DS Unit
section
variable (G : Gam) (W : WX)
def PostT (is : List Nat) (σ : L2.St) (κ : Bs) (w : Wd) (r : Res DS Unit) (Q : L2.St → Hp → Prop) : Prop := match r with
  | .ok _ s' => ∀ w' σ' H', w.le w' → Ok G κ w' s' σ' H' → (σ'.length = σ.length ∧ ∀ i : Nat, i ∉ is → σ'[i]? = σ[i]?) → Q σ' H'
  | .exc x s' => False
  | .stuck => False
def tDG (is : List Nat) (g : DG) : TG := fun v σ H Q => ∃ κ w s d, Ok G κ w s σ H ∧ Rep G w v d ∧ PostT G is σ κ w (g d s) Q
def tDGs (is : List Nat) (g : List D → DS → Res DS Unit) : TGs := fun v σ H Q => ∃ κ w s d, Ok G κ w s σ H ∧ Reps G w v d ∧ PostT G is σ κ w (g d s) Q
end
theorem _root_.L2.PG.imp {X : Cx} {e : Expr} {t t' : TG} (h : PG X e t) (k : ∀ v σ H Q, t' v σ H Q → t v σ H Q) : PG X e t' := ⟨fun pins s σ H v u Q I r q => h.run pins s σ H v u Q I r (k v σ H Q q)⟩
theorem _root_.L2.PGs.imp {X : Cx} {e : List Expr} {t t' : TGs} (h : PGs X e t) (k : ∀ v σ H Q, t' v σ H Q → t v σ H Q) : PGs X e t' := ⟨fun pins s σ H v u Q I r q => h.run pins s σ H v u Q I r (k v σ H Q q)⟩
abbrev PDG (G : Gam) (X : Cx) (e : Expr) (is : List Nat) (g : DG) : Prop := PG X e (tDG G is g)
abbrev PDGs (G : Gam) (X : Cx) (e : List Expr) (is : List Nat) (g : List D → DS → Res DS Unit) : Prop := PGs X e (tDGs G is g)
def gN (i : Nat) : DG := fun d s => .ok () ⟨s.sl.set i (.val d), s.st⟩
theorem pdg_name {i : Nat} {x : Str} {pos : Pos} (hN : X.N.Nodup) (hi : X.N[i]? = some x) (hx : Loc X.env.scope x) (hf : X.fn x = true ∨ X.env.scope.names.lookup x = some .local := by first | exact .inl rfl | exact .inr rfl | assumption) : PDG G X (.Name x pos) [i] (gN i) :=
  (pg_name hN hi hx hf).imp fun v σ H Q ⟨κ, w, s, d, ok, r, q⟩ => q w _ H (.refl _) (ok.setVal r i) ⟨by rw [List.length_set], fun j hj => List.getElem?_set_ne fun z => hj (by rw [z]; exact List.mem_singleton.mpr rfl)⟩
def gsNil : List D → DS → Res DS Unit := fun ds s => match ds with
  | [] => .ok () s
  | _ => .stuck
def gsCons (g : DG) (k : List D → DS → Res DS Unit) : List D → DS → Res DS Unit := fun ds s => match ds with
  | d :: r => (g d s).bind fun _ s1 => k r s1
  | _ => .stuck
theorem pdgs_nil : PDGs G X [] [] gsNil := pgs_nil.imp fun v σ H Q ⟨κ, w, s, d, ok, r, q⟩ => by
  cases r with
  | nil => exact ⟨rfl, q w σ H (.refl _) ok ⟨rfl, fun _ _ => rfl⟩⟩
  | cons a b => exact q.elim
theorem pdgs_cons {e : Expr} {es : List Expr} {is is' : List Nat} {g : DG} {k : List D → DS → Res DS Unit} (h1 : PDG G X e is g) (h2 : PDGs G X es is' k)
    (hs : (assignEach (e :: es) X.env).map (·.2) = assign e X.env :: (assignEach es X.env).map (·.2) := by rfl) : PDGs G X (e :: es) (is ++ is') (gsCons g k) :=
  (pgs_cons h1 h2 hs).imp fun v σ H Q ⟨κ, w, s, d, ok, r, q⟩ => by
    cases r with
    | nil => exact q.elim
    | @cons v d vs ds a b =>
      refine ⟨v, vs, rfl, κ, w, s, d, ok, a, ?_⟩
      have q : PostT G (is ++ is') σ κ w ((g d s).bind fun _ s1 => k ds s1) Q := q
      cases e : g d s with
      | stuck => rw [e] at q; exact q.elim
      | exc x s' => rw [e] at q; exact q.elim
      | ok u s' =>
        rw [e] at q
        intro w' σ' H' l o hσ
        refine ⟨κ, w', s', ds, o, b.mono l, ?_⟩
        have q : PostT G (is ++ is') σ κ w (k ds s') Q := q
        cases e2 : k ds s' with
        | stuck => rw [e2] at q; exact q.elim
        | exc x s' => rw [e2] at q; exact q.elim
        | ok u s2 =>
          rw [e2] at q
          exact fun w2 σ2 H2 l2 o2 h2 => q w2 σ2 H2 (l.trans l2) o2 ⟨h2.1.trans hσ.1, fun i hi => (h2.2 i fun z => hi (List.mem_append_right _ z)).trans (hσ.2 i fun z => hi (List.mem_append_left _ z))⟩
def gT (n : Nat) (g : List D → DS → Res DS Unit) : DG := fun d s => match d with
  | .tup ds => if ds.length = n then g ds s else .stuck
  | _ => .stuck
theorem pdg_tup (hK : G.K = X.K) {es : List Expr} {is : List Nat} {k : Nat} {g : List D → DS → Res DS Unit} {n : Nat} {pos : Pos} (hc : X.calm = true) (h : PDGs G X es is g)
    (hn : (assignEach es X.env).length = n := by rfl) (hst : (assignEach es X.env).findIdx? (·.1) = none := by rfl) : PDG G X (.Tuple es k pos) is (gT n g) :=
  (pg_tup hc h hn hst).imp fun v σ H Q ⟨κ, w, s, d, ok, r, q⟩ => by
    cases r with
    | @tup a vs ds e r =>
      by_cases c : ds.length = n
      · have q : PostT G is σ κ w (if ds.length = n then g ds s else .stuck) Q := q
        rw [if_pos c] at q
        refine ⟨a, vs, rfl, hK ▸ SqT.le e ok.fok.sub, by rw [r.length]; exact c, κ, w, s, ds, ok, r, q⟩
      · have q : PostT G is σ κ w (if ds.length = n then g ds s else .stuck) Q := q
        rw [if_neg c] at q
        exact q.elim
    | _ => exact q.elim
def sAsg (f : DE) (g : DG) : DStm := fun s => (f s).bind fun d s1 => (g d s1).bind fun _ s2 => .ok .nx s2
theorem PostT.toS {is : List Nat} {σ : L2.St} {κ : Bs} {w : Wd} {r : Res DS Unit} {N : Ends} {Wx : WX} (h : PostS G Wx κ w (r.bind fun _ s2 => .ok .nx s2) N) (hx : ∀ x s, r ≠ .exc x s) : PostT G is σ κ w r N.nx := by
  cases r with
  | stuck => exact h
  | exc x s' => exact absurd rfl (hx x s')
  | ok u s' => exact fun w' σ' H' l o _ => h w' σ' H' l o
def noX {σ α : Type} (r : Res σ α) : Res σ α := match r with
  | .exc _ _ => .stuck
  | r => r
theorem noX_exc {σ α : Type} (r : Res σ α) : ∀ x s, noX r ≠ .exc x s := fun x s h => by cases r <;> cases h
def sAsgT (f : DE) (g : DG) : DStm := fun s => (f s).bind fun d s1 => (noX (g d s1)).bind fun _ s2 => .ok .nx s2
theorem PostT.ofNoX {is : List Nat} {σ : L2.St} {κ : Bs} {w : Wd} {r : Res DS Unit} {Q : L2.St → Hp → Prop} (h : PostT G is σ κ w (noX r) Q) : PostT G is σ κ w r Q := by
  cases r with
  | stuck => exact h
  | exc x s' => exact h
  | ok u s' => exact h
theorem pds_asg {tg e : Expr} {f : DE} {is : List Nat} {g : DG} {pos : Pos} (he : PD G W X e f) (hg : PDG G X tg is g) (hs : swapsWithSole [tg] e pos.line X.env = pure false := by rfl) (hw : swappedStores [tg] e X.env = pure none := by rfl)
    (h1 : (assignEach [tg] X.env).map (·.2) = [assign tg X.env] := by rfl) : PDS G W X (.Assign [tg] e pos) (sAsgT f g) :=
  (ps_asg he hg hs hw h1).imp fun N σ H ⟨κ, w, s, ok, q⟩ => ⟨κ, w, s, ok, (PostG.bindS q).imp fun v H1 ⟨d, s1, w1, le, ok1, r1, q1⟩ =>
    ⟨κ, w1, s1, d, ok1, r1, PostT.ofNoX (PostT.toS q1 (noX_exc _))⟩⟩
/-- a, b = x, y with plain locals -/
def sPar (i j : Nat) (f : DA) : DStm := fun s => (f s).bind fun ds s1 => match ds with
  | [x, y] => .ok .nx ⟨(s1.sl.set i (.val x)).set j (.val y), s1.st⟩
  | _ => .stuck
theorem pds_par {i j : Nat} {x y : Str} {a b : Expr} {f : DA} {px py pt pos : Pos} {kt k2 : Nat} {pt2 : Pos} (hc : X.calm = true) (hN : X.N.Nodup) (hi : X.N[i]? = some x) (hj : X.N[j]? = some y) (hij : i ≠ j)
    (hx : X.env.scope.names.lookup x = some .local) (hy : X.env.scope.names.lookup y = some .local) (ha : PDA G W X [a, b] f)
    (hw : swappedStores [.Tuple [.Name x px, .Name y py] kt pt] (.Tuple [a, b] k2 pt2) X.env = pure (some [x, y]))
    (hs : swapsWithSole [.Tuple [.Name x px, .Name y py] kt pt] (.Tuple [a, b] k2 pt2) pos.line X.env = pure false := by rfl) :
    PDS G W X (.Assign [.Tuple [.Name x px, .Name y py] kt pt] (.Tuple [a, b] k2 pt2) pos) (sPar i j f) :=
  (ps_par hc hN hi hj hij hx hy ha hw hs).imp fun N σ H ⟨κ, w, s, ok, q⟩ => ⟨κ, w, s, ok, (PostG.bindS q).imp fun v H1 ⟨d, s1, w1, le, ok1, r1, q1⟩ => by
    cases r1 with
    | nil => exact q1.elim
    | cons a b =>
      cases b with
      | nil => exact q1.elim
      | cons a2 b2 =>
        cases b2 with
        | nil => exact ⟨_, _, rfl, q1 w1 _ H1 (.refl _) ((ok1.setVal a i).setVal a2 j)⟩
        | cons _ _ => exact q1.elim⟩
/-! ### loops -/
def loopOut (r : Res DS Out) (k : DS → Res DS Out) : Res DS Out := match r with
  | .ok .nx s2 => k s2
  | .ok .ct s2 => k s2
  | .ok .bk s2 => .ok .nx s2
  | r => r
def runW (c : DT) (b : DStm) : Nat → DS → Res DS Out
  | 0, _ => .stuck
  | n + 1, s => (c s).bind fun t s1 => if t = true then loopOut (b s1) (runW c b n) else .ok .nx s1
theorem runW_mono (c : DT) (b : DStm) : ∀ (n : Nat) (s : DS), runW c b n s ≠ .stuck → runW c b (n + 1) s = runW c b n s
  | 0, s, h => absurd rfl h
  | n + 1, s, h => by
    show (c s).bind (fun t s1 => if t = true then loopOut (b s1) (runW c b (n + 1)) else .ok .nx s1) = (c s).bind fun t s1 => if t = true then loopOut (b s1) (runW c b n) else .ok .nx s1
    have h : (c s).bind (fun t s1 => if t = true then loopOut (b s1) (runW c b n) else .ok .nx s1) ≠ .stuck := h
    cases e : c s with
    | stuck => rfl
    | exc x s' => rfl
    | ok t s1 =>
      rw [e] at h
      rw [Res.bind_ok] at h ⊢
      rw [Res.bind_ok]
      cases t with
      | false => rfl
      | true =>
        rw [if_pos rfl] at h ⊢
        rw [if_pos rfl]
        cases e2 : b s1 with
        | stuck => rfl
        | exc x s' => rfl
        | ok o s2 =>
          rw [e2] at h
          cases o with
          | nx => exact runW_mono c b n s2 h
          | ct => exact runW_mono c b n s2 h
          | bk => rfl
          | rt d => rfl
theorem runW_le (c : DT) (b : DStm) {n m : Nat} {s : DS} (hnm : n ≤ m) (h : runW c b n s ≠ .stuck) : runW c b m s = runW c b n s := by
  induction hnm with
  | refl => rfl
  | step hk ih => rw [runW_mono c b _ s (by rw [ih]; exact h), ih]
open Classical in
noncomputable def sWhile (c : DT) (b : DStm) : DStm := fun s => if h : ∃ n, runW c b n s ≠ .stuck then runW c b h.choose s else .stuck
theorem sWhile_of {c : DT} {b : DStm} {s : DS} (n : Nat) (h : runW c b n s ≠ .stuck) : sWhile c b s = runW c b n s := by
  have ex : ∃ n, runW c b n s ≠ .stuck := ⟨n, h⟩
  unfold sWhile
  rw [dif_pos ex]
  rcases Nat.le_total n ex.choose with z | z
  · exact runW_le c b z h
  · exact (runW_le c b z ex.choose_spec).symm
theorem sWhile_eq (c : DT) (b : DStm) (s : DS) : sWhile c b s = (c s).bind fun t s1 => if t = true then loopOut (b s1) (sWhile c b) else .ok .nx s1 := by
  have key : ∀ n, runW c b (n + 1) s ≠ .stuck → sWhile c b s = (c s).bind fun t s1 => if t = true then loopOut (b s1) (sWhile c b) else .ok .nx s1 := fun n h => by
    rw [sWhile_of (n + 1) h]
    have h : (c s).bind (fun t s1 => if t = true then loopOut (b s1) (runW c b n) else .ok .nx s1) ≠ .stuck := h
    show (c s).bind (fun t s1 => if t = true then loopOut (b s1) (runW c b n) else .ok .nx s1) = _
    cases e : c s with
    | stuck => rfl
    | exc x s' => rfl
    | ok t s1 =>
      rw [e] at h
      rw [Res.bind_ok] at h ⊢
      rw [Res.bind_ok]
      cases t with
      | false => rfl
      | true =>
        rw [if_pos rfl] at h ⊢
        rw [if_pos rfl]
        cases e2 : b s1 with
        | stuck => rfl
        | exc x s' => rfl
        | ok o s2 =>
          rw [e2] at h
          cases o with
          | nx => exact (sWhile_of n h).symm
          | ct => exact (sWhile_of n h).symm
          | bk => rfl
          | rt d => rfl
  by_cases ex : ∃ n, runW c b n s ≠ .stuck
  · obtain ⟨n, h⟩ := ex
    cases n with
    | zero => exact absurd rfl h
    | succ n => exact key n h
  · have all : ∀ n, runW c b n s = .stuck := fun n => Classical.byContradiction fun h => ex ⟨n, h⟩
    have l : sWhile c b s = .stuck := by
      unfold sWhile
      rw [dif_neg ex]
    rw [l]
    have a1 := all 1
    cases e : c s with
    | stuck => rfl
    | exc x s' =>
      have a1 : (c s).bind (fun t s1 => if t = true then loopOut (b s1) (runW c b 0) else .ok .nx s1) = .stuck := a1
      rw [e] at a1
      cases a1
    | ok t s1 =>
      rw [Res.bind_ok]
      cases t with
      | false =>
        have a1 : (c s).bind (fun t s1 => if t = true then loopOut (b s1) (runW c b 0) else .ok .nx s1) = .stuck := a1
        rw [e] at a1
        cases a1
      | true =>
        rw [if_pos rfl]
        have an : ∀ n, loopOut (b s1) (runW c b n) = .stuck := fun n => by
          have := all (n + 1)
          have a1 : (c s).bind (fun t s1 => if t = true then loopOut (b s1) (runW c b n) else .ok .nx s1) = .stuck := this
          rw [e] at a1
          exact a1
        cases e2 : b s1 with
        | stuck => rfl
        | exc x s' => have := an 0; rw [e2] at this; cases this
        | ok o s2 =>
          have nn : ∀ n, loopOut (.ok o s2) (runW c b n) = .stuck := fun n => by rw [← e2]; exact an n
          have un : (∀ n, runW c b n s2 = .stuck) → sWhile c b s2 = .stuck := fun q => by
            unfold sWhile
            rw [dif_neg fun ⟨n, h⟩ => h (q n)]
          cases o with
          | nx => exact (un nn).symm
          | ct => exact (un nn).symm
          | bk => cases nn 0
          | rt d => cases nn 0
theorem pds_while {c : Expr} {body : List Stmt} {fc : DT} {fb : DStm} {pos : Pos} (hp : PassesOwn (model X.prog X.w) X.A X.env X.xe) (hc : PDT G W X c fc) (hb : PDSs G W X body fb) : PDS G W X (.While c body [] pos) (sWhile fc fb) :=
  (ps_while hp hc hb).imp fun N σ H ⟨κ, w, s, ok, q⟩ => by
    by_cases ex : ∃ n, runW fc fb n s ≠ .stuck
    · obtain ⟨n, hn⟩ := ex
      rw [sWhile_of n hn] at q
      refine ⟨fun m σ H => ∃ w' s', w.le w' ∧ Ok G κ w' s' σ H ∧ PostS G W κ w' (runW fc fb m s') N, ⟨n, w, s, .refl _, ok, q⟩, fun m σ' H' ⟨w', s', le, ok', q'⟩ => ?_⟩
      cases m with
      | zero => exact q'.elim
      | succ m =>
        refine ⟨κ, w', s', ok', (PostG.bindS q').imp fun v H1 ⟨d, s1, w1, le1, ok1, r1, q1⟩ => ?_⟩
        subst r1
        cases v with
        | false => exact q1 w1 σ' H1 (.refl _) ok1
        | true =>
          refine ⟨fun σ2 H2 => ∃ w2 s2, w.le w2 ∧ Ok G κ w2 s2 σ2 H2 ∧ PostS G W κ w2 (runW fc fb m s2) N, fun σ2 H2 z => ⟨m, Nat.lt_succ_self _, z⟩, κ, w1, s1, ok1, ?_⟩
          have q1 : PostS G W κ w1 (loopOut (fb s1) (runW fc fb m)) N := q1
          cases e : fb s1 with
          | stuck => rw [e] at q1; exact q1.elim
          | exc x s' => rw [e] at q1; exact q1
          | ok o s2 =>
            rw [e] at q1
            cases o with
            | nx => exact fun w2 σ2 H2 l o => ⟨w2, s2, (le.trans le1).trans l, o, PostS.mono l q1⟩
            | ct => exact fun w2 σ2 H2 l o => ⟨w2, s2, (le.trans le1).trans l, o, PostS.mono l q1⟩
            | bk => exact q1
            | rt d => exact q1
    · unfold sWhile at q
      rw [dif_neg ex] at q
      exact q.elim
/-! ### what a for walks -/
section
variable (G : Gam) (W : WX)
def ItOk (w : Wd) (J : It) (items : List D) : Prop := ∀ (w1 : Wd) (S : List Cell) (H : Hp), w.le w1 → FOk G w1 S H → ∀ i : Nat,
  (∀ d, items[i]? = some d → J.go i H ∧ ∀ x H', J.yld i H x H' → ∃ w2, Nx w1 H w2 H' ∧ FOk G w2 S H' ∧ Rep G w2 x d) ∧ (items[i]? = none → J.stop i H)
def PostI (κ : Bs) (w : Wd) (σ : L2.St) (r : Res DS (List D)) (R : It → Hp → Prop) : Prop := match r with
  | .ok ds s' => ∀ w' J H', w.le w' → Ok G κ w' s' σ H' → ItOk G w' J ds → R J H'
  | .exc x s' => ∀ w' c dd H', w.le w' → Ok G κ w' s' σ H' → RepX G w' c dd x → W c dd σ H'
  | .stuck => False
def tDI (f : DA) : TI := fun σ H R => ∃ κ w s, Ok G κ w s σ H ∧ PostI G W κ w σ (f s) R
end
theorem _root_.L2.PI.imp {X : Cx} {tg e : Expr} {t t' : TI} (h : PI X tg e t) (k : ∀ σ H R, t' σ H R → t σ H R) : PI X tg e t' := ⟨fun pins s σ H R I q => h.run pins s σ H R I (k σ H R q)⟩
abbrev PDI (G : Gam) (W : WX) (X : Cx) (tg e : Expr) (f : DA) : Prop := PI X tg e (tDI G W f)
theorem PostI.mono {κ : Bs} {w w1 : Wd} {σ : L2.St} {r : Res DS (List D)} {R : It → Hp → Prop} (le : w.le w1) (h : PostI G W κ w σ r R) : PostI G W κ w1 σ r R := by
  cases r with
  | ok d s' => exact fun w' J H' l o g => h w' J H' (le.trans l) o g
  | exc x s' => exact fun w' c dd H' l o r => h w' c dd H' (le.trans l) o r
  | stuck => exact h
theorem PostG.bindI {α β : Type} {rep : Wd → β → α → Prop} {κ : Bs} {w : Wd} {σ : L2.St} {r : Res DS α} {k : α → DS → Res DS (List D)} {Q : It → Hp → Prop} (h : PostI G W κ w σ (r.bind k) Q) :
    PostG G W rep κ w σ r (fun v H1 => ∃ d s1 w1, w.le w1 ∧ Ok G κ w1 s1 σ H1 ∧ rep w1 v d ∧ PostI G W κ w1 σ (k d s1) Q) := by
  cases r with
  | ok d s' => exact fun w' v H' l o r => ⟨d, s', w', l, o, r, PostI.mono l h⟩
  | exc x s' => exact h
  | stuck => exact h
/-- the items of a list; of a tuple -/
def itL (f : DE) : DA := fun s => (f s).bind fun d s1 => match d with
  | .lst xs => .ok xs s1
  | .scr xs => .ok xs s1
  | _ => .stuck
def itT (f : DE) : DA := fun s => (f s).bind fun d s1 => match d with
  | .tup xs => .ok xs s1
  | _ => .stuck
theorem itOk_list (hK : G.K = X.K) {w : Wd} {a : Addr} {vs : List V} {ds : List D} (e : SqL G.K w.F a vs) (un : ∀ (H : Hp) ys, SqL X.K H a vs → SqL X.K H a ys → vs = ys → True) (r : Reps G w vs ds) (inj : ∀ (H : Hp), SqL X.K H a vs → True) : ItOk G w (Itl X.K a) ds := by
  intro w1 S H le fok i
  have q : SqL X.K H a vs := hK ▸ SqL.le (SqL.le e le.f) fok.sub
  refine ⟨fun d hd => ?_, fun hn => ?_⟩
  · obtain ⟨y, h1, h2⟩ := r.get hd
    refine ⟨⟨vs, y, q, h1⟩, fun x H' ⟨hH, hx⟩ => ⟨w1, ?_, ?_, ?_⟩⟩
    · rw [hH]; exact .refl _ _
    · rw [hH]; exact fok
    · have := hx vs q
      rw [h1] at this
      cases this
      exact h2.mono le
  · refine ⟨vs, q, ?_⟩
    rw [r.length]
    exact List.getElem?_eq_none_iff.mp hn
theorem itOk_tup (hK : G.K = X.K) {w : Wd} {a : Addr} {vs : List V} {ds : List D} (e : SqT G.K w.F a vs) (r : Reps G w vs ds) : ItOk G w (Itt X.K a) ds := by
  intro w1 S H le fok i
  have q : SqT X.K H a vs := hK ▸ SqT.le (SqT.le e le.f) fok.sub
  refine ⟨fun d hd => ?_, fun hn => ?_⟩
  · obtain ⟨y, h1, h2⟩ := r.get hd
    refine ⟨⟨vs, y, q, h1⟩, fun x H' ⟨hH, hx⟩ => ⟨w1, ?_, ?_, ?_⟩⟩
    · rw [hH]; exact .refl _ _
    · rw [hH]; exact fok
    · have := hx vs q
      rw [h1] at this
      cases this
      exact h2.mono le
  · refine ⟨vs, q, ?_⟩
    rw [r.length]
    exact List.getElem?_eq_none_iff.mp hn
theorem pdi_list (hK : G.K = X.K) {tg e : Expr} {f : DE} (h : PD G W X e f) : PDI G W X tg e (itL f) :=
  (pi_list h).imp fun σ H R ⟨κ, w, s, ok, q⟩ => ⟨κ, w, s, ok, (PostG.bindI q).imp fun v H1 ⟨d, s1, w1, le, ok1, r1, q1⟩ => by
    cases r1 with
    | @lst a vs ds e r =>
      have e' : SqL G.K w1.F a vs := .inl (.inl e)
      exact ⟨a, rfl, ⟨vs, hK ▸ SqL.le e' ok1.fok.sub⟩, q1 w1 _ H1 (.refl _) ok1 (itOk_list hK e' (fun _ _ _ _ _ => trivial) r fun _ _ => trivial)⟩
    | @scr a vs ds e r =>
      exact ⟨a, rfl, ⟨vs, hK ▸ SqL.le e ok1.fok.sub⟩, q1 w1 _ H1 (.refl _) ok1 (itOk_list hK e (fun _ _ _ _ _ => trivial) r fun _ _ => trivial)⟩
    | _ => exact q1.elim⟩
theorem pdi_tup (hK : G.K = X.K) {tg e : Expr} {f : DE} (h : PD G W X e f) : PDI G W X tg e (itT f) :=
  (pi_tup h).imp fun σ H R ⟨κ, w, s, ok, q⟩ => ⟨κ, w, s, ok, (PostG.bindI q).imp fun v H1 ⟨d, s1, w1, le, ok1, r1, q1⟩ => by
    cases r1 with
    | @tup a vs ds e r => exact ⟨a, rfl, ⟨vs, hK ▸ SqT.le e ok1.fok.sub⟩, q1 w1 _ H1 (.refl _) ok1 (itOk_tup hK e r)⟩
    | _ => exact q1.elim⟩
/-- range -/
def rngL (lo : Int) (n : Nat) : List D := (List.range n).map fun (i : Nat) => D.int (lo + (i : Int))
theorem itOk_rng {w : Wd} (lo : Int) (n : Nat) : ItOk G w (Itr lo n) (rngL lo n) := by
  intro w1 S H le fok i
  refine ⟨fun d hd => ?_, fun hn => ?_⟩
  · unfold rngL at hd
    rw [List.getElem?_map] at hd
    by_cases c : i < n
    · rw [List.getElem?_range c] at hd
      cases hd
      refine ⟨c, fun x H' ⟨hH, hx⟩ => ⟨w1, ?_, ?_, ?_⟩⟩
      · rw [hH]; exact .refl _ _
      · rw [hH]; exact fok
      · rw [hx]; exact .int _
    · rw [List.getElem?_eq_none (by rw [List.length_range]; omega)] at hd
      cases hd
  · have := List.getElem?_eq_none_iff.mp hn
    unfold rngL at this
    rw [List.length_map, List.length_range] at this
    exact this
def itR1 (f : DA) : DA := fun s => (f s).bind fun ds s1 => match ds with
  | [.int j] => if -(2 ^ 62) ≤ j ∧ j < 2 ^ 62 then .ok (rngL 0 j.toNat) s1 else .stuck
  | _ => .stuck
def itR2 (f : DA) : DA := fun s => (f s).bind fun ds s1 => match ds with
  | [.int i, .int j] => if -(2 ^ 62) ≤ i ∧ i < 2 ^ 62 ∧ -(2 ^ 62) ≤ j ∧ j < 2 ^ 62 then .ok (rngL i (j - i).toNat) s1 else .stuck
  | _ => .stuck
theorem pdi_range1 {tg a : Expr} {f : DA} {p pos : Pos} (hg : Gl X "range") (hm : X.mg "range" = none) (ha : PDA G W X [a] f) (hs : starEach [a] X.env = [(false, eval a X.env)] := by rfl) : PDI G W X tg (.Call (.Name "range" p) [a] [] pos) (itR1 f) :=
  (pi_range1 hg hm ha hs).imp fun σ H R ⟨κ, w, s, ok, q⟩ => ⟨κ, w, s, ok, (PostG.bindI q).imp fun v H1 ⟨d, s1, w1, le, ok1, r1, q1⟩ => by
    cases r1 with
    | nil => exact q1.elim
    | cons a b =>
      cases b with
      | cons _ _ => cases a <;> exact q1.elim
      | nil =>
        cases a with
        | int j =>
          have q1 : PostI G W κ w1 σ (if -(2 ^ 62) ≤ j ∧ j < 2 ^ 62 then .ok (rngL 0 j.toNat) s1 else .stuck) R := q1
          by_cases c : -(2 ^ 62) ≤ j ∧ j < 2 ^ 62
          · rw [if_pos c] at q1
            exact ⟨j, rfl, c.1, c.2, q1 w1 _ H1 (.refl _) ok1 (itOk_rng 0 _)⟩
          · rw [if_neg c] at q1
            exact q1.elim
        | _ => exact q1.elim⟩
theorem pdi_range2 {tg a b : Expr} {f : DA} {p pos : Pos} (hg : Gl X "range") (hm : X.mg "range" = none) (ha : PDA G W X [a, b] f) (hs : starEach [a, b] X.env = [(false, eval a X.env), (false, eval b X.env)] := by rfl) (hs2 : starEach [b] X.env = [(false, eval b X.env)] := by rfl) :
    PDI G W X tg (.Call (.Name "range" p) [a, b] [] pos) (itR2 f) :=
  (pi_range2 hg hm ha hs hs2).imp fun σ H R ⟨κ, w, s, ok, q⟩ => ⟨κ, w, s, ok, (PostG.bindI q).imp fun v H1 ⟨d, s1, w1, le, ok1, r1, q1⟩ => by
    cases r1 with
    | nil => exact q1.elim
    | cons a b =>
      cases b with
      | nil => cases a <;> exact q1.elim
      | cons a2 b2 =>
        cases b2 with
        | cons _ _ => cases a <;> first | exact q1.elim | (cases a2 <;> exact q1.elim)
        | nil =>
          cases a with
          | int i =>
            cases a2 with
            | int j =>
              have q1 : PostI G W κ w1 σ (if -(2 ^ 62) ≤ i ∧ i < 2 ^ 62 ∧ -(2 ^ 62) ≤ j ∧ j < 2 ^ 62 then .ok (rngL i (j - i).toNat) s1 else .stuck) R := q1
              by_cases c : -(2 ^ 62) ≤ i ∧ i < 2 ^ 62 ∧ -(2 ^ 62) ≤ j ∧ j < 2 ^ 62
              · rw [if_pos c] at q1
                exact ⟨i, j, rfl, c, q1 w1 _ H1 (.refl _) ok1 (itOk_rng i _)⟩
              · rw [if_neg c] at q1
                exact q1.elim
            | _ => exact q1.elim
          | _ => exact q1.elim⟩
/-! ### for -/
def forL (g : DG) (b : DStm) : List D → DS → Res DS Out
  | [], s => .ok .nx s
  | d :: r, s => (noX (g d s)).bind fun _ s1 => loopOut (b s1) (forL g b r)
def sFor (it : DA) (g : DG) (b : DStm) : DStm := fun s => (it s).bind fun ds s1 => forL g b ds s1
theorem drop_get {α : Type} {l : List α} {i : Nat} {d : α} {r : List α} (h : l.drop i = d :: r) : l[i]? = some d ∧ l.drop (i + 1) = r := by
  refine ⟨?_, ?_⟩
  · have := congrArg (fun l => l[0]?) h
    simpa using this
  · have := congrArg List.tail h
    simpa using this
theorem for_of {is : List Nat} {κ : Bs} {w : Wd} {J : It} {g : DG} {b : DStm} {N : Ends} {items : List D} (hJ : ItOk G w J items) {w0 : Wd} {s : DS} {σ : L2.St} {H : Hp} (le : w.le w0) (ok : Ok G κ w0 s σ H) (q : PostS G W κ w0 (forL g b items s) N) :
    ∃ Wv : Nat → Nat → L2.St → Hp → Prop, (∃ m, Wv 0 m σ H) ∧ ∀ i m σ H, Wv i m σ H →
      (J.stop i H ∧ N.nx σ H) ∨ (J.go i H ∧ ∃ N' : L2.St → Hp → Prop, (∀ σ' H', N' σ' H' → ∃ m', m' < m ∧ Wv (i + 1) m' σ' H') ∧ ∀ x H', J.yld i H x H' → tDG G is g x σ H' fun σ2 H2 => tDS G W b { N with nx := N', ct := N', bk := N.nx } σ2 H2) := by
  refine ⟨fun i m σ H => ∃ w' s', w.le w' ∧ Ok G κ w' s' σ H ∧ (items.drop i).length = m ∧ PostS G W κ w' (forL g b (items.drop i) s') N, ⟨items.length, w0, s, le, ok, by simp, by simpa using q⟩, ?_⟩
  rintro i m σ H ⟨w', s', le', ok', hm, q'⟩
  cases e : items.drop i with
  | nil =>
    rw [e] at q'
    have hn : items[i]? = none := by
      have := congrArg (fun l => l[0]?) e
      simpa using this
    exact .inl ⟨(hJ w' _ H le' ok'.fok i).2 hn, q' w' σ H (.refl _) ok'⟩
  | cons d r =>
    rw [e] at q' hm
    obtain ⟨h1, h2⟩ := drop_get e
    obtain ⟨go, yl⟩ := (hJ w' _ H le' ok'.fok i).1 d h1
    refine .inr ⟨go, fun σ2 H2 => ∃ w2 s2, w.le w2 ∧ Ok G κ w2 s2 σ2 H2 ∧ PostS G W κ w2 (forL g b r s2) N, fun σ2 H2 ⟨w2, s2, l2, o2, q2⟩ => ?_, fun x H' hy => ?_⟩
    · refine ⟨r.length, by rw [← hm]; exact Nat.lt_succ_self _, w2, s2, l2, o2, by rw [h2], by rw [h2]; exact q2⟩
    · obtain ⟨w2, nx, fok, rx⟩ := yl x H' hy
      have ok2 := ok'.step nx fok
      refine ⟨κ, w2, s', d, ok2, rx, ?_⟩
      have q' : PostS G W κ w' ((noX (g d s')).bind fun _ s1 => loopOut (b s1) (forL g b r)) N := q'
      refine PostT.ofNoX ?_
      cases e3 : noX (g d s') with
      | stuck => rw [e3] at q'; exact q'.elim
      | exc x s' => exact absurd e3 (noX_exc _ _ _)
      | ok u s3 =>
        rw [e3] at q'
        intro w3 σ3 H3 l3 o3 _
        refine ⟨κ, w3, s3, o3, ?_⟩
        have q' : PostS G W κ w' (loopOut (b s3) (forL g b r)) N := q'
        have lw : w'.le w3 := nx.le.trans l3
        cases e4 : b s3 with
        | stuck => rw [e4] at q'; exact q'.elim
        | exc x s4 => rw [e4] at q'; exact PostS.mono (r := .exc x s4) lw q'
        | ok o s4 =>
          rw [e4] at q'
          cases o with
          | nx => exact fun w4 σ4 H4 l4 o4 => ⟨w4, s4, (le'.trans lw).trans l4, o4, PostS.mono (lw.trans l4) q'⟩
          | ct => exact fun w4 σ4 H4 l4 o4 => ⟨w4, s4, (le'.trans lw).trans l4, o4, PostS.mono (lw.trans l4) q'⟩
          | bk => exact PostS.mono (r := .ok .nx s4) lw q'
          | rt d => exact PostS.mono (r := .ok (.rt d) s4) lw q'
theorem pds_for {tg iter : Expr} {body : List Stmt} {it : DA} {is : List Nat} {g : DG} {b : DStm} {pos : Pos} (hp : PassesOwn (model X.prog X.w) X.A X.env X.xe) (hc : X.calm = true) (hi : PDI G W X tg iter it) (hg : PDG G X tg is g) (hb : PDSs G W X body b)
    (hs : ∀ x, foldedSetIterable iter X.env x = pure x := by intro _; rfl) : PDS G W X (.For tg iter body [] pos) (sFor it g b) :=
  (ps_for hp hc hi hg hb hs).imp fun N σ H ⟨κ, w, s, ok, q⟩ => ⟨κ, w, s, ok, by
    unfold sFor at q
    cases e : it s with
    | stuck => rw [e] at q; exact q.elim
    | exc x s' =>
      rw [e] at q
      exact fun w' c dd H' l o r => q w' σ c dd H' l o r
    | ok ds s' =>
      rw [e] at q
      intro w' J H' l o hJ
      exact for_of hJ (.refl _) o (PostS.mono l q)⟩
end
end DL
set_option maxRecDepth 100000
set_option maxHeartbeats 4000000
set_option autoImplicit false
namespace DL
open PySem PySem.Spec PyProof.Rows L2
/-! ### what a def promises -/
section
variable (G : Gam)
def PostF {α : Type} (rep : Wd → V → α → Prop) (w : Wd) (H : Hp) (r : Res (List Cell) α) (Q : VK) (E : XK) : Prop := match r with
  | .ok d S' => ∀ w' v H', Nx w H w' H' → FOk G w' S' H' → rep w' v d → Q v H'
  | .exc x S' => ∀ w' c dd H', Nx w H w' H' → FOk G w' S' H' → RepX G w' c dd x → E c dd H'
  | .stuck => False
def spG (n : Nat) (g : DFn) : Sp := fun vs H Q E => vs.length = n ∧ ∃ w S ds, FOk G w S H ∧ Reps G w vs ds ∧ PostF G (Rep G) w H (g ds S) Q E
end
def lift {α : Type} (s : DS) (r : Res (List Cell) α) : Res DS α := match r with
  | .ok d S' => .ok d ⟨s.sl, S'⟩
  | .exc x S' => .exc x ⟨s.sl, S'⟩
  | .stuck => .stuck
section
variable {G : Gam} {W : WX} {X : Cx}
theorem postF_of {κ : Bs} {w : Wd} {s : DS} {σ : L2.St} {H : Hp} {r : Res (List Cell) D} {Q : VK} (ok : Ok G κ w s σ H) (q : PostG G W (Rep G) κ w σ (lift s r) Q) : PostF G (Rep G) w H r Q (WE W σ) := by
  cases r with
  | ok d S' => exact fun w' v H' n f r => q w' v H' n.le (ok.step n f) r
  | exc x S' => exact fun w' c dd H' n f r => q w' c dd H' n.le (ok.step n f) r
  | stuck => exact q
theorem callD {k : Nat} {f : Addr} {fd : FuncData} {ps : List Str} {n : Nat} {g : DFn} {pins : List (Addr × Obj)} {sh : Shared} {κ : Bs} {w : Wd} {s : DS} {σ : L2.St} {H : Hp} {vs : List V} {ds : List D} {us : List Value} {Q : VK}
    (F : FnOk X.prog X.w X.K X.mg X.base (L2.CX X.prog X.w) k f fd ps (spG G n g)) (hr : Room k X.A) (hb : Binds X.K fd ps []) (tk : Takes X W) (I : Inv X pins σ H sh) (ok : Ok G κ w s σ H) (rs : Reps G w vs ds) (r : Vals vs us) (hn : ds.length = n)
    (q : PostG G W (Rep G) κ w σ (lift s (g ds s.st)) Q) : wpAny (model X.prog X.w) X.A (call (.ref f) us) (EP X pins σ Q) X.xe sh := by
  refine run_fnSD (E := WE W) (dvs := []) (ds := []) F hr hb .nil (passAt tk σ) I r ?_
  rw [List.append_nil]
  exact ⟨by rw [rs.length]; exact hn, w, s.st, ds, ok.fok, rs, postF_of ok q⟩
/-! ### f(..) -/
def eCall (n : Nat) (g : DFn) (fa : DA) : DE := fun s => (fa s).bind fun ds s1 => if ds.length = n then lift s1 (g ds s1.st) else .stuck
theorem pd_call {k : Nat} {f : Addr} {fd : FuncData} {ps : List Str} {n : Nat} {g : DFn} {x : Str} {p pos : Pos} {e : Expr} {es : List Expr} {fa : DA} (F : FnOk X.prog X.w X.K X.mg X.base (L2.CX X.prog X.w) k f fd ps (spG G n g)) (hr : Room k X.A) (hg : Gl X x) (hm : X.mg x = some (.ref f))
    (hk : PySem.W.keepIn X.K (.ref f) = true) (hb : Binds X.K fd ps []) (tk : Takes X W) (ha : PDA G W X (e :: es) fa) (hdb : (x == ("__debug__" : Str)) = false := by decide) (he : starEach (e :: es) X.env = (false, eval e X.env) :: starEach es X.env := by rfl)
    (hpl : (backTo pos (starEach es X.env)).any (·.1) = false := by rfl) : PD G W X (.Call (.Name x p) (e :: es) [] pos) (eCall n g fa) := by
  refine ⟨fun pins s σ H Q I h => ?_⟩
  obtain ⟨κ, w, ds, ok, q⟩ := h
  refine wpAny_Call_Name_kw (ld_glob I hg hm ?_ hdb)
  have hh : tDA G W fa σ H fun vs H1 => ∃ d s1 w1, w.le w1 ∧ Ok G κ w1 s1 σ H1 ∧ Reps G w1 vs d ∧ PostG G W (Rep G) κ w1 σ (if d.length = n then lift s1 (g d s1.st) else .stuck) Q := ⟨κ, w, ds, ok, PostG.bind q⟩
  refine PySem.W.callWith_K (h₀ := X.base) I.ok.mod.kin hk (thn (ha.run pos pins s σ H _ I hh) fun us s1 ⟨vs, H1, I1, r, d, s2, w1, le, ok1, rs, q1⟩ => ⟨I1.kIn, ?_⟩) he hpl
  by_cases c : d.length = n
  · rw [if_pos c] at q1
    exact callD F hr hb tk I1 ok1 rs r c q1
  · rw [if_neg c] at q1
    exact q1.elim
theorem pd_call0 {k : Nat} {f : Addr} {fd : FuncData} {ps : List Str} {g : DFn} {x : Str} {p pos : Pos} (F : FnOk X.prog X.w X.K X.mg X.base (L2.CX X.prog X.w) k f fd ps (spG G 0 g)) (hr : Room k X.A) (hg : Gl X x) (hm : X.mg x = some (.ref f))
    (hk : PySem.W.keepIn X.K (.ref f) = true) (hb : Binds X.K fd ps []) (tk : Takes X W) (hdb : (x == ("__debug__" : Str)) = false := by decide) : PD G W X (.Call (.Name x p) [] [] pos) (eCall 0 g aNil) := by
  refine ⟨fun pins s σ H Q I h => ?_⟩
  obtain ⟨κ, w, ds, ok, q⟩ := h
  refine wpAny_Call_Name_kw (ld_glob I hg hm ?_ hdb)
  exact PySem.W.callWith_K0 I.kIn hk (callD (us := []) F hr hb tk I ok .nil .nil rfl q)
/-! ### the body of a def -/
def fnD (n : Nat) (body : DStm) (m : Nat) : DFn := fun ds S => if ds.length = n then match body ⟨ds.map Sl.val ++ List.replicate m .un, S⟩ with
  | .ok (.rt d) s => .ok d s.st
  | .ok .nx s => .ok .non s.st
  | .exc x s => .exc x s.st
  | _ => .stuck
  else .stuck
theorem Ok.start {w : Wd} {S : List Cell} {H : Hp} {vs : List V} {ds : List D} (f : FOk G w S H) (r : Reps G w vs ds) (m : Nat) : Ok G ⟨w, H, [], none⟩ w ⟨ds.map Sl.val ++ List.replicate m .un, S⟩ (vs.map some ++ List.replicate m none) H := by
  have no : ∀ (i : Nat) (x : Sl), (ds.map Sl.val ++ List.replicate m Sl.un)[i]? = some x → x.own = false := fun i x e => by
    have hx := List.mem_of_getElem? e
    rcases List.mem_append.mp hx with h | h
    · obtain ⟨d, _, rfl⟩ := List.mem_map.mp h
      rfl
    · rw [(List.mem_replicate.mp h).2]
      rfl
  refine ⟨f, .refl _ _, by simp [r.length], fun i d e => ?_, fun i x e o => ?_, fun i j x y a e1 e2 o1 o2 _ _ => ?_, fun p hp => by simp at hp, fun a z => nomatch z⟩
  · by_cases c : i < ds.length
    · have e1 : (ds.map Sl.val ++ List.replicate m Sl.un)[i]? = some (.val d) := e
      rw [List.getElem?_append_left (by rw [List.length_map]; exact c), List.getElem?_map] at e1
      cases q : ds[i]? with
      | none => rw [q] at e1; cases e1
      | some d' =>
        rw [q] at e1
        cases e1
        obtain ⟨v, h1, h2⟩ := r.get q
        refine ⟨v, ?_, h2⟩
        rw [List.getElem?_append_left (by rw [List.length_map, r.length]; exact c), List.getElem?_map, h1]
        rfl
    · have e1 : (ds.map Sl.val ++ List.replicate m Sl.un)[i]? = some (.val d) := e
      rw [List.getElem?_append_right (by rw [List.length_map]; omega), List.getElem?_replicate] at e1
      split at e1 <;> cases e1
  · rw [no i x e] at o; cases o
  · rw [no i x e1] at o1; cases o1
theorem start_eq {N : List Str} {vs : List V} {m : Nat} (h : N.length - vs.length = m) : L2.start N vs = vs.map some ++ List.replicate m none := by
  unfold L2.start
  rw [h]
theorem fn_okD {P : Program} {w0 : World} {mg : Str → Option Value} {base : Heap} {x qual : Str} {st : Stmt} {f : Addr} {fd : FuncData} {N ps : List Str} {k n m : Nat} {body : DStm} (F : Fun G.K x qual st f fd) (S : FnScope N ps (defScope st)) (hn : ps.length = n) (hm : N.length - n = m)
    (hbody : ∀ (cdv : Value) (A : Around) (outer : List Env) (s : Shared) (H : Hp) (E : XK), Room k (A.deeper (envOfC qual (defScope st) s.heap.objs.size f cdv)) →
      Takes (cxOf (L2.CX P w0) P w0 G.K mg base N qual (defScope st) f cdv A outer s H E) (fun c d _ H => E c d H) → PassesOwn (model P w0) (A.deeper (envOfC qual (defScope st) s.heap.objs.size f cdv)) (envOfC qual (defScope st) s.heap.objs.size f cdv) (cxOf (L2.CX P w0) P w0 G.K mg base N qual (defScope st) f cdv A outer s H E).xe →
      PDSs G (fun c d _ H => E c d H) (cxOf (L2.CX P w0) P w0 G.K mg base N qual (defScope st) f cdv A outer s H E) (defBody st) body) : FnOk P w0 G.K mg base (L2.CX P w0) (k + 1) f fd ps (spG G n (fnD n body m)) := by
  refine F.okX S (fun vs H Q E h => by rw [h.1, hn]) fun cdv A outer s H vs Q E hr h => ?_
  refine ⟨_, hbody cdv A outer s H E hr (takes_of rfl rfl rfl rfl) (passes_of rfl), ?_⟩
  obtain ⟨hl, w, S', ds, fok, rs, q⟩ := h
  have hd : ds.length = n := by rw [← rs.length]; exact hl
  unfold fnD at q
  rw [if_pos hd] at q
  rw [start_eq (m := m) (by rw [hl]; exact hm)]
  refine ⟨⟨w, H, [], none⟩, w, _, Ok.start fok rs m, ?_⟩
  cases e : body ⟨ds.map Sl.val ++ List.replicate m .un, S'⟩ with
  | stuck => rw [e] at q; exact q.elim
  | exc x s' =>
    rw [e] at q
    exact fun w' σ' c dd H' l o r => q w' c dd H' o.nx o.fok r
  | ok o s' =>
    rw [e] at q
    cases o with
    | nx => exact fun w' σ' H' l o => q w' .non H' o.nx o.fok .non
    | bk => exact q.elim
    | ct => exact q.elim
    | rt d => exact fun w' σ' v H' l o r => q w' v H' o.nx o.fok r
/-! ### attributes -/
def insOf (d : D) (s : DS) : Option (String × List (Nm × D)) := match d with
  | .ins c fs => some (c, fs)
  | .cell n => match s.st[n]? with
    | some (.obj c fs) => some (c, fs)
    | _ => none
  | _ => none
theorem Rep.ins_of {κ : Bs} {w : Wd} {s : DS} {σ : L2.St} {H : Hp} {v : V} {d : D} {c : String} {fs : List (Nm × D)} (r : Rep G w v d) (ok : Ok G κ w s σ H) (h : insOf d s = some (c, fs)) : ∃ a C dx vs, v = .ref a ∧ G.ct c = some C ∧ H a = some (.ins C dx vs) ∧ RepF G w vs fs := by
  cases r with
  | @ins a C dx c' vs ds e1 e2 e3 =>
    have h : some (c', ds) = some (c, fs) := h
    cases h
    exact ⟨a, C, dx, vs, rfl, e1, ok.fok.sub _ _ e2, e3⟩
  | @cell a n e =>
    unfold insOf at h
    cases q : s.st[n]? with
    | none => simp [q] at h
    | some c' =>
      cases c' with
      | obj cc ff =>
        simp only [q] at h
        cases h
        obtain ⟨C, dx, vs, h1, h2, h3⟩ := ok.fok.cel n a _ e q
        exact ⟨a, C, dx, vs, rfl, h1, h2, h3⟩
      | _ => simp [q] at h
  | _ => exact nomatch h
def eFld (cs : List String) (fn : Nm) (f : DE) : DE := fun s => (f s).bind fun d s1 => match insOf d s1 with
  | some (c, fs) => if c ∈ cs then match fs.lookup fn with
    | some x => .ok x s1
    | none => .stuck
    else .stuck
  | none => .stuck
/-- what of the text the classes must have for an attribute -/
def FldOk (G : Gam) (cs : List String) (fn : Nm) : Prop := ∀ c ∈ cs, ∀ C, G.ct c = some C → Cls G.K C ∧ NoAttr G.K C (nm fn)
theorem pd_fld (hK : G.K = X.K) {cs : List String} {fn : Nm} {f : DE} {e : Expr} {x : Str} {pos : Pos} (hx : x = nm fn) (ho : FldOk G cs fn) (h : PD G W X e f) (hb : attributeBase e x X.env (eval e X.env) = eval e X.env := by rfl) : PD G W X (.Attribute e x pos) (eFld cs fn f) :=
  (pe_fld h hb).imp fun σ H Q ⟨κ, w, s, ok, q⟩ => ⟨κ, w, s, ok, (PostG.bind q).imp fun v H1 ⟨d, s1, w1, le, ok1, r1, q1⟩ => by
    cases e1 : insOf d s1 with
    | none => rw [e1] at q1; exact q1.elim
    | some p =>
      obtain ⟨c, fs⟩ := p
      rw [e1] at q1
      obtain ⟨a, C, dx, vs, ev, hC, hH, rf⟩ := r1.ins_of ok1 e1
      have q1 : PostG G W (Rep G) κ w1 σ (if c ∈ cs then match fs.lookup fn with | some x => .ok x s1 | none => .stuck else .stuck) Q := q1
      by_cases hc : c ∈ cs
      · rw [if_pos hc] at q1
        cases e2 : fs.lookup fn with
        | none => rw [e2] at q1; exact q1.elim
        | some z =>
          rw [e2] at q1
          obtain ⟨y, h1, h2⟩ := rf.look e2
          obtain ⟨cl, na⟩ := ho c hc C hC
          refine ⟨a, C, dx, vs, y, ev, hH, hK ▸ cl, by rw [hx]; exact hK ▸ na, by rw [hx]; exact h1, q1 w1 y H1 (.refl _) ok1 h2⟩
      · rw [if_neg hc] at q1
        exact q1.elim⟩
/-! ### o.m(..) -/
def eMeth (c : String) (m : Nm) (n : Nat) (g : DFn) (fo : DE) (fa : DA) : DE := fun s => (fo s).bind fun d s1 => match insOf d s1 with
  | some (c', fs) => if c' = c ∧ fs.lookup m = none then (fa s1).bind fun ds s2 => if ds.length + 1 = n then lift s2 (g (d :: ds) s2.st) else .stuck
    else .stuck
  | none => .stuck
theorem pd_meth (hK : G.K = X.K) {c : String} {mn : Nm} {n : Nat} {g : DFn} {fo : DE} {fa : DA} {C f : Addr} {m : Str} {k : Nat} {fd : FuncData} {ps : List Str} {o e : Expr} {es : List Expr} {apos pos : Pos} {pl : Sem Bool} (he : PD G W X o fo) (hC : G.ct c = some C) (cl : Cls X.K C) (hmn : m = nm mn) (hm : Meth X.K C m f)
    (F : FnOk X.prog X.w X.K X.mg X.base (L2.CX X.prog X.w) k f fd ps (spG G n g)) (hr : Room k X.A) (hb : Binds X.K fd ps []) (tk : Takes X W) (ha : PDA G W X (e :: es) fa)
    (hst : starEach (e :: es) X.env = (false, eval e X.env) :: starEach es X.env := by rfl) (hpl : (backTo pos (starEach es X.env)).any (·.1) = false := by rfl)
    (ht : eval (.Call (.Attribute o m apos) (e :: es) [] pos) X.env = (do
      let ov ← eval o X.env
      standAt apos.atName
      let (f, first) ← holding [ov] (getMethod ov m pl)
      callWith pos f first (backTo pos (starEach (e :: es) X.env)) (backToKw pos (keywordEach [] X.env))) := by rfl) :
    PD G W X (.Call (.Attribute o m apos) (e :: es) [] pos) (eMeth c mn n g fo fa) := by
  refine ⟨fun pins sh σ H Q I h => ?_⟩
  obtain ⟨κ, w, s, ok, q⟩ := h
  have hh : tD G W fo σ H fun v H1 => ∃ d s1 w1, w.le w1 ∧ Ok G κ w1 s1 σ H1 ∧ Rep G w1 v d ∧ PostG G W (Rep G) κ w1 σ (match insOf d s1 with
    | some (c', fs) => if c' = c ∧ fs.lookup mn = none then (fa s1).bind fun ds s2 => if ds.length + 1 = n then lift s2 (g (d :: ds) s2.st) else .stuck else .stuck
    | none => .stuck) Q := ⟨κ, w, s, ok, PostG.bind q⟩
  refine PySem.W.methodCall_KW (pl := pl) (thn (he.run pins sh σ H _ I hh) fun u s1 ⟨x, H1, I1, rx, d, t1, w1, le, ok1, r1, q1⟩ => ?_) ht
  cases e1 : insOf d t1 with
  | none => rw [e1] at q1; exact q1.elim
  | some p =>
    obtain ⟨c', fs⟩ := p
    rw [e1] at q1
    replace q1 : PostG G W (Rep G) κ w1 σ (if c' = c ∧ fs.lookup mn = none then (fa t1).bind fun ds s2 => if ds.length + 1 = n then lift s2 (g (d :: ds) s2.st) else .stuck else .stuck) Q := q1
    by_cases hc : c' = c ∧ fs.lookup mn = none
    · rw [if_pos hc] at q1
      obtain ⟨rfl, hl⟩ := hc
      obtain ⟨a, C', dx, vs, ev, hC', hH, rf⟩ := r1.ins_of ok1 e1
      rw [hC] at hC'
      cases hC'
      subst ev
      obtain rfl : u = Value.ref a := rx
      have hl2 : vs.lookup m = none := by rw [hmn]; exact rf.none hl
      refine getmeth_ok I1 hH cl hm hl2 ?_
      have hh2 : tDA G W fa σ H1 fun vs H2 => ∃ ds s2 w2, w1.le w2 ∧ Ok G κ w2 s2 σ H2 ∧ Reps G w2 vs ds ∧ PostG G W (Rep G) κ w2 σ (if ds.length + 1 = n then lift s2 (g (d :: ds) s2.st) else .stuck) Q := ⟨κ, w1, t1, ok1, PostG.bind q1⟩
      refine PySem.W.callWith_K (first := [.ref a]) (h₀ := X.base) I.ok.mod.kin hm.kp (thn (ha.run pos pins s1 σ H1 _ I1 hh2) fun us s2 ⟨vs2, H2, I2, r2, ds, t2, w2, le2, ok2, rs2, q2⟩ => ⟨I2.kIn, ?_⟩) hst hpl
      by_cases c3 : ds.length + 1 = n
      · rw [if_pos c3] at q2
        exact callD (us := .ref a :: us) (vs := .ref a :: vs2) (ds := d :: ds) F hr hb tk I2 ok2 (.cons (r1.mono le2) rs2) (.cons rfl r2) c3 q2
      · rw [if_neg c3] at q2
        exact q2.elim
    · rw [if_neg hc] at q1
      exact q1.elim
theorem pd_meth0 (hK : G.K = X.K) {c : String} {mn : Nm} {n : Nat} {g : DFn} {fo : DE} {C f : Addr} {m : Str} {k : Nat} {fd : FuncData} {ps : List Str} {o : Expr} {apos pos : Pos} {pl : Sem Bool} (he : PD G W X o fo) (hC : G.ct c = some C) (cl : Cls X.K C) (hmn : m = nm mn) (hm : Meth X.K C m f)
    (F : FnOk X.prog X.w X.K X.mg X.base (L2.CX X.prog X.w) k f fd ps (spG G n g)) (hr : Room k X.A) (hb : Binds X.K fd ps []) (tk : Takes X W)
    (ht : eval (.Call (.Attribute o m apos) [] [] pos) X.env = (do
      let ov ← eval o X.env
      standAt apos.atName
      let (f, first) ← holding [ov] (getMethod ov m pl)
      callWith pos f first (backTo pos (starEach [] X.env)) (backToKw pos (keywordEach [] X.env))) := by rfl) :
    PD G W X (.Call (.Attribute o m apos) [] [] pos) (eMeth c mn n g fo aNil) := by
  refine ⟨fun pins sh σ H Q I h => ?_⟩
  obtain ⟨κ, w, s, ok, q⟩ := h
  have hh : tD G W fo σ H fun v H1 => ∃ d s1 w1, w.le w1 ∧ Ok G κ w1 s1 σ H1 ∧ Rep G w1 v d ∧ PostG G W (Rep G) κ w1 σ (match insOf d s1 with
    | some (c', fs) => if c' = c ∧ fs.lookup mn = none then (aNil s1).bind fun ds s2 => if ds.length + 1 = n then lift s2 (g (d :: ds) s2.st) else .stuck else .stuck
    | none => .stuck) Q := ⟨κ, w, s, ok, PostG.bind q⟩
  refine PySem.W.methodCall_KW (pl := pl) (thn (he.run pins sh σ H _ I hh) fun u s1 ⟨x, H1, I1, rx, d, t1, w1, le, ok1, r1, q1⟩ => ?_) ht
  cases e1 : insOf d t1 with
  | none => rw [e1] at q1; exact q1.elim
  | some p =>
    obtain ⟨c', fs⟩ := p
    rw [e1] at q1
    replace q1 : PostG G W (Rep G) κ w1 σ (if c' = c ∧ fs.lookup mn = none then (if 0 + 1 = n then lift t1 (g [d] t1.st) else .stuck) else .stuck) Q := q1
    by_cases hc : c' = c ∧ fs.lookup mn = none
    · rw [if_pos hc] at q1
      obtain ⟨rfl, hl⟩ := hc
      obtain ⟨a, C', dx, vs, ev, hC', hH, rf⟩ := r1.ins_of ok1 e1
      rw [hC] at hC'
      cases hC'
      subst ev
      obtain rfl : u = Value.ref a := rx
      have hl2 : vs.lookup m = none := by rw [hmn]; exact rf.none hl
      refine getmeth_ok I1 hH cl hm hl2 ?_
      by_cases c3 : 0 + 1 = n
      · rw [if_pos c3] at q1
        exact PySem.W.callWith_K0 (first := [.ref a]) I1.kIn hm.kp (callD (us := [.ref a]) (vs := [.ref a]) (ds := [d]) F hr hb tk I1 ok1 (.cons r1 .nil) (.cons rfl .nil) c3 q1)
      · rw [if_neg c3] at q1
        exact q1.elim
    · rw [if_neg hc] at q1
      exact q1.elim
/-! ### C(..): an instance of one's own class is made -/
abbrev DIn := List D → List Cell → Res (List Cell) (List (Nm × D))
def erase (H : Hp) (x : Addr) : Hp := fun a => if a = x then none else H a
def spI (G : Gam) (c : String) (n : Nat) (g : DIn) : Sp := fun vs H Q E => vs.length = n + 1 ∧ ∃ w S ds x vs' C dx, vs = .ref x :: vs' ∧ G.ct c = some C ∧ H x = some (.ins C dx []) ∧ FOk G w S H ∧ w.F x = none ∧ x ∉ w.ρ ∧ Reps G w vs' ds ∧
  match g ds S with
  | .ok fs S' => ∀ w' H' vfs dx', Nx w (erase H x) w' H' → FOk G w' S' H' → H' x = some (.ins C dx' vfs) → RepF G w' vfs fs → w'.F x = none → x ∉ w'.ρ → Q .non H'
  | .exc x' S' => ∀ w' cc dd H', Nx w (erase H x) w' H' → FOk G w' S' H' → RepX G w' cc dd x' → E cc dd H'
  | .stuck => False
def inFin (c : String) (s : DS) : Res (List Cell) (List (Nm × D)) := match (s.sl[0]? : Option Sl) with
  | some (.oi c' fs) => if c' = c then .ok fs s.st else .stuck
  | _ => .stuck
def inD (c : String) (n : Nat) (body : DStm) (m : Nat) : DIn := fun ds S => if ds.length = n then
  match body ⟨.oi c [] :: ds.map Sl.val ++ List.replicate m .un, S⟩ with
  | .ok (.rt .non) s => inFin c s
  | .ok .nx s => inFin c s
  | .exc x s => .exc x s.st
  | _ => .stuck
  else .stuck
theorem Ok.startI {w : Wd} {S : List Cell} {H : Hp} {vs : List V} {ds : List D} {x C dx : Addr} {c : String} (f : FOk G w S H) (r : Reps G w vs ds) (m : Nat) (hC : G.ct c = some C) (hx : H x = some (.ins C dx [])) (nF : w.F x = none) (nR : x ∉ w.ρ) :
    Ok G ⟨w, erase H x, [], some x⟩ w ⟨.oi c [] :: ds.map Sl.val ++ List.replicate m .un, S⟩ (some (.ref x) :: vs.map some ++ List.replicate m none) H := by
  have base := Ok.start f r m
  have no : ∀ (i : Nat) (y : Sl), (ds.map Sl.val ++ List.replicate m Sl.un)[i]? = some y → y.own = false := fun i y e => by
    have hx := List.mem_of_getElem? e
    rcases List.mem_append.mp hx with h | h
    · obtain ⟨d, _, rfl⟩ := List.mem_map.mp h
      rfl
    · rw [(List.mem_replicate.mp h).2]
      rfl
  refine ⟨f, ⟨.refl _, fun a o e _ => ?_, fun a h => .inl h, fun a h => .inl h⟩, by simp [r.length], fun i d e => ?_, fun i y e o => ?_, fun i j y z a e1 e2 o1 o2 _ _ => ?_, fun p hp => by simp at hp, fun a z c' fs' _ => by cases z; rfl⟩
  · have e : (if a = x then none else H a) = some o := e
    split at e
    · cases e
    · exact e
  · cases i with
    | zero => cases e
    | succ i => exact base.val i d e
  · cases i with
    | zero =>
      cases e
      exact ⟨x, rfl, ⟨C, dx, [], hC, hx, .nil⟩, nF, nR, by show (if x = x then none else H x) = none; rw [if_pos rfl]⟩
    | succ i =>
      rw [no i y e] at o
      cases o
  · cases i with
    | zero =>
      cases j with
      | zero => rfl
      | succ j => rw [no j z e2] at o2; cases o2
    | succ i => rw [no i y e1] at o1; cases o1
theorem in_okD {P : Program} {w0 : World} {mg : Str → Option Value} {base : Heap} {x qual : Str} {st : Stmt} {f : Addr} {fd : FuncData} {N ps : List Str} {c : String} {k n m : Nat} {body : DStm} (F : Fun G.K x qual st f fd) (S : FnScope N ps (defScope st)) (hn : ps.length = n + 1) (hm : N.length - (n + 1) = m)
    (hbody : ∀ (cdv : Value) (A : Around) (outer : List Env) (s : Shared) (H : Hp) (E : XK), Room k (A.deeper (envOfC qual (defScope st) s.heap.objs.size f cdv)) →
      Takes (cxOf (L2.CX P w0) P w0 G.K mg base N qual (defScope st) f cdv A outer s H E) (fun c d _ H => E c d H) → PassesOwn (model P w0) (A.deeper (envOfC qual (defScope st) s.heap.objs.size f cdv)) (envOfC qual (defScope st) s.heap.objs.size f cdv) (cxOf (L2.CX P w0) P w0 G.K mg base N qual (defScope st) f cdv A outer s H E).xe →
      PDSs G (fun c d _ H => E c d H) (cxOf (L2.CX P w0) P w0 G.K mg base N qual (defScope st) f cdv A outer s H E) (defBody st) body) : FnOk P w0 G.K mg base (L2.CX P w0) (k + 1) f fd ps (spI G c n (inD c n body m)) := by
  refine F.okX S (fun vs H Q E h => by rw [h.1, hn]) fun cdv A outer s H vs Q E hr h => ?_
  refine ⟨_, hbody cdv A outer s H E hr (takes_of rfl rfl rfl rfl) (passes_of rfl), ?_⟩
  obtain ⟨hl, w, S', ds, xa, vs', C, dx, ev, hC, hx, fok, nF, nR, rs, q⟩ := h
  subst ev
  have hl' : vs'.length = n := by simpa using hl
  have hd : ds.length = n := by rw [← rs.length]; exact hl'
  unfold inD at q
  rw [if_pos hd] at q
  rw [start_eq (m := m) (by rw [List.length_cons, hl']; exact hm)]
  refine ⟨⟨w, erase H xa, [], some xa⟩, w, _, Ok.startI fok rs m hC hx nF nR, ?_⟩
  have fin : ∀ (w' : Wd) (σ' : L2.St) (H' : Hp) (s' : DS), Ok G ⟨w, erase H xa, [], some xa⟩ w' s' σ' H' →
      (match inFin c s' with
        | .ok fs S' => ∀ w' H' vfs dx', Nx w (erase H xa) w' H' → FOk G w' S' H' → H' xa = some (.ins C dx' vfs) → RepF G w' vfs fs → w'.F xa = none → xa ∉ w'.ρ → Q .non H'
        | .exc x' S' => ∀ w' cc dd H', Nx w (erase H xa) w' H' → FOk G w' S' H' → RepX G w' cc dd x' → E cc dd H'
        | .stuck => False) → Q .non H' := fun w' σ' H' s' o q => by
    unfold inFin at q
    cases e0 : s'.sl[0]? with
    | none => rw [e0] at q; exact q.elim
    | some y =>
      rw [e0] at q
      cases y with
      | oi c' fs =>
        by_cases hc : c' = c
        · subst hc
          simp only [if_true] at q
          have h0 := o.me xa rfl _ _ e0
          obtain ⟨a, h1, ⟨C', dx', vfs, hC', hH, rf⟩, h3, h4, _⟩ := o.own 0 _ e0 rfl
          rw [h0] at h1
          cases h1
          rw [hC] at hC'
          cases hC'
          exact q w' H' vfs dx' o.nx o.fok hH rf h3 h4
        · simp only [if_neg hc] at q
      | _ => exact q.elim
  cases e : body ⟨.oi c [] :: ds.map Sl.val ++ List.replicate m .un, S'⟩ with
  | stuck => rw [e] at q; exact q.elim
  | exc x s' =>
    rw [e] at q
    exact fun w' σ' c dd H' l o r => q w' c dd H' o.nx o.fok r
  | ok o s' =>
    rw [e] at q
    cases o with
    | nx => exact fun w' σ' H' l o => fin w' σ' H' s' o q
    | bk => exact q.elim
    | ct => exact q.elim
    | rt d =>
      intro w' σ' v H' l o r
      cases r with
      | non => exact fin w' σ' H' s' o q
      | _ => exact q.elim
/-- what of the text a class must have to be made -/
theorem makeD {c : String} {n k : Nat} {g : DIn} {C f : Addr} {fd : FuncData} {ps : List Str} {pins : List (Addr × Obj)} {sh : Shared} {κ : Bs} {w : Wd} {s : DS} {σ : L2.St} {H : Hp} {vs : List V} {ds : List D} {us : List Value} {Q : VK} (M : Mk X.K C f) (hC : G.ct c = some C)
    (F : FnOk X.prog X.w X.K X.mg X.base (L2.CX X.prog X.w) k f fd ps (spI G c n g)) (hr : Room (k + 1) X.A) (hb : Binds X.K fd ps []) (tk : Takes X W) (I : Inv X pins σ H sh) (ok : Ok G κ w s σ H) (rs : Reps G w vs ds) (r : Vals vs us) (hn : ds.length = n)
    (q : PostG G W (Rep G) κ w σ ((lift s (g ds s.st)).bind fun fs s1 => .ok (.ins c fs) s1) Q) : wpAny (model X.prog X.w) X.A (call (.ref C) us) (EP X pins σ Q) X.xe sh := by
  have key : ∀ x dx, H x = none → H dx = none → dx ≠ x → spI G c n g (.ref x :: (vs ++ [])) (upd (upd H dx (.own x)) x (.ins C dx [])) (fun v H2 => v = .non ∧ Q (.ref x) H2) (WE W σ) := fun x dx nx ndx ne => by
    have o1 := ok.fresh ndx (.own x)
    have nx1 : upd H dx (.own x) x = none := by rw [upd_ne (Ne.symm ne)]; exact nx
    have o2 := o1.fresh nx1 (.ins C dx [])
    obtain ⟨g1, g2, g3, g4, g5⟩ := o2.gam (x, .ins C dx []) List.mem_cons_self
    have kx : ∀ a o, H a = some o → erase (upd (upd H dx (.own x)) x (.ins C dx [])) x a = some o := fun a o e => by
      have h1 : a ≠ x := ne_of_none e nx
      have h2 : a ≠ dx := ne_of_none e ndx
      show (if a = x then none else _) = some o
      rw [if_neg h1, upd_ne h1, upd_ne h2]
      exact e
    have bk : ∀ a, erase (upd (upd H dx (.own x)) x (.ins C dx [])) x a = none → H a = none := fun a e => by
      cases e2 : H a with
      | none => rfl
      | some o => rw [kx a o e2] at e; cases e
    refine ⟨by rw [List.append_nil, List.length_cons, rs.length, hn], w, s.st, ds, x, vs, C, dx, by rw [List.append_nil], hC, g1, o2.fok, g2, g3, rs, ?_⟩
    cases e : g ds s.st with
    | stuck => rw [e] at q; exact q.elim
    | exc x' S' =>
      rw [e] at q
      exact fun w' cc dd H' nn f' r => q w' cc dd H' nn.le (ok.step ⟨nn.le, fun a o e1 e2 => nn.keep a o (kx a o e1) e2, fun a h => (nn.newF a h).imp_right (bk a), fun a h => (nn.newR a h).imp_right (bk a)⟩ f') r
    | ok fs S' =>
      rw [e] at q
      intro w' H' vfs dx' nn f' hx rf hF hR
      refine ⟨rfl, ?_⟩
      have N1 : Nx w H w' H' := ⟨nn.le, fun a o e1 e2 => nn.keep a o (kx a o e1) e2, fun a h => (nn.newF a h).imp_right (bk a), fun a h => (nn.newR a h).imp_right (bk a)⟩
      have o3 : Ok G (κ.plus x (.ins C dx' vfs)) w' ⟨s.sl, S'⟩ σ H' := by
        have o3 := ok.step N1 f'
        refine ⟨o3.fok, o3.nx, o3.len, o3.val, o3.own, o3.ne, fun p hp => ?_, o3.me⟩
        rcases List.mem_cons.mp hp with rfl | hp
        · exact ⟨hx, hF, hR, g4, g5⟩
        · exact o3.gam p hp
      obtain ⟨le, o4⟩ := o3.frz fun p hp => ne_of_none (ok.gam p hp).1 nx
      exact q _ _ _ (nn.le.trans le) o4 (.ins hC upd_same (rf.mono le))
  have hx : PassesAt (L2.CX X.prog X.w) X σ (WE W σ) := passAt tk σ
  have hq := key (sh.heap.objs.size + 1) sh.heap.objs.size (I.hok.fresh (Nat.le_succ _)) (I.hok.fresh (Nat.le_refl _)) (Nat.ne_of_lt (Nat.lt_succ_self _))
  have I2 := Inv.made (C := C) I
  have r2 : Vals (V.ref (sh.heap.objs.size + 1) :: (vs ++ [])) (Value.ref (sh.heap.objs.size + 1) :: (us ++ [])) := .cons rfl (r.append .nil)
  have hl : (Value.ref (sh.heap.objs.size + 1) :: us ++ []).length = ps.length := by
    have e := r2.length
    rw [F.len _ _ _ _ hq] at e
    exact e.symm
  refine wpAny_call (make_map (f := f) I.kIn M.makes M.init (beq_iff_eq.mp M.fn) (codeAny_mono (F.run _ X.stack _ _ ⟨Value.ref (sh.heap.objs.size + 1) :: us, []⟩ (Value.ref (sh.heap.objs.size + 1) :: (us ++ [])) _ _ (WE W σ) (hr.make C us [])
    (I2.env0.make C us []) (by
      have hbb := hb _ (Value.ref (sh.heap.objs.size + 1) :: us) I2.kIn hl
      rw [List.cons_append] at hbb
      exact hbb) r2 hq) fun r s' hq' => ?_))
  cases r with
  | error e => exact hx pins _ _ e s' I2 hq'
  | ok fl =>
    cases fl with
    | ret u =>
      obtain ⟨v, H', I3, rv, ev, q3⟩ := I2.after hq'
      subst ev
      exact ⟨rv, ⟨V.ref (sh.heap.objs.size + 1), H', I3, rfl, q3⟩⟩
    | next => exact False.elim hq'
    | brk => exact False.elim hq'
    | cont => exact False.elim hq'
def eMake (c : String) (n : Nat) (g : DIn) (fa : DA) : DE := fun s => (fa s).bind fun ds s1 => if ds.length = n then (lift s1 (g ds s1.st)).bind fun fs s2 => .ok (.ins c fs) s2 else .stuck
theorem pd_make {c : String} {n k : Nat} {g : DIn} {C f : Addr} {fd : FuncData} {ps : List Str} {x : Str} {p pos : Pos} {e : Expr} {es : List Expr} {fa : DA} (M : Mk X.K C f) (hC : G.ct c = some C) (F : FnOk X.prog X.w X.K X.mg X.base (L2.CX X.prog X.w) k f fd ps (spI G c n g)) (hr : Room (k + 1) X.A) (hg : Gl X x)
    (hm : X.mg x = some (.ref C)) (hb : Binds X.K fd ps []) (tk : Takes X W) (ha : PDA G W X (e :: es) fa) (hdb : (x == ("__debug__" : Str)) = false := by decide) (he : starEach (e :: es) X.env = (false, eval e X.env) :: starEach es X.env := by rfl)
    (hpl : (backTo pos (starEach es X.env)).any (·.1) = false := by rfl) : PD G W X (.Call (.Name x p) (e :: es) [] pos) (eMake c n g fa) := by
  refine ⟨fun pins s σ H Q I h => ?_⟩
  obtain ⟨κ, w, ds, ok, q⟩ := h
  refine wpAny_Call_Name_kw (ld_glob I hg hm ?_ hdb)
  have hh : tDA G W fa σ H fun vs H1 => ∃ d s1 w1, w.le w1 ∧ Ok G κ w1 s1 σ H1 ∧ Reps G w1 vs d ∧ PostG G W (Rep G) κ w1 σ (if d.length = n then (lift s1 (g d s1.st)).bind fun fs s2 => .ok (.ins c fs) s2 else .stuck) Q := ⟨κ, w, ds, ok, PostG.bind q⟩
  refine PySem.W.callWith_K (h₀ := X.base) I.ok.mod.kin M.kp (thn (ha.run pos pins s σ H _ I hh) fun us s1 ⟨vs, H1, I1, r, d, s2, w1, le, ok1, rs, q1⟩ => ⟨I1.kIn, ?_⟩) he hpl
  by_cases c : d.length = n
  · rw [if_pos c] at q1
    exact makeD M hC F hr hb tk I1 ok1 rs r c q1
  · rw [if_neg c] at q1
    exact q1.elim
/-! ### self.f = e -/
def sFldO (c : String) (i : Nat) (fn : Nm) (f : DE) : DStm := fun s => (f s).bind fun d s1 => match s1.sl[i]? with
  | some (.oi c' fs) => if c' = c ∧ fs.length < 1000 then .ok .nx ⟨s1.sl.set i (.oi c (putN fn d fs)), s1.st⟩ else .stuck
  | _ => .stuck
theorem RepF.put {w : Wd} {y : V} {d : D} {fn : Nm} (r : Rep G w y d) : ∀ {v : List (Str × V)} {ds : List (Nm × D)}, RepF G w v ds → RepF G w (putF (nm fn) y v) (putN fn d ds)
  | _, _, .nil => .cons r .nil
  | _, _, .cons (f := g) a b => by
    unfold putF putN
    by_cases h : g = fn
    · subst h
      rw [if_pos rfl]
      simp only [if_true]
      first
        | exact .cons r b
        | (split <;> first | exact .cons r b | (rename_i q; exact absurd rfl q))
    · have h2 : nm g ≠ nm fn := fun q => h (nm_inj q)
      rw [if_neg h]
      split
      · rename_i q; exact absurd q h2
      · exact .cons a (RepF.put r b)
theorem pds_fld (hK : G.K = X.K) {c : String} {C : Addr} {i : Nat} {fn : Nm} {f : DE} {x y : Str} {p pos' pos : Pos} {value : Expr} (ho : PE X (.Name y p) (tVar i)) (hx : x = nm fn) (hC : G.ct c = some C) (cl : Cls X.K C) (na : NoAttr X.K C x) (hv : PD G W X value f)
    (hs : swapsWith value (some (.Attribute (.Name y p) x pos')) pos.line X.env = pure false := by rfl) : PDS G W X (.Assign [.Attribute (.Name y p) x pos'] value pos) (sFldO c i fn f) :=
  (ps_fld ho hv hs).imp fun N σ H ⟨κ, w, s, ok, q⟩ => ⟨κ, w, s, ok, (PostG.bindS q).imp fun v H1 ⟨d, s1, w1, le, ok1, r1, q1⟩ => by
    cases e : s1.sl[i]? with
    | none => rw [e] at q1; exact q1.elim
    | some z =>
      rw [e] at q1
      cases z with
      | oi c' fs =>
        replace q1 : PostS G W κ w1 (if c' = c ∧ fs.length < 1000 then .ok .nx ⟨s1.sl.set i (.oi c (putN fn d fs)), s1.st⟩ else .stuck) N := q1
        by_cases hc : c' = c ∧ fs.length < 1000
        · rw [if_pos hc] at q1
          obtain ⟨rfl, hl⟩ := hc
          obtain ⟨a, h1, ⟨C', dx, vs, hC', hH, rf⟩, _⟩ := ok1.own i _ e rfl
          rw [hC] at hC'
          cases hC'
          refine ⟨_, h1, a, C, dx, vs, rfl, hH, cl, na, by rw [rf.length]; exact hl, ?_⟩
          refine q1 w1 σ _ (.refl _) (ok1.mut e rfl rfl h1 ⟨C, dx, _, hC, upd_same, ?_⟩ fun _ _ _ => ⟨_, _, rfl⟩)
          rw [hx]
          exact RepF.put r1 rf
        · rw [if_neg hc] at q1
          exact q1.elim
      | _ => exact q1.elim⟩
end
end DL
set_option maxRecDepth 100000
set_option maxHeartbeats 4000000
set_option autoImplicit false
namespace DL
open PySem PySem.Spec PyProof.Rows L2
section
variable {G : Gam} {W : WX} {X : Cx}
/-! ### operators that may call -/
abbrev DO2 := D → D → DS → Res DS D
def OpX (G : Gam) (W : WX) (X : Cx) (f : Value → Value → Sem Value) (o : DO2) : Prop := ∀ (pins : List (Addr × Obj)) (sh : Shared) (σ : L2.St) (H : Hp) (x y : V) (v u : Value) (κ : Bs) (w : Wd) (s : DS) (dx dy : D) (Q : VK),
  Inv X pins σ H sh → RelV x v → RelV y u → Ok G κ w s σ H → Rep G w x dx → Rep G w y dy → PostG G W (Rep G) κ w σ (o dx dy s) Q → wpAny (model X.prog X.w) X.A (f v u) (EP X pins σ Q) X.xe sh
def eOpX (o : DO2) (fa fb : DE) : DE := fun s => (fa s).bind fun x s1 => (fb s1).bind fun y s2 => o x y s2
def liftO (o : D → D → Option D) : DO2 := fun x y s => match o x y with
  | some d => .ok d s
  | none => .stuck
theorem OpD.x {f : Value → Value → Sem Value} {o : D → D → Option D} (h : OpD G X f o) : OpX G W X f (liftO o) := by
  obtain ⟨r, h1, h2⟩ := h
  intro pins sh σ H x y v u κ w s dx dy Q I rx ry ok dx' dy' q
  unfold liftO at q
  cases e : o dx dy with
  | none => rw [e] at q; exact q.elim
  | some z => rw [e] at q; exact h1 pins sh σ H x y v u Q I rx ry (h2 κ w s σ H x y dx dy z Q ok dx' dy' e q)
def orO (o o' : DO2) : DO2 := fun x y s => match o x y s with
  | .stuck => o' x y s
  | r => r
theorem OpX.or {f : Value → Value → Sem Value} {o o' : DO2} (h : OpX G W X f o) (h' : OpX G W X f o') : OpX G W X f (orO o o') := by
  intro pins sh σ H x y v u κ w s dx dy Q I rx ry ok dx' dy' q
  unfold orO at q
  cases e : o dx dy s with
  | stuck => rw [e] at q; exact h' pins sh σ H x y v u κ w s dx dy Q I rx ry ok dx' dy' q
  | exc a b => rw [e] at q; exact h pins sh σ H x y v u κ w s dx dy Q I rx ry ok dx' dy' (by rw [e]; exact q)
  | ok a b => rw [e] at q; exact h pins sh σ H x y v u κ w s dx dy Q I rx ry ok dx' dy' (by rw [e]; exact q)
theorem opX_run {o : DO2} {fa fb : DE} {a b : Expr} (ha : PD G W X a fa) (hb : PD G W X b fb) {f : Value → Value → Sem Value} (ho : OpX G W X f o) {pins : List (Addr × Obj)} {sh : Shared} {σ : L2.St} {H : Hp} {Q : VK} (I : Inv X pins σ H sh) (h : tD G W (eOpX o fa fb) σ H Q) :
    wpAny (model X.prog X.w) X.A (eval a X.env) (fun v s₁ => wpAny (model X.prog X.w) X.A (eval b X.env) (fun u s₂ => wpAny (model X.prog X.w) X.A (f v u) (EP X pins σ Q) X.xe s₂) X.xe s₁) X.xe sh := by
  obtain ⟨κ, w, s, ok, q⟩ := h
  have hh : tD G W fa σ H fun v H1 => tD G W fb σ H1 fun u H2 => ∃ d s1 w1, Ok G κ w1 s1 σ H2 ∧ ∃ d1, Rep G w1 v d1 ∧ Rep G w1 u d ∧ PostG G W (Rep G) κ w1 σ (o d1 d s1) Q :=
    ⟨κ, w, s, ok, (PostG.bind q).imp fun v H1 ⟨d, s1, w1, le, ok1, r1, q1⟩ => ⟨κ, w1, s1, ok1, (PostG.bind q1).imp fun u H2 ⟨d2, s2, w2, le2, ok2, r2, q2⟩ => ⟨d2, s2, w2, ok2, d, r1.mono le2, r2, q2⟩⟩⟩
  refine bin ha hb I (R := fun x y H2 => ∃ d s1 w1, Ok G κ w1 s1 σ H2 ∧ ∃ d1, Rep G w1 x d1 ∧ Rep G w1 y d ∧ PostG G W (Rep G) κ w1 σ (o d1 d s1) Q) hh fun v u s2 x y H2 I2 rx ry ⟨d, s1, w1, ok1, d1, r1, r2, q2⟩ => ?_
  exact ho pins s2 σ H2 x y v u κ w1 s1 d1 d Q I2 rx ry ok1 r1 r2 q2
theorem pd_opX {op : Operator} {o : DO2} {a b : Expr} {fa fb : DE} {pos : Pos} (ho : OpX G W X (binaryOp op) o) (ha : PD G W X a fa) (hb : PD G W X b fb) : PD G W X (.BinOp a op b pos) (eOpX o fa fb) :=
  ⟨fun pins s σ H Q I h => wpAny_BinOp (opX_run ha hb ho I h)⟩
theorem pd_cmpX {op : CmpOp} {o : DO2} {a b : Expr} {fa fb : DE} {pos : Pos} (ho : OpX G W X (compareOp op) o) (ha : PD G W X a fa) (hb : PD G W X b fb) (hm : behindInMarks op b = false) : PD G W X (.Compare a [op] [b] pos) (eOpX o fa fb) :=
  ⟨fun pins s σ H Q I h => wpAny_Compare1 (opX_run ha hb ho I h) hm⟩
/-! ### truth -/
def truD (d : D) : Option Bool := match d with
  | .non => some false
  | .bl b => some b
  | .int i => some (i != 0)
  | .str l => if l.length ≤ 16777216 then some ((l.length : Int) != 0) else none
  | .tup xs => some (!xs.isEmpty)
  | .lst xs => some (!xs.isEmpty)
  | .scr xs => some (!xs.isEmpty)
  | .dic xs => some (!xs.isEmpty)
  | _ => none
theorem Reps.isEmpty {w : Wd} {vs : List V} {ds : List D} (r : Reps G w vs ds) : vs.isEmpty = ds.isEmpty := by cases r <;> rfl
theorem RepK.isEmpty {w : Wd} {vs : List (Key × V)} {ds : List (DK × D)} (r : RepK G w vs ds) : vs.isEmpty = ds.isEmpty := by cases r <;> rfl
theorem nm_len (l : Nm) : (nm l).length = l.length := by simp [nm, Str.length]
theorem truV_of (hK : G.K = X.K) {κ : Bs} {w : Wd} {s : DS} {σ : L2.St} {H : Hp} {v : V} {d : D} {k : Bool} (ok : Ok G κ w s σ H) (r : Rep G w v d) (h : truD d = some k) : TruV X.K v H k := by
  cases r with
  | non => cases h; rfl
  | bl b => cases h; rfl
  | int i => cases h; rfl
  | str l =>
    have h : (if l.length ≤ 16777216 then some ((l.length : Int) != 0) else none) = some k := h
    split at h
    · rename_i c
      cases h
      exact ⟨by rw [nm_len, sizeLine_eq]; exact c, by rw [nm_len]⟩
    · cases h
  | @tup a vs ds e r => cases h; exact .inr (.inl ⟨vs, hK ▸ SqT.le e ok.fok.sub, by rw [r.isEmpty]⟩)
  | @lst a vs ds e r => cases h; exact .inl ⟨vs, .inl (.inl (ok.fok.sub _ _ e)), by rw [r.isEmpty]⟩
  | @scr a vs ds e r => cases h; exact .inl ⟨vs, hK ▸ SqL.le e ok.fok.sub, by rw [r.isEmpty]⟩
  | @dic a vs ds e r => cases h; exact .inr (.inr ⟨vs, ok.fok.sub _ _ e, by rw [r.isEmpty]⟩)
  | _ => cases h
def eTru (f : DE) : DT := fun s => (f s).bind fun d s1 => match truD d with
  | some b => .ok b s1
  | none => .stuck
theorem ptd_truth (hK : G.K = X.K) {e : Expr} {f : DE} (h : PD G W X e f) (he : ∀ whole, isTrue e X.env whole = (do let v ← whole; standAt e.pos; holding [v] (truthy v)) := by intro _; rfl) : PDT G W X e (eTru f) :=
  (pt_truth h he).imp fun σ H Q ⟨κ, w, s, ok, q⟩ => ⟨κ, w, s, ok, (PostG.bind q).imp fun v H1 ⟨d, s1, w1, le, ok1, r1, q1⟩ => by
    cases e1 : truD d with
    | none => rw [e1] at q1; exact q1.elim
    | some k => rw [e1] at q1; exact ⟨k, truV_of hK ok1 r1 e1, q1 w1 k H1 (.refl _) ok1 rfl⟩⟩
theorem ptd_cmpX {op : CmpOp} {o : DO2} {a b : Expr} {fa fb : DE} {pos : Pos} (ho : OpX G W X (compareOp op) o) (ha : PD G W X a fa) (hb : PD G W X b fb) (hm : behindInMarks op b = false) : PDT G W X (.Compare a [op] [b] pos) (eB (eOpX o fa fb)) :=
  ⟨fun pins s σ H Q I h => by
    have hh := tB_of h
    refine wpAny_isTrue_Compare1 (thn (opX_run ha hb ho I hh) fun v s1 h1 => thn h1 fun u s2 h2 => thn h2 fun c s3 ⟨x, H1, I1, r1, q1⟩ => ?_) hm
    obtain ⟨d, rfl, q⟩ := q1
    cases r1
    exact wpAny_truthy_bool ⟨H1, I1, q⟩⟩
/-- x or y, x and y by truth, as values -/
def eOrT (f g : DE) : DE := fun s => (f s).bind fun d s1 => match truD d with
  | some b => if b = true then .ok d s1 else g s1
  | none => .stuck
def eAndT (f g : DE) : DE := fun s => (f s).bind fun d s1 => match truD d with
  | some b => if b = true then g s1 else .ok d s1
  | none => .stuck
def eNotT (f : DE) : DE := fun s => (f s).bind fun d s1 => match truD d with
  | some b => .ok (.bl (!b)) s1
  | none => .stuck
theorem pd_orT (hK : G.K = X.K) {a b : Expr} {r : List Expr} {f g : DE} {pos : Pos} (h : PD G W X a f) (k : PD G W X (.BoolOp .Or (b :: r) pos) g) : PD G W X (.BoolOp .Or (a :: b :: r) pos) (eOrT f g) :=
  (pe_orT h k).imp fun σ H Q ⟨κ, w, s, ok, q⟩ => ⟨κ, w, s, ok, (PostG.bind q).imp fun v H1 ⟨d, s1, w1, le, ok1, r1, q1⟩ => by
    cases e1 : truD d with
    | none => rw [e1] at q1; exact q1.elim
    | some k =>
      rw [e1] at q1
      refine ⟨k, truV_of hK ok1 r1 e1, ?_⟩
      cases k with
      | true => exact q1 w1 v H1 (.refl _) ok1 r1
      | false => exact ⟨κ, w1, s1, ok1, q1⟩⟩
theorem pd_andT (hK : G.K = X.K) {a b : Expr} {r : List Expr} {f g : DE} {pos : Pos} (h : PD G W X a f) (k : PD G W X (.BoolOp .And (b :: r) pos) g) : PD G W X (.BoolOp .And (a :: b :: r) pos) (eAndT f g) :=
  (pe_andT h k).imp fun σ H Q ⟨κ, w, s, ok, q⟩ => ⟨κ, w, s, ok, (PostG.bind q).imp fun v H1 ⟨d, s1, w1, le, ok1, r1, q1⟩ => by
    cases e1 : truD d with
    | none => rw [e1] at q1; exact q1.elim
    | some k =>
      rw [e1] at q1
      refine ⟨k, truV_of hK ok1 r1 e1, ?_⟩
      cases k with
      | false => exact q1 w1 v H1 (.refl _) ok1 r1
      | true => exact ⟨κ, w1, s1, ok1, q1⟩⟩
theorem pd_notT (hK : G.K = X.K) {a : Expr} {f : DE} {pos : Pos} (h : PD G W X a f) : PD G W X (.UnaryOp .Not a pos) (eNotT f) :=
  (pe_notT h).imp fun σ H Q ⟨κ, w, s, ok, q⟩ => ⟨κ, w, s, ok, (PostG.bind q).imp fun v H1 ⟨d, s1, w1, le, ok1, r1, q1⟩ => by
    cases e1 : truD d with
    | none => rw [e1] at q1; exact q1.elim
    | some k => rw [e1] at q1; exact ⟨k, truV_of hK ok1 r1 e1, q1 w1 _ H1 (.refl _) ok1 (.bl _)⟩⟩
/-! ### ints -/
def dI (g : Int → Int → Option D) : D → D → Option D := fun x y => match x, y with
  | .int i, .int j => g i j
  | _, _ => none
theorem opd_I {f : Value → Value → Sem Value} {C : Int → Int → Prop} {gv : Int → Int → V} {g : Int → Int → Option D} (h : OpR X f (rI C gv)) (hg : ∀ i j d, g i j = some d → C i j ∧ ∀ w, Rep G w (gv i j) d) : OpD G X f (dI g) :=
  ⟨_, h, fun κ w s σ H x y dx dy d Q ok rx ry e q => by
    cases rx with
    | int i =>
      cases ry with
      | int j =>
        obtain ⟨c, r⟩ := hg _ _ _ e
        exact ⟨_, _, rfl, rfl, c, q w _ H (.refl _) ok (r w)⟩
      | _ => exact nomatch e
    | _ => exact nomatch e⟩
theorem opd_I0 {f : Value → Value → Sem Value} {gv : Int → Int → V} {g : Int → Int → Option D} (h : OpR X f (rI0 gv)) (hg : ∀ i j d, g i j = some d → ∀ w, Rep G w (gv i j) d) : OpD G X f (dI g) :=
  ⟨_, h, fun κ w s σ H x y dx dy d Q ok rx ry e q => by
    cases rx with
    | int i =>
      cases ry with
      | int j => exact ⟨_, _, rfl, rfl, q w _ H (.refl _) ok (hg _ _ _ e w)⟩
      | _ => exact nomatch e
    | _ => exact nomatch e⟩
/-- a bound on the bits that products may have -/
def mulOk (i j : Int) : Bool := decide (i.natAbs.log2 + j.natAbs.log2 < 100000000)
def divOk (j : Int) : Bool := decide (j ≠ 0 ∧ j.natAbs.log2 < 9000)
def iAdd : D → D → Option D := dI fun i j => some (.int (i + j))
def iSub : D → D → Option D := dI fun i j => some (.int (i - j))
def iMul : D → D → Option D := dI fun i j => if mulOk i j then some (.int (i * j)) else none
def iDiv : D → D → Option D := dI fun i j => if divOk j then some (.int (i.fdiv j)) else none
def iMod : D → D → Option D := dI fun i j => if j ≠ 0 then some (.int (i.fmod j)) else none
def iPow : D → D → Option D := dI fun i j => if 0 ≤ j ∧ j ≤ 1000000 ∧ i.natAbs < 2 ^ 64 then some (.int (i ^ j.toNat)) else none
def iShl : D → D → Option D := dI fun i j => if 0 ≤ j ∧ j ≤ 1000000 ∧ i.natAbs < 2 ^ 64 then some (.int (i * 2 ^ j.toNat)) else none
def iLt : D → D → Option D := dI fun i j => some (.bl (decide (i < j)))
def iLe : D → D → Option D := dI fun i j => some (.bl (decide (i ≤ j)))
def iGt : D → D → Option D := dI fun i j => some (.bl (decide (j < i)))
def iGe : D → D → Option D := dI fun i j => some (.bl (decide (j ≤ i)))
theorem opd_add : OpD G X (binaryOp .Add) iAdd := opd_I0 op_add fun i j d e w => by cases e; exact .int _
theorem opd_sub : OpD G X (binaryOp .Sub) iSub := opd_I0 op_sub fun i j d e w => by cases e; exact .int _
def CMulX (i j : Int) : Prop := i.natAbs.log2 + j.natAbs.log2 < 100000000
theorem CMulX.ok {i j : Int} (h : CMulX i j) : IntMulOk i j := by
  have b : ∀ x : Int, Builtin.Int.intBits x ≤ x.natAbs.log2 + 1 := fun x => by
    unfold Builtin.Int.intBits
    split <;> omega
  have h1 := b i
  have h2 := b j
  have h3 : i.natAbs.log2 + j.natAbs.log2 < 100000000 := h
  have e : bitsLine = 134217728 := by decide
  unfold IntMulOk
  intro z
  rw [Bool.and_eq_true] at z
  have z2 := z.2
  unfold Builtin.Int.intTooBig at z2
  have z3 := of_decide_eq_true z2
  rw [e] at z3
  omega
theorem op_mulX : OpR X (binaryOp .Mult) (rI CMulX fun i j => .int (i * j)) := opI fun _ _ _ _ _ _ _ hc q => mul_int q hc.ok
theorem opd_mul : OpD G X (binaryOp .Mult) iMul := opd_I op_mulX fun i j d e => by
  split at e
  · rename_i h
    cases e
    have h : decide (i.natAbs.log2 + j.natAbs.log2 < 100000000) = true := h
    exact ⟨(of_decide_eq_true h : i.natAbs.log2 + j.natAbs.log2 < 100000000), fun w => .int _⟩
  · cases e
theorem op_fdivX : OpR X (binaryOp .FloorDiv) (rI (fun _ j => j ≠ 0 ∧ j.natAbs.log2 < 9000) fun i j => .int (i.fdiv j)) := opI fun _ _ _ _ _ _ _ hc q => floordiv_int hc.1 q (.inl (PyProof.noPylong_of_log2 hc.2))
theorem opd_div : OpD G X (binaryOp .FloorDiv) iDiv := opd_I op_fdivX fun i j d e => by
  split at e
  · rename_i h
    cases e
    exact ⟨of_decide_eq_true h, fun w => .int _⟩
  · cases e
theorem opd_mod : OpD G X (binaryOp .Mod) iMod := opd_I op_modN fun i j d e => by
  split at e
  · rename_i h
    cases e
    exact ⟨h, fun w => .int _⟩
  · cases e
theorem opd_pow : OpD G X (binaryOp .Pow) iPow := opd_I op_pow fun i j d e => by
  split at e
  · rename_i h
    cases e
    exact ⟨h, fun w => .int _⟩
  · cases e
theorem opd_shl : OpD G X (binaryOp .LShift) iShl := opd_I op_shl fun i j d e => by
  split at e
  · rename_i h
    cases e
    exact ⟨h, fun w => .int _⟩
  · cases e
theorem opd_lt : OpD G X (compareOp .Lt) iLt := opd_I0 op_lt fun i j d e w => by cases e; exact .bl _
theorem opd_le : OpD G X (compareOp .LtE) iLe := opd_I0 op_le fun i j d e w => by cases e; exact .bl _
theorem opd_gt : OpD G X (compareOp .Gt) iGt := opd_I0 op_gt fun i j d e w => by cases e; exact .bl _
theorem opd_ge : OpD G X (compareOp .GtE) iGe := opd_I0 op_ge fun i j d e w => by cases e; exact .bl _
def eNeg (f : DE) : DE := fun s => (f s).bind fun d s1 => match d with
  | .int i => .ok (.int (-i)) s1
  | _ => .stuck
theorem pd_neg {a : Expr} {f : DE} {pos : Pos} (h : PD G W X a f) : PD G W X (.UnaryOp .USub a pos) (eNeg f) :=
  (pe_un un_neg h).imp fun σ H Q ⟨κ, w, s, ok, q⟩ => ⟨κ, w, s, ok, (PostG.bind q).imp fun v H1 ⟨d, s1, w1, le, ok1, r1, q1⟩ => by
    cases r1 with
    | int i => exact ⟨i, rfl, q1 w1 _ H1 (.refl _) ok1 (.int _)⟩
    | _ => exact q1.elim⟩
/-! ### sequences: +, * -/
def sAdd : D → D → Option D := fun x y => match x, y with
  | .str a, .str b => if a.length + b.length ≤ 1000000 then some (.str (a ++ b)) else none
  | .tup a, .tup b => if a ≠ [] ∧ b ≠ [] ∧ a.length + b.length ≤ 1000000 then some (.tup (a ++ b)) else none
  | _, _ => none
theorem nm_append (a b : Nm) : nm a ++ nm b = nm (a ++ b) := by
  show Str.mk _ = _
  simp [nm]
theorem opd_sadd (hK : G.K = X.K) : OpD G X (binaryOp .Add) sAdd := ⟨_, op_add_str.or op_catT, fun κ w s σ H x y dx dy d Q ok rx ry e q => by
  cases rx with
  | str a =>
    cases ry with
    | str b =>
      left
      have e : (if a.length + b.length ≤ 1000000 then some (D.str (a ++ b)) else none) = some d := e
      split at e
      · rename_i c
        cases e
        refine ⟨nm a, nm b, rfl, rfl, by rw [nm_len, nm_len, sizeLine_eq]; omega, ?_⟩
        rw [nm_append]
        exact q w _ H (.refl _) ok (.str _)
      · cases e
    | _ => exact nomatch e
  | @tup a vs ds e1 r1 =>
    cases ry with
    | @tup a2 vs2 ds2 e2 r2 =>
      right
      have e : (if ds ≠ [] ∧ ds2 ≠ [] ∧ ds.length + ds2.length ≤ 1000000 then some (D.tup (ds ++ ds2)) else none) = some d := e
      split at e
      · rename_i c
        cases e
        have n1 : vs ≠ [] := fun z => c.1 (by subst z; cases r1; rfl)
        have n2 : vs2 ≠ [] := fun z => c.2.1 (by subst z; cases r2; rfl)
        refine ⟨a, a2, vs, vs2, rfl, rfl, hK ▸ SqT.le e1 ok.fok.sub, hK ▸ SqT.le e2 ok.fok.sub, n1, by rw [r1.length, r2.length, sizeLine_eq]; omega, ?_⟩
        first
          | exact ⟨fun z => absurd z n2, fun p hp => by
              obtain ⟨le2, ok2⟩ := ok.alloc hp (.tup (vs ++ vs2))
              exact q _ _ _ le2 ok2 (.tup (.inl (.inl upd_same)) ((r1.append r2).mono le2))⟩
          | exact ⟨fun z => absurd z n2, fun _ p hp => by
              obtain ⟨le2, ok2⟩ := ok.alloc hp (.tup (vs ++ vs2))
              exact q _ _ _ le2 ok2 (.tup (.inl (.inl upd_same)) ((r1.append r2).mono le2))⟩
      · cases e
    | _ => exact nomatch e
  | _ => exact nomatch e⟩
/-- a + b of lists: a new list -/
def aCat (fa fb : DE) : DA := fun s => (fa s).bind fun x s1 => (fb s1).bind fun y s2 => match x, y with
  | .lst a, .lst b => if a.length + b.length ≤ 1000000 then .ok (a ++ b) s2 else .stuck
  | _, _ => .stuck
theorem pdo_cat {a b : Expr} {fa fb : DE} {pos : Pos} (ha : PD G W X a fa) (hb : PD G W X b fb) : PDo G W X (.BinOp a .Add b pos) (aCat fa fb) :=
  (pe_op op_cat ha hb).imp fun σ H Q ⟨κ, w, s, ok, q⟩ => ⟨κ, w, s, ok, (PostG.bindO q).imp fun v H1 ⟨d, s1, w1, le, ok1, r1, q1⟩ => ⟨κ, w1, s1, ok1, (PostG.bindO q1).imp fun v2 H2 ⟨d2, s2, w2, le2, ok2, r2, q2⟩ => by
    cases r1 with
    | @lst p vs ds e1 r1 =>
      cases r2 with
      | @lst p2 vs2 ds2 e2 r2 =>
        replace q2 : PostO G W κ w2 σ (if ds.length + ds2.length ≤ 1000000 then .ok (ds ++ ds2) s2 else .stuck) Q := q2
        split at q2
        · refine ⟨p, p2, vs, vs2, rfl, rfl, ok2.fok.sub _ _ (le2.f _ _ e1), ok2.fok.sub _ _ e2, by rw [r1.length, r2.length, sizeLine_eq]; omega, fun p hp => ?_⟩
          exact q2 w2 p _ _ (.refl _) (ok2.fresh hp _) (ok2.apart hp) ((r1.mono le2).append r2)
        · exact q2.elim
      | _ => exact q2.elim
    | _ => exact q2.elim⟩⟩
/-- list * int: a new list -/
def aRep (fa fb : DE) : DA := fun s => (fa s).bind fun x s1 => (fb s1).bind fun y s2 => match x, y with
  | .lst a, .int k => if -(2 ^ 63) ≤ k ∧ k < 2 ^ 63 ∧ a.length * k.toNat ≤ 1000000 then .ok (List.replicate k.toNat a).flatten s2 else .stuck
  | _, _ => .stuck
theorem Reps.rep {w : Wd} {vs : List V} {ds : List D} (r : Reps G w vs ds) : ∀ k : Nat, Reps G w (List.replicate k vs).flatten (List.replicate k ds).flatten
  | 0 => .nil
  | k + 1 => by
    rw [List.replicate_succ, List.replicate_succ, List.flatten_cons, List.flatten_cons]
    exact r.append (Reps.rep r k)
/-! ### subscripts -/
def ixD (d : D) (i : Int) : Option D := match d with
  | .tup xs => atI xs i
  | .lst xs => atI xs i
  | .scr xs => atI xs i
  | .str l => if l.length ≤ 16777216 then (atI l i).map fun c => .str [c] else none
  | _ => none
def eIx (fa fb : DE) : DE := fun s => (fa s).bind fun x s1 => (fb s1).bind fun y s2 => match y with
  | .int i => match ixD x i with
    | some d => .ok d s2
    | none => .stuck
  | _ => .stuck
theorem Reps.atI {w : Wd} {vs : List V} {ds : List D} {i : Int} {d : D} (r : Reps G w vs ds) (h : L2.atI ds i = some d) : ∃ v, L2.atI vs i = some v ∧ Rep G w v d := by
  unfold L2.atI at h ⊢
  rw [r.length]
  cases e : ixN ds.length i with
  | none => rw [e] at h; cases h
  | some j =>
    rw [e] at h
    obtain ⟨v, h1, h2⟩ := r.get (i := j) h
    exact ⟨v, h1, h2⟩
theorem pd_ix (hK : G.K = X.K) {a b : Expr} {fa fb : DE} {pos : Pos} (ha : PD G W X a fa) (hb : PD G W X b fb) (hs : PlainIx b) : PD G W X (.Subscript a b pos) (eIx fa fb) :=
  (pe_ix ix_seq ha hb hs).imp fun σ H Q ⟨κ, w, s, ok, q⟩ => ⟨κ, w, s, ok, (PostG.bind q).imp fun v H1 ⟨d, s1, w1, le, ok1, r1, q1⟩ => ⟨κ, w1, s1, ok1, (PostG.bind q1).imp fun v2 H2 ⟨d2, s2, w2, le2, ok2, r2, q2⟩ => by
    cases r2 with
    | int i =>
      replace q2 : PostG G W (Rep G) κ w2 σ (match ixD d i with | some d => .ok d s2 | none => .stuck) Q := q2
      cases e : ixD d i with
      | none => rw [e] at q2; exact q2.elim
      | some z =>
        rw [e] at q2
        cases r1 with
        | @tup p vs ds e1 r1 =>
          obtain ⟨y, h1, h2⟩ := Reps.atI r1 e
          exact .inr (.inl ⟨p, vs, i, y, rfl, rfl, hK ▸ SqT.le (SqT.le e1 le2.f) ok2.fok.sub, h1, q2 w2 y H2 (.refl _) ok2 (h2.mono le2)⟩)
        | @lst p vs ds e1 r1 =>
          obtain ⟨y, h1, h2⟩ := Reps.atI r1 e
          exact .inl ⟨p, vs, i, y, rfl, rfl, .inl (.inl (ok2.fok.sub _ _ (le2.f _ _ e1))), h1, q2 w2 y H2 (.refl _) ok2 (h2.mono le2)⟩
        | @scr p vs ds e1 r1 =>
          obtain ⟨y, h1, h2⟩ := Reps.atI r1 e
          exact .inl ⟨p, vs, i, y, rfl, rfl, hK ▸ SqL.le (SqL.le e1 le2.f) ok2.fok.sub, h1, q2 w2 y H2 (.refl _) ok2 (h2.mono le2)⟩
        | str l =>
          have e : (if l.length ≤ 16777216 then (L2.atI l i).map fun c => D.str [c] else none) = some z := e
          split at e
          · rename_i hl
            cases e3 : L2.atI l i with
            | none => simp [e3] at e
            | some c =>
              simp only [e3, Option.map_some, Option.some.injEq] at e
              subst e
              refine .inr (.inr ⟨nm l, i, c, rfl, rfl, by rw [nm_len, sizeLine_eq]; exact hl, by simpa [nm] using e3, ?_⟩)
              exact q2 w2 _ H2 (.refl _) ok2 (.str [c])
          · cases e
        | _ => exact nomatch e
    | _ => exact q2.elim⟩⟩
end
end DL
set_option maxRecDepth 100000
set_option maxHeartbeats 4000000
set_option autoImplicit false
namespace DL
open PySem PySem.Spec PyProof.Rows L2
section
variable {G : Gam} {W : WX} {X : Cx}
/-! ### built-ins by name -/
def CallD (G : Gam) (X : Cx) (f : Value) (o : List D → Option D) : Prop := ∃ r, CallR X f r ∧ ∀ (κ : Bs) (w : Wd) (s : DS) (σ : L2.St) (H : Hp) (vs : List V) (ds : List D) (d : D) (Q : VK),
  Ok G κ w s σ H → Reps G w vs ds → o ds = some d → (∀ w' v H', w.le w' → Ok G κ w' s σ H' → Rep G w' v d → Q v H') → r vs H Q
def eCB (o : List D → Option D) (fa : DA) : DE := fun s => (fa s).bind fun ds s1 => match o ds with
  | some d => .ok d s1
  | none => .stuck
theorem cb_of {o : List D → Option D} {r : List V → Hp → VK → Prop} {fa : DA} {σ : L2.St} {H : Hp} {Q : VK} (h2 : ∀ (κ : Bs) (w : Wd) (s : DS) (σ : L2.St) (H : Hp) (vs : List V) (ds : List D) (d : D) (Q : VK),
    Ok G κ w s σ H → Reps G w vs ds → o ds = some d → (∀ w' v H', w.le w' → Ok G κ w' s σ H' → Rep G w' v d → Q v H') → r vs H Q) (h : tD G W (eCB o fa) σ H Q) : tCB r (tDA G W fa) σ H Q := by
  obtain ⟨κ, w, s, ok, q⟩ := h
  refine ⟨κ, w, s, ok, (PostG.bind q).imp fun v H1 ⟨d, s1, w1, le, ok1, r1, q1⟩ => ?_⟩
  cases e : o d with
  | none => rw [e] at q1; exact q1.elim
  | some z => rw [e] at q1; exact h2 κ w1 s1 σ H1 v d z Q ok1 r1 e q1
theorem pd_callB {x : Str} {id : String} {p pos : Pos} {e : Expr} {es : List Expr} {fa : DA} {o : List D → Option D} (hc : CallD G X (.builtin id) o) (hg : Gl X x) (hm : X.mg x = none) (hv : bootBuiltins x = some (.builtin id)) (ha : PDA G W X (e :: es) fa) (hn : x ≠ "__name__" := by decide)
    (hdb : (x == ("__debug__" : Str)) = false := by decide) (he : starEach (e :: es) X.env = (false, eval e X.env) :: starEach es X.env := by rfl) (hpl : (backTo pos (starEach es X.env)).any (·.1) = false := by rfl) : PD G W X (.Call (.Name x p) (e :: es) [] pos) (eCB o fa) := by
  obtain ⟨r, h1, h2⟩ := hc
  exact (pe_callB h1 hg hm hv ha hn hdb he hpl).imp fun σ H Q h => cb_of h2 h
theorem pd_callTy {x : Str} {T : String} {p pos : Pos} {e : Expr} {es : List Expr} {fa : DA} {o : List D → Option D} (hc : CallD G X (.type T) o) (hg : Gl X x) (hm : X.mg x = none) (hv : bootBuiltins x = some (.type T)) (ha : PDA G W X (e :: es) fa) (hn : x ≠ "__name__" := by decide)
    (hdb : (x == ("__debug__" : Str)) = false := by decide) (he : starEach (e :: es) X.env = (false, eval e X.env) :: starEach es X.env := by rfl) (hpl : (backTo pos (starEach es X.env)).any (·.1) = false := by rfl) : PD G W X (.Call (.Name x p) (e :: es) [] pos) (eCB o fa) := by
  obtain ⟨r, h1, h2⟩ := hc
  exact (pe_callTy h1 hg hm hv ha hn hdb he hpl).imp fun σ H Q h => cb_of h2 h
theorem Reps.one {w : Wd} {vs : List V} {d : D} (r : Reps G w vs [d]) : ∃ v, vs = [v] ∧ Rep G w v d := by
  cases r with
  | cons a b => cases b; exact ⟨_, rfl, a⟩
theorem Reps.two {w : Wd} {vs : List V} {d d' : D} (r : Reps G w vs [d, d']) : ∃ v v', vs = [v, v'] ∧ Rep G w v d ∧ Rep G w v' d' := by
  cases r with
  | cons a b =>
    cases b with
    | cons a2 b2 => cases b2; exact ⟨_, _, rfl, a, a2⟩
def bLen : List D → Option D
  | [.tup xs] => some (.int xs.length)
  | [.lst xs] => some (.int xs.length)
  | [.scr xs] => some (.int xs.length)
  | [.str l] => if l.length ≤ 16777216 then some (.int l.length) else none
  | _ => none
theorem cd_len (hK : G.K = X.K) : CallD G X (.builtin "len") bLen := ⟨_, call_len, fun κ w s σ H vs ds d Q ok rs e q => by
  match ds, e with
  | [.tup xs], e =>
    cases e
    obtain ⟨v, rfl, r⟩ := rs.one
    cases r with
    | @tup a vs ds e r => exact ⟨_, _, rfl, .inr ⟨vs, hK ▸ SqT.le e ok.fok.sub, rfl⟩, by rw [r.length]; exact q w _ H (.refl _) ok (.int _)⟩
  | [.lst xs], e =>
    cases e
    obtain ⟨v, rfl, r⟩ := rs.one
    cases r with
    | @lst a vs ds e r => exact ⟨_, _, rfl, .inl ⟨vs, .inl (.inl (ok.fok.sub _ _ e)), rfl⟩, by rw [r.length]; exact q w _ H (.refl _) ok (.int _)⟩
  | [.scr xs], e =>
    cases e
    obtain ⟨v, rfl, r⟩ := rs.one
    cases r with
    | @scr a vs ds e r => exact ⟨_, _, rfl, .inl ⟨vs, hK ▸ SqL.le e ok.fok.sub, rfl⟩, by rw [r.length]; exact q w _ H (.refl _) ok (.int _)⟩
  | [.str l], e =>
    have e : (if l.length ≤ 16777216 then some (D.int l.length) else none) = some d := e
    split at e
    · rename_i c
      cases e
      obtain ⟨v, rfl, r⟩ := rs.one
      cases r
      exact ⟨_, _, rfl, ⟨by rw [nm_len, sizeLine_eq]; exact c, rfl⟩, by rw [nm_len]; exact q w _ H (.refl _) ok (.int _)⟩
    · cases e⟩
def bInt : List D → Option D
  | [.int i] => some (.int i)
  | [.bl b] => some (.int (if b then 1 else 0))
  | _ => none
theorem cd_int : CallD G X (.type "int") bInt := ⟨_, call_int1, fun κ w s σ H vs ds d Q ok rs e q => by
  match ds, e with
  | [.int i], e =>
    cases e
    obtain ⟨v, rfl, r⟩ := rs.one
    cases r
    exact .inl ⟨i, rfl, q w _ H (.refl _) ok (.int _)⟩
  | [.bl b], e =>
    cases e
    obtain ⟨v, rfl, r⟩ := rs.one
    cases r
    exact .inr ⟨b, rfl, q w _ H (.refl _) ok (.int _)⟩⟩
def bAbs : List D → Option D
  | [.int i] => some (.int (if i < 0 then -i else i))
  | _ => none
theorem cd_abs : CallD G X (.builtin "abs") bAbs := ⟨_, call_abs, fun κ w s σ H vs ds d Q ok rs e q => by
  match ds, e with
  | [.int i], e =>
    cases e
    obtain ⟨v, rfl, r⟩ := rs.one
    cases r
    exact ⟨i, rfl, q w _ H (.refl _) ok (.int _)⟩⟩
def bMax2 : List D → Option D
  | [.int i, .int j] => some (.int (if j > i then j else i))
  | _ => none
def bMin2 : List D → Option D
  | [.int i, .int j] => some (.int (if j < i then j else i))
  | _ => none
theorem cd_max2 (hc : X.calm = true) : CallD G X (.builtin "max") bMax2 := ⟨_, call_max2 hc, fun κ w s σ H vs ds d Q ok rs e q => by
  match ds, e with
  | [.int i, .int j], e =>
    cases e
    obtain ⟨v, v', rfl, r, r'⟩ := rs.two
    cases r
    cases r'
    exact ⟨i, j, rfl, q w _ H (.refl _) ok (.int _)⟩⟩
theorem cd_min2 (hc : X.calm = true) : CallD G X (.builtin "min") bMin2 := ⟨_, call_min2 hc, fun κ w s σ H vs ds d Q ok rs e q => by
  match ds, e with
  | [.int i, .int j], e =>
    cases e
    obtain ⟨v, v', rfl, r, r'⟩ := rs.two
    cases r
    cases r'
    exact ⟨i, j, rfl, q w _ H (.refl _) ok (.int _)⟩⟩
def intsOf : List D → Option (List Int)
  | [] => some []
  | .int i :: r => (intsOf r).map (i :: ·)
  | _ => none
theorem intsOf_eq : ∀ {ds : List D} {ns : List Int}, intsOf ds = some ns → ds = ns.map D.int
  | [], ns, e => by cases e; rfl
  | .int i :: r, ns, e => by
    unfold intsOf at e
    cases q : intsOf r with
    | none => rw [q] at e; cases e
    | some ms =>
      rw [q] at e
      cases e
      rw [intsOf_eq q]
      rfl
  | .non :: _, _, e => nomatch e
  | .bl _ :: _, _, e => nomatch e
  | .str _ :: _, _, e => nomatch e
  | .tup _ :: _, _, e => nomatch e
  | .lst _ :: _, _, e => nomatch e
  | .scr _ :: _, _, e => nomatch e
  | .dic _ :: _, _, e => nomatch e
  | .ins _ _ :: _, _, e => nomatch e
  | .cell _ :: _, _, e => nomatch e
  | .cls _ :: _, _, e => nomatch e
  | .ty _ :: _, _, e => nomatch e
  | .fn _ :: _, _, e => nomatch e
def blsOf : List D → Option (List Bool)
  | [] => some []
  | .bl i :: r => (blsOf r).map (i :: ·)
  | _ => none
theorem blsOf_eq : ∀ {ds : List D} {ns : List Bool}, blsOf ds = some ns → ds = ns.map D.bl
  | [], ns, e => by cases e; rfl
  | .bl i :: r, ns, e => by
    unfold blsOf at e
    cases q : blsOf r with
    | none => rw [q] at e; cases e
    | some ms =>
      rw [q] at e
      cases e
      rw [blsOf_eq q]
      rfl
  | .non :: _, _, e => nomatch e
  | .int _ :: _, _, e => nomatch e
  | .str _ :: _, _, e => nomatch e
  | .tup _ :: _, _, e => nomatch e
  | .lst _ :: _, _, e => nomatch e
  | .scr _ :: _, _, e => nomatch e
  | .dic _ :: _, _, e => nomatch e
  | .ins _ _ :: _, _, e => nomatch e
  | .cell _ :: _, _, e => nomatch e
  | .cls _ :: _, _, e => nomatch e
  | .ty _ :: _, _, e => nomatch e
  | .fn _ :: _, _, e => nomatch e
theorem Reps.bls {w : Wd} : ∀ {v : List V} {ns : List Bool}, Reps G w v (ns.map D.bl) → v = ns.map V.bl
  | _, [], h => by cases h; rfl
  | _, n :: ns, h => by
    cases h with
    | cons a b => cases a; rw [Reps.bls b]; rfl
def bSum : List D → Option D
  | [.lst xs] => (intsOf xs).map fun ns => .int ns.sum
  | _ => none
theorem cd_sum (hc : X.calm = true) : CallD G X (.builtin "sum") bSum := ⟨_, cr_sum hc, fun κ w s σ H vs ds d Q ok rs e q => by
  match ds, e with
  | [.lst xs], e =>
    have e : (intsOf xs).map (fun ns => D.int ns.sum) = some d := e
    cases e1 : intsOf xs with
    | none => rw [e1] at e; cases e
    | some ns =>
      rw [e1] at e
      cases e
      obtain ⟨v, rfl, r⟩ := rs.one
      cases r with
      | @lst a vs ds e r =>
        rw [intsOf_eq e1] at r
        rw [r.ints] at e
        exact ⟨a, ns, rfl, .inl (.inl (ok.fok.sub _ _ e)), q w _ H (.refl _) ok (.int _)⟩⟩
def bAll : List D → Option D
  | [.lst xs] => (blsOf xs).map fun ns => .bl (ns.all id)
  | _ => none
def bAny : List D → Option D
  | [.lst xs] => (blsOf xs).map fun ns => .bl (ns.any id)
  | _ => none
theorem cd_all (hc : X.calm = true) : CallD G X (.builtin "all") bAll := ⟨_, cr_all hc, fun κ w s σ H vs ds d Q ok rs e q => by
  match ds, e with
  | [.lst xs], e =>
    have e : (blsOf xs).map (fun ns => D.bl (ns.all id)) = some d := e
    cases e1 : blsOf xs with
    | none => rw [e1] at e; cases e
    | some ns =>
      rw [e1] at e
      cases e
      obtain ⟨v, rfl, r⟩ := rs.one
      cases r with
      | @lst a vs ds e r =>
        rw [blsOf_eq e1] at r
        rw [r.bls] at e
        exact ⟨a, ns, rfl, .inl (.inl (ok.fok.sub _ _ e)), q w _ H (.refl _) ok (.bl _)⟩⟩
theorem cd_any (hc : X.calm = true) : CallD G X (.builtin "any") bAny := ⟨_, cr_any hc, fun κ w s σ H vs ds d Q ok rs e q => by
  match ds, e with
  | [.lst xs], e =>
    have e : (blsOf xs).map (fun ns => D.bl (ns.any id)) = some d := e
    cases e1 : blsOf xs with
    | none => rw [e1] at e; cases e
    | some ns =>
      rw [e1] at e
      cases e
      obtain ⟨v, rfl, r⟩ := rs.one
      cases r with
      | @lst a vs ds e r =>
        rw [blsOf_eq e1] at r
        rw [r.bls] at e
        exact ⟨a, ns, rfl, .inl (.inl (ok.fok.sub _ _ e)), q w _ H (.refl _) ok (.bl _)⟩⟩
/-- tuple(x) -/
def bTup : List D → Option D
  | [.tup xs] => some (.tup xs)
  | [.lst xs] => some (.tup xs)
  | _ => none
theorem cd_tup (hK : G.K = X.K) : CallD G X (.type "tuple") bTup := ⟨_, call_tuple_of, fun κ w s σ H vs ds d Q ok rs e q => by
  match ds, e with
  | [.tup xs], e =>
    cases e
    obtain ⟨v, rfl, r⟩ := rs.one
    cases r with
    | @tup a vs ds e r => exact ⟨a, vs, rfl, .inr ⟨hK ▸ SqT.le e ok.fok.sub, q w _ H (.refl _) ok (.tup e r)⟩⟩
  | [.lst xs], e =>
    cases e
    obtain ⟨v, rfl, r⟩ := rs.one
    cases r with
    | @lst a vs ds e r => exact ⟨a, vs, rfl, .inl ⟨.inl (.inl (ok.fok.sub _ _ e)), fun l hl => by
        obtain ⟨le2, ok2⟩ := ok.alloc hl (.tup vs)
        exact q _ _ _ le2 ok2 (.tup (.inl (.inl upd_same)) (r.mono le2))⟩⟩⟩
/-- list(x): a new list -/
def seqD (d : D) : Option (List D) := match d with
  | .tup xs => some xs
  | .lst xs => some xs
  | .scr xs => some xs
  | _ => none
def aList (fa : DA) : DA := fun s => (fa s).bind fun ds s1 => match ds with
  | [d] => match seqD d with
    | some xs => .ok xs s1
    | none => .stuck
  | _ => .stuck
theorem Rep.seq (hK : G.K = X.K) {κ : Bs} {w : Wd} {s : DS} {σ : L2.St} {H : Hp} {v : V} {d : D} {xs : List D} (ok : Ok G κ w s σ H) (r : Rep G w v d) (h : seqD d = some xs) : ∃ a vs, v = .ref a ∧ (SqL X.K H a vs ∨ SqT X.K H a vs) ∧ Reps G w vs xs := by
  cases r with
  | @tup a vs ds e r => cases h; exact ⟨a, vs, rfl, .inr (hK ▸ SqT.le e ok.fok.sub), r⟩
  | @lst a vs ds e r => cases h; exact ⟨a, vs, rfl, .inl (.inl (.inl (ok.fok.sub _ _ e))), r⟩
  | @scr a vs ds e r => cases h; exact ⟨a, vs, rfl, .inl (hK ▸ SqL.le e ok.fok.sub), r⟩
  | _ => exact nomatch h
theorem pdo_list (hK : G.K = X.K) {x : Str} {p pos : Pos} {e : Expr} {fa : DA} (hg : Gl X x) (hm : X.mg x = none) (hv : bootBuiltins x = some (.type "list")) (ha : PDA G W X [e] fa) (hn : x ≠ "__name__" := by decide) (hdb : (x == ("__debug__" : Str)) = false := by decide)
    (he : starEach [e] X.env = (false, eval e X.env) :: starEach [] X.env := by rfl) (hpl : (backTo pos (starEach [] X.env)).any (·.1) = false := by rfl) : PDo G W X (.Call (.Name x p) [e] [] pos) (aList fa) :=
  (pe_callTy call_list_of hg hm hv ha hn hdb he hpl).imp fun σ H Q ⟨κ, w, s, ok, q⟩ => ⟨κ, w, s, ok, (PostG.bindO q).imp fun v H1 ⟨d, s1, w1, le, ok1, r1, q1⟩ => by
    match d, q1 with
    | [d], q1 =>
      replace q1 : PostO G W κ w1 σ (match seqD d with | some xs => .ok xs s1 | none => .stuck) Q := q1
      cases e1 : seqD d with
      | none => rw [e1] at q1; exact q1.elim
      | some xs =>
        rw [e1] at q1
        obtain ⟨v, rfl, r⟩ := r1.one
        obtain ⟨a, vs, rfl, h1, h2⟩ := r.seq hK ok1 e1
        exact ⟨a, vs, rfl, h1, fun l hl => q1 w1 l vs _ (.refl _) (ok1.fresh hl _) (ok1.apart hl) h2⟩⟩
/-! ### slices -/
abbrev DOp := DS → Res DS (Option Int)
def oNone : DOp := fun s => .ok none s
def oSome (f : DE) : DOp := fun s => (f s).bind fun d s1 => match d with
  | .int i => .ok (some i) s1
  | _ => .stuck
def tDO (G : Gam) (W : WX) (f : DOp) : TO := fun σ H Q => ∃ κ w s, Ok G κ w s σ H ∧ PostG G W (fun _ (v : Option Int) d => v = d) κ w σ (f s) Q
theorem _root_.L2.PO.imp {X : Cx} {e : Option Expr} {t t' : TO} (h : PO X e t) (k : ∀ σ H Q, t' σ H Q → t σ H Q) : PO X e t' := ⟨by
  first
    | exact fun pins s σ H Q I q => h.run pins s σ H Q I (k σ H Q q)
    | exact fun a pins s σ H Q I q => h.run a pins s σ H Q I (k σ H Q q)⟩
theorem pdo_none : PO X none (tDO G W oNone) := po_none.imp fun σ H Q ⟨κ, w, s, ok, q⟩ => q w none H (.refl _) ok rfl
theorem pdo_some {e : Expr} {f : DE} (h : PD G W X e f) : PO X (some e) (tDO G W (oSome f)) := (po_some h).imp fun σ H Q ⟨κ, w, s, ok, q⟩ => ⟨κ, w, s, ok, (PostG.bind q).imp fun v H1 ⟨d, s1, w1, le, ok1, r1, q1⟩ => by
  cases r1 with
  | int i => exact ⟨i, rfl, q1 w1 _ H1 (.refl _) ok1 rfl⟩
  | _ => exact q1.elim⟩
def cutD {α : Type} (xs : List α) (lo hi : Option Int) : List α := (xs.drop (HT.sIx xs.length 0 lo)).take (HT.sIx xs.length xs.length hi - HT.sIx xs.length 0 lo)
theorem Reps.cut {w : Wd} {vs : List V} {ds : List D} (r : Reps G w vs ds) (lo hi : Option Int) : Reps G w (cutV vs lo hi) (cutD ds lo hi) := by
  unfold cutV cutD
  rw [r.length]
  exact (r.drop _).take _
/-- a slice of a list: a new list -/
def aSl (f : DE) (l h : DOp) : DA := fun s => (f s).bind fun d s1 => (l s1).bind fun lo s2 => (h s2).bind fun hi s3 => match d with
  | .lst xs => .ok (cutD xs lo hi) s3
  | .scr xs => .ok (cutD xs lo hi) s3
  | _ => .stuck
theorem pdo_slice (hK : G.K = X.K) {e : Expr} {lo hi : Option Expr} {f : DE} {l h : DOp} {p2 pos : Pos} (he : PD G W X e f) (hl : PO X lo (tDO G W l)) (hh : PO X hi (tDO G W h)) : PDo G W X (.Subscript e (.Slice lo hi none p2) pos) (aSl f l h) :=
  (pe_slice sl_list he hl hh).imp fun σ H Q ⟨κ, w, s, ok, q⟩ => ⟨κ, w, s, ok, (PostG.bindO q).imp fun v H1 ⟨d, s1, w1, le, ok1, r1, q1⟩ => ⟨κ, w1, s1, ok1, (PostG.bindO q1).imp fun v2 H2 ⟨d2, s2, w2, le2, ok2, r2, q2⟩ =>
    ⟨κ, w2, s2, ok2, (PostG.bindO q2).imp fun v3 H3 ⟨d3, s3, w3, le3, ok3, r3, q3⟩ => by
      subst r2
      subst r3
      cases r1 with
      | @lst a vs ds e r =>
        have e := le3.f _ _ (le2.f _ _ e)
        exact ⟨a, vs, rfl, .inl (.inl (ok3.fok.sub _ _ e)), fun p hp => q3 w3 p _ _ (.refl _) (ok3.fresh hp _) (ok3.apart hp) (((r.mono le2).mono le3).cut _ _)⟩
      | @scr a vs ds e r =>
        exact ⟨a, vs, rfl, hK ▸ SqL.le (SqL.le (SqL.le e le2.f) le3.f) ok3.fok.sub, fun p hp => q3 w3 p _ _ (.refl _) (ok3.fresh hp _) (ok3.apart hp) (((r.mono le2).mono le3).cut _ _)⟩
      | _ => exact q3.elim⟩⟩⟩
/-! ### isinstance -/
def tyD (d : D) : Option String := match d with
  | .non => some "NoneType"
  | .bl _ => some "bool"
  | .int _ => some "int"
  | .str _ => some "str"
  | .tup _ => some "tuple"
  | .lst _ => some "list"
  | .scr _ => some "list"
  | .dic _ => some "dict"
  | _ => none
def tyNames : List String := ["NoneType", "bool", "int", "str", "tuple", "list", "dict"]
def isTy (a b : String) : Bool := a == b || (a == "bool" && b == "int")
theorem isTy_ok : ∀ a ∈ tyNames, ∀ b ∈ tyNames, kitB a b = some (isTy a b) := by decide +kernel
/-- what of the text isinstance asks of the own classes -/
structure IsOk (G : Gam) (cs : List String) : Prop where
  cl : ∀ c ∈ cs, ∀ C, G.ct c = some C → Cls G.K C ∧ PySem.W.findIn G.K (.ref C) "__class__" = some (some (.builtin "object.__class__")) ∧ PySem.W.specialIn G.K (.builtin "object.__class__") "__get__" = some (some (.builtin "getset_descriptor.__get__")) ∧
    PySem.W.takesIn G.K (.builtin "object.__class__") = some true ∧ PySem.W.mroIn G.K C (.type "object") = some true
  bo : ∀ c ∈ cs, ∀ C, G.ct c = some C → ∀ b ∈ tyNames, PySem.W.kitOne G.K (.ref C) (.type b) = some false ∧ PySem.W.kitOne G.K (.type b) (.ref C) = some false
  oo : ∀ c ∈ cs, ∀ c' ∈ cs, ∀ C C', G.ct c = some C → G.ct c' = some C' → PySem.W.kitOne G.K (.ref C) (.ref C') = some (c == c')
/-- the type of data: built-in or own -/
def tyOfD (cs : List String) (d : D) : Option (String ⊕ String) := match d with
  | .ins c _ => if c ∈ cs then some (.inr c) else none
  | d => (tyD d).map .inl
def isOne (cs : List String) (t : String ⊕ String) (c : D) : Option Bool := match t, c with
  | .inl a, .ty b => if a ∈ tyNames ∧ b ∈ tyNames then some (isTy a b) else none
  | .inl a, .cls b => if a ∈ tyNames ∧ b ∈ cs then some false else none
  | .inr a, .ty b => if b ∈ tyNames then some false else none
  | .inr a, .cls b => if b ∈ cs then some (a == b) else none
  | _, _ => none
def bIsi (cs : List String) : List D → Option D
  | [d, c] => (tyOfD cs d).bind fun t => (isOne cs t c).map .bl
  | _ => none
theorem tyX_of (hK : G.K = X.K) {cs : List String} (I : IsOk G cs) {κ : Bs} {w : Wd} {s : DS} {σ : L2.St} {H : Hp} {v : V} {d : D} {t : String ⊕ String} (ok : Ok G κ w s σ H) (r : Rep G w v d) (h : tyOfD cs d = some t) :
    ∃ tv, TyX X.K H v tv ∧ (match t with | .inl a => tv = .type a ∧ a ∈ tyNames | .inr c => c ∈ cs ∧ ∃ C, G.ct c = some C ∧ tv = .ref C) := by
  cases r with
  | non => cases h; exact ⟨_, .base .non, rfl, by decide⟩
  | bl b => cases h; exact ⟨_, .base (.bl b), rfl, by decide⟩
  | int i => cases h; exact ⟨_, .base (.int i), rfl, by decide⟩
  | str l => cases h; exact ⟨_, .base (.str _), rfl, by decide⟩
  | @tup a vs ds e r =>
    cases h
    rcases SqT.le e ok.fok.sub with (z | ⟨o, z⟩) | ⟨o, its, n, z1, z2, _⟩
    · exact ⟨_, .base (.tup z), rfl, by decide⟩
    · exact ⟨_, .fTuple z, rfl, by decide⟩
    · exact ⟨_, .kTuple (hK ▸ z1) z2, rfl, by decide⟩
  | @lst a vs ds e r => cases h; exact ⟨_, .base (.lst (ok.fok.sub _ _ e)), rfl, by decide⟩
  | @scr a vs ds e r =>
    cases h
    rcases SqL.le e ok.fok.sub with (z | ⟨o, z⟩) | ⟨o, its, n, z1, z2, _⟩
    · exact ⟨_, .base (.lst z), rfl, by decide⟩
    · exact ⟨_, .base (.frz z), rfl, by decide⟩
    · exact ⟨_, .kList (hK ▸ z1) z2, rfl, by decide⟩
  | @dic a vs ds e r => cases h; exact ⟨_, .base (.dK (ok.fok.sub _ _ e)), rfl, by decide⟩
  | @ins a C dx c vs ds hC e r =>
    have h : (if c ∈ cs then some (Sum.inr c) else none) = some t := h
    split at h
    · rename_i hc
      cases h
      obtain ⟨cl, h1, h2, h3, h4⟩ := I.cl c hc C hC
      exact ⟨_, .base (.ins (ok.fok.sub _ _ e) (hK ▸ cl) (hK ▸ h1) (hK ▸ h2) (hK ▸ h3) (hK ▸ h4)), hc, C, hC, rfl⟩
    · cases h
  | _ => exact nomatch h
theorem cd_isi (hK : G.K = X.K) {cs : List String} (I : IsOk G cs) : CallD G X (.builtin "isinstance") (bIsi cs) := ⟨_, call_isi, fun κ w s σ H vs ds d Q ok rs e q => by
  match ds, e with
  | [x, c], e =>
    have e : ((tyOfD cs x).bind fun t => (isOne cs t c).map D.bl) = some d := e
    cases e1 : tyOfD cs x with
    | none => rw [e1] at e; cases e
    | some t =>
      rw [e1] at e
      obtain ⟨v, v', rfl, r, r'⟩ := rs.two
      obtain ⟨tv, ty, ht⟩ := tyX_of hK I ok r e1
      have e : (isOne cs t c).map D.bl = some d := e
      cases e2 : isOne cs t c with
      | none => rw [e2] at e; cases e
      | some b =>
        rw [e2] at e
        cases e
        cases t with
        | inl a =>
          obtain ⟨rfl, ha⟩ := ht
          cases r' with
          | ty n =>
            have e2 : (if a ∈ tyNames ∧ n ∈ tyNames then some (isTy a n) else none) = some b := e2
            split at e2
            · rename_i h
              cases e2
              exact ⟨v, _, _, .type n, _, rfl, .ty n, ty, kit_ty (isTy_ok a h.1 n h.2), q w _ H (.refl _) ok (.bl _)⟩
            · cases e2
          | @cls C n hC =>
            have e2 : (if a ∈ tyNames ∧ n ∈ cs then some false else none) = some b := e2
            split at e2
            · rename_i h
              cases e2
              exact ⟨v, _, _, .ref C, _, rfl, .own C, ty, hK ▸ (I.bo n h.2 C hC a h.1).2, q w _ H (.refl _) ok (.bl _)⟩
            · cases e2
          | _ => exact nomatch e2
        | inr a =>
          obtain ⟨ha, C', hC', rfl⟩ := ht
          cases r' with
          | ty n =>
            have e2 : (if n ∈ tyNames then some false else none) = some b := e2
            split at e2
            · rename_i h
              cases e2
              exact ⟨v, _, _, .type n, _, rfl, .ty n, ty, hK ▸ (I.bo a ha C' hC' n h).1, q w _ H (.refl _) ok (.bl _)⟩
            · cases e2
          | @cls C n hC =>
            have e2 : (if n ∈ cs then some (a == n) else none) = some b := e2
            split at e2
            · rename_i h
              cases e2
              exact ⟨v, _, _, .ref C, _, rfl, .own C, ty, hK ▸ I.oo a ha n h C' C hC' hC, q w _ H (.refl _) ok (.bl _)⟩
            · cases e2
          | _ => exact nomatch e2⟩
end
end DL
set_option maxRecDepth 100000
set_option maxHeartbeats 4000000
set_option autoImplicit false
namespace DL
open PySem PySem.Spec PyProof.Rows L2
section
variable {G : Gam} {W : WX} {X : Cx}
/-! ### dicts -/
theorem dkey_inj {a b : DK} (h : dkey a = dkey b) : a = b := by
  cases a <;> cases b <;> simp [dkey] at h <;> first | (subst h; rfl) | (rw [nm_inj h])
def kOf (d : D) : Option DK := match d with
  | .int i => some (.i i)
  | .str l => some (.s l)
  | _ => none
theorem Rep.key {w : Wd} {v : V} {d : D} {k : DK} (r : Rep G w v d) (h : kOf d = some k) : v = kV (dkey k) := by
  cases r with
  | int i => cases h; rfl
  | str l => cases h; rfl
  | _ => exact nomatch h
def dLook (kvs : List (DK × D)) (k : DK) : Option D := match kvs with
  | [] => none
  | (k', d) :: r => if k' = k then some d else dLook r k
def dPut (kvs : List (DK × D)) (k : DK) (x : D) : List (DK × D) := match kvs with
  | [] => [(k, x)]
  | (k', d) :: r => if k' = k then (k, x) :: r else (k', d) :: dPut r k x
theorem RepK.look {w : Wd} : ∀ {v : List (Key × V)} {d : List (DK × D)} {k : DK}, RepK G w v d → (∀ x, dLook d k = some x → ∃ y, valV v (dkey k) = some y ∧ Rep G w y x) ∧ (dLook d k = none → valV v (dkey k) = none)
  | _, _, _, .nil => ⟨fun x e => (nomatch e), fun _ => rfl⟩
  | _, _, k, .cons (k := k') (v := v) (d := d) (vs := vs) (ds := ds) a b => by
    by_cases h : k' = k
    · subst h
      refine ⟨fun x e => ?_, fun e => ?_⟩
      · unfold dLook at e
        rw [if_pos rfl] at e
        cases e
        exact ⟨v, valV_pos rfl, a⟩
      · unfold dLook at e
        rw [if_pos rfl] at e
        cases e
    · have h2 : ¬ dkey k' = dkey k := fun q => h (dkey_inj q)
      obtain ⟨i1, i2⟩ := RepK.look (k := k) b
      refine ⟨fun x e => ?_, fun e => ?_⟩
      · unfold dLook at e
        rw [if_neg h] at e
        obtain ⟨y, q1, q2⟩ := i1 x e
        exact ⟨y, (valV_neg h2).trans q1, q2⟩
      · unfold dLook at e
        rw [if_neg h] at e
        exact (valV_neg h2).trans (i2 e)
theorem RepK.length {w : Wd} : ∀ {v : List (Key × V)} {d : List (DK × D)}, RepK G w v d → v.length = d.length
  | _, _, .nil => rfl
  | _, _, .cons _ b => by rw [List.length_cons, List.length_cons, RepK.length b]
/-- what of a dict is told (Nodup keys are not known here: the store at the first place and at the last agree by this) -/
def keysNd : List (DK × D) → Bool
  | [] => true
  | (k, _) :: r => !(r.any fun p => decide (p.1 = k)) && keysNd r
theorem RepK.any {w : Wd} {k : DK} : ∀ {v : List (Key × V)} {d : List (DK × D)}, RepK G w v d → (v.any fun kv => decide (kv.1 = dkey k)) = d.any fun kv => decide (kv.1 = k)
  | _, _, .nil => rfl
  | _, _, .cons (k := k') a b => by
    rw [List.any_cons, List.any_cons, RepK.any b]
    congr 1
    by_cases h : k' = k
    · subst h; simp
    · simp [h, show ¬ dkey k' = dkey k from fun q => h (dkey_inj q)]
theorem RepK.keepMap {w : Wd} {k : DK} {y : V} : ∀ {v : List (Key × V)} {d : List (DK × D)}, RepK G w v d → (d.any fun kv => decide (kv.1 = k)) = false → v.map (fun kv => if kv.1 = dkey k then (kv.1, y) else kv) = v
  | _, _, .nil, _ => rfl
  | _, _, .cons (k := k') a b, h => by
    rw [List.any_cons, Bool.or_eq_false_iff] at h
    have h1 : ¬ k' = k := of_decide_eq_false h.1
    rw [List.map_cons, if_neg (show ¬ dkey k' = dkey k from fun q => h1 (dkey_inj q)), RepK.keepMap b h.2]
theorem dPut_new : ∀ {d : List (DK × D)} {k : DK} {x : D}, (d.any fun kv => decide (kv.1 = k)) = false → dPut d k x = d ++ [(k, x)]
  | [], _, _, _ => rfl
  | (k', z) :: r, k, x, h => by
    rw [List.any_cons, Bool.or_eq_false_iff] at h
    have h1 : ¬ k' = k := of_decide_eq_false h.1
    unfold dPut
    rw [if_neg h1, dPut_new h.2]
    rfl
theorem RepK.append {w : Wd} : ∀ {v v' : List (Key × V)} {d d' : List (DK × D)}, RepK G w v d → RepK G w v' d' → RepK G w (v ++ v') (d ++ d')
  | _, _, _, _, .nil, h => h
  | _, _, _, _, .cons a b, h => .cons a (RepK.append b h)
theorem RepK.putMap {w : Wd} {k : DK} {y : V} {x : D} (r : Rep G w y x) : ∀ {v : List (Key × V)} {d : List (DK × D)}, RepK G w v d → keysNd d = true → (d.any fun kv => decide (kv.1 = k)) = true → RepK G w (v.map fun kv => if kv.1 = dkey k then (kv.1, y) else kv) (dPut d k x)
  | _, _, .nil, _, h => nomatch h
  | _, _, .cons (k := k') a b, nd, h => by
    unfold keysNd at nd
    rw [Bool.and_eq_true, Bool.not_eq_true'] at nd
    unfold dPut
    by_cases e : k' = k
    · subst e
      rw [if_pos rfl, List.map_cons, if_pos rfl, RepK.keepMap b nd.1]
      exact .cons r b
    · rw [if_neg e, List.map_cons, if_neg (show ¬ dkey k' = dkey k from fun q => e (dkey_inj q))]
      refine .cons a (RepK.putMap r b nd.2 ?_)
      rw [List.any_cons, Bool.or_eq_true] at h
      rcases h with h | h
      · exact absurd (of_decide_eq_true h) e
      · exact h
theorem RepK.put {w : Wd} {k : DK} {y : V} {x : D} (r : Rep G w y x) {v : List (Key × V)} {d : List (DK × D)} (h : RepK G w v d) (nd : keysNd d = true) : RepK G w (putK v (dkey k) y) (dPut d k x) := by
  unfold putK
  rw [h.any]
  cases e : d.any fun kv => decide (kv.1 = k) with
  | true => rw [if_pos rfl]; exact h.putMap r nd e
  | false =>
    rw [if_neg (fun z => nomatch z), dPut_new e]
    exact h.append (.cons r .nil)
def dictOf (d : D) (s : DS) : Option (List (DK × D)) := match d with
  | .dic kvs => some kvs
  | .cell n => match s.st[n]? with
    | some (.dic kvs) => some kvs
    | _ => none
  | _ => none
theorem Rep.dict {κ : Bs} {w : Wd} {s : DS} {σ : L2.St} {H : Hp} {v : V} {d : D} {kvs : List (DK × D)} (ok : Ok G κ w s σ H) (r : Rep G w v d) (h : dictOf d s = some kvs) : ∃ a vs, v = .ref a ∧ H a = some (.dK vs) ∧ RepK G w vs kvs := by
  cases r with
  | @dic a vs ds e r => cases h; exact ⟨a, vs, rfl, ok.fok.sub _ _ e, r⟩
  | @cell a n e =>
    have h : (match s.st[n]? with | some (.dic kvs) => some kvs | _ => none) = some kvs := h
    cases q : s.st[n]? with
    | none => rw [q] at h; cases h
    | some c =>
      rw [q] at h
      cases c with
      | dic kvs' =>
        cases h
        obtain ⟨vs, h1, h2⟩ := ok.fok.cel n a _ e q
        exact ⟨a, vs, rfl, h1, h2⟩
      | _ => cases h
  | _ => exact nomatch h
def eDGet (fo fi : DE) : DE := fun s => (fo s).bind fun d s1 => (fi s1).bind fun k s2 => match dictOf d s2, kOf k with
  | some kvs, some k => match dLook kvs k with
    | some x => .ok x s2
    | none => .stuck
  | _, _ => .stuck
theorem pd_dget {o i : Expr} {fo fi : DE} {pos : Pos} (hu : X.A.units + 1 < cLine) (ho : PD G W X o fo) (hi : PD G W X i fi) (hs : NoSl i) : PD G W X (.Subscript o i pos) (eDGet fo fi) :=
  (pe_dget hu ho hi hs).imp fun σ H Q ⟨κ, w, s, ok, q⟩ => ⟨κ, w, s, ok, (PostG.bind q).imp fun v H1 ⟨d, s1, w1, le, ok1, r1, q1⟩ => ⟨κ, w1, s1, ok1, (PostG.bind q1).imp fun v2 H2 ⟨d2, s2, w2, le2, ok2, r2, q2⟩ => by
    cases e1 : dictOf d s2 with
    | none => rw [e1] at q2; exact q2.elim
    | some kvs =>
      cases e2 : kOf d2 with
      | none => rw [e1, e2] at q2; exact q2.elim
      | some k =>
        rw [e1, e2] at q2
        replace q2 : PostG G W (Rep G) κ w2 σ (match dLook kvs k with | some x => .ok x s2 | none => .stuck) Q := q2
        cases e3 : dLook kvs k with
        | none => rw [e3] at q2; exact q2.elim
        | some x =>
          rw [e3] at q2
          obtain ⟨a, vs, rfl, hH, rk⟩ := (r1.mono le2).dict ok2 e1
          obtain ⟨y, h1, h2⟩ := (rk.look (k := k)).1 x e3
          refine ⟨a, y, rfl, ?_, q2 w2 y H2 (.refl _) ok2 h2⟩
          rw [r2.key e2, ← h1]
          exact DGet.k hH⟩⟩
/-- d[k] = v of a dict in the store -/
def sDPutC (fo fi fv : DE) : DStm := fun s => (fv s).bind fun x s1 => (fo s1).bind fun d s2 => (fi s2).bind fun k s3 => match d, kOf k with
  | .cell n, some k => match s3.st[n]? with
    | some (.dic kvs) => if kvs.length < 1000000 ∧ keysNd kvs = true then .ok .nx ⟨s3.sl, s3.st.set n (.dic (dPut kvs k x))⟩ else .stuck
    | _ => .stuck
  | _, _ => .stuck
theorem pds_dputC {o i value : Expr} {fo fi fv : DE} {pos pos' : Pos} (hu : X.A.units + 1 < cLine) (ho : PD G W X o fo) (hi : PD G W X i fi) (hv : PD G W X value fv) (hs : swapsWith value (some (.Subscript o i pos')) pos.line X.env = pure false := by rfl) :
    PDS G W X (.Assign [.Subscript o i pos'] value pos) (sDPutC fo fi fv) :=
  (ps_dput hu ho hi hv hs).imp fun N σ H ⟨κ, w, s, ok, q⟩ => ⟨κ, w, s, ok, (PostG.bindS q).imp fun v H1 ⟨d, s1, w1, le, ok1, r1, q1⟩ => ⟨κ, w1, s1, ok1, (PostG.bindS q1).imp fun v2 H2 ⟨d2, s2, w2, le2, ok2, r2, q2⟩ =>
    ⟨κ, w2, s2, ok2, (PostG.bindS q2).imp fun v3 H3 ⟨d3, s3, w3, le3, ok3, r3, q3⟩ => by
      cases r2 with
      | @cell a n e =>
        cases e2 : kOf d3 with
        | none => rw [e2] at q3; exact q3.elim
        | some k =>
          rw [e2] at q3
          replace q3 : PostS G W κ w3 (match s3.st[n]? with | some (.dic kvs) => if kvs.length < 1000000 ∧ keysNd kvs = true then .ok .nx ⟨s3.sl, s3.st.set n (.dic (dPut kvs k d))⟩ else .stuck | _ => .stuck) N := q3
          cases e3 : s3.st[n]? with
          | none => rw [e3] at q3; exact q3.elim
          | some c =>
            rw [e3] at q3
            cases c with
            | dic kvs =>
              replace q3 : PostS G W κ w3 (if kvs.length < 1000000 ∧ keysNd kvs = true then .ok .nx ⟨s3.sl, s3.st.set n (.dic (dPut kvs k d))⟩ else .stuck) N := q3
              split at q3
              · rename_i c
                have e' := pre_get le3.r e
                obtain ⟨vs, h1, h2⟩ := ok3.fok.cel n a _ e' e3
                refine ⟨a, _, rfl, ?_, q3 w3 σ _ (.refl _) (ok3.cell e' (c := .dic (dPut kvs k d)) ⟨_, upd_same, h2.put ((r1.mono le2).mono le3) c.2⟩)⟩
                rw [r3.key e2]
                exact DPut.k h1 (by rw [h2.length, sizeLine_eq]; omega)
              · exact q3.elim
            | _ => exact q3.elim
      | _ => exact q3.elim⟩⟩⟩
/-! ### a dict is displayed -/
def pairsD : List (DE × DE) → DS → Res DS (List (D × D))
  | [], s => .ok [] s
  | (fk, fv) :: r, s => (fk s).bind fun k s1 => (fv s1).bind fun x s2 => (pairsD r s2).bind fun ps s3 => .ok ((k, x) :: ps) s3
inductive RepP (G : Gam) (w : Wd) : List (V × V) → List (D × D) → Prop
  | nil : RepP G w [] []
  | cons {v v' : V} {d d' : D} {vs : List (V × V)} {ds : List (D × D)} : Rep G w v d → Rep G w v' d' → RepP G w vs ds → RepP G w ((v, v') :: vs) ((d, d') :: ds)
theorem pairs_of : ∀ (fs : List (DE × DE)) {κ : Bs} {w : Wd} {s : DS} {σ : L2.St} {H : Hp} {Q : List (V × V) → Hp → Prop}, Ok G κ w s σ H → PostG G W (RepP G) κ w σ (pairsD fs s) Q → tPairs (fs.map fun p => (tD G W p.1, tD G W p.2)) σ H Q
  | [], κ, w, s, σ, H, Q, ok, q => q w [] H (.refl _) ok .nil
  | (fk, fv) :: r, κ, w, s, σ, H, Q, ok, q => by
    refine ⟨κ, w, s, ok, (PostG.bind q).imp fun v H1 ⟨d, s1, w1, le, ok1, r1, q1⟩ => ⟨κ, w1, s1, ok1, (PostG.bind q1).imp fun v2 H2 ⟨d2, s2, w2, le2, ok2, r2, q2⟩ => ?_⟩⟩
    refine pairs_of r ok2 ((PostG.bind (rep := RepP G) q2).imp fun ps H3 ⟨ds, s3, w3, le3, ok3, r3, q3⟩ => ?_)
    exact q3 w3 _ H3 (.refl _) ok3 (.cons ((r1.mono le2).mono le3) (r2.mono le3) r3)
def keyed : List (D × D) → Option (List (DK × D))
  | [] => some []
  | (k, x) :: r => match kOf k, keyed r with
    | some k, some r => some ((k, x) :: r)
    | _, _ => none
theorem keyed_of {w : Wd} : ∀ {ps : List (V × V)} {ds : List (D × D)} {kvs : List (DK × D)}, RepP G w ps ds → keyed ds = some kvs → ∃ vs : List (Key × V), ps = vs.map (fun kv => (kV kv.1, kv.2)) ∧ RepK G w vs kvs
  | _, _, _, .nil, e => by cases e; exact ⟨[], rfl, .nil⟩
  | _, _, kvs, .cons (d := d) (ds := ds) a b c, e => by
    unfold keyed at e
    cases e1 : kOf d with
    | none => rw [e1] at e; cases e
    | some k =>
      cases e2 : keyed ds with
      | none => rw [e1, e2] at e; cases e
      | some r =>
        rw [e1, e2] at e
        cases e
        obtain ⟨vs, h1, h2⟩ := keyed_of c e2
        refine ⟨(dkey k, _) :: vs, ?_, .cons b h2⟩
        rw [h1, a.key e1]
        rfl
theorem keys_merge {w : Wd} : ∀ {more : List (Key × V)} {kvs : List (DK × D)} {v : List (Key × V)} {d : List (DK × D)}, RepK G w more kvs → RepK G w v d → (keysNd (d ++ kvs) = true) → RepK G w (mergeK v more) (d ++ kvs)
  | _, _, v, d, .nil, h, _ => by rw [List.append_nil]; exact h
  | _, _, v, d, .cons (k := k) (v := y) (d := x) (vs := vs) (ds := ds) a b, h, nd => by
    have new : (d.any fun kv => decide (kv.1 = k)) = false := by
      clear h a b
      induction d with
      | nil => rfl
      | cons p r ih =>
        rw [List.cons_append] at nd
        unfold keysNd at nd
        rw [Bool.and_eq_true, Bool.not_eq_true', List.any_append, Bool.or_eq_false_iff, List.any_cons, Bool.or_eq_false_iff] at nd
        rw [List.any_cons, ih nd.2, Bool.or_false]
        have := of_decide_eq_false nd.1.2.1
        exact decide_eq_false fun q => this q.symm
    have e : mergeK v ((dkey k, y) :: vs) = mergeK (v ++ [(dkey k, y)]) vs := by
      unfold mergeK
      rw [List.foldl_cons]
      congr 1
      unfold putK
      rw [h.any, new]
      rfl
    rw [e]
    have := keys_merge b (h.append (.cons a .nil)) (d := d ++ [(k, x)]) (by rw [List.append_assoc]; exact nd)
    rw [List.append_assoc] at this
    exact this
/-- a new dict of one's own -/
def PostOd (G : Gam) (W : WX) (κ : Bs) (w : Wd) (σ : L2.St) (r : Res DS (List (DK × D))) (Q : VK) : Prop := match r with
  | .ok xs s' => ∀ w' a vs H', w.le w' → Ok G (κ.plus a (.dK vs)) w' s' σ H' → (∀ p ∈ κ.γ, p.1 ≠ a) → RepK G w' vs xs → Q (.ref a) H'
  | .exc x s' => ∀ w' c dd H', w.le w' → Ok G κ w' s' σ H' → RepX G w' c dd x → W c dd σ H'
  | .stuck => False
abbrev DD := DS → Res DS (List (DK × D))
def tDod (G : Gam) (W : WX) (f : DD) : TE := fun σ H Q => ∃ κ w s, Ok G κ w s σ H ∧ PostOd G W κ w σ (f s) Q
abbrev PDod (G : Gam) (W : WX) (X : Cx) (e : Expr) (f : DD) : Prop := PE X e (tDod G W f)
/-- behind what was set apart a new value -/
theorem Ok.swap {κ : Bs} {w : Wd} {s : DS} {σ : L2.St} {H : Hp} {a : Addr} {o o' : HO} (h : Ok G (κ.plus a o) w s σ H) (hγ : ∀ p ∈ κ.γ, p.1 ≠ a) : Ok G (κ.plus a o') w s σ (upd H a o') := by
  obtain ⟨ho, h3, h4, h5, h6⟩ := h.gam (a, o) List.mem_cons_self
  refine ⟨⟨fun b u e => ?_, h.fok.len, fun n b c e1 e2 => ?_, h.fok.nd, h.fok.nf⟩, ⟨h.nx.le, fun b u e n => ?_, h.nx.newF, h.nx.newR⟩, h.len, h.val, fun j z hj oz => ?_, h.ne, fun p hp => ?_, h.me⟩
  · rw [upd_ne (ne_of_none e h3)]
    exact h.fok.sub b u e
  · exact (h.fok.cel n b c e1 e2).mono (.refl _) (upd_ne fun z => h4 (by rw [← z]; exact List.mem_of_getElem? e1))
  · rw [upd_ne (ne_of_none e h5)]
    exact h.nx.keep b u e n
  · obtain ⟨b, q1, q2, q3, q4, q5⟩ := h.own j z hj oz
    exact ⟨b, q1, q2.mono (.refl _) (upd_ne fun e => h6 j z hj oz (by rw [q1, e])), q3, q4, q5⟩
  · rcases List.mem_cons.mp hp with rfl | hp
    · exact ⟨upd_same, h3, h4, h5, h6⟩
    · obtain ⟨q1, q2⟩ := h.gam p (List.mem_cons_of_mem _ hp)
      exact ⟨by rw [upd_ne (hγ p hp)]; exact q1, q2⟩
def dDisp (fs : List (DE × DE)) : DD := fun s => (pairsD fs s).bind fun ps s1 => match keyed ps with
  | some kvs => if kvs.length ≤ 15 ∧ keysNd kvs = true then .ok kvs s1 else .stuck
  | none => .stuck
theorem pdod_disp {pos : Pos} {keys : List (Option Expr)} {values : List Expr} {fs : List (DE × DE)} (h : PPs X pos keys values (fs.map fun p => (tD G W p.1, tD G W p.2))) (hall : keys.all (·.isSome) = true) (hl : keys.length = values.length) (h0 : keys ≠ []) (h15 : keys.length ≤ 15) :
    PDod G W X (.Dict keys values pos) (dDisp fs) :=
  (pe_disp h hall hl h0 h15).imp fun σ H Q ⟨κ, w, s, ok, q⟩ => by
    intro p hp
    have ok1 := ok.fresh hp (.dK [])
    have hγ := ok.apart hp
    unfold dDisp at q
    refine pairs_of fs (κ := κ.plus p (.dK [])) (w := w) (s := s) ok1 ?_
    cases e : pairsD fs s with
    | stuck => rw [e] at q; exact q.elim
    | exc x s' =>
      rw [e] at q
      exact fun w' c dd H' l o r => q w' c dd H' l o.unplus r
    | ok ps s' =>
      rw [e] at q
      intro w' vps H' l o r
      replace q : PostOd G W κ w σ (match keyed ps with | some kvs => if kvs.length ≤ 15 ∧ keysNd kvs = true then .ok kvs s' else .stuck | none => .stuck) Q := q
      cases e2 : keyed ps with
      | none => rw [e2] at q; exact q.elim
      | some kvs =>
        rw [e2] at q
        replace q : PostOd G W κ w σ (if kvs.length ≤ 15 ∧ keysNd kvs = true then .ok kvs s' else .stuck) Q := q
        split at q
        · rename_i c
          obtain ⟨vs, h1, h2⟩ := keyed_of r e2
          refine ⟨(o.gam (p, .dK []) List.mem_cons_self).1, vs, h1, by rw [h2.length]; exact c.1, ?_⟩
          exact q w' p _ _ l (o.swap hγ) hγ (keys_merge h2 .nil (d := []) c.2)
        · exact q.elim
def eFrzD (f : DD) : DE := fun s => (f s).bind fun xs s1 => .ok (.dic xs) s1
theorem pdod_frz {e : Expr} {f : DD} (h : PDod G W X e f) : PD G W X e (eFrzD f) := h.imp fun σ H Q ⟨κ, w, s, ok, q⟩ => ⟨κ, w, s, ok, by
  unfold eFrzD at q
  cases e : f s with
  | stuck => rw [e] at q; exact q.elim
  | exc x s' => rw [e] at q; exact q
  | ok xs s' =>
    rw [e] at q
    intro w' a vs H' l o g r
    obtain ⟨le, ok'⟩ := o.frz g
    exact q _ _ H' (l.trans le) ok' (.dic upd_same (r.mono le))⟩
/-- what was set apart goes into the store -/
theorem Ok.store {κ : Bs} {w : Wd} {s : DS} {σ : L2.St} {H : Hp} {a : Addr} {o : HO} {c : Cell} (h : Ok G (κ.plus a o) w s σ H) (hγ : ∀ p ∈ κ.γ, p.1 ≠ a) (hc : CellOk G w H a c) : w.le ⟨w.F, w.ρ ++ [a]⟩ ∧ Ok G κ ⟨w.F, w.ρ ++ [a]⟩ ⟨s.sl, s.st ++ [c]⟩ σ H := by
  obtain ⟨ho, h3, h4, h5, h6⟩ := h.gam (a, o) List.mem_cons_self
  have le : w.le ⟨w.F, w.ρ ++ [a]⟩ := ⟨fun _ _ e => e, List.prefix_append _ _⟩
  refine ⟨le, ⟨⟨h.fok.sub, ?_, fun n b c' e1 e2 => ?_, ?_, fun b hb => ?_⟩, ⟨h.nx.le.trans le, h.nx.keep, h.nx.newF, fun b hb => ?_⟩, h.len, fun i d e => ?_, fun i x e o' => ?_, h.ne, fun p hp => ?_, h.me⟩⟩
  · show (w.ρ ++ [a]).length = (s.st ++ [c]).length
    rw [List.length_append, List.length_append, h.fok.len]
    rfl
  · have e1 : (w.ρ ++ [a])[n]? = some b := e1
    have e2 : (s.st ++ [c])[n]? = some c' := e2
    by_cases hn : n < w.ρ.length
    · rw [List.getElem?_append_left hn] at e1
      rw [List.getElem?_append_left (by rw [← h.fok.len]; exact hn)] at e2
      exact (h.fok.cel n b c' e1 e2).mono le rfl
    · rw [List.getElem?_append_right (by omega)] at e1
      rw [List.getElem?_append_right (by rw [← h.fok.len]; omega), ← h.fok.len] at e2
      cases z : n - w.ρ.length with
      | zero =>
        rw [z] at e1 e2
        cases e1
        cases e2
        exact hc.mono le rfl
      | succ k => rw [z] at e1; cases e1
  · show (w.ρ ++ [a]).Nodup
    rw [List.nodup_append]
    exact ⟨h.fok.nd, by simp, fun x hx y hy e => by
      rw [List.mem_singleton] at hy
      subst hy
      subst e
      exact h4 hx⟩
  · rcases List.mem_append.mp hb with hb | hb
    · exact h.fok.nf b hb
    · rw [List.mem_singleton.mp hb]
      exact h3
  · rcases List.mem_append.mp hb with hb | hb
    · exact h.nx.newR b hb
    · rw [List.mem_singleton.mp hb]
      exact .inr h5
  · obtain ⟨v, h1, h2⟩ := h.val i d e
    exact ⟨v, h1, h2.mono le⟩
  · obtain ⟨b, q1, q2, q3, q4, q5⟩ := h.own i x e o'
    refine ⟨b, q1, q2.mono le rfl, q3, fun hb => ?_, q5⟩
    rcases List.mem_append.mp hb with hb | hb
    · exact q4 hb
    · exact h6 i x e o' (by rw [q1, List.mem_singleton.mp hb])
  · obtain ⟨q1, q2, q3, q4⟩ := h.gam p (List.mem_cons_of_mem _ hp)
    refine ⟨q1, q2, fun hb => ?_, q4⟩
    rcases List.mem_append.mp hb with hb | hb
    · exact q3 hb
    · exact hγ p hp (List.mem_singleton.mp hb)
def eCellD (f : DD) : DE := fun s => (f s).bind fun xs s1 => .ok (.cell s1.st.length) ⟨s1.sl, s1.st ++ [.dic xs]⟩
theorem pdod_cell {e : Expr} {f : DD} (h : PDod G W X e f) : PD G W X e (eCellD f) := h.imp fun σ H Q ⟨κ, w, s, ok, q⟩ => ⟨κ, w, s, ok, by
  unfold eCellD at q
  cases e : f s with
  | stuck => rw [e] at q; exact q.elim
  | exc x s' => rw [e] at q; exact q
  | ok xs s' =>
    rw [e] at q
    intro w' a vs H' l o g r
    obtain ⟨le, ok'⟩ := o.store (c := .dic xs) g ⟨vs, (o.gam (a, .dK vs) List.mem_cons_self).1, r⟩
    refine q _ _ H' (l.trans le) ok' (.cell ?_)
    show (w'.ρ ++ [a])[s'.st.length]? = some a
    rw [← o.fok.len]
    simp⟩
/-! ### == and != of data -/
mutual
def toPy : D → Option PyData
  | .non => some .none
  | .bl b => some (.bool b)
  | .int i => some (.int i)
  | .str l => some (.str (nm l))
  | .tup xs => (toPys xs).map .tuple
  | .lst xs => (toPys xs).map .list
  | .scr xs => (toPys xs).map .list
  | _ => none
def toPys : List D → Option (List PyData)
  | [] => some []
  | d :: r => (toPy d).bind fun p => (toPys r).map fun q => p :: q
end
mutual
theorem Rep.py (hK : G.K = X.K) {κ : Bs} {w : Wd} {s : DS} {σ : L2.St} {H : Hp} (ok : Ok G κ w s σ H) : ∀ {v : V} {d : D} {p : PyData}, Rep G w v d → toPy d = some p → Dp X.K H v p
  | _, _, _, .non, e => by cases e; exact .non
  | _, _, _, .bl b, e => by cases e; exact .bl b
  | _, _, _, .int b, e => by cases e; exact .int b
  | _, _, _, .str b, e => by cases e; exact .str _
  | _, _, _, .tup (ds := ds) a r, e => by
    cases q : toPys ds with
    | none => simp [toPy, q] at e
    | some ps =>
      simp only [toPy, q, Option.map_some, Option.some.injEq] at e
      subst e
      exact .tup (hK ▸ SqT.le a ok.fok.sub) (Reps.py hK ok r q)
  | _, _, _, .lst (ds := ds) a r, e => by
    cases q : toPys ds with
    | none => simp [toPy, q] at e
    | some ps =>
      simp only [toPy, q, Option.map_some, Option.some.injEq] at e
      subst e
      exact .lst (.inl (.inl (ok.fok.sub _ _ a))) (Reps.py hK ok r q)
  | _, _, _, .scr (ds := ds) a r, e => by
    cases q : toPys ds with
    | none => simp [toPy, q] at e
    | some ps =>
      simp only [toPy, q, Option.map_some, Option.some.injEq] at e
      subst e
      exact .lst (hK ▸ SqL.le a ok.fok.sub) (Reps.py hK ok r q)
  | _, _, _, .dic _ _, e => by simp [toPy] at e
  | _, _, _, .ins _ _ _, e => by simp [toPy] at e
  | _, _, _, .cell _, e => by simp [toPy] at e
  | _, _, _, .cls _, e => by simp [toPy] at e
  | _, _, _, .ty _, e => by simp [toPy] at e
  | _, _, _, .fn _, e => by simp [toPy] at e
theorem Reps.py (hK : G.K = X.K) {κ : Bs} {w : Wd} {s : DS} {σ : L2.St} {H : Hp} (ok : Ok G κ w s σ H) : ∀ {v : List V} {d : List D} {p : List PyData}, Reps G w v d → toPys d = some p → DpAll X.K H v p
  | _, _, _, .nil, e => by simp [toPys] at e; subst e; exact .nil
  | _, _, _, .cons (d := d) (ds := ds) a r, e => by
    cases q1 : toPy d with
    | none => simp [toPys, q1] at e
    | some p =>
      cases q2 : toPys ds with
      | none => simp [toPys, q1, q2] at e
      | some ps =>
        simp only [toPys, q1, q2, Option.bind_some, Option.map_some, Option.some.injEq] at e
        subst e
        exact .cons (Rep.py hK ok a q1) (Reps.py hK ok r q2)
end
def dEq : D → D → Option D := fun x y => match toPy x, toPy y with
  | some p, some q => if SeqAt.shaped p && SeqAt.shaped q then some (.bl (PyData.eqv p q)) else none
  | _, _ => none
def dNe : D → D → Option D := fun x y => match toPy x, toPy y with
  | some p, some q => if SeqAt.shaped p && SeqAt.shaped q then some (.bl (!PyData.eqv p q)) else none
  | _, _ => none
theorem opd_eq (hK : G.K = X.K) (hu : X.A.units + 64 < cLine) : OpD G X (compareOp .Eq) dEq := ⟨_, op_eqD hu, fun κ w s σ H x y dx dy d Q ok rx ry e q => by
  unfold dEq at e
  cases e1 : toPy dx with
  | none => simp [e1] at e
  | some p =>
    cases e2 : toPy dy with
    | none => simp [e1, e2] at e
    | some p' =>
      simp only [e1, e2] at e
      split at e
      · rename_i c
        cases e
        rw [Bool.and_eq_true] at c
        exact ⟨p, p', rx.py hK ok e1, ry.py hK ok e2, c.1, c.2, q w _ H (.refl _) ok (.bl _)⟩
      · cases e⟩
theorem opd_ne (hK : G.K = X.K) (hu : X.A.units + 64 < cLine) : OpD G X (compareOp .NotEq) dNe := ⟨_, op_neD hu, fun κ w s σ H x y dx dy d Q ok rx ry e q => by
  unfold dNe at e
  cases e1 : toPy dx with
  | none => simp [e1] at e
  | some p =>
    cases e2 : toPy dy with
    | none => simp [e1, e2] at e
    | some p' =>
      simp only [e1, e2] at e
      split at e
      · rename_i c
        cases e
        rw [Bool.and_eq_true] at c
        exact ⟨p, p', rx.py hK ok e1, ry.py hK ok e2, c.1, c.2, q w _ H (.refl _) ok (.bl _)⟩
      · cases e⟩
/-- is None -/
def isNonD : D → Bool
  | .non => true
  | _ => false
def dIsN : D → D → Option D := fun x y => match y with
  | .non => some (.bl (isNonD x))
  | _ => none
def dNotN : D → D → Option D := fun x y => match y with
  | .non => some (.bl (!isNonD x))
  | _ => none
theorem Rep.non_iff {w : Wd} {v : V} {d : D} (r : Rep G w v d) : decide (v = .non) = isNonD d := by
  cases r <;> simp [isNonD]
theorem opd_isN : OpD G X (compareOp .Is) dIsN := ⟨_, op_isN, fun κ w s σ H x y dx dy d Q ok rx ry e q => by
  cases ry with
  | non =>
    cases e
    refine ⟨rfl, ?_⟩
    rw [rx.non_iff]
    exact q w _ H (.refl _) ok (.bl _)
  | _ => exact nomatch e⟩
theorem opd_notN : OpD G X (compareOp .IsNot) dNotN := ⟨_, op_notN, fun κ w s σ H x y dx dy d Q ok rx ry e q => by
  cases ry with
  | non =>
    cases e
    refine ⟨rfl, ?_⟩
    rw [rx.non_iff]
    exact q w _ H (.refl _) ok (.bl _)
  | _ => exact nomatch e⟩
/-! ### operators of own classes -/
def ownO (c : String) (g : DFn) : DO2 := fun x y s => match insOf x s, insOf y s with
  | some (c1, _), some (c2, _) => if c1 = c ∧ c2 = c then lift s (g [x, y] s.st) else .stuck
  | _, _ => .stuck
theorem ep_back {pins : List (Addr × Obj)} {σ : L2.St} {Q : VK} {v : Value} {s' : Shared} (h : EP X pins σ Q v s') : PySem.W.CmpBack (EP X pins σ Q) v s' := by
  obtain ⟨x, H, I, r, q⟩ := id h
  cases v <;> first
    | exact h
    | (have := r.abs; cases this)
theorem ownO_of {c : String} {g : DFn} {κ : Bs} {w : Wd} {s : DS} {σ : L2.St} {H : Hp} {x y : V} {dx dy : D} {Q : VK} (ok : Ok G κ w s σ H) (rx : Rep G w x dx) (ry : Rep G w y dy) (q : PostG G W (Rep G) κ w σ (ownO c g dx dy s) Q) :
    ∃ a b C dxa dxb fa fb, x = .ref a ∧ y = .ref b ∧ G.ct c = some C ∧ H a = some (.ins C dxa fa) ∧ H b = some (.ins C dxb fb) ∧ PostG G W (Rep G) κ w σ (lift s (g [dx, dy] s.st)) Q := by
  unfold ownO at q
  cases e1 : insOf dx s with
  | none => rw [e1] at q; exact q.elim
  | some p =>
    cases e2 : insOf dy s with
    | none => rw [e1, e2] at q; exact q.elim
    | some p' =>
      obtain ⟨c1, f1⟩ := p
      obtain ⟨c2, f2⟩ := p'
      rw [e1, e2] at q
      replace q : PostG G W (Rep G) κ w σ (if c1 = c ∧ c2 = c then lift s (g [dx, dy] s.st) else .stuck) Q := q
      split at q
      · rename_i h
        obtain ⟨rfl, rfl⟩ := h
        obtain ⟨a, C, dxa, vs, ev, hC, hH, _⟩ := rx.ins_of ok e1
        obtain ⟨b, C', dxb, vs', ev', hC', hH', _⟩ := ry.ins_of ok e2
        rw [hC] at hC'
        cases hC'
        exact ⟨a, b, C, dxa, dxb, vs, vs', ev, ev', hC, hH, hH', q⟩
      · exact q.elim
theorem opx_own {op : Operator} {mname : Str} {c : String} {C f : Addr} {k : Nat} {fd : FuncData} {ps : List Str} {g : DFn} (hm' : PySem.dunder op.info.2 = mname) (hC : G.ct c = some C) (hs : PySem.W.findIn X.K (.ref C) mname = some (some (.ref f))) (hf : PySem.W.isFn X.K (.ref f) = true) (hc : PySem.W.selfFirst X.K C = true)
    (F : FnOk X.prog X.w X.K X.mg X.base (L2.CX X.prog X.w) k f fd ps (spG G 2 g)) (hr : Room k X.A) (hb : Binds X.K fd ps []) (tk : Takes X W) : OpX G W X (binaryOp op) (ownO c g) := by
  subst hm'
  intro pins sh σ H x y v u κ w s dx dy Q I rx ry ok rdx rdy q
  obtain ⟨a, b, C', dxa, dxb, fa, fb, rfl, rfl, hC', hH, hH', q⟩ := ownO_of ok rdx rdy q
  rw [hC] at hC'
  cases hC'
  cases rx
  cases ry
  obtain ⟨mA, J, _⟩ := ins_get I.hok hH
  obtain ⟨mB, J', _⟩ := ins_get I.hok hH'
  obtain ⟨od, J, _⟩ := J.look
  obtain ⟨od', J', _⟩ := J'.look
  obtain ⟨m, hF⟩ := I.fr
  refine PySem.W.binop_K hF I.ok.mod.kin J J'.type hc hs hf ?_
  exact thn (callD (us := [.ref a, .ref b]) (vs := [.ref a, .ref b]) (ds := [dx, dy]) F hr hb tk I ok (.cons rdx (.cons rdy .nil)) (.cons rfl (.cons rfl .nil)) rfl q) fun v s' h => ep_back h
theorem opx_ownEq {c : String} {C f : Addr} {k : Nat} {fd : FuncData} {ps : List Str} {g : DFn} (hC : G.ct c = some C) (hs : PySem.W.findIn X.K (.ref C) "__eq__" = some (some (.ref f))) (hf : PySem.W.isFn X.K (.ref f) = true)
    (F : FnOk X.prog X.w X.K X.mg X.base (L2.CX X.prog X.w) k f fd ps (spG G 2 g)) (hr : Room k X.A) (hb : Binds X.K fd ps []) (tk : Takes X W) : OpX G W X (compareOp .Eq) (ownO c g) := by
  intro pins sh σ H x y v u κ w s dx dy Q I rx ry ok rdx rdy q
  obtain ⟨a, b, C', dxa, dxb, fa, fb, rfl, rfl, hC', hH, hH', q⟩ := ownO_of ok rdx rdy q
  rw [hC] at hC'
  cases hC'
  cases rx
  cases ry
  obtain ⟨mA, J, _⟩ := ins_get I.hok hH
  obtain ⟨mB, J', _⟩ := ins_get I.hok hH'
  obtain ⟨od, J, _⟩ := J.look
  obtain ⟨od', J', _⟩ := J'.look
  obtain ⟨m, hF⟩ := I.fr
  show wpAny (model X.prog X.w) X.A (richCompare .Eq (.ref a) (.ref b)) _ _ _
  refine PySem.W.cmp_K (op := .Eq) (tb := .ref C) hr.units0 hF I.ok.mod.kin J J'.type (by simp [PySem.W.notFirst]) hs hf ?_
  exact thn (callD (us := [.ref a, .ref b]) (vs := [.ref a, .ref b]) (ds := [dx, dy]) F hr hb tk I ok (.cons rdx (.cons rdy .nil)) (.cons rfl (.cons rfl .nil)) rfl q) fun v s' h => ep_back h
/-- ~x of an own class -/
def eInv (c : String) (g : DFn) (f : DE) : DE := fun s => (f s).bind fun d s1 => match insOf d s1 with
  | some (c1, _) => if c1 = c then lift s1 (g [d] s1.st) else .stuck
  | none => .stuck
theorem pd_inv {c : String} {C f : Addr} {k : Nat} {fd : FuncData} {ps : List Str} {g : DFn} {e : Expr} {fe : DE} {pos : Pos} (hC : G.ct c = some C) (hs : PySem.W.findIn X.K (.ref C) "__invert__" = some (some (.ref f))) (hf : PySem.W.isFn X.K (.ref f) = true)
    (F : FnOk X.prog X.w X.K X.mg X.base (L2.CX X.prog X.w) k f fd ps (spG G 1 g)) (hr : Room k X.A) (hb : Binds X.K fd ps []) (tk : Takes X W) (he : PD G W X e fe) : PD G W X (.UnaryOp .Invert e pos) (eInv c g fe) := by
  refine ⟨fun pins sh σ H Q I h => ?_⟩
  obtain ⟨κ, w, s, ok, q⟩ := h
  have hh : tD G W fe σ H fun v H1 => ∃ d s1 w1, w.le w1 ∧ Ok G κ w1 s1 σ H1 ∧ Rep G w1 v d ∧ PostG G W (Rep G) κ w1 σ (match insOf d s1 with
    | some (c1, _) => if c1 = c then lift s1 (g [d] s1.st) else .stuck
    | none => .stuck) Q := ⟨κ, w, s, ok, PostG.bind q⟩
  refine UnaryOp_ (thn (he.run pins sh σ H _ I hh) fun u s1 ⟨x, H1, I1, rx, d, t1, w1, le, ok1, r1, q1⟩ => ?_)
  cases e1 : insOf d t1 with
  | none => rw [e1] at q1; exact q1.elim
  | some p =>
    obtain ⟨c1, fs⟩ := p
    rw [e1] at q1
    replace q1 : PostG G W (Rep G) κ w1 σ (if c1 = c then lift t1 (g [d] t1.st) else .stuck) Q := q1
    split at q1
    · rename_i hc
      subst hc
      obtain ⟨a, C', dx, vs, ev, hC', hH, rf⟩ := r1.ins_of ok1 e1
      rw [hC] at hC'
      cases hC'
      subst ev
      obtain rfl : u = Value.ref a := rx
      obtain ⟨mA, J, _⟩ := ins_get I1.hok hH
      obtain ⟨od, J, _⟩ := J.look
      obtain ⟨m, hF⟩ := I1.fr
      exact PySem.W.ksp_inv hF I1.ok.mod.kin J hs hf (callD (us := [.ref a]) (vs := [.ref a]) (ds := [d]) F hr hb tk I1 ok1 (.cons r1 .nil) (.cons rfl .nil) rfl q1)
    · exact q1.elim
end
end DL
set_option maxRecDepth 100000
set_option maxHeartbeats 4000000
set_option autoImplicit false
namespace DL
open PySem PySem.Spec PyProof.Rows L2 RZ
section
variable {G : Gam} {W : WX} {X : Cx}
/-! ### list comprehensions -/
abbrev WF : WX := fun _ _ _ _ => False
def wipeD (vs : List Nat) (l : List Sl) : List Sl := match vs with
  | [] => l
  | v :: vs => (wipeD vs l).set v .un
def wipeS (vs : List Nat) (s : DS) : DS := ⟨wipeD vs s.sl, s.st⟩
theorem wipeD_length (l : List Sl) : ∀ vs : List Nat, (wipeD vs l).length = l.length
  | [] => rfl
  | v :: vs => by unfold wipeD; rw [List.length_set, wipeD_length l vs]
theorem wipeD_in {l : List Sl} {i : Nat} {x : Sl} : ∀ {vs : List Nat}, (wipeD vs l)[i]? = some x → (i ∈ vs ∧ x = .un) ∨ (i ∉ vs ∧ l[i]? = some x)
  | [], h => .inr ⟨by simp, h⟩
  | v :: vs, h => by
    unfold wipeD at h
    by_cases hi : v = i
    · subst hi
      by_cases hv : v < (wipeD vs l).length
      · rw [List.getElem?_set_self hv] at h
        cases h
        exact .inl ⟨List.mem_cons_self, rfl⟩
      · rw [List.getElem?_eq_none (by simpa using hv)] at h; cases h
    · rw [List.getElem?_set_ne hi] at h
      rcases wipeD_in h with ⟨h1, h2⟩ | ⟨h1, h2⟩
      · exact .inl ⟨List.mem_cons_of_mem _ h1, h2⟩
      · exact .inr ⟨by simp only [List.mem_cons, not_or]; exact ⟨fun e => hi e.symm, h1⟩, h2⟩
theorem wipe_out' {σ : L2.St} {i : Nat} : ∀ {vs : List Nat}, i ∉ vs → (L2.wipe σ vs)[i]? = σ[i]?
  | [], _ => rfl
  | v :: vs, h => by
    unfold L2.wipe
    rw [List.getElem?_set_ne (fun e => h (by rw [e]; exact List.mem_cons_self)), wipe_out' fun z => h (List.mem_cons_of_mem _ z)]
theorem Ok.wipe {κ : Bs} {w : Wd} {s : DS} {σ : L2.St} {H : Hp} (h : Ok G κ w s σ H) (vs : List Nat) : Ok G κ w (wipeS vs s) (L2.wipe σ vs) H := by
  refine ⟨h.fok, h.nx, by rw [wipe_length]; exact (wipeD_length _ _).trans h.len, fun i d e => ?_, fun i x e o => ?_, fun i j x y a e1 e2 o1 o2 h1 h2 => ?_, fun p hp => ?_, fun a ha c fs e => ?_⟩
  · rcases wipeD_in e with ⟨_, z⟩ | ⟨z, e⟩
    · cases z
    · rw [wipe_out' z]; exact h.val i d e
  · rcases wipeD_in e with ⟨_, z⟩ | ⟨z, e⟩
    · subst z; cases o
    · rw [wipe_out' z]; exact h.own i x e o
  · rcases wipeD_in e1 with ⟨_, z⟩ | ⟨z, e1⟩
    · subst z; cases o1
    · rcases wipeD_in e2 with ⟨_, z'⟩ | ⟨z', e2⟩
      · subst z'; cases o2
      · rw [wipe_out' z] at h1
        rw [wipe_out' z'] at h2
        exact h.ne i j x y a e1 e2 o1 o2 h1 h2
  · obtain ⟨q1, q2, q3, q4, q5⟩ := h.gam p hp
    refine ⟨q1, q2, q3, q4, fun i x e o => ?_⟩
    rcases wipeD_in e with ⟨_, z⟩ | ⟨z, e⟩
    · subst z; cases o
    · rw [wipe_out' z]; exact q5 i x e o
  · rcases wipeD_in e with ⟨_, z⟩ | ⟨z, e⟩
    · cases z
    · rw [wipe_out' z]; exact h.me a ha c fs e
/-- the slots behind the block: the block's own names as they were -/
def unwipe (vs : List Nat) (old new : List Sl) : List Sl := match vs with
  | [] => new
  | v :: vs => (unwipe vs old new).set v (match old[v]? with | some (.val d) => .val d | _ => .un)
theorem unwipe_length (l l' : List Sl) : ∀ vs : List Nat, (unwipe vs l l').length = l'.length
  | [] => rfl
  | v :: vs => by unfold unwipe; rw [List.length_set, unwipe_length l l' vs]
theorem unwipe_in {l l' : List Sl} {i : Nat} {x : Sl} : ∀ {vs : List Nat}, (unwipe vs l l')[i]? = some x → (i ∈ vs ∧ (x = .un ∨ ∃ d, x = .val d ∧ l[i]? = some x)) ∨ (i ∉ vs ∧ l'[i]? = some x)
  | [], h => .inr ⟨by simp, h⟩
  | v :: vs, h => by
    unfold unwipe at h
    by_cases hi : v = i
    · subst hi
      by_cases hv : v < (unwipe vs l l').length
      · rw [List.getElem?_set_self hv] at h
        refine .inl ⟨List.mem_cons_self, ?_⟩
        cases e : l[v]? with
        | none => rw [e] at h; cases h; exact .inl rfl
        | some y =>
          rw [e] at h
          cases y with
          | val d => cases h; exact .inr ⟨d, rfl, rfl⟩
          | _ => cases h; exact .inl rfl
      · rw [List.getElem?_eq_none (by simpa using hv)] at h; cases h
    · rw [List.getElem?_set_ne hi] at h
      rcases unwipe_in h with ⟨h1, h2⟩ | ⟨h1, h2⟩
      · exact .inl ⟨List.mem_cons_of_mem _ h1, h2⟩
      · exact .inr ⟨by simp only [List.mem_cons, not_or]; exact ⟨fun e => hi e.symm, h1⟩, h2⟩
theorem Ok.unwipe {κ κ' : Bs} {w w1 : Wd} {s s1 : DS} {σ : L2.St} {H H1 : Hp} {vs : List Nat} (h1 : Ok G κ' w1 s1 σ H1) (le : w1.le w) (h : Ok G κ w s (L2.wipe σ vs) H) (hme : κ.me = κ'.me) : Ok G κ w ⟨DL.unwipe vs s1.sl s.sl, s.st⟩ σ H := by
  refine ⟨h.fok, h.nx, ?_, fun i d e => ?_, fun i x e o => ?_, fun i j x y a e1 e2 o1 o2 q1 q2 => ?_, fun p hp => ?_, fun a ha c fs e => ?_⟩
  · show (DL.unwipe vs s1.sl s.sl).length = σ.length
    rw [unwipe_length, h.len, wipe_length]
  · rcases unwipe_in e with ⟨_, z | ⟨d', z, e⟩⟩ | ⟨z, e⟩
    · cases z
    · obtain ⟨v, q1, q2⟩ := h1.val i d e
      exact ⟨v, q1, q2.mono le⟩
    · obtain ⟨v, q1, q2⟩ := h.val i d e
      exact ⟨v, by rw [wipe_out' z] at q1; exact q1, q2⟩
  · rcases unwipe_in e with ⟨_, z | ⟨d', z, e⟩⟩ | ⟨z, e⟩
    · subst z; cases o
    · subst z; cases o
    · have := h.own i x e o
      rwa [wipe_out' z] at this
  · rcases unwipe_in e1 with ⟨_, z | ⟨d', z, e1⟩⟩ | ⟨z, e1⟩
    · subst z; cases o1
    · subst z; cases o1
    · rcases unwipe_in e2 with ⟨_, z' | ⟨d', z', e2⟩⟩ | ⟨z', e2⟩
      · subst z'; cases o2
      · subst z'; cases o2
      · exact h.ne i j x y a e1 e2 o1 o2 (by rw [wipe_out' z]; exact q1) (by rw [wipe_out' z']; exact q2)
  · obtain ⟨q1, q2, q3, q4, q5⟩ := h.gam p hp
    refine ⟨q1, q2, q3, q4, fun i x e o => ?_⟩
    rcases unwipe_in e with ⟨_, z | ⟨d', z, e⟩⟩ | ⟨z, e⟩
    · subst z; cases o
    · subst z; cases o
    · have := q5 i x e o
      rwa [wipe_out' z] at this
  · rcases unwipe_in e with ⟨_, z | ⟨d', z, e⟩⟩ | ⟨z, e⟩
    · cases z
    · cases z
    · have := h.me a ha c fs e
      rwa [wipe_out' z] at this
def lcL (vs : List Nat) (g : DG) (t : DT) (e : DE) : List D → List D → DS → Res DS (List D)
  | [], acc, s => .ok acc s
  | d :: r, acc, s => (noX (g d (wipeS vs s))).bind fun _ s1 => (noX (t s1)).bind fun b s2 => if b = true then (noX (e s2)).bind fun y s3 => if acc.length < 1000000 then lcL vs g t e r (acc ++ [y]) s3 else .stuck
    else lcL vs g t e r acc s2
def aLc (vs : List Nat) (it : DA) (g : DG) (t : DT) (e : DE) : DA := fun s => (it s).bind fun items s1 => (noX (lcL vs g t e items [] s1)).bind fun ys s2 => .ok ys ⟨unwipe vs s1.sl (wipeD vs s2.sl), s2.st⟩
def bYes : DT := fun s => .ok true s
theorem ptds_nil : PTs X [] (tDT G W bYes) := ⟨fun pins s σ H Q I ⟨κ, w, d, ok, q⟩ => pts_nil.run pins s σ H Q I (q w true H (.refl _) ok rfl)⟩
theorem ptds_one {c : Expr} {t : DT} (h : PDT G W X c t) : PTs X [c] (tDT G W t) := pts_one h
theorem wipe_same {σ σ2 : L2.St} {vs is : List Nat} (hl : σ2.length = (L2.wipe σ vs).length) (h : ∀ i : Nat, i ∉ is → σ2[i]? = (L2.wipe σ vs)[i]?) (hs : ∀ i ∈ is, i ∈ vs) : L2.wipe σ2 vs = L2.wipe σ vs := by
  have at_ : ∀ (τ : L2.St) (i : Nat), i ∈ vs → (L2.wipe τ vs)[i]? = if i < τ.length then some none else none := by
    intro τ i hi
    clear h hs hl
    induction vs with
    | nil => simp at hi
    | cons v r ih =>
      unfold L2.wipe
      by_cases e : v = i
      · subst e
        by_cases c : v < τ.length
        · rw [List.getElem?_set_self (by rw [wipe_length]; exact c), if_pos c]
        · rw [if_neg c, List.getElem?_eq_none (by rw [List.length_set, wipe_length]; omega)]
      · rw [List.getElem?_set_ne e]
        exact ih (by rcases List.mem_cons.mp hi with z | z; exact absurd z.symm e; exact z)
  have hl2 : σ2.length = σ.length := by rw [hl, wipe_length]
  apply List.ext_getElem?
  intro i
  by_cases hi : i ∈ vs
  · rw [at_ σ2 i hi, at_ σ i hi, hl2]
  · rw [wipe_out' hi]
    exact h i fun z => hi (hs i z)
theorem lc_of {vs is : List Nat} (hs : ∀ i ∈ is, i ∈ vs) {κ : Bs} {w : Wd} {J : It} {g : DG} {t : DT} {e : DE} {items : List D} (hJ : ItOk G w J items) {s0 : DS} {σ : L2.St} {H1 : Hp} {Q : VK} (ok : Ok G κ w s0 σ H1) {Dp : Addr} (hD : H1 Dp = none)
    (q : match noX (lcL vs g t e items [] s0) with
      | .ok ys s2 => ∀ w2 acc H2, w.le w2 → Ok G (κ.plus Dp (.lst acc)) w2 (wipeS vs s2) (L2.wipe σ vs) H2 → Reps G w2 acc ys → Q (.ref Dp) H2
      | _ => False) :
    ∃ Wv : Nat → Nat → Hp → Prop, (∃ m, Wv 0 m (upd H1 Dp (.lst []))) ∧ ∀ i m H, Wv i m H →
      (J.stop i H ∧ Q (.ref Dp) H) ∨ (J.go i H ∧ ∃ Nx : Hp → Prop, (∀ H', Nx H' → ∃ m', m' < m ∧ Wv (i + 1) m' H') ∧ ∀ x H', J.yld i H x H' → tDG G is g x (L2.wipe σ vs) H' fun σ2 H2 => L2.wipe σ2 vs = L2.wipe σ vs ∧ tDT G WF t σ2 H2 fun b H3 =>
        if b = true then tD G WF e σ2 H3 fun y H4 => ∃ acc, H4 Dp = some (.lst acc) ∧ acc.length < sizeLine ∧ Nx (upd H4 Dp (.lst (acc ++ [y]))) else Nx H3) := by
  have hγ := ok.apart hD
  -- a state of the loop: slots wiped
  refine ⟨fun i m H => ∃ w' s' acc accD, w.le w' ∧ Ok G (κ.plus Dp (.lst acc)) w' (wipeS vs s') (L2.wipe σ vs) H ∧ Reps G w' acc accD ∧ (items.drop i).length = m ∧
    (match noX (lcL vs g t e (items.drop i) accD s') with
      | .ok ys s2 => ∀ w2 acc H2, w'.le w2 → Ok G (κ.plus Dp (.lst acc)) w2 (wipeS vs s2) (L2.wipe σ vs) H2 → Reps G w2 acc ys → Q (.ref Dp) H2
      | _ => False), ⟨items.length, w, s0, [], [], .refl _, (ok.fresh hD _).wipe vs, .nil, by simp, ?_⟩, ?_⟩
  · rw [List.drop_zero]
    exact q
  · rintro i m H ⟨w', s', acc, accD, le', ok', ra, hm, q'⟩
    cases ed : items.drop i with
    | nil =>
      rw [ed] at q'
      have hn : items[i]? = none := by
        have := congrArg (fun l => l[0]?) ed
        simpa using this
      exact .inl ⟨(hJ w' _ H le' ok'.fok i).2 hn, q' w' acc H (.refl _) ok' ra⟩
    | cons d r =>
      rw [ed] at q' hm
      obtain ⟨h1, h2⟩ := drop_get ed
      obtain ⟨go, yl⟩ := (hJ w' _ H le' ok'.fok i).1 d h1
      refine .inr ⟨go, fun H2 => ∃ w2 s2 acc accD, w.le w2 ∧ Ok G (κ.plus Dp (.lst acc)) w2 (wipeS vs s2) (L2.wipe σ vs) H2 ∧ Reps G w2 acc accD ∧
        (match noX (lcL vs g t e r accD s2) with
          | .ok ys s3 => ∀ w3 acc H3, w2.le w3 → Ok G (κ.plus Dp (.lst acc)) w3 (wipeS vs s3) (L2.wipe σ vs) H3 → Reps G w3 acc ys → Q (.ref Dp) H3
          | _ => False), fun H2 ⟨w2, s2, acc2, accD2, l2, o2, r2, q2⟩ => ?_, fun x H' hy => ?_⟩
      · exact ⟨r.length, by rw [← hm]; exact Nat.lt_succ_self _, w2, s2, acc2, accD2, l2, o2, r2, by rw [h2], by rw [h2]; exact q2⟩
      · obtain ⟨w2, nx, fok, rx⟩ := yl x H' hy
        have ok2 : Ok G (κ.plus Dp (.lst acc)) w2 (wipeS vs s') (L2.wipe σ vs) H' := ok'.step nx fok
        refine ⟨κ.plus Dp (.lst acc), w2, wipeS vs s', d, ok2, rx, PostT.ofNoX ?_⟩
        unfold lcL at q'
        cases e1 : noX (g d (wipeS vs s')) with
        | stuck => rw [e1] at q'; exact q'.elim
        | exc x s => exact absurd e1 (noX_exc _ _ _)
        | ok u s1 =>
          rw [e1] at q'
          rw [Res.bind_ok] at q'
          intro w3 σ3 H3 l3 o3 hσ
          have hw : L2.wipe σ3 vs = L2.wipe σ vs := wipe_same hσ.1 hσ.2 hs
          refine ⟨hw, κ.plus Dp (.lst acc), w3, s1, o3, ?_⟩
          cases e2 : t s1 with
          | stuck => rw [e2] at q'; exact q'.elim
          | exc x s => rw [e2] at q'; exact q'.elim
          | ok b s2 =>
            rw [e2] at q'
            intro w4 b' H4 l4 o4 eb
            subst eb
            have lw : w'.le w4 := (nx.le.trans l3).trans l4
            cases b' with
            | false =>
              rw [if_neg (fun z => nomatch z)]
              refine ⟨w4, s2, acc, accD, le'.trans lw, by rw [← hw]; exact o4.wipe vs, ra.mono lw, ?_⟩
              replace q' : (match noX (lcL vs g t e r accD s2) with
                | .ok ys s3 => ∀ w3 acc H3, w'.le w3 → Ok G (κ.plus Dp (.lst acc)) w3 (wipeS vs s3) (L2.wipe σ vs) H3 → Reps G w3 acc ys → Q (.ref Dp) H3
                | _ => False) := q'
              cases e3 : noX (lcL vs g t e r accD s2) with
              | stuck => rw [e3] at q'; exact q'.elim
              | exc x s => rw [e3] at q'; exact q'.elim
              | ok ys s3 => rw [e3] at q'; exact fun w5 acc5 H5 l5 o5 r5 => q' w5 acc5 H5 (lw.trans l5) o5 r5
            | true =>
              rw [if_pos rfl]
              refine ⟨κ.plus Dp (.lst acc), w4, s2, o4, ?_⟩
              replace q' : (match noX ((noX (e s2)).bind fun y s3 => if accD.length < 1000000 then lcL vs g t e r (accD ++ [y]) s3 else .stuck) with
                | .ok ys s3 => ∀ w3 acc H3, w'.le w3 → Ok G (κ.plus Dp (.lst acc)) w3 (wipeS vs s3) (L2.wipe σ vs) H3 → Reps G w3 acc ys → Q (.ref Dp) H3
                | _ => False) := q'
              cases e3 : e s2 with
              | stuck => rw [e3] at q'; exact q'.elim
              | exc x s => rw [e3] at q'; exact q'.elim
              | ok y s3 =>
                rw [e3] at q'
                intro w5 v5 H5 l5 o5 r5
                replace q' : (match noX (if accD.length < 1000000 then lcL vs g t e r (accD ++ [y]) s3 else .stuck) with
                  | .ok ys s3 => ∀ w3 acc H3, w'.le w3 → Ok G (κ.plus Dp (.lst acc)) w3 (wipeS vs s3) (L2.wipe σ vs) H3 → Reps G w3 acc ys → Q (.ref Dp) H3
                  | _ => False) := q'
                by_cases c : accD.length < 1000000
                · rw [if_pos c] at q'
                  refine ⟨acc, (o5.gam (Dp, .lst acc) List.mem_cons_self).1, by rw [ra.length, sizeLine_eq]; omega, w5, s3, acc ++ [v5], accD ++ [y], le'.trans (lw.trans l5), ?_, ((ra.mono lw).mono l5).append (.cons r5 .nil), ?_⟩
                  · rw [← hw]
                    exact (o5.swap hγ).wipe vs
                  · cases e4 : noX (lcL vs g t e r (accD ++ [y]) s3) with
                    | stuck => rw [e4] at q'; exact q'.elim
                    | exc x s => rw [e4] at q'; exact q'.elim
                    | ok ys s4 => rw [e4] at q'; exact fun w6 acc6 H6 l6 o6 r6 => q' w6 acc6 H6 ((lw.trans l5).trans l6) o6 r6
                · rw [if_neg c] at q'
                  exact q'.elim
theorem pdo_lc {elt tg iter : Expr} {ifs : List Expr} {scope : Scope} {own : List (Str × Nat)} {is : List Nat} {pos : Pos} {it : DA} {g : DG} {t : DT} {e : DE} (hc : X.calm = true) (hN : X.N.Nodup) (hi : PDI G W X tg iter it) (ok : BlkOk X.N X.env.scope scope own) (hs' : ∀ i ∈ is, i ∈ own.map (·.2))
    (hg : ∀ (s : Shared) (H : Hp) (C : Addr) (cl : List (Str × Addr)) (fp : List Addr), PDG G (X.blk s H scope (compEnvC scope cl C X.env) fp) tg is g) (ht : ∀ (s : Shared) (H : Hp) (C : Addr) (cl : List (Str × Addr)) (fp : List Addr), PTs (X.blk s H scope (compEnvC scope cl C X.env) fp) ifs (tDT G WF t))
    (he : ∀ (s : Shared) (H : Hp) (C : Addr) (cl : List (Str × Addr)) (fp : List Addr), PD G WF (X.blk s H scope (compEnvC scope cl C X.env) fp) elt e) (hs : ∀ x, foldedSetIterable iter X.env x = pure x := by intro _; rfl) :
    PDo G W X (.ListComp elt [⟨tg, iter, ifs, 0⟩] scope pos) (aLc (own.map (·.2)) it g t e) :=
  (pe_lc hc hN hi ok hg ht he hs).imp fun σ H Q h => lc_fin hs' h
where
  lc_fin {vs is : List Nat} (hs : ∀ i ∈ is, i ∈ vs) {it : DA} {g : DG} {t : DT} {e : DE} {σ : L2.St} {H : Hp} {Q : VK} (h : tDo G W (aLc vs it g t e) σ H Q) : tLc (tDI G W it) (tDG G is g) (tDT G WF t) (tD G WF e) vs σ H Q := by
    obtain ⟨κ, w, s, ok, q⟩ := h
    refine ⟨κ, w, s, ok, ?_⟩
    unfold aLc at q
    cases e1 : it s with
    | stuck => rw [e1] at q; exact q.elim
    | exc x s' => rw [e1] at q; exact q
    | ok items s1 =>
      rw [e1] at q
      rw [Res.bind_ok] at q
      intro w1 J H1 l1 o1 hJ D hD
      refine lc_of hs hJ o1 hD ?_
      cases e2 : noX (lcL vs g t e items [] s1) with
      | stuck => rw [e2] at q; exact q.elim
      | exc x s' => exact absurd e2 (noX_exc _ _ _)
      | ok ys s2 =>
        rw [e2] at q
        intro w2 acc H2 l2 o2 r2
        exact q w2 D acc H2 (l1.trans l2) (Ok.unwipe o1 l2 o2 rfl) (o1.apart hD) r2
/-- name = [..] on one line, the name a plain local -/
theorem pds_setLc {i : Nat} {y : Str} {py : Pos} {elt tg iter : Expr} {ifs : List Expr} {scope : Scope} {own : List (Str × Nat)} {is : List Nat} {pos spos : Pos} {it : DA} {g : DG} {t : DT} {e : DE} (hc : X.calm = true) (hN : X.N.Nodup) (hy : X.N[i]? = some y) (hyl : X.env.scope.names.lookup y = some .local)
    (hsw : swapsWith (.ListComp elt [⟨tg, iter, ifs, 0⟩] scope pos) (some (.Name y py)) spos.line X.env = pure true) (hi : PDI G W X tg iter it) (ok : BlkOk X.N X.env.scope scope own) (hs' : ∀ i ∈ is, i ∈ own.map (·.2))
    (hg : ∀ (s : Shared) (H : Hp) (C : Addr) (cl : List (Str × Addr)) (fp : List Addr), PDG G (X.blk s H scope (compEnvC scope cl C X.env) fp) tg is g) (ht : ∀ (s : Shared) (H : Hp) (C : Addr) (cl : List (Str × Addr)) (fp : List Addr), PTs (X.blk s H scope (compEnvC scope cl C X.env) fp) ifs (tDT G WF t))
    (he : ∀ (s : Shared) (H : Hp) (C : Addr) (cl : List (Str × Addr)) (fp : List Addr), PD G WF (X.blk s H scope (compEnvC scope cl C X.env) fp) elt e) (hs : ∀ x, foldedSetIterable iter X.env x = pure x := by intro _; rfl) :
    PDS G W X (.Assign [.Name y py] (.ListComp elt [⟨tg, iter, ifs, 0⟩] scope pos) spos) (sSetO i (aLc (own.map (·.2)) it g t e)) :=
  (ps_setLc hc hN hy hyl hsw hi ok hg ht he hs).imp fun N σ H q => by
    have q := setO_of q
    exact pdo_lc.lc_fin hs' q
/-! ### enumerate, zip -/
def enumL (xs : List D) : List D := (List.range xs.length).zipWith (fun (i : Nat) x => .tup [.int (i : Int), x]) xs
def zipL (xs ys : List D) : List D := xs.zipWith (fun x y => .tup [x, y]) ys
theorem zipL_get {xs ys : List D} {i : Nat} {d : D} (h : (zipL xs ys)[i]? = some d) : ∃ x y, xs[i]? = some x ∧ ys[i]? = some y ∧ d = .tup [x, y] := by
  unfold zipL at h
  rw [List.getElem?_zipWith] at h
  cases e1 : xs[i]? with
  | none => simp [e1] at h
  | some x =>
    cases e2 : ys[i]? with
    | none => simp [e1, e2] at h
    | some y => simp [e1, e2] at h; exact ⟨x, y, rfl, rfl, h.symm⟩
theorem enumL_get {xs : List D} {i : Nat} {d : D} (h : (enumL xs)[i]? = some d) : ∃ x, xs[i]? = some x ∧ d = .tup [.int (i : Int), x] := by
  unfold enumL at h
  rw [List.getElem?_zipWith] at h
  cases e2 : xs[i]? with
  | none => simp [e2] at h
  | some y =>
    have hi : i < xs.length := (List.getElem?_eq_some_iff.mp e2).1
    rw [List.getElem?_range hi, e2] at h
    cases h
    exact ⟨y, rfl, rfl⟩
theorem itOk_enum (hK : G.K = X.K) {w : Wd} {a : Addr} {vs : List V} {ds : List D} (e : SqL G.K w.F a vs) (r : Reps G w vs ds) : ItOk G w (Ite X.K a) (enumL ds) := by
  intro w1 S H le fok i
  have q : SqL X.K H a vs := hK ▸ SqL.le (SqL.le e le.f) fok.sub
  refine ⟨fun d hd => ?_, fun hn => ?_⟩
  · obtain ⟨x, h1, rfl⟩ := enumL_get hd
    obtain ⟨y, h2, h3⟩ := r.get h1
    refine ⟨⟨vs, y, q, h2⟩, fun v H' ⟨T, x', hv, hT, hH, hx⟩ => ?_⟩
    have := hx vs q
    rw [h2] at this
    cases this
    obtain ⟨f2, n2⟩ := fok.alloc hT (.tup [.int (i : Nat), y])
    subst hH
    subst hv
    exact ⟨_, n2, f2, .tup (.inl (.inl upd_same)) (.cons (.int _) (.cons ((h3.mono le).mono n2.le) .nil))⟩
  · refine ⟨vs, q, ?_⟩
    have := List.getElem?_eq_none_iff.mp hn
    unfold enumL at this
    rw [List.length_zipWith, List.length_range] at this
    rw [r.length]
    omega
def itEnum (f : DA) : DA := fun s => (f s).bind fun ds s1 => match ds with
  | [.lst xs] => .ok (enumL xs) s1
  | [.scr xs] => .ok (enumL xs) s1
  | _ => .stuck
theorem pdi_enum (hK : G.K = X.K) {e : Expr} {fa : DA} {p pos tpos : Pos} {elts : List Expr} {kk : Nat} (hg : Gl X "enumerate") (hm : X.mg "enumerate" = none) (ha : PDA G W X [e] fa) (hs : starEach [e] X.env = [(false, eval e X.env)] := by rfl) :
    PDI G W X (.Tuple elts kk tpos) (.Call (.Name "enumerate" p) [e] [] pos) (itEnum fa) :=
  (pi_enum hg hm ha hs).imp fun σ H R ⟨κ, w, s, ok, q⟩ => ⟨κ, w, s, ok, (PostG.bindI q).imp fun v H1 ⟨d, s1, w1, le, ok1, r1, q1⟩ => by
    match d, q1 with
    | [.lst xs], q1 =>
      obtain ⟨v, rfl, r⟩ := r1.one
      cases r with
      | @lst a vs ds e r =>
        have e' : SqL G.K w1.F a vs := .inl (.inl e)
        exact ⟨a, vs, rfl, hK ▸ SqL.le e' ok1.fok.sub, q1 w1 _ H1 (.refl _) ok1 (itOk_enum hK e' r)⟩
    | [.scr xs], q1 =>
      obtain ⟨v, rfl, r⟩ := r1.one
      cases r with
      | @scr a vs ds e r => exact ⟨a, vs, rfl, hK ▸ SqL.le e ok1.fok.sub, q1 w1 _ H1 (.refl _) ok1 (itOk_enum hK e r)⟩⟩
theorem zip_none {vs ws : List V} {ds es : List D} {w : Wd} {i : Nat} (r : Reps G w vs ds) (r' : Reps G w ws es) (hn : (zipL ds es)[i]? = none) : vs.length ≤ i ∨ ws.length ≤ i := by
  have := List.getElem?_eq_none_iff.mp hn
  unfold zipL at this
  rw [List.length_zipWith] at this
  rw [r.length, r'.length]
  omega
theorem itOk_zip (hK : G.K = X.K) {w : Wd} {a b : Addr} {vs ws : List V} {ds es : List D} (e : SqL G.K w.F a vs) (e' : SqL G.K w.F b ws) (r : Reps G w vs ds) (r' : Reps G w ws es) : ItOk G w (Itz X.K a b) (zipL ds es) := by
  intro w1 S H le fok i
  have q : SqL X.K H a vs := hK ▸ SqL.le (SqL.le e le.f) fok.sub
  have q' : SqL X.K H b ws := hK ▸ SqL.le (SqL.le e' le.f) fok.sub
  refine ⟨fun d hd => ?_, fun hn => ⟨vs, ws, q, q', zip_none r r' hn⟩⟩
  obtain ⟨x, y, h1, h1', rfl⟩ := zipL_get hd
  obtain ⟨x', h2, h3⟩ := r.get h1
  obtain ⟨y', h2', h3'⟩ := r'.get h1'
  refine ⟨⟨vs, ws, x', y', q, q', h2, h2'⟩, fun v H' ⟨T, x2, y2, hv, hT, hH, hx, hy⟩ => ?_⟩
  have := hx vs q
  rw [h2] at this
  cases this
  have := hy ws q'
  rw [h2'] at this
  cases this
  obtain ⟨f2, n2⟩ := fok.alloc hT (.tup [x', y'])
  subst hH
  subst hv
  exact ⟨_, n2, f2, .tup (.inl (.inl upd_same)) (.cons ((h3.mono le).mono n2.le) (.cons ((h3'.mono le).mono n2.le) .nil))⟩
theorem itOk_zipT (hK : G.K = X.K) {w : Wd} {a b : Addr} {vs ws : List V} {ds es : List D} (e : SqT G.K w.F a vs) (e' : SqT G.K w.F b ws) (r : Reps G w vs ds) (r' : Reps G w ws es) : ItOk G w (ItzT X.K a b) (zipL ds es) := by
  intro w1 S H le fok i
  have q : SqT X.K H a vs := hK ▸ SqT.le (SqT.le e le.f) fok.sub
  have q' : SqT X.K H b ws := hK ▸ SqT.le (SqT.le e' le.f) fok.sub
  refine ⟨fun d hd => ?_, fun hn => ⟨vs, ws, q, q', zip_none r r' hn⟩⟩
  obtain ⟨x, y, h1, h1', rfl⟩ := zipL_get hd
  obtain ⟨x', h2, h3⟩ := r.get h1
  obtain ⟨y', h2', h3'⟩ := r'.get h1'
  refine ⟨⟨vs, ws, x', y', q, q', h2, h2'⟩, fun v H' ⟨T, x2, y2, hv, hT, hH, hx, hy⟩ => ?_⟩
  have := hx vs q
  rw [h2] at this
  cases this
  have := hy ws q'
  rw [h2'] at this
  cases this
  obtain ⟨f2, n2⟩ := fok.alloc hT (.tup [x', y'])
  subst hH
  subst hv
  exact ⟨_, n2, f2, .tup (.inl (.inl upd_same)) (.cons ((h3.mono le).mono n2.le) (.cons ((h3'.mono le).mono n2.le) .nil))⟩
def itZip (f : DA) : DA := fun s => (f s).bind fun ds s1 => match ds with
  | [.lst xs, .lst ys] => .ok (zipL xs ys) s1
  | [.tup xs, .tup ys] => .ok (zipL xs ys) s1
  | _ => .stuck
theorem pdi_zip (hK : G.K = X.K) {e e2 : Expr} {fa : DA} {p pos tpos : Pos} {elts : List Expr} {kk : Nat} (hg : Gl X "zip") (hm : X.mg "zip" = none) (ha : PDA G W X [e, e2] fa)
    (hs : starEach [e, e2] X.env = (false, eval e X.env) :: starEach [e2] X.env := by rfl) (hpl : (backTo pos (starEach [e2] X.env)).any (·.1) = false := by rfl) :
    PDI G W X (.Tuple elts kk tpos) (.Call (.Name "zip" p) [e, e2] [] pos) (itZip fa) :=
  (pi_zipA hg hm ha hs hpl).imp fun σ H R ⟨κ, w, s, ok, q⟩ => ⟨κ, w, s, ok, (PostG.bindI q).imp fun v H1 ⟨d, s1, w1, le, ok1, r1, q1⟩ => by
    match d, q1 with
    | [.lst xs, .lst ys], q1 =>
      obtain ⟨v, v', rfl, r, r'⟩ := r1.two
      cases r with
      | @lst a vs ds e r =>
        cases r' with
        | @lst b ws es e' r' =>
          have e1 : SqL G.K w1.F a vs := .inl (.inl e)
          have e2 : SqL G.K w1.F b ws := .inl (.inl e')
          exact ⟨a, b, vs, ws, rfl, .inl ⟨hK ▸ SqL.le e1 ok1.fok.sub, hK ▸ SqL.le e2 ok1.fok.sub, q1 w1 _ H1 (.refl _) ok1 (itOk_zip hK e1 e2 r r')⟩⟩
    | [.tup xs, .tup ys], q1 =>
      obtain ⟨v, v', rfl, r, r'⟩ := r1.two
      cases r with
      | @tup a vs ds e r =>
        cases r' with
        | @tup b ws es e' r' =>
          exact ⟨a, b, vs, ws, rfl, .inr ⟨hK ▸ SqT.le e ok1.fok.sub, hK ▸ SqT.le e' ok1.fok.sub, q1 w1 _ H1 (.refl _) ok1 (itOk_zipT hK e e' r r')⟩⟩⟩
/-! ### x.append(e) of an own list; x += e -/
/-- the list at an own slot -/
theorem own_list {κ : Bs} {w : Wd} {s : DS} {σ : L2.St} {H : Hp} {i : Nat} {xs : List D} (ok : Ok G κ w s σ H) (e : s.sl[i]? = some (.ol xs)) : ∃ a vs, σ[i]? = some (some (.ref a)) ∧ H a = some (.lst vs) ∧ Reps G w vs xs := by
  obtain ⟨a, h1, ⟨vs, h2, h3⟩, _⟩ := ok.own i _ e rfl
  exact ⟨a, vs, h1, h2, h3⟩
def sApp (i : Nat) (fa : DA) : DStm := fun s => match s.sl[i]? with
  | some (.ol _) => (fa s).bind fun ds s1 => match ds, s1.sl[i]? with
    | [d], some (.ol xs) => if xs.length < 1000000 then .ok .nx ⟨s1.sl.set i (.ol (xs ++ [d])), s1.st⟩ else .stuck
    | _, _ => .stuck
  | _ => .stuck
theorem app_of {i : Nat} {fa : DA} {N : Ends} {σ : L2.St} {H : Hp} (h : tDS G W (sApp i fa) N σ H) : tDrop (tBM X.K "list" rAppend (tVar i) (tDA G W fa)) N σ H := by
  obtain ⟨κ, w, s, ok, q⟩ := h
  unfold sApp at q
  cases e : s.sl[i]? with
  | none => rw [e] at q; exact q.elim
  | some y =>
    rw [e] at q
    cases y with
    | ol xs0 =>
      obtain ⟨a, vs, h1, h2, h3⟩ := own_list ok e
      refine ⟨.ref a, h1, .inl ⟨rfl, vs, .inl (.inl h2)⟩, κ, w, s, ok, (PostG.bindS q).imp fun v H1 ⟨d, s1, w1, le, ok1, r1, q1⟩ => ?_⟩
      match d, q1 with
      | [d], q1 =>
        cases e1 : s1.sl[i]? with
        | none => rw [e1] at q1; exact q1.elim
        | some z =>
          rw [e1] at q1
          cases z with
          | ol xs =>
            replace q1 : PostS G W κ w1 (if xs.length < 1000000 then .ok .nx ⟨s1.sl.set i (.ol (xs ++ [d])), s1.st⟩ else .stuck) N := q1
            split at q1
            · rename_i c
              obtain ⟨a', vs', g1, g2, g3⟩ := own_list ok1 e1
              rw [h1] at g1
              cases g1
              obtain ⟨y, rfl, ry⟩ := r1.one
              refine ⟨a, vs', y, rfl, rfl, g2, by rw [g3.length, sizeLine_eq]; omega, ?_⟩
              exact q1 w1 σ _ (.refl _) (ok1.mut e1 rfl rfl h1 ⟨_, upd_same, g3.append (.cons ry .nil)⟩ fun _ _ z => nomatch z)
            · exact q1.elim
          | _ => exact q1.elim
      | [], q1 => cases e1 : s1.sl[i]? <;> exact q1.elim
      | _ :: _ :: _, q1 => cases e1 : s1.sl[i]? <;> exact q1.elim
    | _ => exact q.elim
theorem pds_append {i : Nat} {x : Str} {p apos cpos pos : Pos} {e : Expr} {fa : DA} (ho : PE X (.Name x p) (tVar i)) (ha : PDA G W X [e] fa)
    (hbase : attributeBase (.Name x p) "append" X.env (eval (.Name x p) X.env) = eval (.Name x p) X.env := by rfl)
    (hfew : ((backTo cpos (starEach [e] X.env)).all (fun x => !x.1) && (backToKw cpos (keywordEach [] X.env)).all (fun x => x.1.isSome)
      && decide ([e].length + ([] : List Keyword).length + (if ([] : List Keyword).isEmpty then 0 else 1) < 30)) = true := by rfl)
    (hline : (apos.endLine == cpos.line) = true := by rfl) (hs : starEach [e] X.env = (false, eval e X.env) :: starEach [] X.env := by rfl) (hplain : (backTo cpos (starEach [] X.env)).any (·.1) = false := by rfl)
    (hsw : swapsWith (.Call (.Attribute (.Name x p) "append" apos) [e] [] cpos) none pos.line X.env = pure false := by rfl) : PDS G W X (.Expr (.Call (.Attribute (.Name x p) "append" apos) [e] [] cpos) pos) (sApp i fa) :=
  (ps_expr (pe_bm PySem.F.plainAttrs_list PySem.F.slot_list_append PySem.F.type_list_append mt_append ho ha hbase hfew hline hs hplain) hsw).imp fun N σ H q => app_of q
/-- x += e of ints -/
def sAug (i : Nat) (o : Int → Int → Int) (f : DE) : DStm := fun s => match s.sl[i]? with
  | some (.val (.int a)) => (f s).bind fun d s1 => match d with
    | .int b => .ok .nx ⟨s1.sl.set i (.val (.int (o a b))), s1.st⟩
    | _ => .stuck
  | _ => .stuck
theorem pds_aug {i : Nat} {x : Str} {e : Expr} {f : DE} {op : Operator} {o : Int → Int → Int} {pos pos' : Pos} (hN : X.N.Nodup) (hi : X.N[i]? = some x) (hx : Loc X.env.scope x) (he : PD G W X e f) (ho : PIp X op (ipI o))
    (hf : X.fn x = true ∨ X.env.scope.names.lookup x = some .local := by first | exact .inl rfl | exact .inr rfl | assumption) : PDS G W X (.AugAssign (.Name x pos') op e pos) (sAug i o f) :=
  (ps_aug hN hi hx he ho hf).imp fun N σ H ⟨κ, w, s, ok, q⟩ => by
    unfold sAug at q
    cases e : s.sl[i]? with
    | none => rw [e] at q; exact q.elim
    | some y =>
      rw [e] at q
      cases y with
      | val d =>
        cases d with
        | int a =>
          obtain ⟨v, h1, h2⟩ := ok.val i _ e
          cases h2
          refine ⟨.int a, h1, κ, w, s, ok, (PostG.bindS q).imp fun v H1 ⟨d, s1, w1, le, ok1, r1, q1⟩ => ?_⟩
          cases r1 with
          | int b => exact ⟨a, b, rfl, rfl, q1 w1 _ H1 (.refl _) (ok1.setVal (.int _) i)⟩
          | _ => exact q1.elim
        | _ => exact q.elim
      | _ => exact q.elim
/-- a < b < c -/
def eChain (o o' : D → D → Option D) (fa fb fc : DE) : DE := fun s => (fa s).bind fun x s1 => (fb s1).bind fun y s2 => match o x y with
  | some (.bl true) => (fc s2).bind fun z s3 => match o' y z with
    | some d => .ok d s3
    | none => .stuck
  | some (.bl false) => .ok (.bl false) s2
  | _ => .stuck
theorem op2b {r : R2} {o : D → D → Option D} (hr : ∀ (κ : Bs) (w : Wd) (s : DS) (σ : L2.St) (H : Hp) (x y : V) (dx dy d : D) (Q : VK), Ok G κ w s σ H → Rep G w x dx → Rep G w y dy → o dx dy = some d → (∀ w' v H', w.le w' → Ok G κ w' s σ H' → Rep G w' v d → Q v H') → r x y H Q) :
    ∀ (κ : Bs) (w : Wd) (s : DS) (σ : L2.St) (H : Hp) (x y : V) (dx dy d : D) (Q : VK), Ok G κ w s σ H → Rep G w x dx → Rep G w y dy → o dx dy = some d → (∀ w' v H', w.le w' → Ok G κ w' s σ H' → Rep G w' v d → Q v H') → r x y H Q := hr
theorem pd_chain {op op' : CmpOp} {o o' : D → D → Option D} {a b c : Expr} {fa fb fc : DE} {pos : Pos} (ho : OpD G X (compareOp op) o) (ho' : OpD G X (compareOp op') o') (ha : PD G W X a fa) (hb : PD G W X b fb) (hc : PD G W X c fc)
    (hp : ∀ {r r' : R2} {ta tb tc : TE}, OpR X (compareOp op) r → OpR X (compareOp op') r' → PE X a ta → PE X b tb → PE X c tc → PE X (.Compare a [op, op'] [b, c] pos) (tChain r r' ta tb tc)) : PD G W X (.Compare a [op, op'] [b, c] pos) (eChain o o' fa fb fc) := by
  obtain ⟨r, h1, h2⟩ := ho
  obtain ⟨r', h1', h2'⟩ := ho'
  refine (hp h1 h1' ha hb hc).imp fun σ H Q ⟨κ, w, s, ok, q⟩ => ⟨κ, w, s, ok, (PostG.bind q).imp fun v H1 ⟨d, s1, w1, le, ok1, r1, q1⟩ => ⟨κ, w1, s1, ok1, (PostG.bind q1).imp fun v2 H2 ⟨d2, s2, w2, le2, ok2, r2, q2⟩ => ?_⟩⟩
  cases e : o d d2 with
  | none => rw [e] at q2; exact q2.elim
  | some z =>
    rw [e] at q2
    refine h2 κ w2 s2 σ H2 v v2 d d2 z _ ok2 (r1.mono le2) r2 e fun w3 v3 H3 l3 o3 r3 => ?_
    cases r3 with
    | bl k =>
      refine ⟨k, rfl, ?_⟩
      cases k with
      | false => exact q2 w3 _ H3 l3 o3 (.bl false)
      | true =>
        refine ⟨κ, w3, s2, o3, (PostG.bind (PostG.mono l3 q2)).imp fun v4 H4 ⟨d4, s4, w4, le4, ok4, r4, q4⟩ => ?_⟩
        cases e' : o' d2 d4 with
        | none => rw [e'] at q4; exact q4.elim
        | some z' => rw [e'] at q4; exact h2' κ w4 s4 σ H4 v2 v4 d2 d4 z' Q ok4 ((r2.mono l3).mono le4) r4 e' q4
    | _ => exact q2.elim
end
end DL
set_option maxRecDepth 100000
set_option maxHeartbeats 4000000
set_option autoImplicit false
namespace DL
open PySem PySem.Spec PyProof.Rows L2
section
variable {G : Gam} {W : WX} {X : Cx}
/-! ### a for over a list, a tuple, a text -/
theorem pi_any {tg l : Expr} {tl : TE} (hl : PE X l tl) : PI X tg l (fun σ H R => tl σ H fun x H1 => (∃ a, x = .ref a ∧ (∃ xs, SqL X.K H1 a xs) ∧ R (Itl X.K a) H1) ∨ (∃ a, x = .ref a ∧ (∃ xs, SqT X.K H1 a xs) ∧ R (Itt X.K a) H1) ∨ ∃ y, x = .str y ∧ R (Its y) H1) := by
  refine ⟨fun pins s σ H R I h => ?_⟩
  refine thn (hl.run pins s σ H _ I h) fun v s1 ⟨x, H1, I1, r1, q1⟩ => ?_
  rcases q1 with ⟨a, e, ⟨xs, hq⟩, q⟩ | ⟨a, e, ⟨xs, hq⟩, q⟩ | ⟨y, e, q⟩
  · subst e
    cases r1
    obtain ⟨its, rv, p, hz⟩ := I1.list hq
    refine wpAny_pyIter_list p.isList ?_
    refine ⟨s1.heap.objs.size, [s1.heap.objs.size], _, _, H1, rfl, I1.kept (t' := s1.toks) fun b o e => Heap.get?_push_of_some _ e, turn_list a _, ⟨_, Heap.get?_push_size _ rfl, rfl, rfl⟩, fun b hb => ?_, q⟩
    have e : b = s1.heap.objs.size := by simpa using hb
    subst e
    exact I1.fpOk (Nat.le_refl _) (I1.hok.fresh (Nat.le_refl _))
  · subst e
    cases r1
    obtain ⟨its, rv, p, hz⟩ := I1.tuple hq
    refine wpAny_pyIter_tuple (show s1.heap.IsTuple a its.toArray from p) ?_
    refine ⟨s1.heap.objs.size, [s1.heap.objs.size], _, _, H1, rfl, I1.kept (t' := s1.toks) fun b o e => Heap.get?_push_of_some _ e, turn_tuple a _, ⟨_, Heap.get?_push_size _ rfl, rfl, rfl⟩, fun b hb => ?_, q⟩
    have e : b = s1.heap.objs.size := by simpa using hb
    subst e
    exact I1.fpOk (Nat.le_refl _) (I1.hok.fresh (Nat.le_refl _))
  · subst e
    obtain ⟨t, rfl⟩ := r1
    cases ha : y.cps.all (· < 128)
    · exact wpAny_pyIter_wide ha (pi_one (tk := s1.toks) I1 _ (turn_str _ y t "str_iterator" (.inr rfl)) ⟨_, Heap.get?_push_size _ rfl, rfl, rfl⟩ q)
    · exact wpAny_pyIter_ascii ha (pi_one (tk := s1.toks) I1 _ (turn_str _ y t "str_ascii_iterator" (.inl rfl)) ⟨_, Heap.get?_push_size _ rfl, rfl, rfl⟩ q)
theorem itOk_str {w : Wd} (l : Nm) : ItOk G w (Its (nm l)) (l.map fun c => D.str [c]) := by
  intro w1 S H le fok i
  refine ⟨fun d hd => ?_, fun hn => ?_⟩
  · rw [List.getElem?_map] at hd
    cases e : l[i]? with
    | none => rw [e] at hd; cases hd
    | some c =>
      rw [e] at hd
      cases hd
      have hc : (nm l).cps[i]? = some c := by simpa [nm] using e
      refine ⟨?_, fun x H' hy => ?_⟩
      · show i < (nm l).cps.size
        exact (Array.getElem?_eq_some_iff.mp hc).1
      · obtain ⟨hH, c', hc', hx⟩ := hy
        rw [hc] at hc'
        cases hc'
        subst hH
        subst hx
        exact ⟨w1, .refl _ _, fok, .str [c]⟩
  · show (nm l).cps.size ≤ i
    rw [List.getElem?_map] at hn
    cases e : l[i]? with
    | some c => rw [e] at hn; cases hn
    | none =>
      have := List.getElem?_eq_none_iff.mp e
      simpa [nm] using this
def itemsD (d : D) : Option (List D) := match d with
  | .lst xs => some xs
  | .scr xs => some xs
  | .tup xs => some xs
  | .str l => some (l.map fun c => .str [c])
  | _ => none
def itSeq (f : DE) : DA := fun s => (f s).bind fun d s1 => match itemsD d with
  | some xs => .ok xs s1
  | none => .stuck
theorem pdi_seq (hK : G.K = X.K) {tg e : Expr} {f : DE} (h : PD G W X e f) : PDI G W X tg e (itSeq f) :=
  (pi_any h).imp fun σ H R ⟨κ, w, s, ok, q⟩ => ⟨κ, w, s, ok, (PostG.bindI q).imp fun v H1 ⟨d, s1, w1, le, ok1, r1, q1⟩ => by
    cases r1 with
    | @lst a vs ds e r =>
      have e' : SqL G.K w1.F a vs := .inl (.inl e)
      exact .inl ⟨a, rfl, ⟨vs, hK ▸ SqL.le e' ok1.fok.sub⟩, q1 w1 _ H1 (.refl _) ok1 (itOk_list hK e' (fun _ _ _ _ _ => trivial) r fun _ _ => trivial)⟩
    | @scr a vs ds e r =>
      exact .inl ⟨a, rfl, ⟨vs, hK ▸ SqL.le e ok1.fok.sub⟩, q1 w1 _ H1 (.refl _) ok1 (itOk_list hK e (fun _ _ _ _ _ => trivial) r fun _ _ => trivial)⟩
    | @tup a vs ds e r => exact .inr (.inl ⟨a, rfl, ⟨vs, hK ▸ SqT.le e ok1.fok.sub⟩, q1 w1 _ H1 (.refl _) ok1 (itOk_tup hK e r)⟩)
    | str l => exact .inr (.inr ⟨nm l, rfl, q1 w1 _ H1 (.refl _) ok1 (itOk_str l)⟩)
    | _ => exact q1.elim⟩
/-! ### + and * in all -/
def lAdd : D → D → Option D := fun x y => match x, y with
  | .lst a, .lst b => if a.length + b.length ≤ 1000000 then some (.lst (a ++ b)) else none
  | _, _ => none
theorem opd_ladd : OpD G X (binaryOp .Add) lAdd := ⟨_, op_cat, fun κ w s σ H x y dx dy d Q ok rx ry e q => by
  cases rx with
  | @lst a vs ds e1 r1 =>
    cases ry with
    | @lst a2 vs2 ds2 e2 r2 =>
      have e : (if ds.length + ds2.length ≤ 1000000 then some (D.lst (ds ++ ds2)) else none) = some d := e
      split at e
      · cases e
        refine ⟨a, a2, vs, vs2, rfl, rfl, ok.fok.sub _ _ e1, ok.fok.sub _ _ e2, by rw [r1.length, r2.length, sizeLine_eq]; omega, fun p hp => ?_⟩
        obtain ⟨le2, ok2⟩ := ok.alloc hp (.lst (vs ++ vs2))
        exact q _ _ _ le2 ok2 (.lst upd_same ((r1.append r2).mono le2))
      · cases e
    | _ => exact nomatch e
  | _ => exact nomatch e⟩
def lMul : D → D → Option D := fun x y => match x, y with
  | .lst a, .int k => if -(2 ^ 63) ≤ k ∧ k < 2 ^ 63 ∧ a.length * k.toNat ≤ 1000000 then some (.lst (List.replicate k.toNat a).flatten) else none
  | _, _ => none
theorem opd_lmul : OpD G X (binaryOp .Mult) lMul := ⟨_, op_rep, fun κ w s σ H x y dx dy d Q ok rx ry e q => by
  cases rx with
  | @lst a vs ds e1 r1 =>
    cases ry with
    | int k =>
      have e : (if -(2 ^ 63) ≤ k ∧ k < 2 ^ 63 ∧ ds.length * k.toNat ≤ 1000000 then some (D.lst (List.replicate k.toNat ds).flatten) else none) = some d := e
      split at e
      · rename_i c
        cases e
        refine ⟨a, k, vs, rfl, rfl, ok.fok.sub _ _ e1, c.1, c.2.1, by rw [r1.length, sizeLine_eq]; omega, fun p hp => ?_⟩
        obtain ⟨le2, ok2⟩ := ok.alloc hp (.lst (List.replicate k.toNat vs).flatten)
        exact q _ _ _ le2 ok2 (.lst upd_same ((r1.rep _).mono le2))
      · cases e
    | _ => exact nomatch e
  | _ => exact nomatch e⟩
theorem OpD.or {f : Value → Value → Sem Value} {o o' : D → D → Option D} (h : OpD G X f o) (h' : OpD G X f o') : OpD G X f (fun x y => (o x y).orElse fun _ => o' x y) := by
  obtain ⟨r, h1, h2⟩ := h
  obtain ⟨r', h1', h2'⟩ := h'
  refine ⟨_, h1.or h1', fun κ w s σ H x y dx dy d Q ok rx ry e q => ?_⟩
  have e : ((o dx dy).orElse fun _ => o' dx dy) = some d := e
  cases e1 : o dx dy with
  | some z => rw [e1] at e; cases e; exact .inl (h2 κ w s σ H x y dx dy _ Q ok rx ry e1 q)
  | none => rw [e1] at e; exact .inr (h2' κ w s σ H x y dx dy d Q ok rx ry e q)
def dAdd : D → D → Option D := fun x y => match x, y with
  | .int i, .int j => some (.int (i + j))
  | x, y => (sAdd x y).orElse fun _ => lAdd x y
theorem OpD.congr {f : Value → Value → Sem Value} {o o' : D → D → Option D} (h : OpD G X f o) (e : ∀ x y, o' x y = o x y) : OpD G X f o' := by
  have : o' = o := by funext x y; exact e x y
  rw [this]; exact h
theorem opd_addA (hK : G.K = X.K) : OpD G X (binaryOp .Add) dAdd := (opd_add.or ((opd_sadd hK).or opd_ladd)).congr fun x y => by
  cases x <;> cases y <;> rfl
def dMul : D → D → Option D := fun x y => match x, y with
  | .int i, .int j => if mulOk i j then some (.int (i * j)) else none
  | x, y => lMul x y
theorem opd_mulA : OpD G X (binaryOp .Mult) dMul := (opd_mul.or opd_lmul).congr fun x y => by
  cases x <;> cases y <;> first
    | rfl
    | (rename_i i j
       show (if mulOk i j then some (D.int (i * j)) else none) = ((if mulOk i j then some (D.int (i * j)) else none).orElse fun _ => lMul (.int i) (.int j))
       split <;> rfl)
/-! ### a, b, c = x, y, z -/
def sPar3 (i j l : Nat) (f : DA) : DStm := fun s => (f s).bind fun ds s1 => match ds with
  | [x, y, z] => .ok .nx ⟨((s1.sl.set i (.val x)).set j (.val y)).set l (.val z), s1.st⟩
  | _ => .stuck
theorem pds_par3 {i j l : Nat} {x y z : Str} {a b c : Expr} {f : DA} {px py pz pt pos : Pos} {kt k2 : Nat} {pt2 : Pos} (hc : X.calm = true) (hN : X.N.Nodup) (hi : X.N[i]? = some x) (hj : X.N[j]? = some y) (hl : X.N[l]? = some z) (hij : i ≠ j) (hil : i ≠ l) (hjl : j ≠ l)
    (hx : X.env.scope.names.lookup x = some .local) (hy : X.env.scope.names.lookup y = some .local) (hz : X.env.scope.names.lookup z = some .local) (ha : PDA G W X [a, b, c] f)
    (hw : swappedStores [.Tuple [.Name x px, .Name y py, .Name z pz] kt pt] (.Tuple [a, b, c] k2 pt2) X.env = pure (some [x, y, z]))
    (hs : swapsWithSole [.Tuple [.Name x px, .Name y py, .Name z pz] kt pt] (.Tuple [a, b, c] k2 pt2) pos.line X.env = pure false := by rfl) :
    PDS G W X (.Assign [.Tuple [.Name x px, .Name y py, .Name z pz] kt pt] (.Tuple [a, b, c] k2 pt2) pos) (sPar3 i j l f) :=
  (ps_par3 hc hN hi hj hl hij hil hjl hx hy hz ha hw hs).imp fun N σ H ⟨κ, w, s, ok, q⟩ => ⟨κ, w, s, ok, (PostG.bindS q).imp fun v H1 ⟨d, s1, w1, le, ok1, r1, q1⟩ => by
    match d, q1, r1 with
    | [x, y, z], q1, .cons a (.cons b (.cons c .nil)) => exact ⟨_, _, _, rfl, q1 w1 _ H1 (.refl _) (((ok1.setVal a i).setVal b j).setVal c l)⟩
    | [], q1, _ => exact q1.elim
    | [_], q1, _ => exact q1.elim
    | [_, _], q1, _ => exact q1.elim
    | _ :: _ :: _ :: _ :: _, q1, _ => exact q1.elim⟩
/-! ### types as values -/
theorem pd_bltn {x : Str} {n : String} {pos : Pos} (hg : Gl X x) (hm : X.mg x = none) (hv : bootBuiltins x = some (.type n)) (hn : x ≠ "__name__" := by decide) (hd : (x == ("__debug__" : Str)) = false := by decide) : PD G W X (.Name x pos) (eC (.ty n)) :=
  pd_c (pe_bltn (v := .ty n) hg hm hv rfl hn hd) fun _ => .ty n
theorem pd_cls {x : Str} {c : String} {C : Addr} {pos : Pos} (hg : Gl X x) (hm : X.mg x = some (.ref C)) (hC : G.ct c = some C) (hd : (x == ("__debug__" : Str)) = false := by decide) : PD G W X (.Name x pos) (eC (.cls c)) :=
  pd_c (pe_glob (v := .ref C) hg hm rfl hd) fun _ => .cls hC
/-! ### slices of tuples and texts, xs[::-1] -/
def eSlT (f : DE) (l h : DOp) : DE := fun s => (f s).bind fun d s1 => (l s1).bind fun lo s2 => (h s2).bind fun hi s3 => match d with
  | .tup xs => if (cutD xs lo hi).length ≠ xs.length then .ok (.tup (cutD xs lo hi)) s3 else .stuck
  | _ => .stuck
theorem cut_len {w : Wd} {vs : List V} {ds : List D} (r : Reps G w vs ds) (lo hi : Option Int) : (cutV vs lo hi).length = (cutD ds lo hi).length := (r.cut lo hi).length
theorem pd_slT (hK : G.K = X.K) {e : Expr} {lo hi : Option Expr} {f : DE} {l h : DOp} {p2 pos : Pos} (he : PD G W X e f) (hl : PO X lo (tDO G W l)) (hh : PO X hi (tDO G W h)) : PD G W X (.Subscript e (.Slice lo hi none p2) pos) (eSlT f l h) :=
  (pe_slice sl_tup he hl hh).imp fun σ H Q ⟨κ, w, s, ok, q⟩ => ⟨κ, w, s, ok, (PostG.bind q).imp fun v H1 ⟨d, s1, w1, le, ok1, r1, q1⟩ => ⟨κ, w1, s1, ok1, (PostG.bind q1).imp fun v2 H2 ⟨d2, s2, w2, le2, ok2, r2, q2⟩ =>
    ⟨κ, w2, s2, ok2, (PostG.bind q2).imp fun v3 H3 ⟨d3, s3, w3, le3, ok3, r3, q3⟩ => by
      subst r2
      subst r3
      cases r1 with
      | @tup a vs ds e r =>
        replace q3 : PostG G W (Rep G) κ w3 σ (if (cutD ds v2 v3).length ≠ ds.length then .ok (.tup (cutD ds v2 v3)) s3 else .stuck) Q := q3
        split at q3
        · rename_i c
          have rr := (r.mono le2).mono le3
          refine ⟨a, vs, rfl, hK ▸ SqT.le (SqT.le (SqT.le e le2.f) le3.f) ok3.fok.sub, ?_, fun p hp => ?_⟩
          · intro z
            apply c
            rw [← cut_len rr, ← rr.length]
            unfold cutV
            rw [z.1, z.2]
            simp
          · obtain ⟨le4, ok4⟩ := ok3.alloc hp (.tup (cutV vs v2 v3))
            exact q3 _ _ _ le4 ok4 (.tup (.inl (.inl upd_same)) ((rr.cut v2 v3).mono le4))
        · exact q3.elim
      | _ => exact q3.elim⟩⟩⟩
/-- a slice of a list or of a tuple -/
def slD (d : D) (lo hi : Option Int) : Option D := match d with
  | .lst xs => some (.lst (cutD xs lo hi))
  | .scr xs => some (.lst (cutD xs lo hi))
  | .tup xs => if (cutD xs lo hi).length ≠ xs.length then some (.tup (cutD xs lo hi)) else none
  | _ => none
def eSlA (f : DE) (l h : DOp) : DE := fun s => (f s).bind fun d s1 => (l s1).bind fun lo s2 => (h s2).bind fun hi s3 => match slD d lo hi with
  | some x => .ok x s3
  | none => .stuck
theorem pd_slA (hK : G.K = X.K) {e : Expr} {lo hi : Option Expr} {f : DE} {l h : DOp} {p2 pos : Pos} (he : PD G W X e f) (hl : PO X lo (tDO G W l)) (hh : PO X hi (tDO G W h)) : PD G W X (.Subscript e (.Slice lo hi none p2) pos) (eSlA f l h) :=
  (pe_slice (sl_list.or sl_tup) he hl hh).imp fun σ H Q ⟨κ, w, s, ok, q⟩ => ⟨κ, w, s, ok, (PostG.bind q).imp fun v H1 ⟨d, s1, w1, le, ok1, r1, q1⟩ => ⟨κ, w1, s1, ok1, (PostG.bind q1).imp fun v2 H2 ⟨d2, s2, w2, le2, ok2, r2, q2⟩ =>
    ⟨κ, w2, s2, ok2, (PostG.bind q2).imp fun v3 H3 ⟨d3, s3, w3, le3, ok3, r3, q3⟩ => by
      subst r2
      subst r3
      cases r1 with
      | @lst a vs ds e r =>
        have e := le3.f _ _ (le2.f _ _ e)
        refine .inl ⟨a, vs, rfl, .inl (.inl (ok3.fok.sub _ _ e)), fun p hp => ?_⟩
        obtain ⟨le4, ok4⟩ := ok3.alloc hp (.lst (cutV vs v2 v3))
        exact q3 _ _ _ le4 ok4 (.lst upd_same ((((r.mono le2).mono le3).cut v2 v3).mono le4))
      | @scr a vs ds e r =>
        refine .inl ⟨a, vs, rfl, hK ▸ SqL.le (SqL.le (SqL.le e le2.f) le3.f) ok3.fok.sub, fun p hp => ?_⟩
        obtain ⟨le4, ok4⟩ := ok3.alloc hp (.lst (cutV vs v2 v3))
        exact q3 _ _ _ le4 ok4 (.lst upd_same ((((r.mono le2).mono le3).cut v2 v3).mono le4))
      | @tup a vs ds e r =>
        right
        have rr := (r.mono le2).mono le3
        cases e4 : slD (.tup ds) v2 v3 with
        | none => rw [e4] at q3; exact q3.elim
        | some x =>
          rw [e4] at q3
          have e4 : (if (cutD ds v2 v3).length ≠ ds.length then some (D.tup (cutD ds v2 v3)) else none) = some x := e4
          split at e4
          · rename_i c
            cases e4
            refine ⟨a, vs, rfl, hK ▸ SqT.le (SqT.le (SqT.le e le2.f) le3.f) ok3.fok.sub, ?_, fun p hp => ?_⟩
            · intro z
              apply c
              rw [← cut_len rr, ← rr.length]
              unfold cutV
              rw [z.1, z.2]
              simp
            · obtain ⟨le4, ok4⟩ := ok3.alloc hp (.tup (cutV vs v2 v3))
              exact q3 _ _ _ le4 ok4 (.tup (.inl (.inl upd_same)) ((rr.cut v2 v3).mono le4))
          · cases e4
      | _ => exact q3.elim⟩⟩⟩
/-- xs[::-1] of a list: a new list -/
def aRev (f : DE) : DA := fun s => (f s).bind fun d s1 => match d with
  | .lst xs => .ok xs.reverse s1
  | .scr xs => .ok xs.reverse s1
  | _ => .stuck
theorem Reps.reverse {w : Wd} : ∀ {vs : List V} {ds : List D}, Reps G w vs ds → Reps G w vs.reverse ds.reverse
  | _, _, .nil => .nil
  | _, _, .cons a b => by
    rw [List.reverse_cons, List.reverse_cons]
    exact (Reps.reverse b).append (.cons a .nil)
theorem pdo_rev (hK : G.K = X.K) {e : Expr} {f : DE} {k : Nat} {p1 p2 p3 pos : Pos} (he : PD G W X e f) : PDo G W X (.Subscript e (.Slice none none (some (.UnaryOp .USub (.Constant (.int 1) k p1) p2)) p3) pos) (aRev f) :=
  (pe_revL he).imp fun σ H Q ⟨κ, w, s, ok, q⟩ => ⟨κ, w, s, ok, (PostG.bindO q).imp fun v H1 ⟨d, s1, w1, le, ok1, r1, q1⟩ => by
    cases r1 with
    | @lst a vs ds e r => exact ⟨a, vs, rfl, .inl (.inl (ok1.fok.sub _ _ e)), fun p hp => q1 w1 p _ _ (.refl _) (ok1.fresh hp _) (ok1.apart hp) r.reverse⟩
    | @scr a vs ds e r => exact ⟨a, vs, rfl, hK ▸ SqL.le e ok1.fok.sub, fun p hp => q1 w1 p _ _ (.refl _) (ok1.fresh hp _) (ok1.apart hp) r.reverse⟩
    | _ => exact q1.elim⟩
/-! ### the law's end -/
def spLaw (K : PySem.W.Frag) : Sp := fun vs H Q _ => ∃ (a : Addr) (ns : List Int), vs = [.ref a] ∧ SqL K H a (ns.map V.int) ∧ ns.length ≤ 63 ∧ ∀ H', Q (.bl true) H'
theorem law_end {P : Program} {w0 : World} {mg : Str → Option Value} {base : Heap} {k : Nat} {f : Addr} {fd : FuncData} {ps : List Str} {g : DFn} (F : FnOk P w0 G.K mg base (L2.CX P w0) k f fd ps (spG G 1 g))
    (h : ∀ ns : List Int, ns.length ≤ 63 → ∃ S, g [.scr (ns.map D.int)] [] = .ok (.bl true) S) : FnOk P w0 G.K mg base (L2.CX P w0) k f fd ps (spLaw G.K) :=
  F.imp fun vs H Q E ⟨a, ns, e, hS, hl, q⟩ => by
    obtain ⟨S, hg⟩ := h ns hl
    subst e
    refine ⟨rfl, ⟨H, []⟩, [], [.scr (ns.map D.int)], ⟨fun _ _ e => e, rfl, fun n a c e => by simp at e, List.nodup_nil, fun a ha => by simp at ha⟩, .cons (.scr hS (Reps.of_ints ns)) .nil, ?_⟩
    rw [hg]
    intro w' v H' nx f r
    cases r
    exact q H'
theorem noCX {P : Program} {w : World} : ∀ (H : Hp) (s : Shared) (e : Value) (s' : Shared), L2.CX P w [] H s (fun _ _ _ => False) e s' → False := fun H s e s' h => by
  obtain ⟨_, _, _, _, _, _, _, _, _, _, _, _, z⟩ := h
  exact z
end
end DL
set_option maxRecDepth 100000
set_option maxHeartbeats 4000000
set_option autoImplicit false
namespace DL
open PySem PySem.Spec PyProof.Rows L2
section
variable {G : Gam} {W : WX} {X : Cx}
theorem callD1 {k : Nat} {f : Addr} {fd : FuncData} {ps : List Str} {n : Nat} {g : DFn} {pins : List (Addr × Obj)} {sh : Shared} {κ : Bs} {w : Wd} {s : DS} {σ : L2.St} {H : Hp} {vs : List V} {ds : List D} {us : List Value} {Q : VK}
    (F : FnOk X.prog X.w X.K X.mg X.base (L2.CX X.prog X.w) k f fd ps (spG G n g)) (hr : Room (k + 1) X.A) (hb : Binds X.K fd ps []) (tk : Takes X W) (I : Inv X pins σ H sh) (ok : Ok G κ w s σ H) (rs : Reps G w vs ds) (r : Vals vs us) (hn : ds.length = n)
    (q : PostG G W (Rep G) κ w σ (lift s (g ds s.st)) Q) : wpAny (model X.prog X.w) X.A.in1 (call (.ref f) us) (EP X pins σ Q) X.xe sh := by
  have h : spG G n g vs H Q (WE W σ) := ⟨by rw [rs.length]; exact hn, w, s.st, ds, ok.fok, rs, postF_of ok q⟩
  have hl : us.length = ps.length := by rw [← r.length]; exact F.len _ _ _ _ h
  have hbb := hb sh us I.kIn (by rw [List.append_nil]; exact hl)
  rw [List.append_nil] at hbb
  refine wpAny_call (codeAny_mono (F.run X.A.in1 X.stack sh H ⟨us, []⟩ us vs Q (WE W σ) hr.in1 I.env0.in1 hbb r h) fun r s' hq => ?_)
  cases r with
  | error e => exact passAt tk σ pins H sh e s' I hq
  | ok fl =>
    cases fl with
    | ret u => exact I.after hq
    | next => exact False.elim hq
    | brk => exact False.elim hq
    | cont => exact False.elim hq
/-- a built-in special method of an instance of an own class -/
theorem ifBound_B {M : Model} {A : Around} {E : Value → Shared → Prop} {s : Shared} {K : PySem.W.Frag} {x C : Addr} {ox : Obj} {od : Option Obj} {name : Str} {id : String} {args : List Value} {Q : Option Value → Shared → Prop} (Xk : K.In s.heap) (I : PySem.W.InstAt s.heap x ox C od)
    (hs : PySem.W.findIn K (.ref C) name = some (some (.builtin id))) (hb : ∀ self, bindSpecial (.builtin id) self = pure (.builtin id, [self]))
    (h : wpAny M A (call (.builtin id) (.ref x :: args)) (fun v => Q (some v)) E s) : wpAny M A (callSpecialIfBound? (.ref x) name args) Q E s := by
  simp only [callSpecialIfBound?, bindSpecialIfBound?]
  refine wpAny_holding (wpAny_bind (wpAny_bind (wpAny_bind (I.type.here ((PySem.W.looks_findIn Xk hs).here ?_)))))
  refine wpAny_bind (wpAny_askSetting (wpAny_ite ?_))
  have fin : wpAny M A (call (.builtin id) ([.ref x] ++ args) >>= fun v => pure (some v)) Q E s := wpAny_bind (wpAny_mono h (fun v s' h' => wpAny_pure h') fun _ _ h' => h')
  simp only [hb]
  split
  · exact wpAny_bind (wpAny_pure (wpAny_pure (by exact fin)))
  · exact wpAny_tryCatch (wpAny_bind (wpAny_pure (wpAny_pure (by exact fin))))
theorem ne_call {prog : Program} {w : World} {A : Around} {E : Value → Shared → Prop} {s : Shared} {K : PySem.W.Frag} {a C b : Addr} {ox : Obj} {od : Option Obj} {Q : Value → Shared → Prop} (Xk : K.In s.heap) (I : PySem.W.InstAt s.heap a ox C od) (hm : PySem.W.mroIn K C (.type "object") = some true)
    (h : wpAny (model prog w) A.in1 (callSpecialIfBound? (.ref a) "__eq__" [.ref b]) (fun r s' => ∃ b, r = some (.bool b) ∧ Q (.bool (!b)) s') E s) (hu : A.in1.units < cLine) : wpAny (model prog w) A (call (.builtin "object.__ne__") [.ref a, .ref b]) Q E s := by
  have L0 := I.type (M := model prog w)
  have L1 := PySem.W.looks_mroIn (M := model prog w) Xk hm
  refine wpAny_call (codeAny_call_builtin PySem.F.cmp_object.ne.plain PySem.F.cmpEntry_ne ?_)
  obtain ⟨hh, g, dr, t, os⟩ := s
  have hk := PySem.F.cmpKind_ne
  have hs := PySem.F.cmpSplit_ne
  have ha := PySem.F.cmpArgs_ne (.ref a) (.ref b)
  have fin : wpAny (model prog w) A.in1 (Builtin.«object.__ne__» ⟨[.ref a, .ref b], []⟩) (fun fin s' => match fin with | .done f => (match (.ok f : Result) with | .ok (.ret v) => Q v s' | .ok _ => False | .error e => E e s') | .again c' => c'.quiet = true ∧ codeAny (model prog w) A c' (fun r s' => match r with | .ok (.ret v) => Q v s' | .ok _ => False | .error e => E e s') s') (fun e s' => E e s') ⟨hh, g, dr, t, os⟩ := by
    unfold Builtin.«object.__ne__»
    rw [show slotArgs "__ne__" 1 ⟨[.ref a, .ref b], []⟩ = pure (.ref a, [.ref b]) from rfl]
    refine wpAny_bind (wpAny_pure (wpAny_bind (wpAny_cRoomFor hu (wpAny_bind (wpAny_mono h (fun r s' hr => ?_) fun _ _ e => e)))))
    obtain ⟨b, rfl, q⟩ := hr
    exact wpAny_bind (wpAny_truthy_bool (wpAny_pure q))
  simp only [checkBuiltinCall, hk, hs]
  refine wpAny_bind ?_
  unfold isInstance
  repeat (first | exact fin | lk)
def negD (r : Res DS D) : Res DS D := match r with
  | .ok (.bl b) s => .ok (.bl (!b)) s
  | .exc x s => .exc x s
  | _ => .stuck
def ownNe (c : String) (g : DFn) : DO2 := fun x y s => negD (ownO c g x y s)
theorem negD_post {κ : Bs} {w : Wd} {σ : L2.St} {r : Res DS D} {Q : VK} (h : PostG G W (Rep G) κ w σ (negD r) Q) : PostG G W (Rep G) κ w σ r (fun v H => ∃ b, v = .bl b ∧ Q (.bl (!b)) H) := by
  cases r with
  | stuck => exact h
  | exc x s => exact h
  | ok d s =>
    cases d with
    | bl b =>
      intro w' v H' l o r
      cases r
      exact ⟨b, rfl, h w' _ H' l o (.bl _)⟩
    | _ => exact h.elim
theorem opx_ownNe {c : String} {C f : Addr} {k : Nat} {fd : FuncData} {ps : List Str} {g : DFn} (hC : G.ct c = some C) (hs : PySem.W.findIn X.K (.ref C) "__eq__" = some (some (.ref f))) (hf : PySem.W.isFn X.K (.ref f) = true)
    (hne : PySem.W.findIn X.K (.ref C) "__ne__" = some (some (.builtin "object.__ne__"))) (hob : PySem.W.mroIn X.K C (.type "object") = some true)
    (F : FnOk X.prog X.w X.K X.mg X.base (L2.CX X.prog X.w) k f fd ps (spG G 2 g)) (hr : Room (k + 1) X.A) (hb : Binds X.K fd ps []) (tk : Takes X W) : OpX G W X (compareOp .NotEq) (ownNe c g) := by
  intro pins sh σ H x y v u κ w s dx dy Q I rx ry ok rdx rdy q
  obtain ⟨a, b, C', dxa, dxb, fa, fb, rfl, rfl, hC', hH, hH', q⟩ := ownO_of ok rdx rdy (negD_post q)
  rw [hC] at hC'
  cases hC'
  cases rx
  cases ry
  obtain ⟨mA, J, _⟩ := ins_get I.hok hH
  obtain ⟨mB, J', _⟩ := ins_get I.hok hH'
  obtain ⟨od, J, _⟩ := J.look
  obtain ⟨od', J', _⟩ := J'.look
  have KX := I.kIn
  show wpAny (model X.prog X.w) X.A (richCompare .NotEq (.ref a) (.ref b)) _ _ _
  -- object.__ne__: __eq__, turned
  have one : wpAny (model X.prog X.w) X.A (tryCompare (.ref a) "__ne__" (.ref b)) (fun r s' => ∃ v, r = some v ∧ EP X pins σ Q v s') X.xe sh := by
    unfold tryCompare
    refine wpAny_bind (ifBound_B KX J hne PySem.F.cmp_object.ne.bind ?_)
    refine wpAny_mono (ne_call (Q := fun v s' => ∃ b, v = .bool b ∧ EP X pins σ Q v s') KX J hob ?_ hr.in1.units0) (fun v s' h => ?_) fun _ _ e => e
    case refine_1 =>
      have hc := callD1 (us := [.ref a, .ref b]) (vs := [.ref a, .ref b]) (ds := [dx, dy]) F hr hb tk I ok (.cons rdx (.cons rdy .nil)) (.cons rfl (.cons rfl .nil)) rfl q
      refine PySem.W.ifBound_K KX J hs hf (wpAny_mono hc (fun v s' h => ?_) fun _ _ e => e)
      obtain ⟨x, H', I', r, b, rfl, q'⟩ := h
      cases r
      exact ⟨b, rfl, !b, rfl, .bl (!b), H', I', rfl, q'⟩
    case refine_2 =>
      obtain ⟨b, rfl, h⟩ := h
      exact wpAny_pure ⟨_, rfl, h⟩
  unfold richCompare
  simp only [oneThing_ref]
  refine wpAny_holding (wpAny_bind (wpAny_cRoomFor hr.units0 ?_))
  refine wpAny_bind (J.type.here (wpAny_bind (J'.type.here ?_)))
  rw [if_neg (by simp)]
  refine wpAny_bind (wpAny_pure ?_)
  simp only [Bool.false_eq_true, if_false]
  refine wpAny_bind (wpAny_mono one (fun r s' z => ?_) fun _ _ e => e)
  obtain ⟨v, rfl, hq⟩ := z
  exact wpAny_pure hq
end
end DL
set_option maxRecDepth 100000
set_option maxHeartbeats 4000000
set_option autoImplicit false
namespace DL
open PySem PySem.Spec PyProof.Rows L2
/-- all that is asked of a class, in one -/
def clsB (K : PySem.W.Frag) (C : Addr) (fs : List Str) : Bool :=
  PySem.W.plainGet K C Str.empty && (PySem.W.hasDictIn K C && (PySem.W.plainOver K C && (PySem.W.makesIn K C && (PySem.W.keepIn K (.ref C) && (PySem.W.selfFirst K C &&
    ((PySem.W.findIn K (.ref C) "__setattr__" == some (some (.builtin "object.__setattr__"))) && ((PySem.W.findIn K (.ref C) "__ne__" == some (some (.builtin "object.__ne__"))) && ((PySem.W.mroIn K C (.type "object") == some true) &&
    ((PySem.W.findIn K (.ref C) "__class__" == some (some (.builtin "object.__class__"))) && ((PySem.W.specialIn K (.builtin "object.__class__") "__get__" == some (some (.builtin "getset_descriptor.__get__"))) && ((PySem.W.takesIn K (.builtin "object.__class__") == some true) &&
    (fs.all (fun f => PySem.W.findIn K (.ref C) f == some none) && tyNames.all fun b => (PySem.W.kitOne K (.ref C) (.type b) == some false) && (PySem.W.kitOne K (.type b) (.ref C) == some false)))))))))))))
structure ClsF (K : PySem.W.Frag) (C : Addr) (fs : List Str) : Prop where
  cl : Cls K C
  makes : PySem.W.makesIn K C = true
  kp : PySem.W.keepIn K (.ref C) = true
  sf : PySem.W.selfFirst K C = true
  ne : PySem.W.findIn K (.ref C) "__ne__" = some (some (.builtin "object.__ne__"))
  mo : PySem.W.mroIn K C (.type "object") = some true
  i1 : PySem.W.findIn K (.ref C) "__class__" = some (some (.builtin "object.__class__"))
  i2 : PySem.W.specialIn K (.builtin "object.__class__") "__get__" = some (some (.builtin "getset_descriptor.__get__"))
  i3 : PySem.W.takesIn K (.builtin "object.__class__") = some true
  na : ∀ f ∈ fs, NoAttr K C f
  bo : ∀ b ∈ tyNames, PySem.W.kitOne K (.ref C) (.type b) = some false ∧ PySem.W.kitOne K (.type b) (.ref C) = some false
theorem clsF {K : PySem.W.Frag} {C : Addr} {fs : List Str} (h : clsB K C fs = true) : ClsF K C fs := by
  unfold clsB at h
  simp only [Bool.and_eq_true, beq_iff_eq, List.all_eq_true] at h
  obtain ⟨h1, h2, h3, h4, h5, h6, h7, h8, h9, h10, h11, h12, h13, h14⟩ := h
  exact ⟨⟨h1, h2, h3, h7⟩, h4, h5, h6, h8, h9, h10, h11, h12, fun f hf => h13 f hf, fun b hb => h14 b hb⟩
/-- the own classes apart from one another -/
theorem isOk_of {G : Gam} {cs : List String} (h1 : ∀ c ∈ cs, ∃ C fs, G.ct c = some C ∧ ClsF G.K C fs) (h2 : ∀ c ∈ cs, ∀ c' ∈ cs, ∀ C C', G.ct c = some C → G.ct c' = some C' → PySem.W.kitOne G.K (.ref C) (.ref C') = some (c == c')) : IsOk G cs := by
  refine ⟨fun c hc C hC => ?_, fun c hc C hC => ?_, h2⟩
  · obtain ⟨C', fs, e, f⟩ := h1 c hc
    rw [hC] at e
    cases e
    exact ⟨f.cl, f.i1, f.i2, f.i3, f.mo⟩
  · obtain ⟨C', fs, e, f⟩ := h1 c hc
    rw [hC] at e
    cases e
    exact f.bo
theorem kit_self {K : PySem.W.Frag} {C : Addr} : PySem.W.kitOne K (.ref C) (.ref C) = some true := by
  unfold PySem.W.kitOne
  rw [if_pos (by simp)]
end DL
set_option maxRecDepth 100000
set_option maxHeartbeats 4000000
set_option autoImplicit false
namespace DL
open PySem PySem.Spec PyProof.Rows L2
/-! ### an own error whose __init__ says super().__init__(x); self.f = x -/
section
variable {P : Program} {W0 : World} {Ar : Around} {Er : Value → Shared → Prop} {hp : Heap} {gs : Array GenState} {dr : Drawn} {tk : Nat} {osS : OsState}
theorem call_mwV {cn cq : Str} {C NN u e t0 : Addr} {b1 b2 sbs : List Value} {hdc abs : Bool} {sns : List Str} {cl : Option Bool} {dd : Option Addr} {j0 j1 j2 j3 j5 : Option Value} {rest : List Value} {Q : Value → Shared → Prop}
    (hC : hp.get? C = some (excClassObj cn cq C NN b1 b2 hdc sns sbs abs cl dd j0 j1 j2 j3 j5 "ValueError.__new__")) (he : hp.get? e = some (HandSPX.excO C t0)) (hu : hp.get? u = some (PySem.W.kxs_mw "ValueError.__init__" e)) (hrest : rest.length ≤ sizeLine)
    (hq : ∀ h' t1, (∀ b o, b ≠ e → hp.get? b = some o → h'.get? b = some o) → h'.get? e = some (HandSPX.excO C t1) → Q .none ⟨h', gs, dr, tk, osS⟩) :
    wpAny (model P W0) Ar (call (.ref u) rest) Q Er ⟨hp, gs, dr, tk, osS⟩ := by
  refine wpAny_call (codeAny_of_tree ?_)
  show wpAny _ Ar.in1 (callAny (.ref u) ⟨rest, []⟩) _ _ _
  simp only [callAny]
  refine wpAny_bind (wpAny_load hu ?_)
  simp only [PySem.W.kxs_mw, show (Value.type "method-wrapper" == Value.type "method" || Value.type "method-wrapper" == Value.type "builtin_function_or_method" || Value.type "method-wrapper" == Value.type "method-wrapper") = true by decide, if_true]
  refine PySem.W.KFB.if_so (by decide) ?_
  refine wpAny_bind (PySem.W.check_bound_init F.excBase_ValueError.toExcCallFacts hC he rfl ?_)
  refine wpAny_bind (wpAny_pure (wpAny_pure ?_))
  refine ⟨Code.quiet_builtin _ (by decide +kernel), codeAny_builtin F.excBase_ValueError.initEntry ?_⟩
  rw [Around.under_plainId F.excBase_ValueError.init.plain _]
  wp_walk
  refine hq _ hp.objs.size (fun b o hb ho => ?_) ?_
  · rw [Heap.get?_update_other _ _ (Ne.symm hb)]
    exact Heap.get?_push_of_some _ ho
  · rw [Heap.get?_update_self _ (Heap.get?_push_of_some _ he) rfl]
    rfl
end
theorem eval_si (x : Str) (env : Env) (p0 p1 p2 p3 p4 : Pos) (hp : (p2.endLine == p4.line) = true) : eval (.Call (.Attribute (.Call (.Name "super" p0) [] [] p1) "__init__" p2) [.Name x p3] [] p4) env = (do
      let ov ← attributeBase (.Call (.Name "super" p0) [] [] p1) "__init__" env (eval (.Call (.Name "super" p0) [] [] p1) env)
      standAt p2.atName
      let (f, first) ← holding [ov] (getMethod ov "__init__" (do return (← importBound (.Call (.Name "super" p0) [] [] p1) env).getD true))
      callWith p4 f first (backTo p4 (starEach [.Name x p3] env)) []) := by
  have h : ∀ fm, methodCallPos fm (.Call (.Name "super" p0) [] [] p1) env p2 p4 = pure p4 := fun fm => by
    unfold methodCallPos
    rw [hp]
    simp
  show (do
      let ov ← attributeBase (.Call (.Name "super" p0) [] [] p1) "__init__" env (eval (.Call (.Name "super" p0) [] [] p1) env)
      standAt p2.atName
      let (f, first) ← holding [ov] (calleeOf true (.Call (.Name "super" p0) [] [] p1) env ov "__init__")
      let callPos ← methodCallPos true (.Call (.Name "super" p0) [] [] p1) env p2 p4
      callWith callPos f first (backTo p4 (starEach [.Name x p3] env)) []) = _
  rw [h]
  rfl
def spX (C : Addr) (f : Str) : Sp := fun vs H Q _ => ∃ (a : Addr) (y : V), vs = [.ref a, y] ∧ H a = some (exo a C none) ∧ ∀ dx, H dx = none → dx ≠ a → Q .non (upd (upd H dx (exd dx [(f, y)])) a (exo a C (some dx)))
/-- what the text and the linked part say of such a def -/
structure XIn (P : Program) (K : PySem.W.Frag) (mg : Str → Option Value) (C fI : Addr) (fd : FuncData) (slf x f : Str) : Prop where
  ex : ∃ (oc doc pm dV kV ct ccl cl : Value) (od an cdd cld : Option Addr) (osl ccs csl : Array (Option Value)) (cda cc : Addr) (name qual file : Str) (params : Arguments) (scope : Scope) (vs : Array Value) (tf : Tok) (ar : Arg) (p0 p1 p2 p3 p4 p5 p6 p7 p8 p9 : Pos),
    fd = PySem.W.fnX name qual params [.Expr (.Call (.Attribute (.Call (.Name "super" p0) [] [] p1) "__init__" p2) [.Name x p3] [] p4) p5, .Assign [.Attribute (.Name slf p6) f p7] (.Name x p8) p9] scope [("__class__", cc)] dV kV doc pm an (.ref cda) ct ∧
    K.lookup fI = some ⟨oc, od, .func fd, osl⟩ ∧ PySem.W.codeIn K (.ref cda) qual = true ∧ (params.posonlyargs ++ params.args).head? = some ar ∧ ar.arg = slf ∧
    K.lookup cda = some ⟨ccl, cdd, .fields vs, ccs⟩ ∧ vs[2]? = some (.str file tf) ∧ ((P.main.file : Str) == file) = true ∧ K.lookup cc = some ⟨cl, cld, .cell (some (.ref C)), csl⟩ ∧
    scope.names.lookup ("super" : Str) = some .globalImplicit ∧ scope.names.lookup ("__class__" : Str) = some .free ∧ scope.names.lookup slf = some .local ∧ scope.names.lookup x = some .local ∧ (∀ z ∈ scope.names, z.2 ≠ .cell) ∧ scope.kind = .function ∧ scope.isCoroutine = false ∧ scope.isGenerator = false ∧ (p2.endLine == p4.line) = true
  top : (P.main.scope.names.lookup ("super" : Str)).isSome = false
  sup : mg "super" = none
  self : PySem.W.mroIn K C (.ref C) = some true
  al : PySem.W.ks_superIn K C C "__init__" = some (some (.builtin "ValueError.__init__"))
  ve : PySem.W.subIn K (.ref C) (.type "ValueError") = some true
  any : PySem.W.nsIn K cStatics "thirdparty.any" = some none
  cls : OexC K C
  no : PySem.W.findIn K (.ref C) f = some none
  ds : (slf == ("__debug__" : Str)) = false
  dx : (x == ("__debug__" : Str)) = false
  sx : slf ≠ x
theorem x_ok {P : Program} {w0 : World} {K : PySem.W.Frag} {mg : Str → Option Value} {base : Heap} {CX : CXT} {C fI : Addr} {fd : FuncData} {slf x f : Str} (T : XIn P K mg C fI fd slf x f) : FnOk P w0 K mg base CX 1 fI fd [slf, x] (spX C f) := by
  obtain ⟨⟨oc, doc, pm, dV, kV, ct, ccl, cl, od, an, cdd, cld, osl, ccs, csl, cda, cc, name, qual, file, params, scope, vs, tf, ar, p0, p1, p2, p3, p4, p5, p6, p7, p8, p9, efd, lk, hcd, har, hars, lcd, hvs, hfile, lcc, ksup, kcls, kslf, kx, kcell, kk, kco, kgen, kpos⟩, htop, hsup, hself, hal, hve, hany, hcls, hno, hds, hdx, hsx⟩ := T
  subst efd
  refine ⟨fun vs H Q E ⟨a, y, e, _⟩ => by rw [e]; rfl, fun A outer s H args us vs' Q E hr e0 hb hv hsp => ?_⟩
  obtain ⟨a, y, rfl, ea, hq⟩ := hsp
  cases hv with
  | @cons _ u0 _ ur ra rest =>
  cases rest with
  | @cons _ u _ ur2 ry rest =>
  cases rest
  obtain rfl : u0 = Value.ref a := ra
  have KX : K.In s.heap := e0.mod.kin.keeps fun b o e => (e0.bs b o e).1
  have lim : s.heap.NoLimit := e0.mod.nolimit.keeps fun b o e => (e0.bs b o e).1
  obtain ⟨t0, hea⟩ := exo_at e0.hok ea
  obtain ⟨cn, cq, NS, b1, b2, sns, sbs, abs, col, dd, j0, j1, j2, j3, j5, hC, hbm⟩ := hcls.cls
  have hcl : PySem.W.clsIn K C = some { name := cn, bases := b1, mro := .ref C :: b2, ns := NS, qualname := cq, hasDict := true, slotNames := sns, subclasses := sbs, abstract := abs, collection := col, hasDel := false } := by unfold PySem.W.clsIn; rw [hC] <;> rfl
  refine ks_codeAny_call_defAt (binds := [(slf, .ref a), (x, u)]) hr.depth (KX _ _ lk) rfl lim (PySem.W.codeRec_of KX hcd) rfl hb kcell (fun z hz => ?_) (fun h0 hns hk0 => ?_) kco kgen kk
  · rcases List.mem_cons.mp hz with rfl | hz
    · exact kslf
    · rcases List.mem_cons.mp hz with rfl | hz
      · exact kx
      · cases hz
  have X0 : K.In h0 := KX.keeps hk0
  have ns_s : (fun y => ([(slf, Value.ref a), (x, u)] : List (Str × Value)).reverse.lookup y) slf = some (.ref a) := by
    have : (slf == x) = false := by simpa using hsx
    simp [List.lookup, this]
  have ns_x : (fun y => ([(slf, Value.ref a), (x, u)] : List (Str × Value)).reverse.lookup y) x = some u := by simp [List.lookup]
  have hea0 := hk0 _ _ hea
  have oC : s.heap.get? C = some _ := KX _ _ hC
  have ne_aC : a ≠ C := fun z => by
    rw [z, oC] at hea
    cases hea
  refine ks_wpAt_execs_cons (ks_wpAt_Expr_any (ks_wpAt_MethodCall ?_ (eval_si x _ p0 p1 p2 p3 p4 kpos)) (hi := by show (scope.kind == .module && _) = false; rw [kk]; rfl))
  refine ks_wpAt_super_base ksup kcls (by decide) rfl (X0 _ _ lk) rfl har rfl (X0 _ _ lcd) rfl hvs hfile htop ?_
  obtain ⟨mb, hb1, hb2⟩ := e0.mod.blt
  have bk : ∀ b o, base.get? b = some o → h0.get? b = some o := fun b o e => hk0 _ _ (e0.bs b o e).1
  refine PySem.W.ks_loadName_global kk ksup (Calls.loadGlobal_builtin (e0.mod.glob.keeps bk) hsup (hb1.keeps bk) ((hb2 _ (by decide)).trans PyProof.Rows.Boot.«super») ⟨rfl, ?_⟩)
  refine wpAny_loadName_free kk kcls (c := cc) rfl ⟨_, X0 _ _ lcc, rfl⟩ ?_
  rw [hars]
  refine wpAny_loadName_local kk kslf hns ns_s ?_
  refine ks_wpAny_isType_cls (X0 _ _ hC) rfl ⟨rfl, ?_⟩
  refine ks_wpAny_call_super (X0 _ _ hC) rfl hea0 rfl (fun c z => nomatch z) (PySem.W.looks_mroIn X0 hself) (fun h1 hso hk1 => ?_)
  have X1 : K.In h1 := X0.keeps hk1
  have hea1 := hk1 _ _ hea0
  have inst1 : PySem.W.InstAt h1 a _ C none := ⟨hea1, rfl, rfl, trivial⟩
  have hI : PySem.W.Looks (model P w0) h1 (isInstance (.ref a) (.type "ValueError")) true := inst1.type.andThen (PySem.W.looks_subIn X1 hve)
  have hmro : PySem.W.Looks (model P w0) h1 (mroOf (.ref C)) (.ref C :: b2) := (PySem.W.looks_clsIn X1 hcl).andThen .now
  have hal' : PySem.W.alongIn K "__init__" (((Value.ref C :: b2).dropWhile (· != .ref C)).drop 1) = some (some (.builtin "ValueError.__init__")) := by
    unfold PySem.W.ks_superIn at hal
    rw [hcl] at hal
    exact hal
  refine PySem.W.kxs_getMethod PySem.W.kxs_ValueError hso (PySem.W.looks_opaque X1 hany) hmro rfl X1 hal' hI ne_aC (by decide) ?_
  have hmw : (h1.push (PySem.W.kxs_mw "ValueError.__init__" a)).get? h1.objs.size = some (PySem.W.kxs_mw "ValueError.__init__" a) := Heap.get?_push_at rfl rfl
  have kp2 : ∀ b o, h1.get? b = some o → (h1.push (PySem.W.kxs_mw "ValueError.__init__" a)).get? b = some o := fun b o e => Heap.get?_push_of_some _ e
  have ns2 : (h1.push (PySem.W.kxs_mw "ValueError.__init__" a)).Ns s.heap.objs.size (fun y => ([(slf, Value.ref a), (x, u)] : List (Str × Value)).reverse.lookup y) := (hns.keeps hk1).keeps kp2
  refine PySem.W.kxs_callWith (i := "ValueError.__init__") (x := a) rfl ?_
  refine Calls.evalArgs_plain (Calls.spliced_cons (wpAny_Name (wpAny_loadName_local kk kx ns2 ns_x (Calls.spliced_nil ⟨hmw, ?_⟩)) hdx))
  refine call_mwV (X1.keeps kp2 _ _ hC) (kp2 _ _ hea1) hmw (by rw [sizeLine_eq]; show 1 ≤ _; decide) fun h3 t1 hk3 hea3 => ?_
  have lt0 : ∀ {b : Addr} {o : Obj}, s.heap.get? b = some o → b ≠ s.heap.objs.size := fun e => Nat.ne_of_lt (Heap.lt_size e)
  have kall : ∀ b o, b ≠ a → s.heap.get? b = some o → h3.get? b = some o := fun b o hb e => hk3 b o hb (kp2 _ _ (hk1 _ _ (hk0 _ _ e)))
  have ne_aL : s.heap.objs.size ≠ a := fun z => lt0 hea z.symm
  have X3 : K.In h3 := fun b o e => hk3 b o (fun z => by
    have := (e0.bs b o (e0.mod.kin b o e)).2
    rw [z, ea] at this
    cases this) (kp2 _ _ (X1 b o e))
  have ns3 : h3.Ns s.heap.objs.size (fun y => ([(slf, Value.ref a), (x, u)] : List (Str × Value)).reverse.lookup y) := by
    obtain ⟨ob, es, ep, ho, r⟩ := ns2
    exact ⟨ob, es, ep, hk3 _ _ ne_aL ho, r⟩
  show PySem.wpAt _ _ _ (execs [_] _) _ _ _
  refine ks_wpAt_execs_cons (PySem.wpAt_of_wpAny (plainObj_wpAny_Assign_Attribute (wpAny_Name (wpAny_loadName_local kk kx ns3 ns_x (wpAny_Name (wpAny_loadName_local kk kslf ns3 ns_s ?_) hds)) hdx)))
  refine PySem.W.set_plain (ox := { cls := .ref C, dict := none, data := .fields #[.ref t1, .none, .none, .none, .bool false, .none] }) (od := none) X3 ⟨hea3, rfl, rfl, trivial⟩ hcls.sa ?_
  refine PySem.HandSPX.exc_osa X3 hea3 hcl (show PySem.HandSPX.refsVE (.ref C :: b2) = true from hbm) rfl hno (fun h4 tk4 dxa hk4 dn dne hx4 hn4 => ?_)
  refine PySem.wpAt_of_wpAny (wpAny_execs_nil ?_)
  have szL : s.heap.objs.size < h3.objs.size := by
    obtain ⟨ob, _, _, ho, _⟩ := ns3
    exact Heap.lt_size ho
  have hnd : H dxa = none := e0.hok.fresh (Nat.le_trans (Nat.le_of_lt szL) dn)
  have kfin : ∀ b o, b ≠ a → s.heap.get? b = some o → h4.get? b = some o := fun b o hb e => hk4 b o hb (kall b o hb e)
  have ndx : ∀ {b : Addr} {o : Obj}, s.heap.get? b = some o → b ≠ dxa := fun {b o} e => Nat.ne_of_lt (Nat.lt_of_lt_of_le (Nat.lt_trans (Heap.lt_size e) szL) dn)
  have na : ∀ {b : Addr}, H b = none → b ≠ a := fun {b} n z => by
    rw [z, ea] at n
    cases n
  refine ⟨.non, upd (upd H dxa (exd dxa [(f, y)])) a (exo a C (some dxa)), rfl, e0.bare, ?_, ?_, rfl, hq dxa hnd dne⟩
  · exact {
      keep := fun b o e n _ _ => kfin b o (na n) e
      slot := fun b o e n _ _ => ⟨o.slots, kfin b o (na n) e⟩
      free := fun b o e n _ => by rw [upd_ne (na n), upd_ne (ndx e)]; exact n
      there := fun b o e _ => by
        by_cases hb : b = a
        · exact ⟨_, by rw [hb]; exact hx4⟩
        · exact ⟨o, kfin b o hb e⟩
      tups := fun b xs e => by rw [upd_ne (at_ne ea e exo_tup), upd_ne (ne_of_none e hnd)]; exact e
      frzs := fun b o v e => by rw [upd_ne (at_ne ea e exo_frz), upd_ne (ne_of_none e hnd)]; exact e
      tbls := fun b ps e => ⟨#[], by rw [upd_ne (at_ne ea e exo_tbl), upd_ne (ne_of_none e hnd), e]; simp⟩ }
  · intro b o e
    by_cases hb : b = a
    · subst hb
      rw [upd_same] at e
      cases e
      exact exo_ok hx4
    · rw [upd_ne hb] at e
      by_cases hd : b = dxa
      · subst hd
        rw [upd_same] at e
        cases e
        exact exd_ok hn4 (relO_put (fs := []) ry fun g => True.intro)
      · rw [upd_ne hd] at e
        refine (e0.hok b o e).stay (fun c v hc z => kfin c v ?_ z) (fun c hc => ?_) (fun c xs hc => ?_)
        · rcases hc with hc | hc
          · rw [hc]; exact hb
          · exact at_ne ea hc exo_own
        · rw [upd_ne (at_ne ea hc exo_own), upd_ne (ne_of_none hc hnd)]; exact hc
        · rw [upd_ne (at_ne ea hc exo_tup), upd_ne (ne_of_none hc hnd)]; exact hc
/-! ### raise C(e) -/
def sRaise (c : String) (f : Nm) (fa : DA) : DStm := fun s => (fa s).bind fun ds s1 => match ds with
  | [d] => .exc ⟨c, [(f, d)]⟩ s1
  | _ => .stuck
/-- an own error class: made by its own __init__ -/
structure XCls (G : Gam) (K : PySem.W.Frag) (c : String) (C fI : Addr) : Prop where
  ct : G.ct c = some C
  ini : PySem.W.findIn K (.ref C) "__init__" = some (some (.ref fI))
  ty : PySem.W.typeIn K (.ref fI) = some (.type "function")
  cls : OexC K C
section
variable {G : Gam} {W : WX} {X : Cx}
theorem pds_raise {c : String} {C fI : Addr} {fd : FuncData} {slf xp f x : Str} {fn : Nm} {e : Expr} {fa : DA} {p pos pos' : Pos} (hc : X.calm = true) (tk : Takes X W) (T : XCls G X.K c C fI) (T2 : XIn X.prog X.K X.mg C fI fd slf xp f) (hf : f = nm fn) (hb : Binds X.K fd [slf, xp] [])
    (hr : Room 2 X.A) (hg : Gl X x) (hm : X.mg x = some (.ref C)) (ha : PDA G W X [e] fa) (hdb : (x == ("__debug__" : Str)) = false := by decide) (he : starEach [e] X.env = (false, eval e X.env) :: starEach [] X.env := by rfl) :
    PDS G W X (.Raise (some (.Call (.Name x p) [e] [] pos)) none pos') (sRaise c fn fa) :=
  (ps_raise hc tk (pmk_oex (CX := L2.CX X.prog X.w) T.cls T.ini T.ty (x_ok T2) hr hb .nil (passes_call tk fun _ _ _ _ z => z.elim) hg hm ha hdb he)).imp fun N σ H ⟨κ, w, s, ok, q⟩ => ⟨κ, w, s, ok, (PostG.bindS q).imp fun vs H1 ⟨ds, s1, w1, le, ok1, rs, q1⟩ => by
    match ds, q1 with
    | [d], q1 =>
      cases rs with
      | @cons v _ vs' _ r rs =>
      cases rs
      refine ⟨by show 1 ≤ 1000; decide, fun a ha => ⟨a, v, rfl, upd_same, fun dx h1 h2 => ⟨rfl, dx, [(f, v)], ?_, ?_, ?_, ?_⟩⟩⟩
      · exact upd_same
      · rw [upd_ne h2, upd_same]
      · rw [upd_ne h2] at h1; exact h1
      · rw [upd_ne h2] at h1
        have eH : upd (del (upd (upd (upd H1 a (exo a C none)) dx (exd dx [(f, v)])) a (exo a C (some dx))) a) dx (.xd [(f, v)]) = upd H1 dx (.xd [(f, v)]) := by
          funext b
          by_cases hb : b = dx
          · rw [hb, upd_same, upd_same]
          · rw [upd_ne hb, upd_ne hb]
            by_cases hba : b = a
            · rw [hba, del_same, ha]
            · rw [del_ne hba, upd_ne hba, upd_ne hb, upd_ne hba]
        rw [eH]
        obtain ⟨le2, ok2⟩ := ok1.alloc h1 (.xd [(f, v)])
        exact q1 _ σ (.ref C) (some dx) _ le2 ok2 ⟨C, T.ct, rfl, .inr ⟨dx, [(f, v)], rfl, upd_same, by subst hf; exact .cons (r.mono le2) .nil⟩⟩
    | [], q1 => exact q1.elim
    | _ :: _ :: _, q1 => exact q1.elim⟩
end
end DL
set_option maxRecDepth 100000
set_option maxHeartbeats 4000000
set_option autoImplicit false
namespace DL
open PySem PySem.Spec PyProof.Rows L2
/-! ### try with several clauses, each with a name or without -/
abbrev HTs := Addr → Value → Option Addr → TS
def unset (D : Ends) (i : Nat) : Ends := { nx := fun τ Z => D.nx (τ.set i none) Z, rt := D.rt, bk := fun τ Z => D.bk (τ.set i none) Z, ct := fun τ Z => D.ct (τ.set i none) Z }
def wHd (K : PySem.W.Frag) (Wo : WX) (D : Ends) : List (Value × Option Nat × HTs) → WX
  | [] => Wo
  | (c, none, ts) :: r => fun cl dd τ Z => ∃ b, PySem.W.exmOne K cl c = some b ∧ (b = true → ∀ a, Z a = none → ts a cl dd D τ Z) ∧ (b = false → wHd K Wo D r cl dd τ Z)
  | (c, some i, ts) :: r => fun cl dd τ Z => ∃ b, PySem.W.exmOne K cl c = some b ∧ (b = true → ∀ a, Z a = none → ts a cl dd (unset D i) (τ.set i (some (.ref a))) Z) ∧ (b = false → wHd K Wo D r cl dd τ Z)
/-- the suite of a clause -/
def SuOk (X : Cx) (st : List Stmt) (ts : HTs) : Prop := ∀ (a : Addr) (ob : Obj) (cl : Value) (dd : Option Addr) (pn : List (Addr × Obj)), Zc cl dd ob → (∃ vs, ob.data = .fields vs) → PSs (X.suite a ((a, ob) :: pn)) st (ts a cl dd)
inductive HdA (X : Cx) : List ExceptHandler → List (Value × Option Nat × HTs) → Prop
  | nil : HdA X [] []
  | bare {x : Str} {c : Value} {ts : HTs} {s0 : Stmt} {su : List Stmt} {np pp : Pos} {hs : List ExceptHandler} {l : List (Value × Option Nat × HTs)} (nc : Names X x c) (ok : SuOk X (s0 :: su) ts) (r : HdA X hs l) :
      HdA X (.ExceptHandler (some (.Name x np)) none (s0 :: su) pp :: hs) ((c, none, ts) :: l)
  | as_ {x n : Str} {i : Nat} {c : Value} {ts : HTs} {s0 : Stmt} {su : List Stmt} {np pp : Pos} {hs : List ExceptHandler} {l : List (Value × Option Nat × HTs)} (nc : Names X x c) (hi : X.N[i]? = some n) (hl : X.env.kindOf n = some .local) (ok : SuOk X (s0 :: su) ts) (r : HdA X hs l) :
      HdA X (.ExceptHandler (some (.Name x np)) (some n) (s0 :: su) pp :: hs) ((c, some i, ts) :: l)
section
variable {X : Cx} {bd : List Stmt} {g0 : ExceptHandler} {gs : List ExceptHandler} {l : List (Value × Option Nat × HTs)} {tpos : Pos} {tb : WX → TS} {Wo : WX}
theorem ps_tryA (est : X.stack = X.env :: X.outer) (efr : X.env.frame = some X.env.locals) (nd : X.N.Nodup) (tk : Takes X Wo)
    (hbd : ∀ (Wi : WX) (pn : List (Addr × Obj)) (xe : Value → Shared → Prop), Takes (X.tr pn xe) Wi → PassesOwn (model X.prog X.w) X.A X.env xe → PSs (X.tr pn xe) bd (tb Wi)) (hh : HdA X (g0 :: gs) l) :
    PS X (.Try bd (g0 :: gs) [] [] tpos) (fun D τ Z => tb (wHd X.K Wo D l) D τ Z) := by
  refine ⟨fun pins sh τ Z D I h => ?_⟩
  have okX := I.ok
  have frX : X.A.frames = some (X.env :: X.outer) := by rw [okX.frames, est]
  let xeT : Value → Shared → Prop := fun e z1 => wpAny (model X.prog X.w) X.A (noteFrame e X.env) (fun _ z2 => wpAny (model X.prog X.w) X.A (setFlight e none) (fun _ z3 => wpAny (model X.prog X.w) X.A (handleBy e X.env (g0 :: gs)) (SP X pins D) X.xe z3) X.xe z2) X.xe z1
  refine wpAny_Try_except (wpAny_mono ((hbd (wHd X.K Wo D l) (X.pn ++ pins) xeT (fun u sh' xx => ?_) PassesOwn.looking).run [] sh τ Z D (I.toTry _) h) (fun fl sh1 hsp => ?_) (fun e sh1 he => he))
  · obtain ⟨a, Bh, sI, pins', τ', Z', cl, dd, rfl, J', nb, up, sky, na, eos, ag, wish⟩ := xx
    have J : Inv X pins τ' Z' sI := J'.ofTry okX
    have sky2 : Sky Bh (X.env :: X.outer) a (Zc cl dd) X.env.locals sh'.heap := est ▸ sky
    show wpAny (model X.prog X.w) X.A (noteFrame (.ref a) X.env) _ _ _
    refine Sky.land Zc.steady frX efr sky2 fun h3 fl3 up3 => ?_
    have J3 : Inv X pins τ' Z' { sh' with heap := h3 } := J.landed nb fl3.1 (up.trans up3) eos ag
    obtain ⟨ob3, vs3, he3, hz3, hd3⟩ := fl3.there
    have nfr : a ∉ frs (X.env :: X.outer) := fun hm => by
      obtain ⟨_, o', e', hnf⟩ := fl3.2.2.1.mem hm
      rw [he3] at e'
      cases e'
      exact hnf _ hd3
    have nL : a ≠ X.env.locals := fun z => nfr (List.mem_filterMap.mpr ⟨X.env, List.mem_cons_self, efr.trans (congrArg some z.symm)⟩)
    have nF : a ∉ X.fs := fun hm => by
      obtain ⟨ev, hev, eq⟩ := List.mem_filterMap.mp hm
      exact nfr (List.mem_filterMap.mpr ⟨ev, List.mem_cons_of_mem _ hev, eq⟩)
    have S3 := J3.suite he3 hd3 na nL nF
    have LT : PySem.W.Looks (model X.prog X.w) h3 (typeOf (.ref a)) cl := fun A Q E z k q => wpAny_typeOf_ref (k _ _ he3) (hz3.1.symm ▸ q)
    have test : ∀ {x : Str} {c : Value} {np : Pos} {Q : Value → Shared → Prop} {E : Value → Shared → Prop}, Names X x c → Q c { sh' with heap := h3 } → wpAny (model X.prog X.w) (X.A.mark (some (.ref a))) (eval (.Name x np) X.env) Q E { sh' with heap := h3 } := fun {x c np Q E} nc q => by
      obtain ⟨hg, hdb, hm | ⟨hm, hv, hnn⟩⟩ := nc
      · exact ld_glob (X := X.suite a ((a, ob3) :: (X.pn ++ pins))) S3 hg hm q hdb
      · exact ld_blt (X := X.suite a ((a, ob3) :: (X.pn ++ pins))) S3 hg hm hv q hnn hdb
    have go : ∀ {gs' : List ExceptHandler} {l' : List (Value × Option Nat × HTs)}, HdA X gs' l' → wHd X.K Wo D l' cl dd τ' Z' → wpAny (model X.prog X.w) X.A (handleBy (.ref a) X.env gs') (SP X pins D) X.xe { sh' with heap := h3 } := by
      intro gs' l' hk
      induction hk with
      | nil =>
        intro wish
        refine wpAny_handleBy_nil ?_
        obtain ⟨_, _, _, oe, vs, Tb, _, _, he, _, hd, h1, _⟩ := id fl3
        unfold PySem.passOn
        refine wpAny_bind (wpAny_field he hd h1 ?_)
        rw [if_neg (show ¬ ((Value.ref Tb == Value.none) = true) by simp)]
        have fin : wpAny (model X.prog X.w) X.A (setFlight (.ref a) X.env.frame) (fun _ z4 => wpAny (model X.prog X.w) X.A (throw (.ref a) : Sem Flow) (SP X pins D) X.xe z4) X.xe { sh' with heap := h3 } := by
          rw [efr]
          refine HandSPX.setFlight_upZ fl3 fun h4 hh4 up4 => wpAny_throw (tk _ _ ⟨a, Bh, sI, pins, τ', Z', cl, dd, rfl, J, nb, (up.trans up3).trans up4, .inr (.inr ?_), na, eos, ag, wish⟩)
          rw [est]
          exact hh4
        first
          | exact wpAny_bind (wpAny_pure (wpAny_bind fin))
          | exact wpAny_bind fin
      | @bare x c ts s0 su np pp hs2 l2 nc ok r ih =>
        intro wish
        obtain ⟨b, hb1, yes, no⟩ := wish
        refine wpAny_handleBy_cons (codeAny_handlers_test (test nc ((PySem.W.exm_one (M := model X.prog X.w) J3.kIn LT hb1).here ?_))) (by intro q; cases q)
        cases b with
        | false => exact ih (no rfl)
        | true =>
          refine codeAny_handlers_suite (HandSPX.lands_againZ fl3 fun h4 fl4 up4 => ?_)
          have J4 : Inv X pins τ' Z' { sh' with heap := h4 } := J.landed nb fl4.1 ((up.trans up3).trans up4) eos ag
          obtain ⟨ob4, vs4, he4, hz4, hd4⟩ := fl4.there
          refine wpAny_mono ((ok a ob4 cl dd (X.pn ++ pins) hz4 ⟨_, hd4⟩).run [] _ _ Z' _ (J4.suite he4 hd4 na nL nF) (yes rfl a na)) (fun fl z6 hsp => ?_) (fun _ _ z => False.elim z)
          cases fl with
          | ret u => obtain ⟨_, _, _, S6, r6, q6⟩ := hsp; exact ⟨_, _, _, S6.unsuite okX, r6, q6⟩
          | next => obtain ⟨_, _, S6, q6⟩ := hsp; exact ⟨_, _, S6.unsuite okX, q6⟩
          | brk => obtain ⟨_, _, S6, q6⟩ := hsp; exact ⟨_, _, S6.unsuite okX, q6⟩
          | cont => obtain ⟨_, _, S6, q6⟩ := hsp; exact ⟨_, _, S6.unsuite okX, q6⟩
      | @as_ x n i c ts s0 su np pp hs2 l2 nc hi hl ok r ih =>
        intro wish
        obtain ⟨b, hb1, yes, no⟩ := wish
        refine wpAny_handleBy_cons (codeAny_handlers_test (test nc ((PySem.W.exm_one (M := model X.prog X.w) J3.kIn LT hb1).here ?_))) (by intro q; cases q)
        cases b with
        | false => exact ih (no rfl)
        | true =>
          refine codeAny_handlers_suite_as (HandSPX.lands_againZ fl3 fun h4 fl4 up4 => ?_)
          have J4 : Inv X pins τ' Z' { sh' with heap := h4 } := J.landed nb fl4.1 ((up.trans up3).trans up4) eos ag
          obtain ⟨ob4, vs4, he4, hz4, hd4⟩ := fl4.there
          refine store_ok (X := X.suite a ((a, ob4) :: (X.pn ++ pins))) (v := .ref a) (J4.suite he4 hd4 na nL nF) nd hi (.inl hl) rfl (fun z5 S5 => ?_) (.inr hl)
          refine wpAny_mono ((ok a ob4 cl dd (X.pn ++ pins) hz4 ⟨_, hd4⟩).run [] z5 _ Z' _ S5 (yes rfl a na)) (fun fl z6 hsp => ?_) (fun _ _ z => False.elim z)
          have fin : ∀ {τ6 : L2.St} {Z6 : Hp} {R : Shared → Prop}, Inv (X.suite a ((a, ob4) :: (X.pn ++ pins))) [] τ6 Z6 z6 → (∀ z7, Inv X pins (τ6.set i none) Z6 z7 → R z7) → wpAny (model X.prog X.w) X.A (do bindName X.env n .none; unbindBehindTheSuite X.env n pp) (fun _ z7 => R z7) X.xe z6 := fun {τ6 Z6 R} S6 hq => gone_ok (S6.unsuite okX) nd hi hl hq
          cases fl with
          | ret u => obtain ⟨_, _, _, S6, r6, q6⟩ := hsp; exact fin S6 fun _ J7 => ⟨_, _, _, J7, r6, q6⟩
          | next => obtain ⟨_, _, S6, q6⟩ := hsp; exact fin S6 fun _ J7 => ⟨_, _, J7, q6⟩
          | brk => obtain ⟨_, _, S6, q6⟩ := hsp; exact fin S6 fun _ J7 => ⟨_, _, J7, q6⟩
          | cont => obtain ⟨_, _, S6, q6⟩ := hsp; exact fin S6 fun _ J7 => ⟨_, _, J7, q6⟩
    exact go hh wish
  · cases fl with
    | ret u => obtain ⟨v, τ', Z', J', r, q⟩ := hsp; exact ⟨v, τ', Z', J'.ofTry okX, r, q⟩
    | next => obtain ⟨τ', Z', J', q⟩ := hsp; exact wpAny_execs_nil ⟨τ', Z', J'.ofTry okX, q⟩
    | brk => obtain ⟨τ', Z', J', q⟩ := hsp; exact ⟨τ', Z', J'.ofTry okX, q⟩
    | cont => obtain ⟨τ', Z', J', q⟩ := hsp; exact ⟨τ', Z', J'.ofTry okX, q⟩
end
/-! ### the same as a reading -/
section
variable {G : Gam} {W : WX} {X : Cx}
theorem Ok.setUn {κ : Bs} {w : Wd} {s : DS} {σ : L2.St} {H : Hp} (h : Ok G κ w s σ H) (i : Nat) (v : Option V) : Ok G κ w ⟨s.sl.set i .un, s.st⟩ (σ.set i v) H := by
  have inn : ∀ {j : Nat} {x : Sl}, (s.sl.set i .un)[j]? = some x → (x = .un) ∨ (j ≠ i ∧ s.sl[j]? = some x) := fun {j x} e => by
    by_cases hj : i = j
    · subst hj
      by_cases hv : i < s.sl.length
      · rw [List.getElem?_set_self hv] at e
        exact .inl (Option.some.inj e).symm
      · rw [List.getElem?_eq_none (by simpa using hv)] at e; cases e
    · rw [List.getElem?_set_ne hj] at e
      exact .inr ⟨fun z => hj z.symm, e⟩
  have out : ∀ {j : Nat}, j ≠ i → (σ.set i v)[j]? = σ[j]? := fun {j} n => List.getElem?_set_ne (fun z => n z.symm)
  refine ⟨h.fok, h.nx, by simpa using h.len, fun j d e => ?_, fun j x e o => ?_, fun j k x y a e1 e2 o1 o2 h1 h2 => ?_, fun p hp => ?_, fun a ha c fs e => ?_⟩
  · rcases inn e with z | ⟨z, e⟩
    · cases z
    · rw [out z]; exact h.val j d e
  · rcases inn e with z | ⟨z, e⟩
    · subst z; cases o
    · rw [out z]; exact h.own j x e o
  · rcases inn e1 with z | ⟨z, e1⟩
    · subst z; cases o1
    · rcases inn e2 with z' | ⟨z', e2⟩
      · subst z'; cases o2
      · rw [out z] at h1
        rw [out z'] at h2
        exact h.ne j k x y a e1 e2 o1 o2 h1 h2
  · obtain ⟨q1, q2, q3, q4, q5⟩ := h.gam p hp
    refine ⟨q1, q2, q3, q4, fun j x e o => ?_⟩
    rcases inn e with z | ⟨z, e⟩
    · subst z; cases o
    · rw [out z]; exact q5 j x e o
  · rcases inn e with z | ⟨z, e⟩
    · cases z
    · rw [out z]; exact h.me a ha c fs e
theorem RepX.mono {w w' : Wd} {c : Value} {dd : Option Addr} {x : Xc} (h : RepX G w c dd x) (le : w.le w') : RepX G w' c dd x := by
  obtain ⟨C, h1, h2, h3⟩ := h
  refine ⟨C, h1, h2, ?_⟩
  rcases h3 with h3 | ⟨a, vs, e1, e2, e3⟩
  · exact .inl h3
  · exact .inr ⟨a, vs, e1, le.1 _ _ e2, e3.mono le⟩
structure HdR where
  c : Value
  oi : Option Nat
  m : String → Option Bool
  f : Xc → DStm
def unD (i : Nat) (r : Res DS Out) : Res DS Out := r.bind fun o s => .ok o ⟨s.sl.set i .un, s.st⟩
def catchD : List HdR → Xc → DStm
  | [], x, s => .exc x s
  | ⟨_, none, m, f⟩ :: r, x, s => match m x.cls with
    | some true => noX (f x s)
    | some false => catchD r x s
    | none => .stuck
  | ⟨_, some i, m, f⟩ :: r, x, s => match m x.cls with
    | some true => if i < s.sl.length then unD i (noX (f x ⟨s.sl.set i .un, s.st⟩)) else .stuck
    | some false => catchD r x s
    | none => .stuck
def sTry (b : DStm) (hs : List HdR) : DStm := fun s => match b s with
  | .exc x s1 => catchD hs x s1
  | r => r
/-- what is known of the caught one -/
def Fx (G : Gam) (oi : Option Nat) (a : Addr) (cl : Value) (dd : Option Addr) (x : Xc) (w : Wd) (σ : L2.St) : Prop := (∀ i, oi = some i → σ[i]? = some (some (.ref a))) ∧ RepX G w cl dd x
def tXS (G : Gam) (oi : Option Nat) (a : Addr) (cl : Value) (dd : Option Addr) (x : Xc) (f : DStm) : TS := fun N σ H => ∃ κ w s, Ok G κ w s σ H ∧ Fx G oi a cl dd x w σ ∧ PostS G WF κ w (f s) N
def tSu (G : Gam) (h : HdR) : HTs := fun a cl dd N σ H => ∃ x, tXS G h.oi a cl dd x (h.f x) N σ H
/-- the class test of a clause -/
def MOk (G : Gam) (K : PySem.W.Frag) (h : HdR) : Prop := ∀ (k : String) (b : Bool), h.m k = some b → ∀ C, G.ct k = some C → PySem.W.exmOne K (.ref C) h.c = some b
theorem catch_of {D0 : Ends} {κ : Bs} {x : Xc} : ∀ {hs : List HdR}, (∀ h ∈ hs, MOk G X.K h) → ∀ {w : Wd} {s : DS} {cl : Value} {dd : Option Addr} {σ : L2.St} {H : Hp}, PostS G W κ w (catchD hs x s) D0 → Ok G κ w s σ H → RepX G w cl dd x → wHd X.K W D0 (hs.map fun h => (h.c, h.oi, tSu G h)) cl dd σ H
  | [], _, w, s, cl, dd, σ, H, q, ok, rx => q w σ cl dd H (.refl _) ok rx
  | ⟨c, none, m, f⟩ :: r, hm, w, s, cl, dd, σ, H, q, ok, rx => by
    obtain ⟨C, hC, rfl, _⟩ := id rx
    have q : PostS G W κ w (match m x.cls with | some true => noX (f x s) | some false => catchD r x s | none => .stuck) D0 := q
    cases e : m x.cls with
    | none => rw [e] at q; exact q.elim
    | some b =>
      refine ⟨b, hm _ List.mem_cons_self x.cls b e C hC, fun hb a ha => ?_, fun hb => ?_⟩
      · subst hb
        rw [e] at q
        refine ⟨x, κ, w, s, ok, ⟨fun i z => (nomatch z), rx⟩, ?_⟩
        show PostS G WF κ w (f x s) D0
        replace q : PostS G W κ w (noX (f x s)) D0 := q
        cases z : f x s with
        | ok o s' => rw [z] at q; cases o <;> exact q
        | exc y s' => rw [z] at q; exact q.elim
        | stuck => rw [z] at q; exact q.elim
      · subst hb
        rw [e] at q
        exact catch_of (fun h hh => hm h (List.mem_cons_of_mem _ hh)) q ok rx
  | ⟨c, some i, m, f⟩ :: r, hm, w, s, cl, dd, σ, H, q, ok, rx => by
    obtain ⟨C, hC, rfl, _⟩ := id rx
    have q : PostS G W κ w (match m x.cls with | some true => if i < s.sl.length then unD i (noX (f x ⟨s.sl.set i .un, s.st⟩)) else .stuck | some false => catchD r x s | none => .stuck) D0 := q
    cases e : m x.cls with
    | none => rw [e] at q; exact q.elim
    | some b =>
      refine ⟨b, hm _ List.mem_cons_self x.cls b e C hC, fun hb a ha => ?_, fun hb => ?_⟩
      · subst hb
        rw [e] at q
        replace q : PostS G W κ w (if i < s.sl.length then unD i (noX (f x ⟨s.sl.set i .un, s.st⟩)) else .stuck) D0 := q
        have hj : i < s.sl.length := by
          by_cases h : i < s.sl.length
          · exact h
          · rw [if_neg h] at q; exact q.elim
        rw [if_pos hj] at q
        refine ⟨x, κ, w, ⟨s.sl.set i .un, s.st⟩, ok.setUn i _, ⟨fun j z => ?_, rx⟩, ?_⟩
        · have z : some i = some j := z
          cases z
          rw [List.getElem?_set_self (by rw [← ok.len]; exact hj)]
        show PostS G WF κ w (f x ⟨s.sl.set i .un, s.st⟩) (unset D0 i)
        cases z : f x ⟨s.sl.set i .un, s.st⟩ with
        | ok o s' =>
          rw [z] at q
          cases o with
          | nx => exact fun w' σ' H' le ok' => q w' _ H' le (ok'.setUn i none)
          | bk => exact fun w' σ' H' le ok' => q w' _ H' le (ok'.setUn i none)
          | ct => exact fun w' σ' H' le ok' => q w' _ H' le (ok'.setUn i none)
          | rt d => exact fun w' σ' v H' le ok' r' => q w' _ v H' le (ok'.setUn i none) r'
        | exc y s' => rw [z] at q; exact q.elim
        | stuck => rw [z] at q; exact q.elim
      · subst hb
        rw [e] at q
        exact catch_of (fun h hh => hm h (List.mem_cons_of_mem _ hh)) q ok rx
theorem pds_try {bd : List Stmt} {g0 : ExceptHandler} {gs : List ExceptHandler} {hs : List HdR} {tpos : Pos} {fb : DStm} (est : X.stack = X.env :: X.outer) (efr : X.env.frame = some X.env.locals) (nd : X.N.Nodup) (tk : Takes X W)
    (hbd : ∀ (Wi : WX) (pn : List (Addr × Obj)) (xe : Value → Shared → Prop), Takes (X.tr pn xe) Wi → PassesOwn (model X.prog X.w) X.A X.env xe → PDSs G Wi (X.tr pn xe) bd fb) (hm : ∀ h ∈ hs, MOk G X.K h)
    (hh : HdA X (g0 :: gs) (hs.map fun h => (h.c, h.oi, tSu G h))) : PDS G W X (.Try bd (g0 :: gs) [] [] tpos) (sTry fb hs) :=
  (ps_tryA (tb := fun Wi => tDS G Wi fb) est efr nd tk hbd hh).imp fun N σ H ⟨κ, w, s, ok, q⟩ => ⟨κ, w, s, ok, by
    have q : PostS G W κ w (match fb s with | .exc x s1 => catchD hs x s1 | r => r) N := q
    cases e : fb s with
    | stuck => rw [e] at q; exact q.elim
    | ok o s' => rw [e] at q; cases o <;> exact q
    | exc x s' =>
      rw [e] at q
      replace q : PostS G W κ w (catchD hs x s') N := q
      intro w' σ' c dd H' le ok' rx
      have q' : PostS G W κ w' (catchD hs x s') N := PostS.mono le q
      exact catch_of hm q' ok' rx⟩
end
/-! ### the suite's words -/
section
variable {G : Gam} {X : Cx} {oi : Option Nat} {a : Addr} {cl : Value} {dd : Option Addr} {x : Xc}
theorem Fx.mono {w w' : Wd} {σ : L2.St} (h : Fx G oi a cl dd x w σ) (le : w.le w') : Fx G oi a cl dd x w' σ := ⟨h.1, h.2.mono le⟩
def tXD (G : Gam) (oi : Option Nat) (a : Addr) (cl : Value) (dd : Option Addr) (x : Xc) (f : DE) : TE := fun σ H Q => ∃ κ w s, Ok G κ w s σ H ∧ Fx G oi a cl dd x w σ ∧ PostG G WF (Rep G) κ w σ (f s) Q
def tXA (G : Gam) (oi : Option Nat) (a : Addr) (cl : Value) (dd : Option Addr) (x : Xc) (f : DA) : TA := fun σ H Q => ∃ κ w s, Ok G κ w s σ H ∧ Fx G oi a cl dd x w σ ∧ PostG G WF (Reps G) κ w σ (f s) Q
theorem pxd_lift {e : Expr} {f : DE} (h : PD G WF X e f) : PE X e (tXD G oi a cl dd x f) := h.imp fun σ H Q ⟨κ, w, s, ok, _, q⟩ => ⟨κ, w, s, ok, q⟩
theorem pxa_nil : PA X [] (tXA G oi a cl dd x aNil) := pa_nil.imp fun σ H Q ⟨κ, w, s, ok, _, q⟩ => q w [] H (.refl _) ok .nil
theorem pxa_cons {e : Expr} {es : List Expr} {f : DE} {g : DA} (h : PE X e (tXD G oi a cl dd x f)) (k : PA X es (tXA G oi a cl dd x g)) (hs : starEach (e :: es) X.env = (false, eval e X.env) :: starEach es X.env := by rfl) : PA X (e :: es) (tXA G oi a cl dd x (aCons f g)) :=
  (pa_cons h k hs).imp fun σ H Q ⟨κ, w, s, ok, fx, q⟩ => ⟨κ, w, s, ok, fx, (PostG.bind q).imp fun v H1 ⟨d, s1, w1, le, ok1, r1, q1⟩ =>
    ⟨κ, w1, s1, ok1, fx.mono le, (PostG.bind q1).imp fun v2 H2 ⟨d2, s2, w2, le2, ok2, r2, q2⟩ => q2 w2 _ H2 (.refl _) ok2 (.cons (r1.mono le2) r2)⟩⟩
theorem pxd_tup {es : List Expr} {k : Nat} {g : DA} {pos : Pos} (h : PA X es (tXA G oi a cl dd x g)) : PE X (.Tuple es k pos) (tXD G oi a cl dd x (eTup g)) :=
  (pe_tup h).imp fun σ H Q ⟨κ, w, s, ok, fx, q⟩ => ⟨κ, w, s, ok, fx, (PostG.bind q).imp fun v H1 ⟨d, s1, w1, le, ok1, r1, q1⟩ => by
    by_cases c : d.length ≤ 1000
    · rw [if_pos c] at q1
      refine ⟨r1.length ▸ sz1000 c, fun p hp => ?_⟩
      obtain ⟨le2, ok2⟩ := ok1.alloc hp (.tup v)
      exact q1 _ _ _ le2 ok2 (.tup (.inl (.inl upd_same)) (r1.mono le2))
    · rw [if_neg c] at q1
      exact q1.elim⟩
theorem RepF.look' {w : Wd} : ∀ {vs : List (Str × V)} {fs : List (Nm × D)} {f : Nm} {d : D}, RepF G w vs fs → fs.lookup f = some d → ∃ v, vs.lookup (nm f) = some v ∧ Rep G w v d
  | _, _, _, _, .nil, e => nomatch e
  | _, _, f, d, .cons (f := g) (v := v) (d := d') r rs, e => by
    by_cases h : f = g
    · subst h
      simp [List.lookup] at e ⊢
      subst e
      exact r
    · have h1 : (f == g) = false := by simpa using h
      have h2 : (nm f == nm g) = false := by
        have : nm f ≠ nm g := fun z => h (nm_inj z)
        simpa using this
      simp only [List.lookup, h1] at e
      obtain ⟨v', q1, q2⟩ := RepF.look' rs e
      exact ⟨v', by simp only [List.lookup, h2]; exact q1, q2⟩
/-- e.f of the caught one, known to be of the class c -/
def eXf (c : String) (f : Nm) (x : Xc) : DE := fun s => if x.cls = c then match x.fs.lookup f with | some d => .ok d s | none => .stuck else .stuck
theorem pxd_fld {i : Nat} {C : Addr} {ob : Obj} {pn : List (Addr × Obj)} {c : String} {f : Nm} {fn e : Str} {p pos : Pos} (hK : G.K = X.K) (hC : G.ct c = some C) (T : XfC X.K C) (hno : PySem.W.findIn X.K (.ref C) fn = some none) (hf : fn = nm f) (hz : Zc cl dd ob) (hfs : ∃ vs, ob.data = .fields vs)
    (he : PE (X.suite a ((a, ob) :: pn)) (.Name e p) (tVar i)) : PE (X.suite a ((a, ob) :: pn)) (.Attribute (.Name e p) fn pos) (tXD G (some i) a cl dd x (eXf c f x)) :=
  (pe_xf T hno hz hfs he).imp fun σ H Q ⟨κ, w, s, ok, fx, q⟩ => by
    have q : PostG G WF (Rep G) κ w σ (if x.cls = c then match x.fs.lookup f with | some d => .ok d s | none => .stuck else .stuck) Q := q
    by_cases h : x.cls = c
    · rw [if_pos h] at q
      cases e : x.fs.lookup f with
      | none => rw [e] at q; exact q.elim
      | some d =>
        rw [e] at q
        obtain ⟨h1, C', h2, h3, h4⟩ := fx
        rw [h, hC] at h2
        cases h2
        rcases h4 with ⟨h4, _⟩ | ⟨da, vs, h5, h6, h7⟩
        · rw [h4] at e; cases e
        · obtain ⟨v, l1, l2⟩ := h7.look' e
          exact ⟨.ref a, h1 i rfl, rfl, h3, da, vs, v, h5, ok.fok.sub _ _ h6, hf ▸ l1, q w v H (.refl _) ok l2⟩
    · rw [if_neg h] at q
      exact q.elim
theorem pxs_ret {e : Expr} {f : DE} {pos : Pos} (h : PE X e (tXD G oi a cl dd x f)) : PS X (.Return (some e) pos) (tXS G oi a cl dd x (sRet f)) :=
  (ps_ret h).imp fun N σ H ⟨κ, w, s, ok, fx, q⟩ => ⟨κ, w, s, ok, fx, (PostG.bindS q).imp fun v H1 ⟨d, s1, w1, le, ok1, r1, q1⟩ => q1 w1 σ v H1 (.refl _) ok1 r1⟩
theorem pxs_set {i : Nat} {n : Str} {e : Expr} {f : DE} {pos pos' : Pos} (hN : X.N.Nodup) (hi : X.N[i]? = some n) (hx : Loc X.env.scope n) (he : PE X e (tXD G oi a cl dd x f)) (hs : swapsWith e (some (.Name n pos')) pos.line X.env = pure false := by rfl)
    (hf : X.fn n = true ∨ X.env.scope.names.lookup n = some .local := by first | exact .inl rfl | exact .inr rfl | assumption) : PS X (.Assign [.Name n pos'] e pos) (tXS G oi a cl dd x (sSet i f)) :=
  (ps_set hN hi hx he hs hf).imp fun N σ H ⟨κ, w, s, ok, fx, q⟩ => ⟨κ, w, s, ok, fx, (PostG.bindS q).imp fun v H1 ⟨d, s1, w1, le, ok1, r1, q1⟩ => q1 w1 _ H1 (.refl _) (ok1.setVal r1 i)⟩
theorem pxs_lift {st : Stmt} {f : DStm} (h : PDS G WF X st f) : PS X st (tXS G oi a cl dd x f) := h.imp fun N σ H ⟨κ, w, s, ok, _, q⟩ => ⟨κ, w, s, ok, q⟩
/-- a suite of one statement -/
theorem su_one {st : Stmt} {h : HdR} (k : ∀ (a : Addr) (ob : Obj) (cl : Value) (dd : Option Addr) (pn : List (Addr × Obj)) (x : Xc), Zc cl dd ob → (∃ vs, ob.data = .fields vs) → PS (X.suite a ((a, ob) :: pn)) st (tXS G h.oi a cl dd x (h.f x))) : SuOk X [st] (tSu G h) :=
  fun a ob cl dd pn hz hf => pss_one ⟨fun pins s σ H D I ⟨x, z⟩ => (k a ob cl dd pn x hz hf).run pins s σ H D I z⟩
end
end DL
set_option maxRecDepth 100000
set_option maxHeartbeats 4000000
set_option autoImplicit false
namespace DL
open PySem PySem.Spec PyProof.Rows L2
/-! ### lambdas without parameters -/
/-- the function object of a lambda -/
def FnO (f : Addr) (q : Str) (pr : Arguments) (bd : Expr) (sc : Scope) (clo : List (Str × Addr)) (pm : Value) (c : Addr) (ctv : Value) : HO := .ext fun h => h.get? f = some (PySem.W.kla_obj "<lambda>" q pr bd sc clo pm c ctv)
/-- a maker of lambdas: its table, the name of its lambdas' codes, its cells, the sites -/
structure LamT where
  P : Addr
  q : Str
  cells : List (Str × Addr)
  site : String → Option (Arguments × Expr × Scope)
def LamT.lam (T : LamT) : String → Addr → Wd → Prop := fun k f w => ∃ pr bd sc pm c ctv, T.site k = some (pr, bd, sc) ∧ w.F f = some (FnO f T.q pr bd sc (cloFrom T.cells sc.names []) pm c ctv) ∧ w.F c = some (LamX.CodeO c T.q)
def LamT.tab (T : LamT) : Addr → Hp → HO → Prop := fun a F o => a = T.P ∧ ∃ ps : Array Value, o = .tbl ps ∧ TriplesOk ps.toList ∧ ∀ (pos : Pos) (cv : Value), codeAmong pos ps.toList = some cv → ∃ c, cv = .ref c ∧ F c = some (LamX.CodeO c T.q)
theorem LamT.lamM (T : LamT) (k : String) (f : Addr) (w w' : Wd) (e : w.le w') : T.lam k f w → T.lam k f w' := fun ⟨pr, bd, sc, pm, c, ctv, h1, h2, h3⟩ => ⟨pr, bd, sc, pm, c, ctv, h1, e.f _ _ h2, e.f _ _ h3⟩
theorem LamT.tabM (T : LamT) (a : Addr) (F F' : Hp) (o : HO) (e : ∀ a o, F a = some o → F' a = some o) : T.tab a F o → T.tab a F' o := fun ⟨h0, ps, h1, h2, h3⟩ => ⟨h0, ps, h1, h2, fun pos cv hc => by
  obtain ⟨c, z1, z2⟩ := h3 pos cv hc
  exact ⟨c, z1, e _ _ z2⟩⟩
/-- the lambda is made -/
def eLam (n : Nat) (tk k : String) : DE := fun s => match s.st[n]? with
  | some (.tab t) => if t = tk then .ok (.lam k) s else .stuck
  | _ => .stuck
section
variable {G : Gam} {W : WX} {X : Cx}
/-- what G says of the maker's lambdas -/
structure GLam (G : Gam) (tk : String) (T : LamT) : Prop where
  tab : ∀ a F o, G.tab tk a F o ↔ T.tab a F o
  lam : ∀ k f w, (T.site k).isSome = true → (G.lam k f w ↔ T.lam k f w)
theorem fnO_ok {P : Program} {w0 : World} {H : Hp} {h : Heap} {f c : Addr} {q : Str} {pr : Arguments} {bd : Expr} {sc : Scope} {clo : List (Str × Addr)} {pm ctv : Value} (e : h.get? f = some (PySem.W.kla_obj "<lambda>" q pr bd sc clo pm c ctv)) : ObjOk P w0 H h f (FnO f q pr bd sc clo pm c ctv) :=
  ⟨e, ⟨_, e⟩, fun h1 h2 z k => k _ z⟩
theorem pd_lam0 {n : Nat} {tk k : String} {c : Addr} {T : LamT} {pr : Arguments} {bd : Expr} {sc : Scope} {pos : Pos} (GL : GLam G tk T) (TB : LamX.TabB X.base X.mg c T.P) (hcode : X.env.code = .ref c) (hq : T.q = X.env.qual ++ "<lambda>") (hcl : T.cells = X.env.cells) (hs : T.site k = some (pr, bd, sc))
    (L : ∀ y ∈ sc.names, y.2 = .free → X.env.scope.names.lookup y.1 = some .cell ∨ X.env.scope.names.lookup y.1 = some .free) (hdef : defaultsOf pr X.env = ([], [])) : PD G W X (.Lambda pr bd sc pos) (eLam n tk k) := by
  refine ⟨fun pins sh σ H Q I ⟨κ, w, s, ok, q⟩ => ?_⟩
  unfold eLam at q
  cases e : s.st[n]? with
  | none => rw [e] at q; exact q.elim
  | some cel =>
    rw [e] at q
    cases cel with
    | tab t' =>
      replace q : PostG G W (Rep G) κ w σ (if t' = tk then .ok (.lam k) s else .stuck) Q := q
      by_cases ht : t' = tk
      · subst ht
        rw [if_pos rfl] at q
        have hn : n < w.ρ.length := by
          rw [ok.fok.len]
          exact (List.getElem?_eq_some_iff.mp e).1
        have hρ : w.ρ[n]? = some (w.ρ[n]) := List.getElem?_eq_getElem hn
        obtain ⟨o, hP, ht⟩ := ok.fok.cel n _ _ hρ e
        obtain ⟨eP, ps, rfl, tr, among⟩ := (GL.tab _ _ _).mp ht
        rw [eP] at hP hρ
        have hfree : ∀ y ∈ sc.names, y.2 = .free → ∃ c, X.env.cells.lookup y.1 = some c := fun y hy e => (L y hy e).elim (fun k => I.ok.has _ (.inl k)) fun k => I.ok.has _ (.inr k)
        refine PySem.W.kla_eval hdef ?_
        have bP : sh.heap.BuiltinsAt X.mg T.P := TB.bm.keeps I.bk
        have hP' : sh.heap.get? T.P = some { cls := .none, data := .fields ps } := I.hok T.P _ hP
        cases hc : codeAmong pos ps.toList with
        | none =>
          refine PySem.W.kla_makeFunction (mg := X.mg) (c := c) (P := T.P) (ps := ps) (closure_ok hfree) I.ok.glob (I.mod.glob.keeps I.bk) hcode (TB.code.keeps I.bk) hP' tr hc TB.gP bP fun c' ctv h' tk' hx hge hlt hrec htb => ?_
          obtain ⟨c2, oc, vs, t, e2, hoc, hd, hv⟩ := hrec
          cases e2
          have nC : H c' = none := I.hok.fresh hge
          have hsz : sh.heap.objs.size ≤ h'.objs.size := Nat.le_trans hge (Nat.le_of_lt hlt)
          have I1 := LamX.inv_table (t' := tk') (q := X.env.qual ++ "<lambda>") (more := #[rawInt pos.line, rawInt pos.col, .ref c']) (h' := h') I hP (fun b o hb z => hx b o hb z) htb hge ⟨oc, vs, t, hoc, hd, hv⟩
          have I2 := I1.laid (t' := tk') (a := h'.objs.size) (o := FnO h'.objs.size (X.env.qual ++ "<lambda>") pr bd sc (cloFrom X.env.cells sc.names []) ((X.mg "__name__").getD .none) c' ctv)
            (h' := h'.push (PySem.W.kla_obj "<lambda>" (X.env.qual ++ "<lambda>") pr bd sc (cloFrom X.env.cells sc.names []) ((X.mg "__name__").getD .none) c' ctv)) (fun b u z => Heap.get?_push_of_some _ z) (Nat.le_refl _) (fnO_ok (Heap.get?_push_size _ rfl))
          have okC := ok.alloc nC (LamX.CodeO c' (X.env.qual ++ "<lambda>"))
          obtain ⟨le1, ok1⟩ := okC
          have nPc : T.P ≠ c' := ne_of_none hP nC
          have eL : (ps ++ #[rawInt pos.line, rawInt pos.col, .ref c']).toList = ps.toList ++ [rawInt pos.line, rawInt pos.col, .ref c'] := by simp
          have cell1 : CellOk G ⟨upd w.F c' (LamX.CodeO c' (X.env.qual ++ "<lambda>")), w.ρ⟩ (upd (upd H c' (LamX.CodeO c' (X.env.qual ++ "<lambda>"))) T.P (.tbl (ps ++ #[rawInt pos.line, rawInt pos.col, .ref c']))) T.P (.tab t') := by
            refine ⟨_, upd_same, (GL.tab _ _ _).mpr ⟨rfl, _, rfl, by rw [eL]; exact PySem.TriplesOk_snoc _ _ _ _ tr, fun p' cv hcv => ?_⟩⟩
            rw [eL] at hcv
            rcases LamX.among_app _ tr hcv with z | z
            · obtain ⟨c0, e1, e2⟩ := among p' cv z
              exact ⟨c0, e1, le1.f _ _ e2⟩
            · exact ⟨c', z, by rw [hq]; exact upd_same⟩
          have ok2 := ok1.cell (n := n) (a := T.P) hρ cell1
          have eS : s.st.set n (.tab t') = s.st := by
            apply List.ext_getElem?
            intro i
            by_cases hi : n = i
            · subst hi
              rw [List.getElem?_set_self (List.getElem?_eq_some_iff.mp e).1, e]
            · rw [List.getElem?_set_ne hi]
          rw [eS] at ok2
          have swap : upd (upd H c' (LamX.CodeO c' (X.env.qual ++ "<lambda>"))) T.P (.tbl (ps ++ #[rawInt pos.line, rawInt pos.col, .ref c'])) = upd (upd H T.P (.tbl (ps ++ #[rawInt pos.line, rawInt pos.col, .ref c']))) c' (LamX.CodeO c' (X.env.qual ++ "<lambda>")) := by
            funext b
            by_cases h1 : b = T.P
            · rw [h1, upd_same, upd_ne nPc, upd_same]
            · rw [upd_ne h1]
              by_cases h2 : b = c'
              · rw [h2, upd_same, upd_same]
              · rw [upd_ne h2, upd_ne h2, upd_ne h1]
          rw [swap] at ok2
          obtain ⟨le3, ok3⟩ := ok2.alloc (I1.hok.fresh (Nat.le_refl _)) (FnO h'.objs.size (X.env.qual ++ "<lambda>") pr bd sc (cloFrom X.env.cells sc.names []) ((X.mg "__name__").getD .none) c' ctv)
          refine ⟨.ref h'.objs.size, _, I2, rfl, q _ _ _ (le1.trans le3) ok3 (.lam ((GL.lam _ _ _ (by rw [hs]; rfl)).mpr ⟨pr, bd, sc, (X.mg "__name__").getD .none, c', ctv, hs, ?_, ?_⟩))⟩
          · rw [hq, hcl]; exact upd_same
          · rw [hq]
            exact le3.f _ _ upd_same
        | some cv =>
          obtain ⟨c', ecv, hco⟩ := among pos cv hc
          subst ecv
          refine PySem.W.kla_makeFunctionHit (mg := X.mg) (c := c) (P := T.P) (ps := ps) (closure_ok hfree) I.ok.glob (I.mod.glob.keeps I.bk) hcode (TB.code.keeps I.bk) hP' tr hc bP fun ctv h' tk' hx hsz => ?_
          have I2 := I.laid (t' := tk') (a := h'.objs.size) (o := FnO h'.objs.size (X.env.qual ++ "<lambda>") pr bd sc (cloFrom X.env.cells sc.names []) ((X.mg "__name__").getD .none) c' ctv)
            (h' := h'.push (PySem.W.kla_obj "<lambda>" (X.env.qual ++ "<lambda>") pr bd sc (cloFrom X.env.cells sc.names []) ((X.mg "__name__").getD .none) c' ctv)) (fun b u z => Heap.get?_push_of_some _ (hx b u z)) hsz (fnO_ok (Heap.get?_push_size _ rfl))
          obtain ⟨le3, ok3⟩ := ok.alloc (I.hok.fresh hsz) (FnO h'.objs.size (X.env.qual ++ "<lambda>") pr bd sc (cloFrom X.env.cells sc.names []) ((X.mg "__name__").getD .none) c' ctv)
          refine ⟨.ref h'.objs.size, _, I2, rfl, q _ _ _ le3 ok3 (.lam ((GL.lam _ _ _ (by rw [hs]; rfl)).mpr ⟨pr, bd, sc, (X.mg "__name__").getD .none, c', ctv, hs, ?_, ?_⟩))⟩
          · rw [hq, hcl]; exact upd_same
          · exact le3.f _ _ hco
      · rw [if_neg ht] at q
        exact q.elim
    | _ => exact q.elim
theorem pd_lam {n : Nat} {tk k : String} {c : Addr} {T : LamT} {pr : Arguments} {bd : Expr} {sc : Scope} {pos : Pos} (GL : GLam G tk T) (TB : LamX.TabB X.base X.mg c T.P) (hcode : X.env.code = .ref c) (hq : T.q = X.env.qual ++ "<lambda>") (hcl : T.cells = X.env.cells) (hs : T.site k = some (pr, bd, sc))
    (L : LamX.LamS X.env.scope sc) (hdef : defaultsOf pr X.env = ([], [])) : PD G W X (.Lambda pr bd sc pos) (eLam n tk k) := pd_lam0 GL TB hcode hq hcl hs L.free hdef
end
end DL
set_option maxRecDepth 100000
set_option maxHeartbeats 4000000
set_option autoImplicit false
namespace DL
open PySem PySem.Spec PyProof.Rows L2
/-! ### data without lambdas -/
mutual
def noLam : D → Bool
  | .tup xs => noLams xs
  | .lst xs => noLams xs
  | .scr xs => noLams xs
  | .dic kvs => noLamK kvs
  | .dct kvs => noLamT kvs
  | .ins _ fs => noLamF fs
  | .lam _ => false
  | _ => true
def noLams : List D → Bool
  | [] => true
  | x :: r => noLam x && noLams r
def noLamK : List (DK × D) → Bool
  | [] => true
  | x :: r => noLam x.2 && noLamK r
def noLamF : List (Nm × D) → Bool
  | [] => true
  | x :: r => noLam x.2 && noLamF r
def noLamT : List (List DK × D) → Bool
  | [] => true
  | x :: r => noLam x.2 && noLamT r
end
def noLamC : Cell → Bool
  | .dic kvs => noLamK kvs
  | .lst xs => noLams xs
  | .obj _ fs => noLamF fs
  | .tab _ => true
  | .dct kvs => noLamT kvs
def noLamS : List Cell → Bool
  | [] => true
  | c :: r => noLamC c && noLamS r
/-- other words for lambdas -/
def Gam.sw (G : Gam) (lam : String → Addr → Wd → Prop) (lamM : ∀ (k : String) (f : Addr) (w w' : Wd), w.le w' → lam k f w → lam k f w') : Gam := { G with lam := lam, lamM := lamM }
section
variable {G : Gam} {lam : String → Addr → Wd → Prop} {lamM : ∀ (k : String) (f : Addr) (w w' : Wd), w.le w' → lam k f w → lam k f w'} {w : Wd}
mutual
theorem Rep.sw : ∀ {v : V} {d : D}, (noLam d = true ∨ ∀ k f, G.lam k f w → lam k f w) → Rep G w v d → Rep (G.sw lam lamM) w v d
  | _, _, _, .non => .non
  | _, _, _, .bl b => .bl b
  | _, _, _, .int i => .int i
  | _, _, _, .str l => .str l
  | _, _, h, .tup a b => .tup a (Reps.sw h b)
  | _, _, h, .lst a b => .lst a (Reps.sw h b)
  | _, _, h, .scr a b => .scr a (Reps.sw h b)
  | _, _, h, .dic a b => .dic a (RepK.sw h b)
  | _, _, h, .dct a b c d => .dct a (RepT.sw h b) c d
  | _, _, h, .ins c a b => .ins c a (RepF.sw h b)
  | _, _, _, .cell a => .cell a
  | _, _, _, .cls a => .cls a
  | _, _, _, .ty n => .ty n
  | _, _, _, .fn a => .fn a
  | _, _, h, .lam a => .lam (h.elim (fun z => nomatch z) fun z => z _ _ a)
theorem Reps.sw : ∀ {v : List V} {d : List D}, (noLams d = true ∨ ∀ k f, G.lam k f w → lam k f w) → Reps G w v d → Reps (G.sw lam lamM) w v d
  | _, _, _, .nil => .nil
  | _, _, h, .cons a b => .cons (Rep.sw (h.imp (fun z => ((Bool.and_eq_true _ _).mp z).1) id) a) (Reps.sw (h.imp (fun z => ((Bool.and_eq_true _ _).mp z).2) id) b)
theorem RepF.sw : ∀ {v : List (Str × V)} {d : List (Nm × D)}, (noLamF d = true ∨ ∀ k f, G.lam k f w → lam k f w) → RepF G w v d → RepF (G.sw lam lamM) w v d
  | _, _, _, .nil => .nil
  | _, _, h, .cons a b => .cons (Rep.sw (h.imp (fun z => ((Bool.and_eq_true _ _).mp z).1) id) a) (RepF.sw (h.imp (fun z => ((Bool.and_eq_true _ _).mp z).2) id) b)
theorem RepK.sw : ∀ {v : List (Key × V)} {d : List (DK × D)}, (noLamK d = true ∨ ∀ k f, G.lam k f w → lam k f w) → RepK G w v d → RepK (G.sw lam lamM) w v d
  | _, _, _, .nil => .nil
  | _, _, h, .cons a b => .cons (Rep.sw (h.imp (fun z => ((Bool.and_eq_true _ _).mp z).1) id) a) (RepK.sw (h.imp (fun z => ((Bool.and_eq_true _ _).mp z).2) id) b)
theorem RepT.sw : ∀ {v : List DictEntry} {d : List (List DK × D)}, (noLamT d = true ∨ ∀ k f, G.lam k f w → lam k f w) → RepT G w v d → RepT (G.sw lam lamM) w v d
  | _, _, _, .nil => .nil
  | _, _, h, .cons s r a b => .cons s r (Rep.sw (h.imp (fun z => ((Bool.and_eq_true _ _).mp z).1) id) a) (RepT.sw (h.imp (fun z => ((Bool.and_eq_true _ _).mp z).2) id) b)
end
theorem CellOk.sw {H : Hp} {a : Addr} {c : Cell} (h : noLamC c = true ∨ ∀ k f, G.lam k f w → lam k f w) (k : CellOk G w H a c) : CellOk (G.sw lam lamM) w H a c := by
  cases c with
  | dic kvs => obtain ⟨vs, e, r⟩ := k; exact ⟨vs, e, r.sw h⟩
  | lst xs => obtain ⟨vs, e, r⟩ := k; exact ⟨vs, e, r.sw h⟩
  | obj c fs => obtain ⟨C, dx, vs, q, e, r⟩ := k; exact ⟨C, dx, vs, q, e, r.sw h⟩
  | tab t => exact k
  | dct kvs => obtain ⟨es, ep, e, r, q⟩ := k; exact ⟨es, ep, e, r.sw h, q⟩
theorem noLamS_get : ∀ {S : List Cell} {n : Nat} {c : Cell}, noLamS S = true → S[n]? = some c → noLamC c = true
  | [], _, _, _, e => by simp at e
  | x :: r, 0, c, h, e => by
    simp at e; subst e
    exact ((Bool.and_eq_true _ _).mp h).1
  | x :: r, n + 1, c, h, e => noLamS_get (S := r) (n := n) ((Bool.and_eq_true _ _).mp h).2 (by simpa using e)
theorem FOk.sw {S : List Cell} {H : Hp} (h : noLamS S = true ∨ ∀ k f, G.lam k f w → lam k f w) (k : FOk G w S H) : FOk (G.sw lam lamM) w S H :=
  ⟨k.sub, k.len, fun n a c e1 e2 => (k.cel n a c e1 e2).sw (h.imp (fun z => noLamS_get z e2) id), k.nd, k.nf⟩
theorem RepX.sw {c : Value} {dd : Option Addr} {x : Xc} (h : noLamF x.fs = true ∨ ∀ k f, G.lam k f w → lam k f w) (k : RepX G w c dd x) : RepX (G.sw lam lamM) w c dd x := by
  obtain ⟨C, h1, h2, h3⟩ := k
  refine ⟨C, h1, h2, h3.imp id fun ⟨a, vs, q1, q2, q3⟩ => ⟨a, vs, q1, q2, q3.sw h⟩⟩
theorem Rep.bk {v : V} {d : D} (h : noLam d = true ∨ ∀ k f, lam k f w → G.lam k f w) (k : Rep (G.sw lam lamM) w v d) : Rep G w v d := Rep.sw (G := G.sw lam lamM) (lam := G.lam) (lamM := G.lamM) h k
theorem FOk.bk {S : List Cell} {H : Hp} (h : noLamS S = true ∨ ∀ k f, lam k f w → G.lam k f w) (k : FOk (G.sw lam lamM) w S H) : FOk G w S H := FOk.sw (G := G.sw lam lamM) (lam := G.lam) (lamM := G.lamM) h k
theorem RepX.bk {c : Value} {dd : Option Addr} {x : Xc} (h : noLamF x.fs = true ∨ ∀ k f, lam k f w → G.lam k f w) (k : RepX (G.sw lam lamM) w c dd x) : RepX G w c dd x := RepX.sw (G := G.sw lam lamM) (lam := G.lam) (lamM := G.lamM) h k
end
/-! ### a def that makes lambdas -/
def fnDL (n : Nat) (body : DStm) (m : Nat) : DFn := fun ds S => if noLams ds = true ∧ noLamS S = true then match fnD n body m ds S with
  | .ok d S' => if noLam d = true ∧ noLamS S' = true then .ok d S' else .stuck
  | .exc x S' => if noLamF x.fs = true ∧ noLamS S' = true then .exc x S' else .stuck
  | .stuck => .stuck
  else .stuck
/-- the frame's own words for its lambdas -/
theorem fn_okDL {G : Gam} {P : Program} {w0 : World} {mg : Str → Option Value} {base : Heap} {x qual : Str} {st : Stmt} {f : Addr} {fd : FuncData} {N ps : List Str} {k n m : Nat} {body : DStm} (F : Fun G.K x qual st f fd) (S : FnScope N ps (defScope st)) (hn : ps.length = n) (hm : N.length - n = m)
    (T : Nat → LamT)
    (hbody : ∀ (cdv : Value), fd.code = cdv → ∀ (A : Around) (outer : List Env) (s : Shared) (H : Hp) (E : XK), Room k (A.deeper (envOfC qual (defScope st) s.heap.objs.size f cdv)) →
      Takes (cxOf (L2.CX P w0) P w0 G.K mg base N qual (defScope st) f cdv A outer s H E) (fun c d _ H => E c d H) → PassesOwn (model P w0) (A.deeper (envOfC qual (defScope st) s.heap.objs.size f cdv)) (envOfC qual (defScope st) s.heap.objs.size f cdv) (cxOf (L2.CX P w0) P w0 G.K mg base N qual (defScope st) f cdv A outer s H E).xe →
      PDSs (G.sw (T s.heap.objs.size).lam (T s.heap.objs.size).lamM) (fun c d _ H => E c d H) (cxOf (L2.CX P w0) P w0 G.K mg base N qual (defScope st) f cdv A outer s H E) (defBody st) body) : FnOk P w0 G.K mg base (L2.CX P w0) (k + 1) f fd ps (spG G n (fnDL n body m)) := by
  obtain ⟨oc, od, kV, doc, pm, an, cdv, ct, osl, rfl, lk, hcd⟩ := F.ex
  refine fn_of lk hcd S (fun vs H Q E h => by rw [h.1, hn]) fun A outer s H vs Q E hr h => ?_
  refine ⟨_, hbody cdv rfl A outer s H E hr (takes_of rfl rfl rfl rfl) (passes_of rfl), ?_⟩
  obtain ⟨hl, w, S', ds, fok, rs, q⟩ := h
  have hd : ds.length = n := by rw [← rs.length]; exact hl
  unfold fnDL at q
  by_cases hno : noLams ds = true ∧ noLamS S' = true
  case neg => rw [if_neg hno] at q; exact q.elim
  rw [if_pos hno] at q
  rw [start_eq (m := m) (by rw [hl]; exact hm)]
  have fok' := fok.sw (lam := (T s.heap.objs.size).lam) (lamM := (T s.heap.objs.size).lamM) (.inl hno.2)
  have rs' := rs.sw (lam := (T s.heap.objs.size).lam) (lamM := (T s.heap.objs.size).lamM) (.inl hno.1)
  refine ⟨⟨w, H, [], none⟩, w, _, Ok.start fok' rs' m, ?_⟩
  unfold fnD at q
  rw [if_pos hd] at q
  cases e : body ⟨ds.map Sl.val ++ List.replicate m .un, S'⟩ with
  | stuck => rw [e] at q; exact q.elim
  | exc x s' =>
    rw [e] at q
    replace q : PostF G (Rep G) w H (if noLamF x.fs = true ∧ noLamS s'.st = true then .exc x s'.st else .stuck) Q E := q
    by_cases hx : noLamF x.fs = true ∧ noLamS s'.st = true
    case neg => rw [if_neg hx] at q; exact q.elim
    rw [if_pos hx] at q
    exact fun w' σ' c dd H' le ok' rx => q w' c dd H' ok'.nx (ok'.fok.bk (.inl hx.2)) (rx.bk (.inl hx.1))
  | ok o s' =>
    rw [e] at q
    have key : ∀ d, PostF G (Rep G) w H (if noLam d = true ∧ noLamS s'.st = true then .ok d s'.st else .stuck) Q E → ∀ (w' : Wd) (v : L2.St × V) (H' : Hp), Ok (G.sw (T s.heap.objs.size).lam (T s.heap.objs.size).lamM) ⟨w, H, [], none⟩ w' s' v.1 H' → Rep (G.sw (T s.heap.objs.size).lam (T s.heap.objs.size).lamM) w' v.2 d → Q v.2 H' := fun d q w' v H' ok' r' => by
      by_cases hx : noLam d = true ∧ noLamS s'.st = true
      case neg => rw [if_neg hx] at q; exact q.elim
      rw [if_pos hx] at q
      exact q w' v.2 H' ok'.nx (ok'.fok.bk (.inl hx.2)) (r'.bk (.inl hx.1))
    cases o with
    | nx => exact fun w' σ' H' le ok' => key .non q w' (σ', .non) H' ok' .non
    | rt d => exact fun w' σ' v H' le ok' r' => key d q w' (σ', v) H' ok' r'
    | bk => exact q.elim
    | ct => exact q.elim
/-! ### a lambda called in the def that it was handed to -/
abbrev LamR := String → List Cell → Res (List Cell) D
def eAct (Λ : LamR) (i : Nat) : DE := fun s => match s.sl[i]? with
  | some (.val (.lam k)) => lift s (Λ k s.st)
  | _ => .stuck
def stripS : Sl → Sl
  | .val d => .val d
  | _ => .un
def lamRun (b : DE) (sl : List Sl) (st : List Cell) : Res (List Cell) D := match b ⟨sl.map stripS, st⟩ with
  | .ok d s' => .ok d s'.st
  | .exc x s' => .exc x s'.st
  | .stuck => .stuck
def lamR (bs : String → Option DE) (sl : List Sl) : LamR := fun k st => match bs k with
  | some b => lamRun b sl st
  | none => .stuck
def eCallL (n : Nat) (g : LamR → DFn) (bs : String → Option DE) (fa : DA) : DE := fun s => (fa s).bind fun ds s1 => if ds.length = n then lift s1 (g (lamR bs s1.sl) ds s1.st) else .stuck
theorem Ok.strip {G : Gam} {κ : Bs} {w w' : Wd} {s : DS} {σ : L2.St} {H H' : Hp} {S' : List Cell} (h : Ok G κ w s σ H) (le : w.le w') (f : FOk G w' S' H') : Ok G ⟨w', H', [], none⟩ w' ⟨s.sl.map stripS, S'⟩ σ H' := by
  have no : ∀ (i : Nat) (x : Sl), (s.sl.map stripS)[i]? = some x → x.own = false := fun i x e => by
    rw [List.getElem?_map] at e
    cases q : s.sl[i]? with
    | none => rw [q] at e; cases e
    | some y => rw [q] at e; cases e; cases y <;> rfl
  refine ⟨f, .refl _ _, by simp [h.len], fun i d e => ?_, fun i x e o => ?_, fun i j x y a e1 e2 o1 o2 _ _ => ?_, fun p hp => by simp at hp, fun a z => nomatch z⟩
  · replace e : (s.sl.map stripS)[i]? = some (.val d) := e
    rw [List.getElem?_map] at e
    cases q : s.sl[i]? with
    | none => rw [q] at e; cases e
    | some y =>
      rw [q] at e
      cases y with
      | val d' =>
        cases e
        obtain ⟨v, h1, h2⟩ := h.val i d q
        exact ⟨v, h1, h2.mono le⟩
      | _ => cases e
  · rw [no i x e] at o; cases o
  · rw [no i x e1] at o1; cases o1
/-- the words while w stands below -/
def Gam.at (G : Gam) (w : Wd) : Gam := G.sw (fun k f w' => G.lam k f w' ∧ w.le w') (fun k f a b le h => ⟨G.lamM k f a b le h.1, h.2.trans le⟩)
/-- the bodies of a maker's lambdas -/
structure LamB (G : Gam) (X : Cx) (k : Nat) (pr : Arguments) (bd : Expr) (sc : Scope) (b : DE) : Prop where
  L : LamX.LamS X.env.scope sc
  bind : ∀ (q : Str) (cl : List (Str × Addr)) (pm cv ctv : Value), bindArgs (PySem.W.kla_fn "<lambda>" q pr bd sc cl pm cv ctv) ⟨[], []⟩ = pure []
  body : ∀ (A : Around) (outer : List Env) (s : Shared) (H : Hp) (E : XK) (f c' : Addr), Room k (A.deeper (LamX.lamEnv X sc s.heap.objs.size f c')) → Takes (LamX.lamCx X A outer s H E sc f c') (fun c d _ H => E c d H) →
    PD G (fun c d _ H => E c d H) (LamX.lamCx X A outer s H E sc f c') bd b
def LamsOk (G : Gam) (X : Cx) (T : LamT) (k : Nat) (bs : String → Option DE) : Prop := ∀ (n : String) (b : DE), bs n = some b → ∃ pr bd sc, T.site n = some (pr, bd, sc) ∧ LamB G X k pr bd sc b
section
variable {G : Gam} {W : WX} {X : Cx}
theorem pd_act {T : LamT} {bs : String → Option DE} {pins : List (Addr × Obj)} {σ : L2.St} {H : Hp} {sh : Shared} {κ : Bs} {w : Wd} {s : DS} {k i : Nat} {Ng : List Str} {qg : Str} {sg : Scope} {g : Addr} {cdg : Value} {Eg : XK} {pn : List (Addr × Obj)} {xe : Value → Shared → Prop} {a : Str} {Wz : WX} {p1 p2 : Pos}
    (I : Inv X pins σ H sh) (ok : Ok G κ w s σ H) (GL : ∀ n f w', G.lam n f w' → T.lam n f w') (hq : T.q = X.env.qual ++ "<lambda>") (hcl : T.cells = X.env.cells) (hbs : LamsOk G X T k bs)
    (tk : Takes ((cxOf (L2.CX X.prog X.w) X.prog X.w X.K X.mg X.base Ng qg sg g cdg X.A X.stack sh H Eg).tr pn xe) Wz) (hr : Room (k + 1) (X.A.deeper (envOfC qg sg sh.heap.objs.size g cdg)))
    (hN : Ng[i]? = some a) (hv : Vis sg a) (hd : (a == ("__debug__" : Str)) = false := by decide) (hcd : (a == ("__classdict__" : Str)) = false := by decide) :
    PD (G.at w) Wz ((cxOf (L2.CX X.prog X.w) X.prog X.w X.K X.mg X.base Ng qg sg g cdg X.A X.stack sh H Eg).tr pn xe) (.Call (.Name a p1) [] [] p2) (eAct (lamR bs s.sl) i) := by
  refine ⟨fun pinsZ sZ σZ HZ Q IZ ⟨κZ, wZ, dZ, okZ, q⟩ => ?_⟩
  have ⟨n, e⟩ : ∃ n, dZ.sl[i]? = some (.val (.lam n)) := by
    unfold eAct at q
    split at q
    · exact ⟨_, by assumption⟩
    · exact q.elim
  simp only [eAct, e] at q
  obtain ⟨v, hs, rep⟩ := okZ.val i _ e
  cases rep with
  | @lam f _ hl =>
  obtain ⟨hl, le⟩ := hl
  have ⟨b, hb⟩ : ∃ b, bs n = some b := by
    unfold lamR at q
    split at q
    · exact ⟨_, by assumption⟩
    · exact q.elim
  simp only [lamR, hb] at q
  obtain ⟨pr, bd, sc, hsite, B⟩ := hbs n b hb
  obtain ⟨pr', bd', sc', pm, c', ctv, hsite', hF, hC⟩ := GL _ _ _ hl
  rw [hsite] at hsite'
  cases hsite'
  have hf0 := okZ.fok.sub _ _ hF
  have hc0 := okZ.fok.sub _ _ hC
  refine wpAny_Call_Name_kw (thn ((pe_var (pos := p1) (i := i) hN hv hd hcd).run pinsZ sZ σZ HZ (fun v H1 => v = .ref f ∧ H1 = HZ) IZ ⟨.ref f, hs, rfl, rfl⟩) fun u s1 ⟨v, H1, I1, r1, q1⟩ => ?_)
  obtain ⟨ev, eH⟩ := q1
  subst ev
  rw [eH] at I1
  obtain rfl : u = Value.ref f := r1
  have of1 : s1.heap.get? f = some (PySem.W.kla_obj "<lambda>" T.q pr bd sc (cloFrom T.cells sc.names []) pm c' ctv) := (I1.hok f _ hf0).1
  obtain ⟨⟨oc, vs, t, hoc, hdc, hvc⟩, _, _⟩ := I1.hok c' _ hc0
  rw [hq, hcl] at of1
  rw [hq] at hvc
  refine PySem.W.callWith_F0 ⟨_, _, _, _, of1⟩ ?_
  have un : Un (frs X.stack) [] H HZ sh.heap s1.heap := I1.base
  have rc : codeAny (model X.prog X.w) (X.A.deeper (envOfC qg sg sh.heap.objs.size g cdg)) (.call (.ref f) ⟨[], []⟩) (CR (L2.CX X.prog X.w) (envOfC qg sg sh.heap.objs.size g cdg :: X.stack) X.prog X.w HZ s1 Q (WE Wz σZ)) s1 := by
    refine PySem.W.kla_callFunE hr.depth of1 rfl B.L.co B.L.gen rfl ⟨c', oc, vs, t, rfl, hoc, hdc, hvc⟩ ?_
    rw [B.bind]
    refine wpAny_pure (wpAny_newFunctionEnv (fun y hy => (B.L.own y hy).2) (fun y hy => absurd hy (by simp)) (fun h₁ hns hsb => ⟨I1.nolimit.fresh _ hsb, ?_⟩) B.L.kind)
    show codeAny _ _ (.expr bd (LamX.lamEnv X sc s1.heap.objs.size f c')) _ _
    have kp : ∀ b o, s1.heap.get? b = some o → h₁.get? b = some o := fun b o e => hsb.extBut b o (Nat.ne_of_lt (Heap.lt_size e)) (Heap.get?_push_of_some _ e)
    have J : Inv (LamX.lamCx X (X.A.deeper (envOfC qg sg sh.heap.objs.size g cdg)) (envOfC qg sg sh.heap.objs.size g cdg :: X.stack) s1 HZ (WE Wz σZ) sc f c') [] σ HZ { s1 with heap := h₁, toks := s1.toks + ([] : List (Str × Value)).length } :=
      LamX.lam_start2 I B.L I1.env0 hr.hd un hns kp
    have okB := ok.strip le (okZ.fok.bk (.inr fun _ _ z => z.1))
    have ht : tD G (fun c d _ H => WE Wz σZ c d H) b σ HZ Q := by
      refine ⟨_, _, _, okB, ?_⟩
      unfold lamRun at q
      cases er : b ⟨s.sl.map stripS, dZ.st⟩ with
      | stuck => rw [er] at q; exact q.elim
      | ok d s' =>
        rw [er] at q
        intro w' v' H' le' ok' r'
        exact q w' v' H' le' (okZ.step ok'.nx (ok'.fok.sw (.inr fun _ _ z => ⟨z, le.trans le'⟩))) (r'.sw (.inr fun _ _ z => ⟨z, le.trans le'⟩))
      | exc x s' =>
        rw [er] at q
        intro w' cl dd H' le' ok' r'
        exact q w' cl dd H' le' (okZ.step ok'.nx (ok'.fok.sw (.inr fun _ _ z => ⟨z, le.trans le'⟩))) (r'.sw (.inr fun _ _ z => ⟨z, le.trans le'⟩))
    refine PySem.W.kla_codeExpr (wpAny_mono ((B.body _ _ s1 HZ _ _ _ (hr.deeper _) (takes_of rfl rfl rfl rfl)).run [] _ _ HZ Q J ht) (fun v s' hq => ?_) fun e s' hq => hq)
    obtain ⟨w', H', J', rv, q⟩ := hq
    exact ⟨w', H', J'.os, J'.bare, J'.base, J'.hok, rv, q⟩
  refine wpAny_call (codeAny_mono rc fun r s' hq => ?_)
  cases r with
  | error e => exact passAt tk σZ pinsZ HZ s1 e s' I1 hq
  | ok fl =>
    cases fl with
    | ret u => exact I1.after hq
    | next => exact False.elim hq
    | brk => exact False.elim hq
    | cont => exact False.elim hq
/-- the body of a def that is handed lambdas -/
def BodyL (G : Gam) (P : Program) (w0 : World) (mg : Str → Option Value) (base : Heap) (k : Nat) (N : List Str) (qual : Str) (st : Stmt) (f : Addr) (a : Str) (i : Nat) (body : LamR → DStm) : Prop :=
  ∀ (Λ : LamR) (cdv : Value) (A : Around) (outer : List Env) (s : Shared) (H : Hp) (E : XK), Room k (A.deeper (envOfC qual (defScope st) s.heap.objs.size f cdv)) →
    Takes (cxOf (L2.CX P w0) P w0 G.K mg base N qual (defScope st) f cdv A outer s H E) (fun c d _ H => E c d H) → PassesOwn (model P w0) (A.deeper (envOfC qual (defScope st) s.heap.objs.size f cdv)) (envOfC qual (defScope st) s.heap.objs.size f cdv) (cxOf (L2.CX P w0) P w0 G.K mg base N qual (defScope st) f cdv A outer s H E).xe →
    (∀ (pn : List (Addr × Obj)) (xe : Value → Shared → Prop) (W : WX) (p1 p2 : Pos), Takes ((cxOf (L2.CX P w0) P w0 G.K mg base N qual (defScope st) f cdv A outer s H E).tr pn xe) W → PD G W ((cxOf (L2.CX P w0) P w0 G.K mg base N qual (defScope st) f cdv A outer s H E).tr pn xe) (.Call (.Name a p1) [] [] p2) (eAct Λ i)) →
    PDSs G (fun c d _ H => E c d H) (cxOf (L2.CX P w0) P w0 G.K mg base N qual (defScope st) f cdv A outer s H E) (defBody st) (body Λ)
theorem pd_callL {T : LamT} {bs : String → Option DE} {k n m i : Nat} {f : Addr} {fd : FuncData} {N ps : List Str} {body : LamR → DStm} {x qual a : Str} {st : Stmt} {p pos : Pos} {e : Expr} {es : List Expr} {fa : DA} (hK : G.K = X.K) (F : Fun X.K x qual st f fd) (S : FnScope N ps (defScope st)) (hn : ps.length = n) (hm : N.length - n = m)
    (GL : ∀ n f w', G.lam n f w' → T.lam n f w') (hq : T.q = X.env.qual ++ "<lambda>") (hcl : T.cells = X.env.cells) (hbs : LamsOk G X T k bs)
    (hbody : ∀ w, BodyL (G.at w) X.prog X.w X.mg X.base (k + 1) N qual st f a i body) (hN : N[i]? = some a) (hv : Vis (defScope st) a)
    (hr : Room (k + 2) X.A) (hg : Gl X x) (hmg : X.mg x = some (.ref f)) (hb : Binds X.K fd ps []) (tk : Takes X W) (ha : PDA G W X (e :: es) fa) (hdb : (x == ("__debug__" : Str)) = false := by decide) (hda : (a == ("__debug__" : Str)) = false := by decide) (hcd : (a == ("__classdict__" : Str)) = false := by decide)
    (he : starEach (e :: es) X.env = (false, eval e X.env) :: starEach es X.env := by rfl) (hpl : (backTo pos (starEach es X.env)).any (·.1) = false := by rfl) : PD G W X (.Call (.Name x p) (e :: es) [] pos) (eCallL n (fun Λ => fnD n (body Λ) m) bs fa) := by
  refine ⟨fun pins s σ H Q I h => ?_⟩
  obtain ⟨κ, w, ds, ok, q⟩ := h
  refine wpAny_Call_Name_kw (ld_glob I hg hmg ?_ hdb)
  have hh : tDA G W fa σ H fun vs H1 => ∃ d s1 w1, w.le w1 ∧ Ok G κ w1 s1 σ H1 ∧ Reps G w1 vs d ∧ PostG G W (Rep G) κ w1 σ (if d.length = n then lift s1 (fnD n (body (lamR bs s1.sl)) m d s1.st) else .stuck) Q := ⟨κ, w, ds, ok, PostG.bind q⟩
  refine PySem.W.callWith_K (h₀ := X.base) I.ok.mod.kin F.kp (thn (ha.run pos pins s σ H _ I hh) fun us s1 ⟨vs, H1, I1, r, d, s2, w1, le, ok1, rs, q1⟩ => ⟨I1.kIn, ?_⟩) he hpl
  by_cases c : d.length = n
  case neg => rw [if_neg c] at q1; exact q1.elim
  rw [if_pos c] at q1
  have q2 := postF_of ok1 q1
  obtain ⟨oc, od, kV, doc, pm, an, cdv, ct, osl, rfl, lk, hcode⟩ := F.ex
  have hl : vs.length = n := by rw [rs.length]; exact c
  have hul : us.length = ps.length := by rw [← r.length, hl, hn]
  have rc : codeAny (model X.prog X.w) X.A (.call (.ref f) ⟨us, []⟩) (CR (L2.CX X.prog X.w) X.stack X.prog X.w H1 s1 Q (WE W σ)) s1 := by
    have hbd := hb s1 us I1.kIn (by simpa using hul)
    rw [List.append_nil] at hbd
    refine LamX.run_ofS (N := N) (ps := ps) (us := us) (vs := vs) lk hcode S hr I1.env0 hbd r (by rw [hl, hn]) fun hr' => ?_
    have hb0 := hbody w1 (lamR bs s2.sl) cdv X.A X.stack s1 H1 (WE W σ) hr' (takes_of rfl rfl rfl rfl) (passes_of rfl) 
    have hK' : (G.at w1).K = X.K := hK
    rw [hK'] at hb0
    refine ⟨_, hb0 fun pn xe W' p1 p2 tk' => pd_act I1 ok1 GL hq hcl hbs tk' hr' hN hv hda hcd, ?_⟩
    rw [start_eq (m := m) (by rw [hl]; exact hm)]
    have fok' : FOk (G.at w1) w1 s2.st H1 := ok1.fok.sw (.inr fun _ _ z => ⟨z, .refl _⟩)
    have rs' : Reps (G.at w1) w1 vs d := rs.sw (.inr fun _ _ z => ⟨z, .refl _⟩)
    refine ⟨⟨w1, H1, [], none⟩, w1, _, Ok.start fok' rs' m, ?_⟩
    unfold fnD at q2
    rw [if_pos c] at q2
    cases e : body (lamR bs s2.sl) ⟨d.map Sl.val ++ List.replicate m .un, s2.st⟩ with
    | stuck => rw [e] at q2; exact q2.elim
    | exc x s' =>
      rw [e] at q2
      exact fun w' σ' c dd H' le ok' rx => q2 w' c dd H' ok'.nx (ok'.fok.bk (.inr fun _ _ z => z.1)) (rx.bk (.inr fun _ _ z => z.1))
    | ok o s' =>
      rw [e] at q2
      cases o with
      | nx => exact fun w' σ' H' le ok' => q2 w' .non H' ok'.nx (ok'.fok.bk (.inr fun _ _ z => z.1)) .non
      | rt d => exact fun w' σ' v H' le ok' r' => q2 w' v H' ok'.nx (ok'.fok.bk (.inr fun _ _ z => z.1)) (r'.bk (.inr fun _ _ z => z.1))
      | bk => exact q2.elim
      | ct => exact q2.elim
  refine wpAny_call (codeAny_mono rc fun r s' hq => ?_)
  cases r with
  | error e => exact passAt tk σ pins H1 s1 e s' I1 hq
  | ok fl =>
    cases fl with
    | ret u => exact I1.after hq
    | next => exact False.elim hq
    | brk => exact False.elim hq
    | cont => exact False.elim hq
end
end DL
set_option maxRecDepth 100000
set_option maxHeartbeats 4000000
set_option autoImplicit false
namespace DL
open PySem PySem.Spec PyProof.Rows L2
/-! ### the law's end, with tables of code objects -/
def tabP (P : Addr) (q : Str) : Addr → Hp → HO → Prop := fun a F o => a = P ∧ ∃ ps : Array Value, o = .tbl ps ∧ TriplesOk ps.toList ∧ ∀ (pos : Pos) (cv : Value), codeAmong pos ps.toList = some cv → ∃ c, cv = .ref c ∧ F c = some (LamX.CodeO c q)
theorem tabP_nil (P : Addr) (q : Str) (F : Hp) : tabP P q P F (.tbl #[]) := ⟨rfl, #[], rfl, True.intro, fun pos cv hc => by
  have hc : codeAmong pos [] = some cv := hc
  simp [codeAmong] at hc⟩
def tabG (ms : List (String × Addr × Str)) : String → Addr → Hp → HO → Prop := fun k a F o => ∃ m, ms.lookup k = some m ∧ tabP m.1 m.2 a F o
theorem tabG_mono (ms : List (String × Addr × Str)) (k : String) (a : Addr) (F F' : Hp) (o : HO) (e : ∀ a o, F a = some o → F' a = some o) : tabG ms k a F o → tabG ms k a F' o := fun ⟨m, hm, h0, ps, h1, h2, h3⟩ => ⟨m, hm, h0, ps, h1, h2, fun pos cv hc => by
  obtain ⟨c, z1, z2⟩ := h3 pos cv hc
  exact ⟨c, z1, e _ _ z2⟩⟩
theorem glam_of {G : Gam} {ms : List (String × Addr × Str)} {tk : String} {T : LamT} (ht : G.tab = tabG ms) (hl : ms.lookup tk = some (T.P, T.q)) (hlam : ∀ k f w, G.lam k f w ↔ T.lam k f w) : GLam G tk T := by
  refine ⟨fun a F o => ?_, fun k f w _ => hlam k f w⟩
  rw [ht]
  constructor
  · rintro ⟨m, hm, h⟩
    rw [hl] at hm
    cases hm
    exact h
  · intro h
    exact ⟨_, hl, h⟩
def spLawT (K : PySem.W.Frag) (Ps : List Addr) : Sp := fun vs H Q _ => ∃ (a : Addr) (ns : List Int), vs = [.ref a] ∧ SqL K H a (ns.map V.int) ∧ ns.length ≤ 63 ∧ (∀ z ∈ ns, Builtin.Int.intBits z ≤ 1048576) ∧ (∀ P ∈ Ps, H P = some (.tbl #[])) ∧ ∀ H', Q (.bl true) H'
theorem law_endT {G : Gam} {P : Program} {w0 : World} {mg : Str → Option Value} {base : Heap} {k : Nat} {f : Addr} {fd : FuncData} {ps : List Str} {g : DFn} {Ms : List (String × Addr)} (F : FnOk P w0 G.K mg base (L2.CX P w0) k f fd ps (spG G 1 g)) (nd : (Ms.map (·.2)).Nodup)
    (ht : ∀ m ∈ Ms, ∀ F, G.tab m.1 m.2 F (.tbl #[]))
    (h : ∀ ns : List Int, ns.length ≤ 63 → (∀ z ∈ ns, Builtin.Int.intBits z ≤ 1048576) → ∃ S, g [.scr (ns.map D.int)] (Ms.map fun m => .tab m.1) = .ok (.bl true) S) : FnOk P w0 G.K mg base (L2.CX P w0) k f fd ps (spLawT G.K (Ms.map (·.2))) :=
  F.imp fun vs H Q E ⟨a, ns, e, hS, hl, hb, hP, q⟩ => by
    obtain ⟨S, hg⟩ := h ns hl hb
    subst e
    have hF : ∀ b, b ∉ Ms.map (·.2) → (fun b => if b ∈ Ms.map (·.2) then none else H b : Hp) b = H b := fun b hb => if_neg hb
    have nt : ∀ o, H a = some o → (∀ ps, o ≠ .tbl ps) → a ∉ Ms.map (·.2) := fun o e n z => n #[] (Option.some.inj (e.symm.trans (hP a z)))
    refine ⟨rfl, ⟨fun b => if b ∈ Ms.map (·.2) then none else H b, Ms.map (·.2)⟩, Ms.map fun m => .tab m.1, [.scr (ns.map D.int)], ⟨fun b o e => ?_, by simp, fun n b c e1 e2 => ?_, nd, fun b hb => if_pos hb⟩, .cons (.scr ?_ (Reps.of_ints ns)) .nil, ?_⟩
    · by_cases z : b ∈ Ms.map (·.2)
      · have e : (if b ∈ Ms.map (·.2) then none else H b) = some o := e
        rw [if_pos z] at e; cases e
      · have e : (if b ∈ Ms.map (·.2) then none else H b) = some o := e
        rw [if_neg z] at e; exact e
    · rw [List.getElem?_map] at e1 e2
      cases hm : Ms[n]? with
      | none => rw [hm] at e1; cases e1
      | some m =>
        rw [hm] at e1 e2
        cases e1; cases e2
        have mem := List.mem_of_getElem? hm
        exact ⟨_, hP _ (List.mem_map.mpr ⟨m, mem, rfl⟩), ht m mem _⟩
    · rcases hS with (z | ⟨o, z⟩) | z
      · exact .inl (.inl ((hF a (nt _ z fun _ => by simp)).trans z))
      · exact .inl (.inr ⟨o, (hF a (nt _ z fun _ => by simp)).trans z⟩)
      · exact .inr z
    · rw [hg]
      intro w' v H' nx f r
      cases r
      exact q H'
/-- the tables of the makers -/
def TabsT (q : Program) (K : PySem.W.Frag) (h : Heap) : Prop := ∀ (y : Str) (c P : Addr), ((recsOf q).find? (fun e => e.name == y)).isSome = true → PySem.W.tabIn K y = some (c, P) → PySem.W.CodeHd h c P ∧ h.get? P = some { cls := .none, data := .fields #[] }
theorem walk_ofD {l : PySem.W.OpenLaw} {n k : Nat} {q : Program} {loose : List Str} {XP : (Str → Option Value) → Heap → Prop} {YP : World → Heap → Prop} {d : DefRec} {K : Params → PySem.W.Frag} {CX : World → CXT} {x : Str}
    (hn : l.most = some n) (hn2 : n ≤ sizeLine) (hdf : d.params.defaults = []) (hr : Room k callerA) (hY : ∀ (w : World) (h : Heap), YP w h → (K w.params).In h)
    (F : ∀ (w : World) (mg : Str → Option Value) (fa : Addr) (h : Heap), (K w.params).In h → h.Ns mainGlobals mg → mg d.name = some (.ref fa) → TabsT q (K w.params) h → LamX.LawAtS l w (K w.params) (CX w) k n x mg fa h)
    (hCX : ∀ (w : World) (H : Hp) (s : Shared) (e : Value) (s' : Shared), CX w [] H s (fun _ _ _ => False) e s' → False) :
    PySem.W.WalkO q loose XP YP l.row.toRowW d [] (fun f vs => PySem.call f vs) := by
  refine Att.attach_callB hn hdf fun w s₀ s₁ mg mb fa o pm cd doc a vs ns G Y ho hd hcd hmg hobj hints hlen hbits hg => ?_
  have KX := hY w _ Y
  have tt : TabsT q (K w.params) s₁.heap := fun y c P hr ht => by
    obtain ⟨dd, hdd⟩ := Option.isSome_iff_exists.mp hr
    exact PySem.W.tab_of G.T KX hdd ht
  obtain ⟨fd, cs, sp, hT, nT, C, hb, hsp, hF⟩ := F w mg fa _ KX G.T.g hmg tt
  exact LamX.law_callTs KX G.T.g G.T.b G.T.builtins G.T.nolimit hg hT nT C G.T.bmain hobj hints (Nat.le_trans hlen hn2) hr hF hb (fun H hH hS => hsp H a ns hlen hbits hH hS) fun H e s' => hCX w H s₁ e s'
end DL
set_option maxRecDepth 100000
set_option maxHeartbeats 4000000
set_option autoImplicit false
namespace DL
open PySem PySem.Spec PyProof.Rows L2
/-! ### own error classes: the facts of the head -/
/-- the text of an own error's __init__ -/
def XSh (st : Stmt) (slf x f : Str) : Prop := ∃ (ar : Arg) (p0 p1 p2 p3 p4 p5 p6 p7 p8 p9 : Pos),
  defBody st = [.Expr (.Call (.Attribute (.Call (.Name "super" p0) [] [] p1) "__init__" p2) [.Name x p3] [] p4) p5, .Assign [.Attribute (.Name slf p6) f p7] (.Name x p8) p9] ∧
  ((defArgs st).posonlyargs ++ (defArgs st).args).head? = some ar ∧ ar.arg = slf ∧
  (defScope st).names.lookup ("super" : Str) = some .globalImplicit ∧ (defScope st).names.lookup ("__class__" : Str) = some .free ∧ (defScope st).names.lookup slf = some .local ∧ (defScope st).names.lookup x = some .local ∧ (∀ z ∈ (defScope st).names, z.2 ≠ .cell) ∧
  (defScope st).kind = .function ∧ (defScope st).isCoroutine = false ∧ (defScope st).isGenerator = false ∧ (p2.endLine == p4.line) = true
def xcB (K : PySem.W.Frag) (C fI : Addr) (f : Str) : Bool :=
  (PySem.W.findIn K (.ref C) "__setattr__" == some (some (.builtin "object.__setattr__"))) && ((PySem.W.subIn K (.ref C) (.type "BaseException") == some true) && ((PySem.W.typeIn K (.ref C) == some (.type "type")) && (PySem.W.keepIn K (.ref C) && ((PySem.W.typeIn K (.ref fI) == some (.type "function")) &&
  ((PySem.W.mroIn K C (.ref C) == some true) && ((PySem.W.ks_superIn K C C "__init__" == some (some (.builtin "ValueError.__init__"))) && ((PySem.W.subIn K (.ref C) (.type "ValueError") == some true) && ((PySem.W.nsIn K cStatics "thirdparty.any" == some none) && ((PySem.W.findIn K (.ref C) f == some none) && xfB K C)))))))))
structure XFacts (P : Program) (G : Gam) (mg : Str → Option Value) (c : String) (C fI : Addr) (fd : FuncData) (slf x f : Str) : Prop where
  T : XCls G G.K c C fI
  I : XIn P G.K mg C fI fd slf x f
  F : XfC G.K C
  B : Binds G.K fd [slf, x] []
theorem xfacts_of {P : Program} {G : Gam} {mg : Str → Option Value} {c : String} {C fI NS cda cc : Addr} {st : Stmt} {slf x f nm q name qual file : Str} {bs bm sub : List Value} {sn : List Str} {ab : Bool} {col : Option Bool} {dd : Option Addr} {k0 k1 k2 k3 k5 : Option Value}
    {oc dV kV doc pm ct ccl cl : Value} {od an cdd cld : Option Addr} {osl ccs csl : Array (Option Value)} {vs : Array Value} {tf : Tok}
    (hct : G.ct c = some C) (xl : G.K.lookup C = some (excClassObj nm q C NS bs bm true sn sub ab col dd k0 k1 k2 k3 k5 "ValueError.__new__")) (xr : PySem.HandSPX.refsVE bm = true) (xi : PySem.W.findIn G.K (.ref C) "__init__" = some (some (.ref fI)))
    (xf : G.K.lookup fI = some ⟨oc, od, .func (PySem.W.fnX name qual (defArgs st) (defBody st) (defScope st) [("__class__", cc)] dV kV doc pm an (.ref cda) ct), osl⟩) (xc : PySem.W.codeIn G.K (.ref cda) qual = true) (xd : G.K.lookup cda = some ⟨ccl, cdd, .fields vs, ccs⟩) (xv : vs[2]? = some (.str file tf))
    (xe : ((P.main.file : Str) == file) = true) (xk : G.K.lookup cc = some ⟨cl, cld, .cell (some (.ref C)), csl⟩) (xB : xcB G.K C fI f = true) (xt : (P.main.scope.names.lookup ("super" : Str)).isSome = false) (xs : mg "super" = none) (sh : XSh st slf x f)
    (d1 : (slf == ("__debug__" : Str)) = false) (d2 : (x == ("__debug__" : Str)) = false) (d3 : slf ≠ x) (hb : ∀ us : List Value, us.length = 2 → bindArgs (PySem.W.fnX name qual (defArgs st) (defBody st) (defScope st) [("__class__", cc)] dV kV doc pm an (.ref cda) ct) ⟨us, []⟩ = pure ([slf, x].zip us)) :
    XFacts P G mg c C fI (PySem.W.fnX name qual (defArgs st) (defBody st) (defScope st) [("__class__", cc)] dV kV doc pm an (.ref cda) ct) slf x f := by
  unfold xcB at xB
  simp only [Bool.and_eq_true, beq_iff_eq] at xB
  obtain ⟨b1, b2, b3, b4, b5, b6, b7, b8, b9, b10, b11⟩ := xB
  obtain ⟨ar, p0, p1, p2, p3, p4, p5, p6, p7, p8, p9, s1, s2, s3, s4, s5, s6, s7, s8, s9, s10, s11, s12⟩ := sh
  have oex : OexC G.K C := ⟨⟨nm, q, NS, bs, bm, sn, sub, ab, col, dd, k0, k1, k2, k3, k5, xl, xr⟩, b1, b2, b3, b4⟩
  refine ⟨⟨hct, xi, b5, oex⟩, ⟨⟨oc, doc, pm, dV, kV, ct, ccl, cl, od, an, cdd, cld, osl, ccs, csl, cda, cc, name, qual, file, defArgs st, defScope st, vs, tf, ar, p0, p1, p2, p3, p4, p5, p6, p7, p8, p9, by rw [s1], xf, xc, s2, s3, xd, xv, xe, xk, s4, s5, s6, s7, s8, s9, s10, s11, s12⟩, xt, xs, b6, b7, b8, b9, oex, b10, d1, d2, d3⟩, xfB_ok b11, .all hb⟩
/-! ### handlers without addresses -/
def HdR.bare (h : HdR) : HdR := ⟨.none, h.oi, h.m, h.f⟩
theorem catch_bare (x : Xc) : ∀ (hs : List HdR) (s : DS), catchD (hs.map HdR.bare) x s = catchD hs x s
  | [], s => rfl
  | ⟨_, none, m, f⟩ :: r, s => by
    show (match m x.cls with | some true => noX (f x s) | some false => catchD (r.map HdR.bare) x s | none => .stuck) = _
    rw [catch_bare x r s]
    rfl
  | ⟨_, some i, m, f⟩ :: r, s => by
    show (match m x.cls with | some true => (if i < s.sl.length then unD i (noX (f x ⟨s.sl.set i .un, s.st⟩)) else .stuck) | some false => catchD (r.map HdR.bare) x s | none => .stuck) = _
    rw [catch_bare x r s]
    rfl
theorem try_bare (b : DStm) (hs : List HdR) : sTry b (hs.map HdR.bare) = sTry b hs := by
  funext s
  unfold sTry
  cases b s with
  | exc x s1 => exact catch_bare x hs s1
  | ok o s1 => rfl
  | stuck => rfl
def hmT (yes no : List String) : String → Option Bool := fun k => if k ∈ yes then some true else if k ∈ no then some false else none
theorem mok_of {G : Gam} {K : PySem.W.Frag} {c : Value} {oi : Option Nat} {f : Xc → DStm} {yes no : List String} (h1 : ∀ k ∈ yes, ∀ C, G.ct k = some C → PySem.W.exmOne K (.ref C) c = some true) (h2 : ∀ k ∈ no, ∀ C, G.ct k = some C → PySem.W.exmOne K (.ref C) c = some false) : MOk G K ⟨c, oi, hmT yes no, f⟩ := by
  intro k b h C hC
  simp only [hmT] at h
  split at h
  · cases h; exact h1 k (by assumption) C hC
  · split at h
    · cases h; exact h2 k (by assumption) C hC
    · cases h
section
variable {G : Gam} {W : WX} {X : Cx}
theorem pds_tryB {bd : List Stmt} {g0 : ExceptHandler} {gs : List ExceptHandler} {hs : List HdR} {tpos : Pos} {fb : DStm} (est : X.stack = X.env :: X.outer) (efr : X.env.frame = some X.env.locals) (nd : X.N.Nodup) (tk : Takes X W)
    (hbd : ∀ (Wi : WX) (pn : List (Addr × Obj)) (xe : Value → Shared → Prop), Takes (X.tr pn xe) Wi → PassesOwn (model X.prog X.w) X.A X.env xe → PDSs G Wi (X.tr pn xe) bd fb) (hm : ∀ h ∈ hs, MOk G X.K h)
    (hh : HdA X (g0 :: gs) (hs.map fun h => (h.c, h.oi, tSu G h))) : PDS G W X (.Try bd (g0 :: gs) [] [] tpos) (sTry fb (hs.map HdR.bare)) := by
  rw [try_bare]
  exact pds_try est efr nd tk hbd hm hh
end
end DL
set_option maxRecDepth 100000
set_option maxHeartbeats 4000000
set_option autoImplicit false
namespace DL
open PySem PySem.Spec PyProof.Rows L2
/-! ### the lambdas of a text, in their order -/
abbrev LSite := Arguments × Expr × Scope
def lamsE : Nat → Expr → List LSite
  | 0, _ => []
  | n + 1, e => match e with
    | .Lambda a b s _ => [(a, b, s)]
    | .BoolOp _ vs _ => vs.flatMap (lamsE n)
    | .BinOp a _ b _ => lamsE n a ++ lamsE n b
    | .UnaryOp _ a _ => lamsE n a
    | .IfExp a b c _ => lamsE n a ++ lamsE n b ++ lamsE n c
    | .Compare a _ cs _ => lamsE n a ++ cs.flatMap (lamsE n)
    | .Call f as _ _ => lamsE n f ++ as.flatMap (lamsE n)
    | .Attribute a _ _ => lamsE n a
    | .Subscript a b _ => lamsE n a ++ lamsE n b
    | .List es _ => es.flatMap (lamsE n)
    | .Tuple es _ _ => es.flatMap (lamsE n)
    | _ => []
def lamsS : Nat → Stmt → List LSite
  | 0, _ => []
  | n + 1, s => match s with
    | .Return (some e) _ => lamsE 30 e
    | .Assign _ e _ => lamsE 30 e
    | .Expr e _ => lamsE 30 e
    | .AugAssign _ _ e _ => lamsE 30 e
    | .For _ e b _ _ => lamsE 30 e ++ b.flatMap (lamsS n)
    | .While e b _ _ => lamsE 30 e ++ b.flatMap (lamsS n)
    | .If e b c _ => lamsE 30 e ++ b.flatMap (lamsS n) ++ c.flatMap (lamsS n)
    | _ => []
def lamsOf (st : Stmt) : List LSite := (defBody st).flatMap (lamsS 12)
def siteOf (ns : List String) (st : Stmt) : String → Option LSite := fun k => (ns.zip (lamsOf st)).lookup k
section
variable {G : Gam} {W : WX} {X : Cx}
theorem lamsOk_nil {T : LamT} {k : Nat} : LamsOk G X T k (fun n => List.lookup n []) := fun n b h => by simp at h
theorem lamsOk_cons {T : LamT} {k : Nat} {n0 : String} {pr : Arguments} {bd : Expr} {sc : Scope} {b : DE} {L : List (String × DE)} (hs : T.site n0 = some (pr, bd, sc)) (B : LamB G X k pr bd sc b) (r : LamsOk G X T k (fun n => List.lookup n L)) : LamsOk G X T k (fun n => List.lookup n ((n0, b) :: L)) := fun n b' h => by
  have h : List.lookup n ((n0, b) :: L) = some b' := h
  by_cases e : n = n0
  · subst e
    rw [List.lookup_cons_self] at h
    cases h
    exact ⟨pr, bd, sc, hs, B⟩
  · have h1 : (n == n0) = false := beq_eq_false_iff_ne.mpr e
    simp only [List.lookup_cons, h1] at h
    exact r n b' h
theorem fn_stuck {P : Program} {w0 : World} {mg : Str → Option Value} {base : Heap} {f : Addr} {fd : FuncData} {ps : List Str} {k n : Nat} (hn : ps.length = n) : FnOk P w0 G.K mg base (L2.CX P w0) k f fd ps (spG G n (fun _ _ => .stuck)) :=
  ⟨fun vs H Q E h => by rw [h.1, hn], fun A outer s H args us vs Q E hr e0 hb r h => by
    obtain ⟨_, w, S, ds, _, _, q⟩ := h
    exact q.elim⟩
theorem BodyL.mono {P : Program} {w0 : World} {mg : Str → Option Value} {base : Heap} {j k : Nat} {N : List Str} {qual : Str} {st : Stmt} {f : Addr} {a : Str} {i : Nat} {body : LamR → DStm} (h : BodyL G P w0 mg base j N qual st f a i body) (hk : j ≤ k) : BodyL G P w0 mg base k N qual st f a i body :=
  fun Λ cdv A outer s H E hr => h Λ cdv A outer s H E (hr.mono hk)
end
theorem lawAt_of {G : Gam} {l : PySem.W.OpenLaw} {w : World} {k : Nat} {x : Str} {mg : Str → Option Value} {fa : Addr} {h : Heap} {fd : FuncData} {g : DFn} (Ms : List (String × Addr × Addr))
    (ht : ∀ m ∈ Ms, PySem.W.CodeHd h m.2.1 m.2.2 ∧ h.get? m.2.2 = some { cls := .none, data := .fields #[] }) (nl : ∀ m ∈ Ms, G.K.lookup m.2.2 = none) (nd : (Ms.map (·.2.2)).Nodup) (hb : ∀ (s : Shared) (u : Value), BindsTo s fd ⟨[u], []⟩ [(x, u)])
    (F : ∀ base : Heap, (∀ m ∈ Ms, LamX.TabB base mg m.2.1 m.2.2) → FnOk l.prog w G.K mg base (L2.CX l.prog w) k fa fd [x] (spG G 1 g)) (htab : ∀ m ∈ Ms, ∀ F, G.tab m.1 m.2.2 F (.tbl #[]))
    (hl : ∀ ns : List Int, ns.length ≤ 63 → (∀ z ∈ ns, Builtin.Int.intBits z ≤ 1048576) → ∃ S, g [.scr (ns.map D.int)] (Ms.map fun m => .tab m.1) = .ok (.bl true) S) : LamX.LawAtS l w G.K (L2.CX l.prog w) k 63 x mg fa h := by
  refine ⟨fd, Ms.map (·.2), spLawT G.K (Ms.map (·.2.2)), fun p hp => ?_, fun p hp => ?_, fun p hp => ?_, hb, fun H a ns h1 h2 h3 h4 => ⟨a, ns, rfl, h4, h1, h2, fun P hP => ?_, fun _ => rfl⟩, fun base _ _ tb => ?_⟩
  · obtain ⟨m, hm, rfl⟩ := List.mem_map.mp hp
    exact (ht m hm).2
  · obtain ⟨m, hm, rfl⟩ := List.mem_map.mp hp
    exact nl m hm
  · obtain ⟨m, hm, rfl⟩ := List.mem_map.mp hp
    exact (ht m hm).1
  · obtain ⟨m, hm, rfl⟩ := List.mem_map.mp hP
    exact h3 _ (List.mem_map.mpr ⟨m, hm, rfl⟩)
  · have e : Ms.map (·.2.2) = (Ms.map fun m => (m.1, m.2.2)).map (·.2) := by simp
    rw [e]
    refine law_endT (F base fun m hm => tb _ (List.mem_map.mpr ⟨m, hm, rfl⟩)) (by rw [← e]; exact nd) (fun m hm F => ?_) fun ns h1 h2 => ?_
    · obtain ⟨m', hm', rfl⟩ := List.mem_map.mp hm
      exact htab m' hm' F
    · have e2 : ((Ms.map fun m => (m.1, m.2.2)).map fun m => Cell.tab m.1) = Ms.map fun m => .tab m.1 := by simp
      rw [e2]
      exact hl ns h1 h2
end DL
set_option maxRecDepth 100000
set_option maxHeartbeats 4000000
set_option autoImplicit false
namespace DL
open PySem PySem.Spec PyProof.Rows L2
section
variable {G : Gam} {W : WX} {X : Cx}
/-! ### x in y, x not in y -/
def flD : D → Bool
  | .non => true
  | .bl _ => true
  | .int _ => true
  | .str _ => true
  | _ => false
def eqFl : D → D → Bool
  | .non, .non => true
  | .bl a, .bl b => a == b
  | .bl a, .int b => (if a then 1 else 0) == b
  | .int a, .bl b => a == (if b then 1 else 0)
  | .int a, .int b => a == b
  | .str a, .str b => a == b
  | _, _ => false
theorem fl_rep {w : Wd} {v : V} {d : D} (r : Rep G w v d) (h : flD d = true) : flatV v = true := by
  cases r <;> first | rfl | cases h
theorem eq_rep {w : Wd} {v u : V} {d e : D} (r : Rep G w v d) (r' : Rep G w u e) (h : flD d = true) (h' : flD e = true) : eqV v u = eqFl d e := by
  cases r <;> first | (cases h; done) | skip
  all_goals cases r' <;> first | (cases h'; done) | rfl | skip
  rename_i l m
  show (nm l == nm m) = (l == m)
  by_cases e : l = m
  · subst e; simp
  · rw [beq_eq_false_iff_ne.mpr e, beq_eq_false_iff_ne.mpr fun z => e (nm_inj z)]
theorem fls_rep {w : Wd} : ∀ {vs : List V} {ds : List D}, Reps G w vs ds → ds.all flD = true → vs.all flatV = true
  | _, _, .nil, _ => rfl
  | _, _, .cons a b, h => by
    rw [List.all_cons, Bool.and_eq_true] at h ⊢
    exact ⟨fl_rep a h.1, fls_rep b h.2⟩
theorem any_rep {w : Wd} {u : V} {e : D} (r' : Rep G w u e) (h' : flD e = true) : ∀ {vs : List V} {ds : List D}, Reps G w vs ds → ds.all flD = true → vs.any (fun y => eqV y u) = ds.any (fun y => eqFl y e)
  | _, _, .nil, _ => rfl
  | _, _, .cons a b, h => by
    rw [List.all_cons, Bool.and_eq_true] at h
    rw [List.any_cons, List.any_cons, eq_rep a r' h.1 h', any_rep r' h' b h.2]
def inS (neg : Bool) : D → D → Option D := fun x y => match x, y with
  | .str [c], .str l => some (.bl (if neg then !decide (c ∈ l) else decide (c ∈ l)))
  | _, _ => none
def inF (neg : Bool) : D → D → Option D := fun x y => match y with
  | .tup ds => if flD x = true ∧ ds.all flD = true then some (.bl (if neg then !(ds.any fun z => eqFl z x) else ds.any fun z => eqFl z x)) else none
  | .lst ds => if flD x = true ∧ ds.all flD = true then some (.bl (if neg then !(ds.any fun z => eqFl z x) else ds.any fun z => eqFl z x)) else none
  | _ => none
def inP (neg : Bool) : D → D → Option D := fun x y => match toPy x, toPy y with
  | some p, some (.list qs) => if SeqAt.shaped p && SeqAt.shaped (.list qs) then some (.bl (if neg then !(qs.any fun z => PyData.eqv z p) else qs.any fun z => PyData.eqv z p)) else none
  | _, _ => none
theorem nm_list (l : Nm) : (nm l).cps.toList = l := by simp [nm]
theorem opd_inS : OpD G X (compareOp .In) (inS false) := ⟨_, op_in_sign, fun κ w s σ H x y dx dy d Q ok rx ry e q => by
  unfold inS at e
  split at e
  · rename_i c l
    cases e
    cases rx
    cases ry
    exact ⟨c, nm l, rfl, rfl, by rw [nm_list]; exact q w _ H (.refl _) ok (.bl _)⟩
  · cases e⟩
theorem opd_notInS : OpD G X (compareOp .NotIn) (inS true) := ⟨_, op_notIn_sign, fun κ w s σ H x y dx dy d Q ok rx ry e q => by
  unfold inS at e
  split at e
  · rename_i c l
    cases e
    cases rx
    cases ry
    exact ⟨c, nm l, rfl, rfl, by rw [nm_list]; exact q w _ H (.refl _) ok (.bl _)⟩
  · cases e⟩
theorem inF_of (hK : G.K = X.K) {neg : Bool} {κ : Bs} {w : Wd} {s : DS} {σ : L2.St} {H : Hp} {x y : V} {dx dy d : D} {Q : VK} (ok : Ok G κ w s σ H) (rx : Rep G w x dx) (ry : Rep G w y dy) (e : inF neg dx dy = some d) (q : ∀ w' v H', w.le w' → Ok G κ w' s σ H' → Rep G w' v d → Q v H') : rIn X.K neg x y H Q := by
  unfold inF at e
  split at e
  · split at e
    · rename_i h
      cases e
      cases ry with
      | tup h1 r1 =>
        refine ⟨_, _, rfl, .inr (hK ▸ SqT.le h1 ok.fok.sub), fl_rep rx h.1, fls_rep r1 h.2, ?_⟩
        unfold inV
        rw [any_rep rx h.1 r1 h.2]
        exact q w _ H (.refl _) ok (.bl _)
    · cases e
  · split at e
    · rename_i h
      cases e
      cases ry with
      | lst h1 r1 =>
        refine ⟨_, _, rfl, .inl (.inl (.inl (ok.fok.sub _ _ h1))), fl_rep rx h.1, fls_rep r1 h.2, ?_⟩
        unfold inV
        rw [any_rep rx h.1 r1 h.2]
        exact q w _ H (.refl _) ok (.bl _)
    · cases e
  · cases e
theorem opd_inF (hK : G.K = X.K) : OpD G X (compareOp .In) (inF false) := ⟨_, op_in_seq, fun κ w s σ H x y dx dy d Q ok rx ry e q => inF_of hK ok rx ry e q⟩
theorem opd_notInF (hK : G.K = X.K) : OpD G X (compareOp .NotIn) (inF true) := ⟨_, op_notIn_seq, fun κ w s σ H x y dx dy d Q ok rx ry e q => inF_of hK ok rx ry e q⟩
theorem inP_py {neg : Bool} {dx dy d : D} (e : inP neg dx dy = some d) : ∃ p qs, toPy dx = some p ∧ toPy dy = some (.list qs) ∧ SeqAt.shaped p = true ∧ SeqAt.shaped (.list qs) = true ∧ d = .bl (if neg then !(qs.any fun z => PyData.eqv z p) else qs.any fun z => PyData.eqv z p) := by
  unfold inP at e
  split at e
  · rename_i p qs h1 h2
    split at e
    · rename_i h
      cases e
      rw [Bool.and_eq_true] at h
      exact ⟨p, qs, h1, h2, h.1, h.2, rfl⟩
    · cases e
  · cases e
theorem opd_inP (hK : G.K = X.K) (hu : X.A.units + 65 < cLine) : OpD G X (compareOp .In) (inP false) := ⟨_, op_inD hu, fun κ w s σ H x y dx dy d Q ok rx ry e q => by
  obtain ⟨p, qs, h1, h2, s1, s2, rfl⟩ := inP_py e
  exact ⟨p, qs, rx.py hK ok h1, ry.py hK ok h2, s1, s2, q w _ H (.refl _) ok (.bl _)⟩⟩
theorem opd_notInP (hK : G.K = X.K) (hu : X.A.units + 65 < cLine) : OpD G X (compareOp .NotIn) (inP true) := ⟨_, op_notInD hu, fun κ w s σ H x y dx dy d Q ok rx ry e q => by
  obtain ⟨p, qs, h1, h2, s1, s2, rfl⟩ := inP_py e
  exact ⟨p, qs, rx.py hK ok h1, ry.py hK ok h2, s1, s2, q w _ H (.refl _) ok (.bl _)⟩⟩
def dIn (neg : Bool) : D → D → Option D := fun x y => (inS neg x y).orElse fun _ => (inF neg x y).orElse fun _ => inP neg x y
theorem room65 {A : Around} {k : Nat} (hr : Room k A) : A.units + 65 < cLine := by have := hr.un; omega
theorem opd_in (hK : G.K = X.K) (hu : X.A.units + 65 < cLine) : OpD G X (compareOp .In) (dIn false) := (opd_inS.or ((opd_inF hK).or (opd_inP hK hu))).congr fun x y => rfl
theorem opd_notIn (hK : G.K = X.K) (hu : X.A.units + 65 < cLine) : OpD G X (compareOp .NotIn) (dIn true) := (opd_notInS.or ((opd_notInF hK).or (opd_notInP hK hu))).congr fun x y => rfl
/-! ### n.bit_length(), divmod -/
def eBits (f : DE) : DE := fun s => (f s).bind fun d s1 => match d with
  | .int i => .ok (.int (Builtin.Int.intBits i : Nat)) s1
  | _ => .stuck
theorem pd_bits {o : Expr} {f : DE} {apos pos : Pos} (ho : PD G W X o f) (hbase : attributeBase o "bit_length" X.env (eval o X.env) = eval o X.env := by rfl) (hline : (apos.endLine == pos.line) = true := by rfl) : PD G W X (.Call (.Attribute o "bit_length" apos) [] [] pos) (eBits f) :=
  (pe_bits ho hbase hline).imp fun σ H Q ⟨κ, w, s, ok, q⟩ => ⟨κ, w, s, ok, (PostG.bind q).imp fun v H1 ⟨d, s1, w1, le, ok1, r1, q1⟩ => by
    cases r1 with
    | int i => exact ⟨i, rfl, q1 w1 _ H1 (.refl _) ok1 (.int _)⟩
    | _ => exact q1.elim⟩
def bDivmod : List D → Option D
  | [.int i, .int j] => if 0 < j ∧ divOk j = true then some (.tup [.int (i.fdiv j), .int (i.fmod j)]) else none
  | _ => none
theorem pylong_no {i j : Int} (h : j.natAbs.log2 < 9000) : Builtin.divisionGoesByPylong i j = false := by
  unfold Builtin.divisionGoesByPylong
  have : ¬ ((if (j == 0) = true then 0 else j.natAbs.log2 / 30 + 1) > 300) := by
    split
    · omega
    · omega
  simp only [Bool.and_eq_false_iff, decide_eq_false_iff_not]
  exact .inl this
theorem cd_divmod : CallD G X (.builtin "divmod") bDivmod := ⟨_, call_divmodW, fun κ w s σ H vs ds d Q ok rs e q => by
  unfold bDivmod at e
  split at e
  · rename_i i j
    split at e
    · rename_i h
      cases e
      cases rs with
      | cons a rs =>
      cases rs with
      | cons b rs =>
      cases rs
      cases a
      cases b
      have hd := h.2
      unfold divOk at hd
      have hd := of_decide_eq_true hd
      refine ⟨i, j, rfl, ⟨h.1, pylong_no hd.2⟩, fun p hp => ?_⟩
      rw [Int.fdiv_eq_ediv_of_nonneg i (Int.le_of_lt h.1), Int.fmod_eq_emod_of_nonneg i (Int.le_of_lt h.1)] at q
      obtain ⟨le, ok'⟩ := ok.alloc hp (.tup [.int (i / j), .int (i % j)])
      exact q _ _ _ le ok' (.tup (.inl (.inl upd_same)) (.cons (.int _) (.cons (.int _) .nil)))
    · cases e
  · cases e⟩
/-! ### methods of built-in types -/
def MtD (G : Gam) (X : Cx) (T id : String) (o : D → List D → Option D) : Prop := ∃ r, MtR X id r ∧ (∀ (κ : Bs) (w : Wd) (s : DS) (σ : L2.St) (H : Hp) (x : V) (vs : List V) (dx : D) (ds : List D) (d : D) (Q : VK), Ok G κ w s σ H → Rep G w x dx → Reps G w vs ds → o dx ds = some d →
  (∀ w' v H', w.le w' → Ok G κ w' s σ H' → Rep G w' v d → Q v H') → r x vs H Q) ∧ ∀ (κ : Bs) (w : Wd) (s : DS) (σ : L2.St) (H : Hp) (x : V) (dx : D), Ok G κ w s σ H → Rep G w x dx → tyOk T dx = true → tyV X.K T x H
where
  tyOk (T : String) : D → Bool
  | .str _ => T == "str"
  | .lst _ => T == "list"
  | .dic _ => T == "dict"
  | _ => false
def eBM (T : String) (o : D → List D → Option D) (fo : DE) (fa : DA) : DE := fun s => (fo s).bind fun x s1 => if MtD.tyOk T x = true then (fa s1).bind fun ds s2 => match o x ds with
  | some d => .ok d s2
  | none => .stuck
  else .stuck
theorem pd_bm {T id : String} {name : Str} {o : D → List D → Option D} {oe e : Expr} {es : List Expr} {fo : DE} {fa : DA} {apos cpos : Pos} (pa : PlainAttrs T) (slot : Slot T name id) (hty : typeOf (.builtin id) = pure (.type "method_descriptor")) (hm : MtD G X T id o) (ho : PD G W X oe fo) (ha : PDA G W X (e :: es) fa)
    (hbase : attributeBase oe name X.env (eval oe X.env) = eval oe X.env := by rfl)
    (hfew : ((backTo cpos (starEach (e :: es) X.env)).all (fun x => !x.1) && (backToKw cpos (keywordEach [] X.env)).all (fun x => x.1.isSome)
      && decide ((e :: es).length + ([] : List Keyword).length + (if ([] : List Keyword).isEmpty then 0 else 1) < 30)) = true := by rfl)
    (hline : (apos.endLine == cpos.line) = true := by rfl) (hs : starEach (e :: es) X.env = (false, eval e X.env) :: starEach es X.env := by rfl) (hplain : (backTo cpos (starEach es X.env)).any (·.1) = false := by rfl) :
    PD G W X (.Call (.Attribute oe name apos) (e :: es) [] cpos) (eBM T o fo fa) := by
  obtain ⟨r, h1, h2, h3⟩ := hm
  refine (pe_bm pa slot hty h1 ho ha hbase hfew hline hs hplain).imp fun σ H Q ⟨κ, w, s, ok, q⟩ => ⟨κ, w, s, ok, (PostG.bind q).imp fun v H1 ⟨d, s1, w1, le, ok1, r1, q1⟩ => ?_⟩
  by_cases ht : MtD.tyOk T d = true
  · rw [if_pos ht] at q1
    refine ⟨h3 κ w1 s1 σ H1 v d ok1 r1 ht, κ, w1, s1, ok1, (PostG.bind q1).imp fun vs H2 ⟨ds, s2, w2, le2, ok2, r2, q2⟩ => ?_⟩
    cases e : o d ds with
    | none => rw [e] at q2; exact q2.elim
    | some z => rw [e] at q2; exact h2 κ w2 s2 σ H2 v vs d ds z Q ok2 (r1.mono le2) r2 e q2
  · rw [if_neg ht] at q1
    exact q1.elim
theorem ty_ok {T : String} {κ : Bs} {w : Wd} {s : DS} {σ : L2.St} {H : Hp} {x : V} {dx : D} (ok : Ok G κ w s σ H) (r : Rep G w x dx) (h : MtD.tyOk T dx = true) : tyV X.K T x H := by
  cases r <;> first | (cases h; done) | skip
  · exact beq_iff_eq.mp h
  · rename_i h1 _
    exact .inl ⟨beq_iff_eq.mp h, _, .inl (.inl (ok.fok.sub _ _ h1))⟩
  · rename_i h1 _
    exact .inr (.inr (.inl ⟨beq_iff_eq.mp h, .inl ⟨_, ok.fok.sub _ _ h1⟩⟩))
/-- texts of a list -/
def strsOf : List D → Option (List Nm)
  | [] => some []
  | .str l :: r => (strsOf r).map fun m => l :: m
  | _ => none
theorem strs_rep {w : Wd} : ∀ {vs : List V} {ds : List D} {ls : List Nm}, Reps G w vs ds → strsOf ds = some ls → vs = (ls.map nm).map V.str
  | _, _, _, .nil, h => by cases h; rfl
  | _, _, ls, .cons a b, h => by
    cases a <;> first | (simp [strsOf] at h; done) | skip
    simp only [strsOf, Option.map_eq_some_iff] at h
    obtain ⟨m, hm, rfl⟩ := h
    rw [strs_rep b hm]
    rfl
def mJoin : D → List D → Option D
  | .str a, [.lst ds] => match strsOf ds with
    | some ls => if (ls.map (·.length)).sum + ls.length * a.length ≤ 16777216 then some (.str (TL.joinL a ls)) else none
    | none => none
  | _, _ => none
theorem join_nm (a : Nm) (ls : List Nm) : Txt.join (nm a) (ls.map nm) = nm (TL.joinL a ls) := by
  have h := TL.tl_join (nm a) (ls.map nm)
  rw [← TL.join_eq, show TL.tl (nm a) = a from nm_list a, List.map_map] at h
  have e : (TL.tl ∘ nm) = id := by funext l; exact nm_list l
  rw [e, List.map_id] at h
  have : ∀ x : Str, x = nm (TL.tl x) := fun x => by simp [nm, TL.tl]
  rw [this (Txt.join _ _), h]
theorem mtd_join : MtD G X "str" "str.join" mJoin := by
  refine ⟨_, mt_join, fun κ w s σ H x vs dx ds d Q ok rx rs e q => ?_, fun κ w s σ H x dx ok r h => ty_ok ok r h⟩
  unfold mJoin at e
  split at e
  · rename_i a ds'
    split at e
    · rename_i ls hl
      split at e
      · rename_i hz
        cases e
        cases rx
        cases rs with
        | cons r1 rs =>
        cases rs
        cases r1 with
        | lst h1 r1 =>
        have := strs_rep r1 hl
        subst this
        refine ⟨nm a, _, ls.map nm, rfl, rfl, .inl (.inl (.inl (ok.fok.sub _ _ h1))), ?_, by rw [join_nm]; exact q w _ H (.refl _) ok (.str _)⟩
        have e1 : (ls.map nm).map (·.length) = ls.map (·.length) := by
          rw [List.map_map]
          apply List.map_congr_left
          intro l _
          show (nm l).cps.size = l.length
          simp [nm]
        have e2 : (nm a).length = a.length := by show (nm a).cps.size = _; simp [nm]
        rw [e1, e2, List.length_map]
        exact hz
      · cases e
    · cases e
  · cases e
end
end DL
set_option maxRecDepth 100000
set_option maxHeartbeats 4000000
set_option autoImplicit false
namespace DL
open PySem PySem.Spec PyProof.Rows L2
section
variable {G : Gam} {W : WX} {X : Cx}
/-! ### an own list, looked at without giving it away -/
def eIxO (i : Nat) (fb : DE) : DE := fun s => match s.sl[i]? with
  | some (.ol _) => (fb s).bind fun y s1 => match y, s1.sl[i]? with
    | .int k, some (.ol xs) => (match L2.atI xs k with | some d => .ok d s1 | none => .stuck)
    | _, _ => .stuck
  | some (.val x) => (fb s).bind fun y s1 => match y with
    | .int k => (match ixD x k with | some d => .ok d s1 | none => .stuck)
    | _ => .stuck
  | _ => .stuck
theorem ix_run (hK : G.K = X.K) {κ : Bs} {w : Wd} {s : DS} {σ : L2.St} {H : Hp} {v : V} {dx z : D} {k : Int} {Q : VK} (ok : Ok G κ w s σ H) (r1 : Rep G w v dx) (e : ixD dx k = some z) (q : PostG G W (Rep G) κ w σ (.ok z s) Q) : rIx X.K v (.int k) H Q := by
  cases r1 with
  | @tup p vs ds e1 r1 =>
    obtain ⟨y, h1, h2⟩ := Reps.atI r1 e
    exact .inr (.inl ⟨p, vs, k, y, rfl, rfl, hK ▸ SqT.le e1 ok.fok.sub, h1, q w y H (.refl _) ok h2⟩)
  | @lst p vs ds e1 r1 =>
    obtain ⟨y, h1, h2⟩ := Reps.atI r1 e
    exact .inl ⟨p, vs, k, y, rfl, rfl, .inl (.inl (ok.fok.sub _ _ e1)), h1, q w y H (.refl _) ok h2⟩
  | @scr p vs ds e1 r1 =>
    obtain ⟨y, h1, h2⟩ := Reps.atI r1 e
    exact .inl ⟨p, vs, k, y, rfl, rfl, hK ▸ SqL.le e1 ok.fok.sub, h1, q w y H (.refl _) ok h2⟩
  | str l =>
    have e : (if l.length ≤ 16777216 then (L2.atI l k).map fun c => D.str [c] else none) = some z := e
    split at e
    · rename_i hl
      cases e3 : L2.atI l k with
      | none => simp [e3] at e
      | some c =>
        simp only [e3, Option.map_some, Option.some.injEq] at e
        subst e
        refine .inr (.inr ⟨nm l, k, c, rfl, rfl, by rw [nm_len, sizeLine_eq]; exact hl, by simpa [nm] using e3, ?_⟩)
        exact q w _ H (.refl _) ok (.str [c])
    · cases e
  | _ => cases e
theorem pd_ixO (hK : G.K = X.K) {i : Nat} {x : Str} {p pos : Pos} {b : Expr} {fb : DE} (ho : PE X (.Name x p) (tVar i)) (hb : PD G W X b fb) (hs : PlainIx b) : PD G W X (.Subscript (.Name x p) b pos) (eIxO i fb) :=
  (pe_ix ix_seq ho hb hs).imp fun σ H Q ⟨κ, w, s, ok, q⟩ => by
    unfold eIxO at q
    cases e : s.sl[i]? with
    | none => rw [e] at q; exact q.elim
    | some y =>
      rw [e] at q
      cases y with
      | ol xs0 =>
        obtain ⟨a, vs, h1, h2, h3⟩ := own_list ok e
        refine ⟨.ref a, h1, κ, w, s, ok, (PostG.bind q).imp fun v2 H2 ⟨d2, s2, w2, le2, ok2, r2, q2⟩ => ?_⟩
        cases r2 with
        | int k =>
          cases e1 : s2.sl[i]? with
          | none => rw [e1] at q2; exact q2.elim
          | some z =>
            rw [e1] at q2
            cases z with
            | ol xs =>
              replace q2 : PostG G W (Rep G) κ w2 σ (match L2.atI xs k with | some d => .ok d s2 | none => .stuck) Q := q2
              obtain ⟨a', vs', g1, g2, g3⟩ := own_list ok2 e1
              rw [h1] at g1
              cases g1
              cases e2 : L2.atI xs k with
              | none => rw [e2] at q2; exact q2.elim
              | some d =>
                rw [e2] at q2
                obtain ⟨y, h1, h2⟩ := Reps.atI g3 e2
                exact .inl ⟨a, vs', k, y, rfl, rfl, .inl (.inl g2), h1, q2 w2 y H2 (.refl _) ok2 h2⟩
            | _ => exact q2.elim
        | _ => exact q2.elim
      | val dx =>
        obtain ⟨v, h1, r1⟩ := ok.val i dx e
        refine ⟨v, h1, κ, w, s, ok, (PostG.bind q).imp fun v2 H2 ⟨d2, s2, w2, le2, ok2, r2, q2⟩ => ?_⟩
        cases r2 with
        | int k =>
          replace q2 : PostG G W (Rep G) κ w2 σ (match ixD dx k with | some d => .ok d s2 | none => .stuck) Q := q2
          cases e2 : ixD dx k with
          | none => rw [e2] at q2; exact q2.elim
          | some z => rw [e2] at q2; exact ix_run hK ok2 (r1.mono le2) e2 q2
        | _ => exact q2.elim
      | _ => exact q.elim
/-- truth -/
def eTruO (i : Nat) : DT := fun s => match s.sl[i]? with
  | some (.ol xs) => .ok (!xs.isEmpty) s
  | some (.val d) => (match truD d with | some b => .ok b s | none => .stuck)
  | _ => .stuck
theorem ptd_truO (hK : G.K = X.K) {i : Nat} {x : Str} {p : Pos} (ho : PE X (.Name x p) (tVar i)) (he : ∀ whole, isTrue (.Name x p) X.env whole = (do let v ← whole; standAt (Expr.pos (.Name x p)); holding [v] (truthy v)) := by intro _; rfl) : PDT G W X (.Name x p) (eTruO i) :=
  (pt_truth ho he).imp fun σ H Q ⟨κ, w, s, ok, q⟩ => by
    unfold eTruO at q
    cases e : s.sl[i]? with
    | none => rw [e] at q; exact q.elim
    | some y =>
      rw [e] at q
      cases y with
      | ol xs =>
        obtain ⟨a, vs, h1, h2, h3⟩ := own_list ok e
        refine ⟨.ref a, h1, !xs.isEmpty, ?_, q w _ H (.refl _) ok rfl⟩
        exact .inl ⟨vs, .inl (.inl h2), by rw [h3.isEmpty]⟩
      | val d =>
        obtain ⟨v, h1, r1⟩ := ok.val i d e
        replace q : PostG G W (fun _ (v : Bool) d => v = d) κ w σ (match truD d with | some b => .ok b s | none => .stuck) Q := q
        cases e1 : truD d with
        | none => rw [e1] at q; exact q.elim
        | some k => rw [e1] at q; exact ⟨v, h1, k, truV_of hK ok r1 e1, q w k H (.refl _) ok rfl⟩
      | _ => exact q.elim
/-- x[i] = v -/
def sIxO (i : Nat) (fi fv : DE) : DStm := fun s => (fv s).bind fun d s1 => match s1.sl[i]? with
  | some (.ol _) => (fi s1).bind fun y s2 => match y, s2.sl[i]? with
    | .int k, some (.ol xs) => (match ixN xs.length k with | some j => .ok .nx ⟨s2.sl.set i (.ol (xs.set j d)), s2.st⟩ | none => .stuck)
    | _, _ => .stuck
  | _ => .stuck
theorem pds_ixO {i : Nat} {x : Str} {p tp pos : Pos} {b e : Expr} {fi fv : DE} (ho : PE X (.Name x p) (tVar i)) (hb : PD G WF X b fi) (he : PD G W X e fv) (hs : swapsWithSole [.Subscript (.Name x p) b tp] e pos.line X.env = pure false := by rfl) (hw : swappedStores [.Subscript (.Name x p) b tp] e X.env = pure none := by rfl)
    (h1 : (assignEach [.Subscript (.Name x p) b tp] X.env).map (·.2) = [assign (.Subscript (.Name x p) b tp) X.env] := by rfl)
    (ha : ∀ v, assign (.Subscript (.Name x p) b tp) X.env v = (do
      let ov ← holding [v] (eval (.Name x p) X.env)
      let iv ← holding [v, ov] (eval b X.env)
      standAt tp
      holding [v, ov, iv] (setItem ov iv v)
      release [v, ov, iv] []) := by intro _; rfl) (hcol : ∀ (s : DS), (∀ x s', fi s ≠ .exc x s')) : PDS G W X (.Assign [.Subscript (.Name x p) b tp] e pos) (sIxO i fi fv) :=
  (ps_asg he (pg_sub ho hb set_list ha) hs hw h1).imp fun N σ H ⟨κ, w, s, ok, q⟩ => ⟨κ, w, s, ok, (PostG.bindS q).imp fun v H1 ⟨d, s1, w1, le, ok1, r1, q1⟩ => by
    cases e : s1.sl[i]? with
    | none => rw [e] at q1; exact q1.elim
    | some y =>
      rw [e] at q1
      cases y with
      | ol xs0 =>
        obtain ⟨a, vs, h1, h2, h3⟩ := own_list ok1 e
        replace q1 : PostS G W κ w1 ((fi s1).bind fun y s2 => match y, s2.sl[i]? with
          | .int k, some (.ol xs) => (match ixN xs.length k with | some j => .ok .nx ⟨s2.sl.set i (.ol (xs.set j d)), s2.st⟩ | none => .stuck)
          | _, _ => .stuck) N := q1
        refine ⟨.ref a, h1, κ, w1, s1, ok1, ?_⟩
        cases ef : fi s1 with
        | stuck => rw [ef] at q1; exact q1.elim
        | exc z s' => exact absurd ef (hcol s1 z s')
        | ok d2 s2 =>
          rw [ef] at q1
          intro w2 v2 H2 le2 ok2 r2
          cases r2 with
          | int k =>
            cases e1 : s2.sl[i]? with
            | none => simp [e1] at q1; exact q1.elim
            | some z =>
              cases z with
              | ol xs =>
                simp only [Res.bind_ok, e1] at q1
                obtain ⟨a', vs', g1, g2, g3⟩ := own_list ok2 e1
                rw [h1] at g1
                cases g1
                cases e2 : ixN xs.length k with
                | none => rw [e2] at q1; exact q1.elim
                | some j =>
                  rw [e2] at q1
                  refine ⟨a, vs', k, j, rfl, rfl, g2, by rw [g3.length]; exact e2, ?_⟩
                  exact q1 w2 σ _ le2 (ok2.mut e1 rfl rfl h1 ⟨_, upd_same, Reps.set (r1.mono le2) j g3⟩ fun _ _ z => nomatch z)
              | _ => simp only [Res.bind_ok, e1] at q1; exact q1.elim
          | _ => simp only [Res.bind_ok] at q1; exact q1.elim
      | _ => exact q1.elim⟩
/-! ### len of an own list -/
def eLenO (i : Nat) : DE := fun s => match s.sl[i]? with
  | some (.ol xs) => .ok (.int xs.length) s
  | some (.val d) => (match bLen [d] with | some r => .ok r s | none => .stuck)
  | _ => .stuck
/-! ### a property -/
def eProp (c : String) (g : DFn) (f : DE) : DE := fun s => (f s).bind fun d s1 => match insOf d s1 with
  | some (c1, _) => if c1 = c then noX (lift s1 (g [d] s1.st)) else .stuck
  | none => .stuck
theorem pd_prop {c : String} {C p gf : Addr} {k : Nat} {fd : FuncData} {ps : List Str} {g : DFn} {e : Expr} {fe : DE} {f : Str} {pos : Pos} (hC : G.ct c = some C) (hcl : Cls X.K C) (hp : PropOf X.K C f p gf) (F : FnOk X.prog X.w X.K X.mg X.base (L2.CX X.prog X.w) k gf fd ps (spG G 1 g)) (hr : Room (k + 1) X.A) (hb : Binds X.K fd ps [])
    (he : PD G W X e fe) (hab : attributeBase e f X.env (eval e X.env) = eval e X.env := by rfl) : PD G W X (.Attribute e f pos) (eProp c g fe) :=
  (pe_prop (E := fun _ _ _ => False) he hcl hp F hr hb .nil (passes_call takes0 fun _ _ _ _ z => z) hab).imp fun σ H Q ⟨κ, w, s, ok, q⟩ => ⟨κ, w, s, ok, (PostG.bind q).imp fun v H1 ⟨d, s1, w1, le, ok1, r1, q1⟩ => by
    cases e1 : insOf d s1 with
    | none => rw [e1] at q1; exact q1.elim
    | some cf =>
      obtain ⟨c1, fs⟩ := cf
      rw [e1] at q1
      replace q1 : PostG G W (Rep G) κ w1 σ (if c1 = c then noX (lift s1 (g [d] s1.st)) else .stuck) Q := q1
      by_cases hc : c1 = c
      · rw [if_pos hc] at q1
        subst hc
        obtain ⟨a, C', dx, vs, rfl, hC', hH, _⟩ := r1.ins_of ok1 e1
        rw [hC] at hC'
        cases hC'
        refine ⟨a, dx, vs, rfl, hH, rfl, w1, s1.st, [d], ok1.fok, .cons r1 .nil, ?_⟩
        cases eg : g [d] s1.st with
        | stuck => rw [eg] at q1; exact q1.elim
        | exc x S => rw [eg] at q1; exact q1.elim
        | ok d' S => rw [eg] at q1; exact fun w' v H' n fk r => q1 w' v H' n.le (ok1.step n fk) r
      · rw [if_neg hc] at q1
        exact q1.elim⟩
/-! ### constants of the module: texts, numbers, tuples of them -/
def repK (K : PySem.W.Frag) : Nat → Value → D → Bool
  | 0, _, _ => false
  | n + 1, v, d => match v, d with
    | .none, .non => true
    | .bool b, .bl c => b == c
    | .int i _, .int j => i == j
    | .str x _, .str l => x == nm l
    | .ref a, .tup ds => match K.lookup a with
      | some o => o.cls == .type "tuple" && (match o.data with
        | .seq its _ => decide (its.size ≤ 1000) && go n its.toList ds
        | _ => false)
      | none => false
    | _, _ => false
where
  go (n : Nat) : List Value → List D → Bool
  | [], [] => true
  | v :: vs, d :: ds => repK K n v d && go n vs ds
  | _, _ => false
theorem repK_ok {K : PySem.W.Frag} (hK : G.K = K) : ∀ (n : Nat) (v : Value) (d : D), repK K n v d = true → ∃ x, RelV x v ∧ ∀ w, Rep G w x d := by
  intro n
  induction n with
  | zero => intro v d h; simp [repK] at h
  | succ n ih =>
    have goes : ∀ (vs : List Value) (ds : List D), repK.go K n vs ds = true → ∃ xs, Vals xs vs ∧ ∀ w, Reps G w xs ds := by
      intro vs
      induction vs with
      | nil =>
        intro ds h
        cases ds with
        | nil => exact ⟨[], .nil, fun _ => .nil⟩
        | cons _ _ => cases h
      | cons v vs ihv =>
        intro ds h
        cases ds with
        | nil => cases h
        | cons d ds =>
          simp only [repK.go, Bool.and_eq_true] at h
          obtain ⟨x, r1, r2⟩ := ih v d h.1
          obtain ⟨xs, r3, r4⟩ := ihv ds h.2
          exact ⟨x :: xs, .cons r1 r3, fun w => .cons (r2 w) (r4 w)⟩
    intro v d h
    unfold repK at h
    split at h
    · exact ⟨.non, rfl, fun _ => .non⟩
    · rw [beq_iff_eq] at h; subst h; exact ⟨.bl _, rfl, fun _ => .bl _⟩
    · rw [beq_iff_eq] at h; subst h; exact ⟨.int _, ⟨_, rfl⟩, fun _ => .int _⟩
    · rw [beq_iff_eq] at h; subst h; exact ⟨.str _, ⟨_, rfl⟩, fun _ => .str _⟩
    · split at h
      · rename_i o ho
        rw [Bool.and_eq_true, beq_iff_eq] at h
        obtain ⟨h1, h2⟩ := h
        split at h2
        · rename_i its m hd
          rw [Bool.and_eq_true, decide_eq_true_eq] at h2
          obtain ⟨xs, r3, r4⟩ := goes _ _ h2.2
          refine ⟨.ref _, rfl, fun w => .tup (.inr ⟨o, its, m, by rw [hK]; exact ho, h1, hd, by rw [sizeLine_eq]; omega, r3⟩) (r4 w)⟩
        · cases h2
      · cases h
    · cases h
theorem pd_const {x : Str} {v : Value} {d : D} {pos : Pos} (hg : Gl X x) (hm : X.mg x = some v) (hr : ∃ y, RelV y v ∧ ∀ w, Rep G w y d) (hd : (x == ("__debug__" : Str)) = false := by decide) : PD G W X (.Name x pos) (eC d) := by
  obtain ⟨y, r1, r2⟩ := hr
  exact pd_glob hg hm r1 r2 hd
/-! ### text.index(text) -/
def eSix (fo : DE) (fa : DA) : DE := fun s => (fo s).bind fun x s1 => match x with
  | .str a => (fa s1).bind fun ds s2 => match ds with
    | [.str b] => (match Txt.index0 (nm a) (nm b) with | some k => .ok (.int (k : Nat)) s2 | none => .stuck)
    | _ => .stuck
  | _ => .stuck
theorem pd_six {oe e : Expr} {fo : DE} {fa : DA} {apos cpos : Pos} (hc : X.calm = true) (tk : Takes X W) (ho : PD G W X oe fo) (ha : PDA G W X [e] fa)
    (hbase : attributeBase oe "index" X.env (eval oe X.env) = eval oe X.env := by rfl)
    (hfew : ((backTo cpos (starEach [e] X.env)).all (fun x => !x.1) && (backToKw cpos (keywordEach [] X.env)).all (fun x => x.1.isSome)
      && decide ([e].length + ([] : List Keyword).length + (if ([] : List Keyword).isEmpty then 0 else 1) < 30)) = true := by rfl)
    (hline : (apos.endLine == cpos.line) = true := by rfl) (hs : starEach [e] X.env = (false, eval e X.env) :: starEach [] X.env := by rfl) (hplain : (backTo cpos (starEach [] X.env)).any (·.1) = false := by rfl) :
    PD G W X (.Call (.Attribute oe "index" apos) [e] [] cpos) (eSix fo fa) :=
  (pe_bmS PySem.F.plainAttrs_str PySem.F.slot_str_index PySem.F.type_str_index (mt_indexX hc tk) ho ha hbase hfew hline hs hplain).imp fun σ H Q ⟨κ, w, s, ok, q⟩ => ⟨κ, w, s, ok, (PostG.bind q).imp fun v H1 ⟨d, s1, w1, le, ok1, r1, q1⟩ => by
    cases r1 with
    | str a =>
      refine ⟨rfl, κ, w1, s1, ok1, (PostG.bind q1).imp fun vs H2 ⟨ds, s2, w2, le2, ok2, r2, q2⟩ => ?_⟩
      match ds, q2 with
      | [.str b], q2 =>
        cases r2 with
        | cons r2 r3 =>
        cases r3
        cases r2
        replace q2 : PostG G W (Rep G) κ w2 σ (match Txt.index0 (nm a) (nm b) with | some k => .ok (.int (k : Nat)) s2 | none => .stuck) Q := q2
        cases e : Txt.index0 (nm a) (nm b) with
        | none => rw [e] at q2; exact q2.elim
        | some k =>
          rw [e] at q2
          refine ⟨nm a, nm b, rfl, rfl, fun k' hk => ?_, fun hn => ?_⟩
          · rw [e] at hk; cases hk; exact q2 w2 _ H2 (.refl _) ok2 (.int _)
          · rw [e] at hn; cases hn
      | [], q2 => exact q2.elim
      | x :: _ :: _, q2 => cases x <;> exact q2.elim
      | [.non], q2 => exact q2.elim
      | [.bl _], q2 => exact q2.elim
      | [.int _], q2 => exact q2.elim
      | [.tup _], q2 => exact q2.elim
      | [.lst _], q2 => exact q2.elim
      | [.scr _], q2 => exact q2.elim
      | [.dic _], q2 => exact q2.elim
      | [.ins _ _], q2 => exact q2.elim
      | [.cell _], q2 => exact q2.elim
      | [.cls _], q2 => exact q2.elim
      | [.ty _], q2 => exact q2.elim
      | [.fn _], q2 => exact q2.elim
      | [.lam _], q2 => exact q2.elim
    | _ => exact q1.elim⟩
/-! ### a < b < c as a test -/
theorem ptd_chain {op op' : CmpOp} {o o' : D → D → Option D} {a b c : Expr} {fa fb fc : DE} {pos : Pos} (ho : OpD G X (compareOp op) o) (ho' : OpD G X (compareOp op') o') (ha : PD G W X a fa) (hb : PD G W X b fb) (hc : PD G W X c fc)
    (hp : ∀ {r r' : R2} {ta tb tc : TE}, OpR X (compareOp op) r → OpR X (compareOp op') r' → PE X a ta → PE X b tb → PE X c tc → PT X (.Compare a [op, op'] [b, c] pos) (tTest (tChain r r' ta tb tc))) : PDT G W X (.Compare a [op, op'] [b, c] pos) (eB (eChain o o' fa fb fc)) := by
  obtain ⟨r, h1, h2⟩ := ho
  obtain ⟨r', h1', h2'⟩ := ho'
  refine (hp h1 h1' ha hb hc).imp fun σ H Q h => ?_
  obtain ⟨κ, w, s, ok, q⟩ := tB_of h
  refine ⟨κ, w, s, ok, (PostG.bind q).imp fun v H1 ⟨d, s1, w1, le, ok1, r1, q1⟩ => ⟨κ, w1, s1, ok1, (PostG.bind q1).imp fun v2 H2 ⟨d2, s2, w2, le2, ok2, r2, q2⟩ => ?_⟩⟩
  cases e : o d d2 with
  | none => rw [e] at q2; exact q2.elim
  | some z =>
    rw [e] at q2
    refine h2 κ w2 s2 σ H2 v v2 d d2 z _ ok2 (r1.mono le2) r2 e fun w3 v3 H3 l3 o3 r3 => ?_
    cases r3 with
    | bl k =>
      refine ⟨k, rfl, ?_⟩
      cases k with
      | false => exact q2 w3 _ H3 l3 o3 (.bl false)
      | true =>
        refine ⟨κ, w3, s2, o3, (PostG.bind (PostG.mono l3 q2)).imp fun v4 H4 ⟨d4, s4, w4, le4, ok4, r4, q4⟩ => ?_⟩
        cases e' : o' d2 d4 with
        | none => rw [e'] at q4; exact q4.elim
        | some z' => rw [e'] at q4; exact h2' κ w4 s4 σ H4 v2 v4 d2 d4 z' _ ok4 ((r2.mono l3).mono le4) r4 e' q4
    | _ => exact q2.elim
/-! ### readings that raise nothing -/
theorem nx_c (d : D) : ∀ (s : DS), (∀ x s', eC d s ≠ .exc x s') := fun s x s' h => nomatch h
theorem nx_var (i : Nat) : ∀ (s : DS), (∀ x s', eVar i s ≠ .exc x s') := fun s x s' h => by
  unfold eVar at h
  split at h <;> cases h
theorem nx_neg {f : DE} (k : ∀ (s : DS), (∀ x s', f s ≠ .exc x s')) : ∀ (s : DS), (∀ x s', eNeg f s ≠ .exc x s') := fun s x s' h => by
  unfold eNeg at h
  cases e : f s with
  | stuck => rw [e] at h; cases h
  | exc z t => exact k s z t e
  | ok d t =>
    rw [e] at h
    simp only [Res.bind_ok] at h
    split at h <;> cases h
theorem nx_op2 {o : D → D → Option D} {f g : DE} (k : ∀ (s : DS), (∀ x s', f s ≠ .exc x s')) (l : ∀ (s : DS), (∀ x s', g s ≠ .exc x s')) : ∀ (s : DS), (∀ x s', eOp2 o f g s ≠ .exc x s') := fun s x s' h => by
  unfold eOp2 at h
  cases e : f s with
  | stuck => rw [e] at h; cases h
  | exc z t => exact k s z t e
  | ok d t =>
    rw [e] at h
    simp only [Res.bind_ok] at h
    cases e2 : g t with
    | stuck => rw [e2] at h; cases h
    | exc z t' => exact l t z t' e2
    | ok d' t' =>
      rw [e2] at h
      simp only [Res.bind_ok] at h
      split at h <;> cases h
/-! ### an own slot is given away -/
def eFz (i : Nat) (f : DE) : DE := fun s => match s.sl[i]? with
  | some (.ol xs) => f ⟨s.sl.set i (.val (.lst xs)), s.st⟩
  | some (.od kvs) => f ⟨s.sl.set i (.val (.dic kvs)), s.st⟩
  | some (.ot kvs) => f ⟨s.sl.set i (.val (.dct kvs)), s.st⟩
  | some (.oi c fs) => f ⟨s.sl.set i (.val (.ins c fs)), s.st⟩
  | _ => f s
theorem pd_fz {i : Nat} {e : Expr} {f : DE} (h : PD G W X e f) : PD G W X e (eFz i f) := h.imp fun σ H Q ⟨κ, w, s, ok, q⟩ => by
  unfold eFz at q
  split at q
  · rename_i xs e
    obtain ⟨a, h1, ⟨vs, h2, h3⟩, _⟩ := ok.own i _ e rfl
    obtain ⟨le, ok'⟩ := ok.freeze (d := .lst xs) e rfl h1 h2 fun w' l f => .lst f (h3.mono l)
    exact ⟨κ, _, _, ok', PostG.mono le q⟩
  · rename_i xs e
    obtain ⟨a, h1, ⟨vs, h2, h3⟩, _⟩ := ok.own i _ e rfl
    obtain ⟨le, ok'⟩ := ok.freeze (d := .dic xs) e rfl h1 h2 fun w' l f => .dic f (h3.mono l)
    exact ⟨κ, _, _, ok', PostG.mono le q⟩
  · rename_i xs e
    obtain ⟨a, h1, ⟨es, ep, h2, h3, h4, h5⟩, _⟩ := ok.own i _ e rfl
    obtain ⟨le, ok'⟩ := ok.freeze (d := .dct xs) e rfl h1 h2 fun w' l f => .dct f (h3.mono l) h4 h5
    exact ⟨κ, _, _, ok', PostG.mono le q⟩
  · rename_i c fs e
    obtain ⟨a, h1, ⟨C, dx, vs, hC, h2, h3⟩, _⟩ := ok.own i _ e rfl
    obtain ⟨le, ok'⟩ := ok.freeze (d := .ins c fs) e rfl h1 h2 fun w' l f => .ins hC f (h3.mono l)
    exact ⟨κ, _, _, ok', PostG.mono le q⟩
  · exact ⟨κ, w, s, ok, q⟩
/-! ### isinstance(x, (A, B)) -/
/-- all items are classes -/
def clsD : D → Bool
  | .ty _ => true
  | .cls _ => true
  | _ => false
def isAny (cs : List String) (t : String ⊕ String) : List D → Option Bool
  | [] => some false
  | c :: r => match isOne cs t c with
    | some true => some true
    | some false => isAny cs t r
    | none => none
def eIsT (cs : List String) (fe : DE) (fa : DA) : DE := fun s => (fe s).bind fun d s1 => (fa s1).bind fun ts s2 => if ts.length ≤ 1000 ∧ ts.all clsD = true then match (tyOfD cs d).bind fun t => isAny cs t ts with
  | some b => .ok (.bl b) s2
  | none => .stuck
  else .stuck
theorem isOne_kit (hK : G.K = X.K) {cs : List String} (I : IsOk G cs) {w : Wd} {t : String ⊕ String} {tv : Value} {c : D} {v : V} {b : Bool} (ht : match t with | .inl a => tv = .type a ∧ a ∈ tyNames | .inr c => c ∈ cs ∧ ∃ C, G.ct c = some C ∧ tv = .ref C) (r : Rep G w v c) (e : isOne cs t c = some b) : ∃ u, ClsV v u ∧ PySem.W.kitOne X.K tv u = some b := by
  cases t with
  | inl a =>
    obtain ⟨rfl, ha⟩ := ht
    cases r with
    | ty n =>
      have e : (if a ∈ tyNames ∧ n ∈ tyNames then some (isTy a n) else none) = some b := e
      split at e
      · rename_i h
        cases e
        exact ⟨_, .ty n, kit_ty (isTy_ok a h.1 n h.2)⟩
      · cases e
    | @cls C n hC =>
      have e : (if a ∈ tyNames ∧ n ∈ cs then some false else none) = some b := e
      split at e
      · rename_i h
        cases e
        exact ⟨_, .own C, hK ▸ (I.bo n h.2 C hC a h.1).2⟩
      · cases e
    | _ => exact nomatch e
  | inr a =>
    obtain ⟨ha, C', hC', rfl⟩ := ht
    cases r with
    | ty n =>
      have e : (if n ∈ tyNames then some false else none) = some b := e
      split at e
      · rename_i h
        cases e
        exact ⟨_, .ty n, hK ▸ (I.bo a ha C' hC' n h).1⟩
      · cases e
    | @cls C n hC =>
      have e : (if n ∈ cs then some (a == n) else none) = some b := e
      split at e
      · rename_i h
        cases e
        exact ⟨_, .own C, hK ▸ I.oo a ha n h C' C hC' hC⟩
      · cases e
    | _ => exact nomatch e
/-- a class value and its object -/
def clsOf : V → Value
  | .ty n => .type n
  | .ref C => .ref C
  | _ => .none
theorem isAny_kit (hK : G.K = X.K) {cs : List String} (I : IsOk G cs) {w : Wd} {t : String ⊕ String} {tv : Value} (ht : match t with | .inl a => tv = .type a ∧ a ∈ tyNames | .inr c => c ∈ cs ∧ ∃ C, G.ct c = some C ∧ tv = .ref C) : ∀ {vs : List V} {ds : List D} {b : Bool}, Reps G w vs ds → ds.all clsD = true → isAny cs t ds = some b → ∃ us, Paired ClsV vs us ∧ PySem.W.kitAny X.K tv us = some b
  | _, _, _, .nil, _, e => by cases e; exact ⟨[], .nil, kitAny_nil⟩
  | _, _, b, .cons (v := v) (d := c) (vs := vs) (ds := ds) r rs, hc, e => by
    rw [List.all_cons, Bool.and_eq_true] at hc
    have rest : ∃ us, Paired ClsV vs us := by
      clear e
      have : ∀ {vs : List V} {ds : List D}, Reps G w vs ds → ds.all clsD = true → ∃ us, Paired ClsV vs us := fun {vs ds} r h => by
        induction ds generalizing vs with
        | nil => cases r; exact ⟨[], .nil⟩
        | cons d ds ih =>
          cases r with
          | cons a b =>
            rw [List.all_cons, Bool.and_eq_true] at h
            obtain ⟨us, hu⟩ := ih b h.2
            cases a with
            | ty n => exact ⟨_, .cons (.ty n) hu⟩
            | @cls C n hC => exact ⟨_, .cons (.own C) hu⟩
            | _ => exact nomatch h.1
      exact this rs hc.2
    simp only [isAny] at e
    split at e
    · rename_i e1
      cases e
      obtain ⟨u, h1, h2⟩ := isOne_kit hK I ht r e1
      obtain ⟨us, hu⟩ := rest
      exact ⟨u :: us, .cons h1 hu, kitAny_cons h2 (fun z => nomatch z) fun _ => rfl⟩
    · rename_i e1
      obtain ⟨u, h1, h2⟩ := isOne_kit hK I ht r e1
      obtain ⟨us, hu, hk⟩ := isAny_kit hK I ht rs hc.2 e
      exact ⟨u :: us, .cons h1 hu, kitAny_cons h2 (fun _ => hk) fun z => nomatch z⟩
    · cases e
theorem pd_isT (hK : G.K = X.K) {cs : List String} (I : IsOk G cs) {x : Str} {p pos pos2 : Pos} {k : Nat} {e : Expr} {es : List Expr} {fe : DE} {fa : DA} (hg : Gl X x) (hm : X.mg x = none) (hv : bootBuiltins x = some (.builtin "isinstance")) (he : PD G W X e fe) (hes : PDA G W X es fa) (hn : x ≠ "__name__" := by decide)
    (hdb : (x == ("__debug__" : Str)) = false := by decide) (h1 : starEach (e :: [Expr.Tuple es k pos2]) X.env = (false, eval e X.env) :: starEach [Expr.Tuple es k pos2] X.env := by rfl) (h2 : starEach [Expr.Tuple es k pos2] X.env = (false, eval (.Tuple es k pos2) X.env) :: starEach [] X.env := by rfl)
    (hpl : (backTo pos (starEach [Expr.Tuple es k pos2] X.env)).any (·.1) = false := by rfl) : PD G W X (.Call (.Name x p) [e, .Tuple es k pos2] [] pos) (eIsT cs fe fa) :=
  (pe_callB call_isiT hg hm hv (pa_cons he (pa_cons (pe_tup hes) pa_nil h2) h1) hn hdb h1 hpl).imp fun σ H Q ⟨κ, w, s, ok, q⟩ => ⟨κ, w, s, ok, (PostG.bind q).imp fun v H1 ⟨d, s1, w1, le, ok1, r1, q1⟩ =>
    ⟨κ, w1, s1, ok1, (PostG.bind q1).imp fun vs H2 ⟨ts, s2, w2, le2, ok2, r2, q2⟩ => by
      by_cases c : ts.length ≤ 1000 ∧ ts.all clsD = true
      · rw [if_pos c] at q2
        refine ⟨by rw [r2.length]; exact sz1000 c.1, fun p hp => ?_⟩
        obtain ⟨le3, ok3⟩ := ok2.alloc hp (.tup vs)
        cases e1 : tyOfD cs d with
        | none => rw [e1] at q2; exact q2.elim
        | some t =>
          rw [e1] at q2
          obtain ⟨tv, ty, ht⟩ := tyX_of hK I ok3 ((r1.mono le2).mono le3) e1
          cases e2 : isAny cs t ts with
          | none => simp only [Option.bind_some, e2] at q2; exact q2.elim
          | some b =>
            simp only [Option.bind_some, e2] at q2
            obtain ⟨us, hu, hk⟩ := isAny_kit hK I (t := t) (tv := tv) (by cases t <;> exact ht) (r2.mono le3) c.2 e2
            exact ⟨v, p, vs, tv, us, b, rfl, upd_same, hu, ty, hk, q2 _ _ _ le3 ok3 (.bl b)⟩
      · rw [if_neg c] at q2
        exact q2.elim⟩⟩
/-! ### x != [] of an own list -/
def eNeO (i : Nat) : DT := fun s => match s.sl[i]? with
  | some (.ol xs) => (match dNe (.lst xs) (.lst []) with | some (.bl b) => .ok b s | _ => .stuck)
  | some (.val d) => (match dNe d (.lst []) with | some (.bl b) => .ok b s | _ => .stuck)
  | _ => .stuck
theorem dNe_parts {x y : D} {b : Bool} (e : dNe x y = some (.bl b)) : ∃ p q, toPy x = some p ∧ toPy y = some q ∧ SeqAt.shaped p = true ∧ SeqAt.shaped q = true ∧ b = !PyData.eqv p q := by
  unfold dNe at e
  cases e1 : toPy x with
  | none => simp [e1] at e
  | some p =>
    cases e2 : toPy y with
    | none => simp [e1, e2] at e
    | some p' =>
      simp only [e1, e2] at e
      split at e
      · rename_i c
        cases e
        rw [Bool.and_eq_true] at c
        exact ⟨p, p', rfl, rfl, c.1, c.2, rfl⟩
      · cases e
theorem ptd_neO (hK : G.K = X.K) (hu : X.A.units + 64 < cLine) {i : Nat} {x : Str} {p pos pos2 : Pos} (ho : PE X (.Name x p) (tVar i)) : PDT G W X (.Compare (.Name x p) [.NotEq] [.List [] pos2] pos) (eNeO i) :=
  (pt_cmpR (op_neD hu) ho (pe_lst pa_nil) (nomark _)).imp fun σ H Q ⟨κ, w, s, ok, q⟩ => by
    unfold eNeO at q
    cases e : s.sl[i]? with
    | none => rw [e] at q; exact q.elim
    | some y =>
      rw [e] at q
      cases y with
      | ol xs =>
        replace q : PostG G W (fun _ (v : Bool) d => v = d) κ w σ (match dNe (.lst xs) (.lst []) with | some (.bl b) => .ok b s | _ => .stuck) Q := q
        obtain ⟨a, vs, h1, h2, h3⟩ := own_list ok e
        refine ⟨.ref a, h1, by decide, fun p hp => ?_⟩
        split at q
        · rename_i b e1
          obtain ⟨p1, p2, t1, t2, c1, c2, rfl⟩ := dNe_parts e1
          obtain ⟨le2, ok2⟩ := ok.alloc hp (.lst [])
          obtain ⟨a', h1', ⟨vs', h2', h3'⟩, _⟩ := ok2.own i _ e rfl
          obtain ⟨le3, ok3⟩ := ok2.freeze (d := .lst xs) e rfl h1' h2' fun w' l f => .lst f (h3'.mono l)
          rw [h1] at h1'
          cases h1'
          have r1 : Dp X.K _ (.ref a) p1 := Rep.py hK ok3 (.lst upd_same (h3'.mono le3)) t1
          have r2 : Dp X.K _ (.ref p) p2 := Rep.py hK ok2 (.lst upd_same .nil) t2
          exact ⟨p1, p2, r1, r2, c1, c2, _, rfl, q _ _ _ le2 ok2 rfl⟩
        · exact q.elim
      | val d =>
        replace q : PostG G W (fun _ (v : Bool) d => v = d) κ w σ (match dNe d (.lst []) with | some (.bl b) => .ok b s | _ => .stuck) Q := q
        obtain ⟨v, h1, r1⟩ := ok.val i d e
        refine ⟨v, h1, by decide, fun p hp => ?_⟩
        split at q
        · rename_i b e1
          obtain ⟨p1, p2, t1, t2, c1, c2, rfl⟩ := dNe_parts e1
          obtain ⟨le2, ok2⟩ := ok.alloc hp (.lst [])
          have r2 : Dp X.K _ (.ref p) p2 := Rep.py hK ok2 (.lst upd_same .nil) t2
          exact ⟨p1, p2, Rep.py hK ok2 (r1.mono le2) t1, r2, c1, c2, _, rfl, q _ _ _ le2 ok2 rfl⟩
        · exact q.elim
      | _ => exact q.elim
end
end DL
set_option maxRecDepth 100000
set_option maxHeartbeats 4000000
set_option autoImplicit false
namespace DL
open PySem PySem.Spec PyProof.Rows L2
section
variable {G : Gam} {W : WX} {X : Cx}
/-! ### a, b, c = [], [], x with lists of one's own -/
def sPar3O (i j l : Nat) (f1 f2 : DA) (f3 : DE) : DStm := fun s => match f1 s with
  | .ok xs s1 => match f2 s1 with
    | .ok ys s2 => match f3 s2 with
      | .ok d s3 => .ok .nx ⟨((s3.sl.set i (.ol xs)).set j (.ol ys)).set l (.val d), s3.st⟩
      | _ => .stuck
    | _ => .stuck
  | _ => .stuck
theorem pds_par3O {i j l : Nat} {x y z : Str} {a b c : Expr} {f1 f2 : DA} {f3 : DE} {px py pz pt pos : Pos} {kt k2 : Nat} {pt2 : Pos} (hc : X.calm = true) (hN : X.N.Nodup) (hi : X.N[i]? = some x) (hj : X.N[j]? = some y) (hl : X.N[l]? = some z) (hij : i ≠ j) (hil : i ≠ l) (hjl : j ≠ l)
    (hx : X.env.scope.names.lookup x = some .local) (hy : X.env.scope.names.lookup y = some .local) (hz : X.env.scope.names.lookup z = some .local) (ha : PDo G W X a f1) (hb : PDo G W X b f2) (hd : PD G W X c f3)
    (hw : swappedStores [.Tuple [.Name x px, .Name y py, .Name z pz] kt pt] (.Tuple [a, b, c] k2 pt2) X.env = pure (some [x, y, z]))
    (hs : swapsWithSole [.Tuple [.Name x px, .Name y py, .Name z pz] kt pt] (.Tuple [a, b, c] k2 pt2) pos.line X.env = pure false := by rfl)
    (s1 : starEach [a, b, c] X.env = (false, eval a X.env) :: starEach [b, c] X.env := by rfl) (s2 : starEach [b, c] X.env = (false, eval b X.env) :: starEach [c] X.env := by rfl) (s3 : starEach [c] X.env = (false, eval c X.env) :: starEach [] X.env := by rfl) :
    PDS G W X (.Assign [.Tuple [.Name x px, .Name y py, .Name z pz] kt pt] (.Tuple [a, b, c] k2 pt2) pos) (sPar3O i j l f1 f2 f3) :=
  (ps_par3 hc hN hi hj hl hij hil hjl hx hy hz (pa_cons ha (pa_cons hb (pa_cons hd pa_nil s3) s2) s1) hw hs).imp fun N σ H ⟨κ, w, s, ok, q⟩ => by
    unfold sPar3O at q
    cases e1 : f1 s with
    | stuck => rw [e1] at q; exact q.elim
    | exc x s' => rw [e1] at q; exact q.elim
    | ok xs s1 =>
      rw [e1] at q
      simp only at q
      refine ⟨κ, w, s, ok, ?_⟩
      rw [e1]
      intro w1 a vs H1 l1 ok1 g1 r1
      cases e2 : f2 s1 with
      | stuck => rw [e2] at q; exact q.elim
      | exc x s' => rw [e2] at q; exact q.elim
      | ok ys s2 =>
        rw [e2] at q
        simp only at q
        refine ⟨_, w1, s1, ok1, ?_⟩
        rw [e2]
        intro w2 b us H2 l2 ok2 g2 r2
        cases e3 : f3 s2 with
        | stuck => rw [e3] at q; exact q.elim
        | exc x s' => rw [e3] at q; exact q.elim
        | ok d s3 =>
          rw [e3] at q
          simp only at q
          refine ⟨_, w2, s2, ok2, ?_⟩
          rw [e3]
          intro w3 v H3 l3 ok3 r3
          refine ⟨_, _, _, rfl, ?_⟩
          have h1 := ok3.setOwn (y := .ol ys) g2 ⟨us, (ok3.gam (b, .lst us) List.mem_cons_self).1, r2.mono l3⟩ rfl (fun _ _ z => nomatch z) j
          have h2 := h1.setOwn (y := .ol xs) g1 ⟨vs, (h1.gam (a, .lst vs) List.mem_cons_self).1, (r1.mono l2).mono l3⟩ rfl (fun _ _ z => nomatch z) i
          have h3 := h2.setVal r3 l
          rw [List.set_comm _ _ hij] 
          rw [List.set_comm _ _ hij] at q
          exact q w3 _ H3 (l1.trans (l2.trans l3)) h3
/-! ### is True, is False -/
def dIsB : D → D → Option D := fun x y => match x, y with
  | .bl a, .bl b => some (.bl (decide (a = b)))
  | _, _ => none
def dNotB : D → D → Option D := fun x y => match x, y with
  | .bl a, .bl b => some (.bl (!decide (a = b)))
  | _, _ => none
theorem opd_isB : OpD G X (compareOp .Is) dIsB := ⟨_, op_isBl, fun κ w s σ H x y dx dy d Q ok rx ry e q => by
  cases rx with
  | bl a =>
    cases ry with
    | bl b =>
      cases e
      exact ⟨_, _, rfl, rfl, q w _ H (.refl _) ok (.bl _)⟩
    | _ => exact nomatch e
  | _ => exact nomatch e⟩
theorem opd_notB : OpD G X (compareOp .IsNot) dNotB := ⟨_, op_notBl, fun κ w s σ H x y dx dy d Q ok rx ry e q => by
  cases rx with
  | bl a =>
    cases ry with
    | bl b =>
      cases e
      exact ⟨_, _, rfl, rfl, q w _ H (.refl _) ok (.bl _)⟩
    | _ => exact nomatch e
  | _ => exact nomatch e⟩
/-! ### a, b = a list of two -/
def gTA (n : Nat) (g : List D → DS → Res DS Unit) : DG := fun d s => match d with
  | .tup ds => if ds.length = n then g ds s else .stuck
  | .lst ds => if ds.length = n then g ds s else .stuck
  | _ => .stuck
theorem pdg_any (hK : G.K = X.K) {es : List Expr} {is : List Nat} {k : Nat} {g : List D → DS → Res DS Unit} {n : Nat} {pos : Pos} (hc : X.calm = true) (h : PDGs G X es is g)
    (hn : (assignEach es X.env).length = n := by rfl) (hst : (assignEach es X.env).findIdx? (·.1) = none := by rfl) : PDG G X (.Tuple es k pos) is (gTA n g) :=
  ⟨fun pins s0 σ H v u Q I r0 ⟨κ, w, s, d, ok, r, q⟩ => by
    cases r with
    | @tup a vs ds e r =>
      by_cases c : ds.length = n
      · have q : PostT G is σ κ w (if ds.length = n then g ds s else .stuck) Q := q
        rw [if_pos c] at q
        exact (pg_tup hc h hn hst).run pins s0 σ H _ u Q I r0 ⟨a, vs, rfl, hK ▸ SqT.le e ok.fok.sub, by rw [r.length]; exact c, κ, w, s, ds, ok, r, q⟩
      · have q : PostT G is σ κ w (if ds.length = n then g ds s else .stuck) Q := q
        rw [if_neg c] at q
        exact q.elim
    | @lst a vs ds e r =>
      by_cases c : ds.length = n
      · have q : PostT G is σ κ w (if ds.length = n then g ds s else .stuck) Q := q
        rw [if_pos c] at q
        exact (pg_unl hc h hn hst).run pins s0 σ H _ u Q I r0 ⟨a, vs, rfl, .inl (.inl (ok.fok.sub _ _ e)), by rw [r.length]; exact c, κ, w, s, ds, ok, r, q⟩
      · have q : PostT G is σ κ w (if ds.length = n then g ds s else .stuck) Q := q
        rw [if_neg c] at q
        exact q.elim
    | _ => exact q.elim⟩
/-! ### text * number -/
theorem op_smul : OpR X (binaryOp .Mult) (fun x y H Q => ∃ (i : Str) (n : Int), x = .str i ∧ y = .int n ∧ i.length ≤ 100 ∧ -100000 ≤ n ∧ n ≤ 100000 ∧ Q (.str (Txt.mul i n)) H) := by
  intro pins s σ H x y v u Q I rx ry h
  obtain ⟨i, n, rfl, rfl, hz, h0, h1, q⟩ := h
  obtain ⟨t, rfl⟩ := rx
  obtain ⟨t', rfl⟩ := ry
  refine SB.mul ⟨?_, fun hn _ => ?_, fun hn _ => ?_⟩ fun t' k => ⟨.str (Txt.mul i n), H, I.tok _, ⟨_, rfl⟩, q⟩
  · rw [decide_eq_false (by omega), decide_eq_false (by omega)]; rfl
  · have : (i.length : Int) ≤ (2 ^ 63 - 1) / n := by
      rw [Int.le_ediv_iff_mul_le (by omega)]
      have := Int.mul_le_mul (show (i.length : Int) ≤ 100 by omega) h1 (by omega) (by omega)
      omega
    omega
  · unfold Builtin.Str.tooLong
    have := Nat.mul_le_mul hz (show n.toNat ≤ 100000 by omega)
    rw [decide_eq_false]
    rw [Nat.not_lt]
    exact Nat.le_trans this (by decide)
theorem foldl_repN (l : List Nat) : ∀ (k : Nat) (acc : List Nat), (List.replicate k l.toArray).foldl (· ++ ·) acc.toArray = (acc ++ (List.replicate k l).flatten).toArray
  | 0, acc => by simp
  | k + 1, acc => by
    rw [List.replicate_succ, List.foldl_cons, List.append_toArray, foldl_repN l k (acc ++ l), List.replicate_succ, List.flatten_cons, List.append_assoc]
theorem mul_nm (l : Nm) (n : Int) : Txt.mul (nm l) n = nm (List.replicate n.toNat l).flatten := by
  unfold Txt.mul
  by_cases c : n < 1
  · rw [if_pos c, show n.toNat = 0 by omega]
    rfl
  · rw [if_neg c]
    by_cases c2 : (n == 1 || (nm l).length == 0) = true
    · rw [if_pos c2]
      rw [Bool.or_eq_true] at c2
      rcases c2 with c2 | c2
      · have : n = 1 := by simpa using c2
        subst this
        simp
      · have hl : l = [] := by
          have := (beq_iff_eq.mp c2)
          rw [nm_len] at this
          exact List.eq_nil_of_length_eq_zero this
        subst hl
        simp
    · rw [if_neg c2]
      have := foldl_repN l n.toNat []
      rw [List.nil_append] at this
      unfold nm
      rw [← this]
def sMul : D → D → Option D := fun x y => match x, y with
  | .str l, .int n => if l.length ≤ 100 ∧ -100000 ≤ n ∧ n ≤ 100000 then some (.str (List.replicate n.toNat l).flatten) else none
  | _, _ => none
theorem opd_smul : OpD G X (binaryOp .Mult) sMul := ⟨_, op_smul, fun κ w s σ H x y dx dy d Q ok rx ry e q => by
  cases rx with
  | str l =>
    cases ry with
    | int n =>
      have e : (if l.length ≤ 100 ∧ -100000 ≤ n ∧ n ≤ 100000 then some (D.str (List.replicate n.toNat l).flatten) else none) = some d := e
      split at e
      · rename_i c
        cases e
        refine ⟨nm l, n, rfl, rfl, by rw [nm_len]; exact c.1, c.2.1, c.2.2, ?_⟩
        rw [mul_nm]
        exact q w _ H (.refl _) ok (.str _)
      · cases e
    | _ => exact nomatch e
  | _ => exact nomatch e⟩
/-! ### tuple + tuple, empty ones too -/
def tAdd : D → D → Option D := fun x y => match x, y with
  | .tup a, .tup b => if a.length + b.length ≤ 1000000 then some (.tup (a ++ b)) else none
  | _, _ => none
theorem opd_tadd (hK : G.K = X.K) : OpD G X (binaryOp .Add) tAdd := ⟨_, op_catA, fun κ w s σ H x y dx dy d Q ok rx ry e q => by
  cases rx with
  | @tup a vs ds e1 r1 =>
    cases ry with
    | @tup a2 vs2 ds2 e2 r2 =>
      have e : (if ds.length + ds2.length ≤ 1000000 then some (D.tup (ds ++ ds2)) else none) = some d := e
      split at e
      · rename_i c
        cases e
        refine ⟨a, a2, vs, vs2, rfl, rfl, hK ▸ SqT.le e1 ok.fok.sub, hK ▸ SqT.le e2 ok.fok.sub, by rw [r1.length, r2.length, sizeLine_eq]; omega, fun z => ?_, fun _ z => ?_, fun _ _ p hp => ?_⟩
        · subst z
          cases r1
          exact q w _ H (.refl _) ok (.tup e2 r2)
        · subst z
          cases r2
          rw [List.append_nil] at q
          exact q w _ H (.refl _) ok (.tup e1 r1)
        · obtain ⟨le2, ok2⟩ := ok.alloc hp (.tup (vs ++ vs2))
          exact q _ _ _ le2 ok2 (.tup (.inl (.inl upd_same)) ((r1.append r2).mono le2))
      · cases e
    | _ => exact nomatch e
  | _ => exact nomatch e⟩
/-! ### max(xs), min(xs) of a list of ints -/
def mxL : List Int → Int
  | [] => 0
  | [x] => x
  | x :: y :: r => if mxL (y :: r) > x then mxL (y :: r) else x
def mnL : List Int → Int
  | [] => 0
  | [x] => x
  | x :: y :: r => if mnL (y :: r) < x then mnL (y :: r) else x
theorem mxL_mem : ∀ {l : List Int}, l ≠ [] → mxL l ∈ l ∧ ∀ y ∈ l, y ≤ mxL l
  | [], h => absurd rfl h
  | [x], _ => ⟨by simp [mxL], fun y hy => by simp at hy; subst hy; simp [mxL]⟩
  | x :: y :: r, _ => by
    obtain ⟨h1, h2⟩ := mxL_mem (l := y :: r) (by simp)
    unfold mxL
    split
    · refine ⟨List.mem_cons_of_mem _ h1, fun z hz => ?_⟩
      rcases List.mem_cons.mp hz with rfl | hz
      · omega
      · exact h2 z hz
    · refine ⟨List.mem_cons_self .., fun z hz => ?_⟩
      rcases List.mem_cons.mp hz with rfl | hz
      · omega
      · have := h2 z hz; omega
theorem mnL_mem : ∀ {l : List Int}, l ≠ [] → mnL l ∈ l ∧ ∀ y ∈ l, mnL l ≤ y
  | [], h => absurd rfl h
  | [x], _ => ⟨by simp [mnL], fun y hy => by simp at hy; subst hy; simp [mnL]⟩
  | x :: y :: r, _ => by
    obtain ⟨h1, h2⟩ := mnL_mem (l := y :: r) (by simp)
    unfold mnL
    split
    · refine ⟨List.mem_cons_of_mem _ h1, fun z hz => ?_⟩
      rcases List.mem_cons.mp hz with rfl | hz
      · omega
      · exact h2 z hz
    · refine ⟨List.mem_cons_self .., fun z hz => ?_⟩
      rcases List.mem_cons.mp hz with rfl | hz
      · omega
      · have := h2 z hz; omega
def bMaxL : List D → Option D
  | [.lst xs] => match intsOf xs with
    | some (n :: ns) => some (.int (mxL (n :: ns)))
    | _ => none
  | _ => none
def bMinL : List D → Option D
  | [.lst xs] => match intsOf xs with
    | some (n :: ns) => some (.int (mnL (n :: ns)))
    | _ => none
  | _ => none
theorem cd_maxL (hc : X.calm = true) : CallD G X (.builtin "max") bMaxL := ⟨_, cr_max hc, fun κ w s σ H vs ds d Q ok rs e q => by
  match ds, e with
  | [.lst xs], e =>
    have e : (match intsOf xs with | some (n :: ns) => some (D.int (mxL (n :: ns))) | _ => none) = some d := e
    cases e1 : intsOf xs with
    | none => rw [e1] at e; cases e
    | some l =>
      rw [e1] at e
      cases l with
      | nil => cases e
      | cons n ns =>
        cases e
        obtain ⟨v, rfl, r⟩ := rs.one
        cases r with
        | @lst a vs ds e r =>
          rw [intsOf_eq e1] at r
          rw [r.ints] at e
          refine ⟨a, n :: ns, rfl, .inl (.inl (ok.fok.sub _ _ e)), by simp, fun m h1 h2 => ?_⟩
          obtain ⟨h3, h4⟩ := mxL_mem (l := n :: ns) (by simp)
          have : m = mxL (n :: ns) := Int.le_antisymm (h4 m h1) (h2 _ h3)
          subst this
          exact q w _ H (.refl _) ok (.int _)⟩
theorem cd_minL (hc : X.calm = true) : CallD G X (.builtin "min") bMinL := ⟨_, cr_min hc, fun κ w s σ H vs ds d Q ok rs e q => by
  match ds, e with
  | [.lst xs], e =>
    have e : (match intsOf xs with | some (n :: ns) => some (D.int (mnL (n :: ns))) | _ => none) = some d := e
    cases e1 : intsOf xs with
    | none => rw [e1] at e; cases e
    | some l =>
      rw [e1] at e
      cases l with
      | nil => cases e
      | cons n ns =>
        cases e
        obtain ⟨v, rfl, r⟩ := rs.one
        cases r with
        | @lst a vs ds e r =>
          rw [intsOf_eq e1] at r
          rw [r.ints] at e
          refine ⟨a, n :: ns, rfl, .inl (.inl (ok.fok.sub _ _ e)), by simp, fun m h1 h2 => ?_⟩
          obtain ⟨h3, h4⟩ := mnL_mem (l := n :: ns) (by simp)
          have : m = mnL (n :: ns) := Int.le_antisymm (h2 _ h3) (h4 m h1)
          subst this
          exact q w _ H (.refl _) ok (.int _)⟩
/-! ### range(i, j, c) -/
def rngC (lo c : Int) (n : Nat) : List D := (List.range n).map fun (i : Nat) => D.int (lo + (i : Int) * c)
theorem itOk_rngC {w : Wd} (lo c : Int) (n : Nat) : ItOk G w (Itc lo c n) (rngC lo c n) := by
  intro w1 S H le fok i
  refine ⟨fun d hd => ?_, fun hn => ?_⟩
  · unfold rngC at hd
    rw [List.getElem?_map] at hd
    by_cases c : i < n
    · rw [List.getElem?_range c] at hd
      cases hd
      refine ⟨c, fun x H' ⟨hH, hx⟩ => ⟨w1, ?_, ?_, ?_⟩⟩
      · rw [hH]; exact .refl _ _
      · rw [hH]; exact fok
      · rw [hx]; exact .int _
    · rw [List.getElem?_eq_none (by rw [List.length_range]; omega)] at hd
      cases hd
  · have := List.getElem?_eq_none_iff.mp hn
    unfold rngC at this
    rw [List.length_map, List.length_range] at this
    exact this
def itR3 (f : DA) : DA := fun s => (f s).bind fun ds s1 => match ds with
  | [.int i, .int j, .int c] => if c ≠ 0 ∧ c.natAbs < 1073741824 ∧ Builtin.Range.small i j c = true ∧ 0 ≤ Builtin.Range.rangeSize i j c then .ok (rngC i c (Builtin.Range.rangeSize i j c).toNat) s1 else .stuck
  | _ => .stuck
theorem pdi_range3 {tg a b c : Expr} {f : DA} {p pos : Pos} (hg : Gl X "range") (hm : X.mg "range" = none) (ha : PDA G W X [a, b, c] f) (hs : starEach [a, b, c] X.env = (false, eval a X.env) :: starEach [b, c] X.env := by rfl) (hpl : (backTo pos (starEach [b, c] X.env)).any (·.1) = false := by rfl) :
    PDI G W X tg (.Call (.Name "range" p) [a, b, c] [] pos) (itR3 f) :=
  (pi_range3 hg hm ha hs hpl).imp fun σ H R ⟨κ, w, s, ok, q⟩ => ⟨κ, w, s, ok, (PostG.bindI q).imp fun v H1 ⟨d, s1, w1, le, ok1, r1, q1⟩ => by
    match d, q1, r1 with
    | [.int i, .int j, .int c], q1, .cons (.int _) (.cons (.int _) (.cons (.int _) .nil)) =>
      have q1 : PostI G W κ w1 σ (if c ≠ 0 ∧ c.natAbs < 1073741824 ∧ Builtin.Range.small i j c = true ∧ 0 ≤ Builtin.Range.rangeSize i j c then .ok (rngC i c (Builtin.Range.rangeSize i j c).toNat) s1 else .stuck) R := q1
      by_cases cc : c ≠ 0 ∧ c.natAbs < 1073741824 ∧ Builtin.Range.small i j c = true ∧ 0 ≤ Builtin.Range.rangeSize i j c
      · rw [if_pos cc] at q1
        exact ⟨i, j, c, _, rfl, ⟨cc.1, cc.2.1, cc.2.2.1, (Int.toNat_of_nonneg cc.2.2.2).symm⟩, q1 w1 _ H1 (.refl _) ok1 (itOk_rngC i c _)⟩
      · rw [if_neg cc] at q1
        exact q1.elim⟩
end
end DL
set_option maxRecDepth 100000
set_option maxHeartbeats 4000000
set_option autoImplicit false
namespace DL
open PySem PySem.Spec PyProof.Rows L2
/-! ### raise C(), the class with no __init__ of its own -/
abbrev veM : List Value := [.type "ValueError", .type "Exception", .type "BaseException", .type "object"]
def x0B (K : PySem.W.Frag) (C : Addr) : Bool := PySem.W.excIn K C veM "ValueError.__new__" && (PySem.W.keepIn K (.ref C) && ((PySem.W.subIn K (.ref C) (.type "BaseException") == some true) && (PySem.W.typeIn K (.ref C) == some (.type "type"))))
def sRaise0 (c : String) : DStm := fun s => .exc ⟨c, []⟩ s
@[simp] theorem r_sRaise0 (c : String) (s : DS) : sRaise0 c s = .exc ⟨c, []⟩ s := rfl
section
variable {G : Gam} {W : WX} {X : Cx}
theorem pmk_own0 {C : Addr} {x : Str} {p pos : Pos} (hB : x0B X.K C = true) (gC : X.mg x = some (.ref C)) (hg : Gl X x) (hdb : (x == ("__debug__" : Str)) = false := by decide) :
    PMk X (.Call (.Name x p) [] [] pos) (fun σ H Q => Q (.ref C) none H) := by
  unfold x0B at hB
  simp only [Bool.and_eq_true, beq_iff_eq] at hB
  obtain ⟨q, kC, b1, b2⟩ := hB
  intro pins s σ H Q I h
  refine wpAny_Call_Name_kw (ld_glob I hg gC ?_ hdb)
  refine PySem.W.callWith_K0 I.kIn kC ?_
  obtain ⟨bm, N, nm, qn, bs, hdct, sn, sub, ab, col, dd, k0, k1, k2, k3, k5, mN, hC, hN, hni, T⟩ := exc_obj I.kIn q
  refine wpAny_call_exc_subT PySem.F.excBase_ValueError T hC hN hni (fun h' e hm => ?_) (by show 0 ≤ sizeLine; rw [sizeLine_eq]; omega)
  exact mk_of I hm (raises_own b1 b2) h (I.hok.gone hm.new)
theorem pds_raise0 {c : String} {C : Addr} {x : Str} {p pos pos' : Pos} (hc : X.calm = true) (tk : Takes X W) (hct : G.ct c = some C) (hB : x0B X.K C = true) (hg : Gl X x) (hm : X.mg x = some (.ref C)) (hdb : (x == ("__debug__" : Str)) = false := by decide) :
    PDS G W X (.Raise (some (.Call (.Name x p) [] [] pos)) none pos') (sRaise0 c) :=
  (ps_raise hc tk (pmk_own0 hB hm hg hdb)).imp fun N σ H ⟨κ, w, s, ok, q⟩ => q w σ (.ref C) none H (.refl _) ok ⟨C, hct, rfl, .inl ⟨rfl, rfl⟩⟩
end
end DL
set_option maxRecDepth 100000
set_option maxHeartbeats 4000000
set_option autoImplicit false
namespace DL
open PySem PySem.Spec PyProof.Rows L2
/-! ### a comprehension whose element calls a def with a lambda of the maker: the maker's own state goes along -/
section
variable {X : Cx}
theorem lcK {elt tg iter : Expr} {ifs : List Expr} {scope : Scope} {own : List (Str × Nat)} {pos : Pos} {wi : TI} {g : TG} {tt : TT} {te : TE} (hc : X.calm = true) (hN : X.N.Nodup) (hi : PI X tg iter wi) (ok : BlkOk X.N X.env.scope scope own)
    (hg : ∀ (s : Shared) (H : Hp) (C : Addr) (cl : List (Str × Addr)) (fp : List Addr), PG (X.blk s H scope (compEnvC scope cl C X.env) fp) tg g) (ht : ∀ (s : Shared) (H : Hp) (C : Addr) (cl : List (Str × Addr)) (fp : List Addr), PTs (X.blk s H scope (compEnvC scope cl C X.env) fp) ifs tt)
    (he : ∀ (pins : List (Addr × Obj)) (σ : L2.St) (s : Shared) (H : Hp) (C : Addr) (cl : List (Str × Addr)) (fp : List Addr), Inv X pins σ H s → (∀ b ∈ fp, FpOk X pins H b) → PE (X.blk s H scope (compEnvC scope cl C X.env) fp) elt (fun σ' H' Q => L2.wipe σ' (own.map (·.2)) = L2.wipe σ (own.map (·.2)) ∧ te σ' H' Q)) (hs : ∀ x, foldedSetIterable iter X.env x = pure x := by intro _; rfl) :
    PE X (.ListComp elt [⟨tg, iter, ifs, 0⟩] scope pos) (tLc wi g tt te (own.map (·.2))) := by
  refine ⟨fun pins s σ H Q I h => ?_⟩
  rw [eval_ListComp]
  have fr : ∀ y ∈ scope.names, y.2 = .free → ∃ c, X.env.cells.lookup y.1 = some c := fun y hy e => (ok.free y hy e).elim (fun k => I.ok.has _ (.inl k)) fun k => I.ok.has _ (.inr k)
  refine wpAny_comprehension_free (use := none) rfl hs (closure_ok fr) ok.kind (fun y hy e => by rw [ok.uniq y hy, e])
    (thn (hi.run pins s σ H _ I h) fun xv s1 hx => thn hx fun itv s2 h2 => ?_)
  obtain ⟨it, fp, tn, J, H2, rfl, I2, T, st2, f2, q⟩ := h2
  refine wpAny_newObj_type (newEnv_comp ?_) (by show 0 ≤ sizeLine; decide)
  generalize hD : s2.heap.objs.size = D
  have nD : H2 D = none := I2.hok.fresh (Nat.le_of_eq hD)
  obtain ⟨Wv, ⟨m0, w0⟩, turn⟩ := q D nD
  generalize e3 : ({ s2 with heap := s2.heap.push { cls := .type "list", data := .seq ([] : List Value).toArray } } : Shared) = s3
  have hh : s3.heap = s2.heap.push { cls := .type "list", data := .seq ([] : List Value).toArray } := by rw [← e3]
  have I3 : Inv X pins σ (upd H2 D (.lst [])) s3 := by
    rw [← e3]
    refine I2.laid (t' := s2.toks) (fun b o e => Heap.get?_push_of_some _ e) (Nat.le_of_eq hD) ⟨Nat.zero_le _, [], 0, .nil, ?_⟩
    rw [← hD]
    exact Heap.get?_push_size _ rfl
  have lt2 : ∀ b ∈ fp, b < s2.heap.objs.size := fun b hb => let ⟨_, e, _⟩ := T.obj _ _ st2 b hb; Heap.lt_size e
  have f3 : ∀ b ∈ fp, FpOk X pins (upd H2 D (.lst [])) b ∧ b < s3.heap.objs.size := fun b hb =>
    ⟨⟨by rw [upd_ne (by rw [← hD]; exact Nat.ne_of_lt (lt2 b hb))]; exact (f2 b hb).1, (f2 b hb).2⟩, by rw [hh, Heap.size_push]; exact Nat.lt_succ_of_lt (lt2 b hb)⟩
  have st3 : tn 0 s3.heap := T.keep _ _ _ st2 fun b _ o e => by rw [hh]; exact Heap.get?_push_of_some _ e
  have I4 := block_start I3 ok hN f3
  show codeAny _ _ (.compStart (.ListComp elt [⟨tg, iter, ifs, 0⟩] scope pos) 0 (.ref it) (.ref D) (compEnvC scope (cellsFrom (s3.heap.objs.size + 1) scope.names (cloFrom X.env.cells scope.names [])) s3.heap.objs.size X.env)) (compPost (model X.prog X.w) X.A X.xe none (EP X pins σ Q) (.ref D) s3.heap.objs.size) { s3 with heap := pushCells (s3.heap.push { cls := .type "dict", data := .dict #[] }) scope.names }
  have pg := hg s3 (upd H2 D (.lst [])) s3.heap.objs.size (cellsFrom (s3.heap.objs.size + 1) scope.names (cloFrom X.env.cells scope.names [])) fp
  have pt := ht s3 (upd H2 D (.lst [])) s3.heap.objs.size (cellsFrom (s3.heap.objs.size + 1) scope.names (cloFrom X.env.cells scope.names [])) fp
  have pe := he pins σ s3 (upd H2 D (.lst [])) s3.heap.objs.size (cellsFrom (s3.heap.objs.size + 1) scope.names (cloFrom X.env.cells scope.names [])) fp I3 fun b hb => (f3 b hb).1
  have nfp : ∀ b ∈ fp, (upd H2 D (.lst [])) b = none := fun b hb => (f3 b hb).1.1
  generalize hce : compEnvC scope (cellsFrom (s3.heap.objs.size + 1) scope.names (cloFrom X.env.cells scope.names [])) s3.heap.objs.size X.env = ce at I4 pg pt pe ⊢
  have cL : ce.locals = s3.heap.objs.size := by subst hce; rfl
  generalize upd H2 D (.lst []) = H3 at I3 I4 pg pt pe w0 nfp f3
  generalize hs4 : ({ s3 with heap := pushCells (s3.heap.push { cls := .type "dict", data := .dict #[] }) scope.names } : Shared) = s4 at I4 ⊢
  have st4 : tn 0 s4.heap := T.keep _ _ _ st3 fun b _ o e => by rw [← hs4]; exact pushCells_keeps _ _ _ _ (Heap.get?_push_of_some _ e)
  have stat : ∀ {σ' : L2.St} {H' : Hp} {s' : Shared}, Inv (X.blk s3 H3 scope ce fp) [] σ' H' s' → (∀ b ∈ fp, H' b = none) → ∀ b ∈ fp, FpOk (X.blk s3 H3 scope ce fp) [] H' b := fun {σ' H' s'} I' hn b hb =>
    ⟨hn b hb, (I'.ok.exf b hb).1, I'.ok.exfs b hb, .inl hb, (I'.ok.exf b hb).2, fun p hp => absurd (show p ∈ ([] : List (Addr × Obj)) ++ [] from hp) (by simp)⟩
  have loop : codeAny (model X.prog X.w) X.A (.compLoop (.ListComp elt [⟨tg, iter, ifs, 0⟩] scope pos) 0 (.ref it) (.ref D) ce) (compPost (model X.prog X.w) X.A X.xe none (EP X pins σ Q) (.ref D) s3.heap.objs.size) s4 := by
    refine compLoop_any (fun n s' => ∃ i H', Inv (X.blk s3 H3 scope ce fp) [] (L2.wipe σ (own.map (·.2))) H' s' ∧ tn i s'.heap ∧ (∀ b ∈ fp, H' b = none) ∧ Wv i n H') ?_ m0 ⟨0, H3, I4, st4, nfp, w0⟩
    rintro n s5 ⟨i, H5, I5, st5, n5, w5⟩
    rcases turn i n H5 w5 with ⟨stop, qq⟩ | ⟨go, Nx, hNx, step⟩
    · refine thnF (T.done (X.blk s3 H3 scope ce fp) rfl rfl rfl hc i [] s5 _ H5 (fun _ _ => False) I5 (stat I5 n5) st5 stop) fun r s6 ⟨hr, I6⟩ => ?_
      subst hr
      have I7 : Inv X pins σ H5 s6 := I3.call' (ch := fp) I6.os I6.base I6.hok I6.bare fun b hb => ⟨(f3 b hb).1.2.2.2.1, (f3 b hb).1.2.1, (f3 b hb).1.2.2.2.2.1, (f3 b hb).1.2.2.2.2.2⟩
      have nC : H5 s3.heap.objs.size = none := by
        have z : H5 ce.locals = none := I6.free
        rw [cL] at z
        exact z
      obtain ⟨m, hn, _⟩ := I6.loc
      have hn : s6.heap.Ns ce.locals m := hn
      rw [cL] at hn
      obtain ⟨f0, f1, f2, f3, f4, f5⟩ := I3.fpOk (Nat.le_refl _) nC
      exact ⟨m, hn, fun h'' sb => ⟨.ref D, H5, I7.turned (t' := s6.toks) (fun b o hb e => (sb.2 b hb).trans e) f0 f1 f3 f4 f5, rfl, qq⟩⟩
    · refine thnF (T.item (X.blk s3 H3 scope ce fp) rfl rfl rfl hc i [] s5 _ H5 (fun _ _ => False) I5 (stat I5 n5) st5 go) fun r s6 ⟨u, hr, h6⟩ => ?_
      subst hr
      refine thnF h6 fun _ s7 ⟨x, H7, I7, r7, y7, st7, n7⟩ => ?_
      refine thnF (pg.run _ s7 _ H7 x u _ (I7.pinned (stat I7 n7) (T.obj _ _ st7)) r7 (step x H7 y7)) fun _ s8 ⟨σ8, H8, I8, hw8, q8⟩ => ?_
      refine thnF (pt.run _ s8 σ8 H8 _ I8 q8) fun b s9 ⟨H9, I9, q9⟩ => ?_
      have fin : ∀ {s' : Shared} {H' : Hp}, Inv (X.blk s3 H3 scope ce fp) ([] ++ pinsAt fp s7.heap) σ8 H' s' → Nx H' → ∃ m, m < n ∧ ∃ i H', Inv (X.blk s3 H3 scope ce fp) [] (L2.wipe σ (own.map (·.2))) H' s' ∧ tn i s'.heap ∧ (∀ b ∈ fp, H' b = none) ∧ Wv i m H' := fun {s' H'} I' nx => by
        obtain ⟨m', hm, w'⟩ := hNx H' nx
        have pin' : ∀ b ∈ fp, ∀ o, s7.heap.get? b = some o → s'.heap.get? b = some o ∧ H' b = none := fun b hb o e =>
          let z := I'.pin (b, o) (List.mem_append_right _ (List.mem_append_right _ (mem_pinsAt hb e)))
          ⟨z.1, z.2.1⟩
        refine ⟨m', hm, i + 1, H', (I'.unpinned (pins := [])).weak (by rw [← hw8, L2.wipe_length]) (fun j v e => by rw [← hw8] at e; exact (wipe_some e).1), T.keep _ _ _ st7 fun b hb o e => (pin' b hb o e).1, fun b hb => ?_, w'⟩
        obtain ⟨o, e, _⟩ := T.obj _ _ st7 b hb
        exact (pin' b hb o e).2
      cases b with
      | false =>
        simp only [Bool.false_eq_true, if_false] at q9 ⊢
        exact fin I9 q9
      | true =>
        simp only [if_true] at q9 ⊢
        refine thnF (pe.run _ s9 σ8 H9 _ I9 ⟨hw8, q9⟩) fun z s10 ⟨yv, H10, I10, r10, acc, hD10, hz10, nx⟩ => ?_
        exact app_ok (X := X.blk s3 H3 scope ce fp) I10 hD10 hz10 r10 fun s11 I11 => fin I11 nx
  exact codeAny_compStart_list loop (T.self X.A 0 _ _ _ st4 loop)
end

def eCallLB (n : Nat) (g : LamR → DFn) (bs : String → Option DE) (vs : List Nat) (fa : DA) : DE := fun s => (fa s).bind fun ds s1 => if ds.length = n then lift s1 (g (lamR bs (wipeD vs s1.sl)) ds s1.st) else .stuck
@[simp] theorem r_eCallLB (n : Nat) (g : LamR → DFn) (bs : String → Option DE) (vs : List Nat) (fa : DA) (s : DS) : eCallLB n g bs vs fa s = (fa s).bind fun ds s1 => if ds.length = n then lift s1 (g (lamR bs (wipeD vs s1.sl)) ds s1.st) else .stuck := rfl
section
variable {G : Gam} {W : WX} {X : Cx}
theorem pd_callLB {T : LamT} {bs : String → Option DE} {k n m i : Nat} {f : Addr} {fd : FuncData} {N ps : List Str} {body : LamR → DStm} {x qual a : Str} {st : Stmt} {p pos : Pos} {e : Expr} {es : List Expr} {fa : DA} {vs : List Nat}
    {pinsX : List (Addr × Obj)} {σX : L2.St} {sX : Shared} {HX : Hp} {scope : Scope} {cenv : Env} {fp : List Addr} (IX : Inv X pinsX σX HX sX) (hfp : ∀ b ∈ fp, FpOk X pinsX HX b) (hK : G.K = X.K) (F : Fun X.K x qual st f fd) (S : FnScope N ps (defScope st)) (hn : ps.length = n) (hm : N.length - n = m)
    (GL : ∀ n f w', G.lam n f w' → T.lam n f w') (hq : T.q = X.env.qual ++ "<lambda>") (hcl : T.cells = X.env.cells) (hbs : LamsOk G X T k bs)
    (hbody : ∀ w, BodyL (G.at w) X.prog X.w X.mg X.base (k + 1) N qual st f a i body) (hN : N[i]? = some a) (hv : Vis (defScope st) a)
    (hr : Room (k + 2) X.A) (hg : Gl (X.blk sX HX scope cenv fp) x) (hmg : X.mg x = some (.ref f)) (hb : Binds X.K fd ps []) (tk : Takes (X.blk sX HX scope cenv fp) WF) (ha : PDA G WF (X.blk sX HX scope cenv fp) (e :: es) fa) (hdb : (x == ("__debug__" : Str)) = false := by decide) (hda : (a == ("__debug__" : Str)) = false := by decide) (hcd : (a == ("__classdict__" : Str)) = false := by decide)
    (he : starEach (e :: es) cenv = (false, eval e cenv) :: starEach es cenv := by rfl) (hpl : (backTo pos (starEach es cenv)).any (·.1) = false := by rfl) :
    PE (X.blk sX HX scope cenv fp) (.Call (.Name x p) (e :: es) [] pos) (fun σ' H' Q => L2.wipe σ' vs = L2.wipe σX vs ∧ tD G WF (eCallLB n (fun Λ => fnD n (body Λ) m) bs vs fa) σ' H' Q) := by
  refine ⟨fun pins s σ H Q I ⟨hw, h⟩ => ?_⟩
  obtain ⟨κ, w, ds, ok, q⟩ := h
  refine wpAny_Call_Name_kw (ld_glob I hg hmg ?_ hdb)
  have hh : tDA G WF fa σ H fun vs' H1 => ∃ d s1 w1, w.le w1 ∧ Ok G κ w1 s1 σ H1 ∧ Reps G w1 vs' d ∧ PostG G WF (Rep G) κ w1 σ (if d.length = n then lift s1 (fnD n (body (lamR bs (wipeD vs s1.sl))) m d s1.st) else .stuck) Q := ⟨κ, w, ds, ok, PostG.bind q⟩
  refine PySem.W.callWith_K (h₀ := X.base) I.ok.mod.kin F.kp (thn (ha.run pos pins s σ H _ I hh) fun us s1 ⟨vs', H1, I1, r, d, s2, w1, le, ok1, rs, q1⟩ => ⟨I1.kIn, ?_⟩) he hpl
  by_cases c : d.length = n
  case neg => rw [if_neg c] at q1; exact q1.elim
  rw [if_pos c] at q1
  have q2 := postF_of ok1 q1
  have J : Inv X pinsX (L2.wipe σX vs) H1 s1 := (IX.call' (ch := fp) I1.os I1.base I1.hok I1.bare fun b hb => ⟨(hfp b hb).2.2.2.1, (hfp b hb).2.1, (hfp b hb).2.2.2.2.1, (hfp b hb).2.2.2.2.2⟩).weak (L2.wipe_length _ _) fun j v e => (wipe_some e).1
  have okW : Ok G κ w1 (wipeS vs s2) (L2.wipe σX vs) H1 := by rw [← hw]; exact ok1.wipe vs
  obtain ⟨oc, od, kV, doc, pm, an, cdv, ct, osl, rfl, lk, hcode⟩ := F.ex
  have hl : vs'.length = n := by rw [rs.length]; exact c
  have hul : us.length = ps.length := by rw [← r.length, hl, hn]
  have rc : codeAny (model X.prog X.w) X.A (.call (.ref f) ⟨us, []⟩) (CR (L2.CX X.prog X.w) X.stack X.prog X.w H1 s1 Q (WE WF σ)) s1 := by
    have hbd := hb s1 us I1.kIn (by simpa using hul)
    rw [List.append_nil] at hbd
    refine LamX.run_ofS (N := N) (ps := ps) (us := us) (vs := vs') lk hcode S hr I1.env0 hbd r (by rw [hl, hn]) fun hr' => ?_
    have hb0 := hbody w1 (lamR bs (wipeD vs s2.sl)) cdv X.A X.stack s1 H1 (WE WF σ) hr' (takes_of rfl rfl rfl rfl) (passes_of rfl) 
    have hK' : (G.at w1).K = X.K := hK
    rw [hK'] at hb0
    refine ⟨_, hb0 fun pn xe W' p1 p2 tk' => pd_act J okW GL hq hcl hbs tk' hr' hN hv hda hcd, ?_⟩
    rw [start_eq (m := m) (by rw [hl]; exact hm)]
    have fok' : FOk (G.at w1) w1 s2.st H1 := ok1.fok.sw (.inr fun _ _ z => ⟨z, .refl _⟩)
    have rs' : Reps (G.at w1) w1 vs' d := rs.sw (.inr fun _ _ z => ⟨z, .refl _⟩)
    refine ⟨⟨w1, H1, [], none⟩, w1, _, Ok.start fok' rs' m, ?_⟩
    unfold fnD at q2
    rw [if_pos c] at q2
    cases e : body (lamR bs (wipeD vs s2.sl)) ⟨d.map Sl.val ++ List.replicate m .un, s2.st⟩ with
    | stuck => rw [e] at q2; exact q2.elim
    | exc x s' =>
      rw [e] at q2
      exact fun w' σ' c dd H' le ok' rx => q2 w' c dd H' ok'.nx (ok'.fok.bk (.inr fun _ _ z => z.1)) (rx.bk (.inr fun _ _ z => z.1))
    | ok o s' =>
      rw [e] at q2
      cases o with
      | nx => exact fun w' σ' H' le ok' => q2 w' .non H' ok'.nx (ok'.fok.bk (.inr fun _ _ z => z.1)) .non
      | rt d => exact fun w' σ' v H' le ok' r' => q2 w' v H' ok'.nx (ok'.fok.bk (.inr fun _ _ z => z.1)) (r'.bk (.inr fun _ _ z => z.1))
      | bk => exact q2.elim
      | ct => exact q2.elim
  refine wpAny_call (codeAny_mono rc fun r s' hq => ?_)
  cases r with
  | error e => exact passAt tk σ pins H1 s1 e s' I1 hq
  | ok fl =>
    cases fl with
    | ret u => exact I1.after hq
    | next => exact False.elim hq
    | brk => exact False.elim hq
    | cont => exact False.elim hq
theorem pdo_lcL {elt tg iter : Expr} {ifs : List Expr} {scope : Scope} {own : List (Str × Nat)} {is : List Nat} {pos : Pos} {it : DA} {g : DG} {t : DT} {e : DE} (hc : X.calm = true) (hN : X.N.Nodup) (hi : PDI G W X tg iter it) (ok : BlkOk X.N X.env.scope scope own) (hs' : ∀ i ∈ is, i ∈ own.map (·.2))
    (hg : ∀ (s : Shared) (H : Hp) (C : Addr) (cl : List (Str × Addr)) (fp : List Addr), PDG G (X.blk s H scope (compEnvC scope cl C X.env) fp) tg is g) (ht : ∀ (s : Shared) (H : Hp) (C : Addr) (cl : List (Str × Addr)) (fp : List Addr), PTs (X.blk s H scope (compEnvC scope cl C X.env) fp) ifs (tDT G WF t))
    (he : ∀ (pins : List (Addr × Obj)) (σ : L2.St) (s : Shared) (H : Hp) (C : Addr) (cl : List (Str × Addr)) (fp : List Addr), Inv X pins σ H s → (∀ b ∈ fp, FpOk X pins H b) → PE (X.blk s H scope (compEnvC scope cl C X.env) fp) elt (fun σ' H' Q => L2.wipe σ' (own.map (·.2)) = L2.wipe σ (own.map (·.2)) ∧ tD G WF e σ' H' Q)) (hs : ∀ x, foldedSetIterable iter X.env x = pure x := by intro _; rfl) :
    PDo G W X (.ListComp elt [⟨tg, iter, ifs, 0⟩] scope pos) (aLc (own.map (·.2)) it g t e) :=
  (lcK hc hN hi ok hg ht he hs).imp fun σ H Q h => pdo_lc.lc_fin hs' h
end
end DL
set_option maxRecDepth 100000
set_option maxHeartbeats 4000000
set_option autoImplicit false
namespace DL
open PySem PySem.Spec PyProof.Rows L2 PySem.W
/-! ### o(..): an instance is called -/
section
variable {M : Model} {A : Around} {E : Value → Shared → Prop} {s : Shared} {env : Env} {pos : Pos} {x : Addr} {first : List Value} {Q : Value → Shared → Prop}
theorem callWithI_of {args : List (Bool × Sem Value)} {keywords : List (Option Str × Sem Value)} (hplain : (args.any (·.1) || keywords.any (·.1.isNone)) = false)
    (h : wpAny M A (evalArgs (.ref x) true args keywords) (fun a s₁ => (∃ (C : Addr) (ox : Obj) (od : Option Obj), PySem.W.InstAt s₁.heap x ox C od ∧ ox.data = .plain) ∧ wpAny M A (call (.ref x) (first ++ a.pos) a.kw) Q E s₁) E s) : wpAny M A (callWith pos (.ref x) first args keywords) Q E s := by
  unfold callWith
  refine wpAny_bind (wpAny_holding (wpAny_mono h (fun a s₁ h₁ => wpAny_bind (wpAny_standAt ?_)) fun _ _ y => y))
  obtain ⟨⟨C, ox, od, I, hd⟩, h2⟩ := h₁
  have L := PySem.W.kco_keeper (M := M) I hd
  simp only [hplain]
  refine wpAny_bind (L.here ?_)
  have tail : ∀ {t : Sem Value}, wpAny M A t Q E s₁ → wpAny M A (t >>= fun r => holding [r] point >>= fun _ => pure r) Q E s₁ :=
    fun ht => wpAny_bind (wpAny_mono ht (fun r s₂ hr => wpAny_bind (wpAny_holding (wpAny_point (wpAny_pure hr)))) fun _ _ y => y)
  exact tail (wpAny_operateT h2)
theorem callWithI {e : Expr} {rest : List Expr} (h : wpAny M A (spliced (backTo pos (starEach (e :: rest) env))) (fun vs s₁ => (∃ (C : Addr) (ox : Obj) (od : Option Obj), PySem.W.InstAt s₁.heap x ox C od ∧ ox.data = .plain) ∧ wpAny M A (call (.ref x) (first ++ vs)) Q E s₁) E s)
    (he : starEach (e :: rest) env = (false, eval e env) :: starEach rest env) (hplain : (backTo pos (starEach rest env)).any (·.1) = false) :
    wpAny M A (callWith pos (.ref x) first (backTo pos (starEach (e :: rest) env)) []) Q E s := by
  rw [he] at h ⊢
  exact callWithI_of (by show ((false || (backTo pos (starEach rest env)).any (·.1)) || false) = false; rw [hplain]; rfl) (PySem.Calls.evalArgs_plain h)
end
theorem fnIn_of {K : PySem.W.Frag} {x qual : Str} {st : Stmt} {f : Addr} {fd : FuncData} (F : Fun K x qual st f fd) : PySem.W.fnIn K f = true := by
  obtain ⟨oc, od, kV, doc, pm, an, cdv, ct, osl, _, lk, _⟩ := F.ex
  unfold PySem.W.fnIn
  rw [lk]
section
variable {G : Gam} {W : WX} {X : Cx}
def eCallI (c : String) (n : Nat) (g : DFn) (fo : DE) (fa : DA) : DE := fun s => (fo s).bind fun d s1 => match d with
  | .ins c' fs => if c' = c then (fa s1).bind fun ds s2 => if ds.length + 1 = n then lift s2 (g (.ins c' fs :: ds) s2.st) else .stuck
    else .stuck
  | _ => .stuck
theorem pd_callI (hK : G.K = X.K) {c : String} {n : Nat} {g : DFn} {fo : DE} {fa : DA} {C f : Addr} {k : Nat} {fd : FuncData} {ps : List Str} {o e : Expr} {es : List Expr} {pos : Pos} (he : PD G W X o fo) (hC : G.ct c = some C) (hm : Meth X.K C "__call__" f) (hfn : PySem.W.fnIn X.K f = true)
    (F : FnOk X.prog X.w X.K X.mg X.base (L2.CX X.prog X.w) k f fd ps (spG G n g)) (hr : Room k X.A) (hb : Binds X.K fd ps []) (tk : Takes X W) (ha : PDA G W X (e :: es) fa)
    (hst : starEach (e :: es) X.env = (false, eval e X.env) :: starEach es X.env := by rfl) (hpl : (backTo pos (starEach es X.env)).any (·.1) = false := by rfl)
    (ht : eval (.Call o (e :: es) [] pos) X.env = (do callWith pos (← eval o X.env) [] (backTo pos (starEach (e :: es) X.env)) (backToKw pos (keywordEach [] X.env))) := by rfl) :
    PD G W X (.Call o (e :: es) [] pos) (eCallI c n g fo fa) := by
  refine ⟨fun pins sh σ H Q I h => ?_⟩
  obtain ⟨κ, w, s, ok, q⟩ := h
  rw [ht]
  have hh : tD G W fo σ H fun v H1 => ∃ d s1 w1, w.le w1 ∧ Ok G κ w1 s1 σ H1 ∧ Rep G w1 v d ∧ PostG G W (Rep G) κ w1 σ (match d with
    | .ins c' fs => if c' = c then (fa s1).bind fun ds s2 => if ds.length + 1 = n then lift s2 (g (.ins c' fs :: ds) s2.st) else .stuck else .stuck
    | _ => .stuck) Q := ⟨κ, w, s, ok, PostG.bind q⟩
  refine wpAny_bind (thn (he.run pins sh σ H _ I hh) fun u s1 ⟨x, H1, I1, rx, d, t1, w1, le, ok1, r1, q1⟩ => ?_)
  cases d with
  | ins c' fs =>
    replace q1 : PostG G W (Rep G) κ w1 σ (if c' = c then (fa t1).bind fun ds s2 => if ds.length + 1 = n then lift s2 (g (.ins c' fs :: ds) s2.st) else .stuck else .stuck) Q := q1
    by_cases hc : c' = c
    · rw [if_pos hc] at q1
      subst hc
      cases r1 with
      | @ins a C' dx _ vs _ hC' hF rf =>
      rw [hC] at hC'
      cases hC'
      obtain rfl : u = Value.ref a := rx
      have hh2 : tDA G W fa σ H1 fun vs H2 => ∃ ds s2 w2, w1.le w2 ∧ Ok G κ w2 s2 σ H2 ∧ Reps G w2 vs ds ∧ PostG G W (Rep G) κ w2 σ (if ds.length + 1 = n then lift s2 (g (.ins c' fs :: ds) s2.st) else .stuck) Q := ⟨κ, w1, t1, ok1, PostG.bind q1⟩
      refine callWithI (first := []) (thn (ha.run pos pins s1 σ H1 _ I1 hh2) fun us s2 ⟨vs2, H2, I2, r2, ds, t2, w2, le2, ok2, rs2, q2⟩ => ?_) hst hpl
      obtain ⟨mA, J, _⟩ := ins_get I2.hok (ok2.fok.sub _ _ (le2.f _ _ hF))
      obtain ⟨od, J, _⟩ := J.look
      refine ⟨⟨C, _, _, J, rfl⟩, ?_⟩
      by_cases c3 : ds.length + 1 = n
      · rw [if_pos c3] at q2
        have rr : Reps G w2 (.ref a :: vs2) (.ins c' fs :: ds) := .cons (.ins hC (le2.f _ _ hF) (rf.mono le2)) rs2
        have hsp : spG G n g (.ref a :: vs2) H2 Q (WE W σ) := ⟨by rw [rr.length]; exact c3, w2, t2.st, _, ok2.fok, rr, postF_of ok2 q2⟩
        have hl := F.len _ _ _ _ hsp
        have rv : Vals (V.ref a :: vs2) (Value.ref a :: us) := .cons rfl r2
        have hl2 : (Value.ref a :: us).length = ps.length := by rw [← rv.length]; exact hl
        refine wpAny_call (PySem.W.kco_code (a := ⟨us, []⟩) I2.kIn J rfl hm.at_ hm.fn hfn (codeAny_mono (F.run X.A X.stack s2 H2 ⟨.ref a :: us, []⟩ (.ref a :: us) (.ref a :: vs2) Q (WE W σ) hr I2.env0 (by
          have := hb s2 (.ref a :: us) I2.kIn (by simpa using hl2)
          simpa using this) rv hsp) fun r s' hq => ?_))
        cases r with
        | error e => exact passAt tk σ pins H2 s2 e s' I2 hq
        | ok fl =>
          cases fl with
          | ret u => exact I2.after hq
          | next => exact False.elim hq
          | brk => exact False.elim hq
          | cont => exact False.elim hq
      · rw [if_neg c3] at q2
        exact q2.elim
    · rw [if_neg hc] at q1
      exact q1.elim
  | _ => exact q1.elim
/-! ### {} -/
def dNil : DD := fun s => .ok [] s
theorem pdod_nil {pos : Pos} : PDod G W X (.Dict [] [] pos) dNil :=
  pe_dnewK.imp fun σ H Q ⟨κ, w, s, ok, q⟩ => fun p hp => q w p [] _ (.refl _) (ok.fresh hp (.dK [])) (ok.apart hp) .nil
@[simp] theorem r_dNil (s : DS) : dNil s = .ok [] s := rfl
@[simp] theorem r_eCallI (c : String) (n : Nat) (g : DFn) (fo : DE) (fa : DA) (s : DS) : eCallI c n g fo fa s = (fo s).bind fun d s1 => match d with
  | .ins c' fs => if c' = c then (fa s1).bind fun ds s2 => if ds.length + 1 = n then lift s2 (g (.ins c' fs :: ds) s2.st) else .stuck else .stuck
  | _ => .stuck := rfl
end
end DL
set_option maxRecDepth 100000
set_option maxHeartbeats 4000000
set_option autoImplicit false
namespace HN
open PySem PySem.Spec PyProof.Rows PySem.SeqAt
section
variable {prog : Program} {w : World} {A : Around} {E : Value → Shared → Prop} {s : Shared} {K : PySem.W.Frag} {x y C : Addr} {ox oy : Obj} {od od' : Option Obj}
theorem callEq_same {Q : Value → Shared → Prop} (X : K.In s.heap) (I : PySem.W.InstAt s.heap x ox C od) (hm : PySem.W.mroIn K C (.type "object") = some true) (hq : Q (.bool true) s) :
    wpAny (model prog w) A (call (.builtin "object.__eq__") [.ref x, .ref x]) Q E s :=
  wpAny_call (codeAny_call_builtin F.cmp_object.eq.plain F.cmpEntry_eq (PySem.W.check_slot F.cmpKind_eq F.cmpSplit_eq (I.type.andThen (PySem.W.looks_mroIn X hm)) (F.cmpArgs_eq _ _) (objEq_entry_same hq)))
theorem callEq_other {Q : Value → Shared → Prop} (X : K.In s.heap) (I : PySem.W.InstAt s.heap x ox C od) (J : PySem.W.InstAt s.heap y oy C od') (hxy : x ≠ y) (hm : PySem.W.mroIn K C (.type "object") = some true) (hq : Q .notImplemented s) :
    wpAny (model prog w) A (call (.builtin "object.__eq__") [.ref x, .ref y]) Q E s :=
  wpAny_call (codeAny_call_builtin F.cmp_object.eq.plain F.cmpEntry_eq (PySem.W.check_slot F.cmpKind_eq F.cmpSplit_eq (I.type.andThen (PySem.W.looks_mroIn X hm)) (F.cmpArgs_eq _ _) (objEq_entry_other hxy I.1 J.1 (by rw [I.2]; simp) hq)))
theorem rc_same {Q : Value → Shared → Prop} (hu : A.units < cLine) (X : K.In s.heap) (I : PySem.W.InstAt s.heap x ox C od) (hm : PySem.W.mroIn K C (.type "object") = some true) (hs : PySem.W.findIn K (.ref C) "__eq__" = some (some (.builtin "object.__eq__"))) (h : Q (.bool true) s) :
    wpAny (model prog w) A (richCompare .Eq (.ref x) (.ref x)) Q E s := by
  have one : wpAny (model prog w) A (tryCompare (.ref x) "__eq__" (.ref x)) (fun r s' => r = some (.bool true) ∧ s' = s) E s := by
    unfold tryCompare
    exact wpAny_bind (ifBound_objEq X I hs (callEq_same X I hm (wpAny_pure ⟨rfl, rfl⟩)))
  simp only [richCompare, cmpInfo_Eq, oneThing_ref]
  refine wpAny_holding (wpAny_bind (wpAny_cRoomFor hu ?_))
  refine wpAny_bind (I.type.here ?_)
  refine wpAny_bind (I.type.here ?_)
  rw [if_neg (by simp)]
  refine wpAny_bind (wpAny_pure ?_)
  simp only [Bool.false_eq_true, if_false, Bool.not_false, if_true]
  refine wpAny_bind (m := tryCompare (.ref x) _ (.ref x)) (wpAny_mono one (fun r s1 z => ?_) fun _ _ e => e)
  obtain ⟨z1, z2⟩ := z
  subst z1
  subst z2
  exact wpAny_pure h
theorem rc_other {Q : Value → Shared → Prop} (hu : A.units < cLine) (X : K.In s.heap) (I : PySem.W.InstAt s.heap x ox C od) (J : PySem.W.InstAt s.heap y oy C od') (hxy : x ≠ y) (hm : PySem.W.mroIn K C (.type "object") = some true) (hs : PySem.W.findIn K (.ref C) "__eq__" = some (some (.builtin "object.__eq__"))) (h : Q (.bool false) s) :
    wpAny (model prog w) A (richCompare .Eq (.ref x) (.ref y)) Q E s := by
  have one : wpAny (model prog w) A (tryCompare (.ref x) "__eq__" (.ref y)) (fun r s' => r = none ∧ s' = s) E s := by
    unfold tryCompare
    exact wpAny_bind (ifBound_objEq X I hs (callEq_other X I J hxy hm (wpAny_pure ⟨rfl, rfl⟩)))
  have two : wpAny (model prog w) A (tryCompare (.ref y) "__eq__" (.ref x)) (fun r s' => r = none ∧ s' = s) E s := by
    unfold tryCompare
    exact wpAny_bind (ifBound_objEq X J hs (callEq_other X J I (fun z => hxy z.symm) hm (wpAny_pure ⟨rfl, rfl⟩)))
  simp only [richCompare, cmpInfo_Eq, oneThing_ref]
  refine wpAny_holding (wpAny_bind (wpAny_cRoomFor hu ?_))
  refine wpAny_bind (I.type.here ?_)
  refine wpAny_bind (J.type.here ?_)
  rw [if_neg (by simp)]
  refine wpAny_bind (wpAny_pure ?_)
  simp only [Bool.false_eq_true, if_false, Bool.not_false, if_true]
  refine wpAny_bind (m := tryCompare (.ref x) _ (.ref y)) (wpAny_mono one (fun r s1 z => ?_) fun _ _ e => e)
  obtain ⟨z1, z2⟩ := z
  subst z1
  subst z2
  refine wpAny_bind (m := tryCompare (.ref y) _ (.ref x)) (wpAny_mono two (fun r s2 z => ?_) fun _ _ e => e)
  obtain ⟨z1, z2⟩ := z
  subst z1
  subst z2
  exact wpAny_bind (wpAny_rule (wpAny_bind (wpAny_isSame_ref_other hxy I.1 J.1 (by rw [I.2]; simp) (wpAny_pure h))))
end
end HN
namespace L2
open PySem PySem.Spec PyProof.Rows
/-- == of two instances of a class without an own one -/
def rEqId (K : PySem.W.Frag) : R2 := fun x y H Q => ∃ a b C dx fs dx' fs', x = .ref a ∧ y = .ref b ∧ H a = some (.ins C dx fs) ∧ H b = some (.ins C dx' fs') ∧ PySem.W.mroIn K C (.type "object") = some true ∧ PySem.W.findIn K (.ref C) "__eq__" = some (some (.builtin "object.__eq__")) ∧ Q (.bl (decide (a = b))) H
theorem op_eqId {X : Cx} (hu : X.A.units < cLine) : OpR X (compareOp .Eq) (rEqId X.K) := by
  intro pins s σ H x y v u Q I rx ry h
  obtain ⟨a, b, C, dx, fs, dx', fs', rfl, rfl, ea, eb, hm, hs, q⟩ := h
  obtain rfl : v = Value.ref a := rx
  obtain rfl : u = Value.ref b := ry
  obtain ⟨_, O, _⟩ := ins_get I.hok ea
  obtain ⟨od, J, _⟩ := O.look
  obtain ⟨_, O', _⟩ := ins_get I.hok eb
  obtain ⟨od', J', _⟩ := O'.look
  by_cases c : a = b
  · subst c
    rw [decide_eq_true rfl] at q
    exact HN.rc_same hu I.kIn J hm hs ⟨.bl true, H, I, rfl, q⟩
  · rw [decide_eq_false c] at q
    exact HN.rc_other hu I.kIn J J' c hm hs ⟨.bl false, H, I, rfl, q⟩
end L2
set_option maxRecDepth 100000
set_option maxHeartbeats 4000000
set_option autoImplicit false
namespace DL
open PySem PySem.Spec PyProof.Rows L2
section
variable {G : Gam} {W : WX} {X : Cx}
/-! ### an instance made, told to be another than the older ones -/
theorem makeN {c : String} {n k : Nat} {g : DIn} {C f : Addr} {fd : FuncData} {ps : List Str} {pins : List (Addr × Obj)} {sh : Shared} {κ : Bs} {w : Wd} {s : DS} {σ : L2.St} {H : Hp} {vs : List V} {ds : List D} {us : List Value} {Q : VK} (M : Mk X.K C f) (hC : G.ct c = some C)
    (F : FnOk X.prog X.w X.K X.mg X.base (L2.CX X.prog X.w) k f fd ps (spI G c n g)) (hr : Room (k + 1) X.A) (hb : Binds X.K fd ps []) (tk : Takes X W) (I : Inv X pins σ H sh) (ok : Ok G κ w s σ H) (rs : Reps G w vs ds) (r : Vals vs us) (hn : ds.length = n)
    (q : PostG G W (fun w' v d => Rep G w' v d ∧ ∃ p dx vs, v = .ref p ∧ H p = none ∧ w'.F p = some (.ins C dx vs)) κ w σ ((lift s (g ds s.st)).bind fun fs s1 => .ok (.ins c fs) s1) Q) : wpAny (model X.prog X.w) X.A (call (.ref C) us) (EP X pins σ Q) X.xe sh := by
  have key : ∀ x dx, H x = none → H dx = none → dx ≠ x → spI G c n g (.ref x :: (vs ++ [])) (upd (upd H dx (.own x)) x (.ins C dx [])) (fun v H2 => v = .non ∧ Q (.ref x) H2) (WE W σ) := fun x dx nx ndx ne => by
    have o1 := ok.fresh ndx (.own x)
    have nx1 : upd H dx (.own x) x = none := by rw [upd_ne (Ne.symm ne)]; exact nx
    have o2 := o1.fresh nx1 (.ins C dx [])
    obtain ⟨g1, g2, g3, g4, g5⟩ := o2.gam (x, .ins C dx []) List.mem_cons_self
    have kx : ∀ a o, H a = some o → erase (upd (upd H dx (.own x)) x (.ins C dx [])) x a = some o := fun a o e => by
      have h1 : a ≠ x := ne_of_none e nx
      have h2 : a ≠ dx := ne_of_none e ndx
      show (if a = x then none else _) = some o
      rw [if_neg h1, upd_ne h1, upd_ne h2]
      exact e
    have bk : ∀ a, erase (upd (upd H dx (.own x)) x (.ins C dx [])) x a = none → H a = none := fun a e => by
      cases e2 : H a with
      | none => rfl
      | some o => rw [kx a o e2] at e; cases e
    refine ⟨by rw [List.append_nil, List.length_cons, rs.length, hn], w, s.st, ds, x, vs, C, dx, by rw [List.append_nil], hC, g1, o2.fok, g2, g3, rs, ?_⟩
    cases e : g ds s.st with
    | stuck => rw [e] at q; exact q.elim
    | exc x' S' =>
      rw [e] at q
      exact fun w' cc dd H' nn f' r => q w' cc dd H' nn.le (ok.step ⟨nn.le, fun a o e1 e2 => nn.keep a o (kx a o e1) e2, fun a h => (nn.newF a h).imp_right (bk a), fun a h => (nn.newR a h).imp_right (bk a)⟩ f') r
    | ok fs S' =>
      rw [e] at q
      intro w' H' vfs dx' nn f' hx rf hF hR
      refine ⟨rfl, ?_⟩
      have N1 : Nx w H w' H' := ⟨nn.le, fun a o e1 e2 => nn.keep a o (kx a o e1) e2, fun a h => (nn.newF a h).imp_right (bk a), fun a h => (nn.newR a h).imp_right (bk a)⟩
      have o3 : Ok G (κ.plus x (.ins C dx' vfs)) w' ⟨s.sl, S'⟩ σ H' := by
        have o3 := ok.step N1 f'
        refine ⟨o3.fok, o3.nx, o3.len, o3.val, o3.own, o3.ne, fun p hp => ?_, o3.me⟩
        rcases List.mem_cons.mp hp with rfl | hp
        · exact ⟨hx, hF, hR, g4, g5⟩
        · exact o3.gam p hp
      obtain ⟨le, o4⟩ := o3.frz fun p hp => ne_of_none (ok.gam p hp).1 nx
      exact q _ _ _ (nn.le.trans le) o4 ⟨.ins hC upd_same (rf.mono le), x, _, _, rfl, nx, upd_same⟩
  have hx : PassesAt (L2.CX X.prog X.w) X σ (WE W σ) := passAt tk σ
  have hq := key (sh.heap.objs.size + 1) sh.heap.objs.size (I.hok.fresh (Nat.le_succ _)) (I.hok.fresh (Nat.le_refl _)) (Nat.ne_of_lt (Nat.lt_succ_self _))
  have I2 := Inv.made (C := C) I
  have r2 : Vals (V.ref (sh.heap.objs.size + 1) :: (vs ++ [])) (Value.ref (sh.heap.objs.size + 1) :: (us ++ [])) := .cons rfl (r.append .nil)
  have hl : (Value.ref (sh.heap.objs.size + 1) :: us ++ []).length = ps.length := by
    have e := r2.length
    rw [F.len _ _ _ _ hq] at e
    exact e.symm
  refine wpAny_call (make_map (f := f) I.kIn M.makes M.init (beq_iff_eq.mp M.fn) (codeAny_mono (F.run _ X.stack _ _ ⟨Value.ref (sh.heap.objs.size + 1) :: us, []⟩ (Value.ref (sh.heap.objs.size + 1) :: (us ++ [])) _ _ (WE W σ) (hr.make C us [])
    (I2.env0.make C us []) (by
      have hbb := hb _ (Value.ref (sh.heap.objs.size + 1) :: us) I2.kIn hl
      rw [List.cons_append] at hbb
      exact hbb) r2 hq) fun r s' hq' => ?_))
  cases r with
  | error e => exact hx pins _ _ e s' I2 hq'
  | ok fl =>
    cases fl with
    | ret u =>
      obtain ⟨v, H', I3, rv, ev, q3⟩ := I2.after hq'
      subst ev
      exact ⟨rv, ⟨V.ref (sh.heap.objs.size + 1), H', I3, rfl, q3⟩⟩
    | next => exact False.elim hq'
    | brk => exact False.elim hq'
    | cont => exact False.elim hq'
/-- C(e, ..), and that it is new -/
def tNew (G : Gam) (W : WX) (C : Addr) (f : DE) : TE := fun σ H Q => ∃ κ w s, Ok G κ w s σ H ∧ PostG G W (fun w' v d => Rep G w' v d ∧ ∃ p dx vs, v = .ref p ∧ w.F p = none ∧ w'.F p = some (.ins C dx vs)) κ w σ (f s) Q
theorem pe_makeN {c : String} {n k : Nat} {g : DIn} {C f : Addr} {fd : FuncData} {ps : List Str} {x : Str} {p pos : Pos} {e : Expr} {es : List Expr} {fa : DA} (M : Mk X.K C f) (hC : G.ct c = some C) (F : FnOk X.prog X.w X.K X.mg X.base (L2.CX X.prog X.w) k f fd ps (spI G c n g)) (hr : Room (k + 1) X.A) (hg : Gl X x)
    (hm : X.mg x = some (.ref C)) (hb : Binds X.K fd ps []) (tk : Takes X W) (ha : PDA G W X (e :: es) fa) (hdb : (x == ("__debug__" : Str)) = false := by decide) (he : starEach (e :: es) X.env = (false, eval e X.env) :: starEach es X.env := by rfl)
    (hpl : (backTo pos (starEach es X.env)).any (·.1) = false := by rfl) : PE X (.Call (.Name x p) (e :: es) [] pos) (tNew G W C (eMake c n g fa)) := by
  refine ⟨fun pins s σ H Q I h => ?_⟩
  obtain ⟨κ, w, ds, ok, q⟩ := h
  refine wpAny_Call_Name_kw (ld_glob I hg hm ?_ hdb)
  have hh : tDA G W fa σ H fun vs H1 => ∃ d s1 w1, w.le w1 ∧ Ok G κ w1 s1 σ H1 ∧ Reps G w1 vs d ∧ PostG G W (fun w' v d => Rep G w' v d ∧ ∃ p dx vs, v = .ref p ∧ w.F p = none ∧ w'.F p = some (.ins C dx vs)) κ w1 σ (if d.length = n then (lift s1 (g d s1.st)).bind fun fs s2 => .ok (.ins c fs) s2 else .stuck) Q := ⟨κ, w, ds, ok, PostG.bind q⟩
  refine PySem.W.callWith_K (h₀ := X.base) I.ok.mod.kin M.kp (thn (ha.run pos pins s σ H _ I hh) fun us s1 ⟨vs, H1, I1, r, d, s2, w1, le, ok1, rs, q1⟩ => ⟨I1.kIn, ?_⟩) he hpl
  by_cases cn : d.length = n
  · rw [if_pos cn] at q1
    refine makeN M hC F hr hb tk I1 ok1 rs r cn ?_
    have up : ∀ {r : Res DS D}, PostG G W (fun w' v d => Rep G w' v d ∧ ∃ p dx vs, v = .ref p ∧ w.F p = none ∧ w'.F p = some (.ins C dx vs)) κ w1 σ r Q → PostG G W (fun w' v d => Rep G w' v d ∧ ∃ p dx vs, v = .ref p ∧ H1 p = none ∧ w'.F p = some (.ins C dx vs)) κ w1 σ r Q := fun {r} hq => by
      cases r with
      | stuck => exact hq.elim
      | exc x s' => exact hq
      | ok d s' => exact fun w' v H' le' ok' ⟨r1, p, dx, vs, r2, r3, r4⟩ => hq w' v H' le' ok' ⟨r1, p, dx, vs, r2, (by
          cases e : w.F p with
          | none => rfl
          | some o =>
            have := ok1.fok.sub _ _ (le.1 _ _ e)
            rw [r3] at this; cases this), r4⟩
    exact up q1
  · rw [if_neg cn] at q1
    exact q1.elim
/-- tw = C(e, ..); if not b == b or b == tw: return False -/
def sTwin (j i : Nat) (c : String) (n : Nat) (g : DIn) (fa : DA) : DStm := fun s => match s.sl[i]? with
  | some (.val (.ins c' _)) => if c' = c ∧ i ≠ j ∧ j < s.sl.length then sSet j (eMake c n g fa) s else .stuck
  | _ => .stuck
theorem pdss_twin {c : String} {n k j i : Nat} {g : DIn} {C f : Addr} {fd : FuncData} {ps : List Str} {x tw b : Str} {p p1 p2 p3 p4 p5 p6 p7 p8 p9 p10 p11 pos pos2 : Pos} {e r : Expr} {es : List Expr} {fa : DA} {rest : List Stmt} {R : DStm} (hK : G.K = X.K) (M : Mk X.K C f) (hC : G.ct c = some C) (F : FnOk X.prog X.w X.K X.mg X.base (L2.CX X.prog X.w) k f fd ps (spI G c n g)) (hr : Room (k + 1) X.A) (hg : Gl X x)
    (hm : X.mg x = some (.ref C)) (hb : Binds X.K fd ps []) (tk : Takes X W) (ha : PDA G W X (e :: es) fa) (hu : X.A.units < cLine)
    (hmo : PySem.W.mroIn X.K C (.type "object") = some true) (heq : PySem.W.findIn X.K (.ref C) "__eq__" = some (some (.builtin "object.__eq__")))
    (hN : X.N.Nodup) (hj : X.N[j]? = some tw) (hx : Loc X.env.scope tw) (vb : ∀ q, PE X (.Name b q) (tVar i)) (vt : ∀ q, PE X (.Name tw q) (tVar j)) {fr : DE} (hret : PD G W X r fr) (kR : PDSs G W X rest R)
    (hs : swapsWith (.Call (.Name x p) (e :: es) [] p2) (some (.Name tw p1)) pos.line X.env = pure false := by rfl) (hf : X.fn tw = true ∨ X.env.scope.names.lookup tw = some .local := by first | exact .inl rfl | exact .inr rfl | assumption)
    (hb1 : behindInMarks .Eq (.Name b p4) = false := by rfl) (hb2 : behindInMarks .Eq (.Name tw p7) = false := by rfl)
    (hdb : (x == ("__debug__" : Str)) = false := by decide) (he : starEach (e :: es) X.env = (false, eval e X.env) :: starEach es X.env := by rfl) (hpl : (backTo p2 (starEach es X.env)).any (·.1) = false := by rfl) :
    PDSs G W X (.Assign [.Name tw p1] (.Call (.Name x p) (e :: es) [] p2) pos :: .If (.BoolOp .Or [.UnaryOp .Not (.Compare (.Name b p3) [.Eq] [.Name b p4] p5) p6, .Compare (.Name b p8) [.Eq] [.Name tw p7] p9] p10) [.Return (some r) p11] [] pos2 :: rest) (sSeq (sTwin j i c n g fa) R) := by
  have c1 := pt_not (pos := p6) (pt_cmpR (X := X) (pos := p5) (op_eqId hu) (vb p3) (vb p4) hb1)
  have c2 := pt_cmpR (X := X) (pos := p9) (op_eqId hu) (vb p8) (vt p7) hb2
  have s1 := ps_set (pos := pos) (pos' := p1) hN hj hx (pe_makeN (G := G) (W := W) (p := p) (pos := p2) M hC F hr hg hm hb tk ha hdb he hpl) hs hf
  have s2 := ps_if (X := X) (pos := pos2) (pw_or (pos := p10) c1 (pw_or1 c2)).pt (pss_one (ps_ret (pos := p11) hret)) pss_nil
  refine (pss_cons s1 (pss_cons s2 kR)).imp fun N σ H ⟨κ, w, s, ok, q⟩ => ?_
  have q := PostS.seq q
  have q : PostS G W κ w (match s.sl[i]? with
    | some (.val (.ins c' _)) => if c' = c ∧ i ≠ j ∧ j < s.sl.length then sSet j (eMake c n g fa) s else .stuck
    | _ => .stuck) { N with nx := tDS G W R N } := q
  cases e1 : s.sl[i]? with
  | none => rw [e1] at q; exact q.elim
  | some z =>
    rw [e1] at q
    cases z with
    | val d =>
      cases d with
      | ins c' fs =>
        replace q : PostS G W κ w (if c' = c ∧ i ≠ j ∧ j < s.sl.length then sSet j (eMake c n g fa) s else .stuck) { N with nx := tDS G W R N } := q
        by_cases hc : c' = c ∧ i ≠ j ∧ j < s.sl.length
        · rw [if_pos hc] at q
          obtain ⟨rfl, hij, hjl⟩ := hc
          obtain ⟨va, h1, h2⟩ := ok.val i _ e1
          have q' := PostG.bindS (σ := σ) (rep := fun w' v d => Rep G w' v d ∧ ∃ p dx vs, v = .ref p ∧ w.F p = none ∧ w'.F p = some (.ins C dx vs)) q
          refine ⟨κ, w, s, ok, q'.imp fun v H1 ⟨d, s1, w1, le, ok1, ⟨r1, pp, dx, vs, rv, fr1, fr2⟩, q1⟩ => ?_⟩
          subst rv
          cases h2 with
          | ins hC2 hF2 rf2 =>
            rename_i a C2 dx2 vs2
            rw [hC] at hC2
            cases hC2
            have hab : a ≠ pp := fun z => by
              rw [z, fr1] at hF2; cases hF2
            have ea : H1 a = some (.ins C dx2 vs2) := ok1.fok.sub _ _ (le.1 _ _ hF2)
            have ep : H1 pp = some (.ins C dx vs) := ok1.fok.sub _ _ fr2
            have ok2 := ok1.setVal r1 j
            have vi : (σ.set j (some (.ref pp)))[i]? = some (some (.ref a)) := by rw [List.getElem?_set_ne (fun z => hij z.symm)]; exact h1
            have vj : (σ.set j (some (.ref pp)))[j]? = some (some (.ref pp)) := by
              have jl : j < σ.length := by rw [← ok.len]; exact hjl
              exact List.getElem?_set_self jl
            have q2 := q1 w1 _ H1 (.refl _) ok2
            exact ⟨.ref a, vi, .ref a, vi, a, a, C, dx2, vs2, dx2, vs2, rfl, rfl, ea, ea, hmo, heq, true, by rw [decide_eq_true rfl], .ref a, vi, .ref pp, vj, a, pp, C, dx2, vs2, dx, vs, rfl, rfl, ea, ep, hmo, heq, false, by rw [decide_eq_false hab], q2⟩
        · rw [if_neg hc] at q; exact q.elim
      | _ => exact q.elim
    | _ => exact q.elim
end
end DL
set_option maxRecDepth 100000
set_option maxHeartbeats 4000000
set_option autoImplicit false
namespace DL
/-! ### readings, by simp -/
section
variable {s : DS} {st : List Cell} {sl : List Sl}
@[simp] theorem r_eC (d : D) (s : DS) : eC d s = .ok d s := rfl
@[simp] theorem r_eVar (i : Nat) (sl : List Sl) (st : List Cell) : eVar i ⟨sl, st⟩ = match sl[i]? with
  | some (.val d) => .ok d ⟨sl, st⟩
  | some (.ol xs) => .ok (.lst xs) ⟨sl.set i (.val (.lst xs)), st⟩
  | some (.od kvs) => .ok (.dic kvs) ⟨sl.set i (.val (.dic kvs)), st⟩
  | some (.ot kvs) => .ok (.dct kvs) ⟨sl.set i (.val (.dct kvs)), st⟩
  | some (.oi c fs) => .ok (.ins c fs) ⟨sl.set i (.val (.ins c fs)), st⟩
  | _ => .stuck := rfl
@[simp] theorem r_eOp2 (o : D → D → Option D) (fa fb : DE) (s : DS) : eOp2 o fa fb s = (fa s).bind fun x s1 => (fb s1).bind fun y s2 => match o x y with | some d => .ok d s2 | none => .stuck := rfl
@[simp] theorem r_eOpX (o : DO2) (fa fb : DE) (s : DS) : eOpX o fa fb s = (fa s).bind fun x s1 => (fb s1).bind fun y s2 => o x y s2 := rfl
@[simp] theorem r_eB (f : DE) (s : DS) : eB f s = (f s).bind fun d s1 => match d with | .bl b => .ok b s1 | _ => .stuck := rfl
@[simp] theorem r_eTru (f : DE) (s : DS) : eTru f s = (f s).bind fun d s1 => match truD d with | some b => .ok b s1 | none => .stuck := rfl
@[simp] theorem r_bAnd (f g : DT) (s : DS) : bAnd f g s = (f s).bind fun b s1 => if b = true then g s1 else .ok false s1 := rfl
@[simp] theorem r_bOr (f g : DT) (s : DS) : bOr f g s = (f s).bind fun b s1 => if b = true then .ok true s1 else g s1 := rfl
@[simp] theorem r_bNot (f : DT) (s : DS) : bNot f s = (f s).bind fun b s1 => .ok (!b) s1 := rfl
@[simp] theorem r_bYes (s : DS) : bYes s = .ok true s := rfl
@[simp] theorem r_eAndT (f g : DE) (s : DS) : eAndT f g s = (f s).bind fun d s1 => match truD d with | some b => if b = true then g s1 else .ok d s1 | none => .stuck := rfl
@[simp] theorem r_eOrT (f g : DE) (s : DS) : eOrT f g s = (f s).bind fun d s1 => match truD d with | some b => if b = true then .ok d s1 else g s1 | none => .stuck := rfl
@[simp] theorem r_eNotT (f : DE) (s : DS) : eNotT f s = (f s).bind fun d s1 => match truD d with | some b => .ok (.bl (!b)) s1 | none => .stuck := rfl
@[simp] theorem r_eIf (c : DT) (f g : DE) (s : DS) : eIf c f g s = (c s).bind fun b s1 => if b = true then f s1 else g s1 := rfl
@[simp] theorem r_aNil (s : DS) : aNil s = .ok [] s := rfl
@[simp] theorem r_aCons (f : DE) (g : DA) (s : DS) : aCons f g s = (f s).bind fun d s1 => (g s1).bind fun ds s2 => .ok (d :: ds) s2 := rfl
@[simp] theorem r_eTup (g : DA) (s : DS) : eTup g s = (g s).bind fun ds s1 => if ds.length ≤ 1000 then .ok (.tup ds) s1 else .stuck := rfl
@[simp] theorem r_aMax (g : DA) (s : DS) : aMax g s = (g s).bind fun ds s1 => if ds.length ≤ 1000 then .ok ds s1 else .stuck := rfl
@[simp] theorem r_eFrz (f : DA) (s : DS) : eFrz f s = (f s).bind fun xs s1 => .ok (.lst xs) s1 := rfl
@[simp] theorem r_eFrzD (f : DD) (s : DS) : eFrzD f s = (f s).bind fun xs s1 => .ok (.dic xs) s1 := rfl
@[simp] theorem r_sPass (s : DS) : sPass s = .ok .nx s := rfl
@[simp] theorem r_sNever (s : DS) : sNever s = .stuck := rfl
@[simp] theorem r_sBreak (s : DS) : sBreak s = .ok .bk s := rfl
@[simp] theorem r_sCont (s : DS) : sCont s = .ok .ct s := rfl
@[simp] theorem r_sSeq (f g : DStm) (s : DS) : sSeq f g s = (f s).bind fun o s1 => match o with | .nx => g s1 | o => .ok o s1 := rfl
@[simp] theorem r_sExpr (f : DE) (s : DS) : sExpr f s = (f s).bind fun _ s1 => .ok .nx s1 := rfl
@[simp] theorem r_sRet (f : DE) (s : DS) : sRet f s = (f s).bind fun d s1 => .ok (.rt d) s1 := rfl
@[simp] theorem r_sIf (c : DT) (f g : DStm) (s : DS) : sIf c f g s = (c s).bind fun b s1 => if b = true then f s1 else g s1 := rfl
@[simp] theorem r_sSet (i : Nat) (f : DE) (s : DS) : sSet i f s = (f s).bind fun d s1 => .ok .nx ⟨s1.sl.set i (.val d), s1.st⟩ := rfl
@[simp] theorem r_sSetO (i : Nat) (f : DA) (s : DS) : sSetO i f s = (f s).bind fun xs s1 => .ok .nx ⟨s1.sl.set i (.ol xs), s1.st⟩ := rfl
@[simp] theorem r_gN (i : Nat) (d : D) (s : DS) : gN i d s = .ok () ⟨s.sl.set i (.val d), s.st⟩ := rfl
@[simp] theorem r_gsNil (s : DS) : gsNil [] s = .ok () s := rfl
@[simp] theorem r_gsCons (g : DG) (k : List D → DS → Res DS Unit) (d : D) (r : List D) (s : DS) : gsCons g k (d :: r) s = (g d s).bind fun _ s1 => k r s1 := rfl
@[simp] theorem r_gT (n : Nat) (g : List D → DS → Res DS Unit) (ds : List D) (s : DS) : gT n g (.tup ds) s = if ds.length = n then g ds s else .stuck := rfl
@[simp] theorem r_noX_ok {σ α : Type} (a : α) (t : σ) : noX (Res.ok a t) = .ok a t := rfl
@[simp] theorem r_noX_stuck {σ α : Type} : noX (Res.stuck : Res σ α) = .stuck := rfl
@[simp] theorem r_noX_exc {σ α : Type} (x : Xc) (t : σ) : noX (Res.exc x t : Res σ α) = .stuck := rfl
@[simp] theorem r_sAsgT (f : DE) (g : DG) (s : DS) : sAsgT f g s = (f s).bind fun d s1 => (noX (g d s1)).bind fun _ s2 => .ok .nx s2 := rfl
@[simp] theorem r_sPar (i j : Nat) (f : DA) (s : DS) : sPar i j f s = (f s).bind fun ds s1 => match ds with | [x, y] => .ok .nx ⟨(s1.sl.set i (.val x)).set j (.val y), s1.st⟩ | _ => .stuck := rfl
@[simp] theorem r_sPar3 (i j l : Nat) (f : DA) (s : DS) : sPar3 i j l f s = (f s).bind fun ds s1 => match ds with | [x, y, z] => .ok .nx ⟨((s1.sl.set i (.val x)).set j (.val y)).set l (.val z), s1.st⟩ | _ => .stuck := rfl
@[simp] theorem r_lo_nx (s : DS) (k : DS → Res DS Out) : loopOut (.ok .nx s) k = k s := rfl
@[simp] theorem r_lo_ct (s : DS) (k : DS → Res DS Out) : loopOut (.ok .ct s) k = k s := rfl
@[simp] theorem r_lo_bk (s : DS) (k : DS → Res DS Out) : loopOut (.ok .bk s) k = .ok .nx s := rfl
@[simp] theorem r_lo_rt (d : D) (s : DS) (k : DS → Res DS Out) : loopOut (.ok (.rt d) s) k = .ok (.rt d) s := rfl
@[simp] theorem r_lo_stuck (k : DS → Res DS Out) : loopOut .stuck k = .stuck := rfl
@[simp] theorem r_for_nil (g : DG) (b : DStm) (s : DS) : forL g b [] s = .ok .nx s := rfl
@[simp] theorem r_for_cons (g : DG) (b : DStm) (d : D) (r : List D) (s : DS) : forL g b (d :: r) s = (noX (g d s)).bind fun _ s1 => loopOut (b s1) (forL g b r) := rfl
@[simp] theorem r_sFor (it : DA) (g : DG) (b : DStm) (s : DS) : sFor it g b s = (it s).bind fun ds s1 => forL g b ds s1 := rfl
@[simp] theorem r_itSeq (f : DE) (s : DS) : itSeq f s = (f s).bind fun d s1 => match itemsD d with | some xs => .ok xs s1 | none => .stuck := rfl
@[simp] theorem r_itemsD_l (xs : List D) : itemsD (.lst xs) = some xs := rfl
@[simp] theorem r_itemsD_s (xs : List D) : itemsD (.scr xs) = some xs := rfl
@[simp] theorem r_itemsD_t (xs : List D) : itemsD (.tup xs) = some xs := rfl
@[simp] theorem r_itemsD_str (xs : Nm) : itemsD (.str xs) = some (xs.map fun c => .str [c]) := rfl
@[simp] theorem r_eCall (n : Nat) (g : DFn) (fa : DA) (s : DS) : eCall n g fa s = (fa s).bind fun ds s1 => if ds.length = n then lift s1 (g ds s1.st) else .stuck := rfl
@[simp] theorem r_lift_ok {α : Type} (s : DS) (d : α) (S : List Cell) : lift s (.ok d S) = .ok d ⟨s.sl, S⟩ := rfl
@[simp] theorem r_lift_exc {α : Type} (s : DS) (x : Xc) (S : List Cell) : lift s (.exc x S : Res (List Cell) α) = .exc x ⟨s.sl, S⟩ := rfl
@[simp] theorem r_lift_stuck {α : Type} (s : DS) : lift s (.stuck : Res (List Cell) α) = .stuck := rfl
@[simp] theorem r_eMake (c : String) (n : Nat) (g : DIn) (fa : DA) (s : DS) : eMake c n g fa s = (fa s).bind fun ds s1 => if ds.length = n then (lift s1 (g ds s1.st)).bind fun fs s2 => .ok (.ins c fs) s2 else .stuck := rfl
@[simp] theorem r_eMeth (c : String) (m : Nm) (n : Nat) (g : DFn) (fo : DE) (fa : DA) (s : DS) : eMeth c m n g fo fa s = (fo s).bind fun d s1 => match insOf d s1 with
  | some (c', fs) => if c' = c ∧ fs.lookup m = none then (fa s1).bind fun ds s2 => if ds.length + 1 = n then lift s2 (g (d :: ds) s2.st) else .stuck else .stuck
  | none => .stuck := rfl
@[simp] theorem r_eFld (cs : List String) (fn : Nm) (f : DE) (s : DS) : eFld cs fn f s = (f s).bind fun d s1 => match insOf d s1 with
  | some (c, fs) => if c ∈ cs then match fs.lookup fn with | some x => .ok x s1 | none => .stuck else .stuck
  | none => .stuck := rfl
@[simp] theorem r_insOf (c : String) (fs : List (Nm × D)) (s : DS) : insOf (.ins c fs) s = some (c, fs) := rfl
@[simp] theorem r_eInv (c : String) (g : DFn) (f : DE) (s : DS) : eInv c g f s = (f s).bind fun d s1 => match insOf d s1 with | some (c1, _) => if c1 = c then lift s1 (g [d] s1.st) else .stuck | none => .stuck := rfl
@[simp] theorem r_ownO (c c1 c2 : String) (f1 f2 : List (Nm × D)) (g : DFn) (s : DS) : ownO c g (.ins c1 f1) (.ins c2 f2) s = if c1 = c ∧ c2 = c then lift s (g [.ins c1 f1, .ins c2 f2] s.st) else .stuck := rfl
@[simp] theorem r_ownNe (c : String) (g : DFn) (x y : D) (s : DS) : ownNe c g x y s = negD (ownO c g x y s) := rfl
@[simp] theorem r_negD (b : Bool) (s : DS) : negD (.ok (.bl b) s) = .ok (.bl (!b)) s := rfl
@[simp] theorem r_eCB (o : List D → Option D) (fa : DA) (s : DS) : eCB o fa s = (fa s).bind fun ds s1 => match o ds with | some d => .ok d s1 | none => .stuck := rfl
@[simp] theorem r_eNeg (f : DE) (s : DS) : eNeg f s = (f s).bind fun d s1 => match d with | .int i => .ok (.int (-i)) s1 | _ => .stuck := rfl
@[simp] theorem r_eIx (fa fb : DE) (s : DS) : eIx fa fb s = (fa s).bind fun x s1 => (fb s1).bind fun y s2 => match y with | .int i => (match ixD x i with | some d => .ok d s2 | none => .stuck) | _ => .stuck := rfl
@[simp] theorem r_sFldO (c : String) (i : Nat) (fn : Nm) (f : DE) (s : DS) : sFldO c i fn f s = (f s).bind fun d s1 => match s1.sl[i]? with
  | some (.oi c' fs) => if c' = c ∧ fs.length < 1000 then .ok .nx ⟨s1.sl.set i (.oi c (putN fn d fs)), s1.st⟩ else .stuck
  | _ => .stuck := rfl
@[simp] theorem r_aList (fa : DA) (s : DS) : aList fa s = (fa s).bind fun ds s1 => match ds with | [d] => (match seqD d with | some xs => .ok xs s1 | none => .stuck) | _ => .stuck := rfl
@[simp] theorem r_seqD_l (xs : List D) : seqD (.lst xs) = some xs := rfl
@[simp] theorem r_seqD_s (xs : List D) : seqD (.scr xs) = some xs := rfl
@[simp] theorem r_seqD_t (xs : List D) : seqD (.tup xs) = some xs := rfl
@[simp] theorem r_oNone (s : DS) : oNone s = .ok none s := rfl
@[simp] theorem r_oSome (f : DE) (s : DS) : oSome f s = (f s).bind fun d s1 => match d with | .int i => .ok (some i) s1 | _ => .stuck := rfl
@[simp] theorem r_aSl (f : DE) (l h : DOp) (s : DS) : aSl f l h s = (f s).bind fun d s1 => (l s1).bind fun lo s2 => (h s2).bind fun hi s3 => match d with | .lst xs => .ok (cutD xs lo hi) s3 | .scr xs => .ok (cutD xs lo hi) s3 | _ => .stuck := rfl
@[simp] theorem r_eSlT (f : DE) (l h : DOp) (s : DS) : eSlT f l h s = (f s).bind fun d s1 => (l s1).bind fun lo s2 => (h s2).bind fun hi s3 => match d with | .tup xs => if (cutD xs lo hi).length ≠ xs.length then .ok (.tup (cutD xs lo hi)) s3 else .stuck | _ => .stuck := rfl
@[simp] theorem r_eSlA (f : DE) (l h : DOp) (s : DS) : eSlA f l h s = (f s).bind fun d s1 => (l s1).bind fun lo s2 => (h s2).bind fun hi s3 => match slD d lo hi with | some x => .ok x s3 | none => .stuck := rfl
@[simp] theorem r_slD_l (xs : List D) (lo hi : Option Int) : slD (.lst xs) lo hi = some (.lst (cutD xs lo hi)) := rfl
@[simp] theorem r_slD_s (xs : List D) (lo hi : Option Int) : slD (.scr xs) lo hi = some (.lst (cutD xs lo hi)) := rfl
@[simp] theorem r_slD_t (xs : List D) (lo hi : Option Int) : slD (.tup xs) lo hi = if (cutD xs lo hi).length ≠ xs.length then some (.tup (cutD xs lo hi)) else none := rfl
/-! data -/
@[simp] theorem r_iAdd (i j : Int) : iAdd (.int i) (.int j) = some (.int (i + j)) := rfl
@[simp] theorem r_dAdd (i j : Int) : dAdd (.int i) (.int j) = some (.int (i + j)) := rfl
@[simp] theorem r_iSub (i j : Int) : iSub (.int i) (.int j) = some (.int (i - j)) := rfl
@[simp] theorem r_dMul (i j : Int) : dMul (.int i) (.int j) = if mulOk i j = true then some (.int (i * j)) else none := rfl
@[simp] theorem r_iDiv (i j : Int) : iDiv (.int i) (.int j) = if divOk j = true then some (.int (i.fdiv j)) else none := rfl
@[simp] theorem r_iMod (i j : Int) : iMod (.int i) (.int j) = if j ≠ 0 then some (.int (i.fmod j)) else none := rfl
@[simp] theorem r_iPow (i j : Int) : iPow (.int i) (.int j) = if 0 ≤ j ∧ j ≤ 1000000 ∧ i.natAbs < 2 ^ 64 then some (.int (i ^ j.toNat)) else none := rfl
@[simp] theorem r_iLt (i j : Int) : iLt (.int i) (.int j) = some (.bl (decide (i < j))) := rfl
@[simp] theorem r_iLe (i j : Int) : iLe (.int i) (.int j) = some (.bl (decide (i ≤ j))) := rfl
@[simp] theorem r_iGt (i j : Int) : iGt (.int i) (.int j) = some (.bl (decide (j < i))) := rfl
@[simp] theorem r_iGe (i j : Int) : iGe (.int i) (.int j) = some (.bl (decide (j ≤ i))) := rfl
@[simp] theorem r_dEq_int (i j : Int) : dEq (.int i) (.int j) = some (.bl (decide (i = j))) := by
  show (if (true && true) = true then some (D.bl (i == j)) else none) = _
  simp [Bool.beq_eq_decide_eq]
@[simp] theorem r_dNe_int (i j : Int) : dNe (.int i) (.int j) = some (.bl (!decide (i = j))) := by
  show (if (true && true) = true then some (D.bl (!(i == j))) else none) = _
  simp [Bool.beq_eq_decide_eq]
@[simp] theorem r_dIsN (x : D) : dIsN x .non = some (.bl (isNonD x)) := rfl
@[simp] theorem r_dNotN (x : D) : dNotN x .non = some (.bl (!isNonD x)) := rfl
@[simp] theorem r_isNon : isNonD .non = true := rfl
@[simp] theorem r_isNon_t (xs : List D) : isNonD (.tup xs) = false := rfl
@[simp] theorem r_isNon_i (i : Int) : isNonD (.int i) = false := rfl
@[simp] theorem r_isNon_n (c : String) (fs : List (Nm × D)) : isNonD (.ins c fs) = false := rfl
@[simp] theorem r_isNon_l (xs : List D) : isNonD (.lst xs) = false := rfl
@[simp] theorem r_tru_bl (b : Bool) : truD (.bl b) = some b := rfl
@[simp] theorem r_tru_non : truD .non = some false := rfl
@[simp] theorem r_tru_int (i : Int) : truD (.int i) = some (i != 0) := rfl
@[simp] theorem r_tru_lst (xs : List D) : truD (.lst xs) = some (!xs.isEmpty) := rfl
@[simp] theorem r_tru_tup (xs : List D) : truD (.tup xs) = some (!xs.isEmpty) := rfl
@[simp] theorem r_bInt (i : Int) : bInt [.int i] = some (.int i) := rfl
@[simp] theorem r_bInt_b (b : Bool) : bInt [.bl b] = some (.int (if b then 1 else 0)) := rfl
@[simp] theorem r_bLen_l (xs : List D) : bLen [.lst xs] = some (.int xs.length) := rfl
@[simp] theorem r_bLen_s (xs : List D) : bLen [.scr xs] = some (.int xs.length) := rfl
@[simp] theorem r_bLen_t (xs : List D) : bLen [.tup xs] = some (.int xs.length) := rfl
@[simp] theorem r_bAbs (i : Int) : bAbs [.int i] = some (.int (if i < 0 then -i else i)) := rfl
@[simp] theorem r_bTup_l (xs : List D) : bTup [.lst xs] = some (.tup xs) := rfl
@[simp] theorem r_bTup_t (xs : List D) : bTup [.tup xs] = some (.tup xs) := rfl
@[simp] theorem r_bMax (i j : Int) : bMax2 [.int i, .int j] = some (.int (if j > i then j else i)) := rfl
@[simp] theorem r_bMin (i j : Int) : bMin2 [.int i, .int j] = some (.int (if j < i then j else i)) := rfl
@[simp] theorem r_ix_t (xs : List D) (i : Int) : ixD (.tup xs) i = L2.atI xs i := rfl
@[simp] theorem r_ix_l (xs : List D) (i : Int) : ixD (.lst xs) i = L2.atI xs i := rfl
@[simp] theorem r_ix_s (xs : List D) (i : Int) : ixD (.scr xs) i = L2.atI xs i := rfl
@[simp] theorem r_at0 {α : Type} (x : α) (r : List α) : L2.atI (x :: r) 0 = some x := L2.atI_nat (j := 0) rfl
@[simp] theorem r_at1 {α : Type} (x y : α) (r : List α) : L2.atI (x :: y :: r) 1 = some y := L2.atI_nat (j := 1) rfl
@[simp] theorem r_at2 {α : Type} (x y z : α) (r : List α) : L2.atI (x :: y :: z :: r) 2 = some z := L2.atI_nat (j := 2) rfl
@[simp] theorem r_at3 {α : Type} (x y z u : α) (r : List α) : L2.atI (x :: y :: z :: u :: r) 3 = some u := L2.atI_nat (j := 3) rfl
/-! isinstance -/
theorem mem_ty : ("int" ∈ tyNames) = True ∧ ("bool" ∈ tyNames) = True ∧ ("str" ∈ tyNames) = True ∧ ("list" ∈ tyNames) = True ∧ ("tuple" ∈ tyNames) = True ∧ ("dict" ∈ tyNames) = True ∧ ("NoneType" ∈ tyNames) = True := by simp [tyNames]
@[simp] theorem r_isi_int_int (cs : List String) (i : Int) : bIsi cs [.int i, .ty "int"] = some (.bl true) := by simp [bIsi, tyOfD, tyD, isOne, mem_ty, isTy]
@[simp] theorem r_isi_int_bool (cs : List String) (i : Int) : bIsi cs [.int i, .ty "bool"] = some (.bl false) := by simp [bIsi, tyOfD, tyD, isOne, mem_ty, isTy]
@[simp] theorem r_isi_ins_cls (cs : List String) (c : String) (fs : List (Nm × D)) (c' : String) (h : c ∈ cs := by simp) (h' : c' ∈ cs := by simp) : bIsi cs [.ins c fs, .cls c'] = some (.bl (c == c')) := by simp [bIsi, tyOfD, isOne, h, h']
@[simp] theorem r_isi_int_cls (cs : List String) (i : Int) (c' : String) (h' : c' ∈ cs := by simp) : bIsi cs [.int i, .cls c'] = some (.bl false) := by simp [bIsi, tyOfD, tyD, isOne, h', mem_ty]
@[simp] theorem r_isi_non_cls (cs : List String) (c' : String) (h' : c' ∈ cs := by simp) : bIsi cs [.non, .cls c'] = some (.bl false) := by simp [bIsi, tyOfD, tyD, isOne, h', mem_ty]
end
/-! ### bits -/
class Bd (x : Int) (n : outParam Nat) : Prop where
  lt : x.natAbs < 2 ^ n
theorem Bd.le {x : Int} {n m : Nat} (h : Bd x n) (hnm : n ≤ m) : Bd x m := ⟨Nat.lt_of_lt_of_le h.lt (Nat.pow_le_pow_right (by decide) hnm)⟩
instance bd_add {x y : Int} {m n : Nat} [h : Bd x m] [k : Bd y n] : Bd (x + y) (m + n + 1) := ⟨by
  have h1 := h.lt
  have h2 := k.lt
  have h3 : (2 : Nat) ^ m ≤ 2 ^ (m + n) := Nat.pow_le_pow_right (by decide) (by omega)
  have h4 : (2 : Nat) ^ n ≤ 2 ^ (m + n) := Nat.pow_le_pow_right (by decide) (by omega)
  have h5 : (2 : Nat) ^ (m + n + 1) = 2 ^ (m + n) * 2 := Nat.pow_succ ..
  omega⟩
instance bd_neg {x : Int} {m : Nat} [h : Bd x m] : Bd (-x) m := ⟨by rw [Int.natAbs_neg]; exact h.lt⟩
instance bd_sub {x y : Int} {m n : Nat} [h : Bd x m] [k : Bd y n] : Bd (x - y) (m + n + 1) := by
  rw [Int.sub_eq_add_neg]; exact bd_add
instance bd_mul {x y : Int} {m n : Nat} [h : Bd x m] [k : Bd y n] : Bd (x * y) (m + n) := ⟨by
  rw [Int.natAbs_mul, Nat.pow_add]
  exact Nat.mul_lt_mul'' h.lt k.lt⟩
instance bd_0 : Bd 0 0 := ⟨by decide⟩
instance bd_1 : Bd 1 1 := ⟨by decide⟩
theorem log2_lt {x : Int} {n : Nat} (h : Bd x n) : x.natAbs.log2 ≤ n := by
  have := h.lt
  by_cases e : x.natAbs = 0
  · rw [e]; simp
  · exact Nat.le_of_lt ((Nat.log2_lt e).mpr this)
theorem mulOk_of {x y : Int} {m n : Nat} (h : Bd x m) (k : Bd y n) (hl : m + n < 100000000) : mulOk x y = true := by
  unfold mulOk
  have h1 := log2_lt h
  have h2 := log2_lt k
  exact decide_eq_true (by omega)
@[simp] theorem mulOk_bd {x y : Int} {m n : Nat} [h : Bd x m] [k : Bd y n] (hl : m + n < 100000000) : mulOk x y = true := mulOk_of h k hl
theorem divOk_of {y : Int} {n : Nat} (k : Bd y n) (h0 : y ≠ 0) (hl : n < 9000) : divOk y = true := by
  unfold divOk
  exact decide_eq_true ⟨h0, Nat.lt_of_le_of_lt (log2_lt k) hl⟩
@[simp] theorem divOk_bd {y : Int} {n : Nat} [k : Bd y n] (h0 : y ≠ 0) (hl : n < 9000) : divOk y = true := divOk_of k h0 hl
@[simp] theorem divOk_2 : divOk 2 = true := by decide
end DL
set_option maxRecDepth 100000
set_option maxHeartbeats 4000000
set_option autoImplicit false
namespace DL
@[simp] theorem r_eDGet (fo fi : DE) (s : DS) : eDGet fo fi s = (fo s).bind fun d s1 => (fi s1).bind fun k s2 => match dictOf d s2, kOf k with
  | some kvs, some k => match dLook kvs k with
    | some x => .ok x s2
    | none => .stuck
  | _, _ => .stuck := rfl
@[simp] theorem r_dictOf_c (n : Nat) (sl : List Sl) (st : List Cell) : dictOf (.cell n) ⟨sl, st⟩ = match st[n]? with | some (.dic kvs) => some kvs | _ => none := rfl
@[simp] theorem r_dictOf_d (kvs : List (DK × D)) (s : DS) : dictOf (.dic kvs) s = some kvs := rfl
@[simp] theorem r_kOf_s (l : List Nat) : kOf (.str l) = some (.s l) := rfl
@[simp] theorem r_kOf_i (l : Int) : kOf (.int l) = some (.i l) := rfl
@[simp] theorem r_sDPutC (fo fi fv : DE) (s : DS) : sDPutC fo fi fv s = (fv s).bind fun x s1 => (fo s1).bind fun d s2 => (fi s2).bind fun k s3 => match d, kOf k with
  | .cell n, some k => match s3.st[n]? with
    | some (.dic kvs) => if kvs.length < 1000000 ∧ keysNd kvs = true then .ok .nx ⟨s3.sl, s3.st.set n (.dic (dPut kvs k x))⟩ else .stuck
    | _ => .stuck
  | _, _ => .stuck := rfl
@[simp] theorem r_eCellD (f : DD) (s : DS) : eCellD f s = (f s).bind fun xs s1 => .ok (.cell s1.st.length) ⟨s1.sl, s1.st ++ [.dic xs]⟩ := rfl
@[simp] theorem r_dDisp (fs : List (DE × DE)) (s : DS) : dDisp fs s = (pairsD fs s).bind fun ps s1 => match keyed ps with
  | some kvs => if kvs.length ≤ 15 ∧ keysNd kvs = true then .ok kvs s1 else .stuck
  | none => .stuck := rfl
@[simp] theorem r_pairs_nil (s : DS) : pairsD [] s = .ok [] s := rfl
@[simp] theorem r_pairs_cons (fk fv : DE) (r : List (DE × DE)) (s : DS) : pairsD ((fk, fv) :: r) s = (fk s).bind fun k s1 => (fv s1).bind fun x s2 => (pairsD r s2).bind fun ps s3 => .ok ((k, x) :: ps) s3 := rfl
@[simp] theorem r_keyed_nil : keyed [] = some [] := rfl
@[simp] theorem r_keyed_cons (k x : D) (r : List (D × D)) : keyed ((k, x) :: r) = match kOf k, keyed r with
    | some k, some r => some ((k, x) :: r)
    | _, _ => none := rfl
@[simp] theorem r_itR1 (f : DA) (s : DS) : itR1 f s = (f s).bind fun ds s1 => match ds with
  | [.int j] => if -(2 ^ 62) ≤ j ∧ j < 2 ^ 62 then .ok (rngL 0 j.toNat) s1 else .stuck
  | _ => .stuck := rfl
@[simp] theorem r_itEnum_l (f : DA) (s : DS) : itEnum f s = (f s).bind fun ds s1 => match ds with
  | [.lst xs] => .ok (enumL xs) s1
  | [.scr xs] => .ok (enumL xs) s1
  | _ => .stuck := rfl
@[simp] theorem r_itZip (f : DA) (s : DS) : itZip f s = (f s).bind fun ds s1 => match ds with
  | [.lst xs, .lst ys] => .ok (zipL xs ys) s1
  | [.tup xs, .tup ys] => .ok (zipL xs ys) s1
  | _ => .stuck := rfl
@[simp] theorem r_aLc (vs : List Nat) (it : DA) (g : DG) (t : DT) (e : DE) (s : DS) : aLc vs it g t e s = (it s).bind fun items s1 => (noX (lcL vs g t e items [] s1)).bind fun ys s2 => .ok ys ⟨unwipe vs s1.sl (wipeD vs s2.sl), s2.st⟩ := rfl
@[simp] theorem r_lc_nil (vs : List Nat) (g : DG) (t : DT) (e : DE) (acc : List D) (s : DS) : lcL vs g t e [] acc s = .ok acc s := rfl
@[simp] theorem r_lc_cons (vs : List Nat) (g : DG) (t : DT) (e : DE) (d : D) (r acc : List D) (s : DS) : lcL vs g t e (d :: r) acc s = (noX (g d (wipeS vs s))).bind fun _ s1 => (noX (t s1)).bind fun b s2 => if b = true then (noX (e s2)).bind fun y s3 => if acc.length < 1000000 then lcL vs g t e r (acc ++ [y]) s3 else .stuck
    else lcL vs g t e r acc s2 := rfl
@[simp] theorem r_wipe_nil (l : List Sl) : wipeD [] l = l := rfl
@[simp] theorem r_wipe_cons (v : Nat) (vs : List Nat) (l : List Sl) : wipeD (v :: vs) l = (wipeD vs l).set v .un := rfl
@[simp] theorem r_wipeS (vs : List Nat) (s : DS) : wipeS vs s = ⟨wipeD vs s.sl, s.st⟩ := rfl
@[simp] theorem r_unw_nil (o l : List Sl) : unwipe [] o l = l := rfl
@[simp] theorem r_unw_cons (v : Nat) (vs : List Nat) (o l : List Sl) : unwipe (v :: vs) o l = (unwipe vs o l).set v (match o[v]? with | some (.val d) => .val d | _ => .un) := rfl
@[simp] theorem r_sApp (i : Nat) (fa : DA) (s : DS) : sApp i fa s = match s.sl[i]? with
  | some (.ol _) => (fa s).bind fun ds s1 => match ds, s1.sl[i]? with
    | [d], some (.ol xs) => if xs.length < 1000000 then .ok .nx ⟨s1.sl.set i (.ol (xs ++ [d])), s1.st⟩ else .stuck
    | _, _ => .stuck
  | _ => .stuck := rfl
/-! data equality -/
open PySem in
theorem pys_ints (ns : List Int) : toPys (ns.map D.int) = some (ns.map PyData.int) := by
  induction ns with
  | nil => rfl
  | cons a r ih => simp [toPys, toPy, ih]
open PySem in
theorem can_ints (ns : List Int) : PyData.canLayAll0 (ns.map PyData.int) = true := by
  induction ns with
  | nil => rfl
  | cons a r ih => simp [PyData.canLayAll0, PyData.canLay0, ih]
open PySem in
theorem dep_ints (ns : List Int) : PyData.depthAll (ns.map PyData.int) = 0 := by
  induction ns with
  | nil => rfl
  | cons a r ih => simp [PyData.depthAll, PyData.depth, ih]
open PySem in
@[simp] theorem r_ne_nil (ns : List Int) : dNe (.lst (ns.map D.int)) (.lst []) = some (.bl (!ns.isEmpty)) := by
  cases ns with
  | nil => simp [dNe, toPy, toPys, SeqAt.shaped, PyData.canLay0, PyData.depth, PyData.depthAll, PyData.eqv, PyData.eqvAll, PyData.canLayAll0]
  | cons a r => simp [dNe, toPy, toPys, pys_ints, can_ints, dep_ints, SeqAt.shaped, PyData.canLay0, PyData.depth, PyData.depthAll, PyData.eqv, PyData.eqvAll, PyData.canLayAll0]
@[simp] theorem r_ne_nil0 : dNe (.lst []) (.lst []) = some (.bl false) := r_ne_nil []
/-! the draw pen -/
abbrev penD (cs : List Int) (c l : Int) : List (DK × D) := [(.s [99, 101, 108, 108, 115], .lst (cs.map D.int)), (.s [99, 111, 117, 110, 116], .int c), (.s [108, 101, 102, 116], .int l)]
def Pen (n : Nat) (S : List Cell) : Prop := ∃ cs c l, S = [.dic (penD cs c l)] ∧ 0 ≤ c ∧ c ≤ n ∧ 0 ≤ l
theorem Pen.mono {n m : Nat} {S : List Cell} (h : Pen n S) (hm : n ≤ m) : Pen m S := by
  obtain ⟨cs, c, l, h1, h2, h3, h4⟩ := h
  exact ⟨cs, c, l, h1, h2, by omega, h4⟩
theorem ix_mod (cs : List Int) (c : Int) (h : cs ≠ []) : ∃ x : Int, L2.atI (cs.map D.int) (c.fmod cs.length) = some (.int x) := by
  have hp : (0 : Int) < cs.length := by
    cases cs with
    | nil => exact absurd rfl h
    | cons a r => simp
  have h1 : 0 ≤ c.fmod cs.length := Int.fmod_nonneg_of_pos _ hp
  have h2 : c.fmod cs.length < cs.length := Int.fmod_lt_of_pos _ hp
  obtain ⟨k, hk⟩ := Int.eq_ofNat_of_zero_le h1
  rw [hk] at h2 ⊢
  have h3 : k < cs.length := by omega
  refine ⟨cs[k], ?_⟩
  have : (cs.map D.int)[k]? = some (D.int cs[k]) := by simp [h3]
  exact L2.atI_nat this
theorem Bd.of_range {x : Int} {m n : Nat} (h0 : 0 ≤ x) (h1 : x < m) (h : m ≤ 2 ^ n) : Bd x n := ⟨by omega⟩
end DL
set_option maxRecDepth 100000
set_option maxHeartbeats 4000000
set_option autoImplicit false
namespace DL
/-! more bounds -/
instance bd_half {x : Int} {n : Nat} [h : Bd x n] : Bd (x.fdiv 2) n := ⟨by
  have := h.lt
  rw [Int.fdiv_eq_ediv_of_nonneg _ (by decide)]
  omega⟩
instance bd_abs {x : Int} {n : Nat} [h : Bd x n] : Bd (if x < 0 then -x else x) n := ⟨by
  have := h.lt
  split
  · rw [Int.natAbs_neg]; exact this
  · exact this⟩
instance bd_ite {c : Prop} [Decidable c] {x y : Int} {m n : Nat} [h : Bd x m] [k : Bd y n] : Bd (if c then x else y) (m + n) := ⟨by
  split
  · exact Nat.lt_of_lt_of_le h.lt (Nat.pow_le_pow_right (by decide) (by omega))
  · exact Nat.lt_of_lt_of_le k.lt (Nat.pow_le_pow_right (by decide) (by omega))⟩
theorem Bd.of_le {x : Int} {y : Int} {n : Nat} (k : Bd y n) (h0 : 0 ≤ x) (h : x ≤ y) : Bd x n := ⟨by have := k.lt; omega⟩
theorem fdiv_le_abs (x y : Int) : (x.fdiv y).natAbs ≤ x.natAbs + 1 := by
  by_cases hy : y = 0
  · subst hy; simp
  have key : ∀ x y : Int, 0 < y → (x.fdiv y).natAbs ≤ x.natAbs + 1 := fun x y hy => by
    have h1 : y * x.fdiv y + x.fmod y = x := Int.mul_fdiv_add_fmod x y
    have h2 : 0 ≤ x.fmod y := Int.fmod_nonneg_of_pos _ hy
    have h3 : x.fmod y < y := Int.fmod_lt_of_pos _ hy
    generalize x.fdiv y = q at *
    by_cases c : 0 ≤ q
    · have := Int.mul_nonneg (show 0 ≤ y - 1 by omega) c
      rw [Int.sub_mul] at this
      omega
    · have := Int.mul_nonneg (show 0 ≤ y - 1 by omega) (show 0 ≤ -q - 1 by omega)
      rw [show (y - 1) * (-q - 1) = -(y * q) - y + q + 1 by grind] at this
      omega
  by_cases c : 0 < y
  · exact key x y c
  · have h := key (-x) (-y) (by omega)
    rw [show (-x).fdiv (-y) = x.fdiv y from Int.neg_fdiv_neg x y, Int.natAbs_neg] at h
    exact h
instance bd_fdiv {x y : Int} {n : Nat} [h : Bd x n] : Bd (x.fdiv y) (n + 1) := ⟨by
  have h1 := h.lt
  have h2 := fdiv_le_abs x y
  have h3 : (2 : Nat) ^ (n + 1) = 2 ^ n * 2 := Nat.pow_succ ..
  have h4 : 1 ≤ (2 : Nat) ^ n := Nat.one_le_two_pow
  omega⟩
/-! readings of DLu -/
@[simp] theorem r_eBits (f : DE) (s : DS) : eBits f s = (f s).bind fun d s1 => match d with | .int i => .ok (.int (PySem.Builtin.Int.intBits i : Nat)) s1 | _ => .stuck := rfl
@[simp] theorem r_sRaise (c : String) (f : Nm) (fa : DA) (s : DS) : sRaise c f fa s = (fa s).bind fun ds s1 => match ds with | [d] => .exc ⟨c, [(f, d)]⟩ s1 | _ => .stuck := rfl
@[simp] theorem r_iShl (i j : Int) : iShl (.int i) (.int j) = if 0 ≤ j ∧ j ≤ 1000000 ∧ i.natAbs < 2 ^ 64 then some (.int (i * 2 ^ j.toNat)) else none := rfl
@[simp] theorem r_inS (neg : Bool) (c : Nat) (l : Nm) : dIn neg (.str [c]) (.str l) = some (.bl (if neg then !decide (c ∈ l) else decide (c ∈ l))) := rfl
@[simp] theorem r_lo_exc (x : Xc) (s : DS) (k : DS → Res DS Out) : loopOut (.exc x s) k = .exc x s := rfl
theorem inF_ints (neg : Bool) (i : Int) (ns : List Int) : dIn neg (.int i) (.tup (ns.map D.int)) = some (.bl (if neg then !decide (i ∈ ns) else decide (i ∈ ns))) := by
  have h1 : (ns.map D.int).all flD = true := by simp [flD]
  have h2 : (ns.map D.int).any (fun z => eqFl z (.int i)) = decide (i ∈ ns) := by
    induction ns with
    | nil => rfl
    | cons a r ih =>
      simp only [List.map_cons, List.any_cons, ih (by simp [flD])]
      show ((a == i) || decide (i ∈ r)) = _
      by_cases e : a = i
      · subst e; simp
      · simp [e, Ne.symm e]
  simp [dIn, inS, inF, h1, h2, flD]
theorem inF_intsL (neg : Bool) (i : Int) (ns : List Int) : dIn neg (.int i) (.lst (ns.map D.int)) = some (.bl (if neg then !decide (i ∈ ns) else decide (i ∈ ns))) := by
  have h1 : (ns.map D.int).all flD = true := by simp [flD]
  have h2 : (ns.map D.int).any (fun z => eqFl z (.int i)) = decide (i ∈ ns) := by
    induction ns with
    | nil => rfl
    | cons a r ih =>
      simp only [List.map_cons, List.any_cons, ih (by simp [flD])]
      show ((a == i) || decide (i ∈ r)) = _
      by_cases e : a = i
      · subst e; simp
      · simp [e, Ne.symm e]
  simp [dIn, inS, inF, h1, h2, flD]
/-! + and * of sequences -/
@[simp] theorem r_dAdd_ll (xs ys : List D) : dAdd (.lst xs) (.lst ys) = lAdd (.lst xs) (.lst ys) := rfl
@[simp] theorem r_lAdd_ll (xs ys : List D) : lAdd (.lst xs) (.lst ys) = if xs.length + ys.length ≤ 1000000 then some (.lst (xs ++ ys)) else none := rfl
/-! loops -/
theorem forL_inv {g : DG} {b : DStm} {items : List D} (P : Nat → DS → Prop) (step : ∀ (i : Nat) (d : D) (s : DS), items[i]? = some d → P i s → ∃ s1 s2, g d s = .ok () s1 ∧ (b s1 = .ok .nx s2 ∨ b s1 = .ok .ct s2) ∧ P (i + 1) s2) :
    ∀ (l : List D) (i : Nat) (s : DS), (∀ j, l[j]? = items[i + j]?) → P i s → ∃ s', forL g b l s = .ok .nx s' ∧ P (i + l.length) s'
  | [], i, s, h, hp => ⟨s, rfl, hp⟩
  | d :: l, i, s, h, hp => by
    have h0 := h 0
    simp only [List.getElem?_cons_zero, Nat.add_zero] at h0
    obtain ⟨s1, s2, e1, e2, hp2⟩ := step i d s h0.symm hp
    obtain ⟨s', e3, hp3⟩ := forL_inv P step l (i + 1) s2 (fun j => by
      have := h (j + 1)
      rw [List.getElem?_cons_succ] at this
      rw [this]
      congr 1
      omega) hp2
    refine ⟨s', ?_, by rw [show i + (d :: l).length = i + 1 + l.length by simp; omega]; exact hp3⟩
    rw [r_for_cons, e1]
    rcases e2 with e2 | e2 <;> simp [e2, e3]
theorem for_inv {g : DG} {b : DStm} {items : List D} {s : DS} (P : Nat → DS → Prop) (h0 : P 0 s) (step : ∀ (i : Nat) (d : D) (s : DS), items[i]? = some d → P i s → ∃ s1 s2, g d s = .ok () s1 ∧ (b s1 = .ok .nx s2 ∨ b s1 = .ok .ct s2) ∧ P (i + 1) s2) :
    ∃ s', forL g b items s = .ok .nx s' ∧ P items.length s' := by
  obtain ⟨s', e, hp⟩ := forL_inv P step items 0 s (fun j => by simp) h0
  exact ⟨s', e, by simpa using hp⟩
@[simp] theorem rngL_len (lo : Int) (n : Nat) : (rngL lo n).length = n := by simp [rngL]
theorem rngL_get {lo : Int} {n i : Nat} {d : D} (h : (rngL lo n)[i]? = some d) : i < n ∧ d = .int (lo + i) := by
  unfold rngL at h
  rw [List.getElem?_map] at h
  cases e : (List.range n)[i]? with
  | none => rw [e] at h; cases h
  | some k =>
    rw [e] at h
    cases h
    have hi : i < n := by simpa using (List.getElem?_eq_some_iff.mp e).1
    rw [List.getElem?_range hi] at e
    cases e
    exact ⟨hi, rfl⟩
end DL
set_option maxRecDepth 100000
set_option maxHeartbeats 4000000
set_option autoImplicit false
namespace DL
open PySem
/-! ### == of plain data, by data alone -/
mutual
def plD : D → Bool
  | .non => true
  | .bl _ => true
  | .int _ => true
  | .str l => l.all (· < 0x110000)
  | .tup xs => plDs xs
  | .lst xs => plDs xs
  | .scr xs => plDs xs
  | _ => false
def plDs : List D → Bool
  | [] => true
  | x :: r => plD x && plDs r
end
mutual
def dpD : D → Nat
  | .tup xs => dpDs xs + 1
  | .lst xs => dpDs xs + 1
  | .scr xs => dpDs xs + 1
  | _ => 0
def dpDs : List D → Nat
  | [] => 0
  | x :: r => max (dpD x) (dpDs r)
end
mutual
def eqPl : D → D → Bool
  | .non, .non => true
  | .bl a, .bl b => a == b
  | .bl a, .int j => decide ((if a then (1 : Int) else 0) = j)
  | .int i, .bl b => decide (i = if b then (1 : Int) else 0)
  | .int i, .int j => decide (i = j)
  | .str a, .str b => decide (a = b)
  | .tup xs, .tup ys => eqPls xs ys
  | .lst xs, .lst ys => eqPls xs ys
  | .scr xs, .lst ys => eqPls xs ys
  | .lst xs, .scr ys => eqPls xs ys
  | .scr xs, .scr ys => eqPls xs ys
  | _, _ => false
def eqPls : List D → List D → Bool
  | [], [] => true
  | x :: xs, y :: ys => eqPl x y && eqPls xs ys
  | _, _ => false
end
theorem strOk_nm (l : Nm) : PyData.strOk (nm l) = l.all (· < 0x110000) := by simp [PyData.strOk, nm]
mutual
theorem toPy_pl : ∀ d : D, plD d = true → ∃ p, toPy d = some p ∧ p.canLay0 = true ∧ p.depth = dpD d
  | .non, _ => ⟨.none, rfl, rfl, rfl⟩
  | .bl b, _ => ⟨.bool b, rfl, rfl, rfl⟩
  | .int i, _ => ⟨.int i, rfl, rfl, rfl⟩
  | .str l, h => ⟨.str (nm l), rfl, by simp only [plD] at h; simp only [PyData.canLay0, strOk_nm]; exact h, rfl⟩
  | .tup xs, h => by
    obtain ⟨ps, h1, h2, h3⟩ := toPys_pl xs h
    exact ⟨.tuple ps, by simp [toPy, h1], h2, by simp [PyData.depth, dpD, h3]⟩
  | .lst xs, h => by
    obtain ⟨ps, h1, h2, h3⟩ := toPys_pl xs h
    exact ⟨.list ps, by simp [toPy, h1], h2, by simp [PyData.depth, dpD, h3]⟩
  | .scr xs, h => by
    obtain ⟨ps, h1, h2, h3⟩ := toPys_pl xs h
    exact ⟨.list ps, by simp [toPy, h1], h2, by simp [PyData.depth, dpD, h3]⟩
  | .dic _, h => by simp [plD] at h
  | .ins _ _, h => by simp [plD] at h
  | .cell _, h => by simp [plD] at h
  | .cls _, h => by simp [plD] at h
  | .ty _, h => by simp [plD] at h
  | .fn _, h => by simp [plD] at h
  | .lam _, h => by simp [plD] at h
theorem toPys_pl : ∀ ds : List D, plDs ds = true → ∃ ps, toPys ds = some ps ∧ PyData.canLayAll0 ps = true ∧ PyData.depthAll ps = dpDs ds
  | [], _ => ⟨[], rfl, rfl, rfl⟩
  | d :: r, h => by
    simp only [plDs, Bool.and_eq_true] at h
    obtain ⟨p, h1, h2, h3⟩ := toPy_pl d h.1
    obtain ⟨ps, h4, h5, h6⟩ := toPys_pl r h.2
    exact ⟨p :: ps, by simp [toPys, h1, h4], by simp [PyData.canLayAll0, h2, h5], by simp [PyData.depthAll, dpDs, h3, h6]⟩
end
theorem nm_beq (a b : Nm) : (nm a == nm b) = decide (a = b) := by
  by_cases e : a = b
  · subst e; simp
  · rw [beq_eq_false_iff_ne.mpr fun z => e (nm_inj z)]; simp [e]
theorem dec_beq (a b : Int) : (a == b) = decide (a = b) := by simp [Bool.beq_eq_decide_eq]
mutual
theorem eqv_pl : ∀ (x y : D) (p q : PyData), toPy x = some p → toPy y = some q → PyData.eqv p q = eqPl x y := by
  intro x y p q h1 h2
  cases x <;> cases y <;> first
    | (simp [toPy] at h1; done)
    | (simp [toPy] at h2; done)
    | (simp only [toPy, Option.some.injEq] at h1 h2; subst h1; subst h2; first | rfl | exact dec_beq _ _ | exact nm_beq _ _ | (simp [PyData.eqv, eqPl]; done))
    | (simp only [toPy, Option.map_eq_some_iff, Option.some.injEq] at h1 h2
       first
         | (obtain ⟨ps, e1, rfl⟩ := h1; obtain ⟨qs, e2, rfl⟩ := h2; first | exact eqvs_pl _ _ _ _ e1 e2 | rfl)
         | (obtain ⟨ps, e1, rfl⟩ := h1; subst h2; rfl)
         | (obtain ⟨qs, e2, rfl⟩ := h2; subst h1; rfl))
theorem eqvs_pl : ∀ (xs ys : List D) (ps qs : List PyData), toPys xs = some ps → toPys ys = some qs → PyData.eqvAll ps qs = eqPls xs ys
  | [], [], ps, qs, h1, h2 => by cases h1; cases h2; rfl
  | [], y :: ys, ps, qs, h1, h2 => by
    cases h1
    simp only [toPys, Option.bind_eq_some_iff, Option.map_eq_some_iff] at h2
    obtain ⟨p, _, q, _, rfl⟩ := h2
    rfl
  | x :: xs, [], ps, qs, h1, h2 => by
    cases h2
    simp only [toPys, Option.bind_eq_some_iff, Option.map_eq_some_iff] at h1
    obtain ⟨p, _, q, _, rfl⟩ := h1
    rfl
  | x :: xs, y :: ys, ps, qs, h1, h2 => by
    simp only [toPys, Option.bind_eq_some_iff, Option.map_eq_some_iff] at h1 h2
    obtain ⟨p, e1, q, e2, rfl⟩ := h1
    obtain ⟨p', e3, q', e4, rfl⟩ := h2
    simp only [PyData.eqvAll, eqPls, eqv_pl x y p p' e1 e3, eqvs_pl xs ys q q' e2 e4]
end
def plOk (d : D) : Prop := plD d = true ∧ dpD d ≤ 64
theorem dEq_pl (x y : D) (h : plOk x) (k : plOk y) : dEq x y = some (.bl (eqPl x y)) := by
  obtain ⟨p, a1, a2, a3⟩ := toPy_pl x h.1
  obtain ⟨q, b1, b2, b3⟩ := toPy_pl y k.1
  have s1 : SeqAt.shaped p = true := by
    unfold SeqAt.shaped
    rw [a2, a3]
    simp [h.2]
  have s2 : SeqAt.shaped q = true := by
    unfold SeqAt.shaped
    rw [b2, b3]
    simp [k.2]
  unfold dEq
  rw [a1, b1]
  simp only [s1, s2, Bool.and_self, if_true, eqv_pl x y p q a1 b1]
theorem dNe_pl (x y : D) (h : plOk x) (k : plOk y) : dNe x y = some (.bl (!eqPl x y)) := by
  obtain ⟨p, a1, a2, a3⟩ := toPy_pl x h.1
  obtain ⟨q, b1, b2, b3⟩ := toPy_pl y k.1
  have s1 : SeqAt.shaped p = true := by
    unfold SeqAt.shaped
    rw [a2, a3]
    simp [h.2]
  have s2 : SeqAt.shaped q = true := by
    unfold SeqAt.shaped
    rw [b2, b3]
    simp [k.2]
  unfold dNe
  rw [a1, b1]
  simp only [s1, s2, Bool.and_self, if_true, eqv_pl x y p q a1 b1]
@[simp] theorem pl_non : plOk .non := ⟨rfl, by simp [dpD]⟩
@[simp] theorem pl_bl (b : Bool) : plOk (.bl b) := ⟨rfl, by simp [dpD]⟩
@[simp] theorem pl_int (i : Int) : plOk (.int i) := ⟨rfl, by simp [dpD]⟩
theorem pl_str (l : Nm) (h : l.all (· < 0x110000) = true) : plOk (.str l) := ⟨h, by simp [dpD]⟩
/-- flat items -/
def plF (d : D) : Prop := plD d = true ∧ dpD d ≤ 60
def plFs (ds : List D) : Prop := plDs ds = true ∧ dpDs ds ≤ 60
@[simp] theorem plFs_nil : plFs [] ↔ True := by simp [plFs, plDs, dpDs]
@[simp] theorem plFs_cons (d : D) (r : List D) : plFs (d :: r) ↔ plF d ∧ plFs r := by
  simp only [plFs, plF, plDs, dpDs, Bool.and_eq_true, Nat.max_le]
  constructor <;> intro h <;> simp [h]
@[simp] theorem plF_non : plF .non ↔ True := by simp [plF, plD, dpD]
@[simp] theorem plF_bl (b : Bool) : plF (.bl b) ↔ True := by simp [plF, plD, dpD]
@[simp] theorem plF_int (i : Int) : plF (.int i) ↔ True := by simp [plF, plD, dpD]
@[simp] theorem plF_str (l : Nm) : plF (.str l) ↔ l.all (· < 0x110000) = true := by simp [plF, plD, dpD]
theorem plF_tup3 (x y z : Int) : plF (.tup [.int x, .int y, .int z]) := by simp [plF, plD, plDs, dpD, dpDs]
theorem plFs_ints (ns : List Int) : plFs (ns.map D.int) := by
  induction ns with
  | nil => simp
  | cons a r ih => simp [ih]
theorem pl_tup (xs : List D) (h : plFs xs) : plOk (.tup xs) := ⟨h.1, by have := h.2; simp only [dpD]; omega⟩
theorem pl_lst (xs : List D) (h : plFs xs) : plOk (.lst xs) := ⟨h.1, by have := h.2; simp only [dpD]; omega⟩
theorem plF.ok {d : D} (h : plF d) : plOk d := ⟨h.1, by have := h.2; omega⟩
@[simp] theorem dEq_tt (xs ys : List D) (h : plFs xs) (k : plFs ys) : dEq (.tup xs) (.tup ys) = some (.bl (eqPls xs ys)) := dEq_pl _ _ (pl_tup _ h) (pl_tup _ k)
@[simp] theorem dNe_tt (xs ys : List D) (h : plFs xs) (k : plFs ys) : dNe (.tup xs) (.tup ys) = some (.bl (!eqPls xs ys)) := dNe_pl _ _ (pl_tup _ h) (pl_tup _ k)
@[simp] theorem dEq_ll (xs ys : List D) (h : plFs xs) (k : plFs ys) : dEq (.lst xs) (.lst ys) = some (.bl (eqPls xs ys)) := dEq_pl _ _ (pl_lst _ h) (pl_lst _ k)
@[simp] theorem dNe_ll (xs ys : List D) (h : plFs xs) (k : plFs ys) : dNe (.lst xs) (.lst ys) = some (.bl (!eqPls xs ys)) := dNe_pl _ _ (pl_lst _ h) (pl_lst _ k)
@[simp] theorem dEq_ss (a b : Nm) (h : a.all (· < 0x110000) = true) (k : b.all (· < 0x110000) = true) : dEq (.str a) (.str b) = some (.bl (decide (a = b))) := dEq_pl _ _ (pl_str _ h) (pl_str _ k)
@[simp] theorem dNe_ss (a b : Nm) (h : a.all (· < 0x110000) = true) (k : b.all (· < 0x110000) = true) : dNe (.str a) (.str b) = some (.bl (!decide (a = b))) := dNe_pl _ _ (pl_str _ h) (pl_str _ k)
@[simp] theorem dEq_nt (xs : List D) (h : plFs xs) : dEq .non (.tup xs) = some (.bl false) := dEq_pl _ _ pl_non (pl_tup _ h)
@[simp] theorem dEq_tn (xs : List D) (h : plFs xs) : dEq (.tup xs) .non = some (.bl false) := dEq_pl _ _ (pl_tup _ h) pl_non
@[simp] theorem dNe_nt (xs : List D) (h : plFs xs) : dNe .non (.tup xs) = some (.bl true) := dNe_pl _ _ pl_non (pl_tup _ h)
@[simp] theorem dNe_tn (xs : List D) (h : plFs xs) : dNe (.tup xs) .non = some (.bl true) := dNe_pl _ _ (pl_tup _ h) pl_non
@[simp] theorem dEq_nn : dEq .non .non = some (.bl true) := dEq_pl _ _ pl_non pl_non
@[simp] theorem dNe_nn : dNe .non .non = some (.bl false) := dNe_pl _ _ pl_non pl_non
@[simp] theorem eqPls_nil : eqPls [] [] = true := by simp [eqPls]
@[simp] theorem eqPls_cons (x y : D) (xs ys : List D) : eqPls (x :: xs) (y :: ys) = (eqPl x y && eqPls xs ys) := by simp [eqPls]
@[simp] theorem eqPls_nc (y : D) (ys : List D) : eqPls [] (y :: ys) = false := by simp [eqPls]
@[simp] theorem eqPls_cn (y : D) (ys : List D) : eqPls (y :: ys) [] = false := by simp [eqPls]
@[simp] theorem eqPl_int (i j : Int) : eqPl (.int i) (.int j) = decide (i = j) := by simp [eqPl]
@[simp] theorem eqPl_str (i j : Nm) : eqPl (.str i) (.str j) = decide (i = j) := by simp [eqPl]
@[simp] theorem eqPl_tup (i j : List D) : eqPl (.tup i) (.tup j) = eqPls i j := by simp [eqPl]
@[simp] theorem eqPl_lst (i j : List D) : eqPl (.lst i) (.lst j) = eqPls i j := by simp [eqPl]
@[simp] theorem eqPl_nn : eqPl .non .non = true := by simp [eqPl]
@[simp] theorem eqPl_bb (a b : Bool) : eqPl (.bl a) (.bl b) = (a == b) := by simp [eqPl]
mutual
theorem eqPl_refl : ∀ d : D, plD d = true → eqPl d d = true
  | .non, _ => by simp
  | .bl b, _ => by simp
  | .int i, _ => by simp
  | .str l, _ => by simp
  | .tup xs, h => by simp only [eqPl]; exact eqPls_refl xs h
  | .lst xs, h => by simp only [eqPl]; exact eqPls_refl xs h
  | .scr xs, h => by simp only [eqPl]; exact eqPls_refl xs h
  | .dic _, h => by simp [plD] at h
  | .ins _ _, h => by simp [plD] at h
  | .cell _, h => by simp [plD] at h
  | .cls _, h => by simp [plD] at h
  | .ty _, h => by simp [plD] at h
  | .fn _, h => by simp [plD] at h
  | .lam _, h => by simp [plD] at h
theorem eqPls_refl : ∀ ds : List D, plDs ds = true → eqPls ds ds = true
  | [], _ => by simp
  | d :: r, h => by
    simp only [plDs, Bool.and_eq_true] at h
    simp only [eqPls, eqPl_refl d h.1, eqPls_refl r h.2, Bool.and_self]
end
end DL
set_option maxRecDepth 100000
set_option maxHeartbeats 4000000
set_option autoImplicit false
namespace DL
/-! ### readings of DLk -/
@[simp] theorem r_eIxO (i : Nat) (fb : DE) (s : DS) : eIxO i fb s = match s.sl[i]? with
  | some (.ol _) => (fb s).bind fun y s1 => match y, s1.sl[i]? with
    | .int k, some (.ol xs) => (match L2.atI xs k with | some d => .ok d s1 | none => .stuck)
    | _, _ => .stuck
  | some (.val x) => (fb s).bind fun y s1 => match y with
    | .int k => (match ixD x k with | some d => .ok d s1 | none => .stuck)
    | _ => .stuck
  | _ => .stuck := rfl
@[simp] theorem r_eTruO (i : Nat) (s : DS) : eTruO i s = match s.sl[i]? with
  | some (.ol xs) => .ok (!xs.isEmpty) s
  | some (.val d) => (match truD d with | some b => .ok b s | none => .stuck)
  | _ => .stuck := rfl
@[simp] theorem r_sIxO (i : Nat) (fi fv : DE) (s : DS) : sIxO i fi fv s = (fv s).bind fun d s1 => match s1.sl[i]? with
  | some (.ol _) => (fi s1).bind fun y s2 => match y, s2.sl[i]? with
    | .int k, some (.ol xs) => (match L2.ixN xs.length k with | some j => .ok .nx ⟨s2.sl.set i (.ol (xs.set j d)), s2.st⟩ | none => .stuck)
    | _, _ => .stuck
  | _ => .stuck := rfl
@[simp] theorem r_eProp (c : String) (g : DFn) (f : DE) (s : DS) : eProp c g f s = (f s).bind fun d s1 => match insOf d s1 with
  | some (c1, _) => if c1 = c then noX (lift s1 (g [d] s1.st)) else .stuck
  | none => .stuck := rfl
@[simp] theorem r_eChain (o o' : D → D → Option D) (fa fb fc : DE) (s : DS) : eChain o o' fa fb fc s = (fa s).bind fun x s1 => (fb s1).bind fun y s2 => match o x y with
  | some (.bl true) => (fc s2).bind fun z s3 => match o' y z with
    | some d => .ok d s3
    | none => .stuck
  | some (.bl false) => .ok (.bl false) s2
  | _ => .stuck := rfl
@[simp] theorem r_eSix (fo : DE) (fa : DA) (s : DS) : eSix fo fa s = (fo s).bind fun x s1 => match x with
  | .str a => (fa s1).bind fun ds s2 => match ds with
    | [.str b] => (match PySem.Txt.index0 (nm a) (nm b) with | some k => .ok (.int (k : Nat)) s2 | none => .stuck)
    | _ => .stuck
  | _ => .stuck := rfl
@[simp] theorem r_eBM (T : String) (o : D → List D → Option D) (fo : DE) (fa : DA) (s : DS) : eBM T o fo fa s = (fo s).bind fun x s1 => if MtD.tyOk T x = true then (fa s1).bind fun ds s2 => match o x ds with
  | some d => .ok d s2
  | none => .stuck
  else .stuck := rfl
@[simp] theorem r_tyOk_s (T : String) (l : Nm) : MtD.tyOk T (.str l) = (T == "str") := rfl
@[simp] theorem r_mJoin (a : Nm) (ds : List D) : mJoin (.str a) [.lst ds] = match strsOf ds with
    | some ls => if (ls.map (·.length)).sum + ls.length * a.length ≤ 16777216 then some (.str (TL.joinL a ls)) else none
    | none => none := rfl
@[simp] theorem r_bDivmod (i j : Int) : bDivmod [.int i, .int j] = if 0 < j ∧ divOk j = true then some (.tup [.int (i.fdiv j), .int (i.fmod j)]) else none := rfl
@[simp] theorem r_eFz (i : Nat) (f : DE) (s : DS) : eFz i f s = match s.sl[i]? with
  | some (.ol xs) => f ⟨s.sl.set i (.val (.lst xs)), s.st⟩
  | some (.od kvs) => f ⟨s.sl.set i (.val (.dic kvs)), s.st⟩
  | some (.ot kvs) => f ⟨s.sl.set i (.val (.dct kvs)), s.st⟩
  | some (.oi c fs) => f ⟨s.sl.set i (.val (.ins c fs)), s.st⟩
  | _ => f s := rfl
/-! ### lambdas, tries -/
@[simp] theorem r_eLam (n : Nat) (tk k : String) (s : DS) : eLam n tk k s = match s.st[n]? with
  | some (.tab t) => if t = tk then .ok (.lam k) s else .stuck
  | _ => .stuck := rfl
@[simp] theorem r_eAct (Λ : LamR) (i : Nat) (s : DS) : eAct Λ i s = match s.sl[i]? with
  | some (.val (.lam k)) => lift s (Λ k s.st)
  | _ => .stuck := rfl
@[simp] theorem r_eCallL (n : Nat) (g : LamR → DFn) (bs : String → Option DE) (fa : DA) (s : DS) : eCallL n g bs fa s = (fa s).bind fun ds s1 => if ds.length = n then lift s1 (g (lamR bs s1.sl) ds s1.st) else .stuck := rfl
@[simp] theorem r_lamR (bs : String → Option DE) (sl : List Sl) (k : String) (st : List Cell) : lamR bs sl k st = match bs k with
  | some b => lamRun b sl st
  | none => .stuck := rfl
@[simp] theorem r_lamRun (b : DE) (sl : List Sl) (st : List Cell) : lamRun b sl st = match b ⟨sl.map stripS, st⟩ with
  | .ok d s' => .ok d s'.st
  | .exc x s' => .exc x s'.st
  | .stuck => .stuck := rfl
@[simp] theorem r_strip_v (d : D) : stripS (.val d) = .val d := rfl
@[simp] theorem r_strip_u : stripS .un = .un := rfl
@[simp] theorem r_strip_l (xs : List D) : stripS (.ol xs) = .un := rfl
@[simp] theorem r_sTry (b : DStm) (hs : List HdR) (s : DS) : sTry b hs s = match b s with
  | .exc x s1 => catchD hs x s1
  | r => r := rfl
@[simp] theorem r_catch_nil (x : Xc) (s : DS) : catchD [] x s = .exc x s := rfl
@[simp] theorem r_catch_none (c : PySem.Value) (m : String → Option Bool) (f : Xc → DStm) (r : List HdR) (x : Xc) (s : DS) : catchD (⟨c, none, m, f⟩ :: r) x s = match m x.cls with
    | some true => noX (f x s)
    | some false => catchD r x s
    | none => .stuck := rfl
@[simp] theorem r_catch_some (c : PySem.Value) (i : Nat) (m : String → Option Bool) (f : Xc → DStm) (r : List HdR) (x : Xc) (s : DS) : catchD (⟨c, some i, m, f⟩ :: r) x s = match m x.cls with
    | some true => if i < s.sl.length then unD i (noX (f x ⟨s.sl.set i .un, s.st⟩)) else .stuck
    | some false => catchD r x s
    | none => .stuck := rfl
@[simp] theorem r_unD (i : Nat) (r : Res DS Out) : unD i r = r.bind fun o s => .ok o ⟨s.sl.set i .un, s.st⟩ := rfl
@[simp] theorem r_hmT (yes no : List String) (k : String) : hmT yes no k = if k ∈ yes then some true else if k ∈ no then some false else none := rfl
@[simp] theorem r_eXf (c : String) (f : Nm) (x : Xc) (s : DS) : eXf c f x s = if x.cls = c then match x.fs.lookup f with | some d => .ok d s | none => .stuck else .stuck := rfl
/-! ### indexes from behind -/
theorem ixN_last {n : Nat} (h : 0 < n) : L2.ixN n (-1) = some (n - 1) := by
  unfold L2.ixN
  rw [if_neg (by omega), if_pos (by omega)]
  congr 1
  omega
theorem at_neg1 {α : Type} (xs : List α) (x : α) : L2.atI (xs ++ [x]) (-1) = some x := by
  unfold L2.atI
  rw [ixN_last (by simp)]
  simp
theorem set_last {α : Type} (xs : List α) (x y : α) : (xs ++ [x]).set ((xs ++ [x]).length - 1) y = xs ++ [y] := by
  simp
theorem at_nat {α : Type} {xs : List α} {i : Nat} {x : α} (h : xs[i]? = some x) : L2.atI xs (i : Int) = some x := L2.atI_nat h
/-! ### comprehensions that leave the store -/
theorem lc_gen {vs : List Nat} {g : DG} {t : DT} {e : DE} {s0 : DS} (τ : D → Bool) (f : D → D) : ∀ (items acc : List D), (∀ d ∈ items, ∃ s1 s2, g d (wipeS vs s0) = .ok () s1 ∧ t s1 = .ok (τ d) s2 ∧ (τ d = true → ∃ s3, e s2 = .ok (f d) s3 ∧ wipeS vs s3 = wipeS vs s0) ∧ (τ d = false → wipeS vs s2 = wipeS vs s0)) →
    items.length + acc.length ≤ 1000000 → ∀ s, wipeS vs s = wipeS vs s0 → ∃ s', lcL vs g t e items acc s = .ok (acc ++ (items.filter τ).map f) s' ∧ wipeS vs s' = wipeS vs s0
  | [], acc, _, _, s, hs => ⟨s, by simp, hs⟩
  | d :: r, acc, h, hl, s, hs => by
    obtain ⟨s1, s2, e1, e2, e3, e4⟩ := h d (List.mem_cons_self ..)
    have hr := fun d hd => h d (List.mem_cons_of_mem _ hd)
    simp only [List.length_cons] at hl
    rw [r_lc_cons, hs, e1]
    cases hτ : τ d with
    | true =>
      obtain ⟨s3, e5, e6⟩ := e3 hτ
      obtain ⟨s', e7, e8⟩ := lc_gen τ f r (acc ++ [f d]) hr (by simp; omega) s3 e6
      refine ⟨s', ?_, e8⟩
      have : acc.length < 1000000 := by omega
      simp [e2, hτ, e5, this, e7]
    | false =>
      obtain ⟨s', e7, e8⟩ := lc_gen τ f r acc hr (by omega) s2 (e4 hτ)
      refine ⟨s', ?_, e8⟩
      simp [e2, hτ, e7]
theorem aLc_gen {vs : List Nat} {it : DA} {g : DG} {t : DT} {e : DE} {s s0 : DS} {items : List D} (τ : D → Bool) (f : D → D) (hi : it s = .ok items s0) (h : ∀ d ∈ items, ∃ s1 s2, g d (wipeS vs s0) = .ok () s1 ∧ t s1 = .ok (τ d) s2 ∧ (τ d = true → ∃ s3, e s2 = .ok (f d) s3 ∧ wipeS vs s3 = wipeS vs s0) ∧ (τ d = false → wipeS vs s2 = wipeS vs s0))
    (hl : items.length ≤ 1000000) : aLc vs it g t e s = .ok ((items.filter τ).map f) ⟨unwipe vs s0.sl (wipeD vs s0.sl), s0.st⟩ := by
  obtain ⟨s', e1, e2⟩ := lc_gen τ f items [] h (by simpa using hl) s0 rfl
  have e3 : wipeD vs s'.sl = wipeD vs s0.sl := congrArg DS.sl e2
  have e4 : s'.st = s0.st := by have := congrArg DS.st e2; simpa using this
  rw [r_aLc, hi]
  simp [e1, e3, e4]
theorem aLc_map {vs : List Nat} {it : DA} {g : DG} {e : DE} {s s0 : DS} {items : List D} (f : D → D) (hi : it s = .ok items s0) (h : ∀ d ∈ items, ∃ s1 s3, g d (wipeS vs s0) = .ok () s1 ∧ e s1 = .ok (f d) s3 ∧ wipeS vs s3 = wipeS vs s0)
    (hl : items.length ≤ 1000000) : aLc vs it g bYes e s = .ok (items.map f) ⟨unwipe vs s0.sl (wipeD vs s0.sl), s0.st⟩ := by
  have := aLc_gen (vs := vs) (it := it) (g := g) (t := bYes) (e := e) (s := s) (fun _ => true) f hi (fun d hd => by
    obtain ⟨s1, s3, e1, e2, e3⟩ := h d hd
    exact ⟨s1, s1, e1, rfl, fun _ => ⟨s3, e2, e3⟩, fun z => nomatch z⟩) hl
  rwa [List.filter_eq_self.mpr (fun _ _ => rfl)] at this
/-! comprehensions that draw: by an invariant of the store -/
theorem lc_inv {vs : List Nat} {g : DG} {e : DE} {s0 : List Sl} {items : List D} (P : Nat → List D → List Cell → Prop) (step : ∀ (i : Nat) (d : D) (acc : List D) (S : List Cell), items[i]? = some d → P i acc S → ∃ s1 y s3, g d ⟨wipeD vs s0, S⟩ = .ok () s1 ∧ e s1 = .ok y s3 ∧ wipeD vs s3.sl = wipeD vs s0 ∧ P (i + 1) (acc ++ [y]) s3.st) :
    ∀ (l : List D) (i : Nat) (acc : List D) (s : DS), (∀ j, l[j]? = items[i + j]?) → l.length + acc.length ≤ 1000000 → wipeD vs s.sl = wipeD vs s0 → P i acc s.st → ∃ ys s', lcL vs g bYes e l acc s = .ok ys s' ∧ wipeD vs s'.sl = wipeD vs s0 ∧ P (i + l.length) ys s'.st
  | [], i, acc, s, h, _, hs, hp => ⟨acc, s, rfl, hs, hp⟩
  | d :: l, i, acc, s, h, hl, hs, hp => by
    have h0 := h 0
    simp only [List.getElem?_cons_zero, Nat.add_zero] at h0
    simp only [List.length_cons] at hl
    obtain ⟨s1, y, s3, e1, e2, e3, hp2⟩ := step i d acc s.st h0.symm hp
    obtain ⟨ys, s', e4, e5, hp3⟩ := lc_inv P step l (i + 1) (acc ++ [y]) s3 (fun j => by
      have := h (j + 1)
      rw [List.getElem?_cons_succ] at this
      rw [this]
      congr 1
      omega) (by simp; omega) e3 hp2
    refine ⟨ys, s', ?_, e5, by rw [show i + (d :: l).length = i + 1 + l.length by simp; omega]; exact hp3⟩
    have : acc.length < 1000000 := by omega
    rw [r_lc_cons, show wipeS vs s = ⟨wipeD vs s0, s.st⟩ by simp [hs], e1]
    simp [e2, this, e4]
theorem aLc_inv {vs : List Nat} {it : DA} {g : DG} {e : DE} {s : DS} {s0 : DS} {items : List D} (P : Nat → List D → List Cell → Prop) (hi : it s = .ok items s0) (h0 : P 0 [] s0.st) (step : ∀ (i : Nat) (d : D) (acc : List D) (S : List Cell), items[i]? = some d → P i acc S → ∃ s1 y s3, g d ⟨wipeD vs s0.sl, S⟩ = .ok () s1 ∧ e s1 = .ok y s3 ∧ wipeD vs s3.sl = wipeD vs s0.sl ∧ P (i + 1) (acc ++ [y]) s3.st)
    (hl : items.length ≤ 1000000) : ∃ ys S', aLc vs it g bYes e s = .ok ys ⟨unwipe vs s0.sl (wipeD vs s0.sl), S'⟩ ∧ P items.length ys S' := by
  obtain ⟨ys, s', e1, e2, hp⟩ := lc_inv P step items 0 [] s0 (fun j => by simp) (by simpa using hl) rfl h0
  refine ⟨ys, s'.st, ?_, by simpa using hp⟩
  rw [r_aLc, hi]
  simp [e1, e2]
/-! isinstance(x, (list, tuple)) -/
def isLT (cs : List String) : D → Option Bool
  | .lst _ => some true
  | .scr _ => some true
  | .tup _ => some true
  | .ins c _ => if c ∈ cs then some false else none
  | .non => some false
  | .bl _ => some false
  | .int _ => some false
  | .str _ => some false
  | .dic _ => some false
  | _ => none
theorem isLT_eq (cs : List String) (d : D) : ((tyOfD cs d).bind fun t => isAny cs t [.ty "list", .ty "tuple"]) = isLT cs d := by
  cases d <;> simp [isLT, tyOfD, tyD, isAny, isOne, mem_ty, isTy]
  split <;> simp [isAny, isOne, mem_ty]
@[simp] theorem r_isLT (cs : List String) (fe : DE) (s : DS) : eIsT cs fe (aCons (eC (.ty "list")) (aCons (eC (.ty "tuple")) aNil)) s = (fe s).bind fun d s1 => match isLT cs d with
  | some b => .ok (.bl b) s1
  | none => .stuck := by
  unfold eIsT
  simp [clsD, isLT_eq]
  all_goals rfl
/-! x != [] of an own list -/
@[simp] theorem r_eNeO (i : Nat) (s : DS) : eNeO i s = match s.sl[i]? with
  | some (.ol xs) => (match dNe (.lst xs) (.lst []) with | some (.bl b) => .ok b s | _ => .stuck)
  | some (.val d) => (match dNe d (.lst []) with | some (.bl b) => .ok b s | _ => .stuck)
  | _ => .stuck := rfl
@[simp] theorem r_sPar3O (i j l : Nat) (f1 f2 : DA) (f3 : DE) (s : DS) : sPar3O i j l f1 f2 f3 s = match f1 s with
  | .ok xs s1 => match f2 s1 with
    | .ok ys s2 => match f3 s2 with
      | .ok d s3 => .ok .nx ⟨((s3.sl.set i (.ol xs)).set j (.ol ys)).set l (.val d), s3.st⟩
      | _ => .stuck
    | _ => .stuck
  | _ => .stuck := rfl
@[simp] theorem r_dIsB (a b : Bool) : dIsB (.bl a) (.bl b) = some (.bl (decide (a = b))) := rfl
@[simp] theorem r_dNotB (a b : Bool) : dNotB (.bl a) (.bl b) = some (.bl (!decide (a = b))) := rfl
@[simp] theorem r_gTA_t (n : Nat) (g : List D → DS → Res DS Unit) (ds : List D) (s : DS) : gTA n g (.tup ds) s = if ds.length = n then g ds s else .stuck := rfl
@[simp] theorem r_gTA_l (n : Nat) (g : List D → DS → Res DS Unit) (ds : List D) (s : DS) : gTA n g (.lst ds) s = if ds.length = n then g ds s else .stuck := rfl
@[simp] theorem r_sMul (l : Nm) (n : Int) : sMul (.str l) (.int n) = if l.length ≤ 100 ∧ -100000 ≤ n ∧ n ≤ 100000 then some (.str (List.replicate n.toNat l).flatten) else none := rfl
@[simp] theorem r_tAdd (a b : List D) : tAdd (.tup a) (.tup b) = if a.length + b.length ≤ 1000000 then some (.tup (a ++ b)) else none := rfl
/-! equality of truth values, refusals -/
@[simp] theorem dNe_bb (a b : Bool) : dNe (.bl a) (.bl b) = some (.bl (!(a == b))) := by
  rw [dNe_pl _ _ (pl_bl a) (pl_bl b)]
  cases a <;> cases b <;> rfl
@[simp] theorem dEq_bb (a b : Bool) : dEq (.bl a) (.bl b) = some (.bl (a == b)) := by
  rw [dEq_pl _ _ (pl_bl a) (pl_bl b)]
  cases a <;> cases b <;> rfl
theorem ne_refl {xs : List D} (h : plFs xs) : dNe (.tup xs) (.tup xs) = some (.bl false) := by
  rw [dNe_tt _ _ h h, eqPls_refl _ h.1]; rfl
theorem noLams_int (cs : List Int) : noLams (cs.map D.int) = true := by
  induction cs with
  | nil => rfl
  | cons c cs ih => simp [noLams, noLam, ih]
/-! ### texts put together -/
theorem joinL_ones : ∀ l : List Nat, TL.joinL [] (l.map fun c => [c]) = l
  | [] => rfl
  | [c] => rfl
  | c :: d :: r => by
    have := joinL_ones (d :: r)
    simp only [List.map_cons] at this ⊢
    simp [TL.joinL, this]
theorem strsOf_ones (l : List Nat) : strsOf (l.map fun c => D.str [c]) = some (l.map fun c => [c]) := by
  induction l with
  | nil => rfl
  | cons c l ih => simp [strsOf, ih]
theorem sum_ones (l : List Nat) : ((l.map fun c => [c]).map (·.length)).sum = l.length := by
  induction l with
  | nil => rfl
  | cons c l ih => simp only [List.map_cons, List.sum_cons, ih, List.length_cons, List.length_nil]; omega
theorem join_ones (l : List Nat) (h : l.length ≤ 10000) : mJoin (.str []) [.lst (l.map fun c => D.str [c])] = some (.str l) := by
  rw [r_mJoin, strsOf_ones]
  simp only [sum_ones, joinL_ones, List.length_nil, Nat.mul_zero, Nat.add_zero]
  rw [if_pos (by omega)]
theorem joinL_nil : ∀ ls : List (List Nat), TL.joinL [] ls = ls.flatten
  | [] => rfl
  | [c] => by simp [TL.joinL]
  | c :: d :: r => by
    have := joinL_nil (d :: r)
    simp only [TL.joinL, this, List.flatten_cons, List.nil_append]
theorem strsOf_map {α : Type} (f : α → List Nat) (l : List α) : strsOf (l.map fun x => D.str (f x)) = some (l.map f) := by
  induction l with
  | nil => rfl
  | cons c l ih => simp [strsOf, ih]
theorem join_map {α : Type} (f : α → List Nat) (l : List α) (h : (l.map f).flatten.length ≤ 10000) : mJoin (.str []) [.lst (l.map fun x => D.str (f x))] = some (.str (l.map f).flatten) := by
  rw [r_mJoin, strsOf_map]
  rw [List.length_flatten] at h
  simp only [joinL_nil, List.length_nil, Nat.mul_zero, Nat.add_zero]
  rw [if_pos (Nat.le_trans h (by decide))]
theorem filter_first {α : Type} (τ : α → Bool) : ∀ (l : List α) (f : Nat) (x : α), l[f]? = some x → τ x = true → (∀ i y, i < f → l[i]? = some y → τ y = false) → ∃ r, l.filter τ = x :: r ∧ (∀ z ∈ r, z ∈ l)
  | [], f, x, h, _, _ => by simp at h
  | y :: l, 0, x, h, h1, h2 => by
    simp only [List.getElem?_cons_zero, Option.some.injEq] at h
    subst h
    exact ⟨l.filter τ, by rw [List.filter_cons_of_pos h1], fun z hz => List.mem_cons_of_mem _ (List.mem_filter.mp hz).1⟩
  | y :: l, f + 1, x, h, h1, h2 => by
    have e := h2 0 y (by omega) rfl
    obtain ⟨r, hr, hm⟩ := filter_first τ l f x (by simpa using h) h1 fun i z hi hz => h2 (i + 1) z (by omega) (by simpa using hz)
    exact ⟨r, by rw [List.filter_cons_of_neg (by rw [e]; decide)]; exact hr, fun z hz => List.mem_cons_of_mem _ (hm z hz)⟩
end DL
set_option maxRecDepth 100000
set_option maxHeartbeats 4000000
set_option autoImplicit false
namespace DL
/-! reading from the left: what stands behind is read once its first part is known -/
def seqK (r : Res DS Out) (g : DStm) : Res DS Out := r.bind fun o s1 => match o with | .nx => g s1 | o => .ok o s1
@[simp] theorem seqK_nx (s : DS) (g : DStm) : seqK (.ok .nx s) g = g s := rfl
@[simp] theorem seqK_rt (d : D) (s : DS) (g : DStm) : seqK (.ok (.rt d) s) g = .ok (.rt d) s := rfl
@[simp] theorem seqK_bk (s : DS) (g : DStm) : seqK (.ok .bk s) g = .ok .bk s := rfl
@[simp] theorem seqK_ct (s : DS) (g : DStm) : seqK (.ok .ct s) g = .ok .ct s := rfl
@[simp] theorem seqK_exc (x : Xc) (s : DS) (g : DStm) : seqK (.exc x s) g = .exc x s := rfl
theorem q_sSeq (f g : DStm) (s : DS) : sSeq f g s = seqK (f s) g := rfl
def ifK (r : Res DS Bool) (f g : DStm) : Res DS Out := r.bind fun b s1 => if b = true then f s1 else g s1
@[simp] theorem ifK_t (s : DS) (f g : DStm) : ifK (.ok true s) f g = f s := rfl
@[simp] theorem ifK_f (s : DS) (f g : DStm) : ifK (.ok false s) f g = g s := rfl
theorem ifK_b (b : Bool) (s : DS) (f g : DStm) : ifK (.ok b s) f g = if b = true then f s else g s := by cases b <;> rfl
theorem q_sIf (c : DT) (f g : DStm) (s : DS) : sIf c f g s = ifK (c s) f g := rfl
/-! ### comprehensions over the images of a list of anything -/
theorem lcA_of {α : Type} {vs : List Nat} {g : DG} {t : DT} {e : DE} {s0 : DS} (G : α → D) (τ : α → Bool) (f : α → D) : ∀ (l : List α) (acc : List D), (∀ a ∈ l, ∃ s1 s2, g (G a) (wipeS vs s0) = .ok () s1 ∧ t s1 = .ok (τ a) s2 ∧ (τ a = true → ∃ s3, e s2 = .ok (f a) s3 ∧ wipeS vs s3 = wipeS vs s0) ∧ (τ a = false → wipeS vs s2 = wipeS vs s0)) →
    l.length + acc.length ≤ 1000000 → ∀ s, wipeS vs s = wipeS vs s0 → ∃ s', lcL vs g t e (l.map G) acc s = .ok (acc ++ (l.filter τ).map f) s' ∧ wipeS vs s' = wipeS vs s0
  | [], acc, _, _, s, hs => ⟨s, by simp [lcL], hs⟩
  | a :: r, acc, h, hl, s, hs => by
    obtain ⟨s1, s2, e1, e2, e3, e4⟩ := h a (List.mem_cons_self ..)
    have hr := fun d hd => h d (List.mem_cons_of_mem _ hd)
    simp only [List.length_cons] at hl
    rw [List.map_cons, r_lc_cons, hs, e1]
    cases hτ : τ a with
    | true =>
      obtain ⟨s3, e5, e6⟩ := e3 hτ
      obtain ⟨s', e7, e8⟩ := lcA_of G τ f r (acc ++ [f a]) hr (by simp; omega) s3 e6
      refine ⟨s', ?_, e8⟩
      have : acc.length < 1000000 := by omega
      simp [e2, hτ, e5, this, e7]
    | false =>
      obtain ⟨s', e7, e8⟩ := lcA_of G τ f r acc hr (by omega) s2 (e4 hτ)
      refine ⟨s', ?_, e8⟩
      simp [e2, hτ, e7]
theorem aLc_ofT {α : Type} {vs : List Nat} {it : DA} {g : DG} {t : DT} {e : DE} {s s0 : DS} {l : List α} (G : α → D) (τ : α → Bool) (f : α → D) (hi : it s = .ok (l.map G) s0) (h : ∀ a ∈ l, ∃ s1 s2, g (G a) (wipeS vs s0) = .ok () s1 ∧ t s1 = .ok (τ a) s2 ∧ (τ a = true → ∃ s3, e s2 = .ok (f a) s3 ∧ wipeS vs s3 = wipeS vs s0) ∧ (τ a = false → wipeS vs s2 = wipeS vs s0))
    (hl : l.length ≤ 1000000) : aLc vs it g t e s = .ok ((l.filter τ).map f) ⟨unwipe vs s0.sl (wipeD vs s0.sl), s0.st⟩ := by
  obtain ⟨s', e1, e2⟩ := lcA_of G τ f l [] h (by simpa using hl) s0 rfl
  have e3 : wipeD vs s'.sl = wipeD vs s0.sl := congrArg DS.sl e2
  have e4 : s'.st = s0.st := by have := congrArg DS.st e2; simpa using this
  rw [r_aLc, hi]
  simp [e1, e3, e4]
theorem aLc_of {α : Type} {vs : List Nat} {it : DA} {g : DG} {e : DE} {s s0 : DS} {l : List α} (G : α → D) (f : α → D) (hi : it s = .ok (l.map G) s0) (h : ∀ a ∈ l, ∃ s1 s3, g (G a) (wipeS vs s0) = .ok () s1 ∧ e s1 = .ok (f a) s3 ∧ wipeS vs s3 = wipeS vs s0)
    (hl : l.length ≤ 1000000) : aLc vs it g bYes e s = .ok (l.map f) ⟨unwipe vs s0.sl (wipeD vs s0.sl), s0.st⟩ := by
  have := aLc_ofT (vs := vs) (it := it) (g := g) (t := bYes) (e := e) (s := s) G (fun _ => true) f hi (fun d hd => by
    obtain ⟨s1, s3, e1, e2, e3⟩ := h d hd
    exact ⟨s1, s1, e1, rfl, fun _ => ⟨s3, e2, e3⟩, fun z => nomatch z⟩) hl
  rwa [List.filter_eq_self.mpr (fun _ _ => rfl)] at this
/-- one variable, an element that leaves the state -/
theorem aLc_T1 {α : Type} {v : Nat} {it : DA} {t : DT} {e : DE} {s s0 : DS} {l : List α} (G : α → D) (τ : α → Bool) (f : α → D) (hi : it s = .ok (l.map G) s0) (hv : s0.sl[v]? = some .un) (h : ∀ a ∈ l, t ⟨s0.sl.set v (.val (G a)), s0.st⟩ = .ok (τ a) ⟨s0.sl.set v (.val (G a)), s0.st⟩ ∧ (τ a = true → e ⟨s0.sl.set v (.val (G a)), s0.st⟩ = .ok (f a) ⟨s0.sl.set v (.val (G a)), s0.st⟩))
    (hl : l.length ≤ 1000000) : aLc [v] it (gN v) t e s = .ok ((l.filter τ).map f) s0 := by
  have hs : s0.sl.set v .un = s0.sl := by
    obtain ⟨h1, h2⟩ := List.getElem?_eq_some_iff.mp hv
    rw [← h2]; exact List.set_getElem_self h1
  have := aLc_ofT (vs := [v]) (it := it) (g := gN v) (t := t) (e := e) (s := s) (s0 := s0) G τ f hi (fun a ha => by
    obtain ⟨h1, h2⟩ := h a ha
    refine ⟨_, _, rfl, ?_, fun ht => ⟨_, h2 ht, ?_⟩, fun _ => ?_⟩
    · simp only [r_wipeS, r_wipe_cons, r_wipe_nil, List.set_set]; exact h1
    · simp only [r_wipeS, r_wipe_cons, r_wipe_nil, List.set_set]
    · simp only [r_wipeS, r_wipe_cons, r_wipe_nil, List.set_set]) hl
  rw [this]
  simp only [r_wipe_cons, r_wipe_nil, r_unw_cons, r_unw_nil, hv, List.set_set, hs]
theorem aLc_M1 {α : Type} {v : Nat} {it : DA} {e : DE} {s s0 : DS} {l : List α} (G : α → D) (f : α → D) (hi : it s = .ok (l.map G) s0) (hv : s0.sl[v]? = some .un) (h : ∀ a ∈ l, e ⟨s0.sl.set v (.val (G a)), s0.st⟩ = .ok (f a) ⟨s0.sl.set v (.val (G a)), s0.st⟩)
    (hl : l.length ≤ 1000000) : aLc [v] it (gN v) bYes e s = .ok (l.map f) s0 := by
  have := aLc_T1 (v := v) (it := it) (t := bYes) (e := e) (s := s) (s0 := s0) G (fun _ => true) f hi hv (fun a ha => ⟨rfl, fun _ => h a ha⟩) hl
  rwa [List.filter_eq_self.mpr (fun _ _ => rfl)] at this
theorem blsOf_map {α : Type} (f : α → Bool) (l : List α) : blsOf (l.map fun a => D.bl (f a)) = some (l.map f) := by
  induction l with
  | nil => rfl
  | cons a l ih => simp only [List.map_cons, blsOf, ih, Option.map_some]
theorem bAll_map {α : Type} (f : α → Bool) (l : List α) : bAll [.lst (l.map fun a => D.bl (f a))] = some (.bl (l.all f)) := by
  simp only [bAll, blsOf_map, Option.map_some, List.all_map]; rfl
theorem bAny_map {α : Type} (f : α → Bool) (l : List α) : bAny [.lst (l.map fun a => D.bl (f a))] = some (.bl (l.any f)) := by
  simp only [bAny, blsOf_map, Option.map_some, List.any_map]; rfl
theorem rngL0 (n : Nat) : rngL 0 n = (List.range n).map fun (i : Nat) => D.int (i : Int) := by
  unfold rngL
  refine List.map_congr_left fun i _ => ?_
  rw [Int.zero_add]
theorem plFs_map {α : Type} (f : α → D) (h : ∀ a, plF (f a)) (l : List α) : plFs (l.map f) := by
  induction l with
  | nil => simp
  | cons a l ih => simp [ih, h a]
theorem eqPls_map {α : Type} [DecidableEq α] (f : α → D) (h : ∀ a b, eqPl (f a) (f b) = decide (a = b)) : ∀ l m : List α, eqPls (l.map f) (m.map f) = decide (l = m)
  | [], [] => by simp
  | [], b :: m => by simp
  | a :: l, [] => by simp
  | a :: l, b :: m => by
    rw [List.map_cons, List.map_cons, eqPls_cons, h, eqPls_map f h l m, ← Bool.decide_and]
    simp
theorem at_map {α : Type} (f : α → D) {l : List α} {k : Nat} {a : α} (h : l[k]? = some a) : L2.atI (l.map f) (k : Int) = some (f a) := L2.atI_nat (by rw [List.getElem?_map, h]; rfl)
def kD (k : Nat) : D := .int (k : Int)
theorem itR1_n {f : DA} {s s1 : DS} {n : Nat} (h : f s = .ok [.int (n : Int)] s1) (hn : n ≤ 1000000) : itR1 f s = .ok ((List.range n).map kD) s1 := by
  obtain ⟨z, hz⟩ : ∃ z : Int, (n : Int) = z := ⟨_, rfl⟩
  have h0 : -4611686018427387904 ≤ z ∧ z < 4611686018427387904 := by omega
  have h1 : z.toNat = n := by omega
  rw [hz] at h
  have e : itR1 f s = .ok (rngL 0 z.toNat) s1 := by
    rw [r_itR1, h]
    simp [h0]
  rw [e, h1, rngL0]; rfl
/-- one statement ahead of the rest -/
theorem sq_nx {f R : DStm} {s s1 : DS} (h : f s = .ok .nx s1) : sSeq f R s = R s1 := by
  rw [r_sSeq, h]; rfl
/-- a call whose arguments leave the state -/
theorem set_c1 {i : Nat} {g : DFn} {a : DE} {s : DS} {x d : D} {S1 : List Cell} (ha : a s = .ok x s) (e : g [x] s.st = .ok d S1) : sSet i (eCall 1 g (aCons a aNil)) s = .ok .nx ⟨s.sl.set i (.val d), S1⟩ := by
  simp [ha, e]
theorem set_c2 {i : Nat} {g : DFn} {a b : DE} {s : DS} {x y d : D} {S1 : List Cell} (ha : a s = .ok x s) (hb : b s = .ok y s) (e : g [x, y] s.st = .ok d S1) : sSet i (eCall 2 g (aCons a (aCons b aNil))) s = .ok .nx ⟨s.sl.set i (.val d), S1⟩ := by
  simp [ha, hb, e]
theorem call_c1 {g : DFn} {a : DE} {s : DS} {x d : D} {S1 : List Cell} (ha : a s = .ok x s) (e : g [x] s.st = .ok d S1) : eCall 1 g (aCons a aNil) s = .ok d ⟨s.sl, S1⟩ := by
  simp [ha, e]
theorem call_c2 {g : DFn} {a b : DE} {s : DS} {x y d : D} {S1 : List Cell} (ha : a s = .ok x s) (hb : b s = .ok y s) (e : g [x, y] s.st = .ok d S1) : eCall 2 g (aCons a (aCons b aNil)) s = .ok d ⟨s.sl, S1⟩ := by
  simp [ha, hb, e]
theorem tup_2 {a b : DE} {s s1 s2 : DS} {x y : D} (ha : a s = .ok x s1) (hb : b s1 = .ok y s2) : eTup (aCons a (aCons b aNil)) s = .ok (.tup [x, y]) s2 := by
  simp [ha, hb]
theorem asg_t {f : DE} {g : DG} {s s1 s2 : DS} {d : D} (h : f s = .ok d s1) (k : g d s1 = .ok () s2) : sAsgT f g s = .ok .nx s2 := by
  simp [h, k]
theorem set_e {i : Nat} {f : DE} {s s1 : DS} {d : D} (h : f s = .ok d s1) : sSet i f s = .ok .nx ⟨s1.sl.set i (.val d), s1.st⟩ := by
  simp [h]
theorem set_o {i : Nat} {f : DA} {s s1 : DS} {ds : List D} (h : f s = .ok ds s1) : sSetO i f s = .ok .nx ⟨s1.sl.set i (.ol ds), s1.st⟩ := by
  simp [h]
theorem if_t {c : DT} {f g : DStm} {s s1 : DS} (h : c s = .ok true s1) : sIf c f g s = f s1 := by
  rw [r_sIf, h]; rfl
theorem if_f {c : DT} {f g : DStm} {s s1 : DS} (h : c s = .ok false s1) : sIf c f g s = g s1 := by
  rw [r_sIf, h]; rfl
theorem ret_e {f : DE} {s s1 : DS} {d : D} (h : f s = .ok d s1) : sRet f s = .ok (.rt d) s1 := by
  simp [h]
theorem sq_rt {f R : DStm} {s s1 : DS} {d : D} (h : f s = .ok (.rt d) s1) : sSeq f R s = .ok (.rt d) s1 := by
  rw [r_sSeq, h]; rfl
theorem op_2 {o : D → D → Option D} {a b : DE} {s s1 s2 : DS} {x y d : D} (ha : a s = .ok x s1) (hb : b s1 = .ok y s2) (h : o x y = some d) : eOp2 o a b s = .ok d s2 := by
  simp [ha, hb, h]
theorem eB_of {f : DE} {s s1 : DS} {b : Bool} (h : f s = .ok (.bl b) s1) : eB f s = .ok b s1 := by
  simp [h]
theorem and_t {f g : DT} {s s1 : DS} (h : f s = .ok true s1) : bAnd f g s = g s1 := by
  rw [r_bAnd, h]; rfl
theorem and_f {f g : DT} {s s1 : DS} (h : f s = .ok false s1) : bAnd f g s = .ok false s1 := by
  rw [r_bAnd, h]; rfl
theorem or_t {f g : DT} {s s1 : DS} (h : f s = .ok true s1) : bOr f g s = .ok true s1 := by
  rw [r_bOr, h]; rfl
theorem or_f {f g : DT} {s s1 : DS} (h : f s = .ok false s1) : bOr f g s = g s1 := by
  rw [r_bOr, h]; rfl
theorem fn_rt {n m : Nat} {b : DStm} {ds : List D} {S S' : List Cell} {d : D} {sl : List Sl} (hn : ds.length = n) (h : b ⟨ds.map .val ++ List.replicate m .un, S⟩ = .ok (.rt d) ⟨sl, S'⟩) : fnD n b m ds S = .ok d S' := by
  simp [fnD, hn, h]
theorem for_seq {f : DE} {g : DG} {b : DStm} {s s1 : DS} {d : D} {xs : List D} {r : Res DS Out} (hf : f s = .ok d s1) (hi : itemsD d = some xs) (h : forL g b xs s1 = r) : sFor (itSeq f) g b s = r := by
  rw [r_sFor, r_itSeq, hf]
  simp only [Res.bind_ok, hi, h]
theorem for_it {it : DA} {g : DG} {b : DStm} {s s1 : DS} {xs : List D} {r : Res DS Out} (hf : it s = .ok xs s1) (h : forL g b xs s1 = r) : sFor it g b s = r := by
  rw [r_sFor, hf]
  simp only [Res.bind_ok, h]
theorem frz_e {f : DA} {s s1 : DS} {xs : List D} (h : f s = .ok xs s1) : eFrz f s = .ok (.lst xs) s1 := by
  rw [r_eFrz, h]; rfl
theorem add_ll {xs ys : List D} (h : xs.length + ys.length ≤ 1000000) : dAdd (.lst xs) (.lst ys) = some (.lst (xs ++ ys)) := by
  rw [r_dAdd_ll, r_lAdd_ll, if_pos h]
theorem app_e {i : Nat} {f : DE} {s s1 : DS} {xs0 xs : List D} {d : D} (h0 : s.sl[i]? = some (.ol xs0)) (h : f s = .ok d s1) (h1 : s1.sl[i]? = some (.ol xs)) (hl : xs.length < 1000000) : sApp i (aCons f aNil) s = .ok .nx ⟨s1.sl.set i (.ol (xs ++ [d])), s1.st⟩ := by
  rw [r_sApp, h0]
  simp only [r_aCons, h, r_aNil, Res.bind_ok, h1, if_pos hl]
theorem for_1 {i : Nat} {b : DStm} {d : D} {r : List D} {s s1 : DS} (h : b ⟨s.sl.set i (.val d), s.st⟩ = .ok .nx s1) : forL (gN i) b (d :: r) s = forL (gN i) b r s1 := by
  rw [r_for_cons]
  simp only [r_gN, r_noX_ok, Res.bind_ok, h, r_lo_nx]
theorem for_rt {i : Nat} {b : DStm} {d v : D} {r : List D} {s s1 : DS} (h : b ⟨s.sl.set i (.val d), s.st⟩ = .ok (.rt v) s1) : forL (gN i) b (d :: r) s = .ok (.rt v) s1 := by
  rw [r_for_cons]
  simp only [r_gN, r_noX_ok, Res.bind_ok, h, r_lo_rt]
end DL
set_option maxRecDepth 100000
set_option maxHeartbeats 4000000
set_option autoImplicit false
namespace DL
/-! ### steps that leave the state -/
theorem set_k {i : Nat} {f : DE} {s : DS} {d : D} (h : f s = .ok d s) : sSet i f s = .ok .nx ⟨s.sl.set i (.val d), s.st⟩ := by
  simp [h]
/-- one assignment whose value leaves the state, ahead of the rest -/
theorem sq_set {i : Nat} {f : DE} {R : DStm} {s : DS} {d : D} (h : f s = .ok d s) : sSeq (sSet i f) R s = R ⟨s.sl.set i (.val d), s.st⟩ := by
  rw [r_sSeq, set_k h]; rfl
theorem sq_if_f {c : DT} {f R : DStm} {s s1 : DS} (h : c s = .ok false s1) : sSeq (sIf c f sPass) R s = R s1 := by
  rw [r_sSeq, if_f h]; rfl
theorem sq_par {i j : Nat} {a b : DE} {R : DStm} {s s1 s2 : DS} {x y : D} (ha : a s = .ok x s1) (hb : b s1 = .ok y s2) : sSeq (sPar i j (aCons a (aCons b aNil))) R s = R ⟨(s2.sl.set i (.val x)).set j (.val y), s2.st⟩ := by
  simp [ha, hb]
theorem neg_e {f : DE} {s s1 : DS} {x : Int} (h : f s = .ok (.int x) s1) : eNeg f s = .ok (.int (-x)) s1 := by
  simp [h]
theorem not_e {f : DT} {s s1 : DS} {b : Bool} (h : f s = .ok b s1) : bNot f s = .ok (!b) s1 := by
  simp [h]
theorem tru_e {f : DE} {s s1 : DS} {b : Bool} (h : f s = .ok (.bl b) s1) : eTru f s = .ok b s1 := by
  simp [h]
theorem call_c3 {g : DFn} {a b c : DE} {s : DS} {x y z d : D} {S1 : List Cell} (ha : a s = .ok x s) (hb : b s = .ok y s) (hc : c s = .ok z s) (e : g [x, y, z] s.st = .ok d S1) : eCall 3 g (aCons a (aCons b (aCons c aNil))) s = .ok d ⟨s.sl, S1⟩ := by
  simp [ha, hb, hc, e]
theorem andT_t {f g : DE} {s s1 s2 : DS} {d : D} (h : f s = .ok (.bl true) s1) (k : g s1 = .ok d s2) : eAndT f g s = .ok d s2 := by
  simp [h, k]
theorem call_c0 {g : DFn} {s : DS} {d : D} {S1 : List Cell} (e : g [] s.st = .ok d S1) : eCall 0 g aNil s = .ok d ⟨s.sl, S1⟩ := by
  simp [e]
/-- calls whose arguments change the store -/
theorem call_x1 {g : DFn} {a : DE} {s s1 : DS} {x d : D} {S1 : List Cell} (ha : a s = .ok x s1) (e : g [x] s1.st = .ok d S1) : eCall 1 g (aCons a aNil) s = .ok d ⟨s1.sl, S1⟩ := by
  simp [ha, e]
theorem call_x2 {g : DFn} {a b : DE} {s s1 s2 : DS} {x y d : D} {S1 : List Cell} (ha : a s = .ok x s1) (hb : b s1 = .ok y s2) (e : g [x, y] s2.st = .ok d S1) : eCall 2 g (aCons a (aCons b aNil)) s = .ok d ⟨s2.sl, S1⟩ := by
  simp [ha, hb, e]
theorem call_x3 {g : DFn} {a b c : DE} {s s1 s2 s3 : DS} {x y z d : D} {S1 : List Cell} (ha : a s = .ok x s1) (hb : b s1 = .ok y s2) (hc : c s2 = .ok z s3) (e : g [x, y, z] s3.st = .ok d S1) : eCall 3 g (aCons a (aCons b (aCons c aNil))) s = .ok d ⟨s3.sl, S1⟩ := by
  simp [ha, hb, hc, e]
theorem call_x4 {g : DFn} {a b c k : DE} {s s1 s2 s3 s4 : DS} {x y z u d : D} {S1 : List Cell} (ha : a s = .ok x s1) (hb : b s1 = .ok y s2) (hc : c s2 = .ok z s3) (hk : k s3 = .ok u s4) (e : g [x, y, z, u] s4.st = .ok d S1) : eCall 4 g (aCons a (aCons b (aCons c (aCons k aNil)))) s = .ok d ⟨s4.sl, S1⟩ := by
  simp [ha, hb, hc, hk, e]
theorem cb_1 {o : List D → Option D} {a : DE} {s s1 : DS} {x d : D} (ha : a s = .ok x s1) (e : o [x] = some d) : eCB o (aCons a aNil) s = .ok d s1 := by
  simp [ha, e]
theorem cb_2 {o : List D → Option D} {a b : DE} {s s1 s2 : DS} {x y d : D} (ha : a s = .ok x s1) (hb : b s1 = .ok y s2) (e : o [x, y] = some d) : eCB o (aCons a (aCons b aNil)) s = .ok d s2 := by
  simp [ha, hb, e]
theorem tup_3 {a b c : DE} {s s1 s2 s3 : DS} {x y z : D} (ha : a s = .ok x s1) (hb : b s1 = .ok y s2) (hc : c s2 = .ok z s3) : eTup (aCons a (aCons b (aCons c aNil))) s = .ok (.tup [x, y, z]) s3 := by
  simp [ha, hb, hc]
theorem ix_e {a b : DE} {s s1 s2 : DS} {x d : D} {i : Int} (ha : a s = .ok x s1) (hb : b s1 = .ok (.int i) s2) (e : ixD x i = some d) : eIx a b s = .ok d s2 := by
  simp [ha, hb, e]
theorem meth_1 {c : String} {m : Nm} {g : DFn} {fo a : DE} {s s1 : DS} {fs : List (Nm × D)} {x v : D} {S1 : List Cell} (h0 : fo s = .ok (.ins c fs) s) (hm : fs.lookup m = none) (ha : a s = .ok x s1) (e : g [.ins c fs, x] s1.st = .ok v S1) :
    eMeth c m 2 g fo (aCons a aNil) s = .ok v ⟨s1.sl, S1⟩ := by
  simp [h0, hm, ha, e]
theorem meth_3 {c : String} {m : Nm} {g : DFn} {fo a b k : DE} {s s1 s2 s3 : DS} {fs : List (Nm × D)} {x y z v : D} {S1 : List Cell} (h0 : fo s = .ok (.ins c fs) s) (hm : fs.lookup m = none) (ha : a s = .ok x s1) (hb : b s1 = .ok y s2) (hk : k s2 = .ok z s3) (e : g [.ins c fs, x, y, z] s3.st = .ok v S1) :
    eMeth c m 4 g fo (aCons a (aCons b (aCons k aNil))) s = .ok v ⟨s3.sl, S1⟩ := by
  simp [h0, hm, ha, hb, hk, e]
theorem itR2_of {f : DA} {s s1 : DS} {i j : Int} {n : Nat} (h : f s = .ok [.int i, .int j] s1) (c : -(2 ^ 62) ≤ i ∧ i < 2 ^ 62 ∧ -(2 ^ 62) ≤ j ∧ j < 2 ^ 62) (hn : (j - i).toNat = n) : itR2 f s = .ok (rngL i n) s1 := by
  subst hn
  unfold itR2
  rw [h]
  exact if_pos c
theorem meth_0 {c : String} {m : Nm} {g : DFn} {fo : DE} {s : DS} {fs : List (Nm × D)} {v : D} {S1 : List Cell} (h0 : fo s = .ok (.ins c fs) s) (hm : fs.lookup m = none) (e : g [.ins c fs] s.st = .ok v S1) :
    eMeth c m 1 g fo aNil s = .ok v ⟨s.sl, S1⟩ := by
  simp [h0, hm, e]
theorem var_o {i : Nat} {sl : List Sl} {S : List Cell} {xs : List D} (h : sl[i]? = some (.ol xs)) : eVar i ⟨sl, S⟩ = .ok (.lst xs) ⟨sl.set i (.val (.lst xs)), S⟩ := by
  rw [r_eVar, h]
end DL
set_option maxRecDepth 100000
set_option maxHeartbeats 4000000
set_option autoImplicit false
namespace DL
open PySem PySem.Spec PyProof.Rows L2
/-! ### == of a class without an own one: a name with itself, a name with one just made -/
def tSame (c : String) (i : Nat) : DT := fun s => match s.sl[i]? with
  | some (.val (.ins c' _)) => if c' = c then .ok true s else .stuck
  | _ => .stuck
def tOther (c : String) (i n : Nat) (g : DIn) (fa : DA) : DT := fun s => match s.sl[i]? with
  | some (.val (.ins c' _)) => if c' = c then (eMake c n g fa s).bind fun _ s1 => .ok false s1 else .stuck
  | _ => .stuck
section
variable {G : Gam} {W : WX} {X : Cx}
theorem ptd_same {c : String} {C : Addr} {i : Nat} {b : Str} {p1 p2 p3 : Pos} (hK : G.K = X.K) (hC : G.ct c = some C) (hu : X.A.units < cLine)
    (hmo : PySem.W.mroIn X.K C (.type "object") = some true) (heq : PySem.W.findIn X.K (.ref C) "__eq__" = some (some (.builtin "object.__eq__")))
    (v1 : PE X (.Name b p1) (tVar i)) (v2 : PE X (.Name b p2) (tVar i)) (hb : behindInMarks .Eq (.Name b p2) = false := by rfl) : PDT G W X (.Compare (.Name b p1) [.Eq] [.Name b p2] p3) (tSame c i) :=
  (pt_cmpR (X := X) (pos := p3) (op_eqId hu) v1 v2 hb).imp fun σ H Q ⟨κ, w, s, ok, q⟩ => by
    unfold tSame at q
    cases e1 : s.sl[i]? with
    | none => rw [e1] at q; exact q.elim
    | some z =>
      rw [e1] at q
      cases z with
      | val d =>
        cases d with
        | ins c' fs =>
          replace q : PostG G W (fun _ (v : Bool) d => v = d) κ w σ (if c' = c then .ok true s else .stuck) Q := q
          by_cases hc : c' = c
          · rw [if_pos hc] at q
            subst hc
            obtain ⟨va, h1, h2⟩ := ok.val i _ e1
            cases h2 with
            | ins hC2 hF2 rf2 =>
              rename_i a C2 dx2 vs2
              rw [hC] at hC2
              cases hC2
              have ea : H a = some (.ins C dx2 vs2) := ok.fok.sub _ _ hF2
              exact ⟨.ref a, h1, .ref a, h1, a, a, C, dx2, vs2, dx2, vs2, rfl, rfl, ea, ea, hmo, heq, true, by rw [decide_eq_true rfl], q w true H (.refl _) ok rfl⟩
          · rw [if_neg hc] at q; exact q.elim
        | _ => exact q.elim
      | _ => exact q.elim
theorem ptd_other {c : String} {n k i : Nat} {g : DIn} {C f : Addr} {fd : FuncData} {ps : List Str} {x b : Str} {p p2 p8 p9 : Pos} {e : Expr} {es : List Expr} {fa : DA} (hK : G.K = X.K) (M : Mk X.K C f) (hC : G.ct c = some C) (F : FnOk X.prog X.w X.K X.mg X.base (L2.CX X.prog X.w) k f fd ps (spI G c n g)) (hr : Room (k + 1) X.A) (hg : Gl X x)
    (hm : X.mg x = some (.ref C)) (hb : Binds X.K fd ps []) (tk : Takes X W) (ha : PDA G W X (e :: es) fa) (hu : X.A.units < cLine)
    (hmo : PySem.W.mroIn X.K C (.type "object") = some true) (heq : PySem.W.findIn X.K (.ref C) "__eq__" = some (some (.builtin "object.__eq__")))
    (v1 : PE X (.Name b p8) (tVar i)) (hdb : (x == ("__debug__" : Str)) = false := by decide) (he : starEach (e :: es) X.env = (false, eval e X.env) :: starEach es X.env := by rfl) (hpl : (backTo p2 (starEach es X.env)).any (·.1) = false := by rfl)
    (hbm : behindInMarks .Eq (.Call (.Name x p) (e :: es) [] p2) = false := by rfl) :
    PDT G W X (.Compare (.Name b p8) [.Eq] [.Call (.Name x p) (e :: es) [] p2] p9) (tOther c i n g fa) :=
  (pt_cmpR (X := X) (pos := p9) (op_eqId hu) v1 (pe_makeN (G := G) (W := W) (p := p) (pos := p2) M hC F hr hg hm hb tk ha hdb he hpl) hbm).imp fun σ H Q ⟨κ, w, s, ok, q⟩ => by
    unfold tOther at q
    cases e1 : s.sl[i]? with
    | none => rw [e1] at q; exact q.elim
    | some z =>
      rw [e1] at q
      cases z with
      | val d =>
        cases d with
        | ins c' fs =>
          replace q : PostG G W (fun _ (v : Bool) d => v = d) κ w σ (if c' = c then (eMake c n g fa s).bind fun _ s1 => .ok false s1 else .stuck) Q := q
          by_cases hc : c' = c
          · rw [if_pos hc] at q
            subst hc
            obtain ⟨va, h1, h2⟩ := ok.val i _ e1
            have q' := PostG.bind (rep := fun w' v d => Rep G w' v d ∧ ∃ p dx vs, v = .ref p ∧ w.F p = none ∧ w'.F p = some (.ins C dx vs)) q
            refine ⟨va, h1, κ, w, s, ok, q'.imp fun v H1 ⟨d, s1, w1, le, ok1, ⟨r1, pp, dx, vs, rv, fr1, fr2⟩, q1⟩ => ?_⟩
            subst rv
            cases h2 with
            | ins hC2 hF2 rf2 =>
              rename_i a C2 dx2 vs2
              rw [hC] at hC2
              cases hC2
              have hab : a ≠ pp := fun z => by
                rw [z, fr1] at hF2; cases hF2
              have ea : H1 a = some (.ins C dx2 vs2) := ok1.fok.sub _ _ (le.1 _ _ hF2)
              have ep : H1 pp = some (.ins C dx vs) := ok1.fok.sub _ _ fr2
              exact ⟨a, pp, C, dx2, vs2, dx, vs, rfl, rfl, ea, ep, hmo, heq, false, by rw [decide_eq_false hab], q1 w1 false H1 (.refl _) ok1 rfl⟩
          · rw [if_neg hc] at q; exact q.elim
        | _ => exact q.elim
      | _ => exact q.elim
end
end DL
set_option maxRecDepth 100000
set_option maxHeartbeats 4000000
set_option autoImplicit false
namespace DL
open PySem PySem.Spec PyProof.Rows L2
/-! ### x[i] += e for an own list of ints -/
def sAugIxO (i : Nat) (fi : DE) (o : Int → Int → Int) (fv : DE) : DStm := fun s => match s.sl[i]? with
  | some (.ol _) => (noX (fi s)).bind fun y s1 => match y, s1.sl[i]? with
    | .int k, some (.ol xs) => (match L2.atI xs k with
      | some (.int a) => (noX (fv s1)).bind fun d s2 => (match d, s2.sl[i]? with
        | .int b, some (.ol ys) => (match ixN ys.length k with
          | some j => .ok .nx ⟨s2.sl.set i (.ol (ys.set j (.int (o a b)))), s2.st⟩
          | none => .stuck)
        | _, _ => .stuck)
      | _ => .stuck)
    | _, _ => .stuck
  | _ => .stuck
section
variable {G : Gam} {W : WX} {X : Cx}
theorem get_list : PGet X (rIxL X.K) := by
  intro pins s σ H x y v u Q I rx ry h
  obtain ⟨p, xs, i, z, rfl, rfl, hq, he, q⟩ := h
  cases rx
  obtain ⟨t, rfl⟩ := ry
  obtain ⟨its, r, pl, hz⟩ := I.list hq
  obtain ⟨j, h1, h2, h3, h4, h5⟩ := atI_get he
  obtain ⟨w, ew, rw'⟩ := r.get h2
  have hl := r.length
  have hn := line63
  have fin : EP X pins σ Q w s := ⟨z, H, I, rw', q⟩
  by_cases h0 : 0 ≤ i
  · have hj : i.toNat = j := by
      rw [seqIndex_of h0 h5] at h1
      exact Option.some.inj h1
    exact wpAny_getItem_list pl.isList h0 (by omega) (by rw [hj]; simpa using ew) fin
  · have hj : (i + (its.toArray.size : Int)).toNat = j := by
      rw [seqIndex_neg (by omega) h4] at h1
      rw [List.size_toArray, ← hl]
      exact Option.some.inj h1
    exact wpAny_getItem_list_neg pl.isList (by omega) (by rw [List.size_toArray] <;> omega) (by omega) (by rw [hj]; simpa using ew) fin
theorem pds_augIxO {i : Nat} {x : Str} {p tp pos : Pos} {b e : Expr} {fi fv : DE} {op : Operator} {o : Int → Int → Int} (ho : PE X (.Name x p) (tVar i)) (hb : PD G WF X b fi) (he : PD G WF X e fv) (hp : PIp X op (ipI o))
    (ha : ∀ ov iv new, augStore b ov iv new = (do holding [new, ov, iv] (setItem ov iv new); release [new, ov, iv] []; pure .next) := by intros; rfl) : PDS G W X (.AugAssign (.Subscript (.Name x p) b tp) op e pos) (sAugIxO i fi o fv) :=
  (ps_augS ho hb get_list he hp set_list ha).imp fun N σ H ⟨κ, w, s, ok, q⟩ => by
    unfold sAugIxO at q
    cases e0 : s.sl[i]? with
    | none => rw [e0] at q; exact q.elim
    | some y =>
      rw [e0] at q
      cases y with
      | ol xs0 =>
        obtain ⟨a, vs, h1, h2, h3⟩ := own_list ok e0
        replace q : PostS G W κ w ((noX (fi s)).bind fun y s1 => match y, s1.sl[i]? with
          | .int k, some (.ol xs) => (match L2.atI xs k with
            | some (.int a) => (noX (fv s1)).bind fun d s2 => (match d, s2.sl[i]? with
              | .int b, some (.ol ys) => (match ixN ys.length k with
                | some j => .ok .nx ⟨s2.sl.set i (.ol (ys.set j (.int (o a b)))), s2.st⟩
                | none => .stuck)
              | _, _ => .stuck)
            | _ => .stuck)
          | _, _ => .stuck) N := q
        refine ⟨.ref a, h1, κ, w, s, ok, ?_⟩
        cases ef : fi s with
        | stuck => rw [ef] at q; exact q.elim
        | exc z s' => rw [ef] at q; exact q.elim
        | ok d2 s1 =>
          rw [ef, show noX (Res.ok d2 s1) = Res.ok d2 s1 from rfl, Res.bind_ok] at q
          intro w1 v1 H1 le1 ok1 r1
          cases r1 with
          | int k =>
            cases e1 : s1.sl[i]? with
            | none => simp only [e1] at q; exact q.elim
            | some z =>
              cases z with
              | ol xs =>
                simp only [e1] at q
                obtain ⟨a', vs', g1, g2, g3⟩ := own_list ok1 e1
                rw [h1] at g1
                cases g1
                cases e2 : L2.atI xs k with
                | none => simp only [e2] at q; exact q.elim
                | some c =>
                  cases c with
                  | int ca =>
                    simp only [e2] at q
                    obtain ⟨cv, c1, c2⟩ := Reps.atI g3 e2
                    cases c2
                    refine ⟨a, vs', k, .int ca, rfl, rfl, .inl (.inl g2), c1, κ, w1, s1, ok1, ?_⟩
                    cases ev : fv s1 with
                    | stuck => rw [ev] at q; exact q.elim
                    | exc z s' => rw [ev] at q; exact q.elim
                    | ok d3 s2 =>
                      rw [ev, show noX (Res.ok d3 s2) = Res.ok d3 s2 from rfl, Res.bind_ok] at q
                      intro w2 v2 H2 le2 ok2 r2
                      cases r2 with
                      | int cb =>
                        refine ⟨ca, cb, rfl, rfl, ?_⟩
                        cases e3 : s2.sl[i]? with
                        | none => simp only [e3] at q; exact q.elim
                        | some z =>
                          cases z with
                          | ol ys =>
                            simp only [e3] at q
                            obtain ⟨a2, vs2, k1, k2, k3⟩ := own_list ok2 e3
                            rw [h1] at k1
                            cases k1
                            cases e4 : ixN ys.length k with
                            | none => simp only [e4] at q; exact q.elim
                            | some j =>
                              simp only [e4] at q
                              refine ⟨a, vs2, k, j, rfl, rfl, k2, by rw [k3.length]; exact e4, ?_⟩
                              exact q w2 σ _ (le1.trans le2) (ok2.mut e3 rfl rfl h1 ⟨_, upd_same, Reps.set (.int _) j k3⟩ fun _ _ z => nomatch z)
                          | _ => simp only [e3] at q; exact q.elim
                      | _ => exact q.elim
                  | _ => simp only [e2] at q; exact q.elim
              | _ => simp only [e1] at q; exact q.elim
          | _ => exact q.elim
      | _ => exact q.elim
@[simp] theorem r_sAugIxO (i : Nat) (fi : DE) (o : Int → Int → Int) (fv : DE) (s : DS) : sAugIxO i fi o fv s = match s.sl[i]? with
  | some (.ol _) => (noX (fi s)).bind fun y s1 => match y, s1.sl[i]? with
    | .int k, some (.ol xs) => (match L2.atI xs k with
      | some (.int a) => (noX (fv s1)).bind fun d s2 => (match d, s2.sl[i]? with
        | .int b, some (.ol ys) => (match ixN ys.length k with
          | some j => .ok .nx ⟨s2.sl.set i (.ol (ys.set j (.int (o a b)))), s2.st⟩
          | none => .stuck)
        | _, _ => .stuck)
      | _ => .stuck)
    | _, _ => .stuck
  | _ => .stuck := rfl
end
end DL
set_option maxRecDepth 100000
set_option maxHeartbeats 4000000
namespace W_k61
open PySem PySem.Spec PyProof.Rows L2 DL
noncomputable section
def topS (i : Nat) : Stmt := PySem.Challenge.pw_areawalks_k61_whole_paths_far.main.body.getD i (.Pass ⟨0, 0, 0, 0⟩)
theorem s_0 : ("rest" : Str) = nm [114, 101, 115, 116] := by decide +kernel
theorem s_1 : ("mark" : Str) = nm [109, 97, 114, 107] := by decide +kernel
theorem s_2 : ("cells" : Str) = nm [99, 101, 108, 108, 115] := by decide +kernel
theorem s_3 : ("value" : Str) = nm [118, 97, 108, 117, 101] := by decide +kernel
theorem s_4 : ("number" : Str) = nm [110, 117, 109, 98, 101, 114] := by decide +kernel
abbrev xst_BadNumber : Stmt := inClass (topS 2) 0
theorem xsh_BadNumber : XSh xst_BadNumber "self" "value" "value" := ⟨_, _, _, _, _, _, _, _, _, _, _, rfl, rfl, rfl, rfl, rfl, rfl, rfl, by decide +kernel, rfl, rfl, rfl, by decide⟩
abbrev xst_TooFar : Stmt := inClass (topS 3) 0
theorem xsh_TooFar : XSh xst_TooFar "self" "number" "number" := ⟨_, _, _, _, _, _, _, _, _, _, _, rfl, rfl, rfl, rfl, rfl, rfl, rfl, by decide +kernel, rfl, rfl, rfl, by decide⟩
/-! _law_begin -/
abbrev st__law_begin : Stmt := topS 27
theorem sc__law_begin : FnScope ["_law_script"] ["_law_script"] (defScope st__law_begin) := ⟨rfl, rfl, rfl, by decide +kernel, rfl, by decide +kernel, by decide +kernel⟩
/-! _law_digits_chosen -/
abbrev st__law_digits_chosen : Stmt := topS 32
theorem sc__law_digits_chosen : FnScope ["_law_many", "_law_some", "_law_prime", "_law_found", "_law_k", "_law_high", "_law_low", "_law_above", "_law_below", "_law_j", "_law_back", "_law_power", "_law_left"] ["_law_many", "_law_some", "_law_prime"] (defScope st__law_digits_chosen) := ⟨rfl, rfl, rfl, by decide +kernel, rfl, by decide +kernel, by decide +kernel⟩
/-! _law_draw -/
abbrev st__law_draw : Stmt := topS 28
theorem sc__law_draw : FnScope ["_law_pen", "_law_span", "_law_digit", "_law_at", "_law_cell", "_law_n"] ["_law_pen", "_law_span"] (defScope st__law_draw) := ⟨rfl, rfl, rfl, by decide +kernel, rfl, by decide +kernel, by decide +kernel⟩
/-! _law_number -/
abbrev st__law_number : Stmt := topS 30
theorem sc__law_number : FnScope ["_law_pen", "_law_groups", "_law_found", "_law_k"] ["_law_pen", "_law_groups"] (defScope st__law_number) := ⟨rfl, rfl, rfl, by decide +kernel, rfl, by decide +kernel, by decide +kernel⟩
/-! _law_great -/
abbrev st__law_great : Stmt := topS 31
theorem sc__law_great : FnScope ["_law_pen"] ["_law_pen"] (defScope st__law_great) := ⟨rfl, rfl, rfl, by decide +kernel, rfl, by decide +kernel, by decide +kernel⟩
/-! divisors -/
abbrev st_divisors : Stmt := topS 16
theorem sc_divisors : FnScope ["number", "divisor"] ["number"] (defScope st_divisors) := ⟨rfl, rfl, rfl, by decide +kernel, rfl, by decide +kernel, by decide +kernel⟩
/-! inverse -/
abbrev st_inverse : Stmt := topS 24
theorem sc_inverse : FnScope ["number", "prime", "found", "base", "left"] ["number", "prime"] (defScope st_inverse) := ⟨rfl, rfl, rfl, by decide +kernel, rfl, by decide +kernel, by decide +kernel⟩
/-! binomial_rest -/
abbrev st_binomial_rest : Stmt := topS 23
theorem sc_binomial_rest : FnScope ["many", "chosen", "prime", "above", "below", "step"] ["many", "chosen", "prime"] (defScope st_binomial_rest) := ⟨rfl, rfl, rfl, by decide +kernel, rfl, by decide +kernel, by decide +kernel⟩
/-! far_binomial -/
abbrev st_far_binomial : Stmt := topS 22
theorem sc_far_binomial : FnScope ["many", "chosen", "prime", "found", "here", "part"] ["many", "chosen", "prime"] (defScope st_far_binomial) := ⟨rfl, rfl, rfl, by decide +kernel, rfl, by decide +kernel, by decide +kernel⟩
/-! is_prime -/
abbrev st_is_prime : Stmt := topS 21
theorem sc_is_prime : FnScope ["number", "divisor"] ["number"] (defScope st_is_prime) := ⟨rfl, rfl, rfl, by decide +kernel, rfl, by decide +kernel, by decide +kernel⟩
/-! is_integer -/
abbrev st_is_integer : Stmt := topS 5
theorem sc_is_integer : FnScope ["value"] ["value"] (defScope st_is_integer) := ⟨rfl, rfl, rfl, by decide +kernel, rfl, by decide +kernel, by decide +kernel⟩
/-! is_whole -/
abbrev st_is_whole : Stmt := topS 6
theorem sc_is_whole : FnScope ["value", "least"] ["value", "least"] (defScope st_is_whole) := ⟨rfl, rfl, rfl, by decide +kernel, rfl, by decide +kernel, by decide +kernel⟩
/-! need_whole -/
abbrev st_need_whole : Stmt := topS 12
theorem sc_need_whole : FnScope ["values", "least", "value"] ["values", "least"] (defScope st_need_whole) := ⟨rfl, rfl, rfl, by decide +kernel, rfl, by decide +kernel, by decide +kernel⟩
/-! need_rest -/
abbrev st_need_rest : Stmt := topS 19
theorem sc_need_rest : FnScope ["x", "y", "modulus", "rest"] ["x", "y", "modulus", "rest"] (defScope st_need_rest) := ⟨rfl, rfl, rfl, by decide +kernel, rfl, by decide +kernel, by decide +kernel⟩
/-! gaussian -/
abbrev st_gaussian : Stmt := topS 13
theorem sc_gaussian : FnScope ["many", "chosen", "size", "found", "step", "high", "at"] ["many", "chosen"] (defScope st_gaussian) := ⟨rfl, rfl, rfl, by decide +kernel, rfl, by decide +kernel, by decide +kernel⟩
/-! divisor_of -/
abbrev st_divisor_of : Stmt := topS 7
theorem sc_divisor_of : FnScope ["one", "other"] ["one", "other"] (defScope st_divisor_of) := ⟨rfl, rfl, rfl, by decide +kernel, rfl, by decide +kernel, by decide +kernel⟩
/-! moebius -/
abbrev st_moebius : Stmt := topS 15
theorem sc_moebius : FnScope ["number", "found", "prime"] ["number"] (defScope st_moebius) := ⟨rfl, rfl, rfl, by decide +kernel, rfl, by decide +kernel, by decide +kernel⟩
/-! root_sum -/
abbrev st_root_sum : Stmt := topS 17
theorem sc_root_sum : FnScope ["order", "power", "divisor"] ["order", "power"] (defScope st_root_sum) := ⟨rfl, rfl, rfl, by decide +kernel, rfl, by decide +kernel, by decide +kernel⟩
/-! share -/
abbrev st_share : Stmt := topS 18
theorem sc_share : FnScope ["x", "y", "order", "rest", "parts", "area", "part"] ["x", "y", "order", "rest"] (defScope st_share) := ⟨rfl, rfl, rfl, by decide +kernel, rfl, by decide +kernel, by decide +kernel⟩
/-! far_paths -/
abbrev st_far_paths : Stmt := topS 25
theorem sc_far_paths : FnScope ["x", "y", "modulus", "rest", "prime", "found", "order"] ["x", "y", "modulus", "rest", "prime"] (defScope st_far_paths) := ⟨rfl, rfl, rfl, by decide +kernel, rfl, by decide +kernel, by decide +kernel⟩
/-! _law_is_stepped -/
abbrev st__law_is_stepped : Stmt := topS 34
theorem sc__law_is_stepped : FnScope ["_law_x", "_law_y", "_law_modulus", "_law_rest", "_law_prime", "_law_here", "_law_last", "_law_first"] ["_law_x", "_law_y", "_law_modulus", "_law_rest", "_law_prime"] (defScope st__law_is_stepped) := ⟨rfl, rfl, rfl, by decide +kernel, rfl, by decide +kernel, by decide +kernel⟩
/-! _law_pick -/
abbrev st__law_pick : Stmt := topS 29
theorem sc__law_pick : FnScope ["_law_pen", "_law_some"] ["_law_pen", "_law_some"] (defScope st__law_pick) := ⟨rfl, rfl, rfl, by decide +kernel, rfl, by decide +kernel, by decide +kernel⟩
/-! _law_parted -/
abbrev st__law_parted : Stmt := topS 33
theorem sc__law_parted : FnScope ["_law_pen", "_law_modulus", "_law_primes", "_law_prime"] ["_law_pen"] (defScope st__law_parted) := ⟨rfl, rfl, rfl, by decide +kernel, rfl, by decide +kernel, by decide +kernel⟩
/-! binomial -/
abbrev st_binomial : Stmt := topS 14
theorem sc_binomial : FnScope ["many", "chosen", "found", "step"] ["many", "chosen"] (defScope st_binomial) := ⟨rfl, rfl, rfl, by decide +kernel, rfl, by decide +kernel, by decide +kernel⟩
/-! paths_by_rest -/
abbrev st_paths_by_rest : Stmt := topS 20
theorem sc_paths_by_rest : FnScope ["x", "y", "modulus", "rest", "value", "found", "order"] ["x", "y", "modulus", "rest"] (defScope st_paths_by_rest) := ⟨rfl, rfl, rfl, by decide +kernel, rfl, by decide +kernel, by decide +kernel⟩
/-! law -/
abbrev st_law : Stmt := topS 35
theorem sc_law : FnScope ["_law_script", "_law_pen", "_law_turn", "_law_modulus", "_law_prime", "_law_x", "_law_y", "_law_rest", "_law_turned", "_law_total", "_law_wide", "_law_high", "_law_many", "_law_before", "_law_k"] ["_law_script"] (defScope st_law) := ⟨rfl, rfl, rfl, by decide +kernel, rfl, by decide +kernel, by decide +kernel⟩
def b__law_begin : DStm := sRet (eCellD (dDisp [(eC (.str [99, 101, 108, 108, 115]), eFrz (aList (aCons (eSlA (eVar 0) (oNone) (oSome (eC (.int 63)))) (aNil)))), (eC (.str [109, 97, 114, 107]), eC (.int 0)), (eC (.str [114, 101, 115, 116]), eC (.int 0))]))
def g__law_begin : DFn := fnD 1 b__law_begin 0
def w__law_digits_chosen_0 : DStm := sSeq (sSet 7 (eOp2 iMod (eCB (bInt) (aCons (eOp2 dMul (eVar 7) (eOp2 iSub (eVar 5) (eVar 9))) (aNil))) (eVar 2)))
    (sSet 8 (eOp2 iMod (eCB (bInt) (aCons (eOp2 dMul (eVar 8) (eOp2 dAdd (eVar 9) (eC (.int 1)))) (aNil))) (eVar 2)))
def w__law_digits_chosen_1 : DStm := sSeq (sSet 10 (eIf (eB (eOp2 dEq (eOp2 iMod (eVar 12) (eC (.int 2))) (eC (.int 1)))) (eOp2 iMod (eCB (bInt) (aCons (eOp2 dMul (eVar 10) (eVar 11)) (aNil))) (eVar 2)) (eVar 10)))
    (sPar 11 12 (aCons (eOp2 iMod (eCB (bInt) (aCons (eOp2 dMul (eVar 11) (eVar 11)) (aNil))) (eVar 2)) (aCons (eOp2 iDiv (eVar 12) (eC (.int 2))) (aNil))))
def w__law_digits_chosen_2 : DStm := sSeq (sPar 5 6 (aCons (eOp2 iMod (eCB (bInt) (aCons (eVar 0) (aNil))) (eVar 2)) (aCons (eOp2 iMod (eCB (bInt) (aCons (eVar 1) (aNil))) (eVar 2)) (aNil))))
    (sSeq (sPar 0 1 (aCons (eOp2 iDiv (eVar 0) (eVar 2)) (aCons (eOp2 iDiv (eVar 1) (eVar 2)) (aNil))))
    (sSeq (sIf (eB (eOp2 iGt (eVar 6) (eVar 5))) (sRet (eC (.int 0))) (sPass))
    (sSeq (sAsgT (eTup (aCons (eC (.int 1)) (aCons (eC (.int 1)) (aNil)))) (gT 2 (gsCons (gN 7) (gsCons (gN 8) (gsNil)))))
    (sSeq (sFor (itR1 (aCons (eVar 6) (aNil))) (gN 9) (w__law_digits_chosen_0))
    (sSeq (sPar3 10 11 12 (aCons (eC (.int 1)) (aCons (eVar 8) (aCons (eOp2 iSub (eVar 2) (eC (.int 2))) (aNil)))))
    (sSeq (sFor (itR1 (aCons (eC (.int 13)) (aNil))) (gN 9) (w__law_digits_chosen_1))
    (sSet 3 (eOp2 iMod (eCB (bInt) (aCons (eOp2 dMul (eOp2 dMul (eVar 3) (eVar 7)) (eVar 10)) (aNil))) (eVar 2)))))))))
def b__law_digits_chosen : DStm := sSeq (sSet 3 (eC (.int 1)))
    (sSeq (sFor (itR1 (aCons (eC (.int 200)) (aNil))) (gN 4) (w__law_digits_chosen_2))
    (sRet (eVar 3)))
def g__law_digits_chosen : DFn := fnD 3 b__law_digits_chosen 10
def b__law_draw : DStm := sSeq (sIf (eB (eOp2 iGt (eDGet (eVar 0) (eC (.str [114, 101, 115, 116]))) (eC (.int 0)))) (sSeq (sSet 2 (eOp2 iMod (eCB (bInt) (aCons (eDGet (eVar 0) (eC (.str [114, 101, 115, 116]))) (aNil))) (eVar 1)))
    (sSeq (sDPutC (eVar 0) (eC (.str [114, 101, 115, 116])) (eOp2 iDiv (eDGet (eVar 0) (eC (.str [114, 101, 115, 116]))) (eVar 1)))
    (sRet (eVar 2)))) (sPass))
    (sSeq (sSet 3 (eDGet (eVar 0) (eC (.str [109, 97, 114, 107]))))
    (sSeq (sDPutC (eVar 0) (eC (.str [109, 97, 114, 107])) (eOp2 dAdd (eVar 3) (eC (.int 1))))
    (sSeq (sSet 4 (eOp2 dAdd (eOp2 dMul (eC (.int 97)) (eVar 3)) (eC (.int 61))))
    (sSeq (sIf (eB (eOp2 dNe (eDGet (eVar 0) (eC (.str [99, 101, 108, 108, 115]))) (eFrz (aMax (aNil))))) (sSet 4 (eIx (eDGet (eVar 0) (eC (.str [99, 101, 108, 108, 115]))) (eOp2 iMod (eCB (bInt) (aCons (eVar 3) (aNil))) (eCB (bLen) (aCons (eDGet (eVar 0) (eC (.str [99, 101, 108, 108, 115]))) (aNil)))))) (sPass))
    (sSeq (sIf (bAnd (eB (eOp2 iLt (eVar 3) (eCB (bLen) (aCons (eDGet (eVar 0) (eC (.str [99, 101, 108, 108, 115]))) (aNil))))) (eB (eOp2 iGe (eCB (bAbs) (aCons (eVar 4) (aNil))) (eOp2 iPow (eC (.int 10)) (eC (.int 18)))))) (sSeq (sDPutC (eVar 0) (eC (.str [114, 101, 115, 116])) (eOp2 iDiv (eOp2 iSub (eCB (bAbs) (aCons (eVar 4) (aNil))) (eOp2 iPow (eC (.int 10)) (eC (.int 18)))) (eVar 1)))
    (sRet (eOp2 iMod (eCB (bInt) (aCons (eOp2 iSub (eCB (bAbs) (aCons (eVar 4) (aNil))) (eOp2 iPow (eC (.int 10)) (eC (.int 18)))) (aNil))) (eVar 1)))) (sPass))
    (sSeq (sSet 5 (eOp2 dAdd (eOp2 dMul (eOp2 iMod (eCB (bInt) (aCons (eVar 4) (aNil))) (eC (.int 4294966297))) (eC (.int 48947))) (eOp2 dMul (eOp2 dMul (eC (.int 30671)) (eVar 3)) (eVar 3))))
    (sSeq (sSet 5 (eOp2 iMod (eCB (bInt) (aCons (eOp2 dAdd (eOp2 dAdd (eVar 5) (eOp2 dMul (eC (.int 577)) (eVar 3))) (eC (.int 43))) (aNil))) (eC (.int 4294966279))))
    (sSeq (sSet 5 (eOp2 iMod (eCB (bInt) (aCons (eOp2 dAdd (eOp2 dAdd (eOp2 dAdd (eOp2 dMul (eVar 5) (eVar 5)) (eOp2 dMul (eC (.int 41231)) (eVar 5))) (eOp2 dMul (eC (.int 73)) (eVar 3))) (eC (.int 5))) (aNil))) (eC (.int 4294966237))))
    (sSeq (sSet 5 (eOp2 iMod (eCB (bInt) (aCons (eOp2 dAdd (eOp2 dAdd (eOp2 dMul (eVar 5) (eVar 5)) (eOp2 dMul (eC (.int 28723)) (eVar 5))) (eVar 3)) (aNil))) (eC (.int 4294966217))))
    (sRet (eOp2 iMod (eCB (bInt) (aCons (eOp2 iDiv (eOp2 iMod (eCB (bInt) (aCons (eOp2 dMul (eVar 5) (eOp2 dAdd (eVar 5) (eC (.int 51341)))) (aNil))) (eC (.int 4294966187))) (eC (.int 64))) (aNil))) (eVar 1))))))))))))
def g__law_draw : DFn := fnD 2 b__law_draw 4
def w__law_number_0 : DStm := sSet 2 (eOp2 dAdd (eOp2 dMul (eVar 2) (eOp2 iPow (eC (.int 10)) (eC (.int 7)))) (eCall 2 g__law_draw (aCons (eVar 0) (aCons (eOp2 iPow (eC (.int 10)) (eC (.int 7))) (aNil)))))
def b__law_number : DStm := sSeq (sSet 2 (eC (.int 0)))
    (sSeq (sFor (itR1 (aCons (eOp2 dAdd (eC (.int 1)) (eCall 2 g__law_draw (aCons (eVar 0) (aCons (eVar 1) (aNil))))) (aNil))) (gN 3) (w__law_number_0))
    (sRet (eVar 2)))
def g__law_number : DFn := fnD 2 b__law_number 2
def b__law_great : DStm := sRet (eIf (eB (eOp2 dEq (eCall 2 g__law_draw (aCons (eVar 0) (aCons (eC (.int 4)) (aNil)))) (eC (.int 0)))) (eCall 2 g__law_draw (aCons (eVar 0) (aCons (eC (.int 9)) (aNil)))) (eCall 2 g__law_number (aCons (eVar 0) (aCons (eC (.int 4)) (aNil)))))
def g__law_great : DFn := fnD 1 b__law_great 0
def e_divisors_0 : DE := eVar 1
def t_divisors_0 : DT := eB (eOp2 dEq (eOp2 iMod (eVar 0) (eVar 1)) (eC (.int 0)))
def b_divisors : DStm := sRet (eFrz (aLc [1] (itR2 (aCons (eC (.int 1)) (aCons (eOp2 dAdd (eVar 0) (eC (.int 1))) (aNil)))) (gN 1) (t_divisors_0) (e_divisors_0)))
def g_divisors : DFn := fnD 1 b_divisors 1
def c_inverse_0 : DT := eB (eOp2 iGt (eVar 4) (eC (.int 0)))
def w_inverse_0 : DStm := sSeq (sIf (eB (eOp2 dEq (eOp2 iMod (eVar 4) (eC (.int 2))) (eC (.int 1)))) (sSet 2 (eOp2 iMod (eOp2 dMul (eVar 2) (eVar 3)) (eVar 1))) (sPass))
    (sPar 3 4 (aCons (eOp2 iMod (eOp2 dMul (eVar 3) (eVar 3)) (eVar 1)) (aCons (eOp2 iDiv (eVar 4) (eC (.int 2))) (aNil))))
def b_inverse : DStm := sSeq (sPar3 2 3 4 (aCons (eC (.int 1)) (aCons (eOp2 iMod (eVar 0) (eVar 1)) (aCons (eOp2 iSub (eVar 1) (eC (.int 2))) (aNil)))))
    (sSeq (sWhile (c_inverse_0) (w_inverse_0))
    (sRet (eVar 2)))
def g_inverse : DFn := fnD 2 b_inverse 3
def w_binomial_rest_0 : DStm := sPar 3 4 (aCons (eOp2 iMod (eOp2 dMul (eVar 3) (eOp2 dAdd (eOp2 iSub (eVar 0) (eVar 5)) (eC (.int 1)))) (eVar 2)) (aCons (eOp2 iMod (eOp2 dMul (eVar 4) (eVar 5)) (eVar 2)) (aNil)))
def b_binomial_rest : DStm := sSeq (sAsgT (eTup (aCons (eC (.int 1)) (aCons (eC (.int 1)) (aNil)))) (gT 2 (gsCons (gN 3) (gsCons (gN 4) (gsNil)))))
    (sSeq (sFor (itR2 (aCons (eC (.int 1)) (aCons (eOp2 dAdd (eCB (bMin2) (aCons (eCB (bInt) (aCons (eVar 1) (aNil))) (aCons (eCB (bInt) (aCons (eOp2 iSub (eVar 0) (eVar 1)) (aNil))) (aNil)))) (eC (.int 1))) (aNil)))) (gN 5) (w_binomial_rest_0))
    (sRet (eOp2 iMod (eOp2 dMul (eVar 3) (eCall 2 g_inverse (aCons (eVar 4) (aCons (eVar 2) (aNil))))) (eVar 2))))
def g_binomial_rest : DFn := fnD 3 b_binomial_rest 3
def c_far_binomial_0 : DT := eB (eOp2 iGt (eVar 1) (eC (.int 0)))
def w_far_binomial_0 : DStm := sSeq (sPar 4 5 (aCons (eOp2 iMod (eVar 0) (eVar 2)) (aCons (eOp2 iMod (eVar 1) (eVar 2)) (aNil))))
    (sSeq (sIf (eB (eOp2 iGt (eVar 5) (eVar 4))) (sRet (eC (.int 0))) (sPass))
    (sSeq (sSet 3 (eOp2 iMod (eOp2 dMul (eVar 3) (eCall 3 g_binomial_rest (aCons (eVar 4) (aCons (eVar 5) (aCons (eVar 2) (aNil)))))) (eVar 2)))
    (sPar 0 1 (aCons (eOp2 iDiv (eVar 0) (eVar 2)) (aCons (eOp2 iDiv (eVar 1) (eVar 2)) (aNil))))))
def b_far_binomial : DStm := sSeq (sSet 3 (eC (.int 1)))
    (sSeq (sWhile (c_far_binomial_0) (w_far_binomial_0))
    (sRet (eVar 3)))
def g_far_binomial : DFn := fnD 3 b_far_binomial 3
def e_is_prime_0 : DE := eOp2 dEq (eOp2 iMod (eVar 0) (eVar 1)) (eC (.int 0))
def t_is_prime_0 : DT := eB (eOp2 iLe (eOp2 dMul (eVar 1) (eVar 1)) (eVar 0))
def b_is_prime : DStm := sRet (eNotT (eCB (bAny) (aCons (eFrz (aLc [1] (itR2 (aCons (eC (.int 2)) (aCons (eVar 0) (aNil)))) (gN 1) (t_is_prime_0) (e_is_prime_0))) (aNil))))
def g_is_prime : DFn := fnD 1 b_is_prime 1
def b_is_integer : DStm := sRet (eAndT (eCB (bIsi []) (aCons (eVar 0) (aCons (eC (.ty "int")) (aNil)))) (eNotT (eCB (bIsi []) (aCons (eVar 0) (aCons (eC (.ty "bool")) (aNil))))))
def g_is_integer : DFn := fnD 1 b_is_integer 0
def b_is_whole : DStm := sRet (eAndT (eCall 1 g_is_integer (aCons (eVar 0) (aNil))) (eOp2 iGe (eVar 0) (eVar 1)))
def g_is_whole : DFn := fnD 2 b_is_whole 0
def w_need_whole_0 : DStm := sIf (bNot (eTru (eCall 2 g_is_whole (aCons (eVar 2) (aCons (eVar 1) (aNil)))))) (sRaise "BadNumber" [118, 97, 108, 117, 101] (aCons (eVar 2) (aNil))) (sPass)
def b_need_whole : DStm := sFor (itSeq (eVar 0)) (gN 2) (w_need_whole_0)
def g_need_whole : DFn := fnD 2 b_need_whole 1
def b_need_rest : DStm := sSeq (sExpr (eCall 2 g_need_whole (aCons (eFrz (aMax (aCons (eVar 0) (aCons (eVar 1) (aNil))))) (aCons (eC (.int 0)) (aNil)))))
    (sSeq (sExpr (eCall 2 g_need_whole (aCons (eFrz (aMax (aCons (eVar 2) (aNil)))) (aCons (eC (.int 1)) (aNil)))))
    (sSeq (sExpr (eCall 2 g_need_whole (aCons (eFrz (aMax (aCons (eVar 3) (aNil)))) (aCons (eC (.int 0)) (aNil)))))
    (sSeq (sIf (eB (eOp2 iGt (eVar 2) (eC (.int 30)))) (sRaise "BadNumber" [118, 97, 108, 117, 101] (aCons (eVar 2) (aNil))) (sPass))
    (sIf (eB (eOp2 iGe (eVar 3) (eVar 2))) (sRaise "BadNumber" [118, 97, 108, 117, 101] (aCons (eVar 3) (aNil))) (sPass)))))
def g_need_rest : DFn := fnD 4 b_need_rest 0
def w_gaussian_0 : DStm := sAugIxO 3 (eVar 6) (fun i j => i - j) (eIxO 3 (eOp2 iSub (eVar 6) (eVar 5)))
def w_gaussian_1 : DStm := sAugIxO 3 (eVar 6) (fun i j => i + j) (eIxO 3 (eOp2 iSub (eVar 6) (eVar 4)))
def w_gaussian_2 : DStm := sSeq (sSet 5 (eOp2 dAdd (eOp2 iSub (eVar 0) (eVar 1)) (eVar 4)))
    (sSeq (sFor (itR3 (aCons (eOp2 iSub (eVar 2) (eC (.int 1))) (aCons (eOp2 iSub (eVar 5) (eC (.int 1))) (aCons (eNeg (eC (.int 1))) (aNil))))) (gN 6) (w_gaussian_0))
    (sFor (itR2 (aCons (eVar 4) (aCons (eVar 2) (aNil)))) (gN 6) (w_gaussian_1)))
def b_gaussian : DStm := sSeq (sIf (eB (eOp2 iGt (eVar 1) (eVar 0))) (sRet (eFrz (aMax (aNil)))) (sPass))
    (sSeq (sSet 2 (eOp2 dAdd (eOp2 dMul (eVar 1) (eOp2 iSub (eVar 0) (eVar 1))) (eC (.int 1))))
    (sSeq (sSetO 3 (aCat (eFrz (aMax (aCons (eC (.int 1)) (aNil)))) (eOp2 dMul (eFrz (aMax (aCons (eC (.int 0)) (aNil)))) (eOp2 iSub (eVar 2) (eC (.int 1))))))
    (sSeq (sFor (itR2 (aCons (eC (.int 1)) (aCons (eOp2 dAdd (eVar 1) (eC (.int 1))) (aNil)))) (gN 4) (w_gaussian_2))
    (sRet (eVar 3)))))
def g_gaussian : DFn := fnD 2 b_gaussian 5
def c_divisor_of_0 : DT := eB (eOp2 iGt (eVar 1) (eC (.int 0)))
def w_divisor_of_0 : DStm := sPar 0 1 (aCons (eVar 1) (aCons (eOp2 iMod (eVar 0) (eVar 1)) (aNil)))
def b_divisor_of : DStm := sSeq (sPar 0 1 (aCons (eCB (bAbs) (aCons (eVar 0) (aNil))) (aCons (eCB (bAbs) (aCons (eVar 1) (aNil))) (aNil))))
    (sSeq (sWhile (c_divisor_of_0) (w_divisor_of_0))
    (sRet (eVar 0)))
def g_divisor_of : DFn := fnD 2 b_divisor_of 0
def c_moebius_0 : DT := eB (eOp2 iGt (eVar 0) (eC (.int 1)))
def w_moebius_0 : DStm := sSeq (sIf (eB (eOp2 dEq (eOp2 iMod (eVar 0) (eVar 2)) (eC (.int 0)))) (sSeq (sSet 0 (eOp2 iDiv (eVar 0) (eVar 2)))
    (sSeq (sIf (eB (eOp2 dEq (eOp2 iMod (eVar 0) (eVar 2)) (eC (.int 0)))) (sRet (eC (.int 0))) (sPass))
    (sSet 1 (eNeg (eVar 1))))) (sPass))
    (sAug 2 (fun i j => i + j) (eC (.int 1)))
def b_moebius : DStm := sSeq (sAsgT (eTup (aCons (eC (.int 1)) (aCons (eC (.int 2)) (aNil)))) (gT 2 (gsCons (gN 1) (gsCons (gN 2) (gsNil)))))
    (sSeq (sWhile (c_moebius_0) (w_moebius_0))
    (sRet (eVar 1)))
def g_moebius : DFn := fnD 1 b_moebius 2
def e_root_sum_0 : DE := eOp2 dMul (eCall 1 g_moebius (aCons (eOp2 iDiv (eVar 0) (eVar 2)) (aNil))) (eVar 2)
def b_root_sum : DStm := sRet (eCB (bSum) (aCons (eFrz (aLc [2] (itSeq (eCall 1 g_divisors (aCons (eCall 2 g_divisor_of (aCons (eVar 0) (aCons (eVar 1) (aNil)))) (aNil)))) (gN 2) (bYes) (e_root_sum_0))) (aNil)))
def g_root_sum : DFn := fnD 2 b_root_sum 1
def e_share_0 : DE := eOp2 dMul (eVar 6) (eCall 2 g_root_sum (aCons (eVar 2) (aCons (eOp2 iSub (eVar 5) (eVar 3)) (aNil))))
def b_share : DStm := sSeq (sSet 4 (eCall 2 g_gaussian (aCons (eOp2 iMod (eOp2 dAdd (eVar 0) (eVar 1)) (eVar 2)) (aCons (eOp2 iMod (eVar 0) (eVar 2)) (aNil)))))
    (sRet (eCB (bSum) (aCons (eFrz (aLc [5, 6] (itEnum (aCons (eVar 4) (aNil))) (gT 2 (gsCons (gN 5) (gsCons (gN 6) (gsNil)))) (bYes) (e_share_0))) (aNil))))
def g_share : DFn := fnD 4 b_share 3
def w_far_paths_0 : DStm := sAug 5 (fun i j => i + j) (eOp2 dMul (eCall 4 g_share (aCons (eVar 0) (aCons (eVar 1) (aCons (eVar 6) (aCons (eVar 3) (aNil)))))) (eCall 3 g_far_binomial (aCons (eOp2 iDiv (eOp2 dAdd (eVar 0) (eVar 1)) (eVar 6)) (aCons (eOp2 iDiv (eVar 0) (eVar 6)) (aCons (eVar 4) (aNil))))))
def b_far_paths : DStm := sSeq (sExpr (eCall 2 g_need_whole (aCons (eFrz (aMax (aCons (eVar 0) (aCons (eVar 1) (aNil))))) (aCons (eC (.int 0)) (aNil)))))
    (sSeq (sExpr (eCall 2 g_need_whole (aCons (eFrz (aMax (aCons (eVar 2) (aNil)))) (aCons (eC (.int 1)) (aNil)))))
    (sSeq (sExpr (eCall 2 g_need_whole (aCons (eFrz (aMax (aCons (eVar 3) (aNil)))) (aCons (eC (.int 0)) (aNil)))))
    (sSeq (sExpr (eCall 2 g_need_whole (aCons (eFrz (aMax (aCons (eVar 4) (aNil)))) (aCons (eC (.int 2)) (aNil)))))
    (sSeq (sExpr (eCall 4 g_need_rest (aCons (eVar 0) (aCons (eVar 1) (aCons (eVar 2) (aCons (eVar 3) (aNil)))))))
    (sSeq (sIf (bOr (eB (eOp2 iGt (eVar 4) (eC (.int 5000)))) (bOr (bNot (eTru (eCall 1 g_is_prime (aCons (eVar 4) (aNil))))) (eB (eOp2 dEq (eOp2 iMod (eVar 2) (eVar 4)) (eC (.int 0)))))) (sRaise "BadNumber" [118, 97, 108, 117, 101] (aCons (eVar 4) (aNil))) (sPass))
    (sSeq (sSet 5 (eC (.int 0)))
    (sSeq (sFor (itSeq (eCall 1 g_divisors (aCons (eVar 2) (aNil)))) (gN 6) (w_far_paths_0))
    (sRet (eOp2 iMod (eOp2 dMul (eVar 5) (eCall 2 g_inverse (aCons (eVar 2) (aCons (eVar 4) (aNil))))) (eVar 4))))))))))
def g_far_paths : DFn := fnD 5 b_far_paths 2
def b__law_is_stepped : DStm := sSeq (sSet 5 (eCall 5 g_far_paths (aCons (eVar 0) (aCons (eVar 1) (aCons (eVar 2) (aCons (eVar 3) (aCons (eVar 4) (aNil))))))))
    (sSeq (sSet 6 (eOp2 dAdd (eCall 5 g_far_paths (aCons (eOp2 iSub (eVar 0) (eC (.int 1))) (aCons (eVar 1) (aCons (eVar 2) (aCons (eVar 3) (aCons (eVar 4) (aNil))))))) (eCall 5 g_far_paths (aCons (eVar 0) (aCons (eOp2 iSub (eVar 1) (eC (.int 1))) (aCons (eVar 2) (aCons (eOp2 iMod (eCB (bInt) (aCons (eOp2 iSub (eVar 3) (eVar 0)) (aNil))) (eVar 2)) (aCons (eVar 4) (aNil)))))))))
    (sSeq (sSet 7 (eOp2 dAdd (eCall 5 g_far_paths (aCons (eOp2 iSub (eVar 0) (eC (.int 1))) (aCons (eVar 1) (aCons (eVar 2) (aCons (eOp2 iMod (eCB (bInt) (aCons (eOp2 iSub (eVar 3) (eVar 1)) (aNil))) (eVar 2)) (aCons (eVar 4) (aNil))))))) (eCall 5 g_far_paths (aCons (eVar 0) (aCons (eOp2 iSub (eVar 1) (eC (.int 1))) (aCons (eVar 2) (aCons (eVar 3) (aCons (eVar 4) (aNil)))))))))
    (sRet (eAndT (eOp2 dEq (eVar 5) (eOp2 iMod (eVar 6) (eVar 4))) (eAndT (eOp2 dEq (eVar 5) (eOp2 iMod (eVar 7) (eVar 4))) (eChain iLe iLt (eC (.int 0)) (eVar 5) (eVar 4)))))))
def g__law_is_stepped : DFn := fnD 5 b__law_is_stepped 3
def b__law_pick : DStm := sRet (eIx (eVar 1) (eCall 2 g__law_draw (aCons (eVar 0) (aCons (eCB (bLen) (aCons (eVar 1) (aNil))) (aNil)))))
def g__law_pick : DFn := fnD 2 b__law_pick 0
def e__law_parted_0 : DE := eVar 3
def t__law_parted_0 : DT := eB (eOp2 dNe (eOp2 iMod (eVar 1) (eVar 3)) (eC (.int 0)))
def b__law_parted : DStm := sSeq (sSet 1 (eOp2 dAdd (eC (.int 1)) (eCall 2 g__law_draw (aCons (eVar 0) (aCons (eC (.int 30)) (aNil))))))
    (sSeq (sSetO 2 (aLc [3] (itSeq (eFrz (aMax (aCons (eC (.int 2)) (aCons (eC (.int 3)) (aCons (eC (.int 5)) (aCons (eC (.int 7)) (aCons (eC (.int 11)) (aCons (eC (.int 13)) (aCons (eC (.int 29)) (aCons (eC (.int 31)) (aCons (eC (.int 97)) (aCons (eC (.int 499)) (aNil)))))))))))))) (gN 3) (t__law_parted_0) (e__law_parted_0)))
    (sRet (eTup (aCons (eVar 1) (aCons (eCall 2 g__law_pick (aCons (eVar 0) (aCons (eVar 2) (aNil)))) (aNil))))))
def g__law_parted : DFn := fnD 1 b__law_parted 3
def w_binomial_0 : DStm := sSet 2 (eOp2 iDiv (eOp2 dMul (eVar 2) (eOp2 dAdd (eOp2 iSub (eVar 0) (eVar 3)) (eC (.int 1)))) (eVar 3))
def b_binomial : DStm := sSeq (sSet 2 (eC (.int 1)))
    (sSeq (sFor (itR2 (aCons (eC (.int 1)) (aCons (eOp2 dAdd (eCB (bMin2) (aCons (eCB (bInt) (aCons (eVar 1) (aNil))) (aCons (eCB (bInt) (aCons (eOp2 iSub (eVar 0) (eVar 1)) (aNil))) (aNil)))) (eC (.int 1))) (aNil)))) (gN 3) (w_binomial_0))
    (sRet (eVar 2)))
def g_binomial : DFn := fnD 2 b_binomial 2
def w_paths_by_rest_0 : DStm := sIf (eB (eOp2 iGt (eVar 4) (eC (.int 2000)))) (sRaise "TooFar" [110, 117, 109, 98, 101, 114] (aCons (eVar 4) (aNil))) (sPass)
def w_paths_by_rest_1 : DStm := sAug 5 (fun i j => i + j) (eOp2 dMul (eCall 4 g_share (aCons (eVar 0) (aCons (eVar 1) (aCons (eVar 6) (aCons (eVar 3) (aNil)))))) (eCall 2 g_binomial (aCons (eOp2 iDiv (eOp2 dAdd (eVar 0) (eVar 1)) (eVar 6)) (aCons (eOp2 iDiv (eVar 0) (eVar 6)) (aNil)))))
def b_paths_by_rest : DStm := sSeq (sExpr (eCall 4 g_need_rest (aCons (eVar 0) (aCons (eVar 1) (aCons (eVar 2) (aCons (eVar 3) (aNil)))))))
    (sSeq (sFor (itSeq (eTup (aCons (eVar 0) (aCons (eVar 1) (aNil))))) (gN 4) (w_paths_by_rest_0))
    (sSeq (sSet 5 (eC (.int 0)))
    (sSeq (sFor (itSeq (eCall 1 g_divisors (aCons (eVar 2) (aNil)))) (gN 6) (w_paths_by_rest_1))
    (sRet (eOp2 iDiv (eVar 5) (eVar 2))))))
def g_paths_by_rest : DFn := fnD 4 b_paths_by_rest 3
def e_law_0 : DE := eCall 5 g_far_paths (aCons (eVar 5) (aCons (eVar 6) (aCons (eVar 3) (aCons (eVar 14) (aCons (eVar 4) (aNil))))))
def w_law_1 : DStm := sSeq (sAsgT (eTup (aCons (eCall 1 g__law_parted (aCons (eVar 1) (aNil))) (aCons (eOp2 dAdd (eC (.int 1)) (eCall 1 g__law_great (aCons (eVar 1) (aNil)))) (aCons (eOp2 dAdd (eC (.int 1)) (eCall 1 g__law_great (aCons (eVar 1) (aNil)))) (aNil))))) (gT 3 (gsCons (gT 2 (gsCons (gN 3) (gsCons (gN 4) (gsNil)))) (gsCons (gN 5) (gsCons (gN 6) (gsNil))))))
    (sSeq (sSet 7 (eCall 2 g__law_draw (aCons (eVar 1) (aCons (eVar 3) (aNil)))))
    (sSeq (sIf (bNot (eTru (eCall 5 g__law_is_stepped (aCons (eVar 5) (aCons (eVar 6) (aCons (eVar 3) (aCons (eVar 7) (aCons (eVar 4) (aNil))))))))) (sRet (eC (.bl false))) (sPass))
    (sSeq (sSet 8 (eOp2 iMod (eCB (bInt) (aCons (eOp2 iSub (eOp2 dMul (eVar 5) (eVar 6)) (eVar 7)) (aNil))) (eVar 3)))
    (sSeq (sIf (eB (eOp2 dNe (eCall 5 g_far_paths (aCons (eVar 5) (aCons (eVar 6) (aCons (eVar 3) (aCons (eVar 7) (aCons (eVar 4) (aNil))))))) (eCall 5 g_far_paths (aCons (eVar 6) (aCons (eVar 5) (aCons (eVar 3) (aCons (eVar 8) (aCons (eVar 4) (aNil))))))))) (sRet (eC (.bl false))) (sPass))
    (sSeq (sSet 9 (eCB (bSum) (aCons (eFrz (aLc [14] (itR1 (aCons (eVar 3) (aNil))) (gN 14) (bYes) (e_law_0))) (aNil))))
    (sSeq (sIf (eB (eOp2 dNe (eOp2 iMod (eVar 9) (eVar 4)) (eCall 3 g__law_digits_chosen (aCons (eOp2 dAdd (eVar 5) (eVar 6)) (aCons (eVar 5) (aCons (eVar 4) (aNil))))))) (sRet (eC (.bl false))) (sPass))
    (sSeq (sIf (bOr (eB (eOp2 dNe (eCall 5 g_far_paths (aCons (eVar 5) (aCons (eC (.int 0)) (aCons (eVar 3) (aCons (eVar 7) (aCons (eVar 4) (aNil))))))) (eCB (bInt) (aCons (eOp2 dEq (eVar 7) (eC (.int 0))) (aNil))))) (eB (eOp2 dNe (eCall 5 g_far_paths (aCons (eC (.int 0)) (aCons (eVar 6) (aCons (eVar 3) (aCons (eVar 7) (aCons (eVar 4) (aNil))))))) (eCB (bInt) (aCons (eOp2 dEq (eVar 7) (eC (.int 0))) (aNil)))))) (sRet (eC (.bl false))) (sPass))
    (sSeq (sIf (eB (eOp2 dNe (eCall 5 g_far_paths (aCons (eVar 5) (aCons (eC (.int 1)) (aCons (eVar 3) (aCons (eVar 7) (aCons (eVar 4) (aNil))))))) (eOp2 iMod (eIf (eB (eOp2 iGe (eVar 5) (eVar 7))) (eOp2 dAdd (eOp2 iDiv (eOp2 iSub (eVar 5) (eVar 7)) (eVar 3)) (eC (.int 1))) (eC (.int 0))) (eVar 4)))) (sRet (eC (.bl false))) (sPass))
    (sSeq (sPar 10 11 (aCons (eOp2 dAdd (eC (.int 1)) (eCall 2 g__law_draw (aCons (eVar 1) (aCons (eCall 2 g__law_pick (aCons (eVar 1) (aCons (eFrz (aMax (aCons (eC (.int 60)) (aCons (eC (.int 300)) (aCons (eC (.int 2000)) (aNil)))))) (aNil)))) (aNil))))) (aCons (eOp2 dAdd (eC (.int 1)) (eCall 2 g__law_draw (aCons (eVar 1) (aCons (eCall 2 g__law_pick (aCons (eVar 1) (aCons (eFrz (aMax (aCons (eC (.int 60)) (aCons (eC (.int 300)) (aCons (eC (.int 2000)) (aNil)))))) (aNil)))) (aNil))))) (aNil))))
    (sSeq (sSet 12 (eCall 4 g_paths_by_rest (aCons (eVar 10) (aCons (eVar 11) (aCons (eVar 3) (aCons (eVar 7) (aNil)))))))
    (sSeq (sIf (eB (eOp2 dNe (eOp2 iMod (eVar 12) (eVar 4)) (eCall 5 g_far_paths (aCons (eVar 10) (aCons (eVar 11) (aCons (eVar 3) (aCons (eVar 7) (aCons (eVar 4) (aNil))))))))) (sRet (eC (.bl false))) (sPass))
    (sSeq (sSet 13 (eCall 4 g_paths_by_rest (aCons (eOp2 iSub (eVar 10) (eC (.int 1))) (aCons (eVar 11) (aCons (eVar 3) (aCons (eVar 7) (aNil)))))))
    (sIf (eB (eOp2 dNe (eVar 12) (eOp2 dAdd (eVar 13) (eCall 4 g_paths_by_rest (aCons (eVar 10) (aCons (eOp2 iSub (eVar 11) (eC (.int 1))) (aCons (eVar 3) (aCons (eOp2 iMod (eCB (bInt) (aCons (eOp2 iSub (eVar 7) (eVar 10)) (aNil))) (eVar 3)) (aNil))))))))) (sRet (eC (.bl false))) (sPass))))))))))))))
def b_law : DStm := sSeq (sSet 1 (eCall 1 g__law_begin (aCons (eVar 0) (aNil))))
    (sSeq (sFor (itR1 (aCons (eOp2 dAdd (eC (.int 1)) (eCB (bMin2) (aCons (eC (.int 2)) (aCons (eCB (bLen) (aCons (eVar 0) (aNil))) (aNil))))) (aNil))) (gN 2) (w_law_1))
    (sRet (eC (.bl true))))
def g_law : DFn := fnD 1 b_law 14
set_option genInjectivity false in
structure Ev (P : Program) (G : Gam) (mg : Str → Option Value) (base : Heap) where
  C_BadNumber : Addr
  ct_BadNumber : G.ct "BadNumber" = some C_BadNumber
  m_BadNumber : mg "BadNumber" = some (.ref C_BadNumber)
  fI_BadNumber : Addr
  xfd_BadNumber : FuncData
  X_BadNumber : XFacts P G mg "BadNumber" C_BadNumber fI_BadNumber xfd_BadNumber "self" "value" "value"
  C_TooFar : Addr
  ct_TooFar : G.ct "TooFar" = some C_TooFar
  m_TooFar : mg "TooFar" = some (.ref C_TooFar)
  fI_TooFar : Addr
  xfd_TooFar : FuncData
  X_TooFar : XFacts P G mg "TooFar" C_TooFar fI_TooFar xfd_TooFar "self" "number" "number"
  a__law_begin : Addr
  fd__law_begin : FuncData
  F__law_begin : Fun G.K "_law_begin" "_law_begin" st__law_begin a__law_begin fd__law_begin
  b__law_begin : L2.Binds G.K fd__law_begin ["_law_script"] []
  m__law_begin : mg "_law_begin" = some (.ref a__law_begin)
  a__law_digits_chosen : Addr
  fd__law_digits_chosen : FuncData
  F__law_digits_chosen : Fun G.K "_law_digits_chosen" "_law_digits_chosen" st__law_digits_chosen a__law_digits_chosen fd__law_digits_chosen
  b__law_digits_chosen : L2.Binds G.K fd__law_digits_chosen ["_law_many", "_law_some", "_law_prime"] []
  m__law_digits_chosen : mg "_law_digits_chosen" = some (.ref a__law_digits_chosen)
  a__law_draw : Addr
  fd__law_draw : FuncData
  F__law_draw : Fun G.K "_law_draw" "_law_draw" st__law_draw a__law_draw fd__law_draw
  b__law_draw : L2.Binds G.K fd__law_draw ["_law_pen", "_law_span"] []
  m__law_draw : mg "_law_draw" = some (.ref a__law_draw)
  a__law_number : Addr
  fd__law_number : FuncData
  F__law_number : Fun G.K "_law_number" "_law_number" st__law_number a__law_number fd__law_number
  b__law_number : L2.Binds G.K fd__law_number ["_law_pen", "_law_groups"] []
  m__law_number : mg "_law_number" = some (.ref a__law_number)
  a__law_great : Addr
  fd__law_great : FuncData
  F__law_great : Fun G.K "_law_great" "_law_great" st__law_great a__law_great fd__law_great
  b__law_great : L2.Binds G.K fd__law_great ["_law_pen"] []
  m__law_great : mg "_law_great" = some (.ref a__law_great)
  a_divisors : Addr
  fd_divisors : FuncData
  F_divisors : Fun G.K "divisors" "divisors" st_divisors a_divisors fd_divisors
  b_divisors : L2.Binds G.K fd_divisors ["number"] []
  m_divisors : mg "divisors" = some (.ref a_divisors)
  a_inverse : Addr
  fd_inverse : FuncData
  F_inverse : Fun G.K "inverse" "inverse" st_inverse a_inverse fd_inverse
  b_inverse : L2.Binds G.K fd_inverse ["number", "prime"] []
  m_inverse : mg "inverse" = some (.ref a_inverse)
  a_binomial_rest : Addr
  fd_binomial_rest : FuncData
  F_binomial_rest : Fun G.K "binomial_rest" "binomial_rest" st_binomial_rest a_binomial_rest fd_binomial_rest
  b_binomial_rest : L2.Binds G.K fd_binomial_rest ["many", "chosen", "prime"] []
  m_binomial_rest : mg "binomial_rest" = some (.ref a_binomial_rest)
  a_far_binomial : Addr
  fd_far_binomial : FuncData
  F_far_binomial : Fun G.K "far_binomial" "far_binomial" st_far_binomial a_far_binomial fd_far_binomial
  b_far_binomial : L2.Binds G.K fd_far_binomial ["many", "chosen", "prime"] []
  m_far_binomial : mg "far_binomial" = some (.ref a_far_binomial)
  a_is_prime : Addr
  fd_is_prime : FuncData
  F_is_prime : Fun G.K "is_prime" "is_prime" st_is_prime a_is_prime fd_is_prime
  b_is_prime : L2.Binds G.K fd_is_prime ["number"] []
  m_is_prime : mg "is_prime" = some (.ref a_is_prime)
  a_is_integer : Addr
  fd_is_integer : FuncData
  F_is_integer : Fun G.K "is_integer" "is_integer" st_is_integer a_is_integer fd_is_integer
  b_is_integer : L2.Binds G.K fd_is_integer ["value"] []
  m_is_integer : mg "is_integer" = some (.ref a_is_integer)
  a_is_whole : Addr
  fd_is_whole : FuncData
  F_is_whole : Fun G.K "is_whole" "is_whole" st_is_whole a_is_whole fd_is_whole
  b_is_whole : L2.Binds G.K fd_is_whole ["value", "least"] []
  m_is_whole : mg "is_whole" = some (.ref a_is_whole)
  a_need_whole : Addr
  fd_need_whole : FuncData
  F_need_whole : Fun G.K "need_whole" "need_whole" st_need_whole a_need_whole fd_need_whole
  b_need_whole : L2.Binds G.K fd_need_whole ["values", "least"] []
  m_need_whole : mg "need_whole" = some (.ref a_need_whole)
  a_need_rest : Addr
  fd_need_rest : FuncData
  F_need_rest : Fun G.K "need_rest" "need_rest" st_need_rest a_need_rest fd_need_rest
  b_need_rest : L2.Binds G.K fd_need_rest ["x", "y", "modulus", "rest"] []
  m_need_rest : mg "need_rest" = some (.ref a_need_rest)
  a_gaussian : Addr
  fd_gaussian : FuncData
  F_gaussian : Fun G.K "gaussian" "gaussian" st_gaussian a_gaussian fd_gaussian
  b_gaussian : L2.Binds G.K fd_gaussian ["many", "chosen"] []
  m_gaussian : mg "gaussian" = some (.ref a_gaussian)
  a_divisor_of : Addr
  fd_divisor_of : FuncData
  F_divisor_of : Fun G.K "divisor_of" "divisor_of" st_divisor_of a_divisor_of fd_divisor_of
  b_divisor_of : L2.Binds G.K fd_divisor_of ["one", "other"] []
  m_divisor_of : mg "divisor_of" = some (.ref a_divisor_of)
  a_moebius : Addr
  fd_moebius : FuncData
  F_moebius : Fun G.K "moebius" "moebius" st_moebius a_moebius fd_moebius
  b_moebius : L2.Binds G.K fd_moebius ["number"] []
  m_moebius : mg "moebius" = some (.ref a_moebius)
  a_root_sum : Addr
  fd_root_sum : FuncData
  F_root_sum : Fun G.K "root_sum" "root_sum" st_root_sum a_root_sum fd_root_sum
  b_root_sum : L2.Binds G.K fd_root_sum ["order", "power"] []
  m_root_sum : mg "root_sum" = some (.ref a_root_sum)
  a_share : Addr
  fd_share : FuncData
  F_share : Fun G.K "share" "share" st_share a_share fd_share
  b_share : L2.Binds G.K fd_share ["x", "y", "order", "rest"] []
  m_share : mg "share" = some (.ref a_share)
  a_far_paths : Addr
  fd_far_paths : FuncData
  F_far_paths : Fun G.K "far_paths" "far_paths" st_far_paths a_far_paths fd_far_paths
  b_far_paths : L2.Binds G.K fd_far_paths ["x", "y", "modulus", "rest", "prime"] []
  m_far_paths : mg "far_paths" = some (.ref a_far_paths)
  a__law_is_stepped : Addr
  fd__law_is_stepped : FuncData
  F__law_is_stepped : Fun G.K "_law_is_stepped" "_law_is_stepped" st__law_is_stepped a__law_is_stepped fd__law_is_stepped
  b__law_is_stepped : L2.Binds G.K fd__law_is_stepped ["_law_x", "_law_y", "_law_modulus", "_law_rest", "_law_prime"] []
  m__law_is_stepped : mg "_law_is_stepped" = some (.ref a__law_is_stepped)
  a__law_pick : Addr
  fd__law_pick : FuncData
  F__law_pick : Fun G.K "_law_pick" "_law_pick" st__law_pick a__law_pick fd__law_pick
  b__law_pick : L2.Binds G.K fd__law_pick ["_law_pen", "_law_some"] []
  m__law_pick : mg "_law_pick" = some (.ref a__law_pick)
  a__law_parted : Addr
  fd__law_parted : FuncData
  F__law_parted : Fun G.K "_law_parted" "_law_parted" st__law_parted a__law_parted fd__law_parted
  b__law_parted : L2.Binds G.K fd__law_parted ["_law_pen"] []
  m__law_parted : mg "_law_parted" = some (.ref a__law_parted)
  a_binomial : Addr
  fd_binomial : FuncData
  F_binomial : Fun G.K "binomial" "binomial" st_binomial a_binomial fd_binomial
  b_binomial : L2.Binds G.K fd_binomial ["many", "chosen"] []
  m_binomial : mg "binomial" = some (.ref a_binomial)
  a_paths_by_rest : Addr
  fd_paths_by_rest : FuncData
  F_paths_by_rest : Fun G.K "paths_by_rest" "paths_by_rest" st_paths_by_rest a_paths_by_rest fd_paths_by_rest
  b_paths_by_rest : L2.Binds G.K fd_paths_by_rest ["x", "y", "modulus", "rest"] []
  m_paths_by_rest : mg "paths_by_rest" = some (.ref a_paths_by_rest)
  a_law : Addr
  fd_law : FuncData
  F_law : Fun G.K "law" "law" st_law a_law fd_law
  b_law : L2.Binds G.K fd_law ["_law_script"] []
  m_law : mg "law" = some (.ref a_law)
  z_abs : mg "abs" = none
  z_any : mg "any" = none
  z_bool : mg "bool" = none
  z_enumerate : mg "enumerate" = none
  z_int : mg "int" = none
  z_isinstance : mg "isinstance" = none
  z_len : mg "len" = none
  z_list : mg "list" = none
  z_min : mg "min" = none
  z_range : mg "range" = none
  z_sum : mg "sum" = none
  kv_MOST_MODULUS : Value
  kc_MOST_MODULUS : mg "MOST_MODULUS" = some kv_MOST_MODULUS
  kr_MOST_MODULUS : ∃ y, RelV y kv_MOST_MODULUS ∧ ∀ w, Rep G w y (.int 30)
  kv_MOST_PRIME : Value
  kc_MOST_PRIME : mg "MOST_PRIME" = some kv_MOST_PRIME
  kr_MOST_PRIME : ∃ y, RelV y kv_MOST_PRIME ∧ ∀ w, Rep G w y (.int 5000)
  kv_MOST_SIDE : Value
  kc_MOST_SIDE : mg "MOST_SIDE" = some kv_MOST_SIDE
  kr_MOST_SIDE : ∃ y, RelV y kv_MOST_SIDE ∧ ∀ w, Rep G w y (.int 2000)
  iso : IsOk G []
  tabs : G.tab = tabG []
def Ev.sw {P : Program} {G : Gam} {mg : Str → Option Value} {base : Heap} (e : Ev P G mg base) (lam : String → Addr → Wd → Prop) (lamM : ∀ (k : String) (f : Addr) (w w' : Wd), w.le w' → lam k f w → lam k f w') : Ev P (G.sw lam lamM) mg base := {
  C_BadNumber := e.C_BadNumber
  ct_BadNumber := e.ct_BadNumber
  m_BadNumber := e.m_BadNumber
  fI_BadNumber := e.fI_BadNumber
  xfd_BadNumber := e.xfd_BadNumber
  X_BadNumber := ⟨⟨e.X_BadNumber.T.ct, e.X_BadNumber.T.ini, e.X_BadNumber.T.ty, e.X_BadNumber.T.cls⟩, e.X_BadNumber.I, e.X_BadNumber.F, e.X_BadNumber.B⟩
  C_TooFar := e.C_TooFar
  ct_TooFar := e.ct_TooFar
  m_TooFar := e.m_TooFar
  fI_TooFar := e.fI_TooFar
  xfd_TooFar := e.xfd_TooFar
  X_TooFar := ⟨⟨e.X_TooFar.T.ct, e.X_TooFar.T.ini, e.X_TooFar.T.ty, e.X_TooFar.T.cls⟩, e.X_TooFar.I, e.X_TooFar.F, e.X_TooFar.B⟩
  a__law_begin := e.a__law_begin
  fd__law_begin := e.fd__law_begin
  F__law_begin := e.F__law_begin
  b__law_begin := e.b__law_begin
  m__law_begin := e.m__law_begin
  a__law_digits_chosen := e.a__law_digits_chosen
  fd__law_digits_chosen := e.fd__law_digits_chosen
  F__law_digits_chosen := e.F__law_digits_chosen
  b__law_digits_chosen := e.b__law_digits_chosen
  m__law_digits_chosen := e.m__law_digits_chosen
  a__law_draw := e.a__law_draw
  fd__law_draw := e.fd__law_draw
  F__law_draw := e.F__law_draw
  b__law_draw := e.b__law_draw
  m__law_draw := e.m__law_draw
  a__law_number := e.a__law_number
  fd__law_number := e.fd__law_number
  F__law_number := e.F__law_number
  b__law_number := e.b__law_number
  m__law_number := e.m__law_number
  a__law_great := e.a__law_great
  fd__law_great := e.fd__law_great
  F__law_great := e.F__law_great
  b__law_great := e.b__law_great
  m__law_great := e.m__law_great
  a_divisors := e.a_divisors
  fd_divisors := e.fd_divisors
  F_divisors := e.F_divisors
  b_divisors := e.b_divisors
  m_divisors := e.m_divisors
  a_inverse := e.a_inverse
  fd_inverse := e.fd_inverse
  F_inverse := e.F_inverse
  b_inverse := e.b_inverse
  m_inverse := e.m_inverse
  a_binomial_rest := e.a_binomial_rest
  fd_binomial_rest := e.fd_binomial_rest
  F_binomial_rest := e.F_binomial_rest
  b_binomial_rest := e.b_binomial_rest
  m_binomial_rest := e.m_binomial_rest
  a_far_binomial := e.a_far_binomial
  fd_far_binomial := e.fd_far_binomial
  F_far_binomial := e.F_far_binomial
  b_far_binomial := e.b_far_binomial
  m_far_binomial := e.m_far_binomial
  a_is_prime := e.a_is_prime
  fd_is_prime := e.fd_is_prime
  F_is_prime := e.F_is_prime
  b_is_prime := e.b_is_prime
  m_is_prime := e.m_is_prime
  a_is_integer := e.a_is_integer
  fd_is_integer := e.fd_is_integer
  F_is_integer := e.F_is_integer
  b_is_integer := e.b_is_integer
  m_is_integer := e.m_is_integer
  a_is_whole := e.a_is_whole
  fd_is_whole := e.fd_is_whole
  F_is_whole := e.F_is_whole
  b_is_whole := e.b_is_whole
  m_is_whole := e.m_is_whole
  a_need_whole := e.a_need_whole
  fd_need_whole := e.fd_need_whole
  F_need_whole := e.F_need_whole
  b_need_whole := e.b_need_whole
  m_need_whole := e.m_need_whole
  a_need_rest := e.a_need_rest
  fd_need_rest := e.fd_need_rest
  F_need_rest := e.F_need_rest
  b_need_rest := e.b_need_rest
  m_need_rest := e.m_need_rest
  a_gaussian := e.a_gaussian
  fd_gaussian := e.fd_gaussian
  F_gaussian := e.F_gaussian
  b_gaussian := e.b_gaussian
  m_gaussian := e.m_gaussian
  a_divisor_of := e.a_divisor_of
  fd_divisor_of := e.fd_divisor_of
  F_divisor_of := e.F_divisor_of
  b_divisor_of := e.b_divisor_of
  m_divisor_of := e.m_divisor_of
  a_moebius := e.a_moebius
  fd_moebius := e.fd_moebius
  F_moebius := e.F_moebius
  b_moebius := e.b_moebius
  m_moebius := e.m_moebius
  a_root_sum := e.a_root_sum
  fd_root_sum := e.fd_root_sum
  F_root_sum := e.F_root_sum
  b_root_sum := e.b_root_sum
  m_root_sum := e.m_root_sum
  a_share := e.a_share
  fd_share := e.fd_share
  F_share := e.F_share
  b_share := e.b_share
  m_share := e.m_share
  a_far_paths := e.a_far_paths
  fd_far_paths := e.fd_far_paths
  F_far_paths := e.F_far_paths
  b_far_paths := e.b_far_paths
  m_far_paths := e.m_far_paths
  a__law_is_stepped := e.a__law_is_stepped
  fd__law_is_stepped := e.fd__law_is_stepped
  F__law_is_stepped := e.F__law_is_stepped
  b__law_is_stepped := e.b__law_is_stepped
  m__law_is_stepped := e.m__law_is_stepped
  a__law_pick := e.a__law_pick
  fd__law_pick := e.fd__law_pick
  F__law_pick := e.F__law_pick
  b__law_pick := e.b__law_pick
  m__law_pick := e.m__law_pick
  a__law_parted := e.a__law_parted
  fd__law_parted := e.fd__law_parted
  F__law_parted := e.F__law_parted
  b__law_parted := e.b__law_parted
  m__law_parted := e.m__law_parted
  a_binomial := e.a_binomial
  fd_binomial := e.fd_binomial
  F_binomial := e.F_binomial
  b_binomial := e.b_binomial
  m_binomial := e.m_binomial
  a_paths_by_rest := e.a_paths_by_rest
  fd_paths_by_rest := e.fd_paths_by_rest
  F_paths_by_rest := e.F_paths_by_rest
  b_paths_by_rest := e.b_paths_by_rest
  m_paths_by_rest := e.m_paths_by_rest
  a_law := e.a_law
  fd_law := e.fd_law
  F_law := e.F_law
  b_law := e.b_law
  m_law := e.m_law
  z_abs := e.z_abs
  z_any := e.z_any
  z_bool := e.z_bool
  z_enumerate := e.z_enumerate
  z_int := e.z_int
  z_isinstance := e.z_isinstance
  z_len := e.z_len
  z_list := e.z_list
  z_min := e.z_min
  z_range := e.z_range
  z_sum := e.z_sum
  kv_MOST_MODULUS := e.kv_MOST_MODULUS
  kc_MOST_MODULUS := e.kc_MOST_MODULUS
  kr_MOST_MODULUS := (by obtain ⟨y, r1, r2⟩ := e.kr_MOST_MODULUS; exact ⟨y, r1, fun w => (r2 w).sw (.inl rfl)⟩)
  kv_MOST_PRIME := e.kv_MOST_PRIME
  kc_MOST_PRIME := e.kc_MOST_PRIME
  kr_MOST_PRIME := (by obtain ⟨y, r1, r2⟩ := e.kr_MOST_PRIME; exact ⟨y, r1, fun w => (r2 w).sw (.inl rfl)⟩)
  kv_MOST_SIDE := e.kv_MOST_SIDE
  kc_MOST_SIDE := e.kc_MOST_SIDE
  kr_MOST_SIDE := (by obtain ⟨y, r1, r2⟩ := e.kr_MOST_SIDE; exact ⟨y, r1, fun w => (r2 w).sw (.inl rfl)⟩)
  iso := ⟨e.iso.1, e.iso.2, e.iso.3⟩
  tabs := e.tabs }
theorem Ev.kk {P : Program} {G : Gam} {mg : Str → Option Value} {base : Heap} (e : Ev P G mg base) : G.K = G.K := rfl
section
variable {P : Program} {w0 : World} {G : Gam} {mg : Str → Option Value} {base : Heap}
theorem ok__law_begin (e : Ev P G mg base) : FnOk P w0 G.K mg base (L2.CX P w0) 1 e.a__law_begin e.fd__law_begin ["_law_script"] (spG G 1 g__law_begin) :=
  fn_okD e.F__law_begin sc__law_begin rfl rfl fun cdv A outer s H E hr tk ps => pdss_one (pds_ret (pdod_cell (pdod_disp (fs := [(eC (.str [99, 101, 108, 108, 115]), eFrz (aList (aCons (eSlA (eVar 0) (oNone) (oSome (eC (.int 63)))) (aNil)))), (eC (.str [109, 97, 114, 107]), eC (.int 0)), (eC (.str [114, 101, 115, 116]), eC (.int 0))]) (pps_cons (pd_str s_2) (pdo_frz (pdo_list rfl (by rfl) e.z_list boot_list (pda_cons (pd_slA rfl (pd_var (pv 0)) (pdo_none) (pdo_some (pd_int))) (pda_nil)))) (pps_cons (pd_str s_1) (pd_int) (pps_cons (pd_str s_0) (pd_int) (pps_nil)))) (by rfl) (by rfl) (fun z => by cases z) (by decide))))
theorem ok__law_digits_chosen (e : Ev P G mg base) : FnOk P w0 G.K mg base (L2.CX P w0) 1 e.a__law_digits_chosen e.fd__law_digits_chosen ["_law_many", "_law_some", "_law_prime"] (spG G 3 g__law_digits_chosen) :=
  fn_okD e.F__law_digits_chosen sc__law_digits_chosen rfl rfl fun cdv A outer s H E hr tk ps => pdss_cons (pds_set (i := 3) sc__law_digits_chosen.nd rfl (.inl rfl) (pd_int))
    (pdss_cons (pds_for ps rfl (pdi_range1 (by rfl) e.z_range (pda_cons (pd_int) (pda_nil))) (pdg_name (i := 4) sc__law_digits_chosen.nd rfl (.inl rfl)) (pdss_cons (pds_par (i := 5) (j := 6) rfl sc__law_digits_chosen.nd rfl rfl (by decide) rfl rfl (pda_cons (pd_op (opd_mod) (pd_callTy cd_int (by rfl) e.z_int (by decide +kernel) (pda_cons (pd_var (pv 0)) (pda_nil))) (pd_var (pv 2))) (pda_cons (pd_op (opd_mod) (pd_callTy cd_int (by rfl) e.z_int (by decide +kernel) (pda_cons (pd_var (pv 1)) (pda_nil))) (pd_var (pv 2))) (pda_nil))) (by rfl))
    (pdss_cons (pds_par (i := 0) (j := 1) rfl sc__law_digits_chosen.nd rfl rfl (by decide) rfl rfl (pda_cons (pd_op (opd_div) (pd_var (pv 0)) (pd_var (pv 2))) (pda_cons (pd_op (opd_div) (pd_var (pv 1)) (pd_var (pv 2))) (pda_nil))) (by rfl))
    (pdss_cons (pds_if (ptd_cmp (opd_gt) (pd_var (pv 6)) (pd_var (pv 5)) (nomark _)) (pdss_one (pds_ret (pd_int))) (pdss_nil))
    (pdss_cons (pds_asg (pd_tup (pda_cons (pd_int) (pda_cons (pd_int) (pda_nil)))) (pdg_tup rfl rfl (pdgs_cons (pdg_name (i := 7) sc__law_digits_chosen.nd rfl (.inl rfl)) (pdgs_cons (pdg_name (i := 8) sc__law_digits_chosen.nd rfl (.inl rfl)) (pdgs_nil)))))
    (pdss_cons (pds_for ps rfl (pdi_range1 (by rfl) e.z_range (pda_cons (pd_var (pv 6)) (pda_nil))) (pdg_name (i := 9) sc__law_digits_chosen.nd rfl (.inl rfl)) (pdss_cons (pds_set (i := 7) sc__law_digits_chosen.nd rfl (.inl rfl) (pd_op (opd_mod) (pd_callTy cd_int (by rfl) e.z_int (by decide +kernel) (pda_cons (pd_op (opd_mulA) (pd_var (pv 7)) (pd_op (opd_sub) (pd_var (pv 5)) (pd_var (pv 9)))) (pda_nil))) (pd_var (pv 2))))
    (pdss_one (pds_set (i := 8) sc__law_digits_chosen.nd rfl (.inl rfl) (pd_op (opd_mod) (pd_callTy cd_int (by rfl) e.z_int (by decide +kernel) (pda_cons (pd_op (opd_mulA) (pd_var (pv 8)) (pd_op (opd_addA e.kk) (pd_var (pv 9)) (pd_int))) (pda_nil))) (pd_var (pv 2)))))))
    (pdss_cons (pds_par3 (i := 10) (j := 11) (l := 12) rfl sc__law_digits_chosen.nd rfl rfl rfl (by decide) (by decide) (by decide) rfl rfl rfl (pda_cons (pd_int) (pda_cons (pd_var (pv 8)) (pda_cons (pd_op (opd_sub) (pd_var (pv 2)) (pd_int)) (pda_nil)))) (by rfl))
    (pdss_cons (pds_for ps rfl (pdi_range1 (by rfl) e.z_range (pda_cons (pd_int) (pda_nil))) (pdg_name (i := 9) sc__law_digits_chosen.nd rfl (.inl rfl)) (pdss_cons (pds_set (i := 10) sc__law_digits_chosen.nd rfl (.inl rfl) (pd_ifExp (ptd_cmp (opd_eq e.kk hr.units) (pd_op (opd_mod) (pd_var (pv 12)) (pd_int)) (pd_int) (nomark _)) (pd_op (opd_mod) (pd_callTy cd_int (by rfl) e.z_int (by decide +kernel) (pda_cons (pd_op (opd_mulA) (pd_var (pv 10)) (pd_var (pv 11))) (pda_nil))) (pd_var (pv 2))) (pd_var (pv 10))))
    (pdss_one (pds_par (i := 11) (j := 12) rfl sc__law_digits_chosen.nd rfl rfl (by decide) rfl rfl (pda_cons (pd_op (opd_mod) (pd_callTy cd_int (by rfl) e.z_int (by decide +kernel) (pda_cons (pd_op (opd_mulA) (pd_var (pv 11)) (pd_var (pv 11))) (pda_nil))) (pd_var (pv 2))) (pda_cons (pd_op (opd_div) (pd_var (pv 12)) (pd_int)) (pda_nil))) (by rfl)))))
    (pdss_one (pds_set (i := 3) sc__law_digits_chosen.nd rfl (.inl rfl) (pd_op (opd_mod) (pd_callTy cd_int (by rfl) e.z_int (by decide +kernel) (pda_cons (pd_op (opd_mulA) (pd_op (opd_mulA) (pd_var (pv 3)) (pd_var (pv 7))) (pd_var (pv 10))) (pda_nil))) (pd_var (pv 2)))))))))))))
    (pdss_one (pds_ret (pd_var (pv 3)))))
theorem ok__law_draw (e : Ev P G mg base) : FnOk P w0 G.K mg base (L2.CX P w0) 1 e.a__law_draw e.fd__law_draw ["_law_pen", "_law_span"] (spG G 2 g__law_draw) :=
  fn_okD e.F__law_draw sc__law_draw rfl rfl fun cdv A outer s H E hr tk ps => pdss_cons (pds_if (ptd_cmp (opd_gt) (pd_dget (hu_of hr) (pd_var (pv 0)) (pd_str s_0) (fun _ _ => rfl)) (pd_int) (nomark _)) (pdss_cons (pds_set (i := 2) sc__law_draw.nd rfl (.inl rfl) (pd_op (opd_mod) (pd_callTy cd_int (by rfl) e.z_int (by decide +kernel) (pda_cons (pd_dget (hu_of hr) (pd_var (pv 0)) (pd_str s_0) (fun _ _ => rfl)) (pda_nil))) (pd_var (pv 1))))
    (pdss_cons (pds_dputC (hu_of hr) (pd_var (pv 0)) (pd_str s_0) (pd_op (opd_div) (pd_dget (hu_of hr) (pd_var (pv 0)) (pd_str s_0) (fun _ _ => rfl)) (pd_var (pv 1))))
    (pdss_one (pds_ret (pd_var (pv 2)))))) (pdss_nil))
    (pdss_cons (pds_set (i := 3) sc__law_draw.nd rfl (.inl rfl) (pd_dget (hu_of hr) (pd_var (pv 0)) (pd_str s_1) (fun _ _ => rfl)))
    (pdss_cons (pds_dputC (hu_of hr) (pd_var (pv 0)) (pd_str s_1) (pd_op (opd_addA e.kk) (pd_var (pv 3)) (pd_int)))
    (pdss_cons (pds_set (i := 4) sc__law_draw.nd rfl (.inl rfl) (pd_op (opd_addA e.kk) (pd_op (opd_mulA) (pd_int) (pd_var (pv 3))) (pd_int)))
    (pdss_cons (pds_if (ptd_cmp (opd_ne e.kk hr.units) (pd_dget (hu_of hr) (pd_var (pv 0)) (pd_str s_2) (fun _ _ => rfl)) (pdo_frz (pdo_lst (pda_nil))) (nomark _)) (pdss_one (pds_set (i := 4) sc__law_draw.nd rfl (.inl rfl) (pd_ix e.kk (pd_dget (hu_of hr) (pd_var (pv 0)) (pd_str s_2) (fun _ _ => rfl)) (pd_op (opd_mod) (pd_callTy cd_int (by rfl) e.z_int (by decide +kernel) (pda_cons (pd_var (pv 3)) (pda_nil))) (pd_callB (cd_len rfl) (by rfl) e.z_len (by decide +kernel) (pda_cons (pd_dget (hu_of hr) (pd_var (pv 0)) (pd_str s_2) (fun _ _ => rfl)) (pda_nil)))) (fun _ _ => rfl)))) (pdss_nil))
    (pdss_cons (pds_if ((pwd_and (ptd_cmp (opd_lt) (pd_var (pv 3)) (pd_callB (cd_len rfl) (by rfl) e.z_len (by decide +kernel) (pda_cons (pd_dget (hu_of hr) (pd_var (pv 0)) (pd_str s_2) (fun _ _ => rfl)) (pda_nil))) (nomark _)) (pwd_and1 (ptd_cmp (opd_ge) (pd_callB cd_abs (by rfl) e.z_abs (by decide +kernel) (pda_cons (pd_var (pv 4)) (pda_nil))) (pd_op (opd_pow) (pd_int) (pd_int)) (nomark _)))).pt) (pdss_cons (pds_dputC (hu_of hr) (pd_var (pv 0)) (pd_str s_0) (pd_op (opd_div) (pd_op (opd_sub) (pd_callB cd_abs (by rfl) e.z_abs (by decide +kernel) (pda_cons (pd_var (pv 4)) (pda_nil))) (pd_op (opd_pow) (pd_int) (pd_int))) (pd_var (pv 1))))
    (pdss_one (pds_ret (pd_op (opd_mod) (pd_callTy cd_int (by rfl) e.z_int (by decide +kernel) (pda_cons (pd_op (opd_sub) (pd_callB cd_abs (by rfl) e.z_abs (by decide +kernel) (pda_cons (pd_var (pv 4)) (pda_nil))) (pd_op (opd_pow) (pd_int) (pd_int))) (pda_nil))) (pd_var (pv 1)))))) (pdss_nil))
    (pdss_cons (pds_set (i := 5) sc__law_draw.nd rfl (.inl rfl) (pd_op (opd_addA e.kk) (pd_op (opd_mulA) (pd_op (opd_mod) (pd_callTy cd_int (by rfl) e.z_int (by decide +kernel) (pda_cons (pd_var (pv 4)) (pda_nil))) (pd_int)) (pd_int)) (pd_op (opd_mulA) (pd_op (opd_mulA) (pd_int) (pd_var (pv 3))) (pd_var (pv 3)))))
    (pdss_cons (pds_set (i := 5) sc__law_draw.nd rfl (.inl rfl) (pd_op (opd_mod) (pd_callTy cd_int (by rfl) e.z_int (by decide +kernel) (pda_cons (pd_op (opd_addA e.kk) (pd_op (opd_addA e.kk) (pd_var (pv 5)) (pd_op (opd_mulA) (pd_int) (pd_var (pv 3)))) (pd_int)) (pda_nil))) (pd_int)))
    (pdss_cons (pds_set (i := 5) sc__law_draw.nd rfl (.inl rfl) (pd_op (opd_mod) (pd_callTy cd_int (by rfl) e.z_int (by decide +kernel) (pda_cons (pd_op (opd_addA e.kk) (pd_op (opd_addA e.kk) (pd_op (opd_addA e.kk) (pd_op (opd_mulA) (pd_var (pv 5)) (pd_var (pv 5))) (pd_op (opd_mulA) (pd_int) (pd_var (pv 5)))) (pd_op (opd_mulA) (pd_int) (pd_var (pv 3)))) (pd_int)) (pda_nil))) (pd_int)))
    (pdss_cons (pds_set (i := 5) sc__law_draw.nd rfl (.inl rfl) (pd_op (opd_mod) (pd_callTy cd_int (by rfl) e.z_int (by decide +kernel) (pda_cons (pd_op (opd_addA e.kk) (pd_op (opd_addA e.kk) (pd_op (opd_mulA) (pd_var (pv 5)) (pd_var (pv 5))) (pd_op (opd_mulA) (pd_int) (pd_var (pv 5)))) (pd_var (pv 3))) (pda_nil))) (pd_int)))
    (pdss_one (pds_ret (pd_op (opd_mod) (pd_callTy cd_int (by rfl) e.z_int (by decide +kernel) (pda_cons (pd_op (opd_div) (pd_op (opd_mod) (pd_callTy cd_int (by rfl) e.z_int (by decide +kernel) (pda_cons (pd_op (opd_mulA) (pd_var (pv 5)) (pd_op (opd_addA e.kk) (pd_var (pv 5)) (pd_int))) (pda_nil))) (pd_int)) (pd_int)) (pda_nil))) (pd_var (pv 1))))))))))))))
theorem ok__law_number (e : Ev P G mg base) : FnOk P w0 G.K mg base (L2.CX P w0) 3 e.a__law_number e.fd__law_number ["_law_pen", "_law_groups"] (spG G 2 g__law_number) :=
  fn_okD e.F__law_number sc__law_number rfl rfl fun cdv A outer s H E hr tk ps => pdss_cons (pds_set (i := 2) sc__law_number.nd rfl (.inl rfl) (pd_int))
    (pdss_cons (pds_for ps rfl (pdi_range1 (by rfl) e.z_range (pda_cons (pd_op (opd_addA e.kk) (pd_int) (pd_call (ok__law_draw e) (hr.mono (by decide)) (by rfl) e.m__law_draw e.F__law_draw.kp e.b__law_draw tk (pda_cons (pd_var (pv 0)) (pda_cons (pd_var (pv 1)) (pda_nil))))) (pda_nil))) (pdg_name (i := 3) sc__law_number.nd rfl (.inl rfl)) (pdss_one (pds_set (i := 2) sc__law_number.nd rfl (.inl rfl) (pd_op (opd_addA e.kk) (pd_op (opd_mulA) (pd_var (pv 2)) (pd_op (opd_pow) (pd_int) (pd_int))) (pd_call (ok__law_draw e) (hr.mono (by decide)) (by rfl) e.m__law_draw e.F__law_draw.kp e.b__law_draw tk (pda_cons (pd_var (pv 0)) (pda_cons (pd_op (opd_pow) (pd_int) (pd_int)) (pda_nil))))))))
    (pdss_one (pds_ret (pd_var (pv 2)))))
theorem ok__law_great (e : Ev P G mg base) : FnOk P w0 G.K mg base (L2.CX P w0) 5 e.a__law_great e.fd__law_great ["_law_pen"] (spG G 1 g__law_great) :=
  fn_okD e.F__law_great sc__law_great rfl rfl fun cdv A outer s H E hr tk ps => pdss_one (pds_ret (pd_ifExp (ptd_cmp (opd_eq e.kk hr.units) (pd_call (ok__law_draw e) (hr.mono (by decide)) (by rfl) e.m__law_draw e.F__law_draw.kp e.b__law_draw tk (pda_cons (pd_var (pv 0)) (pda_cons (pd_int) (pda_nil)))) (pd_int) (nomark _)) (pd_call (ok__law_draw e) (hr.mono (by decide)) (by rfl) e.m__law_draw e.F__law_draw.kp e.b__law_draw tk (pda_cons (pd_var (pv 0)) (pda_cons (pd_int) (pda_nil)))) (pd_call (ok__law_number e) (hr.mono (by decide)) (by rfl) e.m__law_number e.F__law_number.kp e.b__law_number tk (pda_cons (pd_var (pv 0)) (pda_cons (pd_int) (pda_nil))))))
theorem ok_divisors (e : Ev P G mg base) : FnOk P w0 G.K mg base (L2.CX P w0) 1 e.a_divisors e.fd_divisors ["number"] (spG G 1 g_divisors) :=
  fn_okD e.F_divisors sc_divisors rfl rfl fun cdv A outer s H E hr tk ps => pdss_one (pds_ret (pdo_frz (pdo_lc (own := [("divisor", 1)]) rfl sc_divisors.nd (pdi_range2 (by rfl) e.z_range (pda_cons (pd_int) (pda_cons (pd_op (opd_addA e.kk) (pd_var (pv 0)) (pd_int)) (pda_nil)))) (by exact blkOk_by (N := ["number", "divisor"]) (sc := defScope st_divisors) (own := [("divisor", 1)]) (by decide +kernel)) (by decide) (fun _ _ _ _ _ => pdg_name (i := 1) sc_divisors.nd rfl (.inl rfl)) (fun _ _ _ _ _ => ptds_one (ptd_cmp (opd_eq e.kk hr.units) (pd_op (opd_mod) (pd_var (pv 0)) (pd_var (pv 1))) (pd_int) (nomark _))) (fun _ _ _ _ _ => pd_var (pv 1)))))
theorem ok_inverse (e : Ev P G mg base) : FnOk P w0 G.K mg base (L2.CX P w0) 1 e.a_inverse e.fd_inverse ["number", "prime"] (spG G 2 g_inverse) :=
  fn_okD e.F_inverse sc_inverse rfl rfl fun cdv A outer s H E hr tk ps => pdss_cons (pds_par3 (i := 2) (j := 3) (l := 4) rfl sc_inverse.nd rfl rfl rfl (by decide) (by decide) (by decide) rfl rfl rfl (pda_cons (pd_int) (pda_cons (pd_op (opd_mod) (pd_var (pv 0)) (pd_var (pv 1))) (pda_cons (pd_op (opd_sub) (pd_var (pv 1)) (pd_int)) (pda_nil)))) (by rfl))
    (pdss_cons (pds_while ps (ptd_cmp (opd_gt) (pd_var (pv 4)) (pd_int) (nomark _)) (pdss_cons (pds_if (ptd_cmp (opd_eq e.kk hr.units) (pd_op (opd_mod) (pd_var (pv 4)) (pd_int)) (pd_int) (nomark _)) (pdss_one (pds_set (i := 2) sc_inverse.nd rfl (.inl rfl) (pd_op (opd_mod) (pd_op (opd_mulA) (pd_var (pv 2)) (pd_var (pv 3))) (pd_var (pv 1))))) (pdss_nil))
    (pdss_one (pds_par (i := 3) (j := 4) rfl sc_inverse.nd rfl rfl (by decide) rfl rfl (pda_cons (pd_op (opd_mod) (pd_op (opd_mulA) (pd_var (pv 3)) (pd_var (pv 3))) (pd_var (pv 1))) (pda_cons (pd_op (opd_div) (pd_var (pv 4)) (pd_int)) (pda_nil))) (by rfl)))))
    (pdss_one (pds_ret (pd_var (pv 2)))))
theorem ok_binomial_rest (e : Ev P G mg base) : FnOk P w0 G.K mg base (L2.CX P w0) 3 e.a_binomial_rest e.fd_binomial_rest ["many", "chosen", "prime"] (spG G 3 g_binomial_rest) :=
  fn_okD e.F_binomial_rest sc_binomial_rest rfl rfl fun cdv A outer s H E hr tk ps => pdss_cons (pds_asg (pd_tup (pda_cons (pd_int) (pda_cons (pd_int) (pda_nil)))) (pdg_tup rfl rfl (pdgs_cons (pdg_name (i := 3) sc_binomial_rest.nd rfl (.inl rfl)) (pdgs_cons (pdg_name (i := 4) sc_binomial_rest.nd rfl (.inl rfl)) (pdgs_nil)))))
    (pdss_cons (pds_for ps rfl (pdi_range2 (by rfl) e.z_range (pda_cons (pd_int) (pda_cons (pd_op (opd_addA e.kk) (pd_callB (cd_min2 rfl) (by rfl) e.z_min (by decide +kernel) (pda_cons (pd_callTy cd_int (by rfl) e.z_int (by decide +kernel) (pda_cons (pd_var (pv 1)) (pda_nil))) (pda_cons (pd_callTy cd_int (by rfl) e.z_int (by decide +kernel) (pda_cons (pd_op (opd_sub) (pd_var (pv 0)) (pd_var (pv 1))) (pda_nil))) (pda_nil)))) (pd_int)) (pda_nil)))) (pdg_name (i := 5) sc_binomial_rest.nd rfl (.inl rfl)) (pdss_one (pds_par (i := 3) (j := 4) rfl sc_binomial_rest.nd rfl rfl (by decide) rfl rfl (pda_cons (pd_op (opd_mod) (pd_op (opd_mulA) (pd_var (pv 3)) (pd_op (opd_addA e.kk) (pd_op (opd_sub) (pd_var (pv 0)) (pd_var (pv 5))) (pd_int))) (pd_var (pv 2))) (pda_cons (pd_op (opd_mod) (pd_op (opd_mulA) (pd_var (pv 4)) (pd_var (pv 5))) (pd_var (pv 2))) (pda_nil))) (by rfl))))
    (pdss_one (pds_ret (pd_op (opd_mod) (pd_op (opd_mulA) (pd_var (pv 3)) (pd_call (ok_inverse e) (hr.mono (by decide)) (by rfl) e.m_inverse e.F_inverse.kp e.b_inverse tk (pda_cons (pd_var (pv 4)) (pda_cons (pd_var (pv 2)) (pda_nil))))) (pd_var (pv 2))))))
theorem ok_far_binomial (e : Ev P G mg base) : FnOk P w0 G.K mg base (L2.CX P w0) 5 e.a_far_binomial e.fd_far_binomial ["many", "chosen", "prime"] (spG G 3 g_far_binomial) :=
  fn_okD e.F_far_binomial sc_far_binomial rfl rfl fun cdv A outer s H E hr tk ps => pdss_cons (pds_set (i := 3) sc_far_binomial.nd rfl (.inl rfl) (pd_int))
    (pdss_cons (pds_while ps (ptd_cmp (opd_gt) (pd_var (pv 1)) (pd_int) (nomark _)) (pdss_cons (pds_par (i := 4) (j := 5) rfl sc_far_binomial.nd rfl rfl (by decide) rfl rfl (pda_cons (pd_op (opd_mod) (pd_var (pv 0)) (pd_var (pv 2))) (pda_cons (pd_op (opd_mod) (pd_var (pv 1)) (pd_var (pv 2))) (pda_nil))) (by rfl))
    (pdss_cons (pds_if (ptd_cmp (opd_gt) (pd_var (pv 5)) (pd_var (pv 4)) (nomark _)) (pdss_one (pds_ret (pd_int))) (pdss_nil))
    (pdss_cons (pds_set (i := 3) sc_far_binomial.nd rfl (.inl rfl) (pd_op (opd_mod) (pd_op (opd_mulA) (pd_var (pv 3)) (pd_call (ok_binomial_rest e) (hr.mono (by decide)) (by rfl) e.m_binomial_rest e.F_binomial_rest.kp e.b_binomial_rest tk (pda_cons (pd_var (pv 4)) (pda_cons (pd_var (pv 5)) (pda_cons (pd_var (pv 2)) (pda_nil)))))) (pd_var (pv 2))))
    (pdss_one (pds_par (i := 0) (j := 1) rfl sc_far_binomial.nd rfl rfl (by decide) rfl rfl (pda_cons (pd_op (opd_div) (pd_var (pv 0)) (pd_var (pv 2))) (pda_cons (pd_op (opd_div) (pd_var (pv 1)) (pd_var (pv 2))) (pda_nil))) (by rfl)))))))
    (pdss_one (pds_ret (pd_var (pv 3)))))
theorem ok_is_prime (e : Ev P G mg base) : FnOk P w0 G.K mg base (L2.CX P w0) 1 e.a_is_prime e.fd_is_prime ["number"] (spG G 1 g_is_prime) :=
  fn_okD e.F_is_prime sc_is_prime rfl rfl fun cdv A outer s H E hr tk ps => pdss_one (pds_ret (pd_notT e.kk (pd_callB (cd_any rfl) (by rfl) e.z_any (by decide +kernel) (pda_cons (pdo_frz (pdo_lc (own := [("divisor", 1)]) rfl sc_is_prime.nd (pdi_range2 (by rfl) e.z_range (pda_cons (pd_int) (pda_cons (pd_var (pv 0)) (pda_nil)))) (by exact blkOk_by (N := ["number", "divisor"]) (sc := defScope st_is_prime) (own := [("divisor", 1)]) (by decide +kernel)) (by decide) (fun _ _ _ _ _ => pdg_name (i := 1) sc_is_prime.nd rfl (.inl rfl)) (fun _ _ _ _ _ => ptds_one (ptd_cmp (opd_le) (pd_op (opd_mulA) (pd_var (pv 1)) (pd_var (pv 1))) (pd_var (pv 0)) (nomark _))) (fun _ _ _ _ _ => pd_cmp (opd_eq e.kk hr.units) (pd_op (opd_mod) (pd_var (pv 0)) (pd_var (pv 1))) (pd_int) (nomark _)))) (pda_nil)))))
theorem ok_is_integer (e : Ev P G mg base) : FnOk P w0 G.K mg base (L2.CX P w0) 1 e.a_is_integer e.fd_is_integer ["value"] (spG G 1 g_is_integer) :=
  fn_okD e.F_is_integer sc_is_integer rfl rfl fun cdv A outer s H E hr tk ps => pdss_one (pds_ret (pd_andT e.kk (pd_callB (cd_isi rfl e.iso) (by rfl) e.z_isinstance (by decide +kernel) (pda_cons (pd_var (pv 0)) (pda_cons (pd_bltn (by rfl) e.z_int boot_int) (pda_nil)))) (pd_one (pd_notT e.kk (pd_callB (cd_isi rfl e.iso) (by rfl) e.z_isinstance (by decide +kernel) (pda_cons (pd_var (pv 0)) (pda_cons (pd_bltn (by rfl) e.z_bool boot_bool) (pda_nil))))))))
theorem ok_is_whole (e : Ev P G mg base) : FnOk P w0 G.K mg base (L2.CX P w0) 3 e.a_is_whole e.fd_is_whole ["value", "least"] (spG G 2 g_is_whole) :=
  fn_okD e.F_is_whole sc_is_whole rfl rfl fun cdv A outer s H E hr tk ps => pdss_one (pds_ret (pd_andT e.kk (pd_call (ok_is_integer e) (hr.mono (by decide)) (by rfl) e.m_is_integer e.F_is_integer.kp e.b_is_integer tk (pda_cons (pd_var (pv 0)) (pda_nil))) (pd_one (pd_cmp (opd_ge) (pd_var (pv 0)) (pd_var (pv 1)) (nomark _)))))
theorem ok_need_whole (e : Ev P G mg base) : FnOk P w0 G.K mg base (L2.CX P w0) 5 e.a_need_whole e.fd_need_whole ["values", "least"] (spG G 2 g_need_whole) :=
  fn_okD e.F_need_whole sc_need_whole rfl rfl fun cdv A outer s H E hr tk ps => pdss_one (pds_for ps rfl (pdi_seq rfl (pd_var (pv 0))) (pdg_name (i := 2) sc_need_whole.nd rfl (.inl rfl)) (pdss_one (pds_if (ptd_not (ptd_truth e.kk (pd_call (ok_is_whole e) (hr.mono (by decide)) (by rfl) e.m_is_whole e.F_is_whole.kp e.b_is_whole tk (pda_cons (pd_var (pv 2)) (pda_cons (pd_var (pv 1)) (pda_nil)))))) (pdss_one (pds_raise rfl tk e.X_BadNumber.T e.X_BadNumber.I s_3 e.X_BadNumber.B (hr.mono (by decide)) (by rfl) e.m_BadNumber (pda_cons (pd_var (pv 2)) (pda_nil)))) (pdss_nil))))
theorem ok_need_rest (e : Ev P G mg base) : FnOk P w0 G.K mg base (L2.CX P w0) 7 e.a_need_rest e.fd_need_rest ["x", "y", "modulus", "rest"] (spG G 4 g_need_rest) :=
  fn_okD e.F_need_rest sc_need_rest rfl rfl fun cdv A outer s H E hr tk ps => pdss_cons (pds_expr (pd_call (ok_need_whole e) (hr.mono (by decide)) (by rfl) e.m_need_whole e.F_need_whole.kp e.b_need_whole tk (pda_cons (pdo_frz (pdo_lst (pda_cons (pd_var (pv 0)) (pda_cons (pd_var (pv 1)) (pda_nil))))) (pda_cons (pd_int) (pda_nil)))))
    (pdss_cons (pds_expr (pd_call (ok_need_whole e) (hr.mono (by decide)) (by rfl) e.m_need_whole e.F_need_whole.kp e.b_need_whole tk (pda_cons (pdo_frz (pdo_lst (pda_cons (pd_var (pv 2)) (pda_nil)))) (pda_cons (pd_int) (pda_nil)))))
    (pdss_cons (pds_expr (pd_call (ok_need_whole e) (hr.mono (by decide)) (by rfl) e.m_need_whole e.F_need_whole.kp e.b_need_whole tk (pda_cons (pdo_frz (pdo_lst (pda_cons (pd_var (pv 3)) (pda_nil)))) (pda_cons (pd_int) (pda_nil)))))
    (pdss_cons (pds_if (ptd_cmp (opd_gt) (pd_var (pv 2)) (pd_const (by rfl) e.kc_MOST_MODULUS e.kr_MOST_MODULUS) (nomark _)) (pdss_one (pds_raise rfl tk e.X_BadNumber.T e.X_BadNumber.I s_3 e.X_BadNumber.B (hr.mono (by decide)) (by rfl) e.m_BadNumber (pda_cons (pd_var (pv 2)) (pda_nil)))) (pdss_nil))
    (pdss_one (pds_if (ptd_cmp (opd_ge) (pd_var (pv 3)) (pd_var (pv 2)) (nomark _)) (pdss_one (pds_raise rfl tk e.X_BadNumber.T e.X_BadNumber.I s_3 e.X_BadNumber.B (hr.mono (by decide)) (by rfl) e.m_BadNumber (pda_cons (pd_var (pv 3)) (pda_nil)))) (pdss_nil))))))
theorem ok_gaussian (e : Ev P G mg base) : FnOk P w0 G.K mg base (L2.CX P w0) 1 e.a_gaussian e.fd_gaussian ["many", "chosen"] (spG G 2 g_gaussian) :=
  fn_okD e.F_gaussian sc_gaussian rfl rfl fun cdv A outer s H E hr tk ps => pdss_cons (pds_if (ptd_cmp (opd_gt) (pd_var (pv 1)) (pd_var (pv 0)) (nomark _)) (pdss_one (pds_ret (pdo_frz (pdo_lst (pda_nil))))) (pdss_nil))
    (pdss_cons (pds_set (i := 2) sc_gaussian.nd rfl (.inl rfl) (pd_op (opd_addA e.kk) (pd_op (opd_mulA) (pd_var (pv 1)) (pd_op (opd_sub) (pd_var (pv 0)) (pd_var (pv 1)))) (pd_int)))
    (pdss_cons (pds_setO (i := 3) sc_gaussian.nd rfl (.inl rfl) (pdo_cat (pdo_frz (pdo_lst (pda_cons (pd_int) (pda_nil)))) (pd_op (opd_mulA) (pdo_frz (pdo_lst (pda_cons (pd_int) (pda_nil)))) (pd_op (opd_sub) (pd_var (pv 2)) (pd_int)))))
    (pdss_cons (pds_for ps rfl (pdi_range2 (by rfl) e.z_range (pda_cons (pd_int) (pda_cons (pd_op (opd_addA e.kk) (pd_var (pv 1)) (pd_int)) (pda_nil)))) (pdg_name (i := 4) sc_gaussian.nd rfl (.inl rfl)) (pdss_cons (pds_set (i := 5) sc_gaussian.nd rfl (.inl rfl) (pd_op (opd_addA e.kk) (pd_op (opd_sub) (pd_var (pv 0)) (pd_var (pv 1))) (pd_var (pv 4))))
    (pdss_cons (pds_for ps rfl (pdi_range3 (by rfl) e.z_range (pda_cons (pd_op (opd_sub) (pd_var (pv 2)) (pd_int)) (pda_cons (pd_op (opd_sub) (pd_var (pv 5)) (pd_int)) (pda_cons (pd_neg (pd_int)) (pda_nil))))) (pdg_name (i := 6) sc_gaussian.nd rfl (.inl rfl)) (pdss_one (pds_augIxO (pv 3) (pd_var (pv 6)) (pd_ixO e.kk (pv 3) (pd_op (opd_sub) (pd_var (pv 6)) (pd_var (pv 5))) (fun _ _ => rfl)) ip_sub)))
    (pdss_one (pds_for ps rfl (pdi_range2 (by rfl) e.z_range (pda_cons (pd_var (pv 4)) (pda_cons (pd_var (pv 2)) (pda_nil)))) (pdg_name (i := 6) sc_gaussian.nd rfl (.inl rfl)) (pdss_one (pds_augIxO (pv 3) (pd_var (pv 6)) (pd_ixO e.kk (pv 3) (pd_op (opd_sub) (pd_var (pv 6)) (pd_var (pv 4))) (fun _ _ => rfl)) ip_add)))))))
    (pdss_one (pds_ret (pd_var (pv 3)))))))
theorem ok_divisor_of (e : Ev P G mg base) : FnOk P w0 G.K mg base (L2.CX P w0) 1 e.a_divisor_of e.fd_divisor_of ["one", "other"] (spG G 2 g_divisor_of) :=
  fn_okD e.F_divisor_of sc_divisor_of rfl rfl fun cdv A outer s H E hr tk ps => pdss_cons (pds_par (i := 0) (j := 1) rfl sc_divisor_of.nd rfl rfl (by decide) rfl rfl (pda_cons (pd_callB cd_abs (by rfl) e.z_abs (by decide +kernel) (pda_cons (pd_var (pv 0)) (pda_nil))) (pda_cons (pd_callB cd_abs (by rfl) e.z_abs (by decide +kernel) (pda_cons (pd_var (pv 1)) (pda_nil))) (pda_nil))) (by rfl))
    (pdss_cons (pds_while ps (ptd_cmp (opd_gt) (pd_var (pv 1)) (pd_int) (nomark _)) (pdss_one (pds_par (i := 0) (j := 1) rfl sc_divisor_of.nd rfl rfl (by decide) rfl rfl (pda_cons (pd_var (pv 1)) (pda_cons (pd_op (opd_mod) (pd_var (pv 0)) (pd_var (pv 1))) (pda_nil))) (by rfl))))
    (pdss_one (pds_ret (pd_var (pv 0)))))
theorem ok_moebius (e : Ev P G mg base) : FnOk P w0 G.K mg base (L2.CX P w0) 1 e.a_moebius e.fd_moebius ["number"] (spG G 1 g_moebius) :=
  fn_okD e.F_moebius sc_moebius rfl rfl fun cdv A outer s H E hr tk ps => pdss_cons (pds_asg (pd_tup (pda_cons (pd_int) (pda_cons (pd_int) (pda_nil)))) (pdg_tup rfl rfl (pdgs_cons (pdg_name (i := 1) sc_moebius.nd rfl (.inl rfl)) (pdgs_cons (pdg_name (i := 2) sc_moebius.nd rfl (.inl rfl)) (pdgs_nil)))))
    (pdss_cons (pds_while ps (ptd_cmp (opd_gt) (pd_var (pv 0)) (pd_int) (nomark _)) (pdss_cons (pds_if (ptd_cmp (opd_eq e.kk hr.units) (pd_op (opd_mod) (pd_var (pv 0)) (pd_var (pv 2))) (pd_int) (nomark _)) (pdss_cons (pds_set (i := 0) sc_moebius.nd rfl (.inl rfl) (pd_op (opd_div) (pd_var (pv 0)) (pd_var (pv 2))))
    (pdss_cons (pds_if (ptd_cmp (opd_eq e.kk hr.units) (pd_op (opd_mod) (pd_var (pv 0)) (pd_var (pv 2))) (pd_int) (nomark _)) (pdss_one (pds_ret (pd_int))) (pdss_nil))
    (pdss_one (pds_set (i := 1) sc_moebius.nd rfl (.inl rfl) (pd_neg (pd_var (pv 1))))))) (pdss_nil))
    (pdss_one (pds_aug (i := 2) sc_moebius.nd rfl (.inl rfl) (pd_int) ip_add))))
    (pdss_one (pds_ret (pd_var (pv 1)))))
theorem ok_root_sum (e : Ev P G mg base) : FnOk P w0 G.K mg base (L2.CX P w0) 3 e.a_root_sum e.fd_root_sum ["order", "power"] (spG G 2 g_root_sum) :=
  fn_okD e.F_root_sum sc_root_sum rfl rfl fun cdv A outer s H E hr tk ps => pdss_one (pds_ret (pd_callB (cd_sum rfl) (by rfl) e.z_sum (by decide +kernel) (pda_cons (pdo_frz (pdo_lc (own := [("divisor", 2)]) rfl sc_root_sum.nd (pdi_seq rfl (pd_call (ok_divisors e) (hr.mono (by decide)) (by rfl) e.m_divisors e.F_divisors.kp e.b_divisors tk (pda_cons (pd_call (ok_divisor_of e) (hr.mono (by decide)) (by rfl) e.m_divisor_of e.F_divisor_of.kp e.b_divisor_of tk (pda_cons (pd_var (pv 0)) (pda_cons (pd_var (pv 1)) (pda_nil)))) (pda_nil)))) (by exact blkOk_by (N := ["order", "power", "divisor"]) (sc := defScope st_root_sum) (own := [("divisor", 2)]) (by decide +kernel)) (by decide) (fun _ _ _ _ _ => pdg_name (i := 2) sc_root_sum.nd rfl (.inl rfl)) (fun _ _ _ _ _ => ptds_nil) (fun _ _ _ _ _ => pd_op (opd_mulA) (pd_call (ok_moebius e) (hr.mono (by decide)) (by rfl) e.m_moebius e.F_moebius.kp e.b_moebius takes0 (pda_cons (pd_op (opd_div) (pd_var (pv 0)) (pd_var (pv 2))) (pda_nil))) (pd_var (pv 2))))) (pda_nil))))
theorem ok_share (e : Ev P G mg base) : FnOk P w0 G.K mg base (L2.CX P w0) 5 e.a_share e.fd_share ["x", "y", "order", "rest"] (spG G 4 g_share) :=
  fn_okD e.F_share sc_share rfl rfl fun cdv A outer s H E hr tk ps => pdss_cons (pds_set (i := 4) sc_share.nd rfl (.inl rfl) (pd_call (ok_gaussian e) (hr.mono (by decide)) (by rfl) e.m_gaussian e.F_gaussian.kp e.b_gaussian tk (pda_cons (pd_op (opd_mod) (pd_op (opd_addA e.kk) (pd_var (pv 0)) (pd_var (pv 1))) (pd_var (pv 2))) (pda_cons (pd_op (opd_mod) (pd_var (pv 0)) (pd_var (pv 2))) (pda_nil)))))
    (pdss_one (pds_ret (pd_callB (cd_sum rfl) (by rfl) e.z_sum (by decide +kernel) (pda_cons (pdo_frz (pdo_lc (own := [("area", 5), ("part", 6)]) rfl sc_share.nd (pdi_enum rfl (by rfl) e.z_enumerate (pda_cons (pd_var (pv 4)) (pda_nil))) (by exact blkOk_by (N := ["x", "y", "order", "rest", "parts", "area", "part"]) (sc := defScope st_share) (own := [("area", 5), ("part", 6)]) (by decide +kernel)) (by decide) (fun _ _ _ _ _ => pdg_tup rfl rfl (pdgs_cons (pdg_name (i := 5) sc_share.nd rfl (.inl rfl)) (pdgs_cons (pdg_name (i := 6) sc_share.nd rfl (.inl rfl)) (pdgs_nil)))) (fun _ _ _ _ _ => ptds_nil) (fun _ _ _ _ _ => pd_op (opd_mulA) (pd_var (pv 6)) (pd_call (ok_root_sum e) (hr.mono (by decide)) (by rfl) e.m_root_sum e.F_root_sum.kp e.b_root_sum takes0 (pda_cons (pd_var (pv 2)) (pda_cons (pd_op (opd_sub) (pd_var (pv 5)) (pd_var (pv 3))) (pda_nil))))))) (pda_nil)))))
theorem ok_far_paths (e : Ev P G mg base) : FnOk P w0 G.K mg base (L2.CX P w0) 9 e.a_far_paths e.fd_far_paths ["x", "y", "modulus", "rest", "prime"] (spG G 5 g_far_paths) :=
  fn_okD e.F_far_paths sc_far_paths rfl rfl fun cdv A outer s H E hr tk ps => pdss_cons (pds_expr (pd_call (ok_need_whole e) (hr.mono (by decide)) (by rfl) e.m_need_whole e.F_need_whole.kp e.b_need_whole tk (pda_cons (pdo_frz (pdo_lst (pda_cons (pd_var (pv 0)) (pda_cons (pd_var (pv 1)) (pda_nil))))) (pda_cons (pd_int) (pda_nil)))))
    (pdss_cons (pds_expr (pd_call (ok_need_whole e) (hr.mono (by decide)) (by rfl) e.m_need_whole e.F_need_whole.kp e.b_need_whole tk (pda_cons (pdo_frz (pdo_lst (pda_cons (pd_var (pv 2)) (pda_nil)))) (pda_cons (pd_int) (pda_nil)))))
    (pdss_cons (pds_expr (pd_call (ok_need_whole e) (hr.mono (by decide)) (by rfl) e.m_need_whole e.F_need_whole.kp e.b_need_whole tk (pda_cons (pdo_frz (pdo_lst (pda_cons (pd_var (pv 3)) (pda_nil)))) (pda_cons (pd_int) (pda_nil)))))
    (pdss_cons (pds_expr (pd_call (ok_need_whole e) (hr.mono (by decide)) (by rfl) e.m_need_whole e.F_need_whole.kp e.b_need_whole tk (pda_cons (pdo_frz (pdo_lst (pda_cons (pd_var (pv 4)) (pda_nil)))) (pda_cons (pd_int) (pda_nil)))))
    (pdss_cons (pds_expr (pd_call (ok_need_rest e) (hr.mono (by decide)) (by rfl) e.m_need_rest e.F_need_rest.kp e.b_need_rest tk (pda_cons (pd_var (pv 0)) (pda_cons (pd_var (pv 1)) (pda_cons (pd_var (pv 2)) (pda_cons (pd_var (pv 3)) (pda_nil)))))))
    (pdss_cons (pds_if ((pwd_or (ptd_cmp (opd_gt) (pd_var (pv 4)) (pd_const (by rfl) e.kc_MOST_PRIME e.kr_MOST_PRIME) (nomark _)) (pwd_or (ptd_not (ptd_truth e.kk (pd_call (ok_is_prime e) (hr.mono (by decide)) (by rfl) e.m_is_prime e.F_is_prime.kp e.b_is_prime tk (pda_cons (pd_var (pv 4)) (pda_nil))))) (pwd_or1 (ptd_cmp (opd_eq e.kk hr.units) (pd_op (opd_mod) (pd_var (pv 2)) (pd_var (pv 4))) (pd_int) (nomark _))))).pt) (pdss_one (pds_raise rfl tk e.X_BadNumber.T e.X_BadNumber.I s_3 e.X_BadNumber.B (hr.mono (by decide)) (by rfl) e.m_BadNumber (pda_cons (pd_var (pv 4)) (pda_nil)))) (pdss_nil))
    (pdss_cons (pds_set (i := 5) sc_far_paths.nd rfl (.inl rfl) (pd_int))
    (pdss_cons (pds_for ps rfl (pdi_seq rfl (pd_call (ok_divisors e) (hr.mono (by decide)) (by rfl) e.m_divisors e.F_divisors.kp e.b_divisors tk (pda_cons (pd_var (pv 2)) (pda_nil)))) (pdg_name (i := 6) sc_far_paths.nd rfl (.inl rfl)) (pdss_one (pds_aug (i := 5) sc_far_paths.nd rfl (.inl rfl) (pd_op (opd_mulA) (pd_call (ok_share e) (hr.mono (by decide)) (by rfl) e.m_share e.F_share.kp e.b_share tk (pda_cons (pd_var (pv 0)) (pda_cons (pd_var (pv 1)) (pda_cons (pd_var (pv 6)) (pda_cons (pd_var (pv 3)) (pda_nil)))))) (pd_call (ok_far_binomial e) (hr.mono (by decide)) (by rfl) e.m_far_binomial e.F_far_binomial.kp e.b_far_binomial tk (pda_cons (pd_op (opd_div) (pd_op (opd_addA e.kk) (pd_var (pv 0)) (pd_var (pv 1))) (pd_var (pv 6))) (pda_cons (pd_op (opd_div) (pd_var (pv 0)) (pd_var (pv 6))) (pda_cons (pd_var (pv 4)) (pda_nil)))))) ip_add)))
    (pdss_one (pds_ret (pd_op (opd_mod) (pd_op (opd_mulA) (pd_var (pv 5)) (pd_call (ok_inverse e) (hr.mono (by decide)) (by rfl) e.m_inverse e.F_inverse.kp e.b_inverse tk (pda_cons (pd_var (pv 2)) (pda_cons (pd_var (pv 4)) (pda_nil))))) (pd_var (pv 4))))))))))))
theorem ok__law_is_stepped (e : Ev P G mg base) : FnOk P w0 G.K mg base (L2.CX P w0) 11 e.a__law_is_stepped e.fd__law_is_stepped ["_law_x", "_law_y", "_law_modulus", "_law_rest", "_law_prime"] (spG G 5 g__law_is_stepped) :=
  fn_okD e.F__law_is_stepped sc__law_is_stepped rfl rfl fun cdv A outer s H E hr tk ps => pdss_cons (pds_set (i := 5) sc__law_is_stepped.nd rfl (.inl rfl) (pd_call (ok_far_paths e) (hr.mono (by decide)) (by rfl) e.m_far_paths e.F_far_paths.kp e.b_far_paths tk (pda_cons (pd_var (pv 0)) (pda_cons (pd_var (pv 1)) (pda_cons (pd_var (pv 2)) (pda_cons (pd_var (pv 3)) (pda_cons (pd_var (pv 4)) (pda_nil))))))))
    (pdss_cons (pds_set (i := 6) sc__law_is_stepped.nd rfl (.inl rfl) (pd_op (opd_addA e.kk) (pd_call (ok_far_paths e) (hr.mono (by decide)) (by rfl) e.m_far_paths e.F_far_paths.kp e.b_far_paths tk (pda_cons (pd_op (opd_sub) (pd_var (pv 0)) (pd_int)) (pda_cons (pd_var (pv 1)) (pda_cons (pd_var (pv 2)) (pda_cons (pd_var (pv 3)) (pda_cons (pd_var (pv 4)) (pda_nil))))))) (pd_call (ok_far_paths e) (hr.mono (by decide)) (by rfl) e.m_far_paths e.F_far_paths.kp e.b_far_paths tk (pda_cons (pd_var (pv 0)) (pda_cons (pd_op (opd_sub) (pd_var (pv 1)) (pd_int)) (pda_cons (pd_var (pv 2)) (pda_cons (pd_op (opd_mod) (pd_callTy cd_int (by rfl) e.z_int (by decide +kernel) (pda_cons (pd_op (opd_sub) (pd_var (pv 3)) (pd_var (pv 0))) (pda_nil))) (pd_var (pv 2))) (pda_cons (pd_var (pv 4)) (pda_nil)))))))))
    (pdss_cons (pds_set (i := 7) sc__law_is_stepped.nd rfl (.inl rfl) (pd_op (opd_addA e.kk) (pd_call (ok_far_paths e) (hr.mono (by decide)) (by rfl) e.m_far_paths e.F_far_paths.kp e.b_far_paths tk (pda_cons (pd_op (opd_sub) (pd_var (pv 0)) (pd_int)) (pda_cons (pd_var (pv 1)) (pda_cons (pd_var (pv 2)) (pda_cons (pd_op (opd_mod) (pd_callTy cd_int (by rfl) e.z_int (by decide +kernel) (pda_cons (pd_op (opd_sub) (pd_var (pv 3)) (pd_var (pv 1))) (pda_nil))) (pd_var (pv 2))) (pda_cons (pd_var (pv 4)) (pda_nil))))))) (pd_call (ok_far_paths e) (hr.mono (by decide)) (by rfl) e.m_far_paths e.F_far_paths.kp e.b_far_paths tk (pda_cons (pd_var (pv 0)) (pda_cons (pd_op (opd_sub) (pd_var (pv 1)) (pd_int)) (pda_cons (pd_var (pv 2)) (pda_cons (pd_var (pv 3)) (pda_cons (pd_var (pv 4)) (pda_nil)))))))))
    (pdss_one (pds_ret (pd_andT e.kk (pd_cmp (opd_eq e.kk hr.units) (pd_var (pv 5)) (pd_op (opd_mod) (pd_var (pv 6)) (pd_var (pv 4))) (nomark _)) (pd_andT e.kk (pd_cmp (opd_eq e.kk hr.units) (pd_var (pv 5)) (pd_op (opd_mod) (pd_var (pv 7)) (pd_var (pv 4))) (nomark _)) (pd_one (pd_chain (opd_le) (opd_lt) (pd_int) (pd_var (pv 5)) (pd_var (pv 4)) (fun h1 h2 h3 h4 h5 => pe_chain h1 h2 h3 h4 h5)))))))))
theorem ok__law_pick (e : Ev P G mg base) : FnOk P w0 G.K mg base (L2.CX P w0) 3 e.a__law_pick e.fd__law_pick ["_law_pen", "_law_some"] (spG G 2 g__law_pick) :=
  fn_okD e.F__law_pick sc__law_pick rfl rfl fun cdv A outer s H E hr tk ps => pdss_one (pds_ret (pd_ix e.kk (pd_var (pv 1)) (pd_call (ok__law_draw e) (hr.mono (by decide)) (by rfl) e.m__law_draw e.F__law_draw.kp e.b__law_draw tk (pda_cons (pd_var (pv 0)) (pda_cons (pd_callB (cd_len rfl) (by rfl) e.z_len (by decide +kernel) (pda_cons (pd_var (pv 1)) (pda_nil))) (pda_nil)))) (fun _ _ => rfl)))
theorem ok__law_parted (e : Ev P G mg base) : FnOk P w0 G.K mg base (L2.CX P w0) 5 e.a__law_parted e.fd__law_parted ["_law_pen"] (spG G 1 g__law_parted) :=
  fn_okD e.F__law_parted sc__law_parted rfl rfl fun cdv A outer s H E hr tk ps => pdss_cons (pds_set (i := 1) sc__law_parted.nd rfl (.inr rfl) (pd_op (opd_addA e.kk) (pd_int) (pd_call (ok__law_draw e) (hr.mono (by decide)) (by rfl) e.m__law_draw e.F__law_draw.kp e.b__law_draw tk (pda_cons (pd_var (pv 0)) (pda_cons (pd_int) (pda_nil))))))
    (pdss_cons (pds_setLc (i := 2) (own := [("_law_prime", 3)]) rfl sc__law_parted.nd rfl rfl (sw_true rfl rfl rfl (by decide +kernel)) (pdi_seq rfl (pdo_frz (pdo_lst (pda_cons (pd_int) (pda_cons (pd_int) (pda_cons (pd_int) (pda_cons (pd_int) (pda_cons (pd_int) (pda_cons (pd_int) (pda_cons (pd_int) (pda_cons (pd_int) (pda_cons (pd_int) (pda_cons (pd_int) (pda_nil)))))))))))))) (by exact blkOk_by (N := ["_law_pen", "_law_modulus", "_law_primes", "_law_prime"]) (sc := defScope st__law_parted) (own := [("_law_prime", 3)]) (by decide +kernel)) (by decide) (fun _ _ _ _ _ => pdg_name (i := 3) sc__law_parted.nd rfl (.inl rfl)) (fun _ _ _ _ _ => ptds_one (ptd_cmp (opd_ne e.kk hr.units) (pd_op (opd_mod) (pd_var (pv 1)) (pd_var (pv 3))) (pd_int) (nomark _))) (fun _ _ _ _ _ => pd_var (pv 3)))
    (pdss_one (pds_ret (pd_tup (pda_cons (pd_var (pv 1)) (pda_cons (pd_call (ok__law_pick e) (hr.mono (by decide)) (by rfl) e.m__law_pick e.F__law_pick.kp e.b__law_pick tk (pda_cons (pd_var (pv 0)) (pda_cons (pd_var (pv 2)) (pda_nil)))) (pda_nil)))))))
theorem ok_binomial (e : Ev P G mg base) : FnOk P w0 G.K mg base (L2.CX P w0) 1 e.a_binomial e.fd_binomial ["many", "chosen"] (spG G 2 g_binomial) :=
  fn_okD e.F_binomial sc_binomial rfl rfl fun cdv A outer s H E hr tk ps => pdss_cons (pds_set (i := 2) sc_binomial.nd rfl (.inl rfl) (pd_int))
    (pdss_cons (pds_for ps rfl (pdi_range2 (by rfl) e.z_range (pda_cons (pd_int) (pda_cons (pd_op (opd_addA e.kk) (pd_callB (cd_min2 rfl) (by rfl) e.z_min (by decide +kernel) (pda_cons (pd_callTy cd_int (by rfl) e.z_int (by decide +kernel) (pda_cons (pd_var (pv 1)) (pda_nil))) (pda_cons (pd_callTy cd_int (by rfl) e.z_int (by decide +kernel) (pda_cons (pd_op (opd_sub) (pd_var (pv 0)) (pd_var (pv 1))) (pda_nil))) (pda_nil)))) (pd_int)) (pda_nil)))) (pdg_name (i := 3) sc_binomial.nd rfl (.inl rfl)) (pdss_one (pds_set (i := 2) sc_binomial.nd rfl (.inl rfl) (pd_op (opd_div) (pd_op (opd_mulA) (pd_var (pv 2)) (pd_op (opd_addA e.kk) (pd_op (opd_sub) (pd_var (pv 0)) (pd_var (pv 3))) (pd_int))) (pd_var (pv 3))))))
    (pdss_one (pds_ret (pd_var (pv 2)))))
theorem ok_paths_by_rest (e : Ev P G mg base) : FnOk P w0 G.K mg base (L2.CX P w0) 9 e.a_paths_by_rest e.fd_paths_by_rest ["x", "y", "modulus", "rest"] (spG G 4 g_paths_by_rest) :=
  fn_okD e.F_paths_by_rest sc_paths_by_rest rfl rfl fun cdv A outer s H E hr tk ps => pdss_cons (pds_expr (pd_call (ok_need_rest e) (hr.mono (by decide)) (by rfl) e.m_need_rest e.F_need_rest.kp e.b_need_rest tk (pda_cons (pd_var (pv 0)) (pda_cons (pd_var (pv 1)) (pda_cons (pd_var (pv 2)) (pda_cons (pd_var (pv 3)) (pda_nil)))))))
    (pdss_cons (pds_for ps rfl (pdi_seq rfl (pd_tup (pda_cons (pd_var (pv 0)) (pda_cons (pd_var (pv 1)) (pda_nil))))) (pdg_name (i := 4) sc_paths_by_rest.nd rfl (.inl rfl)) (pdss_one (pds_if (ptd_cmp (opd_gt) (pd_var (pv 4)) (pd_const (by rfl) e.kc_MOST_SIDE e.kr_MOST_SIDE) (nomark _)) (pdss_one (pds_raise rfl tk e.X_TooFar.T e.X_TooFar.I s_4 e.X_TooFar.B (hr.mono (by decide)) (by rfl) e.m_TooFar (pda_cons (pd_var (pv 4)) (pda_nil)))) (pdss_nil))))
    (pdss_cons (pds_set (i := 5) sc_paths_by_rest.nd rfl (.inl rfl) (pd_int))
    (pdss_cons (pds_for ps rfl (pdi_seq rfl (pd_call (ok_divisors e) (hr.mono (by decide)) (by rfl) e.m_divisors e.F_divisors.kp e.b_divisors tk (pda_cons (pd_var (pv 2)) (pda_nil)))) (pdg_name (i := 6) sc_paths_by_rest.nd rfl (.inl rfl)) (pdss_one (pds_aug (i := 5) sc_paths_by_rest.nd rfl (.inl rfl) (pd_op (opd_mulA) (pd_call (ok_share e) (hr.mono (by decide)) (by rfl) e.m_share e.F_share.kp e.b_share tk (pda_cons (pd_var (pv 0)) (pda_cons (pd_var (pv 1)) (pda_cons (pd_var (pv 6)) (pda_cons (pd_var (pv 3)) (pda_nil)))))) (pd_call (ok_binomial e) (hr.mono (by decide)) (by rfl) e.m_binomial e.F_binomial.kp e.b_binomial tk (pda_cons (pd_op (opd_div) (pd_op (opd_addA e.kk) (pd_var (pv 0)) (pd_var (pv 1))) (pd_var (pv 6))) (pda_cons (pd_op (opd_div) (pd_var (pv 0)) (pd_var (pv 6))) (pda_nil))))) ip_add)))
    (pdss_one (pds_ret (pd_op (opd_div) (pd_var (pv 5)) (pd_var (pv 2))))))))
theorem ok_law (e : Ev P G mg base) : FnOk P w0 G.K mg base (L2.CX P w0) 13 e.a_law e.fd_law ["_law_script"] (spG G 1 g_law) :=
  fn_okD e.F_law sc_law rfl rfl fun cdv A outer s H E hr tk ps => pdss_cons (pds_set (i := 1) sc_law.nd rfl (.inl rfl) (pd_call (ok__law_begin e) (hr.mono (by decide)) (by rfl) e.m__law_begin e.F__law_begin.kp e.b__law_begin tk (pda_cons (pd_var (pv 0)) (pda_nil))))
    (pdss_cons (pds_for ps rfl (pdi_range1 (by rfl) e.z_range (pda_cons (pd_op (opd_addA e.kk) (pd_int) (pd_callB (cd_min2 rfl) (by rfl) e.z_min (by decide +kernel) (pda_cons (pd_int) (pda_cons (pd_callB (cd_len rfl) (by rfl) e.z_len (by decide +kernel) (pda_cons (pd_var (pv 0)) (pda_nil))) (pda_nil))))) (pda_nil))) (pdg_name (i := 2) sc_law.nd rfl (.inl rfl)) (pdss_cons (pds_asg (pd_tup (pda_cons (pd_call (ok__law_parted e) (hr.mono (by decide)) (by rfl) e.m__law_parted e.F__law_parted.kp e.b__law_parted tk (pda_cons (pd_var (pv 1)) (pda_nil))) (pda_cons (pd_op (opd_addA e.kk) (pd_int) (pd_call (ok__law_great e) (hr.mono (by decide)) (by rfl) e.m__law_great e.F__law_great.kp e.b__law_great tk (pda_cons (pd_var (pv 1)) (pda_nil)))) (pda_cons (pd_op (opd_addA e.kk) (pd_int) (pd_call (ok__law_great e) (hr.mono (by decide)) (by rfl) e.m__law_great e.F__law_great.kp e.b__law_great tk (pda_cons (pd_var (pv 1)) (pda_nil)))) (pda_nil))))) (pdg_tup rfl rfl (pdgs_cons (pdg_tup rfl rfl (pdgs_cons (pdg_name (i := 3) sc_law.nd rfl (.inr rfl)) (pdgs_cons (pdg_name (i := 4) sc_law.nd rfl (.inr rfl)) (pdgs_nil)))) (pdgs_cons (pdg_name (i := 5) sc_law.nd rfl (.inr rfl)) (pdgs_cons (pdg_name (i := 6) sc_law.nd rfl (.inr rfl)) (pdgs_nil))))))
    (pdss_cons (pds_set (i := 7) sc_law.nd rfl (.inl rfl) (pd_call (ok__law_draw e) (hr.mono (by decide)) (by rfl) e.m__law_draw e.F__law_draw.kp e.b__law_draw tk (pda_cons (pd_var (pv 1)) (pda_cons (pd_var (pv 3)) (pda_nil)))))
    (pdss_cons (pds_if (ptd_not (ptd_truth e.kk (pd_call (ok__law_is_stepped e) (hr.mono (by decide)) (by rfl) e.m__law_is_stepped e.F__law_is_stepped.kp e.b__law_is_stepped tk (pda_cons (pd_var (pv 5)) (pda_cons (pd_var (pv 6)) (pda_cons (pd_var (pv 3)) (pda_cons (pd_var (pv 7)) (pda_cons (pd_var (pv 4)) (pda_nil))))))))) (pdss_one (pds_ret (pd_bl))) (pdss_nil))
    (pdss_cons (pds_set (i := 8) sc_law.nd rfl (.inl rfl) (pd_op (opd_mod) (pd_callTy cd_int (by rfl) e.z_int (by decide +kernel) (pda_cons (pd_op (opd_sub) (pd_op (opd_mulA) (pd_var (pv 5)) (pd_var (pv 6))) (pd_var (pv 7))) (pda_nil))) (pd_var (pv 3))))
    (pdss_cons (pds_if (ptd_cmp (opd_ne e.kk hr.units) (pd_call (ok_far_paths e) (hr.mono (by decide)) (by rfl) e.m_far_paths e.F_far_paths.kp e.b_far_paths tk (pda_cons (pd_var (pv 5)) (pda_cons (pd_var (pv 6)) (pda_cons (pd_var (pv 3)) (pda_cons (pd_var (pv 7)) (pda_cons (pd_var (pv 4)) (pda_nil))))))) (pd_call (ok_far_paths e) (hr.mono (by decide)) (by rfl) e.m_far_paths e.F_far_paths.kp e.b_far_paths tk (pda_cons (pd_var (pv 6)) (pda_cons (pd_var (pv 5)) (pda_cons (pd_var (pv 3)) (pda_cons (pd_var (pv 8)) (pda_cons (pd_var (pv 4)) (pda_nil))))))) (nomark _)) (pdss_one (pds_ret (pd_bl))) (pdss_nil))
    (pdss_cons (pds_set (i := 9) sc_law.nd rfl (.inl rfl) (pd_callB (cd_sum rfl) (by rfl) e.z_sum (by decide +kernel) (pda_cons (pdo_frz (pdo_lc (own := [("_law_k", 14)]) rfl sc_law.nd (pdi_range1 (by rfl) e.z_range (pda_cons (pd_var (pv 3)) (pda_nil))) (by exact blkOk_by (N := ["_law_script", "_law_pen", "_law_turn", "_law_modulus", "_law_prime", "_law_x", "_law_y", "_law_rest", "_law_turned", "_law_total", "_law_wide", "_law_high", "_law_many", "_law_before", "_law_k"]) (sc := defScope st_law) (own := [("_law_k", 14)]) (by decide +kernel)) (by decide) (fun _ _ _ _ _ => pdg_name (i := 14) sc_law.nd rfl (.inl rfl)) (fun _ _ _ _ _ => ptds_nil) (fun _ _ _ _ _ => pd_call (ok_far_paths e) (hr.mono (by decide)) (by rfl) e.m_far_paths e.F_far_paths.kp e.b_far_paths takes0 (pda_cons (pd_var (pv 5)) (pda_cons (pd_var (pv 6)) (pda_cons (pd_var (pv 3)) (pda_cons (pd_var (pv 14)) (pda_cons (pd_var (pv 4)) (pda_nil))))))))) (pda_nil))))
    (pdss_cons (pds_if (ptd_cmp (opd_ne e.kk hr.units) (pd_op (opd_mod) (pd_var (pv 9)) (pd_var (pv 4))) (pd_call (ok__law_digits_chosen e) (hr.mono (by decide)) (by rfl) e.m__law_digits_chosen e.F__law_digits_chosen.kp e.b__law_digits_chosen tk (pda_cons (pd_op (opd_addA e.kk) (pd_var (pv 5)) (pd_var (pv 6))) (pda_cons (pd_var (pv 5)) (pda_cons (pd_var (pv 4)) (pda_nil))))) (nomark _)) (pdss_one (pds_ret (pd_bl))) (pdss_nil))
    (pdss_cons (pds_if ((pwd_or (ptd_cmp (opd_ne e.kk hr.units) (pd_call (ok_far_paths e) (hr.mono (by decide)) (by rfl) e.m_far_paths e.F_far_paths.kp e.b_far_paths tk (pda_cons (pd_var (pv 5)) (pda_cons (pd_int) (pda_cons (pd_var (pv 3)) (pda_cons (pd_var (pv 7)) (pda_cons (pd_var (pv 4)) (pda_nil))))))) (pd_callTy cd_int (by rfl) e.z_int (by decide +kernel) (pda_cons (pd_cmp (opd_eq e.kk hr.units) (pd_var (pv 7)) (pd_int) (nomark _)) (pda_nil))) (nomark _)) (pwd_or1 (ptd_cmp (opd_ne e.kk hr.units) (pd_call (ok_far_paths e) (hr.mono (by decide)) (by rfl) e.m_far_paths e.F_far_paths.kp e.b_far_paths tk (pda_cons (pd_int) (pda_cons (pd_var (pv 6)) (pda_cons (pd_var (pv 3)) (pda_cons (pd_var (pv 7)) (pda_cons (pd_var (pv 4)) (pda_nil))))))) (pd_callTy cd_int (by rfl) e.z_int (by decide +kernel) (pda_cons (pd_cmp (opd_eq e.kk hr.units) (pd_var (pv 7)) (pd_int) (nomark _)) (pda_nil))) (nomark _)))).pt) (pdss_one (pds_ret (pd_bl))) (pdss_nil))
    (pdss_cons (pds_if (ptd_cmp (opd_ne e.kk hr.units) (pd_call (ok_far_paths e) (hr.mono (by decide)) (by rfl) e.m_far_paths e.F_far_paths.kp e.b_far_paths tk (pda_cons (pd_var (pv 5)) (pda_cons (pd_int) (pda_cons (pd_var (pv 3)) (pda_cons (pd_var (pv 7)) (pda_cons (pd_var (pv 4)) (pda_nil))))))) (pd_op (opd_mod) (pd_ifExp (ptd_cmp (opd_ge) (pd_var (pv 5)) (pd_var (pv 7)) (nomark _)) (pd_op (opd_addA e.kk) (pd_op (opd_div) (pd_op (opd_sub) (pd_var (pv 5)) (pd_var (pv 7))) (pd_var (pv 3))) (pd_int)) (pd_int)) (pd_var (pv 4))) (nomark _)) (pdss_one (pds_ret (pd_bl))) (pdss_nil))
    (pdss_cons (pds_par (i := 10) (j := 11) rfl sc_law.nd rfl rfl (by decide) rfl rfl (pda_cons (pd_op (opd_addA e.kk) (pd_int) (pd_call (ok__law_draw e) (hr.mono (by decide)) (by rfl) e.m__law_draw e.F__law_draw.kp e.b__law_draw tk (pda_cons (pd_var (pv 1)) (pda_cons (pd_call (ok__law_pick e) (hr.mono (by decide)) (by rfl) e.m__law_pick e.F__law_pick.kp e.b__law_pick tk (pda_cons (pd_var (pv 1)) (pda_cons (pdo_frz (pdo_lst (pda_cons (pd_int) (pda_cons (pd_int) (pda_cons (pd_int) (pda_nil)))))) (pda_nil)))) (pda_nil))))) (pda_cons (pd_op (opd_addA e.kk) (pd_int) (pd_call (ok__law_draw e) (hr.mono (by decide)) (by rfl) e.m__law_draw e.F__law_draw.kp e.b__law_draw tk (pda_cons (pd_var (pv 1)) (pda_cons (pd_call (ok__law_pick e) (hr.mono (by decide)) (by rfl) e.m__law_pick e.F__law_pick.kp e.b__law_pick tk (pda_cons (pd_var (pv 1)) (pda_cons (pdo_frz (pdo_lst (pda_cons (pd_int) (pda_cons (pd_int) (pda_cons (pd_int) (pda_nil)))))) (pda_nil)))) (pda_nil))))) (pda_nil))) (by rfl))
    (pdss_cons (pds_set (i := 12) sc_law.nd rfl (.inl rfl) (pd_call (ok_paths_by_rest e) (hr.mono (by decide)) (by rfl) e.m_paths_by_rest e.F_paths_by_rest.kp e.b_paths_by_rest tk (pda_cons (pd_var (pv 10)) (pda_cons (pd_var (pv 11)) (pda_cons (pd_var (pv 3)) (pda_cons (pd_var (pv 7)) (pda_nil)))))))
    (pdss_cons (pds_if (ptd_cmp (opd_ne e.kk hr.units) (pd_op (opd_mod) (pd_var (pv 12)) (pd_var (pv 4))) (pd_call (ok_far_paths e) (hr.mono (by decide)) (by rfl) e.m_far_paths e.F_far_paths.kp e.b_far_paths tk (pda_cons (pd_var (pv 10)) (pda_cons (pd_var (pv 11)) (pda_cons (pd_var (pv 3)) (pda_cons (pd_var (pv 7)) (pda_cons (pd_var (pv 4)) (pda_nil))))))) (nomark _)) (pdss_one (pds_ret (pd_bl))) (pdss_nil))
    (pdss_cons (pds_set (i := 13) sc_law.nd rfl (.inl rfl) (pd_call (ok_paths_by_rest e) (hr.mono (by decide)) (by rfl) e.m_paths_by_rest e.F_paths_by_rest.kp e.b_paths_by_rest tk (pda_cons (pd_op (opd_sub) (pd_var (pv 10)) (pd_int)) (pda_cons (pd_var (pv 11)) (pda_cons (pd_var (pv 3)) (pda_cons (pd_var (pv 7)) (pda_nil)))))))
    (pdss_one (pds_if (ptd_cmp (opd_ne e.kk hr.units) (pd_var (pv 12)) (pd_op (opd_addA e.kk) (pd_var (pv 13)) (pd_call (ok_paths_by_rest e) (hr.mono (by decide)) (by rfl) e.m_paths_by_rest e.F_paths_by_rest.kp e.b_paths_by_rest tk (pda_cons (pd_var (pv 10)) (pda_cons (pd_op (opd_sub) (pd_var (pv 11)) (pd_int)) (pda_cons (pd_var (pv 3)) (pda_cons (pd_op (opd_mod) (pd_callTy cd_int (by rfl) e.z_int (by decide +kernel) (pda_cons (pd_op (opd_sub) (pd_var (pv 7)) (pd_var (pv 10))) (pda_nil))) (pd_var (pv 3))) (pda_nil))))))) (nomark _)) (pdss_one (pds_ret (pd_bl))) (pdss_nil)))))))))))))))))
    (pdss_one (pds_ret (pd_bl))))
end
theorem all_mk {l : PySem.W.OpenLaw} {w : World} {q : Program} {K : PySem.W.Frag} {h : Heap} {mg : Str → Option Value} {fa : Addr} {C_BadNumber : Addr} {fI_BadNumber NS_BadNumber cda_BadNumber cc_BadNumber : Addr} {xnm_BadNumber xq_BadNumber xfile_BadNumber : Str} {xbs_BadNumber xbm_BadNumber xsub_BadNumber : List Value} {xsn_BadNumber : List Str} {xab_BadNumber : Bool} {xcol_BadNumber : Option Bool} {xdd_BadNumber : Option Addr} {xk0_BadNumber xk1_BadNumber xk2_BadNumber xk3_BadNumber xk5_BadNumber : Option Value} {xoc_BadNumber xkV_BadNumber xdoc_BadNumber xpm_BadNumber xct_BadNumber xccl_BadNumber xcl_BadNumber : Value} {xod_BadNumber xan_BadNumber xcdd_BadNumber xcld_BadNumber : Option Addr} {xosl_BadNumber xccs_BadNumber xcsl_BadNumber : Array (Option Value)} {xvs_BadNumber : Array Value} {xtf_BadNumber : Tok} {C_TooFar : Addr} {fI_TooFar NS_TooFar cda_TooFar cc_TooFar : Addr} {xnm_TooFar xq_TooFar xfile_TooFar : Str} {xbs_TooFar xbm_TooFar xsub_TooFar : List Value} {xsn_TooFar : List Str} {xab_TooFar : Bool} {xcol_TooFar : Option Bool} {xdd_TooFar : Option Addr} {xk0_TooFar xk1_TooFar xk2_TooFar xk3_TooFar xk5_TooFar : Option Value} {xoc_TooFar xkV_TooFar xdoc_TooFar xpm_TooFar xct_TooFar xccl_TooFar xcl_TooFar : Value} {xod_TooFar xan_TooFar xcdd_TooFar xcld_TooFar : Option Addr} {xosl_TooFar xccs_TooFar xcsl_TooFar : Array (Option Value)} {xvs_TooFar : Array Value} {xtf_TooFar : Tok} {a__law_begin : Addr} {od__law_begin an__law_begin : Option Addr} {sl__law_begin : Array (Option Value)} {oc__law_begin kV__law_begin dc__law_begin pm__law_begin cd__law_begin ct__law_begin : Value} {a__law_digits_chosen : Addr} {od__law_digits_chosen an__law_digits_chosen : Option Addr} {sl__law_digits_chosen : Array (Option Value)} {oc__law_digits_chosen kV__law_digits_chosen dc__law_digits_chosen pm__law_digits_chosen cd__law_digits_chosen ct__law_digits_chosen : Value} {a__law_draw : Addr} {od__law_draw an__law_draw : Option Addr} {sl__law_draw : Array (Option Value)} {oc__law_draw kV__law_draw dc__law_draw pm__law_draw cd__law_draw ct__law_draw : Value} {a__law_number : Addr} {od__law_number an__law_number : Option Addr} {sl__law_number : Array (Option Value)} {oc__law_number kV__law_number dc__law_number pm__law_number cd__law_number ct__law_number : Value} {a__law_great : Addr} {od__law_great an__law_great : Option Addr} {sl__law_great : Array (Option Value)} {oc__law_great kV__law_great dc__law_great pm__law_great cd__law_great ct__law_great : Value} {a_divisors : Addr} {od_divisors an_divisors : Option Addr} {sl_divisors : Array (Option Value)} {oc_divisors kV_divisors dc_divisors pm_divisors cd_divisors ct_divisors : Value} {a_inverse : Addr} {od_inverse an_inverse : Option Addr} {sl_inverse : Array (Option Value)} {oc_inverse kV_inverse dc_inverse pm_inverse cd_inverse ct_inverse : Value} {a_binomial_rest : Addr} {od_binomial_rest an_binomial_rest : Option Addr} {sl_binomial_rest : Array (Option Value)} {oc_binomial_rest kV_binomial_rest dc_binomial_rest pm_binomial_rest cd_binomial_rest ct_binomial_rest : Value} {a_far_binomial : Addr} {od_far_binomial an_far_binomial : Option Addr} {sl_far_binomial : Array (Option Value)} {oc_far_binomial kV_far_binomial dc_far_binomial pm_far_binomial cd_far_binomial ct_far_binomial : Value} {a_is_prime : Addr} {od_is_prime an_is_prime : Option Addr} {sl_is_prime : Array (Option Value)} {oc_is_prime kV_is_prime dc_is_prime pm_is_prime cd_is_prime ct_is_prime : Value} {a_is_integer : Addr} {od_is_integer an_is_integer : Option Addr} {sl_is_integer : Array (Option Value)} {oc_is_integer kV_is_integer dc_is_integer pm_is_integer cd_is_integer ct_is_integer : Value} {a_is_whole : Addr} {od_is_whole an_is_whole : Option Addr} {sl_is_whole : Array (Option Value)} {oc_is_whole kV_is_whole dc_is_whole pm_is_whole cd_is_whole ct_is_whole : Value} {a_need_whole : Addr} {od_need_whole an_need_whole : Option Addr} {sl_need_whole : Array (Option Value)} {oc_need_whole kV_need_whole dc_need_whole pm_need_whole cd_need_whole ct_need_whole : Value} {a_need_rest : Addr} {od_need_rest an_need_rest : Option Addr} {sl_need_rest : Array (Option Value)} {oc_need_rest kV_need_rest dc_need_rest pm_need_rest cd_need_rest ct_need_rest : Value} {a_gaussian : Addr} {od_gaussian an_gaussian : Option Addr} {sl_gaussian : Array (Option Value)} {oc_gaussian kV_gaussian dc_gaussian pm_gaussian cd_gaussian ct_gaussian : Value} {a_divisor_of : Addr} {od_divisor_of an_divisor_of : Option Addr} {sl_divisor_of : Array (Option Value)} {oc_divisor_of kV_divisor_of dc_divisor_of pm_divisor_of cd_divisor_of ct_divisor_of : Value} {a_moebius : Addr} {od_moebius an_moebius : Option Addr} {sl_moebius : Array (Option Value)} {oc_moebius kV_moebius dc_moebius pm_moebius cd_moebius ct_moebius : Value} {a_root_sum : Addr} {od_root_sum an_root_sum : Option Addr} {sl_root_sum : Array (Option Value)} {oc_root_sum kV_root_sum dc_root_sum pm_root_sum cd_root_sum ct_root_sum : Value} {a_share : Addr} {od_share an_share : Option Addr} {sl_share : Array (Option Value)} {oc_share kV_share dc_share pm_share cd_share ct_share : Value} {a_far_paths : Addr} {od_far_paths an_far_paths : Option Addr} {sl_far_paths : Array (Option Value)} {oc_far_paths kV_far_paths dc_far_paths pm_far_paths cd_far_paths ct_far_paths : Value} {a__law_is_stepped : Addr} {od__law_is_stepped an__law_is_stepped : Option Addr} {sl__law_is_stepped : Array (Option Value)} {oc__law_is_stepped kV__law_is_stepped dc__law_is_stepped pm__law_is_stepped cd__law_is_stepped ct__law_is_stepped : Value} {a__law_pick : Addr} {od__law_pick an__law_pick : Option Addr} {sl__law_pick : Array (Option Value)} {oc__law_pick kV__law_pick dc__law_pick pm__law_pick cd__law_pick ct__law_pick : Value} {a__law_parted : Addr} {od__law_parted an__law_parted : Option Addr} {sl__law_parted : Array (Option Value)} {oc__law_parted kV__law_parted dc__law_parted pm__law_parted cd__law_parted ct__law_parted : Value} {a_binomial : Addr} {od_binomial an_binomial : Option Addr} {sl_binomial : Array (Option Value)} {oc_binomial kV_binomial dc_binomial pm_binomial cd_binomial ct_binomial : Value} {a_paths_by_rest : Addr} {od_paths_by_rest an_paths_by_rest : Option Addr} {sl_paths_by_rest : Array (Option Value)} {oc_paths_by_rest kV_paths_by_rest dc_paths_by_rest pm_paths_by_rest cd_paths_by_rest ct_paths_by_rest : Value} {a_law : Addr} {od_law an_law : Option Addr} {sl_law : Array (Option Value)} {oc_law kV_law dc_law pm_law cd_law ct_law : Value} {kv_MOST_MODULUS : Value} {kv_MOST_PRIME : Value} {kv_MOST_SIDE : Value} (X : K.In h) (G0 : h.Ns mainGlobals mg) (hfa : mg "law" = some (.ref fa)) (TT : TabsT q K h)
    (aC_BadNumber : PySem.W.nsIn K mainGlobals "BadNumber" = some (some (.ref C_BadNumber)))
    (xl_BadNumber : K.lookup C_BadNumber = some (excClassObj xnm_BadNumber xq_BadNumber C_BadNumber NS_BadNumber xbs_BadNumber xbm_BadNumber true xsn_BadNumber xsub_BadNumber xab_BadNumber xcol_BadNumber xdd_BadNumber xk0_BadNumber xk1_BadNumber xk2_BadNumber xk3_BadNumber xk5_BadNumber "ValueError.__new__"))
    (xr_BadNumber : PySem.HandSPX.refsVE xbm_BadNumber = true)
    (xi_BadNumber : PySem.W.findIn K (.ref C_BadNumber) "__init__" = some (some (.ref fI_BadNumber)))
    (xf_BadNumber : K.lookup fI_BadNumber = some ⟨xoc_BadNumber, xod_BadNumber, .func (PySem.W.fnX "__init__" "BadNumber.__init__" (defArgs xst_BadNumber) (defBody xst_BadNumber) (defScope xst_BadNumber) [("__class__", cc_BadNumber)] .none xkV_BadNumber xdoc_BadNumber xpm_BadNumber xan_BadNumber (.ref cda_BadNumber) xct_BadNumber), xosl_BadNumber⟩)
    (xc_BadNumber : PySem.W.codeIn K (.ref cda_BadNumber) "BadNumber.__init__" = true)
    (xd_BadNumber : K.lookup cda_BadNumber = some ⟨xccl_BadNumber, xcdd_BadNumber, .fields xvs_BadNumber, xccs_BadNumber⟩)
    (xv_BadNumber : xvs_BadNumber[2]? = some (.str xfile_BadNumber xtf_BadNumber))
    (xe_BadNumber : ((l.prog.main.file : Str) == xfile_BadNumber) = true)
    (xk_BadNumber : K.lookup cc_BadNumber = some ⟨xcl_BadNumber, xcld_BadNumber, .cell (some (.ref C_BadNumber)), xcsl_BadNumber⟩)
    (xB_BadNumber : xcB K C_BadNumber fI_BadNumber "value" = true)
    (aC_TooFar : PySem.W.nsIn K mainGlobals "TooFar" = some (some (.ref C_TooFar)))
    (xl_TooFar : K.lookup C_TooFar = some (excClassObj xnm_TooFar xq_TooFar C_TooFar NS_TooFar xbs_TooFar xbm_TooFar true xsn_TooFar xsub_TooFar xab_TooFar xcol_TooFar xdd_TooFar xk0_TooFar xk1_TooFar xk2_TooFar xk3_TooFar xk5_TooFar "ValueError.__new__"))
    (xr_TooFar : PySem.HandSPX.refsVE xbm_TooFar = true)
    (xi_TooFar : PySem.W.findIn K (.ref C_TooFar) "__init__" = some (some (.ref fI_TooFar)))
    (xf_TooFar : K.lookup fI_TooFar = some ⟨xoc_TooFar, xod_TooFar, .func (PySem.W.fnX "__init__" "TooFar.__init__" (defArgs xst_TooFar) (defBody xst_TooFar) (defScope xst_TooFar) [("__class__", cc_TooFar)] .none xkV_TooFar xdoc_TooFar xpm_TooFar xan_TooFar (.ref cda_TooFar) xct_TooFar), xosl_TooFar⟩)
    (xc_TooFar : PySem.W.codeIn K (.ref cda_TooFar) "TooFar.__init__" = true)
    (xd_TooFar : K.lookup cda_TooFar = some ⟨xccl_TooFar, xcdd_TooFar, .fields xvs_TooFar, xccs_TooFar⟩)
    (xv_TooFar : xvs_TooFar[2]? = some (.str xfile_TooFar xtf_TooFar))
    (xe_TooFar : ((l.prog.main.file : Str) == xfile_TooFar) = true)
    (xk_TooFar : K.lookup cc_TooFar = some ⟨xcl_TooFar, xcld_TooFar, .cell (some (.ref C_TooFar)), xcsl_TooFar⟩)
    (xB_TooFar : xcB K C_TooFar fI_TooFar "number" = true)
    (xtop : (l.prog.main.scope.names.lookup ("super" : Str)).isSome = false)
    (xsup : PySem.W.nsIn K mainGlobals "super" = some none)
    (a1__law_begin : PySem.W.nsIn K mainGlobals "_law_begin" = some (some (.ref a__law_begin)))
    (l1__law_begin : K.lookup a__law_begin = some ⟨oc__law_begin, od__law_begin, .func (PySem.W.fnOf "_law_begin" "_law_begin" (defArgs st__law_begin) (defBody st__law_begin) (defScope st__law_begin) .none kV__law_begin dc__law_begin pm__law_begin an__law_begin cd__law_begin ct__law_begin), sl__law_begin⟩)
    (c1__law_begin : PySem.W.codeIn K cd__law_begin "_law_begin" = true)
    (k1__law_begin : PySem.W.keepIn K (.ref a__law_begin) = true)
    (a1__law_digits_chosen : PySem.W.nsIn K mainGlobals "_law_digits_chosen" = some (some (.ref a__law_digits_chosen)))
    (l1__law_digits_chosen : K.lookup a__law_digits_chosen = some ⟨oc__law_digits_chosen, od__law_digits_chosen, .func (PySem.W.fnOf "_law_digits_chosen" "_law_digits_chosen" (defArgs st__law_digits_chosen) (defBody st__law_digits_chosen) (defScope st__law_digits_chosen) .none kV__law_digits_chosen dc__law_digits_chosen pm__law_digits_chosen an__law_digits_chosen cd__law_digits_chosen ct__law_digits_chosen), sl__law_digits_chosen⟩)
    (c1__law_digits_chosen : PySem.W.codeIn K cd__law_digits_chosen "_law_digits_chosen" = true)
    (k1__law_digits_chosen : PySem.W.keepIn K (.ref a__law_digits_chosen) = true)
    (a1__law_draw : PySem.W.nsIn K mainGlobals "_law_draw" = some (some (.ref a__law_draw)))
    (l1__law_draw : K.lookup a__law_draw = some ⟨oc__law_draw, od__law_draw, .func (PySem.W.fnOf "_law_draw" "_law_draw" (defArgs st__law_draw) (defBody st__law_draw) (defScope st__law_draw) .none kV__law_draw dc__law_draw pm__law_draw an__law_draw cd__law_draw ct__law_draw), sl__law_draw⟩)
    (c1__law_draw : PySem.W.codeIn K cd__law_draw "_law_draw" = true)
    (k1__law_draw : PySem.W.keepIn K (.ref a__law_draw) = true)
    (a1__law_number : PySem.W.nsIn K mainGlobals "_law_number" = some (some (.ref a__law_number)))
    (l1__law_number : K.lookup a__law_number = some ⟨oc__law_number, od__law_number, .func (PySem.W.fnOf "_law_number" "_law_number" (defArgs st__law_number) (defBody st__law_number) (defScope st__law_number) .none kV__law_number dc__law_number pm__law_number an__law_number cd__law_number ct__law_number), sl__law_number⟩)
    (c1__law_number : PySem.W.codeIn K cd__law_number "_law_number" = true)
    (k1__law_number : PySem.W.keepIn K (.ref a__law_number) = true)
    (a1__law_great : PySem.W.nsIn K mainGlobals "_law_great" = some (some (.ref a__law_great)))
    (l1__law_great : K.lookup a__law_great = some ⟨oc__law_great, od__law_great, .func (PySem.W.fnOf "_law_great" "_law_great" (defArgs st__law_great) (defBody st__law_great) (defScope st__law_great) .none kV__law_great dc__law_great pm__law_great an__law_great cd__law_great ct__law_great), sl__law_great⟩)
    (c1__law_great : PySem.W.codeIn K cd__law_great "_law_great" = true)
    (k1__law_great : PySem.W.keepIn K (.ref a__law_great) = true)
    (a1_divisors : PySem.W.nsIn K mainGlobals "divisors" = some (some (.ref a_divisors)))
    (l1_divisors : K.lookup a_divisors = some ⟨oc_divisors, od_divisors, .func (PySem.W.fnOf "divisors" "divisors" (defArgs st_divisors) (defBody st_divisors) (defScope st_divisors) .none kV_divisors dc_divisors pm_divisors an_divisors cd_divisors ct_divisors), sl_divisors⟩)
    (c1_divisors : PySem.W.codeIn K cd_divisors "divisors" = true)
    (k1_divisors : PySem.W.keepIn K (.ref a_divisors) = true)
    (a1_inverse : PySem.W.nsIn K mainGlobals "inverse" = some (some (.ref a_inverse)))
    (l1_inverse : K.lookup a_inverse = some ⟨oc_inverse, od_inverse, .func (PySem.W.fnOf "inverse" "inverse" (defArgs st_inverse) (defBody st_inverse) (defScope st_inverse) .none kV_inverse dc_inverse pm_inverse an_inverse cd_inverse ct_inverse), sl_inverse⟩)
    (c1_inverse : PySem.W.codeIn K cd_inverse "inverse" = true)
    (k1_inverse : PySem.W.keepIn K (.ref a_inverse) = true)
    (a1_binomial_rest : PySem.W.nsIn K mainGlobals "binomial_rest" = some (some (.ref a_binomial_rest)))
    (l1_binomial_rest : K.lookup a_binomial_rest = some ⟨oc_binomial_rest, od_binomial_rest, .func (PySem.W.fnOf "binomial_rest" "binomial_rest" (defArgs st_binomial_rest) (defBody st_binomial_rest) (defScope st_binomial_rest) .none kV_binomial_rest dc_binomial_rest pm_binomial_rest an_binomial_rest cd_binomial_rest ct_binomial_rest), sl_binomial_rest⟩)
    (c1_binomial_rest : PySem.W.codeIn K cd_binomial_rest "binomial_rest" = true)
    (k1_binomial_rest : PySem.W.keepIn K (.ref a_binomial_rest) = true)
    (a1_far_binomial : PySem.W.nsIn K mainGlobals "far_binomial" = some (some (.ref a_far_binomial)))
    (l1_far_binomial : K.lookup a_far_binomial = some ⟨oc_far_binomial, od_far_binomial, .func (PySem.W.fnOf "far_binomial" "far_binomial" (defArgs st_far_binomial) (defBody st_far_binomial) (defScope st_far_binomial) .none kV_far_binomial dc_far_binomial pm_far_binomial an_far_binomial cd_far_binomial ct_far_binomial), sl_far_binomial⟩)
    (c1_far_binomial : PySem.W.codeIn K cd_far_binomial "far_binomial" = true)
    (k1_far_binomial : PySem.W.keepIn K (.ref a_far_binomial) = true)
    (a1_is_prime : PySem.W.nsIn K mainGlobals "is_prime" = some (some (.ref a_is_prime)))
    (l1_is_prime : K.lookup a_is_prime = some ⟨oc_is_prime, od_is_prime, .func (PySem.W.fnOf "is_prime" "is_prime" (defArgs st_is_prime) (defBody st_is_prime) (defScope st_is_prime) .none kV_is_prime dc_is_prime pm_is_prime an_is_prime cd_is_prime ct_is_prime), sl_is_prime⟩)
    (c1_is_prime : PySem.W.codeIn K cd_is_prime "is_prime" = true)
    (k1_is_prime : PySem.W.keepIn K (.ref a_is_prime) = true)
    (a1_is_integer : PySem.W.nsIn K mainGlobals "is_integer" = some (some (.ref a_is_integer)))
    (l1_is_integer : K.lookup a_is_integer = some ⟨oc_is_integer, od_is_integer, .func (PySem.W.fnOf "is_integer" "is_integer" (defArgs st_is_integer) (defBody st_is_integer) (defScope st_is_integer) .none kV_is_integer dc_is_integer pm_is_integer an_is_integer cd_is_integer ct_is_integer), sl_is_integer⟩)
    (c1_is_integer : PySem.W.codeIn K cd_is_integer "is_integer" = true)
    (k1_is_integer : PySem.W.keepIn K (.ref a_is_integer) = true)
    (a1_is_whole : PySem.W.nsIn K mainGlobals "is_whole" = some (some (.ref a_is_whole)))
    (l1_is_whole : K.lookup a_is_whole = some ⟨oc_is_whole, od_is_whole, .func (PySem.W.fnOf "is_whole" "is_whole" (defArgs st_is_whole) (defBody st_is_whole) (defScope st_is_whole) .none kV_is_whole dc_is_whole pm_is_whole an_is_whole cd_is_whole ct_is_whole), sl_is_whole⟩)
    (c1_is_whole : PySem.W.codeIn K cd_is_whole "is_whole" = true)
    (k1_is_whole : PySem.W.keepIn K (.ref a_is_whole) = true)
    (a1_need_whole : PySem.W.nsIn K mainGlobals "need_whole" = some (some (.ref a_need_whole)))
    (l1_need_whole : K.lookup a_need_whole = some ⟨oc_need_whole, od_need_whole, .func (PySem.W.fnOf "need_whole" "need_whole" (defArgs st_need_whole) (defBody st_need_whole) (defScope st_need_whole) .none kV_need_whole dc_need_whole pm_need_whole an_need_whole cd_need_whole ct_need_whole), sl_need_whole⟩)
    (c1_need_whole : PySem.W.codeIn K cd_need_whole "need_whole" = true)
    (k1_need_whole : PySem.W.keepIn K (.ref a_need_whole) = true)
    (a1_need_rest : PySem.W.nsIn K mainGlobals "need_rest" = some (some (.ref a_need_rest)))
    (l1_need_rest : K.lookup a_need_rest = some ⟨oc_need_rest, od_need_rest, .func (PySem.W.fnOf "need_rest" "need_rest" (defArgs st_need_rest) (defBody st_need_rest) (defScope st_need_rest) .none kV_need_rest dc_need_rest pm_need_rest an_need_rest cd_need_rest ct_need_rest), sl_need_rest⟩)
    (c1_need_rest : PySem.W.codeIn K cd_need_rest "need_rest" = true)
    (k1_need_rest : PySem.W.keepIn K (.ref a_need_rest) = true)
    (a1_gaussian : PySem.W.nsIn K mainGlobals "gaussian" = some (some (.ref a_gaussian)))
    (l1_gaussian : K.lookup a_gaussian = some ⟨oc_gaussian, od_gaussian, .func (PySem.W.fnOf "gaussian" "gaussian" (defArgs st_gaussian) (defBody st_gaussian) (defScope st_gaussian) .none kV_gaussian dc_gaussian pm_gaussian an_gaussian cd_gaussian ct_gaussian), sl_gaussian⟩)
    (c1_gaussian : PySem.W.codeIn K cd_gaussian "gaussian" = true)
    (k1_gaussian : PySem.W.keepIn K (.ref a_gaussian) = true)
    (a1_divisor_of : PySem.W.nsIn K mainGlobals "divisor_of" = some (some (.ref a_divisor_of)))
    (l1_divisor_of : K.lookup a_divisor_of = some ⟨oc_divisor_of, od_divisor_of, .func (PySem.W.fnOf "divisor_of" "divisor_of" (defArgs st_divisor_of) (defBody st_divisor_of) (defScope st_divisor_of) .none kV_divisor_of dc_divisor_of pm_divisor_of an_divisor_of cd_divisor_of ct_divisor_of), sl_divisor_of⟩)
    (c1_divisor_of : PySem.W.codeIn K cd_divisor_of "divisor_of" = true)
    (k1_divisor_of : PySem.W.keepIn K (.ref a_divisor_of) = true)
    (a1_moebius : PySem.W.nsIn K mainGlobals "moebius" = some (some (.ref a_moebius)))
    (l1_moebius : K.lookup a_moebius = some ⟨oc_moebius, od_moebius, .func (PySem.W.fnOf "moebius" "moebius" (defArgs st_moebius) (defBody st_moebius) (defScope st_moebius) .none kV_moebius dc_moebius pm_moebius an_moebius cd_moebius ct_moebius), sl_moebius⟩)
    (c1_moebius : PySem.W.codeIn K cd_moebius "moebius" = true)
    (k1_moebius : PySem.W.keepIn K (.ref a_moebius) = true)
    (a1_root_sum : PySem.W.nsIn K mainGlobals "root_sum" = some (some (.ref a_root_sum)))
    (l1_root_sum : K.lookup a_root_sum = some ⟨oc_root_sum, od_root_sum, .func (PySem.W.fnOf "root_sum" "root_sum" (defArgs st_root_sum) (defBody st_root_sum) (defScope st_root_sum) .none kV_root_sum dc_root_sum pm_root_sum an_root_sum cd_root_sum ct_root_sum), sl_root_sum⟩)
    (c1_root_sum : PySem.W.codeIn K cd_root_sum "root_sum" = true)
    (k1_root_sum : PySem.W.keepIn K (.ref a_root_sum) = true)
    (a1_share : PySem.W.nsIn K mainGlobals "share" = some (some (.ref a_share)))
    (l1_share : K.lookup a_share = some ⟨oc_share, od_share, .func (PySem.W.fnOf "share" "share" (defArgs st_share) (defBody st_share) (defScope st_share) .none kV_share dc_share pm_share an_share cd_share ct_share), sl_share⟩)
    (c1_share : PySem.W.codeIn K cd_share "share" = true)
    (k1_share : PySem.W.keepIn K (.ref a_share) = true)
    (a1_far_paths : PySem.W.nsIn K mainGlobals "far_paths" = some (some (.ref a_far_paths)))
    (l1_far_paths : K.lookup a_far_paths = some ⟨oc_far_paths, od_far_paths, .func (PySem.W.fnOf "far_paths" "far_paths" (defArgs st_far_paths) (defBody st_far_paths) (defScope st_far_paths) .none kV_far_paths dc_far_paths pm_far_paths an_far_paths cd_far_paths ct_far_paths), sl_far_paths⟩)
    (c1_far_paths : PySem.W.codeIn K cd_far_paths "far_paths" = true)
    (k1_far_paths : PySem.W.keepIn K (.ref a_far_paths) = true)
    (a1__law_is_stepped : PySem.W.nsIn K mainGlobals "_law_is_stepped" = some (some (.ref a__law_is_stepped)))
    (l1__law_is_stepped : K.lookup a__law_is_stepped = some ⟨oc__law_is_stepped, od__law_is_stepped, .func (PySem.W.fnOf "_law_is_stepped" "_law_is_stepped" (defArgs st__law_is_stepped) (defBody st__law_is_stepped) (defScope st__law_is_stepped) .none kV__law_is_stepped dc__law_is_stepped pm__law_is_stepped an__law_is_stepped cd__law_is_stepped ct__law_is_stepped), sl__law_is_stepped⟩)
    (c1__law_is_stepped : PySem.W.codeIn K cd__law_is_stepped "_law_is_stepped" = true)
    (k1__law_is_stepped : PySem.W.keepIn K (.ref a__law_is_stepped) = true)
    (a1__law_pick : PySem.W.nsIn K mainGlobals "_law_pick" = some (some (.ref a__law_pick)))
    (l1__law_pick : K.lookup a__law_pick = some ⟨oc__law_pick, od__law_pick, .func (PySem.W.fnOf "_law_pick" "_law_pick" (defArgs st__law_pick) (defBody st__law_pick) (defScope st__law_pick) .none kV__law_pick dc__law_pick pm__law_pick an__law_pick cd__law_pick ct__law_pick), sl__law_pick⟩)
    (c1__law_pick : PySem.W.codeIn K cd__law_pick "_law_pick" = true)
    (k1__law_pick : PySem.W.keepIn K (.ref a__law_pick) = true)
    (a1__law_parted : PySem.W.nsIn K mainGlobals "_law_parted" = some (some (.ref a__law_parted)))
    (l1__law_parted : K.lookup a__law_parted = some ⟨oc__law_parted, od__law_parted, .func (PySem.W.fnOf "_law_parted" "_law_parted" (defArgs st__law_parted) (defBody st__law_parted) (defScope st__law_parted) .none kV__law_parted dc__law_parted pm__law_parted an__law_parted cd__law_parted ct__law_parted), sl__law_parted⟩)
    (c1__law_parted : PySem.W.codeIn K cd__law_parted "_law_parted" = true)
    (k1__law_parted : PySem.W.keepIn K (.ref a__law_parted) = true)
    (a1_binomial : PySem.W.nsIn K mainGlobals "binomial" = some (some (.ref a_binomial)))
    (l1_binomial : K.lookup a_binomial = some ⟨oc_binomial, od_binomial, .func (PySem.W.fnOf "binomial" "binomial" (defArgs st_binomial) (defBody st_binomial) (defScope st_binomial) .none kV_binomial dc_binomial pm_binomial an_binomial cd_binomial ct_binomial), sl_binomial⟩)
    (c1_binomial : PySem.W.codeIn K cd_binomial "binomial" = true)
    (k1_binomial : PySem.W.keepIn K (.ref a_binomial) = true)
    (a1_paths_by_rest : PySem.W.nsIn K mainGlobals "paths_by_rest" = some (some (.ref a_paths_by_rest)))
    (l1_paths_by_rest : K.lookup a_paths_by_rest = some ⟨oc_paths_by_rest, od_paths_by_rest, .func (PySem.W.fnOf "paths_by_rest" "paths_by_rest" (defArgs st_paths_by_rest) (defBody st_paths_by_rest) (defScope st_paths_by_rest) .none kV_paths_by_rest dc_paths_by_rest pm_paths_by_rest an_paths_by_rest cd_paths_by_rest ct_paths_by_rest), sl_paths_by_rest⟩)
    (c1_paths_by_rest : PySem.W.codeIn K cd_paths_by_rest "paths_by_rest" = true)
    (k1_paths_by_rest : PySem.W.keepIn K (.ref a_paths_by_rest) = true)
    (a1_law : PySem.W.nsIn K mainGlobals "law" = some (some (.ref a_law)))
    (l1_law : K.lookup a_law = some ⟨oc_law, od_law, .func (PySem.W.fnOf "law" "law" (defArgs st_law) (defBody st_law) (defScope st_law) .none kV_law dc_law pm_law an_law cd_law ct_law), sl_law⟩)
    (c1_law : PySem.W.codeIn K cd_law "law" = true)
    (k1_law : PySem.W.keepIn K (.ref a_law) = true)
    (z1_abs : PySem.W.nsIn K mainGlobals "abs" = some none)
    (z1_any : PySem.W.nsIn K mainGlobals "any" = some none)
    (z1_bool : PySem.W.nsIn K mainGlobals "bool" = some none)
    (z1_enumerate : PySem.W.nsIn K mainGlobals "enumerate" = some none)
    (z1_int : PySem.W.nsIn K mainGlobals "int" = some none)
    (z1_isinstance : PySem.W.nsIn K mainGlobals "isinstance" = some none)
    (z1_len : PySem.W.nsIn K mainGlobals "len" = some none)
    (z1_list : PySem.W.nsIn K mainGlobals "list" = some none)
    (z1_min : PySem.W.nsIn K mainGlobals "min" = some none)
    (z1_range : PySem.W.nsIn K mainGlobals "range" = some none)
    (z1_sum : PySem.W.nsIn K mainGlobals "sum" = some none)
    (k0_MOST_MODULUS : PySem.W.nsIn K mainGlobals "MOST_MODULUS" = some (some kv_MOST_MODULUS))
    (kx_MOST_MODULUS : repK K 6 kv_MOST_MODULUS (.int 30) = true)
    (k0_MOST_PRIME : PySem.W.nsIn K mainGlobals "MOST_PRIME" = some (some kv_MOST_PRIME))
    (kx_MOST_PRIME : repK K 6 kv_MOST_PRIME (.int 5000) = true)
    (k0_MOST_SIDE : PySem.W.nsIn K mainGlobals "MOST_SIDE" = some (some kv_MOST_SIDE))
    (kx_MOST_SIDE : repK K 6 kv_MOST_SIDE (.int 2000) = true)
    (hl : ∀ ns : List Int, ns.length ≤ 63 → (∀ z ∈ ns, Builtin.Int.intBits z ≤ 1048576) → ∃ S, g_law [.scr (ns.map D.int)] [] = .ok (.bl true) S) :
    LamX.LawAtS l w K (L2.CX l.prog w) 13 63 "_law_script" mg fa h := by
  have e := hfa.symm.trans (PySem.W.mg_of X G0 a1_law)
  cases e
  let G : Gam := { K := K, ct := fun c => if c = "BadNumber" then some C_BadNumber else if c = "TooFar" then some C_TooFar else none, ft := fun c => none, tab := tabG [], tabM := tabG_mono _ }
  have ct_BadNumber : G.ct "BadNumber" = some C_BadNumber := by simp [G]
  have ct_TooFar : G.ct "TooFar" = some C_TooFar := by simp [G]
  have F__law_begin := fun_mk (st := st__law_begin) l1__law_begin c1__law_begin k1__law_begin
  have F__law_digits_chosen := fun_mk (st := st__law_digits_chosen) l1__law_digits_chosen c1__law_digits_chosen k1__law_digits_chosen
  have F__law_draw := fun_mk (st := st__law_draw) l1__law_draw c1__law_draw k1__law_draw
  have F__law_number := fun_mk (st := st__law_number) l1__law_number c1__law_number k1__law_number
  have F__law_great := fun_mk (st := st__law_great) l1__law_great c1__law_great k1__law_great
  have F_divisors := fun_mk (st := st_divisors) l1_divisors c1_divisors k1_divisors
  have F_inverse := fun_mk (st := st_inverse) l1_inverse c1_inverse k1_inverse
  have F_binomial_rest := fun_mk (st := st_binomial_rest) l1_binomial_rest c1_binomial_rest k1_binomial_rest
  have F_far_binomial := fun_mk (st := st_far_binomial) l1_far_binomial c1_far_binomial k1_far_binomial
  have F_is_prime := fun_mk (st := st_is_prime) l1_is_prime c1_is_prime k1_is_prime
  have F_is_integer := fun_mk (st := st_is_integer) l1_is_integer c1_is_integer k1_is_integer
  have F_is_whole := fun_mk (st := st_is_whole) l1_is_whole c1_is_whole k1_is_whole
  have F_need_whole := fun_mk (st := st_need_whole) l1_need_whole c1_need_whole k1_need_whole
  have F_need_rest := fun_mk (st := st_need_rest) l1_need_rest c1_need_rest k1_need_rest
  have F_gaussian := fun_mk (st := st_gaussian) l1_gaussian c1_gaussian k1_gaussian
  have F_divisor_of := fun_mk (st := st_divisor_of) l1_divisor_of c1_divisor_of k1_divisor_of
  have F_moebius := fun_mk (st := st_moebius) l1_moebius c1_moebius k1_moebius
  have F_root_sum := fun_mk (st := st_root_sum) l1_root_sum c1_root_sum k1_root_sum
  have F_share := fun_mk (st := st_share) l1_share c1_share k1_share
  have F_far_paths := fun_mk (st := st_far_paths) l1_far_paths c1_far_paths k1_far_paths
  have F__law_is_stepped := fun_mk (st := st__law_is_stepped) l1__law_is_stepped c1__law_is_stepped k1__law_is_stepped
  have F__law_pick := fun_mk (st := st__law_pick) l1__law_pick c1__law_pick k1__law_pick
  have F__law_parted := fun_mk (st := st__law_parted) l1__law_parted c1__law_parted k1__law_parted
  have F_binomial := fun_mk (st := st_binomial) l1_binomial c1_binomial k1_binomial
  have F_paths_by_rest := fun_mk (st := st_paths_by_rest) l1_paths_by_rest c1_paths_by_rest k1_paths_by_rest
  have F_law := fun_mk (st := st_law) l1_law c1_law k1_law
  have mkE : ∀ base : Heap, (∀ m ∈ ([] : List (String × Addr × Addr)), LamX.TabB base mg m.2.1 m.2.2) → ∃ e : Ev l.prog G mg base, e.a_law = fa ∧ e.fd_law = (PySem.W.fnOf "law" "law" (defArgs st_law) (defBody st_law) (defScope st_law) .none kV_law dc_law pm_law an_law cd_law ct_law) := fun base tb => ⟨{
    C_BadNumber := C_BadNumber
    ct_BadNumber := ct_BadNumber
    m_BadNumber := PySem.W.mg_of X G0 aC_BadNumber
    fI_BadNumber := fI_BadNumber
    xfd_BadNumber := _
    X_BadNumber := xfacts_of (G := G) ct_BadNumber xl_BadNumber xr_BadNumber xi_BadNumber xf_BadNumber xc_BadNumber xd_BadNumber xv_BadNumber xe_BadNumber xk_BadNumber xB_BadNumber xtop (PySem.W.mg_none_of X G0 xsup) xsh_BadNumber (by decide) (by decide) (by decide) (fun us hl => match us, hl with | [_, _], _ => rfl)
    C_TooFar := C_TooFar
    ct_TooFar := ct_TooFar
    m_TooFar := PySem.W.mg_of X G0 aC_TooFar
    fI_TooFar := fI_TooFar
    xfd_TooFar := _
    X_TooFar := xfacts_of (G := G) ct_TooFar xl_TooFar xr_TooFar xi_TooFar xf_TooFar xc_TooFar xd_TooFar xv_TooFar xe_TooFar xk_TooFar xB_TooFar xtop (PySem.W.mg_none_of X G0 xsup) xsh_TooFar (by decide) (by decide) (by decide) (fun us hl => match us, hl with | [_, _], _ => rfl)
    a__law_begin := a__law_begin
    fd__law_begin := _
    F__law_begin := F__law_begin
    b__law_begin := F__law_begin.binds (ps := ["_law_script"]) fun _ _ _ _ _ _ us hl => match us, hl with | [_], _ => rfl
    m__law_begin := PySem.W.mg_of X G0 a1__law_begin
    a__law_digits_chosen := a__law_digits_chosen
    fd__law_digits_chosen := _
    F__law_digits_chosen := F__law_digits_chosen
    b__law_digits_chosen := F__law_digits_chosen.binds (ps := ["_law_many", "_law_some", "_law_prime"]) fun _ _ _ _ _ _ us hl => match us, hl with | [_, _, _], _ => rfl
    m__law_digits_chosen := PySem.W.mg_of X G0 a1__law_digits_chosen
    a__law_draw := a__law_draw
    fd__law_draw := _
    F__law_draw := F__law_draw
    b__law_draw := F__law_draw.binds (ps := ["_law_pen", "_law_span"]) fun _ _ _ _ _ _ us hl => match us, hl with | [_, _], _ => rfl
    m__law_draw := PySem.W.mg_of X G0 a1__law_draw
    a__law_number := a__law_number
    fd__law_number := _
    F__law_number := F__law_number
    b__law_number := F__law_number.binds (ps := ["_law_pen", "_law_groups"]) fun _ _ _ _ _ _ us hl => match us, hl with | [_, _], _ => rfl
    m__law_number := PySem.W.mg_of X G0 a1__law_number
    a__law_great := a__law_great
    fd__law_great := _
    F__law_great := F__law_great
    b__law_great := F__law_great.binds (ps := ["_law_pen"]) fun _ _ _ _ _ _ us hl => match us, hl with | [_], _ => rfl
    m__law_great := PySem.W.mg_of X G0 a1__law_great
    a_divisors := a_divisors
    fd_divisors := _
    F_divisors := F_divisors
    b_divisors := F_divisors.binds (ps := ["number"]) fun _ _ _ _ _ _ us hl => match us, hl with | [_], _ => rfl
    m_divisors := PySem.W.mg_of X G0 a1_divisors
    a_inverse := a_inverse
    fd_inverse := _
    F_inverse := F_inverse
    b_inverse := F_inverse.binds (ps := ["number", "prime"]) fun _ _ _ _ _ _ us hl => match us, hl with | [_, _], _ => rfl
    m_inverse := PySem.W.mg_of X G0 a1_inverse
    a_binomial_rest := a_binomial_rest
    fd_binomial_rest := _
    F_binomial_rest := F_binomial_rest
    b_binomial_rest := F_binomial_rest.binds (ps := ["many", "chosen", "prime"]) fun _ _ _ _ _ _ us hl => match us, hl with | [_, _, _], _ => rfl
    m_binomial_rest := PySem.W.mg_of X G0 a1_binomial_rest
    a_far_binomial := a_far_binomial
    fd_far_binomial := _
    F_far_binomial := F_far_binomial
    b_far_binomial := F_far_binomial.binds (ps := ["many", "chosen", "prime"]) fun _ _ _ _ _ _ us hl => match us, hl with | [_, _, _], _ => rfl
    m_far_binomial := PySem.W.mg_of X G0 a1_far_binomial
    a_is_prime := a_is_prime
    fd_is_prime := _
    F_is_prime := F_is_prime
    b_is_prime := F_is_prime.binds (ps := ["number"]) fun _ _ _ _ _ _ us hl => match us, hl with | [_], _ => rfl
    m_is_prime := PySem.W.mg_of X G0 a1_is_prime
    a_is_integer := a_is_integer
    fd_is_integer := _
    F_is_integer := F_is_integer
    b_is_integer := F_is_integer.binds (ps := ["value"]) fun _ _ _ _ _ _ us hl => match us, hl with | [_], _ => rfl
    m_is_integer := PySem.W.mg_of X G0 a1_is_integer
    a_is_whole := a_is_whole
    fd_is_whole := _
    F_is_whole := F_is_whole
    b_is_whole := F_is_whole.binds (ps := ["value", "least"]) fun _ _ _ _ _ _ us hl => match us, hl with | [_, _], _ => rfl
    m_is_whole := PySem.W.mg_of X G0 a1_is_whole
    a_need_whole := a_need_whole
    fd_need_whole := _
    F_need_whole := F_need_whole
    b_need_whole := F_need_whole.binds (ps := ["values", "least"]) fun _ _ _ _ _ _ us hl => match us, hl with | [_, _], _ => rfl
    m_need_whole := PySem.W.mg_of X G0 a1_need_whole
    a_need_rest := a_need_rest
    fd_need_rest := _
    F_need_rest := F_need_rest
    b_need_rest := F_need_rest.binds (ps := ["x", "y", "modulus", "rest"]) fun _ _ _ _ _ _ us hl => match us, hl with | [_, _, _, _], _ => rfl
    m_need_rest := PySem.W.mg_of X G0 a1_need_rest
    a_gaussian := a_gaussian
    fd_gaussian := _
    F_gaussian := F_gaussian
    b_gaussian := F_gaussian.binds (ps := ["many", "chosen"]) fun _ _ _ _ _ _ us hl => match us, hl with | [_, _], _ => rfl
    m_gaussian := PySem.W.mg_of X G0 a1_gaussian
    a_divisor_of := a_divisor_of
    fd_divisor_of := _
    F_divisor_of := F_divisor_of
    b_divisor_of := F_divisor_of.binds (ps := ["one", "other"]) fun _ _ _ _ _ _ us hl => match us, hl with | [_, _], _ => rfl
    m_divisor_of := PySem.W.mg_of X G0 a1_divisor_of
    a_moebius := a_moebius
    fd_moebius := _
    F_moebius := F_moebius
    b_moebius := F_moebius.binds (ps := ["number"]) fun _ _ _ _ _ _ us hl => match us, hl with | [_], _ => rfl
    m_moebius := PySem.W.mg_of X G0 a1_moebius
    a_root_sum := a_root_sum
    fd_root_sum := _
    F_root_sum := F_root_sum
    b_root_sum := F_root_sum.binds (ps := ["order", "power"]) fun _ _ _ _ _ _ us hl => match us, hl with | [_, _], _ => rfl
    m_root_sum := PySem.W.mg_of X G0 a1_root_sum
    a_share := a_share
    fd_share := _
    F_share := F_share
    b_share := F_share.binds (ps := ["x", "y", "order", "rest"]) fun _ _ _ _ _ _ us hl => match us, hl with | [_, _, _, _], _ => rfl
    m_share := PySem.W.mg_of X G0 a1_share
    a_far_paths := a_far_paths
    fd_far_paths := _
    F_far_paths := F_far_paths
    b_far_paths := F_far_paths.binds (ps := ["x", "y", "modulus", "rest", "prime"]) fun _ _ _ _ _ _ us hl => match us, hl with | [_, _, _, _, _], _ => rfl
    m_far_paths := PySem.W.mg_of X G0 a1_far_paths
    a__law_is_stepped := a__law_is_stepped
    fd__law_is_stepped := _
    F__law_is_stepped := F__law_is_stepped
    b__law_is_stepped := F__law_is_stepped.binds (ps := ["_law_x", "_law_y", "_law_modulus", "_law_rest", "_law_prime"]) fun _ _ _ _ _ _ us hl => match us, hl with | [_, _, _, _, _], _ => rfl
    m__law_is_stepped := PySem.W.mg_of X G0 a1__law_is_stepped
    a__law_pick := a__law_pick
    fd__law_pick := _
    F__law_pick := F__law_pick
    b__law_pick := F__law_pick.binds (ps := ["_law_pen", "_law_some"]) fun _ _ _ _ _ _ us hl => match us, hl with | [_, _], _ => rfl
    m__law_pick := PySem.W.mg_of X G0 a1__law_pick
    a__law_parted := a__law_parted
    fd__law_parted := _
    F__law_parted := F__law_parted
    b__law_parted := F__law_parted.binds (ps := ["_law_pen"]) fun _ _ _ _ _ _ us hl => match us, hl with | [_], _ => rfl
    m__law_parted := PySem.W.mg_of X G0 a1__law_parted
    a_binomial := a_binomial
    fd_binomial := _
    F_binomial := F_binomial
    b_binomial := F_binomial.binds (ps := ["many", "chosen"]) fun _ _ _ _ _ _ us hl => match us, hl with | [_, _], _ => rfl
    m_binomial := PySem.W.mg_of X G0 a1_binomial
    a_paths_by_rest := a_paths_by_rest
    fd_paths_by_rest := _
    F_paths_by_rest := F_paths_by_rest
    b_paths_by_rest := F_paths_by_rest.binds (ps := ["x", "y", "modulus", "rest"]) fun _ _ _ _ _ _ us hl => match us, hl with | [_, _, _, _], _ => rfl
    m_paths_by_rest := PySem.W.mg_of X G0 a1_paths_by_rest
    a_law := fa
    fd_law := _
    F_law := F_law
    b_law := F_law.binds (ps := ["_law_script"]) fun _ _ _ _ _ _ us hl => match us, hl with | [_], _ => rfl
    m_law := PySem.W.mg_of X G0 a1_law
    z_abs := PySem.W.mg_none_of X G0 z1_abs
    z_any := PySem.W.mg_none_of X G0 z1_any
    z_bool := PySem.W.mg_none_of X G0 z1_bool
    z_enumerate := PySem.W.mg_none_of X G0 z1_enumerate
    z_int := PySem.W.mg_none_of X G0 z1_int
    z_isinstance := PySem.W.mg_none_of X G0 z1_isinstance
    z_len := PySem.W.mg_none_of X G0 z1_len
    z_list := PySem.W.mg_none_of X G0 z1_list
    z_min := PySem.W.mg_none_of X G0 z1_min
    z_range := PySem.W.mg_none_of X G0 z1_range
    z_sum := PySem.W.mg_none_of X G0 z1_sum
    kv_MOST_MODULUS := kv_MOST_MODULUS
    kc_MOST_MODULUS := PySem.W.mg_of X G0 k0_MOST_MODULUS
    kr_MOST_MODULUS := repK_ok (G := G) rfl 6 _ _ kx_MOST_MODULUS
    kv_MOST_PRIME := kv_MOST_PRIME
    kc_MOST_PRIME := PySem.W.mg_of X G0 k0_MOST_PRIME
    kr_MOST_PRIME := repK_ok (G := G) rfl 6 _ _ kx_MOST_PRIME
    kv_MOST_SIDE := kv_MOST_SIDE
    kc_MOST_SIDE := PySem.W.mg_of X G0 k0_MOST_SIDE
    kr_MOST_SIDE := repK_ok (G := G) rfl 6 _ _ kx_MOST_SIDE
    iso := isOk_of (fun c hc => absurd hc (by simp)) fun c hc => absurd hc (by simp)
    tabs := rfl }, rfl, rfl⟩
  exact lawAt_of (G := G) (g := g_law) (fd := (PySem.W.fnOf "law" "law" (defArgs st_law) (defBody st_law) (defScope st_law) .none kV_law dc_law pm_law an_law cd_law ct_law)) [] (fun m hm => by simp at hm) (fun m hm => by simp at hm) (List.nodup_nil) (fun s v => .of_eq rfl) (fun base tb => by
    obtain ⟨e, e1, e2⟩ := mkE base tb
    have o := ok_law (w0 := w) e
    rw [e1, e2] at o
    exact o) (fun m hm => by simp at hm) hl
end
end W_k61
set_option maxRecDepth 100000
set_option maxHeartbeats 4000000
namespace W_k61
open DL
instance : Bd (2 : Int) 2 := ⟨by decide⟩
instance : Bd (3 : Int) 2 := ⟨by decide⟩
instance : Bd (4 : Int) 3 := ⟨by decide⟩
instance : Bd (5 : Int) 3 := ⟨by decide⟩
instance : Bd (7 : Int) 3 := ⟨by decide⟩
instance : Bd (9 : Int) 4 := ⟨by decide⟩
instance : Bd (10 : Int) 4 := ⟨by decide⟩
instance : Bd (11 : Int) 4 := ⟨by decide⟩
instance : Bd (13 : Int) 4 := ⟨by decide⟩
instance : Bd (18 : Int) 5 := ⟨by decide⟩
instance : Bd (29 : Int) 5 := ⟨by decide⟩
instance : Bd (30 : Int) 5 := ⟨by decide⟩
instance : Bd (31 : Int) 5 := ⟨by decide⟩
instance : Bd (43 : Int) 6 := ⟨by decide⟩
instance : Bd (60 : Int) 6 := ⟨by decide⟩
instance : Bd (61 : Int) 6 := ⟨by decide⟩
instance : Bd (63 : Int) 6 := ⟨by decide⟩
instance : Bd (64 : Int) 7 := ⟨by decide⟩
instance : Bd (73 : Int) 7 := ⟨by decide⟩
instance : Bd (97 : Int) 7 := ⟨by decide⟩
instance : Bd (200 : Int) 8 := ⟨by decide⟩
instance : Bd (300 : Int) 9 := ⟨by decide⟩
instance : Bd (499 : Int) 9 := ⟨by decide⟩
instance : Bd (577 : Int) 10 := ⟨by decide⟩
instance : Bd (2000 : Int) 11 := ⟨by decide⟩
instance : Bd (5000 : Int) 13 := ⟨by decide⟩
instance : Bd (28723 : Int) 15 := ⟨by decide⟩
instance : Bd (30671 : Int) 15 := ⟨by decide⟩
instance : Bd (41231 : Int) 16 := ⟨by decide⟩
instance : Bd (48947 : Int) 16 := ⟨by decide⟩
instance : Bd (51341 : Int) 16 := ⟨by decide⟩
instance : Bd (10000000 : Int) 24 := ⟨by decide⟩
instance : Bd (4294966187 : Int) 32 := ⟨by decide⟩
instance : Bd (4294966217 : Int) 32 := ⟨by decide⟩
instance : Bd (4294966237 : Int) 32 := ⟨by decide⟩
instance : Bd (4294966279 : Int) 32 := ⟨by decide⟩
instance : Bd (4294966297 : Int) 32 := ⟨by decide⟩
instance : Bd (1000000000000000000 : Int) 60 := ⟨by decide⟩
abbrev penD (cs : List Int) (c l : Int) : List (DK × D) := [(.s [99, 101, 108, 108, 115], .lst (cs.map D.int)), (.s [109, 97, 114, 107], .int c), (.s [114, 101, 115, 116], .int l)]
def Pen (n : Nat) (S : List Cell) : Prop := ∃ cs c l, S = [.dic (penD cs c l)] ∧ 0 ≤ c ∧ c ≤ n ∧ 0 ≤ l
theorem Pen.mono {n m : Nat} {S : List Cell} (h : Pen n S) (hm : n ≤ m) : Pen m S := by
  obtain ⟨cs, c, l, h1, h2, h3, h4⟩ := h
  exact ⟨cs, c, l, h1, h2, by omega, h4⟩
theorem draw_ok {n : Nat} {S : List Cell} {p : Int} (hS : Pen n S) (hn : n < 2 ^ 20) (hp : 0 < p) (hp2 : p < 2 ^ 60) : ∃ d S', g__law_draw [.cell 0, .int p] S = .ok (.int d) S' ∧ 0 ≤ d ∧ d < p ∧ Pen (n + 1) S' := by
  obtain ⟨cs, c, l, rfl, c0, c1, l0⟩ := hS
  have bp : Bd p 60 := ⟨by omega⟩
  have bc : Bd c 20 := ⟨by omega⟩
  have dp : divOk p = true := divOk_of bp (by omega) (by omega)
  have hp' : p ≠ 0 := by omega
  have m1 := fun x : Int => Int.fmod_nonneg_of_pos x hp
  have m2 := fun x : Int => Int.fmod_lt_of_pos x hp
  have ndk : ∀ (a b c : D), keysNd [(.s [99, 101, 108, 108, 115], a), (.s [109, 97, 114, 107], b), (.s [114, 101, 115, 116], c)] = true := fun a b c => rfl
  have n1 (x : Int) : mulOk (x.fmod 4294966297) 48947 = true := by
    have : Bd (x.fmod 4294966297) 33 := .of_range (m := 4294966297) (Int.fmod_nonneg_of_pos _ (by decide)) (Int.fmod_lt_of_pos _ (by decide)) (by decide)
    exact mulOk_bd (by decide)
  have n2 (x : Int) : mulOk (x.fmod 4294966279) (x.fmod 4294966279) = true := by
    have : Bd (x.fmod 4294966279) 33 := .of_range (m := 4294966279) (Int.fmod_nonneg_of_pos _ (by decide)) (Int.fmod_lt_of_pos _ (by decide)) (by decide)
    exact mulOk_bd (by decide)
  have n3 (x : Int) : mulOk 41231 (x.fmod 4294966279) = true := by
    have : Bd (x.fmod 4294966279) 33 := .of_range (m := 4294966279) (Int.fmod_nonneg_of_pos _ (by decide)) (Int.fmod_lt_of_pos _ (by decide)) (by decide)
    exact mulOk_bd (by decide)
  have n4 (x : Int) : mulOk (x.fmod 4294966237) (x.fmod 4294966237) = true := by
    have : Bd (x.fmod 4294966237) 33 := .of_range (m := 4294966237) (Int.fmod_nonneg_of_pos _ (by decide)) (Int.fmod_lt_of_pos _ (by decide)) (by decide)
    exact mulOk_bd (by decide)
  have n5 (x : Int) : mulOk 28723 (x.fmod 4294966237) = true := by
    have : Bd (x.fmod 4294966237) 33 := .of_range (m := 4294966237) (Int.fmod_nonneg_of_pos _ (by decide)) (Int.fmod_lt_of_pos _ (by decide)) (by decide)
    exact mulOk_bd (by decide)
  have n6 (x : Int) : mulOk (x.fmod 4294966217) (x.fmod 4294966217 + 51341) = true := by
    have : Bd (x.fmod 4294966217) 33 := .of_range (m := 4294966217) (Int.fmod_nonneg_of_pos _ (by decide)) (Int.fmod_lt_of_pos _ (by decide)) (by decide)
    exact mulOk_bd (by decide)
  have q0 : mulOk 97 c = true := mulOk_bd (by decide)
  have q1 : mulOk 30671 c = true := mulOk_bd (by decide)
  have q2 : mulOk 577 c = true := mulOk_bd (by decide)
  have q3 : mulOk 73 c = true := mulOk_bd (by decide)
  have qs : mulOk (30671 * c) c = true := mulOk_bd (by decide)
  have qd : divOk 64 = true := by decide
  by_cases a1 : 0 < l
  · simp [g__law_draw, b__law_draw, fnD, dLook, dPut, dp, hp', ndk, a1]
    exact ⟨_, _, ⟨rfl, rfl⟩, m1 _, m2 _, cs, c, _, rfl, c0, by omega, Int.fdiv_nonneg l0 (by omega)⟩
  · by_cases a2 : cs = []
    · subst a2
      have a3 : ¬ c < 0 := by omega
      simp [g__law_draw, b__law_draw, fnD, dLook, dPut, dp, hp', ndk, a1, q0, q1, q2, q3, qs, qd, n1, n2, n3, n4, n5, n6, a3]
      exact ⟨_, _, ⟨rfl, rfl⟩, m1 _, m2 _, [], c + 1, l, rfl, by omega, by omega, l0⟩
    · obtain ⟨x, hx⟩ := ix_mod cs c a2
      by_cases a3 : c < cs.length ∧ 1000000000000000000 ≤ (if x < 0 then -x else x)
      · simp [g__law_draw, b__law_draw, fnD, dLook, dPut, dp, hp', ndk, a1, q0, q1, q2, q3, qs, qd, n1, n2, n3, n4, n5, n6, a2, hx, a3]
        exact ⟨_, _, ⟨rfl, rfl⟩, m1 _, m2 _, cs, c + 1, _, rfl, by omega, by omega, Int.fdiv_nonneg (by omega) (by omega)⟩
      · by_cases a4 : c < cs.length
        · have a5 : ¬ 1000000000000000000 ≤ (if x < 0 then -x else x) := fun h => a3 ⟨a4, h⟩
          simp [g__law_draw, b__law_draw, fnD, dLook, dPut, dp, hp', ndk, a1, q0, q1, q2, q3, qs, qd, n1, n2, n3, n4, n5, n6, a2, hx, a4, a5]
          exact ⟨_, _, ⟨rfl, rfl⟩, m1 _, m2 _, cs, c + 1, l, rfl, by omega, by omega, l0⟩
        · simp [g__law_draw, b__law_draw, fnD, dLook, dPut, dp, hp', ndk, a1, q0, q1, q2, q3, qs, qd, n1, n2, n3, n4, n5, n6, a2, hx, a4]
          exact ⟨_, _, ⟨rfl, rfl⟩, m1 _, m2 _, cs, c + 1, l, rfl, by omega, by omega, l0⟩
theorem begin_ok (ns : List Int) : ∃ S, g__law_begin [.scr (ns.map D.int)] [] = .ok (.cell 0) S ∧ Pen 0 S := by
  have e : cutD (ns.map D.int) none (some 63) = (cutD ns none (some 63)).map D.int := by
    simp [cutD, List.map_drop, List.map_take]
  have k : ∀ a b c : D, keysNd [(.s [99, 101, 108, 108, 115], a), (.s [109, 97, 114, 107], b), (.s [114, 101, 115, 116], c)] = true := fun a b c => rfl
  simp [g__law_begin, b__law_begin, fnD, e, k]
  exact ⟨_, 0, 0, rfl, by decide, by decide, by decide⟩
theorem pick_ok {n : Nat} {S : List Cell} {xs : List D} (hS : Pen n S) (hn : n < 2 ^ 20) (h0 : xs ≠ []) (h1 : xs.length < 1000) : ∃ d S', g__law_pick [.cell 0, .lst xs] S = .ok d S' ∧ d ∈ xs ∧ Pen (n + 1) S' := by
  have hl : (0 : Int) < xs.length := by
    cases xs with
    | nil => exact absurd rfl h0
    | cons a r => simp
  obtain ⟨d, S', e, d0, d1, hP⟩ := draw_ok hS hn hl (by omega)
  obtain ⟨k, rfl⟩ := Int.eq_ofNat_of_zero_le d0
  have hk : k < xs.length := by omega
  have : L2.atI xs (k : Int) = some xs[k] := L2.atI_nat (by simp [hk])
  refine ⟨xs[k], S', ?_, List.getElem_mem _, hP⟩
  simp [g__law_pick, b__law_pick, fnD, e, this]
end W_k61
set_option maxRecDepth 100000
set_option maxHeartbeats 4000000
/-! paths on squares by their areas: one family of counts, its digits, its rests (plain law) -/
namespace QB
/-- paths to (x, y), seen through d: the last step east keeps the area, the last step north adds x -/
def pth (δ : Int → Int) : Nat → Nat → Int → Int
  | 0, _, r => δ r
  | _ + 1, 0, r => δ r
  | x + 1, y + 1, r => pth δ x (y + 1) r + pth δ (x + 1) y (r - ((x + 1 : Nat) : Int))
termination_by x y => (x, y)
variable {δ : Int → Int}
theorem pth_0 (y : Nat) (r : Int) : pth δ 0 y r = δ r := by rw [pth]
theorem pth_r0 (x : Nat) (r : Int) : pth δ x 0 r = δ r := by cases x <;> rw [pth]
theorem pth_A (x y : Nat) (r : Int) : pth δ (x + 1) (y + 1) r = pth δ x (y + 1) r + pth δ (x + 1) y (r - ((x + 1 : Nat) : Int)) := by rw [pth]
/-- by the first step -/
theorem pth_B : ∀ (n x y : Nat) (r : Int), x + y = n → pth δ (x + 1) (y + 1) r = pth δ x (y + 1) (r - ((y + 1 : Nat) : Int)) + pth δ (x + 1) y r := by
  intro n
  induction n using Nat.strongRecOn with
  | ind n ih =>
    intro x y r hn
    rw [pth_A x y r]
    cases x with
    | zero =>
      cases y with
      | zero =>
        simp only [pth_0, pth_r0]
        omega
      | succ l =>
        have e := ih l (by omega) 0 l (r - 1) (by omega)
        have e1 := pth_A (δ := δ) 0 l r
        simp only [pth_0, pth_r0, Nat.zero_add] at e e1 ⊢
        rw [show r - ((1 : Nat) : Int) = r - 1 from rfl] at e1 ⊢
        rw [e, e1, show r - 1 - ((l + 1 : Nat) : Int) = r - ((l + 1 + 1 : Nat) : Int) by omega]
        omega
    | succ k =>
      cases y with
      | zero =>
        have e := ih k (by omega) k 0 r (by omega)
        have e1 := pth_A (δ := δ) k 0 (r - ((0 + 1 : Nat) : Int))
        simp only [pth_0, pth_r0, Nat.zero_add] at e e1 ⊢
        rw [e, e1, show r - ((1 : Nat) : Int) - ((k + 1 : Nat) : Int) = r - ((k + 1 + 1 : Nat) : Int) by omega]
        omega
      | succ l =>
        have e1 := ih (k + (l + 1)) (by omega) k (l + 1) r rfl
        have e2 := ih (k + 1 + l) (by omega) (k + 1) l (r - ((k + 1 + 1 : Nat) : Int)) rfl
        have e3 := pth_A (δ := δ) k (l + 1) (r - ((l + 1 + 1 : Nat) : Int))
        have e4 := pth_A (δ := δ) (k + 1) l r
        rw [e1, e2, e3, e4, show r - ((k + 1 + 1 : Nat) : Int) - ((l + 1 : Nat) : Int) = r - ((l + 1 + 1 : Nat) : Int) - ((k + 1 : Nat) : Int) by omega]
        omega
theorem pth_C (x y : Nat) (r : Int) : pth δ (x + 1) y r - pth δ (x + 1) y (r - ((x + 1 : Nat) : Int)) = pth δ x y r - pth δ x y (r - ((x + 1 + y : Nat) : Int)) := by
  cases y with
  | zero => simp only [pth_r0, Nat.add_zero]
  | succ y =>
    have a := pth_A (δ := δ) x y r
    have b := pth_B (δ := δ) _ x y (r - ((x + 1 : Nat) : Int)) rfl
    rw [show r - ((x + 1 : Nat) : Int) - ((y + 1 : Nat) : Int) = r - ((x + 1 + (y + 1) : Nat) : Int) by omega] at b
    omega
theorem pth_congr {ε : Int → Int} (h : ∀ r, δ r = ε r) (x y : Nat) (r : Int) : pth δ x y r = pth ε x y r := by rw [show δ = ε from funext h]
theorem pth_ind {P : Nat → Nat → Prop} (h0 : ∀ y, P 0 y) (h1 : ∀ x, P x 0) (h2 : ∀ x y, P x (y + 1) → P (x + 1) y → P (x + 1) (y + 1)) : ∀ x y, P x y
  | 0, y => h0 y
  | x + 1, 0 => h1 _
  | x + 1, y + 1 => h2 x y (pth_ind h0 h1 h2 x (y + 1)) (pth_ind h0 h1 h2 (x + 1) y)
termination_by x y => (x, y)
theorem pth_add (ε : Int → Int) : ∀ (x y : Nat) (r : Int), pth (fun r => δ r + ε r) x y r = pth δ x y r + pth ε x y r :=
  pth_ind (fun y r => by rw [pth_0, pth_0, pth_0]) (fun x r => by rw [pth_r0, pth_r0, pth_r0]) fun x y h1 h2 r => by
    rw [pth_A, pth_A, pth_A, h1, h2]; omega
theorem pth_mul (c : Int) : ∀ (x y : Nat) (r : Int), pth (fun r => c * δ r) x y r = c * pth δ x y r :=
  pth_ind (fun y r => by rw [pth_0, pth_0]) (fun x r => by rw [pth_r0, pth_r0]) fun x y h1 h2 r => by
    rw [pth_A, pth_A, h1, h2, Int.mul_add]
theorem pth_sh (h : Int) : ∀ (x y : Nat) (r : Int), pth (fun r => δ (r + h)) x y r = pth δ x y (r + h) :=
  pth_ind (fun y r => by rw [pth_0, pth_0]) (fun x r => by rw [pth_r0, pth_r0]) fun x y h1 h2 r => by
    rw [pth_A, pth_A, h1, h2, show r - ((x + 1 : Nat) : Int) + h = r + h - ((x + 1 : Nat) : Int) by omega]
theorem pth_zero (h : ∀ r, δ r = 0) : ∀ (x y : Nat) (r : Int), pth δ x y r = 0 :=
  pth_ind (fun y r => by rw [pth_0, h]) (fun x r => by rw [pth_r0, h]) fun x y h1 h2 r => by
    rw [pth_A, h1, h2]; rfl
theorem pth_per {d : Int} (h : ∀ r, δ (r - d) = δ r) (x y : Nat) (r : Int) : pth δ x y (r - d) = pth δ x y r := by
  rw [show r - d = r + -d by omega, ← pth_sh]
  exact pth_congr (fun r => by rw [show r + -d = r - d by omega, h]) x y r
theorem pth_turn (h : ∀ r, δ (-r) = δ r) : ∀ (x y : Nat) (r : Int), pth δ x y r = pth δ y x ((x : Int) * y - r) :=
  pth_ind (fun y r => by rw [pth_0, pth_r0, ← h]; congr 1; simp) (fun x r => by rw [pth_r0, pth_0, ← h]; congr 1; simp) fun x y h1 h2 r => by
    rw [pth_A, pth_A y x, h1, h2, Int.add_comm]
    congr 2
    · push_cast; grind
    · push_cast; grind
theorem pth_nn (h : ∀ r, 0 ≤ δ r) : ∀ (x y : Nat) (r : Int), 0 ≤ pth δ x y r :=
  pth_ind (fun y r => by rw [pth_0]; exact h r) (fun x r => by rw [pth_r0]; exact h r) fun x y h1 h2 r => by
    rw [pth_A]; have := h1 r; have := h2 (r - ((x + 1 : Nat) : Int)); omega
/-! ### ways to choose -/
def cp (x y : Nat) : Int := pth (fun _ => 1) x y 0
theorem cp_at : ∀ (x y : Nat) (r : Int), pth (fun _ => 1) x y r = cp x y := fun x y r => by
  unfold cp
  have := pth_sh (δ := fun _ => 1) r x y 0
  rw [Int.zero_add] at this
  exact this.symm
theorem cp_0 (y : Nat) : cp 0 y = 1 := pth_0 y 0
theorem cp_r0 (x : Nat) : cp x 0 = 1 := pth_r0 x 0
theorem cp_A (x y : Nat) : cp (x + 1) (y + 1) = cp x (y + 1) + cp (x + 1) y := by
  unfold cp
  rw [pth_A, cp_at, cp_at]; rfl
theorem cp_pos : ∀ x y, 1 ≤ cp x y := pth_ind (fun y => by rw [cp_0]; decide) (fun x => by rw [cp_r0]; decide) fun x y h1 h2 => by rw [cp_A]; omega
theorem cp_turn (x y : Nat) : cp x y = cp y x := by
  have := pth_turn (δ := fun _ => 1) (fun _ => rfl) x y 0
  rw [cp_at, cp_at] at this
  exact this
theorem cp_M : ∀ x y : Nat, ((x + 1 : Nat) : Int) * cp (x + 1) y = ((x + 1 + y : Nat) : Int) * cp x y := by
  refine pth_ind (fun y => ?_) (fun x => by rw [cp_r0, cp_r0]) fun x y h1 h2 => ?_
  · induction y with
    | zero => rw [cp_r0, cp_0]
    | succ y ih =>
      rw [cp_0] at ih ⊢
      rw [cp_A, cp_0]
      simp only [Nat.zero_add] at ih ⊢
      rw [Int.mul_add, ih]; push_cast; omega
  · have a := cp_A (x + 1) y
    have b := cp_A x y
    rw [a, Int.mul_add, h2]
    have c : cp x (y + 1) = cp (x + 1) (y + 1) - cp (x + 1) y := by omega
    rw [c, Int.mul_sub] at h1
    have e : ((x + 1 + 1 : Nat) : Int) * cp (x + 1) (y + 1) = ((x + 1 : Nat) : Int) * cp (x + 1) (y + 1) + cp (x + 1) (y + 1) := by push_cast; grind
    rw [e, h1]
    push_cast
    grind
theorem cp_le : ∀ x y : Nat, cp x y ≤ 2 ^ (x + y) := by
  refine pth_ind (fun y => ?_) (fun x => ?_) fun x y h1 h2 => ?_
  · rw [cp_0]; have := Int.pow_pos (n := 2) (m := 0 + y) (by decide); omega
  · rw [cp_r0]; have := Int.pow_pos (n := 2) (m := x + 0) (by decide); omega
  · rw [cp_A]
    have : (2 : Int) ^ (x + 1 + (y + 1)) = 2 ^ (x + (y + 1)) + 2 ^ (x + 1 + y) := by
      rw [show x + 1 + (y + 1) = (x + (y + 1)) + 1 by omega, Int.pow_succ, show x + 1 + y = x + (y + 1) by omega]; omega
    omega
/-! ### sums -/
def S : Nat → (Nat → Int) → Int
  | 0, _ => 0
  | n + 1, g => S n g + g n
theorem S_congr {f g : Nat → Int} : ∀ {n : Nat}, (∀ i, i < n → f i = g i) → S n f = S n g
  | 0, _ => rfl
  | n + 1, h => by rw [S, S, S_congr (fun i hi => h i (by omega)), h n (by omega)]
theorem S_add (f g : Nat → Int) : ∀ n, S n (fun i => f i + g i) = S n f + S n g
  | 0 => rfl
  | n + 1 => by rw [S, S, S, S_add f g n]; omega
theorem S_mul (c : Int) (f : Nat → Int) : ∀ n, S n (fun i => c * f i) = c * S n f
  | 0 => by rw [S, S, Int.mul_zero]
  | n + 1 => by rw [S, S, S_mul c f n, Int.mul_add]
theorem S_const (c : Int) : ∀ n : Nat, S n (fun _ => c) = n * c
  | 0 => by rw [S]; simp
  | n + 1 => by rw [S, S_const c n]; push_cast; grind
theorem S_zero {f : Nat → Int} {n : Nat} (h : ∀ i, i < n → f i = 0) : S n f = 0 := by
  rw [S_congr h, S_const]; simp
theorem S_more {f : Nat → Int} {M N : Nat} (h : M ≤ N) (z : ∀ i, M ≤ i → i < N → f i = 0) : S N f = S M f := by
  induction N with
  | zero => rw [show M = 0 by omega]
  | succ N ih =>
    by_cases e : M = N + 1
    · rw [e]
    · rw [S, ih (by omega) (fun i a b => z i a (by omega)), z N (by omega) (by omega), Int.add_zero]
theorem S_shift (f : Nat → Int) (h : Nat) : ∀ N, S (N + h) (fun i => if h ≤ i then f (i - h) else 0) = S N f
  | 0 => by
    rw [S]
    exact S_zero fun i hi => by rw [if_neg (by omega)]
  | N + 1 => by
    rw [show N + 1 + h = (N + h) + 1 by omega, S, S_shift f h N, S, if_pos (by omega), show N + h - h = N by omega]
theorem pth_S (f : Nat → Int → Int) (x y : Nat) (r : Int) : ∀ n, pth (fun r => S n fun j => f j r) x y r = S n fun j => pth (f j) x y r
  | 0 => pth_zero (fun _ => rfl) x y r
  | n + 1 => by
    rw [S, ← pth_S f x y r n, ← pth_add]
    rfl
/-! ### where the shifts of one step sum up to nothing -/
theorem inv_gcd {V : Int → Int} (m n : Nat) : (∀ r, V (r - m) = V r) → (∀ r, V (r - n) = V r) → ∀ r, V (r - (Nat.gcd m n : Nat)) = V r := by
  induction m, n using Nat.gcd.induction with
  | H0 n => intro _ h r; rw [Nat.gcd_zero_left]; exact h r
  | H1 m n hm ih =>
    intro h1 h2 r
    rw [Nat.gcd_rec]
    refine ih (fun r => ?_) h1 r
    have st : ∀ (q : Nat) (r : Int), V (r - (m * q : Nat)) = V r := fun q => by
      induction q with
      | zero => intro r; simp
      | succ q ih => intro r; rw [show r - ((m * (q + 1) : Nat) : Int) = r - (m * q : Nat) - m by push_cast; grind, h1, ih]
    have e := st (n / m) (r - ((n % m : Nat) : Int))
    rw [← e, show r - ((n % m : Nat) : Int) - ((m * (n / m) : Nat) : Int) = r - n by have := Nat.div_add_mod n m; omega, h2]
theorem pth_none {d a b : Nat} (hd : 0 < d) (per : ∀ r, δ (r - d) = δ r) (ha : 1 ≤ a) (hab : a + b = d) (sum : ∀ t, S d (fun j => δ (t + j * (Nat.gcd a d : Nat))) = 0) (r : Int) : pth δ a b r = 0 := by
  obtain ⟨a, rfl⟩ : ∃ k, a = k + 1 := ⟨a - 1, by omega⟩
  have st : ∀ r, pth δ (a + 1) b (r - ((a + 1 : Nat) : Int)) = pth δ (a + 1) b r := fun r => by
    have c := pth_C (δ := δ) a b r
    rw [hab, pth_per per] at c
    omega
  have st := inv_gcd (a + 1) d st (pth_per per _ _)
  generalize Nat.gcd (a + 1) d = g at sum st
  have all : ∀ (j : Nat) (r : Int), pth δ (a + 1) b (r + j * (g : Nat)) = pth δ (a + 1) b r := fun j => by
    induction j with
    | zero => intro r; simp
    | succ j ih =>
      intro r
      rw [← st, show r + ((j + 1 : Nat) : Int) * (g : Nat) - (g : Nat) = r + j * (g : Nat) by push_cast; grind, ih]
  have s : S d (fun j => pth δ (a + 1) b (r + j * (g : Nat))) = d * pth δ (a + 1) b r := by
    rw [S_congr (fun i _ => all i r), S_const]
  have z : S d (fun j => pth δ (a + 1) b (r + j * (g : Nat))) = 0 := by
    rw [S_congr (fun (j : Nat) _ => (pth_sh (δ := δ) ((j : Int) * (g : Nat)) (a + 1) b r).symm), ← pth_S]
    exact pth_zero (fun t => sum t) _ _ _
  rw [z] at s
  rcases Int.mul_eq_zero.mp s.symm with h | h
  · omega
  · exact h
/-! ### digits -/
section
variable (δ) (d : Nat)
def F0 (X a Y b : Nat) (r : Int) : Int := if a + b < d then pth δ a b r * cp X Y else 0
def F (x y : Nat) (r : Int) : Int := F0 δ d (x / d) (x % d) (y / d) (y % d) r
end
theorem F_at {d X a Y b x y : Nat} (ha : a < d) (hb : b < d) (hx : x = d * X + a) (hy : y = d * Y + b) (r : Int) : F δ d x y r = F0 δ d X a Y b r := by
  subst hx hy
  unfold F
  rw [Nat.mul_add_mod, Nat.mod_eq_of_lt ha, Nat.mul_add_mod, Nat.mod_eq_of_lt hb, Nat.mul_add_div (by omega), Nat.div_eq_of_lt ha, Nat.mul_add_div (by omega), Nat.div_eq_of_lt hb]
  rfl
theorem per_mul {d : Nat} (per : ∀ r, δ (r - d) = δ r) (x y : Nat) (r : Int) : ∀ X : Nat, pth δ x y (r - (d * X : Nat)) = pth δ x y r
  | 0 => by simp
  | X + 1 => by
    rw [show r - ((d * (X + 1) : Nat) : Int) = r - (d * X : Nat) - d by push_cast; grind, pth_per per, per_mul per x y r X]
theorem digits {n : Int} {d : Nat} (hd : 0 < d) (per : ∀ r, δ (r - d) = δ r) (zero : ∀ a b, 1 ≤ a → 1 ≤ b → a + b = d → ∀ r, n ∣ pth δ a b r) : ∀ (x y : Nat) (r : Int), n ∣ pth δ x y r - F δ d x y r := by
  refine pth_ind (fun y r => ?_) (fun x r => ?_) fun x y h1 h2 r => ?_
  · unfold F F0
    rw [pth_0, Nat.zero_mod, Nat.zero_div, pth_0, cp_0, if_pos (by have := Nat.mod_lt y hd; omega)]
    simp
  · unfold F F0
    rw [pth_r0, Nat.zero_mod, Nat.zero_div, pth_r0, cp_r0, if_pos (by have := Nat.mod_lt x hd; omega)]
    simp
  · have key : n ∣ F δ d x (y + 1) r + F δ d (x + 1) y (r - ((x + 1 : Nat) : Int)) - F δ d (x + 1) (y + 1) r := by
      obtain ⟨X, a, hx, ha⟩ : ∃ X a, x + 1 = d * X + a ∧ a < d := ⟨(x + 1) / d, (x + 1) % d, (Nat.div_add_mod _ _).symm, Nat.mod_lt _ hd⟩
      obtain ⟨Y, b, hy, hb⟩ : ∃ Y b, y + 1 = d * Y + b ∧ b < d := ⟨(y + 1) / d, (y + 1) % d, (Nat.div_add_mod _ _).symm, Nat.mod_lt _ hd⟩
      rw [F_at ha hb hx hy r]
      have px : ∀ (u v : Nat), pth δ u v (r - ((x + 1 : Nat) : Int)) = pth δ u v (r - a) := fun u v => by
        rw [hx, show r - ((d * X + a : Nat) : Int) = (r - a) - (d * X : Nat) by push_cast; omega, per_mul per]
      cases a with
      | zero =>
        obtain ⟨X, rfl⟩ : ∃ k, X = k + 1 := ⟨X - 1, by cases X <;> omega⟩
        have hx' : x = d * X + (d - 1) := by rw [Nat.mul_add] at hx; omega
        rw [F_at (by omega) hb hx' hy r]
        cases b with
        | zero =>
          obtain ⟨Y, rfl⟩ : ∃ k, Y = k + 1 := ⟨Y - 1, by cases Y <;> omega⟩
          have hy' : y = d * Y + (d - 1) := by rw [Nat.mul_add] at hy; omega
          rw [F_at ha (by omega) hx hy' _]
          unfold F0
          rw [if_pos (by omega), if_pos (by omega), if_pos (by omega), px, pth_0, pth_0, pth_r0, cp_A]
          simp only [Int.natCast_zero, Int.sub_zero]
          refine ⟨0, ?_⟩
          grind
        | succ b =>
          have hy' : y = d * Y + b := by omega
          rw [F_at ha (by omega) hx hy' _]
          unfold F0
          rw [if_neg (by omega), if_pos (by omega), if_pos (by omega), px, pth_0, pth_0]
          simp only [Int.natCast_zero, Int.sub_zero]
          refine ⟨0, ?_⟩
          grind
      | succ a =>
        have hx' : x = d * X + a := by omega
        rw [F_at (by omega) hb hx' hy r]
        cases b with
        | zero =>
          obtain ⟨Y, rfl⟩ : ∃ k, Y = k + 1 := ⟨Y - 1, by cases Y <;> omega⟩
          have hy' : y = d * Y + (d - 1) := by rw [Nat.mul_add] at hy; omega
          rw [F_at ha (by omega) hx hy' _]
          unfold F0
          rw [if_pos (by omega), if_neg (by omega), if_pos (by omega), pth_r0, pth_r0]
          refine ⟨0, ?_⟩
          grind
        | succ b =>
          have hy' : y = d * Y + b := by omega
          rw [F_at ha (by omega) hx hy' _]
          unfold F0
          have A := pth_A (δ := δ) a b r
          rw [px]
          by_cases h : a + 1 + (b + 1) < d
          · rw [if_pos (by omega), if_pos (by omega), if_pos h, A]
            refine ⟨0, ?_⟩
            grind
          · rw [if_neg h]
            by_cases h' : a + 1 + (b + 1) = d
            · rw [if_pos (by omega), if_pos (by omega), ← Int.add_mul, ← A, Int.sub_zero]
              exact Int.dvd_mul_of_dvd_left (zero _ _ (by omega) (by omega) h' r)
            · rw [if_neg (by omega), if_neg (by omega)]
              exact ⟨0, by simp⟩
    rw [pth_A]
    obtain ⟨k1, e1⟩ := h1 r
    obtain ⟨k2, e2⟩ := h2 (r - ((x + 1 : Nat) : Int))
    obtain ⟨k3, e3⟩ := key
    refine ⟨k1 + k2 + k3, ?_⟩
    rw [Int.mul_add, Int.mul_add]
    omega
theorem digits0 {d : Nat} (hd : 0 < d) (per : ∀ r, δ (r - d) = δ r) (zero : ∀ a b, 1 ≤ a → 1 ≤ b → a + b = d → ∀ r, pth δ a b r = 0) (x y : Nat) (r : Int) : pth δ x y r = F δ d x y r := by
  have := digits (n := 0) hd per (fun a b h1 h2 h3 r => by rw [zero a b h1 h2 h3 r]; exact ⟨0, rfl⟩) x y r
  have := Int.zero_dvd.mp this
  omega
end QB
set_option maxRecDepth 100000
set_option maxHeartbeats 4000000
namespace QB
/-! ### counts by areas -/
def dl (r : Int) : Int := if r = 0 then 1 else 0
abbrev pc : Nat → Nat → Int → Int := pth dl
theorem pc_out : ∀ (x y : Nat) (r : Int), r < 0 ∨ ((x * y : Nat) : Int) < r → pc x y r = 0 :=
  pth_ind (fun y r h => by rw [pc, pth_0, dl, if_neg (by rw [Nat.zero_mul] at h; omega)]) (fun x r h => by rw [pc, pth_r0, dl, if_neg (by rw [Nat.mul_zero] at h; omega)]) fun x y h1 h2 r h => by
    rw [pc, pth_A]
    have e : (x + 1) * (y + 1) = x * (y + 1) + (y + 1) := by rw [Nat.add_mul, Nat.one_mul]
    have e' : (x + 1) * (y + 1) = (x + 1) * y + (x + 1) := by rw [Nat.mul_add, Nat.mul_one]
    have a1 := h1 r (by omega)
    have a2 := h2 (r - ((x + 1 : Nat) : Int)) (by omega)
    rw [pc] at a1 a2
    rw [a1, a2]; rfl
theorem S_dl (g : Nat → Int) : ∀ N, S (N + 1) (fun n => dl n * g n) = g 0
  | 0 => by simp [S, dl]
  | N + 1 => by
    rw [S, S_dl g N, dl, if_neg (by omega)]; omega
theorem conv {δ : Int → Int} : ∀ (x y : Nat) (r : Int) (N : Nat), x * y < N → pth δ x y r = S N (fun n => pc x y n * δ (r - n)) :=
  pth_ind (fun y r N h => by
      obtain ⟨N, rfl⟩ : ∃ k, N = k + 1 := ⟨N - 1, by omega⟩
      rw [pth_0, S_congr (g := fun n : Nat => dl n * δ (r - n)) (fun i _ => by rw [pc, pth_0]), S_dl (fun n : Nat => δ (r - n))]; simp)
    (fun x r N h => by
      obtain ⟨N, rfl⟩ : ∃ k, N = k + 1 := ⟨N - 1, by omega⟩
      rw [pth_r0, S_congr (g := fun n : Nat => dl n * δ (r - n)) (fun i _ => by rw [pc, pth_r0]), S_dl (fun n : Nat => δ (r - n))]; simp)
    fun x y h1 h2 r N h => by
      have e : (x + 1) * (y + 1) = x * (y + 1) + (y + 1) := by rw [Nat.add_mul, Nat.one_mul]
      have e' : (x + 1) * (y + 1) = (x + 1) * y + (x + 1) := by rw [Nat.mul_add, Nat.mul_one]
      obtain ⟨M, rfl⟩ : ∃ k, N = k + (x + 1) := ⟨N - (x + 1), by omega⟩
      rw [pth_A, h1 r (M + (x + 1)) (by omega), h2 _ M (by omega), ← S_shift _ (x + 1) M, ← S_add]
      refine S_congr fun i _ => ?_
      have a := pth_A (δ := dl) x y i
      by_cases hi : x + 1 ≤ i
      · rw [if_pos hi, pc, a]
        rw [show ((i - (x + 1) : Nat) : Int) = (i : Int) - ((x + 1 : Nat) : Int) by omega, show r - ((x + 1 : Nat) : Int) - ((i : Int) - ((x + 1 : Nat) : Int)) = r - i by omega, Int.add_mul]
      · have z := pc_out (x + 1) y (i - ((x + 1 : Nat) : Int)) (by omega)
        rw [pc] at z
        rw [if_neg hi, pc, a, z]
        simp
/-! ### sums of the roots of one -/
def moeL : Nat → Nat → Int → Nat → Option Int
  | 0, _, _, _ => none
  | f + 1, n, s, p => if 1 < n then (if n % p = 0 then (if n / p % p = 0 then some 0 else moeL f (n / p) (-s) (p + 1)) else moeL f n s (p + 1)) else some s
def moe (n : Nat) : Int := (moeL 40 n 1 2).getD 0
theorem moe_ok : ∀ n, n < 31 → moeL 40 n 1 2 = some (moe n) := by decide +kernel
theorem moe_le : ∀ n, n < 31 → moe n = 0 ∨ moe n = 1 ∨ moe n = -1 := by decide +kernel
def dvs (m : Nat) : List Nat := ((List.range m).map (· + 1)).filter fun e => m % e = 0
def ram (d : Nat) (k : Int) : Int := ((dvs (Nat.gcd d k.natAbs)).map fun e => moe (d / e) * e).sum
theorem ram_neg (d : Nat) (k : Int) : ram d (-k) = ram d k := by unfold ram; rw [Int.natAbs_neg]
theorem ram_per (d : Nat) (k : Int) : ram d (k - d) = ram d k := by
  have : Nat.gcd d (k - d).natAbs = Nat.gcd d k.natAbs := by
    have h := Int.gcd_sub_self_right (d : Int) k
    rw [Int.gcd, Int.gcd] at h
    simpa using h
  unfold ram; rw [this]
theorem ram_perN (d : Nat) (k : Int) : ∀ n : Nat, ram d (k - (d * n : Nat)) = ram d k
  | 0 => by simp
  | n + 1 => by rw [show k - ((d * (n + 1) : Nat) : Int) = k - (d * n : Nat) - d by push_cast; grind, ram_per, ram_perN d k n]
theorem ram_mod {d : Nat} (hd : 0 < d) (k : Int) : ram d k = ram d ((k % d).toNat : Nat) := by
  have h1 := Int.emod_nonneg k (show (d : Int) ≠ 0 by omega)
  rw [Int.toNat_of_nonneg h1]
  have e := Int.mul_ediv_add_emod k d
  rcases Int.le_total 0 (k / d) with h | h
  · have := ram_perN d k (k / d).toNat
    rw [← this]
    congr 1
    push_cast
    rw [Int.toNat_of_nonneg h]
    omega
  · have := ram_perN d (k % d) (-(k / d)).toNat
    rw [← this]
    congr 1
    push_cast
    rw [Int.toNat_of_nonneg (by omega), Int.mul_neg]
    omega
def tabR : List (List Int) := [[], [1], [1, -1], [2, -1, -1], [2, 0, -2, 0], [4, -1, -1, -1, -1], [2, 1, -1, -2, -1, 1], [6, -1, -1, -1, -1, -1, -1], [4, 0, 0, 0, -4, 0, 0, 0], [6, 0, 0, -3, 0, 0, -3, 0, 0], [4, 1, -1, 1, -1, -4, -1, 1, -1, 1], [10, -1, -1, -1, -1, -1, -1, -1, -1, -1, -1], [4, 0, 2, 0, -2, 0, -4, 0, -2, 0, 2, 0], [12, -1, -1, -1, -1, -1, -1, -1, -1, -1, -1, -1, -1], [6, 1, -1, 1, -1, 1, -1, -6, -1, 1, -1, 1, -1, 1], [8, 1, 1, -2, 1, -4, -2, 1, 1, -2, -4, 1, -2, 1, 1], [8, 0, 0, 0, 0, 0, 0, 0, -8, 0, 0, 0, 0, 0, 0, 0], [16, -1, -1, -1, -1, -1, -1, -1, -1, -1, -1, -1, -1, -1, -1, -1, -1], [6, 0, 0, 3, 0, 0, -3, 0, 0, -6, 0, 0, -3, 0, 0, 3, 0, 0], [18, -1, -1, -1, -1, -1, -1, -1, -1, -1, -1, -1, -1, -1, -1, -1, -1, -1, -1], [8, 0, 2, 0, -2, 0, 2, 0, -2, 0, -8, 0, -2, 0, 2, 0, -2, 0, 2, 0], [12, 1, 1, -2, 1, 1, -2, -6, 1, -2, 1, 1, -2, 1, -6, -2, 1, 1, -2, 1, 1], [10, 1, -1, 1, -1, 1, -1, 1, -1, 1, -1, -10, -1, 1, -1, 1, -1, 1, -1, 1, -1, 1], [22, -1, -1, -1, -1, -1, -1, -1, -1, -1, -1, -1, -1, -1, -1, -1, -1, -1, -1, -1, -1, -1, -1], [8, 0, 0, 0, 4, 0, 0, 0, -4, 0, 0, 0, -8, 0, 0, 0, -4, 0, 0, 0, 4, 0, 0, 0], [20, 0, 0, 0, 0, -5, 0, 0, 0, 0, -5, 0, 0, 0, 0, -5, 0, 0, 0, 0, -5, 0, 0, 0, 0], [12, 1, -1, 1, -1, 1, -1, 1, -1, 1, -1, 1, -1, -12, -1, 1, -1, 1, -1, 1, -1, 1, -1, 1, -1, 1], [18, 0, 0, 0, 0, 0, 0, 0, 0, -9, 0, 0, 0, 0, 0, 0, 0, 0, -9, 0, 0, 0, 0, 0, 0, 0, 0], [12, 0, 2, 0, -2, 0, 2, 0, -2, 0, 2, 0, -2, 0, -12, 0, -2, 0, 2, 0, -2, 0, 2, 0, -2, 0, 2, 0], [28, -1, -1, -1, -1, -1, -1, -1, -1, -1, -1, -1, -1, -1, -1, -1, -1, -1, -1, -1, -1, -1, -1, -1, -1, -1, -1, -1, -1], [8, -1, 1, 2, 1, 4, -2, -1, 1, 2, -4, -1, -2, -1, 1, -8, 1, -1, -2, -1, -4, 2, 1, -1, -2, 4, 1, 2, 1, -1]]
def rowA (R : List Int) (d : Nat) : Bool := (List.range d).all fun a => decide (d % a ≠ 0) || (List.range d).all fun t => decide (((List.range d).map fun j => R.getD ((t + j * a) % d) 0).sum = 0)
theorem tab_ok : ∀ d, d < 31 → ∀ t, t < d → ram d (t : Nat) = (tabR.getD d []).getD t 0 := by decide +kernel
theorem tab_sum : ∀ d, d < 31 → rowA (tabR.getD d []) d = true := by decide +kernel
theorem S_list (f : Nat → Int) : ∀ n, ((List.range n).map f).sum = S n f
  | 0 => rfl
  | n + 1 => by rw [List.range_succ, List.map_append, List.sum_append, S_list f n, S]; simp
theorem ram_sum {d a : Nat} (hd : d < 31) (ha : 1 ≤ a) (had : a < d) (hda : d % a = 0) (t : Int) : S d (fun j => ram d (t + j * a)) = 0 := by
  have h := tab_sum d hd
  unfold rowA at h
  rw [List.all_eq_true] at h
  have h := h a (List.mem_range.mpr had)
  rw [decide_eq_false (by omega), Bool.false_or, List.all_eq_true] at h
  have m1 := Int.emod_nonneg t (show (d : Int) ≠ 0 by omega)
  have m2 := Int.emod_lt_of_pos t (show (0 : Int) < d by omega)
  have h := of_decide_eq_true (h (t % d).toNat (List.mem_range.mpr (by omega)))
  rw [S_list] at h
  rw [← h]
  refine S_congr fun j _ => ?_
  have e : ((t + j * a) % d).toNat = ((t % d).toNat + j * a) % d := by
    have : ((((t % d).toNat + j * a) % d : Nat) : Int) = (t + j * a) % d := by
      push_cast
      rw [Int.toNat_of_nonneg m1, Int.emod_add_emod]
    omega
  rw [ram_mod (by omega), e, tab_ok d hd _ (Nat.mod_lt _ (by omega))]
def divA (m : Nat) : Bool := (List.range m).all fun r => decide (((dvs m).map fun d => ram d (r : Nat)).sum = if r = 0 then (m : Int) else 0)
theorem div_ok : ∀ m, m < 31 → divA m = true := by decide +kernel
theorem mem_dvs {m e : Nat} : e ∈ dvs m ↔ 1 ≤ e ∧ e ≤ m ∧ m % e = 0 := by
  unfold dvs
  rw [List.mem_filter, List.mem_map]
  constructor
  · rintro ⟨⟨k, hk, rfl⟩, h2⟩
    have := List.mem_range.mp hk
    exact ⟨by omega, by omega, of_decide_eq_true h2⟩
  · rintro ⟨h1, h2, h3⟩
    exact ⟨⟨e - 1, List.mem_range.mpr (by omega), by omega⟩, decide_eq_true h3⟩
theorem ram_dvd {m e : Nat} (he : e ∈ dvs m) (r : Int) : ram e (r - m) = ram e r := by
  obtain ⟨h1, h2, h3⟩ := mem_dvs.mp he
  have := ram_perN e r (m / e)
  rw [Nat.mul_div_cancel' (Nat.dvd_of_mod_eq_zero h3)] at this
  exact this
/-- one where the modulus divides, nothing elsewhere -/
def at0 (m : Nat) (r : Int) : Int := if r % m = 0 then 1 else 0
theorem sum_div {m : Nat} (hm : 1 ≤ m) (h30 : m < 31) (r : Int) : ((dvs m).map fun d => ram d r).sum = m * at0 m r := by
  have h := div_ok m h30
  unfold divA at h
  rw [List.all_eq_true] at h
  have m1 := Int.emod_nonneg r (show (m : Int) ≠ 0 by omega)
  have m2 := Int.emod_lt_of_pos r (show (0 : Int) < m by omega)
  have h := of_decide_eq_true (h (r % m).toNat (List.mem_range.mpr (by omega)))
  have e : ((dvs m).map fun d => ram d r).sum = ((dvs m).map fun d => ram d ((r % m).toNat : Nat)).sum := by
    congr 1
    refine List.map_congr_left fun d hd => ?_
    obtain ⟨h1, h2, h3⟩ := mem_dvs.mp hd
    rw [ram_mod (by omega), ram_mod (by omega) (((r % m).toNat : Nat) : Int)]
    rw [Int.toNat_of_nonneg m1, Int.emod_emod_of_dvd _ (Int.natCast_dvd_natCast.mpr (Nat.dvd_of_mod_eq_zero h3))]
  rw [e, h, at0]
  by_cases z : r % m = 0
  · rw [if_pos (by omega), if_pos z]; omega
  · rw [if_neg (by omega), if_neg z]; omega
/-! ### how many paths leave a rest -/
abbrev rst (m : Nat) : Nat → Nat → Int → Int := pth (at0 m)
theorem pth_list (f : Nat → Int → Int) (x y : Nat) (r : Int) : ∀ l : List Nat, (l.map fun d => pth (f d) x y r).sum = pth (fun r => (l.map fun d => f d r).sum) x y r
  | [] => (pth_zero (fun _ => rfl) x y r).symm
  | d :: l => by
    simp only [List.map_cons, List.sum_cons]
    rw [pth_list f x y r l, pth_add]
def shr (x y d : Nat) (r : Int) : Int := if x % d + y % d < d then pth (ram d) (x % d) (y % d) r else 0
theorem ram_F {d : Nat} (h1 : 1 ≤ d) (hd : d < 31) (x y : Nat) (r : Int) : pth (ram d) x y r = shr x y d r * cp (x / d) (y / d) := by
  rw [digits0 h1 (ram_per d) (fun a b h1 h2 h3 r => pth_none (by omega) (ram_per d) h1 h3 (fun t => ram_sum hd (Nat.gcd_pos_of_pos_left _ (by omega)) (Nat.lt_of_le_of_lt (Nat.gcd_le_left _ (by omega)) (by omega)) (Nat.mod_eq_zero_of_dvd (Nat.gcd_dvd_right _ _)) t) r)]
  unfold F F0 shr
  split
  · rfl
  · simp
theorem rst_sum {m : Nat} (hm : 1 ≤ m) (h30 : m < 31) (x y : Nat) (r : Int) : ((dvs m).map fun d => shr x y d r * cp (x / d) (y / d)).sum = m * rst m x y r := by
  have e : ((dvs m).map fun d => shr x y d r * cp (x / d) (y / d)) = (dvs m).map fun d => pth (ram d) x y r :=
    List.map_congr_left fun d hd => by
      obtain ⟨h1, h2, _⟩ := mem_dvs.mp hd
      rw [ram_F h1 (by omega)]
  rw [e, pth_list, pth_congr (fun r => sum_div hm h30 r), pth_mul]
end QB
set_option maxRecDepth 100000
set_option maxHeartbeats 4000000
namespace QB
/-! ### primes -/
def Prm (p : Nat) : Prop := 2 ≤ p ∧ ∀ d, d < p → 2 ≤ d → p % d ≠ 0
instance (p : Nat) : Decidable (Prm p) := inferInstanceAs (Decidable (_ ∧ _))
theorem Prm.cop {p a : Nat} (h : Prm p) (ha : 0 < a) (hap : a < p) : Nat.Coprime p a := by
  have d1 := Nat.gcd_dvd_left p a
  have d2 := Nat.gcd_dvd_right p a
  have l := Nat.le_of_dvd ha d2
  have z := Nat.gcd_pos_of_pos_right p ha
  show Nat.gcd p a = 1
  rcases Nat.lt_or_ge (Nat.gcd p a) 2 with q | q
  · omega
  · exact absurd (Nat.mod_eq_zero_of_dvd d1) (h.2 _ (by omega) q)
theorem Prm.mul {p a b : Nat} (h : Prm p) (ha : a % p ≠ 0) (hb : b % p ≠ 0) : a * b % p ≠ 0 := by
  intro z
  have c := h.cop (Nat.pos_of_ne_zero ha) (Nat.mod_lt a (by have := h.1; omega))
  have z : p ∣ (a % p) * b := by
    refine Nat.dvd_of_mod_eq_zero ?_
    rw [Nat.mod_mul_mod]; exact z
  exact hb (Nat.mod_eq_zero_of_dvd (c.dvd_of_dvd_mul_left z))
theorem Prm.cp {p a b : Nat} (h : Prm p) (ha : 1 ≤ a) (hb : 1 ≤ b) (hab : a + b = p) : (p : Int) ∣ cp a b := by
  obtain ⟨a, rfl⟩ : ∃ k, a = k + 1 := ⟨a - 1, by omega⟩
  have e := cp_M a b
  rw [hab] at e
  have c := h.cop (show 0 < a + 1 by omega) (by omega)
  have z : (p : Int) ∣ ((a + 1 : Nat) : Int) * QB.cp (a + 1) b := ⟨_, e⟩
  have z := Int.natAbs_dvd_natAbs.mpr z
  rw [Int.natAbs_mul, Int.natAbs_natCast, Int.natAbs_natCast] at z
  exact Int.natAbs_dvd_natAbs.mp (by rw [Int.natAbs_natCast]; exact c.dvd_of_dvd_mul_left z)
/-! ### the number of ways to choose -/
def cb (n k : Nat) : Nat := if k ≤ n then (cp k (n - k)).toNat else 0
theorem cp_cb (x y : Nat) : cp x y = (cb (x + y) x : Nat) := by
  have := cp_pos x y
  unfold cb
  rw [if_pos (by omega), show x + y - x = y by omega]; omega
theorem cb_cp {n k : Nat} (h : k ≤ n) : (cb n k : Int) = cp k (n - k) := by
  rw [cp_cb, show k + (n - k) = n by omega]
theorem cb_0 (n : Nat) : cb n 0 = 1 := by unfold cb; rw [if_pos (by omega), cp_0]; rfl
theorem cb_none {n k : Nat} (h : n < k) : cb n k = 0 := by unfold cb; rw [if_neg (by omega)]
theorem cb_turn {n k : Nat} (h : k ≤ n) : cb n (n - k) = cb n k := by
  have := cb_cp h
  have := cb_cp (show n - k ≤ n by omega)
  rw [show n - (n - k) = k by omega, cp_turn] at this
  omega
theorem lucas {p : Nat} (h : Prm p) (n k : Nat) : cb n k % p = cb (n / p) (k / p) * cb (n % p) (k % p) % p := by
  have hp : 0 < p := by have := h.1; omega
  by_cases hk : k ≤ n
  · obtain ⟨l, rfl⟩ : ∃ l, n = k + l := ⟨n - k, by omega⟩
    have e := digits (δ := fun _ => 1) (n := (p : Int)) hp (fun _ => rfl) (fun a b h1 h2 h3 r => by rw [cp_at]; exact h.cp h1 h2 h3) k l 0
    rw [cp_at] at e
    unfold F F0 at e
    have mk := Nat.mod_lt k hp
    have ml := Nat.mod_lt l hp
    have ek := Nat.div_add_mod k p
    have el := Nat.div_add_mod l p
    by_cases c : k % p + l % p < p
    · rw [if_pos c, cp_at, cp_cb, cp_cb, cp_cb] at e
      have e1 : (k + l) % p = k % p + l % p := by rw [Nat.add_mod, Nat.mod_eq_of_lt c]
      have e2 : (k + l) / p = k / p + l / p := by
        rw [show k + l = p * (k / p + l / p) + (k % p + l % p) by rw [Nat.mul_add]; omega, Nat.mul_add_div hp, Nat.div_eq_of_lt c, Nat.add_zero]
      rw [e1, e2]
      have e3 : ((cb (k + l) k : Nat) : Int) % p = ((cb (k / p + l / p) (k / p) * cb (k % p + l % p) (k % p) : Nat) : Int) % p := by
        refine Int.emod_eq_emod_iff_emod_sub_eq_zero.mpr (Int.emod_eq_zero_of_dvd ?_)
        push_cast
        rw [Int.mul_comm (cb (k / p + l / p) (k / p) : Int)]
        exact e
      omega
    · rw [if_neg c, Int.sub_zero, cp_cb] at e
      have e1 : (k + l) % p = k % p + l % p - p := by
        rw [Nat.add_mod, Nat.mod_eq_sub_mod (by omega), Nat.mod_eq_of_lt (by omega)]
      rw [e1, cb_none (show k % p + l % p - p < k % p by omega), Nat.mul_zero, Nat.zero_mod]
      have := Int.emod_eq_zero_of_dvd e
      omega
  · rw [cb_none (by omega)]
    rcases Nat.lt_or_ge (n / p) (k / p) with c | c
    · rw [cb_none c, Nat.zero_mul]
    · have e1 : k / p = n / p := Nat.le_antisymm c (Nat.div_le_div_right (by omega))
      have ek := Nat.div_add_mod k p
      have en := Nat.div_add_mod n p
      rw [e1] at ek
      rw [cb_none (show n % p < k % p by omega), Nat.mul_zero]
/-! ### products -/
def fac : Nat → Nat
  | 0 => 1
  | s + 1 => fac s * (s + 1)
def fall (n : Nat) : Nat → Nat
  | 0 => 1
  | s + 1 => fall n s * (n - s)
theorem cb_step {n s : Nat} (h : s < n) : (s + 1) * cb n (s + 1) = (n - s) * cb n s := by
  have a := cp_M s (n - s - 1)
  have b := cp_M (n - s - 1) s
  rw [show n - s - 1 + 1 = n - s by omega] at b
  rw [cp_turn (n - s) s, cp_turn (n - s - 1) s, show ((n - s + s : Nat) : Int) = ((s + 1 + (n - s - 1) : Nat) : Int) by omega, ← a] at b
  have c1 := cb_cp (show s + 1 ≤ n by omega)
  have c2 := cb_cp (show s ≤ n by omega)
  rw [show n - (s + 1) = n - s - 1 by omega] at c1
  rw [← c1, ← c2] at b
  have : (((n - s) * cb n s : Nat) : Int) = (((s + 1) * cb n (s + 1) : Nat) : Int) := by rw [Int.natCast_mul, Int.natCast_mul]; exact b
  omega
theorem fac_cb {n : Nat} : ∀ s, s ≤ n → fac s * cb n s = fall n s
  | 0, _ => by rw [cb_0]; rfl
  | s + 1, h => by
    rw [fac, fall, Nat.mul_assoc, cb_step (by omega), ← fac_cb s (by omega)]
    rw [Nat.mul_comm (n - s), Nat.mul_assoc]
theorem Prm.fac {p : Nat} (h : Prm p) : ∀ s, s < p → QB.fac s % p ≠ 0
  | 0, _ => by rw [QB.fac, Nat.mod_eq_of_lt (by have := h.1; omega)]; decide
  | s + 1, hs => by
    rw [QB.fac]
    exact h.mul (h.fac s (by omega)) (by rw [Nat.mod_eq_of_lt hs]; omega)
/-! ### what gives one -/
def Frm (p : Nat) : Prop := ∀ b, b < p → b ≠ 0 → b * (b ^ (p - 2) % p) % p = 1
instance (p : Nat) : Decidable (Frm p) := inferInstanceAs (Decidable (∀ b, b < p → _))
theorem Frm.one {p b : Nat} (f : Frm p) (h : Prm p) (hb : b % p ≠ 0) : b * (b ^ (p - 2) % p) % p = 1 := by
  have := f (b % p) (Nat.mod_lt _ (by have := h.1; omega)) hb
  rw [← Nat.pow_mod, Nat.mod_mul_mod] at this
  exact this
theorem Frm.undo {p b x : Nat} (f : Frm p) (h : Prm p) (hb : b % p ≠ 0) : b * x % p * (b ^ (p - 2) % p) % p = x % p := by
  have e := f.one h hb
  rw [Nat.mod_mul_mod, Nat.mul_right_comm, Nat.mul_mod, e, Nat.one_mul, Nat.mod_mod]
theorem pow_step (f b l p : Nat) : (if l % 2 = 1 then f * b % p else f) * (b * b % p) ^ (l / 2) % p = f * b ^ l % p := by
  have e1 : ∀ c, c * (b * b % p) ^ (l / 2) % p = c * (b * b) ^ (l / 2) % p := fun c => by
    rw [Nat.mul_mod, ← Nat.pow_mod, ← Nat.mul_mod]
  rw [e1, ← Nat.pow_two, ← Nat.pow_mul]
  have hl := Nat.div_add_mod l 2
  by_cases h : l % 2 = 1
  · rw [if_pos h, Nat.mod_mul_mod, Nat.mul_assoc, ← Nat.pow_succ', show (2 * (l / 2)).succ = l by omega]
  · rw [if_neg h, show 2 * (l / 2) = l by omega]
theorem prm_ok : ∀ p, p ∈ [2, 3, 5, 7, 11, 13, 29, 31, 97, 499] → Prm p ∧ Frm p := by decide +kernel
theorem over_inv {p n s : Nat} (h : Prm p) (f : Frm p) (hs : s < p) (hn : s ≤ n) : fall n s % p * ((fac s % p) ^ (p - 2) % p) % p = cb n s % p := by
  rw [← fac_cb s hn, ← Nat.pow_mod]
  exact f.undo h (h.fac s hs)
/-! ### all rests, and one line -/
theorem S_one (n c : Nat) (h : c < n) : S n (fun k => if k = c then 1 else 0) = 1 := by
  rw [S_more (M := c + 1) (by omega) (fun i h1 _ => by rw [if_neg (by omega)]), S, if_pos rfl, S_zero (fun i hi => by rw [if_neg (by omega)])]
  rfl
theorem at0_sum {m : Nat} (hm : 0 < m) (r : Int) : S m (fun k => at0 m (r + k)) = 1 := by
  have m1 := Int.emod_nonneg (-r) (show (m : Int) ≠ 0 by omega)
  have m2 := Int.emod_lt_of_pos (-r) (show (0 : Int) < m by omega)
  have em := Int.mul_ediv_add_emod (-r) m
  rw [← S_one m ((-r) % m).toNat (by omega)]
  refine S_congr fun k hk => ?_
  unfold at0
  by_cases c : k = ((-r) % m).toNat
  · rw [if_pos c, if_pos]
    rw [show (k : Int) = (-r) % m by omega, show r + (-r) % m = (m : Int) * (-((-r) / m)) by rw [Int.mul_neg]; omega]
    exact Int.mul_emod_right _ _
  · rw [if_neg c, if_neg]
    intro z
    obtain ⟨q, hq⟩ := Int.dvd_of_emod_eq_zero z
    have e : (-r) % m = k := by
      rw [show -r = (k : Int) + m * (-q) by rw [Int.mul_neg]; omega, Int.add_mul_emod_self_left]
      exact Int.emod_eq_of_lt (by omega) (by omega)
    omega
theorem rst_all {m : Nat} (hm : 0 < m) (x y : Nat) : S m (fun k => rst m x y k) = cp x y := by
  have e : ∀ k : Nat, rst m x y k = pth (fun r => at0 m (r + k)) x y 0 := fun k => by
    rw [pth_sh, Int.zero_add]
  rw [S_congr (fun k _ => e k), ← pth_S, pth_congr (fun r => at0_sum hm r), cp_at]
theorem at0_per (m : Nat) (r : Int) : at0 m (r - m) = at0 m r := by
  unfold at0
  rw [Int.sub_emod_right]
theorem at0_neg (m : Nat) (r : Int) : at0 m (-r) = at0 m r := by
  unfold at0
  have : -r % (m : Int) = 0 ↔ r % (m : Int) = 0 := by
    rw [← Int.dvd_iff_emod_eq_zero, ← Int.dvd_iff_emod_eq_zero, Int.dvd_neg]
  simp only [this]
theorem at0_emod (m : Nat) (r : Int) : at0 m (r % m) = at0 m r := by
  unfold at0
  rw [Int.emod_emod_of_dvd _ (Int.dvd_refl _)]
theorem rst_mod (m : Nat) : ∀ (x y : Nat) (r : Int), rst m x y (r % m) = rst m x y r := fun x y r => by
  have e := Int.mul_ediv_add_emod r m
  have st : ∀ (q : Nat) (r : Int), rst m x y (r - (m * q : Nat)) = rst m x y r := fun q r => per_mul (at0_per m) x y r q
  rcases Int.le_total 0 (r / m) with h | h
  · have := st (r / m).toNat r
    rw [← this]; congr 1; push_cast; rw [Int.toNat_of_nonneg h]; omega
  · have := st (-(r / m)).toNat (r % m)
    rw [← this]; congr 1; push_cast; rw [Int.toNat_of_nonneg (by omega), Int.mul_neg]; omega
theorem rst_nn (m : Nat) (x y : Nat) (r : Int) : 0 ≤ rst m x y r := pth_nn (fun r => by unfold at0; split <;> decide) x y r
theorem at0_small {m : Nat} {r : Int} (h0 : 0 ≤ r) (h1 : r < m) : at0 m r = if r = 0 then 1 else 0 := by
  unfold at0
  rw [Int.emod_eq_of_lt h0 h1]
theorem rst_line {m : Nat} (hm : 0 < m) {r : Int} (h0 : 0 ≤ r) (h1 : r < m) : ∀ x : Nat, rst m x 1 r = if r ≤ x then ((x : Int) - r) / m + 1 else 0
  | 0 => by
    rw [rst, pth_0, at0_small h0 h1]
    by_cases c : r = 0
    · rw [if_pos c, if_pos (by omega), c]; simp
    · rw [if_neg c, if_neg (by omega)]
  | x + 1 => by
    have a := pth_A (δ := at0 m) x 0 r
    rw [pth_r0] at a
    have ih := rst_line hm h0 h1 x
    rw [rst] at ih ⊢
    rw [a, ih]
    have e1 := Int.mul_ediv_add_emod ((x : Int) - r) m
    have e2 := Int.mul_ediv_add_emod (((x + 1 : Nat) : Int) - r) m
    have u1 := Int.emod_nonneg ((x : Int) - r) (show (m : Int) ≠ 0 by omega)
    have u2 := Int.emod_lt_of_pos ((x : Int) - r) (show (0 : Int) < m by omega)
    have u3 := Int.emod_nonneg (((x + 1 : Nat) : Int) - r) (show (m : Int) ≠ 0 by omega)
    have u4 := Int.emod_lt_of_pos (((x + 1 : Nat) : Int) - r) (show (0 : Int) < m by omega)
    have en : at0 m (r - ((x + 1 : Nat) : Int)) = at0 m (((x + 1 : Nat) : Int) - r) := by
      rw [← at0_neg]; congr 1; omega
    rw [en]
    unfold at0
    have hd : ∀ (A B M q1 q2 r1 r2 : Int), M * q1 + r1 = A → M * q2 + r2 = A + 1 → 0 < M → 0 ≤ r1 → r1 < M → 0 ≤ r2 → r2 < M → (if r2 = 0 then q2 = q1 + 1 else q2 = q1) := fun A B M q1 q2 r1 r2 h1 h2 hM a b c d => by
      have k : M * (q2 - q1) = r1 + 1 - r2 := by rw [Int.mul_sub]; omega
      have l1 : q2 - q1 < 2 := by
        refine Int.lt_of_mul_lt_mul_left (a := M) ?_ (by omega)
        omega
      have l2 : -1 < q2 - q1 := by
        refine Int.lt_of_mul_lt_mul_left (a := M) ?_ (by omega)
        rw [Int.mul_neg, Int.mul_one]; omega
      rcases (show q2 - q1 = 0 ∨ q2 - q1 = 1 by omega) with z | z
      · rw [z, Int.mul_zero] at k
        rw [if_neg (by omega)]; omega
      · rw [z, Int.mul_one] at k
        rw [if_pos (by omega)]; omega
    have key := hd ((x : Int) - r) 0 m _ _ _ _ e1 (by rw [e2]; push_cast; omega) (by omega) u1 u2 u3 u4
    by_cases c : r ≤ x
    · rw [if_pos c, if_pos (show r ≤ ((x + 1 : Nat) : Int) by omega)]
      split at key
      · rename_i z; rw [if_pos z]; omega
      · rename_i z; rw [if_neg z]; omega
    · by_cases c' : r = ((x + 1 : Nat) : Int)
      · rw [if_neg c, if_pos (show r ≤ ((x + 1 : Nat) : Int) by omega), ← c', Int.sub_self]; simp
      · rw [if_neg c, if_neg (show ¬ r ≤ ((x + 1 : Nat) : Int) by omega)]
        have : at0 m (r - ((x + 1 : Nat) : Int)) = 0 := by
          rw [at0_small (by omega) (by omega), if_neg (by omega)]
        rw [en] at this
        unfold at0 at this
        omega
/-! ### sizes -/
theorem pth_le {δ ε : Int → Int} (h : ∀ r, δ r ≤ ε r) : ∀ (x y : Nat) (r : Int), pth δ x y r ≤ pth ε x y r :=
  pth_ind (fun y r => by rw [pth_0, pth_0]; exact h r) (fun x r => by rw [pth_r0, pth_r0]; exact h r) fun x y h1 h2 r => by
    rw [pth_A, pth_A]; have := h1 r; have := h2 (r - ((x + 1 : Nat) : Int)); omega
theorem ram_lt : ∀ d, d < 31 → ∀ t, t < d → (ram d (t : Nat)).natAbs ≤ 1024 := by decide +kernel
theorem ram_le {d : Nat} (h1 : 1 ≤ d) (hd : d < 31) (k : Int) : -1024 ≤ ram d k ∧ ram d k ≤ 1024 := by
  have m1 := Int.emod_nonneg k (show (d : Int) ≠ 0 by omega)
  have m2 := Int.emod_lt_of_pos k (show (0 : Int) < d by omega)
  have := ram_lt d hd (k % d).toNat (by omega)
  rw [ram_mod (by omega)]
  omega
theorem pth_cst (c : Int) (x y : Nat) (r : Int) : pth (fun _ => c) x y r = c * cp x y := by
  have := pth_mul (δ := fun _ => 1) c x y r
  rw [cp_at] at this
  rw [← this]
  exact pth_congr (fun r => by rw [Int.mul_one]) x y r
theorem pc_le (x y : Nat) (r : Int) : 0 ≤ pc x y r ∧ pc x y r ≤ cp x y := by
  refine ⟨pth_nn (fun r => by unfold dl; split <;> decide) x y r, ?_⟩
  have := pth_le (δ := dl) (ε := fun _ => 1) (fun r => by unfold dl; split <;> decide) x y r
  rw [cp_at] at this
  exact this
theorem cp_31 {a b : Nat} (h : a + b < 31) : cp a b ≤ 2 ^ 31 := by
  have h1 := cp_le a b
  have h2 : (2 : Nat) ^ (a + b) ≤ 2 ^ 31 := Nat.pow_le_pow_right (by decide) (by omega)
  have e1 : ((2 ^ (a + b) : Nat) : Int) = (2 : Int) ^ (a + b) := by simp
  omega
theorem shr_le {d : Nat} (h1 : 1 ≤ d) (hd : d < 31) (x y : Nat) (r : Int) : (shr x y d r).natAbs < 2 ^ 50 := by
  unfold shr
  split
  · rename_i c
    have u := pth_le (δ := ram d) (ε := fun _ => 1024) (fun r => (ram_le h1 hd r).2) (x % d) (y % d) r
    have l := pth_le (δ := fun _ => -1024) (ε := ram d) (fun r => (ram_le h1 hd r).1) (x % d) (y % d) r
    rw [pth_cst] at u l
    have := cp_31 (show x % d + y % d < 31 by omega)
    omega
  · decide
/-- sums over lists, by a modulus -/
theorem sum_mod (p : Int) (f g : Nat → Int) (h : ∀ d, (f d - g d) % p = 0) : ∀ l : List Nat, ((l.map f).sum - (l.map g).sum) % p = 0
  | [] => by simp
  | d :: l => by
    have a := h d
    have b := sum_mod p f g h l
    rw [List.map_cons, List.map_cons, List.sum_cons, List.sum_cons]
    obtain ⟨x, hx⟩ := Int.dvd_of_emod_eq_zero a
    obtain ⟨y, hy⟩ := Int.dvd_of_emod_eq_zero b
    exact Int.emod_eq_zero_of_dvd ⟨x + y, by rw [Int.mul_add]; omega⟩
theorem far_fin {m p : Nat} (h : Prm p) (f : Frm p) (hm : m % p ≠ 0) {F R : Int} (e : (F - m * R) % p = 0) : F * ((m ^ (p - 2) % p : Nat) : Int) % p = R % p := by
  have one := f.one h hm
  obtain ⟨x, hx⟩ := Int.dvd_of_emod_eq_zero e
  have one' : ((m : Int) * ((m ^ (p - 2) % p : Nat) : Int)) % p = 1 := by
    rw [← Int.natCast_mul, ← Int.natCast_emod, one]; rfl
  generalize ((m ^ (p - 2) % p : Nat) : Int) = I at one' ⊢
  have em := Int.mul_ediv_add_emod ((m : Int) * I) p
  rw [one'] at em
  refine Int.emod_eq_emod_iff_emod_sub_eq_zero.mpr (Int.emod_eq_zero_of_dvd ⟨x * I + R * ((m : Int) * I / p), ?_⟩)
  generalize (m : Int) * I / p = q at em ⊢
  have e1 : F = p * x + m * R := by omega
  rw [e1]
  grind
end QB
set_option maxRecDepth 100000
set_option maxHeartbeats 4000000
set_option exponentiation.threshold 4000
namespace W_k61
open DL QB
/-! ### numbers -/
theorem fmN (a b : Nat) : (a : Int).fmod (b : Int) = ((a % b : Nat) : Int) := by
  rw [Int.fmod_eq_emod_of_nonneg _ (by omega)]; rfl
theorem fdN (a b : Nat) : (a : Int).fdiv (b : Int) = ((a / b : Nat) : Int) := by
  rw [Int.fdiv_eq_ediv_of_nonneg _ (by omega)]; rfl
theorem fmI (a : Int) (b : Nat) : a.fmod (b : Int) = a % (b : Int) := Int.fmod_eq_emod_of_nonneg _ (by omega)
theorem fdI (a : Int) (b : Nat) : a.fdiv (b : Int) = a / (b : Int) := Int.fdiv_eq_ediv_of_nonneg _ (by omega)
theorem mod_i {a b : DE} {s s1 s2 : DS} {x y : Nat} (ha : a s = .ok (.int x) s1) (hb : b s1 = .ok (.int y) s2) (hy : 0 < y) : eOp2 iMod a b s = .ok (.int (x % y : Nat)) s2 := by
  refine op_2 ha hb ?_
  show (if (y : Int) ≠ 0 then some (D.int ((x : Int).fmod y)) else none) = _
  rw [if_pos (by omega), fmN]
theorem modI_i {a b : DE} {s s1 s2 : DS} {x : Int} {y : Nat} (ha : a s = .ok (.int x) s1) (hb : b s1 = .ok (.int y) s2) (hy : 0 < y) : eOp2 iMod a b s = .ok (.int (x % (y : Int))) s2 := by
  refine op_2 ha hb ?_
  show (if (y : Int) ≠ 0 then some (D.int (x.fmod y)) else none) = _
  rw [if_pos (by omega), fmI]
theorem dv_ok {y : Nat} (h0 : 0 < y) (h : y < 2 ^ 9000) : divOk (y : Int) = true := by
  unfold divOk
  rw [Int.natAbs_natCast]
  exact decide_eq_true ⟨by omega, (Nat.log2_lt (by omega)).mpr h⟩
theorem div_i {a b : DE} {s s1 s2 : DS} {x y : Nat} (ha : a s = .ok (.int x) s1) (hb : b s1 = .ok (.int y) s2) (h0 : 0 < y) (h : y < 2 ^ 9000) : eOp2 iDiv a b s = .ok (.int (x / y : Nat)) s2 := by
  refine op_2 ha hb ?_
  show (if divOk (y : Int) then some (D.int ((x : Int).fdiv y)) else none) = _
  rw [if_pos (dv_ok h0 h), fdN]
theorem divI_i {a b : DE} {s s1 s2 : DS} {x : Int} {y : Nat} (ha : a s = .ok (.int x) s1) (hb : b s1 = .ok (.int y) s2) (h0 : 0 < y) (h : y < 2 ^ 9000) : eOp2 iDiv a b s = .ok (.int (x / (y : Int))) s2 := by
  refine op_2 ha hb ?_
  show (if divOk (y : Int) then some (D.int (x.fdiv y)) else none) = _
  rw [if_pos (dv_ok h0 h), fdI]
theorem mul_i {a b : DE} {s s1 s2 : DS} {x y : Int} {m n : Nat} (ha : a s = .ok (.int x) s1) (hb : b s1 = .ok (.int y) s2) (hx : Bd x m) (hy : Bd y n) (hl : m + n < 100000000) : eOp2 dMul a b s = .ok (.int (x * y)) s2 := by
  refine op_2 ha hb ?_
  rw [r_dMul, if_pos (mulOk_of hx hy hl)]
theorem add_i {a b : DE} {s s1 s2 : DS} {x y : Int} (ha : a s = .ok (.int x) s1) (hb : b s1 = .ok (.int y) s2) : eOp2 dAdd a b s = .ok (.int (x + y)) s2 := op_2 ha hb rfl
theorem sub_i {a b : DE} {s s1 s2 : DS} {x y : Int} (ha : a s = .ok (.int x) s1) (hb : b s1 = .ok (.int y) s2) : eOp2 iSub a b s = .ok (.int (x - y)) s2 := op_2 ha hb rfl
theorem bdN {x n : Nat} (h : x < 2 ^ n) : Bd (x : Int) n := ⟨by rw [Int.natAbs_natCast]; exact h⟩
theorem intsOf_map : ∀ l : List Int, intsOf (l.map D.int) = some l
  | [] => rfl
  | a :: l => by rw [List.map_cons, intsOf, intsOf_map l]; rfl
theorem sum_i (l : List Int) : bSum [.lst (l.map D.int)] = some (.int l.sum) := by
  show (intsOf (l.map D.int)).map _ = _
  rw [intsOf_map]; rfl
theorem par_e {i j : Nat} {a b : DE} {s s1 s2 : DS} {x y : D} (ha : a s = .ok x s1) (hb : b s1 = .ok y s2) : sPar i j (aCons a (aCons b aNil)) s = .ok .nx ⟨(s2.sl.set i (.val x)).set j (.val y), s2.st⟩ := by
  simp [ha, hb]
theorem abs_i {a : DE} {s s1 : DS} {x : Int} (ha : a s = .ok (.int x) s1) : eCB bAbs (aCons a aNil) s = .ok (.int (x.natAbs : Nat)) s1 := by
  refine cb_1 ha ?_
  show some (D.int (if x < 0 then -x else x)) = _
  congr 2
  split <;> omega
theorem eq_i (a b : Int) : dEq (.int a) (.int b) = some (.bl (decide (a = b))) := by simp
theorem ne_i (a b : Int) : dNe (.int a) (.int b) = some (.bl (!decide (a = b))) := by simp
/-! ### greatest common divisors -/
theorem gcd_loop (S : List Cell) : ∀ (b a : Nat), sWhile c_divisor_of_0 w_divisor_of_0 ⟨[.val (.int a), .val (.int b)], S⟩ = .ok .nx ⟨[.val (.int (Nat.gcd a b)), .val (.int 0)], S⟩ := by
  intro b
  induction b using Nat.strongRecOn with
  | ind b ih =>
    intro a
    rw [sWhile_eq]
    by_cases h : b = 0
    · subst h
      simp [c_divisor_of_0]
    · have e : w_divisor_of_0 ⟨[.val (.int a), .val (.int b)], S⟩ = .ok .nx ⟨[.val (.int b), .val (.int (a % b : Nat))], S⟩ := by
        exact par_e (a := eVar 1) (s1 := ⟨[.val (.int a), .val (.int b)], S⟩) rfl (mod_i (a := eVar 0) (b := eVar 1) (s := ⟨[.val (.int a), .val (.int b)], S⟩) rfl rfl (by omega))
      have c : c_divisor_of_0 ⟨[.val (.int a), .val (.int b)], S⟩ = .ok true ⟨[.val (.int a), .val (.int b)], S⟩ := by
        have : (0 : Int) < b := by omega
        simp [c_divisor_of_0]; omega
      rw [c]
      show loopOut (w_divisor_of_0 ⟨[.val (.int a), .val (.int b)], S⟩) (sWhile c_divisor_of_0 w_divisor_of_0) = _
      rw [e]
      show sWhile c_divisor_of_0 w_divisor_of_0 ⟨[.val (.int b), .val (.int (a % b : Nat))], S⟩ = _
      rw [ih (a % b) (Nat.mod_lt _ (by omega)), Nat.gcd_comm a b, Nat.gcd_rec b a, Nat.gcd_comm]
theorem gcd_q (x y : Int) (S : List Cell) : g_divisor_of [.int x, .int y] S = .ok (.int (Nat.gcd x.natAbs y.natAbs : Nat)) S := by
  have s1 : ∀ R, sSeq (sPar 0 1 (aCons (eCB (bAbs) (aCons (eVar 0) (aNil))) (aCons (eCB (bAbs) (aCons (eVar 1) (aNil))) (aNil)))) R ⟨[.val (.int x), .val (.int y)], S⟩ = R ⟨[.val (.int x.natAbs), .val (.int y.natAbs)], S⟩ := fun R =>
    sq_par (abs_i (a := eVar 0) (s := ⟨[.val (.int x), .val (.int y)], S⟩) rfl) (abs_i (a := eVar 1) (s := ⟨[.val (.int x), .val (.int y)], S⟩) rfl)
  exact fn_rt (sl := [.val (.int (Nat.gcd x.natAbs y.natAbs : Nat)), .val (.int 0)]) rfl ((s1 _).trans ((sq_nx (gcd_loop S _ _)).trans (ret_e rfl)))
/-! ### moebius -/
theorem moe_loop (S : List Cell) : ∀ (fu n : Nat) (f : Int) (p : Nat) (v : Int), 0 < p → p + fu < 1000 → n < 1000 → moeL fu n f p = some v → ∃ sl, sSeq (sWhile c_moebius_0 w_moebius_0) (sRet (eVar 1)) ⟨[.val (.int n), .val (.int f), .val (.int p)], S⟩ = .ok (.rt (.int v)) ⟨sl, S⟩
  | 0, n, f, p, v, hp, hf, hn, h => by cases h
  | fu + 1, n, f, p, v, hp, hf, hn, h => by
    rw [q_sSeq, sWhile_eq]
    unfold moeL at h
    have c : c_moebius_0 ⟨[.val (.int n), .val (.int f), .val (.int p)], S⟩ = .ok (decide (1 < n)) ⟨[.val (.int n), .val (.int f), .val (.int p)], S⟩ := by
      have : ((1 : Int) < (n : Int)) = (1 < n) := by rw [eq_iff_iff]; omega
      simp [c_moebius_0, this]
    rw [c, Res.bind_ok]
    by_cases h1 : 1 < n
    · rw [if_pos h1] at h
      rw [decide_eq_true h1, if_pos rfl]
      have p0 : ¬ p = 0 := by omega
      have md : ∀ (n : Nat) (f : Int), eB (eOp2 dEq (eOp2 iMod (eVar 0) (eVar 2)) (eC (.int 0))) ⟨[.val (.int n), .val (.int f), .val (.int p)], S⟩ = .ok (decide (n % p = 0)) ⟨[.val (.int n), .val (.int f), .val (.int p)], S⟩ := fun n f => by
        refine eB_of (op_2 (mod_i (a := eVar 0) (b := eVar 2) (s := ⟨[.val (.int n), .val (.int f), .val (.int p)], S⟩) rfl rfl hp) (b := eC (.int 0)) rfl ?_)
        rw [eq_i]
        refine congrArg some (congrArg D.bl (decide_eq_decide.mpr ?_))
        generalize n % p = z
        omega
      have dv := set_e (i := 0) (div_i (a := eVar 0) (b := eVar 2) (s := ⟨[.val (.int n), .val (.int f), .val (.int p)], S⟩) (x := n) (y := p) rfl rfl hp (Nat.lt_of_lt_of_le (show p < 1000 by omega) (by decide +kernel)))
      have dv : _ = Res.ok Out.nx (⟨[.val (.int (n / p : Nat)), .val (.int f), .val (.int p)], S⟩ : DS) := dv
      have ag : ∀ n : Nat, ∀ f : Int, sAug 2 (fun i j => i + j) (eC (.int 1)) ⟨[.val (.int n), .val (.int f), .val (.int p)], S⟩ = .ok .nx ⟨[.val (.int n), .val (.int f), .val (.int (p + 1 : Nat))], S⟩ := fun n f => rfl
      have dp : divOk (p : Int) = true := dv_ok hp (Nat.lt_of_lt_of_le (show p < 1000 by omega) (by decide +kernel))
      by_cases h2 : n % p = 0
      · rw [if_pos h2] at h
        by_cases h3 : n / p % p = 0
        · rw [if_pos h3] at h
          cases h
          refine ⟨[.val (.int (n / p : Nat)), .val (.int f), .val (.int p)], ?_⟩
          have w : w_moebius_0 ⟨[.val (.int n), .val (.int f), .val (.int p)], S⟩ = .ok (.rt (.int 0)) ⟨[.val (.int (n / p : Nat)), .val (.int f), .val (.int p)], S⟩ := by
            have m1 := md n f
            rw [decide_eq_true h2] at m1
            have m2 := md (n / p) f
            rw [decide_eq_true h3] at m2
            exact sq_rt ((if_t m1).trans ((sq_nx dv).trans (sq_rt ((if_t m2).trans (ret_e rfl)))))
          rw [w]; rfl
        · rw [if_neg h3] at h
          have w : w_moebius_0 ⟨[.val (.int n), .val (.int f), .val (.int p)], S⟩ = .ok .nx ⟨[.val (.int (n / p : Nat)), .val (.int (-f)), .val (.int (p + 1 : Nat))], S⟩ := by
            have m1 := md n f
            rw [decide_eq_true h2] at m1
            have m2 := md (n / p) f
            rw [decide_eq_false h3] at m2
            have ng := set_e (i := 1) (neg_e (f := eVar 1) (s := ⟨[.val (.int (n / p : Nat)), .val (.int f), .val (.int p)], S⟩) (s1 := ⟨[.val (.int (n / p : Nat)), .val (.int f), .val (.int p)], S⟩) (x := f) rfl)
            exact (sq_nx ((if_t m1).trans ((sq_nx dv).trans ((sq_nx (if_f m2)).trans ng)))).trans (ag _ _)
          rw [w]
          exact moe_loop S fu _ _ _ _ (by omega) (by omega) (Nat.lt_of_le_of_lt (Nat.div_le_self _ _) hn) h
      · rw [if_neg h2] at h
        have w : w_moebius_0 ⟨[.val (.int n), .val (.int f), .val (.int p)], S⟩ = .ok .nx ⟨[.val (.int n), .val (.int f), .val (.int (p + 1 : Nat))], S⟩ := by
          have m1 := md n f
          rw [decide_eq_false h2] at m1
          exact (sq_nx (if_f m1)).trans (ag _ _)
        rw [w]
        exact moe_loop S fu _ _ _ _ (by omega) (by omega) hn h
    · rw [if_neg h1] at h
      cases h
      rw [decide_eq_false h1]
      exact ⟨_, rfl⟩
theorem moe_q {n : Nat} (hn : n < 31) (S : List Cell) : g_moebius [.int n] S = .ok (.int (moe n)) S := by
  obtain ⟨sl, e⟩ := moe_loop S 40 n 1 2 _ (by decide) (by decide) (by omega) (moe_ok n hn)
  have s1 : sAsgT (eTup (aCons (eC (.int 1)) (aCons (eC (.int 2)) (aNil)))) (gT 2 (gsCons (gN 1) (gsCons (gN 2) (gsNil)))) ⟨[.val (.int n), .un, .un], S⟩ = .ok .nx ⟨[.val (.int n), .val (.int 1), .val (.int (2 : Nat))], S⟩ := by
    simp
  exact fn_rt (sl := sl) rfl ((sq_nx s1).trans e)
/-! ### divisors -/
theorem rngL_map (lo : Int) (n : Nat) : rngL lo n = (List.range n).map fun i : Nat => D.int (lo + i) := rfl
theorem rng1 (n : Nat) : rngL 1 n = ((List.range n).map (· + 1)).map kD := by
  rw [rngL_map, List.map_map]
  refine List.map_congr_left fun i _ => ?_
  show D.int (1 + (i : Int)) = D.int ((i + 1 : Nat) : Int)
  congr 1; omega
theorem dvs_q {m : Nat} (hm : m ≤ 1000) (S : List Cell) : g_divisors [.int m] S = .ok (.lst ((dvs m).map kD)) S := by
  have it : itR2 (aCons (eC (.int 1)) (aCons (eOp2 dAdd (eVar 0) (eC (.int 1))) (aNil))) ⟨[.val (.int m), .un], S⟩ = .ok (((List.range m).map (· + 1)).map kD) ⟨[.val (.int m), .un], S⟩ := by
    rw [← rng1]
    exact itR2_of (i := 1) (j := (m : Int) + 1) rfl (by omega) (by omega)
  have l := aLc_T1 (v := 1) (t := t_divisors_0) (e := e_divisors_0) (s0 := ⟨[.val (.int m), .un], S⟩) kD (fun e : Nat => decide (m % e = 0)) kD it rfl (fun e he => by
    obtain ⟨k, hk, rfl⟩ := List.mem_map.mp he
    refine ⟨?_, fun _ => rfl⟩
    have q := mod_i (a := eVar 0) (b := eVar 1) (s := ⟨[.val (.int m), .val (kD (k + 1))], S⟩) (x := m) (y := k + 1) rfl rfl (by omega)
    refine eB_of (op_2 q (b := eC (.int 0)) rfl ?_)
    rw [eq_i]
    refine congrArg some (congrArg D.bl (decide_eq_decide.mpr ?_))
    generalize m % (k + 1) = z
    omega) (by rw [List.length_map, List.length_range]; omega)
  exact fn_rt (sl := [.val (.int m), .un]) rfl (ret_e (frz_e l))
theorem ram_q {d : Nat} (h1 : 1 ≤ d) (hd : d < 31) (k : Int) (S : List Cell) : g_root_sum [.int d, .int k] S = .ok (.int (ram d k)) S := by
  have gl : Nat.gcd d k.natAbs ≤ d := Nat.gcd_le_left _ (by omega)
  have q1 := call_x1 (call_x2 (g := g_divisor_of) (a := eVar 0) (b := eVar 1) (s := ⟨[.val (.int d), .val (.int k), .un], S⟩) rfl rfl (gcd_q d k S)) (dvs_q (m := Nat.gcd d k.natAbs) (by omega) S)
  have it : itSeq (eCall 1 g_divisors (aCons (eCall 2 g_divisor_of (aCons (eVar 0) (aCons (eVar 1) (aNil)))) (aNil))) ⟨[.val (.int d), .val (.int k), .un], S⟩ = .ok ((dvs (Nat.gcd d k.natAbs)).map kD) ⟨[.val (.int d), .val (.int k), .un], S⟩ := by
    rw [r_itSeq, q1]; rfl
  have l := aLc_M1 (v := 2) (e := e_root_sum_0) (s0 := ⟨[.val (.int d), .val (.int k), .un], S⟩) kD (fun e : Nat => D.int (moe (d / e) * e)) it rfl (fun e he => by
    obtain ⟨h1, h2, h3⟩ := mem_dvs.mp he
    have lt : d / e < 31 := Nat.lt_of_le_of_lt (Nat.div_le_self _ _) hd
    have q := call_x1 (div_i (a := eVar 0) (b := eVar 2) (s := ⟨[.val (.int d), .val (.int k), .val (kD e)], S⟩) (x := d) (y := e) rfl rfl (by omega) (Nat.lt_of_le_of_lt (show e ≤ 30 by omega) (by decide +kernel))) (moe_q lt S)
    exact mul_i (b := eVar 2) (m := 1) (n := 5) q rfl (by rcases moe_le _ lt with z | z | z <;> rw [z] <;> exact ⟨by decide⟩) (bdN (by omega)) (by decide)) (by
      refine Nat.le_trans (List.length_filter_le _ _) ?_
      rw [List.length_map, List.length_range]; omega)
  refine fn_rt (sl := [.val (.int d), .val (.int k), .un]) rfl (ret_e (cb_1 (frz_e l) ?_))
  have := sum_i ((dvs (Nat.gcd d k.natAbs)).map fun e => moe (d / e) * e)
  rw [List.map_map] at this
  exact this
end W_k61
set_option maxRecDepth 100000
set_option maxHeartbeats 4000000
set_option exponentiation.threshold 4000
namespace W_k61
open DL QB
/-! ### what gives one -/
abbrev sI (B p f b l : Int) (S : List Cell) : DS := ⟨[.val (.int B), .val (.int p), .val (.int f), .val (.int b), .val (.int l)], S⟩
theorem inv_loop (B : Int) {p : Nat} (hp : 2 ≤ p) (hp2 : p < 2 ^ 20) (S : List Cell) : ∀ (l f b : Nat), f < p → b < p → ∃ z : Int, sWhile c_inverse_0 w_inverse_0 (sI B p f b l S) = .ok .nx (sI B p (f * b ^ l % p : Nat) z 0 S) := by
  intro l
  induction l using Nat.strongRecOn with
  | ind l ih =>
    intro f b hf hb
    rw [sWhile_eq]
    by_cases h : l = 0
    · subst h
      refine ⟨b, ?_⟩
      rw [Nat.pow_zero, Nat.mul_one, Nat.mod_eq_of_lt hf]
      rfl
    · have c : c_inverse_0 (sI B p f b l S) = .ok true (sI B p f b l S) := eB_of (op_2 (a := eVar 4) (b := eC (.int 0)) (s := sI B p f b l S) rfl rfl (by rw [r_iGt, decide_eq_true (by omega)]))
      have bf := bdN (x := f) (n := 20) (by omega)
      have bb := bdN (x := b) (n := 20) (by omega)
      have m1 : eB (eOp2 dEq (eOp2 iMod (eVar 4) (eC (.int 2))) (eC (.int 1))) (sI B p f b l S) = .ok (decide (l % 2 = 1)) (sI B p f b l S) := by
        refine eB_of (op_2 (mod_i (a := eVar 4) (b := eC (.int 2)) (s := sI B p f b l S) (x := l) (y := 2) rfl rfl (by decide)) (b := eC (.int 1)) rfl ?_)
        rw [eq_i]
        refine congrArg some (congrArg D.bl (decide_eq_decide.mpr ?_))
        omega
      have w : w_inverse_0 (sI B p f b l S) = .ok .nx (sI B p (if l % 2 = 1 then f * b % p else f : Nat) (b * b % p : Nat) (l / 2 : Nat) S) := by
        have s1 : sIf (eB (eOp2 dEq (eOp2 iMod (eVar 4) (eC (.int 2))) (eC (.int 1)))) (sSet 2 (eOp2 iMod (eOp2 dMul (eVar 2) (eVar 3)) (eVar 1))) (sPass) (sI B p f b l S) = .ok .nx (sI B p (if l % 2 = 1 then f * b % p else f : Nat) b l S) := by
          by_cases o : l % 2 = 1
          · rw [decide_eq_true o] at m1
            rw [if_t m1, if_pos o]
            exact set_e (i := 2) (mod_i (x := f * b) (y := p) (b := eVar 1) (mul_i (a := eVar 2) (b := eVar 3) (s := sI B p f b l S) rfl rfl bf bb (by decide)) rfl (by omega))
          · rw [decide_eq_false o] at m1
            rw [if_f m1, if_neg o]; rfl
        have s2 := fun f' : Nat => par_e (i := 3) (j := 4) (mod_i (x := b * b) (y := p) (b := eVar 1) (mul_i (a := eVar 3) (b := eVar 3) (s := sI B p f' b l S) rfl rfl bb bb (by decide)) rfl (by omega)) (div_i (a := eVar 4) (b := eC (.int 2)) (s := sI B p f' b l S) (x := l) (y := 2) rfl rfl (by decide) (by decide +kernel))
        exact (sq_nx s1).trans (s2 _)
      obtain ⟨z, e⟩ := ih (l / 2) (by omega) (if l % 2 = 1 then f * b % p else f) (b * b % p) (by split <;> first | exact Nat.mod_lt _ (by omega) | exact hf) (Nat.mod_lt _ (by omega))
      refine ⟨z, ?_⟩
      rw [c]
      show loopOut (w_inverse_0 (sI B p f b l S)) (sWhile c_inverse_0 w_inverse_0) = _
      rw [w]
      show sWhile c_inverse_0 w_inverse_0 (sI B p _ _ _ S) = _
      rw [e, pow_step]
theorem inv_q (b : Nat) {p : Nat} (hp : 2 ≤ p) (hp2 : p < 2 ^ 20) (S : List Cell) : g_inverse [.int b, .int p] S = .ok (.int (b ^ (p - 2) % p : Nat)) S := by
  obtain ⟨z, e⟩ := inv_loop (b : Int) hp hp2 S (p - 2) 1 (b % p) (by omega) (Nat.mod_lt _ (by omega))
  rw [Nat.one_mul, ← Nat.pow_mod] at e
  have s1 : ∀ R, sSeq (sPar3 2 3 4 (aCons (eC (.int 1)) (aCons (eOp2 iMod (eVar 0) (eVar 1)) (aCons (eOp2 iSub (eVar 1) (eC (.int 2))) (aNil))))) R ⟨[.val (.int b), .val (.int p), .un, .un, .un], S⟩ = R (sI b p 1 (b % p : Nat) (p - 2 : Nat) S) := fun R => by
    have q := mod_i (a := eVar 0) (b := eVar 1) (s := ⟨[.val (.int b), .val (.int p), .un, .un, .un], S⟩) (x := b) (y := p) rfl rfl (by omega)
    have q2 := sub_i (a := eVar 1) (b := eC (.int 2)) (s := ⟨[.val (.int b), .val (.int p), .un, .un, .un], S⟩) (x := p) (y := 2) rfl rfl
    rw [show (p : Int) - 2 = ((p - 2 : Nat) : Int) by omega] at q2
    have q0 : eC (.int 1) ⟨[.val (.int b), .val (.int p), .un, .un, .un], S⟩ = .ok (.int 1) ⟨[.val (.int b), .val (.int p), .un, .un, .un], S⟩ := rfl
    have q3 : sPar3 2 3 4 (aCons (eC (.int 1)) (aCons (eOp2 iMod (eVar 0) (eVar 1)) (aCons (eOp2 iSub (eVar 1) (eC (.int 2))) (aNil)))) ⟨[.val (.int b), .val (.int p), .un, .un, .un], S⟩ = .ok .nx (sI b p 1 (b % p : Nat) (p - 2 : Nat) S) := by
      unfold sPar3
      rw [r_aCons, q0, Res.bind_ok, r_aCons, q, Res.bind_ok, r_aCons, q2]
      rfl
    exact sq_nx q3
  exact fn_rt (sl := (sI b p (b ^ (p - 2) % p : Nat) z 0 S).sl) rfl ((s1 _).trans ((sq_nx e).trans (ret_e rfl)))
/-! ### ways to choose, below a prime -/
theorem min_i {a b : DE} {s s1 s2 : DS} {x y : Nat} (ha : a s = .ok (.int x) s1) (hb : b s1 = .ok (.int y) s2) : eCB bMin2 (aCons a (aCons b aNil)) s = .ok (.int (min x y : Nat)) s2 := by
  refine cb_2 ha hb ?_
  rw [r_bMin]
  refine congrArg some (congrArg D.int ?_)
  split <;> omega
theorem int_i {a : DE} {s s1 : DS} {x : Int} (ha : a s = .ok (.int x) s1) : eCB bInt (aCons a aNil) s = .ok (.int x) s1 := cb_1 ha rfl
/-- the range of steps to choose by -/
theorem rng_min {n k i j : Nat} (hk : k ≤ n) (hn : n < 2 ^ 60) {s : DS} (h0 : eVar i s = .ok (.int n) s) (h1 : eVar j s = .ok (.int k) s) :
    itR2 (aCons (eC (.int 1)) (aCons (eOp2 dAdd (eCB (bMin2) (aCons (eCB (bInt) (aCons (eVar j) (aNil))) (aCons (eCB (bInt) (aCons (eOp2 iSub (eVar i) (eVar j)) (aNil))) (aNil)))) (eC (.int 1))) (aNil))) s = .ok (rngL 1 (min k (n - k))) s := by
  have q1 := sub_i h0 h1
  rw [show (n : Int) - k = ((n - k : Nat) : Int) by omega] at q1
  have q2 := add_i (min_i (int_i h1) (int_i q1)) (b := eC (.int 1)) (y := 1) rfl
  have q0 : eC (.int 1) s = .ok (.int 1) s := rfl
  refine itR2_of (i := 1) (j := (min k (n - k) : Nat) + 1) ?_ (by omega) (by omega)
  rw [r_aCons, q0, Res.bind_ok, r_aCons, q2]
  rfl
abbrev sB (n k p : Int) (a b : Int) (x5 : Sl) (S : List Cell) : DS := ⟨[.val (.int n), .val (.int k), .val (.int p), .val (.int a), .val (.int b), x5], S⟩
theorem br_loop {n k p : Nat} (hp : 2 ≤ p) (hp2 : p < 2 ^ 20) (hn : n < p) (hk : k ≤ n) (S : List Cell) : ∃ x5, forL (gN 5) w_binomial_rest_0 (rngL 1 (min k (n - k))) (sB n k p (1 % p : Nat) (1 % p : Nat) .un S) = .ok .nx (sB n k p (fall n (min k (n - k)) % p : Nat) (fac (min k (n - k)) % p : Nat) x5 S) := by
  obtain ⟨s', e, x5, hs⟩ := for_inv (g := gN 5) (b := w_binomial_rest_0) (items := rngL 1 (min k (n - k))) (s := sB n k p (1 % p : Nat) (1 % p : Nat) .un S)
    (fun i s => ∃ x5, s = sB n k p (fall n i % p : Nat) (fac i % p : Nat) x5 S) ⟨.un, rfl⟩ (fun i d s hi hp' => by
      obtain ⟨x5, rfl⟩ := hp'
      obtain ⟨hi1, rfl⟩ := rngL_get hi
      have ml1 := Nat.mod_lt (fall n i) (show 0 < p by omega)
      have ml2 := Nat.mod_lt (fac i) (show 0 < p by omega)
      refine ⟨sB n k p (fall n i % p : Nat) (fac i % p : Nat) (.val (.int (1 + i))) S, sB n k p (fall n (i + 1) % p : Nat) (fac (i + 1) % p : Nat) (.val (.int (1 + i))) S, rfl, .inl ?_, _, rfl⟩
      have a1 := add_i (sub_i (a := eVar 0) (b := eVar 5) (s := sB n k p (fall n i % p : Nat) (fac i % p : Nat) (.val (.int (1 + i))) S) (x := n) (y := 1 + i) rfl rfl) (b := eC (.int 1)) (y := 1) rfl
      rw [show (n : Int) - (1 + i) + 1 = ((n - i : Nat) : Int) by omega] at a1
      have a2 := mod_i (x := fall n i % p * (n - i)) (y := p) (b := eVar 2) (mul_i (a := eVar 3) (s := sB n k p (fall n i % p : Nat) (fac i % p : Nat) (.val (.int (1 + i))) S) (x := (fall n i % p : Nat)) (y := (n - i : Nat)) rfl a1 (bdN (n := 20) (by omega)) (bdN (n := 20) (by omega)) (by decide)) rfl (by omega)
      have a3 := mod_i (x := fac i % p * (i + 1)) (y := p) (b := eVar 2) (mul_i (a := eVar 4) (b := eVar 5) (s := sB n k p (fall n i % p : Nat) (fac i % p : Nat) (.val (.int (1 + i))) S) (x := (fac i % p : Nat)) (y := (i + 1 : Nat)) rfl (by rw [show ((i + 1 : Nat) : Int) = 1 + i by omega]; rfl) (bdN (n := 20) (by omega)) (bdN (n := 20) (by omega)) (by decide)) rfl (by omega)
      rw [Nat.mod_mul_mod] at a2 a3
      exact par_e a2 a3)
  rw [rngL_len] at hs
  exact ⟨x5, by rw [e, hs]⟩
theorem br_q {n k p : Nat} (h : Prm p) (f : Frm p) (hp2 : p < 2 ^ 20) (hn : n < p) (hk : k ≤ n) (S : List Cell) : g_binomial_rest [.int n, .int k, .int p] S = .ok (.int (cb n k % p : Nat)) S := by
  have hp := h.1
  obtain ⟨x5, e⟩ := br_loop hp hp2 hn hk S
  rw [Nat.mod_eq_of_lt (show 1 < p by omega)] at e
  have s1 : sAsgT (eTup (aCons (eC (.int 1)) (aCons (eC (.int 1)) (aNil)))) (gT 2 (gsCons (gN 3) (gsCons (gN 4) (gsNil)))) ⟨[.val (.int n), .val (.int k), .val (.int p), .un, .un, .un], S⟩ = .ok .nx (sB n k p (1 : Nat) (1 : Nat) .un S) := by
    simp
  have it := rng_min (i := 0) (j := 1) hk (by omega) (s := sB n k p (1 : Nat) (1 : Nat) .un S) rfl rfl
  have z : min k (n - k) ≤ n := by omega
  generalize hm : min k (n - k) = m at *
  have ml1 := Nat.mod_lt (fall n m) (show 0 < p by omega)
  have v := call_x2 (g := g_inverse) (a := eVar 4) (b := eVar 2) (s := sB n k p (fall n m % p : Nat) (fac m % p : Nat) x5 S) rfl rfl (inv_q (fac m % p) hp hp2 S)
  have ml2 := Nat.mod_lt ((fac m % p) ^ (p - 2)) (show 0 < p by omega)
  have r := mod_i (x := fall n m % p * ((fac m % p) ^ (p - 2) % p)) (y := p) (b := eVar 2) (mul_i (a := eVar 3) (s := sB n k p (fall n m % p : Nat) (fac m % p : Nat) x5 S) (x := (fall n m % p : Nat)) (y := ((fac m % p) ^ (p - 2) % p : Nat)) rfl v (bdN (n := 20) (by omega)) (bdN (n := 20) (by omega)) (by decide)) rfl (by omega)
  rw [over_inv h f (by omega) z] at r
  have fin : cb n m = cb n k := by
    rcases (show m = k ∨ m = n - k by omega) with q | q
    · rw [q]
    · rw [q, cb_turn hk]
  rw [fin] at r
  exact fn_rt rfl ((sq_nx s1).trans ((sq_nx (for_it it e)).trans (ret_e r)))
abbrev sF (n k p f : Int) (x4 x5 : Sl) (S : List Cell) : DS := ⟨[.val (.int n), .val (.int k), .val (.int p), .val (.int f), x4, x5], S⟩
theorem fb_loop {p : Nat} (h : Prm p) (fr : Frm p) (hp2 : p < 2 ^ 20) (S : List Cell) : ∀ (k n f : Nat) (x4 x5 : Sl), f < p → ∃ sl, sSeq (sWhile c_far_binomial_0 w_far_binomial_0) (sRet (eVar 3)) (sF n k p f x4 x5 S) = .ok (.rt (.int (f * cb n k % p : Nat))) ⟨sl, S⟩ := by
  have hp := h.1
  intro k
  induction k using Nat.strongRecOn with
  | ind k ih =>
    intro n f x4 x5 hf
    rw [q_sSeq, sWhile_eq]
    by_cases hk : k = 0
    · subst hk
      refine ⟨(sF n (0 : Nat) p f x4 x5 S).sl, ?_⟩
      rw [cb_0, Nat.mul_one, Nat.mod_eq_of_lt hf]
      rfl
    · have c : c_far_binomial_0 (sF n k p f x4 x5 S) = .ok true (sF n k p f x4 x5 S) := eB_of (op_2 (a := eVar 1) (b := eC (.int 0)) (s := sF n k p f x4 x5 S) rfl rfl (by rw [r_iGt, decide_eq_true (by omega)]))
      rw [c, Res.bind_ok, if_pos rfl]
      have ml := Nat.mod_lt n (show 0 < p by omega)
      have ml2 := Nat.mod_lt k (show 0 < p by omega)
      have p1 : ∀ R, sSeq (sPar 4 5 (aCons (eOp2 iMod (eVar 0) (eVar 2)) (aCons (eOp2 iMod (eVar 1) (eVar 2)) (aNil)))) R (sF n k p f x4 x5 S) = R (sF n k p f (.val (.int (n % p : Nat))) (.val (.int (k % p : Nat))) S) := fun R =>
        sq_par (mod_i (a := eVar 0) (b := eVar 2) (s := sF n k p f x4 x5 S) rfl rfl (by omega)) (mod_i (a := eVar 1) (b := eVar 2) (s := sF n k p f x4 x5 S) rfl rfl (by omega))
      have L := lucas h n k
      by_cases g : n % p < k % p
      · refine ⟨(sF n k p f (.val (.int (n % p : Nat))) (.val (.int (k % p : Nat))) S).sl, ?_⟩
        have i1 : eB (eOp2 iGt (eVar 5) (eVar 4)) (sF n k p f (.val (.int (n % p : Nat))) (.val (.int (k % p : Nat))) S) = .ok true (sF n k p f (.val (.int (n % p : Nat))) (.val (.int (k % p : Nat))) S) :=
          eB_of (op_2 (a := eVar 5) (b := eVar 4) (s := sF n k p f (.val (.int (n % p : Nat))) (.val (.int (k % p : Nat))) S) rfl rfl (by rw [r_iGt, decide_eq_true (by omega)]))
        have w : w_far_binomial_0 (sF n k p f x4 x5 S) = .ok (.rt (.int 0)) (sF n k p f (.val (.int (n % p : Nat))) (.val (.int (k % p : Nat))) S) :=
          (p1 _).trans (sq_rt ((if_t i1).trans (ret_e rfl)))
        rw [w]
        rw [cb_none g, Nat.mul_zero, Nat.zero_mod] at L
        rw [Nat.mul_mod, L, Nat.mul_zero, Nat.zero_mod]
        rfl
      · have i1 : eB (eOp2 iGt (eVar 5) (eVar 4)) (sF n k p f (.val (.int (n % p : Nat))) (.val (.int (k % p : Nat))) S) = .ok false (sF n k p f (.val (.int (n % p : Nat))) (.val (.int (k % p : Nat))) S) :=
          eB_of (op_2 (a := eVar 5) (b := eVar 4) (s := sF n k p f (.val (.int (n % p : Nat))) (.val (.int (k % p : Nat))) S) rfl rfl (by rw [r_iGt, decide_eq_false (by omega)]))
        have q1 := call_x3 (g := g_binomial_rest) (a := eVar 4) (b := eVar 5) (c := eVar 2) (s := sF n k p f (.val (.int (n % p : Nat))) (.val (.int (k % p : Nat))) S) rfl rfl rfl (br_q h fr hp2 ml (by omega) S)
        have ml3 := Nat.mod_lt (cb (n % p) (k % p)) (show 0 < p by omega)
        have q2 := mod_i (x := f * (cb (n % p) (k % p) % p)) (y := p) (b := eVar 2) (mul_i (a := eVar 3) (s := sF n k p f (.val (.int (n % p : Nat))) (.val (.int (k % p : Nat))) S) (x := f) (y := (cb (n % p) (k % p) % p : Nat)) rfl q1 (bdN (n := 20) (by omega)) (bdN (n := 20) (by omega)) (by decide)) rfl (by omega)
        have s3 := set_e (i := 3) q2
        have hd : p < 2 ^ 9000 := Nat.lt_of_lt_of_le hp2 (Nat.pow_le_pow_right (by decide) (by decide))
        have s4 := fun f' : Nat => par_e (i := 0) (j := 1) (div_i (a := eVar 0) (b := eVar 2) (s := sF n k p f' (.val (.int (n % p : Nat))) (.val (.int (k % p : Nat))) S) (x := n) (y := p) rfl rfl (by omega) hd) (div_i (a := eVar 1) (b := eVar 2) (s := sF n k p f' (.val (.int (n % p : Nat))) (.val (.int (k % p : Nat))) S) (x := k) (y := p) rfl rfl (by omega) hd)
        have w : w_far_binomial_0 (sF n k p f x4 x5 S) = .ok .nx (sF (n / p : Nat) (k / p : Nat) p (f * (cb (n % p) (k % p) % p) % p : Nat) (.val (.int (n % p : Nat))) (.val (.int (k % p : Nat))) S) :=
          (p1 _).trans ((sq_nx (if_f i1)).trans ((sq_nx s3).trans (s4 _)))
        obtain ⟨sl, e⟩ := ih (k / p) (Nat.div_lt_self (by omega) (by omega)) (n / p) (f * (cb (n % p) (k % p) % p) % p) (.val (.int (n % p : Nat))) (.val (.int (k % p : Nat))) (Nat.mod_lt _ (by omega))
        refine ⟨sl, ?_⟩
        rw [w]
        have fin : f * (cb (n % p) (k % p) % p) % p * cb (n / p) (k / p) % p = f * cb n k % p := by
          have : cb (n % p) (k % p) % p * cb (n / p) (k / p) % p = cb n k % p := by rw [Nat.mod_mul_mod, Nat.mul_comm, ← L]
          rw [Nat.mod_mul_mod, Nat.mul_assoc, Nat.mul_mod, this, ← Nat.mul_mod]
        rw [fin] at e
        exact e
theorem fb_q {n k p : Nat} (h : Prm p) (f : Frm p) (hp2 : p < 2 ^ 20) (S : List Cell) : g_far_binomial [.int n, .int k, .int p] S = .ok (.int (cb n k % p : Nat)) S := by
  obtain ⟨sl, e⟩ := fb_loop h f hp2 S k n 1 .un .un (by have := h.1; omega)
  rw [Nat.one_mul] at e
  exact fn_rt rfl ((sq_nx (set_e (i := 3) (f := eC (.int 1)) (s := ⟨[.val (.int n), .val (.int k), .val (.int p), .un, .un, .un], S⟩) rfl)).trans e)
/-! ### ways to choose -/
theorem cb_lt (n k : Nat) : cb n k < 2 ^ (n + 1) := by
  by_cases h : k ≤ n
  · have a := cb_cp h
    have b := cp_le k (n - k)
    rw [show k + (n - k) = n by omega, ← a] at b
    have : ((2 ^ n : Nat) : Int) = (2 : Int) ^ n := by simp
    have c : 2 ^ n < 2 ^ (n + 1) := Nat.pow_lt_pow_right (by decide) (by omega)
    omega
  · rw [cb_none (by omega)]; exact Nat.pow_pos (by decide)
abbrev sC (n k f : Int) (x3 : Sl) (S : List Cell) : DS := ⟨[.val (.int n), .val (.int k), .val (.int f), x3], S⟩
theorem bin_q {n k : Nat} (hn : n < 2 ^ 20) (hk : k ≤ n) (S : List Cell) : g_binomial [.int n, .int k] S = .ok (.int (cb n k)) S := by
  have it := rng_min (i := 0) (j := 1) hk (by omega) (s := sC n k (cb n 0) .un S) rfl rfl
  obtain ⟨s', e, x3, hs⟩ := for_inv (g := gN 3) (b := w_binomial_0) (items := rngL 1 (min k (n - k))) (s := sC n k (cb n 0) .un S)
    (fun i s => ∃ x3, s = sC n k (cb n i) x3 S) ⟨.un, rfl⟩ (fun i d s hi hp' => by
      obtain ⟨x3, rfl⟩ := hp'
      obtain ⟨hi1, rfl⟩ := rngL_get hi
      refine ⟨sC n k (cb n i) (.val (.int (1 + i))) S, sC n k (cb n (i + 1)) (.val (.int (1 + i))) S, rfl, .inl ?_, _, rfl⟩
      have a1 := add_i (sub_i (a := eVar 0) (b := eVar 3) (s := sC n k (cb n i) (.val (.int (1 + i))) S) (x := n) (y := 1 + i) rfl rfl) (b := eC (.int 1)) (y := 1) rfl
      rw [show (n : Int) - (1 + i) + 1 = ((n - i : Nat) : Int) by omega] at a1
      have bd : Bd ((cb n i : Nat) : Int) (2 ^ 20 + 1) := bdN (Nat.lt_of_lt_of_le (cb_lt n i) (Nat.pow_le_pow_right (by decide) (by omega)))
      have a2 := mul_i (a := eVar 2) (s := sC n k (cb n i) (.val (.int (1 + i))) S) (x := (cb n i : Nat)) (y := (n - i : Nat)) rfl a1 bd (bdN (n := 20) (by omega)) (by decide)
      rw [← Int.natCast_mul] at a2
      have hd : i + 1 < 2 ^ 9000 := Nat.lt_of_lt_of_le (show i + 1 < 2 ^ 20 by omega) (Nat.pow_le_pow_right (by decide) (by decide))
      have a3 := div_i (b := eVar 3) (y := i + 1) a2 (by rw [show ((i + 1 : Nat) : Int) = 1 + i by omega]; rfl) (by omega) hd
      rw [Nat.mul_comm, ← cb_step (by omega), Nat.mul_div_cancel_left _ (by omega)] at a3
      exact set_e (i := 2) a3)
  rw [rngL_len] at hs
  have fin : cb n (min k (n - k)) = cb n k := by
    rcases (show min k (n - k) = k ∨ min k (n - k) = n - k by omega) with q | q
    · rw [q]
    · rw [q, cb_turn hk]
  rw [fin] at hs
  rw [hs] at e
  have s1 := set_e (i := 2) (f := eC (.int 1)) (s := ⟨[.val (.int n), .val (.int k), .un, .un], S⟩) rfl
  have s1 : sSet 2 (eC (.int 1)) ⟨[.val (.int n), .val (.int k), .un, .un], S⟩ = .ok .nx (sC n k (cb n 0) .un S) := by rw [cb_0]; rfl
  exact fn_rt rfl ((sq_nx s1).trans ((sq_nx (for_it it e)).trans (ret_e rfl)))
end W_k61
set_option maxRecDepth 100000
set_option maxHeartbeats 4000000
set_option exponentiation.threshold 4000
namespace W_k61
open DL QB
/-! ### lists of numbers, by a rule -/
def vl (N : Nat) (f : Nat → Int) : List D := (List.range N).map fun i => .int (f i)
theorem vl_len (N : Nat) (f : Nat → Int) : (vl N f).length = N := by unfold vl; rw [List.length_map, List.length_range]
theorem vl_get {N : Nat} {f : Nat → Int} {j : Nat} (h : j < N) : (vl N f)[j]? = some (.int (f j)) := by
  unfold vl
  rw [List.getElem?_map, List.getElem?_range h]; rfl
theorem vl_at {N : Nat} {f : Nat → Int} {j : Nat} (h : j < N) : L2.atI (vl N f) (j : Int) = some (.int (f j)) := L2.atI_nat (vl_get h)
theorem vl_congr {N : Nat} {f g : Nat → Int} (h : ∀ i, i < N → f i = g i) : vl N f = vl N g := by
  unfold vl
  exact List.map_congr_left fun i hi => by rw [h i (List.mem_range.mp hi)]
theorem vl_set {N : Nat} {f : Nat → Int} {j : Nat} (h : j < N) (v : Int) : (vl N f).set j (.int v) = vl N fun i => if i = j then v else f i := by
  refine List.ext_getElem? fun i => ?_
  rw [List.getElem?_set]
  by_cases c : j = i
  · subst c
    rw [if_pos rfl, if_pos (by rw [vl_len]; exact h), vl_get h, if_pos rfl]
  · rw [if_neg c]
    by_cases hi : i < N
    · rw [vl_get hi, vl_get hi, if_neg (by omega)]
    · rw [List.getElem?_eq_none (by rw [vl_len]; omega), List.getElem?_eq_none (by rw [vl_len]; omega)]
theorem ixN_nat {n j : Nat} (h : j < n) : L2.ixN n (j : Int) = some j := by
  unfold L2.ixN
  rw [if_pos (by omega), if_pos (by omega)]; rfl
/-- one place of an own list -/
theorem aug_e {i N j k : Nat} {f : Nat → Int} {o : Int → Int → Int} {fi fk : DE} {s : DS} (h0 : s.sl[i]? = some (.ol (vl N f))) (hj : j < N) (hk : k < N) (e1 : fi s = .ok (.int (j : Int)) s) (e2 : fk s = .ok (.int (k : Int)) s) :
    sAugIxO i fi o (eIxO i fk) s = .ok .nx ⟨s.sl.set i (.ol (vl N fun n => if n = j then o (f j) (f k) else f n)), s.st⟩ := by
  simp only [r_sAugIxO, h0, e1, r_noX_ok, Res.bind_ok, vl_at hj, r_eIxO, e2, vl_at hk, vl_len, ixN_nat hj, vl_set hj]
/-! ### counts by areas, as the package makes them -/
abbrev sG (n k z : Int) (L : List D) (x4 x5 x6 : Sl) (S : List Cell) : DS := ⟨[.val (.int n), .val (.int k), .val (.int z), .ol L, x4, x5, x6], S⟩
theorem down_it {f : DA} {s : DS} {N h : Nat} (e : f s = .ok [.int ((N : Int) - 1), .int ((h : Int) - 1), .int (-1)] s) (hN : N < 2 ^ 40) (hh : h < 2 ^ 40) : itR3 f s = .ok ((List.range (N - h)).map fun i : Nat => D.int ((N : Int) - 1 - i)) s := by
  have hz : PySem.Builtin.Range.rangeSize ((N : Int) - 1) ((h : Int) - 1) (-1) = ((N - h : Nat) : Int) := by
    unfold PySem.Builtin.Range.rangeSize
    rw [if_neg (by decide)]
    by_cases c : h < N
    · rw [if_pos (by omega)]
      simp
      omega
    · rw [if_neg (by omega)]; omega
  have hs : PySem.Builtin.Range.small ((N : Int) - 1) ((h : Int) - 1) (-1) = true := by
    unfold PySem.Builtin.Range.small
    rw [hz]
    simp only [PySem.Builtin.Range.rangeFitsLong, Bool.and_eq_true, Bool.or_eq_true, decide_eq_true_eq, beq_iff_eq, show ¬ ((-1 : Int) > 0) by decide, if_false]
    omega
  unfold itR3
  rw [e]
  show (if _ then _ else _) = _
  rw [if_pos ⟨by decide, by decide, hs, by rw [hz]; omega⟩, hz]
  unfold rngC
  refine congrArg (fun l => Res.ok l s) ?_
  rw [Int.toNat_natCast]
  refine List.map_congr_left fun i _ => ?_
  refine congrArg D.int ?_
  omega
theorem down_loop (n k : Int) {N h : Nat} (h1 : 1 ≤ h) (g : Nat → Int) (x4 x6 : Sl) (S : List Cell) : ∃ x6', forL (gN 6) w_gaussian_0 ((List.range (N - h)).map fun i : Nat => D.int ((N : Int) - 1 - i)) (sG n k N (vl N g) x4 (.val (.int h)) x6 S) = .ok .nx (sG n k N (vl N fun i => if h ≤ i then g i - g (i - h) else g i) x4 (.val (.int h)) x6' S) := by
  obtain ⟨s', e, x6', hs⟩ := for_inv (g := gN 6) (b := w_gaussian_0) (items := (List.range (N - h)).map fun i : Nat => D.int ((N : Int) - 1 - i)) (s := sG n k N (vl N g) x4 (.val (.int h)) x6 S)
    (fun i s => ∃ x6, s = sG n k N (vl N fun j => if N - i ≤ j ∧ h ≤ j then g j - g (j - h) else g j) x4 (.val (.int h)) x6 S)
    ⟨x6, by rw [vl_congr (f := fun j => if N - 0 ≤ j ∧ h ≤ j then g j - g (j - h) else g j) (g := g) (fun i hi => by rw [if_neg (by omega)])]⟩ (fun i d s hi hp => by
      obtain ⟨x6, rfl⟩ := hp
      obtain ⟨hi1, rfl⟩ : i < N - h ∧ d = .int ((N : Int) - 1 - i) := by
        rw [List.getElem?_map] at hi
        by_cases c : i < N - h
        · rw [List.getElem?_range c] at hi
          exact ⟨c, (Option.some.inj hi).symm⟩
        · rw [List.getElem?_eq_none (by rw [List.length_range]; omega)] at hi
          cases hi
      refine ⟨sG n k N (vl N fun j => if N - i ≤ j ∧ h ≤ j then g j - g (j - h) else g j) x4 (.val (.int h)) (.val (.int ((N : Int) - 1 - i))) S, _, rfl, .inl (aug_e (i := 3) (j := N - 1 - i) (k := N - 1 - i - h) (N := N) (f := fun j => if N - i ≤ j ∧ h ≤ j then g j - g (j - h) else g j) rfl (by omega) (by omega) (by rw [show ((N - 1 - i : Nat) : Int) = (N : Int) - 1 - i by omega]; rfl) ?_), .val (.int ((N : Int) - 1 - i)), ?_⟩
      · have q := sub_i (a := eVar 6) (b := eVar 5) (s := sG n k N (vl N fun j => if N - i ≤ j ∧ h ≤ j then g j - g (j - h) else g j) x4 (.val (.int h)) (.val (.int ((N : Int) - 1 - i))) S) (x := (N : Int) - 1 - i) (y := h) rfl rfl
        rw [q]
        congr 2
        omega
      · show sG n k N _ x4 (.val (.int h)) (.val (.int ((N : Int) - 1 - i))) S = _
        congr 1
        refine vl_congr fun j hj => ?_
        by_cases c : j = N - 1 - i
        · subst c
          rw [if_pos rfl, if_neg (by omega), if_neg (by omega), if_pos (by omega)]
        · rw [if_neg c]
          by_cases c2 : N - i ≤ j ∧ h ≤ j
          · rw [if_pos c2, if_pos (by omega)]
          · rw [if_neg c2, if_neg (by omega)])
  refine ⟨x6', ?_⟩
  rw [e, hs, List.length_map, List.length_range]
  rw [vl_congr (g := fun i => if h ≤ i then g i - g (i - h) else g i) (fun i hi => by
    by_cases c : h ≤ i
    · rw [if_pos c, if_pos (by omega)]
    · rw [if_neg c, if_neg (by omega)])]
theorem up_loop (n k : Int) {N h : Nat} (h1 : 1 ≤ h) (g f : Nat → Int) (hl : ∀ i, i < h → g i = f i) (hu : ∀ i, h ≤ i → g i + f (i - h) = f i) (x5 x6 : Sl) (S : List Cell) : ∃ x6', forL (gN 6) w_gaussian_1 (rngL h (N - h)) (sG n k N (vl N g) (.val (.int h)) x5 x6 S) = .ok .nx (sG n k N (vl N f) (.val (.int h)) x5 x6' S) := by
  obtain ⟨s', e, x6', hs⟩ := for_inv (g := gN 6) (b := w_gaussian_1) (items := rngL h (N - h)) (s := sG n k N (vl N g) (.val (.int h)) x5 x6 S)
    (fun i s => ∃ x6, s = sG n k N (vl N fun j => if j < h + i then f j else g j) (.val (.int h)) x5 x6 S)
    ⟨x6, by rw [vl_congr (f := fun j => if j < h + 0 then f j else g j) (g := g) (fun i hi => by split <;> first | rfl | exact (hl i (by omega)).symm)]⟩ (fun i d s hi hp => by
      obtain ⟨x6, rfl⟩ := hp
      obtain ⟨hi1, rfl⟩ := rngL_get hi
      refine ⟨sG n k N (vl N fun j => if j < h + i then f j else g j) (.val (.int h)) x5 (.val (.int ((h : Int) + i))) S, _, rfl, .inl (aug_e (i := 3) (j := h + i) (k := i) (N := N) (f := fun j => if j < h + i then f j else g j) rfl (by omega) (by omega) rfl ?_), .val (.int ((h : Int) + i)), ?_⟩
      · have q := sub_i (a := eVar 6) (b := eVar 4) (s := sG n k N (vl N fun j => if j < h + i then f j else g j) (.val (.int h)) x5 (.val (.int ((h : Int) + i))) S) (x := (h : Int) + i) (y := h) rfl rfl
        rw [q]
        congr 2
        omega
      · show sG n k N _ (.val (.int h)) x5 (.val (.int ((h : Int) + i))) S = _
        congr 1
        refine vl_congr fun j hj => ?_
        by_cases c : j = h + i
        · subst c
          have := hu (h + i) (by omega)
          rw [if_pos rfl, if_neg (by omega), if_pos (by omega), if_pos (by omega), ← this, show h + i - h = i by omega]
        · rw [if_neg c]
          by_cases c2 : j < h + i
          · rw [if_pos c2, if_pos (by omega)]
          · rw [if_neg c2, if_neg (by omega)])
  refine ⟨x6', ?_⟩
  rw [e, hs, rngL_len]
  rw [vl_congr (g := f) (fun i hi => by rw [if_pos (by omega)])]
theorem step_gen (s y N : Nat) (hN : N ≤ 1000000) (hy : y ≤ 1000) (hs : s ≤ 1000) {n k : Nat} (hnk : n = k + y) (x5 x6 : Sl) (S : List Cell) : ∃ x5' x6', w_gaussian_2 (sG n k N (vl N fun i => pc s y i) (.val (.int (1 + s))) x5 x6 S) = .ok .nx (sG n k N (vl N fun i => pc (s + 1) y i) (.val (.int (1 + s))) x5' x6' S) := by
  have a1 := add_i (sub_i (a := eVar 0) (b := eVar 1) (s := sG n k N (vl N fun i => pc s y i) (.val (.int (1 + s))) x5 x6 S) (x := n) (y := k) rfl rfl) (b := eVar 4) (y := 1 + s) rfl
  rw [show (n : Int) - k + (1 + s) = ((y + s + 1 : Nat) : Int) by omega] at a1
  have s1 := set_e (i := 5) a1
  have s1 : _ = Res.ok Out.nx (sG n k N (vl N fun i => pc s y i) (.val (.int (1 + s))) (.val (.int (y + s + 1 : Nat))) x6 S) := s1
  obtain ⟨x6a, e2⟩ := down_loop n k (N := N) (h := y + s + 1) (by omega) (fun i : Nat => pc s y i) (.val (.int (1 + s))) x6 S
  have it2 := down_it (N := N) (h := y + s + 1) (f := aCons (eOp2 iSub (eVar 2) (eC (.int 1))) (aCons (eOp2 iSub (eVar 5) (eC (.int 1))) (aCons (eNeg (eC (.int 1))) (aNil)))) (s := sG n k N (vl N fun i => pc s y i) (.val (.int (1 + s))) (.val (.int (y + s + 1 : Nat))) x6 S) rfl (by omega) (by omega)
  have s2 := for_it it2 e2
  rw [show (1 : Int) + s = ((s + 1 : Nat) : Int) by omega] at s2 s1 ⊢
  obtain ⟨x6b, e3⟩ := up_loop n k (N := N) (h := s + 1) (by omega) (fun i : Nat => if y + s + 1 ≤ i then pc s y i - pc s y (i - (y + s + 1) : Nat) else pc s y i) (fun i : Nat => pc (s + 1) y i) (fun i hi => by
      have c := pth_C (δ := dl) s y i
      have z1 := pc_out (s + 1) y (i - ((s + 1 : Nat) : Int)) (by omega)
      have z2 := pc_out s y (i - ((s + 1 + y : Nat) : Int)) (by omega)
      rw [pc] at z1 z2
      rw [z1, z2] at c
      show (if y + s + 1 ≤ i then _ else _) = _
      rw [if_neg (by omega)]
      show pth dl s y i = pth dl (s + 1) y i
      omega) (fun i hi => by
      have c := pth_C (δ := dl) s y i
      show (if y + s + 1 ≤ i then pth dl s y i - pth dl s y (i - (y + s + 1) : Nat) else pth dl s y i) + pth dl (s + 1) y (i - (s + 1) : Nat) = pth dl (s + 1) y i
      rw [show ((i - (s + 1) : Nat) : Int) = i - ((s + 1 : Nat) : Int) by omega]
      by_cases g : y + s + 1 ≤ i
      · rw [if_pos g, show ((i - (y + s + 1) : Nat) : Int) = i - ((s + 1 + y : Nat) : Int) by omega]
        omega
      · have z2 := pc_out s y (i - ((s + 1 + y : Nat) : Int)) (by omega)
        rw [pc] at z2
        rw [if_neg g]
        omega) (.val (.int (y + s + 1 : Nat))) x6a S
  have it3 := itR2_of (f := aCons (eVar 4) (aCons (eVar 2) (aNil))) (s := sG n k N (vl N fun i : Nat => if y + s + 1 ≤ i then pc s y i - pc s y (i - (y + s + 1) : Nat) else pc s y i) (.val (.int (s + 1 : Nat))) (.val (.int (y + s + 1 : Nat))) x6a S) (s1 := sG n k N (vl N fun i : Nat => if y + s + 1 ≤ i then pc s y i - pc s y (i - (y + s + 1) : Nat) else pc s y i) (.val (.int (s + 1 : Nat))) (.val (.int (y + s + 1 : Nat))) x6a S) (i := (s + 1 : Nat)) (j := N) (n := N - (s + 1)) rfl (by omega) (by omega)
  exact ⟨_, x6b, (sq_nx s1).trans ((sq_nx s2).trans (for_it it3 e3))⟩
theorem gau_q {n k : Nat} (hn : n ≤ 200) (S : List Cell) : g_gaussian [.int n, .int k] S = .ok (.lst (if k ≤ n then vl (k * (n - k) + 1) (fun i => pc k (n - k) i) else [])) S := by
  by_cases h : k ≤ n
  · rw [if_pos h]
    obtain ⟨y, hy⟩ : ∃ y, n = k + y := ⟨n - k, by omega⟩
    have hy2 : n - k = y := by omega
    rw [hy2]
    have hNb : k * y ≤ 200 * 200 := Nat.mul_le_mul (by omega) (by omega)
    obtain ⟨N, hN⟩ : ∃ N, N = k * y + 1 := ⟨_, rfl⟩
    rw [← hN]
    have i1 : sIf (eB (eOp2 iGt (eVar 1) (eVar 0))) (sRet (eFrz (aMax (aNil)))) (sPass) ⟨[.val (.int n), .val (.int k), .un, .un, .un, .un, .un], S⟩ = .ok .nx ⟨[.val (.int n), .val (.int k), .un, .un, .un, .un, .un], S⟩ :=
      if_f (eB_of (op_2 (a := eVar 1) (b := eVar 0) (s := ⟨[.val (.int n), .val (.int k), .un, .un, .un, .un, .un], S⟩) rfl rfl (by rw [r_iGt, decide_eq_false (by omega)])))
    have a2 := add_i (b := eC (.int 1)) (y := 1) (mul_i (a := eVar 1) (b := eOp2 iSub (eVar 0) (eVar 1)) (s := ⟨[.val (.int n), .val (.int k), .un, .un, .un, .un, .un], S⟩) (s1 := ⟨[.val (.int n), .val (.int k), .un, .un, .un, .un, .un], S⟩) (x := k) (y := (y : Nat)) rfl (by rw [show ((y : Nat) : Int) = (n : Int) - k by omega]; rfl) (bdN (n := 20) (by omega)) (bdN (n := 20) (by omega)) (by decide)) rfl
    rw [show (k : Int) * (y : Nat) + 1 = (N : Nat) by rw [hN]; push_cast; rfl] at a2
    have s2 := set_e (i := 2) a2
    have s2 : _ = Res.ok Out.nx (⟨[.val (.int n), .val (.int k), .val (.int N), .un, .un, .un, .un], S⟩ : DS) := s2
    have s3 : sSetO 3 (aCat (eFrz (aMax (aCons (eC (.int 1)) (aNil)))) (eOp2 dMul (eFrz (aMax (aCons (eC (.int 0)) (aNil)))) (eOp2 iSub (eVar 2) (eC (.int 1))))) ⟨[.val (.int n), .val (.int k), .val (.int N), .un, .un, .un, .un], S⟩ = .ok .nx (sG n k N (vl N fun i => pc 0 y i) .un .un .un S) := by
      have m : dMul (.lst [.int 0]) (.int ((N : Int) - 1)) = some (.lst (List.replicate (N - 1) (.int 0))) := by
        show lMul (.lst [.int 0]) (.int ((N : Int) - 1)) = _
        unfold lMul
        show (if _ then some (D.lst (List.replicate _ [D.int 0]).flatten) else none) = _
        rw [if_pos ⟨by omega, by omega, by simp; omega⟩, show ((N : Int) - 1).toNat = N - 1 by omega]
        simp
      have q1 : eFrz (aMax (aCons (eC (.int 1)) (aNil))) ⟨[.val (.int n), .val (.int k), .val (.int N), .un, .un, .un, .un], S⟩ = .ok (.lst [.int 1]) ⟨[.val (.int n), .val (.int k), .val (.int N), .un, .un, .un, .un], S⟩ := rfl
      have q2 := op_2 (o := dMul) (a := eFrz (aMax (aCons (eC (.int 0)) (aNil)))) (b := eOp2 iSub (eVar 2) (eC (.int 1))) (s := ⟨[.val (.int n), .val (.int k), .val (.int N), .un, .un, .un, .un], S⟩) (x := .lst [.int 0]) (y := .int ((N : Int) - 1)) rfl rfl m
      have q3 : aCat (eFrz (aMax (aCons (eC (.int 1)) (aNil)))) (eOp2 dMul (eFrz (aMax (aCons (eC (.int 0)) (aNil)))) (eOp2 iSub (eVar 2) (eC (.int 1)))) ⟨[.val (.int n), .val (.int k), .val (.int N), .un, .un, .un, .un], S⟩ = .ok (vl N fun i => pc 0 y i) ⟨[.val (.int n), .val (.int k), .val (.int N), .un, .un, .un, .un], S⟩ := by
        unfold aCat
        rw [q1, Res.bind_ok, q2, Res.bind_ok]
        show (if _ then _ else _) = _
        rw [if_pos (by simp; omega)]
        refine congrArg (fun l => Res.ok l _) ?_
        refine List.ext_getElem? fun i => ?_
        by_cases hi : i < N
        · rw [vl_get hi]
          show _ = some (D.int (pth dl 0 y i))
          rw [pth_0, dl]
          cases i with
          | zero => rfl
          | succ i =>
            rw [if_neg (by omega)]
            show (List.replicate (N - 1) (D.int 0))[i]? = _
            rw [List.getElem?_replicate, if_pos (by omega)]
        · rw [List.getElem?_eq_none (by simp; omega), List.getElem?_eq_none (by rw [vl_len]; omega)]
      exact set_o (i := 3) q3
    have it := itR2_of (f := aCons (eC (.int 1)) (aCons (eOp2 dAdd (eVar 1) (eC (.int 1))) (aNil))) (s := sG n k N (vl N fun i => pc 0 y i) .un .un .un S) (s1 := sG n k N (vl N fun i => pc 0 y i) .un .un .un S) (i := 1) (j := (k : Int) + 1) (n := k) rfl (by omega) (by omega)
    obtain ⟨s', e, x4, x5, x6, hs⟩ := for_inv (g := gN 4) (b := w_gaussian_2) (items := rngL 1 k) (s := sG n k N (vl N fun i => pc 0 y i) .un .un .un S)
      (fun i s => ∃ x4 x5 x6, s = sG n k N (vl N fun j => pc i y j) x4 x5 x6 S) ⟨_, _, _, rfl⟩ (fun i d s hi hp => by
        obtain ⟨x4, x5, x6, rfl⟩ := hp
        obtain ⟨hi1, rfl⟩ := rngL_get hi
        obtain ⟨x5', x6', w⟩ := step_gen i y N (by omega) (by omega) (by omega) (n := n) (k := k) hy x5 x6 S
        exact ⟨_, _, rfl, .inl w, _, x5', x6', rfl⟩)
    rw [rngL_len] at hs
    rw [hs] at e
    exact fn_rt rfl ((sq_nx i1).trans ((sq_nx s2).trans ((sq_nx s3).trans ((sq_nx (for_it it e)).trans (ret_e (var_o (i := 3) rfl))))))
  · rw [if_neg h]
    have i1 : sIf (eB (eOp2 iGt (eVar 1) (eVar 0))) (sRet (eFrz (aMax (aNil)))) (sPass) ⟨[.val (.int n), .val (.int k), .un, .un, .un, .un, .un], S⟩ = .ok (.rt (.lst [])) ⟨[.val (.int n), .val (.int k), .un, .un, .un, .un, .un], S⟩ :=
      (if_t (eB_of (op_2 (a := eVar 1) (b := eVar 0) (s := ⟨[.val (.int n), .val (.int k), .un, .un, .un, .un, .un], S⟩) rfl rfl (by rw [r_iGt, decide_eq_true (by omega)])))).trans rfl
    exact fn_rt rfl (sq_rt i1)
end W_k61
set_option maxRecDepth 100000
set_option maxHeartbeats 4000000
set_option exponentiation.threshold 4000
namespace W_k61
open DL QB
/-! ### shares -/
theorem enum_vl (N : Nat) (f : Nat → Int) : enumL (vl N f) = (List.range N).map fun i => .tup [.int (i : Int), .int (f i)] := by
  unfold enumL
  rw [vl_len]
  refine List.ext_getElem? fun i => ?_
  rw [List.getElem?_zipWith]
  by_cases h : i < N
  · rw [List.getElem?_range h, vl_get h, List.getElem?_map, List.getElem?_range h]; rfl
  · rw [List.getElem?_eq_none (l := List.range N) (by rw [List.length_range]; omega), List.getElem?_eq_none (l := List.map _ _) (by rw [List.length_map, List.length_range]; omega)]
abbrev sS (x y d r : Int) (L : D) (x5 x6 : Sl) (S : List Cell) : DS := ⟨[.val (.int x), .val (.int y), .val (.int d), .val (.int r), .val L, x5, x6], S⟩
theorem bd_i {x : Int} {n : Nat} (h : x.natAbs < 2 ^ n) : Bd x n := ⟨h⟩
theorem share_lc {x y d N : Nat} {r : Int} (h1 : 1 ≤ d) (hd : d < 31) (hN : N ≤ 1000000) (f : Nat → Int) (hf : ∀ i, Bd (f i) 60) (S : List Cell) :
    aLc [5, 6] (itEnum (aCons (eVar 4) (aNil))) (gT 2 (gsCons (gN 5) (gsCons (gN 6) (gsNil)))) (bYes) (e_share_0) (sS x y d r (.lst (vl N f)) .un .un S) = .ok ((List.range N).map fun i : Nat => D.int (f i * ram d (i - r))) (sS x y d r (.lst (vl N f)) .un .un S) := by
  have it : itEnum (aCons (eVar 4) (aNil)) (sS x y d r (.lst (vl N f)) .un .un S) = .ok ((List.range N).map fun i : Nat => D.tup [.int (i : Int), .int (f i)]) (sS x y d r (.lst (vl N f)) .un .un S) := by
    rw [r_itEnum_l, ← enum_vl]; rfl
  have l := aLc_of (vs := [5, 6]) (g := gT 2 (gsCons (gN 5) (gsCons (gN 6) (gsNil)))) (e := e_share_0) (fun i : Nat => D.tup [.int (i : Int), .int (f i)]) (fun i : Nat => D.int (f i * ram d (i - r))) it (fun i hi => by
    refine ⟨sS x y d r (.lst (vl N f)) (.val (.int i)) (.val (.int (f i))) S, sS x y d r (.lst (vl N f)) (.val (.int i)) (.val (.int (f i))) S, rfl, ?_, rfl⟩
    have q1 := sub_i (a := eVar 5) (b := eVar 3) (s := sS x y d r (.lst (vl N f)) (.val (.int i)) (.val (.int (f i))) S) (x := i) (y := r) rfl rfl
    have q2 := call_x2 (g := g_root_sum) (a := eVar 2) (s := sS x y d r (.lst (vl N f)) (.val (.int i)) (.val (.int (f i))) S) rfl q1 (ram_q h1 hd (i - r) S)
    have := ram_le h1 hd ((i : Int) - r)
    exact mul_i (a := eVar 6) (s := sS x y d r (.lst (vl N f)) (.val (.int i)) (.val (.int (f i))) S) rfl q2 (hf i) (bd_i (n := 11) (by omega)) (by decide)) (by rw [List.length_range]; omega)
  exact l
theorem share_q {x y d : Nat} (h1 : 1 ≤ d) (hd : d < 31) (r : Int) (S : List Cell) : g_share [.int x, .int y, .int d, .int r] S = .ok (.int (shr x y d r)) S := by
  have a1 := mod_i (x := x + y) (y := d) (b := eVar 2) (add_i (a := eVar 0) (b := eVar 1) (s := ⟨[.val (.int x), .val (.int y), .val (.int d), .val (.int r), .un, .un, .un], S⟩) (x := x) (y := y) rfl rfl) rfl (by omega)
  have a2 := mod_i (a := eVar 0) (b := eVar 2) (s := ⟨[.val (.int x), .val (.int y), .val (.int d), .val (.int r), .un, .un, .un], S⟩) (x := x) (y := d) rfl rfl (by omega)
  have mx := Nat.mod_lt x (show 0 < d by omega)
  have my := Nat.mod_lt y (show 0 < d by omega)
  have mn := Nat.mod_lt (x + y) (show 0 < d by omega)
  have a3 := set_e (i := 4) (call_x2 (g := g_gaussian) a1 a2 (gau_q (n := (x + y) % d) (k := x % d) (by omega) S))
  by_cases c : x % d + y % d < d
  · have e1 : (x + y) % d = x % d + y % d := by rw [Nat.add_mod, Nat.mod_eq_of_lt c]
    rw [e1, if_pos (by omega), show x % d + y % d - x % d = y % d by omega] at a3
    have ml : x % d * (y % d) ≤ 30 * 30 := Nat.mul_le_mul (by omega) (by omega)
    have l := share_lc (x := x) (y := y) (r := r) (N := x % d * (y % d) + 1) h1 hd (by omega) (fun i => pc (x % d) (y % d) i) (fun i => by
      have := pc_le (x % d) (y % d) i
      have := cp_31 (show x % d + y % d < 31 by omega)
      exact bd_i (by omega)) S
    have s := sum_i ((List.range (x % d * (y % d) + 1)).map fun i : Nat => pc (x % d) (y % d) i * ram d (i - r))
    rw [List.map_map, S_list] at s
    have cv := conv (δ := ram d) (x % d) (y % d) r (x % d * (y % d) + 1) (by omega)
    have e2 : QB.S (x % d * (y % d) + 1) (fun i : Nat => pc (x % d) (y % d) i * ram d (i - r)) = shr x y d r := by
      unfold shr
      rw [if_pos c, cv]
      refine S_congr fun i _ => ?_
      rw [← ram_neg d (r - i)]
      congr 2
      omega
    rw [e2] at s
    exact fn_rt (sl := (sS x y d r (.lst (vl (x % d * (y % d) + 1) fun i => pc (x % d) (y % d) i)) .un .un S).sl) rfl ((sq_nx a3).trans (ret_e (cb_1 (frz_e l) s)))
  · have e1 : (x + y) % d = x % d + y % d - d := by
      rw [Nat.add_mod, Nat.mod_eq_sub_mod (by omega), Nat.mod_eq_of_lt (by omega)]
    rw [e1, if_neg (by omega)] at a3
    have l := share_lc (x := x) (y := y) (r := r) (N := 0) h1 hd (by omega) (fun i => 0) (fun i => ⟨by decide⟩) S
    have e2 : shr x y d r = 0 := by unfold shr; rw [if_neg c]
    rw [e2]
    exact fn_rt (sl := (sS x y d r (.lst []) .un .un S).sl) rfl ((sq_nx a3).trans (ret_e (cb_1 (frz_e l) rfl)))
/-! ### what is asked for -/
theorem fn_nx {n m : Nat} {b : DStm} {ds : List D} {S S' : List Cell} {sl : List Sl} (hn : ds.length = n) (h : b ⟨ds.map .val ++ List.replicate m .un, S⟩ = .ok .nx ⟨sl, S'⟩) : fnD n b m ds S = .ok .non S' := by
  unfold fnD
  rw [if_pos hn, h]
theorem whole_q {z l : Int} (h : l ≤ z) (S : List Cell) : g_is_whole [.int z, .int l] S = .ok (.bl true) S := by
  have i : g_is_integer [.int z] S = .ok (.bl true) S := by
    simp [g_is_integer, b_is_integer, fnD, bIsi, tyOfD, tyD, isOne, mem_ty, isTy]
  have q1 := call_x1 (g := g_is_integer) (a := eVar 0) (s := ⟨[.val (.int z), .val (.int l)], S⟩) rfl i
  have q2 := op_2 (o := iGe) (a := eVar 0) (b := eVar 1) (s := ⟨[.val (.int z), .val (.int l)], S⟩) (d := .bl true) rfl rfl (by rw [r_iGe, decide_eq_true h])
  exact fn_rt rfl (ret_e (andT_t q1 q2))
theorem need_loop {l : Int} (L : D) (S : List Cell) : ∀ (zs : List Int) (x2 : Sl), (∀ z, z ∈ zs → l ≤ z) → ∃ x2', forL (gN 2) w_need_whole_0 (zs.map D.int) ⟨[.val L, .val (.int l), x2], S⟩ = .ok .nx ⟨[.val L, .val (.int l), x2'], S⟩
  | [], x2, _ => ⟨x2, rfl⟩
  | z :: zs, x2, h => by
    obtain ⟨x2', e⟩ := need_loop L S zs (.val (.int z)) fun y hy => h y (List.mem_cons_of_mem _ hy)
    refine ⟨x2', ?_⟩
    rw [List.map_cons]
    refine (for_1 (i := 2) (s := ⟨[.val L, .val (.int l), x2], S⟩) (s1 := ⟨[.val L, .val (.int l), .val (.int z)], S⟩) ?_).trans e
    exact if_f (not_e (tru_e (call_x2 (g := g_is_whole) (a := eVar 2) (b := eVar 1) (s := ⟨[.val L, .val (.int l), .val (.int z)], S⟩) rfl rfl (whole_q (h z (List.mem_cons_self ..)) S))))
theorem need_q {l : Int} {zs : List Int} (h : ∀ z, z ∈ zs → l ≤ z) (S : List Cell) : g_need_whole [.lst (zs.map D.int), .int l] S = .ok .non S := by
  obtain ⟨x2', e⟩ := need_loop (.lst (zs.map D.int)) S zs .un h
  exact fn_nx rfl (for_seq (f := eVar 0) rfl rfl e)
theorem need_e {l : Int} {zs : List Int} {f : DA} {s : DS} (hf : eFrz (aMax f) s = .ok (.lst (zs.map D.int)) s) (h : ∀ z, z ∈ zs → l ≤ z) : sExpr (eCall 2 g_need_whole (aCons (eFrz (aMax f)) (aCons (eC (.int l)) (aNil)))) s = .ok .nx s := by
  have q := call_x2 (g := g_need_whole) (b := eC (.int l)) hf rfl (need_q h s.st)
  rw [r_sExpr, q]; rfl
theorem rest_q {x y m r : Int} (hx : 0 ≤ x) (hy : 0 ≤ y) (hm : 1 ≤ m) (hm2 : m ≤ 30) (hr : 0 ≤ r) (hr2 : r < m) (S : List Cell) : g_need_rest [.int x, .int y, .int m, .int r] S = .ok .non S := by
  have s1 := need_e (l := 0) (zs := [x, y]) (f := aCons (eVar 0) (aCons (eVar 1) (aNil))) (s := ⟨[.val (.int x), .val (.int y), .val (.int m), .val (.int r)], S⟩) rfl (by simp [hx, hy])
  have s2 := need_e (l := 1) (zs := [m]) (f := aCons (eVar 2) (aNil)) (s := ⟨[.val (.int x), .val (.int y), .val (.int m), .val (.int r)], S⟩) rfl (by simp [hm])
  have s3 := need_e (l := 0) (zs := [r]) (f := aCons (eVar 3) (aNil)) (s := ⟨[.val (.int x), .val (.int y), .val (.int m), .val (.int r)], S⟩) rfl (by simp [hr])
  have s4 := if_f (f := sRaise "BadNumber" [118, 97, 108, 117, 101] (aCons (eVar 2) (aNil))) (g := sPass) (eB_of (op_2 (o := iGt) (a := eVar 2) (b := eC (.int 30)) (s := ⟨[.val (.int x), .val (.int y), .val (.int m), .val (.int r)], S⟩) rfl rfl (by rw [r_iGt, decide_eq_false (by omega)])))
  have s5 := if_f (f := sRaise "BadNumber" [118, 97, 108, 117, 101] (aCons (eVar 3) (aNil))) (g := sPass) (eB_of (op_2 (o := iGe) (a := eVar 3) (b := eVar 2) (s := ⟨[.val (.int x), .val (.int y), .val (.int m), .val (.int r)], S⟩) rfl rfl (by rw [r_iGe, decide_eq_false (by omega)])))
  exact fn_nx (sl := [.val (.int x), .val (.int y), .val (.int m), .val (.int r)]) rfl ((sq_nx s1).trans ((sq_nx s2).trans ((sq_nx s3).trans ((sq_nx s4).trans s5))))
theorem ex_nx {f : DE} {s s1 : DS} {d : D} (h : f s = .ok d s1) : sExpr f s = .ok .nx s1 := by
  rw [r_sExpr, h]; rfl
theorem aug_i {i : Nat} {f : DE} {s s1 : DS} {u v : Int} (h0 : s.sl[i]? = some (.val (.int u))) (h : f s = .ok (.int v) s1) : sAug i (fun i j => i + j) f s = .ok .nx ⟨s1.sl.set i (.val (.int (u + v))), s1.st⟩ := by
  unfold sAug
  rw [h0]
  show (f s).bind _ = _
  rw [h]; rfl
/-! ### paths by their rests -/
abbrev sP (x y m r : Int) (x4 : Sl) (f : Int) (x6 : Sl) (S : List Cell) : DS := ⟨[.val (.int x), .val (.int y), .val (.int m), .val (.int r), x4, .val (.int f), x6], S⟩
theorem pow9000 {n : Nat} (h : n < 1000) : n < 2 ^ 9000 := Nat.lt_of_lt_of_le h (by decide +kernel)
theorem mem30 {m d : Nat} (hm : m ≤ 30) (h : d ∈ dvs m) : 1 ≤ d ∧ d < 31 := by
  obtain ⟨h1, h2, _⟩ := mem_dvs.mp h
  omega
theorem near_loop {x y m : Nat} {r : Int} (hx : x ≤ 2000) (hy : y ≤ 2000) (hm : m ≤ 30) (x4 : Sl) (S : List Cell) : ∀ (l : List Nat) (f : Int) (x6 : Sl), (∀ d, d ∈ l → d ∈ dvs m) → ∃ x6', forL (gN 6) w_paths_by_rest_1 (l.map kD) (sP x y m r x4 f x6 S) = .ok .nx (sP x y m r x4 (f + (l.map fun d => shr x y d r * cp (x / d) (y / d)).sum) x6' S)
  | [], f, x6, _ => ⟨x6, by simp⟩
  | d :: l, f, x6, h => by
    obtain ⟨h1, h2⟩ := mem30 hm (h d (List.mem_cons_self ..))
    by_cases c : x % d + y % d < d
    · have hc : (x + y) / d = x / d + y / d := by
        have e1 := Nat.div_add_mod x d
        have e2 := Nat.div_add_mod y d
        rw [show x + y = d * (x / d + y / d) + (x % d + y % d) by rw [Nat.mul_add]; omega, Nat.mul_add_div (by omega), Nat.div_eq_of_lt c, Nat.add_zero]
      obtain ⟨x6', e⟩ := near_loop hx hy hm x4 S l (f + shr x y d r * cp (x / d) (y / d)) (.val (kD d)) fun y hy => h y (List.mem_cons_of_mem _ hy)
      refine ⟨x6', ?_⟩
      rw [List.map_cons, List.map_cons, List.sum_cons, ← Int.add_assoc]
      refine (for_1 (i := 6) (s := sP x y m r x4 f x6 S) (s1 := sP x y m r x4 (f + shr x y d r * cp (x / d) (y / d)) (.val (kD d)) S) ?_).trans e
      have q1 := call_x4 (g := g_share) (a := eVar 0) (b := eVar 1) (c := eVar 6) (k := eVar 3) (s := sP x y m r x4 f (.val (kD d)) S) rfl rfl rfl rfl (share_q h1 h2 r S)
      have q2 := div_i (x := x + y) (y := d) (b := eVar 6) (add_i (a := eVar 0) (b := eVar 1) (s := sP x y m r x4 f (.val (kD d)) S) (x := x) (y := y) rfl rfl) rfl (by omega) (pow9000 (by omega))
      have q3 := div_i (a := eVar 0) (b := eVar 6) (s := sP x y m r x4 f (.val (kD d)) S) (x := x) (y := d) rfl rfl (by omega) (pow9000 (by omega))
      have dx : x / d ≤ x := Nat.div_le_self _ _
      have dy : y / d ≤ y := Nat.div_le_self _ _
      have dxy : x / d + y / d < 2 ^ 20 := by omega
      have dle : x / d ≤ x / d + y / d := Nat.le_add_right _ _
      have q4 := call_x2 (g := g_binomial) q2 q3 (bin_q (n := (x + y) / d) (k := x / d) (by rw [hc]; exact dxy) (by rw [hc]; exact dle) S)
      rw [hc, ← cp_cb] at q4
      have q5 := mul_i q1 q4 (bd_i (shr_le h1 h2 x y r)) (m := 50) (n := x / d + y / d + 1) (by
        have := cb_lt (x / d + y / d) (x / d)
        rw [cp_cb]
        exact bdN this) (by omega)
      exact aug_i (i := 5) (s := sP x y m r x4 f (.val (kD d)) S) rfl q5
    · have z : shr x y d r = 0 := by unfold shr; rw [if_neg c]
      obtain ⟨x6', e⟩ := near_loop hx hy hm x4 S l f (.val (kD d)) fun y hy => h y (List.mem_cons_of_mem _ hy)
      refine ⟨x6', ?_⟩
      rw [List.map_cons, List.map_cons, List.sum_cons, z, Int.zero_mul, Int.zero_add]
      refine (for_1 (i := 6) (s := sP x y m r x4 f x6 S) (s1 := sP x y m r x4 f (.val (kD d)) S) ?_).trans e
      have q1 := call_x4 (g := g_share) (a := eVar 0) (b := eVar 1) (c := eVar 6) (k := eVar 3) (s := sP x y m r x4 f (.val (kD d)) S) rfl rfl rfl rfl (share_q h1 h2 r S)
      rw [z] at q1
      have q2 := div_i (x := x + y) (y := d) (b := eVar 6) (add_i (a := eVar 0) (b := eVar 1) (s := sP x y m r x4 f (.val (kD d)) S) (x := x) (y := y) rfl rfl) rfl (by omega) (pow9000 (by omega))
      have q3 := div_i (a := eVar 0) (b := eVar 6) (s := sP x y m r x4 f (.val (kD d)) S) (x := x) (y := d) rfl rfl (by omega) (pow9000 (by omega))
      have hl : (x + y) / d ≤ 4000 := Nat.le_trans (Nat.div_le_self _ _) (by omega)
      have q4 := call_x2 (g := g_binomial) q2 q3 (bin_q (n := (x + y) / d) (k := x / d) (by omega) (Nat.div_le_div_right (by omega)) S)
      have q5 := mul_i q1 q4 (m := 1) (n := (x + y) / d + 1) (bd_i (by decide)) (bdN (cb_lt _ _)) (by omega)
      have q6 := aug_i (i := 5) (s := sP x y m r x4 f (.val (kD d)) S) (u := f) rfl q5
      rw [Int.zero_mul, Int.add_zero] at q6
      exact q6
theorem near_q {x y m : Nat} {r : Int} (hx : x ≤ 2000) (hy : y ≤ 2000) (hm : 1 ≤ m) (hm2 : m ≤ 30) (hr : 0 ≤ r) (hr2 : r < m) (S : List Cell) : g_paths_by_rest [.int x, .int y, .int m, .int r] S = .ok (.int (rst m x y r)) S := by
  have q0 := call_x4 (g := g_need_rest) (a := eVar 0) (b := eVar 1) (c := eVar 2) (k := eVar 3) (s := ⟨[.val (.int x), .val (.int y), .val (.int m), .val (.int r), .un, .un, .un], S⟩) rfl rfl rfl rfl (rest_q (x := x) (y := y) (m := m) (r := r) (by omega) (by omega) (by omega) (by omega) hr hr2 S)
  have s1 := ex_nx q0
  have w : ∀ (z : Nat) (x4 : Sl), z ≤ 2000 → w_paths_by_rest_0 ⟨[.val (.int x), .val (.int y), .val (.int m), .val (.int r), .val (.int z), .un, .un], S⟩ = .ok .nx ⟨[.val (.int x), .val (.int y), .val (.int m), .val (.int r), .val (.int z), .un, .un], S⟩ := fun z x4 hz =>
    if_f (eB_of (op_2 (o := iGt) (a := eVar 4) (b := eC (.int 2000)) (s := ⟨[.val (.int x), .val (.int y), .val (.int m), .val (.int r), .val (.int z), .un, .un], S⟩) rfl rfl (by rw [r_iGt, decide_eq_false (by omega)])))
  have s2 : sFor (itSeq (eTup (aCons (eVar 0) (aCons (eVar 1) (aNil))))) (gN 4) (w_paths_by_rest_0) ⟨[.val (.int x), .val (.int y), .val (.int m), .val (.int r), .un, .un, .un], S⟩ = .ok .nx ⟨[.val (.int x), .val (.int y), .val (.int m), .val (.int r), .val (.int y), .un, .un], S⟩ :=
    for_it (xs := [.int x, .int y]) (s1 := ⟨[.val (.int x), .val (.int y), .val (.int m), .val (.int r), .un, .un, .un], S⟩) rfl ((for_1 (i := 4) (s := ⟨[.val (.int x), .val (.int y), .val (.int m), .val (.int r), .un, .un, .un], S⟩) (w x .un hx)).trans ((for_1 (i := 4) (s := ⟨[.val (.int x), .val (.int y), .val (.int m), .val (.int r), .val (.int x), .un, .un], S⟩) (w y .un hy)).trans rfl))
  obtain ⟨x6', e⟩ := near_loop (r := r) hx hy hm2 (.val (.int y)) S (dvs m) 0 .un fun d h => h
  rw [rst_sum hm (by omega), Int.zero_add] at e
  have q4 := call_x1 (g := g_divisors) (a := eVar 2) (s := sP x y m r (.val (.int y)) 0 .un S) rfl (dvs_q (m := m) (by omega) S)
  have it : itSeq (eCall 1 g_divisors (aCons (eVar 2) (aNil))) (sP x y m r (.val (.int y)) 0 .un S) = .ok ((dvs m).map kD) (sP x y m r (.val (.int y)) 0 .un S) := by
    rw [r_itSeq, q4]; rfl
  have q5 := divI_i (a := eVar 5) (b := eVar 2) (s := sP x y m r (.val (.int y)) (m * rst m x y r) x6' S) (x := m * rst m x y r) (y := m) rfl rfl (by omega) (pow9000 (by omega))
  rw [Int.mul_ediv_cancel_left _ (by omega)] at q5
  exact fn_rt (sl := (sP x y m r (.val (.int y)) (m * rst m x y r) x6' S).sl) rfl ((sq_nx s1).trans ((sq_nx s2).trans ((sq_nx (set_e (i := 5) (f := eC (.int 0)) rfl)).trans ((sq_nx (for_it it e)).trans (ret_e q5)))))
end W_k61
set_option maxRecDepth 100000
set_option maxHeartbeats 4000000
set_option exponentiation.threshold 4000
namespace W_k61
open DL QB
theorem notT_e {f : DE} {s s1 : DS} {b : Bool} (h : f s = .ok (.bl b) s1) : eNotT f s = .ok (.bl (!b)) s1 := by
  simp [h]
/-! ### primes -/
theorem prime_q {p : Nat} (h : Prm p) (hp : p < 2 ^ 15) (S : List Cell) : g_is_prime [.int p] S = .ok (.bl true) S := by
  have h2 := h.1
  have it : itR2 (aCons (eC (.int 2)) (aCons (eVar 0) (aNil))) ⟨[.val (.int p), .un], S⟩ = .ok (((List.range (p - 2)).map (· + 2)).map kD) ⟨[.val (.int p), .un], S⟩ := by
    have e : rngL 2 (p - 2) = ((List.range (p - 2)).map (· + 2)).map kD := by
      rw [rngL_map, List.map_map]
      refine List.map_congr_left fun i _ => ?_
      show D.int (2 + (i : Int)) = D.int ((i + 2 : Nat) : Int)
      refine congrArg D.int ?_
      omega
    rw [← e]
    exact itR2_of (i := 2) (j := (p : Int)) rfl (by omega) (by omega)
  have l := aLc_T1 (v := 1) (t := t_is_prime_0) (e := e_is_prime_0) (s0 := ⟨[.val (.int p), .un], S⟩) kD (fun e : Nat => decide (e * e ≤ p)) (fun e : Nat => D.bl (decide (p % e = 0))) it rfl (fun e he => by
    obtain ⟨k, hk, rfl⟩ := List.mem_map.mp he
    have hk := List.mem_range.mp hk
    refine ⟨?_, fun _ => ?_⟩
    · have q := mul_i (a := eVar 1) (b := eVar 1) (s := ⟨[.val (.int p), .val (kD (k + 2))], S⟩) (x := (k + 2 : Nat)) (y := (k + 2 : Nat)) rfl rfl (bdN (n := 20) (by omega)) (bdN (n := 20) (by omega)) (by decide)
      refine eB_of (op_2 q (b := eVar 0) rfl ?_)
      rw [r_iLe]
      refine congrArg some (congrArg D.bl (decide_eq_decide.mpr ?_))
      rw [← Int.natCast_mul]
      generalize (k + 2) * (k + 2) = z
      omega
    · have q := mod_i (a := eVar 0) (b := eVar 1) (s := ⟨[.val (.int p), .val (kD (k + 2))], S⟩) (x := p) (y := k + 2) rfl rfl (by omega)
      refine op_2 q (b := eC (.int 0)) rfl ?_
      rw [eq_i]
      refine congrArg some (congrArg D.bl (decide_eq_decide.mpr ?_))
      generalize p % (k + 2) = z
      omega) (by rw [List.length_map, List.length_range]; omega)
  have a := bAny_map (fun e : Nat => decide (p % e = 0)) ((((List.range (p - 2)).map (· + 2))).filter fun e : Nat => decide (e * e ≤ p))
  have z : ((((List.range (p - 2)).map (· + 2))).filter fun e : Nat => decide (e * e ≤ p)).any (fun e : Nat => decide (p % e = 0)) = false := by
    rw [List.any_eq_false]
    intro e he
    obtain ⟨he, _⟩ := List.mem_filter.mp he
    obtain ⟨k, hk, rfl⟩ := List.mem_map.mp he
    have hk := List.mem_range.mp hk
    rw [decide_eq_false (h.2 (k + 2) (by omega) (by omega))]
    decide
  rw [z] at a
  have q := cb_1 (o := bAny) (frz_e l) a
  exact fn_rt (sl := [.val (.int p), .un]) rfl (ret_e (notT_e q))
/-! ### far paths -/
theorem far_loop {x y m p : Nat} {r : Int} (h : Prm p) (fr : Frm p) (hp : p < 2 ^ 15) (hm : m ≤ 30) (S : List Cell) : ∀ (l : List Nat) (f : Int) (x6 : Sl), (∀ d, d ∈ l → d ∈ dvs m) → ∃ x6', forL (gN 6) w_far_paths_0 (l.map kD) (sP x y m r (.val (.int p)) f x6 S) = .ok .nx (sP x y m r (.val (.int p)) (f + (l.map fun d => shr x y d r * (cb ((x + y) / d) (x / d) % p : Nat)).sum) x6' S)
  | [], f, x6, _ => ⟨x6, by simp⟩
  | d :: l, f, x6, hl => by
    obtain ⟨h1, h2⟩ := mem30 hm (hl d (List.mem_cons_self ..))
    obtain ⟨x6', e⟩ := far_loop h fr hp hm S l (f + shr x y d r * (cb ((x + y) / d) (x / d) % p : Nat)) (.val (kD d)) fun y hy => hl y (List.mem_cons_of_mem _ hy)
    refine ⟨x6', ?_⟩
    rw [List.map_cons, List.map_cons, List.sum_cons, ← Int.add_assoc]
    refine (for_1 (i := 6) (s := sP x y m r (.val (.int p)) f x6 S) (s1 := sP x y m r (.val (.int p)) (f + shr x y d r * (cb ((x + y) / d) (x / d) % p : Nat)) (.val (kD d)) S) ?_).trans e
    have q1 := call_x4 (g := g_share) (a := eVar 0) (b := eVar 1) (c := eVar 6) (k := eVar 3) (s := sP x y m r (.val (.int p)) f (.val (kD d)) S) rfl rfl rfl rfl (share_q h1 h2 r S)
    have q2 := div_i (x := x + y) (y := d) (b := eVar 6) (add_i (a := eVar 0) (b := eVar 1) (s := sP x y m r (.val (.int p)) f (.val (kD d)) S) (x := x) (y := y) rfl rfl) rfl (by omega) (pow9000 (by omega))
    have q3 := div_i (a := eVar 0) (b := eVar 6) (s := sP x y m r (.val (.int p)) f (.val (kD d)) S) (x := x) (y := d) rfl rfl (by omega) (pow9000 (by omega))
    have q4 := call_x3 (g := g_far_binomial) (c := eVar 4) q2 q3 rfl (fb_q (n := (x + y) / d) (k := x / d) h fr (by omega) S)
    have ml := Nat.mod_lt (cb ((x + y) / d) (x / d)) (show 0 < p by have := h.1; omega)
    have q5 := mul_i q1 q4 (bd_i (shr_le h1 h2 x y r)) (m := 50) (n := 20) (bdN (by omega)) (by omega)
    exact aug_i (i := 5) (s := sP x y m r (.val (.int p)) f (.val (kD d)) S) rfl q5
theorem far_q {x y m p : Nat} {r : Int} (h : Prm p) (fr : Frm p) (hp : p ≤ 5000) (hm : 1 ≤ m) (hm2 : m ≤ 30) (hmp : m % p ≠ 0) (hr : 0 ≤ r) (hr2 : r < m) (S : List Cell) : g_far_paths [.int x, .int y, .int m, .int r, .int p] S = .ok (.int (rst m x y r % p)) S := by
  have hp2 := h.1
  obtain ⟨s, hs⟩ : ∃ s : DS, s = ⟨[.val (.int x), .val (.int y), .val (.int m), .val (.int r), .val (.int p), .un, .un], S⟩ := ⟨_, rfl⟩
  have v0 : eVar 0 s = .ok (.int x) s := by subst hs; rfl
  have v1 : eVar 1 s = .ok (.int y) s := by subst hs; rfl
  have v2 : eVar 2 s = .ok (.int m) s := by subst hs; rfl
  have v3 : eVar 3 s = .ok (.int r) s := by subst hs; rfl
  have v4 : eVar 4 s = .ok (.int p) s := by subst hs; rfl
  have n1 : sExpr (eCall 2 g_need_whole (aCons (eFrz (aMax (aCons (eVar 0) (aCons (eVar 1) (aNil))))) (aCons (eC (.int 0)) (aNil)))) s = .ok .nx s := need_e (zs := [(x : Int), y]) (by subst hs; rfl) (by simp)
  have n2 : sExpr (eCall 2 g_need_whole (aCons (eFrz (aMax (aCons (eVar 2) (aNil)))) (aCons (eC (.int 1)) (aNil)))) s = .ok .nx s := need_e (zs := [(m : Int)]) (by subst hs; rfl) (by simp; omega)
  have n3 : sExpr (eCall 2 g_need_whole (aCons (eFrz (aMax (aCons (eVar 3) (aNil)))) (aCons (eC (.int 0)) (aNil)))) s = .ok .nx s := need_e (zs := [r]) (by subst hs; rfl) (by simp [hr])
  have n4 : sExpr (eCall 2 g_need_whole (aCons (eFrz (aMax (aCons (eVar 4) (aNil)))) (aCons (eC (.int 2)) (aNil)))) s = .ok .nx s := need_e (zs := [(p : Int)]) (by subst hs; rfl) (by simp; omega)
  have n5 : sExpr (eCall 4 g_need_rest (aCons (eVar 0) (aCons (eVar 1) (aCons (eVar 2) (aCons (eVar 3) (aNil)))))) s = .ok .nx s := ex_nx (call_x4 (g := g_need_rest) v0 v1 v2 v3 (rest_q (x := x) (y := y) (m := m) (r := r) (by omega) (by omega) (by omega) (by omega) hr hr2 s.st))
  have n6 : sIf (bOr (eB (eOp2 iGt (eVar 4) (eC (.int 5000)))) (bOr (bNot (eTru (eCall 1 g_is_prime (aCons (eVar 4) (aNil))))) (eB (eOp2 dEq (eOp2 iMod (eVar 2) (eVar 4)) (eC (.int 0)))))) (sRaise "BadNumber" [118, 97, 108, 117, 101] (aCons (eVar 4) (aNil))) (sPass) s = .ok .nx s := by
    have c1 : eB (eOp2 iGt (eVar 4) (eC (.int 5000))) s = .ok false s := eB_of (op_2 (b := eC (.int 5000)) v4 rfl (by rw [r_iGt, decide_eq_false (by omega)]))
    have c2 : bNot (eTru (eCall 1 g_is_prime (aCons (eVar 4) (aNil)))) s = .ok false s := not_e (tru_e (call_x1 (g := g_is_prime) v4 (prime_q h (by omega) s.st)))
    have c3 : eB (eOp2 dEq (eOp2 iMod (eVar 2) (eVar 4)) (eC (.int 0))) s = .ok false s := by
      refine eB_of (op_2 (mod_i v2 v4 (by omega)) (b := eC (.int 0)) rfl ?_)
      rw [eq_i, decide_eq_false (by omega)]
    exact if_f ((or_f c1).trans ((or_f c2).trans c3))
  subst hs
  obtain ⟨x6', e⟩ := far_loop (x := x) (y := y) (r := r) h fr (by omega) hm2 S (dvs m) 0 .un fun d h => h
  rw [Int.zero_add] at e
  have q4 := call_x1 (g := g_divisors) (a := eVar 2) (s := sP x y m r (.val (.int p)) 0 .un S) rfl (dvs_q (m := m) (by omega) S)
  have it : itSeq (eCall 1 g_divisors (aCons (eVar 2) (aNil))) (sP x y m r (.val (.int p)) 0 .un S) = .ok ((dvs m).map kD) (sP x y m r (.val (.int p)) 0 .un S) := by
    rw [r_itSeq, q4]; rfl
  -- the sum, by the prime
  have key : (((dvs m).map fun d => shr x y d r * (cb ((x + y) / d) (x / d) % p : Nat)).sum - m * rst m x y r) % p = 0 := by
    rw [← rst_sum hm (by omega) x y r]
    refine sum_mod p _ _ (fun d => ?_) _
    by_cases c : x % d + y % d < d
    · have hc : (x + y) / d = x / d + y / d := by
        have e1 := Nat.div_add_mod x d
        have e2 := Nat.div_add_mod y d
        have d0 : 0 < d := by omega
        rw [show x + y = d * (x / d + y / d) + (x % d + y % d) by rw [Nat.mul_add]; omega, Nat.mul_add_div (by omega), Nat.div_eq_of_lt c, Nat.add_zero]
      rw [hc, cp_cb, ← Int.mul_sub]
      refine Int.emod_eq_zero_of_dvd (Int.dvd_mul_of_dvd_right (Int.dvd_of_emod_eq_zero ?_))
      rw [← Int.emod_eq_emod_iff_emod_sub_eq_zero]
      have := Nat.mod_mod (cb (x / d + y / d) (x / d)) p
      omega
    · have z : shr x y d r = 0 := by unfold shr; rw [if_neg c]
      rw [z]; simp
  -- how great the sum may be does not matter
  obtain ⟨F, hF⟩ : ∃ F : Int, F = ((dvs m).map fun d => shr x y d r * (cb ((x + y) / d) (x / d) % p : Nat)).sum := ⟨_, rfl⟩
  have bF : Bd F 80 := by
    have hb : ∀ l : List Nat, (∀ d, d ∈ l → d ∈ dvs m) → ((l.map fun d => shr x y d r * (cb ((x + y) / d) (x / d) % p : Nat)).sum).natAbs ≤ l.length * 2 ^ 65 := fun l => by
      induction l with
      | nil => intro _; simp
      | cons d l ih =>
        intro hd
        obtain ⟨h1, h2⟩ := mem30 hm2 (hd d (List.mem_cons_self ..))
        have a := ih fun y hy => hd y (List.mem_cons_of_mem _ hy)
        have b := shr_le h1 h2 x y r
        have ml := Nat.mod_lt (cb ((x + y) / d) (x / d)) (show 0 < p by omega)
        rw [List.map_cons, List.sum_cons, List.length_cons]
        have t : (shr x y d r * ((cb ((x + y) / d) (x / d) % p : Nat) : Int)).natAbs ≤ 2 ^ 50 * 2 ^ 15 := by
          rw [Int.natAbs_mul, Int.natAbs_natCast]
          exact Nat.mul_le_mul (by omega) (by omega)
        omega
    have := hb (dvs m) fun d h => h
    have ll : (dvs m).length ≤ 30 := by
      refine Nat.le_trans (List.length_filter_le _ _) ?_
      rw [List.length_map, List.length_range]; omega
    rw [← hF] at this
    exact bd_i (by omega)
  rw [← hF] at e key
  have q5 := call_x2 (g := g_inverse) (a := eVar 2) (b := eVar 4) (s := sP x y m r (.val (.int p)) F x6' S) rfl rfl (inv_q m hp2 (by omega) S)
  have ml := Nat.mod_lt (m ^ (p - 2)) (show 0 < p by omega)
  have q6 := modI_i (y := p) (b := eVar 4) (mul_i (a := eVar 5) (s := sP x y m r (.val (.int p)) F x6' S) (x := F) rfl q5 bF (bdN (n := 20) (by omega)) (by decide)) rfl (by omega)
  rw [far_fin h fr hmp key] at q6
  exact fn_rt (sl := (sP x y m r (.val (.int p)) F x6' S).sl) rfl ((sq_nx n1).trans ((sq_nx n2).trans ((sq_nx n3).trans ((sq_nx n4).trans ((sq_nx n5).trans ((sq_nx n6).trans ((sq_nx (set_e (i := 5) (f := eC (.int 0)) rfl)).trans ((sq_nx (for_it it e)).trans (ret_e q6)))))))))
end W_k61
set_option maxRecDepth 100000
set_option maxHeartbeats 4000000
set_option exponentiation.threshold 4000
namespace W_k61
open DL QB
theorem ife_t {c : DT} {f g : DE} {s s1 : DS} (h : c s = .ok true s1) : eIf c f g s = f s1 := by
  unfold eIf; rw [h]; rfl
theorem ife_f {c : DT} {f g : DE} {s s1 : DS} (h : c s = .ok false s1) : eIf c f g s = g s1 := by
  unfold eIf; rw [h]; rfl
/-! ### the law's own ways to choose -/
abbrev sD (n k p f : Int) (x4 : Sl) (h l : Int) (x7 x8 x9 x10 x11 x12 : Sl) (S : List Cell) : DS := ⟨[.val (.int n), .val (.int k), .val (.int p), .val (.int f), x4, .val (.int h), .val (.int l), x7, x8, x9, x10, x11, x12], S⟩
theorem dc_over (n k f : Int) {p h l : Nat} (hp : 2 ≤ p) (hp2 : p < 2 ^ 20) (hh : h < p) (hl : l ≤ h) (x4 x10 x11 x12 x9 : Sl) (S : List Cell) : ∃ x9', forL (gN 9) w__law_digits_chosen_0 (rngL 0 l) (sD n k p f x4 h l (.val (.int 1)) (.val (.int 1)) x9 x10 x11 x12 S) = .ok .nx (sD n k p f x4 h l (.val (.int (fall h l % p : Nat))) (.val (.int (fac l % p : Nat))) x9' x10 x11 x12 S) := by
  have e1 : (1 : Int) = ((1 % p : Nat) : Int) := by rw [Nat.mod_eq_of_lt (by omega)]; rfl
  obtain ⟨s', e, x9', hs⟩ := for_inv (g := gN 9) (b := w__law_digits_chosen_0) (items := rngL 0 l) (s := sD n k p f x4 h l (.val (.int 1)) (.val (.int 1)) x9 x10 x11 x12 S)
    (fun i s => ∃ x9, s = sD n k p f x4 h l (.val (.int (fall h i % p : Nat))) (.val (.int (fac i % p : Nat))) x9 x10 x11 x12 S) ⟨x9, by rw [fall, fac, ← e1]⟩ (fun i d s hi hp' => by
      obtain ⟨x9, rfl⟩ := hp'
      obtain ⟨hi1, rfl⟩ := rngL_get hi
      have ml1 := Nat.mod_lt (fall h i) (show 0 < p by omega)
      have ml2 := Nat.mod_lt (fac i) (show 0 < p by omega)
      obtain ⟨s, hs⟩ : ∃ s, s = sD n k p f x4 h l (.val (.int (fall h i % p : Nat))) (.val (.int (fac i % p : Nat))) (.val (.int (0 + i))) x10 x11 x12 S := ⟨_, rfl⟩
      refine ⟨s, sD n k p f x4 h l (.val (.int (fall h (i + 1) % p : Nat))) (.val (.int (fac (i + 1) % p : Nat))) (.val (.int (0 + i))) x10 x11 x12 S, by subst hs; rfl, .inl ?_, _, rfl⟩
      subst hs
      have a1 := sub_i (a := eVar 5) (b := eVar 9) (s := sD n k p f x4 h l (.val (.int (fall h i % p : Nat))) (.val (.int (fac i % p : Nat))) (.val (.int (0 + i))) x10 x11 x12 S) (x := h) (y := 0 + i) rfl rfl
      rw [show (h : Int) - (0 + i) = ((h - i : Nat) : Int) by omega] at a1
      have a2 := mod_i (x := fall h i % p * (h - i)) (y := p) (b := eVar 2) (int_i (mul_i (a := eVar 7) (s := sD n k p f x4 h l (.val (.int (fall h i % p : Nat))) (.val (.int (fac i % p : Nat))) (.val (.int (0 + i))) x10 x11 x12 S) (x := (fall h i % p : Nat)) (y := (h - i : Nat)) rfl a1 (bdN (n := 20) (by omega)) (bdN (n := 20) (by omega)) (by decide))) rfl (by omega)
      rw [Nat.mod_mul_mod] at a2
      have b1 := add_i (a := eVar 9) (b := eC (.int 1)) (s := sD n k p f x4 h l (.val (.int (fall h (i + 1) % p : Nat))) (.val (.int (fac i % p : Nat))) (.val (.int (0 + i))) x10 x11 x12 S) (x := 0 + i) (y := 1) rfl rfl
      rw [show (0 : Int) + i + 1 = ((i + 1 : Nat) : Int) by omega] at b1
      have b2 := mod_i (x := fac i % p * (i + 1)) (y := p) (b := eVar 2) (int_i (mul_i (a := eVar 8) (s := sD n k p f x4 h l (.val (.int (fall h (i + 1) % p : Nat))) (.val (.int (fac i % p : Nat))) (.val (.int (0 + i))) x10 x11 x12 S) (x := (fac i % p : Nat)) (y := (i + 1 : Nat)) rfl b1 (bdN (n := 20) (by omega)) (bdN (n := 20) (by omega)) (by decide))) rfl (by omega)
      rw [Nat.mod_mul_mod] at b2
      exact (sq_nx (set_e (i := 7) a2)).trans (set_e (i := 8) b2))
  rw [rngL_len] at hs
  exact ⟨x9', by rw [e, hs]⟩
theorem dc_inv (n k f : Int) {p b : Nat} (h l : Int) (hp : 2 ≤ p) (hp2 : p < 2 ^ 13) (hb : b < p) (x4 x7 x8 x9 : Sl) (S : List Cell) : ∃ x9' x11 x12, forL (gN 9) w__law_digits_chosen_1 (rngL 0 13) (sD n k p f x4 h l x7 x8 x9 (.val (.int 1)) (.val (.int b)) (.val (.int (p - 2 : Nat))) S) = .ok .nx (sD n k p f x4 h l x7 x8 x9' (.val (.int (b ^ (p - 2) % p : Nat))) x11 x12 S) := by
  obtain ⟨s', e, x9', g, q, hs, hg, hq, he⟩ := for_inv (g := gN 9) (b := w__law_digits_chosen_1) (items := rngL 0 13) (s := sD n k p f x4 h l x7 x8 x9 (.val (.int 1)) (.val (.int b)) (.val (.int (p - 2 : Nat))) S)
    (fun i s => ∃ (x9 : Sl) (g q : Nat), s = sD n k p f x4 h l x7 x8 x9 (.val (.int g)) (.val (.int q)) (.val (.int ((p - 2) / 2 ^ i : Nat))) S ∧ g < p ∧ q < p ∧ g * q ^ ((p - 2) / 2 ^ i) % p = b ^ (p - 2) % p)
    ⟨x9, 1, b, by rw [Nat.pow_zero, Nat.div_one]; rfl, by omega, hb, by rw [Nat.pow_zero, Nat.div_one, Nat.one_mul]⟩ (fun i d s hi hp' => by
      obtain ⟨x9, g, q, rfl, hg, hq, he⟩ := hp'
      obtain ⟨hi1, rfl⟩ := rngL_get hi
      generalize hL : (p - 2) / 2 ^ i = L at he
      have hL2 : (p - 2) / 2 ^ (i + 1) = L / 2 := by rw [Nat.pow_succ, ← Nat.div_div_eq_div_mul, hL]
      have bg := bdN (x := g) (n := 20) (by omega)
      have bq := bdN (x := q) (n := 20) (by omega)
      have m1 : eB (eOp2 dEq (eOp2 iMod (eVar 12) (eC (.int 2))) (eC (.int 1))) (sD n k p f x4 h l x7 x8 (.val (.int (0 + i))) (.val (.int g)) (.val (.int q)) (.val (.int L)) S) = .ok (decide (L % 2 = 1)) (sD n k p f x4 h l x7 x8 (.val (.int (0 + i))) (.val (.int g)) (.val (.int q)) (.val (.int L)) S) := by
        refine eB_of (op_2 (mod_i (a := eVar 12) (b := eC (.int 2)) (s := sD n k p f x4 h l x7 x8 (.val (.int (0 + i))) (.val (.int g)) (.val (.int q)) (.val (.int L)) S) (x := L) (y := 2) rfl rfl (by decide)) (b := eC (.int 1)) rfl ?_)
        rw [eq_i]
        refine congrArg some (congrArg D.bl (decide_eq_decide.mpr ?_))
        omega
      have s1 : sSet 10 (eIf (eB (eOp2 dEq (eOp2 iMod (eVar 12) (eC (.int 2))) (eC (.int 1)))) (eOp2 iMod (eCB (bInt) (aCons (eOp2 dMul (eVar 10) (eVar 11)) (aNil))) (eVar 2)) (eVar 10)) (sD n k p f x4 h l x7 x8 (.val (.int (0 + i))) (.val (.int g)) (.val (.int q)) (.val (.int L)) S) = .ok .nx (sD n k p f x4 h l x7 x8 (.val (.int (0 + i))) (.val (.int (if L % 2 = 1 then g * q % p else g : Nat))) (.val (.int q)) (.val (.int L)) S) := by
        have q : eIf (eB (eOp2 dEq (eOp2 iMod (eVar 12) (eC (.int 2))) (eC (.int 1)))) (eOp2 iMod (eCB (bInt) (aCons (eOp2 dMul (eVar 10) (eVar 11)) (aNil))) (eVar 2)) (eVar 10) (sD n k p f x4 h l x7 x8 (.val (.int (0 + i))) (.val (.int g)) (.val (.int q)) (.val (.int L)) S) = .ok (.int (if L % 2 = 1 then g * q % p else g : Nat)) (sD n k p f x4 h l x7 x8 (.val (.int (0 + i))) (.val (.int g)) (.val (.int q)) (.val (.int L)) S) := by
          by_cases o : L % 2 = 1
          · rw [decide_eq_true o] at m1
            rw [if_pos o, ife_t m1]
            exact mod_i (x := g * q) (y := p) (b := eVar 2) (int_i (mul_i (a := eVar 10) (b := eVar 11) (s := sD n k p f x4 h l x7 x8 (.val (.int (0 + i))) (.val (.int g)) (.val (.int q)) (.val (.int L)) S) rfl rfl bg bq (by decide))) rfl (by omega)
          · rw [decide_eq_false o] at m1
            rw [if_neg o, ife_f m1]; rfl
        exact set_e (i := 10) q
      have s2 := fun g' : Nat => par_e (i := 11) (j := 12) (mod_i (x := q * q) (y := p) (b := eVar 2) (int_i (mul_i (a := eVar 11) (b := eVar 11) (s := sD n k p f x4 h l x7 x8 (.val (.int (0 + i))) (.val (.int g')) (.val (.int q)) (.val (.int L)) S) rfl rfl bq bq (by decide))) rfl (by omega)) (div_i (a := eVar 12) (b := eC (.int 2)) (s := sD n k p f x4 h l x7 x8 (.val (.int (0 + i))) (.val (.int g')) (.val (.int q)) (.val (.int L)) S) (x := L) (y := 2) rfl rfl (by decide) (by decide +kernel))
      refine ⟨sD n k p f x4 h l x7 x8 (.val (.int (0 + i))) (.val (.int g)) (.val (.int q)) (.val (.int L)) S, _, rfl, .inl ((sq_nx s1).trans (s2 _)), _, if L % 2 = 1 then g * q % p else g, q * q % p, by rw [hL2]; rfl, ?_, Nat.mod_lt _ (by omega), ?_⟩
      · split
        · exact Nat.mod_lt _ (by omega)
        · exact hg
      · rw [hL2, pow_step, he])
  rw [rngL_len] at hs he
  have z : (p - 2) / 2 ^ 13 = 0 := Nat.div_eq_of_lt (by omega)
  rw [z, Nat.pow_zero, Nat.mul_one, Nat.mod_eq_of_lt hg] at he
  subst he
  exact ⟨x9', _, _, by rw [e, hs]⟩
theorem dc_step {p n k f : Nat} (h : Prm p) (fr : Frm p) (hp2 : p < 2 ^ 13) (hf : f < p) (hk : k ≤ n) (x4 x5 x6 x7 x8 x9 x10 x11 x12 : Sl) (S : List Cell) :
    (∃ y5 y6 y7 y8 y9 y10 y11 y12, w__law_digits_chosen_2 ⟨[.val (.int n), .val (.int k), .val (.int p), .val (.int f), x4, x5, x6, x7, x8, x9, x10, x11, x12], S⟩ = .ok .nx ⟨[.val (.int (n / p : Nat)), .val (.int (k / p : Nat)), .val (.int p), .val (.int (f * cb (n % p) (k % p) % p : Nat)), x4, y5, y6, y7, y8, y9, y10, y11, y12], S⟩) ∨
    (cb (n % p) (k % p) = 0 ∧ ∃ sl, w__law_digits_chosen_2 ⟨[.val (.int n), .val (.int k), .val (.int p), .val (.int f), x4, x5, x6, x7, x8, x9, x10, x11, x12], S⟩ = .ok (.rt (.int 0)) ⟨sl, S⟩) := by
  have hp := h.1
  have mn := Nat.mod_lt n (show 0 < p by omega)
  have mk := Nat.mod_lt k (show 0 < p by omega)
  have hd : p < 2 ^ 9000 := Nat.lt_of_lt_of_le hp2 (Nat.pow_le_pow_right (by decide) (by decide))
  have p1 : ∀ R, sSeq (sPar 5 6 (aCons (eOp2 iMod (eCB (bInt) (aCons (eVar 0) (aNil))) (eVar 2)) (aCons (eOp2 iMod (eCB (bInt) (aCons (eVar 1) (aNil))) (eVar 2)) (aNil)))) R ⟨[.val (.int n), .val (.int k), .val (.int p), .val (.int f), x4, x5, x6, x7, x8, x9, x10, x11, x12], S⟩ = R (sD n k p f x4 (n % p : Nat) (k % p : Nat) x7 x8 x9 x10 x11 x12 S) := fun R =>
    sq_par (mod_i (b := eVar 2) (int_i (a := eVar 0) (s := ⟨[.val (.int n), .val (.int k), .val (.int p), .val (.int f), x4, x5, x6, x7, x8, x9, x10, x11, x12], S⟩) (x := n) rfl) rfl (by omega)) (mod_i (b := eVar 2) (int_i (a := eVar 1) (s := ⟨[.val (.int n), .val (.int k), .val (.int p), .val (.int f), x4, x5, x6, x7, x8, x9, x10, x11, x12], S⟩) (x := k) rfl) rfl (by omega))
  have p2 : ∀ R, sSeq (sPar 0 1 (aCons (eOp2 iDiv (eVar 0) (eVar 2)) (aCons (eOp2 iDiv (eVar 1) (eVar 2)) (aNil)))) R (sD n k p f x4 (n % p : Nat) (k % p : Nat) x7 x8 x9 x10 x11 x12 S) = R (sD (n / p : Nat) (k / p : Nat) p f x4 (n % p : Nat) (k % p : Nat) x7 x8 x9 x10 x11 x12 S) := fun R =>
    sq_par (div_i (a := eVar 0) (b := eVar 2) (s := sD n k p f x4 (n % p : Nat) (k % p : Nat) x7 x8 x9 x10 x11 x12 S) (x := n) (y := p) rfl rfl (by omega) hd) (div_i (a := eVar 1) (b := eVar 2) (s := sD n k p f x4 (n % p : Nat) (k % p : Nat) x7 x8 x9 x10 x11 x12 S) (x := k) (y := p) rfl rfl (by omega) hd)
  generalize hH : n % p = H at *
  generalize hL : k % p = L at *
  generalize n / p = N at *
  generalize k / p = K at *
  by_cases g : H < L
  · have i1 : eB (eOp2 iGt (eVar 6) (eVar 5)) (sD N K p f x4 H L x7 x8 x9 x10 x11 x12 S) = .ok true (sD N K p f x4 H L x7 x8 x9 x10 x11 x12 S) :=
      eB_of (op_2 (a := eVar 6) (b := eVar 5) (s := sD N K p f x4 H L x7 x8 x9 x10 x11 x12 S) rfl rfl (by rw [r_iGt, decide_eq_true (by omega)]))
    exact .inr ⟨cb_none g, _, (p1 _).trans ((p2 _).trans (sq_rt ((if_t i1).trans (ret_e rfl))))⟩
  · have i1 : eB (eOp2 iGt (eVar 6) (eVar 5)) (sD N K p f x4 H L x7 x8 x9 x10 x11 x12 S) = .ok false (sD N K p f x4 H L x7 x8 x9 x10 x11 x12 S) :=
      eB_of (op_2 (a := eVar 6) (b := eVar 5) (s := sD N K p f x4 H L x7 x8 x9 x10 x11 x12 S) rfl rfl (by rw [r_iGt, decide_eq_false (by omega)]))
    have s4 : sAsgT (eTup (aCons (eC (.int 1)) (aCons (eC (.int 1)) (aNil)))) (gT 2 (gsCons (gN 7) (gsCons (gN 8) (gsNil)))) (sD N K p f x4 H L x7 x8 x9 x10 x11 x12 S) = .ok .nx (sD N K p f x4 H L (.val (.int 1)) (.val (.int 1)) x9 x10 x11 x12 S) := rfl
    obtain ⟨y9, e5⟩ := dc_over N K f (p := p) (h := H) (l := L) hp (by omega) mn (by omega) x4 x10 x11 x12 x9 S
    have it5 : itR1 (aCons (eVar 6) (aNil)) (sD N K p f x4 H L (.val (.int 1)) (.val (.int 1)) x9 x10 x11 x12 S) = .ok (rngL 0 L) (sD N K p f x4 H L (.val (.int 1)) (.val (.int 1)) x9 x10 x11 x12 S) := by
      rw [rngL0]
      exact itR1_n (n := L) rfl (by omega)
    have s5 := for_it it5 e5
    have s6 : sPar3 10 11 12 (aCons (eC (.int 1)) (aCons (eVar 8) (aCons (eOp2 iSub (eVar 2) (eC (.int 2))) (aNil)))) (sD N K p f x4 H L (.val (.int (fall H L % p : Nat))) (.val (.int (fac L % p : Nat))) y9 x10 x11 x12 S) = .ok .nx (sD N K p f x4 H L (.val (.int (fall H L % p : Nat))) (.val (.int (fac L % p : Nat))) y9 (.val (.int 1)) (.val (.int (fac L % p : Nat))) (.val (.int (p - 2 : Nat))) S) := by
      have q2 := sub_i (a := eVar 2) (b := eC (.int 2)) (s := sD N K p f x4 H L (.val (.int (fall H L % p : Nat))) (.val (.int (fac L % p : Nat))) y9 x10 x11 x12 S) (x := p) (y := 2) rfl rfl
      rw [show (p : Int) - 2 = ((p - 2 : Nat) : Int) by omega] at q2
      have q0 : eC (.int 1) (sD N K p f x4 H L (.val (.int (fall H L % p : Nat))) (.val (.int (fac L % p : Nat))) y9 x10 x11 x12 S) = .ok (.int 1) (sD N K p f x4 H L (.val (.int (fall H L % p : Nat))) (.val (.int (fac L % p : Nat))) y9 x10 x11 x12 S) := rfl
      have q1 : eVar 8 (sD N K p f x4 H L (.val (.int (fall H L % p : Nat))) (.val (.int (fac L % p : Nat))) y9 x10 x11 x12 S) = .ok (.int (fac L % p : Nat)) (sD N K p f x4 H L (.val (.int (fall H L % p : Nat))) (.val (.int (fac L % p : Nat))) y9 x10 x11 x12 S) := rfl
      unfold sPar3
      rw [r_aCons, q0, Res.bind_ok, r_aCons, q1, Res.bind_ok, r_aCons, q2]
      rfl
    obtain ⟨z9, z11, z12, e7⟩ := dc_inv N K f (p := p) (b := fac L % p) H L hp hp2 (Nat.mod_lt _ (by omega)) x4 (.val (.int (fall H L % p : Nat))) (.val (.int (fac L % p : Nat))) y9 S
    have it7 : itR1 (aCons (eC (.int 13)) (aNil)) (sD N K p f x4 H L (.val (.int (fall H L % p : Nat))) (.val (.int (fac L % p : Nat))) y9 (.val (.int 1)) (.val (.int (fac L % p : Nat))) (.val (.int (p - 2 : Nat))) S) = .ok (rngL 0 13) (sD N K p f x4 H L (.val (.int (fall H L % p : Nat))) (.val (.int (fac L % p : Nat))) y9 (.val (.int 1)) (.val (.int (fac L % p : Nat))) (.val (.int (p - 2 : Nat))) S) := by
      rw [rngL0]
      exact itR1_n (n := 13) rfl (by decide)
    have s7 := for_it it7 e7
    have m1 := Nat.mod_lt (fall H L) (show 0 < p by omega)
    have m2 := Nat.mod_lt ((fac L % p) ^ (p - 2)) (show 0 < p by omega)
    have q8 := mul_i (b := eVar 10) (mul_i (a := eVar 3) (b := eVar 7) (s := sD N K p f x4 H L (.val (.int (fall H L % p : Nat))) (.val (.int (fac L % p : Nat))) z9 (.val (.int ((fac L % p) ^ (p - 2) % p : Nat))) z11 z12 S) (x := f) (y := (fall H L % p : Nat)) rfl rfl (bdN (n := 20) (by omega)) (bdN (n := 20) (by omega)) (by decide)) rfl (by
        rw [← Int.natCast_mul]
        exact bdN (n := 40) (Nat.lt_of_le_of_lt (Nat.mul_le_mul (show f ≤ 2 ^ 13 by omega) (show fall H L % p ≤ 2 ^ 13 by omega)) (by decide))) (bdN (x := (fac L % p) ^ (p - 2) % p) (n := 20) (by omega)) (by decide)
    rw [← Int.natCast_mul, ← Int.natCast_mul] at q8
    have q9 := mod_i (y := p) (b := eVar 2) (int_i q8) rfl (by omega)
    have fin : f * (fall H L % p) * ((fac L % p) ^ (p - 2) % p) % p = f * cb H L % p := by
      have o := over_inv (n := H) (s := L) h fr (by omega) (by omega)
      rw [Nat.mul_assoc, Nat.mul_mod, o, ← Nat.mul_mod]
    rw [fin] at q9
    exact .inl ⟨_, _, _, _, _, _, _, _, (p1 _).trans ((p2 _).trans ((sq_nx (if_f i1)).trans ((sq_nx s4).trans ((sq_nx s5).trans ((sq_nx s6).trans ((sq_nx s7).trans (set_e (i := 3) q9)))))))⟩
theorem dc_loop {p : Nat} (h : Prm p) (fr : Frm p) (hp2 : p < 2 ^ 13) (S : List Cell) : ∀ (its : List D) (n k f : Nat) (x4 x5 x6 x7 x8 x9 x10 x11 x12 : Sl), n < p ^ its.length → k ≤ n → f < p →
    ∃ sl, seqK (forL (gN 4) w__law_digits_chosen_2 its ⟨[.val (.int n), .val (.int k), .val (.int p), .val (.int f), x4, x5, x6, x7, x8, x9, x10, x11, x12], S⟩) (sRet (eVar 3)) = .ok (.rt (.int (f * cb n k % p : Nat))) ⟨sl, S⟩
  | [], n, k, f, x4, x5, x6, x7, x8, x9, x10, x11, x12, hn, hk, hf => by
    rw [List.length_nil, Nat.pow_zero] at hn
    obtain rfl : n = 0 := by omega
    obtain rfl : k = 0 := by omega
    rw [cb_0, Nat.mul_one, Nat.mod_eq_of_lt hf]
    exact ⟨_, rfl⟩
  | d :: its, n, k, f, x4, x5, x6, x7, x8, x9, x10, x11, x12, hn, hk, hf => by
    have L := lucas h n k
    rcases dc_step h fr hp2 hf hk (.val d) x5 x6 x7 x8 x9 x10 x11 x12 S with ⟨y5, y6, y7, y8, y9, y10, y11, y12, w⟩ | ⟨z, sl, w⟩
    · obtain ⟨sl, e⟩ := dc_loop h fr hp2 S its (n / p) (k / p) (f * cb (n % p) (k % p) % p) (.val d) y5 y6 y7 y8 y9 y10 y11 y12 (by
        rw [List.length_cons, Nat.pow_succ] at hn
        exact Nat.div_lt_of_lt_mul (by rw [Nat.mul_comm]; exact hn)) (Nat.div_le_div_right hk) (Nat.mod_lt _ (by have := h.1; omega))
      refine ⟨sl, ?_⟩
      rw [for_1 (i := 4) (s := ⟨[.val (.int n), .val (.int k), .val (.int p), .val (.int f), x4, x5, x6, x7, x8, x9, x10, x11, x12], S⟩) w, e]
      have : f * cb (n % p) (k % p) % p * cb (n / p) (k / p) % p = f * cb n k % p := by
        rw [Nat.mod_mul_mod, Nat.mul_assoc, Nat.mul_comm (cb (n % p) (k % p)), Nat.mul_mod, ← L, ← Nat.mul_mod]
      rw [this]
    · refine ⟨sl, ?_⟩
      rw [for_rt (i := 4) (s := ⟨[.val (.int n), .val (.int k), .val (.int p), .val (.int f), x4, x5, x6, x7, x8, x9, x10, x11, x12], S⟩) w]
      rw [z, Nat.mul_zero, Nat.zero_mod] at L
      rw [Nat.mul_mod, L, Nat.mul_zero, Nat.zero_mod]
      rfl
theorem dc_q {n k p : Nat} (h : Prm p) (fr : Frm p) (hp2 : p < 2 ^ 13) (hn : n < 2 ^ 200) (hk : k ≤ n) (S : List Cell) : g__law_digits_chosen [.int n, .int k, .int p] S = .ok (.int (cb n k % p : Nat)) S := by
  have hp := h.1
  obtain ⟨sl, e⟩ := dc_loop h fr hp2 S (rngL 0 200) n k 1 .un .un .un .un .un .un .un .un .un (by
    rw [rngL_len]
    exact Nat.lt_of_lt_of_le hn (Nat.pow_le_pow_left hp 200)) hk (by omega)
  rw [Nat.one_mul] at e
  have it : itR1 (aCons (eC (.int 200)) (aNil)) ⟨[.val (.int n), .val (.int k), .val (.int p), .val (.int (1 : Nat)), .un, .un, .un, .un, .un, .un, .un, .un, .un], S⟩ = .ok (rngL 0 200) ⟨[.val (.int n), .val (.int k), .val (.int p), .val (.int (1 : Nat)), .un, .un, .un, .un, .un, .un, .un, .un, .un], S⟩ := by
    rw [rngL0]
    exact itR1_n (n := 200) rfl (by decide)
  have s2 : sSeq (sFor (itR1 (aCons (eC (.int 200)) (aNil))) (gN 4) (w__law_digits_chosen_2)) (sRet (eVar 3)) ⟨[.val (.int n), .val (.int k), .val (.int p), .val (.int (1 : Nat)), .un, .un, .un, .un, .un, .un, .un, .un, .un], S⟩ = .ok (.rt (.int (cb n k % p : Nat))) ⟨sl, S⟩ := by
    rw [q_sSeq, for_it it rfl]; exact e
  exact fn_rt (sl := sl) rfl ((sq_nx (set_e (i := 3) (f := eC (.int 1)) (s := ⟨[.val (.int n), .val (.int k), .val (.int p), .un, .un, .un, .un, .un, .un, .un, .un, .un, .un], S⟩) rfl)).trans s2)
end W_k61
set_option maxRecDepth 100000
set_option maxHeartbeats 4000000
set_option exponentiation.threshold 4000
namespace W_k61
open DL QB
/-! ### draws -/
theorem ipow_le {i j : Nat} (h : i ≤ j) : (10000000 : Int) ^ i ≤ 10000000 ^ j := by
  have h1 : ((10000000 ^ i : Nat) : Int) = 10000000 ^ i := by simp
  have h2 : ((10000000 ^ j : Nat) : Int) = 10000000 ^ j := by simp
  rw [← h1, ← h2]
  exact Int.ofNat_le.mpr (Nat.pow_le_pow_right (by decide) h)
theorem number_ok {n : Nat} {S : List Cell} {f : Int} (hS : Pen n S) (hn : n + 20 < 2 ^ 20) (h1 : 1 ≤ f) (h2 : f ≤ 4) : ∃ d S', g__law_number [.cell 0, .int f] S = .ok (.int d) S' ∧ 0 ≤ d ∧ Bd d 96 ∧ Pen (n + 6) S' := by
  obtain ⟨c, S1, e1, c0, c1, P1⟩ := draw_ok hS (by omega) (p := f) (by omega) (by omega)
  have hk : ∃ k : Nat, (1 + c).toNat = k ∧ k ≤ 4 ∧ 1 + c = (k : Int) := ⟨(1 + c).toNat, rfl, by omega, by omega⟩
  obtain ⟨k, hk1, hk2, hk3⟩ := hk
  obtain ⟨s', e2, v, x, hs, v0, v1, hP⟩ := for_inv (g := gN 3) (b := w__law_number_0) (items := rngL 0 k) (s := ⟨[.val (.cell 0), .val (.int f), .val (.int 0), .un], S1⟩)
    (fun i s => ∃ (v : Int) (x : Sl), s.sl = [.val (.cell 0), .val (.int f), .val (.int v), x] ∧ 0 ≤ v ∧ v < 10000000 ^ i ∧ Pen (n + 1 + i) s.st)
    ⟨0, .un, rfl, by omega, by decide, P1⟩ (fun i d s hi hp => by
      obtain ⟨v, x, hs, v0, v1, hP⟩ := hp
      obtain ⟨sl, st⟩ := s
      simp only at hs hP
      subst hs
      obtain ⟨hi1, rfl⟩ := rngL_get hi
      obtain ⟨c, S2, e, c0, c1, P2⟩ := draw_ok hP (by omega) (p := 10000000) (by decide) (by decide)
      have hi2 : i ≤ 4 := by omega
      have hle : (10000000 : Int) ^ i ≤ 10000000 ^ 4 := ipow_le hi2
      have bv : Bd v 96 := ⟨by
        have : (10000000 : Int) ^ 4 < 2 ^ 96 := by decide
        omega⟩
      have m : mulOk v 10000000 = true := mulOk_bd (by decide)
      refine ⟨_, ⟨[.val (.cell 0), .val (.int f), .val (.int (v * 10000000 + c)), .val (.int (0 + i))], S2⟩, rfl, .inl ?_, v * 10000000 + c, _, rfl, by omega, ?_, P2⟩
      · simp [w__law_number_0, e, m]
      · rw [Int.pow_succ]
        omega)
  rw [rngL_len] at v1 hP
  obtain ⟨sl, st⟩ := s'
  simp only at hs hP
  subst hs
  have hle : (10000000 : Int) ^ k ≤ 10000000 ^ 4 := ipow_le hk2
  have hlt : (10000000 : Int) ^ 4 < 2 ^ 96 := by decide
  refine ⟨v, st, ?_, v0, ⟨by omega⟩, hP.mono (by omega)⟩
  have q : -4611686018427387904 ≤ (1 + c) ∧ 1 + c < 4611686018427387904 := by omega
  simp [g__law_number, b__law_number, fnD, e1, hk1, q, e2]
theorem great_ok {n : Nat} {S : List Cell} (hS : Pen n S) (hn : n + 30 < 2 ^ 20) : ∃ d S', g__law_great [.cell 0] S = .ok (.int d) S' ∧ 0 ≤ d ∧ Bd d 96 ∧ Pen (n + 8) S' := by
  obtain ⟨t, S1, e1, t0, t1, P1⟩ := draw_ok hS (by omega) (p := 4) (by decide) (by decide)
  by_cases h : t = 0
  · obtain ⟨d, S2, e2, d0, d1, P2⟩ := draw_ok P1 (by omega) (p := 9) (by decide) (by decide)
    exact ⟨d, S2, by simp [g__law_great, b__law_great, fnD, e1, h, e2], d0, ⟨by omega⟩, P2.mono (by omega)⟩
  · obtain ⟨d, S2, e2, d0, d1, P2⟩ := number_ok P1 (by omega) (f := 4) (by decide) (by decide)
    exact ⟨d, S2, by simp [g__law_great, b__law_great, fnD, e1, h, e2], d0, d1, P2.mono (by omega)⟩
theorem parted_ok {n : Nat} {S : List Cell} (hS : Pen n S) (hn : n + 30 < 2 ^ 20) : ∃ (m p : Nat) (S' : List Cell), g__law_parted [.cell 0] S = .ok (.tup [.int m, .int p]) S' ∧ 1 ≤ m ∧ m ≤ 30 ∧ Prm p ∧ Frm p ∧ p < 500 ∧ m % p ≠ 0 ∧ Pen (n + 2) S' := by
  obtain ⟨c, S1, e1, c0, c1, P1⟩ := draw_ok hS (by omega) (p := 30) (by decide) (by decide)
  obtain ⟨m, hm⟩ : ∃ m : Nat, 1 + c = (m : Int) := ⟨(1 + c).toNat, by omega⟩
  have q1 := add_i (a := eC (.int 1)) (x := 1) (s := ⟨[.val (.cell 0), .un, .un, .un], S⟩) rfl (call_x2 (g := g__law_draw) (a := eVar 0) (b := eC (.int 30)) (s := ⟨[.val (.cell 0), .un, .un, .un], S⟩) rfl rfl e1)
  rw [hm] at q1
  have s1 := set_e (i := 1) q1
  have s1 : _ = Res.ok Out.nx (⟨[.val (.cell 0), .val (.int m), .un, .un], S1⟩ : DS) := s1
  have l := aLc_T1 (v := 3) (t := t__law_parted_0) (e := e__law_parted_0) (it := itSeq (eFrz (aMax (aCons (eC (.int 2)) (aCons (eC (.int 3)) (aCons (eC (.int 5)) (aCons (eC (.int 7)) (aCons (eC (.int 11)) (aCons (eC (.int 13)) (aCons (eC (.int 29)) (aCons (eC (.int 31)) (aCons (eC (.int 97)) (aCons (eC (.int 499)) (aNil))))))))))))) ) (s := ⟨[.val (.cell 0), .val (.int m), .un, .un], S1⟩) (s0 := ⟨[.val (.cell 0), .val (.int m), .un, .un], S1⟩) (l := [2, 3, 5, 7, 11, 13, 29, 31, 97, 499]) kD (fun p : Nat => decide (m % p ≠ 0)) kD rfl rfl (fun p hp => by
    have p0 : 0 < p := by have := (prm_ok p hp).1.1; omega
    refine ⟨?_, fun _ => rfl⟩
    have q := mod_i (a := eVar 1) (b := eVar 3) (s := ⟨[.val (.cell 0), .val (.int m), .un, .val (kD p)], S1⟩) (x := m) (y := p) rfl rfl p0
    refine eB_of (op_2 q (b := eC (.int 0)) rfl ?_)
    rw [ne_i]
    refine congrArg some (congrArg D.bl ?_)
    generalize m % p = z
    by_cases c : z = 0
    · subst c; rfl
    · rw [decide_eq_false (by omega), decide_eq_true c]; rfl) (by decide)
  have s2 := set_o (i := 2) l
  obtain ⟨L, hL⟩ : ∃ L, L = List.filter (fun p : Nat => decide (m % p ≠ 0)) [2, 3, 5, 7, 11, 13, 29, 31, 97, 499] := ⟨_, rfl⟩
  rw [← hL] at s2
  have s2 : _ = Res.ok Out.nx (⟨[.val (.cell 0), .val (.int m), .ol (L.map kD), .un], S1⟩ : DS) := s2
  have v2 : eVar 2 ⟨[.val (.cell 0), .val (.int m), .ol (L.map kD), .un], S1⟩ = .ok (.lst (L.map kD)) ⟨[.val (.cell 0), .val (.int m), .val (.lst (L.map kD)), .un], S1⟩ := var_o (i := 2) rfl
  have m31 : 31 ∈ L := by
    rw [hL]
    refine List.mem_filter.mpr ⟨by simp, decide_eq_true ?_⟩
    rw [Nat.mod_eq_of_lt (by omega)]; omega
  have lL : L.length ≤ 10 := by rw [hL]; exact List.length_filter_le _ _
  obtain ⟨d, S2, e2, md, P2⟩ := pick_ok (xs := L.map kD) P1 (by omega) (by intro z; rw [List.map_eq_nil_iff] at z; rw [z] at m31; cases m31) (by rw [List.length_map]; omega)
  obtain ⟨p, hp, rfl⟩ := List.mem_map.mp md
  rw [hL] at hp
  obtain ⟨h1, h2⟩ := List.mem_filter.mp hp
  have q3 := tup_2 (a := eVar 1) (s := ⟨[.val (.cell 0), .val (.int m), .ol (L.map kD), .un], S1⟩) rfl (call_x2 (g := g__law_pick) (a := eVar 0) (b := eVar 2) (s := ⟨[.val (.cell 0), .val (.int m), .ol (L.map kD), .un], S1⟩) rfl v2 e2)
  refine ⟨m, p, S2, ?_, by omega, by omega, (prm_ok p h1).1, (prm_ok p h1).2, ?_, of_decide_eq_true h2, P2⟩
  · exact fn_rt (sl := [.val (.cell 0), .val (.int m), .val (.lst (L.map kD)), .un]) rfl ((sq_nx s1).trans ((sq_nx s2).trans (ret_e q3)))
  · have : ∀ p, p ∈ [2, 3, 5, 7, 11, 13, 29, 31, 97, 499] → p < 500 := by decide
    exact this p h1
/-! ### by the last step and by the first one -/
theorem call_5 {g : DFn} {a b c k l : DE} {s : DS} {x y z u v d : D} {S1 : List Cell} (ha : a s = .ok x s) (hb : b s = .ok y s) (hc : c s = .ok z s) (hk : k s = .ok u s) (hl : l s = .ok v s) (e : g [x, y, z, u, v] s.st = .ok d S1) : eCall 5 g (aCons a (aCons b (aCons c (aCons k (aCons l aNil))))) s = .ok d ⟨s.sl, S1⟩ := by
  simp [ha, hb, hc, hk, hl, e]
section
variable {m p : Nat} (h : Prm p) (fr : Frm p) (hp : p < 500) (hm : 1 ≤ m) (hm2 : m ≤ 30) (hmp : m % p ≠ 0)
include h fr hp hm hm2 hmp
theorem far_e {a b c k l : DE} {s : DS} {x y : Nat} {r : Int} (ha : a s = .ok (.int x) s) (hb : b s = .ok (.int y) s) (hc : c s = .ok (.int m) s) (hk : k s = .ok (.int r) s) (hl : l s = .ok (.int p) s) (hr : 0 ≤ r) (hr2 : r < m) : eCall 5 g_far_paths (aCons a (aCons b (aCons c (aCons k (aCons l aNil))))) s = .ok (.int (rst m x y r % p)) s :=
  call_5 ha hb hc hk hl (far_q h fr (by omega) hm hm2 hmp hr hr2 s.st)
theorem stepped_q {x y : Nat} {r : Int} (hr : 0 ≤ r) (hr2 : r < m) (S : List Cell) : g__law_is_stepped [.int (x + 1 : Nat), .int (y + 1 : Nat), .int m, .int r, .int p] S = .ok (.bl true) S := by
  have p0 : 0 < p := by have := h.1; omega
  obtain ⟨s, hs⟩ : ∃ s : DS, s = ⟨[.val (.int (x + 1 : Nat)), .val (.int (y + 1 : Nat)), .val (.int m), .val (.int r), .val (.int p), .un, .un, .un], S⟩ := ⟨_, rfl⟩
  have v0 : ∀ x5 x6 x7, eVar 0 ⟨[.val (.int (x + 1 : Nat)), .val (.int (y + 1 : Nat)), .val (.int m), .val (.int r), .val (.int p), x5, x6, x7], S⟩ = .ok (.int (x + 1 : Nat)) ⟨[.val (.int (x + 1 : Nat)), .val (.int (y + 1 : Nat)), .val (.int m), .val (.int r), .val (.int p), x5, x6, x7], S⟩ := fun _ _ _ => rfl
  have v1 : ∀ x5 x6 x7, eVar 1 ⟨[.val (.int (x + 1 : Nat)), .val (.int (y + 1 : Nat)), .val (.int m), .val (.int r), .val (.int p), x5, x6, x7], S⟩ = .ok (.int (y + 1 : Nat)) ⟨[.val (.int (x + 1 : Nat)), .val (.int (y + 1 : Nat)), .val (.int m), .val (.int r), .val (.int p), x5, x6, x7], S⟩ := fun _ _ _ => rfl
  have v2 : ∀ x5 x6 x7, eVar 2 ⟨[.val (.int (x + 1 : Nat)), .val (.int (y + 1 : Nat)), .val (.int m), .val (.int r), .val (.int p), x5, x6, x7], S⟩ = .ok (.int m) ⟨[.val (.int (x + 1 : Nat)), .val (.int (y + 1 : Nat)), .val (.int m), .val (.int r), .val (.int p), x5, x6, x7], S⟩ := fun _ _ _ => rfl
  have v3 : ∀ x5 x6 x7, eVar 3 ⟨[.val (.int (x + 1 : Nat)), .val (.int (y + 1 : Nat)), .val (.int m), .val (.int r), .val (.int p), x5, x6, x7], S⟩ = .ok (.int r) ⟨[.val (.int (x + 1 : Nat)), .val (.int (y + 1 : Nat)), .val (.int m), .val (.int r), .val (.int p), x5, x6, x7], S⟩ := fun _ _ _ => rfl
  have v4 : ∀ x5 x6 x7, eVar 4 ⟨[.val (.int (x + 1 : Nat)), .val (.int (y + 1 : Nat)), .val (.int m), .val (.int r), .val (.int p), x5, x6, x7], S⟩ = .ok (.int p) ⟨[.val (.int (x + 1 : Nat)), .val (.int (y + 1 : Nat)), .val (.int m), .val (.int r), .val (.int p), x5, x6, x7], S⟩ := fun _ _ _ => rfl
  have s1 := set_e (i := 5) (far_e h fr hp hm hm2 hmp (v0 .un .un .un) (v1 _ _ _) (v2 _ _ _) (v3 _ _ _) (v4 _ _ _) hr hr2)
  obtain ⟨A, hA⟩ : ∃ A, A = rst m (x + 1) (y + 1) r % (p : Int) := ⟨_, rfl⟩
  rw [← hA] at s1
  have sb : ∀ (z : Int) (x5 x6 x7 : Sl) (i : Nat) (w : Int), eVar i ⟨[.val (.int (x + 1 : Nat)), .val (.int (y + 1 : Nat)), .val (.int m), .val (.int r), .val (.int p), x5, x6, x7], S⟩ = .ok (.int w) ⟨[.val (.int (x + 1 : Nat)), .val (.int (y + 1 : Nat)), .val (.int m), .val (.int r), .val (.int p), x5, x6, x7], S⟩ → w - 1 = z → eOp2 iSub (eVar i) (eC (.int 1)) ⟨[.val (.int (x + 1 : Nat)), .val (.int (y + 1 : Nat)), .val (.int m), .val (.int r), .val (.int p), x5, x6, x7], S⟩ = .ok (.int z) ⟨[.val (.int (x + 1 : Nat)), .val (.int (y + 1 : Nat)), .val (.int m), .val (.int r), .val (.int p), x5, x6, x7], S⟩ := fun z x5 x6 x7 i w e1 e2 => by
    rw [← e2]
    exact sub_i (b := eC (.int 1)) e1 rfl
  have n1 := Int.emod_nonneg (r - ((x + 1 : Nat) : Int)) (show (m : Int) ≠ 0 by omega)
  have n2 := Int.emod_lt_of_pos (r - ((x + 1 : Nat) : Int)) (show (0 : Int) < m by omega)
  have n3 := Int.emod_nonneg (r - ((y + 1 : Nat) : Int)) (show (m : Int) ≠ 0 by omega)
  have n4 := Int.emod_lt_of_pos (r - ((y + 1 : Nat) : Int)) (show (0 : Int) < m by omega)
  have s2 := set_e (i := 6) (add_i (far_e h fr hp hm hm2 hmp (sb x (.val (.int A)) .un .un 0 _ (v0 _ _ _) (by omega)) (v1 _ _ _) (v2 _ _ _) (v3 _ _ _) (v4 _ _ _) hr hr2)
    (far_e h fr hp hm hm2 hmp (v0 (.val (.int A)) .un .un) (sb y _ _ _ 1 _ (v1 _ _ _) (by omega)) (v2 _ _ _) (modI_i (y := m) (int_i (sub_i (v3 _ _ _) (v0 _ _ _))) (v2 _ _ _) (by omega)) (v4 _ _ _) n1 n2))
  rw [rst_mod] at s2
  obtain ⟨B, hB⟩ : ∃ B, B = rst m x (y + 1) r % (p : Int) + rst m (x + 1) y (r - ((x + 1 : Nat) : Int)) % (p : Int) := ⟨_, rfl⟩
  rw [← hB] at s2
  have s3 := set_e (i := 7) (add_i (far_e h fr hp hm hm2 hmp (sb x (.val (.int A)) (.val (.int B)) .un 0 _ (v0 _ _ _) (by omega)) (v1 _ _ _) (v2 _ _ _) (modI_i (y := m) (int_i (sub_i (v3 _ _ _) (v1 _ _ _))) (v2 _ _ _) (by omega)) (v4 _ _ _) n3 n4)
    (far_e h fr hp hm hm2 hmp (v0 (.val (.int A)) (.val (.int B)) .un) (sb y _ _ _ 1 _ (v1 _ _ _) (by omega)) (v2 _ _ _) (v3 _ _ _) (v4 _ _ _) hr hr2))
  rw [rst_mod] at s3
  obtain ⟨C, hC⟩ : ∃ C, C = rst m x (y + 1) (r - ((y + 1 : Nat) : Int)) % (p : Int) + rst m (x + 1) y r % (p : Int) := ⟨_, rfl⟩
  rw [← hC] at s3
  have eB' : A = B % p := by
    rw [hA, hB, rst, pth_A, Int.add_emod]
  have eC' : A = C % p := by
    rw [hA, hC, rst, pth_B _ x y r rfl, Int.add_emod]
  have A0 := Int.emod_nonneg (rst m (x + 1) (y + 1) r) (show (p : Int) ≠ 0 by omega)
  have A1 := Int.emod_lt_of_pos (rst m (x + 1) (y + 1) r) (show (0 : Int) < p by omega)
  rw [← hA] at A0 A1
  have v5 : eVar 5 ⟨[.val (.int (x + 1 : Nat)), .val (.int (y + 1 : Nat)), .val (.int m), .val (.int r), .val (.int p), .val (.int A), .val (.int B), .val (.int C)], S⟩ = .ok (.int A) ⟨[.val (.int (x + 1 : Nat)), .val (.int (y + 1 : Nat)), .val (.int m), .val (.int r), .val (.int p), .val (.int A), .val (.int B), .val (.int C)], S⟩ := rfl
  have t1 := op_2 (o := dEq) v5 (modI_i (a := eVar 6) (x := B) (y := p) rfl (v4 (.val (.int A)) (.val (.int B)) (.val (.int C))) p0) (by rw [eq_i, decide_eq_true eB'])
  have t2 := op_2 (o := dEq) v5 (modI_i (a := eVar 7) (x := C) (y := p) rfl (v4 (.val (.int A)) (.val (.int B)) (.val (.int C))) p0) (by rw [eq_i, decide_eq_true eC'])
  have t3 : eChain iLe iLt (eC (.int 0)) (eVar 5) (eVar 4) ⟨[.val (.int (x + 1 : Nat)), .val (.int (y + 1 : Nat)), .val (.int m), .val (.int r), .val (.int p), .val (.int A), .val (.int B), .val (.int C)], S⟩ = .ok (.bl true) ⟨[.val (.int (x + 1 : Nat)), .val (.int (y + 1 : Nat)), .val (.int m), .val (.int r), .val (.int p), .val (.int A), .val (.int B), .val (.int C)], S⟩ := by
    have q1 : iLe (.int 0) (.int A) = some (.bl true) := by rw [r_iLe, decide_eq_true A0]
    have q2 : iLt (.int A) (.int p) = some (.bl true) := by rw [r_iLt, decide_eq_true A1]
    have q0 : eC (.int 0) ⟨[.val (.int (x + 1 : Nat)), .val (.int (y + 1 : Nat)), .val (.int m), .val (.int r), .val (.int p), .val (.int A), .val (.int B), .val (.int C)], S⟩ = .ok (.int 0) ⟨[.val (.int (x + 1 : Nat)), .val (.int (y + 1 : Nat)), .val (.int m), .val (.int r), .val (.int p), .val (.int A), .val (.int B), .val (.int C)], S⟩ := rfl
    simp only [r_eChain, q0, Res.bind_ok, v5, q1, v4, q2]
  exact fn_rt rfl ((sq_nx s1).trans ((sq_nx s2).trans ((sq_nx s3).trans (ret_e (andT_t t1 (andT_t t2 t3))))))
end
end W_k61
set_option maxRecDepth 100000
set_option maxHeartbeats 4000000
set_option exponentiation.threshold 4000
namespace W_k61
open DL QB
/-! ### one turn of the law -/
abbrev lT (N : D) (x2 x3 x4 x5 x6 x7 x8 x9 x10 x11 x12 x13 : Sl) (S : List Cell) : DS := ⟨[.val N, .val (.cell 0), x2, x3, x4, x5, x6, x7, x8, x9, x10, x11, x12, x13, .un], S⟩
section
variable {m p : Nat} (h : Prm p) (fr : Frm p) (hp : p < 500) (hm : 1 ≤ m) (hm2 : m ≤ 30) (hmp : m % p ≠ 0)
include h fr hp hm hm2 hmp
theorem total_q {N : D} {x2 x8 x9 x10 x11 x12 x13 : Sl} {x y : Nat} {r : Int} (S : List Cell) : aLc [14] (itR1 (aCons (eVar 3) (aNil))) (gN 14) (bYes) (e_law_0) (lT N x2 (.val (.int m)) (.val (.int p)) (.val (.int x)) (.val (.int y)) (.val (.int r)) x8 x9 x10 x11 x12 x13 S) = .ok ((List.range m).map fun k : Nat => D.int (rst m x y k % p)) (lT N x2 (.val (.int m)) (.val (.int p)) (.val (.int x)) (.val (.int y)) (.val (.int r)) x8 x9 x10 x11 x12 x13 S) :=
  aLc_M1 (v := 14) (e := e_law_0) (s0 := lT N x2 (.val (.int m)) (.val (.int p)) (.val (.int x)) (.val (.int y)) (.val (.int r)) x8 x9 x10 x11 x12 x13 S) kD (fun k : Nat => D.int (rst m x y k % p)) (itR1_n (n := m) rfl (by omega)) rfl (fun k hk => by
    have := List.mem_range.mp hk
    exact far_e h fr hp hm hm2 hmp rfl rfl rfl rfl rfl (by omega) (by omega)) (by rw [List.length_range]; omega)
theorem total_m (x y : Nat) : ((List.range m).map fun k : Nat => rst m x y k % (p : Int)).sum % p = (cb (x + y) x % p : Nat) := by
  have a := sum_mod p (fun k : Nat => rst m x y k % (p : Int)) (fun k : Nat => rst m x y k) (fun d => by
    rw [← Int.emod_eq_emod_iff_emod_sub_eq_zero, Int.emod_emod_of_dvd _ (Int.dvd_refl _)]) (List.range m)
  rw [← Int.emod_eq_emod_iff_emod_sub_eq_zero] at a
  rw [a, S_list, rst_all (by omega), cp_cb, Int.natCast_emod]
theorem rest_steps {N : D} {x2 x8 x9 x10 x11 x12 x13 : Sl} {x y : Nat} {r : Int} (hx : 1 ≤ x) (hy : 1 ≤ y) (bx : x < 2 ^ 98) (by' : y < 2 ^ 98) (hr : 0 ≤ r) (hr2 : r < m) {n : Nat} {S : List Cell} (hS : Pen n S) (hn : n + 40 < 2 ^ 20) :
    ∃ y8 y9 y10 y11 y12 y13 S', (sSeq (sIf (bNot (eTru (eCall 5 g__law_is_stepped (aCons (eVar 5) (aCons (eVar 6) (aCons (eVar 3) (aCons (eVar 7) (aCons (eVar 4) (aNil))))))))) (sRet (eC (.bl false))) (sPass))
    (sSeq (sSet 8 (eOp2 iMod (eCB (bInt) (aCons (eOp2 iSub (eOp2 dMul (eVar 5) (eVar 6)) (eVar 7)) (aNil))) (eVar 3)))
    (sSeq (sIf (eB (eOp2 dNe (eCall 5 g_far_paths (aCons (eVar 5) (aCons (eVar 6) (aCons (eVar 3) (aCons (eVar 7) (aCons (eVar 4) (aNil))))))) (eCall 5 g_far_paths (aCons (eVar 6) (aCons (eVar 5) (aCons (eVar 3) (aCons (eVar 8) (aCons (eVar 4) (aNil))))))))) (sRet (eC (.bl false))) (sPass))
    (sSeq (sSet 9 (eCB (bSum) (aCons (eFrz (aLc [14] (itR1 (aCons (eVar 3) (aNil))) (gN 14) (bYes) (e_law_0))) (aNil))))
    (sSeq (sIf (eB (eOp2 dNe (eOp2 iMod (eVar 9) (eVar 4)) (eCall 3 g__law_digits_chosen (aCons (eOp2 dAdd (eVar 5) (eVar 6)) (aCons (eVar 5) (aCons (eVar 4) (aNil))))))) (sRet (eC (.bl false))) (sPass))
    (sSeq (sIf (bOr (eB (eOp2 dNe (eCall 5 g_far_paths (aCons (eVar 5) (aCons (eC (.int 0)) (aCons (eVar 3) (aCons (eVar 7) (aCons (eVar 4) (aNil))))))) (eCB (bInt) (aCons (eOp2 dEq (eVar 7) (eC (.int 0))) (aNil))))) (eB (eOp2 dNe (eCall 5 g_far_paths (aCons (eC (.int 0)) (aCons (eVar 6) (aCons (eVar 3) (aCons (eVar 7) (aCons (eVar 4) (aNil))))))) (eCB (bInt) (aCons (eOp2 dEq (eVar 7) (eC (.int 0))) (aNil)))))) (sRet (eC (.bl false))) (sPass))
    (sSeq (sIf (eB (eOp2 dNe (eCall 5 g_far_paths (aCons (eVar 5) (aCons (eC (.int 1)) (aCons (eVar 3) (aCons (eVar 7) (aCons (eVar 4) (aNil))))))) (eOp2 iMod (eIf (eB (eOp2 iGe (eVar 5) (eVar 7))) (eOp2 dAdd (eOp2 iDiv (eOp2 iSub (eVar 5) (eVar 7)) (eVar 3)) (eC (.int 1))) (eC (.int 0))) (eVar 4)))) (sRet (eC (.bl false))) (sPass))
    (sSeq (sPar 10 11 (aCons (eOp2 dAdd (eC (.int 1)) (eCall 2 g__law_draw (aCons (eVar 1) (aCons (eCall 2 g__law_pick (aCons (eVar 1) (aCons (eFrz (aMax (aCons (eC (.int 60)) (aCons (eC (.int 300)) (aCons (eC (.int 2000)) (aNil)))))) (aNil)))) (aNil))))) (aCons (eOp2 dAdd (eC (.int 1)) (eCall 2 g__law_draw (aCons (eVar 1) (aCons (eCall 2 g__law_pick (aCons (eVar 1) (aCons (eFrz (aMax (aCons (eC (.int 60)) (aCons (eC (.int 300)) (aCons (eC (.int 2000)) (aNil)))))) (aNil)))) (aNil))))) (aNil))))
    (sSeq (sSet 12 (eCall 4 g_paths_by_rest (aCons (eVar 10) (aCons (eVar 11) (aCons (eVar 3) (aCons (eVar 7) (aNil)))))))
    (sSeq (sIf (eB (eOp2 dNe (eOp2 iMod (eVar 12) (eVar 4)) (eCall 5 g_far_paths (aCons (eVar 10) (aCons (eVar 11) (aCons (eVar 3) (aCons (eVar 7) (aCons (eVar 4) (aNil))))))))) (sRet (eC (.bl false))) (sPass))
    (sSeq (sSet 13 (eCall 4 g_paths_by_rest (aCons (eOp2 iSub (eVar 10) (eC (.int 1))) (aCons (eVar 11) (aCons (eVar 3) (aCons (eVar 7) (aNil)))))))
    (sIf (eB (eOp2 dNe (eVar 12) (eOp2 dAdd (eVar 13) (eCall 4 g_paths_by_rest (aCons (eVar 10) (aCons (eOp2 iSub (eVar 11) (eC (.int 1))) (aCons (eVar 3) (aCons (eOp2 iMod (eCB (bInt) (aCons (eOp2 iSub (eVar 7) (eVar 10)) (aNil))) (eVar 3)) (aNil))))))))) (sRet (eC (.bl false))) (sPass))))))))))))) (lT N x2 (.val (.int m)) (.val (.int p)) (.val (.int x)) (.val (.int y)) (.val (.int r)) x8 x9 x10 x11 x12 x13 S) = .ok .nx (lT N x2 (.val (.int m)) (.val (.int p)) (.val (.int x)) (.val (.int y)) (.val (.int r)) y8 y9 y10 y11 y12 y13 S') ∧ Pen (n + 4) S' := by
  have p0 : 0 < p := by have := h.1; omega
  obtain ⟨xa, rfl⟩ : ∃ k, x = k + 1 := ⟨x - 1, by omega⟩
  obtain ⟨ya, rfl⟩ : ∃ k, y = k + 1 := ⟨y - 1, by omega⟩
  have f0 : ∀ (s : DS) (b : Bool), bNot (eTru (eC (.bl b))) s = .ok (!b) s := fun _ _ => rfl
  -- 1
  have w1 : sIf (bNot (eTru (eCall 5 g__law_is_stepped (aCons (eVar 5) (aCons (eVar 6) (aCons (eVar 3) (aCons (eVar 7) (aCons (eVar 4) (aNil))))))))) (sRet (eC (.bl false))) (sPass) (lT N x2 (.val (.int m)) (.val (.int p)) (.val (.int (xa + 1 : Nat))) (.val (.int (ya + 1 : Nat))) (.val (.int r)) x8 x9 x10 x11 x12 x13 S) = .ok .nx (lT N x2 (.val (.int m)) (.val (.int p)) (.val (.int (xa + 1 : Nat))) (.val (.int (ya + 1 : Nat))) (.val (.int r)) x8 x9 x10 x11 x12 x13 S) :=
    if_f (not_e (tru_e (call_5 (g := g__law_is_stepped) (a := eVar 5) (b := eVar 6) (c := eVar 3) (k := eVar 7) (l := eVar 4) (s := lT N x2 (.val (.int m)) (.val (.int p)) (.val (.int (xa + 1 : Nat))) (.val (.int (ya + 1 : Nat))) (.val (.int r)) x8 x9 x10 x11 x12 x13 S) rfl rfl rfl rfl rfl (stepped_q h fr hp hm hm2 hmp hr hr2 S))))
  obtain ⟨x, hx'⟩ : ∃ x, x = xa + 1 := ⟨_, rfl⟩
  obtain ⟨y, hy'⟩ : ∃ y, y = ya + 1 := ⟨_, rfl⟩
  rw [← hx', ← hy'] at w1 ⊢
  rw [← hx'] at bx
  rw [← hy'] at by'
  -- 2
  have bxi := bdN (x := x) (n := 100) (by omega)
  have byi := bdN (x := y) (n := 100) (by omega)
  have u := modI_i (y := m) (b := eVar 3) (int_i (sub_i (b := eVar 7) (y := r) (mul_i (a := eVar 5) (b := eVar 6) (s := lT N x2 (.val (.int m)) (.val (.int p)) (.val (.int x)) (.val (.int y)) (.val (.int r)) x8 x9 x10 x11 x12 x13 S) rfl rfl bxi byi (by decide)) rfl)) rfl (by omega)
  have w2 := set_e (i := 8) u
  have n1 := Int.emod_nonneg ((x : Int) * y - r) (show (m : Int) ≠ 0 by omega)
  have n2 := Int.emod_lt_of_pos ((x : Int) * y - r) (show (0 : Int) < m by omega)
  obtain ⟨t, ht⟩ : ∃ t, t = ((x : Int) * y - r) % (m : Int) := ⟨_, rfl⟩
  rw [← ht] at w2 n1 n2
  have w2 : _ = Res.ok Out.nx (lT N x2 (.val (.int m)) (.val (.int p)) (.val (.int x)) (.val (.int y)) (.val (.int r)) (.val (.int t)) x9 x10 x11 x12 x13 S) := w2
  -- 3
  obtain ⟨s3, hs3⟩ : ∃ s, s = lT N x2 (.val (.int m)) (.val (.int p)) (.val (.int x)) (.val (.int y)) (.val (.int r)) (.val (.int t)) x9 x10 x11 x12 x13 S := ⟨_, rfl⟩
  have c3 : sIf (eB (eOp2 dNe (eCall 5 g_far_paths (aCons (eVar 5) (aCons (eVar 6) (aCons (eVar 3) (aCons (eVar 7) (aCons (eVar 4) (aNil))))))) (eCall 5 g_far_paths (aCons (eVar 6) (aCons (eVar 5) (aCons (eVar 3) (aCons (eVar 8) (aCons (eVar 4) (aNil))))))))) (sRet (eC (.bl false))) (sPass) s3 = .ok .nx s3 := by
    have a := far_e h fr hp hm hm2 hmp (a := eVar 5) (b := eVar 6) (c := eVar 3) (k := eVar 7) (l := eVar 4) (s := s3) (x := x) (y := y) (r := r) (by subst hs3; rfl) (by subst hs3; rfl) (by subst hs3; rfl) (by subst hs3; rfl) (by subst hs3; rfl) hr hr2
    have b := far_e h fr hp hm hm2 hmp (a := eVar 6) (b := eVar 5) (c := eVar 3) (k := eVar 8) (l := eVar 4) (s := s3) (x := y) (y := x) (r := t) (by subst hs3; rfl) (by subst hs3; rfl) (by subst hs3; rfl) (by subst hs3; rfl) (by subst hs3; rfl) n1 n2
    refine if_f (eB_of (op_2 (o := dNe) a b ?_))
    rw [ne_i, ht, rst_mod, rst, pth_turn (at0_neg m) x y r, decide_eq_true rfl]; rfl
  subst hs3
  -- 4
  have w4 := set_e (i := 9) (cb_1 (frz_e (total_q h fr hp hm hm2 hmp (N := N) (x2 := x2) (x := x) (y := y) (r := r) (x8 := .val (.int t)) (x9 := x9) (x10 := x10) (x11 := x11) (x12 := x12) (x13 := x13) S)) (by
    have := sum_i ((List.range m).map fun k : Nat => rst m x y k % (p : Int))
    rw [List.map_map] at this
    exact this))
  have T := total_m h fr hp hm hm2 hmp x y
  obtain ⟨z, hz⟩ : ∃ z, z = ((List.range m).map fun k : Nat => rst m x y k % (p : Int)).sum := ⟨_, rfl⟩
  rw [← hz] at w4 T
  have w4 : _ = Res.ok Out.nx (lT N x2 (.val (.int m)) (.val (.int p)) (.val (.int x)) (.val (.int y)) (.val (.int r)) (.val (.int t)) (.val (.int z)) x10 x11 x12 x13 S) := w4
  obtain ⟨s5, hs5⟩ : ∃ s, s = lT N x2 (.val (.int m)) (.val (.int p)) (.val (.int x)) (.val (.int y)) (.val (.int r)) (.val (.int t)) (.val (.int z)) x10 x11 x12 x13 S := ⟨_, rfl⟩
  have v3 : eVar 3 s5 = .ok (.int m) s5 := by subst hs5; rfl
  have v4 : eVar 4 s5 = .ok (.int p) s5 := by subst hs5; rfl
  have v5 : eVar 5 s5 = .ok (.int x) s5 := by subst hs5; rfl
  have v6 : eVar 6 s5 = .ok (.int y) s5 := by subst hs5; rfl
  have v7 : eVar 7 s5 = .ok (.int r) s5 := by subst hs5; rfl
  have v9 : eVar 9 s5 = .ok (.int z) s5 := by subst hs5; rfl
  -- 5
  have c5 : sIf (eB (eOp2 dNe (eOp2 iMod (eVar 9) (eVar 4)) (eCall 3 g__law_digits_chosen (aCons (eOp2 dAdd (eVar 5) (eVar 6)) (aCons (eVar 5) (aCons (eVar 4) (aNil))))))) (sRet (eC (.bl false))) (sPass) s5 = .ok .nx s5 := by
    have a := modI_i (y := p) v9 v4 p0
    have b := call_x3 (g := g__law_digits_chosen) (add_i v5 v6) v5 v4 (dc_q (n := x + y) (k := x) h fr (by omega) (by omega) (by omega) s5.st)
    refine if_f (eB_of (op_2 (o := dNe) a b ?_))
    rw [ne_i, T, decide_eq_true rfl]; rfl
  -- 6
  have e0 : eCB (bInt) (aCons (eOp2 dEq (eVar 7) (eC (.int 0))) (aNil)) s5 = .ok (.int (if r = 0 then 1 else 0)) s5 := by
    refine cb_1 (op_2 (o := dEq) (b := eC (.int 0)) v7 rfl (eq_i r 0)) ?_
    rw [r_bInt_b]
    by_cases c : r = 0
    · rw [decide_eq_true c, if_pos c]; rfl
    · rw [decide_eq_false c, if_neg c]; rfl
  have one : ((if r = 0 then 1 else 0 : Int)) % (p : Int) = if r = 0 then 1 else 0 := by
    have := h.1
    split
    · exact Int.emod_eq_of_lt (by decide) (by omega)
    · simp
  have c6 : sIf (bOr (eB (eOp2 dNe (eCall 5 g_far_paths (aCons (eVar 5) (aCons (eC (.int 0)) (aCons (eVar 3) (aCons (eVar 7) (aCons (eVar 4) (aNil))))))) (eCB (bInt) (aCons (eOp2 dEq (eVar 7) (eC (.int 0))) (aNil))))) (eB (eOp2 dNe (eCall 5 g_far_paths (aCons (eC (.int 0)) (aCons (eVar 6) (aCons (eVar 3) (aCons (eVar 7) (aCons (eVar 4) (aNil))))))) (eCB (bInt) (aCons (eOp2 dEq (eVar 7) (eC (.int 0))) (aNil)))))) (sRet (eC (.bl false))) (sPass) s5 = .ok .nx s5 := by
    have a := far_e h fr hp hm hm2 hmp (b := eC (.int 0)) (y := 0) v5 rfl v3 v7 v4 hr hr2
    have b := far_e h fr hp hm hm2 hmp (a := eC (.int 0)) (x := 0) rfl v6 v3 v7 v4 hr hr2
    rw [rst, pth_r0, at0_small hr hr2, one] at a
    rw [rst, pth_0, at0_small hr hr2, one] at b
    have a' := eB_of (op_2 (o := dNe) a e0 (by rw [ne_i, decide_eq_true rfl]))
    have b' := eB_of (op_2 (o := dNe) b e0 (by rw [ne_i, decide_eq_true rfl]))
    exact if_f ((or_f a').trans b')
  -- 7
  have c7 : sIf (eB (eOp2 dNe (eCall 5 g_far_paths (aCons (eVar 5) (aCons (eC (.int 1)) (aCons (eVar 3) (aCons (eVar 7) (aCons (eVar 4) (aNil))))))) (eOp2 iMod (eIf (eB (eOp2 iGe (eVar 5) (eVar 7))) (eOp2 dAdd (eOp2 iDiv (eOp2 iSub (eVar 5) (eVar 7)) (eVar 3)) (eC (.int 1))) (eC (.int 0))) (eVar 4)))) (sRet (eC (.bl false))) (sPass) s5 = .ok .nx s5 := by
    have a := far_e h fr hp hm hm2 hmp (b := eC (.int 1)) (y := 1) v5 rfl v3 v7 v4 hr hr2
    rw [rst_line (by omega) hr hr2] at a
    have g : eB (eOp2 iGe (eVar 5) (eVar 7)) s5 = .ok (decide (r ≤ x)) s5 := eB_of (op_2 (o := iGe) v5 v7 rfl)
    have b : eIf (eB (eOp2 iGe (eVar 5) (eVar 7))) (eOp2 dAdd (eOp2 iDiv (eOp2 iSub (eVar 5) (eVar 7)) (eVar 3)) (eC (.int 1))) (eC (.int 0)) s5 = .ok (.int (if r ≤ x then ((x : Int) - r) / m + 1 else 0)) s5 := by
      by_cases c : r ≤ x
      · rw [decide_eq_true c] at g
        rw [ife_t g, if_pos c]
        exact add_i (b := eC (.int 1)) (divI_i (sub_i v5 v7) v3 (by omega) (pow9000 (by omega))) rfl
      · rw [decide_eq_false c] at g
        rw [ife_f g, if_neg c]; rfl
    exact if_f (eB_of (op_2 (o := dNe) a (modI_i b v4 p0) (by rw [ne_i, decide_eq_true rfl]; rfl)))
  subst hs5
  -- 8
  have pk : ∀ {n : Nat} {S : List Cell} (hS : Pen n S) (hn : n + 30 < 2 ^ 20) (y8 y9 y10 y11 y12 y13 : Sl), ∃ (a : Nat) (S' : List Cell), eOp2 dAdd (eC (.int 1)) (eCall 2 g__law_draw (aCons (eVar 1) (aCons (eCall 2 g__law_pick (aCons (eVar 1) (aCons (eFrz (aMax (aCons (eC (.int 60)) (aCons (eC (.int 300)) (aCons (eC (.int 2000)) (aNil)))))) (aNil)))) (aNil)))) (lT N x2 (.val (.int m)) (.val (.int p)) (.val (.int x)) (.val (.int y)) (.val (.int r)) y8 y9 y10 y11 y12 y13 S) = .ok (.int (a + 1 : Nat)) (lT N x2 (.val (.int m)) (.val (.int p)) (.val (.int x)) (.val (.int y)) (.val (.int r)) y8 y9 y10 y11 y12 y13 S') ∧ a < 2000 ∧ Pen (n + 2) S' := fun {n S} hS hn y8 y9 y10 y11 y12 y13 => by
    obtain ⟨d, S1, e1, md, P1⟩ := pick_ok (xs := [.int 60, .int 300, .int 2000]) hS (by omega) (by simp) (by decide)
    obtain ⟨c, rfl, c0, c1⟩ : ∃ c : Int, d = .int c ∧ 0 < c ∧ c ≤ 2000 := by
      simp at md
      rcases md with rfl | rfl | rfl <;> exact ⟨_, rfl, by decide, by decide⟩
    obtain ⟨e, S2, e2, e0, e3, P2⟩ := draw_ok P1 (by omega) (p := c) c0 (by omega)
    refine ⟨e.toNat, S2, ?_, by omega, P2⟩
    have q1 := call_x2 (g := g__law_pick) (a := eVar 1) (b := eFrz (aMax (aCons (eC (.int 60)) (aCons (eC (.int 300)) (aCons (eC (.int 2000)) (aNil)))))) (s := lT N x2 (.val (.int m)) (.val (.int p)) (.val (.int x)) (.val (.int y)) (.val (.int r)) y8 y9 y10 y11 y12 y13 S) rfl rfl e1
    have q2 := add_i (a := eC (.int 1)) (x := 1) (s := lT N x2 (.val (.int m)) (.val (.int p)) (.val (.int x)) (.val (.int y)) (.val (.int r)) y8 y9 y10 y11 y12 y13 S) rfl (call_x2 (g := g__law_draw) (a := eVar 1) (s := lT N x2 (.val (.int m)) (.val (.int p)) (.val (.int x)) (.val (.int y)) (.val (.int r)) y8 y9 y10 y11 y12 y13 S) rfl q1 e2)
    rw [show 1 + e = ((e.toNat + 1 : Nat) : Int) by omega] at q2
    exact q2
  obtain ⟨a, S1, a1, a2, P1⟩ := pk hS (show n + 30 < 2 ^ 20 by omega) (.val (.int t)) (.val (.int z)) x10 x11 x12 x13
  obtain ⟨b, S2, b1, b2, P2⟩ := pk P1 (show n + 2 + 30 < 2 ^ 20 by omega) (.val (.int t)) (.val (.int z)) x10 x11 x12 x13
  have w8 := par_e (i := 10) (j := 11) a1 b1
  have w8 : _ = Res.ok Out.nx (lT N x2 (.val (.int m)) (.val (.int p)) (.val (.int x)) (.val (.int y)) (.val (.int r)) (.val (.int t)) (.val (.int z)) (.val (.int (a + 1 : Nat))) (.val (.int (b + 1 : Nat))) x12 x13 S2) := w8
  -- 9
  have w9 := set_e (i := 12) (call_x4 (g := g_paths_by_rest) (a := eVar 10) (b := eVar 11) (c := eVar 3) (k := eVar 7) (s := lT N x2 (.val (.int m)) (.val (.int p)) (.val (.int x)) (.val (.int y)) (.val (.int r)) (.val (.int t)) (.val (.int z)) (.val (.int (a + 1 : Nat))) (.val (.int (b + 1 : Nat))) x12 x13 S2) rfl rfl rfl rfl (near_q (x := a + 1) (y := b + 1) (by omega) (by omega) hm hm2 hr hr2 S2))
  obtain ⟨M, hM⟩ : ∃ M, M = rst m (a + 1) (b + 1) r := ⟨_, rfl⟩
  rw [← hM] at w9
  have w9 : _ = Res.ok Out.nx (lT N x2 (.val (.int m)) (.val (.int p)) (.val (.int x)) (.val (.int y)) (.val (.int r)) (.val (.int t)) (.val (.int z)) (.val (.int (a + 1 : Nat))) (.val (.int (b + 1 : Nat))) (.val (.int M)) x13 S2) := w9
  -- 10
  have c10 : sIf (eB (eOp2 dNe (eOp2 iMod (eVar 12) (eVar 4)) (eCall 5 g_far_paths (aCons (eVar 10) (aCons (eVar 11) (aCons (eVar 3) (aCons (eVar 7) (aCons (eVar 4) (aNil))))))))) (sRet (eC (.bl false))) (sPass) (lT N x2 (.val (.int m)) (.val (.int p)) (.val (.int x)) (.val (.int y)) (.val (.int r)) (.val (.int t)) (.val (.int z)) (.val (.int (a + 1 : Nat))) (.val (.int (b + 1 : Nat))) (.val (.int M)) x13 S2) = .ok .nx (lT N x2 (.val (.int m)) (.val (.int p)) (.val (.int x)) (.val (.int y)) (.val (.int r)) (.val (.int t)) (.val (.int z)) (.val (.int (a + 1 : Nat))) (.val (.int (b + 1 : Nat))) (.val (.int M)) x13 S2) := by
    have q := far_e h fr hp hm hm2 hmp (a := eVar 10) (b := eVar 11) (c := eVar 3) (k := eVar 7) (l := eVar 4) (s := lT N x2 (.val (.int m)) (.val (.int p)) (.val (.int x)) (.val (.int y)) (.val (.int r)) (.val (.int t)) (.val (.int z)) (.val (.int (a + 1 : Nat))) (.val (.int (b + 1 : Nat))) (.val (.int M)) x13 S2) (x := a + 1) (y := b + 1) (r := r) rfl rfl rfl rfl rfl hr hr2
    have q2 := modI_i (a := eVar 12) (b := eVar 4) (s := lT N x2 (.val (.int m)) (.val (.int p)) (.val (.int x)) (.val (.int y)) (.val (.int r)) (.val (.int t)) (.val (.int z)) (.val (.int (a + 1 : Nat))) (.val (.int (b + 1 : Nat))) (.val (.int M)) x13 S2) (x := M) (y := p) rfl rfl p0
    refine if_f (eB_of (op_2 (o := dNe) q2 q ?_))
    rw [ne_i, hM, decide_eq_true rfl]; rfl
  -- 11
  have q11 := call_x4 (g := g_paths_by_rest) (b := eVar 11) (c := eVar 3) (k := eVar 7) (sub_i (a := eVar 10) (b := eC (.int 1)) (s := lT N x2 (.val (.int m)) (.val (.int p)) (.val (.int x)) (.val (.int y)) (.val (.int r)) (.val (.int t)) (.val (.int z)) (.val (.int (a + 1 : Nat))) (.val (.int (b + 1 : Nat))) (.val (.int M)) x13 S2) (x := (a + 1 : Nat)) (y := 1) rfl rfl) rfl rfl rfl (by rw [show ((a + 1 : Nat) : Int) - 1 = (a : Nat) by omega]; exact near_q (x := a) (y := b + 1) (by omega) (by omega) hm hm2 hr hr2 S2)
  have w11 := set_e (i := 13) q11
  obtain ⟨B, hB⟩ : ∃ B, B = rst m a (b + 1) r := ⟨_, rfl⟩
  rw [← hB] at w11
  have w11 : _ = Res.ok Out.nx (lT N x2 (.val (.int m)) (.val (.int p)) (.val (.int x)) (.val (.int y)) (.val (.int r)) (.val (.int t)) (.val (.int z)) (.val (.int (a + 1 : Nat))) (.val (.int (b + 1 : Nat))) (.val (.int M)) (.val (.int B)) S2) := w11
  -- 12
  have n3 := Int.emod_nonneg (r - ((a + 1 : Nat) : Int)) (show (m : Int) ≠ 0 by omega)
  have n4 := Int.emod_lt_of_pos (r - ((a + 1 : Nat) : Int)) (show (0 : Int) < m by omega)
  obtain ⟨s, hs⟩ : ∃ s, s = lT N x2 (.val (.int m)) (.val (.int p)) (.val (.int x)) (.val (.int y)) (.val (.int r)) (.val (.int t)) (.val (.int z)) (.val (.int (a + 1 : Nat))) (.val (.int (b + 1 : Nat))) (.val (.int M)) (.val (.int B)) S2 := ⟨_, rfl⟩
  have c12 : sIf (eB (eOp2 dNe (eVar 12) (eOp2 dAdd (eVar 13) (eCall 4 g_paths_by_rest (aCons (eVar 10) (aCons (eOp2 iSub (eVar 11) (eC (.int 1))) (aCons (eVar 3) (aCons (eOp2 iMod (eCB (bInt) (aCons (eOp2 iSub (eVar 7) (eVar 10)) (aNil))) (eVar 3)) (aNil))))))))) (sRet (eC (.bl false))) (sPass) s = .ok .nx s := by
    have u3 : eVar 3 s = .ok (.int m) s := by subst hs; rfl
    have u7 : eVar 7 s = .ok (.int r) s := by subst hs; rfl
    have u10 : eVar 10 s = .ok (.int (a + 1 : Nat)) s := by subst hs; rfl
    have u11 : eVar 11 s = .ok (.int (b + 1 : Nat)) s := by subst hs; rfl
    have u12 : eVar 12 s = .ok (.int M) s := by subst hs; rfl
    have u13 : eVar 13 s = .ok (.int B) s := by subst hs; rfl
    have q := call_x4 (g := g_paths_by_rest) u10 (sub_i (b := eC (.int 1)) (y := 1) u11 rfl) u3 (modI_i (y := m) (int_i (sub_i u7 u10)) u3 (by omega)) (by rw [show ((b + 1 : Nat) : Int) - 1 = (b : Nat) by omega]; exact near_q (x := a + 1) (y := b) (by omega) (by omega) hm hm2 n3 n4 s.st)
    refine if_f (eB_of (op_2 (o := dNe) u12 (add_i u13 q) ?_))
    rw [ne_i, rst_mod, hM, hB, rst, pth_A, decide_eq_true rfl]; rfl
  subst hs
  exact ⟨_, _, _, _, _, _, S2, (sq_nx w1).trans ((sq_nx w2).trans ((sq_nx c3).trans ((sq_nx w4).trans ((sq_nx c5).trans ((sq_nx c6).trans ((sq_nx c7).trans ((sq_nx w8).trans ((sq_nx w9).trans ((sq_nx c10).trans ((sq_nx w11).trans c12)))))))))), P2⟩
end
theorem lap_ok {N : D} {x2 x3 x4 x5 x6 x7 x8 x9 x10 x11 x12 x13 : Sl} {n : Nat} {S : List Cell} (hS : Pen n S) (hn : n + 100 < 2 ^ 20) : ∃ y3 y4 y5 y6 y7 y8 y9 y10 y11 y12 y13 S', w_law_1 (lT N x2 x3 x4 x5 x6 x7 x8 x9 x10 x11 x12 x13 S) = .ok .nx (lT N x2 y3 y4 y5 y6 y7 y8 y9 y10 y11 y12 y13 S') ∧ Pen (n + 30) S' := by
  obtain ⟨m, p, S1, e1, hm, hm2, h, fr, hp, hmp, P1⟩ := parted_ok hS (by omega)
  obtain ⟨c, S2, e2, c0, c1, P2⟩ := great_ok P1 (by omega)
  obtain ⟨d, S3, e3, d0, d1, P3⟩ := great_ok P2 (by omega)
  obtain ⟨x, hx⟩ : ∃ x : Nat, 1 + c = (x : Int) := ⟨(1 + c).toNat, by omega⟩
  obtain ⟨y, hy⟩ : ∃ y : Nat, 1 + d = (y : Int) := ⟨(1 + d).toNat, by omega⟩
  have c2 := c1.lt
  have d2 := d1.lt
  have q1 := call_x1 (g := g__law_parted) (a := eVar 1) (s := lT N x2 x3 x4 x5 x6 x7 x8 x9 x10 x11 x12 x13 S) rfl e1
  have q2 := add_i (a := eC (.int 1)) (x := 1) (s := lT N x2 x3 x4 x5 x6 x7 x8 x9 x10 x11 x12 x13 S1) rfl (call_x1 (g := g__law_great) (a := eVar 1) (s := lT N x2 x3 x4 x5 x6 x7 x8 x9 x10 x11 x12 x13 S1) rfl e2)
  have q3 := add_i (a := eC (.int 1)) (x := 1) (s := lT N x2 x3 x4 x5 x6 x7 x8 x9 x10 x11 x12 x13 S2) rfl (call_x1 (g := g__law_great) (a := eVar 1) (s := lT N x2 x3 x4 x5 x6 x7 x8 x9 x10 x11 x12 x13 S2) rfl e3)
  rw [hx] at q2
  rw [hy] at q3
  have w1 : sAsgT (eTup (aCons (eCall 1 g__law_parted (aCons (eVar 1) (aNil))) (aCons (eOp2 dAdd (eC (.int 1)) (eCall 1 g__law_great (aCons (eVar 1) (aNil)))) (aCons (eOp2 dAdd (eC (.int 1)) (eCall 1 g__law_great (aCons (eVar 1) (aNil)))) (aNil))))) (gT 3 (gsCons (gT 2 (gsCons (gN 3) (gsCons (gN 4) (gsNil)))) (gsCons (gN 5) (gsCons (gN 6) (gsNil))))) (lT N x2 x3 x4 x5 x6 x7 x8 x9 x10 x11 x12 x13 S) = .ok .nx (lT N x2 (.val (.int m)) (.val (.int p)) (.val (.int x)) (.val (.int y)) x7 x8 x9 x10 x11 x12 x13 S3) :=
    asg_t (tup_3 q1 q2 q3) rfl
  obtain ⟨r, S4, e4, r0, r1, P4⟩ := draw_ok P3 (by omega) (p := (m : Int)) (by omega) (by omega)
  have w2 := set_e (i := 7) (call_x2 (g := g__law_draw) (a := eVar 1) (b := eVar 3) (s := lT N x2 (.val (.int m)) (.val (.int p)) (.val (.int x)) (.val (.int y)) x7 x8 x9 x10 x11 x12 x13 S3) rfl rfl e4)
  have w2 : _ = Res.ok Out.nx (lT N x2 (.val (.int m)) (.val (.int p)) (.val (.int x)) (.val (.int y)) (.val (.int r)) x8 x9 x10 x11 x12 x13 S4) := w2
  obtain ⟨y8, y9, y10, y11, y12, y13, S5, e5, P5⟩ := rest_steps h fr hp hm hm2 hmp (N := N) (x2 := x2) (x8 := x8) (x9 := x9) (x10 := x10) (x11 := x11) (x12 := x12) (x13 := x13) (x := x) (y := y) (r := r) (by omega) (by omega) (by omega) (by omega) r0 r1 P4 (by omega)
  unfold w_law_1
  exact ⟨_, _, _, _, _, y8, y9, y10, y11, y12, y13, S5, (sq_nx w1).trans ((sq_nx w2).trans e5), P5.mono (by omega)⟩
theorem law_ok : ∀ ns : List Int, ns.length ≤ 63 → (∀ z ∈ ns, PySem.Builtin.Int.intBits z ≤ 1048576) → ∃ S, g_law [.scr (ns.map D.int)] [] = .ok (.bl true) S := by
  intro ns hl _
  obtain ⟨S0, e0, P0⟩ := begin_ok ns
  have hk : ∃ k : Nat, (1 + (if (ns.length : Int) < 2 then (ns.length : Int) else 2)).toNat = k ∧ k ≤ 8 := ⟨_, rfl, by split <;> omega⟩
  obtain ⟨k, hk1, hk2⟩ := hk
  have q : -4611686018427387904 ≤ (1 + (if (ns.length : Int) < 2 then (ns.length : Int) else 2)) ∧ 1 + (if (ns.length : Int) < 2 then (ns.length : Int) else 2) < 4611686018427387904 := by split <;> omega
  obtain ⟨s', e2, ⟨y2, y3, y4, y5, y6, y7, y8, y9, y10, y11, y12, y13, hs⟩, hP⟩ := for_inv (g := gN 2) (b := w_law_1) (items := rngL 0 k) (s := lT (.scr (ns.map D.int)) .un .un .un .un .un .un .un .un .un .un .un .un S0)
    (fun i s => (∃ y2 y3 y4 y5 y6 y7 y8 y9 y10 y11 y12 y13, s.sl = [.val (.scr (ns.map D.int)), .val (.cell 0), y2, y3, y4, y5, y6, y7, y8, y9, y10, y11, y12, y13, .un]) ∧ Pen (30 * i) s.st)
    ⟨⟨_, _, _, _, _, _, _, _, _, _, _, _, rfl⟩, P0⟩ (fun i d s hi hp => by
      obtain ⟨⟨y2, y3, y4, y5, y6, y7, y8, y9, y10, y11, y12, y13, hs⟩, hP⟩ := hp
      obtain ⟨sl, st⟩ := s
      simp only at hs hP
      subst hs
      obtain ⟨hi1, rfl⟩ := rngL_get hi
      obtain ⟨z3, z4, z5, z6, z7, z8, z9, z10, z11, z12, z13, S', e, P2⟩ := lap_ok (N := .scr (ns.map D.int)) (x2 := .val (.int (0 + i))) (x3 := y3) (x4 := y4) (x5 := y5) (x6 := y6) (x7 := y7) (x8 := y8) (x9 := y9) (x10 := y10) (x11 := y11) (x12 := y12) (x13 := y13) hP (by omega)
      exact ⟨_, _, rfl, .inl e, ⟨_, _, _, _, _, _, _, _, _, _, _, _, rfl⟩, P2.mono (by omega)⟩)
  obtain ⟨sl, st⟩ := s'
  simp only at hs hP
  subst hs
  refine ⟨st, ?_⟩
  simp [g_law, b_law, fnD, e0, q, hk1, e2]
end W_k61
open PySem PySem.W PyProof.Rows
set_option maxRecDepth 100000 in
set_option maxHeartbeats 0 in
theorem PySem.Challenge.cw_areawalks_k61_whole_paths_far_holds : PySem.Challenge.rw_areawalks_k61_whole_paths_far.Holds := by
  w_on; o_law; k_head; (case hw => w_witness2)
  k_fill
  refine DL.walk_ofD (l := PySem.Challenge.rw_areawalks_k61_whole_paths_far) (n := 63) (k := 13) (x := "_law_script") (CX := fun w => L2.CX PySem.Challenge.rw_areawalks_k61_whole_paths_far.prog w) rfl (by decide) rfl ⟨rfl, by decide, by decide⟩ (fun w h Y => PySem.W.kIn_of Y) ?F (fun w => DL.noCX)
  case F =>
    intro w mg fa h KX G hmg TT
    refine' W_k61.all_mk KX G hmg TT ?aC_BadNumber ?xl_BadNumber ?xr_BadNumber ?xi_BadNumber ?xf_BadNumber ?xc_BadNumber ?xd_BadNumber ?xv_BadNumber ?xe_BadNumber ?xk_BadNumber ?xB_BadNumber ?aC_TooFar ?xl_TooFar ?xr_TooFar ?xi_TooFar ?xf_TooFar ?xc_TooFar ?xd_TooFar ?xv_TooFar ?xe_TooFar ?xk_TooFar ?xB_TooFar ?xtop ?xsup ?a1__law_begin ?l1__law_begin ?c1__law_begin ?k1__law_begin ?a1__law_digits_chosen ?l1__law_digits_chosen ?c1__law_digits_chosen ?k1__law_digits_chosen ?a1__law_draw ?l1__law_draw ?c1__law_draw ?k1__law_draw ?a1__law_number ?l1__law_number ?c1__law_number ?k1__law_number ?a1__law_great ?l1__law_great ?c1__law_great ?k1__law_great ?a1_divisors ?l1_divisors ?c1_divisors ?k1_divisors ?a1_inverse ?l1_inverse ?c1_inverse ?k1_inverse ?a1_binomial_rest ?l1_binomial_rest ?c1_binomial_rest ?k1_binomial_rest ?a1_far_binomial ?l1_far_binomial ?c1_far_binomial ?k1_far_binomial ?a1_is_prime ?l1_is_prime ?c1_is_prime ?k1_is_prime ?a1_is_integer ?l1_is_integer ?c1_is_integer ?k1_is_integer ?a1_is_whole ?l1_is_whole ?c1_is_whole ?k1_is_whole ?a1_need_whole ?l1_need_whole ?c1_need_whole ?k1_need_whole ?a1_need_rest ?l1_need_rest ?c1_need_rest ?k1_need_rest ?a1_gaussian ?l1_gaussian ?c1_gaussian ?k1_gaussian ?a1_divisor_of ?l1_divisor_of ?c1_divisor_of ?k1_divisor_of ?a1_moebius ?l1_moebius ?c1_moebius ?k1_moebius ?a1_root_sum ?l1_root_sum ?c1_root_sum ?k1_root_sum ?a1_share ?l1_share ?c1_share ?k1_share ?a1_far_paths ?l1_far_paths ?c1_far_paths ?k1_far_paths ?a1__law_is_stepped ?l1__law_is_stepped ?c1__law_is_stepped ?k1__law_is_stepped ?a1__law_pick ?l1__law_pick ?c1__law_pick ?k1__law_pick ?a1__law_parted ?l1__law_parted ?c1__law_parted ?k1__law_parted ?a1_binomial ?l1_binomial ?c1_binomial ?k1_binomial ?a1_paths_by_rest ?l1_paths_by_rest ?c1_paths_by_rest ?k1_paths_by_rest ?a1_law ?l1_law ?c1_law ?k1_law ?z1_abs ?z1_any ?z1_bool ?z1_enumerate ?z1_int ?z1_isinstance ?z1_len ?z1_list ?z1_min ?z1_range ?z1_sum ?k0_MOST_MODULUS ?kx_MOST_MODULUS ?k0_MOST_PRIME ?kx_MOST_PRIME ?k0_MOST_SIDE ?kx_MOST_SIDE W_k61.law_ok
    (case aC_BadNumber => k_is)
    (case xl_BadNumber => k_is)
    (case xr_BadNumber => kernel_rfl)
    (case xi_BadNumber => k_is)
    (case xf_BadNumber => k_is)
    (case xc_BadNumber => k_is)
    (case xd_BadNumber => k_is)
    (case xv_BadNumber => rfl)
    (case xe_BadNumber => kernel_rfl)
    (case xk_BadNumber => k_is)
    (case xB_BadNumber => kernel_rfl)
    (case aC_TooFar => k_is)
    (case xl_TooFar => k_is)
    (case xr_TooFar => kernel_rfl)
    (case xi_TooFar => k_is)
    (case xf_TooFar => k_is)
    (case xc_TooFar => k_is)
    (case xd_TooFar => k_is)
    (case xv_TooFar => rfl)
    (case xe_TooFar => kernel_rfl)
    (case xk_TooFar => k_is)
    (case xB_TooFar => kernel_rfl)
    (case xtop => kernel_rfl)
    (case xsup => k_is)
    (case a1__law_begin => k_is)
    (case l1__law_begin => k_is)
    (case c1__law_begin => k_is)
    (case k1__law_begin => k_is)
    (case a1__law_digits_chosen => k_is)
    (case l1__law_digits_chosen => k_is)
    (case c1__law_digits_chosen => k_is)
    (case k1__law_digits_chosen => k_is)
    (case a1__law_draw => k_is)
    (case l1__law_draw => k_is)
    (case c1__law_draw => k_is)
    (case k1__law_draw => k_is)
    (case a1__law_number => k_is)
    (case l1__law_number => k_is)
    (case c1__law_number => k_is)
    (case k1__law_number => k_is)
    (case a1__law_great => k_is)
    (case l1__law_great => k_is)
    (case c1__law_great => k_is)
    (case k1__law_great => k_is)
    (case a1_divisors => k_is)
    (case l1_divisors => k_is)
    (case c1_divisors => k_is)
    (case k1_divisors => k_is)
    (case a1_inverse => k_is)
    (case l1_inverse => k_is)
    (case c1_inverse => k_is)
    (case k1_inverse => k_is)
    (case a1_binomial_rest => k_is)
    (case l1_binomial_rest => k_is)
    (case c1_binomial_rest => k_is)
    (case k1_binomial_rest => k_is)
    (case a1_far_binomial => k_is)
    (case l1_far_binomial => k_is)
    (case c1_far_binomial => k_is)
    (case k1_far_binomial => k_is)
    (case a1_is_prime => k_is)
    (case l1_is_prime => k_is)
    (case c1_is_prime => k_is)
    (case k1_is_prime => k_is)
    (case a1_is_integer => k_is)
    (case l1_is_integer => k_is)
    (case c1_is_integer => k_is)
    (case k1_is_integer => k_is)
    (case a1_is_whole => k_is)
    (case l1_is_whole => k_is)
    (case c1_is_whole => k_is)
    (case k1_is_whole => k_is)
    (case a1_need_whole => k_is)
    (case l1_need_whole => k_is)
    (case c1_need_whole => k_is)
    (case k1_need_whole => k_is)
    (case a1_need_rest => k_is)
    (case l1_need_rest => k_is)
    (case c1_need_rest => k_is)
    (case k1_need_rest => k_is)
    (case a1_gaussian => k_is)
    (case l1_gaussian => k_is)
    (case c1_gaussian => k_is)
    (case k1_gaussian => k_is)
    (case a1_divisor_of => k_is)
    (case l1_divisor_of => k_is)
    (case c1_divisor_of => k_is)
    (case k1_divisor_of => k_is)
    (case a1_moebius => k_is)
    (case l1_moebius => k_is)
    (case c1_moebius => k_is)
    (case k1_moebius => k_is)
    (case a1_root_sum => k_is)
    (case l1_root_sum => k_is)
    (case c1_root_sum => k_is)
    (case k1_root_sum => k_is)
    (case a1_share => k_is)
    (case l1_share => k_is)
    (case c1_share => k_is)
    (case k1_share => k_is)
    (case a1_far_paths => k_is)
    (case l1_far_paths => k_is)
    (case c1_far_paths => k_is)
    (case k1_far_paths => k_is)
    (case a1__law_is_stepped => k_is)
    (case l1__law_is_stepped => k_is)
    (case c1__law_is_stepped => k_is)
    (case k1__law_is_stepped => k_is)
    (case a1__law_pick => k_is)
    (case l1__law_pick => k_is)
    (case c1__law_pick => k_is)
    (case k1__law_pick => k_is)
    (case a1__law_parted => k_is)
    (case l1__law_parted => k_is)
    (case c1__law_parted => k_is)
    (case k1__law_parted => k_is)
    (case a1_binomial => k_is)
    (case l1_binomial => k_is)
    (case c1_binomial => k_is)
    (case k1_binomial => k_is)
    (case a1_paths_by_rest => k_is)
    (case l1_paths_by_rest => k_is)
    (case c1_paths_by_rest => k_is)
    (case k1_paths_by_rest => k_is)
    (case a1_law => k_is)
    (case l1_law => k_is)
    (case c1_law => k_is)
    (case k1_law => k_is)
    (case z1_abs => k_is)
    (case z1_any => k_is)
    (case z1_bool => k_is)
    (case z1_enumerate => k_is)
    (case z1_int => k_is)
    (case z1_isinstance => k_is)
    (case z1_len => k_is)
    (case z1_list => k_is)
    (case z1_min => k_is)
    (case z1_range => k_is)
    (case z1_sum => k_is)
    (case k0_MOST_MODULUS => k_is)
    (case kx_MOST_MODULUS => kernel_rfl)
    (case k0_MOST_PRIME => k_is)
    (case kx_MOST_PRIME => kernel_rfl)
    (case k0_MOST_SIDE => k_is)
    (case kx_MOST_SIDE => kernel_rfl)
