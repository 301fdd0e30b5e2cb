import PyProof.Rows.All
import Wide.All
import OpenK.AllK
import Wide.FinOn
import HandS.ForMost
import HandS.ForExc
import HandS.CallSlots
import HandS.IsInst
import HandS.Wide
import HandS.Flow
import HandS.Property
import HandS.OwnEq
import KE.KOpsOwn
import HandS.Zip
import HandS.Style
import HandS.Exc
import HandS.ExcInit
import HandS.TryMany
import KE.KExcSuper
import HandS.ExcField
import HandS.Lambda
import HandS.EndTab
import HandS.WideBits
import HandS.Deep
import HandS.StrMore
import HandS.NoneIn
import PyProof.StrBlock2
import HandS.TupAny
import HandS.Iter
import HandS.ExcOwn
import PyProof.ExcBaseAll.ValueError
import KE.KCallOwn
import HandS.More
import HandS.Dict
import HandS.Conv
import PySem.Challenge.RW_areawalks_k13_whole_areas_of_walks
set_option Elab.async false
set_option linter.all false
set_option maxRecDepth 100000
set_option maxHeartbeats 4000000
set_option autoImplicit false
namespace DL
open PySem PySem.Spec PyProof.Rows L2

/-! ### data -/
/-- a name or a text by its code points -/
abbrev Nm := List Nat
def nm (l : Nm) : Str := ⟨l.toArray⟩
theorem nm_inj {a b : Nm} (h : nm a = nm b) : a = b := by
  have := congrArg (fun s : Str => s.cps.toList) h
  simpa [nm] using this
inductive DK where
  | i (n : Int)
  | s (l : List Nat)
  deriving DecidableEq
inductive D where
  | non | bl (b : Bool) | int (i : Int) | str (l : List Nat)
  | tup (xs : List D) | lst (xs : List D) | scr (xs : List D)
  | dic (kvs : List (DK × D))
  | dct (kvs : List (List DK × D))
  | ins (c : String) (fs : List (Nm × D))
  | cell (n : Nat) | cls (c : String) | ty (n : String) | fn (f : String) | lam (k : String)
instance : Inhabited D := ⟨.non⟩
/-- a thing of the store, by reference -/
inductive Cell where
  | dic (kvs : List (DK × D))
  | lst (xs : List D)
  | obj (c : String) (fs : List (Nm × D))
  | tab (k : String)
  | dct (kvs : List (List DK × D))
instance : Inhabited Cell := ⟨.lst []⟩
/-- a slot: no value known, a value, a list / dict / instance of this frame's own -/
inductive Sl where
  | un | val (d : D) | ol (xs : List D) | od (kvs : List (DK × D)) | ot (kvs : List (List DK × D)) | oi (c : String) (fs : List (Nm × D))
instance : Inhabited Sl := ⟨.un⟩
def Sl.own : Sl → Bool
  | .un => false
  | .val _ => false
  | _ => true
structure Xc where
  cls : String
  fs : List (Nm × D)
structure DS where
  sl : List Sl
  st : List Cell
inductive Res (σ α : Type) where
  | ok (a : α) (t : σ) | exc (x : Xc) (t : σ) | stuck
def Res.bind {σ α β : Type} (r : Res σ α) (k : α → σ → Res σ β) : Res σ β := match r with
  | .ok a t => k a t
  | .exc x t => .exc x t
  | .stuck => .stuck
@[simp] theorem Res.bind_ok {σ α β : Type} (a : α) (t : σ) (k : α → σ → Res σ β) : (Res.ok a t).bind k = k a t := rfl
@[simp] theorem Res.bind_exc {σ α β : Type} (x : Xc) (t : σ) (k : α → σ → Res σ β) : (Res.exc x t).bind k = .exc x t := rfl
@[simp] theorem Res.bind_stuck {σ α β : Type} (k : α → σ → Res σ β) : (Res.stuck).bind k = .stuck := rfl
inductive Out where
  | nx | rt (d : D) | bk | ct
abbrev DE := DS → Res DS D
abbrev DA := DS → Res DS (List D)
abbrev DT := DS → Res DS Bool
abbrev DStm := DS → Res DS Out
abbrev DFn := List D → List Cell → Res (List Cell) D

/-! ### how data lie in the heap -/
structure Wd where
  F : Hp
  ρ : List Addr
structure Wd.le (w w' : Wd) : Prop where
  f : ∀ a o, w.F a = some o → w'.F a = some o
  r : w.ρ <+: w'.ρ
theorem Wd.le.refl (w : Wd) : w.le w := ⟨fun _ _ h => h, List.prefix_refl _⟩
theorem Wd.le.trans {a b c : Wd} (h : a.le b) (k : b.le c) : a.le c := ⟨fun x o e => k.f x o (h.f x o e), h.r.trans k.r⟩
structure Gam where
  K : PySem.W.Frag
  ct : String → Option Addr
  ft : String → Option Addr
  lam : String → Addr → Wd → Prop := fun _ _ _ => False
  lamM : ∀ (k : String) (f : Addr) (w w' : Wd), w.le w' → lam k f w → lam k f w' := by (intros; assumption)
  tab : String → Addr → Hp → HO → Prop := fun _ _ _ _ => False
  tabM : ∀ (k : String) (a : Addr) (F F' : Hp) (o : HO), (∀ a o, F a = some o → F' a = some o) → tab k a F o → tab k a F' o := by (intros; assumption)
  hs : List Key → Int := fun _ => 0
def dkey : DK → Key
  | .i n => .inl n
  | .s l => .inr (nm l)
/-- a dict object by its entries -/
def dctO (a : Addr) (es : List DictEntry) (ep : Nat) : HO := .ext fun h => ∃ o es', h.get? a = some o ∧ o.ExactDict ∧ o.data = .dict es' ep ∧ es'.toList = es
mutual
inductive Rep (G : Gam) (w : Wd) : V → D → Prop
  | non : Rep G w .non .non
  | bl (b : Bool) : Rep G w (.bl b) (.bl b)
  | int (i : Int) : Rep G w (.int i) (.int i)
  | str (l : List Nat) : Rep G w (.str (nm l)) (.str l)
  | tup {a : Addr} {vs : List V} {ds : List D} : SqT G.K w.F a vs → Reps G w vs ds → Rep G w (.ref a) (.tup ds)
  | lst {a : Addr} {vs : List V} {ds : List D} : w.F a = some (.lst vs) → Reps G w vs ds → Rep G w (.ref a) (.lst ds)
  | scr {a : Addr} {vs : List V} {ds : List D} : SqL G.K w.F a vs → Reps G w vs ds → Rep G w (.ref a) (.scr ds)
  | dic {a : Addr} {vs : List (Key × V)} {ds : List (DK × D)} : w.F a = some (.dK vs) → RepK G w vs ds → Rep G w (.ref a) (.dic ds)
  | dct {a : Addr} {es : List DictEntry} {ep : Nat} {ds : List (List DK × D)} : w.F a = some (dctO a es ep) → RepT G w es ds → (ds.map (·.1)).Nodup → (a == sysModules) = false → Rep G w (.ref a) (.dct ds)
  | ins {a C dx : Addr} {c : String} {vs : List (Str × V)} {ds : List (Nm × D)} : G.ct c = some C → w.F a = some (.ins C dx vs) → RepF G w vs ds → Rep G w (.ref a) (.ins c ds)
  | cell {a : Addr} {n : Nat} : w.ρ[n]? = some a → Rep G w (.ref a) (.cell n)
  | cls {C : Addr} {c : String} : G.ct c = some C → Rep G w (.ref C) (.cls c)
  | ty (n : String) : Rep G w (.ty n) (.ty n)
  | fn {a : Addr} {f : String} : G.ft f = some a → Rep G w (.ref a) (.fn f)
  | lam {f : Addr} {k : String} : G.lam k f w → Rep G w (.ref f) (.lam k)
inductive Reps (G : Gam) (w : Wd) : List V → List D → Prop
  | nil : Reps G w [] []
  | cons {v : V} {d : D} {vs : List V} {ds : List D} : Rep G w v d → Reps G w vs ds → Reps G w (v :: vs) (d :: ds)
inductive RepF (G : Gam) (w : Wd) : List (Str × V) → List (Nm × D) → Prop
  | nil : RepF G w [] []
  | cons {f : Nm} {v : V} {d : D} {vs : List (Str × V)} {ds : List (Nm × D)} : Rep G w v d → RepF G w vs ds → RepF G w ((nm f, v) :: vs) ((f, d) :: ds)
inductive RepK (G : Gam) (w : Wd) : List (Key × V) → List (DK × D) → Prop
  | nil : RepK G w [] []
  | cons {k : DK} {v : V} {d : D} {vs : List (Key × V)} {ds : List (DK × D)} : Rep G w v d → RepK G w vs ds → RepK G w ((dkey k, v) :: vs) ((k, d) :: ds)
inductive RepT (G : Gam) (w : Wd) : List DictEntry → List (List DK × D) → Prop
  | nil : RepT G w [] []
  | cons {k : List DK} {b : Addr} {v : V} {u : Value} {d : D} {es : List DictEntry} {ds : List (List DK × D)} : SqT G.K w.F b (k.map fun x => kV (dkey x)) → RelV v u → Rep G w v d → RepT G w es ds → RepT G w (⟨G.hs (k.map dkey), .ref b, u⟩ :: es) ((k, d) :: ds)
end
theorem SqT.le {K : PySem.W.Frag} {F F' : Hp} {a : Addr} {xs : List V} (h : SqT K F a xs) (e : ∀ a o, F a = some o → F' a = some o) : SqT K F' a xs := by
  rcases h with (h | ⟨o, h⟩) | h
  · exact .inl (.inl (e _ _ h))
  · exact .inl (.inr ⟨o, e _ _ h⟩)
  · exact .inr h
theorem SqL.le {K : PySem.W.Frag} {F F' : Hp} {a : Addr} {xs : List V} (h : SqL K F a xs) (e : ∀ a o, F a = some o → F' a = some o) : SqL K F' a xs := by
  rcases h with (h | ⟨o, h⟩) | h
  · exact .inl (.inl (e _ _ h))
  · exact .inl (.inr ⟨o, e _ _ h⟩)
  · exact .inr h
theorem pre_get {α : Type} {l l' : List α} {n : Nat} {x : α} (h : l <+: l') (e : l[n]? = some x) : l'[n]? = some x := by
  obtain ⟨r, rfl⟩ := h
  rw [List.getElem?_append_left (by exact (List.getElem?_eq_some_iff.mp e).1)]
  exact e
mutual
theorem Rep.mono {G : Gam} {w w' : Wd} (h : w.le w') : ∀ {v : V} {d : D}, Rep G w v d → Rep G w' v d
  | _, _, .non => .non
  | _, _, .bl b => .bl b
  | _, _, .int i => .int i
  | _, _, .str l => .str l
  | _, _, .tup a b => .tup (SqT.le a h.f) (Reps.mono h b)
  | _, _, .lst a b => .lst (h.f _ _ a) (Reps.mono h b)
  | _, _, .scr a b => .scr (SqL.le a h.f) (Reps.mono h b)
  | _, _, .dic a b => .dic (h.f _ _ a) (RepK.mono h b)
  | _, _, .dct a b c d => .dct (h.f _ _ a) (RepT.mono h b) c d
  | _, _, .ins c a b => .ins c (h.f _ _ a) (RepF.mono h b)
  | _, _, .cell a => .cell (pre_get h.r a)
  | _, _, .cls a => .cls a
  | _, _, .ty n => .ty n
  | _, _, .fn a => .fn a
  | _, _, .lam a => .lam (G.lamM _ _ _ _ h a)
theorem Reps.mono {G : Gam} {w w' : Wd} (h : w.le w') : ∀ {v : List V} {d : List D}, Reps G w v d → Reps G w' v d
  | _, _, .nil => .nil
  | _, _, .cons a b => .cons (Rep.mono h a) (Reps.mono h b)
theorem RepF.mono {G : Gam} {w w' : Wd} (h : w.le w') : ∀ {v : List (Str × V)} {d : List (Nm × D)}, RepF G w v d → RepF G w' v d
  | _, _, .nil => .nil
  | _, _, .cons a b => .cons (Rep.mono h a) (RepF.mono h b)
theorem RepK.mono {G : Gam} {w w' : Wd} (h : w.le w') : ∀ {v : List (Key × V)} {d : List (DK × D)}, RepK G w v d → RepK G w' v d
  | _, _, .nil => .nil
  | _, _, .cons a b => .cons (Rep.mono h a) (RepK.mono h b)
theorem RepT.mono {G : Gam} {w w' : Wd} (h : w.le w') : ∀ {v : List DictEntry} {d : List (List DK × D)}, RepT G w v d → RepT G w' v d
  | _, _, .nil => .nil
  | _, _, .cons s r a b => .cons (SqT.le s h.f) r (Rep.mono h a) (RepT.mono h b)
end
theorem Reps.length {G : Gam} {w : Wd} : ∀ {v : List V} {d : List D}, Reps G w v d → v.length = d.length
  | _, _, .nil => rfl
  | _, _, .cons _ b => by rw [List.length_cons, List.length_cons, Reps.length b]
theorem Reps.get {G : Gam} {w : Wd} : ∀ {v : List V} {d : List D} {i : Nat} {x : D}, Reps G w v d → d[i]? = some x → ∃ y, v[i]? = some y ∧ Rep G w y x
  | _, _, _, _, .nil, e => by simp at e
  | _, _, 0, _, .cons a _, e => by simp at e; subst e; exact ⟨_, rfl, a⟩
  | _, _, i + 1, x, .cons _ b, e => by
    obtain ⟨y, h1, h2⟩ := Reps.get (i := i) (x := x) b (by simpa using e)
    exact ⟨y, by simpa using h1, h2⟩
theorem Reps.append {G : Gam} {w : Wd} : ∀ {v v' : List V} {d d' : List D}, Reps G w v d → Reps G w v' d' → Reps G w (v ++ v') (d ++ d')
  | _, _, _, _, .nil, h => h
  | _, _, _, _, .cons a b, h => .cons a (Reps.append b h)
theorem Reps.set {G : Gam} {w : Wd} {x : V} {y : D} (r : Rep G w x y) : ∀ {v : List V} {d : List D} (i : Nat), Reps G w v d → Reps G w (v.set i x) (d.set i y)
  | _, _, _, .nil => .nil
  | _, _, 0, .cons _ b => .cons r b
  | _, _, i + 1, .cons a b => .cons a (Reps.set r i b)
theorem Reps.drop {G : Gam} {w : Wd} : ∀ {v : List V} {d : List D} (n : Nat), Reps G w v d → Reps G w (v.drop n) (d.drop n)
  | _, _, 0, r => r
  | _, _, _ + 1, .nil => .nil
  | _, _, n + 1, .cons _ t => Reps.drop n t
theorem Reps.take {G : Gam} {w : Wd} : ∀ {v : List V} {d : List D} (n : Nat), Reps G w v d → Reps G w (v.take n) (d.take n)
  | _, _, 0, _ => .nil
  | _, _, _ + 1, .nil => .nil
  | _, _, n + 1, .cons r t => .cons r (Reps.take n t)
theorem Reps.ints {G : Gam} {w : Wd} : ∀ {v : List V} {ns : List Int}, Reps G w v (ns.map D.int) → v = ns.map V.int
  | _, [], h => by cases h; rfl
  | _, n :: ns, h => by
    cases h with
    | cons a b => cases a; rw [Reps.ints b]; rfl
theorem Reps.of_ints {G : Gam} {w : Wd} : ∀ ns : List Int, Reps G w (ns.map V.int) (ns.map D.int)
  | [] => .nil
  | n :: ns => .cons (.int n) (Reps.of_ints ns)
theorem RepF.look {G : Gam} {w : Wd} : ∀ {v : List (Str × V)} {d : List (Nm × D)} {f : Nm} {x : D}, RepF G w v d → d.lookup f = some x → ∃ y, v.lookup (nm f) = some y ∧ Rep G w y x
  | _, _, _, _, .nil, e => by simp at e
  | _, _, f, x, .cons (f := g) a b, e => by
    by_cases h : f = g
    · subst h
      rw [List.lookup_cons_self] at e
      cases e
      exact ⟨_, List.lookup_cons_self, a⟩
    · have h1 : (f == g) = false := beq_eq_false_iff_ne.mpr h
      have h2 : (nm f == nm g) = false := beq_eq_false_iff_ne.mpr fun q => h (nm_inj q)
      simp only [List.lookup_cons, h1] at e
      obtain ⟨y, q1, q2⟩ := RepF.look b e
      exact ⟨y, by simp only [List.lookup_cons, h2]; exact q1, q2⟩
theorem RepF.none {G : Gam} {w : Wd} : ∀ {v : List (Str × V)} {d : List (Nm × D)} {f : Nm}, RepF G w v d → d.lookup f = none → v.lookup (nm f) = none
  | _, _, _, .nil, e => rfl
  | _, _, f, .cons (f := g) a b, e => by
    by_cases h : f = g
    · subst h
      rw [List.lookup_cons_self] at e
      cases e
    · have h1 : (f == g) = false := beq_eq_false_iff_ne.mpr h
      have h2 : (nm f == nm g) = false := beq_eq_false_iff_ne.mpr fun q => h (nm_inj q)
      simp only [List.lookup_cons, h1] at e
      simp only [List.lookup_cons, h2]
      exact RepF.none b e
theorem RepF.length {G : Gam} {w : Wd} : ∀ {v : List (Str × V)} {d : List (Nm × D)}, RepF G w v d → v.length = d.length
  | _, _, .nil => rfl
  | _, _, .cons _ b => by rw [List.length_cons, List.length_cons, RepF.length b]
def putN (f : Nm) (x : D) : List (Nm × D) → List (Nm × D)
  | [] => [(f, x)]
  | (g, y) :: r => if g = f then (f, x) :: r else (g, y) :: putN f x r
/-! ### the store, the slots -/
/-- a dict whose keys are tuples, at a -/
def TOk (G : Gam) (w : Wd) (H : Hp) (a : Addr) (kvs : List (List DK × D)) : Prop := ∃ es ep, H a = some (dctO a es ep) ∧ RepT G w es kvs ∧ (kvs.map (·.1)).Nodup ∧ (a == sysModules) = false
theorem TOk.mono {G : Gam} {w w' : Wd} {H H' : Hp} {a : Addr} {kvs : List (List DK × D)} (h : TOk G w H a kvs) (le : w.le w') (e : H' a = H a) : TOk G w' H' a kvs := by
  obtain ⟨es, ep, h1, h2, h3⟩ := h
  exact ⟨es, ep, e.trans h1, h2.mono le, h3⟩
def CellOk (G : Gam) (w : Wd) (H : Hp) (a : Addr) : Cell → Prop
  | .dic kvs => ∃ vs, H a = some (.dK vs) ∧ RepK G w vs kvs
  | .lst xs => ∃ vs, H a = some (.lst vs) ∧ Reps G w vs xs
  | .obj c fs => ∃ C dx vs, G.ct c = some C ∧ H a = some (.ins C dx vs) ∧ RepF G w vs fs
  | .tab k => ∃ o, H a = some o ∧ G.tab k a w.F o
  | .dct kvs => TOk G w H a kvs
structure FOk (G : Gam) (w : Wd) (S : List Cell) (H : Hp) : Prop where
  sub : ∀ a o, w.F a = some o → H a = some o
  len : w.ρ.length = S.length
  cel : ∀ (n : Nat) (a : Addr) (c : Cell), w.ρ[n]? = some a → S[n]? = some c → CellOk G w H a c
  nd : w.ρ.Nodup
  nf : ∀ a, a ∈ w.ρ → w.F a = none
theorem CellOk.there {G : Gam} {w : Wd} {H : Hp} {a : Addr} {c : Cell} (h : CellOk G w H a c) : ∃ o, H a = some o := by
  cases c with
  | dic kvs => obtain ⟨_, h, _⟩ := h; exact ⟨_, h⟩
  | lst xs => obtain ⟨_, h, _⟩ := h; exact ⟨_, h⟩
  | obj c fs => obtain ⟨_, _, _, _, h, _⟩ := h; exact ⟨_, h⟩
  | tab k => obtain ⟨_, h, _⟩ := h; exact ⟨_, h⟩
  | dct kvs => obtain ⟨_, _, h, _⟩ := h; exact ⟨_, h⟩
theorem CellOk.mono {G : Gam} {w w' : Wd} {H H' : Hp} {a : Addr} {c : Cell} (h : CellOk G w H a c) (le : w.le w') (e : H' a = H a) : CellOk G w' H' a c := by
  cases c with
  | dic kvs => obtain ⟨_, h, r⟩ := h; exact ⟨_, e.trans h, r.mono le⟩
  | lst xs => obtain ⟨_, h, r⟩ := h; exact ⟨_, e.trans h, r.mono le⟩
  | obj c fs => obtain ⟨_, _, _, q, h, r⟩ := h; exact ⟨_, _, _, q, e.trans h, r.mono le⟩
  | tab k => obtain ⟨_, h, r⟩ := h; exact ⟨_, e.trans h, G.tabM _ _ _ _ _ le.f r⟩
  | dct kvs => exact TOk.mono h le e
theorem FOk.rho {G : Gam} {w : Wd} {S : List Cell} {H : Hp} (h : FOk G w S H) {a : Addr} (ha : a ∈ w.ρ) : ∃ o, H a = some o := by
  obtain ⟨n, hn, e⟩ := List.getElem_of_mem ha
  have h1 : w.ρ[n]? = some a := by rw [List.getElem?_eq_getElem hn, e]
  have h2 : n < S.length := by rw [← h.len]; exact hn
  exact (h.cel n a _ h1 (List.getElem?_eq_getElem h2)).there
/-- from one state to a later one: what may have changed -/
structure Nx (w : Wd) (H : Hp) (w' : Wd) (H' : Hp) : Prop where
  le : w.le w'
  keep : ∀ a o, H a = some o → a ∉ w.ρ → H' a = some o
  newF : ∀ a, w'.F a ≠ none → w.F a ≠ none ∨ H a = none
  newR : ∀ a, a ∈ w'.ρ → a ∈ w.ρ ∨ H a = none
theorem Nx.refl (w : Wd) (H : Hp) : Nx w H w H := ⟨.refl w, fun _ _ h _ => h, fun _ h => .inl h, fun _ h => .inl h⟩
theorem Nx.trans {G : Gam} {w w1 w2 : Wd} {H H1 H2 : Hp} {S1 : List Cell} (a : Nx w H w1 H1) (f : FOk G w1 S1 H1) (b : Nx w1 H1 w2 H2) : Nx w H w2 H2 := by
  have back : ∀ x, H1 x = none → H x = none := fun x h => by
    cases e : H x with
    | none => rfl
    | some o =>
      by_cases hx : x ∈ w.ρ
      · obtain ⟨o', q⟩ := f.rho (a.le.r.subset hx)
        rw [q] at h; cases h
      · rw [a.keep x o e hx] at h; cases h
  refine ⟨a.le.trans b.le, fun x o e n => ?_, fun x h => ?_, fun x h => ?_⟩
  · refine b.keep x o (a.keep x o e n) fun q => ?_
    rcases a.newR x q with z | z
    · exact n z
    · rw [z] at e; cases e
  · rcases b.newF x h with z | z
    · exact a.newF x z
    · exact .inr (back x z)
  · rcases b.newR x h with z | z
    · exact a.newR x z
    · exact .inr (back x z)
def OwnOk (G : Gam) (w : Wd) (H : Hp) (a : Addr) : Sl → Prop
  | .ol xs => ∃ vs, H a = some (.lst vs) ∧ Reps G w vs xs
  | .od kvs => ∃ vs, H a = some (.dK vs) ∧ RepK G w vs kvs
  | .ot kvs => TOk G w H a kvs
  | .oi c fs => ∃ C dx vs, G.ct c = some C ∧ H a = some (.ins C dx vs) ∧ RepF G w vs fs
  | _ => False
/-- a frame's base: the world and the heap at its entry; objects that are set apart -/
structure Bs where
  B : Wd
  H : Hp
  γ : List (Addr × HO)
  me : Option Addr
/-- the state of a frame -/
structure Ok (G : Gam) (κ : Bs) (w : Wd) (s : DS) (σ : L2.St) (H : Hp) : Prop where
  fok : FOk G w s.st H
  nx : Nx κ.B κ.H w H
  len : s.sl.length = σ.length
  val : ∀ (i : Nat) (d : D), s.sl[i]? = some (.val d) → ∃ v, σ[i]? = some (some v) ∧ Rep G w v d
  own : ∀ (i : Nat) (x : Sl), s.sl[i]? = some x → x.own = true → ∃ a, σ[i]? = some (some (.ref a)) ∧ OwnOk G w H a x ∧ w.F a = none ∧ a ∉ w.ρ ∧ κ.H a = none
  ne : ∀ (i j : Nat) (x y : Sl) (a : Addr), s.sl[i]? = some x → s.sl[j]? = some y → x.own = true → y.own = true → σ[i]? = some (some (.ref a)) → σ[j]? = some (some (.ref a)) → i = j
  gam : ∀ p ∈ κ.γ, H p.1 = some p.2 ∧ w.F p.1 = none ∧ p.1 ∉ w.ρ ∧ κ.H p.1 = none ∧ ∀ (i : Nat) (x : Sl), s.sl[i]? = some x → x.own = true → σ[i]? ≠ some (some (.ref p.1))
  me : ∀ a, κ.me = some a → ∀ c fs, s.sl[0]? = some (.oi c fs) → σ[0]? = some (some (.ref a))
theorem OwnOk.there {G : Gam} {w : Wd} {H : Hp} {a : Addr} {c : Sl} (h : OwnOk G w H a c) : ∃ o, H a = some o := by
  cases c with
  | ol xs => obtain ⟨_, h, _⟩ := h; exact ⟨_, h⟩
  | od xs => obtain ⟨_, h, _⟩ := h; exact ⟨_, h⟩
  | ot xs => obtain ⟨_, _, h, _⟩ := h; exact ⟨_, h⟩
  | oi c fs => obtain ⟨_, _, _, _, h, _⟩ := h; exact ⟨_, h⟩
  | un => exact h.elim
  | val _ => exact h.elim
theorem OwnOk.mono {G : Gam} {w w' : Wd} {H H' : Hp} {a : Addr} {c : Sl} (h : OwnOk G w H a c) (le : w.le w') (e : H' a = H a) : OwnOk G w' H' a c := by
  cases c with
  | ol xs => obtain ⟨_, h, r⟩ := h; exact ⟨_, e.trans h, r.mono le⟩
  | od xs => obtain ⟨_, h, r⟩ := h; exact ⟨_, e.trans h, r.mono le⟩
  | ot xs => exact TOk.mono h le e
  | oi c fs => obtain ⟨_, _, _, q, h, r⟩ := h; exact ⟨_, _, _, q, e.trans h, r.mono le⟩
  | un => exact h.elim
  | val _ => exact h.elim
section
variable {G : Gam} {κ : Bs} {w w' : Wd} {s : DS} {σ : L2.St} {H H' : Hp} {S' : List Cell}
/-- a step that leaves the slots as they are -/
theorem Ok.step (h : Ok G κ w s σ H) (n : Nx w H w' H') (f : FOk G w' S' H') : Ok G κ w' ⟨s.sl, S'⟩ σ H' := by
  have nF : ∀ a o, H a = some o → w.F a = none → w'.F a = none := fun a ob he h3 => by
    cases q : w'.F a with
    | none => rfl
    | some o =>
      rcases n.newF a (by rw [q]; exact fun z => nomatch z) with z | z
      · exact absurd h3 z
      · rw [he] at z; cases z
  have nR : ∀ a o, H a = some o → a ∉ w.ρ → a ∉ w'.ρ := fun a ob he h4 q => by
    rcases n.newR a q with z | z
    · exact h4 z
    · rw [he] at z; cases z
  refine ⟨f, h.nx.trans h.fok n, h.len, fun i d e => ?_, fun i x e o => ?_, h.ne, fun p hp => ?_, h.me⟩
  · obtain ⟨v, h1, h2⟩ := h.val i d e
    exact ⟨v, h1, h2.mono n.le⟩
  · obtain ⟨a, h1, h2, h3, h4, h5⟩ := h.own i x e o
    obtain ⟨ob, he⟩ := h2.there
    exact ⟨a, h1, h2.mono n.le ((n.keep a ob he h4).trans he.symm), nF a ob he h3, nR a ob he h4, h5⟩
  · obtain ⟨h1, h2, h3, h4, h5⟩ := h.gam p hp
    exact ⟨n.keep _ _ h1 h3, nF _ _ h1 h2, nR _ _ h1 h3, h4, h5⟩
/-- a new frozen object -/
theorem FOk.alloc {S : List Cell} (h : FOk G w S H) {p : Addr} (hp : H p = none) (o : HO) : FOk G ⟨upd w.F p o, w.ρ⟩ S (upd H p o) ∧ Nx w H ⟨upd w.F p o, w.ρ⟩ (upd H p o) := by
  have le : w.le ⟨upd w.F p o, w.ρ⟩ := ⟨fun a u e => by
    show upd w.F p o a = some u
    rw [upd_ne (ne_of_none (h.sub a u e) hp)]
    exact e, List.prefix_refl _⟩
  have np : p ∉ w.ρ := fun q => by
    obtain ⟨o, e⟩ := h.rho q
    rw [hp] at e; cases e
  refine ⟨⟨fun a u e => ?_, h.len, fun n a c e1 e2 => ?_, h.nd, fun a ha => ?_⟩, ⟨le, fun a u e _ => ?_, fun a q => ?_, fun a q => .inl q⟩⟩
  · by_cases z : a = p
    · subst z
      have e : upd w.F a o a = some u := e
      rw [upd_same] at e ⊢
      exact e
    · have e : upd w.F p o a = some u := e
      rw [upd_ne z] at e ⊢
      exact h.sub a u e
  · refine (h.cel n a c e1 e2).mono le (upd_ne fun z => ?_)
    subst z
    exact np (List.mem_of_getElem? e1)
  · show upd w.F p o a = none
    rw [upd_ne (show a ≠ p from fun z => np (by rw [← z]; exact ha))]
    exact h.nf a ha
  · rw [upd_ne (ne_of_none e hp)]
    exact e
  · by_cases z : a = p
    · subst z; exact .inr hp
    · have q : upd w.F p o a ≠ none := q
      rw [upd_ne z] at q
      exact .inl q
theorem Ok.alloc (h : Ok G κ w s σ H) {p : Addr} (hp : H p = none) (o : HO) : w.le ⟨upd w.F p o, w.ρ⟩ ∧ Ok G κ ⟨upd w.F p o, w.ρ⟩ s σ (upd H p o) := by
  obtain ⟨f, n⟩ := h.fok.alloc hp o
  exact ⟨n.le, h.step n f⟩
end
end DL
set_option maxRecDepth 100000
set_option maxHeartbeats 4000000
set_option autoImplicit false
namespace DL
open PySem PySem.Spec PyProof.Rows L2
/-! ### what is wanted behind a piece of code -/
def RepX (G : Gam) (w : Wd) (c : Value) (dd : Option Addr) (x : Xc) : Prop :=
  ∃ C, G.ct x.cls = some C ∧ c = .ref C ∧ ((x.fs = [] ∧ dd = none) ∨ ∃ a vs, dd = some a ∧ w.F a = some (.xd vs) ∧ RepF G w vs x.fs)
section
variable (G : Gam) (W : WX)
def PostG {α β : Type} (rep : Wd → β → α → Prop) (κ : Bs) (w : Wd) (σ : L2.St) (r : Res DS α) (Q : β → Hp → Prop) : Prop := match r with
  | .ok d s' => ∀ w' v H', w.le w' → Ok G κ w' s' σ H' → rep w' v d → Q v H'
  | .exc x s' => ∀ w' c dd H', w.le w' → Ok G κ w' s' σ H' → RepX G w' c dd x → W c dd σ H'
  | .stuck => False
def tD (f : DE) : TE := fun σ H Q => ∃ κ w s, Ok G κ w s σ H ∧ PostG G W (Rep G) κ w σ (f s) Q
def tDT (f : DT) : TT := fun σ H Q => ∃ κ w s, Ok G κ w s σ H ∧ PostG G W (fun _ (v : Bool) d => v = d) κ w σ (f s) Q
def tDA (f : DA) : TA := fun σ H Q => ∃ κ w s, Ok G κ w s σ H ∧ PostG G W (Reps G) κ w σ (f s) Q
def PostS (κ : Bs) (w : Wd) (r : Res DS Out) (N : Ends) : Prop := match r with
  | .ok .nx s' => ∀ w' σ' H', w.le w' → Ok G κ w' s' σ' H' → N.nx σ' H'
  | .ok .bk s' => ∀ w' σ' H', w.le w' → Ok G κ w' s' σ' H' → N.bk σ' H'
  | .ok .ct s' => ∀ w' σ' H', w.le w' → Ok G κ w' s' σ' H' → N.ct σ' H'
  | .ok (.rt d) s' => ∀ w' σ' v H', w.le w' → Ok G κ w' s' σ' H' → Rep G w' v d → N.rt v H'
  | .exc x s' => ∀ w' σ' c dd H', w.le w' → Ok G κ w' s' σ' H' → RepX G w' c dd x → W c dd σ' H'
  | .stuck => False
def tDS (f : DStm) : TS := fun N σ H => ∃ κ w s, Ok G κ w s σ H ∧ PostS G W κ w (f s) N
end
section
variable {G : Gam} {W : WX} {α β γ δ : Type} {rep : Wd → β → α → Prop} {rep' : Wd → δ → γ → Prop} {κ : Bs} {w w1 : Wd} {σ : L2.St}
theorem PostG.mono {r : Res DS α} {Q : β → Hp → Prop} (le : w.le w1) (h : PostG G W rep κ w σ r Q) : PostG G W rep κ w1 σ r Q := by
  cases r with
  | ok d s' => exact fun w' v H' l o r => h w' v H' (le.trans l) o r
  | exc x s' => exact fun w' c dd H' l o r => h w' c dd H' (le.trans l) o r
  | stuck => exact h
theorem PostG.imp {r : Res DS α} {Q Q' : β → Hp → Prop} (h : PostG G W rep κ w σ r Q) (k : ∀ v H, Q v H → Q' v H) : PostG G W rep κ w σ r Q' := by
  cases r with
  | ok d s' => exact fun w' v H' l o r => k _ _ (h w' v H' l o r)
  | exc x s' => exact h
  | stuck => exact h
/-- behind the first of two -/
theorem PostG.bind {r : Res DS α} {k : α → DS → Res DS γ} {Q : δ → Hp → Prop} (h : PostG G W rep' κ w σ (r.bind k) Q) :
    PostG G W rep κ w σ r (fun v H1 => ∃ d s1 w1, w.le w1 ∧ Ok G κ w1 s1 σ H1 ∧ rep w1 v d ∧ PostG G W rep' κ w1 σ (k d s1) Q) := by
  cases r with
  | ok d s' => exact fun w' v H' l o r => ⟨d, s', w', l, o, r, PostG.mono l h⟩
  | exc x s' => exact h
  | stuck => exact h
theorem PostS.mono {r : Res DS Out} {N : Ends} (le : w.le w1) (h : PostS G W κ w r N) : PostS G W κ w1 r N := by
  cases r with
  | ok o s' =>
    cases o with
    | nx => exact fun w' σ' H' l o => h w' σ' H' (le.trans l) o
    | bk => exact fun w' σ' H' l o => h w' σ' H' (le.trans l) o
    | ct => exact fun w' σ' H' l o => h w' σ' H' (le.trans l) o
    | rt d => exact fun w' σ' v H' l o r => h w' σ' v H' (le.trans l) o r
  | exc x s' => exact fun w' σ' c dd H' l o r => h w' σ' c dd H' (le.trans l) o r
  | stuck => exact h
/-- an expression, then a statement's end -/
theorem PostG.bindS {r : Res DS α} {k : α → DS → Res DS Out} {N : Ends} (h : PostS G W κ w (r.bind k) N) :
    PostG G W rep κ w σ r (fun v H1 => ∃ d s1 w1, w.le w1 ∧ Ok G κ w1 s1 σ H1 ∧ rep w1 v d ∧ PostS G W κ w1 (k d s1) N) := by
  cases r with
  | ok d s' => exact fun w' v H' l o r => ⟨d, s', w', l, o, r, PostS.mono l h⟩
  | exc x s' => exact fun w' c dd H' l o r => h w' σ c dd H' l o r
  | stuck => exact h
end
theorem _root_.L2.PE.imp {X : Cx} {e : Expr} {t t' : TE} (h : PE X e t) (k : ∀ σ H Q, t' σ H Q → t σ H Q) : PE X e t' := ⟨fun pins s σ H Q I q => h.run pins s σ H Q I (k σ H Q q)⟩
theorem _root_.L2.PT.imp {X : Cx} {e : Expr} {t t' : TT} (h : PT X e t) (k : ∀ σ H Q, t' σ H Q → t σ H Q) : PT X e t' := ⟨fun pins s σ H Q I q => h.run pins s σ H Q I (k σ H Q q)⟩
theorem _root_.L2.PA.imp {X : Cx} {e : List Expr} {t t' : TA} (h : PA X e t) (k : ∀ σ H Q, t' σ H Q → t σ H Q) : PA X e t' := ⟨fun pos pins s σ H Q I q => h.run pos pins s σ H Q I (k σ H Q q)⟩
theorem _root_.L2.PS.imp {X : Cx} {e : Stmt} {t t' : TS} (h : PS X e t) (k : ∀ D σ H, t' D σ H → t D σ H) : PS X e t' := ⟨fun pins s σ H D I q => h.run pins s σ H D I (k D σ H q)⟩
theorem _root_.L2.PSs.imp {X : Cx} {e : List Stmt} {t t' : TS} (h : PSs X e t) (k : ∀ D σ H, t' D σ H → t D σ H) : PSs X e t' := ⟨fun pins s σ H D I q => h.run pins s σ H D I (k D σ H q)⟩
abbrev PD (G : Gam) (W : WX) (X : Cx) (e : Expr) (f : DE) : Prop := PE X e (tD G W f)
abbrev PDT (G : Gam) (W : WX) (X : Cx) (e : Expr) (f : DT) : Prop := PT X e (tDT G W f)
abbrev PDA (G : Gam) (W : WX) (X : Cx) (es : List Expr) (f : DA) : Prop := PA X es (tDA G W f)
abbrev PDS (G : Gam) (W : WX) (X : Cx) (st : Stmt) (f : DStm) : Prop := PS X st (tDS G W f)
abbrev PDSs (G : Gam) (W : WX) (X : Cx) (st : List Stmt) (f : DStm) : Prop := PSs X st (tDS G W f)
section
variable {G : Gam} {W : WX} {X : Cx}
/-! ### constants, names -/
def eC (d : D) : DE := fun s => .ok d s
theorem pd_c {e : Expr} {v : V} {d : D} (h : PE X e (tC v)) (r : ∀ w, Rep G w v d) : PD G W X e (eC d) :=
  h.imp fun σ H Q ⟨κ, w, s, ok, q⟩ => q w v H (.refl w) ok (r w)
theorem pd_int {i : Int} {j : Nat} {pos : Pos} : PD G W X (.Constant (.int i) j pos) (eC (.int i)) := pd_c pe_int fun _ => .int i
theorem pd_bl {b : Bool} {j : Nat} {pos : Pos} : PD G W X (.Constant (.bool b) j pos) (eC (.bl b)) := pd_c pe_bl fun _ => .bl b
theorem pd_non {j : Nat} {pos : Pos} : PD G W X (.Constant .none j pos) (eC .non) := pd_c pe_non fun _ => .non
theorem pd_str {x : Str} {l : Nm} {j : Nat} {pos : Pos} (h : x = nm l) : PD G W X (.Constant (.str x) j pos) (eC (.str l)) := pd_c pe_str fun _ => by rw [h]; exact .str l
theorem pd_glob {x : Str} {v : V} {u : Value} {d : D} {pos : Pos} (hg : Gl X x) (hm : X.mg x = some u) (r : RelV v u) (rd : ∀ w, Rep G w v d) (hd : (x == ("__debug__" : Str)) = false := by decide) : PD G W X (.Name x pos) (eC d) :=
  pd_c (pe_glob hg hm r hd) rd
def eVar (i : Nat) : DE := fun s => match s.sl[i]? with
  | some (.val d) => .ok d s
  | some (.ol xs) => .ok (.lst xs) ⟨s.sl.set i (.val (.lst xs)), s.st⟩
  | some (.od kvs) => .ok (.dic kvs) ⟨s.sl.set i (.val (.dic kvs)), s.st⟩
  | some (.ot kvs) => .ok (.dct kvs) ⟨s.sl.set i (.val (.dct kvs)), s.st⟩
  | some (.oi c fs) => .ok (.ins c fs) ⟨s.sl.set i (.val (.ins c fs)), s.st⟩
  | _ => .stuck
theorem Ok.freeze {κ : Bs} {w : Wd} {s : DS} {σ : L2.St} {H : Hp} (h : Ok G κ w s σ H) {i : Nat} {x : Sl} {a : Addr} {o : HO} {d : D} (hx : s.sl[i]? = some x) (own : x.own = true) (ha : σ[i]? = some (some (.ref a)))
    (ho : H a = some o) (hd : ∀ w' : Wd, w.le w' → w'.F a = some o → Rep G w' (.ref a) d) :
    w.le ⟨upd w.F a o, w.ρ⟩ ∧ Ok G κ ⟨upd w.F a o, w.ρ⟩ ⟨s.sl.set i (.val d), s.st⟩ σ H := by
  obtain ⟨a', h1, h2, h3, h4, h5⟩ := h.own i x hx own
  rw [ha] at h1
  cases h1
  have le : w.le ⟨upd w.F a o, w.ρ⟩ := ⟨fun b u e => by
    show upd w.F a o b = some u
    rw [upd_ne (ne_of_none e h3)]
    exact e, List.prefix_refl _⟩
  have hil : i < s.sl.length := (List.getElem?_eq_some_iff.mp hx).1
  have sub : ∀ (b : Addr) (u : HO), upd w.F a o b = some u → H b = some u := fun b u e => by
    by_cases z : b = a
    · subst z
      rw [upd_same] at e
      cases e
      exact ho
    · rw [upd_ne z] at e
      exact h.fok.sub b u e
  have fok : FOk G ⟨upd w.F a o, w.ρ⟩ s.st H := ⟨sub, h.fok.len, fun n b c e1 e2 => (h.fok.cel n b c e1 e2).mono le rfl, h.fok.nd, fun b hb => by
    show upd w.F a o b = none
    rw [upd_ne (show b ≠ a from fun z => h4 (by rw [← z]; exact hb))]
    exact h.fok.nf b hb⟩
  refine ⟨le, ⟨fok, ⟨h.nx.le.trans le, h.nx.keep, fun b q => ?_, h.nx.newR⟩, by rw [List.length_set]; exact h.len, fun j e hj => ?_, fun j y hj oy => ?_, fun j k y z b hj hk oy oz e1 e2 => ?_, fun p hp => ?_, fun b hb c fs e => ?_⟩⟩
  · by_cases z : b = a
    · subst z; exact .inr h5
    · have q : upd w.F a o b ≠ none := q
      rw [upd_ne z] at q
      exact h.nx.newF b q
  · by_cases z : j = i
    · subst z
      rw [List.getElem?_set_self hil] at hj
      cases hj
      exact ⟨_, ha, hd _ le upd_same⟩
    · rw [List.getElem?_set_ne (Ne.symm z)] at hj
      obtain ⟨v, q1, q2⟩ := h.val j e hj
      exact ⟨v, q1, q2.mono le⟩
  · by_cases z : j = i
    · subst z
      rw [List.getElem?_set_self hil] at hj
      cases hj
      cases oy
    · rw [List.getElem?_set_ne (Ne.symm z)] at hj
      obtain ⟨b, q1, q2, q3, q4, q5⟩ := h.own j y hj oy
      refine ⟨b, q1, q2.mono le rfl, ?_, q4, q5⟩
      show upd w.F a o b = none
      rw [upd_ne (show b ≠ a from fun e => z (h.ne j i y x b hj hx oy own q1 (by rw [e]; exact ha)))]
      exact q3
  · have nj : j ≠ i := fun z => by
      subst z
      rw [List.getElem?_set_self hil] at hj
      cases hj
      cases oy
    have nk : k ≠ i := fun z => by
      subst z
      rw [List.getElem?_set_self hil] at hk
      cases hk
      cases oz
    rw [List.getElem?_set_ne (Ne.symm nj)] at hj
    rw [List.getElem?_set_ne (Ne.symm nk)] at hk
    exact h.ne j k y z b hj hk oy oz e1 e2
  · obtain ⟨q1, q2, q3, q4, q5⟩ := h.gam p hp
    refine ⟨q1, ?_, q3, q4, fun j y hj oy => ?_⟩
    · show upd w.F a o p.1 = none
      rw [upd_ne (show p.1 ≠ a from fun e => q5 i x hx own (by rw [ha, e]))]
      exact q2
    · have nj : j ≠ i := fun z => by
        subst z
        rw [List.getElem?_set_self hil] at hj
        cases hj
        cases oy
      rw [List.getElem?_set_ne (Ne.symm nj)] at hj
      exact q5 j y hj oy
  · by_cases z : i = 0
    · subst z
      rw [List.getElem?_set_self hil] at e
      cases e
    · rw [List.getElem?_set_ne z] at e
      exact h.me b hb c fs e
theorem pd_var {i : Nat} {x : Str} {pos : Pos} (h : PE X (.Name x pos) (tVar i)) : PD G W X (.Name x pos) (eVar i) := h.imp fun σ H Q ⟨κ, w, s, ok, q⟩ => by
  unfold eVar at q
  cases e : s.sl[i]? with
  | none => rw [e] at q; exact q.elim
  | some x =>
    rw [e] at q
    cases x with
    | un => exact q.elim
    | val d =>
      obtain ⟨v, h1, h2⟩ := ok.val i d e
      exact ⟨v, h1, q w v H (.refl w) ok h2⟩
    | ol xs =>
      obtain ⟨a, h1, ⟨vs, h2, h3⟩, _⟩ := ok.own i _ e rfl
      obtain ⟨le, ok'⟩ := ok.freeze (d := .lst xs) e rfl h1 h2 fun w' l f => .lst f (h3.mono l)
      exact ⟨_, h1, q _ _ H le ok' (.lst upd_same (h3.mono le))⟩
    | od xs =>
      obtain ⟨a, h1, ⟨vs, h2, h3⟩, _⟩ := ok.own i _ e rfl
      obtain ⟨le, ok'⟩ := ok.freeze (d := .dic xs) e rfl h1 h2 fun w' l f => .dic f (h3.mono l)
      exact ⟨_, h1, q _ _ H le ok' (.dic upd_same (h3.mono le))⟩
    | ot xs =>
      obtain ⟨a, h1, ⟨es, ep, h2, h3, h4, h5⟩, _⟩ := ok.own i _ e rfl
      obtain ⟨le, ok'⟩ := ok.freeze (d := .dct xs) e rfl h1 h2 fun w' l f => .dct f (h3.mono l) h4 h5
      exact ⟨_, h1, q _ _ H le ok' (.dct upd_same (h3.mono le) h4 h5)⟩
    | oi c fs =>
      obtain ⟨a, h1, ⟨C, dx, vs, hC, h2, h3⟩, _⟩ := ok.own i _ e rfl
      obtain ⟨le, ok'⟩ := ok.freeze (d := .ins c fs) e rfl h1 h2 fun w' l f => .ins hC f (h3.mono l)
      exact ⟨_, h1, q _ _ H le ok' (.ins hC upd_same (h3.mono le))⟩
/-! ### operators -/
def eOp2 (o : D → D → Option D) (fa fb : DE) : DE := fun s => (fa s).bind fun x s1 => (fb s1).bind fun y s2 => match o x y with
  | some d => .ok d s2
  | none => .stuck
/-- an operator by data -/
def OpD (G : Gam) (X : Cx) (f : Value → Value → Sem Value) (o : D → D → Option D) : Prop := ∃ r, OpR X f r ∧ ∀ (κ : Bs) (w : Wd) (s : DS) (σ : L2.St) (H : Hp) (x y : V) (dx dy d : D) (Q : VK),
  Ok G κ w s σ H → Rep G w x dx → Rep G w y dy → o dx dy = some d → (∀ w' v H', w.le w' → Ok G κ w' s σ H' → Rep G w' v d → Q v H') → r x y H Q
theorem op2 {r : R2} {o : D → D → Option D} {fa fb : DE} {σ : L2.St} {H : Hp} {Q : VK}
    (hr : ∀ (κ : Bs) (w : Wd) (s : DS) (σ : L2.St) (H : Hp) (x y : V) (dx dy d : D) (Q : VK), Ok G κ w s σ H → Rep G w x dx → Rep G w y dy → o dx dy = some d → (∀ w' v H', w.le w' → Ok G κ w' s σ H' → Rep G w' v d → Q v H') → r x y H Q)
    (h : tD G W (eOp2 o fa fb) σ H Q) : tOp r (tD G W fa) (tD G W fb) σ H Q := by
  obtain ⟨κ, w, s, ok, q⟩ := h
  refine ⟨κ, w, s, ok, (PostG.bind q).imp fun v H1 ⟨d, s1, w1, le, ok1, r1, q1⟩ => ?_⟩
  refine ⟨κ, w1, s1, ok1, (PostG.bind q1).imp fun v2 H2 ⟨d2, s2, w2, le2, ok2, r2, q2⟩ => ?_⟩
  cases e : o d d2 with
  | none => rw [e] at q2; exact q2.elim
  | some z => rw [e] at q2; exact hr κ w2 s2 σ H2 v v2 d d2 z Q ok2 (r1.mono le2) r2 e q2
theorem pd_op {op : Operator} {o : D → D → Option D} {a b : Expr} {fa fb : DE} {pos : Pos} (ho : OpD G X (binaryOp op) o) (ha : PD G W X a fa) (hb : PD G W X b fb) : PD G W X (.BinOp a op b pos) (eOp2 o fa fb) := by
  obtain ⟨r, h1, h2⟩ := ho
  exact (pe_op h1 ha hb).imp fun σ H Q h => op2 h2 h
theorem pd_cmp {op : CmpOp} {o : D → D → Option D} {a b : Expr} {fa fb : DE} {pos : Pos} (ho : OpD G X (compareOp op) o) (ha : PD G W X a fa) (hb : PD G W X b fb) (hm : behindInMarks op b = false) : PD G W X (.Compare a [op] [b] pos) (eOp2 o fa fb) := by
  obtain ⟨r, h1, h2⟩ := ho
  exact (pe_cmpR h1 ha hb hm).imp fun σ H Q h => op2 h2 h
/-- a value that is a bool, as a test -/
def eB (f : DE) : DT := fun s => (f s).bind fun d s1 => match d with
  | .bl b => .ok b s1
  | _ => .stuck
theorem tB_of {f : DE} {σ : L2.St} {H : Hp} {Q : Bool → Hp → Prop} (h : tDT G W (eB f) σ H Q) : tD G W f σ H fun x H1 => ∃ c, x = .bl c ∧ Q c H1 := by
  obtain ⟨κ, w, s, ok, q⟩ := h
  refine ⟨κ, w, s, ok, (PostG.bind q).imp fun v H1 ⟨d, s1, w1, le, ok1, r1, q1⟩ => ?_⟩
  cases r1 with
  | bl b => exact ⟨b, rfl, q1 w1 b H1 (.refl _) ok1 rfl⟩
  | _ => exact q1.elim
theorem ptd_val {e : Expr} {f : DE} (h : PD G W X e f) (he : ∀ whole, isTrue e X.env whole = (do let v ← whole; standAt e.pos; holding [v] (truthy v)) := by intro _; rfl) : PDT G W X e (eB f) :=
  (pt_val h he).imp fun σ H Q q => tB_of q
theorem ptd_cmp {op : CmpOp} {o : D → D → Option D} {a b : Expr} {fa fb : DE} {pos : Pos} (ho : OpD G X (compareOp op) o) (ha : PD G W X a fa) (hb : PD G W X b fb) (hm : behindInMarks op b = false) : PDT G W X (.Compare a [op] [b] pos) (eB (eOp2 o fa fb)) := by
  obtain ⟨r, h1, h2⟩ := ho
  exact (pt_cmpR h1 ha hb hm).imp fun σ H Q h => op2 h2 (tB_of h)
/-! ### and, or, not, if -/
def bAnd (f g : DT) : DT := fun s => (f s).bind fun b s1 => if b = true then g s1 else .ok false s1
def bOr (f g : DT) : DT := fun s => (f s).bind fun b s1 => if b = true then .ok true s1 else g s1
def bNot (f : DT) : DT := fun s => (f s).bind fun b s1 => .ok (!b) s1
abbrev PDW (G : Gam) (W : WX) (X : Cx) (e : Expr) (f : DT) : Prop := PW X e (tDT G W f)
theorem _root_.L2.PW.imp {X : Cx} {e : Expr} {t t' : TT} (h : PW X e t) (k : ∀ σ H Q, t' σ H Q → t σ H Q) : PW X e t' := ⟨fun wh pins s σ H Q I q => h.run wh pins s σ H Q I (k σ H Q q)⟩
theorem pwd_and1 {a : Expr} {f : DT} {pos : Pos} (h : PDT G W X a f) : PDW G W X (.BoolOp .And [a] pos) f := pw_and1 h
theorem pwd_or1 {a : Expr} {f : DT} {pos : Pos} (h : PDT G W X a f) : PDW G W X (.BoolOp .Or [a] pos) f := pw_or1 h
theorem pwd_and {a b : Expr} {r : List Expr} {f g : DT} {pos : Pos} (h : PDT G W X a f) (k : PDW G W X (.BoolOp .And (b :: r) pos) g) : PDW G W X (.BoolOp .And (a :: b :: r) pos) (bAnd f g) :=
  (pw_and h k).imp fun σ H Q ⟨κ, w, s, ok, q⟩ => ⟨κ, w, s, ok, (PostG.bind q).imp fun v H1 ⟨d, s1, w1, le, ok1, r1, q1⟩ => by
    subst r1
    cases v with
    | true => exact ⟨κ, w1, s1, ok1, q1⟩
    | false => exact q1 w1 false H1 (.refl _) ok1 rfl⟩
theorem pwd_or {a b : Expr} {r : List Expr} {f g : DT} {pos : Pos} (h : PDT G W X a f) (k : PDW G W X (.BoolOp .Or (b :: r) pos) g) : PDW G W X (.BoolOp .Or (a :: b :: r) pos) (bOr f g) :=
  (pw_or h k).imp fun σ H Q ⟨κ, w, s, ok, q⟩ => ⟨κ, w, s, ok, (PostG.bind q).imp fun v H1 ⟨d, s1, w1, le, ok1, r1, q1⟩ => by
    subst r1
    cases v with
    | false => exact ⟨κ, w1, s1, ok1, q1⟩
    | true => exact q1 w1 true H1 (.refl _) ok1 rfl⟩
theorem ptd_not {a : Expr} {f : DT} {pos : Pos} (h : PDT G W X a f) : PDT G W X (.UnaryOp .Not a pos) (bNot f) :=
  (pt_not h).imp fun σ H Q ⟨κ, w, s, ok, q⟩ => ⟨κ, w, s, ok, (PostG.bind q).imp fun v H1 ⟨d, s1, w1, le, ok1, r1, q1⟩ => by
    subst r1
    exact q1 w1 _ H1 (.refl _) ok1 rfl⟩
/-- as values -/
def eAnd (f g : DE) : DE := fun s => (f s).bind fun d s1 => match d with
  | .bl b => if b = true then g s1 else .ok (.bl false) s1
  | _ => .stuck
def eOr (f g : DE) : DE := fun s => (f s).bind fun d s1 => match d with
  | .bl b => if b = true then .ok (.bl true) s1 else g s1
  | _ => .stuck
def eNot (f : DE) : DE := fun s => (f s).bind fun d s1 => match d with
  | .bl b => .ok (.bl (!b)) s1
  | _ => .stuck
theorem pd_one {op : PySem.BoolOp} {a : Expr} {f : DE} {pos : Pos} (h : PD G W X a f) : PD G W X (.BoolOp op [a] pos) f := pe_one h
theorem pd_and {a b : Expr} {r : List Expr} {f g : DE} {pos : Pos} (h : PD G W X a f) (k : PD G W X (.BoolOp .And (b :: r) pos) g) : PD G W X (.BoolOp .And (a :: b :: r) pos) (eAnd f g) :=
  (pe_and h k).imp fun σ H Q ⟨κ, w, s, ok, q⟩ => ⟨κ, w, s, ok, (PostG.bind q).imp fun v H1 ⟨d, s1, w1, le, ok1, r1, q1⟩ => by
    cases r1 with
    | bl b =>
      refine ⟨b, rfl, ?_⟩
      cases b with
      | true => exact ⟨κ, w1, s1, ok1, q1⟩
      | false => exact q1 w1 _ H1 (.refl _) ok1 (.bl false)
    | _ => exact q1.elim⟩
theorem pd_or {a b : Expr} {r : List Expr} {f g : DE} {pos : Pos} (h : PD G W X a f) (k : PD G W X (.BoolOp .Or (b :: r) pos) g) : PD G W X (.BoolOp .Or (a :: b :: r) pos) (eOr f g) :=
  (pe_or h k).imp fun σ H Q ⟨κ, w, s, ok, q⟩ => ⟨κ, w, s, ok, (PostG.bind q).imp fun v H1 ⟨d, s1, w1, le, ok1, r1, q1⟩ => by
    cases r1 with
    | bl b =>
      refine ⟨b, rfl, ?_⟩
      cases b with
      | false => exact ⟨κ, w1, s1, ok1, q1⟩
      | true => exact q1 w1 _ H1 (.refl _) ok1 (.bl true)
    | _ => exact q1.elim⟩
theorem pd_not {a : Expr} {f : DE} {pos : Pos} (h : PD G W X a f) : PD G W X (.UnaryOp .Not a pos) (eNot f) :=
  (pe_not h).imp fun σ H Q ⟨κ, w, s, ok, q⟩ => ⟨κ, w, s, ok, (PostG.bind q).imp fun v H1 ⟨d, s1, w1, le, ok1, r1, q1⟩ => by
    cases r1 with
    | bl b => exact ⟨b, rfl, q1 w1 _ H1 (.refl _) ok1 (.bl _)⟩
    | _ => exact q1.elim⟩
def eIf (c : DT) (f g : DE) : DE := fun s => (c s).bind fun b s1 => if b = true then f s1 else g s1
theorem pd_ifExp {c a b : Expr} {fc : DT} {f g : DE} {pos : Pos} (hc : PDT G W X c fc) (h : PD G W X a f) (k : PD G W X b g) : PD G W X (.IfExp c a b pos) (eIf fc f g) :=
  (pe_ifExp hc h k).imp fun σ H Q ⟨κ, w, s, ok, q⟩ => ⟨κ, w, s, ok, (PostG.bind q).imp fun v H1 ⟨d, s1, w1, le, ok1, r1, q1⟩ => by
    subst r1
    cases v with
    | true => exact ⟨κ, w1, s1, ok1, q1⟩
    | false => exact ⟨κ, w1, s1, ok1, q1⟩⟩
/-! ### argument lists -/
def aNil : DA := fun s => .ok [] s
def aCons (f : DE) (g : DA) : DA := fun s => (f s).bind fun d s1 => (g s1).bind fun ds s2 => .ok (d :: ds) s2
theorem pda_nil : PDA G W X [] aNil := pa_nil.imp fun σ H Q ⟨κ, w, s, ok, q⟩ => q w [] H (.refl _) ok .nil
theorem pda_cons {e : Expr} {es : List Expr} {f : DE} {g : DA} (h : PD G W X e f) (k : PDA G W X es g) (hs : starEach (e :: es) X.env = (false, eval e X.env) :: starEach es X.env := by rfl) : PDA G W X (e :: es) (aCons f g) :=
  (pa_cons h k hs).imp fun σ H Q ⟨κ, w, s, ok, q⟩ => ⟨κ, w, s, ok, (PostG.bind q).imp fun v H1 ⟨d, s1, w1, le, ok1, r1, q1⟩ =>
    ⟨κ, w1, s1, ok1, (PostG.bind q1).imp fun v2 H2 ⟨d2, s2, w2, le2, ok2, r2, q2⟩ => q2 w2 _ H2 (.refl _) ok2 (.cons (r1.mono le2) r2)⟩⟩
/-! ### tuples, lists -/
def eTup (g : DA) : DE := fun s => (g s).bind fun ds s1 => if ds.length ≤ 1000 then .ok (.tup ds) s1 else .stuck
theorem sz1000 {n : Nat} (h : n ≤ 1000) : n ≤ sizeLine := Nat.le_of_lt (small1000 h)
theorem pd_tup {es : List Expr} {k : Nat} {g : DA} {pos : Pos} (h : PDA G W X es g) : PD G W X (.Tuple es k pos) (eTup g) :=
  (pe_tup h).imp fun σ H Q ⟨κ, w, s, ok, q⟩ => ⟨κ, w, s, ok, (PostG.bind q).imp fun v H1 ⟨d, s1, w1, le, ok1, r1, q1⟩ => by
    by_cases c : d.length ≤ 1000
    · rw [if_pos c] at q1
      refine ⟨by rw [r1.length]; exact sz1000 c, fun p hp => ?_⟩
      obtain ⟨le2, ok2⟩ := ok1.alloc hp (.tup v)
      exact q1 _ _ _ le2 ok2 (.tup (.inl (.inl upd_same)) (r1.mono le2))
    · rw [if_neg c] at q1
      exact q1.elim⟩
end
end DL
set_option maxRecDepth 100000
set_option maxHeartbeats 4000000
set_option autoImplicit false
namespace DL
open PySem PySem.Spec PyProof.Rows L2
section
variable {G : Gam} {W : WX} {X : Cx} {κ : Bs} {w : Wd} {s : DS} {σ : L2.St} {H : Hp}
/-- an object set apart -/
abbrev Bs.plus (κ : Bs) (a : Addr) (o : HO) : Bs := ⟨κ.B, κ.H, (a, o) :: κ.γ, κ.me⟩
theorem Ok.back (h : Ok G κ w s σ H) {p : Addr} (hp : H p = none) : κ.H p = none := by
  cases e : κ.H p with
  | none => rfl
  | some o =>
    by_cases hx : p ∈ κ.B.ρ
    · obtain ⟨o', q⟩ := h.fok.rho (h.nx.le.r.subset hx)
      rw [q] at hp; cases hp
    · rw [h.nx.keep p o e hx] at hp; cases hp
/-- a new object, set apart -/
theorem Ok.fresh (h : Ok G κ w s σ H) {p : Addr} (hp : H p = none) (o : HO) : Ok G (κ.plus p o) w s σ (upd H p o) := by
  have ne : ∀ {a : Addr} {u : HO}, H a = some u → a ≠ p := fun e => ne_of_none e hp
  have nF : w.F p = none := by
    cases e : w.F p with
    | none => rfl
    | some u => rw [h.fok.sub p u e] at hp; cases hp
  have nR : p ∉ w.ρ := fun q => by
    obtain ⟨u, e⟩ := h.fok.rho q
    rw [e] at hp; cases hp
  refine ⟨⟨fun a u e => ?_, h.fok.len, fun n a c e1 e2 => ?_, h.fok.nd, h.fok.nf⟩, ⟨h.nx.le, fun a u e n => ?_, h.nx.newF, h.nx.newR⟩, h.len, h.val, fun i x e o' => ?_, h.ne, fun q hq => ?_, h.me⟩
  · rw [upd_ne (ne (h.fok.sub a u e))]
    exact h.fok.sub a u e
  · obtain ⟨u, q⟩ := (h.fok.cel n a c e1 e2).there
    exact (h.fok.cel n a c e1 e2).mono (.refl _) (upd_ne (ne q))
  · rw [upd_ne (ne (h.nx.keep a u e n))]
    exact h.nx.keep a u e n
  · obtain ⟨a, h1, h2, h3, h4, h5⟩ := h.own i x e o'
    obtain ⟨u, q⟩ := h2.there
    exact ⟨a, h1, h2.mono (.refl _) (upd_ne (ne q)), h3, h4, h5⟩
  · rcases List.mem_cons.mp hq with rfl | hq
    · refine ⟨upd_same, nF, nR, h.back hp, fun i x e o' z => ?_⟩
      obtain ⟨a, h1, h2, _⟩ := h.own i x e o'
      rw [h1] at z
      cases z
      obtain ⟨u, q⟩ := h2.there
      exact ne q rfl
    · obtain ⟨h1, h2⟩ := h.gam q hq
      exact ⟨by rw [upd_ne (ne h1)]; exact h1, h2⟩
theorem Ok.unplus {a : Addr} {o : HO} (h : Ok G (κ.plus a o) w s σ H) : Ok G κ w s σ H := ⟨h.fok, h.nx, h.len, h.val, h.own, h.ne, fun p hp => h.gam p (List.mem_cons_of_mem _ hp), h.me⟩
/-- what was set apart is frozen (its address is not set apart twice) -/
theorem Ok.frz {a : Addr} {o : HO} (h : Ok G (κ.plus a o) w s σ H) (hγ : ∀ p ∈ κ.γ, p.1 ≠ a) : w.le ⟨upd w.F a o, w.ρ⟩ ∧ Ok G κ ⟨upd w.F a o, w.ρ⟩ s σ H := by
  obtain ⟨ho, h3, h4, h5, h6⟩ := h.gam (a, o) List.mem_cons_self
  have le : w.le ⟨upd w.F a o, w.ρ⟩ := ⟨fun b u e => by
    show upd w.F a o b = some u
    rw [upd_ne (ne_of_none e h3)]
    exact e, List.prefix_refl _⟩
  have sub : ∀ (b : Addr) (u : HO), upd w.F a o b = some u → H b = some u := fun b u e => by
    by_cases z : b = a
    · subst z
      rw [upd_same] at e
      cases e
      exact ho
    · rw [upd_ne z] at e
      exact h.fok.sub b u e
  refine ⟨le, ⟨⟨sub, h.fok.len, fun n b c e1 e2 => (h.fok.cel n b c e1 e2).mono le rfl, h.fok.nd, fun b hb => ?_⟩, ⟨h.nx.le.trans le, h.nx.keep, fun b q => ?_, h.nx.newR⟩, h.len, fun i d e => ?_, fun i x e o' => ?_, h.ne, fun p hp => ?_, h.me⟩⟩
  · show upd w.F a o b = none
    rw [upd_ne (show b ≠ a from fun z => h4 (by rw [← z]; exact hb))]
    exact h.fok.nf b hb
  · by_cases z : b = a
    · subst z; exact .inr h5
    · have q : upd w.F a o b ≠ none := q
      rw [upd_ne z] at q
      exact h.nx.newF b q
  · obtain ⟨v, h1, h2⟩ := h.val i d e
    exact ⟨v, h1, h2.mono le⟩
  · obtain ⟨b, q1, q2, q3, q4, q5⟩ := h.own i x e o'
    refine ⟨b, q1, q2.mono le rfl, ?_, q4, q5⟩
    show upd w.F a o b = none
    rw [upd_ne (show b ≠ a from fun z => h6 i x e o' (by rw [q1, z]))]
    exact q3
  · obtain ⟨q1, q2, q3⟩ := h.gam p (List.mem_cons_of_mem _ hp)
    refine ⟨q1, ?_, q3⟩
    show upd w.F a o p.1 = none
    rw [upd_ne (hγ p hp)]
    exact q2
/-- a slot is set -/
theorem Ok.setVal (h : Ok G κ w s σ H) {v : V} {d : D} (r : Rep G w v d) (i : Nat) : Ok G κ w ⟨s.sl.set i (.val d), s.st⟩ (σ.set i (some v)) H := by
  have back : ∀ (j : Nat) (x : Sl), (s.sl.set i (.val d))[j]? = some x → (j = i ∧ x = .val d ∧ i < s.sl.length) ∨ (j ≠ i ∧ s.sl[j]? = some x) := fun j x e => by
    by_cases z : j = i
    · subst z
      have hl : j < s.sl.length := by
        have := (List.getElem?_eq_some_iff.mp e).1
        rwa [List.length_set] at this
      rw [List.getElem?_set_self hl] at e
      exact .inl ⟨rfl, (Option.some.inj e).symm, hl⟩
    · rw [List.getElem?_set_ne (Ne.symm z)] at e
      exact .inr ⟨z, e⟩
  refine ⟨h.fok, h.nx, by rw [List.length_set, List.length_set]; exact h.len, fun j e hj => ?_, fun j x hj o => ?_, fun j k x y a hj hk ox oy e1 e2 => ?_, fun p hp => ?_, fun b hb c fs e => ?_⟩
  · rcases back j _ hj with ⟨rfl, q, hl⟩ | ⟨z, hj⟩
    · cases q
      exact ⟨v, List.getElem?_set_self (by rw [← h.len]; exact hl), r⟩
    · rw [List.getElem?_set_ne (Ne.symm z)]
      exact h.val j e hj
  · rcases back j _ hj with ⟨rfl, q, hl⟩ | ⟨z, hj⟩
    · subst q; cases o
    · rw [List.getElem?_set_ne (Ne.symm z)]
      exact h.own j x hj o
  · rcases back j _ hj with ⟨rfl, q, hl⟩ | ⟨z, hj⟩
    · subst q; cases ox
    · rcases back k _ hk with ⟨rfl, q, hl⟩ | ⟨z', hk⟩
      · subst q; cases oy
      · rw [List.getElem?_set_ne (Ne.symm z)] at e1
        rw [List.getElem?_set_ne (Ne.symm z')] at e2
        exact h.ne j k x y a hj hk ox oy e1 e2
  · obtain ⟨q1, q2, q3, q4, q5⟩ := h.gam p hp
    refine ⟨q1, q2, q3, q4, fun j x hj o => ?_⟩
    rcases back j _ hj with ⟨rfl, q, hl⟩ | ⟨z, hj⟩
    · subst q; cases o
    · rw [List.getElem?_set_ne (Ne.symm z)]
      exact q5 j x hj o
  · rcases back 0 _ e with ⟨z, q, hl⟩ | ⟨z, e⟩
    · cases q
    · rw [List.getElem?_set_ne (Ne.symm z)]
      exact h.me b hb c fs e
/-- a slot gets what was set apart -/
theorem Ok.setOwn {a : Addr} {o : HO} (h : Ok G (κ.plus a o) w s σ H) (hγ : ∀ p ∈ κ.γ, p.1 ≠ a) {y : Sl} (hy : OwnOk G w H a y) (oy : y.own = true) (hy0 : ∀ c fs, y ≠ .oi c fs) (i : Nat) : Ok G κ w ⟨s.sl.set i y, s.st⟩ (σ.set i (some (.ref a))) H := by
  obtain ⟨ho, h3, h4, h5, h6⟩ := h.gam (a, o) List.mem_cons_self
  have back : ∀ (j : Nat) (x : Sl), (s.sl.set i y)[j]? = some x → (j = i ∧ x = y ∧ i < s.sl.length) ∨ (j ≠ i ∧ s.sl[j]? = some x) := fun j x e => by
    by_cases z : j = i
    · subst z
      have hl : j < s.sl.length := by
        have := (List.getElem?_eq_some_iff.mp e).1
        rwa [List.length_set] at this
      rw [List.getElem?_set_self hl] at e
      exact .inl ⟨rfl, (Option.some.inj e).symm, hl⟩
    · rw [List.getElem?_set_ne (Ne.symm z)] at e
      exact .inr ⟨z, e⟩
  refine ⟨h.fok, h.nx, by rw [List.length_set, List.length_set]; exact h.len, fun j e hj => ?_, fun j x hj o' => ?_, fun j k x z b hj hk ox oz e1 e2 => ?_, fun p hp => ?_, fun b hb c fs e => ?_⟩
  · rcases back j _ hj with ⟨rfl, q, hl⟩ | ⟨z, hj⟩
    · subst q; cases oy
    · rw [List.getElem?_set_ne (Ne.symm z)]
      exact h.val j e hj
  · rcases back j _ hj with ⟨rfl, q, hl⟩ | ⟨z, hj⟩
    · subst q
      exact ⟨a, List.getElem?_set_self (by rw [← h.len]; exact hl), hy, h3, h4, h5⟩
    · rw [List.getElem?_set_ne (Ne.symm z)]
      exact h.own j x hj o'
  · rcases back j _ hj with ⟨ej, q, hl⟩ | ⟨zj, hj⟩
    · rcases back k _ hk with ⟨ek, q', hl'⟩ | ⟨zk, hk⟩
      · rw [ej, ek]
      · rw [ej, List.getElem?_set_self (by rw [← h.len]; exact hl)] at e1
        cases e1
        rw [List.getElem?_set_ne (Ne.symm zk)] at e2
        exact absurd e2 (h6 k z hk oz)
    · rcases back k _ hk with ⟨ek, q', hl'⟩ | ⟨zk, hk⟩
      · rw [ek, List.getElem?_set_self (by rw [← h.len]; exact hl')] at e2
        cases e2
        rw [List.getElem?_set_ne (Ne.symm zj)] at e1
        exact absurd e1 (h6 j x hj ox)
      · rw [List.getElem?_set_ne (Ne.symm zj)] at e1
        rw [List.getElem?_set_ne (Ne.symm zk)] at e2
        exact h.ne j k x z b hj hk ox oz e1 e2
  · obtain ⟨q1, q2, q3, q4, q5⟩ := h.gam p (List.mem_cons_of_mem _ hp)
    refine ⟨q1, q2, q3, q4, fun j x hj o' => ?_⟩
    rcases back j _ hj with ⟨ej, q, hl⟩ | ⟨z, hj⟩
    · rw [ej, List.getElem?_set_self (by rw [← h.len]; exact hl)]
      exact fun e => hγ p hp (by cases e; rfl)
    · rw [List.getElem?_set_ne (Ne.symm z)]
      exact q5 j x hj o'
  · rcases back 0 _ e with ⟨z, q, hl⟩ | ⟨z, e⟩
    · exact absurd q.symm (hy0 c fs)
    · rw [List.getElem?_set_ne (Ne.symm z)]
      exact h.me b hb c fs e
/-- the thing of an own slot is changed -/
theorem Ok.mut (h : Ok G κ w s σ H) {i : Nat} {x y : Sl} {a : Addr} {o : HO} (hx : s.sl[i]? = some x) (ox : x.own = true) (oy : y.own = true) (ha : σ[i]? = some (some (.ref a))) (hy : OwnOk G w (upd H a o) a y) (hxy : ∀ c fs, y = .oi c fs → ∃ c' fs', x = .oi c' fs') :
    Ok G κ w ⟨s.sl.set i y, s.st⟩ σ (upd H a o) := by
  obtain ⟨a', h1, h2, h3, h4, h5⟩ := h.own i x hx ox
  rw [ha] at h1
  cases h1
  have hil : i < s.sl.length := (List.getElem?_eq_some_iff.mp hx).1
  have back : ∀ (j : Nat) (z : Sl), (s.sl.set i y)[j]? = some z → (j = i ∧ z = y) ∨ (j ≠ i ∧ s.sl[j]? = some z) := fun j z e => by
    by_cases q : j = i
    · subst q
      rw [List.getElem?_set_self hil] at e
      exact .inl ⟨rfl, (Option.some.inj e).symm⟩
    · rw [List.getElem?_set_ne (Ne.symm q)] at e
      exact .inr ⟨q, e⟩
  refine ⟨⟨fun b u e => ?_, h.fok.len, fun n b c e1 e2 => ?_, h.fok.nd, h.fok.nf⟩, ⟨h.nx.le, fun b u e n => ?_, h.nx.newF, h.nx.newR⟩, by rw [List.length_set]; exact h.len, fun j d hj => ?_, fun j z hj oz => ?_, fun j k z z' b hj hk oz oz' e1 e2 => ?_, fun p hp => ?_, fun b hb c fs e => ?_⟩
  · rw [upd_ne (ne_of_none e h3)]
    exact h.fok.sub b u e
  · exact (h.fok.cel n b c e1 e2).mono (.refl _) (upd_ne fun z => h4 (by rw [← z]; exact List.mem_of_getElem? e1))
  · rw [upd_ne (ne_of_none e h5)]
    exact h.nx.keep b u e n
  · rcases back j _ hj with ⟨rfl, q⟩ | ⟨_, hj⟩
    · subst q; cases oy
    · exact h.val j d hj
  · rcases back j _ hj with ⟨rfl, q⟩ | ⟨nj, hj⟩
    · subst q
      exact ⟨a, ha, hy, h3, h4, h5⟩
    · obtain ⟨b, q1, q2, q3, q4, q5⟩ := h.own j z hj oz
      exact ⟨b, q1, q2.mono (.refl _) (upd_ne fun e => nj (h.ne j i z x b hj hx oz ox q1 (by rw [e]; exact ha))), q3, q4, q5⟩
  · rcases back j _ hj with ⟨ej, q⟩ | ⟨nj, hj⟩
    · rcases back k _ hk with ⟨ek, q'⟩ | ⟨nk, hk⟩
      · rw [ej, ek]
      · rw [ej] at e1 ⊢
        exact h.ne i k x z' b hx hk ox oz' e1 e2
    · rcases back k _ hk with ⟨ek, q'⟩ | ⟨nk, hk⟩
      · rw [ek] at e2 ⊢
        exact h.ne j i z x b hj hx oz ox e1 e2
      · exact h.ne j k z z' b hj hk oz oz' e1 e2
  · obtain ⟨q1, q2, q3, q4, q5⟩ := h.gam p hp
    have np : p.1 ≠ a := fun e => q5 i x hx ox (by rw [ha, e])
    refine ⟨by rw [upd_ne np]; exact q1, q2, q3, q4, fun j z hj oz => ?_⟩
    rcases back j _ hj with ⟨ej, q⟩ | ⟨nj, hj⟩
    · rw [ej, ha]
      exact fun e => np (by cases e; rfl)
    · exact q5 j z hj oz
  · rcases back 0 _ e with ⟨z, q⟩ | ⟨z, e⟩
    · obtain ⟨c', fs', q'⟩ := hxy c fs q.symm
      subst q'
      subst z
      exact h.me b hb c' fs' hx
    · exact h.me b hb c fs e
/-- a cell of the store is changed -/
theorem Ok.cell (h : Ok G κ w s σ H) {n : Nat} {a : Addr} {c : Cell} {o : HO} (ha : w.ρ[n]? = some a) (hc : CellOk G w (upd H a o) a c) : Ok G κ w ⟨s.sl, s.st.set n c⟩ σ (upd H a o) := by
  have hm : a ∈ w.ρ := List.mem_of_getElem? ha
  have hn : n < w.ρ.length := (List.getElem?_eq_some_iff.mp ha).1
  refine ⟨⟨fun b u e => ?_, by rw [List.length_set]; exact h.fok.len, fun k b c' e1 e2 => ?_, h.fok.nd, h.fok.nf⟩, ⟨h.nx.le, fun b u e q => ?_, h.nx.newF, h.nx.newR⟩, h.len, h.val, fun j z hj oz => ?_, h.ne, fun p hp => ?_, h.me⟩
  · rw [upd_ne (ne_of_none e (h.fok.nf a hm))]
    exact h.fok.sub b u e
  · by_cases z : k = n
    · subst z
      rw [ha] at e1
      cases e1
      rw [List.getElem?_set_self (by rw [← h.fok.len]; exact hn)] at e2
      cases e2
      exact hc
    · rw [List.getElem?_set_ne (Ne.symm z)] at e2
      refine (h.fok.cel k b c' e1 e2).mono (.refl _) (upd_ne fun e => z ?_)
      subst e
      exact nodup_ix_any h.fok.nd e1 ha
  · have hbne : b ≠ a := fun e' => by
      subst e'
      rcases h.nx.newR b hm with z | z
      · exact q z
      · rw [e] at z; cases z
    rw [upd_ne hbne]
    exact h.nx.keep b u e q
  · obtain ⟨b, q1, q2, q3, q4, q5⟩ := h.own j z hj oz
    exact ⟨b, q1, q2.mono (.refl _) (upd_ne fun e => q4 (by rw [e]; exact hm)), q3, q4, q5⟩
  · obtain ⟨q1, q2, q3, q4⟩ := h.gam p hp
    exact ⟨by rw [upd_ne fun e => q3 (by rw [e]; exact hm)]; exact q1, q2, q3, q4⟩
where
  nodup_ix_any {l : List Addr} (hN : l.Nodup) {i j : Nat} {x : Addr} (a : l[i]? = some x) (b : l[j]? = some x) : i = j := by
    obtain ⟨h1, e1⟩ := List.getElem?_eq_some_iff.mp a
    obtain ⟨h2, e2⟩ := List.getElem?_eq_some_iff.mp b
    exact (List.getElem_inj hN).mp (e1.trans e2.symm)
end
end DL
set_option maxRecDepth 100000
set_option maxHeartbeats 4000000
set_option autoImplicit false
namespace DL
open PySem PySem.Spec PyProof.Rows L2
section
variable (G : Gam) (W : WX)
/-- a new list of one's own -/
def PostO (κ : Bs) (w : Wd) (σ : L2.St) (r : Res DS (List D)) (Q : VK) : Prop := match r with
  | .ok xs s' => ∀ w' a vs H', w.le w' → Ok G (κ.plus a (.lst vs)) w' s' σ H' → (∀ p ∈ κ.γ, p.1 ≠ a) → Reps G w' vs xs → Q (.ref a) H'
  | .exc x s' => ∀ w' c dd H', w.le w' → Ok G κ w' s' σ H' → RepX G w' c dd x → W c dd σ H'
  | .stuck => False
def tDo (f : DA) : TE := fun σ H Q => ∃ κ w s, Ok G κ w s σ H ∧ PostO G W κ w σ (f s) Q
end
abbrev PDo (G : Gam) (W : WX) (X : Cx) (e : Expr) (f : DA) : Prop := PE X e (tDo G W f)
section
variable {G : Gam} {W : WX} {X : Cx}
theorem PostO.mono {κ : Bs} {w w1 : Wd} {σ : L2.St} {r : Res DS (List D)} {Q : VK} (le : w.le w1) (h : PostO G W κ w σ r Q) : PostO G W κ w1 σ r Q := by
  cases r with
  | ok d s' => exact fun w' a vs H' l o g r => h w' a vs H' (le.trans l) o g r
  | exc x s' => exact fun w' c dd H' l o r => h w' c dd H' (le.trans l) o r
  | stuck => exact h
theorem Ok.apart {κ : Bs} {w : Wd} {s : DS} {σ : L2.St} {H : Hp} (h : Ok G κ w s σ H) {p : Addr} (hp : H p = none) : ∀ q ∈ κ.γ, q.1 ≠ p := fun q hq => ne_of_none (h.gam q hq).1 hp
/-- an expression, then a new list -/
theorem PostG.bindO {α β : Type} {rep : Wd → β → α → Prop} {κ : Bs} {w : Wd} {σ : L2.St} {r : Res DS α} {k : α → DS → Res DS (List D)} {Q : VK} (h : PostO G W κ w σ (r.bind k) Q) :
    PostG G W rep κ w σ r (fun v H1 => ∃ d s1 w1, w.le w1 ∧ Ok G κ w1 s1 σ H1 ∧ rep w1 v d ∧ PostO G W κ w1 σ (k d s1) Q) := by
  cases r with
  | ok d s' => exact fun w' v H' l o r => ⟨d, s', w', l, o, r, PostO.mono l h⟩
  | exc x s' => exact h
  | stuck => exact h
def aMax (g : DA) : DA := fun s => (g s).bind fun ds s1 => if ds.length ≤ 1000 then .ok ds s1 else .stuck
theorem pdo_lst {es : List Expr} {g : DA} {pos : Pos} (h : PDA G W X es g) : PDo G W X (.List es pos) (aMax g) :=
  (pe_lst h).imp fun σ H Q ⟨κ, w, s, ok, q⟩ => ⟨κ, w, s, ok, (PostG.bindO q).imp fun v H1 ⟨d, s1, w1, le, ok1, r1, q1⟩ => by
    by_cases c : d.length ≤ 1000
    · rw [if_pos c] at q1
      refine ⟨by rw [r1.length]; exact sz1000 c, fun p hp => ?_⟩
      exact q1 w1 p v _ (.refl _) (ok1.fresh hp _) (ok1.apart hp) r1
    · rw [if_neg c] at q1
      exact q1.elim⟩
def eFrz (f : DA) : DE := fun s => (f s).bind fun xs s1 => .ok (.lst xs) s1
theorem pdo_frz {e : Expr} {f : DA} (h : PDo G W X e f) : PD G W X e (eFrz f) := h.imp fun σ H Q ⟨κ, w, s, ok, q⟩ => ⟨κ, w, s, ok, by
  unfold eFrz at q
  cases e : f s with
  | stuck => rw [e] at q; exact q.elim
  | exc x s' => rw [e] at q; exact q
  | ok xs s' =>
    rw [e] at q
    intro w' a vs H' l o g r
    obtain ⟨le, ok'⟩ := o.frz g
    exact q _ _ H' (l.trans le) ok' (.lst upd_same (r.mono le))⟩
/-! ### statements -/
def sPass : DStm := fun s => .ok .nx s
def sSeq (f g : DStm) : DStm := fun s => (f s).bind fun o s1 => match o with
  | .nx => g s1
  | o => .ok o s1
theorem pdss_nil : PDSs G W X [] sPass := pss_nil.imp fun N σ H ⟨κ, w, s, ok, q⟩ => q w σ H (.refl _) ok
theorem PostS.seq {κ : Bs} {w : Wd} {r : Res DS Out} {g : DStm} {N : Ends} (h : PostS G W κ w (r.bind fun o s1 => match o with | .nx => g s1 | o => .ok o s1) N) : PostS G W κ w r { N with nx := tDS G W g N } := by
  cases r with
  | stuck => exact h
  | exc x s' => exact h
  | ok o s' =>
    cases o with
    | nx => exact fun w' σ' H' l o => ⟨κ, w', s', o, PostS.mono l h⟩
    | bk => exact h
    | ct => exact h
    | rt d => exact h
theorem pdss_cons {st : Stmt} {r : List Stmt} {f g : DStm} (h : PDS G W X st f) (k : PDSs G W X r g) : PDSs G W X (st :: r) (sSeq f g) :=
  (pss_cons h k).imp fun N σ H ⟨κ, w, s, ok, q⟩ => ⟨κ, w, s, ok, PostS.seq q⟩
theorem pdss_one {st : Stmt} {f : DStm} (h : PDS G W X st f) : PDSs G W X [st] f := pss_one h
def sNever : DStm := fun _ => .stuck
theorem pds_never {st : Stmt} : PDS G W X st sNever := ps_never.imp fun N σ H ⟨κ, w, s, ok, q⟩ => q.elim
theorem pdss_never {st : List Stmt} : PDSs G W X st sNever := pss_never.imp fun N σ H ⟨κ, w, s, ok, q⟩ => q.elim
theorem pds_pass {pos : Pos} : PDS G W X (.Pass pos) sPass := ps_pass.imp fun N σ H ⟨κ, w, s, ok, q⟩ => q w σ H (.refl _) ok
def sBreak : DStm := fun s => .ok .bk s
def sCont : DStm := fun s => .ok .ct s
theorem pds_break {pos : Pos} : PDS G W X (.Break pos) sBreak := ps_break.imp fun N σ H ⟨κ, w, s, ok, q⟩ => q w σ H (.refl _) ok
theorem pds_continue {pos : Pos} : PDS G W X (.Continue pos) sCont := ps_continue.imp fun N σ H ⟨κ, w, s, ok, q⟩ => q w σ H (.refl _) ok
def sExpr (f : DE) : DStm := fun s => (f s).bind fun _ s1 => .ok .nx s1
theorem pds_expr {e : Expr} {f : DE} {pos : Pos} (h : PD G W X e f) (hs : swapsWith e none pos.line X.env = pure false := by rfl) : PDS G W X (.Expr e pos) (sExpr f) :=
  (ps_expr h hs).imp fun N σ H ⟨κ, w, s, ok, q⟩ => ⟨κ, w, s, ok, (PostG.bindS q).imp fun v H1 ⟨d, s1, w1, le, ok1, r1, q1⟩ => q1 w1 σ H1 (.refl _) ok1⟩
def sRet (f : DE) : DStm := fun s => (f s).bind fun d s1 => .ok (.rt d) s1
theorem pds_ret {e : Expr} {f : DE} {pos : Pos} (h : PD G W X e f) : PDS G W X (.Return (some e) pos) (sRet f) :=
  (ps_ret h).imp fun N σ H ⟨κ, w, s, ok, q⟩ => ⟨κ, w, s, ok, (PostG.bindS q).imp fun v H1 ⟨d, s1, w1, le, ok1, r1, q1⟩ => q1 w1 σ v H1 (.refl _) ok1 r1⟩
theorem pds_retN {pos : Pos} : PDS G W X (.Return none pos) (sRet (eC .non)) := ps_retN.imp fun N σ H ⟨κ, w, s, ok, q⟩ => q w σ .non H (.refl _) ok .non
def sIf (c : DT) (f g : DStm) : DStm := fun s => (c s).bind fun b s1 => if b = true then f s1 else g s1
theorem pds_if {c : Expr} {a b : List Stmt} {fc : DT} {f g : DStm} {pos : Pos} (hc : PDT G W X c fc) (h : PDSs G W X a f) (k : PDSs G W X b g) : PDS G W X (.If c a b pos) (sIf fc f g) :=
  (ps_if hc h k).imp fun N σ H ⟨κ, w, s, ok, q⟩ => ⟨κ, w, s, ok, (PostG.bindS q).imp fun v H1 ⟨d, s1, w1, le, ok1, r1, q1⟩ => by
    subst r1
    cases v with
    | true => exact ⟨κ, w1, s1, ok1, q1⟩
    | false => exact ⟨κ, w1, s1, ok1, q1⟩⟩
def sSet (i : Nat) (f : DE) : DStm := fun s => (f s).bind fun d s1 => .ok .nx ⟨s1.sl.set i (.val d), s1.st⟩
theorem pds_set {i : Nat} {x : Str} {e : Expr} {f : DE} {pos pos' : Pos} (hN : X.N.Nodup) (hi : X.N[i]? = some x) (hx : Loc X.env.scope x) (he : PD G W X e f) (hs : swapsWith e (some (.Name x pos')) pos.line X.env = pure false := by rfl)
    (hf : X.fn x = true ∨ X.env.scope.names.lookup x = some .local := by first | exact .inl rfl | exact .inr rfl | assumption) : PDS G W X (.Assign [.Name x pos'] e pos) (sSet i f) :=
  (ps_set hN hi hx he hs hf).imp fun N σ H ⟨κ, w, s, ok, q⟩ => ⟨κ, w, s, ok, (PostG.bindS q).imp fun v H1 ⟨d, s1, w1, le, ok1, r1, q1⟩ => q1 w1 _ H1 (.refl _) (ok1.setVal r1 i)⟩
/-- name = a new list -/
def sSetO (i : Nat) (f : DA) : DStm := fun s => (f s).bind fun xs s1 => .ok .nx ⟨s1.sl.set i (.ol xs), s1.st⟩
theorem setO_of {i : Nat} {f : DA} {N : Ends} {σ : L2.St} {H : Hp} (h : tDS G W (sSetO i f) N σ H) : tAsg (tDo G W f) (gName i) N σ H := by
  obtain ⟨κ, w, s, ok, q⟩ := h
  refine ⟨κ, w, s, ok, ?_⟩
  unfold sSetO at q
  cases e : f s with
  | stuck => rw [e] at q; exact q.elim
  | exc x s' =>
    rw [e] at q
    exact fun w' c dd H' l o r => q w' σ c dd H' l o r
  | ok xs s' =>
    rw [e] at q
    intro w' a vs H' l o g r
    exact q w' _ H' l (o.setOwn (y := .ol xs) g ⟨vs, (o.gam (a, .lst vs) List.mem_cons_self).1, r⟩ rfl (fun _ _ z => nomatch z) i)
theorem pds_setO {i : Nat} {x : Str} {e : Expr} {f : DA} {pos pos' : Pos} (hN : X.N.Nodup) (hi : X.N[i]? = some x) (hx : Loc X.env.scope x) (he : PDo G W X e f) (hs : swapsWith e (some (.Name x pos')) pos.line X.env = pure false := by rfl)
    (hf : X.fn x = true ∨ X.env.scope.names.lookup x = some .local := by first | exact .inl rfl | exact .inr rfl | assumption) : PDS G W X (.Assign [.Name x pos'] e pos) (sSetO i f) :=
  (ps_set hN hi hx he hs hf).imp fun N σ H q => setO_of q
/-! ### targets -/
abbrev DG := D → DS → Res DS Unit
section
variable (G : Gam) (W : WX)
def PostT (is : List Nat) (σ : L2.St) (κ : Bs) (w : Wd) (r : Res DS Unit) (Q : L2.St → Hp → Prop) : Prop := match r with
  | .ok _ s' => ∀ w' σ' H', w.le w' → Ok G κ w' s' σ' H' → (σ'.length = σ.length ∧ ∀ i : Nat, i ∉ is → σ'[i]? = σ[i]?) → Q σ' H'
  | .exc x s' => False
  | .stuck => False
def tDG (is : List Nat) (g : DG) : TG := fun v σ H Q => ∃ κ w s d, Ok G κ w s σ H ∧ Rep G w v d ∧ PostT G is σ κ w (g d s) Q
def tDGs (is : List Nat) (g : List D → DS → Res DS Unit) : TGs := fun v σ H Q => ∃ κ w s d, Ok G κ w s σ H ∧ Reps G w v d ∧ PostT G is σ κ w (g d s) Q
end
theorem _root_.L2.PG.imp {X : Cx} {e : Expr} {t t' : TG} (h : PG X e t) (k : ∀ v σ H Q, t' v σ H Q → t v σ H Q) : PG X e t' := ⟨fun pins s σ H v u Q I r q => h.run pins s σ H v u Q I r (k v σ H Q q)⟩
theorem _root_.L2.PGs.imp {X : Cx} {e : List Expr} {t t' : TGs} (h : PGs X e t) (k : ∀ v σ H Q, t' v σ H Q → t v σ H Q) : PGs X e t' := ⟨fun pins s σ H v u Q I r q => h.run pins s σ H v u Q I r (k v σ H Q q)⟩
abbrev PDG (G : Gam) (X : Cx) (e : Expr) (is : List Nat) (g : DG) : Prop := PG X e (tDG G is g)
abbrev PDGs (G : Gam) (X : Cx) (e : List Expr) (is : List Nat) (g : List D → DS → Res DS Unit) : Prop := PGs X e (tDGs G is g)
def gN (i : Nat) : DG := fun d s => .ok () ⟨s.sl.set i (.val d), s.st⟩
theorem pdg_name {i : Nat} {x : Str} {pos : Pos} (hN : X.N.Nodup) (hi : X.N[i]? = some x) (hx : Loc X.env.scope x) (hf : X.fn x = true ∨ X.env.scope.names.lookup x = some .local := by first | exact .inl rfl | exact .inr rfl | assumption) : PDG G X (.Name x pos) [i] (gN i) :=
  (pg_name hN hi hx hf).imp fun v σ H Q ⟨κ, w, s, d, ok, r, q⟩ => q w _ H (.refl _) (ok.setVal r i) ⟨by rw [List.length_set], fun j hj => List.getElem?_set_ne fun z => hj (by rw [z]; exact List.mem_singleton.mpr rfl)⟩
def gsNil : List D → DS → Res DS Unit := fun ds s => match ds with
  | [] => .ok () s
  | _ => .stuck
def gsCons (g : DG) (k : List D → DS → Res DS Unit) : List D → DS → Res DS Unit := fun ds s => match ds with
  | d :: r => (g d s).bind fun _ s1 => k r s1
  | _ => .stuck
theorem pdgs_nil : PDGs G X [] [] gsNil := pgs_nil.imp fun v σ H Q ⟨κ, w, s, d, ok, r, q⟩ => by
  cases r with
  | nil => exact ⟨rfl, q w σ H (.refl _) ok ⟨rfl, fun _ _ => rfl⟩⟩
  | cons a b => exact q.elim
theorem pdgs_cons {e : Expr} {es : List Expr} {is is' : List Nat} {g : DG} {k : List D → DS → Res DS Unit} (h1 : PDG G X e is g) (h2 : PDGs G X es is' k)
    (hs : (assignEach (e :: es) X.env).map (·.2) = assign e X.env :: (assignEach es X.env).map (·.2) := by rfl) : PDGs G X (e :: es) (is ++ is') (gsCons g k) :=
  (pgs_cons h1 h2 hs).imp fun v σ H Q ⟨κ, w, s, d, ok, r, q⟩ => by
    cases r with
    | nil => exact q.elim
    | @cons v d vs ds a b =>
      refine ⟨v, vs, rfl, κ, w, s, d, ok, a, ?_⟩
      have q : PostT G (is ++ is') σ κ w ((g d s).bind fun _ s1 => k ds s1) Q := q
      cases e : g d s with
      | stuck => rw [e] at q; exact q.elim
      | exc x s' => rw [e] at q; exact q.elim
      | ok u s' =>
        rw [e] at q
        intro w' σ' H' l o hσ
        refine ⟨κ, w', s', ds, o, b.mono l, ?_⟩
        have q : PostT G (is ++ is') σ κ w (k ds s') Q := q
        cases e2 : k ds s' with
        | stuck => rw [e2] at q; exact q.elim
        | exc x s' => rw [e2] at q; exact q.elim
        | ok u s2 =>
          rw [e2] at q
          exact fun w2 σ2 H2 l2 o2 h2 => q w2 σ2 H2 (l.trans l2) o2 ⟨h2.1.trans hσ.1, fun i hi => (h2.2 i fun z => hi (List.mem_append_right _ z)).trans (hσ.2 i fun z => hi (List.mem_append_left _ z))⟩
def gT (n : Nat) (g : List D → DS → Res DS Unit) : DG := fun d s => match d with
  | .tup ds => if ds.length = n then g ds s else .stuck
  | _ => .stuck
theorem pdg_tup (hK : G.K = X.K) {es : List Expr} {is : List Nat} {k : Nat} {g : List D → DS → Res DS Unit} {n : Nat} {pos : Pos} (hc : X.calm = true) (h : PDGs G X es is g)
    (hn : (assignEach es X.env).length = n := by rfl) (hst : (assignEach es X.env).findIdx? (·.1) = none := by rfl) : PDG G X (.Tuple es k pos) is (gT n g) :=
  (pg_tup hc h hn hst).imp fun v σ H Q ⟨κ, w, s, d, ok, r, q⟩ => by
    cases r with
    | @tup a vs ds e r =>
      by_cases c : ds.length = n
      · have q : PostT G is σ κ w (if ds.length = n then g ds s else .stuck) Q := q
        rw [if_pos c] at q
        refine ⟨a, vs, rfl, hK ▸ SqT.le e ok.fok.sub, by rw [r.length]; exact c, κ, w, s, ds, ok, r, q⟩
      · have q : PostT G is σ κ w (if ds.length = n then g ds s else .stuck) Q := q
        rw [if_neg c] at q
        exact q.elim
    | _ => exact q.elim
def sAsg (f : DE) (g : DG) : DStm := fun s => (f s).bind fun d s1 => (g d s1).bind fun _ s2 => .ok .nx s2
theorem PostT.toS {is : List Nat} {σ : L2.St} {κ : Bs} {w : Wd} {r : Res DS Unit} {N : Ends} {Wx : WX} (h : PostS G Wx κ w (r.bind fun _ s2 => .ok .nx s2) N) (hx : ∀ x s, r ≠ .exc x s) : PostT G is σ κ w r N.nx := by
  cases r with
  | stuck => exact h
  | exc x s' => exact absurd rfl (hx x s')
  | ok u s' => exact fun w' σ' H' l o _ => h w' σ' H' l o
def noX {σ α : Type} (r : Res σ α) : Res σ α := match r with
  | .exc _ _ => .stuck
  | r => r
theorem noX_exc {σ α : Type} (r : Res σ α) : ∀ x s, noX r ≠ .exc x s := fun x s h => by cases r <;> cases h
def sAsgT (f : DE) (g : DG) : DStm := fun s => (f s).bind fun d s1 => (noX (g d s1)).bind fun _ s2 => .ok .nx s2
theorem PostT.ofNoX {is : List Nat} {σ : L2.St} {κ : Bs} {w : Wd} {r : Res DS Unit} {Q : L2.St → Hp → Prop} (h : PostT G is σ κ w (noX r) Q) : PostT G is σ κ w r Q := by
  cases r with
  | stuck => exact h
  | exc x s' => exact h
  | ok u s' => exact h
theorem pds_asg {tg e : Expr} {f : DE} {is : List Nat} {g : DG} {pos : Pos} (he : PD G W X e f) (hg : PDG G X tg is g) (hs : swapsWithSole [tg] e pos.line X.env = pure false := by rfl) (hw : swappedStores [tg] e X.env = pure none := by rfl)
    (h1 : (assignEach [tg] X.env).map (·.2) = [assign tg X.env] := by rfl) : PDS G W X (.Assign [tg] e pos) (sAsgT f g) :=
  (ps_asg he hg hs hw h1).imp fun N σ H ⟨κ, w, s, ok, q⟩ => ⟨κ, w, s, ok, (PostG.bindS q).imp fun v H1 ⟨d, s1, w1, le, ok1, r1, q1⟩ =>
    ⟨κ, w1, s1, d, ok1, r1, PostT.ofNoX (PostT.toS q1 (noX_exc _))⟩⟩
/-- a, b = x, y with plain locals -/
def sPar (i j : Nat) (f : DA) : DStm := fun s => (f s).bind fun ds s1 => match ds with
  | [x, y] => .ok .nx ⟨(s1.sl.set i (.val x)).set j (.val y), s1.st⟩
  | _ => .stuck
theorem pds_par {i j : Nat} {x y : Str} {a b : Expr} {f : DA} {px py pt pos : Pos} {kt k2 : Nat} {pt2 : Pos} (hc : X.calm = true) (hN : X.N.Nodup) (hi : X.N[i]? = some x) (hj : X.N[j]? = some y) (hij : i ≠ j)
    (hx : X.env.scope.names.lookup x = some .local) (hy : X.env.scope.names.lookup y = some .local) (ha : PDA G W X [a, b] f)
    (hw : swappedStores [.Tuple [.Name x px, .Name y py] kt pt] (.Tuple [a, b] k2 pt2) X.env = pure (some [x, y]))
    (hs : swapsWithSole [.Tuple [.Name x px, .Name y py] kt pt] (.Tuple [a, b] k2 pt2) pos.line X.env = pure false := by rfl) :
    PDS G W X (.Assign [.Tuple [.Name x px, .Name y py] kt pt] (.Tuple [a, b] k2 pt2) pos) (sPar i j f) :=
  (ps_par hc hN hi hj hij hx hy ha hw hs).imp fun N σ H ⟨κ, w, s, ok, q⟩ => ⟨κ, w, s, ok, (PostG.bindS q).imp fun v H1 ⟨d, s1, w1, le, ok1, r1, q1⟩ => by
    cases r1 with
    | nil => exact q1.elim
    | cons a b =>
      cases b with
      | nil => exact q1.elim
      | cons a2 b2 =>
        cases b2 with
        | nil => exact ⟨_, _, rfl, q1 w1 _ H1 (.refl _) ((ok1.setVal a i).setVal a2 j)⟩
        | cons _ _ => exact q1.elim⟩
/-! ### loops -/
def loopOut (r : Res DS Out) (k : DS → Res DS Out) : Res DS Out := match r with
  | .ok .nx s2 => k s2
  | .ok .ct s2 => k s2
  | .ok .bk s2 => .ok .nx s2
  | r => r
def runW (c : DT) (b : DStm) : Nat → DS → Res DS Out
  | 0, _ => .stuck
  | n + 1, s => (c s).bind fun t s1 => if t = true then loopOut (b s1) (runW c b n) else .ok .nx s1
theorem runW_mono (c : DT) (b : DStm) : ∀ (n : Nat) (s : DS), runW c b n s ≠ .stuck → runW c b (n + 1) s = runW c b n s
  | 0, s, h => absurd rfl h
  | n + 1, s, h => by
    show (c s).bind (fun t s1 => if t = true then loopOut (b s1) (runW c b (n + 1)) else .ok .nx s1) = (c s).bind fun t s1 => if t = true then loopOut (b s1) (runW c b n) else .ok .nx s1
    have h : (c s).bind (fun t s1 => if t = true then loopOut (b s1) (runW c b n) else .ok .nx s1) ≠ .stuck := h
    cases e : c s with
    | stuck => rfl
    | exc x s' => rfl
    | ok t s1 =>
      rw [e] at h
      rw [Res.bind_ok] at h ⊢
      rw [Res.bind_ok]
      cases t with
      | false => rfl
      | true =>
        rw [if_pos rfl] at h ⊢
        rw [if_pos rfl]
        cases e2 : b s1 with
        | stuck => rfl
        | exc x s' => rfl
        | ok o s2 =>
          rw [e2] at h
          cases o with
          | nx => exact runW_mono c b n s2 h
          | ct => exact runW_mono c b n s2 h
          | bk => rfl
          | rt d => rfl
theorem runW_le (c : DT) (b : DStm) {n m : Nat} {s : DS} (hnm : n ≤ m) (h : runW c b n s ≠ .stuck) : runW c b m s = runW c b n s := by
  induction hnm with
  | refl => rfl
  | step hk ih => rw [runW_mono c b _ s (by rw [ih]; exact h), ih]
open Classical in
noncomputable def sWhile (c : DT) (b : DStm) : DStm := fun s => if h : ∃ n, runW c b n s ≠ .stuck then runW c b h.choose s else .stuck
theorem sWhile_of {c : DT} {b : DStm} {s : DS} (n : Nat) (h : runW c b n s ≠ .stuck) : sWhile c b s = runW c b n s := by
  have ex : ∃ n, runW c b n s ≠ .stuck := ⟨n, h⟩
  unfold sWhile
  rw [dif_pos ex]
  rcases Nat.le_total n ex.choose with z | z
  · exact runW_le c b z h
  · exact (runW_le c b z ex.choose_spec).symm
theorem sWhile_eq (c : DT) (b : DStm) (s : DS) : sWhile c b s = (c s).bind fun t s1 => if t = true then loopOut (b s1) (sWhile c b) else .ok .nx s1 := by
  have key : ∀ n, runW c b (n + 1) s ≠ .stuck → sWhile c b s = (c s).bind fun t s1 => if t = true then loopOut (b s1) (sWhile c b) else .ok .nx s1 := fun n h => by
    rw [sWhile_of (n + 1) h]
    have h : (c s).bind (fun t s1 => if t = true then loopOut (b s1) (runW c b n) else .ok .nx s1) ≠ .stuck := h
    show (c s).bind (fun t s1 => if t = true then loopOut (b s1) (runW c b n) else .ok .nx s1) = _
    cases e : c s with
    | stuck => rfl
    | exc x s' => rfl
    | ok t s1 =>
      rw [e] at h
      rw [Res.bind_ok] at h ⊢
      rw [Res.bind_ok]
      cases t with
      | false => rfl
      | true =>
        rw [if_pos rfl] at h ⊢
        rw [if_pos rfl]
        cases e2 : b s1 with
        | stuck => rfl
        | exc x s' => rfl
        | ok o s2 =>
          rw [e2] at h
          cases o with
          | nx => exact (sWhile_of n h).symm
          | ct => exact (sWhile_of n h).symm
          | bk => rfl
          | rt d => rfl
  by_cases ex : ∃ n, runW c b n s ≠ .stuck
  · obtain ⟨n, h⟩ := ex
    cases n with
    | zero => exact absurd rfl h
    | succ n => exact key n h
  · have all : ∀ n, runW c b n s = .stuck := fun n => Classical.byContradiction fun h => ex ⟨n, h⟩
    have l : sWhile c b s = .stuck := by
      unfold sWhile
      rw [dif_neg ex]
    rw [l]
    have a1 := all 1
    cases e : c s with
    | stuck => rfl
    | exc x s' =>
      have a1 : (c s).bind (fun t s1 => if t = true then loopOut (b s1) (runW c b 0) else .ok .nx s1) = .stuck := a1
      rw [e] at a1
      cases a1
    | ok t s1 =>
      rw [Res.bind_ok]
      cases t with
      | false =>
        have a1 : (c s).bind (fun t s1 => if t = true then loopOut (b s1) (runW c b 0) else .ok .nx s1) = .stuck := a1
        rw [e] at a1
        cases a1
      | true =>
        rw [if_pos rfl]
        have an : ∀ n, loopOut (b s1) (runW c b n) = .stuck := fun n => by
          have := all (n + 1)
          have a1 : (c s).bind (fun t s1 => if t = true then loopOut (b s1) (runW c b n) else .ok .nx s1) = .stuck := this
          rw [e] at a1
          exact a1
        cases e2 : b s1 with
        | stuck => rfl
        | exc x s' => have := an 0; rw [e2] at this; cases this
        | ok o s2 =>
          have nn : ∀ n, loopOut (.ok o s2) (runW c b n) = .stuck := fun n => by rw [← e2]; exact an n
          have un : (∀ n, runW c b n s2 = .stuck) → sWhile c b s2 = .stuck := fun q => by
            unfold sWhile
            rw [dif_neg fun ⟨n, h⟩ => h (q n)]
          cases o with
          | nx => exact (un nn).symm
          | ct => exact (un nn).symm
          | bk => cases nn 0
          | rt d => cases nn 0
theorem pds_while {c : Expr} {body : List Stmt} {fc : DT} {fb : DStm} {pos : Pos} (hp : PassesOwn (model X.prog X.w) X.A X.env X.xe) (hc : PDT G W X c fc) (hb : PDSs G W X body fb) : PDS G W X (.While c body [] pos) (sWhile fc fb) :=
  (ps_while hp hc hb).imp fun N σ H ⟨κ, w, s, ok, q⟩ => by
    by_cases ex : ∃ n, runW fc fb n s ≠ .stuck
    · obtain ⟨n, hn⟩ := ex
      rw [sWhile_of n hn] at q
      refine ⟨fun m σ H => ∃ w' s', w.le w' ∧ Ok G κ w' s' σ H ∧ PostS G W κ w' (runW fc fb m s') N, ⟨n, w, s, .refl _, ok, q⟩, fun m σ' H' ⟨w', s', le, ok', q'⟩ => ?_⟩
      cases m with
      | zero => exact q'.elim
      | succ m =>
        refine ⟨κ, w', s', ok', (PostG.bindS q').imp fun v H1 ⟨d, s1, w1, le1, ok1, r1, q1⟩ => ?_⟩
        subst r1
        cases v with
        | false => exact q1 w1 σ' H1 (.refl _) ok1
        | true =>
          refine ⟨fun σ2 H2 => ∃ w2 s2, w.le w2 ∧ Ok G κ w2 s2 σ2 H2 ∧ PostS G W κ w2 (runW fc fb m s2) N, fun σ2 H2 z => ⟨m, Nat.lt_succ_self _, z⟩, κ, w1, s1, ok1, ?_⟩
          have q1 : PostS G W κ w1 (loopOut (fb s1) (runW fc fb m)) N := q1
          cases e : fb s1 with
          | stuck => rw [e] at q1; exact q1.elim
          | exc x s' => rw [e] at q1; exact q1
          | ok o s2 =>
            rw [e] at q1
            cases o with
            | nx => exact fun w2 σ2 H2 l o => ⟨w2, s2, (le.trans le1).trans l, o, PostS.mono l q1⟩
            | ct => exact fun w2 σ2 H2 l o => ⟨w2, s2, (le.trans le1).trans l, o, PostS.mono l q1⟩
            | bk => exact q1
            | rt d => exact q1
    · unfold sWhile at q
      rw [dif_neg ex] at q
      exact q.elim
/-! ### what a for walks -/
section
variable (G : Gam) (W : WX)
def ItOk (w : Wd) (J : It) (items : List D) : Prop := ∀ (w1 : Wd) (S : List Cell) (H : Hp), w.le w1 → FOk G w1 S H → ∀ i : Nat,
  (∀ d, items[i]? = some d → J.go i H ∧ ∀ x H', J.yld i H x H' → ∃ w2, Nx w1 H w2 H' ∧ FOk G w2 S H' ∧ Rep G w2 x d) ∧ (items[i]? = none → J.stop i H)
def PostI (κ : Bs) (w : Wd) (σ : L2.St) (r : Res DS (List D)) (R : It → Hp → Prop) : Prop := match r with
  | .ok ds s' => ∀ w' J H', w.le w' → Ok G κ w' s' σ H' → ItOk G w' J ds → R J H'
  | .exc x s' => ∀ w' c dd H', w.le w' → Ok G κ w' s' σ H' → RepX G w' c dd x → W c dd σ H'
  | .stuck => False
def tDI (f : DA) : TI := fun σ H R => ∃ κ w s, Ok G κ w s σ H ∧ PostI G W κ w σ (f s) R
end
theorem _root_.L2.PI.imp {X : Cx} {tg e : Expr} {t t' : TI} (h : PI X tg e t) (k : ∀ σ H R, t' σ H R → t σ H R) : PI X tg e t' := ⟨fun pins s σ H R I q => h.run pins s σ H R I (k σ H R q)⟩
abbrev PDI (G : Gam) (W : WX) (X : Cx) (tg e : Expr) (f : DA) : Prop := PI X tg e (tDI G W f)
theorem PostI.mono {κ : Bs} {w w1 : Wd} {σ : L2.St} {r : Res DS (List D)} {R : It → Hp → Prop} (le : w.le w1) (h : PostI G W κ w σ r R) : PostI G W κ w1 σ r R := by
  cases r with
  | ok d s' => exact fun w' J H' l o g => h w' J H' (le.trans l) o g
  | exc x s' => exact fun w' c dd H' l o r => h w' c dd H' (le.trans l) o r
  | stuck => exact h
theorem PostG.bindI {α β : Type} {rep : Wd → β → α → Prop} {κ : Bs} {w : Wd} {σ : L2.St} {r : Res DS α} {k : α → DS → Res DS (List D)} {Q : It → Hp → Prop} (h : PostI G W κ w σ (r.bind k) Q) :
    PostG G W rep κ w σ r (fun v H1 => ∃ d s1 w1, w.le w1 ∧ Ok G κ w1 s1 σ H1 ∧ rep w1 v d ∧ PostI G W κ w1 σ (k d s1) Q) := by
  cases r with
  | ok d s' => exact fun w' v H' l o r => ⟨d, s', w', l, o, r, PostI.mono l h⟩
  | exc x s' => exact h
  | stuck => exact h
/-- the items of a list; of a tuple -/
def itL (f : DE) : DA := fun s => (f s).bind fun d s1 => match d with
  | .lst xs => .ok xs s1
  | .scr xs => .ok xs s1
  | _ => .stuck
def itT (f : DE) : DA := fun s => (f s).bind fun d s1 => match d with
  | .tup xs => .ok xs s1
  | _ => .stuck
theorem itOk_list (hK : G.K = X.K) {w : Wd} {a : Addr} {vs : List V} {ds : List D} (e : SqL G.K w.F a vs) (un : ∀ (H : Hp) ys, SqL X.K H a vs → SqL X.K H a ys → vs = ys → True) (r : Reps G w vs ds) (inj : ∀ (H : Hp), SqL X.K H a vs → True) : ItOk G w (Itl X.K a) ds := by
  intro w1 S H le fok i
  have q : SqL X.K H a vs := hK ▸ SqL.le (SqL.le e le.f) fok.sub
  refine ⟨fun d hd => ?_, fun hn => ?_⟩
  · obtain ⟨y, h1, h2⟩ := r.get hd
    refine ⟨⟨vs, y, q, h1⟩, fun x H' ⟨hH, hx⟩ => ⟨w1, ?_, ?_, ?_⟩⟩
    · rw [hH]; exact .refl _ _
    · rw [hH]; exact fok
    · have := hx vs q
      rw [h1] at this
      cases this
      exact h2.mono le
  · refine ⟨vs, q, ?_⟩
    rw [r.length]
    exact List.getElem?_eq_none_iff.mp hn
theorem itOk_tup (hK : G.K = X.K) {w : Wd} {a : Addr} {vs : List V} {ds : List D} (e : SqT G.K w.F a vs) (r : Reps G w vs ds) : ItOk G w (Itt X.K a) ds := by
  intro w1 S H le fok i
  have q : SqT X.K H a vs := hK ▸ SqT.le (SqT.le e le.f) fok.sub
  refine ⟨fun d hd => ?_, fun hn => ?_⟩
  · obtain ⟨y, h1, h2⟩ := r.get hd
    refine ⟨⟨vs, y, q, h1⟩, fun x H' ⟨hH, hx⟩ => ⟨w1, ?_, ?_, ?_⟩⟩
    · rw [hH]; exact .refl _ _
    · rw [hH]; exact fok
    · have := hx vs q
      rw [h1] at this
      cases this
      exact h2.mono le
  · refine ⟨vs, q, ?_⟩
    rw [r.length]
    exact List.getElem?_eq_none_iff.mp hn
theorem pdi_list (hK : G.K = X.K) {tg e : Expr} {f : DE} (h : PD G W X e f) : PDI G W X tg e (itL f) :=
  (pi_list h).imp fun σ H R ⟨κ, w, s, ok, q⟩ => ⟨κ, w, s, ok, (PostG.bindI q).imp fun v H1 ⟨d, s1, w1, le, ok1, r1, q1⟩ => by
    cases r1 with
    | @lst a vs ds e r =>
      have e' : SqL G.K w1.F a vs := .inl (.inl e)
      exact ⟨a, rfl, ⟨vs, hK ▸ SqL.le e' ok1.fok.sub⟩, q1 w1 _ H1 (.refl _) ok1 (itOk_list hK e' (fun _ _ _ _ _ => trivial) r fun _ _ => trivial)⟩
    | @scr a vs ds e r =>
      exact ⟨a, rfl, ⟨vs, hK ▸ SqL.le e ok1.fok.sub⟩, q1 w1 _ H1 (.refl _) ok1 (itOk_list hK e (fun _ _ _ _ _ => trivial) r fun _ _ => trivial)⟩
    | _ => exact q1.elim⟩
theorem pdi_tup (hK : G.K = X.K) {tg e : Expr} {f : DE} (h : PD G W X e f) : PDI G W X tg e (itT f) :=
  (pi_tup h).imp fun σ H R ⟨κ, w, s, ok, q⟩ => ⟨κ, w, s, ok, (PostG.bindI q).imp fun v H1 ⟨d, s1, w1, le, ok1, r1, q1⟩ => by
    cases r1 with
    | @tup a vs ds e r => exact ⟨a, rfl, ⟨vs, hK ▸ SqT.le e ok1.fok.sub⟩, q1 w1 _ H1 (.refl _) ok1 (itOk_tup hK e r)⟩
    | _ => exact q1.elim⟩
/-- range -/
def rngL (lo : Int) (n : Nat) : List D := (List.range n).map fun (i : Nat) => D.int (lo + (i : Int))
theorem itOk_rng {w : Wd} (lo : Int) (n : Nat) : ItOk G w (Itr lo n) (rngL lo n) := by
  intro w1 S H le fok i
  refine ⟨fun d hd => ?_, fun hn => ?_⟩
  · unfold rngL at hd
    rw [List.getElem?_map] at hd
    by_cases c : i < n
    · rw [List.getElem?_range c] at hd
      cases hd
      refine ⟨c, fun x H' ⟨hH, hx⟩ => ⟨w1, ?_, ?_, ?_⟩⟩
      · rw [hH]; exact .refl _ _
      · rw [hH]; exact fok
      · rw [hx]; exact .int _
    · rw [List.getElem?_eq_none (by rw [List.length_range]; omega)] at hd
      cases hd
  · have := List.getElem?_eq_none_iff.mp hn
    unfold rngL at this
    rw [List.length_map, List.length_range] at this
    exact this
def itR1 (f : DA) : DA := fun s => (f s).bind fun ds s1 => match ds with
  | [.int j] => if -(2 ^ 62) ≤ j ∧ j < 2 ^ 62 then .ok (rngL 0 j.toNat) s1 else .stuck
  | _ => .stuck
def itR2 (f : DA) : DA := fun s => (f s).bind fun ds s1 => match ds with
  | [.int i, .int j] => if -(2 ^ 62) ≤ i ∧ i < 2 ^ 62 ∧ -(2 ^ 62) ≤ j ∧ j < 2 ^ 62 then .ok (rngL i (j - i).toNat) s1 else .stuck
  | _ => .stuck
theorem pdi_range1 {tg a : Expr} {f : DA} {p pos : Pos} (hg : Gl X "range") (hm : X.mg "range" = none) (ha : PDA G W X [a] f) (hs : starEach [a] X.env = [(false, eval a X.env)] := by rfl) : PDI G W X tg (.Call (.Name "range" p) [a] [] pos) (itR1 f) :=
  (pi_range1 hg hm ha hs).imp fun σ H R ⟨κ, w, s, ok, q⟩ => ⟨κ, w, s, ok, (PostG.bindI q).imp fun v H1 ⟨d, s1, w1, le, ok1, r1, q1⟩ => by
    cases r1 with
    | nil => exact q1.elim
    | cons a b =>
      cases b with
      | cons _ _ => cases a <;> exact q1.elim
      | nil =>
        cases a with
        | int j =>
          have q1 : PostI G W κ w1 σ (if -(2 ^ 62) ≤ j ∧ j < 2 ^ 62 then .ok (rngL 0 j.toNat) s1 else .stuck) R := q1
          by_cases c : -(2 ^ 62) ≤ j ∧ j < 2 ^ 62
          · rw [if_pos c] at q1
            exact ⟨j, rfl, c.1, c.2, q1 w1 _ H1 (.refl _) ok1 (itOk_rng 0 _)⟩
          · rw [if_neg c] at q1
            exact q1.elim
        | _ => exact q1.elim⟩
theorem pdi_range2 {tg a b : Expr} {f : DA} {p pos : Pos} (hg : Gl X "range") (hm : X.mg "range" = none) (ha : PDA G W X [a, b] f) (hs : starEach [a, b] X.env = [(false, eval a X.env), (false, eval b X.env)] := by rfl) (hs2 : starEach [b] X.env = [(false, eval b X.env)] := by rfl) :
    PDI G W X tg (.Call (.Name "range" p) [a, b] [] pos) (itR2 f) :=
  (pi_range2 hg hm ha hs hs2).imp fun σ H R ⟨κ, w, s, ok, q⟩ => ⟨κ, w, s, ok, (PostG.bindI q).imp fun v H1 ⟨d, s1, w1, le, ok1, r1, q1⟩ => by
    cases r1 with
    | nil => exact q1.elim
    | cons a b =>
      cases b with
      | nil => cases a <;> exact q1.elim
      | cons a2 b2 =>
        cases b2 with
        | cons _ _ => cases a <;> first | exact q1.elim | (cases a2 <;> exact q1.elim)
        | nil =>
          cases a with
          | int i =>
            cases a2 with
            | int j =>
              have q1 : PostI G W κ w1 σ (if -(2 ^ 62) ≤ i ∧ i < 2 ^ 62 ∧ -(2 ^ 62) ≤ j ∧ j < 2 ^ 62 then .ok (rngL i (j - i).toNat) s1 else .stuck) R := q1
              by_cases c : -(2 ^ 62) ≤ i ∧ i < 2 ^ 62 ∧ -(2 ^ 62) ≤ j ∧ j < 2 ^ 62
              · rw [if_pos c] at q1
                exact ⟨i, j, rfl, c, q1 w1 _ H1 (.refl _) ok1 (itOk_rng i _)⟩
              · rw [if_neg c] at q1
                exact q1.elim
            | _ => exact q1.elim
          | _ => exact q1.elim⟩
/-! ### for -/
def forL (g : DG) (b : DStm) : List D → DS → Res DS Out
  | [], s => .ok .nx s
  | d :: r, s => (noX (g d s)).bind fun _ s1 => loopOut (b s1) (forL g b r)
def sFor (it : DA) (g : DG) (b : DStm) : DStm := fun s => (it s).bind fun ds s1 => forL g b ds s1
theorem drop_get {α : Type} {l : List α} {i : Nat} {d : α} {r : List α} (h : l.drop i = d :: r) : l[i]? = some d ∧ l.drop (i + 1) = r := by
  refine ⟨?_, ?_⟩
  · have := congrArg (fun l => l[0]?) h
    simpa using this
  · have := congrArg List.tail h
    simpa using this
theorem for_of {is : List Nat} {κ : Bs} {w : Wd} {J : It} {g : DG} {b : DStm} {N : Ends} {items : List D} (hJ : ItOk G w J items) {w0 : Wd} {s : DS} {σ : L2.St} {H : Hp} (le : w.le w0) (ok : Ok G κ w0 s σ H) (q : PostS G W κ w0 (forL g b items s) N) :
    ∃ Wv : Nat → Nat → L2.St → Hp → Prop, (∃ m, Wv 0 m σ H) ∧ ∀ i m σ H, Wv i m σ H →
      (J.stop i H ∧ N.nx σ H) ∨ (J.go i H ∧ ∃ N' : L2.St → Hp → Prop, (∀ σ' H', N' σ' H' → ∃ m', m' < m ∧ Wv (i + 1) m' σ' H') ∧ ∀ x H', J.yld i H x H' → tDG G is g x σ H' fun σ2 H2 => tDS G W b { N with nx := N', ct := N', bk := N.nx } σ2 H2) := by
  refine ⟨fun i m σ H => ∃ w' s', w.le w' ∧ Ok G κ w' s' σ H ∧ (items.drop i).length = m ∧ PostS G W κ w' (forL g b (items.drop i) s') N, ⟨items.length, w0, s, le, ok, by simp, by simpa using q⟩, ?_⟩
  rintro i m σ H ⟨w', s', le', ok', hm, q'⟩
  cases e : items.drop i with
  | nil =>
    rw [e] at q'
    have hn : items[i]? = none := by
      have := congrArg (fun l => l[0]?) e
      simpa using this
    exact .inl ⟨(hJ w' _ H le' ok'.fok i).2 hn, q' w' σ H (.refl _) ok'⟩
  | cons d r =>
    rw [e] at q' hm
    obtain ⟨h1, h2⟩ := drop_get e
    obtain ⟨go, yl⟩ := (hJ w' _ H le' ok'.fok i).1 d h1
    refine .inr ⟨go, fun σ2 H2 => ∃ w2 s2, w.le w2 ∧ Ok G κ w2 s2 σ2 H2 ∧ PostS G W κ w2 (forL g b r s2) N, fun σ2 H2 ⟨w2, s2, l2, o2, q2⟩ => ?_, fun x H' hy => ?_⟩
    · refine ⟨r.length, by rw [← hm]; exact Nat.lt_succ_self _, w2, s2, l2, o2, by rw [h2], by rw [h2]; exact q2⟩
    · obtain ⟨w2, nx, fok, rx⟩ := yl x H' hy
      have ok2 := ok'.step nx fok
      refine ⟨κ, w2, s', d, ok2, rx, ?_⟩
      have q' : PostS G W κ w' ((noX (g d s')).bind fun _ s1 => loopOut (b s1) (forL g b r)) N := q'
      refine PostT.ofNoX ?_
      cases e3 : noX (g d s') with
      | stuck => rw [e3] at q'; exact q'.elim
      | exc x s' => exact absurd e3 (noX_exc _ _ _)
      | ok u s3 =>
        rw [e3] at q'
        intro w3 σ3 H3 l3 o3 _
        refine ⟨κ, w3, s3, o3, ?_⟩
        have q' : PostS G W κ w' (loopOut (b s3) (forL g b r)) N := q'
        have lw : w'.le w3 := nx.le.trans l3
        cases e4 : b s3 with
        | stuck => rw [e4] at q'; exact q'.elim
        | exc x s4 => rw [e4] at q'; exact PostS.mono (r := .exc x s4) lw q'
        | ok o s4 =>
          rw [e4] at q'
          cases o with
          | nx => exact fun w4 σ4 H4 l4 o4 => ⟨w4, s4, (le'.trans lw).trans l4, o4, PostS.mono (lw.trans l4) q'⟩
          | ct => exact fun w4 σ4 H4 l4 o4 => ⟨w4, s4, (le'.trans lw).trans l4, o4, PostS.mono (lw.trans l4) q'⟩
          | bk => exact PostS.mono (r := .ok .nx s4) lw q'
          | rt d => exact PostS.mono (r := .ok (.rt d) s4) lw q'
theorem pds_for {tg iter : Expr} {body : List Stmt} {it : DA} {is : List Nat} {g : DG} {b : DStm} {pos : Pos} (hp : PassesOwn (model X.prog X.w) X.A X.env X.xe) (hc : X.calm = true) (hi : PDI G W X tg iter it) (hg : PDG G X tg is g) (hb : PDSs G W X body b)
    (hs : ∀ x, foldedSetIterable iter X.env x = pure x := by intro _; rfl) : PDS G W X (.For tg iter body [] pos) (sFor it g b) :=
  (ps_for hp hc hi hg hb hs).imp fun N σ H ⟨κ, w, s, ok, q⟩ => ⟨κ, w, s, ok, by
    unfold sFor at q
    cases e : it s with
    | stuck => rw [e] at q; exact q.elim
    | exc x s' =>
      rw [e] at q
      exact fun w' c dd H' l o r => q w' σ c dd H' l o r
    | ok ds s' =>
      rw [e] at q
      intro w' J H' l o hJ
      exact for_of hJ (.refl _) o (PostS.mono l q)⟩
end
end DL
set_option maxRecDepth 100000
set_option maxHeartbeats 4000000
set_option autoImplicit false
namespace DL
open PySem PySem.Spec PyProof.Rows L2
/-! ### what a def promises -/
section
variable (G : Gam)
def PostF {α : Type} (rep : Wd → V → α → Prop) (w : Wd) (H : Hp) (r : Res (List Cell) α) (Q : VK) (E : XK) : Prop := match r with
  | .ok d S' => ∀ w' v H', Nx w H w' H' → FOk G w' S' H' → rep w' v d → Q v H'
  | .exc x S' => ∀ w' c dd H', Nx w H w' H' → FOk G w' S' H' → RepX G w' c dd x → E c dd H'
  | .stuck => False
def spG (n : Nat) (g : DFn) : Sp := fun vs H Q E => vs.length = n ∧ ∃ w S ds, FOk G w S H ∧ Reps G w vs ds ∧ PostF G (Rep G) w H (g ds S) Q E
end
def lift {α : Type} (s : DS) (r : Res (List Cell) α) : Res DS α := match r with
  | .ok d S' => .ok d ⟨s.sl, S'⟩
  | .exc x S' => .exc x ⟨s.sl, S'⟩
  | .stuck => .stuck
section
variable {G : Gam} {W : WX} {X : Cx}
theorem postF_of {κ : Bs} {w : Wd} {s : DS} {σ : L2.St} {H : Hp} {r : Res (List Cell) D} {Q : VK} (ok : Ok G κ w s σ H) (q : PostG G W (Rep G) κ w σ (lift s r) Q) : PostF G (Rep G) w H r Q (WE W σ) := by
  cases r with
  | ok d S' => exact fun w' v H' n f r => q w' v H' n.le (ok.step n f) r
  | exc x S' => exact fun w' c dd H' n f r => q w' c dd H' n.le (ok.step n f) r
  | stuck => exact q
theorem callD {k : Nat} {f : Addr} {fd : FuncData} {ps : List Str} {n : Nat} {g : DFn} {pins : List (Addr × Obj)} {sh : Shared} {κ : Bs} {w : Wd} {s : DS} {σ : L2.St} {H : Hp} {vs : List V} {ds : List D} {us : List Value} {Q : VK}
    (F : FnOk X.prog X.w X.K X.mg X.base (L2.CX X.prog X.w) k f fd ps (spG G n g)) (hr : Room k X.A) (hb : Binds X.K fd ps []) (tk : Takes X W) (I : Inv X pins σ H sh) (ok : Ok G κ w s σ H) (rs : Reps G w vs ds) (r : Vals vs us) (hn : ds.length = n)
    (q : PostG G W (Rep G) κ w σ (lift s (g ds s.st)) Q) : wpAny (model X.prog X.w) X.A (call (.ref f) us) (EP X pins σ Q) X.xe sh := by
  refine run_fnSD (E := WE W) (dvs := []) (ds := []) F hr hb .nil (passAt tk σ) I r ?_
  rw [List.append_nil]
  exact ⟨by rw [rs.length]; exact hn, w, s.st, ds, ok.fok, rs, postF_of ok q⟩
/-! ### f(..) -/
def eCall (n : Nat) (g : DFn) (fa : DA) : DE := fun s => (fa s).bind fun ds s1 => if ds.length = n then lift s1 (g ds s1.st) else .stuck
theorem pd_call {k : Nat} {f : Addr} {fd : FuncData} {ps : List Str} {n : Nat} {g : DFn} {x : Str} {p pos : Pos} {e : Expr} {es : List Expr} {fa : DA} (F : FnOk X.prog X.w X.K X.mg X.base (L2.CX X.prog X.w) k f fd ps (spG G n g)) (hr : Room k X.A) (hg : Gl X x) (hm : X.mg x = some (.ref f))
    (hk : PySem.W.keepIn X.K (.ref f) = true) (hb : Binds X.K fd ps []) (tk : Takes X W) (ha : PDA G W X (e :: es) fa) (hdb : (x == ("__debug__" : Str)) = false := by decide) (he : starEach (e :: es) X.env = (false, eval e X.env) :: starEach es X.env := by rfl)
    (hpl : (backTo pos (starEach es X.env)).any (·.1) = false := by rfl) : PD G W X (.Call (.Name x p) (e :: es) [] pos) (eCall n g fa) := by
  refine ⟨fun pins s σ H Q I h => ?_⟩
  obtain ⟨κ, w, ds, ok, q⟩ := h
  refine wpAny_Call_Name_kw (ld_glob I hg hm ?_ hdb)
  have hh : tDA G W fa σ H fun vs H1 => ∃ d s1 w1, w.le w1 ∧ Ok G κ w1 s1 σ H1 ∧ Reps G w1 vs d ∧ PostG G W (Rep G) κ w1 σ (if d.length = n then lift s1 (g d s1.st) else .stuck) Q := ⟨κ, w, ds, ok, PostG.bind q⟩
  refine PySem.W.callWith_K (h₀ := X.base) I.ok.mod.kin hk (thn (ha.run pos pins s σ H _ I hh) fun us s1 ⟨vs, H1, I1, r, d, s2, w1, le, ok1, rs, q1⟩ => ⟨I1.kIn, ?_⟩) he hpl
  by_cases c : d.length = n
  · rw [if_pos c] at q1
    exact callD F hr hb tk I1 ok1 rs r c q1
  · rw [if_neg c] at q1
    exact q1.elim
theorem pd_call0 {k : Nat} {f : Addr} {fd : FuncData} {ps : List Str} {g : DFn} {x : Str} {p pos : Pos} (F : FnOk X.prog X.w X.K X.mg X.base (L2.CX X.prog X.w) k f fd ps (spG G 0 g)) (hr : Room k X.A) (hg : Gl X x) (hm : X.mg x = some (.ref f))
    (hk : PySem.W.keepIn X.K (.ref f) = true) (hb : Binds X.K fd ps []) (tk : Takes X W) (hdb : (x == ("__debug__" : Str)) = false := by decide) : PD G W X (.Call (.Name x p) [] [] pos) (eCall 0 g aNil) := by
  refine ⟨fun pins s σ H Q I h => ?_⟩
  obtain ⟨κ, w, ds, ok, q⟩ := h
  refine wpAny_Call_Name_kw (ld_glob I hg hm ?_ hdb)
  exact PySem.W.callWith_K0 I.kIn hk (callD (us := []) F hr hb tk I ok .nil .nil rfl q)
/-! ### the body of a def -/
def fnD (n : Nat) (body : DStm) (m : Nat) : DFn := fun ds S => if ds.length = n then match body ⟨ds.map Sl.val ++ List.replicate m .un, S⟩ with
  | .ok (.rt d) s => .ok d s.st
  | .ok .nx s => .ok .non s.st
  | .exc x s => .exc x s.st
  | _ => .stuck
  else .stuck
theorem Ok.start {w : Wd} {S : List Cell} {H : Hp} {vs : List V} {ds : List D} (f : FOk G w S H) (r : Reps G w vs ds) (m : Nat) : Ok G ⟨w, H, [], none⟩ w ⟨ds.map Sl.val ++ List.replicate m .un, S⟩ (vs.map some ++ List.replicate m none) H := by
  have no : ∀ (i : Nat) (x : Sl), (ds.map Sl.val ++ List.replicate m Sl.un)[i]? = some x → x.own = false := fun i x e => by
    have hx := List.mem_of_getElem? e
    rcases List.mem_append.mp hx with h | h
    · obtain ⟨d, _, rfl⟩ := List.mem_map.mp h
      rfl
    · rw [(List.mem_replicate.mp h).2]
      rfl
  refine ⟨f, .refl _ _, by simp [r.length], fun i d e => ?_, fun i x e o => ?_, fun i j x y a e1 e2 o1 o2 _ _ => ?_, fun p hp => by simp at hp, fun a z => nomatch z⟩
  · by_cases c : i < ds.length
    · have e1 : (ds.map Sl.val ++ List.replicate m Sl.un)[i]? = some (.val d) := e
      rw [List.getElem?_append_left (by rw [List.length_map]; exact c), List.getElem?_map] at e1
      cases q : ds[i]? with
      | none => rw [q] at e1; cases e1
      | some d' =>
        rw [q] at e1
        cases e1
        obtain ⟨v, h1, h2⟩ := r.get q
        refine ⟨v, ?_, h2⟩
        rw [List.getElem?_append_left (by rw [List.length_map, r.length]; exact c), List.getElem?_map, h1]
        rfl
    · have e1 : (ds.map Sl.val ++ List.replicate m Sl.un)[i]? = some (.val d) := e
      rw [List.getElem?_append_right (by rw [List.length_map]; omega), List.getElem?_replicate] at e1
      split at e1 <;> cases e1
  · rw [no i x e] at o; cases o
  · rw [no i x e1] at o1; cases o1
theorem start_eq {N : List Str} {vs : List V} {m : Nat} (h : N.length - vs.length = m) : L2.start N vs = vs.map some ++ List.replicate m none := by
  unfold L2.start
  rw [h]
theorem fn_okD {P : Program} {w0 : World} {mg : Str → Option Value} {base : Heap} {x qual : Str} {st : Stmt} {f : Addr} {fd : FuncData} {N ps : List Str} {k n m : Nat} {body : DStm} (F : Fun G.K x qual st f fd) (S : FnScope N ps (defScope st)) (hn : ps.length = n) (hm : N.length - n = m)
    (hbody : ∀ (cdv : Value) (A : Around) (outer : List Env) (s : Shared) (H : Hp) (E : XK), Room k (A.deeper (envOfC qual (defScope st) s.heap.objs.size f cdv)) →
      Takes (cxOf (L2.CX P w0) P w0 G.K mg base N qual (defScope st) f cdv A outer s H E) (fun c d _ H => E c d H) → PassesOwn (model P w0) (A.deeper (envOfC qual (defScope st) s.heap.objs.size f cdv)) (envOfC qual (defScope st) s.heap.objs.size f cdv) (cxOf (L2.CX P w0) P w0 G.K mg base N qual (defScope st) f cdv A outer s H E).xe →
      PDSs G (fun c d _ H => E c d H) (cxOf (L2.CX P w0) P w0 G.K mg base N qual (defScope st) f cdv A outer s H E) (defBody st) body) : FnOk P w0 G.K mg base (L2.CX P w0) (k + 1) f fd ps (spG G n (fnD n body m)) := by
  refine F.okX S (fun vs H Q E h => by rw [h.1, hn]) fun cdv A outer s H vs Q E hr h => ?_
  refine ⟨_, hbody cdv A outer s H E hr (takes_of rfl rfl rfl rfl) (passes_of rfl), ?_⟩
  obtain ⟨hl, w, S', ds, fok, rs, q⟩ := h
  have hd : ds.length = n := by rw [← rs.length]; exact hl
  unfold fnD at q
  rw [if_pos hd] at q
  rw [start_eq (m := m) (by rw [hl]; exact hm)]
  refine ⟨⟨w, H, [], none⟩, w, _, Ok.start fok rs m, ?_⟩
  cases e : body ⟨ds.map Sl.val ++ List.replicate m .un, S'⟩ with
  | stuck => rw [e] at q; exact q.elim
  | exc x s' =>
    rw [e] at q
    exact fun w' σ' c dd H' l o r => q w' c dd H' o.nx o.fok r
  | ok o s' =>
    rw [e] at q
    cases o with
    | nx => exact fun w' σ' H' l o => q w' .non H' o.nx o.fok .non
    | bk => exact q.elim
    | ct => exact q.elim
    | rt d => exact fun w' σ' v H' l o r => q w' v H' o.nx o.fok r
/-! ### attributes -/
def insOf (d : D) (s : DS) : Option (String × List (Nm × D)) := match d with
  | .ins c fs => some (c, fs)
  | .cell n => match s.st[n]? with
    | some (.obj c fs) => some (c, fs)
    | _ => none
  | _ => none
theorem Rep.ins_of {κ : Bs} {w : Wd} {s : DS} {σ : L2.St} {H : Hp} {v : V} {d : D} {c : String} {fs : List (Nm × D)} (r : Rep G w v d) (ok : Ok G κ w s σ H) (h : insOf d s = some (c, fs)) : ∃ a C dx vs, v = .ref a ∧ G.ct c = some C ∧ H a = some (.ins C dx vs) ∧ RepF G w vs fs := by
  cases r with
  | @ins a C dx c' vs ds e1 e2 e3 =>
    have h : some (c', ds) = some (c, fs) := h
    cases h
    exact ⟨a, C, dx, vs, rfl, e1, ok.fok.sub _ _ e2, e3⟩
  | @cell a n e =>
    unfold insOf at h
    cases q : s.st[n]? with
    | none => simp [q] at h
    | some c' =>
      cases c' with
      | obj cc ff =>
        simp only [q] at h
        cases h
        obtain ⟨C, dx, vs, h1, h2, h3⟩ := ok.fok.cel n a _ e q
        exact ⟨a, C, dx, vs, rfl, h1, h2, h3⟩
      | _ => simp [q] at h
  | _ => exact nomatch h
def eFld (cs : List String) (fn : Nm) (f : DE) : DE := fun s => (f s).bind fun d s1 => match insOf d s1 with
  | some (c, fs) => if c ∈ cs then match fs.lookup fn with
    | some x => .ok x s1
    | none => .stuck
    else .stuck
  | none => .stuck
/-- what of the text the classes must have for an attribute -/
def FldOk (G : Gam) (cs : List String) (fn : Nm) : Prop := ∀ c ∈ cs, ∀ C, G.ct c = some C → Cls G.K C ∧ NoAttr G.K C (nm fn)
theorem pd_fld (hK : G.K = X.K) {cs : List String} {fn : Nm} {f : DE} {e : Expr} {x : Str} {pos : Pos} (hx : x = nm fn) (ho : FldOk G cs fn) (h : PD G W X e f) (hb : attributeBase e x X.env (eval e X.env) = eval e X.env := by rfl) : PD G W X (.Attribute e x pos) (eFld cs fn f) :=
  (pe_fld h hb).imp fun σ H Q ⟨κ, w, s, ok, q⟩ => ⟨κ, w, s, ok, (PostG.bind q).imp fun v H1 ⟨d, s1, w1, le, ok1, r1, q1⟩ => by
    cases e1 : insOf d s1 with
    | none => rw [e1] at q1; exact q1.elim
    | some p =>
      obtain ⟨c, fs⟩ := p
      rw [e1] at q1
      obtain ⟨a, C, dx, vs, ev, hC, hH, rf⟩ := r1.ins_of ok1 e1
      have q1 : PostG G W (Rep G) κ w1 σ (if c ∈ cs then match fs.lookup fn with | some x => .ok x s1 | none => .stuck else .stuck) Q := q1
      by_cases hc : c ∈ cs
      · rw [if_pos hc] at q1
        cases e2 : fs.lookup fn with
        | none => rw [e2] at q1; exact q1.elim
        | some z =>
          rw [e2] at q1
          obtain ⟨y, h1, h2⟩ := rf.look e2
          obtain ⟨cl, na⟩ := ho c hc C hC
          refine ⟨a, C, dx, vs, y, ev, hH, hK ▸ cl, by rw [hx]; exact hK ▸ na, by rw [hx]; exact h1, q1 w1 y H1 (.refl _) ok1 h2⟩
      · rw [if_neg hc] at q1
        exact q1.elim⟩
/-! ### o.m(..) -/
def eMeth (c : String) (m : Nm) (n : Nat) (g : DFn) (fo : DE) (fa : DA) : DE := fun s => (fo s).bind fun d s1 => match insOf d s1 with
  | some (c', fs) => if c' = c ∧ fs.lookup m = none then (fa s1).bind fun ds s2 => if ds.length + 1 = n then lift s2 (g (d :: ds) s2.st) else .stuck
    else .stuck
  | none => .stuck
theorem pd_meth (hK : G.K = X.K) {c : String} {mn : Nm} {n : Nat} {g : DFn} {fo : DE} {fa : DA} {C f : Addr} {m : Str} {k : Nat} {fd : FuncData} {ps : List Str} {o e : Expr} {es : List Expr} {apos pos : Pos} {pl : Sem Bool} (he : PD G W X o fo) (hC : G.ct c = some C) (cl : Cls X.K C) (hmn : m = nm mn) (hm : Meth X.K C m f)
    (F : FnOk X.prog X.w X.K X.mg X.base (L2.CX X.prog X.w) k f fd ps (spG G n g)) (hr : Room k X.A) (hb : Binds X.K fd ps []) (tk : Takes X W) (ha : PDA G W X (e :: es) fa)
    (hst : starEach (e :: es) X.env = (false, eval e X.env) :: starEach es X.env := by rfl) (hpl : (backTo pos (starEach es X.env)).any (·.1) = false := by rfl)
    (ht : eval (.Call (.Attribute o m apos) (e :: es) [] pos) X.env = (do
      let ov ← eval o X.env
      standAt apos.atName
      let (f, first) ← holding [ov] (getMethod ov m pl)
      callWith pos f first (backTo pos (starEach (e :: es) X.env)) (backToKw pos (keywordEach [] X.env))) := by rfl) :
    PD G W X (.Call (.Attribute o m apos) (e :: es) [] pos) (eMeth c mn n g fo fa) := by
  refine ⟨fun pins sh σ H Q I h => ?_⟩
  obtain ⟨κ, w, s, ok, q⟩ := h
  have hh : tD G W fo σ H fun v H1 => ∃ d s1 w1, w.le w1 ∧ Ok G κ w1 s1 σ H1 ∧ Rep G w1 v d ∧ PostG G W (Rep G) κ w1 σ (match insOf d s1 with
    | some (c', fs) => if c' = c ∧ fs.lookup mn = none then (fa s1).bind fun ds s2 => if ds.length + 1 = n then lift s2 (g (d :: ds) s2.st) else .stuck else .stuck
    | none => .stuck) Q := ⟨κ, w, s, ok, PostG.bind q⟩
  refine PySem.W.methodCall_KW (pl := pl) (thn (he.run pins sh σ H _ I hh) fun u s1 ⟨x, H1, I1, rx, d, t1, w1, le, ok1, r1, q1⟩ => ?_) ht
  cases e1 : insOf d t1 with
  | none => rw [e1] at q1; exact q1.elim
  | some p =>
    obtain ⟨c', fs⟩ := p
    rw [e1] at q1
    replace q1 : PostG G W (Rep G) κ w1 σ (if c' = c ∧ fs.lookup mn = none then (fa t1).bind fun ds s2 => if ds.length + 1 = n then lift s2 (g (d :: ds) s2.st) else .stuck else .stuck) Q := q1
    by_cases hc : c' = c ∧ fs.lookup mn = none
    · rw [if_pos hc] at q1
      obtain ⟨rfl, hl⟩ := hc
      obtain ⟨a, C', dx, vs, ev, hC', hH, rf⟩ := r1.ins_of ok1 e1
      rw [hC] at hC'
      cases hC'
      subst ev
      obtain rfl : u = Value.ref a := rx
      have hl2 : vs.lookup m = none := by rw [hmn]; exact rf.none hl
      refine getmeth_ok I1 hH cl hm hl2 ?_
      have hh2 : tDA G W fa σ H1 fun vs H2 => ∃ ds s2 w2, w1.le w2 ∧ Ok G κ w2 s2 σ H2 ∧ Reps G w2 vs ds ∧ PostG G W (Rep G) κ w2 σ (if ds.length + 1 = n then lift s2 (g (d :: ds) s2.st) else .stuck) Q := ⟨κ, w1, t1, ok1, PostG.bind q1⟩
      refine PySem.W.callWith_K (first := [.ref a]) (h₀ := X.base) I.ok.mod.kin hm.kp (thn (ha.run pos pins s1 σ H1 _ I1 hh2) fun us s2 ⟨vs2, H2, I2, r2, ds, t2, w2, le2, ok2, rs2, q2⟩ => ⟨I2.kIn, ?_⟩) hst hpl
      by_cases c3 : ds.length + 1 = n
      · rw [if_pos c3] at q2
        exact callD (us := .ref a :: us) (vs := .ref a :: vs2) (ds := d :: ds) F hr hb tk I2 ok2 (.cons (r1.mono le2) rs2) (.cons rfl r2) c3 q2
      · rw [if_neg c3] at q2
        exact q2.elim
    · rw [if_neg hc] at q1
      exact q1.elim
theorem pd_meth0 (hK : G.K = X.K) {c : String} {mn : Nm} {n : Nat} {g : DFn} {fo : DE} {C f : Addr} {m : Str} {k : Nat} {fd : FuncData} {ps : List Str} {o : Expr} {apos pos : Pos} {pl : Sem Bool} (he : PD G W X o fo) (hC : G.ct c = some C) (cl : Cls X.K C) (hmn : m = nm mn) (hm : Meth X.K C m f)
    (F : FnOk X.prog X.w X.K X.mg X.base (L2.CX X.prog X.w) k f fd ps (spG G n g)) (hr : Room k X.A) (hb : Binds X.K fd ps []) (tk : Takes X W)
    (ht : eval (.Call (.Attribute o m apos) [] [] pos) X.env = (do
      let ov ← eval o X.env
      standAt apos.atName
      let (f, first) ← holding [ov] (getMethod ov m pl)
      callWith pos f first (backTo pos (starEach [] X.env)) (backToKw pos (keywordEach [] X.env))) := by rfl) :
    PD G W X (.Call (.Attribute o m apos) [] [] pos) (eMeth c mn n g fo aNil) := by
  refine ⟨fun pins sh σ H Q I h => ?_⟩
  obtain ⟨κ, w, s, ok, q⟩ := h
  have hh : tD G W fo σ H fun v H1 => ∃ d s1 w1, w.le w1 ∧ Ok G κ w1 s1 σ H1 ∧ Rep G w1 v d ∧ PostG G W (Rep G) κ w1 σ (match insOf d s1 with
    | some (c', fs) => if c' = c ∧ fs.lookup mn = none then (aNil s1).bind fun ds s2 => if ds.length + 1 = n then lift s2 (g (d :: ds) s2.st) else .stuck else .stuck
    | none => .stuck) Q := ⟨κ, w, s, ok, PostG.bind q⟩
  refine PySem.W.methodCall_KW (pl := pl) (thn (he.run pins sh σ H _ I hh) fun u s1 ⟨x, H1, I1, rx, d, t1, w1, le, ok1, r1, q1⟩ => ?_) ht
  cases e1 : insOf d t1 with
  | none => rw [e1] at q1; exact q1.elim
  | some p =>
    obtain ⟨c', fs⟩ := p
    rw [e1] at q1
    replace q1 : PostG G W (Rep G) κ w1 σ (if c' = c ∧ fs.lookup mn = none then (if 0 + 1 = n then lift t1 (g [d] t1.st) else .stuck) else .stuck) Q := q1
    by_cases hc : c' = c ∧ fs.lookup mn = none
    · rw [if_pos hc] at q1
      obtain ⟨rfl, hl⟩ := hc
      obtain ⟨a, C', dx, vs, ev, hC', hH, rf⟩ := r1.ins_of ok1 e1
      rw [hC] at hC'
      cases hC'
      subst ev
      obtain rfl : u = Value.ref a := rx
      have hl2 : vs.lookup m = none := by rw [hmn]; exact rf.none hl
      refine getmeth_ok I1 hH cl hm hl2 ?_
      by_cases c3 : 0 + 1 = n
      · rw [if_pos c3] at q1
        exact PySem.W.callWith_K0 (first := [.ref a]) I1.kIn hm.kp (callD (us := [.ref a]) (vs := [.ref a]) (ds := [d]) F hr hb tk I1 ok1 (.cons r1 .nil) (.cons rfl .nil) c3 q1)
      · rw [if_neg c3] at q1
        exact q1.elim
    · rw [if_neg hc] at q1
      exact q1.elim
/-! ### C(..): an instance of one's own class is made -/
abbrev DIn := List D → List Cell → Res (List Cell) (List (Nm × D))
def erase (H : Hp) (x : Addr) : Hp := fun a => if a = x then none else H a
def spI (G : Gam) (c : String) (n : Nat) (g : DIn) : Sp := fun vs H Q E => vs.length = n + 1 ∧ ∃ w S ds x vs' C dx, vs = .ref x :: vs' ∧ G.ct c = some C ∧ H x = some (.ins C dx []) ∧ FOk G w S H ∧ w.F x = none ∧ x ∉ w.ρ ∧ Reps G w vs' ds ∧
  match g ds S with
  | .ok fs S' => ∀ w' H' vfs dx', Nx w (erase H x) w' H' → FOk G w' S' H' → H' x = some (.ins C dx' vfs) → RepF G w' vfs fs → w'.F x = none → x ∉ w'.ρ → Q .non H'
  | .exc x' S' => ∀ w' cc dd H', Nx w (erase H x) w' H' → FOk G w' S' H' → RepX G w' cc dd x' → E cc dd H'
  | .stuck => False
def inFin (c : String) (s : DS) : Res (List Cell) (List (Nm × D)) := match (s.sl[0]? : Option Sl) with
  | some (.oi c' fs) => if c' = c then .ok fs s.st else .stuck
  | _ => .stuck
def inD (c : String) (n : Nat) (body : DStm) (m : Nat) : DIn := fun ds S => if ds.length = n then
  match body ⟨.oi c [] :: ds.map Sl.val ++ List.replicate m .un, S⟩ with
  | .ok (.rt .non) s => inFin c s
  | .ok .nx s => inFin c s
  | .exc x s => .exc x s.st
  | _ => .stuck
  else .stuck
theorem Ok.startI {w : Wd} {S : List Cell} {H : Hp} {vs : List V} {ds : List D} {x C dx : Addr} {c : String} (f : FOk G w S H) (r : Reps G w vs ds) (m : Nat) (hC : G.ct c = some C) (hx : H x = some (.ins C dx [])) (nF : w.F x = none) (nR : x ∉ w.ρ) :
    Ok G ⟨w, erase H x, [], some x⟩ w ⟨.oi c [] :: ds.map Sl.val ++ List.replicate m .un, S⟩ (some (.ref x) :: vs.map some ++ List.replicate m none) H := by
  have base := Ok.start f r m
  have no : ∀ (i : Nat) (y : Sl), (ds.map Sl.val ++ List.replicate m Sl.un)[i]? = some y → y.own = false := fun i y e => by
    have hx := List.mem_of_getElem? e
    rcases List.mem_append.mp hx with h | h
    · obtain ⟨d, _, rfl⟩ := List.mem_map.mp h
      rfl
    · rw [(List.mem_replicate.mp h).2]
      rfl
  refine ⟨f, ⟨.refl _, fun a o e _ => ?_, fun a h => .inl h, fun a h => .inl h⟩, by simp [r.length], fun i d e => ?_, fun i y e o => ?_, fun i j y z a e1 e2 o1 o2 _ _ => ?_, fun p hp => by simp at hp, fun a z c' fs' _ => by cases z; rfl⟩
  · have e : (if a = x then none else H a) = some o := e
    split at e
    · cases e
    · exact e
  · cases i with
    | zero => cases e
    | succ i => exact base.val i d e
  · cases i with
    | zero =>
      cases e
      exact ⟨x, rfl, ⟨C, dx, [], hC, hx, .nil⟩, nF, nR, by show (if x = x then none else H x) = none; rw [if_pos rfl]⟩
    | succ i =>
      rw [no i y e] at o
      cases o
  · cases i with
    | zero =>
      cases j with
      | zero => rfl
      | succ j => rw [no j z e2] at o2; cases o2
    | succ i => rw [no i y e1] at o1; cases o1
theorem in_okD {P : Program} {w0 : World} {mg : Str → Option Value} {base : Heap} {x qual : Str} {st : Stmt} {f : Addr} {fd : FuncData} {N ps : List Str} {c : String} {k n m : Nat} {body : DStm} (F : Fun G.K x qual st f fd) (S : FnScope N ps (defScope st)) (hn : ps.length = n + 1) (hm : N.length - (n + 1) = m)
    (hbody : ∀ (cdv : Value) (A : Around) (outer : List Env) (s : Shared) (H : Hp) (E : XK), Room k (A.deeper (envOfC qual (defScope st) s.heap.objs.size f cdv)) →
      Takes (cxOf (L2.CX P w0) P w0 G.K mg base N qual (defScope st) f cdv A outer s H E) (fun c d _ H => E c d H) → PassesOwn (model P w0) (A.deeper (envOfC qual (defScope st) s.heap.objs.size f cdv)) (envOfC qual (defScope st) s.heap.objs.size f cdv) (cxOf (L2.CX P w0) P w0 G.K mg base N qual (defScope st) f cdv A outer s H E).xe →
      PDSs G (fun c d _ H => E c d H) (cxOf (L2.CX P w0) P w0 G.K mg base N qual (defScope st) f cdv A outer s H E) (defBody st) body) : FnOk P w0 G.K mg base (L2.CX P w0) (k + 1) f fd ps (spI G c n (inD c n body m)) := by
  refine F.okX S (fun vs H Q E h => by rw [h.1, hn]) fun cdv A outer s H vs Q E hr h => ?_
  refine ⟨_, hbody cdv A outer s H E hr (takes_of rfl rfl rfl rfl) (passes_of rfl), ?_⟩
  obtain ⟨hl, w, S', ds, xa, vs', C, dx, ev, hC, hx, fok, nF, nR, rs, q⟩ := h
  subst ev
  have hl' : vs'.length = n := by simpa using hl
  have hd : ds.length = n := by rw [← rs.length]; exact hl'
  unfold inD at q
  rw [if_pos hd] at q
  rw [start_eq (m := m) (by rw [List.length_cons, hl']; exact hm)]
  refine ⟨⟨w, erase H xa, [], some xa⟩, w, _, Ok.startI fok rs m hC hx nF nR, ?_⟩
  have fin : ∀ (w' : Wd) (σ' : L2.St) (H' : Hp) (s' : DS), Ok G ⟨w, erase H xa, [], some xa⟩ w' s' σ' H' →
      (match inFin c s' with
        | .ok fs S' => ∀ w' H' vfs dx', Nx w (erase H xa) w' H' → FOk G w' S' H' → H' xa = some (.ins C dx' vfs) → RepF G w' vfs fs → w'.F xa = none → xa ∉ w'.ρ → Q .non H'
        | .exc x' S' => ∀ w' cc dd H', Nx w (erase H xa) w' H' → FOk G w' S' H' → RepX G w' cc dd x' → E cc dd H'
        | .stuck => False) → Q .non H' := fun w' σ' H' s' o q => by
    unfold inFin at q
    cases e0 : s'.sl[0]? with
    | none => rw [e0] at q; exact q.elim
    | some y =>
      rw [e0] at q
      cases y with
      | oi c' fs =>
        by_cases hc : c' = c
        · subst hc
          simp only [if_true] at q
          have h0 := o.me xa rfl _ _ e0
          obtain ⟨a, h1, ⟨C', dx', vfs, hC', hH, rf⟩, h3, h4, _⟩ := o.own 0 _ e0 rfl
          rw [h0] at h1
          cases h1
          rw [hC] at hC'
          cases hC'
          exact q w' H' vfs dx' o.nx o.fok hH rf h3 h4
        · simp only [if_neg hc] at q
      | _ => exact q.elim
  cases e : body ⟨.oi c [] :: ds.map Sl.val ++ List.replicate m .un, S'⟩ with
  | stuck => rw [e] at q; exact q.elim
  | exc x s' =>
    rw [e] at q
    exact fun w' σ' c dd H' l o r => q w' c dd H' o.nx o.fok r
  | ok o s' =>
    rw [e] at q
    cases o with
    | nx => exact fun w' σ' H' l o => fin w' σ' H' s' o q
    | bk => exact q.elim
    | ct => exact q.elim
    | rt d =>
      intro w' σ' v H' l o r
      cases r with
      | non => exact fin w' σ' H' s' o q
      | _ => exact q.elim
/-- what of the text a class must have to be made -/
theorem makeD {c : String} {n k : Nat} {g : DIn} {C f : Addr} {fd : FuncData} {ps : List Str} {pins : List (Addr × Obj)} {sh : Shared} {κ : Bs} {w : Wd} {s : DS} {σ : L2.St} {H : Hp} {vs : List V} {ds : List D} {us : List Value} {Q : VK} (M : Mk X.K C f) (hC : G.ct c = some C)
    (F : FnOk X.prog X.w X.K X.mg X.base (L2.CX X.prog X.w) k f fd ps (spI G c n g)) (hr : Room (k + 1) X.A) (hb : Binds X.K fd ps []) (tk : Takes X W) (I : Inv X pins σ H sh) (ok : Ok G κ w s σ H) (rs : Reps G w vs ds) (r : Vals vs us) (hn : ds.length = n)
    (q : PostG G W (Rep G) κ w σ ((lift s (g ds s.st)).bind fun fs s1 => .ok (.ins c fs) s1) Q) : wpAny (model X.prog X.w) X.A (call (.ref C) us) (EP X pins σ Q) X.xe sh := by
  have key : ∀ x dx, H x = none → H dx = none → dx ≠ x → spI G c n g (.ref x :: (vs ++ [])) (upd (upd H dx (.own x)) x (.ins C dx [])) (fun v H2 => v = .non ∧ Q (.ref x) H2) (WE W σ) := fun x dx nx ndx ne => by
    have o1 := ok.fresh ndx (.own x)
    have nx1 : upd H dx (.own x) x = none := by rw [upd_ne (Ne.symm ne)]; exact nx
    have o2 := o1.fresh nx1 (.ins C dx [])
    obtain ⟨g1, g2, g3, g4, g5⟩ := o2.gam (x, .ins C dx []) List.mem_cons_self
    have kx : ∀ a o, H a = some o → erase (upd (upd H dx (.own x)) x (.ins C dx [])) x a = some o := fun a o e => by
      have h1 : a ≠ x := ne_of_none e nx
      have h2 : a ≠ dx := ne_of_none e ndx
      show (if a = x then none else _) = some o
      rw [if_neg h1, upd_ne h1, upd_ne h2]
      exact e
    have bk : ∀ a, erase (upd (upd H dx (.own x)) x (.ins C dx [])) x a = none → H a = none := fun a e => by
      cases e2 : H a with
      | none => rfl
      | some o => rw [kx a o e2] at e; cases e
    refine ⟨by rw [List.append_nil, List.length_cons, rs.length, hn], w, s.st, ds, x, vs, C, dx, by rw [List.append_nil], hC, g1, o2.fok, g2, g3, rs, ?_⟩
    cases e : g ds s.st with
    | stuck => rw [e] at q; exact q.elim
    | exc x' S' =>
      rw [e] at q
      exact fun w' cc dd H' nn f' r => q w' cc dd H' nn.le (ok.step ⟨nn.le, fun a o e1 e2 => nn.keep a o (kx a o e1) e2, fun a h => (nn.newF a h).imp_right (bk a), fun a h => (nn.newR a h).imp_right (bk a)⟩ f') r
    | ok fs S' =>
      rw [e] at q
      intro w' H' vfs dx' nn f' hx rf hF hR
      refine ⟨rfl, ?_⟩
      have N1 : Nx w H w' H' := ⟨nn.le, fun a o e1 e2 => nn.keep a o (kx a o e1) e2, fun a h => (nn.newF a h).imp_right (bk a), fun a h => (nn.newR a h).imp_right (bk a)⟩
      have o3 : Ok G (κ.plus x (.ins C dx' vfs)) w' ⟨s.sl, S'⟩ σ H' := by
        have o3 := ok.step N1 f'
        refine ⟨o3.fok, o3.nx, o3.len, o3.val, o3.own, o3.ne, fun p hp => ?_, o3.me⟩
        rcases List.mem_cons.mp hp with rfl | hp
        · exact ⟨hx, hF, hR, g4, g5⟩
        · exact o3.gam p hp
      obtain ⟨le, o4⟩ := o3.frz fun p hp => ne_of_none (ok.gam p hp).1 nx
      exact q _ _ _ (nn.le.trans le) o4 (.ins hC upd_same (rf.mono le))
  have hx : PassesAt (L2.CX X.prog X.w) X σ (WE W σ) := passAt tk σ
  have hq := key (sh.heap.objs.size + 1) sh.heap.objs.size (I.hok.fresh (Nat.le_succ _)) (I.hok.fresh (Nat.le_refl _)) (Nat.ne_of_lt (Nat.lt_succ_self _))
  have I2 := Inv.made (C := C) I
  have r2 : Vals (V.ref (sh.heap.objs.size + 1) :: (vs ++ [])) (Value.ref (sh.heap.objs.size + 1) :: (us ++ [])) := .cons rfl (r.append .nil)
  have hl : (Value.ref (sh.heap.objs.size + 1) :: us ++ []).length = ps.length := by
    have e := r2.length
    rw [F.len _ _ _ _ hq] at e
    exact e.symm
  refine wpAny_call (make_map (f := f) I.kIn M.makes M.init (beq_iff_eq.mp M.fn) (codeAny_mono (F.run _ X.stack _ _ ⟨Value.ref (sh.heap.objs.size + 1) :: us, []⟩ (Value.ref (sh.heap.objs.size + 1) :: (us ++ [])) _ _ (WE W σ) (hr.make C us [])
    (I2.env0.make C us []) (by
      have hbb := hb _ (Value.ref (sh.heap.objs.size + 1) :: us) I2.kIn hl
      rw [List.cons_append] at hbb
      exact hbb) r2 hq) fun r s' hq' => ?_))
  cases r with
  | error e => exact hx pins _ _ e s' I2 hq'
  | ok fl =>
    cases fl with
    | ret u =>
      obtain ⟨v, H', I3, rv, ev, q3⟩ := I2.after hq'
      subst ev
      exact ⟨rv, ⟨V.ref (sh.heap.objs.size + 1), H', I3, rfl, q3⟩⟩
    | next => exact False.elim hq'
    | brk => exact False.elim hq'
    | cont => exact False.elim hq'
def eMake (c : String) (n : Nat) (g : DIn) (fa : DA) : DE := fun s => (fa s).bind fun ds s1 => if ds.length = n then (lift s1 (g ds s1.st)).bind fun fs s2 => .ok (.ins c fs) s2 else .stuck
theorem pd_make {c : String} {n k : Nat} {g : DIn} {C f : Addr} {fd : FuncData} {ps : List Str} {x : Str} {p pos : Pos} {e : Expr} {es : List Expr} {fa : DA} (M : Mk X.K C f) (hC : G.ct c = some C) (F : FnOk X.prog X.w X.K X.mg X.base (L2.CX X.prog X.w) k f fd ps (spI G c n g)) (hr : Room (k + 1) X.A) (hg : Gl X x)
    (hm : X.mg x = some (.ref C)) (hb : Binds X.K fd ps []) (tk : Takes X W) (ha : PDA G W X (e :: es) fa) (hdb : (x == ("__debug__" : Str)) = false := by decide) (he : starEach (e :: es) X.env = (false, eval e X.env) :: starEach es X.env := by rfl)
    (hpl : (backTo pos (starEach es X.env)).any (·.1) = false := by rfl) : PD G W X (.Call (.Name x p) (e :: es) [] pos) (eMake c n g fa) := by
  refine ⟨fun pins s σ H Q I h => ?_⟩
  obtain ⟨κ, w, ds, ok, q⟩ := h
  refine wpAny_Call_Name_kw (ld_glob I hg hm ?_ hdb)
  have hh : tDA G W fa σ H fun vs H1 => ∃ d s1 w1, w.le w1 ∧ Ok G κ w1 s1 σ H1 ∧ Reps G w1 vs d ∧ PostG G W (Rep G) κ w1 σ (if d.length = n then (lift s1 (g d s1.st)).bind fun fs s2 => .ok (.ins c fs) s2 else .stuck) Q := ⟨κ, w, ds, ok, PostG.bind q⟩
  refine PySem.W.callWith_K (h₀ := X.base) I.ok.mod.kin M.kp (thn (ha.run pos pins s σ H _ I hh) fun us s1 ⟨vs, H1, I1, r, d, s2, w1, le, ok1, rs, q1⟩ => ⟨I1.kIn, ?_⟩) he hpl
  by_cases c : d.length = n
  · rw [if_pos c] at q1
    exact makeD M hC F hr hb tk I1 ok1 rs r c q1
  · rw [if_neg c] at q1
    exact q1.elim
/-! ### self.f = e -/
def sFldO (c : String) (i : Nat) (fn : Nm) (f : DE) : DStm := fun s => (f s).bind fun d s1 => match s1.sl[i]? with
  | some (.oi c' fs) => if c' = c ∧ fs.length < 1000 then .ok .nx ⟨s1.sl.set i (.oi c (putN fn d fs)), s1.st⟩ else .stuck
  | _ => .stuck
theorem RepF.put {w : Wd} {y : V} {d : D} {fn : Nm} (r : Rep G w y d) : ∀ {v : List (Str × V)} {ds : List (Nm × D)}, RepF G w v ds → RepF G w (putF (nm fn) y v) (putN fn d ds)
  | _, _, .nil => .cons r .nil
  | _, _, .cons (f := g) a b => by
    unfold putF putN
    by_cases h : g = fn
    · subst h
      rw [if_pos rfl]
      simp only [if_true]
      first
        | exact .cons r b
        | (split <;> first | exact .cons r b | (rename_i q; exact absurd rfl q))
    · have h2 : nm g ≠ nm fn := fun q => h (nm_inj q)
      rw [if_neg h]
      split
      · rename_i q; exact absurd q h2
      · exact .cons a (RepF.put r b)
theorem pds_fld (hK : G.K = X.K) {c : String} {C : Addr} {i : Nat} {fn : Nm} {f : DE} {x y : Str} {p pos' pos : Pos} {value : Expr} (ho : PE X (.Name y p) (tVar i)) (hx : x = nm fn) (hC : G.ct c = some C) (cl : Cls X.K C) (na : NoAttr X.K C x) (hv : PD G W X value f)
    (hs : swapsWith value (some (.Attribute (.Name y p) x pos')) pos.line X.env = pure false := by rfl) : PDS G W X (.Assign [.Attribute (.Name y p) x pos'] value pos) (sFldO c i fn f) :=
  (ps_fld ho hv hs).imp fun N σ H ⟨κ, w, s, ok, q⟩ => ⟨κ, w, s, ok, (PostG.bindS q).imp fun v H1 ⟨d, s1, w1, le, ok1, r1, q1⟩ => by
    cases e : s1.sl[i]? with
    | none => rw [e] at q1; exact q1.elim
    | some z =>
      rw [e] at q1
      cases z with
      | oi c' fs =>
        replace q1 : PostS G W κ w1 (if c' = c ∧ fs.length < 1000 then .ok .nx ⟨s1.sl.set i (.oi c (putN fn d fs)), s1.st⟩ else .stuck) N := q1
        by_cases hc : c' = c ∧ fs.length < 1000
        · rw [if_pos hc] at q1
          obtain ⟨rfl, hl⟩ := hc
          obtain ⟨a, h1, ⟨C', dx, vs, hC', hH, rf⟩, _⟩ := ok1.own i _ e rfl
          rw [hC] at hC'
          cases hC'
          refine ⟨_, h1, a, C, dx, vs, rfl, hH, cl, na, by rw [rf.length]; exact hl, ?_⟩
          refine q1 w1 σ _ (.refl _) (ok1.mut e rfl rfl h1 ⟨C, dx, _, hC, upd_same, ?_⟩ fun _ _ _ => ⟨_, _, rfl⟩)
          rw [hx]
          exact RepF.put r1 rf
        · rw [if_neg hc] at q1
          exact q1.elim
      | _ => exact q1.elim⟩
end
end DL
set_option maxRecDepth 100000
set_option maxHeartbeats 4000000
set_option autoImplicit false
namespace DL
open PySem PySem.Spec PyProof.Rows L2
section
variable {G : Gam} {W : WX} {X : Cx}
/-! ### operators that may call -/
abbrev DO2 := D → D → DS → Res DS D
def OpX (G : Gam) (W : WX) (X : Cx) (f : Value → Value → Sem Value) (o : DO2) : Prop := ∀ (pins : List (Addr × Obj)) (sh : Shared) (σ : L2.St) (H : Hp) (x y : V) (v u : Value) (κ : Bs) (w : Wd) (s : DS) (dx dy : D) (Q : VK),
  Inv X pins σ H sh → RelV x v → RelV y u → Ok G κ w s σ H → Rep G w x dx → Rep G w y dy → PostG G W (Rep G) κ w σ (o dx dy s) Q → wpAny (model X.prog X.w) X.A (f v u) (EP X pins σ Q) X.xe sh
def eOpX (o : DO2) (fa fb : DE) : DE := fun s => (fa s).bind fun x s1 => (fb s1).bind fun y s2 => o x y s2
def liftO (o : D → D → Option D) : DO2 := fun x y s => match o x y with
  | some d => .ok d s
  | none => .stuck
theorem OpD.x {f : Value → Value → Sem Value} {o : D → D → Option D} (h : OpD G X f o) : OpX G W X f (liftO o) := by
  obtain ⟨r, h1, h2⟩ := h
  intro pins sh σ H x y v u κ w s dx dy Q I rx ry ok dx' dy' q
  unfold liftO at q
  cases e : o dx dy with
  | none => rw [e] at q; exact q.elim
  | some z => rw [e] at q; exact h1 pins sh σ H x y v u Q I rx ry (h2 κ w s σ H x y dx dy z Q ok dx' dy' e q)
def orO (o o' : DO2) : DO2 := fun x y s => match o x y s with
  | .stuck => o' x y s
  | r => r
theorem OpX.or {f : Value → Value → Sem Value} {o o' : DO2} (h : OpX G W X f o) (h' : OpX G W X f o') : OpX G W X f (orO o o') := by
  intro pins sh σ H x y v u κ w s dx dy Q I rx ry ok dx' dy' q
  unfold orO at q
  cases e : o dx dy s with
  | stuck => rw [e] at q; exact h' pins sh σ H x y v u κ w s dx dy Q I rx ry ok dx' dy' q
  | exc a b => rw [e] at q; exact h pins sh σ H x y v u κ w s dx dy Q I rx ry ok dx' dy' (by rw [e]; exact q)
  | ok a b => rw [e] at q; exact h pins sh σ H x y v u κ w s dx dy Q I rx ry ok dx' dy' (by rw [e]; exact q)
theorem opX_run {o : DO2} {fa fb : DE} {a b : Expr} (ha : PD G W X a fa) (hb : PD G W X b fb) {f : Value → Value → Sem Value} (ho : OpX G W X f o) {pins : List (Addr × Obj)} {sh : Shared} {σ : L2.St} {H : Hp} {Q : VK} (I : Inv X pins σ H sh) (h : tD G W (eOpX o fa fb) σ H Q) :
    wpAny (model X.prog X.w) X.A (eval a X.env) (fun v s₁ => wpAny (model X.prog X.w) X.A (eval b X.env) (fun u s₂ => wpAny (model X.prog X.w) X.A (f v u) (EP X pins σ Q) X.xe s₂) X.xe s₁) X.xe sh := by
  obtain ⟨κ, w, s, ok, q⟩ := h
  have hh : tD G W fa σ H fun v H1 => tD G W fb σ H1 fun u H2 => ∃ d s1 w1, Ok G κ w1 s1 σ H2 ∧ ∃ d1, Rep G w1 v d1 ∧ Rep G w1 u d ∧ PostG G W (Rep G) κ w1 σ (o d1 d s1) Q :=
    ⟨κ, w, s, ok, (PostG.bind q).imp fun v H1 ⟨d, s1, w1, le, ok1, r1, q1⟩ => ⟨κ, w1, s1, ok1, (PostG.bind q1).imp fun u H2 ⟨d2, s2, w2, le2, ok2, r2, q2⟩ => ⟨d2, s2, w2, ok2, d, r1.mono le2, r2, q2⟩⟩⟩
  refine bin ha hb I (R := fun x y H2 => ∃ d s1 w1, Ok G κ w1 s1 σ H2 ∧ ∃ d1, Rep G w1 x d1 ∧ Rep G w1 y d ∧ PostG G W (Rep G) κ w1 σ (o d1 d s1) Q) hh fun v u s2 x y H2 I2 rx ry ⟨d, s1, w1, ok1, d1, r1, r2, q2⟩ => ?_
  exact ho pins s2 σ H2 x y v u κ w1 s1 d1 d Q I2 rx ry ok1 r1 r2 q2
theorem pd_opX {op : Operator} {o : DO2} {a b : Expr} {fa fb : DE} {pos : Pos} (ho : OpX G W X (binaryOp op) o) (ha : PD G W X a fa) (hb : PD G W X b fb) : PD G W X (.BinOp a op b pos) (eOpX o fa fb) :=
  ⟨fun pins s σ H Q I h => wpAny_BinOp (opX_run ha hb ho I h)⟩
theorem pd_cmpX {op : CmpOp} {o : DO2} {a b : Expr} {fa fb : DE} {pos : Pos} (ho : OpX G W X (compareOp op) o) (ha : PD G W X a fa) (hb : PD G W X b fb) (hm : behindInMarks op b = false) : PD G W X (.Compare a [op] [b] pos) (eOpX o fa fb) :=
  ⟨fun pins s σ H Q I h => wpAny_Compare1 (opX_run ha hb ho I h) hm⟩
/-! ### truth -/
def truD (d : D) : Option Bool := match d with
  | .non => some false
  | .bl b => some b
  | .int i => some (i != 0)
  | .str l => if l.length ≤ 16777216 then some ((l.length : Int) != 0) else none
  | .tup xs => some (!xs.isEmpty)
  | .lst xs => some (!xs.isEmpty)
  | .scr xs => some (!xs.isEmpty)
  | .dic xs => some (!xs.isEmpty)
  | _ => none
theorem Reps.isEmpty {w : Wd} {vs : List V} {ds : List D} (r : Reps G w vs ds) : vs.isEmpty = ds.isEmpty := by cases r <;> rfl
theorem RepK.isEmpty {w : Wd} {vs : List (Key × V)} {ds : List (DK × D)} (r : RepK G w vs ds) : vs.isEmpty = ds.isEmpty := by cases r <;> rfl
theorem nm_len (l : Nm) : (nm l).length = l.length := by simp [nm, Str.length]
theorem truV_of (hK : G.K = X.K) {κ : Bs} {w : Wd} {s : DS} {σ : L2.St} {H : Hp} {v : V} {d : D} {k : Bool} (ok : Ok G κ w s σ H) (r : Rep G w v d) (h : truD d = some k) : TruV X.K v H k := by
  cases r with
  | non => cases h; rfl
  | bl b => cases h; rfl
  | int i => cases h; rfl
  | str l =>
    have h : (if l.length ≤ 16777216 then some ((l.length : Int) != 0) else none) = some k := h
    split at h
    · rename_i c
      cases h
      exact ⟨by rw [nm_len, sizeLine_eq]; exact c, by rw [nm_len]⟩
    · cases h
  | @tup a vs ds e r => cases h; exact .inr (.inl ⟨vs, hK ▸ SqT.le e ok.fok.sub, by rw [r.isEmpty]⟩)
  | @lst a vs ds e r => cases h; exact .inl ⟨vs, .inl (.inl (ok.fok.sub _ _ e)), by rw [r.isEmpty]⟩
  | @scr a vs ds e r => cases h; exact .inl ⟨vs, hK ▸ SqL.le e ok.fok.sub, by rw [r.isEmpty]⟩
  | @dic a vs ds e r => cases h; exact .inr (.inr ⟨vs, ok.fok.sub _ _ e, by rw [r.isEmpty]⟩)
  | _ => cases h
def eTru (f : DE) : DT := fun s => (f s).bind fun d s1 => match truD d with
  | some b => .ok b s1
  | none => .stuck
theorem ptd_truth (hK : G.K = X.K) {e : Expr} {f : DE} (h : PD G W X e f) (he : ∀ whole, isTrue e X.env whole = (do let v ← whole; standAt e.pos; holding [v] (truthy v)) := by intro _; rfl) : PDT G W X e (eTru f) :=
  (pt_truth h he).imp fun σ H Q ⟨κ, w, s, ok, q⟩ => ⟨κ, w, s, ok, (PostG.bind q).imp fun v H1 ⟨d, s1, w1, le, ok1, r1, q1⟩ => by
    cases e1 : truD d with
    | none => rw [e1] at q1; exact q1.elim
    | some k => rw [e1] at q1; exact ⟨k, truV_of hK ok1 r1 e1, q1 w1 k H1 (.refl _) ok1 rfl⟩⟩
theorem ptd_cmpX {op : CmpOp} {o : DO2} {a b : Expr} {fa fb : DE} {pos : Pos} (ho : OpX G W X (compareOp op) o) (ha : PD G W X a fa) (hb : PD G W X b fb) (hm : behindInMarks op b = false) : PDT G W X (.Compare a [op] [b] pos) (eB (eOpX o fa fb)) :=
  ⟨fun pins s σ H Q I h => by
    have hh := tB_of h
    refine wpAny_isTrue_Compare1 (thn (opX_run ha hb ho I hh) fun v s1 h1 => thn h1 fun u s2 h2 => thn h2 fun c s3 ⟨x, H1, I1, r1, q1⟩ => ?_) hm
    obtain ⟨d, rfl, q⟩ := q1
    cases r1
    exact wpAny_truthy_bool ⟨H1, I1, q⟩⟩
/-- x or y, x and y by truth, as values -/
def eOrT (f g : DE) : DE := fun s => (f s).bind fun d s1 => match truD d with
  | some b => if b = true then .ok d s1 else g s1
  | none => .stuck
def eAndT (f g : DE) : DE := fun s => (f s).bind fun d s1 => match truD d with
  | some b => if b = true then g s1 else .ok d s1
  | none => .stuck
def eNotT (f : DE) : DE := fun s => (f s).bind fun d s1 => match truD d with
  | some b => .ok (.bl (!b)) s1
  | none => .stuck
theorem pd_orT (hK : G.K = X.K) {a b : Expr} {r : List Expr} {f g : DE} {pos : Pos} (h : PD G W X a f) (k : PD G W X (.BoolOp .Or (b :: r) pos) g) : PD G W X (.BoolOp .Or (a :: b :: r) pos) (eOrT f g) :=
  (pe_orT h k).imp fun σ H Q ⟨κ, w, s, ok, q⟩ => ⟨κ, w, s, ok, (PostG.bind q).imp fun v H1 ⟨d, s1, w1, le, ok1, r1, q1⟩ => by
    cases e1 : truD d with
    | none => rw [e1] at q1; exact q1.elim
    | some k =>
      rw [e1] at q1
      refine ⟨k, truV_of hK ok1 r1 e1, ?_⟩
      cases k with
      | true => exact q1 w1 v H1 (.refl _) ok1 r1
      | false => exact ⟨κ, w1, s1, ok1, q1⟩⟩
theorem pd_andT (hK : G.K = X.K) {a b : Expr} {r : List Expr} {f g : DE} {pos : Pos} (h : PD G W X a f) (k : PD G W X (.BoolOp .And (b :: r) pos) g) : PD G W X (.BoolOp .And (a :: b :: r) pos) (eAndT f g) :=
  (pe_andT h k).imp fun σ H Q ⟨κ, w, s, ok, q⟩ => ⟨κ, w, s, ok, (PostG.bind q).imp fun v H1 ⟨d, s1, w1, le, ok1, r1, q1⟩ => by
    cases e1 : truD d with
    | none => rw [e1] at q1; exact q1.elim
    | some k =>
      rw [e1] at q1
      refine ⟨k, truV_of hK ok1 r1 e1, ?_⟩
      cases k with
      | false => exact q1 w1 v H1 (.refl _) ok1 r1
      | true => exact ⟨κ, w1, s1, ok1, q1⟩⟩
theorem pd_notT (hK : G.K = X.K) {a : Expr} {f : DE} {pos : Pos} (h : PD G W X a f) : PD G W X (.UnaryOp .Not a pos) (eNotT f) :=
  (pe_notT h).imp fun σ H Q ⟨κ, w, s, ok, q⟩ => ⟨κ, w, s, ok, (PostG.bind q).imp fun v H1 ⟨d, s1, w1, le, ok1, r1, q1⟩ => by
    cases e1 : truD d with
    | none => rw [e1] at q1; exact q1.elim
    | some k => rw [e1] at q1; exact ⟨k, truV_of hK ok1 r1 e1, q1 w1 _ H1 (.refl _) ok1 (.bl _)⟩⟩
/-! ### ints -/
def dI (g : Int → Int → Option D) : D → D → Option D := fun x y => match x, y with
  | .int i, .int j => g i j
  | _, _ => none
theorem opd_I {f : Value → Value → Sem Value} {C : Int → Int → Prop} {gv : Int → Int → V} {g : Int → Int → Option D} (h : OpR X f (rI C gv)) (hg : ∀ i j d, g i j = some d → C i j ∧ ∀ w, Rep G w (gv i j) d) : OpD G X f (dI g) :=
  ⟨_, h, fun κ w s σ H x y dx dy d Q ok rx ry e q => by
    cases rx with
    | int i =>
      cases ry with
      | int j =>
        obtain ⟨c, r⟩ := hg _ _ _ e
        exact ⟨_, _, rfl, rfl, c, q w _ H (.refl _) ok (r w)⟩
      | _ => exact nomatch e
    | _ => exact nomatch e⟩
theorem opd_I0 {f : Value → Value → Sem Value} {gv : Int → Int → V} {g : Int → Int → Option D} (h : OpR X f (rI0 gv)) (hg : ∀ i j d, g i j = some d → ∀ w, Rep G w (gv i j) d) : OpD G X f (dI g) :=
  ⟨_, h, fun κ w s σ H x y dx dy d Q ok rx ry e q => by
    cases rx with
    | int i =>
      cases ry with
      | int j => exact ⟨_, _, rfl, rfl, q w _ H (.refl _) ok (hg _ _ _ e w)⟩
      | _ => exact nomatch e
    | _ => exact nomatch e⟩
/-- a bound on the bits that products may have -/
def mulOk (i j : Int) : Bool := decide (i.natAbs.log2 + j.natAbs.log2 < 100000000)
def divOk (j : Int) : Bool := decide (j ≠ 0 ∧ j.natAbs.log2 < 9000)
def iAdd : D → D → Option D := dI fun i j => some (.int (i + j))
def iSub : D → D → Option D := dI fun i j => some (.int (i - j))
def iMul : D → D → Option D := dI fun i j => if mulOk i j then some (.int (i * j)) else none
def iDiv : D → D → Option D := dI fun i j => if divOk j then some (.int (i.fdiv j)) else none
def iMod : D → D → Option D := dI fun i j => if j ≠ 0 then some (.int (i.fmod j)) else none
def iPow : D → D → Option D := dI fun i j => if 0 ≤ j ∧ j ≤ 1000000 ∧ i.natAbs < 2 ^ 64 then some (.int (i ^ j.toNat)) else none
def iShl : D → D → Option D := dI fun i j => if 0 ≤ j ∧ j ≤ 1000000 ∧ i.natAbs < 2 ^ 64 then some (.int (i * 2 ^ j.toNat)) else none
def iLt : D → D → Option D := dI fun i j => some (.bl (decide (i < j)))
def iLe : D → D → Option D := dI fun i j => some (.bl (decide (i ≤ j)))
def iGt : D → D → Option D := dI fun i j => some (.bl (decide (j < i)))
def iGe : D → D → Option D := dI fun i j => some (.bl (decide (j ≤ i)))
theorem opd_add : OpD G X (binaryOp .Add) iAdd := opd_I0 op_add fun i j d e w => by cases e; exact .int _
theorem opd_sub : OpD G X (binaryOp .Sub) iSub := opd_I0 op_sub fun i j d e w => by cases e; exact .int _
def CMulX (i j : Int) : Prop := i.natAbs.log2 + j.natAbs.log2 < 100000000
theorem CMulX.ok {i j : Int} (h : CMulX i j) : IntMulOk i j := by
  have b : ∀ x : Int, Builtin.Int.intBits x ≤ x.natAbs.log2 + 1 := fun x => by
    unfold Builtin.Int.intBits
    split <;> omega
  have h1 := b i
  have h2 := b j
  have h3 : i.natAbs.log2 + j.natAbs.log2 < 100000000 := h
  have e : bitsLine = 134217728 := by decide
  unfold IntMulOk
  intro z
  rw [Bool.and_eq_true] at z
  have z2 := z.2
  unfold Builtin.Int.intTooBig at z2
  have z3 := of_decide_eq_true z2
  rw [e] at z3
  omega
theorem op_mulX : OpR X (binaryOp .Mult) (rI CMulX fun i j => .int (i * j)) := opI fun _ _ _ _ _ _ _ hc q => mul_int q hc.ok
theorem opd_mul : OpD G X (binaryOp .Mult) iMul := opd_I op_mulX fun i j d e => by
  split at e
  · rename_i h
    cases e
    have h : decide (i.natAbs.log2 + j.natAbs.log2 < 100000000) = true := h
    exact ⟨(of_decide_eq_true h : i.natAbs.log2 + j.natAbs.log2 < 100000000), fun w => .int _⟩
  · cases e
theorem op_fdivX : OpR X (binaryOp .FloorDiv) (rI (fun _ j => j ≠ 0 ∧ j.natAbs.log2 < 9000) fun i j => .int (i.fdiv j)) := opI fun _ _ _ _ _ _ _ hc q => floordiv_int hc.1 q (.inl (PyProof.noPylong_of_log2 hc.2))
theorem opd_div : OpD G X (binaryOp .FloorDiv) iDiv := opd_I op_fdivX fun i j d e => by
  split at e
  · rename_i h
    cases e
    exact ⟨of_decide_eq_true h, fun w => .int _⟩
  · cases e
theorem opd_mod : OpD G X (binaryOp .Mod) iMod := opd_I op_modN fun i j d e => by
  split at e
  · rename_i h
    cases e
    exact ⟨h, fun w => .int _⟩
  · cases e
theorem opd_pow : OpD G X (binaryOp .Pow) iPow := opd_I op_pow fun i j d e => by
  split at e
  · rename_i h
    cases e
    exact ⟨h, fun w => .int _⟩
  · cases e
theorem opd_shl : OpD G X (binaryOp .LShift) iShl := opd_I op_shl fun i j d e => by
  split at e
  · rename_i h
    cases e
    exact ⟨h, fun w => .int _⟩
  · cases e
theorem opd_lt : OpD G X (compareOp .Lt) iLt := opd_I0 op_lt fun i j d e w => by cases e; exact .bl _
theorem opd_le : OpD G X (compareOp .LtE) iLe := opd_I0 op_le fun i j d e w => by cases e; exact .bl _
theorem opd_gt : OpD G X (compareOp .Gt) iGt := opd_I0 op_gt fun i j d e w => by cases e; exact .bl _
theorem opd_ge : OpD G X (compareOp .GtE) iGe := opd_I0 op_ge fun i j d e w => by cases e; exact .bl _
def eNeg (f : DE) : DE := fun s => (f s).bind fun d s1 => match d with
  | .int i => .ok (.int (-i)) s1
  | _ => .stuck
theorem pd_neg {a : Expr} {f : DE} {pos : Pos} (h : PD G W X a f) : PD G W X (.UnaryOp .USub a pos) (eNeg f) :=
  (pe_un un_neg h).imp fun σ H Q ⟨κ, w, s, ok, q⟩ => ⟨κ, w, s, ok, (PostG.bind q).imp fun v H1 ⟨d, s1, w1, le, ok1, r1, q1⟩ => by
    cases r1 with
    | int i => exact ⟨i, rfl, q1 w1 _ H1 (.refl _) ok1 (.int _)⟩
    | _ => exact q1.elim⟩
/-! ### sequences: +, * -/
def sAdd : D → D → Option D := fun x y => match x, y with
  | .str a, .str b => if a.length + b.length ≤ 1000000 then some (.str (a ++ b)) else none
  | .tup a, .tup b => if a ≠ [] ∧ b ≠ [] ∧ a.length + b.length ≤ 1000000 then some (.tup (a ++ b)) else none
  | _, _ => none
theorem nm_append (a b : Nm) : nm a ++ nm b = nm (a ++ b) := by
  show Str.mk _ = _
  simp [nm]
theorem opd_sadd (hK : G.K = X.K) : OpD G X (binaryOp .Add) sAdd := ⟨_, op_add_str.or op_catT, fun κ w s σ H x y dx dy d Q ok rx ry e q => by
  cases rx with
  | str a =>
    cases ry with
    | str b =>
      left
      have e : (if a.length + b.length ≤ 1000000 then some (D.str (a ++ b)) else none) = some d := e
      split at e
      · rename_i c
        cases e
        refine ⟨nm a, nm b, rfl, rfl, by rw [nm_len, nm_len, sizeLine_eq]; omega, ?_⟩
        rw [nm_append]
        exact q w _ H (.refl _) ok (.str _)
      · cases e
    | _ => exact nomatch e
  | @tup a vs ds e1 r1 =>
    cases ry with
    | @tup a2 vs2 ds2 e2 r2 =>
      right
      have e : (if ds ≠ [] ∧ ds2 ≠ [] ∧ ds.length + ds2.length ≤ 1000000 then some (D.tup (ds ++ ds2)) else none) = some d := e
      split at e
      · rename_i c
        cases e
        have n1 : vs ≠ [] := fun z => c.1 (by subst z; cases r1; rfl)
        have n2 : vs2 ≠ [] := fun z => c.2.1 (by subst z; cases r2; rfl)
        refine ⟨a, a2, vs, vs2, rfl, rfl, hK ▸ SqT.le e1 ok.fok.sub, hK ▸ SqT.le e2 ok.fok.sub, n1, by rw [r1.length, r2.length, sizeLine_eq]; omega, ?_⟩
        first
          | exact ⟨fun z => absurd z n2, fun p hp => by
              obtain ⟨le2, ok2⟩ := ok.alloc hp (.tup (vs ++ vs2))
              exact q _ _ _ le2 ok2 (.tup (.inl (.inl upd_same)) ((r1.append r2).mono le2))⟩
          | exact ⟨fun z => absurd z n2, fun _ p hp => by
              obtain ⟨le2, ok2⟩ := ok.alloc hp (.tup (vs ++ vs2))
              exact q _ _ _ le2 ok2 (.tup (.inl (.inl upd_same)) ((r1.append r2).mono le2))⟩
      · cases e
    | _ => exact nomatch e
  | _ => exact nomatch e⟩
/-- a + b of lists: a new list -/
def aCat (fa fb : DE) : DA := fun s => (fa s).bind fun x s1 => (fb s1).bind fun y s2 => match x, y with
  | .lst a, .lst b => if a.length + b.length ≤ 1000000 then .ok (a ++ b) s2 else .stuck
  | _, _ => .stuck
theorem pdo_cat {a b : Expr} {fa fb : DE} {pos : Pos} (ha : PD G W X a fa) (hb : PD G W X b fb) : PDo G W X (.BinOp a .Add b pos) (aCat fa fb) :=
  (pe_op op_cat ha hb).imp fun σ H Q ⟨κ, w, s, ok, q⟩ => ⟨κ, w, s, ok, (PostG.bindO q).imp fun v H1 ⟨d, s1, w1, le, ok1, r1, q1⟩ => ⟨κ, w1, s1, ok1, (PostG.bindO q1).imp fun v2 H2 ⟨d2, s2, w2, le2, ok2, r2, q2⟩ => by
    cases r1 with
    | @lst p vs ds e1 r1 =>
      cases r2 with
      | @lst p2 vs2 ds2 e2 r2 =>
        replace q2 : PostO G W κ w2 σ (if ds.length + ds2.length ≤ 1000000 then .ok (ds ++ ds2) s2 else .stuck) Q := q2
        split at q2
        · refine ⟨p, p2, vs, vs2, rfl, rfl, ok2.fok.sub _ _ (le2.f _ _ e1), ok2.fok.sub _ _ e2, by rw [r1.length, r2.length, sizeLine_eq]; omega, fun p hp => ?_⟩
          exact q2 w2 p _ _ (.refl _) (ok2.fresh hp _) (ok2.apart hp) ((r1.mono le2).append r2)
        · exact q2.elim
      | _ => exact q2.elim
    | _ => exact q2.elim⟩⟩
/-- list * int: a new list -/
def aRep (fa fb : DE) : DA := fun s => (fa s).bind fun x s1 => (fb s1).bind fun y s2 => match x, y with
  | .lst a, .int k => if -(2 ^ 63) ≤ k ∧ k < 2 ^ 63 ∧ a.length * k.toNat ≤ 1000000 then .ok (List.replicate k.toNat a).flatten s2 else .stuck
  | _, _ => .stuck
theorem Reps.rep {w : Wd} {vs : List V} {ds : List D} (r : Reps G w vs ds) : ∀ k : Nat, Reps G w (List.replicate k vs).flatten (List.replicate k ds).flatten
  | 0 => .nil
  | k + 1 => by
    rw [List.replicate_succ, List.replicate_succ, List.flatten_cons, List.flatten_cons]
    exact r.append (Reps.rep r k)
/-! ### subscripts -/
def ixD (d : D) (i : Int) : Option D := match d with
  | .tup xs => atI xs i
  | .lst xs => atI xs i
  | .scr xs => atI xs i
  | .str l => if l.length ≤ 16777216 then (atI l i).map fun c => .str [c] else none
  | _ => none
def eIx (fa fb : DE) : DE := fun s => (fa s).bind fun x s1 => (fb s1).bind fun y s2 => match y with
  | .int i => match ixD x i with
    | some d => .ok d s2
    | none => .stuck
  | _ => .stuck
theorem Reps.atI {w : Wd} {vs : List V} {ds : List D} {i : Int} {d : D} (r : Reps G w vs ds) (h : L2.atI ds i = some d) : ∃ v, L2.atI vs i = some v ∧ Rep G w v d := by
  unfold L2.atI at h ⊢
  rw [r.length]
  cases e : ixN ds.length i with
  | none => rw [e] at h; cases h
  | some j =>
    rw [e] at h
    obtain ⟨v, h1, h2⟩ := r.get (i := j) h
    exact ⟨v, h1, h2⟩
theorem pd_ix (hK : G.K = X.K) {a b : Expr} {fa fb : DE} {pos : Pos} (ha : PD G W X a fa) (hb : PD G W X b fb) (hs : PlainIx b) : PD G W X (.Subscript a b pos) (eIx fa fb) :=
  (pe_ix ix_seq ha hb hs).imp fun σ H Q ⟨κ, w, s, ok, q⟩ => ⟨κ, w, s, ok, (PostG.bind q).imp fun v H1 ⟨d, s1, w1, le, ok1, r1, q1⟩ => ⟨κ, w1, s1, ok1, (PostG.bind q1).imp fun v2 H2 ⟨d2, s2, w2, le2, ok2, r2, q2⟩ => by
    cases r2 with
    | int i =>
      replace q2 : PostG G W (Rep G) κ w2 σ (match ixD d i with | some d => .ok d s2 | none => .stuck) Q := q2
      cases e : ixD d i with
      | none => rw [e] at q2; exact q2.elim
      | some z =>
        rw [e] at q2
        cases r1 with
        | @tup p vs ds e1 r1 =>
          obtain ⟨y, h1, h2⟩ := Reps.atI r1 e
          exact .inr (.inl ⟨p, vs, i, y, rfl, rfl, hK ▸ SqT.le (SqT.le e1 le2.f) ok2.fok.sub, h1, q2 w2 y H2 (.refl _) ok2 (h2.mono le2)⟩)
        | @lst p vs ds e1 r1 =>
          obtain ⟨y, h1, h2⟩ := Reps.atI r1 e
          exact .inl ⟨p, vs, i, y, rfl, rfl, .inl (.inl (ok2.fok.sub _ _ (le2.f _ _ e1))), h1, q2 w2 y H2 (.refl _) ok2 (h2.mono le2)⟩
        | @scr p vs ds e1 r1 =>
          obtain ⟨y, h1, h2⟩ := Reps.atI r1 e
          exact .inl ⟨p, vs, i, y, rfl, rfl, hK ▸ SqL.le (SqL.le e1 le2.f) ok2.fok.sub, h1, q2 w2 y H2 (.refl _) ok2 (h2.mono le2)⟩
        | str l =>
          have e : (if l.length ≤ 16777216 then (L2.atI l i).map fun c => D.str [c] else none) = some z := e
          split at e
          · rename_i hl
            cases e3 : L2.atI l i with
            | none => simp [e3] at e
            | some c =>
              simp only [e3, Option.map_some, Option.some.injEq] at e
              subst e
              refine .inr (.inr ⟨nm l, i, c, rfl, rfl, by rw [nm_len, sizeLine_eq]; exact hl, by simpa [nm] using e3, ?_⟩)
              exact q2 w2 _ H2 (.refl _) ok2 (.str [c])
          · cases e
        | _ => exact nomatch e
    | _ => exact q2.elim⟩⟩
end
end DL
set_option maxRecDepth 100000
set_option maxHeartbeats 4000000
set_option autoImplicit false
namespace DL
open PySem PySem.Spec PyProof.Rows L2
section
variable {G : Gam} {W : WX} {X : Cx}
/-! ### built-ins by name -/
def CallD (G : Gam) (X : Cx) (f : Value) (o : List D → Option D) : Prop := ∃ r, CallR X f r ∧ ∀ (κ : Bs) (w : Wd) (s : DS) (σ : L2.St) (H : Hp) (vs : List V) (ds : List D) (d : D) (Q : VK),
  Ok G κ w s σ H → Reps G w vs ds → o ds = some d → (∀ w' v H', w.le w' → Ok G κ w' s σ H' → Rep G w' v d → Q v H') → r vs H Q
def eCB (o : List D → Option D) (fa : DA) : DE := fun s => (fa s).bind fun ds s1 => match o ds with
  | some d => .ok d s1
  | none => .stuck
theorem cb_of {o : List D → Option D} {r : List V → Hp → VK → Prop} {fa : DA} {σ : L2.St} {H : Hp} {Q : VK} (h2 : ∀ (κ : Bs) (w : Wd) (s : DS) (σ : L2.St) (H : Hp) (vs : List V) (ds : List D) (d : D) (Q : VK),
    Ok G κ w s σ H → Reps G w vs ds → o ds = some d → (∀ w' v H', w.le w' → Ok G κ w' s σ H' → Rep G w' v d → Q v H') → r vs H Q) (h : tD G W (eCB o fa) σ H Q) : tCB r (tDA G W fa) σ H Q := by
  obtain ⟨κ, w, s, ok, q⟩ := h
  refine ⟨κ, w, s, ok, (PostG.bind q).imp fun v H1 ⟨d, s1, w1, le, ok1, r1, q1⟩ => ?_⟩
  cases e : o d with
  | none => rw [e] at q1; exact q1.elim
  | some z => rw [e] at q1; exact h2 κ w1 s1 σ H1 v d z Q ok1 r1 e q1
theorem pd_callB {x : Str} {id : String} {p pos : Pos} {e : Expr} {es : List Expr} {fa : DA} {o : List D → Option D} (hc : CallD G X (.builtin id) o) (hg : Gl X x) (hm : X.mg x = none) (hv : bootBuiltins x = some (.builtin id)) (ha : PDA G W X (e :: es) fa) (hn : x ≠ "__name__" := by decide)
    (hdb : (x == ("__debug__" : Str)) = false := by decide) (he : starEach (e :: es) X.env = (false, eval e X.env) :: starEach es X.env := by rfl) (hpl : (backTo pos (starEach es X.env)).any (·.1) = false := by rfl) : PD G W X (.Call (.Name x p) (e :: es) [] pos) (eCB o fa) := by
  obtain ⟨r, h1, h2⟩ := hc
  exact (pe_callB h1 hg hm hv ha hn hdb he hpl).imp fun σ H Q h => cb_of h2 h
theorem pd_callTy {x : Str} {T : String} {p pos : Pos} {e : Expr} {es : List Expr} {fa : DA} {o : List D → Option D} (hc : CallD G X (.type T) o) (hg : Gl X x) (hm : X.mg x = none) (hv : bootBuiltins x = some (.type T)) (ha : PDA G W X (e :: es) fa) (hn : x ≠ "__name__" := by decide)
    (hdb : (x == ("__debug__" : Str)) = false := by decide) (he : starEach (e :: es) X.env = (false, eval e X.env) :: starEach es X.env := by rfl) (hpl : (backTo pos (starEach es X.env)).any (·.1) = false := by rfl) : PD G W X (.Call (.Name x p) (e :: es) [] pos) (eCB o fa) := by
  obtain ⟨r, h1, h2⟩ := hc
  exact (pe_callTy h1 hg hm hv ha hn hdb he hpl).imp fun σ H Q h => cb_of h2 h
theorem Reps.one {w : Wd} {vs : List V} {d : D} (r : Reps G w vs [d]) : ∃ v, vs = [v] ∧ Rep G w v d := by
  cases r with
  | cons a b => cases b; exact ⟨_, rfl, a⟩
theorem Reps.two {w : Wd} {vs : List V} {d d' : D} (r : Reps G w vs [d, d']) : ∃ v v', vs = [v, v'] ∧ Rep G w v d ∧ Rep G w v' d' := by
  cases r with
  | cons a b =>
    cases b with
    | cons a2 b2 => cases b2; exact ⟨_, _, rfl, a, a2⟩
def bLen : List D → Option D
  | [.tup xs] => some (.int xs.length)
  | [.lst xs] => some (.int xs.length)
  | [.scr xs] => some (.int xs.length)
  | [.str l] => if l.length ≤ 16777216 then some (.int l.length) else none
  | _ => none
theorem cd_len (hK : G.K = X.K) : CallD G X (.builtin "len") bLen := ⟨_, call_len, fun κ w s σ H vs ds d Q ok rs e q => by
  match ds, e with
  | [.tup xs], e =>
    cases e
    obtain ⟨v, rfl, r⟩ := rs.one
    cases r with
    | @tup a vs ds e r => exact ⟨_, _, rfl, .inr ⟨vs, hK ▸ SqT.le e ok.fok.sub, rfl⟩, by rw [r.length]; exact q w _ H (.refl _) ok (.int _)⟩
  | [.lst xs], e =>
    cases e
    obtain ⟨v, rfl, r⟩ := rs.one
    cases r with
    | @lst a vs ds e r => exact ⟨_, _, rfl, .inl ⟨vs, .inl (.inl (ok.fok.sub _ _ e)), rfl⟩, by rw [r.length]; exact q w _ H (.refl _) ok (.int _)⟩
  | [.scr xs], e =>
    cases e
    obtain ⟨v, rfl, r⟩ := rs.one
    cases r with
    | @scr a vs ds e r => exact ⟨_, _, rfl, .inl ⟨vs, hK ▸ SqL.le e ok.fok.sub, rfl⟩, by rw [r.length]; exact q w _ H (.refl _) ok (.int _)⟩
  | [.str l], e =>
    have e : (if l.length ≤ 16777216 then some (D.int l.length) else none) = some d := e
    split at e
    · rename_i c
      cases e
      obtain ⟨v, rfl, r⟩ := rs.one
      cases r
      exact ⟨_, _, rfl, ⟨by rw [nm_len, sizeLine_eq]; exact c, rfl⟩, by rw [nm_len]; exact q w _ H (.refl _) ok (.int _)⟩
    · cases e⟩
def bInt : List D → Option D
  | [.int i] => some (.int i)
  | [.bl b] => some (.int (if b then 1 else 0))
  | _ => none
theorem cd_int : CallD G X (.type "int") bInt := ⟨_, call_int1, fun κ w s σ H vs ds d Q ok rs e q => by
  match ds, e with
  | [.int i], e =>
    cases e
    obtain ⟨v, rfl, r⟩ := rs.one
    cases r
    exact .inl ⟨i, rfl, q w _ H (.refl _) ok (.int _)⟩
  | [.bl b], e =>
    cases e
    obtain ⟨v, rfl, r⟩ := rs.one
    cases r
    exact .inr ⟨b, rfl, q w _ H (.refl _) ok (.int _)⟩⟩
def bAbs : List D → Option D
  | [.int i] => some (.int (if i < 0 then -i else i))
  | _ => none
theorem cd_abs : CallD G X (.builtin "abs") bAbs := ⟨_, call_abs, fun κ w s σ H vs ds d Q ok rs e q => by
  match ds, e with
  | [.int i], e =>
    cases e
    obtain ⟨v, rfl, r⟩ := rs.one
    cases r
    exact ⟨i, rfl, q w _ H (.refl _) ok (.int _)⟩⟩
def bMax2 : List D → Option D
  | [.int i, .int j] => some (.int (if j > i then j else i))
  | _ => none
def bMin2 : List D → Option D
  | [.int i, .int j] => some (.int (if j < i then j else i))
  | _ => none
theorem cd_max2 (hc : X.calm = true) : CallD G X (.builtin "max") bMax2 := ⟨_, call_max2 hc, fun κ w s σ H vs ds d Q ok rs e q => by
  match ds, e with
  | [.int i, .int j], e =>
    cases e
    obtain ⟨v, v', rfl, r, r'⟩ := rs.two
    cases r
    cases r'
    exact ⟨i, j, rfl, q w _ H (.refl _) ok (.int _)⟩⟩
theorem cd_min2 (hc : X.calm = true) : CallD G X (.builtin "min") bMin2 := ⟨_, call_min2 hc, fun κ w s σ H vs ds d Q ok rs e q => by
  match ds, e with
  | [.int i, .int j], e =>
    cases e
    obtain ⟨v, v', rfl, r, r'⟩ := rs.two
    cases r
    cases r'
    exact ⟨i, j, rfl, q w _ H (.refl _) ok (.int _)⟩⟩
def intsOf : List D → Option (List Int)
  | [] => some []
  | .int i :: r => (intsOf r).map (i :: ·)
  | _ => none
theorem intsOf_eq : ∀ {ds : List D} {ns : List Int}, intsOf ds = some ns → ds = ns.map D.int
  | [], ns, e => by cases e; rfl
  | .int i :: r, ns, e => by
    unfold intsOf at e
    cases q : intsOf r with
    | none => rw [q] at e; cases e
    | some ms =>
      rw [q] at e
      cases e
      rw [intsOf_eq q]
      rfl
  | .non :: _, _, e => nomatch e
  | .bl _ :: _, _, e => nomatch e
  | .str _ :: _, _, e => nomatch e
  | .tup _ :: _, _, e => nomatch e
  | .lst _ :: _, _, e => nomatch e
  | .scr _ :: _, _, e => nomatch e
  | .dic _ :: _, _, e => nomatch e
  | .ins _ _ :: _, _, e => nomatch e
  | .cell _ :: _, _, e => nomatch e
  | .cls _ :: _, _, e => nomatch e
  | .ty _ :: _, _, e => nomatch e
  | .fn _ :: _, _, e => nomatch e
def blsOf : List D → Option (List Bool)
  | [] => some []
  | .bl i :: r => (blsOf r).map (i :: ·)
  | _ => none
theorem blsOf_eq : ∀ {ds : List D} {ns : List Bool}, blsOf ds = some ns → ds = ns.map D.bl
  | [], ns, e => by cases e; rfl
  | .bl i :: r, ns, e => by
    unfold blsOf at e
    cases q : blsOf r with
    | none => rw [q] at e; cases e
    | some ms =>
      rw [q] at e
      cases e
      rw [blsOf_eq q]
      rfl
  | .non :: _, _, e => nomatch e
  | .int _ :: _, _, e => nomatch e
  | .str _ :: _, _, e => nomatch e
  | .tup _ :: _, _, e => nomatch e
  | .lst _ :: _, _, e => nomatch e
  | .scr _ :: _, _, e => nomatch e
  | .dic _ :: _, _, e => nomatch e
  | .ins _ _ :: _, _, e => nomatch e
  | .cell _ :: _, _, e => nomatch e
  | .cls _ :: _, _, e => nomatch e
  | .ty _ :: _, _, e => nomatch e
  | .fn _ :: _, _, e => nomatch e
theorem Reps.bls {w : Wd} : ∀ {v : List V} {ns : List Bool}, Reps G w v (ns.map D.bl) → v = ns.map V.bl
  | _, [], h => by cases h; rfl
  | _, n :: ns, h => by
    cases h with
    | cons a b => cases a; rw [Reps.bls b]; rfl
def bSum : List D → Option D
  | [.lst xs] => (intsOf xs).map fun ns => .int ns.sum
  | _ => none
theorem cd_sum (hc : X.calm = true) : CallD G X (.builtin "sum") bSum := ⟨_, cr_sum hc, fun κ w s σ H vs ds d Q ok rs e q => by
  match ds, e with
  | [.lst xs], e =>
    have e : (intsOf xs).map (fun ns => D.int ns.sum) = some d := e
    cases e1 : intsOf xs with
    | none => rw [e1] at e; cases e
    | some ns =>
      rw [e1] at e
      cases e
      obtain ⟨v, rfl, r⟩ := rs.one
      cases r with
      | @lst a vs ds e r =>
        rw [intsOf_eq e1] at r
        rw [r.ints] at e
        exact ⟨a, ns, rfl, .inl (.inl (ok.fok.sub _ _ e)), q w _ H (.refl _) ok (.int _)⟩⟩
def bAll : List D → Option D
  | [.lst xs] => (blsOf xs).map fun ns => .bl (ns.all id)
  | _ => none
def bAny : List D → Option D
  | [.lst xs] => (blsOf xs).map fun ns => .bl (ns.any id)
  | _ => none
theorem cd_all (hc : X.calm = true) : CallD G X (.builtin "all") bAll := ⟨_, cr_all hc, fun κ w s σ H vs ds d Q ok rs e q => by
  match ds, e with
  | [.lst xs], e =>
    have e : (blsOf xs).map (fun ns => D.bl (ns.all id)) = some d := e
    cases e1 : blsOf xs with
    | none => rw [e1] at e; cases e
    | some ns =>
      rw [e1] at e
      cases e
      obtain ⟨v, rfl, r⟩ := rs.one
      cases r with
      | @lst a vs ds e r =>
        rw [blsOf_eq e1] at r
        rw [r.bls] at e
        exact ⟨a, ns, rfl, .inl (.inl (ok.fok.sub _ _ e)), q w _ H (.refl _) ok (.bl _)⟩⟩
theorem cd_any (hc : X.calm = true) : CallD G X (.builtin "any") bAny := ⟨_, cr_any hc, fun κ w s σ H vs ds d Q ok rs e q => by
  match ds, e with
  | [.lst xs], e =>
    have e : (blsOf xs).map (fun ns => D.bl (ns.any id)) = some d := e
    cases e1 : blsOf xs with
    | none => rw [e1] at e; cases e
    | some ns =>
      rw [e1] at e
      cases e
      obtain ⟨v, rfl, r⟩ := rs.one
      cases r with
      | @lst a vs ds e r =>
        rw [blsOf_eq e1] at r
        rw [r.bls] at e
        exact ⟨a, ns, rfl, .inl (.inl (ok.fok.sub _ _ e)), q w _ H (.refl _) ok (.bl _)⟩⟩
/-- tuple(x) -/
def bTup : List D → Option D
  | [.tup xs] => some (.tup xs)
  | [.lst xs] => some (.tup xs)
  | _ => none
theorem cd_tup (hK : G.K = X.K) : CallD G X (.type "tuple") bTup := ⟨_, call_tuple_of, fun κ w s σ H vs ds d Q ok rs e q => by
  match ds, e with
  | [.tup xs], e =>
    cases e
    obtain ⟨v, rfl, r⟩ := rs.one
    cases r with
    | @tup a vs ds e r => exact ⟨a, vs, rfl, .inr ⟨hK ▸ SqT.le e ok.fok.sub, q w _ H (.refl _) ok (.tup e r)⟩⟩
  | [.lst xs], e =>
    cases e
    obtain ⟨v, rfl, r⟩ := rs.one
    cases r with
    | @lst a vs ds e r => exact ⟨a, vs, rfl, .inl ⟨.inl (.inl (ok.fok.sub _ _ e)), fun l hl => by
        obtain ⟨le2, ok2⟩ := ok.alloc hl (.tup vs)
        exact q _ _ _ le2 ok2 (.tup (.inl (.inl upd_same)) (r.mono le2))⟩⟩⟩
/-- list(x): a new list -/
def seqD (d : D) : Option (List D) := match d with
  | .tup xs => some xs
  | .lst xs => some xs
  | .scr xs => some xs
  | _ => none
def aList (fa : DA) : DA := fun s => (fa s).bind fun ds s1 => match ds with
  | [d] => match seqD d with
    | some xs => .ok xs s1
    | none => .stuck
  | _ => .stuck
theorem Rep.seq (hK : G.K = X.K) {κ : Bs} {w : Wd} {s : DS} {σ : L2.St} {H : Hp} {v : V} {d : D} {xs : List D} (ok : Ok G κ w s σ H) (r : Rep G w v d) (h : seqD d = some xs) : ∃ a vs, v = .ref a ∧ (SqL X.K H a vs ∨ SqT X.K H a vs) ∧ Reps G w vs xs := by
  cases r with
  | @tup a vs ds e r => cases h; exact ⟨a, vs, rfl, .inr (hK ▸ SqT.le e ok.fok.sub), r⟩
  | @lst a vs ds e r => cases h; exact ⟨a, vs, rfl, .inl (.inl (.inl (ok.fok.sub _ _ e))), r⟩
  | @scr a vs ds e r => cases h; exact ⟨a, vs, rfl, .inl (hK ▸ SqL.le e ok.fok.sub), r⟩
  | _ => exact nomatch h
theorem pdo_list (hK : G.K = X.K) {x : Str} {p pos : Pos} {e : Expr} {fa : DA} (hg : Gl X x) (hm : X.mg x = none) (hv : bootBuiltins x = some (.type "list")) (ha : PDA G W X [e] fa) (hn : x ≠ "__name__" := by decide) (hdb : (x == ("__debug__" : Str)) = false := by decide)
    (he : starEach [e] X.env = (false, eval e X.env) :: starEach [] X.env := by rfl) (hpl : (backTo pos (starEach [] X.env)).any (·.1) = false := by rfl) : PDo G W X (.Call (.Name x p) [e] [] pos) (aList fa) :=
  (pe_callTy call_list_of hg hm hv ha hn hdb he hpl).imp fun σ H Q ⟨κ, w, s, ok, q⟩ => ⟨κ, w, s, ok, (PostG.bindO q).imp fun v H1 ⟨d, s1, w1, le, ok1, r1, q1⟩ => by
    match d, q1 with
    | [d], q1 =>
      replace q1 : PostO G W κ w1 σ (match seqD d with | some xs => .ok xs s1 | none => .stuck) Q := q1
      cases e1 : seqD d with
      | none => rw [e1] at q1; exact q1.elim
      | some xs =>
        rw [e1] at q1
        obtain ⟨v, rfl, r⟩ := r1.one
        obtain ⟨a, vs, rfl, h1, h2⟩ := r.seq hK ok1 e1
        exact ⟨a, vs, rfl, h1, fun l hl => q1 w1 l vs _ (.refl _) (ok1.fresh hl _) (ok1.apart hl) h2⟩⟩
/-! ### slices -/
abbrev DOp := DS → Res DS (Option Int)
def oNone : DOp := fun s => .ok none s
def oSome (f : DE) : DOp := fun s => (f s).bind fun d s1 => match d with
  | .int i => .ok (some i) s1
  | _ => .stuck
def tDO (G : Gam) (W : WX) (f : DOp) : TO := fun σ H Q => ∃ κ w s, Ok G κ w s σ H ∧ PostG G W (fun _ (v : Option Int) d => v = d) κ w σ (f s) Q
theorem _root_.L2.PO.imp {X : Cx} {e : Option Expr} {t t' : TO} (h : PO X e t) (k : ∀ σ H Q, t' σ H Q → t σ H Q) : PO X e t' := ⟨by
  first
    | exact fun pins s σ H Q I q => h.run pins s σ H Q I (k σ H Q q)
    | exact fun a pins s σ H Q I q => h.run a pins s σ H Q I (k σ H Q q)⟩
theorem pdo_none : PO X none (tDO G W oNone) := po_none.imp fun σ H Q ⟨κ, w, s, ok, q⟩ => q w none H (.refl _) ok rfl
theorem pdo_some {e : Expr} {f : DE} (h : PD G W X e f) : PO X (some e) (tDO G W (oSome f)) := (po_some h).imp fun σ H Q ⟨κ, w, s, ok, q⟩ => ⟨κ, w, s, ok, (PostG.bind q).imp fun v H1 ⟨d, s1, w1, le, ok1, r1, q1⟩ => by
  cases r1 with
  | int i => exact ⟨i, rfl, q1 w1 _ H1 (.refl _) ok1 rfl⟩
  | _ => exact q1.elim⟩
def cutD {α : Type} (xs : List α) (lo hi : Option Int) : List α := (xs.drop (HT.sIx xs.length 0 lo)).take (HT.sIx xs.length xs.length hi - HT.sIx xs.length 0 lo)
theorem Reps.cut {w : Wd} {vs : List V} {ds : List D} (r : Reps G w vs ds) (lo hi : Option Int) : Reps G w (cutV vs lo hi) (cutD ds lo hi) := by
  unfold cutV cutD
  rw [r.length]
  exact (r.drop _).take _
/-- a slice of a list: a new list -/
def aSl (f : DE) (l h : DOp) : DA := fun s => (f s).bind fun d s1 => (l s1).bind fun lo s2 => (h s2).bind fun hi s3 => match d with
  | .lst xs => .ok (cutD xs lo hi) s3
  | .scr xs => .ok (cutD xs lo hi) s3
  | _ => .stuck
theorem pdo_slice (hK : G.K = X.K) {e : Expr} {lo hi : Option Expr} {f : DE} {l h : DOp} {p2 pos : Pos} (he : PD G W X e f) (hl : PO X lo (tDO G W l)) (hh : PO X hi (tDO G W h)) : PDo G W X (.Subscript e (.Slice lo hi none p2) pos) (aSl f l h) :=
  (pe_slice sl_list he hl hh).imp fun σ H Q ⟨κ, w, s, ok, q⟩ => ⟨κ, w, s, ok, (PostG.bindO q).imp fun v H1 ⟨d, s1, w1, le, ok1, r1, q1⟩ => ⟨κ, w1, s1, ok1, (PostG.bindO q1).imp fun v2 H2 ⟨d2, s2, w2, le2, ok2, r2, q2⟩ =>
    ⟨κ, w2, s2, ok2, (PostG.bindO q2).imp fun v3 H3 ⟨d3, s3, w3, le3, ok3, r3, q3⟩ => by
      subst r2
      subst r3
      cases r1 with
      | @lst a vs ds e r =>
        have e := le3.f _ _ (le2.f _ _ e)
        exact ⟨a, vs, rfl, .inl (.inl (ok3.fok.sub _ _ e)), fun p hp => q3 w3 p _ _ (.refl _) (ok3.fresh hp _) (ok3.apart hp) (((r.mono le2).mono le3).cut _ _)⟩
      | @scr a vs ds e r =>
        exact ⟨a, vs, rfl, hK ▸ SqL.le (SqL.le (SqL.le e le2.f) le3.f) ok3.fok.sub, fun p hp => q3 w3 p _ _ (.refl _) (ok3.fresh hp _) (ok3.apart hp) (((r.mono le2).mono le3).cut _ _)⟩
      | _ => exact q3.elim⟩⟩⟩
/-! ### isinstance -/
def tyD (d : D) : Option String := match d with
  | .non => some "NoneType"
  | .bl _ => some "bool"
  | .int _ => some "int"
  | .str _ => some "str"
  | .tup _ => some "tuple"
  | .lst _ => some "list"
  | .scr _ => some "list"
  | .dic _ => some "dict"
  | _ => none
def tyNames : List String := ["NoneType", "bool", "int", "str", "tuple", "list", "dict"]
def isTy (a b : String) : Bool := a == b || (a == "bool" && b == "int")
theorem isTy_ok : ∀ a ∈ tyNames, ∀ b ∈ tyNames, kitB a b = some (isTy a b) := by decide +kernel
/-- what of the text isinstance asks of the own classes -/
structure IsOk (G : Gam) (cs : List String) : Prop where
  cl : ∀ c ∈ cs, ∀ C, G.ct c = some C → Cls G.K C ∧ PySem.W.findIn G.K (.ref C) "__class__" = some (some (.builtin "object.__class__")) ∧ PySem.W.specialIn G.K (.builtin "object.__class__") "__get__" = some (some (.builtin "getset_descriptor.__get__")) ∧
    PySem.W.takesIn G.K (.builtin "object.__class__") = some true ∧ PySem.W.mroIn G.K C (.type "object") = some true
  bo : ∀ c ∈ cs, ∀ C, G.ct c = some C → ∀ b ∈ tyNames, PySem.W.kitOne G.K (.ref C) (.type b) = some false ∧ PySem.W.kitOne G.K (.type b) (.ref C) = some false
  oo : ∀ c ∈ cs, ∀ c' ∈ cs, ∀ C C', G.ct c = some C → G.ct c' = some C' → PySem.W.kitOne G.K (.ref C) (.ref C') = some (c == c')
/-- the type of data: built-in or own -/
def tyOfD (cs : List String) (d : D) : Option (String ⊕ String) := match d with
  | .ins c _ => if c ∈ cs then some (.inr c) else none
  | d => (tyD d).map .inl
def isOne (cs : List String) (t : String ⊕ String) (c : D) : Option Bool := match t, c with
  | .inl a, .ty b => if a ∈ tyNames ∧ b ∈ tyNames then some (isTy a b) else none
  | .inl a, .cls b => if a ∈ tyNames ∧ b ∈ cs then some false else none
  | .inr a, .ty b => if b ∈ tyNames then some false else none
  | .inr a, .cls b => if b ∈ cs then some (a == b) else none
  | _, _ => none
def bIsi (cs : List String) : List D → Option D
  | [d, c] => (tyOfD cs d).bind fun t => (isOne cs t c).map .bl
  | _ => none
theorem tyX_of (hK : G.K = X.K) {cs : List String} (I : IsOk G cs) {κ : Bs} {w : Wd} {s : DS} {σ : L2.St} {H : Hp} {v : V} {d : D} {t : String ⊕ String} (ok : Ok G κ w s σ H) (r : Rep G w v d) (h : tyOfD cs d = some t) :
    ∃ tv, TyX X.K H v tv ∧ (match t with | .inl a => tv = .type a ∧ a ∈ tyNames | .inr c => c ∈ cs ∧ ∃ C, G.ct c = some C ∧ tv = .ref C) := by
  cases r with
  | non => cases h; exact ⟨_, .base .non, rfl, by decide⟩
  | bl b => cases h; exact ⟨_, .base (.bl b), rfl, by decide⟩
  | int i => cases h; exact ⟨_, .base (.int i), rfl, by decide⟩
  | str l => cases h; exact ⟨_, .base (.str _), rfl, by decide⟩
  | @tup a vs ds e r =>
    cases h
    rcases SqT.le e ok.fok.sub with (z | ⟨o, z⟩) | ⟨o, its, n, z1, z2, _⟩
    · exact ⟨_, .base (.tup z), rfl, by decide⟩
    · exact ⟨_, .fTuple z, rfl, by decide⟩
    · exact ⟨_, .kTuple (hK ▸ z1) z2, rfl, by decide⟩
  | @lst a vs ds e r => cases h; exact ⟨_, .base (.lst (ok.fok.sub _ _ e)), rfl, by decide⟩
  | @scr a vs ds e r =>
    cases h
    rcases SqL.le e ok.fok.sub with (z | ⟨o, z⟩) | ⟨o, its, n, z1, z2, _⟩
    · exact ⟨_, .base (.lst z), rfl, by decide⟩
    · exact ⟨_, .base (.frz z), rfl, by decide⟩
    · exact ⟨_, .kList (hK ▸ z1) z2, rfl, by decide⟩
  | @dic a vs ds e r => cases h; exact ⟨_, .base (.dK (ok.fok.sub _ _ e)), rfl, by decide⟩
  | @ins a C dx c vs ds hC e r =>
    have h : (if c ∈ cs then some (Sum.inr c) else none) = some t := h
    split at h
    · rename_i hc
      cases h
      obtain ⟨cl, h1, h2, h3, h4⟩ := I.cl c hc C hC
      exact ⟨_, .base (.ins (ok.fok.sub _ _ e) (hK ▸ cl) (hK ▸ h1) (hK ▸ h2) (hK ▸ h3) (hK ▸ h4)), hc, C, hC, rfl⟩
    · cases h
  | _ => exact nomatch h
theorem cd_isi (hK : G.K = X.K) {cs : List String} (I : IsOk G cs) : CallD G X (.builtin "isinstance") (bIsi cs) := ⟨_, call_isi, fun κ w s σ H vs ds d Q ok rs e q => by
  match ds, e with
  | [x, c], e =>
    have e : ((tyOfD cs x).bind fun t => (isOne cs t c).map D.bl) = some d := e
    cases e1 : tyOfD cs x with
    | none => rw [e1] at e; cases e
    | some t =>
      rw [e1] at e
      obtain ⟨v, v', rfl, r, r'⟩ := rs.two
      obtain ⟨tv, ty, ht⟩ := tyX_of hK I ok r e1
      have e : (isOne cs t c).map D.bl = some d := e
      cases e2 : isOne cs t c with
      | none => rw [e2] at e; cases e
      | some b =>
        rw [e2] at e
        cases e
        cases t with
        | inl a =>
          obtain ⟨rfl, ha⟩ := ht
          cases r' with
          | ty n =>
            have e2 : (if a ∈ tyNames ∧ n ∈ tyNames then some (isTy a n) else none) = some b := e2
            split at e2
            · rename_i h
              cases e2
              exact ⟨v, _, _, .type n, _, rfl, .ty n, ty, kit_ty (isTy_ok a h.1 n h.2), q w _ H (.refl _) ok (.bl _)⟩
            · cases e2
          | @cls C n hC =>
            have e2 : (if a ∈ tyNames ∧ n ∈ cs then some false else none) = some b := e2
            split at e2
            · rename_i h
              cases e2
              exact ⟨v, _, _, .ref C, _, rfl, .own C, ty, hK ▸ (I.bo n h.2 C hC a h.1).2, q w _ H (.refl _) ok (.bl _)⟩
            · cases e2
          | _ => exact nomatch e2
        | inr a =>
          obtain ⟨ha, C', hC', rfl⟩ := ht
          cases r' with
          | ty n =>
            have e2 : (if n ∈ tyNames then some false else none) = some b := e2
            split at e2
            · rename_i h
              cases e2
              exact ⟨v, _, _, .type n, _, rfl, .ty n, ty, hK ▸ (I.bo a ha C' hC' n h).1, q w _ H (.refl _) ok (.bl _)⟩
            · cases e2
          | @cls C n hC =>
            have e2 : (if n ∈ cs then some (a == n) else none) = some b := e2
            split at e2
            · rename_i h
              cases e2
              exact ⟨v, _, _, .ref C, _, rfl, .own C, ty, hK ▸ I.oo a ha n h C' C hC' hC, q w _ H (.refl _) ok (.bl _)⟩
            · cases e2
          | _ => exact nomatch e2⟩
end
end DL
set_option maxRecDepth 100000
set_option maxHeartbeats 4000000
set_option autoImplicit false
namespace DL
open PySem PySem.Spec PyProof.Rows L2
section
variable {G : Gam} {W : WX} {X : Cx}
/-! ### dicts -/
theorem dkey_inj {a b : DK} (h : dkey a = dkey b) : a = b := by
  cases a <;> cases b <;> simp [dkey] at h <;> first | (subst h; rfl) | (rw [nm_inj h])
def kOf (d : D) : Option DK := match d with
  | .int i => some (.i i)
  | .str l => some (.s l)
  | _ => none
theorem Rep.key {w : Wd} {v : V} {d : D} {k : DK} (r : Rep G w v d) (h : kOf d = some k) : v = kV (dkey k) := by
  cases r with
  | int i => cases h; rfl
  | str l => cases h; rfl
  | _ => exact nomatch h
def dLook (kvs : List (DK × D)) (k : DK) : Option D := match kvs with
  | [] => none
  | (k', d) :: r => if k' = k then some d else dLook r k
def dPut (kvs : List (DK × D)) (k : DK) (x : D) : List (DK × D) := match kvs with
  | [] => [(k, x)]
  | (k', d) :: r => if k' = k then (k, x) :: r else (k', d) :: dPut r k x
theorem RepK.look {w : Wd} : ∀ {v : List (Key × V)} {d : List (DK × D)} {k : DK}, RepK G w v d → (∀ x, dLook d k = some x → ∃ y, valV v (dkey k) = some y ∧ Rep G w y x) ∧ (dLook d k = none → valV v (dkey k) = none)
  | _, _, _, .nil => ⟨fun x e => (nomatch e), fun _ => rfl⟩
  | _, _, k, .cons (k := k') (v := v) (d := d) (vs := vs) (ds := ds) a b => by
    by_cases h : k' = k
    · subst h
      refine ⟨fun x e => ?_, fun e => ?_⟩
      · unfold dLook at e
        rw [if_pos rfl] at e
        cases e
        exact ⟨v, valV_pos rfl, a⟩
      · unfold dLook at e
        rw [if_pos rfl] at e
        cases e
    · have h2 : ¬ dkey k' = dkey k := fun q => h (dkey_inj q)
      obtain ⟨i1, i2⟩ := RepK.look (k := k) b
      refine ⟨fun x e => ?_, fun e => ?_⟩
      · unfold dLook at e
        rw [if_neg h] at e
        obtain ⟨y, q1, q2⟩ := i1 x e
        exact ⟨y, (valV_neg h2).trans q1, q2⟩
      · unfold dLook at e
        rw [if_neg h] at e
        exact (valV_neg h2).trans (i2 e)
theorem RepK.length {w : Wd} : ∀ {v : List (Key × V)} {d : List (DK × D)}, RepK G w v d → v.length = d.length
  | _, _, .nil => rfl
  | _, _, .cons _ b => by rw [List.length_cons, List.length_cons, RepK.length b]
/-- what of a dict is told (Nodup keys are not known here: the store at the first place and at the last agree by this) -/
def keysNd : List (DK × D) → Bool
  | [] => true
  | (k, _) :: r => !(r.any fun p => decide (p.1 = k)) && keysNd r
theorem RepK.any {w : Wd} {k : DK} : ∀ {v : List (Key × V)} {d : List (DK × D)}, RepK G w v d → (v.any fun kv => decide (kv.1 = dkey k)) = d.any fun kv => decide (kv.1 = k)
  | _, _, .nil => rfl
  | _, _, .cons (k := k') a b => by
    rw [List.any_cons, List.any_cons, RepK.any b]
    congr 1
    by_cases h : k' = k
    · subst h; simp
    · simp [h, show ¬ dkey k' = dkey k from fun q => h (dkey_inj q)]
theorem RepK.keepMap {w : Wd} {k : DK} {y : V} : ∀ {v : List (Key × V)} {d : List (DK × D)}, RepK G w v d → (d.any fun kv => decide (kv.1 = k)) = false → v.map (fun kv => if kv.1 = dkey k then (kv.1, y) else kv) = v
  | _, _, .nil, _ => rfl
  | _, _, .cons (k := k') a b, h => by
    rw [List.any_cons, Bool.or_eq_false_iff] at h
    have h1 : ¬ k' = k := of_decide_eq_false h.1
    rw [List.map_cons, if_neg (show ¬ dkey k' = dkey k from fun q => h1 (dkey_inj q)), RepK.keepMap b h.2]
theorem dPut_new : ∀ {d : List (DK × D)} {k : DK} {x : D}, (d.any fun kv => decide (kv.1 = k)) = false → dPut d k x = d ++ [(k, x)]
  | [], _, _, _ => rfl
  | (k', z) :: r, k, x, h => by
    rw [List.any_cons, Bool.or_eq_false_iff] at h
    have h1 : ¬ k' = k := of_decide_eq_false h.1
    unfold dPut
    rw [if_neg h1, dPut_new h.2]
    rfl
theorem RepK.append {w : Wd} : ∀ {v v' : List (Key × V)} {d d' : List (DK × D)}, RepK G w v d → RepK G w v' d' → RepK G w (v ++ v') (d ++ d')
  | _, _, _, _, .nil, h => h
  | _, _, _, _, .cons a b, h => .cons a (RepK.append b h)
theorem RepK.putMap {w : Wd} {k : DK} {y : V} {x : D} (r : Rep G w y x) : ∀ {v : List (Key × V)} {d : List (DK × D)}, RepK G w v d → keysNd d = true → (d.any fun kv => decide (kv.1 = k)) = true → RepK G w (v.map fun kv => if kv.1 = dkey k then (kv.1, y) else kv) (dPut d k x)
  | _, _, .nil, _, h => nomatch h
  | _, _, .cons (k := k') a b, nd, h => by
    unfold keysNd at nd
    rw [Bool.and_eq_true, Bool.not_eq_true'] at nd
    unfold dPut
    by_cases e : k' = k
    · subst e
      rw [if_pos rfl, List.map_cons, if_pos rfl, RepK.keepMap b nd.1]
      exact .cons r b
    · rw [if_neg e, List.map_cons, if_neg (show ¬ dkey k' = dkey k from fun q => e (dkey_inj q))]
      refine .cons a (RepK.putMap r b nd.2 ?_)
      rw [List.any_cons, Bool.or_eq_true] at h
      rcases h with h | h
      · exact absurd (of_decide_eq_true h) e
      · exact h
theorem RepK.put {w : Wd} {k : DK} {y : V} {x : D} (r : Rep G w y x) {v : List (Key × V)} {d : List (DK × D)} (h : RepK G w v d) (nd : keysNd d = true) : RepK G w (putK v (dkey k) y) (dPut d k x) := by
  unfold putK
  rw [h.any]
  cases e : d.any fun kv => decide (kv.1 = k) with
  | true => rw [if_pos rfl]; exact h.putMap r nd e
  | false =>
    rw [if_neg (fun z => nomatch z), dPut_new e]
    exact h.append (.cons r .nil)
def dictOf (d : D) (s : DS) : Option (List (DK × D)) := match d with
  | .dic kvs => some kvs
  | .cell n => match s.st[n]? with
    | some (.dic kvs) => some kvs
    | _ => none
  | _ => none
theorem Rep.dict {κ : Bs} {w : Wd} {s : DS} {σ : L2.St} {H : Hp} {v : V} {d : D} {kvs : List (DK × D)} (ok : Ok G κ w s σ H) (r : Rep G w v d) (h : dictOf d s = some kvs) : ∃ a vs, v = .ref a ∧ H a = some (.dK vs) ∧ RepK G w vs kvs := by
  cases r with
  | @dic a vs ds e r => cases h; exact ⟨a, vs, rfl, ok.fok.sub _ _ e, r⟩
  | @cell a n e =>
    have h : (match s.st[n]? with | some (.dic kvs) => some kvs | _ => none) = some kvs := h
    cases q : s.st[n]? with
    | none => rw [q] at h; cases h
    | some c =>
      rw [q] at h
      cases c with
      | dic kvs' =>
        cases h
        obtain ⟨vs, h1, h2⟩ := ok.fok.cel n a _ e q
        exact ⟨a, vs, rfl, h1, h2⟩
      | _ => cases h
  | _ => exact nomatch h
def eDGet (fo fi : DE) : DE := fun s => (fo s).bind fun d s1 => (fi s1).bind fun k s2 => match dictOf d s2, kOf k with
  | some kvs, some k => match dLook kvs k with
    | some x => .ok x s2
    | none => .stuck
  | _, _ => .stuck
theorem pd_dget {o i : Expr} {fo fi : DE} {pos : Pos} (hu : X.A.units + 1 < cLine) (ho : PD G W X o fo) (hi : PD G W X i fi) (hs : NoSl i) : PD G W X (.Subscript o i pos) (eDGet fo fi) :=
  (pe_dget hu ho hi hs).imp fun σ H Q ⟨κ, w, s, ok, q⟩ => ⟨κ, w, s, ok, (PostG.bind q).imp fun v H1 ⟨d, s1, w1, le, ok1, r1, q1⟩ => ⟨κ, w1, s1, ok1, (PostG.bind q1).imp fun v2 H2 ⟨d2, s2, w2, le2, ok2, r2, q2⟩ => by
    cases e1 : dictOf d s2 with
    | none => rw [e1] at q2; exact q2.elim
    | some kvs =>
      cases e2 : kOf d2 with
      | none => rw [e1, e2] at q2; exact q2.elim
      | some k =>
        rw [e1, e2] at q2
        replace q2 : PostG G W (Rep G) κ w2 σ (match dLook kvs k with | some x => .ok x s2 | none => .stuck) Q := q2
        cases e3 : dLook kvs k with
        | none => rw [e3] at q2; exact q2.elim
        | some x =>
          rw [e3] at q2
          obtain ⟨a, vs, rfl, hH, rk⟩ := (r1.mono le2).dict ok2 e1
          obtain ⟨y, h1, h2⟩ := (rk.look (k := k)).1 x e3
          refine ⟨a, y, rfl, ?_, q2 w2 y H2 (.refl _) ok2 h2⟩
          rw [r2.key e2, ← h1]
          exact DGet.k hH⟩⟩
/-- d[k] = v of a dict in the store -/
def sDPutC (fo fi fv : DE) : DStm := fun s => (fv s).bind fun x s1 => (fo s1).bind fun d s2 => (fi s2).bind fun k s3 => match d, kOf k with
  | .cell n, some k => match s3.st[n]? with
    | some (.dic kvs) => if kvs.length < 1000000 ∧ keysNd kvs = true then .ok .nx ⟨s3.sl, s3.st.set n (.dic (dPut kvs k x))⟩ else .stuck
    | _ => .stuck
  | _, _ => .stuck
theorem pds_dputC {o i value : Expr} {fo fi fv : DE} {pos pos' : Pos} (hu : X.A.units + 1 < cLine) (ho : PD G W X o fo) (hi : PD G W X i fi) (hv : PD G W X value fv) (hs : swapsWith value (some (.Subscript o i pos')) pos.line X.env = pure false := by rfl) :
    PDS G W X (.Assign [.Subscript o i pos'] value pos) (sDPutC fo fi fv) :=
  (ps_dput hu ho hi hv hs).imp fun N σ H ⟨κ, w, s, ok, q⟩ => ⟨κ, w, s, ok, (PostG.bindS q).imp fun v H1 ⟨d, s1, w1, le, ok1, r1, q1⟩ => ⟨κ, w1, s1, ok1, (PostG.bindS q1).imp fun v2 H2 ⟨d2, s2, w2, le2, ok2, r2, q2⟩ =>
    ⟨κ, w2, s2, ok2, (PostG.bindS q2).imp fun v3 H3 ⟨d3, s3, w3, le3, ok3, r3, q3⟩ => by
      cases r2 with
      | @cell a n e =>
        cases e2 : kOf d3 with
        | none => rw [e2] at q3; exact q3.elim
        | some k =>
          rw [e2] at q3
          replace q3 : PostS G W κ w3 (match s3.st[n]? with | some (.dic kvs) => if kvs.length < 1000000 ∧ keysNd kvs = true then .ok .nx ⟨s3.sl, s3.st.set n (.dic (dPut kvs k d))⟩ else .stuck | _ => .stuck) N := q3
          cases e3 : s3.st[n]? with
          | none => rw [e3] at q3; exact q3.elim
          | some c =>
            rw [e3] at q3
            cases c with
            | dic kvs =>
              replace q3 : PostS G W κ w3 (if kvs.length < 1000000 ∧ keysNd kvs = true then .ok .nx ⟨s3.sl, s3.st.set n (.dic (dPut kvs k d))⟩ else .stuck) N := q3
              split at q3
              · rename_i c
                have e' := pre_get le3.r e
                obtain ⟨vs, h1, h2⟩ := ok3.fok.cel n a _ e' e3
                refine ⟨a, _, rfl, ?_, q3 w3 σ _ (.refl _) (ok3.cell e' (c := .dic (dPut kvs k d)) ⟨_, upd_same, h2.put ((r1.mono le2).mono le3) c.2⟩)⟩
                rw [r3.key e2]
                exact DPut.k h1 (by rw [h2.length, sizeLine_eq]; omega)
              · exact q3.elim
            | _ => exact q3.elim
      | _ => exact q3.elim⟩⟩⟩
/-! ### a dict is displayed -/
def pairsD : List (DE × DE) → DS → Res DS (List (D × D))
  | [], s => .ok [] s
  | (fk, fv) :: r, s => (fk s).bind fun k s1 => (fv s1).bind fun x s2 => (pairsD r s2).bind fun ps s3 => .ok ((k, x) :: ps) s3
inductive RepP (G : Gam) (w : Wd) : List (V × V) → List (D × D) → Prop
  | nil : RepP G w [] []
  | cons {v v' : V} {d d' : D} {vs : List (V × V)} {ds : List (D × D)} : Rep G w v d → Rep G w v' d' → RepP G w vs ds → RepP G w ((v, v') :: vs) ((d, d') :: ds)
theorem pairs_of : ∀ (fs : List (DE × DE)) {κ : Bs} {w : Wd} {s : DS} {σ : L2.St} {H : Hp} {Q : List (V × V) → Hp → Prop}, Ok G κ w s σ H → PostG G W (RepP G) κ w σ (pairsD fs s) Q → tPairs (fs.map fun p => (tD G W p.1, tD G W p.2)) σ H Q
  | [], κ, w, s, σ, H, Q, ok, q => q w [] H (.refl _) ok .nil
  | (fk, fv) :: r, κ, w, s, σ, H, Q, ok, q => by
    refine ⟨κ, w, s, ok, (PostG.bind q).imp fun v H1 ⟨d, s1, w1, le, ok1, r1, q1⟩ => ⟨κ, w1, s1, ok1, (PostG.bind q1).imp fun v2 H2 ⟨d2, s2, w2, le2, ok2, r2, q2⟩ => ?_⟩⟩
    refine pairs_of r ok2 ((PostG.bind (rep := RepP G) q2).imp fun ps H3 ⟨ds, s3, w3, le3, ok3, r3, q3⟩ => ?_)
    exact q3 w3 _ H3 (.refl _) ok3 (.cons ((r1.mono le2).mono le3) (r2.mono le3) r3)
def keyed : List (D × D) → Option (List (DK × D))
  | [] => some []
  | (k, x) :: r => match kOf k, keyed r with
    | some k, some r => some ((k, x) :: r)
    | _, _ => none
theorem keyed_of {w : Wd} : ∀ {ps : List (V × V)} {ds : List (D × D)} {kvs : List (DK × D)}, RepP G w ps ds → keyed ds = some kvs → ∃ vs : List (Key × V), ps = vs.map (fun kv => (kV kv.1, kv.2)) ∧ RepK G w vs kvs
  | _, _, _, .nil, e => by cases e; exact ⟨[], rfl, .nil⟩
  | _, _, kvs, .cons (d := d) (ds := ds) a b c, e => by
    unfold keyed at e
    cases e1 : kOf d with
    | none => rw [e1] at e; cases e
    | some k =>
      cases e2 : keyed ds with
      | none => rw [e1, e2] at e; cases e
      | some r =>
        rw [e1, e2] at e
        cases e
        obtain ⟨vs, h1, h2⟩ := keyed_of c e2
        refine ⟨(dkey k, _) :: vs, ?_, .cons b h2⟩
        rw [h1, a.key e1]
        rfl
theorem keys_merge {w : Wd} : ∀ {more : List (Key × V)} {kvs : List (DK × D)} {v : List (Key × V)} {d : List (DK × D)}, RepK G w more kvs → RepK G w v d → (keysNd (d ++ kvs) = true) → RepK G w (mergeK v more) (d ++ kvs)
  | _, _, v, d, .nil, h, _ => by rw [List.append_nil]; exact h
  | _, _, v, d, .cons (k := k) (v := y) (d := x) (vs := vs) (ds := ds) a b, h, nd => by
    have new : (d.any fun kv => decide (kv.1 = k)) = false := by
      clear h a b
      induction d with
      | nil => rfl
      | cons p r ih =>
        rw [List.cons_append] at nd
        unfold keysNd at nd
        rw [Bool.and_eq_true, Bool.not_eq_true', List.any_append, Bool.or_eq_false_iff, List.any_cons, Bool.or_eq_false_iff] at nd
        rw [List.any_cons, ih nd.2, Bool.or_false]
        have := of_decide_eq_false nd.1.2.1
        exact decide_eq_false fun q => this q.symm
    have e : mergeK v ((dkey k, y) :: vs) = mergeK (v ++ [(dkey k, y)]) vs := by
      unfold mergeK
      rw [List.foldl_cons]
      congr 1
      unfold putK
      rw [h.any, new]
      rfl
    rw [e]
    have := keys_merge b (h.append (.cons a .nil)) (d := d ++ [(k, x)]) (by rw [List.append_assoc]; exact nd)
    rw [List.append_assoc] at this
    exact this
/-- a new dict of one's own -/
def PostOd (G : Gam) (W : WX) (κ : Bs) (w : Wd) (σ : L2.St) (r : Res DS (List (DK × D))) (Q : VK) : Prop := match r with
  | .ok xs s' => ∀ w' a vs H', w.le w' → Ok G (κ.plus a (.dK vs)) w' s' σ H' → (∀ p ∈ κ.γ, p.1 ≠ a) → RepK G w' vs xs → Q (.ref a) H'
  | .exc x s' => ∀ w' c dd H', w.le w' → Ok G κ w' s' σ H' → RepX G w' c dd x → W c dd σ H'
  | .stuck => False
abbrev DD := DS → Res DS (List (DK × D))
def tDod (G : Gam) (W : WX) (f : DD) : TE := fun σ H Q => ∃ κ w s, Ok G κ w s σ H ∧ PostOd G W κ w σ (f s) Q
abbrev PDod (G : Gam) (W : WX) (X : Cx) (e : Expr) (f : DD) : Prop := PE X e (tDod G W f)
/-- behind what was set apart a new value -/
theorem Ok.swap {κ : Bs} {w : Wd} {s : DS} {σ : L2.St} {H : Hp} {a : Addr} {o o' : HO} (h : Ok G (κ.plus a o) w s σ H) (hγ : ∀ p ∈ κ.γ, p.1 ≠ a) : Ok G (κ.plus a o') w s σ (upd H a o') := by
  obtain ⟨ho, h3, h4, h5, h6⟩ := h.gam (a, o) List.mem_cons_self
  refine ⟨⟨fun b u e => ?_, h.fok.len, fun n b c e1 e2 => ?_, h.fok.nd, h.fok.nf⟩, ⟨h.nx.le, fun b u e n => ?_, h.nx.newF, h.nx.newR⟩, h.len, h.val, fun j z hj oz => ?_, h.ne, fun p hp => ?_, h.me⟩
  · rw [upd_ne (ne_of_none e h3)]
    exact h.fok.sub b u e
  · exact (h.fok.cel n b c e1 e2).mono (.refl _) (upd_ne fun z => h4 (by rw [← z]; exact List.mem_of_getElem? e1))
  · rw [upd_ne (ne_of_none e h5)]
    exact h.nx.keep b u e n
  · obtain ⟨b, q1, q2, q3, q4, q5⟩ := h.own j z hj oz
    exact ⟨b, q1, q2.mono (.refl _) (upd_ne fun e => h6 j z hj oz (by rw [q1, e])), q3, q4, q5⟩
  · rcases List.mem_cons.mp hp with rfl | hp
    · exact ⟨upd_same, h3, h4, h5, h6⟩
    · obtain ⟨q1, q2⟩ := h.gam p (List.mem_cons_of_mem _ hp)
      exact ⟨by rw [upd_ne (hγ p hp)]; exact q1, q2⟩
def dDisp (fs : List (DE × DE)) : DD := fun s => (pairsD fs s).bind fun ps s1 => match keyed ps with
  | some kvs => if kvs.length ≤ 15 ∧ keysNd kvs = true then .ok kvs s1 else .stuck
  | none => .stuck
theorem pdod_disp {pos : Pos} {keys : List (Option Expr)} {values : List Expr} {fs : List (DE × DE)} (h : PPs X pos keys values (fs.map fun p => (tD G W p.1, tD G W p.2))) (hall : keys.all (·.isSome) = true) (hl : keys.length = values.length) (h0 : keys ≠ []) (h15 : keys.length ≤ 15) :
    PDod G W X (.Dict keys values pos) (dDisp fs) :=
  (pe_disp h hall hl h0 h15).imp fun σ H Q ⟨κ, w, s, ok, q⟩ => by
    intro p hp
    have ok1 := ok.fresh hp (.dK [])
    have hγ := ok.apart hp
    unfold dDisp at q
    refine pairs_of fs (κ := κ.plus p (.dK [])) (w := w) (s := s) ok1 ?_
    cases e : pairsD fs s with
    | stuck => rw [e] at q; exact q.elim
    | exc x s' =>
      rw [e] at q
      exact fun w' c dd H' l o r => q w' c dd H' l o.unplus r
    | ok ps s' =>
      rw [e] at q
      intro w' vps H' l o r
      replace q : PostOd G W κ w σ (match keyed ps with | some kvs => if kvs.length ≤ 15 ∧ keysNd kvs = true then .ok kvs s' else .stuck | none => .stuck) Q := q
      cases e2 : keyed ps with
      | none => rw [e2] at q; exact q.elim
      | some kvs =>
        rw [e2] at q
        replace q : PostOd G W κ w σ (if kvs.length ≤ 15 ∧ keysNd kvs = true then .ok kvs s' else .stuck) Q := q
        split at q
        · rename_i c
          obtain ⟨vs, h1, h2⟩ := keyed_of r e2
          refine ⟨(o.gam (p, .dK []) List.mem_cons_self).1, vs, h1, by rw [h2.length]; exact c.1, ?_⟩
          exact q w' p _ _ l (o.swap hγ) hγ (keys_merge h2 .nil (d := []) c.2)
        · exact q.elim
def eFrzD (f : DD) : DE := fun s => (f s).bind fun xs s1 => .ok (.dic xs) s1
theorem pdod_frz {e : Expr} {f : DD} (h : PDod G W X e f) : PD G W X e (eFrzD f) := h.imp fun σ H Q ⟨κ, w, s, ok, q⟩ => ⟨κ, w, s, ok, by
  unfold eFrzD at q
  cases e : f s with
  | stuck => rw [e] at q; exact q.elim
  | exc x s' => rw [e] at q; exact q
  | ok xs s' =>
    rw [e] at q
    intro w' a vs H' l o g r
    obtain ⟨le, ok'⟩ := o.frz g
    exact q _ _ H' (l.trans le) ok' (.dic upd_same (r.mono le))⟩
/-- what was set apart goes into the store -/
theorem Ok.store {κ : Bs} {w : Wd} {s : DS} {σ : L2.St} {H : Hp} {a : Addr} {o : HO} {c : Cell} (h : Ok G (κ.plus a o) w s σ H) (hγ : ∀ p ∈ κ.γ, p.1 ≠ a) (hc : CellOk G w H a c) : w.le ⟨w.F, w.ρ ++ [a]⟩ ∧ Ok G κ ⟨w.F, w.ρ ++ [a]⟩ ⟨s.sl, s.st ++ [c]⟩ σ H := by
  obtain ⟨ho, h3, h4, h5, h6⟩ := h.gam (a, o) List.mem_cons_self
  have le : w.le ⟨w.F, w.ρ ++ [a]⟩ := ⟨fun _ _ e => e, List.prefix_append _ _⟩
  refine ⟨le, ⟨⟨h.fok.sub, ?_, fun n b c' e1 e2 => ?_, ?_, fun b hb => ?_⟩, ⟨h.nx.le.trans le, h.nx.keep, h.nx.newF, fun b hb => ?_⟩, h.len, fun i d e => ?_, fun i x e o' => ?_, h.ne, fun p hp => ?_, h.me⟩⟩
  · show (w.ρ ++ [a]).length = (s.st ++ [c]).length
    rw [List.length_append, List.length_append, h.fok.len]
    rfl
  · have e1 : (w.ρ ++ [a])[n]? = some b := e1
    have e2 : (s.st ++ [c])[n]? = some c' := e2
    by_cases hn : n < w.ρ.length
    · rw [List.getElem?_append_left hn] at e1
      rw [List.getElem?_append_left (by rw [← h.fok.len]; exact hn)] at e2
      exact (h.fok.cel n b c' e1 e2).mono le rfl
    · rw [List.getElem?_append_right (by omega)] at e1
      rw [List.getElem?_append_right (by rw [← h.fok.len]; omega), ← h.fok.len] at e2
      cases z : n - w.ρ.length with
      | zero =>
        rw [z] at e1 e2
        cases e1
        cases e2
        exact hc.mono le rfl
      | succ k => rw [z] at e1; cases e1
  · show (w.ρ ++ [a]).Nodup
    rw [List.nodup_append]
    exact ⟨h.fok.nd, by simp, fun x hx y hy e => by
      rw [List.mem_singleton] at hy
      subst hy
      subst e
      exact h4 hx⟩
  · rcases List.mem_append.mp hb with hb | hb
    · exact h.fok.nf b hb
    · rw [List.mem_singleton.mp hb]
      exact h3
  · rcases List.mem_append.mp hb with hb | hb
    · exact h.nx.newR b hb
    · rw [List.mem_singleton.mp hb]
      exact .inr h5
  · obtain ⟨v, h1, h2⟩ := h.val i d e
    exact ⟨v, h1, h2.mono le⟩
  · obtain ⟨b, q1, q2, q3, q4, q5⟩ := h.own i x e o'
    refine ⟨b, q1, q2.mono le rfl, q3, fun hb => ?_, q5⟩
    rcases List.mem_append.mp hb with hb | hb
    · exact q4 hb
    · exact h6 i x e o' (by rw [q1, List.mem_singleton.mp hb])
  · obtain ⟨q1, q2, q3, q4⟩ := h.gam p (List.mem_cons_of_mem _ hp)
    refine ⟨q1, q2, fun hb => ?_, q4⟩
    rcases List.mem_append.mp hb with hb | hb
    · exact q3 hb
    · exact hγ p hp (List.mem_singleton.mp hb)
def eCellD (f : DD) : DE := fun s => (f s).bind fun xs s1 => .ok (.cell s1.st.length) ⟨s1.sl, s1.st ++ [.dic xs]⟩
theorem pdod_cell {e : Expr} {f : DD} (h : PDod G W X e f) : PD G W X e (eCellD f) := h.imp fun σ H Q ⟨κ, w, s, ok, q⟩ => ⟨κ, w, s, ok, by
  unfold eCellD at q
  cases e : f s with
  | stuck => rw [e] at q; exact q.elim
  | exc x s' => rw [e] at q; exact q
  | ok xs s' =>
    rw [e] at q
    intro w' a vs H' l o g r
    obtain ⟨le, ok'⟩ := o.store (c := .dic xs) g ⟨vs, (o.gam (a, .dK vs) List.mem_cons_self).1, r⟩
    refine q _ _ H' (l.trans le) ok' (.cell ?_)
    show (w'.ρ ++ [a])[s'.st.length]? = some a
    rw [← o.fok.len]
    simp⟩
/-! ### == and != of data -/
mutual
def toPy : D → Option PyData
  | .non => some .none
  | .bl b => some (.bool b)
  | .int i => some (.int i)
  | .str l => some (.str (nm l))
  | .tup xs => (toPys xs).map .tuple
  | .lst xs => (toPys xs).map .list
  | .scr xs => (toPys xs).map .list
  | _ => none
def toPys : List D → Option (List PyData)
  | [] => some []
  | d :: r => (toPy d).bind fun p => (toPys r).map fun q => p :: q
end
mutual
theorem Rep.py (hK : G.K = X.K) {κ : Bs} {w : Wd} {s : DS} {σ : L2.St} {H : Hp} (ok : Ok G κ w s σ H) : ∀ {v : V} {d : D} {p : PyData}, Rep G w v d → toPy d = some p → Dp X.K H v p
  | _, _, _, .non, e => by cases e; exact .non
  | _, _, _, .bl b, e => by cases e; exact .bl b
  | _, _, _, .int b, e => by cases e; exact .int b
  | _, _, _, .str b, e => by cases e; exact .str _
  | _, _, _, .tup (ds := ds) a r, e => by
    cases q : toPys ds with
    | none => simp [toPy, q] at e
    | some ps =>
      simp only [toPy, q, Option.map_some, Option.some.injEq] at e
      subst e
      exact .tup (hK ▸ SqT.le a ok.fok.sub) (Reps.py hK ok r q)
  | _, _, _, .lst (ds := ds) a r, e => by
    cases q : toPys ds with
    | none => simp [toPy, q] at e
    | some ps =>
      simp only [toPy, q, Option.map_some, Option.some.injEq] at e
      subst e
      exact .lst (.inl (.inl (ok.fok.sub _ _ a))) (Reps.py hK ok r q)
  | _, _, _, .scr (ds := ds) a r, e => by
    cases q : toPys ds with
    | none => simp [toPy, q] at e
    | some ps =>
      simp only [toPy, q, Option.map_some, Option.some.injEq] at e
      subst e
      exact .lst (hK ▸ SqL.le a ok.fok.sub) (Reps.py hK ok r q)
  | _, _, _, .dic _ _, e => by simp [toPy] at e
  | _, _, _, .ins _ _ _, e => by simp [toPy] at e
  | _, _, _, .cell _, e => by simp [toPy] at e
  | _, _, _, .cls _, e => by simp [toPy] at e
  | _, _, _, .ty _, e => by simp [toPy] at e
  | _, _, _, .fn _, e => by simp [toPy] at e
theorem Reps.py (hK : G.K = X.K) {κ : Bs} {w : Wd} {s : DS} {σ : L2.St} {H : Hp} (ok : Ok G κ w s σ H) : ∀ {v : List V} {d : List D} {p : List PyData}, Reps G w v d → toPys d = some p → DpAll X.K H v p
  | _, _, _, .nil, e => by simp [toPys] at e; subst e; exact .nil
  | _, _, _, .cons (d := d) (ds := ds) a r, e => by
    cases q1 : toPy d with
    | none => simp [toPys, q1] at e
    | some p =>
      cases q2 : toPys ds with
      | none => simp [toPys, q1, q2] at e
      | some ps =>
        simp only [toPys, q1, q2, Option.bind_some, Option.map_some, Option.some.injEq] at e
        subst e
        exact .cons (Rep.py hK ok a q1) (Reps.py hK ok r q2)
end
def dEq : D → D → Option D := fun x y => match toPy x, toPy y with
  | some p, some q => if SeqAt.shaped p && SeqAt.shaped q then some (.bl (PyData.eqv p q)) else none
  | _, _ => none
def dNe : D → D → Option D := fun x y => match toPy x, toPy y with
  | some p, some q => if SeqAt.shaped p && SeqAt.shaped q then some (.bl (!PyData.eqv p q)) else none
  | _, _ => none
theorem opd_eq (hK : G.K = X.K) (hu : X.A.units + 64 < cLine) : OpD G X (compareOp .Eq) dEq := ⟨_, op_eqD hu, fun κ w s σ H x y dx dy d Q ok rx ry e q => by
  unfold dEq at e
  cases e1 : toPy dx with
  | none => simp [e1] at e
  | some p =>
    cases e2 : toPy dy with
    | none => simp [e1, e2] at e
    | some p' =>
      simp only [e1, e2] at e
      split at e
      · rename_i c
        cases e
        rw [Bool.and_eq_true] at c
        exact ⟨p, p', rx.py hK ok e1, ry.py hK ok e2, c.1, c.2, q w _ H (.refl _) ok (.bl _)⟩
      · cases e⟩
theorem opd_ne (hK : G.K = X.K) (hu : X.A.units + 64 < cLine) : OpD G X (compareOp .NotEq) dNe := ⟨_, op_neD hu, fun κ w s σ H x y dx dy d Q ok rx ry e q => by
  unfold dNe at e
  cases e1 : toPy dx with
  | none => simp [e1] at e
  | some p =>
    cases e2 : toPy dy with
    | none => simp [e1, e2] at e
    | some p' =>
      simp only [e1, e2] at e
      split at e
      · rename_i c
        cases e
        rw [Bool.and_eq_true] at c
        exact ⟨p, p', rx.py hK ok e1, ry.py hK ok e2, c.1, c.2, q w _ H (.refl _) ok (.bl _)⟩
      · cases e⟩
/-- is None -/
def isNonD : D → Bool
  | .non => true
  | _ => false
def dIsN : D → D → Option D := fun x y => match y with
  | .non => some (.bl (isNonD x))
  | _ => none
def dNotN : D → D → Option D := fun x y => match y with
  | .non => some (.bl (!isNonD x))
  | _ => none
theorem Rep.non_iff {w : Wd} {v : V} {d : D} (r : Rep G w v d) : decide (v = .non) = isNonD d := by
  cases r <;> simp [isNonD]
theorem opd_isN : OpD G X (compareOp .Is) dIsN := ⟨_, op_isN, fun κ w s σ H x y dx dy d Q ok rx ry e q => by
  cases ry with
  | non =>
    cases e
    refine ⟨rfl, ?_⟩
    rw [rx.non_iff]
    exact q w _ H (.refl _) ok (.bl _)
  | _ => exact nomatch e⟩
theorem opd_notN : OpD G X (compareOp .IsNot) dNotN := ⟨_, op_notN, fun κ w s σ H x y dx dy d Q ok rx ry e q => by
  cases ry with
  | non =>
    cases e
    refine ⟨rfl, ?_⟩
    rw [rx.non_iff]
    exact q w _ H (.refl _) ok (.bl _)
  | _ => exact nomatch e⟩
/-! ### operators of own classes -/
def ownO (c : String) (g : DFn) : DO2 := fun x y s => match insOf x s, insOf y s with
  | some (c1, _), some (c2, _) => if c1 = c ∧ c2 = c then lift s (g [x, y] s.st) else .stuck
  | _, _ => .stuck
theorem ep_back {pins : List (Addr × Obj)} {σ : L2.St} {Q : VK} {v : Value} {s' : Shared} (h : EP X pins σ Q v s') : PySem.W.CmpBack (EP X pins σ Q) v s' := by
  obtain ⟨x, H, I, r, q⟩ := id h
  cases v <;> first
    | exact h
    | (have := r.abs; cases this)
theorem ownO_of {c : String} {g : DFn} {κ : Bs} {w : Wd} {s : DS} {σ : L2.St} {H : Hp} {x y : V} {dx dy : D} {Q : VK} (ok : Ok G κ w s σ H) (rx : Rep G w x dx) (ry : Rep G w y dy) (q : PostG G W (Rep G) κ w σ (ownO c g dx dy s) Q) :
    ∃ a b C dxa dxb fa fb, x = .ref a ∧ y = .ref b ∧ G.ct c = some C ∧ H a = some (.ins C dxa fa) ∧ H b = some (.ins C dxb fb) ∧ PostG G W (Rep G) κ w σ (lift s (g [dx, dy] s.st)) Q := by
  unfold ownO at q
  cases e1 : insOf dx s with
  | none => rw [e1] at q; exact q.elim
  | some p =>
    cases e2 : insOf dy s with
    | none => rw [e1, e2] at q; exact q.elim
    | some p' =>
      obtain ⟨c1, f1⟩ := p
      obtain ⟨c2, f2⟩ := p'
      rw [e1, e2] at q
      replace q : PostG G W (Rep G) κ w σ (if c1 = c ∧ c2 = c then lift s (g [dx, dy] s.st) else .stuck) Q := q
      split at q
      · rename_i h
        obtain ⟨rfl, rfl⟩ := h
        obtain ⟨a, C, dxa, vs, ev, hC, hH, _⟩ := rx.ins_of ok e1
        obtain ⟨b, C', dxb, vs', ev', hC', hH', _⟩ := ry.ins_of ok e2
        rw [hC] at hC'
        cases hC'
        exact ⟨a, b, C, dxa, dxb, vs, vs', ev, ev', hC, hH, hH', q⟩
      · exact q.elim
theorem opx_own {op : Operator} {mname : Str} {c : String} {C f : Addr} {k : Nat} {fd : FuncData} {ps : List Str} {g : DFn} (hm' : PySem.dunder op.info.2 = mname) (hC : G.ct c = some C) (hs : PySem.W.findIn X.K (.ref C) mname = some (some (.ref f))) (hf : PySem.W.isFn X.K (.ref f) = true) (hc : PySem.W.selfFirst X.K C = true)
    (F : FnOk X.prog X.w X.K X.mg X.base (L2.CX X.prog X.w) k f fd ps (spG G 2 g)) (hr : Room k X.A) (hb : Binds X.K fd ps []) (tk : Takes X W) : OpX G W X (binaryOp op) (ownO c g) := by
  subst hm'
  intro pins sh σ H x y v u κ w s dx dy Q I rx ry ok rdx rdy q
  obtain ⟨a, b, C', dxa, dxb, fa, fb, rfl, rfl, hC', hH, hH', q⟩ := ownO_of ok rdx rdy q
  rw [hC] at hC'
  cases hC'
  cases rx
  cases ry
  obtain ⟨mA, J, _⟩ := ins_get I.hok hH
  obtain ⟨mB, J', _⟩ := ins_get I.hok hH'
  obtain ⟨od, J, _⟩ := J.look
  obtain ⟨od', J', _⟩ := J'.look
  obtain ⟨m, hF⟩ := I.fr
  refine PySem.W.binop_K hF I.ok.mod.kin J J'.type hc hs hf ?_
  exact thn (callD (us := [.ref a, .ref b]) (vs := [.ref a, .ref b]) (ds := [dx, dy]) F hr hb tk I ok (.cons rdx (.cons rdy .nil)) (.cons rfl (.cons rfl .nil)) rfl q) fun v s' h => ep_back h
theorem opx_ownEq {c : String} {C f : Addr} {k : Nat} {fd : FuncData} {ps : List Str} {g : DFn} (hC : G.ct c = some C) (hs : PySem.W.findIn X.K (.ref C) "__eq__" = some (some (.ref f))) (hf : PySem.W.isFn X.K (.ref f) = true)
    (F : FnOk X.prog X.w X.K X.mg X.base (L2.CX X.prog X.w) k f fd ps (spG G 2 g)) (hr : Room k X.A) (hb : Binds X.K fd ps []) (tk : Takes X W) : OpX G W X (compareOp .Eq) (ownO c g) := by
  intro pins sh σ H x y v u κ w s dx dy Q I rx ry ok rdx rdy q
  obtain ⟨a, b, C', dxa, dxb, fa, fb, rfl, rfl, hC', hH, hH', q⟩ := ownO_of ok rdx rdy q
  rw [hC] at hC'
  cases hC'
  cases rx
  cases ry
  obtain ⟨mA, J, _⟩ := ins_get I.hok hH
  obtain ⟨mB, J', _⟩ := ins_get I.hok hH'
  obtain ⟨od, J, _⟩ := J.look
  obtain ⟨od', J', _⟩ := J'.look
  obtain ⟨m, hF⟩ := I.fr
  show wpAny (model X.prog X.w) X.A (richCompare .Eq (.ref a) (.ref b)) _ _ _
  refine PySem.W.cmp_K (op := .Eq) (tb := .ref C) hr.units0 hF I.ok.mod.kin J J'.type (by simp [PySem.W.notFirst]) hs hf ?_
  exact thn (callD (us := [.ref a, .ref b]) (vs := [.ref a, .ref b]) (ds := [dx, dy]) F hr hb tk I ok (.cons rdx (.cons rdy .nil)) (.cons rfl (.cons rfl .nil)) rfl q) fun v s' h => ep_back h
/-- ~x of an own class -/
def eInv (c : String) (g : DFn) (f : DE) : DE := fun s => (f s).bind fun d s1 => match insOf d s1 with
  | some (c1, _) => if c1 = c then lift s1 (g [d] s1.st) else .stuck
  | none => .stuck
theorem pd_inv {c : String} {C f : Addr} {k : Nat} {fd : FuncData} {ps : List Str} {g : DFn} {e : Expr} {fe : DE} {pos : Pos} (hC : G.ct c = some C) (hs : PySem.W.findIn X.K (.ref C) "__invert__" = some (some (.ref f))) (hf : PySem.W.isFn X.K (.ref f) = true)
    (F : FnOk X.prog X.w X.K X.mg X.base (L2.CX X.prog X.w) k f fd ps (spG G 1 g)) (hr : Room k X.A) (hb : Binds X.K fd ps []) (tk : Takes X W) (he : PD G W X e fe) : PD G W X (.UnaryOp .Invert e pos) (eInv c g fe) := by
  refine ⟨fun pins sh σ H Q I h => ?_⟩
  obtain ⟨κ, w, s, ok, q⟩ := h
  have hh : tD G W fe σ H fun v H1 => ∃ d s1 w1, w.le w1 ∧ Ok G κ w1 s1 σ H1 ∧ Rep G w1 v d ∧ PostG G W (Rep G) κ w1 σ (match insOf d s1 with
    | some (c1, _) => if c1 = c then lift s1 (g [d] s1.st) else .stuck
    | none => .stuck) Q := ⟨κ, w, s, ok, PostG.bind q⟩
  refine UnaryOp_ (thn (he.run pins sh σ H _ I hh) fun u s1 ⟨x, H1, I1, rx, d, t1, w1, le, ok1, r1, q1⟩ => ?_)
  cases e1 : insOf d t1 with
  | none => rw [e1] at q1; exact q1.elim
  | some p =>
    obtain ⟨c1, fs⟩ := p
    rw [e1] at q1
    replace q1 : PostG G W (Rep G) κ w1 σ (if c1 = c then lift t1 (g [d] t1.st) else .stuck) Q := q1
    split at q1
    · rename_i hc
      subst hc
      obtain ⟨a, C', dx, vs, ev, hC', hH, rf⟩ := r1.ins_of ok1 e1
      rw [hC] at hC'
      cases hC'
      subst ev
      obtain rfl : u = Value.ref a := rx
      obtain ⟨mA, J, _⟩ := ins_get I1.hok hH
      obtain ⟨od, J, _⟩ := J.look
      obtain ⟨m, hF⟩ := I1.fr
      exact PySem.W.ksp_inv hF I1.ok.mod.kin J hs hf (callD (us := [.ref a]) (vs := [.ref a]) (ds := [d]) F hr hb tk I1 ok1 (.cons r1 .nil) (.cons rfl .nil) rfl q1)
    · exact q1.elim
end
end DL
set_option maxRecDepth 100000
set_option maxHeartbeats 4000000
set_option autoImplicit false
namespace DL
open PySem PySem.Spec PyProof.Rows L2 RZ
section
variable {G : Gam} {W : WX} {X : Cx}
/-! ### list comprehensions -/
abbrev WF : WX := fun _ _ _ _ => False
def wipeD (vs : List Nat) (l : List Sl) : List Sl := match vs with
  | [] => l
  | v :: vs => (wipeD vs l).set v .un
def wipeS (vs : List Nat) (s : DS) : DS := ⟨wipeD vs s.sl, s.st⟩
theorem wipeD_length (l : List Sl) : ∀ vs : List Nat, (wipeD vs l).length = l.length
  | [] => rfl
  | v :: vs => by unfold wipeD; rw [List.length_set, wipeD_length l vs]
theorem wipeD_in {l : List Sl} {i : Nat} {x : Sl} : ∀ {vs : List Nat}, (wipeD vs l)[i]? = some x → (i ∈ vs ∧ x = .un) ∨ (i ∉ vs ∧ l[i]? = some x)
  | [], h => .inr ⟨by simp, h⟩
  | v :: vs, h => by
    unfold wipeD at h
    by_cases hi : v = i
    · subst hi
      by_cases hv : v < (wipeD vs l).length
      · rw [List.getElem?_set_self hv] at h
        cases h
        exact .inl ⟨List.mem_cons_self, rfl⟩
      · rw [List.getElem?_eq_none (by simpa using hv)] at h; cases h
    · rw [List.getElem?_set_ne hi] at h
      rcases wipeD_in h with ⟨h1, h2⟩ | ⟨h1, h2⟩
      · exact .inl ⟨List.mem_cons_of_mem _ h1, h2⟩
      · exact .inr ⟨by simp only [List.mem_cons, not_or]; exact ⟨fun e => hi e.symm, h1⟩, h2⟩
theorem wipe_out' {σ : L2.St} {i : Nat} : ∀ {vs : List Nat}, i ∉ vs → (L2.wipe σ vs)[i]? = σ[i]?
  | [], _ => rfl
  | v :: vs, h => by
    unfold L2.wipe
    rw [List.getElem?_set_ne (fun e => h (by rw [e]; exact List.mem_cons_self)), wipe_out' fun z => h (List.mem_cons_of_mem _ z)]
theorem Ok.wipe {κ : Bs} {w : Wd} {s : DS} {σ : L2.St} {H : Hp} (h : Ok G κ w s σ H) (vs : List Nat) : Ok G κ w (wipeS vs s) (L2.wipe σ vs) H := by
  refine ⟨h.fok, h.nx, by rw [wipe_length]; exact (wipeD_length _ _).trans h.len, fun i d e => ?_, fun i x e o => ?_, fun i j x y a e1 e2 o1 o2 h1 h2 => ?_, fun p hp => ?_, fun a ha c fs e => ?_⟩
  · rcases wipeD_in e with ⟨_, z⟩ | ⟨z, e⟩
    · cases z
    · rw [wipe_out' z]; exact h.val i d e
  · rcases wipeD_in e with ⟨_, z⟩ | ⟨z, e⟩
    · subst z; cases o
    · rw [wipe_out' z]; exact h.own i x e o
  · rcases wipeD_in e1 with ⟨_, z⟩ | ⟨z, e1⟩
    · subst z; cases o1
    · rcases wipeD_in e2 with ⟨_, z'⟩ | ⟨z', e2⟩
      · subst z'; cases o2
      · rw [wipe_out' z] at h1
        rw [wipe_out' z'] at h2
        exact h.ne i j x y a e1 e2 o1 o2 h1 h2
  · obtain ⟨q1, q2, q3, q4, q5⟩ := h.gam p hp
    refine ⟨q1, q2, q3, q4, fun i x e o => ?_⟩
    rcases wipeD_in e with ⟨_, z⟩ | ⟨z, e⟩
    · subst z; cases o
    · rw [wipe_out' z]; exact q5 i x e o
  · rcases wipeD_in e with ⟨_, z⟩ | ⟨z, e⟩
    · cases z
    · rw [wipe_out' z]; exact h.me a ha c fs e
/-- the slots behind the block: the block's own names as they were -/
def unwipe (vs : List Nat) (old new : List Sl) : List Sl := match vs with
  | [] => new
  | v :: vs => (unwipe vs old new).set v (match old[v]? with | some (.val d) => .val d | _ => .un)
theorem unwipe_length (l l' : List Sl) : ∀ vs : List Nat, (unwipe vs l l').length = l'.length
  | [] => rfl
  | v :: vs => by unfold unwipe; rw [List.length_set, unwipe_length l l' vs]
theorem unwipe_in {l l' : List Sl} {i : Nat} {x : Sl} : ∀ {vs : List Nat}, (unwipe vs l l')[i]? = some x → (i ∈ vs ∧ (x = .un ∨ ∃ d, x = .val d ∧ l[i]? = some x)) ∨ (i ∉ vs ∧ l'[i]? = some x)
  | [], h => .inr ⟨by simp, h⟩
  | v :: vs, h => by
    unfold unwipe at h
    by_cases hi : v = i
    · subst hi
      by_cases hv : v < (unwipe vs l l').length
      · rw [List.getElem?_set_self hv] at h
        refine .inl ⟨List.mem_cons_self, ?_⟩
        cases e : l[v]? with
        | none => rw [e] at h; cases h; exact .inl rfl
        | some y =>
          rw [e] at h
          cases y with
          | val d => cases h; exact .inr ⟨d, rfl, rfl⟩
          | _ => cases h; exact .inl rfl
      · rw [List.getElem?_eq_none (by simpa using hv)] at h; cases h
    · rw [List.getElem?_set_ne hi] at h
      rcases unwipe_in h with ⟨h1, h2⟩ | ⟨h1, h2⟩
      · exact .inl ⟨List.mem_cons_of_mem _ h1, h2⟩
      · exact .inr ⟨by simp only [List.mem_cons, not_or]; exact ⟨fun e => hi e.symm, h1⟩, h2⟩
theorem Ok.unwipe {κ κ' : Bs} {w w1 : Wd} {s s1 : DS} {σ : L2.St} {H H1 : Hp} {vs : List Nat} (h1 : Ok G κ' w1 s1 σ H1) (le : w1.le w) (h : Ok G κ w s (L2.wipe σ vs) H) (hme : κ.me = κ'.me) : Ok G κ w ⟨DL.unwipe vs s1.sl s.sl, s.st⟩ σ H := by
  refine ⟨h.fok, h.nx, ?_, fun i d e => ?_, fun i x e o => ?_, fun i j x y a e1 e2 o1 o2 q1 q2 => ?_, fun p hp => ?_, fun a ha c fs e => ?_⟩
  · show (DL.unwipe vs s1.sl s.sl).length = σ.length
    rw [unwipe_length, h.len, wipe_length]
  · rcases unwipe_in e with ⟨_, z | ⟨d', z, e⟩⟩ | ⟨z, e⟩
    · cases z
    · obtain ⟨v, q1, q2⟩ := h1.val i d e
      exact ⟨v, q1, q2.mono le⟩
    · obtain ⟨v, q1, q2⟩ := h.val i d e
      exact ⟨v, by rw [wipe_out' z] at q1; exact q1, q2⟩
  · rcases unwipe_in e with ⟨_, z | ⟨d', z, e⟩⟩ | ⟨z, e⟩
    · subst z; cases o
    · subst z; cases o
    · have := h.own i x e o
      rwa [wipe_out' z] at this
  · rcases unwipe_in e1 with ⟨_, z | ⟨d', z, e1⟩⟩ | ⟨z, e1⟩
    · subst z; cases o1
    · subst z; cases o1
    · rcases unwipe_in e2 with ⟨_, z' | ⟨d', z', e2⟩⟩ | ⟨z', e2⟩
      · subst z'; cases o2
      · subst z'; cases o2
      · exact h.ne i j x y a e1 e2 o1 o2 (by rw [wipe_out' z]; exact q1) (by rw [wipe_out' z']; exact q2)
  · obtain ⟨q1, q2, q3, q4, q5⟩ := h.gam p hp
    refine ⟨q1, q2, q3, q4, fun i x e o => ?_⟩
    rcases unwipe_in e with ⟨_, z | ⟨d', z, e⟩⟩ | ⟨z, e⟩
    · subst z; cases o
    · subst z; cases o
    · have := q5 i x e o
      rwa [wipe_out' z] at this
  · rcases unwipe_in e with ⟨_, z | ⟨d', z, e⟩⟩ | ⟨z, e⟩
    · cases z
    · cases z
    · have := h.me a ha c fs e
      rwa [wipe_out' z] at this
def lcL (vs : List Nat) (g : DG) (t : DT) (e : DE) : List D → List D → DS → Res DS (List D)
  | [], acc, s => .ok acc s
  | d :: r, acc, s => (noX (g d (wipeS vs s))).bind fun _ s1 => (noX (t s1)).bind fun b s2 => if b = true then (noX (e s2)).bind fun y s3 => if acc.length < 1000000 then lcL vs g t e r (acc ++ [y]) s3 else .stuck
    else lcL vs g t e r acc s2
def aLc (vs : List Nat) (it : DA) (g : DG) (t : DT) (e : DE) : DA := fun s => (it s).bind fun items s1 => (noX (lcL vs g t e items [] s1)).bind fun ys s2 => .ok ys ⟨unwipe vs s1.sl (wipeD vs s2.sl), s2.st⟩
def bYes : DT := fun s => .ok true s
theorem ptds_nil : PTs X [] (tDT G W bYes) := ⟨fun pins s σ H Q I ⟨κ, w, d, ok, q⟩ => pts_nil.run pins s σ H Q I (q w true H (.refl _) ok rfl)⟩
theorem ptds_one {c : Expr} {t : DT} (h : PDT G W X c t) : PTs X [c] (tDT G W t) := pts_one h
theorem wipe_same {σ σ2 : L2.St} {vs is : List Nat} (hl : σ2.length = (L2.wipe σ vs).length) (h : ∀ i : Nat, i ∉ is → σ2[i]? = (L2.wipe σ vs)[i]?) (hs : ∀ i ∈ is, i ∈ vs) : L2.wipe σ2 vs = L2.wipe σ vs := by
  have at_ : ∀ (τ : L2.St) (i : Nat), i ∈ vs → (L2.wipe τ vs)[i]? = if i < τ.length then some none else none := by
    intro τ i hi
    clear h hs hl
    induction vs with
    | nil => simp at hi
    | cons v r ih =>
      unfold L2.wipe
      by_cases e : v = i
      · subst e
        by_cases c : v < τ.length
        · rw [List.getElem?_set_self (by rw [wipe_length]; exact c), if_pos c]
        · rw [if_neg c, List.getElem?_eq_none (by rw [List.length_set, wipe_length]; omega)]
      · rw [List.getElem?_set_ne e]
        exact ih (by rcases List.mem_cons.mp hi with z | z; exact absurd z.symm e; exact z)
  have hl2 : σ2.length = σ.length := by rw [hl, wipe_length]
  apply List.ext_getElem?
  intro i
  by_cases hi : i ∈ vs
  · rw [at_ σ2 i hi, at_ σ i hi, hl2]
  · rw [wipe_out' hi]
    exact h i fun z => hi (hs i z)
theorem lc_of {vs is : List Nat} (hs : ∀ i ∈ is, i ∈ vs) {κ : Bs} {w : Wd} {J : It} {g : DG} {t : DT} {e : DE} {items : List D} (hJ : ItOk G w J items) {s0 : DS} {σ : L2.St} {H1 : Hp} {Q : VK} (ok : Ok G κ w s0 σ H1) {Dp : Addr} (hD : H1 Dp = none)
    (q : match noX (lcL vs g t e items [] s0) with
      | .ok ys s2 => ∀ w2 acc H2, w.le w2 → Ok G (κ.plus Dp (.lst acc)) w2 (wipeS vs s2) (L2.wipe σ vs) H2 → Reps G w2 acc ys → Q (.ref Dp) H2
      | _ => False) :
    ∃ Wv : Nat → Nat → Hp → Prop, (∃ m, Wv 0 m (upd H1 Dp (.lst []))) ∧ ∀ i m H, Wv i m H →
      (J.stop i H ∧ Q (.ref Dp) H) ∨ (J.go i H ∧ ∃ Nx : Hp → Prop, (∀ H', Nx H' → ∃ m', m' < m ∧ Wv (i + 1) m' H') ∧ ∀ x H', J.yld i H x H' → tDG G is g x (L2.wipe σ vs) H' fun σ2 H2 => L2.wipe σ2 vs = L2.wipe σ vs ∧ tDT G WF t σ2 H2 fun b H3 =>
        if b = true then tD G WF e σ2 H3 fun y H4 => ∃ acc, H4 Dp = some (.lst acc) ∧ acc.length < sizeLine ∧ Nx (upd H4 Dp (.lst (acc ++ [y]))) else Nx H3) := by
  have hγ := ok.apart hD
  -- a state of the loop: slots wiped
  refine ⟨fun i m H => ∃ w' s' acc accD, w.le w' ∧ Ok G (κ.plus Dp (.lst acc)) w' (wipeS vs s') (L2.wipe σ vs) H ∧ Reps G w' acc accD ∧ (items.drop i).length = m ∧
    (match noX (lcL vs g t e (items.drop i) accD s') with
      | .ok ys s2 => ∀ w2 acc H2, w'.le w2 → Ok G (κ.plus Dp (.lst acc)) w2 (wipeS vs s2) (L2.wipe σ vs) H2 → Reps G w2 acc ys → Q (.ref Dp) H2
      | _ => False), ⟨items.length, w, s0, [], [], .refl _, (ok.fresh hD _).wipe vs, .nil, by simp, ?_⟩, ?_⟩
  · rw [List.drop_zero]
    exact q
  · rintro i m H ⟨w', s', acc, accD, le', ok', ra, hm, q'⟩
    cases ed : items.drop i with
    | nil =>
      rw [ed] at q'
      have hn : items[i]? = none := by
        have := congrArg (fun l => l[0]?) ed
        simpa using this
      exact .inl ⟨(hJ w' _ H le' ok'.fok i).2 hn, q' w' acc H (.refl _) ok' ra⟩
    | cons d r =>
      rw [ed] at q' hm
      obtain ⟨h1, h2⟩ := drop_get ed
      obtain ⟨go, yl⟩ := (hJ w' _ H le' ok'.fok i).1 d h1
      refine .inr ⟨go, fun H2 => ∃ w2 s2 acc accD, w.le w2 ∧ Ok G (κ.plus Dp (.lst acc)) w2 (wipeS vs s2) (L2.wipe σ vs) H2 ∧ Reps G w2 acc accD ∧
        (match noX (lcL vs g t e r accD s2) with
          | .ok ys s3 => ∀ w3 acc H3, w2.le w3 → Ok G (κ.plus Dp (.lst acc)) w3 (wipeS vs s3) (L2.wipe σ vs) H3 → Reps G w3 acc ys → Q (.ref Dp) H3
          | _ => False), fun H2 ⟨w2, s2, acc2, accD2, l2, o2, r2, q2⟩ => ?_, fun x H' hy => ?_⟩
      · exact ⟨r.length, by rw [← hm]; exact Nat.lt_succ_self _, w2, s2, acc2, accD2, l2, o2, r2, by rw [h2], by rw [h2]; exact q2⟩
      · obtain ⟨w2, nx, fok, rx⟩ := yl x H' hy
        have ok2 : Ok G (κ.plus Dp (.lst acc)) w2 (wipeS vs s') (L2.wipe σ vs) H' := ok'.step nx fok
        refine ⟨κ.plus Dp (.lst acc), w2, wipeS vs s', d, ok2, rx, PostT.ofNoX ?_⟩
        unfold lcL at q'
        cases e1 : noX (g d (wipeS vs s')) with
        | stuck => rw [e1] at q'; exact q'.elim
        | exc x s => exact absurd e1 (noX_exc _ _ _)
        | ok u s1 =>
          rw [e1] at q'
          rw [Res.bind_ok] at q'
          intro w3 σ3 H3 l3 o3 hσ
          have hw : L2.wipe σ3 vs = L2.wipe σ vs := wipe_same hσ.1 hσ.2 hs
          refine ⟨hw, κ.plus Dp (.lst acc), w3, s1, o3, ?_⟩
          cases e2 : t s1 with
          | stuck => rw [e2] at q'; exact q'.elim
          | exc x s => rw [e2] at q'; exact q'.elim
          | ok b s2 =>
            rw [e2] at q'
            intro w4 b' H4 l4 o4 eb
            subst eb
            have lw : w'.le w4 := (nx.le.trans l3).trans l4
            cases b' with
            | false =>
              rw [if_neg (fun z => nomatch z)]
              refine ⟨w4, s2, acc, accD, le'.trans lw, by rw [← hw]; exact o4.wipe vs, ra.mono lw, ?_⟩
              replace q' : (match noX (lcL vs g t e r accD s2) with
                | .ok ys s3 => ∀ w3 acc H3, w'.le w3 → Ok G (κ.plus Dp (.lst acc)) w3 (wipeS vs s3) (L2.wipe σ vs) H3 → Reps G w3 acc ys → Q (.ref Dp) H3
                | _ => False) := q'
              cases e3 : noX (lcL vs g t e r accD s2) with
              | stuck => rw [e3] at q'; exact q'.elim
              | exc x s => rw [e3] at q'; exact q'.elim
              | ok ys s3 => rw [e3] at q'; exact fun w5 acc5 H5 l5 o5 r5 => q' w5 acc5 H5 (lw.trans l5) o5 r5
            | true =>
              rw [if_pos rfl]
              refine ⟨κ.plus Dp (.lst acc), w4, s2, o4, ?_⟩
              replace q' : (match noX ((noX (e s2)).bind fun y s3 => if accD.length < 1000000 then lcL vs g t e r (accD ++ [y]) s3 else .stuck) with
                | .ok ys s3 => ∀ w3 acc H3, w'.le w3 → Ok G (κ.plus Dp (.lst acc)) w3 (wipeS vs s3) (L2.wipe σ vs) H3 → Reps G w3 acc ys → Q (.ref Dp) H3
                | _ => False) := q'
              cases e3 : e s2 with
              | stuck => rw [e3] at q'; exact q'.elim
              | exc x s => rw [e3] at q'; exact q'.elim
              | ok y s3 =>
                rw [e3] at q'
                intro w5 v5 H5 l5 o5 r5
                replace q' : (match noX (if accD.length < 1000000 then lcL vs g t e r (accD ++ [y]) s3 else .stuck) with
                  | .ok ys s3 => ∀ w3 acc H3, w'.le w3 → Ok G (κ.plus Dp (.lst acc)) w3 (wipeS vs s3) (L2.wipe σ vs) H3 → Reps G w3 acc ys → Q (.ref Dp) H3
                  | _ => False) := q'
                by_cases c : accD.length < 1000000
                · rw [if_pos c] at q'
                  refine ⟨acc, (o5.gam (Dp, .lst acc) List.mem_cons_self).1, by rw [ra.length, sizeLine_eq]; omega, w5, s3, acc ++ [v5], accD ++ [y], le'.trans (lw.trans l5), ?_, ((ra.mono lw).mono l5).append (.cons r5 .nil), ?_⟩
                  · rw [← hw]
                    exact (o5.swap hγ).wipe vs
                  · cases e4 : noX (lcL vs g t e r (accD ++ [y]) s3) with
                    | stuck => rw [e4] at q'; exact q'.elim
                    | exc x s => rw [e4] at q'; exact q'.elim
                    | ok ys s4 => rw [e4] at q'; exact fun w6 acc6 H6 l6 o6 r6 => q' w6 acc6 H6 ((lw.trans l5).trans l6) o6 r6
                · rw [if_neg c] at q'
                  exact q'.elim
theorem pdo_lc {elt tg iter : Expr} {ifs : List Expr} {scope : Scope} {own : List (Str × Nat)} {is : List Nat} {pos : Pos} {it : DA} {g : DG} {t : DT} {e : DE} (hc : X.calm = true) (hN : X.N.Nodup) (hi : PDI G W X tg iter it) (ok : BlkOk X.N X.env.scope scope own) (hs' : ∀ i ∈ is, i ∈ own.map (·.2))
    (hg : ∀ (s : Shared) (H : Hp) (C : Addr) (cl : List (Str × Addr)) (fp : List Addr), PDG G (X.blk s H scope (compEnvC scope cl C X.env) fp) tg is g) (ht : ∀ (s : Shared) (H : Hp) (C : Addr) (cl : List (Str × Addr)) (fp : List Addr), PTs (X.blk s H scope (compEnvC scope cl C X.env) fp) ifs (tDT G WF t))
    (he : ∀ (s : Shared) (H : Hp) (C : Addr) (cl : List (Str × Addr)) (fp : List Addr), PD G WF (X.blk s H scope (compEnvC scope cl C X.env) fp) elt e) (hs : ∀ x, foldedSetIterable iter X.env x = pure x := by intro _; rfl) :
    PDo G W X (.ListComp elt [⟨tg, iter, ifs, 0⟩] scope pos) (aLc (own.map (·.2)) it g t e) :=
  (pe_lc hc hN hi ok hg ht he hs).imp fun σ H Q h => lc_fin hs' h
where
  lc_fin {vs is : List Nat} (hs : ∀ i ∈ is, i ∈ vs) {it : DA} {g : DG} {t : DT} {e : DE} {σ : L2.St} {H : Hp} {Q : VK} (h : tDo G W (aLc vs it g t e) σ H Q) : tLc (tDI G W it) (tDG G is g) (tDT G WF t) (tD G WF e) vs σ H Q := by
    obtain ⟨κ, w, s, ok, q⟩ := h
    refine ⟨κ, w, s, ok, ?_⟩
    unfold aLc at q
    cases e1 : it s with
    | stuck => rw [e1] at q; exact q.elim
    | exc x s' => rw [e1] at q; exact q
    | ok items s1 =>
      rw [e1] at q
      rw [Res.bind_ok] at q
      intro w1 J H1 l1 o1 hJ D hD
      refine lc_of hs hJ o1 hD ?_
      cases e2 : noX (lcL vs g t e items [] s1) with
      | stuck => rw [e2] at q; exact q.elim
      | exc x s' => exact absurd e2 (noX_exc _ _ _)
      | ok ys s2 =>
        rw [e2] at q
        intro w2 acc H2 l2 o2 r2
        exact q w2 D acc H2 (l1.trans l2) (Ok.unwipe o1 l2 o2 rfl) (o1.apart hD) r2
/-- name = [..] on one line, the name a plain local -/
theorem pds_setLc {i : Nat} {y : Str} {py : Pos} {elt tg iter : Expr} {ifs : List Expr} {scope : Scope} {own : List (Str × Nat)} {is : List Nat} {pos spos : Pos} {it : DA} {g : DG} {t : DT} {e : DE} (hc : X.calm = true) (hN : X.N.Nodup) (hy : X.N[i]? = some y) (hyl : X.env.scope.names.lookup y = some .local)
    (hsw : swapsWith (.ListComp elt [⟨tg, iter, ifs, 0⟩] scope pos) (some (.Name y py)) spos.line X.env = pure true) (hi : PDI G W X tg iter it) (ok : BlkOk X.N X.env.scope scope own) (hs' : ∀ i ∈ is, i ∈ own.map (·.2))
    (hg : ∀ (s : Shared) (H : Hp) (C : Addr) (cl : List (Str × Addr)) (fp : List Addr), PDG G (X.blk s H scope (compEnvC scope cl C X.env) fp) tg is g) (ht : ∀ (s : Shared) (H : Hp) (C : Addr) (cl : List (Str × Addr)) (fp : List Addr), PTs (X.blk s H scope (compEnvC scope cl C X.env) fp) ifs (tDT G WF t))
    (he : ∀ (s : Shared) (H : Hp) (C : Addr) (cl : List (Str × Addr)) (fp : List Addr), PD G WF (X.blk s H scope (compEnvC scope cl C X.env) fp) elt e) (hs : ∀ x, foldedSetIterable iter X.env x = pure x := by intro _; rfl) :
    PDS G W X (.Assign [.Name y py] (.ListComp elt [⟨tg, iter, ifs, 0⟩] scope pos) spos) (sSetO i (aLc (own.map (·.2)) it g t e)) :=
  (ps_setLc hc hN hy hyl hsw hi ok hg ht he hs).imp fun N σ H q => by
    have q := setO_of q
    exact pdo_lc.lc_fin hs' q
/-! ### enumerate, zip -/
def enumL (xs : List D) : List D := (List.range xs.length).zipWith (fun (i : Nat) x => .tup [.int (i : Int), x]) xs
def zipL (xs ys : List D) : List D := xs.zipWith (fun x y => .tup [x, y]) ys
theorem zipL_get {xs ys : List D} {i : Nat} {d : D} (h : (zipL xs ys)[i]? = some d) : ∃ x y, xs[i]? = some x ∧ ys[i]? = some y ∧ d = .tup [x, y] := by
  unfold zipL at h
  rw [List.getElem?_zipWith] at h
  cases e1 : xs[i]? with
  | none => simp [e1] at h
  | some x =>
    cases e2 : ys[i]? with
    | none => simp [e1, e2] at h
    | some y => simp [e1, e2] at h; exact ⟨x, y, rfl, rfl, h.symm⟩
theorem enumL_get {xs : List D} {i : Nat} {d : D} (h : (enumL xs)[i]? = some d) : ∃ x, xs[i]? = some x ∧ d = .tup [.int (i : Int), x] := by
  unfold enumL at h
  rw [List.getElem?_zipWith] at h
  cases e2 : xs[i]? with
  | none => simp [e2] at h
  | some y =>
    have hi : i < xs.length := (List.getElem?_eq_some_iff.mp e2).1
    rw [List.getElem?_range hi, e2] at h
    cases h
    exact ⟨y, rfl, rfl⟩
theorem itOk_enum (hK : G.K = X.K) {w : Wd} {a : Addr} {vs : List V} {ds : List D} (e : SqL G.K w.F a vs) (r : Reps G w vs ds) : ItOk G w (Ite X.K a) (enumL ds) := by
  intro w1 S H le fok i
  have q : SqL X.K H a vs := hK ▸ SqL.le (SqL.le e le.f) fok.sub
  refine ⟨fun d hd => ?_, fun hn => ?_⟩
  · obtain ⟨x, h1, rfl⟩ := enumL_get hd
    obtain ⟨y, h2, h3⟩ := r.get h1
    refine ⟨⟨vs, y, q, h2⟩, fun v H' ⟨T, x', hv, hT, hH, hx⟩ => ?_⟩
    have := hx vs q
    rw [h2] at this
    cases this
    obtain ⟨f2, n2⟩ := fok.alloc hT (.tup [.int (i : Nat), y])
    subst hH
    subst hv
    exact ⟨_, n2, f2, .tup (.inl (.inl upd_same)) (.cons (.int _) (.cons ((h3.mono le).mono n2.le) .nil))⟩
  · refine ⟨vs, q, ?_⟩
    have := List.getElem?_eq_none_iff.mp hn
    unfold enumL at this
    rw [List.length_zipWith, List.length_range] at this
    rw [r.length]
    omega
def itEnum (f : DA) : DA := fun s => (f s).bind fun ds s1 => match ds with
  | [.lst xs] => .ok (enumL xs) s1
  | [.scr xs] => .ok (enumL xs) s1
  | _ => .stuck
theorem pdi_enum (hK : G.K = X.K) {e : Expr} {fa : DA} {p pos tpos : Pos} {elts : List Expr} {kk : Nat} (hg : Gl X "enumerate") (hm : X.mg "enumerate" = none) (ha : PDA G W X [e] fa) (hs : starEach [e] X.env = [(false, eval e X.env)] := by rfl) :
    PDI G W X (.Tuple elts kk tpos) (.Call (.Name "enumerate" p) [e] [] pos) (itEnum fa) :=
  (pi_enum hg hm ha hs).imp fun σ H R ⟨κ, w, s, ok, q⟩ => ⟨κ, w, s, ok, (PostG.bindI q).imp fun v H1 ⟨d, s1, w1, le, ok1, r1, q1⟩ => by
    match d, q1 with
    | [.lst xs], q1 =>
      obtain ⟨v, rfl, r⟩ := r1.one
      cases r with
      | @lst a vs ds e r =>
        have e' : SqL G.K w1.F a vs := .inl (.inl e)
        exact ⟨a, vs, rfl, hK ▸ SqL.le e' ok1.fok.sub, q1 w1 _ H1 (.refl _) ok1 (itOk_enum hK e' r)⟩
    | [.scr xs], q1 =>
      obtain ⟨v, rfl, r⟩ := r1.one
      cases r with
      | @scr a vs ds e r => exact ⟨a, vs, rfl, hK ▸ SqL.le e ok1.fok.sub, q1 w1 _ H1 (.refl _) ok1 (itOk_enum hK e r)⟩⟩
theorem zip_none {vs ws : List V} {ds es : List D} {w : Wd} {i : Nat} (r : Reps G w vs ds) (r' : Reps G w ws es) (hn : (zipL ds es)[i]? = none) : vs.length ≤ i ∨ ws.length ≤ i := by
  have := List.getElem?_eq_none_iff.mp hn
  unfold zipL at this
  rw [List.length_zipWith] at this
  rw [r.length, r'.length]
  omega
theorem itOk_zip (hK : G.K = X.K) {w : Wd} {a b : Addr} {vs ws : List V} {ds es : List D} (e : SqL G.K w.F a vs) (e' : SqL G.K w.F b ws) (r : Reps G w vs ds) (r' : Reps G w ws es) : ItOk G w (Itz X.K a b) (zipL ds es) := by
  intro w1 S H le fok i
  have q : SqL X.K H a vs := hK ▸ SqL.le (SqL.le e le.f) fok.sub
  have q' : SqL X.K H b ws := hK ▸ SqL.le (SqL.le e' le.f) fok.sub
  refine ⟨fun d hd => ?_, fun hn => ⟨vs, ws, q, q', zip_none r r' hn⟩⟩
  obtain ⟨x, y, h1, h1', rfl⟩ := zipL_get hd
  obtain ⟨x', h2, h3⟩ := r.get h1
  obtain ⟨y', h2', h3'⟩ := r'.get h1'
  refine ⟨⟨vs, ws, x', y', q, q', h2, h2'⟩, fun v H' ⟨T, x2, y2, hv, hT, hH, hx, hy⟩ => ?_⟩
  have := hx vs q
  rw [h2] at this
  cases this
  have := hy ws q'
  rw [h2'] at this
  cases this
  obtain ⟨f2, n2⟩ := fok.alloc hT (.tup [x', y'])
  subst hH
  subst hv
  exact ⟨_, n2, f2, .tup (.inl (.inl upd_same)) (.cons ((h3.mono le).mono n2.le) (.cons ((h3'.mono le).mono n2.le) .nil))⟩
theorem itOk_zipT (hK : G.K = X.K) {w : Wd} {a b : Addr} {vs ws : List V} {ds es : List D} (e : SqT G.K w.F a vs) (e' : SqT G.K w.F b ws) (r : Reps G w vs ds) (r' : Reps G w ws es) : ItOk G w (ItzT X.K a b) (zipL ds es) := by
  intro w1 S H le fok i
  have q : SqT X.K H a vs := hK ▸ SqT.le (SqT.le e le.f) fok.sub
  have q' : SqT X.K H b ws := hK ▸ SqT.le (SqT.le e' le.f) fok.sub
  refine ⟨fun d hd => ?_, fun hn => ⟨vs, ws, q, q', zip_none r r' hn⟩⟩
  obtain ⟨x, y, h1, h1', rfl⟩ := zipL_get hd
  obtain ⟨x', h2, h3⟩ := r.get h1
  obtain ⟨y', h2', h3'⟩ := r'.get h1'
  refine ⟨⟨vs, ws, x', y', q, q', h2, h2'⟩, fun v H' ⟨T, x2, y2, hv, hT, hH, hx, hy⟩ => ?_⟩
  have := hx vs q
  rw [h2] at this
  cases this
  have := hy ws q'
  rw [h2'] at this
  cases this
  obtain ⟨f2, n2⟩ := fok.alloc hT (.tup [x', y'])
  subst hH
  subst hv
  exact ⟨_, n2, f2, .tup (.inl (.inl upd_same)) (.cons ((h3.mono le).mono n2.le) (.cons ((h3'.mono le).mono n2.le) .nil))⟩
def itZip (f : DA) : DA := fun s => (f s).bind fun ds s1 => match ds with
  | [.lst xs, .lst ys] => .ok (zipL xs ys) s1
  | [.tup xs, .tup ys] => .ok (zipL xs ys) s1
  | _ => .stuck
theorem pdi_zip (hK : G.K = X.K) {e e2 : Expr} {fa : DA} {p pos tpos : Pos} {elts : List Expr} {kk : Nat} (hg : Gl X "zip") (hm : X.mg "zip" = none) (ha : PDA G W X [e, e2] fa)
    (hs : starEach [e, e2] X.env = (false, eval e X.env) :: starEach [e2] X.env := by rfl) (hpl : (backTo pos (starEach [e2] X.env)).any (·.1) = false := by rfl) :
    PDI G W X (.Tuple elts kk tpos) (.Call (.Name "zip" p) [e, e2] [] pos) (itZip fa) :=
  (pi_zipA hg hm ha hs hpl).imp fun σ H R ⟨κ, w, s, ok, q⟩ => ⟨κ, w, s, ok, (PostG.bindI q).imp fun v H1 ⟨d, s1, w1, le, ok1, r1, q1⟩ => by
    match d, q1 with
    | [.lst xs, .lst ys], q1 =>
      obtain ⟨v, v', rfl, r, r'⟩ := r1.two
      cases r with
      | @lst a vs ds e r =>
        cases r' with
        | @lst b ws es e' r' =>
          have e1 : SqL G.K w1.F a vs := .inl (.inl e)
          have e2 : SqL G.K w1.F b ws := .inl (.inl e')
          exact ⟨a, b, vs, ws, rfl, .inl ⟨hK ▸ SqL.le e1 ok1.fok.sub, hK ▸ SqL.le e2 ok1.fok.sub, q1 w1 _ H1 (.refl _) ok1 (itOk_zip hK e1 e2 r r')⟩⟩
    | [.tup xs, .tup ys], q1 =>
      obtain ⟨v, v', rfl, r, r'⟩ := r1.two
      cases r with
      | @tup a vs ds e r =>
        cases r' with
        | @tup b ws es e' r' =>
          exact ⟨a, b, vs, ws, rfl, .inr ⟨hK ▸ SqT.le e ok1.fok.sub, hK ▸ SqT.le e' ok1.fok.sub, q1 w1 _ H1 (.refl _) ok1 (itOk_zipT hK e e' r r')⟩⟩⟩
/-! ### x.append(e) of an own list; x += e -/
/-- the list at an own slot -/
theorem own_list {κ : Bs} {w : Wd} {s : DS} {σ : L2.St} {H : Hp} {i : Nat} {xs : List D} (ok : Ok G κ w s σ H) (e : s.sl[i]? = some (.ol xs)) : ∃ a vs, σ[i]? = some (some (.ref a)) ∧ H a = some (.lst vs) ∧ Reps G w vs xs := by
  obtain ⟨a, h1, ⟨vs, h2, h3⟩, _⟩ := ok.own i _ e rfl
  exact ⟨a, vs, h1, h2, h3⟩
def sApp (i : Nat) (fa : DA) : DStm := fun s => match s.sl[i]? with
  | some (.ol _) => (fa s).bind fun ds s1 => match ds, s1.sl[i]? with
    | [d], some (.ol xs) => if xs.length < 1000000 then .ok .nx ⟨s1.sl.set i (.ol (xs ++ [d])), s1.st⟩ else .stuck
    | _, _ => .stuck
  | _ => .stuck
theorem app_of {i : Nat} {fa : DA} {N : Ends} {σ : L2.St} {H : Hp} (h : tDS G W (sApp i fa) N σ H) : tDrop (tBM X.K "list" rAppend (tVar i) (tDA G W fa)) N σ H := by
  obtain ⟨κ, w, s, ok, q⟩ := h
  unfold sApp at q
  cases e : s.sl[i]? with
  | none => rw [e] at q; exact q.elim
  | some y =>
    rw [e] at q
    cases y with
    | ol xs0 =>
      obtain ⟨a, vs, h1, h2, h3⟩ := own_list ok e
      refine ⟨.ref a, h1, .inl ⟨rfl, vs, .inl (.inl h2)⟩, κ, w, s, ok, (PostG.bindS q).imp fun v H1 ⟨d, s1, w1, le, ok1, r1, q1⟩ => ?_⟩
      match d, q1 with
      | [d], q1 =>
        cases e1 : s1.sl[i]? with
        | none => rw [e1] at q1; exact q1.elim
        | some z =>
          rw [e1] at q1
          cases z with
          | ol xs =>
            replace q1 : PostS G W κ w1 (if xs.length < 1000000 then .ok .nx ⟨s1.sl.set i (.ol (xs ++ [d])), s1.st⟩ else .stuck) N := q1
            split at q1
            · rename_i c
              obtain ⟨a', vs', g1, g2, g3⟩ := own_list ok1 e1
              rw [h1] at g1
              cases g1
              obtain ⟨y, rfl, ry⟩ := r1.one
              refine ⟨a, vs', y, rfl, rfl, g2, by rw [g3.length, sizeLine_eq]; omega, ?_⟩
              exact q1 w1 σ _ (.refl _) (ok1.mut e1 rfl rfl h1 ⟨_, upd_same, g3.append (.cons ry .nil)⟩ fun _ _ z => nomatch z)
            · exact q1.elim
          | _ => exact q1.elim
      | [], q1 => cases e1 : s1.sl[i]? <;> exact q1.elim
      | _ :: _ :: _, q1 => cases e1 : s1.sl[i]? <;> exact q1.elim
    | _ => exact q.elim
theorem pds_append {i : Nat} {x : Str} {p apos cpos pos : Pos} {e : Expr} {fa : DA} (ho : PE X (.Name x p) (tVar i)) (ha : PDA G W X [e] fa)
    (hbase : attributeBase (.Name x p) "append" X.env (eval (.Name x p) X.env) = eval (.Name x p) X.env := by rfl)
    (hfew : ((backTo cpos (starEach [e] X.env)).all (fun x => !x.1) && (backToKw cpos (keywordEach [] X.env)).all (fun x => x.1.isSome)
      && decide ([e].length + ([] : List Keyword).length + (if ([] : List Keyword).isEmpty then 0 else 1) < 30)) = true := by rfl)
    (hline : (apos.endLine == cpos.line) = true := by rfl) (hs : starEach [e] X.env = (false, eval e X.env) :: starEach [] X.env := by rfl) (hplain : (backTo cpos (starEach [] X.env)).any (·.1) = false := by rfl)
    (hsw : swapsWith (.Call (.Attribute (.Name x p) "append" apos) [e] [] cpos) none pos.line X.env = pure false := by rfl) : PDS G W X (.Expr (.Call (.Attribute (.Name x p) "append" apos) [e] [] cpos) pos) (sApp i fa) :=
  (ps_expr (pe_bm PySem.F.plainAttrs_list PySem.F.slot_list_append PySem.F.type_list_append mt_append ho ha hbase hfew hline hs hplain) hsw).imp fun N σ H q => app_of q
/-- x += e of ints -/
def sAug (i : Nat) (o : Int → Int → Int) (f : DE) : DStm := fun s => match s.sl[i]? with
  | some (.val (.int a)) => (f s).bind fun d s1 => match d with
    | .int b => .ok .nx ⟨s1.sl.set i (.val (.int (o a b))), s1.st⟩
    | _ => .stuck
  | _ => .stuck
theorem pds_aug {i : Nat} {x : Str} {e : Expr} {f : DE} {op : Operator} {o : Int → Int → Int} {pos pos' : Pos} (hN : X.N.Nodup) (hi : X.N[i]? = some x) (hx : Loc X.env.scope x) (he : PD G W X e f) (ho : PIp X op (ipI o))
    (hf : X.fn x = true ∨ X.env.scope.names.lookup x = some .local := by first | exact .inl rfl | exact .inr rfl | assumption) : PDS G W X (.AugAssign (.Name x pos') op e pos) (sAug i o f) :=
  (ps_aug hN hi hx he ho hf).imp fun N σ H ⟨κ, w, s, ok, q⟩ => by
    unfold sAug at q
    cases e : s.sl[i]? with
    | none => rw [e] at q; exact q.elim
    | some y =>
      rw [e] at q
      cases y with
      | val d =>
        cases d with
        | int a =>
          obtain ⟨v, h1, h2⟩ := ok.val i _ e
          cases h2
          refine ⟨.int a, h1, κ, w, s, ok, (PostG.bindS q).imp fun v H1 ⟨d, s1, w1, le, ok1, r1, q1⟩ => ?_⟩
          cases r1 with
          | int b => exact ⟨a, b, rfl, rfl, q1 w1 _ H1 (.refl _) (ok1.setVal (.int _) i)⟩
          | _ => exact q1.elim
        | _ => exact q.elim
      | _ => exact q.elim
/-- a < b < c -/
def eChain (o o' : D → D → Option D) (fa fb fc : DE) : DE := fun s => (fa s).bind fun x s1 => (fb s1).bind fun y s2 => match o x y with
  | some (.bl true) => (fc s2).bind fun z s3 => match o' y z with
    | some d => .ok d s3
    | none => .stuck
  | some (.bl false) => .ok (.bl false) s2
  | _ => .stuck
theorem op2b {r : R2} {o : D → D → Option D} (hr : ∀ (κ : Bs) (w : Wd) (s : DS) (σ : L2.St) (H : Hp) (x y : V) (dx dy d : D) (Q : VK), Ok G κ w s σ H → Rep G w x dx → Rep G w y dy → o dx dy = some d → (∀ w' v H', w.le w' → Ok G κ w' s σ H' → Rep G w' v d → Q v H') → r x y H Q) :
    ∀ (κ : Bs) (w : Wd) (s : DS) (σ : L2.St) (H : Hp) (x y : V) (dx dy d : D) (Q : VK), Ok G κ w s σ H → Rep G w x dx → Rep G w y dy → o dx dy = some d → (∀ w' v H', w.le w' → Ok G κ w' s σ H' → Rep G w' v d → Q v H') → r x y H Q := hr
theorem pd_chain {op op' : CmpOp} {o o' : D → D → Option D} {a b c : Expr} {fa fb fc : DE} {pos : Pos} (ho : OpD G X (compareOp op) o) (ho' : OpD G X (compareOp op') o') (ha : PD G W X a fa) (hb : PD G W X b fb) (hc : PD G W X c fc)
    (hp : ∀ {r r' : R2} {ta tb tc : TE}, OpR X (compareOp op) r → OpR X (compareOp op') r' → PE X a ta → PE X b tb → PE X c tc → PE X (.Compare a [op, op'] [b, c] pos) (tChain r r' ta tb tc)) : PD G W X (.Compare a [op, op'] [b, c] pos) (eChain o o' fa fb fc) := by
  obtain ⟨r, h1, h2⟩ := ho
  obtain ⟨r', h1', h2'⟩ := ho'
  refine (hp h1 h1' ha hb hc).imp fun σ H Q ⟨κ, w, s, ok, q⟩ => ⟨κ, w, s, ok, (PostG.bind q).imp fun v H1 ⟨d, s1, w1, le, ok1, r1, q1⟩ => ⟨κ, w1, s1, ok1, (PostG.bind q1).imp fun v2 H2 ⟨d2, s2, w2, le2, ok2, r2, q2⟩ => ?_⟩⟩
  cases e : o d d2 with
  | none => rw [e] at q2; exact q2.elim
  | some z =>
    rw [e] at q2
    refine h2 κ w2 s2 σ H2 v v2 d d2 z _ ok2 (r1.mono le2) r2 e fun w3 v3 H3 l3 o3 r3 => ?_
    cases r3 with
    | bl k =>
      refine ⟨k, rfl, ?_⟩
      cases k with
      | false => exact q2 w3 _ H3 l3 o3 (.bl false)
      | true =>
        refine ⟨κ, w3, s2, o3, (PostG.bind (PostG.mono l3 q2)).imp fun v4 H4 ⟨d4, s4, w4, le4, ok4, r4, q4⟩ => ?_⟩
        cases e' : o' d2 d4 with
        | none => rw [e'] at q4; exact q4.elim
        | some z' => rw [e'] at q4; exact h2' κ w4 s4 σ H4 v2 v4 d2 d4 z' Q ok4 ((r2.mono l3).mono le4) r4 e' q4
    | _ => exact q2.elim
end
end DL
set_option maxRecDepth 100000
set_option maxHeartbeats 4000000
set_option autoImplicit false
namespace DL
open PySem PySem.Spec PyProof.Rows L2
section
variable {G : Gam} {W : WX} {X : Cx}
/-! ### a for over a list, a tuple, a text -/
theorem pi_any {tg l : Expr} {tl : TE} (hl : PE X l tl) : PI X tg l (fun σ H R => tl σ H fun x H1 => (∃ a, x = .ref a ∧ (∃ xs, SqL X.K H1 a xs) ∧ R (Itl X.K a) H1) ∨ (∃ a, x = .ref a ∧ (∃ xs, SqT X.K H1 a xs) ∧ R (Itt X.K a) H1) ∨ ∃ y, x = .str y ∧ R (Its y) H1) := by
  refine ⟨fun pins s σ H R I h => ?_⟩
  refine thn (hl.run pins s σ H _ I h) fun v s1 ⟨x, H1, I1, r1, q1⟩ => ?_
  rcases q1 with ⟨a, e, ⟨xs, hq⟩, q⟩ | ⟨a, e, ⟨xs, hq⟩, q⟩ | ⟨y, e, q⟩
  · subst e
    cases r1
    obtain ⟨its, rv, p, hz⟩ := I1.list hq
    refine wpAny_pyIter_list p.isList ?_
    refine ⟨s1.heap.objs.size, [s1.heap.objs.size], _, _, H1, rfl, I1.kept (t' := s1.toks) fun b o e => Heap.get?_push_of_some _ e, turn_list a _, ⟨_, Heap.get?_push_size _ rfl, rfl, rfl⟩, fun b hb => ?_, q⟩
    have e : b = s1.heap.objs.size := by simpa using hb
    subst e
    exact I1.fpOk (Nat.le_refl _) (I1.hok.fresh (Nat.le_refl _))
  · subst e
    cases r1
    obtain ⟨its, rv, p, hz⟩ := I1.tuple hq
    refine wpAny_pyIter_tuple (show s1.heap.IsTuple a its.toArray from p) ?_
    refine ⟨s1.heap.objs.size, [s1.heap.objs.size], _, _, H1, rfl, I1.kept (t' := s1.toks) fun b o e => Heap.get?_push_of_some _ e, turn_tuple a _, ⟨_, Heap.get?_push_size _ rfl, rfl, rfl⟩, fun b hb => ?_, q⟩
    have e : b = s1.heap.objs.size := by simpa using hb
    subst e
    exact I1.fpOk (Nat.le_refl _) (I1.hok.fresh (Nat.le_refl _))
  · subst e
    obtain ⟨t, rfl⟩ := r1
    cases ha : y.cps.all (· < 128)
    · exact wpAny_pyIter_wide ha (pi_one (tk := s1.toks) I1 _ (turn_str _ y t "str_iterator" (.inr rfl)) ⟨_, Heap.get?_push_size _ rfl, rfl, rfl⟩ q)
    · exact wpAny_pyIter_ascii ha (pi_one (tk := s1.toks) I1 _ (turn_str _ y t "str_ascii_iterator" (.inl rfl)) ⟨_, Heap.get?_push_size _ rfl, rfl, rfl⟩ q)
theorem itOk_str {w : Wd} (l : Nm) : ItOk G w (Its (nm l)) (l.map fun c => D.str [c]) := by
  intro w1 S H le fok i
  refine ⟨fun d hd => ?_, fun hn => ?_⟩
  · rw [List.getElem?_map] at hd
    cases e : l[i]? with
    | none => rw [e] at hd; cases hd
    | some c =>
      rw [e] at hd
      cases hd
      have hc : (nm l).cps[i]? = some c := by simpa [nm] using e
      refine ⟨?_, fun x H' hy => ?_⟩
      · show i < (nm l).cps.size
        exact (Array.getElem?_eq_some_iff.mp hc).1
      · obtain ⟨hH, c', hc', hx⟩ := hy
        rw [hc] at hc'
        cases hc'
        subst hH
        subst hx
        exact ⟨w1, .refl _ _, fok, .str [c]⟩
  · show (nm l).cps.size ≤ i
    rw [List.getElem?_map] at hn
    cases e : l[i]? with
    | some c => rw [e] at hn; cases hn
    | none =>
      have := List.getElem?_eq_none_iff.mp e
      simpa [nm] using this
def itemsD (d : D) : Option (List D) := match d with
  | .lst xs => some xs
  | .scr xs => some xs
  | .tup xs => some xs
  | .str l => some (l.map fun c => .str [c])
  | _ => none
def itSeq (f : DE) : DA := fun s => (f s).bind fun d s1 => match itemsD d with
  | some xs => .ok xs s1
  | none => .stuck
theorem pdi_seq (hK : G.K = X.K) {tg e : Expr} {f : DE} (h : PD G W X e f) : PDI G W X tg e (itSeq f) :=
  (pi_any h).imp fun σ H R ⟨κ, w, s, ok, q⟩ => ⟨κ, w, s, ok, (PostG.bindI q).imp fun v H1 ⟨d, s1, w1, le, ok1, r1, q1⟩ => by
    cases r1 with
    | @lst a vs ds e r =>
      have e' : SqL G.K w1.F a vs := .inl (.inl e)
      exact .inl ⟨a, rfl, ⟨vs, hK ▸ SqL.le e' ok1.fok.sub⟩, q1 w1 _ H1 (.refl _) ok1 (itOk_list hK e' (fun _ _ _ _ _ => trivial) r fun _ _ => trivial)⟩
    | @scr a vs ds e r =>
      exact .inl ⟨a, rfl, ⟨vs, hK ▸ SqL.le e ok1.fok.sub⟩, q1 w1 _ H1 (.refl _) ok1 (itOk_list hK e (fun _ _ _ _ _ => trivial) r fun _ _ => trivial)⟩
    | @tup a vs ds e r => exact .inr (.inl ⟨a, rfl, ⟨vs, hK ▸ SqT.le e ok1.fok.sub⟩, q1 w1 _ H1 (.refl _) ok1 (itOk_tup hK e r)⟩)
    | str l => exact .inr (.inr ⟨nm l, rfl, q1 w1 _ H1 (.refl _) ok1 (itOk_str l)⟩)
    | _ => exact q1.elim⟩
/-! ### + and * in all -/
def lAdd : D → D → Option D := fun x y => match x, y with
  | .lst a, .lst b => if a.length + b.length ≤ 1000000 then some (.lst (a ++ b)) else none
  | _, _ => none
theorem opd_ladd : OpD G X (binaryOp .Add) lAdd := ⟨_, op_cat, fun κ w s σ H x y dx dy d Q ok rx ry e q => by
  cases rx with
  | @lst a vs ds e1 r1 =>
    cases ry with
    | @lst a2 vs2 ds2 e2 r2 =>
      have e : (if ds.length + ds2.length ≤ 1000000 then some (D.lst (ds ++ ds2)) else none) = some d := e
      split at e
      · cases e
        refine ⟨a, a2, vs, vs2, rfl, rfl, ok.fok.sub _ _ e1, ok.fok.sub _ _ e2, by rw [r1.length, r2.length, sizeLine_eq]; omega, fun p hp => ?_⟩
        obtain ⟨le2, ok2⟩ := ok.alloc hp (.lst (vs ++ vs2))
        exact q _ _ _ le2 ok2 (.lst upd_same ((r1.append r2).mono le2))
      · cases e
    | _ => exact nomatch e
  | _ => exact nomatch e⟩
def lMul : D → D → Option D := fun x y => match x, y with
  | .lst a, .int k => if -(2 ^ 63) ≤ k ∧ k < 2 ^ 63 ∧ a.length * k.toNat ≤ 1000000 then some (.lst (List.replicate k.toNat a).flatten) else none
  | _, _ => none
theorem opd_lmul : OpD G X (binaryOp .Mult) lMul := ⟨_, op_rep, fun κ w s σ H x y dx dy d Q ok rx ry e q => by
  cases rx with
  | @lst a vs ds e1 r1 =>
    cases ry with
    | int k =>
      have e : (if -(2 ^ 63) ≤ k ∧ k < 2 ^ 63 ∧ ds.length * k.toNat ≤ 1000000 then some (D.lst (List.replicate k.toNat ds).flatten) else none) = some d := e
      split at e
      · rename_i c
        cases e
        refine ⟨a, k, vs, rfl, rfl, ok.fok.sub _ _ e1, c.1, c.2.1, by rw [r1.length, sizeLine_eq]; omega, fun p hp => ?_⟩
        obtain ⟨le2, ok2⟩ := ok.alloc hp (.lst (List.replicate k.toNat vs).flatten)
        exact q _ _ _ le2 ok2 (.lst upd_same ((r1.rep _).mono le2))
      · cases e
    | _ => exact nomatch e
  | _ => exact nomatch e⟩
theorem OpD.or {f : Value → Value → Sem Value} {o o' : D → D → Option D} (h : OpD G X f o) (h' : OpD G X f o') : OpD G X f (fun x y => (o x y).orElse fun _ => o' x y) := by
  obtain ⟨r, h1, h2⟩ := h
  obtain ⟨r', h1', h2'⟩ := h'
  refine ⟨_, h1.or h1', fun κ w s σ H x y dx dy d Q ok rx ry e q => ?_⟩
  have e : ((o dx dy).orElse fun _ => o' dx dy) = some d := e
  cases e1 : o dx dy with
  | some z => rw [e1] at e; cases e; exact .inl (h2 κ w s σ H x y dx dy _ Q ok rx ry e1 q)
  | none => rw [e1] at e; exact .inr (h2' κ w s σ H x y dx dy d Q ok rx ry e q)
def dAdd : D → D → Option D := fun x y => match x, y with
  | .int i, .int j => some (.int (i + j))
  | x, y => (sAdd x y).orElse fun _ => lAdd x y
theorem OpD.congr {f : Value → Value → Sem Value} {o o' : D → D → Option D} (h : OpD G X f o) (e : ∀ x y, o' x y = o x y) : OpD G X f o' := by
  have : o' = o := by funext x y; exact e x y
  rw [this]; exact h
theorem opd_addA (hK : G.K = X.K) : OpD G X (binaryOp .Add) dAdd := (opd_add.or ((opd_sadd hK).or opd_ladd)).congr fun x y => by
  cases x <;> cases y <;> rfl
def dMul : D → D → Option D := fun x y => match x, y with
  | .int i, .int j => if mulOk i j then some (.int (i * j)) else none
  | x, y => lMul x y
theorem opd_mulA : OpD G X (binaryOp .Mult) dMul := (opd_mul.or opd_lmul).congr fun x y => by
  cases x <;> cases y <;> first
    | rfl
    | (rename_i i j
       show (if mulOk i j then some (D.int (i * j)) else none) = ((if mulOk i j then some (D.int (i * j)) else none).orElse fun _ => lMul (.int i) (.int j))
       split <;> rfl)
/-! ### a, b, c = x, y, z -/
def sPar3 (i j l : Nat) (f : DA) : DStm := fun s => (f s).bind fun ds s1 => match ds with
  | [x, y, z] => .ok .nx ⟨((s1.sl.set i (.val x)).set j (.val y)).set l (.val z), s1.st⟩
  | _ => .stuck
theorem pds_par3 {i j l : Nat} {x y z : Str} {a b c : Expr} {f : DA} {px py pz pt pos : Pos} {kt k2 : Nat} {pt2 : Pos} (hc : X.calm = true) (hN : X.N.Nodup) (hi : X.N[i]? = some x) (hj : X.N[j]? = some y) (hl : X.N[l]? = some z) (hij : i ≠ j) (hil : i ≠ l) (hjl : j ≠ l)
    (hx : X.env.scope.names.lookup x = some .local) (hy : X.env.scope.names.lookup y = some .local) (hz : X.env.scope.names.lookup z = some .local) (ha : PDA G W X [a, b, c] f)
    (hw : swappedStores [.Tuple [.Name x px, .Name y py, .Name z pz] kt pt] (.Tuple [a, b, c] k2 pt2) X.env = pure (some [x, y, z]))
    (hs : swapsWithSole [.Tuple [.Name x px, .Name y py, .Name z pz] kt pt] (.Tuple [a, b, c] k2 pt2) pos.line X.env = pure false := by rfl) :
    PDS G W X (.Assign [.Tuple [.Name x px, .Name y py, .Name z pz] kt pt] (.Tuple [a, b, c] k2 pt2) pos) (sPar3 i j l f) :=
  (ps_par3 hc hN hi hj hl hij hil hjl hx hy hz ha hw hs).imp fun N σ H ⟨κ, w, s, ok, q⟩ => ⟨κ, w, s, ok, (PostG.bindS q).imp fun v H1 ⟨d, s1, w1, le, ok1, r1, q1⟩ => by
    match d, q1, r1 with
    | [x, y, z], q1, .cons a (.cons b (.cons c .nil)) => exact ⟨_, _, _, rfl, q1 w1 _ H1 (.refl _) (((ok1.setVal a i).setVal b j).setVal c l)⟩
    | [], q1, _ => exact q1.elim
    | [_], q1, _ => exact q1.elim
    | [_, _], q1, _ => exact q1.elim
    | _ :: _ :: _ :: _ :: _, q1, _ => exact q1.elim⟩
/-! ### types as values -/
theorem pd_bltn {x : Str} {n : String} {pos : Pos} (hg : Gl X x) (hm : X.mg x = none) (hv : bootBuiltins x = some (.type n)) (hn : x ≠ "__name__" := by decide) (hd : (x == ("__debug__" : Str)) = false := by decide) : PD G W X (.Name x pos) (eC (.ty n)) :=
  pd_c (pe_bltn (v := .ty n) hg hm hv rfl hn hd) fun _ => .ty n
theorem pd_cls {x : Str} {c : String} {C : Addr} {pos : Pos} (hg : Gl X x) (hm : X.mg x = some (.ref C)) (hC : G.ct c = some C) (hd : (x == ("__debug__" : Str)) = false := by decide) : PD G W X (.Name x pos) (eC (.cls c)) :=
  pd_c (pe_glob (v := .ref C) hg hm rfl hd) fun _ => .cls hC
/-! ### slices of tuples and texts, xs[::-1] -/
def eSlT (f : DE) (l h : DOp) : DE := fun s => (f s).bind fun d s1 => (l s1).bind fun lo s2 => (h s2).bind fun hi s3 => match d with
  | .tup xs => if (cutD xs lo hi).length ≠ xs.length then .ok (.tup (cutD xs lo hi)) s3 else .stuck
  | _ => .stuck
theorem cut_len {w : Wd} {vs : List V} {ds : List D} (r : Reps G w vs ds) (lo hi : Option Int) : (cutV vs lo hi).length = (cutD ds lo hi).length := (r.cut lo hi).length
theorem pd_slT (hK : G.K = X.K) {e : Expr} {lo hi : Option Expr} {f : DE} {l h : DOp} {p2 pos : Pos} (he : PD G W X e f) (hl : PO X lo (tDO G W l)) (hh : PO X hi (tDO G W h)) : PD G W X (.Subscript e (.Slice lo hi none p2) pos) (eSlT f l h) :=
  (pe_slice sl_tup he hl hh).imp fun σ H Q ⟨κ, w, s, ok, q⟩ => ⟨κ, w, s, ok, (PostG.bind q).imp fun v H1 ⟨d, s1, w1, le, ok1, r1, q1⟩ => ⟨κ, w1, s1, ok1, (PostG.bind q1).imp fun v2 H2 ⟨d2, s2, w2, le2, ok2, r2, q2⟩ =>
    ⟨κ, w2, s2, ok2, (PostG.bind q2).imp fun v3 H3 ⟨d3, s3, w3, le3, ok3, r3, q3⟩ => by
      subst r2
      subst r3
      cases r1 with
      | @tup a vs ds e r =>
        replace q3 : PostG G W (Rep G) κ w3 σ (if (cutD ds v2 v3).length ≠ ds.length then .ok (.tup (cutD ds v2 v3)) s3 else .stuck) Q := q3
        split at q3
        · rename_i c
          have rr := (r.mono le2).mono le3
          refine ⟨a, vs, rfl, hK ▸ SqT.le (SqT.le (SqT.le e le2.f) le3.f) ok3.fok.sub, ?_, fun p hp => ?_⟩
          · intro z
            apply c
            rw [← cut_len rr, ← rr.length]
            unfold cutV
            rw [z.1, z.2]
            simp
          · obtain ⟨le4, ok4⟩ := ok3.alloc hp (.tup (cutV vs v2 v3))
            exact q3 _ _ _ le4 ok4 (.tup (.inl (.inl upd_same)) ((rr.cut v2 v3).mono le4))
        · exact q3.elim
      | _ => exact q3.elim⟩⟩⟩
/-- a slice of a list or of a tuple -/
def slD (d : D) (lo hi : Option Int) : Option D := match d with
  | .lst xs => some (.lst (cutD xs lo hi))
  | .scr xs => some (.lst (cutD xs lo hi))
  | .tup xs => if (cutD xs lo hi).length ≠ xs.length then some (.tup (cutD xs lo hi)) else none
  | _ => none
def eSlA (f : DE) (l h : DOp) : DE := fun s => (f s).bind fun d s1 => (l s1).bind fun lo s2 => (h s2).bind fun hi s3 => match slD d lo hi with
  | some x => .ok x s3
  | none => .stuck
theorem pd_slA (hK : G.K = X.K) {e : Expr} {lo hi : Option Expr} {f : DE} {l h : DOp} {p2 pos : Pos} (he : PD G W X e f) (hl : PO X lo (tDO G W l)) (hh : PO X hi (tDO G W h)) : PD G W X (.Subscript e (.Slice lo hi none p2) pos) (eSlA f l h) :=
  (pe_slice (sl_list.or sl_tup) he hl hh).imp fun σ H Q ⟨κ, w, s, ok, q⟩ => ⟨κ, w, s, ok, (PostG.bind q).imp fun v H1 ⟨d, s1, w1, le, ok1, r1, q1⟩ => ⟨κ, w1, s1, ok1, (PostG.bind q1).imp fun v2 H2 ⟨d2, s2, w2, le2, ok2, r2, q2⟩ =>
    ⟨κ, w2, s2, ok2, (PostG.bind q2).imp fun v3 H3 ⟨d3, s3, w3, le3, ok3, r3, q3⟩ => by
      subst r2
      subst r3
      cases r1 with
      | @lst a vs ds e r =>
        have e := le3.f _ _ (le2.f _ _ e)
        refine .inl ⟨a, vs, rfl, .inl (.inl (ok3.fok.sub _ _ e)), fun p hp => ?_⟩
        obtain ⟨le4, ok4⟩ := ok3.alloc hp (.lst (cutV vs v2 v3))
        exact q3 _ _ _ le4 ok4 (.lst upd_same ((((r.mono le2).mono le3).cut v2 v3).mono le4))
      | @scr a vs ds e r =>
        refine .inl ⟨a, vs, rfl, hK ▸ SqL.le (SqL.le (SqL.le e le2.f) le3.f) ok3.fok.sub, fun p hp => ?_⟩
        obtain ⟨le4, ok4⟩ := ok3.alloc hp (.lst (cutV vs v2 v3))
        exact q3 _ _ _ le4 ok4 (.lst upd_same ((((r.mono le2).mono le3).cut v2 v3).mono le4))
      | @tup a vs ds e r =>
        right
        have rr := (r.mono le2).mono le3
        cases e4 : slD (.tup ds) v2 v3 with
        | none => rw [e4] at q3; exact q3.elim
        | some x =>
          rw [e4] at q3
          have e4 : (if (cutD ds v2 v3).length ≠ ds.length then some (D.tup (cutD ds v2 v3)) else none) = some x := e4
          split at e4
          · rename_i c
            cases e4
            refine ⟨a, vs, rfl, hK ▸ SqT.le (SqT.le (SqT.le e le2.f) le3.f) ok3.fok.sub, ?_, fun p hp => ?_⟩
            · intro z
              apply c
              rw [← cut_len rr, ← rr.length]
              unfold cutV
              rw [z.1, z.2]
              simp
            · obtain ⟨le4, ok4⟩ := ok3.alloc hp (.tup (cutV vs v2 v3))
              exact q3 _ _ _ le4 ok4 (.tup (.inl (.inl upd_same)) ((rr.cut v2 v3).mono le4))
          · cases e4
      | _ => exact q3.elim⟩⟩⟩
/-- xs[::-1] of a list: a new list -/
def aRev (f : DE) : DA := fun s => (f s).bind fun d s1 => match d with
  | .lst xs => .ok xs.reverse s1
  | .scr xs => .ok xs.reverse s1
  | _ => .stuck
theorem Reps.reverse {w : Wd} : ∀ {vs : List V} {ds : List D}, Reps G w vs ds → Reps G w vs.reverse ds.reverse
  | _, _, .nil => .nil
  | _, _, .cons a b => by
    rw [List.reverse_cons, List.reverse_cons]
    exact (Reps.reverse b).append (.cons a .nil)
theorem pdo_rev (hK : G.K = X.K) {e : Expr} {f : DE} {k : Nat} {p1 p2 p3 pos : Pos} (he : PD G W X e f) : PDo G W X (.Subscript e (.Slice none none (some (.UnaryOp .USub (.Constant (.int 1) k p1) p2)) p3) pos) (aRev f) :=
  (pe_revL he).imp fun σ H Q ⟨κ, w, s, ok, q⟩ => ⟨κ, w, s, ok, (PostG.bindO q).imp fun v H1 ⟨d, s1, w1, le, ok1, r1, q1⟩ => by
    cases r1 with
    | @lst a vs ds e r => exact ⟨a, vs, rfl, .inl (.inl (ok1.fok.sub _ _ e)), fun p hp => q1 w1 p _ _ (.refl _) (ok1.fresh hp _) (ok1.apart hp) r.reverse⟩
    | @scr a vs ds e r => exact ⟨a, vs, rfl, hK ▸ SqL.le e ok1.fok.sub, fun p hp => q1 w1 p _ _ (.refl _) (ok1.fresh hp _) (ok1.apart hp) r.reverse⟩
    | _ => exact q1.elim⟩
/-! ### the law's end -/
def spLaw (K : PySem.W.Frag) : Sp := fun vs H Q _ => ∃ (a : Addr) (ns : List Int), vs = [.ref a] ∧ SqL K H a (ns.map V.int) ∧ ns.length ≤ 63 ∧ ∀ H', Q (.bl true) H'
theorem law_end {P : Program} {w0 : World} {mg : Str → Option Value} {base : Heap} {k : Nat} {f : Addr} {fd : FuncData} {ps : List Str} {g : DFn} (F : FnOk P w0 G.K mg base (L2.CX P w0) k f fd ps (spG G 1 g))
    (h : ∀ ns : List Int, ns.length ≤ 63 → ∃ S, g [.scr (ns.map D.int)] [] = .ok (.bl true) S) : FnOk P w0 G.K mg base (L2.CX P w0) k f fd ps (spLaw G.K) :=
  F.imp fun vs H Q E ⟨a, ns, e, hS, hl, q⟩ => by
    obtain ⟨S, hg⟩ := h ns hl
    subst e
    refine ⟨rfl, ⟨H, []⟩, [], [.scr (ns.map D.int)], ⟨fun _ _ e => e, rfl, fun n a c e => by simp at e, List.nodup_nil, fun a ha => by simp at ha⟩, .cons (.scr hS (Reps.of_ints ns)) .nil, ?_⟩
    rw [hg]
    intro w' v H' nx f r
    cases r
    exact q H'
theorem noCX {P : Program} {w : World} : ∀ (H : Hp) (s : Shared) (e : Value) (s' : Shared), L2.CX P w [] H s (fun _ _ _ => False) e s' → False := fun H s e s' h => by
  obtain ⟨_, _, _, _, _, _, _, _, _, _, _, _, z⟩ := h
  exact z
end
end DL
set_option maxRecDepth 100000
set_option maxHeartbeats 4000000
set_option autoImplicit false
namespace DL
open PySem PySem.Spec PyProof.Rows L2
section
variable {G : Gam} {W : WX} {X : Cx}
theorem callD1 {k : Nat} {f : Addr} {fd : FuncData} {ps : List Str} {n : Nat} {g : DFn} {pins : List (Addr × Obj)} {sh : Shared} {κ : Bs} {w : Wd} {s : DS} {σ : L2.St} {H : Hp} {vs : List V} {ds : List D} {us : List Value} {Q : VK}
    (F : FnOk X.prog X.w X.K X.mg X.base (L2.CX X.prog X.w) k f fd ps (spG G n g)) (hr : Room (k + 1) X.A) (hb : Binds X.K fd ps []) (tk : Takes X W) (I : Inv X pins σ H sh) (ok : Ok G κ w s σ H) (rs : Reps G w vs ds) (r : Vals vs us) (hn : ds.length = n)
    (q : PostG G W (Rep G) κ w σ (lift s (g ds s.st)) Q) : wpAny (model X.prog X.w) X.A.in1 (call (.ref f) us) (EP X pins σ Q) X.xe sh := by
  have h : spG G n g vs H Q (WE W σ) := ⟨by rw [rs.length]; exact hn, w, s.st, ds, ok.fok, rs, postF_of ok q⟩
  have hl : us.length = ps.length := by rw [← r.length]; exact F.len _ _ _ _ h
  have hbb := hb sh us I.kIn (by rw [List.append_nil]; exact hl)
  rw [List.append_nil] at hbb
  refine wpAny_call (codeAny_mono (F.run X.A.in1 X.stack sh H ⟨us, []⟩ us vs Q (WE W σ) hr.in1 I.env0.in1 hbb r h) fun r s' hq => ?_)
  cases r with
  | error e => exact passAt tk σ pins H sh e s' I hq
  | ok fl =>
    cases fl with
    | ret u => exact I.after hq
    | next => exact False.elim hq
    | brk => exact False.elim hq
    | cont => exact False.elim hq
/-- a built-in special method of an instance of an own class -/
theorem ifBound_B {M : Model} {A : Around} {E : Value → Shared → Prop} {s : Shared} {K : PySem.W.Frag} {x C : Addr} {ox : Obj} {od : Option Obj} {name : Str} {id : String} {args : List Value} {Q : Option Value → Shared → Prop} (Xk : K.In s.heap) (I : PySem.W.InstAt s.heap x ox C od)
    (hs : PySem.W.findIn K (.ref C) name = some (some (.builtin id))) (hb : ∀ self, bindSpecial (.builtin id) self = pure (.builtin id, [self]))
    (h : wpAny M A (call (.builtin id) (.ref x :: args)) (fun v => Q (some v)) E s) : wpAny M A (callSpecialIfBound? (.ref x) name args) Q E s := by
  simp only [callSpecialIfBound?, bindSpecialIfBound?]
  refine wpAny_holding (wpAny_bind (wpAny_bind (wpAny_bind (I.type.here ((PySem.W.looks_findIn Xk hs).here ?_)))))
  refine wpAny_bind (wpAny_askSetting (wpAny_ite ?_))
  have fin : wpAny M A (call (.builtin id) ([.ref x] ++ args) >>= fun v => pure (some v)) Q E s := wpAny_bind (wpAny_mono h (fun v s' h' => wpAny_pure h') fun _ _ h' => h')
  simp only [hb]
  split
  · exact wpAny_bind (wpAny_pure (wpAny_pure (by exact fin)))
  · exact wpAny_tryCatch (wpAny_bind (wpAny_pure (wpAny_pure (by exact fin))))
theorem ne_call {prog : Program} {w : World} {A : Around} {E : Value → Shared → Prop} {s : Shared} {K : PySem.W.Frag} {a C b : Addr} {ox : Obj} {od : Option Obj} {Q : Value → Shared → Prop} (Xk : K.In s.heap) (I : PySem.W.InstAt s.heap a ox C od) (hm : PySem.W.mroIn K C (.type "object") = some true)
    (h : wpAny (model prog w) A.in1 (callSpecialIfBound? (.ref a) "__eq__" [.ref b]) (fun r s' => ∃ b, r = some (.bool b) ∧ Q (.bool (!b)) s') E s) (hu : A.in1.units < cLine) : wpAny (model prog w) A (call (.builtin "object.__ne__") [.ref a, .ref b]) Q E s := by
  have L0 := I.type (M := model prog w)
  have L1 := PySem.W.looks_mroIn (M := model prog w) Xk hm
  refine wpAny_call (codeAny_call_builtin PySem.F.cmp_object.ne.plain PySem.F.cmpEntry_ne ?_)
  obtain ⟨hh, g, dr, t, os⟩ := s
  have hk := PySem.F.cmpKind_ne
  have hs := PySem.F.cmpSplit_ne
  have ha := PySem.F.cmpArgs_ne (.ref a) (.ref b)
  have fin : wpAny (model prog w) A.in1 (Builtin.«object.__ne__» ⟨[.ref a, .ref b], []⟩) (fun fin s' => match fin with | .done f => (match (.ok f : Result) with | .ok (.ret v) => Q v s' | .ok _ => False | .error e => E e s') | .again c' => c'.quiet = true ∧ codeAny (model prog w) A c' (fun r s' => match r with | .ok (.ret v) => Q v s' | .ok _ => False | .error e => E e s') s') (fun e s' => E e s') ⟨hh, g, dr, t, os⟩ := by
    unfold Builtin.«object.__ne__»
    rw [show slotArgs "__ne__" 1 ⟨[.ref a, .ref b], []⟩ = pure (.ref a, [.ref b]) from rfl]
    refine wpAny_bind (wpAny_pure (wpAny_bind (wpAny_cRoomFor hu (wpAny_bind (wpAny_mono h (fun r s' hr => ?_) fun _ _ e => e)))))
    obtain ⟨b, rfl, q⟩ := hr
    exact wpAny_bind (wpAny_truthy_bool (wpAny_pure q))
  simp only [checkBuiltinCall, hk, hs]
  refine wpAny_bind ?_
  unfold isInstance
  repeat (first | exact fin | lk)
def negD (r : Res DS D) : Res DS D := match r with
  | .ok (.bl b) s => .ok (.bl (!b)) s
  | .exc x s => .exc x s
  | _ => .stuck
def ownNe (c : String) (g : DFn) : DO2 := fun x y s => negD (ownO c g x y s)
theorem negD_post {κ : Bs} {w : Wd} {σ : L2.St} {r : Res DS D} {Q : VK} (h : PostG G W (Rep G) κ w σ (negD r) Q) : PostG G W (Rep G) κ w σ r (fun v H => ∃ b, v = .bl b ∧ Q (.bl (!b)) H) := by
  cases r with
  | stuck => exact h
  | exc x s => exact h
  | ok d s =>
    cases d with
    | bl b =>
      intro w' v H' l o r
      cases r
      exact ⟨b, rfl, h w' _ H' l o (.bl _)⟩
    | _ => exact h.elim
theorem opx_ownNe {c : String} {C f : Addr} {k : Nat} {fd : FuncData} {ps : List Str} {g : DFn} (hC : G.ct c = some C) (hs : PySem.W.findIn X.K (.ref C) "__eq__" = some (some (.ref f))) (hf : PySem.W.isFn X.K (.ref f) = true)
    (hne : PySem.W.findIn X.K (.ref C) "__ne__" = some (some (.builtin "object.__ne__"))) (hob : PySem.W.mroIn X.K C (.type "object") = some true)
    (F : FnOk X.prog X.w X.K X.mg X.base (L2.CX X.prog X.w) k f fd ps (spG G 2 g)) (hr : Room (k + 1) X.A) (hb : Binds X.K fd ps []) (tk : Takes X W) : OpX G W X (compareOp .NotEq) (ownNe c g) := by
  intro pins sh σ H x y v u κ w s dx dy Q I rx ry ok rdx rdy q
  obtain ⟨a, b, C', dxa, dxb, fa, fb, rfl, rfl, hC', hH, hH', q⟩ := ownO_of ok rdx rdy (negD_post q)
  rw [hC] at hC'
  cases hC'
  cases rx
  cases ry
  obtain ⟨mA, J, _⟩ := ins_get I.hok hH
  obtain ⟨mB, J', _⟩ := ins_get I.hok hH'
  obtain ⟨od, J, _⟩ := J.look
  obtain ⟨od', J', _⟩ := J'.look
  have KX := I.kIn
  show wpAny (model X.prog X.w) X.A (richCompare .NotEq (.ref a) (.ref b)) _ _ _
  -- object.__ne__: __eq__, turned
  have one : wpAny (model X.prog X.w) X.A (tryCompare (.ref a) "__ne__" (.ref b)) (fun r s' => ∃ v, r = some v ∧ EP X pins σ Q v s') X.xe sh := by
    unfold tryCompare
    refine wpAny_bind (ifBound_B KX J hne PySem.F.cmp_object.ne.bind ?_)
    refine wpAny_mono (ne_call (Q := fun v s' => ∃ b, v = .bool b ∧ EP X pins σ Q v s') KX J hob ?_ hr.in1.units0) (fun v s' h => ?_) fun _ _ e => e
    case refine_1 =>
      have hc := callD1 (us := [.ref a, .ref b]) (vs := [.ref a, .ref b]) (ds := [dx, dy]) F hr hb tk I ok (.cons rdx (.cons rdy .nil)) (.cons rfl (.cons rfl .nil)) rfl q
      refine PySem.W.ifBound_K KX J hs hf (wpAny_mono hc (fun v s' h => ?_) fun _ _ e => e)
      obtain ⟨x, H', I', r, b, rfl, q'⟩ := h
      cases r
      exact ⟨b, rfl, !b, rfl, .bl (!b), H', I', rfl, q'⟩
    case refine_2 =>
      obtain ⟨b, rfl, h⟩ := h
      exact wpAny_pure ⟨_, rfl, h⟩
  unfold richCompare
  simp only [oneThing_ref]
  refine wpAny_holding (wpAny_bind (wpAny_cRoomFor hr.units0 ?_))
  refine wpAny_bind (J.type.here (wpAny_bind (J'.type.here ?_)))
  rw [if_neg (by simp)]
  refine wpAny_bind (wpAny_pure ?_)
  simp only [Bool.false_eq_true, if_false]
  refine wpAny_bind (wpAny_mono one (fun r s' z => ?_) fun _ _ e => e)
  obtain ⟨v, rfl, hq⟩ := z
  exact wpAny_pure hq
end
end DL
set_option maxRecDepth 100000
set_option maxHeartbeats 4000000
set_option autoImplicit false
namespace DL
open PySem PySem.Spec PyProof.Rows L2
/-- all that is asked of a class, in one -/
def clsB (K : PySem.W.Frag) (C : Addr) (fs : List Str) : Bool :=
  PySem.W.plainGet K C Str.empty && (PySem.W.hasDictIn K C && (PySem.W.plainOver K C && (PySem.W.makesIn K C && (PySem.W.keepIn K (.ref C) && (PySem.W.selfFirst K C &&
    ((PySem.W.findIn K (.ref C) "__setattr__" == some (some (.builtin "object.__setattr__"))) && ((PySem.W.findIn K (.ref C) "__ne__" == some (some (.builtin "object.__ne__"))) && ((PySem.W.mroIn K C (.type "object") == some true) &&
    ((PySem.W.findIn K (.ref C) "__class__" == some (some (.builtin "object.__class__"))) && ((PySem.W.specialIn K (.builtin "object.__class__") "__get__" == some (some (.builtin "getset_descriptor.__get__"))) && ((PySem.W.takesIn K (.builtin "object.__class__") == some true) &&
    (fs.all (fun f => PySem.W.findIn K (.ref C) f == some none) && tyNames.all fun b => (PySem.W.kitOne K (.ref C) (.type b) == some false) && (PySem.W.kitOne K (.type b) (.ref C) == some false)))))))))))))
structure ClsF (K : PySem.W.Frag) (C : Addr) (fs : List Str) : Prop where
  cl : Cls K C
  makes : PySem.W.makesIn K C = true
  kp : PySem.W.keepIn K (.ref C) = true
  sf : PySem.W.selfFirst K C = true
  ne : PySem.W.findIn K (.ref C) "__ne__" = some (some (.builtin "object.__ne__"))
  mo : PySem.W.mroIn K C (.type "object") = some true
  i1 : PySem.W.findIn K (.ref C) "__class__" = some (some (.builtin "object.__class__"))
  i2 : PySem.W.specialIn K (.builtin "object.__class__") "__get__" = some (some (.builtin "getset_descriptor.__get__"))
  i3 : PySem.W.takesIn K (.builtin "object.__class__") = some true
  na : ∀ f ∈ fs, NoAttr K C f
  bo : ∀ b ∈ tyNames, PySem.W.kitOne K (.ref C) (.type b) = some false ∧ PySem.W.kitOne K (.type b) (.ref C) = some false
theorem clsF {K : PySem.W.Frag} {C : Addr} {fs : List Str} (h : clsB K C fs = true) : ClsF K C fs := by
  unfold clsB at h
  simp only [Bool.and_eq_true, beq_iff_eq, List.all_eq_true] at h
  obtain ⟨h1, h2, h3, h4, h5, h6, h7, h8, h9, h10, h11, h12, h13, h14⟩ := h
  exact ⟨⟨h1, h2, h3, h7⟩, h4, h5, h6, h8, h9, h10, h11, h12, fun f hf => h13 f hf, fun b hb => h14 b hb⟩
/-- the own classes apart from one another -/
theorem isOk_of {G : Gam} {cs : List String} (h1 : ∀ c ∈ cs, ∃ C fs, G.ct c = some C ∧ ClsF G.K C fs) (h2 : ∀ c ∈ cs, ∀ c' ∈ cs, ∀ C C', G.ct c = some C → G.ct c' = some C' → PySem.W.kitOne G.K (.ref C) (.ref C') = some (c == c')) : IsOk G cs := by
  refine ⟨fun c hc C hC => ?_, fun c hc C hC => ?_, h2⟩
  · obtain ⟨C', fs, e, f⟩ := h1 c hc
    rw [hC] at e
    cases e
    exact ⟨f.cl, f.i1, f.i2, f.i3, f.mo⟩
  · obtain ⟨C', fs, e, f⟩ := h1 c hc
    rw [hC] at e
    cases e
    exact f.bo
theorem kit_self {K : PySem.W.Frag} {C : Addr} : PySem.W.kitOne K (.ref C) (.ref C) = some true := by
  unfold PySem.W.kitOne
  rw [if_pos (by simp)]
end DL
set_option maxRecDepth 100000
set_option maxHeartbeats 4000000
set_option autoImplicit false
namespace DL
open PySem PySem.Spec PyProof.Rows L2
/-! ### an own error whose __init__ says super().__init__(x); self.f = x -/
section
variable {P : Program} {W0 : World} {Ar : Around} {Er : Value → Shared → Prop} {hp : Heap} {gs : Array GenState} {dr : Drawn} {tk : Nat} {osS : OsState}
theorem call_mwV {cn cq : Str} {C NN u e t0 : Addr} {b1 b2 sbs : List Value} {hdc abs : Bool} {sns : List Str} {cl : Option Bool} {dd : Option Addr} {j0 j1 j2 j3 j5 : Option Value} {rest : List Value} {Q : Value → Shared → Prop}
    (hC : hp.get? C = some (excClassObj cn cq C NN b1 b2 hdc sns sbs abs cl dd j0 j1 j2 j3 j5 "ValueError.__new__")) (he : hp.get? e = some (HandSPX.excO C t0)) (hu : hp.get? u = some (PySem.W.kxs_mw "ValueError.__init__" e)) (hrest : rest.length ≤ sizeLine)
    (hq : ∀ h' t1, (∀ b o, b ≠ e → hp.get? b = some o → h'.get? b = some o) → h'.get? e = some (HandSPX.excO C t1) → Q .none ⟨h', gs, dr, tk, osS⟩) :
    wpAny (model P W0) Ar (call (.ref u) rest) Q Er ⟨hp, gs, dr, tk, osS⟩ := by
  refine wpAny_call (codeAny_of_tree ?_)
  show wpAny _ Ar.in1 (callAny (.ref u) ⟨rest, []⟩) _ _ _
  simp only [callAny]
  refine wpAny_bind (wpAny_load hu ?_)
  simp only [PySem.W.kxs_mw, show (Value.type "method-wrapper" == Value.type "method" || Value.type "method-wrapper" == Value.type "builtin_function_or_method" || Value.type "method-wrapper" == Value.type "method-wrapper") = true by decide, if_true]
  refine PySem.W.KFB.if_so (by decide) ?_
  refine wpAny_bind (PySem.W.check_bound_init F.excBase_ValueError.toExcCallFacts hC he rfl ?_)
  refine wpAny_bind (wpAny_pure (wpAny_pure ?_))
  refine ⟨Code.quiet_builtin _ (by decide +kernel), codeAny_builtin F.excBase_ValueError.initEntry ?_⟩
  rw [Around.under_plainId F.excBase_ValueError.init.plain _]
  wp_walk
  refine hq _ hp.objs.size (fun b o hb ho => ?_) ?_
  · rw [Heap.get?_update_other _ _ (Ne.symm hb)]
    exact Heap.get?_push_of_some _ ho
  · rw [Heap.get?_update_self _ (Heap.get?_push_of_some _ he) rfl]
    rfl
end
theorem eval_si (x : Str) (env : Env) (p0 p1 p2 p3 p4 : Pos) (hp : (p2.endLine == p4.line) = true) : eval (.Call (.Attribute (.Call (.Name "super" p0) [] [] p1) "__init__" p2) [.Name x p3] [] p4) env = (do
      let ov ← attributeBase (.Call (.Name "super" p0) [] [] p1) "__init__" env (eval (.Call (.Name "super" p0) [] [] p1) env)
      standAt p2.atName
      let (f, first) ← holding [ov] (getMethod ov "__init__" (do return (← importBound (.Call (.Name "super" p0) [] [] p1) env).getD true))
      callWith p4 f first (backTo p4 (starEach [.Name x p3] env)) []) := by
  have h : ∀ fm, methodCallPos fm (.Call (.Name "super" p0) [] [] p1) env p2 p4 = pure p4 := fun fm => by
    unfold methodCallPos
    rw [hp]
    simp
  show (do
      let ov ← attributeBase (.Call (.Name "super" p0) [] [] p1) "__init__" env (eval (.Call (.Name "super" p0) [] [] p1) env)
      standAt p2.atName
      let (f, first) ← holding [ov] (calleeOf true (.Call (.Name "super" p0) [] [] p1) env ov "__init__")
      let callPos ← methodCallPos true (.Call (.Name "super" p0) [] [] p1) env p2 p4
      callWith callPos f first (backTo p4 (starEach [.Name x p3] env)) []) = _
  rw [h]
  rfl
def spX (C : Addr) (f : Str) : Sp := fun vs H Q _ => ∃ (a : Addr) (y : V), vs = [.ref a, y] ∧ H a = some (exo a C none) ∧ ∀ dx, H dx = none → dx ≠ a → Q .non (upd (upd H dx (exd dx [(f, y)])) a (exo a C (some dx)))
/-- what the text and the linked part say of such a def -/
structure XIn (P : Program) (K : PySem.W.Frag) (mg : Str → Option Value) (C fI : Addr) (fd : FuncData) (slf x f : Str) : Prop where
  ex : ∃ (oc doc pm dV kV ct ccl cl : Value) (od an cdd cld : Option Addr) (osl ccs csl : Array (Option Value)) (cda cc : Addr) (name qual file : Str) (params : Arguments) (scope : Scope) (vs : Array Value) (tf : Tok) (ar : Arg) (p0 p1 p2 p3 p4 p5 p6 p7 p8 p9 : Pos),
    fd = PySem.W.fnX name qual params [.Expr (.Call (.Attribute (.Call (.Name "super" p0) [] [] p1) "__init__" p2) [.Name x p3] [] p4) p5, .Assign [.Attribute (.Name slf p6) f p7] (.Name x p8) p9] scope [("__class__", cc)] dV kV doc pm an (.ref cda) ct ∧
    K.lookup fI = some ⟨oc, od, .func fd, osl⟩ ∧ PySem.W.codeIn K (.ref cda) qual = true ∧ (params.posonlyargs ++ params.args).head? = some ar ∧ ar.arg = slf ∧
    K.lookup cda = some ⟨ccl, cdd, .fields vs, ccs⟩ ∧ vs[2]? = some (.str file tf) ∧ ((P.main.file : Str) == file) = true ∧ K.lookup cc = some ⟨cl, cld, .cell (some (.ref C)), csl⟩ ∧
    scope.names.lookup ("super" : Str) = some .globalImplicit ∧ scope.names.lookup ("__class__" : Str) = some .free ∧ scope.names.lookup slf = some .local ∧ scope.names.lookup x = some .local ∧ (∀ z ∈ scope.names, z.2 ≠ .cell) ∧ scope.kind = .function ∧ scope.isCoroutine = false ∧ scope.isGenerator = false ∧ (p2.endLine == p4.line) = true
  top : (P.main.scope.names.lookup ("super" : Str)).isSome = false
  sup : mg "super" = none
  self : PySem.W.mroIn K C (.ref C) = some true
  al : PySem.W.ks_superIn K C C "__init__" = some (some (.builtin "ValueError.__init__"))
  ve : PySem.W.subIn K (.ref C) (.type "ValueError") = some true
  any : PySem.W.nsIn K cStatics "thirdparty.any" = some none
  cls : OexC K C
  no : PySem.W.findIn K (.ref C) f = some none
  ds : (slf == ("__debug__" : Str)) = false
  dx : (x == ("__debug__" : Str)) = false
  sx : slf ≠ x
theorem x_ok {P : Program} {w0 : World} {K : PySem.W.Frag} {mg : Str → Option Value} {base : Heap} {CX : CXT} {C fI : Addr} {fd : FuncData} {slf x f : Str} (T : XIn P K mg C fI fd slf x f) : FnOk P w0 K mg base CX 1 fI fd [slf, x] (spX C f) := by
  obtain ⟨⟨oc, doc, pm, dV, kV, ct, ccl, cl, od, an, cdd, cld, osl, ccs, csl, cda, cc, name, qual, file, params, scope, vs, tf, ar, p0, p1, p2, p3, p4, p5, p6, p7, p8, p9, efd, lk, hcd, har, hars, lcd, hvs, hfile, lcc, ksup, kcls, kslf, kx, kcell, kk, kco, kgen, kpos⟩, htop, hsup, hself, hal, hve, hany, hcls, hno, hds, hdx, hsx⟩ := T
  subst efd
  refine ⟨fun vs H Q E ⟨a, y, e, _⟩ => by rw [e]; rfl, fun A outer s H args us vs' Q E hr e0 hb hv hsp => ?_⟩
  obtain ⟨a, y, rfl, ea, hq⟩ := hsp
  cases hv with
  | @cons _ u0 _ ur ra rest =>
  cases rest with
  | @cons _ u _ ur2 ry rest =>
  cases rest
  obtain rfl : u0 = Value.ref a := ra
  have KX : K.In s.heap := e0.mod.kin.keeps fun b o e => (e0.bs b o e).1
  have lim : s.heap.NoLimit := e0.mod.nolimit.keeps fun b o e => (e0.bs b o e).1
  obtain ⟨t0, hea⟩ := exo_at e0.hok ea
  obtain ⟨cn, cq, NS, b1, b2, sns, sbs, abs, col, dd, j0, j1, j2, j3, j5, hC, hbm⟩ := hcls.cls
  have hcl : PySem.W.clsIn K C = some { name := cn, bases := b1, mro := .ref C :: b2, ns := NS, qualname := cq, hasDict := true, slotNames := sns, subclasses := sbs, abstract := abs, collection := col, hasDel := false } := by unfold PySem.W.clsIn; rw [hC] <;> rfl
  refine ks_codeAny_call_defAt (binds := [(slf, .ref a), (x, u)]) hr.depth (KX _ _ lk) rfl lim (PySem.W.codeRec_of KX hcd) rfl hb kcell (fun z hz => ?_) (fun h0 hns hk0 => ?_) kco kgen kk
  · rcases List.mem_cons.mp hz with rfl | hz
    · exact kslf
    · rcases List.mem_cons.mp hz with rfl | hz
      · exact kx
      · cases hz
  have X0 : K.In h0 := KX.keeps hk0
  have ns_s : (fun y => ([(slf, Value.ref a), (x, u)] : List (Str × Value)).reverse.lookup y) slf = some (.ref a) := by
    have : (slf == x) = false := by simpa using hsx
    simp [List.lookup, this]
  have ns_x : (fun y => ([(slf, Value.ref a), (x, u)] : List (Str × Value)).reverse.lookup y) x = some u := by simp [List.lookup]
  have hea0 := hk0 _ _ hea
  have oC : s.heap.get? C = some _ := KX _ _ hC
  have ne_aC : a ≠ C := fun z => by
    rw [z, oC] at hea
    cases hea
  refine ks_wpAt_execs_cons (ks_wpAt_Expr_any (ks_wpAt_MethodCall ?_ (eval_si x _ p0 p1 p2 p3 p4 kpos)) (hi := by show (scope.kind == .module && _) = false; rw [kk]; rfl))
  refine ks_wpAt_super_base ksup kcls (by decide) rfl (X0 _ _ lk) rfl har rfl (X0 _ _ lcd) rfl hvs hfile htop ?_
  obtain ⟨mb, hb1, hb2⟩ := e0.mod.blt
  have bk : ∀ b o, base.get? b = some o → h0.get? b = some o := fun b o e => hk0 _ _ (e0.bs b o e).1
  refine PySem.W.ks_loadName_global kk ksup (Calls.loadGlobal_builtin (e0.mod.glob.keeps bk) hsup (hb1.keeps bk) ((hb2 _ (by decide)).trans PyProof.Rows.Boot.«super») ⟨rfl, ?_⟩)
  refine wpAny_loadName_free kk kcls (c := cc) rfl ⟨_, X0 _ _ lcc, rfl⟩ ?_
  rw [hars]
  refine wpAny_loadName_local kk kslf hns ns_s ?_
  refine ks_wpAny_isType_cls (X0 _ _ hC) rfl ⟨rfl, ?_⟩
  refine ks_wpAny_call_super (X0 _ _ hC) rfl hea0 rfl (fun c z => nomatch z) (PySem.W.looks_mroIn X0 hself) (fun h1 hso hk1 => ?_)
  have X1 : K.In h1 := X0.keeps hk1
  have hea1 := hk1 _ _ hea0
  have inst1 : PySem.W.InstAt h1 a _ C none := ⟨hea1, rfl, rfl, trivial⟩
  have hI : PySem.W.Looks (model P w0) h1 (isInstance (.ref a) (.type "ValueError")) true := inst1.type.andThen (PySem.W.looks_subIn X1 hve)
  have hmro : PySem.W.Looks (model P w0) h1 (mroOf (.ref C)) (.ref C :: b2) := (PySem.W.looks_clsIn X1 hcl).andThen .now
  have hal' : PySem.W.alongIn K "__init__" (((Value.ref C :: b2).dropWhile (· != .ref C)).drop 1) = some (some (.builtin "ValueError.__init__")) := by
    unfold PySem.W.ks_superIn at hal
    rw [hcl] at hal
    exact hal
  refine PySem.W.kxs_getMethod PySem.W.kxs_ValueError hso (PySem.W.looks_opaque X1 hany) hmro rfl X1 hal' hI ne_aC (by decide) ?_
  have hmw : (h1.push (PySem.W.kxs_mw "ValueError.__init__" a)).get? h1.objs.size = some (PySem.W.kxs_mw "ValueError.__init__" a) := Heap.get?_push_at rfl rfl
  have kp2 : ∀ b o, h1.get? b = some o → (h1.push (PySem.W.kxs_mw "ValueError.__init__" a)).get? b = some o := fun b o e => Heap.get?_push_of_some _ e
  have ns2 : (h1.push (PySem.W.kxs_mw "ValueError.__init__" a)).Ns s.heap.objs.size (fun y => ([(slf, Value.ref a), (x, u)] : List (Str × Value)).reverse.lookup y) := (hns.keeps hk1).keeps kp2
  refine PySem.W.kxs_callWith (i := "ValueError.__init__") (x := a) rfl ?_
  refine Calls.evalArgs_plain (Calls.spliced_cons (wpAny_Name (wpAny_loadName_local kk kx ns2 ns_x (Calls.spliced_nil ⟨hmw, ?_⟩)) hdx))
  refine call_mwV (X1.keeps kp2 _ _ hC) (kp2 _ _ hea1) hmw (by rw [sizeLine_eq]; show 1 ≤ _; decide) fun h3 t1 hk3 hea3 => ?_
  have lt0 : ∀ {b : Addr} {o : Obj}, s.heap.get? b = some o → b ≠ s.heap.objs.size := fun e => Nat.ne_of_lt (Heap.lt_size e)
  have kall : ∀ b o, b ≠ a → s.heap.get? b = some o → h3.get? b = some o := fun b o hb e => hk3 b o hb (kp2 _ _ (hk1 _ _ (hk0 _ _ e)))
  have ne_aL : s.heap.objs.size ≠ a := fun z => lt0 hea z.symm
  have X3 : K.In h3 := fun b o e => hk3 b o (fun z => by
    have := (e0.bs b o (e0.mod.kin b o e)).2
    rw [z, ea] at this
    cases this) (kp2 _ _ (X1 b o e))
  have ns3 : h3.Ns s.heap.objs.size (fun y => ([(slf, Value.ref a), (x, u)] : List (Str × Value)).reverse.lookup y) := by
    obtain ⟨ob, es, ep, ho, r⟩ := ns2
    exact ⟨ob, es, ep, hk3 _ _ ne_aL ho, r⟩
  show PySem.wpAt _ _ _ (execs [_] _) _ _ _
  refine ks_wpAt_execs_cons (PySem.wpAt_of_wpAny (plainObj_wpAny_Assign_Attribute (wpAny_Name (wpAny_loadName_local kk kx ns3 ns_x (wpAny_Name (wpAny_loadName_local kk kslf ns3 ns_s ?_) hds)) hdx)))
  refine PySem.W.set_plain (ox := { cls := .ref C, dict := none, data := .fields #[.ref t1, .none, .none, .none, .bool false, .none] }) (od := none) X3 ⟨hea3, rfl, rfl, trivial⟩ hcls.sa ?_
  refine PySem.HandSPX.exc_osa X3 hea3 hcl (show PySem.HandSPX.refsVE (.ref C :: b2) = true from hbm) rfl hno (fun h4 tk4 dxa hk4 dn dne hx4 hn4 => ?_)
  refine PySem.wpAt_of_wpAny (wpAny_execs_nil ?_)
  have szL : s.heap.objs.size < h3.objs.size := by
    obtain ⟨ob, _, _, ho, _⟩ := ns3
    exact Heap.lt_size ho
  have hnd : H dxa = none := e0.hok.fresh (Nat.le_trans (Nat.le_of_lt szL) dn)
  have kfin : ∀ b o, b ≠ a → s.heap.get? b = some o → h4.get? b = some o := fun b o hb e => hk4 b o hb (kall b o hb e)
  have ndx : ∀ {b : Addr} {o : Obj}, s.heap.get? b = some o → b ≠ dxa := fun {b o} e => Nat.ne_of_lt (Nat.lt_of_lt_of_le (Nat.lt_trans (Heap.lt_size e) szL) dn)
  have na : ∀ {b : Addr}, H b = none → b ≠ a := fun {b} n z => by
    rw [z, ea] at n
    cases n
  refine ⟨.non, upd (upd H dxa (exd dxa [(f, y)])) a (exo a C (some dxa)), rfl, e0.bare, ?_, ?_, rfl, hq dxa hnd dne⟩
  · exact {
      keep := fun b o e n _ _ => kfin b o (na n) e
      slot := fun b o e n _ _ => ⟨o.slots, kfin b o (na n) e⟩
      free := fun b o e n _ => by rw [upd_ne (na n), upd_ne (ndx e)]; exact n
      there := fun b o e _ => by
        by_cases hb : b = a
        · exact ⟨_, by rw [hb]; exact hx4⟩
        · exact ⟨o, kfin b o hb e⟩
      tups := fun b xs e => by rw [upd_ne (at_ne ea e exo_tup), upd_ne (ne_of_none e hnd)]; exact e
      frzs := fun b o v e => by rw [upd_ne (at_ne ea e exo_frz), upd_ne (ne_of_none e hnd)]; exact e
      tbls := fun b ps e => ⟨#[], by rw [upd_ne (at_ne ea e exo_tbl), upd_ne (ne_of_none e hnd), e]; simp⟩ }
  · intro b o e
    by_cases hb : b = a
    · subst hb
      rw [upd_same] at e
      cases e
      exact exo_ok hx4
    · rw [upd_ne hb] at e
      by_cases hd : b = dxa
      · subst hd
        rw [upd_same] at e
        cases e
        exact exd_ok hn4 (relO_put (fs := []) ry fun g => True.intro)
      · rw [upd_ne hd] at e
        refine (e0.hok b o e).stay (fun c v hc z => kfin c v ?_ z) (fun c hc => ?_) (fun c xs hc => ?_)
        · rcases hc with hc | hc
          · rw [hc]; exact hb
          · exact at_ne ea hc exo_own
        · rw [upd_ne (at_ne ea hc exo_own), upd_ne (ne_of_none hc hnd)]; exact hc
        · rw [upd_ne (at_ne ea hc exo_tup), upd_ne (ne_of_none hc hnd)]; exact hc
/-! ### raise C(e) -/
def sRaise (c : String) (f : Nm) (fa : DA) : DStm := fun s => (fa s).bind fun ds s1 => match ds with
  | [d] => .exc ⟨c, [(f, d)]⟩ s1
  | _ => .stuck
/-- an own error class: made by its own __init__ -/
structure XCls (G : Gam) (K : PySem.W.Frag) (c : String) (C fI : Addr) : Prop where
  ct : G.ct c = some C
  ini : PySem.W.findIn K (.ref C) "__init__" = some (some (.ref fI))
  ty : PySem.W.typeIn K (.ref fI) = some (.type "function")
  cls : OexC K C
section
variable {G : Gam} {W : WX} {X : Cx}
theorem pds_raise {c : String} {C fI : Addr} {fd : FuncData} {slf xp f x : Str} {fn : Nm} {e : Expr} {fa : DA} {p pos pos' : Pos} (hc : X.calm = true) (tk : Takes X W) (T : XCls G X.K c C fI) (T2 : XIn X.prog X.K X.mg C fI fd slf xp f) (hf : f = nm fn) (hb : Binds X.K fd [slf, xp] [])
    (hr : Room 2 X.A) (hg : Gl X x) (hm : X.mg x = some (.ref C)) (ha : PDA G W X [e] fa) (hdb : (x == ("__debug__" : Str)) = false := by decide) (he : starEach [e] X.env = (false, eval e X.env) :: starEach [] X.env := by rfl) :
    PDS G W X (.Raise (some (.Call (.Name x p) [e] [] pos)) none pos') (sRaise c fn fa) :=
  (ps_raise hc tk (pmk_oex (CX := L2.CX X.prog X.w) T.cls T.ini T.ty (x_ok T2) hr hb .nil (passes_call tk fun _ _ _ _ z => z.elim) hg hm ha hdb he)).imp fun N σ H ⟨κ, w, s, ok, q⟩ => ⟨κ, w, s, ok, (PostG.bindS q).imp fun vs H1 ⟨ds, s1, w1, le, ok1, rs, q1⟩ => by
    match ds, q1 with
    | [d], q1 =>
      cases rs with
      | @cons v _ vs' _ r rs =>
      cases rs
      refine ⟨by show 1 ≤ 1000; decide, fun a ha => ⟨a, v, rfl, upd_same, fun dx h1 h2 => ⟨rfl, dx, [(f, v)], ?_, ?_, ?_, ?_⟩⟩⟩
      · exact upd_same
      · rw [upd_ne h2, upd_same]
      · rw [upd_ne h2] at h1; exact h1
      · rw [upd_ne h2] at h1
        have eH : upd (del (upd (upd (upd H1 a (exo a C none)) dx (exd dx [(f, v)])) a (exo a C (some dx))) a) dx (.xd [(f, v)]) = upd H1 dx (.xd [(f, v)]) := by
          funext b
          by_cases hb : b = dx
          · rw [hb, upd_same, upd_same]
          · rw [upd_ne hb, upd_ne hb]
            by_cases hba : b = a
            · rw [hba, del_same, ha]
            · rw [del_ne hba, upd_ne hba, upd_ne hb, upd_ne hba]
        rw [eH]
        obtain ⟨le2, ok2⟩ := ok1.alloc h1 (.xd [(f, v)])
        exact q1 _ σ (.ref C) (some dx) _ le2 ok2 ⟨C, T.ct, rfl, .inr ⟨dx, [(f, v)], rfl, upd_same, by subst hf; exact .cons (r.mono le2) .nil⟩⟩
    | [], q1 => exact q1.elim
    | _ :: _ :: _, q1 => exact q1.elim⟩
end
end DL
set_option maxRecDepth 100000
set_option maxHeartbeats 4000000
set_option autoImplicit false
namespace DL
open PySem PySem.Spec PyProof.Rows L2
/-! ### try with several clauses, each with a name or without -/
abbrev HTs := Addr → Value → Option Addr → TS
def unset (D : Ends) (i : Nat) : Ends := { nx := fun τ Z => D.nx (τ.set i none) Z, rt := D.rt, bk := fun τ Z => D.bk (τ.set i none) Z, ct := fun τ Z => D.ct (τ.set i none) Z }
def wHd (K : PySem.W.Frag) (Wo : WX) (D : Ends) : List (Value × Option Nat × HTs) → WX
  | [] => Wo
  | (c, none, ts) :: r => fun cl dd τ Z => ∃ b, PySem.W.exmOne K cl c = some b ∧ (b = true → ∀ a, Z a = none → ts a cl dd D τ Z) ∧ (b = false → wHd K Wo D r cl dd τ Z)
  | (c, some i, ts) :: r => fun cl dd τ Z => ∃ b, PySem.W.exmOne K cl c = some b ∧ (b = true → ∀ a, Z a = none → ts a cl dd (unset D i) (τ.set i (some (.ref a))) Z) ∧ (b = false → wHd K Wo D r cl dd τ Z)
/-- the suite of a clause -/
def SuOk (X : Cx) (st : List Stmt) (ts : HTs) : Prop := ∀ (a : Addr) (ob : Obj) (cl : Value) (dd : Option Addr) (pn : List (Addr × Obj)), Zc cl dd ob → (∃ vs, ob.data = .fields vs) → PSs (X.suite a ((a, ob) :: pn)) st (ts a cl dd)
inductive HdA (X : Cx) : List ExceptHandler → List (Value × Option Nat × HTs) → Prop
  | nil : HdA X [] []
  | bare {x : Str} {c : Value} {ts : HTs} {s0 : Stmt} {su : List Stmt} {np pp : Pos} {hs : List ExceptHandler} {l : List (Value × Option Nat × HTs)} (nc : Names X x c) (ok : SuOk X (s0 :: su) ts) (r : HdA X hs l) :
      HdA X (.ExceptHandler (some (.Name x np)) none (s0 :: su) pp :: hs) ((c, none, ts) :: l)
  | as_ {x n : Str} {i : Nat} {c : Value} {ts : HTs} {s0 : Stmt} {su : List Stmt} {np pp : Pos} {hs : List ExceptHandler} {l : List (Value × Option Nat × HTs)} (nc : Names X x c) (hi : X.N[i]? = some n) (hl : X.env.kindOf n = some .local) (ok : SuOk X (s0 :: su) ts) (r : HdA X hs l) :
      HdA X (.ExceptHandler (some (.Name x np)) (some n) (s0 :: su) pp :: hs) ((c, some i, ts) :: l)
section
variable {X : Cx} {bd : List Stmt} {g0 : ExceptHandler} {gs : List ExceptHandler} {l : List (Value × Option Nat × HTs)} {tpos : Pos} {tb : WX → TS} {Wo : WX}
theorem ps_tryA (est : X.stack = X.env :: X.outer) (efr : X.env.frame = some X.env.locals) (nd : X.N.Nodup) (tk : Takes X Wo)
    (hbd : ∀ (Wi : WX) (pn : List (Addr × Obj)) (xe : Value → Shared → Prop), Takes (X.tr pn xe) Wi → PassesOwn (model X.prog X.w) X.A X.env xe → PSs (X.tr pn xe) bd (tb Wi)) (hh : HdA X (g0 :: gs) l) :
    PS X (.Try bd (g0 :: gs) [] [] tpos) (fun D τ Z => tb (wHd X.K Wo D l) D τ Z) := by
  refine ⟨fun pins sh τ Z D I h => ?_⟩
  have okX := I.ok
  have frX : X.A.frames = some (X.env :: X.outer) := by rw [okX.frames, est]
  let xeT : Value → Shared → Prop := fun e z1 => wpAny (model X.prog X.w) X.A (noteFrame e X.env) (fun _ z2 => wpAny (model X.prog X.w) X.A (setFlight e none) (fun _ z3 => wpAny (model X.prog X.w) X.A (handleBy e X.env (g0 :: gs)) (SP X pins D) X.xe z3) X.xe z2) X.xe z1
  refine wpAny_Try_except (wpAny_mono ((hbd (wHd X.K Wo D l) (X.pn ++ pins) xeT (fun u sh' xx => ?_) PassesOwn.looking).run [] sh τ Z D (I.toTry _) h) (fun fl sh1 hsp => ?_) (fun e sh1 he => he))
  · obtain ⟨a, Bh, sI, pins', τ', Z', cl, dd, rfl, J', nb, up, sky, na, eos, ag, wish⟩ := xx
    have J : Inv X pins τ' Z' sI := J'.ofTry okX
    have sky2 : Sky Bh (X.env :: X.outer) a (Zc cl dd) X.env.locals sh'.heap := est ▸ sky
    show wpAny (model X.prog X.w) X.A (noteFrame (.ref a) X.env) _ _ _
    refine Sky.land Zc.steady frX efr sky2 fun h3 fl3 up3 => ?_
    have J3 : Inv X pins τ' Z' { sh' with heap := h3 } := J.landed nb fl3.1 (up.trans up3) eos ag
    obtain ⟨ob3, vs3, he3, hz3, hd3⟩ := fl3.there
    have nfr : a ∉ frs (X.env :: X.outer) := fun hm => by
      obtain ⟨_, o', e', hnf⟩ := fl3.2.2.1.mem hm
      rw [he3] at e'
      cases e'
      exact hnf _ hd3
    have nL : a ≠ X.env.locals := fun z => nfr (List.mem_filterMap.mpr ⟨X.env, List.mem_cons_self, efr.trans (congrArg some z.symm)⟩)
    have nF : a ∉ X.fs := fun hm => by
      obtain ⟨ev, hev, eq⟩ := List.mem_filterMap.mp hm
      exact nfr (List.mem_filterMap.mpr ⟨ev, List.mem_cons_of_mem _ hev, eq⟩)
    have S3 := J3.suite he3 hd3 na nL nF
    have LT : PySem.W.Looks (model X.prog X.w) h3 (typeOf (.ref a)) cl := fun A Q E z k q => wpAny_typeOf_ref (k _ _ he3) (hz3.1.symm ▸ q)
    have test : ∀ {x : Str} {c : Value} {np : Pos} {Q : Value → Shared → Prop} {E : Value → Shared → Prop}, Names X x c → Q c { sh' with heap := h3 } → wpAny (model X.prog X.w) (X.A.mark (some (.ref a))) (eval (.Name x np) X.env) Q E { sh' with heap := h3 } := fun {x c np Q E} nc q => by
      obtain ⟨hg, hdb, hm | ⟨hm, hv, hnn⟩⟩ := nc
      · exact ld_glob (X := X.suite a ((a, ob3) :: (X.pn ++ pins))) S3 hg hm q hdb
      · exact ld_blt (X := X.suite a ((a, ob3) :: (X.pn ++ pins))) S3 hg hm hv q hnn hdb
    have go : ∀ {gs' : List ExceptHandler} {l' : List (Value × Option Nat × HTs)}, HdA X gs' l' → wHd X.K Wo D l' cl dd τ' Z' → wpAny (model X.prog X.w) X.A (handleBy (.ref a) X.env gs') (SP X pins D) X.xe { sh' with heap := h3 } := by
      intro gs' l' hk
      induction hk with
      | nil =>
        intro wish
        refine wpAny_handleBy_nil ?_
        obtain ⟨_, _, _, oe, vs, Tb, _, _, he, _, hd, h1, _⟩ := id fl3
        unfold PySem.passOn
        refine wpAny_bind (wpAny_field he hd h1 ?_)
        rw [if_neg (show ¬ ((Value.ref Tb == Value.none) = true) by simp)]
        have fin : wpAny (model X.prog X.w) X.A (setFlight (.ref a) X.env.frame) (fun _ z4 => wpAny (model X.prog X.w) X.A (throw (.ref a) : Sem Flow) (SP X pins D) X.xe z4) X.xe { sh' with heap := h3 } := by
          rw [efr]
          refine HandSPX.setFlight_upZ fl3 fun h4 hh4 up4 => wpAny_throw (tk _ _ ⟨a, Bh, sI, pins, τ', Z', cl, dd, rfl, J, nb, (up.trans up3).trans up4, .inr (.inr ?_), na, eos, ag, wish⟩)
          rw [est]
          exact hh4
        first
          | exact wpAny_bind (wpAny_pure (wpAny_bind fin))
          | exact wpAny_bind fin
      | @bare x c ts s0 su np pp hs2 l2 nc ok r ih =>
        intro wish
        obtain ⟨b, hb1, yes, no⟩ := wish
        refine wpAny_handleBy_cons (codeAny_handlers_test (test nc ((PySem.W.exm_one (M := model X.prog X.w) J3.kIn LT hb1).here ?_))) (by intro q; cases q)
        cases b with
        | false => exact ih (no rfl)
        | true =>
          refine codeAny_handlers_suite (HandSPX.lands_againZ fl3 fun h4 fl4 up4 => ?_)
          have J4 : Inv X pins τ' Z' { sh' with heap := h4 } := J.landed nb fl4.1 ((up.trans up3).trans up4) eos ag
          obtain ⟨ob4, vs4, he4, hz4, hd4⟩ := fl4.there
          refine wpAny_mono ((ok a ob4 cl dd (X.pn ++ pins) hz4 ⟨_, hd4⟩).run [] _ _ Z' _ (J4.suite he4 hd4 na nL nF) (yes rfl a na)) (fun fl z6 hsp => ?_) (fun _ _ z => False.elim z)
          cases fl with
          | ret u => obtain ⟨_, _, _, S6, r6, q6⟩ := hsp; exact ⟨_, _, _, S6.unsuite okX, r6, q6⟩
          | next => obtain ⟨_, _, S6, q6⟩ := hsp; exact ⟨_, _, S6.unsuite okX, q6⟩
          | brk => obtain ⟨_, _, S6, q6⟩ := hsp; exact ⟨_, _, S6.unsuite okX, q6⟩
          | cont => obtain ⟨_, _, S6, q6⟩ := hsp; exact ⟨_, _, S6.unsuite okX, q6⟩
      | @as_ x n i c ts s0 su np pp hs2 l2 nc hi hl ok r ih =>
        intro wish
        obtain ⟨b, hb1, yes, no⟩ := wish
        refine wpAny_handleBy_cons (codeAny_handlers_test (test nc ((PySem.W.exm_one (M := model X.prog X.w) J3.kIn LT hb1).here ?_))) (by intro q; cases q)
        cases b with
        | false => exact ih (no rfl)
        | true =>
          refine codeAny_handlers_suite_as (HandSPX.lands_againZ fl3 fun h4 fl4 up4 => ?_)
          have J4 : Inv X pins τ' Z' { sh' with heap := h4 } := J.landed nb fl4.1 ((up.trans up3).trans up4) eos ag
          obtain ⟨ob4, vs4, he4, hz4, hd4⟩ := fl4.there
          refine store_ok (X := X.suite a ((a, ob4) :: (X.pn ++ pins))) (v := .ref a) (J4.suite he4 hd4 na nL nF) nd hi (.inl hl) rfl (fun z5 S5 => ?_) (.inr hl)
          refine wpAny_mono ((ok a ob4 cl dd (X.pn ++ pins) hz4 ⟨_, hd4⟩).run [] z5 _ Z' _ S5 (yes rfl a na)) (fun fl z6 hsp => ?_) (fun _ _ z => False.elim z)
          have fin : ∀ {τ6 : L2.St} {Z6 : Hp} {R : Shared → Prop}, Inv (X.suite a ((a, ob4) :: (X.pn ++ pins))) [] τ6 Z6 z6 → (∀ z7, Inv X pins (τ6.set i none) Z6 z7 → R z7) → wpAny (model X.prog X.w) X.A (do bindName X.env n .none; unbindBehindTheSuite X.env n pp) (fun _ z7 => R z7) X.xe z6 := fun {τ6 Z6 R} S6 hq => gone_ok (S6.unsuite okX) nd hi hl hq
          cases fl with
          | ret u => obtain ⟨_, _, _, S6, r6, q6⟩ := hsp; exact fin S6 fun _ J7 => ⟨_, _, _, J7, r6, q6⟩
          | next => obtain ⟨_, _, S6, q6⟩ := hsp; exact fin S6 fun _ J7 => ⟨_, _, J7, q6⟩
          | brk => obtain ⟨_, _, S6, q6⟩ := hsp; exact fin S6 fun _ J7 => ⟨_, _, J7, q6⟩
          | cont => obtain ⟨_, _, S6, q6⟩ := hsp; exact fin S6 fun _ J7 => ⟨_, _, J7, q6⟩
    exact go hh wish
  · cases fl with
    | ret u => obtain ⟨v, τ', Z', J', r, q⟩ := hsp; exact ⟨v, τ', Z', J'.ofTry okX, r, q⟩
    | next => obtain ⟨τ', Z', J', q⟩ := hsp; exact wpAny_execs_nil ⟨τ', Z', J'.ofTry okX, q⟩
    | brk => obtain ⟨τ', Z', J', q⟩ := hsp; exact ⟨τ', Z', J'.ofTry okX, q⟩
    | cont => obtain ⟨τ', Z', J', q⟩ := hsp; exact ⟨τ', Z', J'.ofTry okX, q⟩
end
/-! ### the same as a reading -/
section
variable {G : Gam} {W : WX} {X : Cx}
theorem Ok.setUn {κ : Bs} {w : Wd} {s : DS} {σ : L2.St} {H : Hp} (h : Ok G κ w s σ H) (i : Nat) (v : Option V) : Ok G κ w ⟨s.sl.set i .un, s.st⟩ (σ.set i v) H := by
  have inn : ∀ {j : Nat} {x : Sl}, (s.sl.set i .un)[j]? = some x → (x = .un) ∨ (j ≠ i ∧ s.sl[j]? = some x) := fun {j x} e => by
    by_cases hj : i = j
    · subst hj
      by_cases hv : i < s.sl.length
      · rw [List.getElem?_set_self hv] at e
        exact .inl (Option.some.inj e).symm
      · rw [List.getElem?_eq_none (by simpa using hv)] at e; cases e
    · rw [List.getElem?_set_ne hj] at e
      exact .inr ⟨fun z => hj z.symm, e⟩
  have out : ∀ {j : Nat}, j ≠ i → (σ.set i v)[j]? = σ[j]? := fun {j} n => List.getElem?_set_ne (fun z => n z.symm)
  refine ⟨h.fok, h.nx, by simpa using h.len, fun j d e => ?_, fun j x e o => ?_, fun j k x y a e1 e2 o1 o2 h1 h2 => ?_, fun p hp => ?_, fun a ha c fs e => ?_⟩
  · rcases inn e with z | ⟨z, e⟩
    · cases z
    · rw [out z]; exact h.val j d e
  · rcases inn e with z | ⟨z, e⟩
    · subst z; cases o
    · rw [out z]; exact h.own j x e o
  · rcases inn e1 with z | ⟨z, e1⟩
    · subst z; cases o1
    · rcases inn e2 with z' | ⟨z', e2⟩
      · subst z'; cases o2
      · rw [out z] at h1
        rw [out z'] at h2
        exact h.ne j k x y a e1 e2 o1 o2 h1 h2
  · obtain ⟨q1, q2, q3, q4, q5⟩ := h.gam p hp
    refine ⟨q1, q2, q3, q4, fun j x e o => ?_⟩
    rcases inn e with z | ⟨z, e⟩
    · subst z; cases o
    · rw [out z]; exact q5 j x e o
  · rcases inn e with z | ⟨z, e⟩
    · cases z
    · rw [out z]; exact h.me a ha c fs e
theorem RepX.mono {w w' : Wd} {c : Value} {dd : Option Addr} {x : Xc} (h : RepX G w c dd x) (le : w.le w') : RepX G w' c dd x := by
  obtain ⟨C, h1, h2, h3⟩ := h
  refine ⟨C, h1, h2, ?_⟩
  rcases h3 with h3 | ⟨a, vs, e1, e2, e3⟩
  · exact .inl h3
  · exact .inr ⟨a, vs, e1, le.1 _ _ e2, e3.mono le⟩
structure HdR where
  c : Value
  oi : Option Nat
  m : String → Option Bool
  f : Xc → DStm
def unD (i : Nat) (r : Res DS Out) : Res DS Out := r.bind fun o s => .ok o ⟨s.sl.set i .un, s.st⟩
def catchD : List HdR → Xc → DStm
  | [], x, s => .exc x s
  | ⟨_, none, m, f⟩ :: r, x, s => match m x.cls with
    | some true => noX (f x s)
    | some false => catchD r x s
    | none => .stuck
  | ⟨_, some i, m, f⟩ :: r, x, s => match m x.cls with
    | some true => if i < s.sl.length then unD i (noX (f x ⟨s.sl.set i .un, s.st⟩)) else .stuck
    | some false => catchD r x s
    | none => .stuck
def sTry (b : DStm) (hs : List HdR) : DStm := fun s => match b s with
  | .exc x s1 => catchD hs x s1
  | r => r
/-- what is known of the caught one -/
def Fx (G : Gam) (oi : Option Nat) (a : Addr) (cl : Value) (dd : Option Addr) (x : Xc) (w : Wd) (σ : L2.St) : Prop := (∀ i, oi = some i → σ[i]? = some (some (.ref a))) ∧ RepX G w cl dd x
def tXS (G : Gam) (oi : Option Nat) (a : Addr) (cl : Value) (dd : Option Addr) (x : Xc) (f : DStm) : TS := fun N σ H => ∃ κ w s, Ok G κ w s σ H ∧ Fx G oi a cl dd x w σ ∧ PostS G WF κ w (f s) N
def tSu (G : Gam) (h : HdR) : HTs := fun a cl dd N σ H => ∃ x, tXS G h.oi a cl dd x (h.f x) N σ H
/-- the class test of a clause -/
def MOk (G : Gam) (K : PySem.W.Frag) (h : HdR) : Prop := ∀ (k : String) (b : Bool), h.m k = some b → ∀ C, G.ct k = some C → PySem.W.exmOne K (.ref C) h.c = some b
theorem catch_of {D0 : Ends} {κ : Bs} {x : Xc} : ∀ {hs : List HdR}, (∀ h ∈ hs, MOk G X.K h) → ∀ {w : Wd} {s : DS} {cl : Value} {dd : Option Addr} {σ : L2.St} {H : Hp}, PostS G W κ w (catchD hs x s) D0 → Ok G κ w s σ H → RepX G w cl dd x → wHd X.K W D0 (hs.map fun h => (h.c, h.oi, tSu G h)) cl dd σ H
  | [], _, w, s, cl, dd, σ, H, q, ok, rx => q w σ cl dd H (.refl _) ok rx
  | ⟨c, none, m, f⟩ :: r, hm, w, s, cl, dd, σ, H, q, ok, rx => by
    obtain ⟨C, hC, rfl, _⟩ := id rx
    have q : PostS G W κ w (match m x.cls with | some true => noX (f x s) | some false => catchD r x s | none => .stuck) D0 := q
    cases e : m x.cls with
    | none => rw [e] at q; exact q.elim
    | some b =>
      refine ⟨b, hm _ List.mem_cons_self x.cls b e C hC, fun hb a ha => ?_, fun hb => ?_⟩
      · subst hb
        rw [e] at q
        refine ⟨x, κ, w, s, ok, ⟨fun i z => (nomatch z), rx⟩, ?_⟩
        show PostS G WF κ w (f x s) D0
        replace q : PostS G W κ w (noX (f x s)) D0 := q
        cases z : f x s with
        | ok o s' => rw [z] at q; cases o <;> exact q
        | exc y s' => rw [z] at q; exact q.elim
        | stuck => rw [z] at q; exact q.elim
      · subst hb
        rw [e] at q
        exact catch_of (fun h hh => hm h (List.mem_cons_of_mem _ hh)) q ok rx
  | ⟨c, some i, m, f⟩ :: r, hm, w, s, cl, dd, σ, H, q, ok, rx => by
    obtain ⟨C, hC, rfl, _⟩ := id rx
    have q : PostS G W κ w (match m x.cls with | some true => if i < s.sl.length then unD i (noX (f x ⟨s.sl.set i .un, s.st⟩)) else .stuck | some false => catchD r x s | none => .stuck) D0 := q
    cases e : m x.cls with
    | none => rw [e] at q; exact q.elim
    | some b =>
      refine ⟨b, hm _ List.mem_cons_self x.cls b e C hC, fun hb a ha => ?_, fun hb => ?_⟩
      · subst hb
        rw [e] at q
        replace q : PostS G W κ w (if i < s.sl.length then unD i (noX (f x ⟨s.sl.set i .un, s.st⟩)) else .stuck) D0 := q
        have hj : i < s.sl.length := by
          by_cases h : i < s.sl.length
          · exact h
          · rw [if_neg h] at q; exact q.elim
        rw [if_pos hj] at q
        refine ⟨x, κ, w, ⟨s.sl.set i .un, s.st⟩, ok.setUn i _, ⟨fun j z => ?_, rx⟩, ?_⟩
        · have z : some i = some j := z
          cases z
          rw [List.getElem?_set_self (by rw [← ok.len]; exact hj)]
        show PostS G WF κ w (f x ⟨s.sl.set i .un, s.st⟩) (unset D0 i)
        cases z : f x ⟨s.sl.set i .un, s.st⟩ with
        | ok o s' =>
          rw [z] at q
          cases o with
          | nx => exact fun w' σ' H' le ok' => q w' _ H' le (ok'.setUn i none)
          | bk => exact fun w' σ' H' le ok' => q w' _ H' le (ok'.setUn i none)
          | ct => exact fun w' σ' H' le ok' => q w' _ H' le (ok'.setUn i none)
          | rt d => exact fun w' σ' v H' le ok' r' => q w' _ v H' le (ok'.setUn i none) r'
        | exc y s' => rw [z] at q; exact q.elim
        | stuck => rw [z] at q; exact q.elim
      · subst hb
        rw [e] at q
        exact catch_of (fun h hh => hm h (List.mem_cons_of_mem _ hh)) q ok rx
theorem pds_try {bd : List Stmt} {g0 : ExceptHandler} {gs : List ExceptHandler} {hs : List HdR} {tpos : Pos} {fb : DStm} (est : X.stack = X.env :: X.outer) (efr : X.env.frame = some X.env.locals) (nd : X.N.Nodup) (tk : Takes X W)
    (hbd : ∀ (Wi : WX) (pn : List (Addr × Obj)) (xe : Value → Shared → Prop), Takes (X.tr pn xe) Wi → PassesOwn (model X.prog X.w) X.A X.env xe → PDSs G Wi (X.tr pn xe) bd fb) (hm : ∀ h ∈ hs, MOk G X.K h)
    (hh : HdA X (g0 :: gs) (hs.map fun h => (h.c, h.oi, tSu G h))) : PDS G W X (.Try bd (g0 :: gs) [] [] tpos) (sTry fb hs) :=
  (ps_tryA (tb := fun Wi => tDS G Wi fb) est efr nd tk hbd hh).imp fun N σ H ⟨κ, w, s, ok, q⟩ => ⟨κ, w, s, ok, by
    have q : PostS G W κ w (match fb s with | .exc x s1 => catchD hs x s1 | r => r) N := q
    cases e : fb s with
    | stuck => rw [e] at q; exact q.elim
    | ok o s' => rw [e] at q; cases o <;> exact q
    | exc x s' =>
      rw [e] at q
      replace q : PostS G W κ w (catchD hs x s') N := q
      intro w' σ' c dd H' le ok' rx
      have q' : PostS G W κ w' (catchD hs x s') N := PostS.mono le q
      exact catch_of hm q' ok' rx⟩
end
/-! ### the suite's words -/
section
variable {G : Gam} {X : Cx} {oi : Option Nat} {a : Addr} {cl : Value} {dd : Option Addr} {x : Xc}
theorem Fx.mono {w w' : Wd} {σ : L2.St} (h : Fx G oi a cl dd x w σ) (le : w.le w') : Fx G oi a cl dd x w' σ := ⟨h.1, h.2.mono le⟩
def tXD (G : Gam) (oi : Option Nat) (a : Addr) (cl : Value) (dd : Option Addr) (x : Xc) (f : DE) : TE := fun σ H Q => ∃ κ w s, Ok G κ w s σ H ∧ Fx G oi a cl dd x w σ ∧ PostG G WF (Rep G) κ w σ (f s) Q
def tXA (G : Gam) (oi : Option Nat) (a : Addr) (cl : Value) (dd : Option Addr) (x : Xc) (f : DA) : TA := fun σ H Q => ∃ κ w s, Ok G κ w s σ H ∧ Fx G oi a cl dd x w σ ∧ PostG G WF (Reps G) κ w σ (f s) Q
theorem pxd_lift {e : Expr} {f : DE} (h : PD G WF X e f) : PE X e (tXD G oi a cl dd x f) := h.imp fun σ H Q ⟨κ, w, s, ok, _, q⟩ => ⟨κ, w, s, ok, q⟩
theorem pxa_nil : PA X [] (tXA G oi a cl dd x aNil) := pa_nil.imp fun σ H Q ⟨κ, w, s, ok, _, q⟩ => q w [] H (.refl _) ok .nil
theorem pxa_cons {e : Expr} {es : List Expr} {f : DE} {g : DA} (h : PE X e (tXD G oi a cl dd x f)) (k : PA X es (tXA G oi a cl dd x g)) (hs : starEach (e :: es) X.env = (false, eval e X.env) :: starEach es X.env := by rfl) : PA X (e :: es) (tXA G oi a cl dd x (aCons f g)) :=
  (pa_cons h k hs).imp fun σ H Q ⟨κ, w, s, ok, fx, q⟩ => ⟨κ, w, s, ok, fx, (PostG.bind q).imp fun v H1 ⟨d, s1, w1, le, ok1, r1, q1⟩ =>
    ⟨κ, w1, s1, ok1, fx.mono le, (PostG.bind q1).imp fun v2 H2 ⟨d2, s2, w2, le2, ok2, r2, q2⟩ => q2 w2 _ H2 (.refl _) ok2 (.cons (r1.mono le2) r2)⟩⟩
theorem pxd_tup {es : List Expr} {k : Nat} {g : DA} {pos : Pos} (h : PA X es (tXA G oi a cl dd x g)) : PE X (.Tuple es k pos) (tXD G oi a cl dd x (eTup g)) :=
  (pe_tup h).imp fun σ H Q ⟨κ, w, s, ok, fx, q⟩ => ⟨κ, w, s, ok, fx, (PostG.bind q).imp fun v H1 ⟨d, s1, w1, le, ok1, r1, q1⟩ => by
    by_cases c : d.length ≤ 1000
    · rw [if_pos c] at q1
      refine ⟨r1.length ▸ sz1000 c, fun p hp => ?_⟩
      obtain ⟨le2, ok2⟩ := ok1.alloc hp (.tup v)
      exact q1 _ _ _ le2 ok2 (.tup (.inl (.inl upd_same)) (r1.mono le2))
    · rw [if_neg c] at q1
      exact q1.elim⟩
theorem RepF.look' {w : Wd} : ∀ {vs : List (Str × V)} {fs : List (Nm × D)} {f : Nm} {d : D}, RepF G w vs fs → fs.lookup f = some d → ∃ v, vs.lookup (nm f) = some v ∧ Rep G w v d
  | _, _, _, _, .nil, e => nomatch e
  | _, _, f, d, .cons (f := g) (v := v) (d := d') r rs, e => by
    by_cases h : f = g
    · subst h
      simp [List.lookup] at e ⊢
      subst e
      exact r
    · have h1 : (f == g) = false := by simpa using h
      have h2 : (nm f == nm g) = false := by
        have : nm f ≠ nm g := fun z => h (nm_inj z)
        simpa using this
      simp only [List.lookup, h1] at e
      obtain ⟨v', q1, q2⟩ := RepF.look' rs e
      exact ⟨v', by simp only [List.lookup, h2]; exact q1, q2⟩
/-- e.f of the caught one, known to be of the class c -/
def eXf (c : String) (f : Nm) (x : Xc) : DE := fun s => if x.cls = c then match x.fs.lookup f with | some d => .ok d s | none => .stuck else .stuck
theorem pxd_fld {i : Nat} {C : Addr} {ob : Obj} {pn : List (Addr × Obj)} {c : String} {f : Nm} {fn e : Str} {p pos : Pos} (hK : G.K = X.K) (hC : G.ct c = some C) (T : XfC X.K C) (hno : PySem.W.findIn X.K (.ref C) fn = some none) (hf : fn = nm f) (hz : Zc cl dd ob) (hfs : ∃ vs, ob.data = .fields vs)
    (he : PE (X.suite a ((a, ob) :: pn)) (.Name e p) (tVar i)) : PE (X.suite a ((a, ob) :: pn)) (.Attribute (.Name e p) fn pos) (tXD G (some i) a cl dd x (eXf c f x)) :=
  (pe_xf T hno hz hfs he).imp fun σ H Q ⟨κ, w, s, ok, fx, q⟩ => by
    have q : PostG G WF (Rep G) κ w σ (if x.cls = c then match x.fs.lookup f with | some d => .ok d s | none => .stuck else .stuck) Q := q
    by_cases h : x.cls = c
    · rw [if_pos h] at q
      cases e : x.fs.lookup f with
      | none => rw [e] at q; exact q.elim
      | some d =>
        rw [e] at q
        obtain ⟨h1, C', h2, h3, h4⟩ := fx
        rw [h, hC] at h2
        cases h2
        rcases h4 with ⟨h4, _⟩ | ⟨da, vs, h5, h6, h7⟩
        · rw [h4] at e; cases e
        · obtain ⟨v, l1, l2⟩ := h7.look' e
          exact ⟨.ref a, h1 i rfl, rfl, h3, da, vs, v, h5, ok.fok.sub _ _ h6, hf ▸ l1, q w v H (.refl _) ok l2⟩
    · rw [if_neg h] at q
      exact q.elim
theorem pxs_ret {e : Expr} {f : DE} {pos : Pos} (h : PE X e (tXD G oi a cl dd x f)) : PS X (.Return (some e) pos) (tXS G oi a cl dd x (sRet f)) :=
  (ps_ret h).imp fun N σ H ⟨κ, w, s, ok, fx, q⟩ => ⟨κ, w, s, ok, fx, (PostG.bindS q).imp fun v H1 ⟨d, s1, w1, le, ok1, r1, q1⟩ => q1 w1 σ v H1 (.refl _) ok1 r1⟩
theorem pxs_set {i : Nat} {n : Str} {e : Expr} {f : DE} {pos pos' : Pos} (hN : X.N.Nodup) (hi : X.N[i]? = some n) (hx : Loc X.env.scope n) (he : PE X e (tXD G oi a cl dd x f)) (hs : swapsWith e (some (.Name n pos')) pos.line X.env = pure false := by rfl)
    (hf : X.fn n = true ∨ X.env.scope.names.lookup n = some .local := by first | exact .inl rfl | exact .inr rfl | assumption) : PS X (.Assign [.Name n pos'] e pos) (tXS G oi a cl dd x (sSet i f)) :=
  (ps_set hN hi hx he hs hf).imp fun N σ H ⟨κ, w, s, ok, fx, q⟩ => ⟨κ, w, s, ok, fx, (PostG.bindS q).imp fun v H1 ⟨d, s1, w1, le, ok1, r1, q1⟩ => q1 w1 _ H1 (.refl _) (ok1.setVal r1 i)⟩
theorem pxs_lift {st : Stmt} {f : DStm} (h : PDS G WF X st f) : PS X st (tXS G oi a cl dd x f) := h.imp fun N σ H ⟨κ, w, s, ok, _, q⟩ => ⟨κ, w, s, ok, q⟩
/-- a suite of one statement -/
theorem su_one {st : Stmt} {h : HdR} (k : ∀ (a : Addr) (ob : Obj) (cl : Value) (dd : Option Addr) (pn : List (Addr × Obj)) (x : Xc), Zc cl dd ob → (∃ vs, ob.data = .fields vs) → PS (X.suite a ((a, ob) :: pn)) st (tXS G h.oi a cl dd x (h.f x))) : SuOk X [st] (tSu G h) :=
  fun a ob cl dd pn hz hf => pss_one ⟨fun pins s σ H D I ⟨x, z⟩ => (k a ob cl dd pn x hz hf).run pins s σ H D I z⟩
end
end DL
set_option maxRecDepth 100000
set_option maxHeartbeats 4000000
set_option autoImplicit false
namespace DL
open PySem PySem.Spec PyProof.Rows L2
/-! ### lambdas without parameters -/
/-- the function object of a lambda -/
def FnO (f : Addr) (q : Str) (pr : Arguments) (bd : Expr) (sc : Scope) (clo : List (Str × Addr)) (pm : Value) (c : Addr) (ctv : Value) : HO := .ext fun h => h.get? f = some (PySem.W.kla_obj "<lambda>" q pr bd sc clo pm c ctv)
/-- a maker of lambdas: its table, the name of its lambdas' codes, its cells, the sites -/
structure LamT where
  P : Addr
  q : Str
  cells : List (Str × Addr)
  site : String → Option (Arguments × Expr × Scope)
def LamT.lam (T : LamT) : String → Addr → Wd → Prop := fun k f w => ∃ pr bd sc pm c ctv, T.site k = some (pr, bd, sc) ∧ w.F f = some (FnO f T.q pr bd sc (cloFrom T.cells sc.names []) pm c ctv) ∧ w.F c = some (LamX.CodeO c T.q)
def LamT.tab (T : LamT) : Addr → Hp → HO → Prop := fun a F o => a = T.P ∧ ∃ ps : Array Value, o = .tbl ps ∧ TriplesOk ps.toList ∧ ∀ (pos : Pos) (cv : Value), codeAmong pos ps.toList = some cv → ∃ c, cv = .ref c ∧ F c = some (LamX.CodeO c T.q)
theorem LamT.lamM (T : LamT) (k : String) (f : Addr) (w w' : Wd) (e : w.le w') : T.lam k f w → T.lam k f w' := fun ⟨pr, bd, sc, pm, c, ctv, h1, h2, h3⟩ => ⟨pr, bd, sc, pm, c, ctv, h1, e.f _ _ h2, e.f _ _ h3⟩
theorem LamT.tabM (T : LamT) (a : Addr) (F F' : Hp) (o : HO) (e : ∀ a o, F a = some o → F' a = some o) : T.tab a F o → T.tab a F' o := fun ⟨h0, ps, h1, h2, h3⟩ => ⟨h0, ps, h1, h2, fun pos cv hc => by
  obtain ⟨c, z1, z2⟩ := h3 pos cv hc
  exact ⟨c, z1, e _ _ z2⟩⟩
/-- the lambda is made -/
def eLam (n : Nat) (tk k : String) : DE := fun s => match s.st[n]? with
  | some (.tab t) => if t = tk then .ok (.lam k) s else .stuck
  | _ => .stuck
section
variable {G : Gam} {W : WX} {X : Cx}
/-- what G says of the maker's lambdas -/
structure GLam (G : Gam) (tk : String) (T : LamT) : Prop where
  tab : ∀ a F o, G.tab tk a F o ↔ T.tab a F o
  lam : ∀ k f w, (T.site k).isSome = true → (G.lam k f w ↔ T.lam k f w)
theorem fnO_ok {P : Program} {w0 : World} {H : Hp} {h : Heap} {f c : Addr} {q : Str} {pr : Arguments} {bd : Expr} {sc : Scope} {clo : List (Str × Addr)} {pm ctv : Value} (e : h.get? f = some (PySem.W.kla_obj "<lambda>" q pr bd sc clo pm c ctv)) : ObjOk P w0 H h f (FnO f q pr bd sc clo pm c ctv) :=
  ⟨e, ⟨_, e⟩, fun h1 h2 z k => k _ z⟩
theorem pd_lam {n : Nat} {tk k : String} {c : Addr} {T : LamT} {pr : Arguments} {bd : Expr} {sc : Scope} {pos : Pos} (GL : GLam G tk T) (TB : LamX.TabB X.base X.mg c T.P) (hcode : X.env.code = .ref c) (hq : T.q = X.env.qual ++ "<lambda>") (hcl : T.cells = X.env.cells) (hs : T.site k = some (pr, bd, sc))
    (L : LamX.LamS X.env.scope sc) (hdef : defaultsOf pr X.env = ([], [])) : PD G W X (.Lambda pr bd sc pos) (eLam n tk k) := by
  refine ⟨fun pins sh σ H Q I ⟨κ, w, s, ok, q⟩ => ?_⟩
  unfold eLam at q
  cases e : s.st[n]? with
  | none => rw [e] at q; exact q.elim
  | some cel =>
    rw [e] at q
    cases cel with
    | tab t' =>
      replace q : PostG G W (Rep G) κ w σ (if t' = tk then .ok (.lam k) s else .stuck) Q := q
      by_cases ht : t' = tk
      · subst ht
        rw [if_pos rfl] at q
        have hn : n < w.ρ.length := by
          rw [ok.fok.len]
          exact (List.getElem?_eq_some_iff.mp e).1
        have hρ : w.ρ[n]? = some (w.ρ[n]) := List.getElem?_eq_getElem hn
        obtain ⟨o, hP, ht⟩ := ok.fok.cel n _ _ hρ e
        obtain ⟨eP, ps, rfl, tr, among⟩ := (GL.tab _ _ _).mp ht
        rw [eP] at hP hρ
        have hfree := L.has I.ok
        refine PySem.W.kla_eval hdef ?_
        have bP : sh.heap.BuiltinsAt X.mg T.P := TB.bm.keeps I.bk
        have hP' : sh.heap.get? T.P = some { cls := .none, data := .fields ps } := I.hok T.P _ hP
        cases hc : codeAmong pos ps.toList with
        | none =>
          refine PySem.W.kla_makeFunction (mg := X.mg) (c := c) (P := T.P) (ps := ps) (closure_ok hfree) I.ok.glob (I.mod.glob.keeps I.bk) hcode (TB.code.keeps I.bk) hP' tr hc TB.gP bP fun c' ctv h' tk' hx hge hlt hrec htb => ?_
          obtain ⟨c2, oc, vs, t, e2, hoc, hd, hv⟩ := hrec
          cases e2
          have nC : H c' = none := I.hok.fresh hge
          have hsz : sh.heap.objs.size ≤ h'.objs.size := Nat.le_trans hge (Nat.le_of_lt hlt)
          have I1 := LamX.inv_table (t' := tk') (q := X.env.qual ++ "<lambda>") (more := #[rawInt pos.line, rawInt pos.col, .ref c']) (h' := h') I hP (fun b o hb z => hx b o hb z) htb hge ⟨oc, vs, t, hoc, hd, hv⟩
          have I2 := I1.laid (t' := tk') (a := h'.objs.size) (o := FnO h'.objs.size (X.env.qual ++ "<lambda>") pr bd sc (cloFrom X.env.cells sc.names []) ((X.mg "__name__").getD .none) c' ctv)
            (h' := h'.push (PySem.W.kla_obj "<lambda>" (X.env.qual ++ "<lambda>") pr bd sc (cloFrom X.env.cells sc.names []) ((X.mg "__name__").getD .none) c' ctv)) (fun b u z => Heap.get?_push_of_some _ z) (Nat.le_refl _) (fnO_ok (Heap.get?_push_size _ rfl))
          have okC := ok.alloc nC (LamX.CodeO c' (X.env.qual ++ "<lambda>"))
          obtain ⟨le1, ok1⟩ := okC
          have nPc : T.P ≠ c' := ne_of_none hP nC
          have eL : (ps ++ #[rawInt pos.line, rawInt pos.col, .ref c']).toList = ps.toList ++ [rawInt pos.line, rawInt pos.col, .ref c'] := by simp
          have cell1 : CellOk G ⟨upd w.F c' (LamX.CodeO c' (X.env.qual ++ "<lambda>")), w.ρ⟩ (upd (upd H c' (LamX.CodeO c' (X.env.qual ++ "<lambda>"))) T.P (.tbl (ps ++ #[rawInt pos.line, rawInt pos.col, .ref c']))) T.P (.tab t') := by
            refine ⟨_, upd_same, (GL.tab _ _ _).mpr ⟨rfl, _, rfl, by rw [eL]; exact PySem.TriplesOk_snoc _ _ _ _ tr, fun p' cv hcv => ?_⟩⟩
            rw [eL] at hcv
            rcases LamX.among_app _ tr hcv with z | z
            · obtain ⟨c0, e1, e2⟩ := among p' cv z
              exact ⟨c0, e1, le1.f _ _ e2⟩
            · exact ⟨c', z, by rw [hq]; exact upd_same⟩
          have ok2 := ok1.cell (n := n) (a := T.P) hρ cell1
          have eS : s.st.set n (.tab t') = s.st := by
            apply List.ext_getElem?
            intro i
            by_cases hi : n = i
            · subst hi
              rw [List.getElem?_set_self (List.getElem?_eq_some_iff.mp e).1, e]
            · rw [List.getElem?_set_ne hi]
          rw [eS] at ok2
          have swap : upd (upd H c' (LamX.CodeO c' (X.env.qual ++ "<lambda>"))) T.P (.tbl (ps ++ #[rawInt pos.line, rawInt pos.col, .ref c'])) = upd (upd H T.P (.tbl (ps ++ #[rawInt pos.line, rawInt pos.col, .ref c']))) c' (LamX.CodeO c' (X.env.qual ++ "<lambda>")) := by
            funext b
            by_cases h1 : b = T.P
            · rw [h1, upd_same, upd_ne nPc, upd_same]
            · rw [upd_ne h1]
              by_cases h2 : b = c'
              · rw [h2, upd_same, upd_same]
              · rw [upd_ne h2, upd_ne h2, upd_ne h1]
          rw [swap] at ok2
          obtain ⟨le3, ok3⟩ := ok2.alloc (I1.hok.fresh (Nat.le_refl _)) (FnO h'.objs.size (X.env.qual ++ "<lambda>") pr bd sc (cloFrom X.env.cells sc.names []) ((X.mg "__name__").getD .none) c' ctv)
          refine ⟨.ref h'.objs.size, _, I2, rfl, q _ _ _ (le1.trans le3) ok3 (.lam ((GL.lam _ _ _ (by rw [hs]; rfl)).mpr ⟨pr, bd, sc, (X.mg "__name__").getD .none, c', ctv, hs, ?_, ?_⟩))⟩
          · rw [hq, hcl]; exact upd_same
          · rw [hq]
            exact le3.f _ _ upd_same
        | some cv =>
          obtain ⟨c', ecv, hco⟩ := among pos cv hc
          subst ecv
          refine PySem.W.kla_makeFunctionHit (mg := X.mg) (c := c) (P := T.P) (ps := ps) (closure_ok hfree) I.ok.glob (I.mod.glob.keeps I.bk) hcode (TB.code.keeps I.bk) hP' tr hc bP fun ctv h' tk' hx hsz => ?_
          have I2 := I.laid (t' := tk') (a := h'.objs.size) (o := FnO h'.objs.size (X.env.qual ++ "<lambda>") pr bd sc (cloFrom X.env.cells sc.names []) ((X.mg "__name__").getD .none) c' ctv)
            (h' := h'.push (PySem.W.kla_obj "<lambda>" (X.env.qual ++ "<lambda>") pr bd sc (cloFrom X.env.cells sc.names []) ((X.mg "__name__").getD .none) c' ctv)) (fun b u z => Heap.get?_push_of_some _ (hx b u z)) hsz (fnO_ok (Heap.get?_push_size _ rfl))
          obtain ⟨le3, ok3⟩ := ok.alloc (I.hok.fresh hsz) (FnO h'.objs.size (X.env.qual ++ "<lambda>") pr bd sc (cloFrom X.env.cells sc.names []) ((X.mg "__name__").getD .none) c' ctv)
          refine ⟨.ref h'.objs.size, _, I2, rfl, q _ _ _ le3 ok3 (.lam ((GL.lam _ _ _ (by rw [hs]; rfl)).mpr ⟨pr, bd, sc, (X.mg "__name__").getD .none, c', ctv, hs, ?_, ?_⟩))⟩
          · rw [hq, hcl]; exact upd_same
          · exact le3.f _ _ hco
      · rw [if_neg ht] at q
        exact q.elim
    | _ => exact q.elim
end
end DL
set_option maxRecDepth 100000
set_option maxHeartbeats 4000000
set_option autoImplicit false
namespace DL
open PySem PySem.Spec PyProof.Rows L2
/-! ### data without lambdas -/
mutual
def noLam : D → Bool
  | .tup xs => noLams xs
  | .lst xs => noLams xs
  | .scr xs => noLams xs
  | .dic kvs => noLamK kvs
  | .dct kvs => noLamT kvs
  | .ins _ fs => noLamF fs
  | .lam _ => false
  | _ => true
def noLams : List D → Bool
  | [] => true
  | x :: r => noLam x && noLams r
def noLamK : List (DK × D) → Bool
  | [] => true
  | x :: r => noLam x.2 && noLamK r
def noLamF : List (Nm × D) → Bool
  | [] => true
  | x :: r => noLam x.2 && noLamF r
def noLamT : List (List DK × D) → Bool
  | [] => true
  | x :: r => noLam x.2 && noLamT r
end
def noLamC : Cell → Bool
  | .dic kvs => noLamK kvs
  | .lst xs => noLams xs
  | .obj _ fs => noLamF fs
  | .tab _ => true
  | .dct kvs => noLamT kvs
def noLamS : List Cell → Bool
  | [] => true
  | c :: r => noLamC c && noLamS r
/-- other words for lambdas -/
def Gam.sw (G : Gam) (lam : String → Addr → Wd → Prop) (lamM : ∀ (k : String) (f : Addr) (w w' : Wd), w.le w' → lam k f w → lam k f w') : Gam := { G with lam := lam, lamM := lamM }
section
variable {G : Gam} {lam : String → Addr → Wd → Prop} {lamM : ∀ (k : String) (f : Addr) (w w' : Wd), w.le w' → lam k f w → lam k f w'} {w : Wd}
mutual
theorem Rep.sw : ∀ {v : V} {d : D}, (noLam d = true ∨ ∀ k f, G.lam k f w → lam k f w) → Rep G w v d → Rep (G.sw lam lamM) w v d
  | _, _, _, .non => .non
  | _, _, _, .bl b => .bl b
  | _, _, _, .int i => .int i
  | _, _, _, .str l => .str l
  | _, _, h, .tup a b => .tup a (Reps.sw h b)
  | _, _, h, .lst a b => .lst a (Reps.sw h b)
  | _, _, h, .scr a b => .scr a (Reps.sw h b)
  | _, _, h, .dic a b => .dic a (RepK.sw h b)
  | _, _, h, .dct a b c d => .dct a (RepT.sw h b) c d
  | _, _, h, .ins c a b => .ins c a (RepF.sw h b)
  | _, _, _, .cell a => .cell a
  | _, _, _, .cls a => .cls a
  | _, _, _, .ty n => .ty n
  | _, _, _, .fn a => .fn a
  | _, _, h, .lam a => .lam (h.elim (fun z => nomatch z) fun z => z _ _ a)
theorem Reps.sw : ∀ {v : List V} {d : List D}, (noLams d = true ∨ ∀ k f, G.lam k f w → lam k f w) → Reps G w v d → Reps (G.sw lam lamM) w v d
  | _, _, _, .nil => .nil
  | _, _, h, .cons a b => .cons (Rep.sw (h.imp (fun z => ((Bool.and_eq_true _ _).mp z).1) id) a) (Reps.sw (h.imp (fun z => ((Bool.and_eq_true _ _).mp z).2) id) b)
theorem RepF.sw : ∀ {v : List (Str × V)} {d : List (Nm × D)}, (noLamF d = true ∨ ∀ k f, G.lam k f w → lam k f w) → RepF G w v d → RepF (G.sw lam lamM) w v d
  | _, _, _, .nil => .nil
  | _, _, h, .cons a b => .cons (Rep.sw (h.imp (fun z => ((Bool.and_eq_true _ _).mp z).1) id) a) (RepF.sw (h.imp (fun z => ((Bool.and_eq_true _ _).mp z).2) id) b)
theorem RepK.sw : ∀ {v : List (Key × V)} {d : List (DK × D)}, (noLamK d = true ∨ ∀ k f, G.lam k f w → lam k f w) → RepK G w v d → RepK (G.sw lam lamM) w v d
  | _, _, _, .nil => .nil
  | _, _, h, .cons a b => .cons (Rep.sw (h.imp (fun z => ((Bool.and_eq_true _ _).mp z).1) id) a) (RepK.sw (h.imp (fun z => ((Bool.and_eq_true _ _).mp z).2) id) b)
theorem RepT.sw : ∀ {v : List DictEntry} {d : List (List DK × D)}, (noLamT d = true ∨ ∀ k f, G.lam k f w → lam k f w) → RepT G w v d → RepT (G.sw lam lamM) w v d
  | _, _, _, .nil => .nil
  | _, _, h, .cons s r a b => .cons s r (Rep.sw (h.imp (fun z => ((Bool.and_eq_true _ _).mp z).1) id) a) (RepT.sw (h.imp (fun z => ((Bool.and_eq_true _ _).mp z).2) id) b)
end
theorem CellOk.sw {H : Hp} {a : Addr} {c : Cell} (h : noLamC c = true ∨ ∀ k f, G.lam k f w → lam k f w) (k : CellOk G w H a c) : CellOk (G.sw lam lamM) w H a c := by
  cases c with
  | dic kvs => obtain ⟨vs, e, r⟩ := k; exact ⟨vs, e, r.sw h⟩
  | lst xs => obtain ⟨vs, e, r⟩ := k; exact ⟨vs, e, r.sw h⟩
  | obj c fs => obtain ⟨C, dx, vs, q, e, r⟩ := k; exact ⟨C, dx, vs, q, e, r.sw h⟩
  | tab t => exact k
  | dct kvs => obtain ⟨es, ep, e, r, q⟩ := k; exact ⟨es, ep, e, r.sw h, q⟩
theorem noLamS_get : ∀ {S : List Cell} {n : Nat} {c : Cell}, noLamS S = true → S[n]? = some c → noLamC c = true
  | [], _, _, _, e => by simp at e
  | x :: r, 0, c, h, e => by
    simp at e; subst e
    exact ((Bool.and_eq_true _ _).mp h).1
  | x :: r, n + 1, c, h, e => noLamS_get (S := r) (n := n) ((Bool.and_eq_true _ _).mp h).2 (by simpa using e)
theorem FOk.sw {S : List Cell} {H : Hp} (h : noLamS S = true ∨ ∀ k f, G.lam k f w → lam k f w) (k : FOk G w S H) : FOk (G.sw lam lamM) w S H :=
  ⟨k.sub, k.len, fun n a c e1 e2 => (k.cel n a c e1 e2).sw (h.imp (fun z => noLamS_get z e2) id), k.nd, k.nf⟩
theorem RepX.sw {c : Value} {dd : Option Addr} {x : Xc} (h : noLamF x.fs = true ∨ ∀ k f, G.lam k f w → lam k f w) (k : RepX G w c dd x) : RepX (G.sw lam lamM) w c dd x := by
  obtain ⟨C, h1, h2, h3⟩ := k
  refine ⟨C, h1, h2, h3.imp id fun ⟨a, vs, q1, q2, q3⟩ => ⟨a, vs, q1, q2, q3.sw h⟩⟩
theorem Rep.bk {v : V} {d : D} (h : noLam d = true ∨ ∀ k f, lam k f w → G.lam k f w) (k : Rep (G.sw lam lamM) w v d) : Rep G w v d := Rep.sw (G := G.sw lam lamM) (lam := G.lam) (lamM := G.lamM) h k
theorem FOk.bk {S : List Cell} {H : Hp} (h : noLamS S = true ∨ ∀ k f, lam k f w → G.lam k f w) (k : FOk (G.sw lam lamM) w S H) : FOk G w S H := FOk.sw (G := G.sw lam lamM) (lam := G.lam) (lamM := G.lamM) h k
theorem RepX.bk {c : Value} {dd : Option Addr} {x : Xc} (h : noLamF x.fs = true ∨ ∀ k f, lam k f w → G.lam k f w) (k : RepX (G.sw lam lamM) w c dd x) : RepX G w c dd x := RepX.sw (G := G.sw lam lamM) (lam := G.lam) (lamM := G.lamM) h k
end
/-! ### a def that makes lambdas -/
def fnDL (n : Nat) (body : DStm) (m : Nat) : DFn := fun ds S => if noLams ds = true ∧ noLamS S = true then match fnD n body m ds S with
  | .ok d S' => if noLam d = true ∧ noLamS S' = true then .ok d S' else .stuck
  | .exc x S' => if noLamF x.fs = true ∧ noLamS S' = true then .exc x S' else .stuck
  | .stuck => .stuck
  else .stuck
/-- the frame's own words for its lambdas -/
theorem fn_okDL {G : Gam} {P : Program} {w0 : World} {mg : Str → Option Value} {base : Heap} {x qual : Str} {st : Stmt} {f : Addr} {fd : FuncData} {N ps : List Str} {k n m : Nat} {body : DStm} (F : Fun G.K x qual st f fd) (S : FnScope N ps (defScope st)) (hn : ps.length = n) (hm : N.length - n = m)
    (T : Nat → LamT)
    (hbody : ∀ (cdv : Value), fd.code = cdv → ∀ (A : Around) (outer : List Env) (s : Shared) (H : Hp) (E : XK), Room k (A.deeper (envOfC qual (defScope st) s.heap.objs.size f cdv)) →
      Takes (cxOf (L2.CX P w0) P w0 G.K mg base N qual (defScope st) f cdv A outer s H E) (fun c d _ H => E c d H) → PassesOwn (model P w0) (A.deeper (envOfC qual (defScope st) s.heap.objs.size f cdv)) (envOfC qual (defScope st) s.heap.objs.size f cdv) (cxOf (L2.CX P w0) P w0 G.K mg base N qual (defScope st) f cdv A outer s H E).xe →
      PDSs (G.sw (T s.heap.objs.size).lam (T s.heap.objs.size).lamM) (fun c d _ H => E c d H) (cxOf (L2.CX P w0) P w0 G.K mg base N qual (defScope st) f cdv A outer s H E) (defBody st) body) : FnOk P w0 G.K mg base (L2.CX P w0) (k + 1) f fd ps (spG G n (fnDL n body m)) := by
  obtain ⟨oc, od, kV, doc, pm, an, cdv, ct, osl, rfl, lk, hcd⟩ := F.ex
  refine fn_of lk hcd S (fun vs H Q E h => by rw [h.1, hn]) fun A outer s H vs Q E hr h => ?_
  refine ⟨_, hbody cdv rfl A outer s H E hr (takes_of rfl rfl rfl rfl) (passes_of rfl), ?_⟩
  obtain ⟨hl, w, S', ds, fok, rs, q⟩ := h
  have hd : ds.length = n := by rw [← rs.length]; exact hl
  unfold fnDL at q
  by_cases hno : noLams ds = true ∧ noLamS S' = true
  case neg => rw [if_neg hno] at q; exact q.elim
  rw [if_pos hno] at q
  rw [start_eq (m := m) (by rw [hl]; exact hm)]
  have fok' := fok.sw (lam := (T s.heap.objs.size).lam) (lamM := (T s.heap.objs.size).lamM) (.inl hno.2)
  have rs' := rs.sw (lam := (T s.heap.objs.size).lam) (lamM := (T s.heap.objs.size).lamM) (.inl hno.1)
  refine ⟨⟨w, H, [], none⟩, w, _, Ok.start fok' rs' m, ?_⟩
  unfold fnD at q
  rw [if_pos hd] at q
  cases e : body ⟨ds.map Sl.val ++ List.replicate m .un, S'⟩ with
  | stuck => rw [e] at q; exact q.elim
  | exc x s' =>
    rw [e] at q
    replace q : PostF G (Rep G) w H (if noLamF x.fs = true ∧ noLamS s'.st = true then .exc x s'.st else .stuck) Q E := q
    by_cases hx : noLamF x.fs = true ∧ noLamS s'.st = true
    case neg => rw [if_neg hx] at q; exact q.elim
    rw [if_pos hx] at q
    exact fun w' σ' c dd H' le ok' rx => q w' c dd H' ok'.nx (ok'.fok.bk (.inl hx.2)) (rx.bk (.inl hx.1))
  | ok o s' =>
    rw [e] at q
    have key : ∀ d, PostF G (Rep G) w H (if noLam d = true ∧ noLamS s'.st = true then .ok d s'.st else .stuck) Q E → ∀ (w' : Wd) (v : L2.St × V) (H' : Hp), Ok (G.sw (T s.heap.objs.size).lam (T s.heap.objs.size).lamM) ⟨w, H, [], none⟩ w' s' v.1 H' → Rep (G.sw (T s.heap.objs.size).lam (T s.heap.objs.size).lamM) w' v.2 d → Q v.2 H' := fun d q w' v H' ok' r' => by
      by_cases hx : noLam d = true ∧ noLamS s'.st = true
      case neg => rw [if_neg hx] at q; exact q.elim
      rw [if_pos hx] at q
      exact q w' v.2 H' ok'.nx (ok'.fok.bk (.inl hx.2)) (r'.bk (.inl hx.1))
    cases o with
    | nx => exact fun w' σ' H' le ok' => key .non q w' (σ', .non) H' ok' .non
    | rt d => exact fun w' σ' v H' le ok' r' => key d q w' (σ', v) H' ok' r'
    | bk => exact q.elim
    | ct => exact q.elim
/-! ### a lambda called in the def that it was handed to -/
abbrev LamR := String → List Cell → Res (List Cell) D
def eAct (Λ : LamR) (i : Nat) : DE := fun s => match s.sl[i]? with
  | some (.val (.lam k)) => lift s (Λ k s.st)
  | _ => .stuck
def stripS : Sl → Sl
  | .val d => .val d
  | _ => .un
def lamRun (b : DE) (sl : List Sl) (st : List Cell) : Res (List Cell) D := match b ⟨sl.map stripS, st⟩ with
  | .ok d s' => .ok d s'.st
  | .exc x s' => .exc x s'.st
  | .stuck => .stuck
def lamR (bs : String → Option DE) (sl : List Sl) : LamR := fun k st => match bs k with
  | some b => lamRun b sl st
  | none => .stuck
def eCallL (n : Nat) (g : LamR → DFn) (bs : String → Option DE) (fa : DA) : DE := fun s => (fa s).bind fun ds s1 => if ds.length = n then lift s1 (g (lamR bs s1.sl) ds s1.st) else .stuck
theorem Ok.strip {G : Gam} {κ : Bs} {w w' : Wd} {s : DS} {σ : L2.St} {H H' : Hp} {S' : List Cell} (h : Ok G κ w s σ H) (le : w.le w') (f : FOk G w' S' H') : Ok G ⟨w', H', [], none⟩ w' ⟨s.sl.map stripS, S'⟩ σ H' := by
  have no : ∀ (i : Nat) (x : Sl), (s.sl.map stripS)[i]? = some x → x.own = false := fun i x e => by
    rw [List.getElem?_map] at e
    cases q : s.sl[i]? with
    | none => rw [q] at e; cases e
    | some y => rw [q] at e; cases e; cases y <;> rfl
  refine ⟨f, .refl _ _, by simp [h.len], fun i d e => ?_, fun i x e o => ?_, fun i j x y a e1 e2 o1 o2 _ _ => ?_, fun p hp => by simp at hp, fun a z => nomatch z⟩
  · replace e : (s.sl.map stripS)[i]? = some (.val d) := e
    rw [List.getElem?_map] at e
    cases q : s.sl[i]? with
    | none => rw [q] at e; cases e
    | some y =>
      rw [q] at e
      cases y with
      | val d' =>
        cases e
        obtain ⟨v, h1, h2⟩ := h.val i d q
        exact ⟨v, h1, h2.mono le⟩
      | _ => cases e
  · rw [no i x e] at o; cases o
  · rw [no i x e1] at o1; cases o1
/-- the words while w stands below -/
def Gam.at (G : Gam) (w : Wd) : Gam := G.sw (fun k f w' => G.lam k f w' ∧ w.le w') (fun k f a b le h => ⟨G.lamM k f a b le h.1, h.2.trans le⟩)
/-- the bodies of a maker's lambdas -/
structure LamB (G : Gam) (X : Cx) (k : Nat) (pr : Arguments) (bd : Expr) (sc : Scope) (b : DE) : Prop where
  L : LamX.LamS X.env.scope sc
  bind : ∀ (q : Str) (cl : List (Str × Addr)) (pm cv ctv : Value), bindArgs (PySem.W.kla_fn "<lambda>" q pr bd sc cl pm cv ctv) ⟨[], []⟩ = pure []
  body : ∀ (A : Around) (outer : List Env) (s : Shared) (H : Hp) (E : XK) (f c' : Addr), Room k (A.deeper (LamX.lamEnv X sc s.heap.objs.size f c')) → Takes (LamX.lamCx X A outer s H E sc f c') (fun c d _ H => E c d H) →
    PD G (fun c d _ H => E c d H) (LamX.lamCx X A outer s H E sc f c') bd b
def LamsOk (G : Gam) (X : Cx) (T : LamT) (k : Nat) (bs : String → Option DE) : Prop := ∀ (n : String) (b : DE), bs n = some b → ∃ pr bd sc, T.site n = some (pr, bd, sc) ∧ LamB G X k pr bd sc b
section
variable {G : Gam} {W : WX} {X : Cx}
theorem pd_act {T : LamT} {bs : String → Option DE} {pins : List (Addr × Obj)} {σ : L2.St} {H : Hp} {sh : Shared} {κ : Bs} {w : Wd} {s : DS} {k i : Nat} {Ng : List Str} {qg : Str} {sg : Scope} {g : Addr} {cdg : Value} {Eg : XK} {pn : List (Addr × Obj)} {xe : Value → Shared → Prop} {a : Str} {Wz : WX} {p1 p2 : Pos}
    (I : Inv X pins σ H sh) (ok : Ok G κ w s σ H) (GL : ∀ n f w', G.lam n f w' → T.lam n f w') (hq : T.q = X.env.qual ++ "<lambda>") (hcl : T.cells = X.env.cells) (hbs : LamsOk G X T k bs)
    (tk : Takes ((cxOf (L2.CX X.prog X.w) X.prog X.w X.K X.mg X.base Ng qg sg g cdg X.A X.stack sh H Eg).tr pn xe) Wz) (hr : Room (k + 1) (X.A.deeper (envOfC qg sg sh.heap.objs.size g cdg)))
    (hN : Ng[i]? = some a) (hv : Vis sg a) (hd : (a == ("__debug__" : Str)) = false := by decide) (hcd : (a == ("__classdict__" : Str)) = false := by decide) :
    PD (G.at w) Wz ((cxOf (L2.CX X.prog X.w) X.prog X.w X.K X.mg X.base Ng qg sg g cdg X.A X.stack sh H Eg).tr pn xe) (.Call (.Name a p1) [] [] p2) (eAct (lamR bs s.sl) i) := by
  refine ⟨fun pinsZ sZ σZ HZ Q IZ ⟨κZ, wZ, dZ, okZ, q⟩ => ?_⟩
  have ⟨n, e⟩ : ∃ n, dZ.sl[i]? = some (.val (.lam n)) := by
    unfold eAct at q
    split at q
    · exact ⟨_, by assumption⟩
    · exact q.elim
  simp only [eAct, e] at q
  obtain ⟨v, hs, rep⟩ := okZ.val i _ e
  cases rep with
  | @lam f _ hl =>
  obtain ⟨hl, le⟩ := hl
  have ⟨b, hb⟩ : ∃ b, bs n = some b := by
    unfold lamR at q
    split at q
    · exact ⟨_, by assumption⟩
    · exact q.elim
  simp only [lamR, hb] at q
  obtain ⟨pr, bd, sc, hsite, B⟩ := hbs n b hb
  obtain ⟨pr', bd', sc', pm, c', ctv, hsite', hF, hC⟩ := GL _ _ _ hl
  rw [hsite] at hsite'
  cases hsite'
  have hf0 := okZ.fok.sub _ _ hF
  have hc0 := okZ.fok.sub _ _ hC
  refine wpAny_Call_Name_kw (thn ((pe_var (pos := p1) (i := i) hN hv hd hcd).run pinsZ sZ σZ HZ (fun v H1 => v = .ref f ∧ H1 = HZ) IZ ⟨.ref f, hs, rfl, rfl⟩) fun u s1 ⟨v, H1, I1, r1, q1⟩ => ?_)
  obtain ⟨ev, eH⟩ := q1
  subst ev
  rw [eH] at I1
  obtain rfl : u = Value.ref f := r1
  have of1 : s1.heap.get? f = some (PySem.W.kla_obj "<lambda>" T.q pr bd sc (cloFrom T.cells sc.names []) pm c' ctv) := (I1.hok f _ hf0).1
  obtain ⟨⟨oc, vs, t, hoc, hdc, hvc⟩, _, _⟩ := I1.hok c' _ hc0
  rw [hq, hcl] at of1
  rw [hq] at hvc
  refine PySem.W.callWith_F0 ⟨_, _, _, _, of1⟩ ?_
  have un : Un (frs X.stack) [] H HZ sh.heap s1.heap := I1.base
  have rc : codeAny (model X.prog X.w) (X.A.deeper (envOfC qg sg sh.heap.objs.size g cdg)) (.call (.ref f) ⟨[], []⟩) (CR (L2.CX X.prog X.w) (envOfC qg sg sh.heap.objs.size g cdg :: X.stack) X.prog X.w HZ s1 Q (WE Wz σZ)) s1 := by
    refine PySem.W.kla_callFunE hr.depth of1 rfl B.L.co B.L.gen rfl ⟨c', oc, vs, t, rfl, hoc, hdc, hvc⟩ ?_
    rw [B.bind]
    refine wpAny_pure (wpAny_newFunctionEnv (fun y hy => (B.L.own y hy).2) (fun y hy => absurd hy (by simp)) (fun h₁ hns hsb => ⟨I1.nolimit.fresh _ hsb, ?_⟩) B.L.kind)
    show codeAny _ _ (.expr bd (LamX.lamEnv X sc s1.heap.objs.size f c')) _ _
    have kp : ∀ b o, s1.heap.get? b = some o → h₁.get? b = some o := fun b o e => hsb.extBut b o (Nat.ne_of_lt (Heap.lt_size e)) (Heap.get?_push_of_some _ e)
    have J : Inv (LamX.lamCx X (X.A.deeper (envOfC qg sg sh.heap.objs.size g cdg)) (envOfC qg sg sh.heap.objs.size g cdg :: X.stack) s1 HZ (WE Wz σZ) sc f c') [] σ HZ { s1 with heap := h₁, toks := s1.toks + ([] : List (Str × Value)).length } :=
      LamX.lam_start2 I B.L I1.env0 hr.hd un hns kp
    have okB := ok.strip le (okZ.fok.bk (.inr fun _ _ z => z.1))
    have ht : tD G (fun c d _ H => WE Wz σZ c d H) b σ HZ Q := by
      refine ⟨_, _, _, okB, ?_⟩
      unfold lamRun at q
      cases er : b ⟨s.sl.map stripS, dZ.st⟩ with
      | stuck => rw [er] at q; exact q.elim
      | ok d s' =>
        rw [er] at q
        intro w' v' H' le' ok' r'
        exact q w' v' H' le' (okZ.step ok'.nx (ok'.fok.sw (.inr fun _ _ z => ⟨z, le.trans le'⟩))) (r'.sw (.inr fun _ _ z => ⟨z, le.trans le'⟩))
      | exc x s' =>
        rw [er] at q
        intro w' cl dd H' le' ok' r'
        exact q w' cl dd H' le' (okZ.step ok'.nx (ok'.fok.sw (.inr fun _ _ z => ⟨z, le.trans le'⟩))) (r'.sw (.inr fun _ _ z => ⟨z, le.trans le'⟩))
    refine PySem.W.kla_codeExpr (wpAny_mono ((B.body _ _ s1 HZ _ _ _ (hr.deeper _) (takes_of rfl rfl rfl rfl)).run [] _ _ HZ Q J ht) (fun v s' hq => ?_) fun e s' hq => hq)
    obtain ⟨w', H', J', rv, q⟩ := hq
    exact ⟨w', H', J'.os, J'.bare, J'.base, J'.hok, rv, q⟩
  refine wpAny_call (codeAny_mono rc fun r s' hq => ?_)
  cases r with
  | error e => exact passAt tk σZ pinsZ HZ s1 e s' I1 hq
  | ok fl =>
    cases fl with
    | ret u => exact I1.after hq
    | next => exact False.elim hq
    | brk => exact False.elim hq
    | cont => exact False.elim hq
/-- the body of a def that is handed lambdas -/
def BodyL (G : Gam) (P : Program) (w0 : World) (mg : Str → Option Value) (base : Heap) (k : Nat) (N : List Str) (qual : Str) (st : Stmt) (f : Addr) (a : Str) (i : Nat) (body : LamR → DStm) : Prop :=
  ∀ (Λ : LamR) (cdv : Value) (A : Around) (outer : List Env) (s : Shared) (H : Hp) (E : XK), Room k (A.deeper (envOfC qual (defScope st) s.heap.objs.size f cdv)) →
    Takes (cxOf (L2.CX P w0) P w0 G.K mg base N qual (defScope st) f cdv A outer s H E) (fun c d _ H => E c d H) → PassesOwn (model P w0) (A.deeper (envOfC qual (defScope st) s.heap.objs.size f cdv)) (envOfC qual (defScope st) s.heap.objs.size f cdv) (cxOf (L2.CX P w0) P w0 G.K mg base N qual (defScope st) f cdv A outer s H E).xe →
    (∀ (pn : List (Addr × Obj)) (xe : Value → Shared → Prop) (W : WX) (p1 p2 : Pos), Takes ((cxOf (L2.CX P w0) P w0 G.K mg base N qual (defScope st) f cdv A outer s H E).tr pn xe) W → PD G W ((cxOf (L2.CX P w0) P w0 G.K mg base N qual (defScope st) f cdv A outer s H E).tr pn xe) (.Call (.Name a p1) [] [] p2) (eAct Λ i)) →
    PDSs G (fun c d _ H => E c d H) (cxOf (L2.CX P w0) P w0 G.K mg base N qual (defScope st) f cdv A outer s H E) (defBody st) (body Λ)
theorem pd_callL {T : LamT} {bs : String → Option DE} {k n m i : Nat} {f : Addr} {fd : FuncData} {N ps : List Str} {body : LamR → DStm} {x qual a : Str} {st : Stmt} {p pos : Pos} {e : Expr} {es : List Expr} {fa : DA} (hK : G.K = X.K) (F : Fun X.K x qual st f fd) (S : FnScope N ps (defScope st)) (hn : ps.length = n) (hm : N.length - n = m)
    (GL : ∀ n f w', G.lam n f w' → T.lam n f w') (hq : T.q = X.env.qual ++ "<lambda>") (hcl : T.cells = X.env.cells) (hbs : LamsOk G X T k bs)
    (hbody : ∀ w, BodyL (G.at w) X.prog X.w X.mg X.base (k + 1) N qual st f a i body) (hN : N[i]? = some a) (hv : Vis (defScope st) a)
    (hr : Room (k + 2) X.A) (hg : Gl X x) (hmg : X.mg x = some (.ref f)) (hb : Binds X.K fd ps []) (tk : Takes X W) (ha : PDA G W X (e :: es) fa) (hdb : (x == ("__debug__" : Str)) = false := by decide) (hda : (a == ("__debug__" : Str)) = false := by decide) (hcd : (a == ("__classdict__" : Str)) = false := by decide)
    (he : starEach (e :: es) X.env = (false, eval e X.env) :: starEach es X.env := by rfl) (hpl : (backTo pos (starEach es X.env)).any (·.1) = false := by rfl) : PD G W X (.Call (.Name x p) (e :: es) [] pos) (eCallL n (fun Λ => fnD n (body Λ) m) bs fa) := by
  refine ⟨fun pins s σ H Q I h => ?_⟩
  obtain ⟨κ, w, ds, ok, q⟩ := h
  refine wpAny_Call_Name_kw (ld_glob I hg hmg ?_ hdb)
  have hh : tDA G W fa σ H fun vs H1 => ∃ d s1 w1, w.le w1 ∧ Ok G κ w1 s1 σ H1 ∧ Reps G w1 vs d ∧ PostG G W (Rep G) κ w1 σ (if d.length = n then lift s1 (fnD n (body (lamR bs s1.sl)) m d s1.st) else .stuck) Q := ⟨κ, w, ds, ok, PostG.bind q⟩
  refine PySem.W.callWith_K (h₀ := X.base) I.ok.mod.kin F.kp (thn (ha.run pos pins s σ H _ I hh) fun us s1 ⟨vs, H1, I1, r, d, s2, w1, le, ok1, rs, q1⟩ => ⟨I1.kIn, ?_⟩) he hpl
  by_cases c : d.length = n
  case neg => rw [if_neg c] at q1; exact q1.elim
  rw [if_pos c] at q1
  have q2 := postF_of ok1 q1
  obtain ⟨oc, od, kV, doc, pm, an, cdv, ct, osl, rfl, lk, hcode⟩ := F.ex
  have hl : vs.length = n := by rw [rs.length]; exact c
  have hul : us.length = ps.length := by rw [← r.length, hl, hn]
  have rc : codeAny (model X.prog X.w) X.A (.call (.ref f) ⟨us, []⟩) (CR (L2.CX X.prog X.w) X.stack X.prog X.w H1 s1 Q (WE W σ)) s1 := by
    have hbd := hb s1 us I1.kIn (by simpa using hul)
    rw [List.append_nil] at hbd
    refine LamX.run_ofS (N := N) (ps := ps) (us := us) (vs := vs) lk hcode S hr I1.env0 hbd r (by rw [hl, hn]) fun hr' => ?_
    have hb0 := hbody w1 (lamR bs s2.sl) cdv X.A X.stack s1 H1 (WE W σ) hr' (takes_of rfl rfl rfl rfl) (passes_of rfl) 
    have hK' : (G.at w1).K = X.K := hK
    rw [hK'] at hb0
    refine ⟨_, hb0 fun pn xe W' p1 p2 tk' => pd_act I1 ok1 GL hq hcl hbs tk' hr' hN hv hda hcd, ?_⟩
    rw [start_eq (m := m) (by rw [hl]; exact hm)]
    have fok' : FOk (G.at w1) w1 s2.st H1 := ok1.fok.sw (.inr fun _ _ z => ⟨z, .refl _⟩)
    have rs' : Reps (G.at w1) w1 vs d := rs.sw (.inr fun _ _ z => ⟨z, .refl _⟩)
    refine ⟨⟨w1, H1, [], none⟩, w1, _, Ok.start fok' rs' m, ?_⟩
    unfold fnD at q2
    rw [if_pos c] at q2
    cases e : body (lamR bs s2.sl) ⟨d.map Sl.val ++ List.replicate m .un, s2.st⟩ with
    | stuck => rw [e] at q2; exact q2.elim
    | exc x s' =>
      rw [e] at q2
      exact fun w' σ' c dd H' le ok' rx => q2 w' c dd H' ok'.nx (ok'.fok.bk (.inr fun _ _ z => z.1)) (rx.bk (.inr fun _ _ z => z.1))
    | ok o s' =>
      rw [e] at q2
      cases o with
      | nx => exact fun w' σ' H' le ok' => q2 w' .non H' ok'.nx (ok'.fok.bk (.inr fun _ _ z => z.1)) .non
      | rt d => exact fun w' σ' v H' le ok' r' => q2 w' v H' ok'.nx (ok'.fok.bk (.inr fun _ _ z => z.1)) (r'.bk (.inr fun _ _ z => z.1))
      | bk => exact q2.elim
      | ct => exact q2.elim
  refine wpAny_call (codeAny_mono rc fun r s' hq => ?_)
  cases r with
  | error e => exact passAt tk σ pins H1 s1 e s' I1 hq
  | ok fl =>
    cases fl with
    | ret u => exact I1.after hq
    | next => exact False.elim hq
    | brk => exact False.elim hq
    | cont => exact False.elim hq
end
end DL
set_option maxRecDepth 100000
set_option maxHeartbeats 4000000
set_option autoImplicit false
namespace DL
open PySem PySem.Spec PyProof.Rows L2
/-! ### the law's end, with tables of code objects -/
def tabP (P : Addr) (q : Str) : Addr → Hp → HO → Prop := fun a F o => a = P ∧ ∃ ps : Array Value, o = .tbl ps ∧ TriplesOk ps.toList ∧ ∀ (pos : Pos) (cv : Value), codeAmong pos ps.toList = some cv → ∃ c, cv = .ref c ∧ F c = some (LamX.CodeO c q)
theorem tabP_nil (P : Addr) (q : Str) (F : Hp) : tabP P q P F (.tbl #[]) := ⟨rfl, #[], rfl, True.intro, fun pos cv hc => by
  have hc : codeAmong pos [] = some cv := hc
  simp [codeAmong] at hc⟩
def tabG (ms : List (String × Addr × Str)) : String → Addr → Hp → HO → Prop := fun k a F o => ∃ m, ms.lookup k = some m ∧ tabP m.1 m.2 a F o
theorem tabG_mono (ms : List (String × Addr × Str)) (k : String) (a : Addr) (F F' : Hp) (o : HO) (e : ∀ a o, F a = some o → F' a = some o) : tabG ms k a F o → tabG ms k a F' o := fun ⟨m, hm, h0, ps, h1, h2, h3⟩ => ⟨m, hm, h0, ps, h1, h2, fun pos cv hc => by
  obtain ⟨c, z1, z2⟩ := h3 pos cv hc
  exact ⟨c, z1, e _ _ z2⟩⟩
theorem glam_of {G : Gam} {ms : List (String × Addr × Str)} {tk : String} {T : LamT} (ht : G.tab = tabG ms) (hl : ms.lookup tk = some (T.P, T.q)) (hlam : ∀ k f w, G.lam k f w ↔ T.lam k f w) : GLam G tk T := by
  refine ⟨fun a F o => ?_, fun k f w _ => hlam k f w⟩
  rw [ht]
  constructor
  · rintro ⟨m, hm, h⟩
    rw [hl] at hm
    cases hm
    exact h
  · intro h
    exact ⟨_, hl, h⟩
def spLawT (K : PySem.W.Frag) (Ps : List Addr) : Sp := fun vs H Q _ => ∃ (a : Addr) (ns : List Int), vs = [.ref a] ∧ SqL K H a (ns.map V.int) ∧ ns.length ≤ 63 ∧ (∀ z ∈ ns, Builtin.Int.intBits z ≤ 1048576) ∧ (∀ P ∈ Ps, H P = some (.tbl #[])) ∧ ∀ H', Q (.bl true) H'
theorem law_endT {G : Gam} {P : Program} {w0 : World} {mg : Str → Option Value} {base : Heap} {k : Nat} {f : Addr} {fd : FuncData} {ps : List Str} {g : DFn} {Ms : List (String × Addr)} (F : FnOk P w0 G.K mg base (L2.CX P w0) k f fd ps (spG G 1 g)) (nd : (Ms.map (·.2)).Nodup)
    (ht : ∀ m ∈ Ms, ∀ F, G.tab m.1 m.2 F (.tbl #[]))
    (h : ∀ ns : List Int, ns.length ≤ 63 → (∀ z ∈ ns, Builtin.Int.intBits z ≤ 1048576) → ∃ S, g [.scr (ns.map D.int)] (Ms.map fun m => .tab m.1) = .ok (.bl true) S) : FnOk P w0 G.K mg base (L2.CX P w0) k f fd ps (spLawT G.K (Ms.map (·.2))) :=
  F.imp fun vs H Q E ⟨a, ns, e, hS, hl, hb, hP, q⟩ => by
    obtain ⟨S, hg⟩ := h ns hl hb
    subst e
    have hF : ∀ b, b ∉ Ms.map (·.2) → (fun b => if b ∈ Ms.map (·.2) then none else H b : Hp) b = H b := fun b hb => if_neg hb
    have nt : ∀ o, H a = some o → (∀ ps, o ≠ .tbl ps) → a ∉ Ms.map (·.2) := fun o e n z => n #[] (Option.some.inj (e.symm.trans (hP a z)))
    refine ⟨rfl, ⟨fun b => if b ∈ Ms.map (·.2) then none else H b, Ms.map (·.2)⟩, Ms.map fun m => .tab m.1, [.scr (ns.map D.int)], ⟨fun b o e => ?_, by simp, fun n b c e1 e2 => ?_, nd, fun b hb => if_pos hb⟩, .cons (.scr ?_ (Reps.of_ints ns)) .nil, ?_⟩
    · by_cases z : b ∈ Ms.map (·.2)
      · have e : (if b ∈ Ms.map (·.2) then none else H b) = some o := e
        rw [if_pos z] at e; cases e
      · have e : (if b ∈ Ms.map (·.2) then none else H b) = some o := e
        rw [if_neg z] at e; exact e
    · rw [List.getElem?_map] at e1 e2
      cases hm : Ms[n]? with
      | none => rw [hm] at e1; cases e1
      | some m =>
        rw [hm] at e1 e2
        cases e1; cases e2
        have mem := List.mem_of_getElem? hm
        exact ⟨_, hP _ (List.mem_map.mpr ⟨m, mem, rfl⟩), ht m mem _⟩
    · rcases hS with (z | ⟨o, z⟩) | z
      · exact .inl (.inl ((hF a (nt _ z fun _ => by simp)).trans z))
      · exact .inl (.inr ⟨o, (hF a (nt _ z fun _ => by simp)).trans z⟩)
      · exact .inr z
    · rw [hg]
      intro w' v H' nx f r
      cases r
      exact q H'
/-- the tables of the makers -/
def TabsT (q : Program) (K : PySem.W.Frag) (h : Heap) : Prop := ∀ (y : Str) (c P : Addr), ((recsOf q).find? (fun e => e.name == y)).isSome = true → PySem.W.tabIn K y = some (c, P) → PySem.W.CodeHd h c P ∧ h.get? P = some { cls := .none, data := .fields #[] }
theorem walk_ofD {l : PySem.W.OpenLaw} {n k : Nat} {q : Program} {loose : List Str} {XP : (Str → Option Value) → Heap → Prop} {YP : World → Heap → Prop} {d : DefRec} {K : Params → PySem.W.Frag} {CX : World → CXT} {x : Str}
    (hn : l.most = some n) (hn2 : n ≤ sizeLine) (hdf : d.params.defaults = []) (hr : Room k callerA) (hY : ∀ (w : World) (h : Heap), YP w h → (K w.params).In h)
    (F : ∀ (w : World) (mg : Str → Option Value) (fa : Addr) (h : Heap), (K w.params).In h → h.Ns mainGlobals mg → mg d.name = some (.ref fa) → TabsT q (K w.params) h → LamX.LawAtS l w (K w.params) (CX w) k n x mg fa h)
    (hCX : ∀ (w : World) (H : Hp) (s : Shared) (e : Value) (s' : Shared), CX w [] H s (fun _ _ _ => False) e s' → False) :
    PySem.W.WalkO q loose XP YP l.row.toRowW d [] (fun f vs => PySem.call f vs) := by
  refine Att.attach_callB hn hdf fun w s₀ s₁ mg mb fa o pm cd doc a vs ns G Y ho hd hcd hmg hobj hints hlen hbits hg => ?_
  have KX := hY w _ Y
  have tt : TabsT q (K w.params) s₁.heap := fun y c P hr ht => by
    obtain ⟨dd, hdd⟩ := Option.isSome_iff_exists.mp hr
    exact PySem.W.tab_of G.T KX hdd ht
  obtain ⟨fd, cs, sp, hT, nT, C, hb, hsp, hF⟩ := F w mg fa _ KX G.T.g hmg tt
  exact LamX.law_callTs KX G.T.g G.T.b G.T.builtins G.T.nolimit hg hT nT C G.T.bmain hobj hints (Nat.le_trans hlen hn2) hr hF hb (fun H hH hS => hsp H a ns hlen hbits hH hS) fun H e s' => hCX w H s₁ e s'
end DL
set_option maxRecDepth 100000
set_option maxHeartbeats 4000000
set_option autoImplicit false
namespace DL
open PySem PySem.Spec PyProof.Rows L2
/-! ### own error classes: the facts of the head -/
/-- the text of an own error's __init__ -/
def XSh (st : Stmt) (slf x f : Str) : Prop := ∃ (ar : Arg) (p0 p1 p2 p3 p4 p5 p6 p7 p8 p9 : Pos),
  defBody st = [.Expr (.Call (.Attribute (.Call (.Name "super" p0) [] [] p1) "__init__" p2) [.Name x p3] [] p4) p5, .Assign [.Attribute (.Name slf p6) f p7] (.Name x p8) p9] ∧
  ((defArgs st).posonlyargs ++ (defArgs st).args).head? = some ar ∧ ar.arg = slf ∧
  (defScope st).names.lookup ("super" : Str) = some .globalImplicit ∧ (defScope st).names.lookup ("__class__" : Str) = some .free ∧ (defScope st).names.lookup slf = some .local ∧ (defScope st).names.lookup x = some .local ∧ (∀ z ∈ (defScope st).names, z.2 ≠ .cell) ∧
  (defScope st).kind = .function ∧ (defScope st).isCoroutine = false ∧ (defScope st).isGenerator = false ∧ (p2.endLine == p4.line) = true
def xcB (K : PySem.W.Frag) (C fI : Addr) (f : Str) : Bool :=
  (PySem.W.findIn K (.ref C) "__setattr__" == some (some (.builtin "object.__setattr__"))) && ((PySem.W.subIn K (.ref C) (.type "BaseException") == some true) && ((PySem.W.typeIn K (.ref C) == some (.type "type")) && (PySem.W.keepIn K (.ref C) && ((PySem.W.typeIn K (.ref fI) == some (.type "function")) &&
  ((PySem.W.mroIn K C (.ref C) == some true) && ((PySem.W.ks_superIn K C C "__init__" == some (some (.builtin "ValueError.__init__"))) && ((PySem.W.subIn K (.ref C) (.type "ValueError") == some true) && ((PySem.W.nsIn K cStatics "thirdparty.any" == some none) && ((PySem.W.findIn K (.ref C) f == some none) && xfB K C)))))))))
structure XFacts (P : Program) (G : Gam) (mg : Str → Option Value) (c : String) (C fI : Addr) (fd : FuncData) (slf x f : Str) : Prop where
  T : XCls G G.K c C fI
  I : XIn P G.K mg C fI fd slf x f
  F : XfC G.K C
  B : Binds G.K fd [slf, x] []
theorem xfacts_of {P : Program} {G : Gam} {mg : Str → Option Value} {c : String} {C fI NS cda cc : Addr} {st : Stmt} {slf x f nm q name qual file : Str} {bs bm sub : List Value} {sn : List Str} {ab : Bool} {col : Option Bool} {dd : Option Addr} {k0 k1 k2 k3 k5 : Option Value}
    {oc dV kV doc pm ct ccl cl : Value} {od an cdd cld : Option Addr} {osl ccs csl : Array (Option Value)} {vs : Array Value} {tf : Tok}
    (hct : G.ct c = some C) (xl : G.K.lookup C = some (excClassObj nm q C NS bs bm true sn sub ab col dd k0 k1 k2 k3 k5 "ValueError.__new__")) (xr : PySem.HandSPX.refsVE bm = true) (xi : PySem.W.findIn G.K (.ref C) "__init__" = some (some (.ref fI)))
    (xf : G.K.lookup fI = some ⟨oc, od, .func (PySem.W.fnX name qual (defArgs st) (defBody st) (defScope st) [("__class__", cc)] dV kV doc pm an (.ref cda) ct), osl⟩) (xc : PySem.W.codeIn G.K (.ref cda) qual = true) (xd : G.K.lookup cda = some ⟨ccl, cdd, .fields vs, ccs⟩) (xv : vs[2]? = some (.str file tf))
    (xe : ((P.main.file : Str) == file) = true) (xk : G.K.lookup cc = some ⟨cl, cld, .cell (some (.ref C)), csl⟩) (xB : xcB G.K C fI f = true) (xt : (P.main.scope.names.lookup ("super" : Str)).isSome = false) (xs : mg "super" = none) (sh : XSh st slf x f)
    (d1 : (slf == ("__debug__" : Str)) = false) (d2 : (x == ("__debug__" : Str)) = false) (d3 : slf ≠ x) (hb : ∀ us : List Value, us.length = 2 → bindArgs (PySem.W.fnX name qual (defArgs st) (defBody st) (defScope st) [("__class__", cc)] dV kV doc pm an (.ref cda) ct) ⟨us, []⟩ = pure ([slf, x].zip us)) :
    XFacts P G mg c C fI (PySem.W.fnX name qual (defArgs st) (defBody st) (defScope st) [("__class__", cc)] dV kV doc pm an (.ref cda) ct) slf x f := by
  unfold xcB at xB
  simp only [Bool.and_eq_true, beq_iff_eq] at xB
  obtain ⟨b1, b2, b3, b4, b5, b6, b7, b8, b9, b10, b11⟩ := xB
  obtain ⟨ar, p0, p1, p2, p3, p4, p5, p6, p7, p8, p9, s1, s2, s3, s4, s5, s6, s7, s8, s9, s10, s11, s12⟩ := sh
  have oex : OexC G.K C := ⟨⟨nm, q, NS, bs, bm, sn, sub, ab, col, dd, k0, k1, k2, k3, k5, xl, xr⟩, b1, b2, b3, b4⟩
  refine ⟨⟨hct, xi, b5, oex⟩, ⟨⟨oc, doc, pm, dV, kV, ct, ccl, cl, od, an, cdd, cld, osl, ccs, csl, cda, cc, name, qual, file, defArgs st, defScope st, vs, tf, ar, p0, p1, p2, p3, p4, p5, p6, p7, p8, p9, by rw [s1], xf, xc, s2, s3, xd, xv, xe, xk, s4, s5, s6, s7, s8, s9, s10, s11, s12⟩, xt, xs, b6, b7, b8, b9, oex, b10, d1, d2, d3⟩, xfB_ok b11, .all hb⟩
/-! ### handlers without addresses -/
def HdR.bare (h : HdR) : HdR := ⟨.none, h.oi, h.m, h.f⟩
theorem catch_bare (x : Xc) : ∀ (hs : List HdR) (s : DS), catchD (hs.map HdR.bare) x s = catchD hs x s
  | [], s => rfl
  | ⟨_, none, m, f⟩ :: r, s => by
    show (match m x.cls with | some true => noX (f x s) | some false => catchD (r.map HdR.bare) x s | none => .stuck) = _
    rw [catch_bare x r s]
    rfl
  | ⟨_, some i, m, f⟩ :: r, s => by
    show (match m x.cls with | some true => (if i < s.sl.length then unD i (noX (f x ⟨s.sl.set i .un, s.st⟩)) else .stuck) | some false => catchD (r.map HdR.bare) x s | none => .stuck) = _
    rw [catch_bare x r s]
    rfl
theorem try_bare (b : DStm) (hs : List HdR) : sTry b (hs.map HdR.bare) = sTry b hs := by
  funext s
  unfold sTry
  cases b s with
  | exc x s1 => exact catch_bare x hs s1
  | ok o s1 => rfl
  | stuck => rfl
def hmT (yes no : List String) : String → Option Bool := fun k => if k ∈ yes then some true else if k ∈ no then some false else none
theorem mok_of {G : Gam} {K : PySem.W.Frag} {c : Value} {oi : Option Nat} {f : Xc → DStm} {yes no : List String} (h1 : ∀ k ∈ yes, ∀ C, G.ct k = some C → PySem.W.exmOne K (.ref C) c = some true) (h2 : ∀ k ∈ no, ∀ C, G.ct k = some C → PySem.W.exmOne K (.ref C) c = some false) : MOk G K ⟨c, oi, hmT yes no, f⟩ := by
  intro k b h C hC
  simp only [hmT] at h
  split at h
  · cases h; exact h1 k (by assumption) C hC
  · split at h
    · cases h; exact h2 k (by assumption) C hC
    · cases h
section
variable {G : Gam} {W : WX} {X : Cx}
theorem pds_tryB {bd : List Stmt} {g0 : ExceptHandler} {gs : List ExceptHandler} {hs : List HdR} {tpos : Pos} {fb : DStm} (est : X.stack = X.env :: X.outer) (efr : X.env.frame = some X.env.locals) (nd : X.N.Nodup) (tk : Takes X W)
    (hbd : ∀ (Wi : WX) (pn : List (Addr × Obj)) (xe : Value → Shared → Prop), Takes (X.tr pn xe) Wi → PassesOwn (model X.prog X.w) X.A X.env xe → PDSs G Wi (X.tr pn xe) bd fb) (hm : ∀ h ∈ hs, MOk G X.K h)
    (hh : HdA X (g0 :: gs) (hs.map fun h => (h.c, h.oi, tSu G h))) : PDS G W X (.Try bd (g0 :: gs) [] [] tpos) (sTry fb (hs.map HdR.bare)) := by
  rw [try_bare]
  exact pds_try est efr nd tk hbd hm hh
end
end DL
set_option maxRecDepth 100000
set_option maxHeartbeats 4000000
set_option autoImplicit false
namespace DL
open PySem PySem.Spec PyProof.Rows L2
/-! ### the lambdas of a text, in their order -/
abbrev LSite := Arguments × Expr × Scope
def lamsE : Nat → Expr → List LSite
  | 0, _ => []
  | n + 1, e => match e with
    | .Lambda a b s _ => [(a, b, s)]
    | .BoolOp _ vs _ => vs.flatMap (lamsE n)
    | .BinOp a _ b _ => lamsE n a ++ lamsE n b
    | .UnaryOp _ a _ => lamsE n a
    | .IfExp a b c _ => lamsE n a ++ lamsE n b ++ lamsE n c
    | .Compare a _ cs _ => lamsE n a ++ cs.flatMap (lamsE n)
    | .Call f as _ _ => lamsE n f ++ as.flatMap (lamsE n)
    | .Attribute a _ _ => lamsE n a
    | .Subscript a b _ => lamsE n a ++ lamsE n b
    | .List es _ => es.flatMap (lamsE n)
    | .Tuple es _ _ => es.flatMap (lamsE n)
    | _ => []
def lamsS : Nat → Stmt → List LSite
  | 0, _ => []
  | n + 1, s => match s with
    | .Return (some e) _ => lamsE 30 e
    | .Assign _ e _ => lamsE 30 e
    | .Expr e _ => lamsE 30 e
    | .AugAssign _ _ e _ => lamsE 30 e
    | .For _ e b _ _ => lamsE 30 e ++ b.flatMap (lamsS n)
    | .While e b _ _ => lamsE 30 e ++ b.flatMap (lamsS n)
    | .If e b c _ => lamsE 30 e ++ b.flatMap (lamsS n) ++ c.flatMap (lamsS n)
    | _ => []
def lamsOf (st : Stmt) : List LSite := (defBody st).flatMap (lamsS 12)
def siteOf (ns : List String) (st : Stmt) : String → Option LSite := fun k => (ns.zip (lamsOf st)).lookup k
section
variable {G : Gam} {W : WX} {X : Cx}
theorem lamsOk_nil {T : LamT} {k : Nat} : LamsOk G X T k (fun n => List.lookup n []) := fun n b h => by simp at h
theorem lamsOk_cons {T : LamT} {k : Nat} {n0 : String} {pr : Arguments} {bd : Expr} {sc : Scope} {b : DE} {L : List (String × DE)} (hs : T.site n0 = some (pr, bd, sc)) (B : LamB G X k pr bd sc b) (r : LamsOk G X T k (fun n => List.lookup n L)) : LamsOk G X T k (fun n => List.lookup n ((n0, b) :: L)) := fun n b' h => by
  have h : List.lookup n ((n0, b) :: L) = some b' := h
  by_cases e : n = n0
  · subst e
    rw [List.lookup_cons_self] at h
    cases h
    exact ⟨pr, bd, sc, hs, B⟩
  · have h1 : (n == n0) = false := beq_eq_false_iff_ne.mpr e
    simp only [List.lookup_cons, h1] at h
    exact r n b' h
theorem fn_stuck {P : Program} {w0 : World} {mg : Str → Option Value} {base : Heap} {f : Addr} {fd : FuncData} {ps : List Str} {k n : Nat} (hn : ps.length = n) : FnOk P w0 G.K mg base (L2.CX P w0) k f fd ps (spG G n (fun _ _ => .stuck)) :=
  ⟨fun vs H Q E h => by rw [h.1, hn], fun A outer s H args us vs Q E hr e0 hb r h => by
    obtain ⟨_, w, S, ds, _, _, q⟩ := h
    exact q.elim⟩
theorem BodyL.mono {P : Program} {w0 : World} {mg : Str → Option Value} {base : Heap} {j k : Nat} {N : List Str} {qual : Str} {st : Stmt} {f : Addr} {a : Str} {i : Nat} {body : LamR → DStm} (h : BodyL G P w0 mg base j N qual st f a i body) (hk : j ≤ k) : BodyL G P w0 mg base k N qual st f a i body :=
  fun Λ cdv A outer s H E hr => h Λ cdv A outer s H E (hr.mono hk)
end
theorem lawAt_of {G : Gam} {l : PySem.W.OpenLaw} {w : World} {k : Nat} {x : Str} {mg : Str → Option Value} {fa : Addr} {h : Heap} {fd : FuncData} {g : DFn} (Ms : List (String × Addr × Addr))
    (ht : ∀ m ∈ Ms, PySem.W.CodeHd h m.2.1 m.2.2 ∧ h.get? m.2.2 = some { cls := .none, data := .fields #[] }) (nl : ∀ m ∈ Ms, G.K.lookup m.2.2 = none) (nd : (Ms.map (·.2.2)).Nodup) (hb : ∀ (s : Shared) (u : Value), BindsTo s fd ⟨[u], []⟩ [(x, u)])
    (F : ∀ base : Heap, (∀ m ∈ Ms, LamX.TabB base mg m.2.1 m.2.2) → FnOk l.prog w G.K mg base (L2.CX l.prog w) k fa fd [x] (spG G 1 g)) (htab : ∀ m ∈ Ms, ∀ F, G.tab m.1 m.2.2 F (.tbl #[]))
    (hl : ∀ ns : List Int, ns.length ≤ 63 → (∀ z ∈ ns, Builtin.Int.intBits z ≤ 1048576) → ∃ S, g [.scr (ns.map D.int)] (Ms.map fun m => .tab m.1) = .ok (.bl true) S) : LamX.LawAtS l w G.K (L2.CX l.prog w) k 63 x mg fa h := by
  refine ⟨fd, Ms.map (·.2), spLawT G.K (Ms.map (·.2.2)), fun p hp => ?_, fun p hp => ?_, fun p hp => ?_, hb, fun H a ns h1 h2 h3 h4 => ⟨a, ns, rfl, h4, h1, h2, fun P hP => ?_, fun _ => rfl⟩, fun base _ _ tb => ?_⟩
  · obtain ⟨m, hm, rfl⟩ := List.mem_map.mp hp
    exact (ht m hm).2
  · obtain ⟨m, hm, rfl⟩ := List.mem_map.mp hp
    exact nl m hm
  · obtain ⟨m, hm, rfl⟩ := List.mem_map.mp hp
    exact (ht m hm).1
  · obtain ⟨m, hm, rfl⟩ := List.mem_map.mp hP
    exact h3 _ (List.mem_map.mpr ⟨m, hm, rfl⟩)
  · have e : Ms.map (·.2.2) = (Ms.map fun m => (m.1, m.2.2)).map (·.2) := by simp
    rw [e]
    refine law_endT (F base fun m hm => tb _ (List.mem_map.mpr ⟨m, hm, rfl⟩)) (by rw [← e]; exact nd) (fun m hm F => ?_) fun ns h1 h2 => ?_
    · obtain ⟨m', hm', rfl⟩ := List.mem_map.mp hm
      exact htab m' hm' F
    · have e2 : ((Ms.map fun m => (m.1, m.2.2)).map fun m => Cell.tab m.1) = Ms.map fun m => .tab m.1 := by simp
      rw [e2]
      exact hl ns h1 h2
end DL
set_option maxRecDepth 100000
set_option maxHeartbeats 4000000
set_option autoImplicit false
namespace DL
open PySem PySem.Spec PyProof.Rows L2
section
variable {G : Gam} {W : WX} {X : Cx}
/-! ### x in y, x not in y -/
def flD : D → Bool
  | .non => true
  | .bl _ => true
  | .int _ => true
  | .str _ => true
  | _ => false
def eqFl : D → D → Bool
  | .non, .non => true
  | .bl a, .bl b => a == b
  | .bl a, .int b => (if a then 1 else 0) == b
  | .int a, .bl b => a == (if b then 1 else 0)
  | .int a, .int b => a == b
  | .str a, .str b => a == b
  | _, _ => false
theorem fl_rep {w : Wd} {v : V} {d : D} (r : Rep G w v d) (h : flD d = true) : flatV v = true := by
  cases r <;> first | rfl | cases h
theorem eq_rep {w : Wd} {v u : V} {d e : D} (r : Rep G w v d) (r' : Rep G w u e) (h : flD d = true) (h' : flD e = true) : eqV v u = eqFl d e := by
  cases r <;> first | (cases h; done) | skip
  all_goals cases r' <;> first | (cases h'; done) | rfl | skip
  rename_i l m
  show (nm l == nm m) = (l == m)
  by_cases e : l = m
  · subst e; simp
  · rw [beq_eq_false_iff_ne.mpr e, beq_eq_false_iff_ne.mpr fun z => e (nm_inj z)]
theorem fls_rep {w : Wd} : ∀ {vs : List V} {ds : List D}, Reps G w vs ds → ds.all flD = true → vs.all flatV = true
  | _, _, .nil, _ => rfl
  | _, _, .cons a b, h => by
    rw [List.all_cons, Bool.and_eq_true] at h ⊢
    exact ⟨fl_rep a h.1, fls_rep b h.2⟩
theorem any_rep {w : Wd} {u : V} {e : D} (r' : Rep G w u e) (h' : flD e = true) : ∀ {vs : List V} {ds : List D}, Reps G w vs ds → ds.all flD = true → vs.any (fun y => eqV y u) = ds.any (fun y => eqFl y e)
  | _, _, .nil, _ => rfl
  | _, _, .cons a b, h => by
    rw [List.all_cons, Bool.and_eq_true] at h
    rw [List.any_cons, List.any_cons, eq_rep a r' h.1 h', any_rep r' h' b h.2]
def inS (neg : Bool) : D → D → Option D := fun x y => match x, y with
  | .str [c], .str l => some (.bl (if neg then !decide (c ∈ l) else decide (c ∈ l)))
  | _, _ => none
def inF (neg : Bool) : D → D → Option D := fun x y => match y with
  | .tup ds => if flD x = true ∧ ds.all flD = true then some (.bl (if neg then !(ds.any fun z => eqFl z x) else ds.any fun z => eqFl z x)) else none
  | .lst ds => if flD x = true ∧ ds.all flD = true then some (.bl (if neg then !(ds.any fun z => eqFl z x) else ds.any fun z => eqFl z x)) else none
  | _ => none
def inP (neg : Bool) : D → D → Option D := fun x y => match toPy x, toPy y with
  | some p, some (.list qs) => if SeqAt.shaped p && SeqAt.shaped (.list qs) then some (.bl (if neg then !(qs.any fun z => PyData.eqv z p) else qs.any fun z => PyData.eqv z p)) else none
  | _, _ => none
theorem nm_list (l : Nm) : (nm l).cps.toList = l := by simp [nm]
theorem opd_inS : OpD G X (compareOp .In) (inS false) := ⟨_, op_in_sign, fun κ w s σ H x y dx dy d Q ok rx ry e q => by
  unfold inS at e
  split at e
  · rename_i c l
    cases e
    cases rx
    cases ry
    exact ⟨c, nm l, rfl, rfl, by rw [nm_list]; exact q w _ H (.refl _) ok (.bl _)⟩
  · cases e⟩
theorem opd_notInS : OpD G X (compareOp .NotIn) (inS true) := ⟨_, op_notIn_sign, fun κ w s σ H x y dx dy d Q ok rx ry e q => by
  unfold inS at e
  split at e
  · rename_i c l
    cases e
    cases rx
    cases ry
    exact ⟨c, nm l, rfl, rfl, by rw [nm_list]; exact q w _ H (.refl _) ok (.bl _)⟩
  · cases e⟩
theorem inF_of (hK : G.K = X.K) {neg : Bool} {κ : Bs} {w : Wd} {s : DS} {σ : L2.St} {H : Hp} {x y : V} {dx dy d : D} {Q : VK} (ok : Ok G κ w s σ H) (rx : Rep G w x dx) (ry : Rep G w y dy) (e : inF neg dx dy = some d) (q : ∀ w' v H', w.le w' → Ok G κ w' s σ H' → Rep G w' v d → Q v H') : rIn X.K neg x y H Q := by
  unfold inF at e
  split at e
  · split at e
    · rename_i h
      cases e
      cases ry with
      | tup h1 r1 =>
        refine ⟨_, _, rfl, .inr (hK ▸ SqT.le h1 ok.fok.sub), fl_rep rx h.1, fls_rep r1 h.2, ?_⟩
        unfold inV
        rw [any_rep rx h.1 r1 h.2]
        exact q w _ H (.refl _) ok (.bl _)
    · cases e
  · split at e
    · rename_i h
      cases e
      cases ry with
      | lst h1 r1 =>
        refine ⟨_, _, rfl, .inl (.inl (.inl (ok.fok.sub _ _ h1))), fl_rep rx h.1, fls_rep r1 h.2, ?_⟩
        unfold inV
        rw [any_rep rx h.1 r1 h.2]
        exact q w _ H (.refl _) ok (.bl _)
    · cases e
  · cases e
theorem opd_inF (hK : G.K = X.K) : OpD G X (compareOp .In) (inF false) := ⟨_, op_in_seq, fun κ w s σ H x y dx dy d Q ok rx ry e q => inF_of hK ok rx ry e q⟩
theorem opd_notInF (hK : G.K = X.K) : OpD G X (compareOp .NotIn) (inF true) := ⟨_, op_notIn_seq, fun κ w s σ H x y dx dy d Q ok rx ry e q => inF_of hK ok rx ry e q⟩
theorem inP_py {neg : Bool} {dx dy d : D} (e : inP neg dx dy = some d) : ∃ p qs, toPy dx = some p ∧ toPy dy = some (.list qs) ∧ SeqAt.shaped p = true ∧ SeqAt.shaped (.list qs) = true ∧ d = .bl (if neg then !(qs.any fun z => PyData.eqv z p) else qs.any fun z => PyData.eqv z p) := by
  unfold inP at e
  split at e
  · rename_i p qs h1 h2
    split at e
    · rename_i h
      cases e
      rw [Bool.and_eq_true] at h
      exact ⟨p, qs, h1, h2, h.1, h.2, rfl⟩
    · cases e
  · cases e
theorem opd_inP (hK : G.K = X.K) (hu : X.A.units + 65 < cLine) : OpD G X (compareOp .In) (inP false) := ⟨_, op_inD hu, fun κ w s σ H x y dx dy d Q ok rx ry e q => by
  obtain ⟨p, qs, h1, h2, s1, s2, rfl⟩ := inP_py e
  exact ⟨p, qs, rx.py hK ok h1, ry.py hK ok h2, s1, s2, q w _ H (.refl _) ok (.bl _)⟩⟩
theorem opd_notInP (hK : G.K = X.K) (hu : X.A.units + 65 < cLine) : OpD G X (compareOp .NotIn) (inP true) := ⟨_, op_notInD hu, fun κ w s σ H x y dx dy d Q ok rx ry e q => by
  obtain ⟨p, qs, h1, h2, s1, s2, rfl⟩ := inP_py e
  exact ⟨p, qs, rx.py hK ok h1, ry.py hK ok h2, s1, s2, q w _ H (.refl _) ok (.bl _)⟩⟩
def dIn (neg : Bool) : D → D → Option D := fun x y => (inS neg x y).orElse fun _ => (inF neg x y).orElse fun _ => inP neg x y
theorem room65 {A : Around} {k : Nat} (hr : Room k A) : A.units + 65 < cLine := by have := hr.un; omega
theorem opd_in (hK : G.K = X.K) (hu : X.A.units + 65 < cLine) : OpD G X (compareOp .In) (dIn false) := (opd_inS.or ((opd_inF hK).or (opd_inP hK hu))).congr fun x y => rfl
theorem opd_notIn (hK : G.K = X.K) (hu : X.A.units + 65 < cLine) : OpD G X (compareOp .NotIn) (dIn true) := (opd_notInS.or ((opd_notInF hK).or (opd_notInP hK hu))).congr fun x y => rfl
/-! ### n.bit_length(), divmod -/
def eBits (f : DE) : DE := fun s => (f s).bind fun d s1 => match d with
  | .int i => .ok (.int (Builtin.Int.intBits i : Nat)) s1
  | _ => .stuck
theorem pd_bits {o : Expr} {f : DE} {apos pos : Pos} (ho : PD G W X o f) (hbase : attributeBase o "bit_length" X.env (eval o X.env) = eval o X.env := by rfl) (hline : (apos.endLine == pos.line) = true := by rfl) : PD G W X (.Call (.Attribute o "bit_length" apos) [] [] pos) (eBits f) :=
  (pe_bits ho hbase hline).imp fun σ H Q ⟨κ, w, s, ok, q⟩ => ⟨κ, w, s, ok, (PostG.bind q).imp fun v H1 ⟨d, s1, w1, le, ok1, r1, q1⟩ => by
    cases r1 with
    | int i => exact ⟨i, rfl, q1 w1 _ H1 (.refl _) ok1 (.int _)⟩
    | _ => exact q1.elim⟩
def bDivmod : List D → Option D
  | [.int i, .int j] => if 0 < j ∧ divOk j = true then some (.tup [.int (i.fdiv j), .int (i.fmod j)]) else none
  | _ => none
theorem pylong_no {i j : Int} (h : j.natAbs.log2 < 9000) : Builtin.divisionGoesByPylong i j = false := by
  unfold Builtin.divisionGoesByPylong
  have : ¬ ((if (j == 0) = true then 0 else j.natAbs.log2 / 30 + 1) > 300) := by
    split
    · omega
    · omega
  simp only [Bool.and_eq_false_iff, decide_eq_false_iff_not]
  exact .inl this
theorem cd_divmod : CallD G X (.builtin "divmod") bDivmod := ⟨_, call_divmodW, fun κ w s σ H vs ds d Q ok rs e q => by
  unfold bDivmod at e
  split at e
  · rename_i i j
    split at e
    · rename_i h
      cases e
      cases rs with
      | cons a rs =>
      cases rs with
      | cons b rs =>
      cases rs
      cases a
      cases b
      have hd := h.2
      unfold divOk at hd
      have hd := of_decide_eq_true hd
      refine ⟨i, j, rfl, ⟨h.1, pylong_no hd.2⟩, fun p hp => ?_⟩
      rw [Int.fdiv_eq_ediv_of_nonneg i (Int.le_of_lt h.1), Int.fmod_eq_emod_of_nonneg i (Int.le_of_lt h.1)] at q
      obtain ⟨le, ok'⟩ := ok.alloc hp (.tup [.int (i / j), .int (i % j)])
      exact q _ _ _ le ok' (.tup (.inl (.inl upd_same)) (.cons (.int _) (.cons (.int _) .nil)))
    · cases e
  · cases e⟩
/-! ### methods of built-in types -/
def MtD (G : Gam) (X : Cx) (T id : String) (o : D → List D → Option D) : Prop := ∃ r, MtR X id r ∧ (∀ (κ : Bs) (w : Wd) (s : DS) (σ : L2.St) (H : Hp) (x : V) (vs : List V) (dx : D) (ds : List D) (d : D) (Q : VK), Ok G κ w s σ H → Rep G w x dx → Reps G w vs ds → o dx ds = some d →
  (∀ w' v H', w.le w' → Ok G κ w' s σ H' → Rep G w' v d → Q v H') → r x vs H Q) ∧ ∀ (κ : Bs) (w : Wd) (s : DS) (σ : L2.St) (H : Hp) (x : V) (dx : D), Ok G κ w s σ H → Rep G w x dx → tyOk T dx = true → tyV X.K T x H
where
  tyOk (T : String) : D → Bool
  | .str _ => T == "str"
  | .lst _ => T == "list"
  | .dic _ => T == "dict"
  | _ => false
def eBM (T : String) (o : D → List D → Option D) (fo : DE) (fa : DA) : DE := fun s => (fo s).bind fun x s1 => if MtD.tyOk T x = true then (fa s1).bind fun ds s2 => match o x ds with
  | some d => .ok d s2
  | none => .stuck
  else .stuck
theorem pd_bm {T id : String} {name : Str} {o : D → List D → Option D} {oe e : Expr} {es : List Expr} {fo : DE} {fa : DA} {apos cpos : Pos} (pa : PlainAttrs T) (slot : Slot T name id) (hty : typeOf (.builtin id) = pure (.type "method_descriptor")) (hm : MtD G X T id o) (ho : PD G W X oe fo) (ha : PDA G W X (e :: es) fa)
    (hbase : attributeBase oe name X.env (eval oe X.env) = eval oe X.env := by rfl)
    (hfew : ((backTo cpos (starEach (e :: es) X.env)).all (fun x => !x.1) && (backToKw cpos (keywordEach [] X.env)).all (fun x => x.1.isSome)
      && decide ((e :: es).length + ([] : List Keyword).length + (if ([] : List Keyword).isEmpty then 0 else 1) < 30)) = true := by rfl)
    (hline : (apos.endLine == cpos.line) = true := by rfl) (hs : starEach (e :: es) X.env = (false, eval e X.env) :: starEach es X.env := by rfl) (hplain : (backTo cpos (starEach es X.env)).any (·.1) = false := by rfl) :
    PD G W X (.Call (.Attribute oe name apos) (e :: es) [] cpos) (eBM T o fo fa) := by
  obtain ⟨r, h1, h2, h3⟩ := hm
  refine (pe_bm pa slot hty h1 ho ha hbase hfew hline hs hplain).imp fun σ H Q ⟨κ, w, s, ok, q⟩ => ⟨κ, w, s, ok, (PostG.bind q).imp fun v H1 ⟨d, s1, w1, le, ok1, r1, q1⟩ => ?_⟩
  by_cases ht : MtD.tyOk T d = true
  · rw [if_pos ht] at q1
    refine ⟨h3 κ w1 s1 σ H1 v d ok1 r1 ht, κ, w1, s1, ok1, (PostG.bind q1).imp fun vs H2 ⟨ds, s2, w2, le2, ok2, r2, q2⟩ => ?_⟩
    cases e : o d ds with
    | none => rw [e] at q2; exact q2.elim
    | some z => rw [e] at q2; exact h2 κ w2 s2 σ H2 v vs d ds z Q ok2 (r1.mono le2) r2 e q2
  · rw [if_neg ht] at q1
    exact q1.elim
theorem ty_ok {T : String} {κ : Bs} {w : Wd} {s : DS} {σ : L2.St} {H : Hp} {x : V} {dx : D} (ok : Ok G κ w s σ H) (r : Rep G w x dx) (h : MtD.tyOk T dx = true) : tyV X.K T x H := by
  cases r <;> first | (cases h; done) | skip
  · exact beq_iff_eq.mp h
  · rename_i h1 _
    exact .inl ⟨beq_iff_eq.mp h, _, .inl (.inl (ok.fok.sub _ _ h1))⟩
  · rename_i h1 _
    exact .inr (.inr (.inl ⟨beq_iff_eq.mp h, .inl ⟨_, ok.fok.sub _ _ h1⟩⟩))
/-- texts of a list -/
def strsOf : List D → Option (List Nm)
  | [] => some []
  | .str l :: r => (strsOf r).map fun m => l :: m
  | _ => none
theorem strs_rep {w : Wd} : ∀ {vs : List V} {ds : List D} {ls : List Nm}, Reps G w vs ds → strsOf ds = some ls → vs = (ls.map nm).map V.str
  | _, _, _, .nil, h => by cases h; rfl
  | _, _, ls, .cons a b, h => by
    cases a <;> first | (simp [strsOf] at h; done) | skip
    simp only [strsOf, Option.map_eq_some_iff] at h
    obtain ⟨m, hm, rfl⟩ := h
    rw [strs_rep b hm]
    rfl
def mJoin : D → List D → Option D
  | .str a, [.lst ds] => match strsOf ds with
    | some ls => if (ls.map (·.length)).sum + ls.length * a.length ≤ 16777216 then some (.str (TL.joinL a ls)) else none
    | none => none
  | _, _ => none
theorem join_nm (a : Nm) (ls : List Nm) : Txt.join (nm a) (ls.map nm) = nm (TL.joinL a ls) := by
  have h := TL.tl_join (nm a) (ls.map nm)
  rw [← TL.join_eq, show TL.tl (nm a) = a from nm_list a, List.map_map] at h
  have e : (TL.tl ∘ nm) = id := by funext l; exact nm_list l
  rw [e, List.map_id] at h
  have : ∀ x : Str, x = nm (TL.tl x) := fun x => by simp [nm, TL.tl]
  rw [this (Txt.join _ _), h]
theorem mtd_join : MtD G X "str" "str.join" mJoin := by
  refine ⟨_, mt_join, fun κ w s σ H x vs dx ds d Q ok rx rs e q => ?_, fun κ w s σ H x dx ok r h => ty_ok ok r h⟩
  unfold mJoin at e
  split at e
  · rename_i a ds'
    split at e
    · rename_i ls hl
      split at e
      · rename_i hz
        cases e
        cases rx
        cases rs with
        | cons r1 rs =>
        cases rs
        cases r1 with
        | lst h1 r1 =>
        have := strs_rep r1 hl
        subst this
        refine ⟨nm a, _, ls.map nm, rfl, rfl, .inl (.inl (.inl (ok.fok.sub _ _ h1))), ?_, by rw [join_nm]; exact q w _ H (.refl _) ok (.str _)⟩
        have e1 : (ls.map nm).map (·.length) = ls.map (·.length) := by
          rw [List.map_map]
          apply List.map_congr_left
          intro l _
          show (nm l).cps.size = l.length
          simp [nm]
        have e2 : (nm a).length = a.length := by show (nm a).cps.size = _; simp [nm]
        rw [e1, e2, List.length_map]
        exact hz
      · cases e
    · cases e
  · cases e
end
end DL
set_option maxRecDepth 100000
set_option maxHeartbeats 4000000
set_option autoImplicit false
namespace DL
open PySem PySem.Spec PyProof.Rows L2
section
variable {G : Gam} {W : WX} {X : Cx}
/-! ### an own list, looked at without giving it away -/
def eIxO (i : Nat) (fb : DE) : DE := fun s => match s.sl[i]? with
  | some (.ol _) => (fb s).bind fun y s1 => match y, s1.sl[i]? with
    | .int k, some (.ol xs) => (match L2.atI xs k with | some d => .ok d s1 | none => .stuck)
    | _, _ => .stuck
  | some (.val x) => (fb s).bind fun y s1 => match y with
    | .int k => (match ixD x k with | some d => .ok d s1 | none => .stuck)
    | _ => .stuck
  | _ => .stuck
theorem ix_run (hK : G.K = X.K) {κ : Bs} {w : Wd} {s : DS} {σ : L2.St} {H : Hp} {v : V} {dx z : D} {k : Int} {Q : VK} (ok : Ok G κ w s σ H) (r1 : Rep G w v dx) (e : ixD dx k = some z) (q : PostG G W (Rep G) κ w σ (.ok z s) Q) : rIx X.K v (.int k) H Q := by
  cases r1 with
  | @tup p vs ds e1 r1 =>
    obtain ⟨y, h1, h2⟩ := Reps.atI r1 e
    exact .inr (.inl ⟨p, vs, k, y, rfl, rfl, hK ▸ SqT.le e1 ok.fok.sub, h1, q w y H (.refl _) ok h2⟩)
  | @lst p vs ds e1 r1 =>
    obtain ⟨y, h1, h2⟩ := Reps.atI r1 e
    exact .inl ⟨p, vs, k, y, rfl, rfl, .inl (.inl (ok.fok.sub _ _ e1)), h1, q w y H (.refl _) ok h2⟩
  | @scr p vs ds e1 r1 =>
    obtain ⟨y, h1, h2⟩ := Reps.atI r1 e
    exact .inl ⟨p, vs, k, y, rfl, rfl, hK ▸ SqL.le e1 ok.fok.sub, h1, q w y H (.refl _) ok h2⟩
  | str l =>
    have e : (if l.length ≤ 16777216 then (L2.atI l k).map fun c => D.str [c] else none) = some z := e
    split at e
    · rename_i hl
      cases e3 : L2.atI l k with
      | none => simp [e3] at e
      | some c =>
        simp only [e3, Option.map_some, Option.some.injEq] at e
        subst e
        refine .inr (.inr ⟨nm l, k, c, rfl, rfl, by rw [nm_len, sizeLine_eq]; exact hl, by simpa [nm] using e3, ?_⟩)
        exact q w _ H (.refl _) ok (.str [c])
    · cases e
  | _ => cases e
theorem pd_ixO (hK : G.K = X.K) {i : Nat} {x : Str} {p pos : Pos} {b : Expr} {fb : DE} (ho : PE X (.Name x p) (tVar i)) (hb : PD G W X b fb) (hs : PlainIx b) : PD G W X (.Subscript (.Name x p) b pos) (eIxO i fb) :=
  (pe_ix ix_seq ho hb hs).imp fun σ H Q ⟨κ, w, s, ok, q⟩ => by
    unfold eIxO at q
    cases e : s.sl[i]? with
    | none => rw [e] at q; exact q.elim
    | some y =>
      rw [e] at q
      cases y with
      | ol xs0 =>
        obtain ⟨a, vs, h1, h2, h3⟩ := own_list ok e
        refine ⟨.ref a, h1, κ, w, s, ok, (PostG.bind q).imp fun v2 H2 ⟨d2, s2, w2, le2, ok2, r2, q2⟩ => ?_⟩
        cases r2 with
        | int k =>
          cases e1 : s2.sl[i]? with
          | none => rw [e1] at q2; exact q2.elim
          | some z =>
            rw [e1] at q2
            cases z with
            | ol xs =>
              replace q2 : PostG G W (Rep G) κ w2 σ (match L2.atI xs k with | some d => .ok d s2 | none => .stuck) Q := q2
              obtain ⟨a', vs', g1, g2, g3⟩ := own_list ok2 e1
              rw [h1] at g1
              cases g1
              cases e2 : L2.atI xs k with
              | none => rw [e2] at q2; exact q2.elim
              | some d =>
                rw [e2] at q2
                obtain ⟨y, h1, h2⟩ := Reps.atI g3 e2
                exact .inl ⟨a, vs', k, y, rfl, rfl, .inl (.inl g2), h1, q2 w2 y H2 (.refl _) ok2 h2⟩
            | _ => exact q2.elim
        | _ => exact q2.elim
      | val dx =>
        obtain ⟨v, h1, r1⟩ := ok.val i dx e
        refine ⟨v, h1, κ, w, s, ok, (PostG.bind q).imp fun v2 H2 ⟨d2, s2, w2, le2, ok2, r2, q2⟩ => ?_⟩
        cases r2 with
        | int k =>
          replace q2 : PostG G W (Rep G) κ w2 σ (match ixD dx k with | some d => .ok d s2 | none => .stuck) Q := q2
          cases e2 : ixD dx k with
          | none => rw [e2] at q2; exact q2.elim
          | some z => rw [e2] at q2; exact ix_run hK ok2 (r1.mono le2) e2 q2
        | _ => exact q2.elim
      | _ => exact q.elim
/-- truth -/
def eTruO (i : Nat) : DT := fun s => match s.sl[i]? with
  | some (.ol xs) => .ok (!xs.isEmpty) s
  | some (.val d) => (match truD d with | some b => .ok b s | none => .stuck)
  | _ => .stuck
theorem ptd_truO (hK : G.K = X.K) {i : Nat} {x : Str} {p : Pos} (ho : PE X (.Name x p) (tVar i)) (he : ∀ whole, isTrue (.Name x p) X.env whole = (do let v ← whole; standAt (Expr.pos (.Name x p)); holding [v] (truthy v)) := by intro _; rfl) : PDT G W X (.Name x p) (eTruO i) :=
  (pt_truth ho he).imp fun σ H Q ⟨κ, w, s, ok, q⟩ => by
    unfold eTruO at q
    cases e : s.sl[i]? with
    | none => rw [e] at q; exact q.elim
    | some y =>
      rw [e] at q
      cases y with
      | ol xs =>
        obtain ⟨a, vs, h1, h2, h3⟩ := own_list ok e
        refine ⟨.ref a, h1, !xs.isEmpty, ?_, q w _ H (.refl _) ok rfl⟩
        exact .inl ⟨vs, .inl (.inl h2), by rw [h3.isEmpty]⟩
      | val d =>
        obtain ⟨v, h1, r1⟩ := ok.val i d e
        replace q : PostG G W (fun _ (v : Bool) d => v = d) κ w σ (match truD d with | some b => .ok b s | none => .stuck) Q := q
        cases e1 : truD d with
        | none => rw [e1] at q; exact q.elim
        | some k => rw [e1] at q; exact ⟨v, h1, k, truV_of hK ok r1 e1, q w k H (.refl _) ok rfl⟩
      | _ => exact q.elim
/-- x[i] = v -/
def sIxO (i : Nat) (fi fv : DE) : DStm := fun s => (fv s).bind fun d s1 => match s1.sl[i]? with
  | some (.ol _) => (fi s1).bind fun y s2 => match y, s2.sl[i]? with
    | .int k, some (.ol xs) => (match ixN xs.length k with | some j => .ok .nx ⟨s2.sl.set i (.ol (xs.set j d)), s2.st⟩ | none => .stuck)
    | _, _ => .stuck
  | _ => .stuck
theorem pds_ixO {i : Nat} {x : Str} {p tp pos : Pos} {b e : Expr} {fi fv : DE} (ho : PE X (.Name x p) (tVar i)) (hb : PD G WF X b fi) (he : PD G W X e fv) (hs : swapsWithSole [.Subscript (.Name x p) b tp] e pos.line X.env = pure false := by rfl) (hw : swappedStores [.Subscript (.Name x p) b tp] e X.env = pure none := by rfl)
    (h1 : (assignEach [.Subscript (.Name x p) b tp] X.env).map (·.2) = [assign (.Subscript (.Name x p) b tp) X.env] := by rfl)
    (ha : ∀ v, assign (.Subscript (.Name x p) b tp) X.env v = (do
      let ov ← holding [v] (eval (.Name x p) X.env)
      let iv ← holding [v, ov] (eval b X.env)
      standAt tp
      holding [v, ov, iv] (setItem ov iv v)
      release [v, ov, iv] []) := by intro _; rfl) (hcol : ∀ (s : DS), (∀ x s', fi s ≠ .exc x s')) : PDS G W X (.Assign [.Subscript (.Name x p) b tp] e pos) (sIxO i fi fv) :=
  (ps_asg he (pg_sub ho hb set_list ha) hs hw h1).imp fun N σ H ⟨κ, w, s, ok, q⟩ => ⟨κ, w, s, ok, (PostG.bindS q).imp fun v H1 ⟨d, s1, w1, le, ok1, r1, q1⟩ => by
    cases e : s1.sl[i]? with
    | none => rw [e] at q1; exact q1.elim
    | some y =>
      rw [e] at q1
      cases y with
      | ol xs0 =>
        obtain ⟨a, vs, h1, h2, h3⟩ := own_list ok1 e
        replace q1 : PostS G W κ w1 ((fi s1).bind fun y s2 => match y, s2.sl[i]? with
          | .int k, some (.ol xs) => (match ixN xs.length k with | some j => .ok .nx ⟨s2.sl.set i (.ol (xs.set j d)), s2.st⟩ | none => .stuck)
          | _, _ => .stuck) N := q1
        refine ⟨.ref a, h1, κ, w1, s1, ok1, ?_⟩
        cases ef : fi s1 with
        | stuck => rw [ef] at q1; exact q1.elim
        | exc z s' => exact absurd ef (hcol s1 z s')
        | ok d2 s2 =>
          rw [ef] at q1
          intro w2 v2 H2 le2 ok2 r2
          cases r2 with
          | int k =>
            cases e1 : s2.sl[i]? with
            | none => simp [e1] at q1; exact q1.elim
            | some z =>
              cases z with
              | ol xs =>
                simp only [Res.bind_ok, e1] at q1
                obtain ⟨a', vs', g1, g2, g3⟩ := own_list ok2 e1
                rw [h1] at g1
                cases g1
                cases e2 : ixN xs.length k with
                | none => rw [e2] at q1; exact q1.elim
                | some j =>
                  rw [e2] at q1
                  refine ⟨a, vs', k, j, rfl, rfl, g2, by rw [g3.length]; exact e2, ?_⟩
                  exact q1 w2 σ _ le2 (ok2.mut e1 rfl rfl h1 ⟨_, upd_same, Reps.set (r1.mono le2) j g3⟩ fun _ _ z => nomatch z)
              | _ => simp only [Res.bind_ok, e1] at q1; exact q1.elim
          | _ => simp only [Res.bind_ok] at q1; exact q1.elim
      | _ => exact q1.elim⟩
/-! ### len of an own list -/
def eLenO (i : Nat) : DE := fun s => match s.sl[i]? with
  | some (.ol xs) => .ok (.int xs.length) s
  | some (.val d) => (match bLen [d] with | some r => .ok r s | none => .stuck)
  | _ => .stuck
/-! ### a property -/
def eProp (c : String) (g : DFn) (f : DE) : DE := fun s => (f s).bind fun d s1 => match insOf d s1 with
  | some (c1, _) => if c1 = c then noX (lift s1 (g [d] s1.st)) else .stuck
  | none => .stuck
theorem pd_prop {c : String} {C p gf : Addr} {k : Nat} {fd : FuncData} {ps : List Str} {g : DFn} {e : Expr} {fe : DE} {f : Str} {pos : Pos} (hC : G.ct c = some C) (hcl : Cls X.K C) (hp : PropOf X.K C f p gf) (F : FnOk X.prog X.w X.K X.mg X.base (L2.CX X.prog X.w) k gf fd ps (spG G 1 g)) (hr : Room (k + 1) X.A) (hb : Binds X.K fd ps [])
    (he : PD G W X e fe) (hab : attributeBase e f X.env (eval e X.env) = eval e X.env := by rfl) : PD G W X (.Attribute e f pos) (eProp c g fe) :=
  (pe_prop (E := fun _ _ _ => False) he hcl hp F hr hb .nil (passes_call takes0 fun _ _ _ _ z => z) hab).imp fun σ H Q ⟨κ, w, s, ok, q⟩ => ⟨κ, w, s, ok, (PostG.bind q).imp fun v H1 ⟨d, s1, w1, le, ok1, r1, q1⟩ => by
    cases e1 : insOf d s1 with
    | none => rw [e1] at q1; exact q1.elim
    | some cf =>
      obtain ⟨c1, fs⟩ := cf
      rw [e1] at q1
      replace q1 : PostG G W (Rep G) κ w1 σ (if c1 = c then noX (lift s1 (g [d] s1.st)) else .stuck) Q := q1
      by_cases hc : c1 = c
      · rw [if_pos hc] at q1
        subst hc
        obtain ⟨a, C', dx, vs, rfl, hC', hH, _⟩ := r1.ins_of ok1 e1
        rw [hC] at hC'
        cases hC'
        refine ⟨a, dx, vs, rfl, hH, rfl, w1, s1.st, [d], ok1.fok, .cons r1 .nil, ?_⟩
        cases eg : g [d] s1.st with
        | stuck => rw [eg] at q1; exact q1.elim
        | exc x S => rw [eg] at q1; exact q1.elim
        | ok d' S => rw [eg] at q1; exact fun w' v H' n fk r => q1 w' v H' n.le (ok1.step n fk) r
      · rw [if_neg hc] at q1
        exact q1.elim⟩
/-! ### constants of the module: texts, numbers, tuples of them -/
def repK (K : PySem.W.Frag) : Nat → Value → D → Bool
  | 0, _, _ => false
  | n + 1, v, d => match v, d with
    | .none, .non => true
    | .bool b, .bl c => b == c
    | .int i _, .int j => i == j
    | .str x _, .str l => x == nm l
    | .ref a, .tup ds => match K.lookup a with
      | some o => o.cls == .type "tuple" && (match o.data with
        | .seq its _ => decide (its.size ≤ 1000) && go n its.toList ds
        | _ => false)
      | none => false
    | _, _ => false
where
  go (n : Nat) : List Value → List D → Bool
  | [], [] => true
  | v :: vs, d :: ds => repK K n v d && go n vs ds
  | _, _ => false
theorem repK_ok {K : PySem.W.Frag} (hK : G.K = K) : ∀ (n : Nat) (v : Value) (d : D), repK K n v d = true → ∃ x, RelV x v ∧ ∀ w, Rep G w x d := by
  intro n
  induction n with
  | zero => intro v d h; simp [repK] at h
  | succ n ih =>
    have goes : ∀ (vs : List Value) (ds : List D), repK.go K n vs ds = true → ∃ xs, Vals xs vs ∧ ∀ w, Reps G w xs ds := by
      intro vs
      induction vs with
      | nil =>
        intro ds h
        cases ds with
        | nil => exact ⟨[], .nil, fun _ => .nil⟩
        | cons _ _ => cases h
      | cons v vs ihv =>
        intro ds h
        cases ds with
        | nil => cases h
        | cons d ds =>
          simp only [repK.go, Bool.and_eq_true] at h
          obtain ⟨x, r1, r2⟩ := ih v d h.1
          obtain ⟨xs, r3, r4⟩ := ihv ds h.2
          exact ⟨x :: xs, .cons r1 r3, fun w => .cons (r2 w) (r4 w)⟩
    intro v d h
    unfold repK at h
    split at h
    · exact ⟨.non, rfl, fun _ => .non⟩
    · rw [beq_iff_eq] at h; subst h; exact ⟨.bl _, rfl, fun _ => .bl _⟩
    · rw [beq_iff_eq] at h; subst h; exact ⟨.int _, ⟨_, rfl⟩, fun _ => .int _⟩
    · rw [beq_iff_eq] at h; subst h; exact ⟨.str _, ⟨_, rfl⟩, fun _ => .str _⟩
    · split at h
      · rename_i o ho
        rw [Bool.and_eq_true, beq_iff_eq] at h
        obtain ⟨h1, h2⟩ := h
        split at h2
        · rename_i its m hd
          rw [Bool.and_eq_true, decide_eq_true_eq] at h2
          obtain ⟨xs, r3, r4⟩ := goes _ _ h2.2
          refine ⟨.ref _, rfl, fun w => .tup (.inr ⟨o, its, m, by rw [hK]; exact ho, h1, hd, by rw [sizeLine_eq]; omega, r3⟩) (r4 w)⟩
        · cases h2
      · cases h
    · cases h
theorem pd_const {x : Str} {v : Value} {d : D} {pos : Pos} (hg : Gl X x) (hm : X.mg x = some v) (hr : ∃ y, RelV y v ∧ ∀ w, Rep G w y d) (hd : (x == ("__debug__" : Str)) = false := by decide) : PD G W X (.Name x pos) (eC d) := by
  obtain ⟨y, r1, r2⟩ := hr
  exact pd_glob hg hm r1 r2 hd
/-! ### text.index(text) -/
def eSix (fo : DE) (fa : DA) : DE := fun s => (fo s).bind fun x s1 => match x with
  | .str a => (fa s1).bind fun ds s2 => match ds with
    | [.str b] => (match Txt.index0 (nm a) (nm b) with | some k => .ok (.int (k : Nat)) s2 | none => .stuck)
    | _ => .stuck
  | _ => .stuck
theorem pd_six {oe e : Expr} {fo : DE} {fa : DA} {apos cpos : Pos} (hc : X.calm = true) (tk : Takes X W) (ho : PD G W X oe fo) (ha : PDA G W X [e] fa)
    (hbase : attributeBase oe "index" X.env (eval oe X.env) = eval oe X.env := by rfl)
    (hfew : ((backTo cpos (starEach [e] X.env)).all (fun x => !x.1) && (backToKw cpos (keywordEach [] X.env)).all (fun x => x.1.isSome)
      && decide ([e].length + ([] : List Keyword).length + (if ([] : List Keyword).isEmpty then 0 else 1) < 30)) = true := by rfl)
    (hline : (apos.endLine == cpos.line) = true := by rfl) (hs : starEach [e] X.env = (false, eval e X.env) :: starEach [] X.env := by rfl) (hplain : (backTo cpos (starEach [] X.env)).any (·.1) = false := by rfl) :
    PD G W X (.Call (.Attribute oe "index" apos) [e] [] cpos) (eSix fo fa) :=
  (pe_bmS PySem.F.plainAttrs_str PySem.F.slot_str_index PySem.F.type_str_index (mt_indexX hc tk) ho ha hbase hfew hline hs hplain).imp fun σ H Q ⟨κ, w, s, ok, q⟩ => ⟨κ, w, s, ok, (PostG.bind q).imp fun v H1 ⟨d, s1, w1, le, ok1, r1, q1⟩ => by
    cases r1 with
    | str a =>
      refine ⟨rfl, κ, w1, s1, ok1, (PostG.bind q1).imp fun vs H2 ⟨ds, s2, w2, le2, ok2, r2, q2⟩ => ?_⟩
      match ds, q2 with
      | [.str b], q2 =>
        cases r2 with
        | cons r2 r3 =>
        cases r3
        cases r2
        replace q2 : PostG G W (Rep G) κ w2 σ (match Txt.index0 (nm a) (nm b) with | some k => .ok (.int (k : Nat)) s2 | none => .stuck) Q := q2
        cases e : Txt.index0 (nm a) (nm b) with
        | none => rw [e] at q2; exact q2.elim
        | some k =>
          rw [e] at q2
          refine ⟨nm a, nm b, rfl, rfl, fun k' hk => ?_, fun hn => ?_⟩
          · rw [e] at hk; cases hk; exact q2 w2 _ H2 (.refl _) ok2 (.int _)
          · rw [e] at hn; cases hn
      | [], q2 => exact q2.elim
      | x :: _ :: _, q2 => cases x <;> exact q2.elim
      | [.non], q2 => exact q2.elim
      | [.bl _], q2 => exact q2.elim
      | [.int _], q2 => exact q2.elim
      | [.tup _], q2 => exact q2.elim
      | [.lst _], q2 => exact q2.elim
      | [.scr _], q2 => exact q2.elim
      | [.dic _], q2 => exact q2.elim
      | [.ins _ _], q2 => exact q2.elim
      | [.cell _], q2 => exact q2.elim
      | [.cls _], q2 => exact q2.elim
      | [.ty _], q2 => exact q2.elim
      | [.fn _], q2 => exact q2.elim
      | [.lam _], q2 => exact q2.elim
    | _ => exact q1.elim⟩
/-! ### a < b < c as a test -/
theorem ptd_chain {op op' : CmpOp} {o o' : D → D → Option D} {a b c : Expr} {fa fb fc : DE} {pos : Pos} (ho : OpD G X (compareOp op) o) (ho' : OpD G X (compareOp op') o') (ha : PD G W X a fa) (hb : PD G W X b fb) (hc : PD G W X c fc)
    (hp : ∀ {r r' : R2} {ta tb tc : TE}, OpR X (compareOp op) r → OpR X (compareOp op') r' → PE X a ta → PE X b tb → PE X c tc → PT X (.Compare a [op, op'] [b, c] pos) (tTest (tChain r r' ta tb tc))) : PDT G W X (.Compare a [op, op'] [b, c] pos) (eB (eChain o o' fa fb fc)) := by
  obtain ⟨r, h1, h2⟩ := ho
  obtain ⟨r', h1', h2'⟩ := ho'
  refine (hp h1 h1' ha hb hc).imp fun σ H Q h => ?_
  obtain ⟨κ, w, s, ok, q⟩ := tB_of h
  refine ⟨κ, w, s, ok, (PostG.bind q).imp fun v H1 ⟨d, s1, w1, le, ok1, r1, q1⟩ => ⟨κ, w1, s1, ok1, (PostG.bind q1).imp fun v2 H2 ⟨d2, s2, w2, le2, ok2, r2, q2⟩ => ?_⟩⟩
  cases e : o d d2 with
  | none => rw [e] at q2; exact q2.elim
  | some z =>
    rw [e] at q2
    refine h2 κ w2 s2 σ H2 v v2 d d2 z _ ok2 (r1.mono le2) r2 e fun w3 v3 H3 l3 o3 r3 => ?_
    cases r3 with
    | bl k =>
      refine ⟨k, rfl, ?_⟩
      cases k with
      | false => exact q2 w3 _ H3 l3 o3 (.bl false)
      | true =>
        refine ⟨κ, w3, s2, o3, (PostG.bind (PostG.mono l3 q2)).imp fun v4 H4 ⟨d4, s4, w4, le4, ok4, r4, q4⟩ => ?_⟩
        cases e' : o' d2 d4 with
        | none => rw [e'] at q4; exact q4.elim
        | some z' => rw [e'] at q4; exact h2' κ w4 s4 σ H4 v2 v4 d2 d4 z' _ ok4 ((r2.mono l3).mono le4) r4 e' q4
    | _ => exact q2.elim
/-! ### readings that raise nothing -/
theorem nx_c (d : D) : ∀ (s : DS), (∀ x s', eC d s ≠ .exc x s') := fun s x s' h => nomatch h
theorem nx_var (i : Nat) : ∀ (s : DS), (∀ x s', eVar i s ≠ .exc x s') := fun s x s' h => by
  unfold eVar at h
  split at h <;> cases h
theorem nx_neg {f : DE} (k : ∀ (s : DS), (∀ x s', f s ≠ .exc x s')) : ∀ (s : DS), (∀ x s', eNeg f s ≠ .exc x s') := fun s x s' h => by
  unfold eNeg at h
  cases e : f s with
  | stuck => rw [e] at h; cases h
  | exc z t => exact k s z t e
  | ok d t =>
    rw [e] at h
    simp only [Res.bind_ok] at h
    split at h <;> cases h
theorem nx_op2 {o : D → D → Option D} {f g : DE} (k : ∀ (s : DS), (∀ x s', f s ≠ .exc x s')) (l : ∀ (s : DS), (∀ x s', g s ≠ .exc x s')) : ∀ (s : DS), (∀ x s', eOp2 o f g s ≠ .exc x s') := fun s x s' h => by
  unfold eOp2 at h
  cases e : f s with
  | stuck => rw [e] at h; cases h
  | exc z t => exact k s z t e
  | ok d t =>
    rw [e] at h
    simp only [Res.bind_ok] at h
    cases e2 : g t with
    | stuck => rw [e2] at h; cases h
    | exc z t' => exact l t z t' e2
    | ok d' t' =>
      rw [e2] at h
      simp only [Res.bind_ok] at h
      split at h <;> cases h
/-! ### an own slot is given away -/
def eFz (i : Nat) (f : DE) : DE := fun s => match s.sl[i]? with
  | some (.ol xs) => f ⟨s.sl.set i (.val (.lst xs)), s.st⟩
  | some (.od kvs) => f ⟨s.sl.set i (.val (.dic kvs)), s.st⟩
  | some (.ot kvs) => f ⟨s.sl.set i (.val (.dct kvs)), s.st⟩
  | some (.oi c fs) => f ⟨s.sl.set i (.val (.ins c fs)), s.st⟩
  | _ => f s
theorem pd_fz {i : Nat} {e : Expr} {f : DE} (h : PD G W X e f) : PD G W X e (eFz i f) := h.imp fun σ H Q ⟨κ, w, s, ok, q⟩ => by
  unfold eFz at q
  split at q
  · rename_i xs e
    obtain ⟨a, h1, ⟨vs, h2, h3⟩, _⟩ := ok.own i _ e rfl
    obtain ⟨le, ok'⟩ := ok.freeze (d := .lst xs) e rfl h1 h2 fun w' l f => .lst f (h3.mono l)
    exact ⟨κ, _, _, ok', PostG.mono le q⟩
  · rename_i xs e
    obtain ⟨a, h1, ⟨vs, h2, h3⟩, _⟩ := ok.own i _ e rfl
    obtain ⟨le, ok'⟩ := ok.freeze (d := .dic xs) e rfl h1 h2 fun w' l f => .dic f (h3.mono l)
    exact ⟨κ, _, _, ok', PostG.mono le q⟩
  · rename_i xs e
    obtain ⟨a, h1, ⟨es, ep, h2, h3, h4, h5⟩, _⟩ := ok.own i _ e rfl
    obtain ⟨le, ok'⟩ := ok.freeze (d := .dct xs) e rfl h1 h2 fun w' l f => .dct f (h3.mono l) h4 h5
    exact ⟨κ, _, _, ok', PostG.mono le q⟩
  · rename_i c fs e
    obtain ⟨a, h1, ⟨C, dx, vs, hC, h2, h3⟩, _⟩ := ok.own i _ e rfl
    obtain ⟨le, ok'⟩ := ok.freeze (d := .ins c fs) e rfl h1 h2 fun w' l f => .ins hC f (h3.mono l)
    exact ⟨κ, _, _, ok', PostG.mono le q⟩
  · exact ⟨κ, w, s, ok, q⟩
/-! ### isinstance(x, (A, B)) -/
/-- all items are classes -/
def clsD : D → Bool
  | .ty _ => true
  | .cls _ => true
  | _ => false
def isAny (cs : List String) (t : String ⊕ String) : List D → Option Bool
  | [] => some false
  | c :: r => match isOne cs t c with
    | some true => some true
    | some false => isAny cs t r
    | none => none
def eIsT (cs : List String) (fe : DE) (fa : DA) : DE := fun s => (fe s).bind fun d s1 => (fa s1).bind fun ts s2 => if ts.length ≤ 1000 ∧ ts.all clsD = true then match (tyOfD cs d).bind fun t => isAny cs t ts with
  | some b => .ok (.bl b) s2
  | none => .stuck
  else .stuck
theorem isOne_kit (hK : G.K = X.K) {cs : List String} (I : IsOk G cs) {w : Wd} {t : String ⊕ String} {tv : Value} {c : D} {v : V} {b : Bool} (ht : match t with | .inl a => tv = .type a ∧ a ∈ tyNames | .inr c => c ∈ cs ∧ ∃ C, G.ct c = some C ∧ tv = .ref C) (r : Rep G w v c) (e : isOne cs t c = some b) : ∃ u, ClsV v u ∧ PySem.W.kitOne X.K tv u = some b := by
  cases t with
  | inl a =>
    obtain ⟨rfl, ha⟩ := ht
    cases r with
    | ty n =>
      have e : (if a ∈ tyNames ∧ n ∈ tyNames then some (isTy a n) else none) = some b := e
      split at e
      · rename_i h
        cases e
        exact ⟨_, .ty n, kit_ty (isTy_ok a h.1 n h.2)⟩
      · cases e
    | @cls C n hC =>
      have e : (if a ∈ tyNames ∧ n ∈ cs then some false else none) = some b := e
      split at e
      · rename_i h
        cases e
        exact ⟨_, .own C, hK ▸ (I.bo n h.2 C hC a h.1).2⟩
      · cases e
    | _ => exact nomatch e
  | inr a =>
    obtain ⟨ha, C', hC', rfl⟩ := ht
    cases r with
    | ty n =>
      have e : (if n ∈ tyNames then some false else none) = some b := e
      split at e
      · rename_i h
        cases e
        exact ⟨_, .ty n, hK ▸ (I.bo a ha C' hC' n h).1⟩
      · cases e
    | @cls C n hC =>
      have e : (if n ∈ cs then some (a == n) else none) = some b := e
      split at e
      · rename_i h
        cases e
        exact ⟨_, .own C, hK ▸ I.oo a ha n h C' C hC' hC⟩
      · cases e
    | _ => exact nomatch e
/-- a class value and its object -/
def clsOf : V → Value
  | .ty n => .type n
  | .ref C => .ref C
  | _ => .none
theorem isAny_kit (hK : G.K = X.K) {cs : List String} (I : IsOk G cs) {w : Wd} {t : String ⊕ String} {tv : Value} (ht : match t with | .inl a => tv = .type a ∧ a ∈ tyNames | .inr c => c ∈ cs ∧ ∃ C, G.ct c = some C ∧ tv = .ref C) : ∀ {vs : List V} {ds : List D} {b : Bool}, Reps G w vs ds → ds.all clsD = true → isAny cs t ds = some b → ∃ us, Paired ClsV vs us ∧ PySem.W.kitAny X.K tv us = some b
  | _, _, _, .nil, _, e => by cases e; exact ⟨[], .nil, kitAny_nil⟩
  | _, _, b, .cons (v := v) (d := c) (vs := vs) (ds := ds) r rs, hc, e => by
    rw [List.all_cons, Bool.and_eq_true] at hc
    have rest : ∃ us, Paired ClsV vs us := by
      clear e
      have : ∀ {vs : List V} {ds : List D}, Reps G w vs ds → ds.all clsD = true → ∃ us, Paired ClsV vs us := fun {vs ds} r h => by
        induction ds generalizing vs with
        | nil => cases r; exact ⟨[], .nil⟩
        | cons d ds ih =>
          cases r with
          | cons a b =>
            rw [List.all_cons, Bool.and_eq_true] at h
            obtain ⟨us, hu⟩ := ih b h.2
            cases a with
            | ty n => exact ⟨_, .cons (.ty n) hu⟩
            | @cls C n hC => exact ⟨_, .cons (.own C) hu⟩
            | _ => exact nomatch h.1
      exact this rs hc.2
    simp only [isAny] at e
    split at e
    · rename_i e1
      cases e
      obtain ⟨u, h1, h2⟩ := isOne_kit hK I ht r e1
      obtain ⟨us, hu⟩ := rest
      exact ⟨u :: us, .cons h1 hu, kitAny_cons h2 (fun z => nomatch z) fun _ => rfl⟩
    · rename_i e1
      obtain ⟨u, h1, h2⟩ := isOne_kit hK I ht r e1
      obtain ⟨us, hu, hk⟩ := isAny_kit hK I ht rs hc.2 e
      exact ⟨u :: us, .cons h1 hu, kitAny_cons h2 (fun _ => hk) fun z => nomatch z⟩
    · cases e
theorem pd_isT (hK : G.K = X.K) {cs : List String} (I : IsOk G cs) {x : Str} {p pos pos2 : Pos} {k : Nat} {e : Expr} {es : List Expr} {fe : DE} {fa : DA} (hg : Gl X x) (hm : X.mg x = none) (hv : bootBuiltins x = some (.builtin "isinstance")) (he : PD G W X e fe) (hes : PDA G W X es fa) (hn : x ≠ "__name__" := by decide)
    (hdb : (x == ("__debug__" : Str)) = false := by decide) (h1 : starEach (e :: [Expr.Tuple es k pos2]) X.env = (false, eval e X.env) :: starEach [Expr.Tuple es k pos2] X.env := by rfl) (h2 : starEach [Expr.Tuple es k pos2] X.env = (false, eval (.Tuple es k pos2) X.env) :: starEach [] X.env := by rfl)
    (hpl : (backTo pos (starEach [Expr.Tuple es k pos2] X.env)).any (·.1) = false := by rfl) : PD G W X (.Call (.Name x p) [e, .Tuple es k pos2] [] pos) (eIsT cs fe fa) :=
  (pe_callB call_isiT hg hm hv (pa_cons he (pa_cons (pe_tup hes) pa_nil h2) h1) hn hdb h1 hpl).imp fun σ H Q ⟨κ, w, s, ok, q⟩ => ⟨κ, w, s, ok, (PostG.bind q).imp fun v H1 ⟨d, s1, w1, le, ok1, r1, q1⟩ =>
    ⟨κ, w1, s1, ok1, (PostG.bind q1).imp fun vs H2 ⟨ts, s2, w2, le2, ok2, r2, q2⟩ => by
      by_cases c : ts.length ≤ 1000 ∧ ts.all clsD = true
      · rw [if_pos c] at q2
        refine ⟨by rw [r2.length]; exact sz1000 c.1, fun p hp => ?_⟩
        obtain ⟨le3, ok3⟩ := ok2.alloc hp (.tup vs)
        cases e1 : tyOfD cs d with
        | none => rw [e1] at q2; exact q2.elim
        | some t =>
          rw [e1] at q2
          obtain ⟨tv, ty, ht⟩ := tyX_of hK I ok3 ((r1.mono le2).mono le3) e1
          cases e2 : isAny cs t ts with
          | none => simp only [Option.bind_some, e2] at q2; exact q2.elim
          | some b =>
            simp only [Option.bind_some, e2] at q2
            obtain ⟨us, hu, hk⟩ := isAny_kit hK I (t := t) (tv := tv) (by cases t <;> exact ht) (r2.mono le3) c.2 e2
            exact ⟨v, p, vs, tv, us, b, rfl, upd_same, hu, ty, hk, q2 _ _ _ le3 ok3 (.bl b)⟩
      · rw [if_neg c] at q2
        exact q2.elim⟩⟩
/-! ### x != [] of an own list -/
def eNeO (i : Nat) : DT := fun s => match s.sl[i]? with
  | some (.ol xs) => (match dNe (.lst xs) (.lst []) with | some (.bl b) => .ok b s | _ => .stuck)
  | some (.val d) => (match dNe d (.lst []) with | some (.bl b) => .ok b s | _ => .stuck)
  | _ => .stuck
theorem dNe_parts {x y : D} {b : Bool} (e : dNe x y = some (.bl b)) : ∃ p q, toPy x = some p ∧ toPy y = some q ∧ SeqAt.shaped p = true ∧ SeqAt.shaped q = true ∧ b = !PyData.eqv p q := by
  unfold dNe at e
  cases e1 : toPy x with
  | none => simp [e1] at e
  | some p =>
    cases e2 : toPy y with
    | none => simp [e1, e2] at e
    | some p' =>
      simp only [e1, e2] at e
      split at e
      · rename_i c
        cases e
        rw [Bool.and_eq_true] at c
        exact ⟨p, p', rfl, rfl, c.1, c.2, rfl⟩
      · cases e
theorem ptd_neO (hK : G.K = X.K) (hu : X.A.units + 64 < cLine) {i : Nat} {x : Str} {p pos pos2 : Pos} (ho : PE X (.Name x p) (tVar i)) : PDT G W X (.Compare (.Name x p) [.NotEq] [.List [] pos2] pos) (eNeO i) :=
  (pt_cmpR (op_neD hu) ho (pe_lst pa_nil) (nomark _)).imp fun σ H Q ⟨κ, w, s, ok, q⟩ => by
    unfold eNeO at q
    cases e : s.sl[i]? with
    | none => rw [e] at q; exact q.elim
    | some y =>
      rw [e] at q
      cases y with
      | ol xs =>
        replace q : PostG G W (fun _ (v : Bool) d => v = d) κ w σ (match dNe (.lst xs) (.lst []) with | some (.bl b) => .ok b s | _ => .stuck) Q := q
        obtain ⟨a, vs, h1, h2, h3⟩ := own_list ok e
        refine ⟨.ref a, h1, by decide, fun p hp => ?_⟩
        split at q
        · rename_i b e1
          obtain ⟨p1, p2, t1, t2, c1, c2, rfl⟩ := dNe_parts e1
          obtain ⟨le2, ok2⟩ := ok.alloc hp (.lst [])
          obtain ⟨a', h1', ⟨vs', h2', h3'⟩, _⟩ := ok2.own i _ e rfl
          obtain ⟨le3, ok3⟩ := ok2.freeze (d := .lst xs) e rfl h1' h2' fun w' l f => .lst f (h3'.mono l)
          rw [h1] at h1'
          cases h1'
          have r1 : Dp X.K _ (.ref a) p1 := Rep.py hK ok3 (.lst upd_same (h3'.mono le3)) t1
          have r2 : Dp X.K _ (.ref p) p2 := Rep.py hK ok2 (.lst upd_same .nil) t2
          exact ⟨p1, p2, r1, r2, c1, c2, _, rfl, q _ _ _ le2 ok2 rfl⟩
        · exact q.elim
      | val d =>
        replace q : PostG G W (fun _ (v : Bool) d => v = d) κ w σ (match dNe d (.lst []) with | some (.bl b) => .ok b s | _ => .stuck) Q := q
        obtain ⟨v, h1, r1⟩ := ok.val i d e
        refine ⟨v, h1, by decide, fun p hp => ?_⟩
        split at q
        · rename_i b e1
          obtain ⟨p1, p2, t1, t2, c1, c2, rfl⟩ := dNe_parts e1
          obtain ⟨le2, ok2⟩ := ok.alloc hp (.lst [])
          have r2 : Dp X.K _ (.ref p) p2 := Rep.py hK ok2 (.lst upd_same .nil) t2
          exact ⟨p1, p2, Rep.py hK ok2 (r1.mono le2) t1, r2, c1, c2, _, rfl, q _ _ _ le2 ok2 rfl⟩
        · exact q.elim
      | _ => exact q.elim
end
end DL
set_option maxRecDepth 100000
set_option maxHeartbeats 4000000
set_option autoImplicit false
namespace DL
open PySem PySem.Spec PyProof.Rows L2
section
variable {G : Gam} {W : WX} {X : Cx}
/-! ### a, b, c = [], [], x with lists of one's own -/
def sPar3O (i j l : Nat) (f1 f2 : DA) (f3 : DE) : DStm := fun s => match f1 s with
  | .ok xs s1 => match f2 s1 with
    | .ok ys s2 => match f3 s2 with
      | .ok d s3 => .ok .nx ⟨((s3.sl.set i (.ol xs)).set j (.ol ys)).set l (.val d), s3.st⟩
      | _ => .stuck
    | _ => .stuck
  | _ => .stuck
theorem pds_par3O {i j l : Nat} {x y z : Str} {a b c : Expr} {f1 f2 : DA} {f3 : DE} {px py pz pt pos : Pos} {kt k2 : Nat} {pt2 : Pos} (hc : X.calm = true) (hN : X.N.Nodup) (hi : X.N[i]? = some x) (hj : X.N[j]? = some y) (hl : X.N[l]? = some z) (hij : i ≠ j) (hil : i ≠ l) (hjl : j ≠ l)
    (hx : X.env.scope.names.lookup x = some .local) (hy : X.env.scope.names.lookup y = some .local) (hz : X.env.scope.names.lookup z = some .local) (ha : PDo G W X a f1) (hb : PDo G W X b f2) (hd : PD G W X c f3)
    (hw : swappedStores [.Tuple [.Name x px, .Name y py, .Name z pz] kt pt] (.Tuple [a, b, c] k2 pt2) X.env = pure (some [x, y, z]))
    (hs : swapsWithSole [.Tuple [.Name x px, .Name y py, .Name z pz] kt pt] (.Tuple [a, b, c] k2 pt2) pos.line X.env = pure false := by rfl)
    (s1 : starEach [a, b, c] X.env = (false, eval a X.env) :: starEach [b, c] X.env := by rfl) (s2 : starEach [b, c] X.env = (false, eval b X.env) :: starEach [c] X.env := by rfl) (s3 : starEach [c] X.env = (false, eval c X.env) :: starEach [] X.env := by rfl) :
    PDS G W X (.Assign [.Tuple [.Name x px, .Name y py, .Name z pz] kt pt] (.Tuple [a, b, c] k2 pt2) pos) (sPar3O i j l f1 f2 f3) :=
  (ps_par3 hc hN hi hj hl hij hil hjl hx hy hz (pa_cons ha (pa_cons hb (pa_cons hd pa_nil s3) s2) s1) hw hs).imp fun N σ H ⟨κ, w, s, ok, q⟩ => by
    unfold sPar3O at q
    cases e1 : f1 s with
    | stuck => rw [e1] at q; exact q.elim
    | exc x s' => rw [e1] at q; exact q.elim
    | ok xs s1 =>
      rw [e1] at q
      simp only at q
      refine ⟨κ, w, s, ok, ?_⟩
      rw [e1]
      intro w1 a vs H1 l1 ok1 g1 r1
      cases e2 : f2 s1 with
      | stuck => rw [e2] at q; exact q.elim
      | exc x s' => rw [e2] at q; exact q.elim
      | ok ys s2 =>
        rw [e2] at q
        simp only at q
        refine ⟨_, w1, s1, ok1, ?_⟩
        rw [e2]
        intro w2 b us H2 l2 ok2 g2 r2
        cases e3 : f3 s2 with
        | stuck => rw [e3] at q; exact q.elim
        | exc x s' => rw [e3] at q; exact q.elim
        | ok d s3 =>
          rw [e3] at q
          simp only at q
          refine ⟨_, w2, s2, ok2, ?_⟩
          rw [e3]
          intro w3 v H3 l3 ok3 r3
          refine ⟨_, _, _, rfl, ?_⟩
          have h1 := ok3.setOwn (y := .ol ys) g2 ⟨us, (ok3.gam (b, .lst us) List.mem_cons_self).1, r2.mono l3⟩ rfl (fun _ _ z => nomatch z) j
          have h2 := h1.setOwn (y := .ol xs) g1 ⟨vs, (h1.gam (a, .lst vs) List.mem_cons_self).1, (r1.mono l2).mono l3⟩ rfl (fun _ _ z => nomatch z) i
          have h3 := h2.setVal r3 l
          rw [List.set_comm _ _ hij] 
          rw [List.set_comm _ _ hij] at q
          exact q w3 _ H3 (l1.trans (l2.trans l3)) h3
/-! ### is True, is False -/
def dIsB : D → D → Option D := fun x y => match x, y with
  | .bl a, .bl b => some (.bl (decide (a = b)))
  | _, _ => none
def dNotB : D → D → Option D := fun x y => match x, y with
  | .bl a, .bl b => some (.bl (!decide (a = b)))
  | _, _ => none
theorem opd_isB : OpD G X (compareOp .Is) dIsB := ⟨_, op_isBl, fun κ w s σ H x y dx dy d Q ok rx ry e q => by
  cases rx with
  | bl a =>
    cases ry with
    | bl b =>
      cases e
      exact ⟨_, _, rfl, rfl, q w _ H (.refl _) ok (.bl _)⟩
    | _ => exact nomatch e
  | _ => exact nomatch e⟩
theorem opd_notB : OpD G X (compareOp .IsNot) dNotB := ⟨_, op_notBl, fun κ w s σ H x y dx dy d Q ok rx ry e q => by
  cases rx with
  | bl a =>
    cases ry with
    | bl b =>
      cases e
      exact ⟨_, _, rfl, rfl, q w _ H (.refl _) ok (.bl _)⟩
    | _ => exact nomatch e
  | _ => exact nomatch e⟩
/-! ### a, b = a list of two -/
def gTA (n : Nat) (g : List D → DS → Res DS Unit) : DG := fun d s => match d with
  | .tup ds => if ds.length = n then g ds s else .stuck
  | .lst ds => if ds.length = n then g ds s else .stuck
  | _ => .stuck
theorem pdg_any (hK : G.K = X.K) {es : List Expr} {is : List Nat} {k : Nat} {g : List D → DS → Res DS Unit} {n : Nat} {pos : Pos} (hc : X.calm = true) (h : PDGs G X es is g)
    (hn : (assignEach es X.env).length = n := by rfl) (hst : (assignEach es X.env).findIdx? (·.1) = none := by rfl) : PDG G X (.Tuple es k pos) is (gTA n g) :=
  ⟨fun pins s0 σ H v u Q I r0 ⟨κ, w, s, d, ok, r, q⟩ => by
    cases r with
    | @tup a vs ds e r =>
      by_cases c : ds.length = n
      · have q : PostT G is σ κ w (if ds.length = n then g ds s else .stuck) Q := q
        rw [if_pos c] at q
        exact (pg_tup hc h hn hst).run pins s0 σ H _ u Q I r0 ⟨a, vs, rfl, hK ▸ SqT.le e ok.fok.sub, by rw [r.length]; exact c, κ, w, s, ds, ok, r, q⟩
      · have q : PostT G is σ κ w (if ds.length = n then g ds s else .stuck) Q := q
        rw [if_neg c] at q
        exact q.elim
    | @lst a vs ds e r =>
      by_cases c : ds.length = n
      · have q : PostT G is σ κ w (if ds.length = n then g ds s else .stuck) Q := q
        rw [if_pos c] at q
        exact (pg_unl hc h hn hst).run pins s0 σ H _ u Q I r0 ⟨a, vs, rfl, .inl (.inl (ok.fok.sub _ _ e)), by rw [r.length]; exact c, κ, w, s, ds, ok, r, q⟩
      · have q : PostT G is σ κ w (if ds.length = n then g ds s else .stuck) Q := q
        rw [if_neg c] at q
        exact q.elim
    | _ => exact q.elim⟩
/-! ### text * number -/
theorem op_smul : OpR X (binaryOp .Mult) (fun x y H Q => ∃ (i : Str) (n : Int), x = .str i ∧ y = .int n ∧ i.length ≤ 100 ∧ -100000 ≤ n ∧ n ≤ 100000 ∧ Q (.str (Txt.mul i n)) H) := by
  intro pins s σ H x y v u Q I rx ry h
  obtain ⟨i, n, rfl, rfl, hz, h0, h1, q⟩ := h
  obtain ⟨t, rfl⟩ := rx
  obtain ⟨t', rfl⟩ := ry
  refine SB.mul ⟨?_, fun hn _ => ?_, fun hn _ => ?_⟩ fun t' k => ⟨.str (Txt.mul i n), H, I.tok _, ⟨_, rfl⟩, q⟩
  · rw [decide_eq_false (by omega), decide_eq_false (by omega)]; rfl
  · have : (i.length : Int) ≤ (2 ^ 63 - 1) / n := by
      rw [Int.le_ediv_iff_mul_le (by omega)]
      have := Int.mul_le_mul (show (i.length : Int) ≤ 100 by omega) h1 (by omega) (by omega)
      omega
    omega
  · unfold Builtin.Str.tooLong
    have := Nat.mul_le_mul hz (show n.toNat ≤ 100000 by omega)
    rw [decide_eq_false]
    rw [Nat.not_lt]
    exact Nat.le_trans this (by decide)
theorem foldl_repN (l : List Nat) : ∀ (k : Nat) (acc : List Nat), (List.replicate k l.toArray).foldl (· ++ ·) acc.toArray = (acc ++ (List.replicate k l).flatten).toArray
  | 0, acc => by simp
  | k + 1, acc => by
    rw [List.replicate_succ, List.foldl_cons, List.append_toArray, foldl_repN l k (acc ++ l), List.replicate_succ, List.flatten_cons, List.append_assoc]
theorem mul_nm (l : Nm) (n : Int) : Txt.mul (nm l) n = nm (List.replicate n.toNat l).flatten := by
  unfold Txt.mul
  by_cases c : n < 1
  · rw [if_pos c, show n.toNat = 0 by omega]
    rfl
  · rw [if_neg c]
    by_cases c2 : (n == 1 || (nm l).length == 0) = true
    · rw [if_pos c2]
      rw [Bool.or_eq_true] at c2
      rcases c2 with c2 | c2
      · have : n = 1 := by simpa using c2
        subst this
        simp
      · have hl : l = [] := by
          have := (beq_iff_eq.mp c2)
          rw [nm_len] at this
          exact List.eq_nil_of_length_eq_zero this
        subst hl
        simp
    · rw [if_neg c2]
      have := foldl_repN l n.toNat []
      rw [List.nil_append] at this
      unfold nm
      rw [← this]
def sMul : D → D → Option D := fun x y => match x, y with
  | .str l, .int n => if l.length ≤ 100 ∧ -100000 ≤ n ∧ n ≤ 100000 then some (.str (List.replicate n.toNat l).flatten) else none
  | _, _ => none
theorem opd_smul : OpD G X (binaryOp .Mult) sMul := ⟨_, op_smul, fun κ w s σ H x y dx dy d Q ok rx ry e q => by
  cases rx with
  | str l =>
    cases ry with
    | int n =>
      have e : (if l.length ≤ 100 ∧ -100000 ≤ n ∧ n ≤ 100000 then some (D.str (List.replicate n.toNat l).flatten) else none) = some d := e
      split at e
      · rename_i c
        cases e
        refine ⟨nm l, n, rfl, rfl, by rw [nm_len]; exact c.1, c.2.1, c.2.2, ?_⟩
        rw [mul_nm]
        exact q w _ H (.refl _) ok (.str _)
      · cases e
    | _ => exact nomatch e
  | _ => exact nomatch e⟩
/-! ### tuple + tuple, empty ones too -/
def tAdd : D → D → Option D := fun x y => match x, y with
  | .tup a, .tup b => if a.length + b.length ≤ 1000000 then some (.tup (a ++ b)) else none
  | _, _ => none
theorem opd_tadd (hK : G.K = X.K) : OpD G X (binaryOp .Add) tAdd := ⟨_, op_catA, fun κ w s σ H x y dx dy d Q ok rx ry e q => by
  cases rx with
  | @tup a vs ds e1 r1 =>
    cases ry with
    | @tup a2 vs2 ds2 e2 r2 =>
      have e : (if ds.length + ds2.length ≤ 1000000 then some (D.tup (ds ++ ds2)) else none) = some d := e
      split at e
      · rename_i c
        cases e
        refine ⟨a, a2, vs, vs2, rfl, rfl, hK ▸ SqT.le e1 ok.fok.sub, hK ▸ SqT.le e2 ok.fok.sub, by rw [r1.length, r2.length, sizeLine_eq]; omega, fun z => ?_, fun _ z => ?_, fun _ _ p hp => ?_⟩
        · subst z
          cases r1
          exact q w _ H (.refl _) ok (.tup e2 r2)
        · subst z
          cases r2
          rw [List.append_nil] at q
          exact q w _ H (.refl _) ok (.tup e1 r1)
        · obtain ⟨le2, ok2⟩ := ok.alloc hp (.tup (vs ++ vs2))
          exact q _ _ _ le2 ok2 (.tup (.inl (.inl upd_same)) ((r1.append r2).mono le2))
      · cases e
    | _ => exact nomatch e
  | _ => exact nomatch e⟩
/-! ### max(xs), min(xs) of a list of ints -/
def mxL : List Int → Int
  | [] => 0
  | [x] => x
  | x :: y :: r => if mxL (y :: r) > x then mxL (y :: r) else x
def mnL : List Int → Int
  | [] => 0
  | [x] => x
  | x :: y :: r => if mnL (y :: r) < x then mnL (y :: r) else x
theorem mxL_mem : ∀ {l : List Int}, l ≠ [] → mxL l ∈ l ∧ ∀ y ∈ l, y ≤ mxL l
  | [], h => absurd rfl h
  | [x], _ => ⟨by simp [mxL], fun y hy => by simp at hy; subst hy; simp [mxL]⟩
  | x :: y :: r, _ => by
    obtain ⟨h1, h2⟩ := mxL_mem (l := y :: r) (by simp)
    unfold mxL
    split
    · refine ⟨List.mem_cons_of_mem _ h1, fun z hz => ?_⟩
      rcases List.mem_cons.mp hz with rfl | hz
      · omega
      · exact h2 z hz
    · refine ⟨List.mem_cons_self .., fun z hz => ?_⟩
      rcases List.mem_cons.mp hz with rfl | hz
      · omega
      · have := h2 z hz; omega
theorem mnL_mem : ∀ {l : List Int}, l ≠ [] → mnL l ∈ l ∧ ∀ y ∈ l, mnL l ≤ y
  | [], h => absurd rfl h
  | [x], _ => ⟨by simp [mnL], fun y hy => by simp at hy; subst hy; simp [mnL]⟩
  | x :: y :: r, _ => by
    obtain ⟨h1, h2⟩ := mnL_mem (l := y :: r) (by simp)
    unfold mnL
    split
    · refine ⟨List.mem_cons_of_mem _ h1, fun z hz => ?_⟩
      rcases List.mem_cons.mp hz with rfl | hz
      · omega
      · exact h2 z hz
    · refine ⟨List.mem_cons_self .., fun z hz => ?_⟩
      rcases List.mem_cons.mp hz with rfl | hz
      · omega
      · have := h2 z hz; omega
def bMaxL : List D → Option D
  | [.lst xs] => match intsOf xs with
    | some (n :: ns) => some (.int (mxL (n :: ns)))
    | _ => none
  | _ => none
def bMinL : List D → Option D
  | [.lst xs] => match intsOf xs with
    | some (n :: ns) => some (.int (mnL (n :: ns)))
    | _ => none
  | _ => none
theorem cd_maxL (hc : X.calm = true) : CallD G X (.builtin "max") bMaxL := ⟨_, cr_max hc, fun κ w s σ H vs ds d Q ok rs e q => by
  match ds, e with
  | [.lst xs], e =>
    have e : (match intsOf xs with | some (n :: ns) => some (D.int (mxL (n :: ns))) | _ => none) = some d := e
    cases e1 : intsOf xs with
    | none => rw [e1] at e; cases e
    | some l =>
      rw [e1] at e
      cases l with
      | nil => cases e
      | cons n ns =>
        cases e
        obtain ⟨v, rfl, r⟩ := rs.one
        cases r with
        | @lst a vs ds e r =>
          rw [intsOf_eq e1] at r
          rw [r.ints] at e
          refine ⟨a, n :: ns, rfl, .inl (.inl (ok.fok.sub _ _ e)), by simp, fun m h1 h2 => ?_⟩
          obtain ⟨h3, h4⟩ := mxL_mem (l := n :: ns) (by simp)
          have : m = mxL (n :: ns) := Int.le_antisymm (h4 m h1) (h2 _ h3)
          subst this
          exact q w _ H (.refl _) ok (.int _)⟩
theorem cd_minL (hc : X.calm = true) : CallD G X (.builtin "min") bMinL := ⟨_, cr_min hc, fun κ w s σ H vs ds d Q ok rs e q => by
  match ds, e with
  | [.lst xs], e =>
    have e : (match intsOf xs with | some (n :: ns) => some (D.int (mnL (n :: ns))) | _ => none) = some d := e
    cases e1 : intsOf xs with
    | none => rw [e1] at e; cases e
    | some l =>
      rw [e1] at e
      cases l with
      | nil => cases e
      | cons n ns =>
        cases e
        obtain ⟨v, rfl, r⟩ := rs.one
        cases r with
        | @lst a vs ds e r =>
          rw [intsOf_eq e1] at r
          rw [r.ints] at e
          refine ⟨a, n :: ns, rfl, .inl (.inl (ok.fok.sub _ _ e)), by simp, fun m h1 h2 => ?_⟩
          obtain ⟨h3, h4⟩ := mnL_mem (l := n :: ns) (by simp)
          have : m = mnL (n :: ns) := Int.le_antisymm (h2 _ h3) (h4 m h1)
          subst this
          exact q w _ H (.refl _) ok (.int _)⟩
/-! ### range(i, j, c) -/
def rngC (lo c : Int) (n : Nat) : List D := (List.range n).map fun (i : Nat) => D.int (lo + (i : Int) * c)
theorem itOk_rngC {w : Wd} (lo c : Int) (n : Nat) : ItOk G w (Itc lo c n) (rngC lo c n) := by
  intro w1 S H le fok i
  refine ⟨fun d hd => ?_, fun hn => ?_⟩
  · unfold rngC at hd
    rw [List.getElem?_map] at hd
    by_cases c : i < n
    · rw [List.getElem?_range c] at hd
      cases hd
      refine ⟨c, fun x H' ⟨hH, hx⟩ => ⟨w1, ?_, ?_, ?_⟩⟩
      · rw [hH]; exact .refl _ _
      · rw [hH]; exact fok
      · rw [hx]; exact .int _
    · rw [List.getElem?_eq_none (by rw [List.length_range]; omega)] at hd
      cases hd
  · have := List.getElem?_eq_none_iff.mp hn
    unfold rngC at this
    rw [List.length_map, List.length_range] at this
    exact this
def itR3 (f : DA) : DA := fun s => (f s).bind fun ds s1 => match ds with
  | [.int i, .int j, .int c] => if c ≠ 0 ∧ c.natAbs < 1073741824 ∧ Builtin.Range.small i j c = true ∧ 0 ≤ Builtin.Range.rangeSize i j c then .ok (rngC i c (Builtin.Range.rangeSize i j c).toNat) s1 else .stuck
  | _ => .stuck
theorem pdi_range3 {tg a b c : Expr} {f : DA} {p pos : Pos} (hg : Gl X "range") (hm : X.mg "range" = none) (ha : PDA G W X [a, b, c] f) (hs : starEach [a, b, c] X.env = (false, eval a X.env) :: starEach [b, c] X.env := by rfl) (hpl : (backTo pos (starEach [b, c] X.env)).any (·.1) = false := by rfl) :
    PDI G W X tg (.Call (.Name "range" p) [a, b, c] [] pos) (itR3 f) :=
  (pi_range3 hg hm ha hs hpl).imp fun σ H R ⟨κ, w, s, ok, q⟩ => ⟨κ, w, s, ok, (PostG.bindI q).imp fun v H1 ⟨d, s1, w1, le, ok1, r1, q1⟩ => by
    match d, q1, r1 with
    | [.int i, .int j, .int c], q1, .cons (.int _) (.cons (.int _) (.cons (.int _) .nil)) =>
      have q1 : PostI G W κ w1 σ (if c ≠ 0 ∧ c.natAbs < 1073741824 ∧ Builtin.Range.small i j c = true ∧ 0 ≤ Builtin.Range.rangeSize i j c then .ok (rngC i c (Builtin.Range.rangeSize i j c).toNat) s1 else .stuck) R := q1
      by_cases cc : c ≠ 0 ∧ c.natAbs < 1073741824 ∧ Builtin.Range.small i j c = true ∧ 0 ≤ Builtin.Range.rangeSize i j c
      · rw [if_pos cc] at q1
        exact ⟨i, j, c, _, rfl, ⟨cc.1, cc.2.1, cc.2.2.1, (Int.toNat_of_nonneg cc.2.2.2).symm⟩, q1 w1 _ H1 (.refl _) ok1 (itOk_rngC i c _)⟩
      · rw [if_neg cc] at q1
        exact q1.elim⟩
end
end DL
set_option maxRecDepth 100000
set_option maxHeartbeats 4000000
set_option autoImplicit false
namespace DL
open PySem PySem.Spec PyProof.Rows L2
/-! ### raise C(), the class with no __init__ of its own -/
abbrev veM : List Value := [.type "ValueError", .type "Exception", .type "BaseException", .type "object"]
def x0B (K : PySem.W.Frag) (C : Addr) : Bool := PySem.W.excIn K C veM "ValueError.__new__" && (PySem.W.keepIn K (.ref C) && ((PySem.W.subIn K (.ref C) (.type "BaseException") == some true) && (PySem.W.typeIn K (.ref C) == some (.type "type"))))
def sRaise0 (c : String) : DStm := fun s => .exc ⟨c, []⟩ s
@[simp] theorem r_sRaise0 (c : String) (s : DS) : sRaise0 c s = .exc ⟨c, []⟩ s := rfl
section
variable {G : Gam} {W : WX} {X : Cx}
theorem pmk_own0 {C : Addr} {x : Str} {p pos : Pos} (hB : x0B X.K C = true) (gC : X.mg x = some (.ref C)) (hg : Gl X x) (hdb : (x == ("__debug__" : Str)) = false := by decide) :
    PMk X (.Call (.Name x p) [] [] pos) (fun σ H Q => Q (.ref C) none H) := by
  unfold x0B at hB
  simp only [Bool.and_eq_true, beq_iff_eq] at hB
  obtain ⟨q, kC, b1, b2⟩ := hB
  intro pins s σ H Q I h
  refine wpAny_Call_Name_kw (ld_glob I hg gC ?_ hdb)
  refine PySem.W.callWith_K0 I.kIn kC ?_
  obtain ⟨bm, N, nm, qn, bs, hdct, sn, sub, ab, col, dd, k0, k1, k2, k3, k5, mN, hC, hN, hni, T⟩ := exc_obj I.kIn q
  refine wpAny_call_exc_subT PySem.F.excBase_ValueError T hC hN hni (fun h' e hm => ?_) (by show 0 ≤ sizeLine; rw [sizeLine_eq]; omega)
  exact mk_of I hm (raises_own b1 b2) h (I.hok.gone hm.new)
theorem pds_raise0 {c : String} {C : Addr} {x : Str} {p pos pos' : Pos} (hc : X.calm = true) (tk : Takes X W) (hct : G.ct c = some C) (hB : x0B X.K C = true) (hg : Gl X x) (hm : X.mg x = some (.ref C)) (hdb : (x == ("__debug__" : Str)) = false := by decide) :
    PDS G W X (.Raise (some (.Call (.Name x p) [] [] pos)) none pos') (sRaise0 c) :=
  (ps_raise hc tk (pmk_own0 hB hm hg hdb)).imp fun N σ H ⟨κ, w, s, ok, q⟩ => q w σ (.ref C) none H (.refl _) ok ⟨C, hct, rfl, .inl ⟨rfl, rfl⟩⟩
end
end DL
set_option maxRecDepth 100000
set_option maxHeartbeats 4000000
set_option autoImplicit false
namespace DL
open PySem PySem.Spec PyProof.Rows L2
/-! ### a comprehension whose element calls a def with a lambda of the maker: the maker's own state goes along -/
section
variable {X : Cx}
theorem lcK {elt tg iter : Expr} {ifs : List Expr} {scope : Scope} {own : List (Str × Nat)} {pos : Pos} {wi : TI} {g : TG} {tt : TT} {te : TE} (hc : X.calm = true) (hN : X.N.Nodup) (hi : PI X tg iter wi) (ok : BlkOk X.N X.env.scope scope own)
    (hg : ∀ (s : Shared) (H : Hp) (C : Addr) (cl : List (Str × Addr)) (fp : List Addr), PG (X.blk s H scope (compEnvC scope cl C X.env) fp) tg g) (ht : ∀ (s : Shared) (H : Hp) (C : Addr) (cl : List (Str × Addr)) (fp : List Addr), PTs (X.blk s H scope (compEnvC scope cl C X.env) fp) ifs tt)
    (he : ∀ (pins : List (Addr × Obj)) (σ : L2.St) (s : Shared) (H : Hp) (C : Addr) (cl : List (Str × Addr)) (fp : List Addr), Inv X pins σ H s → (∀ b ∈ fp, FpOk X pins H b) → PE (X.blk s H scope (compEnvC scope cl C X.env) fp) elt (fun σ' H' Q => L2.wipe σ' (own.map (·.2)) = L2.wipe σ (own.map (·.2)) ∧ te σ' H' Q)) (hs : ∀ x, foldedSetIterable iter X.env x = pure x := by intro _; rfl) :
    PE X (.ListComp elt [⟨tg, iter, ifs, 0⟩] scope pos) (tLc wi g tt te (own.map (·.2))) := by
  refine ⟨fun pins s σ H Q I h => ?_⟩
  rw [eval_ListComp]
  have fr : ∀ y ∈ scope.names, y.2 = .free → ∃ c, X.env.cells.lookup y.1 = some c := fun y hy e => (ok.free y hy e).elim (fun k => I.ok.has _ (.inl k)) fun k => I.ok.has _ (.inr k)
  refine wpAny_comprehension_free (use := none) rfl hs (closure_ok fr) ok.kind (fun y hy e => by rw [ok.uniq y hy, e])
    (thn (hi.run pins s σ H _ I h) fun xv s1 hx => thn hx fun itv s2 h2 => ?_)
  obtain ⟨it, fp, tn, J, H2, rfl, I2, T, st2, f2, q⟩ := h2
  refine wpAny_newObj_type (newEnv_comp ?_) (by show 0 ≤ sizeLine; decide)
  generalize hD : s2.heap.objs.size = D
  have nD : H2 D = none := I2.hok.fresh (Nat.le_of_eq hD)
  obtain ⟨Wv, ⟨m0, w0⟩, turn⟩ := q D nD
  generalize e3 : ({ s2 with heap := s2.heap.push { cls := .type "list", data := .seq ([] : List Value).toArray } } : Shared) = s3
  have hh : s3.heap = s2.heap.push { cls := .type "list", data := .seq ([] : List Value).toArray } := by rw [← e3]
  have I3 : Inv X pins σ (upd H2 D (.lst [])) s3 := by
    rw [← e3]
    refine I2.laid (t' := s2.toks) (fun b o e => Heap.get?_push_of_some _ e) (Nat.le_of_eq hD) ⟨Nat.zero_le _, [], 0, .nil, ?_⟩
    rw [← hD]
    exact Heap.get?_push_size _ rfl
  have lt2 : ∀ b ∈ fp, b < s2.heap.objs.size := fun b hb => let ⟨_, e, _⟩ := T.obj _ _ st2 b hb; Heap.lt_size e
  have f3 : ∀ b ∈ fp, FpOk X pins (upd H2 D (.lst [])) b ∧ b < s3.heap.objs.size := fun b hb =>
    ⟨⟨by rw [upd_ne (by rw [← hD]; exact Nat.ne_of_lt (lt2 b hb))]; exact (f2 b hb).1, (f2 b hb).2⟩, by rw [hh, Heap.size_push]; exact Nat.lt_succ_of_lt (lt2 b hb)⟩
  have st3 : tn 0 s3.heap := T.keep _ _ _ st2 fun b _ o e => by rw [hh]; exact Heap.get?_push_of_some _ e
  have I4 := block_start I3 ok hN f3
  show codeAny _ _ (.compStart (.ListComp elt [⟨tg, iter, ifs, 0⟩] scope pos) 0 (.ref it) (.ref D) (compEnvC scope (cellsFrom (s3.heap.objs.size + 1) scope.names (cloFrom X.env.cells scope.names [])) s3.heap.objs.size X.env)) (compPost (model X.prog X.w) X.A X.xe none (EP X pins σ Q) (.ref D) s3.heap.objs.size) { s3 with heap := pushCells (s3.heap.push { cls := .type "dict", data := .dict #[] }) scope.names }
  have pg := hg s3 (upd H2 D (.lst [])) s3.heap.objs.size (cellsFrom (s3.heap.objs.size + 1) scope.names (cloFrom X.env.cells scope.names [])) fp
  have pt := ht s3 (upd H2 D (.lst [])) s3.heap.objs.size (cellsFrom (s3.heap.objs.size + 1) scope.names (cloFrom X.env.cells scope.names [])) fp
  have pe := he pins σ s3 (upd H2 D (.lst [])) s3.heap.objs.size (cellsFrom (s3.heap.objs.size + 1) scope.names (cloFrom X.env.cells scope.names [])) fp I3 fun b hb => (f3 b hb).1
  have nfp : ∀ b ∈ fp, (upd H2 D (.lst [])) b = none := fun b hb => (f3 b hb).1.1
  generalize hce : compEnvC scope (cellsFrom (s3.heap.objs.size + 1) scope.names (cloFrom X.env.cells scope.names [])) s3.heap.objs.size X.env = ce at I4 pg pt pe ⊢
  have cL : ce.locals = s3.heap.objs.size := by subst hce; rfl
  generalize upd H2 D (.lst []) = H3 at I3 I4 pg pt pe w0 nfp f3
  generalize hs4 : ({ s3 with heap := pushCells (s3.heap.push { cls := .type "dict", data := .dict #[] }) scope.names } : Shared) = s4 at I4 ⊢
  have st4 : tn 0 s4.heap := T.keep _ _ _ st3 fun b _ o e => by rw [← hs4]; exact pushCells_keeps _ _ _ _ (Heap.get?_push_of_some _ e)
  have stat : ∀ {σ' : L2.St} {H' : Hp} {s' : Shared}, Inv (X.blk s3 H3 scope ce fp) [] σ' H' s' → (∀ b ∈ fp, H' b = none) → ∀ b ∈ fp, FpOk (X.blk s3 H3 scope ce fp) [] H' b := fun {σ' H' s'} I' hn b hb =>
    ⟨hn b hb, (I'.ok.exf b hb).1, I'.ok.exfs b hb, .inl hb, (I'.ok.exf b hb).2, fun p hp => absurd (show p ∈ ([] : List (Addr × Obj)) ++ [] from hp) (by simp)⟩
  have loop : codeAny (model X.prog X.w) X.A (.compLoop (.ListComp elt [⟨tg, iter, ifs, 0⟩] scope pos) 0 (.ref it) (.ref D) ce) (compPost (model X.prog X.w) X.A X.xe none (EP X pins σ Q) (.ref D) s3.heap.objs.size) s4 := by
    refine compLoop_any (fun n s' => ∃ i H', Inv (X.blk s3 H3 scope ce fp) [] (L2.wipe σ (own.map (·.2))) H' s' ∧ tn i s'.heap ∧ (∀ b ∈ fp, H' b = none) ∧ Wv i n H') ?_ m0 ⟨0, H3, I4, st4, nfp, w0⟩
    rintro n s5 ⟨i, H5, I5, st5, n5, w5⟩
    rcases turn i n H5 w5 with ⟨stop, qq⟩ | ⟨go, Nx, hNx, step⟩
    · refine thnF (T.done (X.blk s3 H3 scope ce fp) rfl rfl rfl hc i [] s5 _ H5 (fun _ _ => False) I5 (stat I5 n5) st5 stop) fun r s6 ⟨hr, I6⟩ => ?_
      subst hr
      have I7 : Inv X pins σ H5 s6 := I3.call' (ch := fp) I6.os I6.base I6.hok I6.bare fun b hb => ⟨(f3 b hb).1.2.2.2.1, (f3 b hb).1.2.1, (f3 b hb).1.2.2.2.2.1, (f3 b hb).1.2.2.2.2.2⟩
      have nC : H5 s3.heap.objs.size = none := by
        have z : H5 ce.locals = none := I6.free
        rw [cL] at z
        exact z
      obtain ⟨m, hn, _⟩ := I6.loc
      have hn : s6.heap.Ns ce.locals m := hn
      rw [cL] at hn
      obtain ⟨f0, f1, f2, f3, f4, f5⟩ := I3.fpOk (Nat.le_refl _) nC
      exact ⟨m, hn, fun h'' sb => ⟨.ref D, H5, I7.turned (t' := s6.toks) (fun b o hb e => (sb.2 b hb).trans e) f0 f1 f3 f4 f5, rfl, qq⟩⟩
    · refine thnF (T.item (X.blk s3 H3 scope ce fp) rfl rfl rfl hc i [] s5 _ H5 (fun _ _ => False) I5 (stat I5 n5) st5 go) fun r s6 ⟨u, hr, h6⟩ => ?_
      subst hr
      refine thnF h6 fun _ s7 ⟨x, H7, I7, r7, y7, st7, n7⟩ => ?_
      refine thnF (pg.run _ s7 _ H7 x u _ (I7.pinned (stat I7 n7) (T.obj _ _ st7)) r7 (step x H7 y7)) fun _ s8 ⟨σ8, H8, I8, hw8, q8⟩ => ?_
      refine thnF (pt.run _ s8 σ8 H8 _ I8 q8) fun b s9 ⟨H9, I9, q9⟩ => ?_
      have fin : ∀ {s' : Shared} {H' : Hp}, Inv (X.blk s3 H3 scope ce fp) ([] ++ pinsAt fp s7.heap) σ8 H' s' → Nx H' → ∃ m, m < n ∧ ∃ i H', Inv (X.blk s3 H3 scope ce fp) [] (L2.wipe σ (own.map (·.2))) H' s' ∧ tn i s'.heap ∧ (∀ b ∈ fp, H' b = none) ∧ Wv i m H' := fun {s' H'} I' nx => by
        obtain ⟨m', hm, w'⟩ := hNx H' nx
        have pin' : ∀ b ∈ fp, ∀ o, s7.heap.get? b = some o → s'.heap.get? b = some o ∧ H' b = none := fun b hb o e =>
          let z := I'.pin (b, o) (List.mem_append_right _ (List.mem_append_right _ (mem_pinsAt hb e)))
          ⟨z.1, z.2.1⟩
        refine ⟨m', hm, i + 1, H', (I'.unpinned (pins := [])).weak (by rw [← hw8, L2.wipe_length]) (fun j v e => by rw [← hw8] at e; exact (wipe_some e).1), T.keep _ _ _ st7 fun b hb o e => (pin' b hb o e).1, fun b hb => ?_, w'⟩
        obtain ⟨o, e, _⟩ := T.obj _ _ st7 b hb
        exact (pin' b hb o e).2
      cases b with
      | false =>
        simp only [Bool.false_eq_true, if_false] at q9 ⊢
        exact fin I9 q9
      | true =>
        simp only [if_true] at q9 ⊢
        refine thnF (pe.run _ s9 σ8 H9 _ I9 ⟨hw8, q9⟩) fun z s10 ⟨yv, H10, I10, r10, acc, hD10, hz10, nx⟩ => ?_
        exact app_ok (X := X.blk s3 H3 scope ce fp) I10 hD10 hz10 r10 fun s11 I11 => fin I11 nx
  exact codeAny_compStart_list loop (T.self X.A 0 _ _ _ st4 loop)
end

def eCallLB (n : Nat) (g : LamR → DFn) (bs : String → Option DE) (vs : List Nat) (fa : DA) : DE := fun s => (fa s).bind fun ds s1 => if ds.length = n then lift s1 (g (lamR bs (wipeD vs s1.sl)) ds s1.st) else .stuck
@[simp] theorem r_eCallLB (n : Nat) (g : LamR → DFn) (bs : String → Option DE) (vs : List Nat) (fa : DA) (s : DS) : eCallLB n g bs vs fa s = (fa s).bind fun ds s1 => if ds.length = n then lift s1 (g (lamR bs (wipeD vs s1.sl)) ds s1.st) else .stuck := rfl
section
variable {G : Gam} {W : WX} {X : Cx}
theorem pd_callLB {T : LamT} {bs : String → Option DE} {k n m i : Nat} {f : Addr} {fd : FuncData} {N ps : List Str} {body : LamR → DStm} {x qual a : Str} {st : Stmt} {p pos : Pos} {e : Expr} {es : List Expr} {fa : DA} {vs : List Nat}
    {pinsX : List (Addr × Obj)} {σX : L2.St} {sX : Shared} {HX : Hp} {scope : Scope} {cenv : Env} {fp : List Addr} (IX : Inv X pinsX σX HX sX) (hfp : ∀ b ∈ fp, FpOk X pinsX HX b) (hK : G.K = X.K) (F : Fun X.K x qual st f fd) (S : FnScope N ps (defScope st)) (hn : ps.length = n) (hm : N.length - n = m)
    (GL : ∀ n f w', G.lam n f w' → T.lam n f w') (hq : T.q = X.env.qual ++ "<lambda>") (hcl : T.cells = X.env.cells) (hbs : LamsOk G X T k bs)
    (hbody : ∀ w, BodyL (G.at w) X.prog X.w X.mg X.base (k + 1) N qual st f a i body) (hN : N[i]? = some a) (hv : Vis (defScope st) a)
    (hr : Room (k + 2) X.A) (hg : Gl (X.blk sX HX scope cenv fp) x) (hmg : X.mg x = some (.ref f)) (hb : Binds X.K fd ps []) (tk : Takes (X.blk sX HX scope cenv fp) WF) (ha : PDA G WF (X.blk sX HX scope cenv fp) (e :: es) fa) (hdb : (x == ("__debug__" : Str)) = false := by decide) (hda : (a == ("__debug__" : Str)) = false := by decide) (hcd : (a == ("__classdict__" : Str)) = false := by decide)
    (he : starEach (e :: es) cenv = (false, eval e cenv) :: starEach es cenv := by rfl) (hpl : (backTo pos (starEach es cenv)).any (·.1) = false := by rfl) :
    PE (X.blk sX HX scope cenv fp) (.Call (.Name x p) (e :: es) [] pos) (fun σ' H' Q => L2.wipe σ' vs = L2.wipe σX vs ∧ tD G WF (eCallLB n (fun Λ => fnD n (body Λ) m) bs vs fa) σ' H' Q) := by
  refine ⟨fun pins s σ H Q I ⟨hw, h⟩ => ?_⟩
  obtain ⟨κ, w, ds, ok, q⟩ := h
  refine wpAny_Call_Name_kw (ld_glob I hg hmg ?_ hdb)
  have hh : tDA G WF fa σ H fun vs' H1 => ∃ d s1 w1, w.le w1 ∧ Ok G κ w1 s1 σ H1 ∧ Reps G w1 vs' d ∧ PostG G WF (Rep G) κ w1 σ (if d.length = n then lift s1 (fnD n (body (lamR bs (wipeD vs s1.sl))) m d s1.st) else .stuck) Q := ⟨κ, w, ds, ok, PostG.bind q⟩
  refine PySem.W.callWith_K (h₀ := X.base) I.ok.mod.kin F.kp (thn (ha.run pos pins s σ H _ I hh) fun us s1 ⟨vs', H1, I1, r, d, s2, w1, le, ok1, rs, q1⟩ => ⟨I1.kIn, ?_⟩) he hpl
  by_cases c : d.length = n
  case neg => rw [if_neg c] at q1; exact q1.elim
  rw [if_pos c] at q1
  have q2 := postF_of ok1 q1
  have J : Inv X pinsX (L2.wipe σX vs) H1 s1 := (IX.call' (ch := fp) I1.os I1.base I1.hok I1.bare fun b hb => ⟨(hfp b hb).2.2.2.1, (hfp b hb).2.1, (hfp b hb).2.2.2.2.1, (hfp b hb).2.2.2.2.2⟩).weak (L2.wipe_length _ _) fun j v e => (wipe_some e).1
  have okW : Ok G κ w1 (wipeS vs s2) (L2.wipe σX vs) H1 := by rw [← hw]; exact ok1.wipe vs
  obtain ⟨oc, od, kV, doc, pm, an, cdv, ct, osl, rfl, lk, hcode⟩ := F.ex
  have hl : vs'.length = n := by rw [rs.length]; exact c
  have hul : us.length = ps.length := by rw [← r.length, hl, hn]
  have rc : codeAny (model X.prog X.w) X.A (.call (.ref f) ⟨us, []⟩) (CR (L2.CX X.prog X.w) X.stack X.prog X.w H1 s1 Q (WE WF σ)) s1 := by
    have hbd := hb s1 us I1.kIn (by simpa using hul)
    rw [List.append_nil] at hbd
    refine LamX.run_ofS (N := N) (ps := ps) (us := us) (vs := vs') lk hcode S hr I1.env0 hbd r (by rw [hl, hn]) fun hr' => ?_
    have hb0 := hbody w1 (lamR bs (wipeD vs s2.sl)) cdv X.A X.stack s1 H1 (WE WF σ) hr' (takes_of rfl rfl rfl rfl) (passes_of rfl) 
    have hK' : (G.at w1).K = X.K := hK
    rw [hK'] at hb0
    refine ⟨_, hb0 fun pn xe W' p1 p2 tk' => pd_act J okW GL hq hcl hbs tk' hr' hN hv hda hcd, ?_⟩
    rw [start_eq (m := m) (by rw [hl]; exact hm)]
    have fok' : FOk (G.at w1) w1 s2.st H1 := ok1.fok.sw (.inr fun _ _ z => ⟨z, .refl _⟩)
    have rs' : Reps (G.at w1) w1 vs' d := rs.sw (.inr fun _ _ z => ⟨z, .refl _⟩)
    refine ⟨⟨w1, H1, [], none⟩, w1, _, Ok.start fok' rs' m, ?_⟩
    unfold fnD at q2
    rw [if_pos c] at q2
    cases e : body (lamR bs (wipeD vs s2.sl)) ⟨d.map Sl.val ++ List.replicate m .un, s2.st⟩ with
    | stuck => rw [e] at q2; exact q2.elim
    | exc x s' =>
      rw [e] at q2
      exact fun w' σ' c dd H' le ok' rx => q2 w' c dd H' ok'.nx (ok'.fok.bk (.inr fun _ _ z => z.1)) (rx.bk (.inr fun _ _ z => z.1))
    | ok o s' =>
      rw [e] at q2
      cases o with
      | nx => exact fun w' σ' H' le ok' => q2 w' .non H' ok'.nx (ok'.fok.bk (.inr fun _ _ z => z.1)) .non
      | rt d => exact fun w' σ' v H' le ok' r' => q2 w' v H' ok'.nx (ok'.fok.bk (.inr fun _ _ z => z.1)) (r'.bk (.inr fun _ _ z => z.1))
      | bk => exact q2.elim
      | ct => exact q2.elim
  refine wpAny_call (codeAny_mono rc fun r s' hq => ?_)
  cases r with
  | error e => exact passAt tk σ pins H1 s1 e s' I1 hq
  | ok fl =>
    cases fl with
    | ret u => exact I1.after hq
    | next => exact False.elim hq
    | brk => exact False.elim hq
    | cont => exact False.elim hq
theorem pdo_lcL {elt tg iter : Expr} {ifs : List Expr} {scope : Scope} {own : List (Str × Nat)} {is : List Nat} {pos : Pos} {it : DA} {g : DG} {t : DT} {e : DE} (hc : X.calm = true) (hN : X.N.Nodup) (hi : PDI G W X tg iter it) (ok : BlkOk X.N X.env.scope scope own) (hs' : ∀ i ∈ is, i ∈ own.map (·.2))
    (hg : ∀ (s : Shared) (H : Hp) (C : Addr) (cl : List (Str × Addr)) (fp : List Addr), PDG G (X.blk s H scope (compEnvC scope cl C X.env) fp) tg is g) (ht : ∀ (s : Shared) (H : Hp) (C : Addr) (cl : List (Str × Addr)) (fp : List Addr), PTs (X.blk s H scope (compEnvC scope cl C X.env) fp) ifs (tDT G WF t))
    (he : ∀ (pins : List (Addr × Obj)) (σ : L2.St) (s : Shared) (H : Hp) (C : Addr) (cl : List (Str × Addr)) (fp : List Addr), Inv X pins σ H s → (∀ b ∈ fp, FpOk X pins H b) → PE (X.blk s H scope (compEnvC scope cl C X.env) fp) elt (fun σ' H' Q => L2.wipe σ' (own.map (·.2)) = L2.wipe σ (own.map (·.2)) ∧ tD G WF e σ' H' Q)) (hs : ∀ x, foldedSetIterable iter X.env x = pure x := by intro _; rfl) :
    PDo G W X (.ListComp elt [⟨tg, iter, ifs, 0⟩] scope pos) (aLc (own.map (·.2)) it g t e) :=
  (lcK hc hN hi ok hg ht he hs).imp fun σ H Q h => pdo_lc.lc_fin hs' h
end
end DL
set_option maxRecDepth 100000
set_option maxHeartbeats 4000000
set_option autoImplicit false
namespace DL
open PySem PySem.Spec PyProof.Rows L2 PySem.W
/-! ### o(..): an instance is called -/
section
variable {M : Model} {A : Around} {E : Value → Shared → Prop} {s : Shared} {env : Env} {pos : Pos} {x : Addr} {first : List Value} {Q : Value → Shared → Prop}
theorem callWithI_of {args : List (Bool × Sem Value)} {keywords : List (Option Str × Sem Value)} (hplain : (args.any (·.1) || keywords.any (·.1.isNone)) = false)
    (h : wpAny M A (evalArgs (.ref x) true args keywords) (fun a s₁ => (∃ (C : Addr) (ox : Obj) (od : Option Obj), PySem.W.InstAt s₁.heap x ox C od ∧ ox.data = .plain) ∧ wpAny M A (call (.ref x) (first ++ a.pos) a.kw) Q E s₁) E s) : wpAny M A (callWith pos (.ref x) first args keywords) Q E s := by
  unfold callWith
  refine wpAny_bind (wpAny_holding (wpAny_mono h (fun a s₁ h₁ => wpAny_bind (wpAny_standAt ?_)) fun _ _ y => y))
  obtain ⟨⟨C, ox, od, I, hd⟩, h2⟩ := h₁
  have L := PySem.W.kco_keeper (M := M) I hd
  simp only [hplain]
  refine wpAny_bind (L.here ?_)
  have tail : ∀ {t : Sem Value}, wpAny M A t Q E s₁ → wpAny M A (t >>= fun r => holding [r] point >>= fun _ => pure r) Q E s₁ :=
    fun ht => wpAny_bind (wpAny_mono ht (fun r s₂ hr => wpAny_bind (wpAny_holding (wpAny_point (wpAny_pure hr)))) fun _ _ y => y)
  exact tail (wpAny_operateT h2)
theorem callWithI {e : Expr} {rest : List Expr} (h : wpAny M A (spliced (backTo pos (starEach (e :: rest) env))) (fun vs s₁ => (∃ (C : Addr) (ox : Obj) (od : Option Obj), PySem.W.InstAt s₁.heap x ox C od ∧ ox.data = .plain) ∧ wpAny M A (call (.ref x) (first ++ vs)) Q E s₁) E s)
    (he : starEach (e :: rest) env = (false, eval e env) :: starEach rest env) (hplain : (backTo pos (starEach rest env)).any (·.1) = false) :
    wpAny M A (callWith pos (.ref x) first (backTo pos (starEach (e :: rest) env)) []) Q E s := by
  rw [he] at h ⊢
  exact callWithI_of (by show ((false || (backTo pos (starEach rest env)).any (·.1)) || false) = false; rw [hplain]; rfl) (PySem.Calls.evalArgs_plain h)
end
theorem fnIn_of {K : PySem.W.Frag} {x qual : Str} {st : Stmt} {f : Addr} {fd : FuncData} (F : Fun K x qual st f fd) : PySem.W.fnIn K f = true := by
  obtain ⟨oc, od, kV, doc, pm, an, cdv, ct, osl, _, lk, _⟩ := F.ex
  unfold PySem.W.fnIn
  rw [lk]
section
variable {G : Gam} {W : WX} {X : Cx}
def eCallI (c : String) (n : Nat) (g : DFn) (fo : DE) (fa : DA) : DE := fun s => (fo s).bind fun d s1 => match d with
  | .ins c' fs => if c' = c then (fa s1).bind fun ds s2 => if ds.length + 1 = n then lift s2 (g (.ins c' fs :: ds) s2.st) else .stuck
    else .stuck
  | _ => .stuck
theorem pd_callI (hK : G.K = X.K) {c : String} {n : Nat} {g : DFn} {fo : DE} {fa : DA} {C f : Addr} {k : Nat} {fd : FuncData} {ps : List Str} {o e : Expr} {es : List Expr} {pos : Pos} (he : PD G W X o fo) (hC : G.ct c = some C) (hm : Meth X.K C "__call__" f) (hfn : PySem.W.fnIn X.K f = true)
    (F : FnOk X.prog X.w X.K X.mg X.base (L2.CX X.prog X.w) k f fd ps (spG G n g)) (hr : Room k X.A) (hb : Binds X.K fd ps []) (tk : Takes X W) (ha : PDA G W X (e :: es) fa)
    (hst : starEach (e :: es) X.env = (false, eval e X.env) :: starEach es X.env := by rfl) (hpl : (backTo pos (starEach es X.env)).any (·.1) = false := by rfl)
    (ht : eval (.Call o (e :: es) [] pos) X.env = (do callWith pos (← eval o X.env) [] (backTo pos (starEach (e :: es) X.env)) (backToKw pos (keywordEach [] X.env))) := by rfl) :
    PD G W X (.Call o (e :: es) [] pos) (eCallI c n g fo fa) := by
  refine ⟨fun pins sh σ H Q I h => ?_⟩
  obtain ⟨κ, w, s, ok, q⟩ := h
  rw [ht]
  have hh : tD G W fo σ H fun v H1 => ∃ d s1 w1, w.le w1 ∧ Ok G κ w1 s1 σ H1 ∧ Rep G w1 v d ∧ PostG G W (Rep G) κ w1 σ (match d with
    | .ins c' fs => if c' = c then (fa s1).bind fun ds s2 => if ds.length + 1 = n then lift s2 (g (.ins c' fs :: ds) s2.st) else .stuck else .stuck
    | _ => .stuck) Q := ⟨κ, w, s, ok, PostG.bind q⟩
  refine wpAny_bind (thn (he.run pins sh σ H _ I hh) fun u s1 ⟨x, H1, I1, rx, d, t1, w1, le, ok1, r1, q1⟩ => ?_)
  cases d with
  | ins c' fs =>
    replace q1 : PostG G W (Rep G) κ w1 σ (if c' = c then (fa t1).bind fun ds s2 => if ds.length + 1 = n then lift s2 (g (.ins c' fs :: ds) s2.st) else .stuck else .stuck) Q := q1
    by_cases hc : c' = c
    · rw [if_pos hc] at q1
      subst hc
      cases r1 with
      | @ins a C' dx _ vs _ hC' hF rf =>
      rw [hC] at hC'
      cases hC'
      obtain rfl : u = Value.ref a := rx
      have hh2 : tDA G W fa σ H1 fun vs H2 => ∃ ds s2 w2, w1.le w2 ∧ Ok G κ w2 s2 σ H2 ∧ Reps G w2 vs ds ∧ PostG G W (Rep G) κ w2 σ (if ds.length + 1 = n then lift s2 (g (.ins c' fs :: ds) s2.st) else .stuck) Q := ⟨κ, w1, t1, ok1, PostG.bind q1⟩
      refine callWithI (first := []) (thn (ha.run pos pins s1 σ H1 _ I1 hh2) fun us s2 ⟨vs2, H2, I2, r2, ds, t2, w2, le2, ok2, rs2, q2⟩ => ?_) hst hpl
      obtain ⟨mA, J, _⟩ := ins_get I2.hok (ok2.fok.sub _ _ (le2.f _ _ hF))
      obtain ⟨od, J, _⟩ := J.look
      refine ⟨⟨C, _, _, J, rfl⟩, ?_⟩
      by_cases c3 : ds.length + 1 = n
      · rw [if_pos c3] at q2
        have rr : Reps G w2 (.ref a :: vs2) (.ins c' fs :: ds) := .cons (.ins hC (le2.f _ _ hF) (rf.mono le2)) rs2
        have hsp : spG G n g (.ref a :: vs2) H2 Q (WE W σ) := ⟨by rw [rr.length]; exact c3, w2, t2.st, _, ok2.fok, rr, postF_of ok2 q2⟩
        have hl := F.len _ _ _ _ hsp
        have rv : Vals (V.ref a :: vs2) (Value.ref a :: us) := .cons rfl r2
        have hl2 : (Value.ref a :: us).length = ps.length := by rw [← rv.length]; exact hl
        refine wpAny_call (PySem.W.kco_code (a := ⟨us, []⟩) I2.kIn J rfl hm.at_ hm.fn hfn (codeAny_mono (F.run X.A X.stack s2 H2 ⟨.ref a :: us, []⟩ (.ref a :: us) (.ref a :: vs2) Q (WE W σ) hr I2.env0 (by
          have := hb s2 (.ref a :: us) I2.kIn (by simpa using hl2)
          simpa using this) rv hsp) fun r s' hq => ?_))
        cases r with
        | error e => exact passAt tk σ pins H2 s2 e s' I2 hq
        | ok fl =>
          cases fl with
          | ret u => exact I2.after hq
          | next => exact False.elim hq
          | brk => exact False.elim hq
          | cont => exact False.elim hq
      · rw [if_neg c3] at q2
        exact q2.elim
    · rw [if_neg hc] at q1
      exact q1.elim
  | _ => exact q1.elim
/-! ### {} -/
def dNil : DD := fun s => .ok [] s
theorem pdod_nil {pos : Pos} : PDod G W X (.Dict [] [] pos) dNil :=
  pe_dnewK.imp fun σ H Q ⟨κ, w, s, ok, q⟩ => fun p hp => q w p [] _ (.refl _) (ok.fresh hp (.dK [])) (ok.apart hp) .nil
@[simp] theorem r_dNil (s : DS) : dNil s = .ok [] s := rfl
@[simp] theorem r_eCallI (c : String) (n : Nat) (g : DFn) (fo : DE) (fa : DA) (s : DS) : eCallI c n g fo fa s = (fo s).bind fun d s1 => match d with
  | .ins c' fs => if c' = c then (fa s1).bind fun ds s2 => if ds.length + 1 = n then lift s2 (g (.ins c' fs :: ds) s2.st) else .stuck else .stuck
  | _ => .stuck := rfl
end
end DL
set_option maxRecDepth 100000
set_option maxHeartbeats 4000000
set_option autoImplicit false
namespace DL
/-! ### readings, by simp -/
section
variable {s : DS} {st : List Cell} {sl : List Sl}
@[simp] theorem r_eC (d : D) (s : DS) : eC d s = .ok d s := rfl
@[simp] theorem r_eVar (i : Nat) (sl : List Sl) (st : List Cell) : eVar i ⟨sl, st⟩ = match sl[i]? with
  | some (.val d) => .ok d ⟨sl, st⟩
  | some (.ol xs) => .ok (.lst xs) ⟨sl.set i (.val (.lst xs)), st⟩
  | some (.od kvs) => .ok (.dic kvs) ⟨sl.set i (.val (.dic kvs)), st⟩
  | some (.ot kvs) => .ok (.dct kvs) ⟨sl.set i (.val (.dct kvs)), st⟩
  | some (.oi c fs) => .ok (.ins c fs) ⟨sl.set i (.val (.ins c fs)), st⟩
  | _ => .stuck := rfl
@[simp] theorem r_eOp2 (o : D → D → Option D) (fa fb : DE) (s : DS) : eOp2 o fa fb s = (fa s).bind fun x s1 => (fb s1).bind fun y s2 => match o x y with | some d => .ok d s2 | none => .stuck := rfl
@[simp] theorem r_eOpX (o : DO2) (fa fb : DE) (s : DS) : eOpX o fa fb s = (fa s).bind fun x s1 => (fb s1).bind fun y s2 => o x y s2 := rfl
@[simp] theorem r_eB (f : DE) (s : DS) : eB f s = (f s).bind fun d s1 => match d with | .bl b => .ok b s1 | _ => .stuck := rfl
@[simp] theorem r_eTru (f : DE) (s : DS) : eTru f s = (f s).bind fun d s1 => match truD d with | some b => .ok b s1 | none => .stuck := rfl
@[simp] theorem r_bAnd (f g : DT) (s : DS) : bAnd f g s = (f s).bind fun b s1 => if b = true then g s1 else .ok false s1 := rfl
@[simp] theorem r_bOr (f g : DT) (s : DS) : bOr f g s = (f s).bind fun b s1 => if b = true then .ok true s1 else g s1 := rfl
@[simp] theorem r_bNot (f : DT) (s : DS) : bNot f s = (f s).bind fun b s1 => .ok (!b) s1 := rfl
@[simp] theorem r_bYes (s : DS) : bYes s = .ok true s := rfl
@[simp] theorem r_eAndT (f g : DE) (s : DS) : eAndT f g s = (f s).bind fun d s1 => match truD d with | some b => if b = true then g s1 else .ok d s1 | none => .stuck := rfl
@[simp] theorem r_eOrT (f g : DE) (s : DS) : eOrT f g s = (f s).bind fun d s1 => match truD d with | some b => if b = true then .ok d s1 else g s1 | none => .stuck := rfl
@[simp] theorem r_eNotT (f : DE) (s : DS) : eNotT f s = (f s).bind fun d s1 => match truD d with | some b => .ok (.bl (!b)) s1 | none => .stuck := rfl
@[simp] theorem r_eIf (c : DT) (f g : DE) (s : DS) : eIf c f g s = (c s).bind fun b s1 => if b = true then f s1 else g s1 := rfl
@[simp] theorem r_aNil (s : DS) : aNil s = .ok [] s := rfl
@[simp] theorem r_aCons (f : DE) (g : DA) (s : DS) : aCons f g s = (f s).bind fun d s1 => (g s1).bind fun ds s2 => .ok (d :: ds) s2 := rfl
@[simp] theorem r_eTup (g : DA) (s : DS) : eTup g s = (g s).bind fun ds s1 => if ds.length ≤ 1000 then .ok (.tup ds) s1 else .stuck := rfl
@[simp] theorem r_aMax (g : DA) (s : DS) : aMax g s = (g s).bind fun ds s1 => if ds.length ≤ 1000 then .ok ds s1 else .stuck := rfl
@[simp] theorem r_eFrz (f : DA) (s : DS) : eFrz f s = (f s).bind fun xs s1 => .ok (.lst xs) s1 := rfl
@[simp] theorem r_eFrzD (f : DD) (s : DS) : eFrzD f s = (f s).bind fun xs s1 => .ok (.dic xs) s1 := rfl
@[simp] theorem r_sPass (s : DS) : sPass s = .ok .nx s := rfl
@[simp] theorem r_sNever (s : DS) : sNever s = .stuck := rfl
@[simp] theorem r_sBreak (s : DS) : sBreak s = .ok .bk s := rfl
@[simp] theorem r_sCont (s : DS) : sCont s = .ok .ct s := rfl
@[simp] theorem r_sSeq (f g : DStm) (s : DS) : sSeq f g s = (f s).bind fun o s1 => match o with | .nx => g s1 | o => .ok o s1 := rfl
@[simp] theorem r_sExpr (f : DE) (s : DS) : sExpr f s = (f s).bind fun _ s1 => .ok .nx s1 := rfl
@[simp] theorem r_sRet (f : DE) (s : DS) : sRet f s = (f s).bind fun d s1 => .ok (.rt d) s1 := rfl
@[simp] theorem r_sIf (c : DT) (f g : DStm) (s : DS) : sIf c f g s = (c s).bind fun b s1 => if b = true then f s1 else g s1 := rfl
@[simp] theorem r_sSet (i : Nat) (f : DE) (s : DS) : sSet i f s = (f s).bind fun d s1 => .ok .nx ⟨s1.sl.set i (.val d), s1.st⟩ := rfl
@[simp] theorem r_sSetO (i : Nat) (f : DA) (s : DS) : sSetO i f s = (f s).bind fun xs s1 => .ok .nx ⟨s1.sl.set i (.ol xs), s1.st⟩ := rfl
@[simp] theorem r_gN (i : Nat) (d : D) (s : DS) : gN i d s = .ok () ⟨s.sl.set i (.val d), s.st⟩ := rfl
@[simp] theorem r_gsNil (s : DS) : gsNil [] s = .ok () s := rfl
@[simp] theorem r_gsCons (g : DG) (k : List D → DS → Res DS Unit) (d : D) (r : List D) (s : DS) : gsCons g k (d :: r) s = (g d s).bind fun _ s1 => k r s1 := rfl
@[simp] theorem r_gT (n : Nat) (g : List D → DS → Res DS Unit) (ds : List D) (s : DS) : gT n g (.tup ds) s = if ds.length = n then g ds s else .stuck := rfl
@[simp] theorem r_noX_ok {σ α : Type} (a : α) (t : σ) : noX (Res.ok a t) = .ok a t := rfl
@[simp] theorem r_noX_stuck {σ α : Type} : noX (Res.stuck : Res σ α) = .stuck := rfl
@[simp] theorem r_noX_exc {σ α : Type} (x : Xc) (t : σ) : noX (Res.exc x t : Res σ α) = .stuck := rfl
@[simp] theorem r_sAsgT (f : DE) (g : DG) (s : DS) : sAsgT f g s = (f s).bind fun d s1 => (noX (g d s1)).bind fun _ s2 => .ok .nx s2 := rfl
@[simp] theorem r_sPar (i j : Nat) (f : DA) (s : DS) : sPar i j f s = (f s).bind fun ds s1 => match ds with | [x, y] => .ok .nx ⟨(s1.sl.set i (.val x)).set j (.val y), s1.st⟩ | _ => .stuck := rfl
@[simp] theorem r_sPar3 (i j l : Nat) (f : DA) (s : DS) : sPar3 i j l f s = (f s).bind fun ds s1 => match ds with | [x, y, z] => .ok .nx ⟨((s1.sl.set i (.val x)).set j (.val y)).set l (.val z), s1.st⟩ | _ => .stuck := rfl
@[simp] theorem r_lo_nx (s : DS) (k : DS → Res DS Out) : loopOut (.ok .nx s) k = k s := rfl
@[simp] theorem r_lo_ct (s : DS) (k : DS → Res DS Out) : loopOut (.ok .ct s) k = k s := rfl
@[simp] theorem r_lo_bk (s : DS) (k : DS → Res DS Out) : loopOut (.ok .bk s) k = .ok .nx s := rfl
@[simp] theorem r_lo_rt (d : D) (s : DS) (k : DS → Res DS Out) : loopOut (.ok (.rt d) s) k = .ok (.rt d) s := rfl
@[simp] theorem r_lo_stuck (k : DS → Res DS Out) : loopOut .stuck k = .stuck := rfl
@[simp] theorem r_for_nil (g : DG) (b : DStm) (s : DS) : forL g b [] s = .ok .nx s := rfl
@[simp] theorem r_for_cons (g : DG) (b : DStm) (d : D) (r : List D) (s : DS) : forL g b (d :: r) s = (noX (g d s)).bind fun _ s1 => loopOut (b s1) (forL g b r) := rfl
@[simp] theorem r_sFor (it : DA) (g : DG) (b : DStm) (s : DS) : sFor it g b s = (it s).bind fun ds s1 => forL g b ds s1 := rfl
@[simp] theorem r_itSeq (f : DE) (s : DS) : itSeq f s = (f s).bind fun d s1 => match itemsD d with | some xs => .ok xs s1 | none => .stuck := rfl
@[simp] theorem r_itemsD_l (xs : List D) : itemsD (.lst xs) = some xs := rfl
@[simp] theorem r_itemsD_s (xs : List D) : itemsD (.scr xs) = some xs := rfl
@[simp] theorem r_itemsD_t (xs : List D) : itemsD (.tup xs) = some xs := rfl
@[simp] theorem r_itemsD_str (xs : Nm) : itemsD (.str xs) = some (xs.map fun c => .str [c]) := rfl
@[simp] theorem r_eCall (n : Nat) (g : DFn) (fa : DA) (s : DS) : eCall n g fa s = (fa s).bind fun ds s1 => if ds.length = n then lift s1 (g ds s1.st) else .stuck := rfl
@[simp] theorem r_lift_ok {α : Type} (s : DS) (d : α) (S : List Cell) : lift s (.ok d S) = .ok d ⟨s.sl, S⟩ := rfl
@[simp] theorem r_lift_exc {α : Type} (s : DS) (x : Xc) (S : List Cell) : lift s (.exc x S : Res (List Cell) α) = .exc x ⟨s.sl, S⟩ := rfl
@[simp] theorem r_lift_stuck {α : Type} (s : DS) : lift s (.stuck : Res (List Cell) α) = .stuck := rfl
@[simp] theorem r_eMake (c : String) (n : Nat) (g : DIn) (fa : DA) (s : DS) : eMake c n g fa s = (fa s).bind fun ds s1 => if ds.length = n then (lift s1 (g ds s1.st)).bind fun fs s2 => .ok (.ins c fs) s2 else .stuck := rfl
@[simp] theorem r_eMeth (c : String) (m : Nm) (n : Nat) (g : DFn) (fo : DE) (fa : DA) (s : DS) : eMeth c m n g fo fa s = (fo s).bind fun d s1 => match insOf d s1 with
  | some (c', fs) => if c' = c ∧ fs.lookup m = none then (fa s1).bind fun ds s2 => if ds.length + 1 = n then lift s2 (g (d :: ds) s2.st) else .stuck else .stuck
  | none => .stuck := rfl
@[simp] theorem r_eFld (cs : List String) (fn : Nm) (f : DE) (s : DS) : eFld cs fn f s = (f s).bind fun d s1 => match insOf d s1 with
  | some (c, fs) => if c ∈ cs then match fs.lookup fn with | some x => .ok x s1 | none => .stuck else .stuck
  | none => .stuck := rfl
@[simp] theorem r_insOf (c : String) (fs : List (Nm × D)) (s : DS) : insOf (.ins c fs) s = some (c, fs) := rfl
@[simp] theorem r_eInv (c : String) (g : DFn) (f : DE) (s : DS) : eInv c g f s = (f s).bind fun d s1 => match insOf d s1 with | some (c1, _) => if c1 = c then lift s1 (g [d] s1.st) else .stuck | none => .stuck := rfl
@[simp] theorem r_ownO (c c1 c2 : String) (f1 f2 : List (Nm × D)) (g : DFn) (s : DS) : ownO c g (.ins c1 f1) (.ins c2 f2) s = if c1 = c ∧ c2 = c then lift s (g [.ins c1 f1, .ins c2 f2] s.st) else .stuck := rfl
@[simp] theorem r_ownNe (c : String) (g : DFn) (x y : D) (s : DS) : ownNe c g x y s = negD (ownO c g x y s) := rfl
@[simp] theorem r_negD (b : Bool) (s : DS) : negD (.ok (.bl b) s) = .ok (.bl (!b)) s := rfl
@[simp] theorem r_eCB (o : List D → Option D) (fa : DA) (s : DS) : eCB o fa s = (fa s).bind fun ds s1 => match o ds with | some d => .ok d s1 | none => .stuck := rfl
@[simp] theorem r_eNeg (f : DE) (s : DS) : eNeg f s = (f s).bind fun d s1 => match d with | .int i => .ok (.int (-i)) s1 | _ => .stuck := rfl
@[simp] theorem r_eIx (fa fb : DE) (s : DS) : eIx fa fb s = (fa s).bind fun x s1 => (fb s1).bind fun y s2 => match y with | .int i => (match ixD x i with | some d => .ok d s2 | none => .stuck) | _ => .stuck := rfl
@[simp] theorem r_sFldO (c : String) (i : Nat) (fn : Nm) (f : DE) (s : DS) : sFldO c i fn f s = (f s).bind fun d s1 => match s1.sl[i]? with
  | some (.oi c' fs) => if c' = c ∧ fs.length < 1000 then .ok .nx ⟨s1.sl.set i (.oi c (putN fn d fs)), s1.st⟩ else .stuck
  | _ => .stuck := rfl
@[simp] theorem r_aList (fa : DA) (s : DS) : aList fa s = (fa s).bind fun ds s1 => match ds with | [d] => (match seqD d with | some xs => .ok xs s1 | none => .stuck) | _ => .stuck := rfl
@[simp] theorem r_seqD_l (xs : List D) : seqD (.lst xs) = some xs := rfl
@[simp] theorem r_seqD_s (xs : List D) : seqD (.scr xs) = some xs := rfl
@[simp] theorem r_seqD_t (xs : List D) : seqD (.tup xs) = some xs := rfl
@[simp] theorem r_oNone (s : DS) : oNone s = .ok none s := rfl
@[simp] theorem r_oSome (f : DE) (s : DS) : oSome f s = (f s).bind fun d s1 => match d with | .int i => .ok (some i) s1 | _ => .stuck := rfl
@[simp] theorem r_aSl (f : DE) (l h : DOp) (s : DS) : aSl f l h s = (f s).bind fun d s1 => (l s1).bind fun lo s2 => (h s2).bind fun hi s3 => match d with | .lst xs => .ok (cutD xs lo hi) s3 | .scr xs => .ok (cutD xs lo hi) s3 | _ => .stuck := rfl
@[simp] theorem r_eSlT (f : DE) (l h : DOp) (s : DS) : eSlT f l h s = (f s).bind fun d s1 => (l s1).bind fun lo s2 => (h s2).bind fun hi s3 => match d with | .tup xs => if (cutD xs lo hi).length ≠ xs.length then .ok (.tup (cutD xs lo hi)) s3 else .stuck | _ => .stuck := rfl
@[simp] theorem r_eSlA (f : DE) (l h : DOp) (s : DS) : eSlA f l h s = (f s).bind fun d s1 => (l s1).bind fun lo s2 => (h s2).bind fun hi s3 => match slD d lo hi with | some x => .ok x s3 | none => .stuck := rfl
@[simp] theorem r_slD_l (xs : List D) (lo hi : Option Int) : slD (.lst xs) lo hi = some (.lst (cutD xs lo hi)) := rfl
@[simp] theorem r_slD_s (xs : List D) (lo hi : Option Int) : slD (.scr xs) lo hi = some (.lst (cutD xs lo hi)) := rfl
@[simp] theorem r_slD_t (xs : List D) (lo hi : Option Int) : slD (.tup xs) lo hi = if (cutD xs lo hi).length ≠ xs.length then some (.tup (cutD xs lo hi)) else none := rfl
/-! data -/
@[simp] theorem r_iAdd (i j : Int) : iAdd (.int i) (.int j) = some (.int (i + j)) := rfl
@[simp] theorem r_dAdd (i j : Int) : dAdd (.int i) (.int j) = some (.int (i + j)) := rfl
@[simp] theorem r_iSub (i j : Int) : iSub (.int i) (.int j) = some (.int (i - j)) := rfl
@[simp] theorem r_dMul (i j : Int) : dMul (.int i) (.int j) = if mulOk i j = true then some (.int (i * j)) else none := rfl
@[simp] theorem r_iDiv (i j : Int) : iDiv (.int i) (.int j) = if divOk j = true then some (.int (i.fdiv j)) else none := rfl
@[simp] theorem r_iMod (i j : Int) : iMod (.int i) (.int j) = if j ≠ 0 then some (.int (i.fmod j)) else none := rfl
@[simp] theorem r_iPow (i j : Int) : iPow (.int i) (.int j) = if 0 ≤ j ∧ j ≤ 1000000 ∧ i.natAbs < 2 ^ 64 then some (.int (i ^ j.toNat)) else none := rfl
@[simp] theorem r_iLt (i j : Int) : iLt (.int i) (.int j) = some (.bl (decide (i < j))) := rfl
@[simp] theorem r_iLe (i j : Int) : iLe (.int i) (.int j) = some (.bl (decide (i ≤ j))) := rfl
@[simp] theorem r_iGt (i j : Int) : iGt (.int i) (.int j) = some (.bl (decide (j < i))) := rfl
@[simp] theorem r_iGe (i j : Int) : iGe (.int i) (.int j) = some (.bl (decide (j ≤ i))) := rfl
@[simp] theorem r_dEq_int (i j : Int) : dEq (.int i) (.int j) = some (.bl (decide (i = j))) := by
  show (if (true && true) = true then some (D.bl (i == j)) else none) = _
  simp [Bool.beq_eq_decide_eq]
@[simp] theorem r_dNe_int (i j : Int) : dNe (.int i) (.int j) = some (.bl (!decide (i = j))) := by
  show (if (true && true) = true then some (D.bl (!(i == j))) else none) = _
  simp [Bool.beq_eq_decide_eq]
@[simp] theorem r_dIsN (x : D) : dIsN x .non = some (.bl (isNonD x)) := rfl
@[simp] theorem r_dNotN (x : D) : dNotN x .non = some (.bl (!isNonD x)) := rfl
@[simp] theorem r_isNon : isNonD .non = true := rfl
@[simp] theorem r_isNon_t (xs : List D) : isNonD (.tup xs) = false := rfl
@[simp] theorem r_isNon_i (i : Int) : isNonD (.int i) = false := rfl
@[simp] theorem r_isNon_n (c : String) (fs : List (Nm × D)) : isNonD (.ins c fs) = false := rfl
@[simp] theorem r_isNon_l (xs : List D) : isNonD (.lst xs) = false := rfl
@[simp] theorem r_tru_bl (b : Bool) : truD (.bl b) = some b := rfl
@[simp] theorem r_tru_non : truD .non = some false := rfl
@[simp] theorem r_tru_int (i : Int) : truD (.int i) = some (i != 0) := rfl
@[simp] theorem r_tru_lst (xs : List D) : truD (.lst xs) = some (!xs.isEmpty) := rfl
@[simp] theorem r_tru_tup (xs : List D) : truD (.tup xs) = some (!xs.isEmpty) := rfl
@[simp] theorem r_bInt (i : Int) : bInt [.int i] = some (.int i) := rfl
@[simp] theorem r_bInt_b (b : Bool) : bInt [.bl b] = some (.int (if b then 1 else 0)) := rfl
@[simp] theorem r_bLen_l (xs : List D) : bLen [.lst xs] = some (.int xs.length) := rfl
@[simp] theorem r_bLen_s (xs : List D) : bLen [.scr xs] = some (.int xs.length) := rfl
@[simp] theorem r_bLen_t (xs : List D) : bLen [.tup xs] = some (.int xs.length) := rfl
@[simp] theorem r_bAbs (i : Int) : bAbs [.int i] = some (.int (if i < 0 then -i else i)) := rfl
@[simp] theorem r_bTup_l (xs : List D) : bTup [.lst xs] = some (.tup xs) := rfl
@[simp] theorem r_bTup_t (xs : List D) : bTup [.tup xs] = some (.tup xs) := rfl
@[simp] theorem r_bMax (i j : Int) : bMax2 [.int i, .int j] = some (.int (if j > i then j else i)) := rfl
@[simp] theorem r_bMin (i j : Int) : bMin2 [.int i, .int j] = some (.int (if j < i then j else i)) := rfl
@[simp] theorem r_ix_t (xs : List D) (i : Int) : ixD (.tup xs) i = L2.atI xs i := rfl
@[simp] theorem r_ix_l (xs : List D) (i : Int) : ixD (.lst xs) i = L2.atI xs i := rfl
@[simp] theorem r_ix_s (xs : List D) (i : Int) : ixD (.scr xs) i = L2.atI xs i := rfl
@[simp] theorem r_at0 {α : Type} (x : α) (r : List α) : L2.atI (x :: r) 0 = some x := L2.atI_nat (j := 0) rfl
@[simp] theorem r_at1 {α : Type} (x y : α) (r : List α) : L2.atI (x :: y :: r) 1 = some y := L2.atI_nat (j := 1) rfl
@[simp] theorem r_at2 {α : Type} (x y z : α) (r : List α) : L2.atI (x :: y :: z :: r) 2 = some z := L2.atI_nat (j := 2) rfl
@[simp] theorem r_at3 {α : Type} (x y z u : α) (r : List α) : L2.atI (x :: y :: z :: u :: r) 3 = some u := L2.atI_nat (j := 3) rfl
/-! isinstance -/
theorem mem_ty : ("int" ∈ tyNames) = True ∧ ("bool" ∈ tyNames) = True ∧ ("str" ∈ tyNames) = True ∧ ("list" ∈ tyNames) = True ∧ ("tuple" ∈ tyNames) = True ∧ ("dict" ∈ tyNames) = True ∧ ("NoneType" ∈ tyNames) = True := by simp [tyNames]
@[simp] theorem r_isi_int_int (cs : List String) (i : Int) : bIsi cs [.int i, .ty "int"] = some (.bl true) := by simp [bIsi, tyOfD, tyD, isOne, mem_ty, isTy]
@[simp] theorem r_isi_int_bool (cs : List String) (i : Int) : bIsi cs [.int i, .ty "bool"] = some (.bl false) := by simp [bIsi, tyOfD, tyD, isOne, mem_ty, isTy]
@[simp] theorem r_isi_ins_cls (cs : List String) (c : String) (fs : List (Nm × D)) (c' : String) (h : c ∈ cs := by simp) (h' : c' ∈ cs := by simp) : bIsi cs [.ins c fs, .cls c'] = some (.bl (c == c')) := by simp [bIsi, tyOfD, isOne, h, h']
@[simp] theorem r_isi_int_cls (cs : List String) (i : Int) (c' : String) (h' : c' ∈ cs := by simp) : bIsi cs [.int i, .cls c'] = some (.bl false) := by simp [bIsi, tyOfD, tyD, isOne, h', mem_ty]
@[simp] theorem r_isi_non_cls (cs : List String) (c' : String) (h' : c' ∈ cs := by simp) : bIsi cs [.non, .cls c'] = some (.bl false) := by simp [bIsi, tyOfD, tyD, isOne, h', mem_ty]
end
/-! ### bits -/
class Bd (x : Int) (n : outParam Nat) : Prop where
  lt : x.natAbs < 2 ^ n
theorem Bd.le {x : Int} {n m : Nat} (h : Bd x n) (hnm : n ≤ m) : Bd x m := ⟨Nat.lt_of_lt_of_le h.lt (Nat.pow_le_pow_right (by decide) hnm)⟩
instance bd_add {x y : Int} {m n : Nat} [h : Bd x m] [k : Bd y n] : Bd (x + y) (m + n + 1) := ⟨by
  have h1 := h.lt
  have h2 := k.lt
  have h3 : (2 : Nat) ^ m ≤ 2 ^ (m + n) := Nat.pow_le_pow_right (by decide) (by omega)
  have h4 : (2 : Nat) ^ n ≤ 2 ^ (m + n) := Nat.pow_le_pow_right (by decide) (by omega)
  have h5 : (2 : Nat) ^ (m + n + 1) = 2 ^ (m + n) * 2 := Nat.pow_succ ..
  omega⟩
instance bd_neg {x : Int} {m : Nat} [h : Bd x m] : Bd (-x) m := ⟨by rw [Int.natAbs_neg]; exact h.lt⟩
instance bd_sub {x y : Int} {m n : Nat} [h : Bd x m] [k : Bd y n] : Bd (x - y) (m + n + 1) := by
  rw [Int.sub_eq_add_neg]; exact bd_add
instance bd_mul {x y : Int} {m n : Nat} [h : Bd x m] [k : Bd y n] : Bd (x * y) (m + n) := ⟨by
  rw [Int.natAbs_mul, Nat.pow_add]
  exact Nat.mul_lt_mul'' h.lt k.lt⟩
instance bd_0 : Bd 0 0 := ⟨by decide⟩
instance bd_1 : Bd 1 1 := ⟨by decide⟩
theorem log2_lt {x : Int} {n : Nat} (h : Bd x n) : x.natAbs.log2 ≤ n := by
  have := h.lt
  by_cases e : x.natAbs = 0
  · rw [e]; simp
  · exact Nat.le_of_lt ((Nat.log2_lt e).mpr this)
theorem mulOk_of {x y : Int} {m n : Nat} (h : Bd x m) (k : Bd y n) (hl : m + n < 100000000) : mulOk x y = true := by
  unfold mulOk
  have h1 := log2_lt h
  have h2 := log2_lt k
  exact decide_eq_true (by omega)
@[simp] theorem mulOk_bd {x y : Int} {m n : Nat} [h : Bd x m] [k : Bd y n] (hl : m + n < 100000000) : mulOk x y = true := mulOk_of h k hl
theorem divOk_of {y : Int} {n : Nat} (k : Bd y n) (h0 : y ≠ 0) (hl : n < 9000) : divOk y = true := by
  unfold divOk
  exact decide_eq_true ⟨h0, Nat.lt_of_le_of_lt (log2_lt k) hl⟩
@[simp] theorem divOk_bd {y : Int} {n : Nat} [k : Bd y n] (h0 : y ≠ 0) (hl : n < 9000) : divOk y = true := divOk_of k h0 hl
@[simp] theorem divOk_2 : divOk 2 = true := by decide
end DL
set_option maxRecDepth 100000
set_option maxHeartbeats 4000000
set_option autoImplicit false
namespace DL
@[simp] theorem r_eDGet (fo fi : DE) (s : DS) : eDGet fo fi s = (fo s).bind fun d s1 => (fi s1).bind fun k s2 => match dictOf d s2, kOf k with
  | some kvs, some k => match dLook kvs k with
    | some x => .ok x s2
    | none => .stuck
  | _, _ => .stuck := rfl
@[simp] theorem r_dictOf_c (n : Nat) (sl : List Sl) (st : List Cell) : dictOf (.cell n) ⟨sl, st⟩ = match st[n]? with | some (.dic kvs) => some kvs | _ => none := rfl
@[simp] theorem r_dictOf_d (kvs : List (DK × D)) (s : DS) : dictOf (.dic kvs) s = some kvs := rfl
@[simp] theorem r_kOf_s (l : List Nat) : kOf (.str l) = some (.s l) := rfl
@[simp] theorem r_kOf_i (l : Int) : kOf (.int l) = some (.i l) := rfl
@[simp] theorem r_sDPutC (fo fi fv : DE) (s : DS) : sDPutC fo fi fv s = (fv s).bind fun x s1 => (fo s1).bind fun d s2 => (fi s2).bind fun k s3 => match d, kOf k with
  | .cell n, some k => match s3.st[n]? with
    | some (.dic kvs) => if kvs.length < 1000000 ∧ keysNd kvs = true then .ok .nx ⟨s3.sl, s3.st.set n (.dic (dPut kvs k x))⟩ else .stuck
    | _ => .stuck
  | _, _ => .stuck := rfl
@[simp] theorem r_eCellD (f : DD) (s : DS) : eCellD f s = (f s).bind fun xs s1 => .ok (.cell s1.st.length) ⟨s1.sl, s1.st ++ [.dic xs]⟩ := rfl
@[simp] theorem r_dDisp (fs : List (DE × DE)) (s : DS) : dDisp fs s = (pairsD fs s).bind fun ps s1 => match keyed ps with
  | some kvs => if kvs.length ≤ 15 ∧ keysNd kvs = true then .ok kvs s1 else .stuck
  | none => .stuck := rfl
@[simp] theorem r_pairs_nil (s : DS) : pairsD [] s = .ok [] s := rfl
@[simp] theorem r_pairs_cons (fk fv : DE) (r : List (DE × DE)) (s : DS) : pairsD ((fk, fv) :: r) s = (fk s).bind fun k s1 => (fv s1).bind fun x s2 => (pairsD r s2).bind fun ps s3 => .ok ((k, x) :: ps) s3 := rfl
@[simp] theorem r_keyed_nil : keyed [] = some [] := rfl
@[simp] theorem r_keyed_cons (k x : D) (r : List (D × D)) : keyed ((k, x) :: r) = match kOf k, keyed r with
    | some k, some r => some ((k, x) :: r)
    | _, _ => none := rfl
@[simp] theorem r_itR1 (f : DA) (s : DS) : itR1 f s = (f s).bind fun ds s1 => match ds with
  | [.int j] => if -(2 ^ 62) ≤ j ∧ j < 2 ^ 62 then .ok (rngL 0 j.toNat) s1 else .stuck
  | _ => .stuck := rfl
@[simp] theorem r_itEnum_l (f : DA) (s : DS) : itEnum f s = (f s).bind fun ds s1 => match ds with
  | [.lst xs] => .ok (enumL xs) s1
  | [.scr xs] => .ok (enumL xs) s1
  | _ => .stuck := rfl
@[simp] theorem r_itZip (f : DA) (s : DS) : itZip f s = (f s).bind fun ds s1 => match ds with
  | [.lst xs, .lst ys] => .ok (zipL xs ys) s1
  | [.tup xs, .tup ys] => .ok (zipL xs ys) s1
  | _ => .stuck := rfl
@[simp] theorem r_aLc (vs : List Nat) (it : DA) (g : DG) (t : DT) (e : DE) (s : DS) : aLc vs it g t e s = (it s).bind fun items s1 => (noX (lcL vs g t e items [] s1)).bind fun ys s2 => .ok ys ⟨unwipe vs s1.sl (wipeD vs s2.sl), s2.st⟩ := rfl
@[simp] theorem r_lc_nil (vs : List Nat) (g : DG) (t : DT) (e : DE) (acc : List D) (s : DS) : lcL vs g t e [] acc s = .ok acc s := rfl
@[simp] theorem r_lc_cons (vs : List Nat) (g : DG) (t : DT) (e : DE) (d : D) (r acc : List D) (s : DS) : lcL vs g t e (d :: r) acc s = (noX (g d (wipeS vs s))).bind fun _ s1 => (noX (t s1)).bind fun b s2 => if b = true then (noX (e s2)).bind fun y s3 => if acc.length < 1000000 then lcL vs g t e r (acc ++ [y]) s3 else .stuck
    else lcL vs g t e r acc s2 := rfl
@[simp] theorem r_wipe_nil (l : List Sl) : wipeD [] l = l := rfl
@[simp] theorem r_wipe_cons (v : Nat) (vs : List Nat) (l : List Sl) : wipeD (v :: vs) l = (wipeD vs l).set v .un := rfl
@[simp] theorem r_wipeS (vs : List Nat) (s : DS) : wipeS vs s = ⟨wipeD vs s.sl, s.st⟩ := rfl
@[simp] theorem r_unw_nil (o l : List Sl) : unwipe [] o l = l := rfl
@[simp] theorem r_unw_cons (v : Nat) (vs : List Nat) (o l : List Sl) : unwipe (v :: vs) o l = (unwipe vs o l).set v (match o[v]? with | some (.val d) => .val d | _ => .un) := rfl
@[simp] theorem r_sApp (i : Nat) (fa : DA) (s : DS) : sApp i fa s = match s.sl[i]? with
  | some (.ol _) => (fa s).bind fun ds s1 => match ds, s1.sl[i]? with
    | [d], some (.ol xs) => if xs.length < 1000000 then .ok .nx ⟨s1.sl.set i (.ol (xs ++ [d])), s1.st⟩ else .stuck
    | _, _ => .stuck
  | _ => .stuck := rfl
/-! data equality -/
open PySem in
theorem pys_ints (ns : List Int) : toPys (ns.map D.int) = some (ns.map PyData.int) := by
  induction ns with
  | nil => rfl
  | cons a r ih => simp [toPys, toPy, ih]
open PySem in
theorem can_ints (ns : List Int) : PyData.canLayAll0 (ns.map PyData.int) = true := by
  induction ns with
  | nil => rfl
  | cons a r ih => simp [PyData.canLayAll0, PyData.canLay0, ih]
open PySem in
theorem dep_ints (ns : List Int) : PyData.depthAll (ns.map PyData.int) = 0 := by
  induction ns with
  | nil => rfl
  | cons a r ih => simp [PyData.depthAll, PyData.depth, ih]
open PySem in
@[simp] theorem r_ne_nil (ns : List Int) : dNe (.lst (ns.map D.int)) (.lst []) = some (.bl (!ns.isEmpty)) := by
  cases ns with
  | nil => simp [dNe, toPy, toPys, SeqAt.shaped, PyData.canLay0, PyData.depth, PyData.depthAll, PyData.eqv, PyData.eqvAll, PyData.canLayAll0]
  | cons a r => simp [dNe, toPy, toPys, pys_ints, can_ints, dep_ints, SeqAt.shaped, PyData.canLay0, PyData.depth, PyData.depthAll, PyData.eqv, PyData.eqvAll, PyData.canLayAll0]
@[simp] theorem r_ne_nil0 : dNe (.lst []) (.lst []) = some (.bl false) := r_ne_nil []
/-! the draw pen -/
abbrev penD (cs : List Int) (c l : Int) : List (DK × D) := [(.s [99, 101, 108, 108, 115], .lst (cs.map D.int)), (.s [99, 111, 117, 110, 116], .int c), (.s [108, 101, 102, 116], .int l)]
def Pen (n : Nat) (S : List Cell) : Prop := ∃ cs c l, S = [.dic (penD cs c l)] ∧ 0 ≤ c ∧ c ≤ n ∧ 0 ≤ l
theorem Pen.mono {n m : Nat} {S : List Cell} (h : Pen n S) (hm : n ≤ m) : Pen m S := by
  obtain ⟨cs, c, l, h1, h2, h3, h4⟩ := h
  exact ⟨cs, c, l, h1, h2, by omega, h4⟩
theorem ix_mod (cs : List Int) (c : Int) (h : cs ≠ []) : ∃ x : Int, L2.atI (cs.map D.int) (c.fmod cs.length) = some (.int x) := by
  have hp : (0 : Int) < cs.length := by
    cases cs with
    | nil => exact absurd rfl h
    | cons a r => simp
  have h1 : 0 ≤ c.fmod cs.length := Int.fmod_nonneg_of_pos _ hp
  have h2 : c.fmod cs.length < cs.length := Int.fmod_lt_of_pos _ hp
  obtain ⟨k, hk⟩ := Int.eq_ofNat_of_zero_le h1
  rw [hk] at h2 ⊢
  have h3 : k < cs.length := by omega
  refine ⟨cs[k], ?_⟩
  have : (cs.map D.int)[k]? = some (D.int cs[k]) := by simp [h3]
  exact L2.atI_nat this
theorem Bd.of_range {x : Int} {m n : Nat} (h0 : 0 ≤ x) (h1 : x < m) (h : m ≤ 2 ^ n) : Bd x n := ⟨by omega⟩
end DL
set_option maxRecDepth 100000
set_option maxHeartbeats 4000000
set_option autoImplicit false
namespace DL
/-! more bounds -/
instance bd_half {x : Int} {n : Nat} [h : Bd x n] : Bd (x.fdiv 2) n := ⟨by
  have := h.lt
  rw [Int.fdiv_eq_ediv_of_nonneg _ (by decide)]
  omega⟩
instance bd_abs {x : Int} {n : Nat} [h : Bd x n] : Bd (if x < 0 then -x else x) n := ⟨by
  have := h.lt
  split
  · rw [Int.natAbs_neg]; exact this
  · exact this⟩
instance bd_ite {c : Prop} [Decidable c] {x y : Int} {m n : Nat} [h : Bd x m] [k : Bd y n] : Bd (if c then x else y) (m + n) := ⟨by
  split
  · exact Nat.lt_of_lt_of_le h.lt (Nat.pow_le_pow_right (by decide) (by omega))
  · exact Nat.lt_of_lt_of_le k.lt (Nat.pow_le_pow_right (by decide) (by omega))⟩
theorem Bd.of_le {x : Int} {y : Int} {n : Nat} (k : Bd y n) (h0 : 0 ≤ x) (h : x ≤ y) : Bd x n := ⟨by have := k.lt; omega⟩
theorem fdiv_le_abs (x y : Int) : (x.fdiv y).natAbs ≤ x.natAbs + 1 := by
  by_cases hy : y = 0
  · subst hy; simp
  have key : ∀ x y : Int, 0 < y → (x.fdiv y).natAbs ≤ x.natAbs + 1 := fun x y hy => by
    have h1 : y * x.fdiv y + x.fmod y = x := Int.mul_fdiv_add_fmod x y
    have h2 : 0 ≤ x.fmod y := Int.fmod_nonneg_of_pos _ hy
    have h3 : x.fmod y < y := Int.fmod_lt_of_pos _ hy
    generalize x.fdiv y = q at *
    by_cases c : 0 ≤ q
    · have := Int.mul_nonneg (show 0 ≤ y - 1 by omega) c
      rw [Int.sub_mul] at this
      omega
    · have := Int.mul_nonneg (show 0 ≤ y - 1 by omega) (show 0 ≤ -q - 1 by omega)
      rw [show (y - 1) * (-q - 1) = -(y * q) - y + q + 1 by grind] at this
      omega
  by_cases c : 0 < y
  · exact key x y c
  · have h := key (-x) (-y) (by omega)
    rw [show (-x).fdiv (-y) = x.fdiv y from Int.neg_fdiv_neg x y, Int.natAbs_neg] at h
    exact h
instance bd_fdiv {x y : Int} {n : Nat} [h : Bd x n] : Bd (x.fdiv y) (n + 1) := ⟨by
  have h1 := h.lt
  have h2 := fdiv_le_abs x y
  have h3 : (2 : Nat) ^ (n + 1) = 2 ^ n * 2 := Nat.pow_succ ..
  have h4 : 1 ≤ (2 : Nat) ^ n := Nat.one_le_two_pow
  omega⟩
/-! readings of DLu -/
@[simp] theorem r_eBits (f : DE) (s : DS) : eBits f s = (f s).bind fun d s1 => match d with | .int i => .ok (.int (PySem.Builtin.Int.intBits i : Nat)) s1 | _ => .stuck := rfl
@[simp] theorem r_sRaise (c : String) (f : Nm) (fa : DA) (s : DS) : sRaise c f fa s = (fa s).bind fun ds s1 => match ds with | [d] => .exc ⟨c, [(f, d)]⟩ s1 | _ => .stuck := rfl
@[simp] theorem r_iShl (i j : Int) : iShl (.int i) (.int j) = if 0 ≤ j ∧ j ≤ 1000000 ∧ i.natAbs < 2 ^ 64 then some (.int (i * 2 ^ j.toNat)) else none := rfl
@[simp] theorem r_inS (neg : Bool) (c : Nat) (l : Nm) : dIn neg (.str [c]) (.str l) = some (.bl (if neg then !decide (c ∈ l) else decide (c ∈ l))) := rfl
@[simp] theorem r_lo_exc (x : Xc) (s : DS) (k : DS → Res DS Out) : loopOut (.exc x s) k = .exc x s := rfl
theorem inF_ints (neg : Bool) (i : Int) (ns : List Int) : dIn neg (.int i) (.tup (ns.map D.int)) = some (.bl (if neg then !decide (i ∈ ns) else decide (i ∈ ns))) := by
  have h1 : (ns.map D.int).all flD = true := by simp [flD]
  have h2 : (ns.map D.int).any (fun z => eqFl z (.int i)) = decide (i ∈ ns) := by
    induction ns with
    | nil => rfl
    | cons a r ih =>
      simp only [List.map_cons, List.any_cons, ih (by simp [flD])]
      show ((a == i) || decide (i ∈ r)) = _
      by_cases e : a = i
      · subst e; simp
      · simp [e, Ne.symm e]
  simp [dIn, inS, inF, h1, h2, flD]
theorem inF_intsL (neg : Bool) (i : Int) (ns : List Int) : dIn neg (.int i) (.lst (ns.map D.int)) = some (.bl (if neg then !decide (i ∈ ns) else decide (i ∈ ns))) := by
  have h1 : (ns.map D.int).all flD = true := by simp [flD]
  have h2 : (ns.map D.int).any (fun z => eqFl z (.int i)) = decide (i ∈ ns) := by
    induction ns with
    | nil => rfl
    | cons a r ih =>
      simp only [List.map_cons, List.any_cons, ih (by simp [flD])]
      show ((a == i) || decide (i ∈ r)) = _
      by_cases e : a = i
      · subst e; simp
      · simp [e, Ne.symm e]
  simp [dIn, inS, inF, h1, h2, flD]
/-! + and * of sequences -/
@[simp] theorem r_dAdd_ll (xs ys : List D) : dAdd (.lst xs) (.lst ys) = lAdd (.lst xs) (.lst ys) := rfl
@[simp] theorem r_lAdd_ll (xs ys : List D) : lAdd (.lst xs) (.lst ys) = if xs.length + ys.length ≤ 1000000 then some (.lst (xs ++ ys)) else none := rfl
/-! loops -/
theorem forL_inv {g : DG} {b : DStm} {items : List D} (P : Nat → DS → Prop) (step : ∀ (i : Nat) (d : D) (s : DS), items[i]? = some d → P i s → ∃ s1 s2, g d s = .ok () s1 ∧ (b s1 = .ok .nx s2 ∨ b s1 = .ok .ct s2) ∧ P (i + 1) s2) :
    ∀ (l : List D) (i : Nat) (s : DS), (∀ j, l[j]? = items[i + j]?) → P i s → ∃ s', forL g b l s = .ok .nx s' ∧ P (i + l.length) s'
  | [], i, s, h, hp => ⟨s, rfl, hp⟩
  | d :: l, i, s, h, hp => by
    have h0 := h 0
    simp only [List.getElem?_cons_zero, Nat.add_zero] at h0
    obtain ⟨s1, s2, e1, e2, hp2⟩ := step i d s h0.symm hp
    obtain ⟨s', e3, hp3⟩ := forL_inv P step l (i + 1) s2 (fun j => by
      have := h (j + 1)
      rw [List.getElem?_cons_succ] at this
      rw [this]
      congr 1
      omega) hp2
    refine ⟨s', ?_, by rw [show i + (d :: l).length = i + 1 + l.length by simp; omega]; exact hp3⟩
    rw [r_for_cons, e1]
    rcases e2 with e2 | e2 <;> simp [e2, e3]
theorem for_inv {g : DG} {b : DStm} {items : List D} {s : DS} (P : Nat → DS → Prop) (h0 : P 0 s) (step : ∀ (i : Nat) (d : D) (s : DS), items[i]? = some d → P i s → ∃ s1 s2, g d s = .ok () s1 ∧ (b s1 = .ok .nx s2 ∨ b s1 = .ok .ct s2) ∧ P (i + 1) s2) :
    ∃ s', forL g b items s = .ok .nx s' ∧ P items.length s' := by
  obtain ⟨s', e, hp⟩ := forL_inv P step items 0 s (fun j => by simp) h0
  exact ⟨s', e, by simpa using hp⟩
@[simp] theorem rngL_len (lo : Int) (n : Nat) : (rngL lo n).length = n := by simp [rngL]
theorem rngL_get {lo : Int} {n i : Nat} {d : D} (h : (rngL lo n)[i]? = some d) : i < n ∧ d = .int (lo + i) := by
  unfold rngL at h
  rw [List.getElem?_map] at h
  cases e : (List.range n)[i]? with
  | none => rw [e] at h; cases h
  | some k =>
    rw [e] at h
    cases h
    have hi : i < n := by simpa using (List.getElem?_eq_some_iff.mp e).1
    rw [List.getElem?_range hi] at e
    cases e
    exact ⟨hi, rfl⟩
end DL
set_option maxRecDepth 100000
set_option maxHeartbeats 4000000
set_option autoImplicit false
namespace DL
open PySem
/-! ### == of plain data, by data alone -/
mutual
def plD : D → Bool
  | .non => true
  | .bl _ => true
  | .int _ => true
  | .str l => l.all (· < 0x110000)
  | .tup xs => plDs xs
  | .lst xs => plDs xs
  | .scr xs => plDs xs
  | _ => false
def plDs : List D → Bool
  | [] => true
  | x :: r => plD x && plDs r
end
mutual
def dpD : D → Nat
  | .tup xs => dpDs xs + 1
  | .lst xs => dpDs xs + 1
  | .scr xs => dpDs xs + 1
  | _ => 0
def dpDs : List D → Nat
  | [] => 0
  | x :: r => max (dpD x) (dpDs r)
end
mutual
def eqPl : D → D → Bool
  | .non, .non => true
  | .bl a, .bl b => a == b
  | .bl a, .int j => decide ((if a then (1 : Int) else 0) = j)
  | .int i, .bl b => decide (i = if b then (1 : Int) else 0)
  | .int i, .int j => decide (i = j)
  | .str a, .str b => decide (a = b)
  | .tup xs, .tup ys => eqPls xs ys
  | .lst xs, .lst ys => eqPls xs ys
  | .scr xs, .lst ys => eqPls xs ys
  | .lst xs, .scr ys => eqPls xs ys
  | .scr xs, .scr ys => eqPls xs ys
  | _, _ => false
def eqPls : List D → List D → Bool
  | [], [] => true
  | x :: xs, y :: ys => eqPl x y && eqPls xs ys
  | _, _ => false
end
theorem strOk_nm (l : Nm) : PyData.strOk (nm l) = l.all (· < 0x110000) := by simp [PyData.strOk, nm]
mutual
theorem toPy_pl : ∀ d : D, plD d = true → ∃ p, toPy d = some p ∧ p.canLay0 = true ∧ p.depth = dpD d
  | .non, _ => ⟨.none, rfl, rfl, rfl⟩
  | .bl b, _ => ⟨.bool b, rfl, rfl, rfl⟩
  | .int i, _ => ⟨.int i, rfl, rfl, rfl⟩
  | .str l, h => ⟨.str (nm l), rfl, by simp only [plD] at h; simp only [PyData.canLay0, strOk_nm]; exact h, rfl⟩
  | .tup xs, h => by
    obtain ⟨ps, h1, h2, h3⟩ := toPys_pl xs h
    exact ⟨.tuple ps, by simp [toPy, h1], h2, by simp [PyData.depth, dpD, h3]⟩
  | .lst xs, h => by
    obtain ⟨ps, h1, h2, h3⟩ := toPys_pl xs h
    exact ⟨.list ps, by simp [toPy, h1], h2, by simp [PyData.depth, dpD, h3]⟩
  | .scr xs, h => by
    obtain ⟨ps, h1, h2, h3⟩ := toPys_pl xs h
    exact ⟨.list ps, by simp [toPy, h1], h2, by simp [PyData.depth, dpD, h3]⟩
  | .dic _, h => by simp [plD] at h
  | .ins _ _, h => by simp [plD] at h
  | .cell _, h => by simp [plD] at h
  | .cls _, h => by simp [plD] at h
  | .ty _, h => by simp [plD] at h
  | .fn _, h => by simp [plD] at h
  | .lam _, h => by simp [plD] at h
theorem toPys_pl : ∀ ds : List D, plDs ds = true → ∃ ps, toPys ds = some ps ∧ PyData.canLayAll0 ps = true ∧ PyData.depthAll ps = dpDs ds
  | [], _ => ⟨[], rfl, rfl, rfl⟩
  | d :: r, h => by
    simp only [plDs, Bool.and_eq_true] at h
    obtain ⟨p, h1, h2, h3⟩ := toPy_pl d h.1
    obtain ⟨ps, h4, h5, h6⟩ := toPys_pl r h.2
    exact ⟨p :: ps, by simp [toPys, h1, h4], by simp [PyData.canLayAll0, h2, h5], by simp [PyData.depthAll, dpDs, h3, h6]⟩
end
theorem nm_beq (a b : Nm) : (nm a == nm b) = decide (a = b) := by
  by_cases e : a = b
  · subst e; simp
  · rw [beq_eq_false_iff_ne.mpr fun z => e (nm_inj z)]; simp [e]
theorem dec_beq (a b : Int) : (a == b) = decide (a = b) := by simp [Bool.beq_eq_decide_eq]
mutual
theorem eqv_pl : ∀ (x y : D) (p q : PyData), toPy x = some p → toPy y = some q → PyData.eqv p q = eqPl x y := by
  intro x y p q h1 h2
  cases x <;> cases y <;> first
    | (simp [toPy] at h1; done)
    | (simp [toPy] at h2; done)
    | (simp only [toPy, Option.some.injEq] at h1 h2; subst h1; subst h2; first | rfl | exact dec_beq _ _ | exact nm_beq _ _ | (simp [PyData.eqv, eqPl]; done))
    | (simp only [toPy, Option.map_eq_some_iff, Option.some.injEq] at h1 h2
       first
         | (obtain ⟨ps, e1, rfl⟩ := h1; obtain ⟨qs, e2, rfl⟩ := h2; first | exact eqvs_pl _ _ _ _ e1 e2 | rfl)
         | (obtain ⟨ps, e1, rfl⟩ := h1; subst h2; rfl)
         | (obtain ⟨qs, e2, rfl⟩ := h2; subst h1; rfl))
theorem eqvs_pl : ∀ (xs ys : List D) (ps qs : List PyData), toPys xs = some ps → toPys ys = some qs → PyData.eqvAll ps qs = eqPls xs ys
  | [], [], ps, qs, h1, h2 => by cases h1; cases h2; rfl
  | [], y :: ys, ps, qs, h1, h2 => by
    cases h1
    simp only [toPys, Option.bind_eq_some_iff, Option.map_eq_some_iff] at h2
    obtain ⟨p, _, q, _, rfl⟩ := h2
    rfl
  | x :: xs, [], ps, qs, h1, h2 => by
    cases h2
    simp only [toPys, Option.bind_eq_some_iff, Option.map_eq_some_iff] at h1
    obtain ⟨p, _, q, _, rfl⟩ := h1
    rfl
  | x :: xs, y :: ys, ps, qs, h1, h2 => by
    simp only [toPys, Option.bind_eq_some_iff, Option.map_eq_some_iff] at h1 h2
    obtain ⟨p, e1, q, e2, rfl⟩ := h1
    obtain ⟨p', e3, q', e4, rfl⟩ := h2
    simp only [PyData.eqvAll, eqPls, eqv_pl x y p p' e1 e3, eqvs_pl xs ys q q' e2 e4]
end
def plOk (d : D) : Prop := plD d = true ∧ dpD d ≤ 64
theorem dEq_pl (x y : D) (h : plOk x) (k : plOk y) : dEq x y = some (.bl (eqPl x y)) := by
  obtain ⟨p, a1, a2, a3⟩ := toPy_pl x h.1
  obtain ⟨q, b1, b2, b3⟩ := toPy_pl y k.1
  have s1 : SeqAt.shaped p = true := by
    unfold SeqAt.shaped
    rw [a2, a3]
    simp [h.2]
  have s2 : SeqAt.shaped q = true := by
    unfold SeqAt.shaped
    rw [b2, b3]
    simp [k.2]
  unfold dEq
  rw [a1, b1]
  simp only [s1, s2, Bool.and_self, if_true, eqv_pl x y p q a1 b1]
theorem dNe_pl (x y : D) (h : plOk x) (k : plOk y) : dNe x y = some (.bl (!eqPl x y)) := by
  obtain ⟨p, a1, a2, a3⟩ := toPy_pl x h.1
  obtain ⟨q, b1, b2, b3⟩ := toPy_pl y k.1
  have s1 : SeqAt.shaped p = true := by
    unfold SeqAt.shaped
    rw [a2, a3]
    simp [h.2]
  have s2 : SeqAt.shaped q = true := by
    unfold SeqAt.shaped
    rw [b2, b3]
    simp [k.2]
  unfold dNe
  rw [a1, b1]
  simp only [s1, s2, Bool.and_self, if_true, eqv_pl x y p q a1 b1]
@[simp] theorem pl_non : plOk .non := ⟨rfl, by simp [dpD]⟩
@[simp] theorem pl_bl (b : Bool) : plOk (.bl b) := ⟨rfl, by simp [dpD]⟩
@[simp] theorem pl_int (i : Int) : plOk (.int i) := ⟨rfl, by simp [dpD]⟩
theorem pl_str (l : Nm) (h : l.all (· < 0x110000) = true) : plOk (.str l) := ⟨h, by simp [dpD]⟩
/-- flat items -/
def plF (d : D) : Prop := plD d = true ∧ dpD d ≤ 60
def plFs (ds : List D) : Prop := plDs ds = true ∧ dpDs ds ≤ 60
@[simp] theorem plFs_nil : plFs [] ↔ True := by simp [plFs, plDs, dpDs]
@[simp] theorem plFs_cons (d : D) (r : List D) : plFs (d :: r) ↔ plF d ∧ plFs r := by
  simp only [plFs, plF, plDs, dpDs, Bool.and_eq_true, Nat.max_le]
  constructor <;> intro h <;> simp [h]
@[simp] theorem plF_non : plF .non ↔ True := by simp [plF, plD, dpD]
@[simp] theorem plF_bl (b : Bool) : plF (.bl b) ↔ True := by simp [plF, plD, dpD]
@[simp] theorem plF_int (i : Int) : plF (.int i) ↔ True := by simp [plF, plD, dpD]
@[simp] theorem plF_str (l : Nm) : plF (.str l) ↔ l.all (· < 0x110000) = true := by simp [plF, plD, dpD]
theorem plF_tup3 (x y z : Int) : plF (.tup [.int x, .int y, .int z]) := by simp [plF, plD, plDs, dpD, dpDs]
theorem plFs_ints (ns : List Int) : plFs (ns.map D.int) := by
  induction ns with
  | nil => simp
  | cons a r ih => simp [ih]
theorem pl_tup (xs : List D) (h : plFs xs) : plOk (.tup xs) := ⟨h.1, by have := h.2; simp only [dpD]; omega⟩
theorem pl_lst (xs : List D) (h : plFs xs) : plOk (.lst xs) := ⟨h.1, by have := h.2; simp only [dpD]; omega⟩
theorem plF.ok {d : D} (h : plF d) : plOk d := ⟨h.1, by have := h.2; omega⟩
@[simp] theorem dEq_tt (xs ys : List D) (h : plFs xs) (k : plFs ys) : dEq (.tup xs) (.tup ys) = some (.bl (eqPls xs ys)) := dEq_pl _ _ (pl_tup _ h) (pl_tup _ k)
@[simp] theorem dNe_tt (xs ys : List D) (h : plFs xs) (k : plFs ys) : dNe (.tup xs) (.tup ys) = some (.bl (!eqPls xs ys)) := dNe_pl _ _ (pl_tup _ h) (pl_tup _ k)
@[simp] theorem dEq_ll (xs ys : List D) (h : plFs xs) (k : plFs ys) : dEq (.lst xs) (.lst ys) = some (.bl (eqPls xs ys)) := dEq_pl _ _ (pl_lst _ h) (pl_lst _ k)
@[simp] theorem dNe_ll (xs ys : List D) (h : plFs xs) (k : plFs ys) : dNe (.lst xs) (.lst ys) = some (.bl (!eqPls xs ys)) := dNe_pl _ _ (pl_lst _ h) (pl_lst _ k)
@[simp] theorem dEq_ss (a b : Nm) (h : a.all (· < 0x110000) = true) (k : b.all (· < 0x110000) = true) : dEq (.str a) (.str b) = some (.bl (decide (a = b))) := dEq_pl _ _ (pl_str _ h) (pl_str _ k)
@[simp] theorem dNe_ss (a b : Nm) (h : a.all (· < 0x110000) = true) (k : b.all (· < 0x110000) = true) : dNe (.str a) (.str b) = some (.bl (!decide (a = b))) := dNe_pl _ _ (pl_str _ h) (pl_str _ k)
@[simp] theorem dEq_nt (xs : List D) (h : plFs xs) : dEq .non (.tup xs) = some (.bl false) := dEq_pl _ _ pl_non (pl_tup _ h)
@[simp] theorem dEq_tn (xs : List D) (h : plFs xs) : dEq (.tup xs) .non = some (.bl false) := dEq_pl _ _ (pl_tup _ h) pl_non
@[simp] theorem dNe_nt (xs : List D) (h : plFs xs) : dNe .non (.tup xs) = some (.bl true) := dNe_pl _ _ pl_non (pl_tup _ h)
@[simp] theorem dNe_tn (xs : List D) (h : plFs xs) : dNe (.tup xs) .non = some (.bl true) := dNe_pl _ _ (pl_tup _ h) pl_non
@[simp] theorem dEq_nn : dEq .non .non = some (.bl true) := dEq_pl _ _ pl_non pl_non
@[simp] theorem dNe_nn : dNe .non .non = some (.bl false) := dNe_pl _ _ pl_non pl_non
@[simp] theorem eqPls_nil : eqPls [] [] = true := by simp [eqPls]
@[simp] theorem eqPls_cons (x y : D) (xs ys : List D) : eqPls (x :: xs) (y :: ys) = (eqPl x y && eqPls xs ys) := by simp [eqPls]
@[simp] theorem eqPls_nc (y : D) (ys : List D) : eqPls [] (y :: ys) = false := by simp [eqPls]
@[simp] theorem eqPls_cn (y : D) (ys : List D) : eqPls (y :: ys) [] = false := by simp [eqPls]
@[simp] theorem eqPl_int (i j : Int) : eqPl (.int i) (.int j) = decide (i = j) := by simp [eqPl]
@[simp] theorem eqPl_str (i j : Nm) : eqPl (.str i) (.str j) = decide (i = j) := by simp [eqPl]
@[simp] theorem eqPl_tup (i j : List D) : eqPl (.tup i) (.tup j) = eqPls i j := by simp [eqPl]
@[simp] theorem eqPl_lst (i j : List D) : eqPl (.lst i) (.lst j) = eqPls i j := by simp [eqPl]
@[simp] theorem eqPl_nn : eqPl .non .non = true := by simp [eqPl]
@[simp] theorem eqPl_bb (a b : Bool) : eqPl (.bl a) (.bl b) = (a == b) := by simp [eqPl]
mutual
theorem eqPl_refl : ∀ d : D, plD d = true → eqPl d d = true
  | .non, _ => by simp
  | .bl b, _ => by simp
  | .int i, _ => by simp
  | .str l, _ => by simp
  | .tup xs, h => by simp only [eqPl]; exact eqPls_refl xs h
  | .lst xs, h => by simp only [eqPl]; exact eqPls_refl xs h
  | .scr xs, h => by simp only [eqPl]; exact eqPls_refl xs h
  | .dic _, h => by simp [plD] at h
  | .ins _ _, h => by simp [plD] at h
  | .cell _, h => by simp [plD] at h
  | .cls _, h => by simp [plD] at h
  | .ty _, h => by simp [plD] at h
  | .fn _, h => by simp [plD] at h
  | .lam _, h => by simp [plD] at h
theorem eqPls_refl : ∀ ds : List D, plDs ds = true → eqPls ds ds = true
  | [], _ => by simp
  | d :: r, h => by
    simp only [plDs, Bool.and_eq_true] at h
    simp only [eqPls, eqPl_refl d h.1, eqPls_refl r h.2, Bool.and_self]
end
end DL
set_option maxRecDepth 100000
set_option maxHeartbeats 4000000
set_option autoImplicit false
namespace DL
/-! ### readings of DLk -/
@[simp] theorem r_eIxO (i : Nat) (fb : DE) (s : DS) : eIxO i fb s = match s.sl[i]? with
  | some (.ol _) => (fb s).bind fun y s1 => match y, s1.sl[i]? with
    | .int k, some (.ol xs) => (match L2.atI xs k with | some d => .ok d s1 | none => .stuck)
    | _, _ => .stuck
  | some (.val x) => (fb s).bind fun y s1 => match y with
    | .int k => (match ixD x k with | some d => .ok d s1 | none => .stuck)
    | _ => .stuck
  | _ => .stuck := rfl
@[simp] theorem r_eTruO (i : Nat) (s : DS) : eTruO i s = match s.sl[i]? with
  | some (.ol xs) => .ok (!xs.isEmpty) s
  | some (.val d) => (match truD d with | some b => .ok b s | none => .stuck)
  | _ => .stuck := rfl
@[simp] theorem r_sIxO (i : Nat) (fi fv : DE) (s : DS) : sIxO i fi fv s = (fv s).bind fun d s1 => match s1.sl[i]? with
  | some (.ol _) => (fi s1).bind fun y s2 => match y, s2.sl[i]? with
    | .int k, some (.ol xs) => (match L2.ixN xs.length k with | some j => .ok .nx ⟨s2.sl.set i (.ol (xs.set j d)), s2.st⟩ | none => .stuck)
    | _, _ => .stuck
  | _ => .stuck := rfl
@[simp] theorem r_eProp (c : String) (g : DFn) (f : DE) (s : DS) : eProp c g f s = (f s).bind fun d s1 => match insOf d s1 with
  | some (c1, _) => if c1 = c then noX (lift s1 (g [d] s1.st)) else .stuck
  | none => .stuck := rfl
@[simp] theorem r_eChain (o o' : D → D → Option D) (fa fb fc : DE) (s : DS) : eChain o o' fa fb fc s = (fa s).bind fun x s1 => (fb s1).bind fun y s2 => match o x y with
  | some (.bl true) => (fc s2).bind fun z s3 => match o' y z with
    | some d => .ok d s3
    | none => .stuck
  | some (.bl false) => .ok (.bl false) s2
  | _ => .stuck := rfl
@[simp] theorem r_eSix (fo : DE) (fa : DA) (s : DS) : eSix fo fa s = (fo s).bind fun x s1 => match x with
  | .str a => (fa s1).bind fun ds s2 => match ds with
    | [.str b] => (match PySem.Txt.index0 (nm a) (nm b) with | some k => .ok (.int (k : Nat)) s2 | none => .stuck)
    | _ => .stuck
  | _ => .stuck := rfl
@[simp] theorem r_eBM (T : String) (o : D → List D → Option D) (fo : DE) (fa : DA) (s : DS) : eBM T o fo fa s = (fo s).bind fun x s1 => if MtD.tyOk T x = true then (fa s1).bind fun ds s2 => match o x ds with
  | some d => .ok d s2
  | none => .stuck
  else .stuck := rfl
@[simp] theorem r_tyOk_s (T : String) (l : Nm) : MtD.tyOk T (.str l) = (T == "str") := rfl
@[simp] theorem r_mJoin (a : Nm) (ds : List D) : mJoin (.str a) [.lst ds] = match strsOf ds with
    | some ls => if (ls.map (·.length)).sum + ls.length * a.length ≤ 16777216 then some (.str (TL.joinL a ls)) else none
    | none => none := rfl
@[simp] theorem r_bDivmod (i j : Int) : bDivmod [.int i, .int j] = if 0 < j ∧ divOk j = true then some (.tup [.int (i.fdiv j), .int (i.fmod j)]) else none := rfl
@[simp] theorem r_eFz (i : Nat) (f : DE) (s : DS) : eFz i f s = match s.sl[i]? with
  | some (.ol xs) => f ⟨s.sl.set i (.val (.lst xs)), s.st⟩
  | some (.od kvs) => f ⟨s.sl.set i (.val (.dic kvs)), s.st⟩
  | some (.ot kvs) => f ⟨s.sl.set i (.val (.dct kvs)), s.st⟩
  | some (.oi c fs) => f ⟨s.sl.set i (.val (.ins c fs)), s.st⟩
  | _ => f s := rfl
/-! ### lambdas, tries -/
@[simp] theorem r_eLam (n : Nat) (tk k : String) (s : DS) : eLam n tk k s = match s.st[n]? with
  | some (.tab t) => if t = tk then .ok (.lam k) s else .stuck
  | _ => .stuck := rfl
@[simp] theorem r_eAct (Λ : LamR) (i : Nat) (s : DS) : eAct Λ i s = match s.sl[i]? with
  | some (.val (.lam k)) => lift s (Λ k s.st)
  | _ => .stuck := rfl
@[simp] theorem r_eCallL (n : Nat) (g : LamR → DFn) (bs : String → Option DE) (fa : DA) (s : DS) : eCallL n g bs fa s = (fa s).bind fun ds s1 => if ds.length = n then lift s1 (g (lamR bs s1.sl) ds s1.st) else .stuck := rfl
@[simp] theorem r_lamR (bs : String → Option DE) (sl : List Sl) (k : String) (st : List Cell) : lamR bs sl k st = match bs k with
  | some b => lamRun b sl st
  | none => .stuck := rfl
@[simp] theorem r_lamRun (b : DE) (sl : List Sl) (st : List Cell) : lamRun b sl st = match b ⟨sl.map stripS, st⟩ with
  | .ok d s' => .ok d s'.st
  | .exc x s' => .exc x s'.st
  | .stuck => .stuck := rfl
@[simp] theorem r_strip_v (d : D) : stripS (.val d) = .val d := rfl
@[simp] theorem r_strip_u : stripS .un = .un := rfl
@[simp] theorem r_strip_l (xs : List D) : stripS (.ol xs) = .un := rfl
@[simp] theorem r_sTry (b : DStm) (hs : List HdR) (s : DS) : sTry b hs s = match b s with
  | .exc x s1 => catchD hs x s1
  | r => r := rfl
@[simp] theorem r_catch_nil (x : Xc) (s : DS) : catchD [] x s = .exc x s := rfl
@[simp] theorem r_catch_none (c : PySem.Value) (m : String → Option Bool) (f : Xc → DStm) (r : List HdR) (x : Xc) (s : DS) : catchD (⟨c, none, m, f⟩ :: r) x s = match m x.cls with
    | some true => noX (f x s)
    | some false => catchD r x s
    | none => .stuck := rfl
@[simp] theorem r_catch_some (c : PySem.Value) (i : Nat) (m : String → Option Bool) (f : Xc → DStm) (r : List HdR) (x : Xc) (s : DS) : catchD (⟨c, some i, m, f⟩ :: r) x s = match m x.cls with
    | some true => if i < s.sl.length then unD i (noX (f x ⟨s.sl.set i .un, s.st⟩)) else .stuck
    | some false => catchD r x s
    | none => .stuck := rfl
@[simp] theorem r_unD (i : Nat) (r : Res DS Out) : unD i r = r.bind fun o s => .ok o ⟨s.sl.set i .un, s.st⟩ := rfl
@[simp] theorem r_hmT (yes no : List String) (k : String) : hmT yes no k = if k ∈ yes then some true else if k ∈ no then some false else none := rfl
@[simp] theorem r_eXf (c : String) (f : Nm) (x : Xc) (s : DS) : eXf c f x s = if x.cls = c then match x.fs.lookup f with | some d => .ok d s | none => .stuck else .stuck := rfl
/-! ### indexes from behind -/
theorem ixN_last {n : Nat} (h : 0 < n) : L2.ixN n (-1) = some (n - 1) := by
  unfold L2.ixN
  rw [if_neg (by omega), if_pos (by omega)]
  congr 1
  omega
theorem at_neg1 {α : Type} (xs : List α) (x : α) : L2.atI (xs ++ [x]) (-1) = some x := by
  unfold L2.atI
  rw [ixN_last (by simp)]
  simp
theorem set_last {α : Type} (xs : List α) (x y : α) : (xs ++ [x]).set ((xs ++ [x]).length - 1) y = xs ++ [y] := by
  simp
theorem at_nat {α : Type} {xs : List α} {i : Nat} {x : α} (h : xs[i]? = some x) : L2.atI xs (i : Int) = some x := L2.atI_nat h
/-! ### comprehensions that leave the store -/
theorem lc_gen {vs : List Nat} {g : DG} {t : DT} {e : DE} {s0 : DS} (τ : D → Bool) (f : D → D) : ∀ (items acc : List D), (∀ d ∈ items, ∃ s1 s2, g d (wipeS vs s0) = .ok () s1 ∧ t s1 = .ok (τ d) s2 ∧ (τ d = true → ∃ s3, e s2 = .ok (f d) s3 ∧ wipeS vs s3 = wipeS vs s0) ∧ (τ d = false → wipeS vs s2 = wipeS vs s0)) →
    items.length + acc.length ≤ 1000000 → ∀ s, wipeS vs s = wipeS vs s0 → ∃ s', lcL vs g t e items acc s = .ok (acc ++ (items.filter τ).map f) s' ∧ wipeS vs s' = wipeS vs s0
  | [], acc, _, _, s, hs => ⟨s, by simp, hs⟩
  | d :: r, acc, h, hl, s, hs => by
    obtain ⟨s1, s2, e1, e2, e3, e4⟩ := h d (List.mem_cons_self ..)
    have hr := fun d hd => h d (List.mem_cons_of_mem _ hd)
    simp only [List.length_cons] at hl
    rw [r_lc_cons, hs, e1]
    cases hτ : τ d with
    | true =>
      obtain ⟨s3, e5, e6⟩ := e3 hτ
      obtain ⟨s', e7, e8⟩ := lc_gen τ f r (acc ++ [f d]) hr (by simp; omega) s3 e6
      refine ⟨s', ?_, e8⟩
      have : acc.length < 1000000 := by omega
      simp [e2, hτ, e5, this, e7]
    | false =>
      obtain ⟨s', e7, e8⟩ := lc_gen τ f r acc hr (by omega) s2 (e4 hτ)
      refine ⟨s', ?_, e8⟩
      simp [e2, hτ, e7]
theorem aLc_gen {vs : List Nat} {it : DA} {g : DG} {t : DT} {e : DE} {s s0 : DS} {items : List D} (τ : D → Bool) (f : D → D) (hi : it s = .ok items s0) (h : ∀ d ∈ items, ∃ s1 s2, g d (wipeS vs s0) = .ok () s1 ∧ t s1 = .ok (τ d) s2 ∧ (τ d = true → ∃ s3, e s2 = .ok (f d) s3 ∧ wipeS vs s3 = wipeS vs s0) ∧ (τ d = false → wipeS vs s2 = wipeS vs s0))
    (hl : items.length ≤ 1000000) : aLc vs it g t e s = .ok ((items.filter τ).map f) ⟨unwipe vs s0.sl (wipeD vs s0.sl), s0.st⟩ := by
  obtain ⟨s', e1, e2⟩ := lc_gen τ f items [] h (by simpa using hl) s0 rfl
  have e3 : wipeD vs s'.sl = wipeD vs s0.sl := congrArg DS.sl e2
  have e4 : s'.st = s0.st := by have := congrArg DS.st e2; simpa using this
  rw [r_aLc, hi]
  simp [e1, e3, e4]
theorem aLc_map {vs : List Nat} {it : DA} {g : DG} {e : DE} {s s0 : DS} {items : List D} (f : D → D) (hi : it s = .ok items s0) (h : ∀ d ∈ items, ∃ s1 s3, g d (wipeS vs s0) = .ok () s1 ∧ e s1 = .ok (f d) s3 ∧ wipeS vs s3 = wipeS vs s0)
    (hl : items.length ≤ 1000000) : aLc vs it g bYes e s = .ok (items.map f) ⟨unwipe vs s0.sl (wipeD vs s0.sl), s0.st⟩ := by
  have := aLc_gen (vs := vs) (it := it) (g := g) (t := bYes) (e := e) (s := s) (fun _ => true) f hi (fun d hd => by
    obtain ⟨s1, s3, e1, e2, e3⟩ := h d hd
    exact ⟨s1, s1, e1, rfl, fun _ => ⟨s3, e2, e3⟩, fun z => nomatch z⟩) hl
  rwa [List.filter_eq_self.mpr (fun _ _ => rfl)] at this
/-! comprehensions that draw: by an invariant of the store -/
theorem lc_inv {vs : List Nat} {g : DG} {e : DE} {s0 : List Sl} {items : List D} (P : Nat → List D → List Cell → Prop) (step : ∀ (i : Nat) (d : D) (acc : List D) (S : List Cell), items[i]? = some d → P i acc S → ∃ s1 y s3, g d ⟨wipeD vs s0, S⟩ = .ok () s1 ∧ e s1 = .ok y s3 ∧ wipeD vs s3.sl = wipeD vs s0 ∧ P (i + 1) (acc ++ [y]) s3.st) :
    ∀ (l : List D) (i : Nat) (acc : List D) (s : DS), (∀ j, l[j]? = items[i + j]?) → l.length + acc.length ≤ 1000000 → wipeD vs s.sl = wipeD vs s0 → P i acc s.st → ∃ ys s', lcL vs g bYes e l acc s = .ok ys s' ∧ wipeD vs s'.sl = wipeD vs s0 ∧ P (i + l.length) ys s'.st
  | [], i, acc, s, h, _, hs, hp => ⟨acc, s, rfl, hs, hp⟩
  | d :: l, i, acc, s, h, hl, hs, hp => by
    have h0 := h 0
    simp only [List.getElem?_cons_zero, Nat.add_zero] at h0
    simp only [List.length_cons] at hl
    obtain ⟨s1, y, s3, e1, e2, e3, hp2⟩ := step i d acc s.st h0.symm hp
    obtain ⟨ys, s', e4, e5, hp3⟩ := lc_inv P step l (i + 1) (acc ++ [y]) s3 (fun j => by
      have := h (j + 1)
      rw [List.getElem?_cons_succ] at this
      rw [this]
      congr 1
      omega) (by simp; omega) e3 hp2
    refine ⟨ys, s', ?_, e5, by rw [show i + (d :: l).length = i + 1 + l.length by simp; omega]; exact hp3⟩
    have : acc.length < 1000000 := by omega
    rw [r_lc_cons, show wipeS vs s = ⟨wipeD vs s0, s.st⟩ by simp [hs], e1]
    simp [e2, this, e4]
theorem aLc_inv {vs : List Nat} {it : DA} {g : DG} {e : DE} {s : DS} {s0 : DS} {items : List D} (P : Nat → List D → List Cell → Prop) (hi : it s = .ok items s0) (h0 : P 0 [] s0.st) (step : ∀ (i : Nat) (d : D) (acc : List D) (S : List Cell), items[i]? = some d → P i acc S → ∃ s1 y s3, g d ⟨wipeD vs s0.sl, S⟩ = .ok () s1 ∧ e s1 = .ok y s3 ∧ wipeD vs s3.sl = wipeD vs s0.sl ∧ P (i + 1) (acc ++ [y]) s3.st)
    (hl : items.length ≤ 1000000) : ∃ ys S', aLc vs it g bYes e s = .ok ys ⟨unwipe vs s0.sl (wipeD vs s0.sl), S'⟩ ∧ P items.length ys S' := by
  obtain ⟨ys, s', e1, e2, hp⟩ := lc_inv P step items 0 [] s0 (fun j => by simp) (by simpa using hl) rfl h0
  refine ⟨ys, s'.st, ?_, by simpa using hp⟩
  rw [r_aLc, hi]
  simp [e1, e2]
/-! isinstance(x, (list, tuple)) -/
def isLT (cs : List String) : D → Option Bool
  | .lst _ => some true
  | .scr _ => some true
  | .tup _ => some true
  | .ins c _ => if c ∈ cs then some false else none
  | .non => some false
  | .bl _ => some false
  | .int _ => some false
  | .str _ => some false
  | .dic _ => some false
  | _ => none
theorem isLT_eq (cs : List String) (d : D) : ((tyOfD cs d).bind fun t => isAny cs t [.ty "list", .ty "tuple"]) = isLT cs d := by
  cases d <;> simp [isLT, tyOfD, tyD, isAny, isOne, mem_ty, isTy]
  split <;> simp [isAny, isOne, mem_ty]
@[simp] theorem r_isLT (cs : List String) (fe : DE) (s : DS) : eIsT cs fe (aCons (eC (.ty "list")) (aCons (eC (.ty "tuple")) aNil)) s = (fe s).bind fun d s1 => match isLT cs d with
  | some b => .ok (.bl b) s1
  | none => .stuck := by
  unfold eIsT
  simp [clsD, isLT_eq]
  all_goals rfl
/-! x != [] of an own list -/
@[simp] theorem r_eNeO (i : Nat) (s : DS) : eNeO i s = match s.sl[i]? with
  | some (.ol xs) => (match dNe (.lst xs) (.lst []) with | some (.bl b) => .ok b s | _ => .stuck)
  | some (.val d) => (match dNe d (.lst []) with | some (.bl b) => .ok b s | _ => .stuck)
  | _ => .stuck := rfl
@[simp] theorem r_sPar3O (i j l : Nat) (f1 f2 : DA) (f3 : DE) (s : DS) : sPar3O i j l f1 f2 f3 s = match f1 s with
  | .ok xs s1 => match f2 s1 with
    | .ok ys s2 => match f3 s2 with
      | .ok d s3 => .ok .nx ⟨((s3.sl.set i (.ol xs)).set j (.ol ys)).set l (.val d), s3.st⟩
      | _ => .stuck
    | _ => .stuck
  | _ => .stuck := rfl
@[simp] theorem r_dIsB (a b : Bool) : dIsB (.bl a) (.bl b) = some (.bl (decide (a = b))) := rfl
@[simp] theorem r_dNotB (a b : Bool) : dNotB (.bl a) (.bl b) = some (.bl (!decide (a = b))) := rfl
@[simp] theorem r_gTA_t (n : Nat) (g : List D → DS → Res DS Unit) (ds : List D) (s : DS) : gTA n g (.tup ds) s = if ds.length = n then g ds s else .stuck := rfl
@[simp] theorem r_gTA_l (n : Nat) (g : List D → DS → Res DS Unit) (ds : List D) (s : DS) : gTA n g (.lst ds) s = if ds.length = n then g ds s else .stuck := rfl
@[simp] theorem r_sMul (l : Nm) (n : Int) : sMul (.str l) (.int n) = if l.length ≤ 100 ∧ -100000 ≤ n ∧ n ≤ 100000 then some (.str (List.replicate n.toNat l).flatten) else none := rfl
@[simp] theorem r_tAdd (a b : List D) : tAdd (.tup a) (.tup b) = if a.length + b.length ≤ 1000000 then some (.tup (a ++ b)) else none := rfl
/-! equality of truth values, refusals -/
@[simp] theorem dNe_bb (a b : Bool) : dNe (.bl a) (.bl b) = some (.bl (!(a == b))) := by
  rw [dNe_pl _ _ (pl_bl a) (pl_bl b)]
  cases a <;> cases b <;> rfl
@[simp] theorem dEq_bb (a b : Bool) : dEq (.bl a) (.bl b) = some (.bl (a == b)) := by
  rw [dEq_pl _ _ (pl_bl a) (pl_bl b)]
  cases a <;> cases b <;> rfl
theorem ne_refl {xs : List D} (h : plFs xs) : dNe (.tup xs) (.tup xs) = some (.bl false) := by
  rw [dNe_tt _ _ h h, eqPls_refl _ h.1]; rfl
theorem noLams_int (cs : List Int) : noLams (cs.map D.int) = true := by
  induction cs with
  | nil => rfl
  | cons c cs ih => simp [noLams, noLam, ih]
/-! ### texts put together -/
theorem joinL_ones : ∀ l : List Nat, TL.joinL [] (l.map fun c => [c]) = l
  | [] => rfl
  | [c] => rfl
  | c :: d :: r => by
    have := joinL_ones (d :: r)
    simp only [List.map_cons] at this ⊢
    simp [TL.joinL, this]
theorem strsOf_ones (l : List Nat) : strsOf (l.map fun c => D.str [c]) = some (l.map fun c => [c]) := by
  induction l with
  | nil => rfl
  | cons c l ih => simp [strsOf, ih]
theorem sum_ones (l : List Nat) : ((l.map fun c => [c]).map (·.length)).sum = l.length := by
  induction l with
  | nil => rfl
  | cons c l ih => simp only [List.map_cons, List.sum_cons, ih, List.length_cons, List.length_nil]; omega
theorem join_ones (l : List Nat) (h : l.length ≤ 10000) : mJoin (.str []) [.lst (l.map fun c => D.str [c])] = some (.str l) := by
  rw [r_mJoin, strsOf_ones]
  simp only [sum_ones, joinL_ones, List.length_nil, Nat.mul_zero, Nat.add_zero]
  rw [if_pos (by omega)]
theorem joinL_nil : ∀ ls : List (List Nat), TL.joinL [] ls = ls.flatten
  | [] => rfl
  | [c] => by simp [TL.joinL]
  | c :: d :: r => by
    have := joinL_nil (d :: r)
    simp only [TL.joinL, this, List.flatten_cons, List.nil_append]
theorem strsOf_map {α : Type} (f : α → List Nat) (l : List α) : strsOf (l.map fun x => D.str (f x)) = some (l.map f) := by
  induction l with
  | nil => rfl
  | cons c l ih => simp [strsOf, ih]
theorem join_map {α : Type} (f : α → List Nat) (l : List α) (h : (l.map f).flatten.length ≤ 10000) : mJoin (.str []) [.lst (l.map fun x => D.str (f x))] = some (.str (l.map f).flatten) := by
  rw [r_mJoin, strsOf_map]
  rw [List.length_flatten] at h
  simp only [joinL_nil, List.length_nil, Nat.mul_zero, Nat.add_zero]
  rw [if_pos (Nat.le_trans h (by decide))]
theorem filter_first {α : Type} (τ : α → Bool) : ∀ (l : List α) (f : Nat) (x : α), l[f]? = some x → τ x = true → (∀ i y, i < f → l[i]? = some y → τ y = false) → ∃ r, l.filter τ = x :: r ∧ (∀ z ∈ r, z ∈ l)
  | [], f, x, h, _, _ => by simp at h
  | y :: l, 0, x, h, h1, h2 => by
    simp only [List.getElem?_cons_zero, Option.some.injEq] at h
    subst h
    exact ⟨l.filter τ, by rw [List.filter_cons_of_pos h1], fun z hz => List.mem_cons_of_mem _ (List.mem_filter.mp hz).1⟩
  | y :: l, f + 1, x, h, h1, h2 => by
    have e := h2 0 y (by omega) rfl
    obtain ⟨r, hr, hm⟩ := filter_first τ l f x (by simpa using h) h1 fun i z hi hz => h2 (i + 1) z (by omega) (by simpa using hz)
    exact ⟨r, by rw [List.filter_cons_of_neg (by rw [e]; decide)]; exact hr, fun z hz => List.mem_cons_of_mem _ (hm z hz)⟩
end DL
set_option maxRecDepth 100000
set_option maxHeartbeats 4000000
set_option autoImplicit false
namespace DL
open PySem PySem.Spec PyProof.Rows L2
/-! ### d[k] of a dict that stands in the module -/
def lookN : List (Nm × D) → Nm → Option D
  | [], _ => none
  | (k, d) :: r, l => if k = l then some d else lookN r l
theorem lookN_nl : ∀ {kvs : List (Nm × D)} {l : Nm} {d : D}, (kvs.all fun q => noLam q.2) = true → lookN kvs l = some d → noLam d = true
  | [], _, _, _, h => by cases h
  | (k, x) :: r, l, d, h, e => by
    rw [List.all_cons, Bool.and_eq_true] at h
    unfold lookN at e
    split at e
    · cases e; exact h.1
    · exact lookN_nl h.2 e
def eKd (kvs : List (Nm × D)) (fi : DE) : DE := fun s => (fi s).bind fun k s1 => match k with
  | .str l => (match lookN kvs l with | some d => .ok d s1 | none => .stuck)
  | _ => .stuck
@[simp] theorem r_eKd (kvs : List (Nm × D)) (fi : DE) (s : DS) : eKd kvs fi s = (fi s).bind fun k s1 => match k with
  | .str l => (match lookN kvs l with | some d => .ok d s1 | none => .stuck)
  | _ => .stuck := rfl
/-- the entries of a dict of the module, told as data -/
def kdm (K : PySem.W.Frag) : List DictEntry → List (Nm × D) → Bool
  | [], [] => true
  | e :: es, (k, d) :: kvs => (match e.key with | .str x _ => x == nm k | _ => false) && repK K 6 e.val d && kdm K es kvs
  | _, _ => false
/-- the entries of a dict that stands in the module -/
def dEnt (K : PySem.W.Frag) (v : Value) : List DictEntry := match v with
  | .ref a => (match K.lookup a with
    | some ⟨_, _, .dict es _, _⟩ => es.toList
    | _ => [])
  | _ => []
def dForm (K : PySem.W.Frag) (v : Value) : Bool := match v with
  | .ref a => (match K.lookup a with
    | some ⟨c, none, .dict _ _, sl⟩ => c == .type "dict" && sl.isEmpty && !(a == sysModules)
    | _ => false)
  | _ => false
structure KdB (P : Params) (K : PySem.W.Frag) (v : Value) (kvs : List (Nm × D)) : Prop where
  form : dForm K v = true
  ents : kdm K (dEnt K v) kvs = true
  hash : (dEnt K v).map (·.hash) = kvs.map fun q => PyData.keyHash P (nm q.1)
theorem kdm_lit {P : Params} {K : PySem.W.Frag} : ∀ {es : List DictEntry} {kvs : List (Nm × D)}, kdm K es kvs = true → es.map (·.hash) = (kvs.map fun q => PyData.keyHash P (nm q.1)) → PySem.W.KeysLit P es
  | [], [], _, _ => trivial
  | [], _ :: _, h, _ => by cases h
  | _ :: _, [], h, _ => by cases h
  | e :: es, (k, d) :: kvs, h, q => by
    unfold kdm at h
    rw [Bool.and_eq_true, Bool.and_eq_true] at h
    obtain ⟨⟨h1, h2⟩, h3⟩ := h
    simp only [List.map_cons, List.cons.injEq] at q
    refine And.intro ?_ (kdm_lit h3 q.2)
    cases hk : e.key with
    | str x t =>
      rw [hk] at h1
      have h1 : (x == nm k) = true := h1
      rw [beq_iff_eq] at h1
      subst h1
      exact ⟨_, t, rfl, q.1⟩
    | _ => rw [hk] at h1; cases h1
theorem KdB.obj {P : Params} {K : PySem.W.Frag} {v : Value} {kvs : List (Nm × D)} (h : KdB P K v kvs) : ∃ (p : Addr) (es : Array DictEntry) (n : Nat), v = .ref p ∧ (p == sysModules) = false ∧ K.lookup p = some { cls := .type "dict", data := .dict es n } ∧ PySem.W.KeysLit P es.toList ∧ kdm K es.toList kvs = true := by
  obtain ⟨h1, h2, h3⟩ := h
  cases v with
  | ref a =>
    unfold dForm at h1
    unfold dEnt at h2 h3
    simp only at h1 h2 h3
    cases e : K.lookup a with
    | none => rw [e] at h1; cases h1
    | some o =>
      rw [e] at h1 h2 h3
      obtain ⟨c, dd, data, sl⟩ := o
      cases dd with
      | some _ => cases h1
      | none =>
        cases data with
        | dict es n =>
          rw [Bool.and_eq_true, Bool.and_eq_true, beq_iff_eq, Bool.not_eq_true'] at h1
          obtain ⟨⟨rfl, hs⟩, hlo⟩ := h1
          have : sl = #[] := Array.isEmpty_iff.mp hs
          subst this
          exact ⟨a, es, n, rfl, hlo, e, kdm_lit h2 h3, h2⟩
        | _ => cases h1
  | _ => cases h1
def KdOk (G : Gam) (w0 : World) (v : Value) (kvs : List (Nm × D)) : Prop :=
  ∃ p : Addr, v = .ref p ∧ (p == sysModules) = false ∧ ∀ l d, lookN kvs l = some d → ∃ y, KDct G.K w0 p (nm l) y ∧ ∀ w, Rep G w y d
theorem kdm_look {G : Gam} : ∀ {es : List DictEntry} {kvs : List (Nm × D)}, kdm G.K es kvs = true → ∀ l d, lookN kvs l = some d → ∃ e, es.find? (fun x => x.key.isStr (nm l)) = some e ∧ ∃ y, RelV y e.val ∧ ∀ w, Rep G w y d
  | [], [], _, l, d, h => by cases h
  | [], _ :: _, h, _, _, _ => by cases h
  | _ :: _, [], h, _, _, _ => by cases h
  | e :: es, (k, d') :: kvs, h, l, d, hl => by
    unfold kdm at h
    rw [Bool.and_eq_true, Bool.and_eq_true] at h
    obtain ⟨⟨h1, h2⟩, h3⟩ := h
    cases hk : e.key with
    | str x t =>
      rw [hk] at h1
      have h1 : (x == nm k) = true := h1
      rw [beq_iff_eq] at h1
      subst h1
      unfold lookN at hl
      by_cases c : k = l
      · rw [if_pos c] at hl
        cases hl
        subst c
        obtain ⟨y, r1, r2⟩ := repK_ok (G := G) rfl 6 _ _ h2
        refine ⟨e, ?_, y, r1, r2⟩
        rw [List.find?_cons_of_pos]
        rw [hk]
        simp [Value.isStr]
      · rw [if_neg c] at hl
        obtain ⟨e', q1, q2⟩ := kdm_look h3 l d hl
        refine ⟨e', ?_, q2⟩
        rw [List.find?_cons_of_neg, q1]
        rw [hk]
        simp [Value.isStr]
        intro z
        exact c (dkey_inj (a := .s k) (b := .s l) (by show Sum.inr (nm k) = Sum.inr (nm l); rw [z]) |> fun q => by cases q; rfl)
    | _ => rw [hk] at h1; cases h1
theorem kdOk_of {G : Gam} {w0 : World} {v : Value} {kvs : List (Nm × D)} (h : KdB w0.params G.K v kvs) : KdOk G w0 v kvs := by
  obtain ⟨p, es, n, rfl, lo, h1, h2, h3⟩ := h.obj
  refine ⟨p, rfl, lo, fun l d hl => ?_⟩
  obtain ⟨e, q1, y, r1, r2⟩ := kdm_look h3 l d hl
  refine ⟨y, ⟨es, n, e.val, h1, h2, ?_, r1⟩, r2⟩
  unfold PySem.W.nsIn
  rw [h1]
  simp only
  rw [q1]
section
variable {G : Gam} {W : WX} {X : Cx}
theorem pd_kd (hK : G.K = X.K) {x : Str} {v : Value} {kvs : List (Nm × D)} {i : Expr} {fi : DE} {pos pos' : Pos} (hg : Gl X x) (hm : X.mg x = some v) (hk : KdOk G X.w v kvs) (hi : PD G W X i fi) (hs : PlainIx i) (hd : (x == ("__debug__" : Str)) = false := by decide) :
    PD G W X (.Subscript (.Name x pos) i pos') (eKd kvs fi) := by
  obtain ⟨p, rfl, _, hk⟩ := hk
  refine (pe_ix (X := X) (r := rIxD X.K X.w) ix_kdict (pe_glob (v := .ref p) hg hm rfl hd) hi hs).imp fun σ H Q ⟨κ, w, s, ok, q⟩ => ?_
  show _
  refine ⟨κ, w, s, ok, (PostG.bind q).imp fun v2 H2 ⟨d2, s2, w2, le2, ok2, r2, q2⟩ => ?_⟩
  cases r2 with
  | str l =>
    replace q2 : PostG G W (Rep G) κ w2 σ (match lookN kvs l with | some d => .ok d s2 | none => .stuck) Q := q2
    cases e : lookN kvs l with
    | none => rw [e] at q2; exact q2.elim
    | some d =>
      rw [e] at q2
      obtain ⟨y, h1, h2⟩ := hk l d e
      exact ⟨p, nm l, y, rfl, rfl, hK ▸ h1, q2 w2 y H2 (.refl _) ok2 (h2 w2)⟩
  | _ => exact q2.elim
/-! ### k in d, k not in d, of a dict that stands in the module: keys that are there -/
theorem op_inKd : OpR X (compareOp .In) (fun x y H Q => ∃ p z v, y = .ref p ∧ x = .str z ∧ KDct X.K X.w p z v ∧ (p == sysModules) = false ∧ Q (.bl true) H) := by
  intro pins s σ H x y v u Q I rx ry h
  obtain ⟨p, z, r, rfl, rfl, ⟨es, n, u0, hl, hk, e, ru⟩, lo, q⟩ := h
  obtain rfl : u = Value.ref p := ry
  obtain ⟨t, rfl⟩ := rx
  have hm := PySem.W.mapOf_K (prog := X.prog) (w := X.w) I.kIn hl hk
  exact wpAny_in_of (strKind_is X.prog X.w z t) lo hm (by rw [PySem.W.find_K hl e]; exact ⟨.bl true, H, I.tok _, rfl, q⟩)
theorem op_notInKd : OpR X (compareOp .NotIn) (fun x y H Q => ∃ p z v, y = .ref p ∧ x = .str z ∧ KDct X.K X.w p z v ∧ (p == sysModules) = false ∧ Q (.bl false) H) := by
  intro pins s σ H x y v u Q I rx ry h
  obtain ⟨p, z, r, rfl, rfl, ⟨es, n, u0, hl, hk, e, ru⟩, lo, q⟩ := h
  obtain rfl : u = Value.ref p := ry
  obtain ⟨t, rfl⟩ := rx
  have hm := PySem.W.mapOf_K (prog := X.prog) (w := X.w) I.kIn hl hk
  exact wpAny_notIn_of (strKind_is X.prog X.w z t) lo hm (by rw [PySem.W.find_K hl e]; exact ⟨.bl false, H, I.tok _, rfl, q⟩)
def eInKd (b : Bool) (kvs : List (Nm × D)) (fi : DE) : DE := fun s => (fi s).bind fun k s1 => match k with
  | .str l => (match lookN kvs l with | some _ => .ok (.bl b) s1 | none => .stuck)
  | _ => .stuck
@[simp] theorem r_eInKd (b : Bool) (kvs : List (Nm × D)) (fi : DE) (s : DS) : eInKd b kvs fi s = (fi s).bind fun k s1 => match k with
  | .str l => (match lookN kvs l with | some _ => .ok (.bl b) s1 | none => .stuck)
  | _ => .stuck := rfl
theorem pd_inKd (hK : G.K = X.K) {x : Str} {v : Value} {kvs : List (Nm × D)} {i : Expr} {fi : DE} {pos pos' : Pos} (hg : Gl X x) (hm : X.mg x = some v) (hk : KdOk G X.w v kvs) (hi : PD G W X i fi) (hb : behindInMarks .In (.Name x pos) = false) (hd : (x == ("__debug__" : Str)) = false := by decide) :
    PD G W X (.Compare i [.In] [.Name x pos] pos') (eInKd true kvs fi) := by
  obtain ⟨p, rfl, lo, hk⟩ := hk
  refine (pe_cmpR (X := X) op_inKd hi (pe_glob (v := .ref p) hg hm rfl hd) hb).imp fun σ H Q ⟨κ, w, s, ok, q⟩ => ?_
  refine ⟨κ, w, s, ok, (PostG.bind q).imp fun v2 H2 ⟨d2, s2, w2, le2, ok2, r2, q2⟩ => ?_⟩
  cases r2 with
  | str l =>
    replace q2 : PostG G W (Rep G) κ w2 σ (match lookN kvs l with | some _ => .ok (.bl true) s2 | none => .stuck) Q := q2
    cases e : lookN kvs l with
    | none => rw [e] at q2; exact q2.elim
    | some d =>
      rw [e] at q2
      obtain ⟨y, h1, h2⟩ := hk l d e
      exact ⟨p, nm l, y, rfl, rfl, hK ▸ h1, lo, q2 w2 (.bl true) H2 (.refl _) ok2 (.bl true)⟩
  | _ => exact q2.elim
theorem pd_notInKd (hK : G.K = X.K) {x : Str} {v : Value} {kvs : List (Nm × D)} {i : Expr} {fi : DE} {pos pos' : Pos} (hg : Gl X x) (hm : X.mg x = some v) (hk : KdOk G X.w v kvs) (hi : PD G W X i fi) (hb : behindInMarks .NotIn (.Name x pos) = false) (hd : (x == ("__debug__" : Str)) = false := by decide) :
    PD G W X (.Compare i [.NotIn] [.Name x pos] pos') (eInKd false kvs fi) := by
  obtain ⟨p, rfl, lo, hk⟩ := hk
  refine (pe_cmpR (X := X) op_notInKd hi (pe_glob (v := .ref p) hg hm rfl hd) hb).imp fun σ H Q ⟨κ, w, s, ok, q⟩ => ?_
  refine ⟨κ, w, s, ok, (PostG.bind q).imp fun v2 H2 ⟨d2, s2, w2, le2, ok2, r2, q2⟩ => ?_⟩
  cases r2 with
  | str l =>
    replace q2 : PostG G W (Rep G) κ w2 σ (match lookN kvs l with | some _ => .ok (.bl false) s2 | none => .stuck) Q := q2
    cases e : lookN kvs l with
    | none => rw [e] at q2; exact q2.elim
    | some d =>
      rw [e] at q2
      obtain ⟨y, h1, h2⟩ := hk l d e
      exact ⟨p, nm l, y, rfl, rfl, hK ▸ h1, lo, q2 w2 (.bl false) H2 (.refl _) ok2 (.bl false)⟩
  | _ => exact q2.elim
theorem ptd_inKd (hK : G.K = X.K) {x : Str} {v : Value} {kvs : List (Nm × D)} {i : Expr} {fi : DE} {pos pos' : Pos} (hg : Gl X x) (hm : X.mg x = some v) (hk : KdOk G X.w v kvs) (hi : PD G W X i fi) (hb : behindInMarks .In (.Name x pos) = false) (hd : (x == ("__debug__" : Str)) = false := by decide) :
    PDT G W X (.Compare i [.In] [.Name x pos] pos') (eB (eInKd true kvs fi)) := by
  obtain ⟨p, rfl, lo, hk⟩ := hk
  refine (pt_cmpR (X := X) op_inKd hi (pe_glob (v := .ref p) hg hm rfl hd) hb).imp fun σ H Q h => ?_
  obtain ⟨κ, w, s, ok, q⟩ := tB_of h
  refine ⟨κ, w, s, ok, (PostG.bind q).imp fun v2 H2 ⟨d2, s2, w2, le2, ok2, r2, q2⟩ => ?_⟩
  cases r2 with
  | str l =>
    replace q2 := q2
    cases e : lookN kvs l with
    | none => simp only [e] at q2; exact q2.elim
    | some d =>
      simp only [e] at q2
      obtain ⟨y, h1, h2⟩ := hk l d e
      exact ⟨p, nm l, y, rfl, rfl, hK ▸ h1, lo, q2 w2 (.bl true) H2 (.refl _) ok2 (.bl true)⟩
  | _ => exact q2.elim
theorem ptd_notInKd (hK : G.K = X.K) {x : Str} {v : Value} {kvs : List (Nm × D)} {i : Expr} {fi : DE} {pos pos' : Pos} (hg : Gl X x) (hm : X.mg x = some v) (hk : KdOk G X.w v kvs) (hi : PD G W X i fi) (hb : behindInMarks .NotIn (.Name x pos) = false) (hd : (x == ("__debug__" : Str)) = false := by decide) :
    PDT G W X (.Compare i [.NotIn] [.Name x pos] pos') (eB (eInKd false kvs fi)) := by
  obtain ⟨p, rfl, lo, hk⟩ := hk
  refine (pt_cmpR (X := X) op_notInKd hi (pe_glob (v := .ref p) hg hm rfl hd) hb).imp fun σ H Q h => ?_
  obtain ⟨κ, w, s, ok, q⟩ := tB_of h
  refine ⟨κ, w, s, ok, (PostG.bind q).imp fun v2 H2 ⟨d2, s2, w2, le2, ok2, r2, q2⟩ => ?_⟩
  cases r2 with
  | str l =>
    replace q2 := q2
    cases e : lookN kvs l with
    | none => simp only [e] at q2; exact q2.elim
    | some d =>
      simp only [e] at q2
      obtain ⟨y, h1, h2⟩ := hk l d e
      exact ⟨p, nm l, y, rfl, rfl, hK ▸ h1, lo, q2 w2 (.bl false) H2 (.refl _) ok2 (.bl false)⟩
  | _ => exact q2.elim
end
end DL
set_option maxRecDepth 100000
set_option maxHeartbeats 4000000
set_option autoImplicit false
namespace DL
open PySem PySem.Spec PyProof.Rows L2
/-! ### dicts with tuple keys -/
section
variable {G : Gam} {W : WX} {X : Cx}
/-- the hash of a tuple key is this world's -/
structure HsOk (G : Gam) (X : Cx) : Prop where
  h : G.hs = tupleKeyHash (mixKind X.prog X.w)
theorem hs_of {P : Program} {w0 : World} (e : G.hs = tupleKeyHash (mixKind P w0)) (hp : X.prog = P) (hw : X.w = w0) : HsOk G X := by
  subst hp; subst hw; exact ⟨e⟩
abbrev KX := List Key × Addr × Value
abbrev kdX (X : Cx) : HeapKind X.prog X.w (List Key) := tupleKind (mixKind X.prog X.w)
abbrev entX (X : Cx) (x : KX) : DictEntry := entryOfKey (kdX X) x
theorem sq_key {pins : List (Addr × Obj)} {σ : L2.St} {H : Hp} {s : Shared} (I : Inv X pins σ H s) {b : Addr} {ks : List Key} (h : SqT X.K H b (ks.map kV)) : (kdX X).is s.heap ks b := by
  obtain ⟨its, r, ⟨o, h1, h2, n, h3⟩, hz⟩ := I.tuple h
  exact ⟨o, its.toArray, n, h1, h2, h3, by simpa using items_are r⟩
/-- keys and values, beside one another -/
abbrev KvR (G : Gam) (w : Wd) : List (List DK × D) → List KX → Prop := Paired fun (q : List DK × D) (x : KX) => q.1.map dkey = x.1 ∧ SqT G.K w.F x.2.1 (x.1.map kV) ∧ ∃ v, RelV v x.2.2 ∧ Rep G w v q.2
theorem rt_xs (hH : HsOk G X) {w : Wd} : ∀ {es : List DictEntry} {kvs : List (List DK × D)}, RepT G w es kvs → ∃ xs : List KX, es = xs.map (entX X) ∧ KvR G w kvs xs
  | _, _, .nil => ⟨[], rfl, .nil⟩
  | _, _, .cons (k := k) (b := b) (v := v) (u := u) (d := d) h1 h2 h3 r => by
    obtain ⟨xs, a1, a2⟩ := rt_xs hH r
    refine ⟨(k.map dkey, b, u) :: xs, ?_, .cons ⟨rfl, ?_, v, h2, h3⟩ a2⟩
    · rw [List.map_cons, ← a1]
      congr 1
      rw [hH.h]; rfl
    · show SqT G.K w.F b ((k.map dkey).map kV)
      rw [List.map_map]; exact h1
theorem xs_rt (hH : HsOk G X) {w : Wd} : ∀ {kvs : List (List DK × D)} {xs : List KX}, KvR G w kvs xs → RepT G w (xs.map (entX X)) kvs
  | [], [], _ => .nil
  | [], _ :: _, h => by cases h
  | _ :: _, [], h => by cases h
  | (k, d) :: kvs, (k', b, u) :: xs, h => by
    have h1 : k.map dkey = k' ∧ SqT G.K w.F b (k'.map kV) ∧ ∃ v, RelV v u ∧ Rep G w v d := by cases h; assumption
    have t : KvR G w kvs xs := by cases h; assumption
    obtain ⟨e1, e2, v, e3, e4⟩ := h1
    subst e1
    rw [List.map_map] at e2
    have := RepT.cons (G := G) (w := w) (k := k) (b := b) (v := v) (u := u) (d := d) e2 e3 e4 (xs_rt hH t)
    rw [hH.h] at this
    exact this
theorem kv_keys {w : Wd} : ∀ {kvs : List (List DK × D)} {xs : List KX}, KvR G w kvs xs → xs.map (·.1) = kvs.map fun q => q.1.map dkey
  | [], [], _ => rfl
  | [], _ :: _, h => by cases h
  | _ :: _, [], h => by cases h
  | q :: kvs, x :: xs, h => by
    have h1 : q.1.map dkey = x.1 := by cases h with | cons a b => exact a.1
    have t : KvR G w kvs xs := by cases h; assumption
    rw [List.map_cons, List.map_cons, kv_keys t, h1]
theorem kv_sq {w : Wd} : ∀ {kvs : List (List DK × D)} {xs : List KX}, KvR G w kvs xs → ∀ x ∈ xs, SqT G.K w.F x.2.1 (x.1.map kV)
  | [], [], _, _, hx => nomatch hx
  | [], _ :: _, h, _, _ => by cases h
  | _ :: _, [], h, _, _ => by cases h
  | q :: kvs, y :: xs, h, x, hx => by
    have h1 : SqT G.K w.F y.2.1 (y.1.map kV) := by cases h with | cons a b => exact a.2.1
    have t : KvR G w kvs xs := by cases h; assumption
    rcases List.mem_cons.mp hx with rfl | hx
    · exact h1
    · exact kv_sq t x hx
theorem dkeys_inj {a b : List DK} (h : a.map dkey = b.map dkey) : a = b := by
  induction a generalizing b with
  | nil => cases b with
    | nil => rfl
    | cons _ _ => cases h
  | cons x a ih => cases b with
    | nil => cases h
    | cons y b =>
      rw [List.map_cons, List.map_cons, List.cons.injEq] at h
      rw [dkey_inj h.1, ih h.2]
theorem nodup_map {α β : Type} {f : α → β} (hf : ∀ x y, f x = f y → x = y) : ∀ {l : List α}, l.Nodup → (l.map f).Nodup
  | [], _ => List.nodup_nil
  | x :: l, h => by
    rw [List.nodup_cons] at h
    rw [List.map_cons, List.nodup_cons]
    refine ⟨fun q => ?_, nodup_map hf h.2⟩
    obtain ⟨y, hy, e⟩ := List.mem_map.mp q
    rw [hf _ _ e] at hy
    exact h.1 hy
/-- a dict with tuple keys in the heap -/
structure TD (X : Cx) (H : Hp) (a : Addr) (xs : List KX) (ep : Nat) : Prop where
  e : H a = some (dctO a (xs.map (entX X)) ep)
  sq : ∀ x ∈ xs, SqT X.K H x.2.1 (x.1.map kV)
  nd : (xs.map (·.1)).Nodup
  lo : (a == sysModules) = false
theorem TD.dict {pins : List (Addr × Obj)} {σ : L2.St} {H : Hp} {s : Shared} {a : Addr} {xs : List KX} {ep : Nat} (t : TD X H a xs ep) (I : Inv X pins σ H s) : s.heap.DictOfH (kdX X) a xs := by
  obtain ⟨⟨o, es, g1, g2, g3, g4⟩, _⟩ := (show ObjOk X.prog X.w H s.heap a (dctO a (xs.map (entX X)) ep) from I.hok a _ t.e)
  exact ⟨o, es, ep, g1, g2, g3, g4, fun x hx => sq_key I (t.sq x hx), t.nd⟩
theorem tok_td (hK : G.K = X.K) (hH : HsOk G X) {w : Wd} {S : List Cell} {H : Hp} {a : Addr} {kvs : List (List DK × D)} (f : FOk G w S H) (h : TOk G w H a kvs) : ∃ xs ep, TD X H a xs ep ∧ KvR G w kvs xs := by
  obtain ⟨es, ep, e, r, nd, lo⟩ := h
  obtain ⟨xs, a1, a2⟩ := rt_xs hH r
  subst a1
  refine ⟨xs, ep, ⟨e, fun x hx => hK ▸ SqT.le (kv_sq a2 x hx) f.sub, ?_, lo⟩, a2⟩
  rw [kv_keys a2]
  have := nodup_map (f := fun l : List DK => l.map dkey) (fun x y h => dkeys_inj h) nd
  rwa [List.map_map] at this
theorem ext_ok {P : Program} {w : World} {H : Hp} {h : Heap} {a : Addr} {es : List DictEntry} {ep : Nat} (hh : ∃ o es', h.get? a = some o ∧ o.ExactDict ∧ o.data = .dict es' ep ∧ es'.toList = es) : ObjOk P w H h a (dctO a es ep) :=
  ⟨hh, let ⟨o, _, ho, _⟩ := hh; ⟨o, ho⟩, fun h1 h2 ⟨o, es', q1, q2⟩ k => ⟨o, es', k o q1, q2⟩⟩
def tLook : List (List DK × D) → List DK → Option D
  | [], _ => none
  | q :: r, l => if q.1 = l then some q.2 else tLook r l
def tPut : List (List DK × D) → List DK → D → List (List DK × D)
  | [], l, x => [(l, x)]
  | q :: r, l, x => if q.1 = l then (l, x) :: r else q :: tPut r l x
theorem kv_look {w : Wd} (l : List DK) : ∀ {kvs : List (List DK × D)} {xs : List KX}, KvR G w kvs xs → (∀ d, tLook kvs l = some d → ∃ p v, atKey xs (l.map dkey) = some p ∧ RelV v p.2 ∧ Rep G w v d) ∧ (tLook kvs l = none → atKey xs (l.map dkey) = none)
  | [], [], _ => ⟨fun _ h => (nomatch h), fun _ => rfl⟩
  | [], _ :: _, h => by cases h
  | _ :: _, [], h => by cases h
  | q :: kvs, x :: xs, hh => by
    have h : q.1.map dkey = x.1 ∧ SqT G.K w.F x.2.1 (x.1.map kV) ∧ ∃ v, RelV v x.2.2 ∧ Rep G w v q.2 := by cases hh; assumption
    have t : KvR G w kvs xs := by cases hh; assumption
    obtain ⟨i1, i2⟩ := kv_look l t
    obtain ⟨h1, _, v, h2, h3⟩ := h
    by_cases c : q.1 = l
    · have e : atKey (x :: xs) (l.map dkey) = some x.2 := by
        unfold atKey
        rw [List.find?_cons_of_pos (by rw [← c]; exact decide_eq_true h1.symm)]; rfl
      refine ⟨fun d hd => ?_, fun hd => ?_⟩
      · unfold tLook at hd
        rw [if_pos c] at hd
        cases hd
        exact ⟨x.2, v, e, h2, h3⟩
      · unfold tLook at hd
        rw [if_pos c] at hd
        cases hd
    · have e : atKey (x :: xs) (l.map dkey) = atKey xs (l.map dkey) := by
        unfold atKey
        rw [List.find?_cons_of_neg]
        intro z
        have z := of_decide_eq_true z
        exact c (dkeys_inj (h1.trans z))
      refine ⟨fun d hd => ?_, fun hd => ?_⟩
      · unfold tLook at hd
        rw [if_neg c] at hd
        rw [e]; exact i1 d hd
      · unfold tLook at hd
        rw [if_neg c] at hd
        rw [e]; exact i2 hd
theorem kv_len {w : Wd} {kvs : List (List DK × D)} {xs : List KX} (h : KvR G w kvs xs) : kvs.length = xs.length := Paired.length h
theorem tLook_none : ∀ {kvs : List (List DK × D)} {l : List DK}, tLook kvs l = none ↔ l ∉ kvs.map (·.1)
  | [], l => by simp [tLook]
  | q :: r, l => by
    unfold tLook
    by_cases c : q.1 = l
    · rw [if_pos c]; simp [c]
    · rw [if_neg c, tLook_none, List.map_cons, List.mem_cons, not_or]
      exact ⟨fun h => ⟨fun e => c e.symm, h⟩, fun h => h.2⟩
theorem tPut_new : ∀ {kvs : List (List DK × D)} {l : List DK} {x : D}, tLook kvs l = none → tPut kvs l x = kvs ++ [(l, x)]
  | [], _, _, _ => rfl
  | q :: r, l, x, h => by
    unfold tLook at h
    by_cases c : q.1 = l
    · rw [if_pos c] at h; cases h
    · rw [if_neg c] at h
      unfold tPut
      rw [if_neg c, tPut_new h]; rfl
theorem tPut_keys : ∀ {kvs : List (List DK × D)} {l : List DK} {x : D} {d : D}, tLook kvs l = some d → (tPut kvs l x).map (·.1) = kvs.map (·.1)
  | [], _, _, _, h => by cases h
  | q :: r, l, x, d, h => by
    unfold tLook at h
    unfold tPut
    by_cases c : q.1 = l
    · rw [if_pos c, List.map_cons, List.map_cons, c]
    · rw [if_neg c] at h
      rw [if_neg c, List.map_cons, List.map_cons, tPut_keys h]
theorem tPut_nd {kvs : List (List DK × D)} {l : List DK} {x : D} (nd : (kvs.map (·.1)).Nodup) : ((tPut kvs l x).map (·.1)).Nodup := by
  cases e : tLook kvs l with
  | some d => rw [tPut_keys e]; exact nd
  | none =>
    rw [tPut_new e, List.map_append, List.nodup_append]
    refine ⟨nd, by simp, fun a ha b hb => ?_⟩
    have hb : b = l := by simpa using hb
    rw [hb]
    exact fun q => tLook_none.mp e (by rw [← q]; exact ha)
theorem kv_keep {w : Wd} {l : List DK} {u : Value} : ∀ {kvs : List (List DK × D)} {xs : List KX}, KvR G w kvs xs → l ∉ kvs.map (·.1) → xs.map (putAt (l.map dkey) u) = xs
  | [], [], _, _ => rfl
  | [], _ :: _, h, _ => by cases h
  | _ :: _, [], h, _ => by cases h
  | q :: kvs, x :: xs, hh, hn => by
    have h : q.1.map dkey = x.1 := by cases hh with | cons a b => exact a.1
    have t : KvR G w kvs xs := by cases hh; assumption
    rw [List.map_cons, List.mem_cons, not_or] at hn
    rw [List.map_cons, kv_keep t hn.2]
    unfold putAt
    rw [if_neg fun e => hn.1 (dkeys_inj (h.trans e)).symm]
theorem kv_old {w : Wd} {l : List DK} {u : Value} {v : V} {d : D} (ru : RelV v u) (rd : Rep G w v d) : ∀ {kvs : List (List DK × D)} {xs : List KX}, KvR G w kvs xs → (kvs.map (·.1)).Nodup → (tLook kvs l).isSome = true → KvR G w (tPut kvs l d) (xs.map (putAt (l.map dkey) u))
  | [], [], _, _, h => by cases h
  | [], _ :: _, h, _, _ => by cases h
  | _ :: _, [], h, _, _ => by cases h
  | q :: kvs, x :: xs, hh, nd, hs => by
    have h : q.1.map dkey = x.1 ∧ SqT G.K w.F x.2.1 (x.1.map kV) ∧ ∃ v, RelV v x.2.2 ∧ Rep G w v q.2 := by cases hh; assumption
    have t : KvR G w kvs xs := by cases hh; assumption
    rw [List.map_cons, List.nodup_cons] at nd
    unfold tLook at hs
    unfold tPut
    by_cases c : q.1 = l
    · rw [if_pos c, List.map_cons, kv_keep t (by rw [← c]; exact nd.1)]
      refine .cons ?_ t
      unfold putAt
      rw [if_pos (h.1.symm.trans (by rw [c]))]
      exact ⟨by rw [← c]; exact h.1, h.2.1, v, ru, rd⟩
    · rw [if_neg c] at hs
      rw [if_neg c, List.map_cons]
      refine .cons ?_ (kv_old ru rd t nd.2 hs)
      unfold putAt
      rw [if_neg fun e => c (dkeys_inj (h.1.trans e))]
      exact h
theorem kv_put {w : Wd} {l : List DK} {b : Addr} {u : Value} {v : V} {d : D} (ru : RelV v u) (rd : Rep G w v d) (sb : SqT G.K w.F b ((l.map dkey).map kV)) {kvs : List (List DK × D)} {xs : List KX} (h : KvR G w kvs xs) (nd : (kvs.map (·.1)).Nodup) : KvR G w (tPut kvs l d) (storedH xs (l.map dkey) b u) := by
  obtain ⟨k1, k2⟩ := kv_look l h
  unfold storedH
  cases e : tLook kvs l with
  | some x =>
    obtain ⟨p, _, q, _⟩ := k1 x e
    rw [q, if_pos (show (some p).isSome = true from rfl)]
    exact kv_old ru rd h nd (by rw [e]; rfl)
  | none =>
    rw [k2 e, if_neg (by simp), tPut_new e]
    exact Paired.snoc h ⟨rfl, sb, v, ru, rd⟩
/-! ### the library's words -/
def TGet (X : Cx) (H : Hp) (a : Addr) (y : V) (r : Option V) : Prop := ∃ xs ep k b, TD X H a xs ep ∧ y = .ref b ∧ SqT X.K H b (k.map kV) ∧ RelO r ((atKey xs k).map (·.2))
theorem relO_some {v : V} {o : Option Value} (r : RelO (some v) o) : ∃ u, o = some u ∧ RelV v u := by
  cases o with
  | none => exact (show False from r).elim
  | some u => exact ⟨u, rfl, r⟩
section
variable {pins : List (Addr × Obj)} {σ : L2.St} {H : Hp} {s : Shared} {a : Addr} {y v : V} {u r : Value} {o : Option V} {A : Around} {E : Value → Shared → Prop}
theorem t_getItem {Q : Value → Shared → Prop} (hu : A.units + 1 < cLine) (I : Inv X pins σ H s) (g : TGet X H a y (some v)) (ry : RelV y u) (h : ∀ w' s', Inv X pins σ H s' → RelV v w' → Q w' s') :
    wpAny (model X.prog X.w) A (getItem (.ref a) u) Q E s := by
  obtain ⟨xs, ep, k, b, t, ey, eb, l⟩ := g
  subst ey
  cases (show u = Value.ref b from ry)
  obtain ⟨w', hw, rw'⟩ := relO_some l
  obtain ⟨p, hp, hp2⟩ := Option.map_eq_some_iff.mp hw
  refine wpAny_getItem_heap (tupleKind_room_in1 hu) (sq_key I eb) (t.dict I) hp ?_
  rw [hp2]
  exact h w' _ (I.tok _) rw'
theorem t_in {Q : Value → Shared → Prop} (hu : A.units + 1 < cLine) (I : Inv X pins σ H s) (g : TGet X H a y o) (ry : RelV y u) (h : ∀ s', Inv X pins σ H s' → Q (.bool o.isSome) s') :
    wpAny (model X.prog X.w) A (compareOp .In u (.ref a)) Q E s := by
  obtain ⟨xs, ep, k, b, t, ey, eb, l⟩ := g
  subst ey
  cases (show u = Value.ref b from ry)
  refine wpAny_in_heap (tupleKind_room_in1 hu) (sq_key I eb) t.lo (t.dict I) ?_
  have q := l.isSome_eq
  rw [Option.isSome_map] at q
  rw [← q]
  exact h _ (I.tok _)
theorem t_notIn {Q : Value → Shared → Prop} (hu : A.units + 1 < cLine) (I : Inv X pins σ H s) (g : TGet X H a y o) (ry : RelV y u) (h : ∀ s', Inv X pins σ H s' → Q (.bool (!o.isSome)) s') :
    wpAny (model X.prog X.w) A (compareOp .NotIn u (.ref a)) Q E s := by
  obtain ⟨xs, ep, k, b, t, ey, eb, l⟩ := g
  subst ey
  cases (show u = Value.ref b from ry)
  refine wpAny_notIn_heap (tupleKind_room_in1 hu) (sq_key I eb) t.lo (t.dict I) ?_
  have q := l.isSome_eq
  rw [Option.isSome_map] at q
  rw [← q]
  exact h _ (I.tok _)
theorem t_get2 {d : V} {Q : Value → Shared → Prop} (hu : A.units + 1 < cLine) (I : Inv X pins σ H s) (g : TGet X H a y o) (ry : RelV y u) (rd : RelV d r) (h : ∀ w' s', Inv X pins σ H s' → RelV (o.getD d) w' → Q w' s') :
    wpAny (model X.prog X.w) A (call (.builtin "dict.get") [.ref a, u, r]) Q E s := by
  obtain ⟨xs, ep, k, b, t, ey, eb, l⟩ := g
  subst ey
  cases (show u = Value.ref b from ry)
  exact call_meetsIn PySem.F.slot_dict_get (t.dict I).typeIs PySem.F.entry_dict_get (PySem.F.args_dict_get_3 _ _ _) (meetsH_dict_get_default (kdX X) a b t.lo r) ⟨tupleKind_room_in1 hu, k, xs, sq_key I eb, t.dict I, h _ _ (I.tok _) (l.getD rd)⟩
theorem t_setItem {xs : List KX} {ep : Nat} {k : List Key} {b : Addr} {Q : Unit → Shared → Prop} (hu : A.units + 1 < cLine) (I : Inv X pins σ H s) (t : TD X H a xs ep) (eb : SqT X.K H b (k.map kV)) (hl : xs.length < sizeLine)
    (h : ∀ ep' s', Inv X pins σ (upd H a (dctO a ((storedH xs k b r).map (entX X)) ep')) s' → Q () s') :
    wpAny (model X.prog X.w) A (setItem (.ref a) (.ref b) r) Q E s := by
  refine wpAny_setItem_heap (hsz := Nat.le_of_lt hl) (tupleKind_room_in1 hu) (sq_key I eb) (t.dict I) fun h' dd' hs => ?_
  obtain ⟨q, es, ep', hq, h2, h3, h4, _, _⟩ := dd'
  exact h ep' _ (d_write I (by rw [t.e]; exact True.intro) hs ⟨q, hq⟩ (ext_ok ⟨q, es, hq, h2, h3, h4⟩))
end
def tTGet (X : Cx) (td ty : TE) : TE := fun σ H Q => td σ H fun x H1 => ty σ H1 fun y H2 => ∃ a v, x = .ref a ∧ TGet X H2 a y (some v) ∧ Q v H2
def tTIn (X : Cx) (ty td : TE) : TE := fun σ H Q => ty σ H fun y H1 => td σ H1 fun x H2 => ∃ a o, x = .ref a ∧ TGet X H2 a y o ∧ Q (.bl o.isSome) H2
def tTNotIn (X : Cx) (ty td : TE) : TE := fun σ H Q => ty σ H fun y H1 => td σ H1 fun x H2 => ∃ a o, x = .ref a ∧ TGet X H2 a y o ∧ Q (.bl (!o.isSome)) H2
def sTPut (X : Cx) (td ty tv : TE) : TS := fun N σ H => tv σ H fun v H1 => td σ H1 fun x H2 => ty σ H2 fun y H3 => ∃ a xs ep k b, x = .ref a ∧ TD X H3 a xs ep ∧ y = .ref b ∧ SqT X.K H3 b (k.map kV) ∧ xs.length < sizeLine ∧
  ∀ ep' u, RelV v u → N.nx σ (upd H3 a (dctO a ((storedH xs k b u).map (entX X)) ep'))
def tTGet2 (X : Cx) (td ty tx : TE) : TE := fun σ H Q => td σ H fun x H1 => ∃ a xs ep, x = .ref a ∧ TD X H1 a xs ep ∧ ty σ H1 fun y H2 => tx σ H2 fun z H3 => ∃ o, TGet X H3 a y o ∧ Q (o.getD z) H3
section
variable {o i e f value : Expr} {pos pos' tpos apos cpos : Pos} {td ty tv tx : TE}
theorem pe_tget (hu : X.A.units + 1 < cLine) (ho : PE X o td) (hi : PE X i ty) (hs : NoSl i) : PE X (.Subscript o i pos) (tTGet X td ty) := by
  refine ⟨fun pins s σ H Q I h => ?_⟩
  refine subD_of PySem.F.slot_dict_getitem.lookup hs (thn (ho.run pins s σ H _ I h) fun u s1 ⟨x, H1, I1, rx, q1⟩ => thn (hi.run pins s1 σ H1 _ I1 q1) fun iv s2 ⟨y, H2, I2, ry, a, v, ex, g, q2⟩ => ?_)
  subst ex
  obtain rfl : u = Value.ref a := rx
  have g' := g
  obtain ⟨xs, ep, k, b, t, _⟩ := g'
  exact ⟨(t.dict I2).typeIs, t_getItem hu I2 g ry fun w' s3 I3 rw' => ⟨v, H2, I3, rw', q2⟩⟩
theorem pc_tin (hu : X.A.units + 1 < cLine) (hi : PE X i ty) (ho : PE X o td) : PC X .In i o (tTIn X ty td) := by
  refine ⟨fun pins s σ H Q I h => ?_⟩
  refine thn (hi.run pins s σ H _ I h) fun iv s1 ⟨y, H1, I1, ry, q1⟩ => thn (ho.run pins s1 σ H1 _ I1 q1) fun u s2 ⟨x, H2, I2, rx, a, ov, ex, g, q2⟩ => ?_
  subst ex
  obtain rfl : u = Value.ref a := rx
  exact t_in hu I2 g ry fun s3 I3 => ⟨.bl ov.isSome, H2, I3, rfl, q2⟩
theorem pc_tnotin (hu : X.A.units + 1 < cLine) (hi : PE X i ty) (ho : PE X o td) : PC X .NotIn i o (tTNotIn X ty td) := by
  refine ⟨fun pins s σ H Q I h => ?_⟩
  refine thn (hi.run pins s σ H _ I h) fun iv s1 ⟨y, H1, I1, ry, q1⟩ => thn (ho.run pins s1 σ H1 _ I1 q1) fun u s2 ⟨x, H2, I2, rx, a, ov, ex, g, q2⟩ => ?_
  subst ex
  obtain rfl : u = Value.ref a := rx
  exact t_notIn hu I2 g ry fun s3 I3 => ⟨.bl (!ov.isSome), H2, I3, rfl, q2⟩
theorem ps_tput (hu : X.A.units + 1 < cLine) (ho : PE X o td) (hi : PE X i ty) (hv : PE X value tv) (hs : swapsWith value (some (.Subscript o i pos')) pos.line X.env = pure false) :
    PS X (.Assign [.Subscript o i pos'] value pos) (sTPut X td ty tv) := by
  refine ⟨fun pins s σ H N I h => ?_⟩
  refine wpAny_Assign_Subscript (thn (hv.run pins s σ H _ I h) fun r s1 ⟨v, H1, I1, rv, q1⟩ => thn (ho.run pins s1 σ H1 _ I1 q1) fun u s2 ⟨x, H2, I2, rx, q2⟩ => thn (hi.run pins s2 σ H2 _ I2 q2) fun iv s3 ⟨y, H3, I3, ry, a, xs, ep, k, b, ex, t, ey, eb, hl, q3⟩ => ?_) hs
  subst ex
  subst ey
  obtain rfl : u = Value.ref a := rx
  obtain rfl : iv = Value.ref b := ry
  exact t_setItem hu I3 t eb hl fun ep' s4 I4 => ⟨σ, _, I4, q3 ep' r rv⟩
theorem pe_tget2 (hu : X.A.units + 1 < cLine) (ho : PE X o td) (he : PE X e ty) (hf : PE X f tx) (m : M2 X o "get" apos e f cpos) : PE X (.Call (.Attribute o "get" apos) [e, f] [] cpos) (tTGet2 X td ty tx) := by
  refine ⟨fun pins s σ H Q I h => ?_⟩
  refine wpAny_Call_method m.base m.few m.line PySem.F.plainAttrs_dict PySem.F.slot_dict_get PySem.F.type_dict_get (thn (ho.run pins s σ H _ I h) fun u s1 ⟨x, H1, I1, rx, a, xs, ep, ex, t, q1⟩ => ?_)
  subst ex
  obtain rfl : u = Value.ref a := rx
  have dd := t.dict I1
  refine ⟨dd.typeIs, fun b q => ?_, ?_⟩
  · cases q
    obtain ⟨ob, _, _, h1, h2, _⟩ := dd
    exact ⟨ob, h1, h2.2.1⟩
  rw [m.trees]
  refine Calls.callWith_builtin rfl (Calls.evalArgs_plain (Calls.spliced_cons (thn (he.run pins s1 σ H1 _ I1 q1) fun iv s2 ⟨y, H2, I2, ry, q2⟩ =>
    Calls.spliced_cons (thn (hf.run pins s2 σ H2 _ I2 q2) fun fv s3 ⟨z, H3, I3, rz, ov, g, q3⟩ => Calls.spliced_nil ?_))))
  exact t_get2 hu I3 g ry rz fun w' s4 I4 rw' => ⟨_, H3, I4, rw', q3⟩
end
/-! ### displays -/
def tTNew : TE := fun _ H Q => ∀ p, H p = none → (p == sysModules) = false → Q (.ref p) (upd H p (dctO p [] 0))
def tTDisp (X : Cx) (tk tv : TE) : TE := fun σ H Q => ∀ p, H p = none → (p == sysModules) = false → tk σ (upd H p (dctO p [] 0)) fun x H1 => tv σ H1 fun y H2 => ∃ k b, x = .ref b ∧ H2 p = some (dctO p [] 0) ∧ SqT X.K H2 b (k.map kV) ∧
  ∀ ep u, RelV y u → Q (.ref p) (upd H2 p (dctO p [entX X (k, b, u)] ep))
theorem ext_new {P : Program} {w : World} {H : Hp} (h : Heap) : ObjOk P w H (h.push { cls := .type "dict", data := .dict #[] }) h.objs.size (dctO h.objs.size [] 0) :=
  ext_ok ⟨_, #[], Heap.get?_push_size _ rfl, ⟨rfl, rfl, rfl⟩, rfl, rfl⟩
theorem not_mods {pins : List (Addr × Obj)} {σ : L2.St} {H : Hp} {s : Shared} (I : Inv X pins σ H s) : (s.heap.objs.size == sysModules) = false := beq_eq_false_iff_ne.mpr (Ne.symm (Nat.ne_of_lt I.big))
theorem pe_tnew {pos : Pos} : PE X (.Dict [] [] pos) tTNew := ⟨fun pins s σ H Q I h =>
  wpAny_Dict_empty ⟨.ref s.heap.objs.size, _, I.laid (a := s.heap.objs.size) (o := dctO s.heap.objs.size [] 0) (t' := s.toks) (fun _ _ q => Heap.get?_push_of_some _ q) (Nat.le_refl _) (ext_new s.heap), rfl, h _ (I.hok.fresh (Nat.le_refl _)) (not_mods I)⟩⟩
theorem pe_tdisp (hu : X.A.units + 1 < cLine) {k v : Expr} {pos : Pos} {tk tv : TE} (hk : PE X k tk) (hv : PE X v tv) : PE X (.Dict [some k] [v] pos) (tTDisp X tk tv) := by
  refine ⟨fun pins s σ H Q I q => ?_⟩
  have hn := I.hok.fresh (Nat.le_refl s.heap.objs.size)
  have I1 := I.laid (a := s.heap.objs.size) (o := dctO s.heap.objs.size [] 0) (h' := s.heap.push { cls := .type "dict", data := .dict #[] }) (t' := s.toks) (fun _ _ q => Heap.get?_push_of_some _ q) (Nat.le_refl _) (ext_new s.heap)
  refine wpAny_Dict_any rfl rfl (by simp) (show 1 ≤ 15 by decide) (thn ((pps_cons hk hv pps_nil).run pins _ σ _ (fun ps H2 => match ps with
    | [(x, y)] => ∃ k b, x = V.ref b ∧ H2 s.heap.objs.size = some (dctO s.heap.objs.size [] 0) ∧ SqT X.K H2 b (k.map kV) ∧ ∀ ep u, RelV y u → Q (.ref s.heap.objs.size) (upd H2 s.heap.objs.size (dctO s.heap.objs.size [entX X (k, b, u)] ep))
    | _ => False) I1 (q _ hn (not_mods I))) fun ws s2 ⟨ps, H2, I2, rel, h⟩ => ?_)
  generalize hp : s.heap.objs.size = p at *
  cases rel with
  | nil => exact h.elim
  | @cons ab uv _ _ a b =>
    cases b with
    | cons _ _ => exact h.elim
    | nil =>
      obtain ⟨k', b', ex, e, eb, q3⟩ := h
      obtain ⟨r1, r2⟩ := a
      obtain ⟨u1, u2⟩ := uv
      rw [ex] at r1
      obtain rfl : u1 = Value.ref b' := r1
      have t : TD X H2 p [] 0 := TD.mk e (fun _ hx => nomatch hx) List.nodup_nil (hp ▸ not_mods I)
      unfold storeAll
      rw [List.forIn_cons]
      refine wpAny_bind (wpAny_bind (wpAny_dictSet_heap (hsz := Nat.zero_le _) (knd := kdX X) (show (tupleKind (mixKind X.prog X.w)).room X.A from Nat.lt_of_succ_lt hu) (sq_key I2 eb) (t.dict I2) fun h' dd' hs => wpAny_pure ?_))
      show wpAny _ _ (pure PUnit.unit) _ _ _
      refine wpAny_pure ?_
      obtain ⟨o, es, ep', hq, h2, h3, h4, _, _⟩ := dd'
      exact ⟨.ref p, _, d_write I2 (by rw [e]; exact True.intro) hs ⟨o, hq⟩ (ext_ok ⟨o, es, hq, h2, h3, h4⟩), rfl, q3 ep' u2 r2⟩
/-! ### for k in d -/
def Itx (d : Addr) (es : List DictEntry) (ep : Nat) : It :=
  ⟨fun i H => H d = some (dctO d es ep) ∧ ∃ e b, es[i]? = some e ∧ e.key = .ref b, fun i H x H' => H' = H ∧ ∃ e b, es[i]? = some e ∧ e.key = .ref b ∧ x = .ref b, fun i H => H d = some (dctO d es ep) ∧ es.length ≤ i⟩
theorem ext_at {pins : List (Addr × Obj)} {σ : L2.St} {H : Hp} {s : Shared} {d : Addr} {es : List DictEntry} {ep : Nat} (I : Inv X pins σ H s) (h : H d = some (dctO d es ep)) :
    ∃ o es', s.heap.get? d = some o ∧ o.ExactDict ∧ o.data = .dict es' ep ∧ es'.toList = es :=
  (show ObjOk X.prog X.w H s.heap d (dctO d es ep) from I.hok d _ h).1
theorem turn_x {P : Program} {w : World} {K : PySem.W.Frag} {tg : Expr} {d : Addr} {es : List DictEntry} {ep : Nat} (it : Addr) : Turn P w K tg (Itx d es ep) [it] it (fun i h => h.IsKeyIter it d i es.length ep) where
  mem := by simp
  obj := fun i h st b hb => by
    have e : b = it := by simpa using hb
    subst e
    obtain ⟨oi, e, c, dd⟩ := st
    exact ⟨oi, e, fun v z => by rw [dd] at z; cases z⟩
  keep := fun i h h' st k => st.at fun oi e => k it (by simp) oi e
  item := by
    intro X hP hw hK hc i pins s σ H E I hf st hg
    subst hP hw hK
    obtain ⟨hd, en, q, hen, hkey⟩ := hg
    obtain ⟨f0, f1, f2, f3, f4, f5⟩ := hf it (by simp)
    obtain ⟨o, es', hgd, hx, hdt, he⟩ := ext_at I hd
    have hsz : es'.size = es.length := by rw [← he, Array.length_toList]
    have hen' : es'[i]? = some en := by rw [← Array.getElem?_toList, he]; exact hen
    refine next_key_item st hgd hdt hsz hen' fun h' st' sb => ?_
    have I1 : Inv X pins σ H { s with heap := h' } := I.turned (t' := s.toks) (fun b ob hb e => (sb.2 b hb).trans e) f0 f1 f3 f4 f5
    obtain ⟨oi, e, c, dd⟩ := id st'
    exact ⟨en.key, rfl, go_of (s := { s with heap := h' }) e c dd (by decide) ⟨.ref q, H, I1, hkey, ⟨rfl, en, q, hen, hkey, rfl⟩, st', fun b hb => (hf b hb).1⟩⟩
  done := by
    intro X hP hw hK hc i pins s σ H E I hf st hg
    subst hP hw hK
    obtain ⟨hd, hi⟩ := hg
    obtain ⟨f0, f1, f2, f3, f4, f5⟩ := hf it (by simp)
    obtain ⟨o, es', hgd, hx, hdt, he⟩ := ext_at I hd
    have hsz : es'.size = es.length := by rw [← he, Array.length_toList]
    exact next_key_end (I.ok.hd hc) st hgd hdt hsz hi fun h' eb => ⟨rfl, I.turned (t' := s.toks) (fun b ob hb e => eb b ob hb e) f0 f1 f3 f4 f5⟩
  self := fun A i s Q E st h => by
    refine wpAny_pyIter_slot st.typeIs F.slot_dict_keyiterator_iter (wpAny_call_entry F.slot_dict_keyiterator_iter st.typeIs F.entry_dict_keyiterator_iter ?_ (F.args_dict_keyiterator_iter_1 _))
    show wpAny _ _ (ret (.ref it)) _ _ s
    exact wpAny_pure ⟨_, rfl, "dict_keyiterator", _, st.typeIs, F.slot_dict_keyiterator_next.lookup, h⟩
theorem pi_x {tg e : Expr} {td : TE} (he : PE X e td) : PI X tg e (fun σ H R => td σ H fun x H1 => ∃ d es ep, x = .ref d ∧ (d == sysModules) = false ∧ H1 d = some (dctO d es ep) ∧ R (Itx d es ep) H1) := by
  refine ⟨fun pins s σ H R I h => ?_⟩
  refine thn (he.run pins s σ H _ I h) fun u s1 ⟨x, H1, I1, rx, d, es, ep, ex, lo, hd, q⟩ => ?_
  subst ex
  obtain rfl : u = Value.ref d := rx
  obtain ⟨o, es', hgd, hx, hdt, hel⟩ := ext_at I1 hd
  have hsz : es'.size = es.length := by rw [← hel, Array.length_toList]
  refine iter_keys lo hgd hx hdt (pi_one (tk := s1.toks) I1 _ (turn_x _) ⟨_, Heap.get?_push_size _ rfl, rfl, ?_⟩ q)
  rw [hsz] <;> rfl
/-! ### by data -/
def dkD : DK → D
  | .i n => .int n
  | .s l => .str l
def tupD (l : List DK) : D := .tup (l.map dkD)
theorem reps_keys {w : Wd} : ∀ l : List DK, Reps G w (l.map fun x => kV (dkey x)) (l.map dkD)
  | [] => .nil
  | .i n :: r => .cons (.int n) (reps_keys r)
  | .s t :: r => .cons (.str t) (reps_keys r)
def tkOf (d : D) : Option (List DK) := match d with
  | .tup xs => xs.mapM kOf
  | _ => none
theorem reps_of_keys {w : Wd} : ∀ {vs : List V} {ds : List D} {l : List DK}, Reps G w vs ds → ds.mapM kOf = some l → vs = l.map fun x => kV (dkey x)
  | _, _, l, .nil, e => by
    have : l = [] := by simpa using e.symm
    subst this; rfl
  | _, _, l, .cons (d := d) (ds := ds) a b, e => by
    rw [List.mapM_cons] at e
    cases e1 : kOf d with
    | none => rw [e1] at e; cases e
    | some k =>
      rw [e1] at e
      cases e2 : ds.mapM kOf with
      | none => rw [e2] at e; cases e
      | some l' =>
        rw [e2] at e
        have : l = k :: l' := by simpa using e.symm
        subst this
        rw [List.map_cons, ← a.key e1, reps_of_keys b e2]
theorem Rep.tkey (hK : G.K = X.K) {w : Wd} {S : List Cell} {H : Hp} (f : FOk G w S H) {v : V} {d : D} {l : List DK} (r : Rep G w v d) (h : tkOf d = some l) : ∃ b, v = .ref b ∧ SqT X.K H b ((l.map dkey).map kV) ∧ SqT G.K w.F b ((l.map dkey).map kV) := by
  cases r with
  | @tup a vs ds e r =>
    have q := reps_of_keys r h
    subst q
    refine ⟨a, rfl, ?_, ?_⟩
    · rw [List.map_map]; exact hK ▸ SqT.le e f.sub
    · rw [List.map_map]; exact e
  | _ => exact nomatch h
/-- the dict of a slot, own or given away -/
def tAt (i : Nat) (s : DS) : Option (List (List DK × D)) := match s.sl[i]? with
  | some (.ot kvs) => some kvs
  | some (.val (.dct kvs)) => some kvs
  | _ => none
theorem tAt_ok {κ : Bs} {w : Wd} {s : DS} {σ : L2.St} {H : Hp} {i : Nat} {kvs : List (List DK × D)} (ok : Ok G κ w s σ H) (e : tAt i s = some kvs) : ∃ a, σ[i]? = some (some (.ref a)) ∧ TOk G w H a kvs := by
  unfold tAt at e
  split at e
  · rename_i x e1
    cases e
    obtain ⟨a, h1, h2, _⟩ := ok.own i _ e1 rfl
    exact ⟨a, h1, h2⟩
  · rename_i x e1
    cases e
    obtain ⟨v, h1, h2⟩ := ok.val i _ e1
    cases h2 with
    | @dct a es ep ds q1 q2 q3 q4 => exact ⟨a, h1, es, ep, ok.fok.sub _ _ q1, q2, q3, q4⟩
  · cases e
def eTGet (i : Nat) (fk : DE) : DE := fun s => match tAt i s with
  | none => .stuck
  | some _ => (fk s).bind fun k s1 => match tAt i s1, tkOf k with
    | some kvs, some l => match tLook kvs l with
      | some x => .ok x s1
      | none => .stuck
    | _, _ => .stuck
theorem tget_of (hK : G.K = X.K) (hH : HsOk G X) {κ : Bs} {w : Wd} {s : DS} {σ : L2.St} {H : Hp} {i : Nat} {a : Addr} {kvs : List (List DK × D)} {v : V} {d : D} {l : List DK} (ok : Ok G κ w s σ H) (e : tAt i s = some kvs) (ha : σ[i]? = some (some (.ref a))) (r : Rep G w v d) (hl : tkOf d = some l) :
    (∀ x, tLook kvs l = some x → ∃ y, TGet X H a v (some y) ∧ Rep G w y x) ∧ (tLook kvs l = none → TGet X H a v none) := by
  obtain ⟨a', h1, tk⟩ := tAt_ok ok e
  rw [ha] at h1
  cases h1
  obtain ⟨xs, ep, t, kv⟩ := tok_td hK hH ok.fok tk
  obtain ⟨b, rfl, sb, _⟩ := r.tkey hK ok.fok hl
  obtain ⟨k1, k2⟩ := kv_look l kv
  refine ⟨fun x hx => ?_, fun hx => ?_⟩
  · obtain ⟨p, y, q1, q2, q3⟩ := k1 x hx
    exact ⟨y, ⟨xs, ep, _, b, t, rfl, sb, by rw [q1]; exact q2⟩, q3⟩
  · exact ⟨xs, ep, _, b, t, rfl, sb, by rw [k2 hx]; exact True.intro⟩
theorem pd_tget (hu : X.A.units + 1 < cLine) (hK : G.K = X.K) (hH : HsOk G X) {i : Nat} {o k : Expr} {fk : DE} {pos : Pos} (ho : PE X o (tVar i)) (hk : PD G W X k fk) (hs : NoSl k) : PD G W X (.Subscript o k pos) (eTGet i fk) :=
  (pe_tget hu ho hk hs).imp fun σ H Q ⟨κ, w, s, ok, q⟩ => by
    unfold eTGet at q
    cases e0 : tAt i s with
    | none => rw [e0] at q; exact q.elim
    | some kv0 =>
      rw [e0] at q
      obtain ⟨a, ha, _⟩ := tAt_ok ok e0
      refine ⟨.ref a, ha, κ, w, s, ok, (PostG.bind q).imp fun v H1 ⟨d, s1, w1, le, ok1, r1, q1⟩ => ?_⟩
      cases e1 : tAt i s1 with
      | none => rw [e1] at q1; exact q1.elim
      | some kvs =>
        cases e2 : tkOf d with
        | none => rw [e1, e2] at q1; exact q1.elim
        | some l =>
          rw [e1, e2] at q1
          replace q1 : PostG G W (Rep G) κ w1 σ (match tLook kvs l with | some x => .ok x s1 | none => .stuck) Q := q1
          obtain ⟨g1, g2⟩ := tget_of hK hH ok1 e1 ha r1 e2
          cases e3 : tLook kvs l with
          | none => rw [e3] at q1; exact q1.elim
          | some x =>
            rw [e3] at q1
            obtain ⟨y, t1, t2⟩ := g1 x e3
            exact ⟨a, y, rfl, t1, q1 w1 y H1 (.refl _) ok1 t2⟩
/-- k in d, k not in d -/
def eTIn (p : Bool) (fk : DE) (i : Nat) : DE := fun s => (fk s).bind fun k s1 => match tAt i s1, tkOf k with
  | some kvs, some l => .ok (.bl ((tLook kvs l).isSome == p)) s1
  | _, _ => .stuck
theorem beq_t (b : Bool) : (b == true) = b := by cases b <;> rfl
theorem beq_f (b : Bool) : (b == false) = !b := by cases b <;> rfl
theorem tin_run (hK : G.K = X.K) (hH : HsOk G X) {σ : L2.St} {H : Hp} {Q : VK} {i : Nat} {p : Bool} {fk : DE} (h : tD G W (eTIn p fk i) σ H Q) : tD G W fk σ H fun y H1 => ∃ v, σ[i]? = some (some v) ∧ ∃ a o, v = .ref a ∧ TGet X H1 a y o ∧ Q (.bl (o.isSome == p)) H1 := by
  obtain ⟨κ, w, s, ok, q⟩ := h
  refine ⟨κ, w, s, ok, (PostG.bind q).imp fun v H1 ⟨d, s1, w1, le, ok1, r1, q1⟩ => ?_⟩
  cases e1 : tAt i s1 with
  | none => rw [e1] at q1; exact q1.elim
  | some kvs =>
    cases e2 : tkOf d with
    | none => rw [e1, e2] at q1; exact q1.elim
    | some l =>
      rw [e1, e2] at q1
      obtain ⟨a, ha, _⟩ := tAt_ok ok1 e1
      obtain ⟨g1, g2⟩ := tget_of hK hH ok1 e1 ha r1 e2
      replace q1 : PostG G W (Rep G) κ w1 σ (.ok (.bl ((tLook kvs l).isSome == p)) s1) Q := q1
      cases e3 : tLook kvs l with
      | none =>
        rw [e3] at q1
        exact ⟨_, ha, a, none, rfl, g2 e3, q1 w1 _ H1 (.refl _) ok1 (.bl _)⟩
      | some x =>
        rw [e3] at q1
        obtain ⟨y, t1, t2⟩ := g1 x e3
        exact ⟨_, ha, a, some y, rfl, t1, q1 w1 _ H1 (.refl _) ok1 (.bl _)⟩
theorem ptd_tin (hu : X.A.units + 1 < cLine) (hK : G.K = X.K) (hH : HsOk G X) {i : Nat} {o k : Expr} {fk : DE} {pos : Pos} (hk : PD G W X k fk) (ho : PE X o (tVar i)) (h1 : behindInMarks .In o = false := by first | exact nobehind _ (by decide) (by decide) | rfl) :
    PDT G W X (.Compare k [.In] [o] pos) (eB (eTIn true fk i)) := by
  refine (pt_cmp (pc_tin hu hk ho) h1).imp fun σ H Q h => ?_
  obtain ⟨κ, w, s, ok, q⟩ := tin_run hK hH (tB_of h)
  refine ⟨κ, w, s, ok, q.imp fun v H1 ⟨x, e, a, o, ex, g, q2⟩ => ⟨x, e, a, o, ex, g, ?_⟩⟩
  rw [beq_t] at q2
  exact q2
theorem ptd_tnotin (hu : X.A.units + 1 < cLine) (hK : G.K = X.K) (hH : HsOk G X) {i : Nat} {o k : Expr} {fk : DE} {pos : Pos} (hk : PD G W X k fk) (ho : PE X o (tVar i)) (h1 : behindInMarks .NotIn o = false := by first | exact nobehind _ (by decide) (by decide) | rfl) :
    PDT G W X (.Compare k [.NotIn] [o] pos) (eB (eTIn false fk i)) := by
  refine (pt_cmp (pc_tnotin hu hk ho) h1).imp fun σ H Q h => ?_
  obtain ⟨κ, w, s, ok, q⟩ := tin_run hK hH (tB_of h)
  refine ⟨κ, w, s, ok, q.imp fun v H1 ⟨x, e, a, o, ex, g, q2⟩ => ⟨x, e, a, o, ex, g, ?_⟩⟩
  rw [beq_f] at q2
  exact q2
/-- d[k] = v of one's own dict -/
def sTPutO (i : Nat) (fk fv : DE) : DStm := fun s => (fv s).bind fun v s1 => match s1.sl[i]? with
  | some (.ot _) => (fk s1).bind fun k s2 => match s2.sl[i]?, tkOf k with
    | some (.ot kvs), some l => if kvs.length < 1000000 then .ok .nx ⟨s2.sl.set i (.ot (tPut kvs l v)), s2.st⟩ else .stuck
    | _, _ => .stuck
  | _ => .stuck
theorem pds_tput (hu : X.A.units + 1 < cLine) (hK : G.K = X.K) (hH : HsOk G X) {i : Nat} {o k value : Expr} {fk fv : DE} {pos pos' : Pos} (ho : PE X o (tVar i)) (hk : PD G W X k fk) (hv : PD G W X value fv) (hs : swapsWith value (some (.Subscript o k pos')) pos.line X.env = pure false := by rfl) :
    PDS G W X (.Assign [.Subscript o k pos'] value pos) (sTPutO i fk fv) :=
  (ps_tput hu ho hk hv hs).imp fun N σ H ⟨κ, w, s, ok, q⟩ => ⟨κ, w, s, ok, (PostG.bindS q).imp fun v H1 ⟨d, s1, w1, le, ok1, r1, q1⟩ => by
    cases e1 : s1.sl[i]? with
    | none => rw [e1] at q1; exact q1.elim
    | some x =>
      rw [e1] at q1
      cases x with
      | ot kv0 =>
        obtain ⟨a, ha, _⟩ := ok1.own i _ e1 rfl
        refine ⟨_, ha, κ, w1, s1, ok1, (PostG.bindS q1).imp fun v2 H2 ⟨d2, s2, w2, le2, ok2, r2, q2⟩ => ?_⟩
        cases e2 : s2.sl[i]? with
        | none => rw [e2] at q2; exact q2.elim
        | some x2 =>
          cases x2 with
          | ot kvs =>
            cases e3 : tkOf d2 with
            | none => rw [e2, e3] at q2; exact q2.elim
            | some l =>
              rw [e2, e3] at q2
              replace q2 : PostS G W κ w2 (if kvs.length < 1000000 then .ok .nx ⟨s2.sl.set i (.ot (tPut kvs l d)), s2.st⟩ else .stuck) N := q2
              split at q2
              · rename_i c
                obtain ⟨a', h1, tk, _⟩ := ok2.own i _ e2 rfl
                rw [ha] at h1
                cases h1
                have nd := tk.choose_spec.choose_spec.2.2.1
                obtain ⟨xs, ep, t, kv⟩ := tok_td hK hH ok2.fok tk
                obtain ⟨b, rfl, sb, sb'⟩ := r2.tkey hK ok2.fok e3
                refine ⟨a, xs, ep, _, b, rfl, t, rfl, sb, by rw [← kv_len kv, sizeLine_eq]; omega, fun ep' u ru => ?_⟩
                exact q2 w2 σ _ (.refl _) (ok2.mut (y := .ot (tPut kvs l d)) e2 rfl rfl ha ⟨_, ep', upd_same, xs_rt hH (kv_put ru (r1.mono le2) sb' kv nd), tPut_nd nd, t.lo⟩ fun _ _ z => nomatch z)
              · exact q2.elim
          | _ => rw [e2] at q2; exact q2.elim
      | _ => exact q1.elim⟩
/-- d.get(k, x) -/
def eTGet2 (i : Nat) (fk fx : DE) : DE := fun s => match tAt i s with
  | none => .stuck
  | some _ => (fk s).bind fun k s1 => (fx s1).bind fun x s2 => match tAt i s2, tkOf k with
    | some kvs, some l => .ok ((tLook kvs l).getD x) s2
    | _, _ => .stuck
theorem pd_tget2 (hu : X.A.units + 1 < cLine) (hK : G.K = X.K) (hH : HsOk G X) {i : Nat} {o e f : Expr} {fk fx : DE} {apos cpos : Pos} (ho : PE X o (tVar i)) (hk : PD G W X e fk) (hx : PD G W X f fx) (m : M2 X o "get" apos e f cpos) : PD G W X (.Call (.Attribute o "get" apos) [e, f] [] cpos) (eTGet2 i fk fx) :=
  (pe_tget2 hu ho hk hx m).imp fun σ H Q ⟨κ, w, s, ok, q⟩ => by
    unfold eTGet2 at q
    cases e0 : tAt i s with
    | none => rw [e0] at q; exact q.elim
    | some kv0 =>
      rw [e0] at q
      obtain ⟨a, ha, tk⟩ := tAt_ok ok e0
      obtain ⟨xs, ep, t, _⟩ := tok_td hK hH ok.fok tk
      refine ⟨.ref a, ha, a, xs, ep, rfl, t, κ, w, s, ok, (PostG.bind q).imp fun v H1 ⟨d, s1, w1, le, ok1, r1, q1⟩ => ⟨κ, w1, s1, ok1, (PostG.bind q1).imp fun v2 H2 ⟨d2, s2, w2, le2, ok2, r2, q2⟩ => ?_⟩⟩
      cases e1 : tAt i s2 with
      | none => rw [e1] at q2; exact q2.elim
      | some kvs =>
        cases e2 : tkOf d with
        | none => rw [e1, e2] at q2; exact q2.elim
        | some l =>
          rw [e1, e2] at q2
          replace q2 : PostG G W (Rep G) κ w2 σ (.ok ((tLook kvs l).getD d2) s2) Q := q2
          obtain ⟨g1, g2⟩ := tget_of hK hH ok2 e1 ha (r1.mono le2) e2
          cases e3 : tLook kvs l with
          | none =>
            rw [e3] at q2
            exact ⟨none, g2 e3, q2 w2 v2 H2 (.refl _) ok2 r2⟩
          | some x =>
            rw [e3] at q2
            obtain ⟨y, t1, t2⟩ := g1 x e3
            exact ⟨some y, t1, q2 w2 y H2 (.refl _) ok2 t2⟩
/-! ### a dict of one's own is made -/
def PostOt (G : Gam) (W : WX) (κ : Bs) (w : Wd) (σ : L2.St) (r : Res DS (List (List DK × D))) (Q : VK) : Prop := match r with
  | .ok xs s' => ∀ w' a es ep H', w.le w' → Ok G (κ.plus a (dctO a es ep)) w' s' σ H' → (∀ p ∈ κ.γ, p.1 ≠ a) → RepT G w' es xs → (xs.map (·.1)).Nodup → (a == sysModules) = false → Q (.ref a) H'
  | .exc x s' => ∀ w' c dd H', w.le w' → Ok G κ w' s' σ H' → RepX G w' c dd x → W c dd σ H'
  | .stuck => False
abbrev DTd := DS → Res DS (List (List DK × D))
def tDot (G : Gam) (W : WX) (f : DTd) : TE := fun σ H Q => ∃ κ w s, Ok G κ w s σ H ∧ PostOt G W κ w σ (f s) Q
abbrev PDot (G : Gam) (W : WX) (X : Cx) (e : Expr) (f : DTd) : Prop := PE X e (tDot G W f)
def dTNew : DTd := fun s => .ok [] s
def dTOne (fk fv : DE) : DTd := fun s => (fk s).bind fun k s1 => (fv s1).bind fun v s2 => match tkOf k with
  | some l => .ok [(l, v)] s2
  | none => .stuck
theorem pdot_new {pos : Pos} : PDot G W X (.Dict [] [] pos) dTNew := pe_tnew.imp fun σ H Q ⟨κ, w, s, ok, q⟩ p hp lo =>
  q w p [] 0 _ (.refl _) (ok.fresh hp (dctO p [] 0)) (ok.apart hp) .nil List.nodup_nil lo
theorem pdot_one (hu : X.A.units + 1 < cLine) (hK : G.K = X.K) (hH : HsOk G X) {k v : Expr} {fk fv : DE} {pos : Pos} (hk : PD G W X k fk) (hv : PD G W X v fv) : PDot G W X (.Dict [some k] [v] pos) (dTOne fk fv) :=
  (pe_tdisp hu hk hv).imp fun σ H Q ⟨κ, w, s, ok, q⟩ p hp lo => by
    have ok1 := ok.fresh hp (dctO p [] 0)
    have hγ := ok.apart hp
    refine ⟨κ.plus p (dctO p [] 0), w, s, ok1, ?_⟩
    unfold dTOne at q
    cases e1 : fk s with
    | stuck => rw [e1] at q; exact q.elim
    | exc x s' => rw [e1] at q; exact fun w' c dd H' l o r => q w' c dd H' l o.unplus r
    | ok d s1 =>
      rw [e1] at q
      intro w1 v1 H1 l1 ok2 r1
      refine ⟨κ.plus p (dctO p [] 0), w1, s1, ok2, ?_⟩
      replace q : PostOt G W κ w σ ((fv s1).bind fun v s2 => match tkOf d with | some l => .ok [(l, v)] s2 | none => .stuck) Q := q
      cases e2 : fv s1 with
      | stuck => rw [e2] at q; exact q.elim
      | exc x s' => rw [e2] at q; exact fun w' c dd H' l o r => q w' c dd H' (l1.trans l) o.unplus r
      | ok d2 s2 =>
        rw [e2] at q
        intro w2 v2 H2 l2 ok3 r2
        replace q : PostOt G W κ w σ (match tkOf d with | some l => .ok [(l, d2)] s2 | none => .stuck) Q := q
        cases e3 : tkOf d with
        | none => rw [e3] at q; exact q.elim
        | some l =>
          rw [e3] at q
          obtain ⟨b, rfl, sb, sb'⟩ := (r1.mono l2).tkey hK ok3.fok e3
          refine ⟨_, b, rfl, (ok3.gam (p, dctO p [] 0) List.mem_cons_self).1, sb, fun ep u ru => ?_⟩
          have rt : RepT G w2 [entX X (l.map dkey, b, u)] [(l, d2)] := xs_rt hH (xs := [(l.map dkey, b, u)]) (.cons ⟨rfl, sb', v2, ru, r2⟩ .nil)
          exact q w2 p _ ep _ (l1.trans l2) (ok3.swap hγ) hγ rt (by simp) lo
/-- name = a new dict with tuple keys -/
def sSetOt (i : Nat) (f : DTd) : DStm := fun s => (f s).bind fun xs s1 => .ok .nx ⟨s1.sl.set i (.ot xs), s1.st⟩
theorem setOt_of {i : Nat} {f : DTd} {N : Ends} {σ : L2.St} {H : Hp} (h : tDS G W (sSetOt i f) N σ H) : tAsg (tDot G W f) (gName i) N σ H := by
  obtain ⟨κ, w, s, ok, q⟩ := h
  refine ⟨κ, w, s, ok, ?_⟩
  unfold sSetOt at q
  cases e : f s with
  | stuck => rw [e] at q; exact q.elim
  | exc x s' =>
    rw [e] at q
    exact fun w' c dd H' l o r => q w' σ c dd H' l o r
  | ok xs s' =>
    rw [e] at q
    intro w' a es ep H' l o g r nd lo
    exact q w' _ H' l (o.setOwn (y := .ot xs) g ⟨es, ep, (o.gam (a, dctO a es ep) List.mem_cons_self).1, r, nd, lo⟩ rfl (fun _ _ z => nomatch z) i)
theorem pds_setOt {i : Nat} {x : Str} {e : Expr} {f : DTd} {pos pos' : Pos} (hN : X.N.Nodup) (hi : X.N[i]? = some x) (hx : Loc X.env.scope x) (he : PDot G W X e f) (hs : swapsWith e (some (.Name x pos')) pos.line X.env = pure false := by rfl)
    (hf : X.fn x = true ∨ X.env.scope.names.lookup x = some .local := by first | exact .inl rfl | exact .inr rfl | assumption) : PDS G W X (.Assign [.Name x pos'] e pos) (sSetOt i f) :=
  (ps_set hN hi hx he hs hf).imp fun N σ H q => setOt_of q
/-! ### for k in d, by data -/
def itDct (f : DE) : DA := fun s => (f s).bind fun d s1 => match d with
  | .dct kvs => .ok (kvs.map fun q => tupD q.1) s1
  | _ => .stuck
theorem rt_get {w : Wd} : ∀ {es : List DictEntry} {kvs : List (List DK × D)} {i : Nat} {q : List DK × D}, RepT G w es kvs → kvs[i]? = some q → ∃ e b, es[i]? = some e ∧ e.key = .ref b ∧ SqT G.K w.F b (q.1.map fun x => kV (dkey x))
  | _, _, _, _, .nil, e => by simp at e
  | _, _, 0, _, .cons (b := b) h1 h2 h3 r, e => by
    simp at e; subst e
    exact ⟨_, b, rfl, rfl, h1⟩
  | _, _, i + 1, q, .cons h1 h2 h3 r, e => by
    obtain ⟨e', b, g1, g2, g3⟩ := rt_get (i := i) (q := q) r (by simpa using e)
    exact ⟨e', b, by simpa using g1, g2, g3⟩
theorem rt_len {w : Wd} : ∀ {es : List DictEntry} {kvs : List (List DK × D)}, RepT G w es kvs → es.length = kvs.length
  | _, _, .nil => rfl
  | _, _, .cons _ _ _ r => by rw [List.length_cons, List.length_cons, rt_len r]
theorem itOk_dct {w : Wd} {a : Addr} {es : List DictEntry} {ep : Nat} {kvs : List (List DK × D)} (e : w.F a = some (dctO a es ep)) (r : RepT G w es kvs) : ItOk G w (Itx a es ep) (kvs.map fun q => tupD q.1) := by
  intro w1 S H le fok i
  have q : H a = some (dctO a es ep) := fok.sub _ _ (le.f _ _ e)
  refine ⟨fun d hd => ?_, fun hn => ⟨q, ?_⟩⟩
  · rw [List.getElem?_map] at hd
    cases hk : kvs[i]? with
    | none => rw [hk] at hd; cases hd
    | some z =>
      rw [hk] at hd
      cases hd
      obtain ⟨en, b, g1, g2, g3⟩ := rt_get r hk
      refine ⟨⟨q, en, b, g1, g2⟩, fun x H' ⟨hH, en', b', g1', g2', hx⟩ => ⟨w1, ?_, ?_, ?_⟩⟩
      · rw [hH]; exact .refl _ _
      · rw [hH]; exact fok
      · rw [g1] at g1'
        cases g1'
        rw [g2] at g2'
        cases g2'
        subst hx
        exact .tup (SqT.le g3 le.f) (reps_keys z.1)
  · rw [List.getElem?_map] at hn
    cases hk : kvs[i]? with
    | some z => rw [hk] at hn; cases hn
    | none => rw [rt_len r]; exact List.getElem?_eq_none_iff.mp hk
theorem pdi_dct {tg e : Expr} {f : DE} (h : PD G W X e f) : PDI G W X tg e (itDct f) :=
  (pi_x h).imp fun σ H R ⟨κ, w, s, ok, q⟩ => ⟨κ, w, s, ok, (PostG.bindI q).imp fun v H1 ⟨d, s1, w1, le, ok1, r1, q1⟩ => by
    cases r1 with
    | @dct a es ep ds e r nd lo => exact ⟨a, es, ep, rfl, lo, ok1.fok.sub _ _ e, q1 w1 _ H1 (.refl _) ok1 (itOk_dct e r)⟩
    | _ => exact q1.elim⟩
end
/-! ### readings -/
theorem tat_o {i : Nat} {s : DS} {kvs : List (List DK × D)} (h : s.sl[i]? = some (.ot kvs)) : tAt i s = some kvs := by unfold tAt; rw [h]
theorem tat_v {i : Nat} {s : DS} {kvs : List (List DK × D)} (h : s.sl[i]? = some (.val (.dct kvs))) : tAt i s = some kvs := by unfold tAt; rw [h]
theorem tget_e {i : Nat} {fk : DE} {s s1 : DS} {kv0 kvs : List (List DK × D)} {k x : D} {l : List DK} (h0 : tAt i s = some kv0) (hk : fk s = .ok k s1) (h1 : tAt i s1 = some kvs) (hl : tkOf k = some l) (e : tLook kvs l = some x) : eTGet i fk s = .ok x s1 := by
  unfold eTGet
  rw [h0, hk]
  simp only [Res.bind_ok, h1, hl, e]
theorem tin_e {p : Bool} {i : Nat} {fk : DE} {s s1 : DS} {kvs : List (List DK × D)} {k : D} {l : List DK} (hk : fk s = .ok k s1) (h1 : tAt i s1 = some kvs) (hl : tkOf k = some l) : eTIn p fk i s = .ok (.bl ((tLook kvs l).isSome == p)) s1 := by
  unfold eTIn
  rw [hk]
  simp only [Res.bind_ok, h1, hl]
theorem tput_e {i : Nat} {fk fv : DE} {s s1 s2 : DS} {kv0 kvs : List (List DK × D)} {k v : D} {l : List DK} (hv : fv s = .ok v s1) (h0 : s1.sl[i]? = some (.ot kv0)) (hk : fk s1 = .ok k s2) (h1 : s2.sl[i]? = some (.ot kvs)) (hl : tkOf k = some l) (hn : kvs.length < 1000000) : sTPutO i fk fv s = .ok .nx ⟨s2.sl.set i (.ot (tPut kvs l v)), s2.st⟩ := by
  unfold sTPutO
  rw [hv]
  simp only [Res.bind_ok, h0, hk, h1, hl]
  exact if_pos hn
theorem tget2_e {i : Nat} {fk fx : DE} {s s1 s2 : DS} {kv0 kvs : List (List DK × D)} {k x : D} {l : List DK} (h0 : tAt i s = some kv0) (hk : fk s = .ok k s1) (hx : fx s1 = .ok x s2) (h1 : tAt i s2 = some kvs) (hl : tkOf k = some l) : eTGet2 i fk fx s = .ok ((tLook kvs l).getD x) s2 := by
  unfold eTGet2
  rw [h0, hk]
  simp only [Res.bind_ok, hx, h1, hl]
theorem setOt_new {i : Nat} {s : DS} : sSetOt i dTNew s = .ok .nx ⟨s.sl.set i (.ot []), s.st⟩ := rfl
theorem setOt_one {i : Nat} {fk fv : DE} {s s1 s2 : DS} {k v : D} {l : List DK} (hk : fk s = .ok k s1) (hv : fv s1 = .ok v s2) (hl : tkOf k = some l) : sSetOt i (dTOne fk fv) s = .ok .nx ⟨s2.sl.set i (.ot [(l, v)]), s2.st⟩ := by
  unfold sSetOt dTOne
  rw [hk]
  simp only [Res.bind_ok, hv, hl]
theorem itDct_e {f : DE} {s s1 : DS} {kvs : List (List DK × D)} (h : f s = .ok (.dct kvs) s1) : itDct f s = .ok (kvs.map fun q => tupD q.1) s1 := by
  unfold itDct
  rw [h]; rfl
theorem var_t {i : Nat} {sl : List Sl} {S : List Cell} {kvs : List (List DK × D)} (h : sl[i]? = some (.ot kvs)) : eVar i ⟨sl, S⟩ = .ok (.dct kvs) ⟨sl.set i (.val (.dct kvs)), S⟩ := by
  rw [r_eVar, h]
end DL
set_option maxRecDepth 100000
set_option maxHeartbeats 4000000
set_option autoImplicit false
namespace DL
open PySem PySem.Spec PyProof.Rows L2
/-! ### sorted(xs) of numbers -/
def insI (x : Int) : List Int → List Int
  | [] => [x]
  | y :: r => if x ≤ y then x :: y :: r else y :: insI x r
def isrt : List Int → List Int
  | [] => []
  | x :: r => insI x (isrt r)
theorem insI_perm (x : Int) : ∀ l : List Int, (insI x l).Perm (x :: l)
  | [] => .refl _
  | y :: r => by
    unfold insI
    split
    · exact .refl _
    · exact ((insI_perm x r).cons y).trans (.swap x y r)
theorem isrt_perm : ∀ l : List Int, (isrt l).Perm l
  | [] => .refl _
  | x :: r => (insI_perm x (isrt r)).trans ((isrt_perm r).cons x)
theorem insI_srt (x : Int) : ∀ {l : List Int}, l.Pairwise (· ≤ ·) → (insI x l).Pairwise (· ≤ ·)
  | [], _ => by simp [insI]
  | y :: r, h => by
    unfold insI
    split
    · rename_i c
      rw [List.pairwise_cons] at h ⊢
      refine ⟨fun z hz => ?_, List.pairwise_cons.mpr h⟩
      rcases List.mem_cons.mp hz with rfl | hz
      · exact c
      · have := h.1 z hz; omega
    · rename_i c
      rw [List.pairwise_cons] at h ⊢
      refine ⟨fun z hz => ?_, insI_srt x h.2⟩
      have := (insI_perm x r).mem_iff.mp hz
      rcases List.mem_cons.mp this with rfl | hz
      · omega
      · exact h.1 z hz
theorem isrt_srt : ∀ l : List Int, (isrt l).Pairwise (· ≤ ·)
  | [] => .nil
  | x :: r => insI_srt x (isrt_srt r)
theorem isrt_eq {l m : List Int} (h : m.Perm l) (k : m.Pairwise (· ≤ ·)) : m = isrt l :=
  List.Perm.eq_of_pairwise (fun a b _ _ h1 h2 => Int.le_antisymm h1 h2) k (isrt_srt l) (h.trans (isrt_perm l).symm)
def bSrt : List D → Option D
  | [.lst xs] => match intsOf xs with
    | some ns => if ns.length < 64 then some (.lst ((isrt ns).map D.int)) else none
    | none => none
  | _ => none
section
variable {G : Gam} {W : WX} {X : Cx}
theorem repsInts {w : Wd} : ∀ ns : List Int, Reps G w (ns.map V.int) (ns.map D.int)
  | [] => .nil
  | n :: r => .cons (.int n) (repsInts r)
theorem cd_sorted : CallD G X (.builtin "sorted") bSrt := ⟨_, cr_sorted, fun κ w s σ H vs ds d Q ok rs e q => by
  match ds, e with
  | [.lst xs], e =>
    have e : (match intsOf xs with | some ns => if ns.length < 64 then some (D.lst ((isrt ns).map D.int)) else none | none => none) = some d := e
    cases e1 : intsOf xs with
    | none => rw [e1] at e; cases e
    | some l =>
      rw [e1] at e
      simp only at e
      split at e
      · rename_i c
        cases e
        obtain ⟨v, rfl, r⟩ := rs.one
        cases r with
        | @lst a vs ds e r =>
          rw [intsOf_eq e1] at r
          rw [r.ints] at e
          refine ⟨a, l, rfl, .inl (.inl (ok.fok.sub _ _ e)), c, fun ns' p h1 h2 hp => ?_⟩
          rw [isrt_eq h1 h2]
          obtain ⟨le2, ok2⟩ := ok.alloc hp (.lst ((isrt l).map V.int))
          exact q _ _ _ le2 ok2 (.lst upd_same (repsInts _))
      · cases e⟩
end
@[simp] theorem r_bSrt (xs : List D) : bSrt [.lst xs] = match intsOf xs with
    | some ns => if ns.length < 64 then some (.lst ((isrt ns).map D.int)) else none
    | none => none := rfl
end DL
set_option maxRecDepth 100000
set_option maxHeartbeats 4000000
set_option autoImplicit false
namespace DL
/-! reading from the left: what stands behind is read once its first part is known -/
def seqK (r : Res DS Out) (g : DStm) : Res DS Out := r.bind fun o s1 => match o with | .nx => g s1 | o => .ok o s1
@[simp] theorem seqK_nx (s : DS) (g : DStm) : seqK (.ok .nx s) g = g s := rfl
@[simp] theorem seqK_rt (d : D) (s : DS) (g : DStm) : seqK (.ok (.rt d) s) g = .ok (.rt d) s := rfl
@[simp] theorem seqK_bk (s : DS) (g : DStm) : seqK (.ok .bk s) g = .ok .bk s := rfl
@[simp] theorem seqK_ct (s : DS) (g : DStm) : seqK (.ok .ct s) g = .ok .ct s := rfl
@[simp] theorem seqK_exc (x : Xc) (s : DS) (g : DStm) : seqK (.exc x s) g = .exc x s := rfl
theorem q_sSeq (f g : DStm) (s : DS) : sSeq f g s = seqK (f s) g := rfl
def ifK (r : Res DS Bool) (f g : DStm) : Res DS Out := r.bind fun b s1 => if b = true then f s1 else g s1
@[simp] theorem ifK_t (s : DS) (f g : DStm) : ifK (.ok true s) f g = f s := rfl
@[simp] theorem ifK_f (s : DS) (f g : DStm) : ifK (.ok false s) f g = g s := rfl
theorem ifK_b (b : Bool) (s : DS) (f g : DStm) : ifK (.ok b s) f g = if b = true then f s else g s := by cases b <;> rfl
theorem q_sIf (c : DT) (f g : DStm) (s : DS) : sIf c f g s = ifK (c s) f g := rfl
/-! ### comprehensions over the images of a list of anything -/
theorem lcA_of {α : Type} {vs : List Nat} {g : DG} {t : DT} {e : DE} {s0 : DS} (G : α → D) (τ : α → Bool) (f : α → D) : ∀ (l : List α) (acc : List D), (∀ a ∈ l, ∃ s1 s2, g (G a) (wipeS vs s0) = .ok () s1 ∧ t s1 = .ok (τ a) s2 ∧ (τ a = true → ∃ s3, e s2 = .ok (f a) s3 ∧ wipeS vs s3 = wipeS vs s0) ∧ (τ a = false → wipeS vs s2 = wipeS vs s0)) →
    l.length + acc.length ≤ 1000000 → ∀ s, wipeS vs s = wipeS vs s0 → ∃ s', lcL vs g t e (l.map G) acc s = .ok (acc ++ (l.filter τ).map f) s' ∧ wipeS vs s' = wipeS vs s0
  | [], acc, _, _, s, hs => ⟨s, by simp [lcL], hs⟩
  | a :: r, acc, h, hl, s, hs => by
    obtain ⟨s1, s2, e1, e2, e3, e4⟩ := h a (List.mem_cons_self ..)
    have hr := fun d hd => h d (List.mem_cons_of_mem _ hd)
    simp only [List.length_cons] at hl
    rw [List.map_cons, r_lc_cons, hs, e1]
    cases hτ : τ a with
    | true =>
      obtain ⟨s3, e5, e6⟩ := e3 hτ
      obtain ⟨s', e7, e8⟩ := lcA_of G τ f r (acc ++ [f a]) hr (by simp; omega) s3 e6
      refine ⟨s', ?_, e8⟩
      have : acc.length < 1000000 := by omega
      simp [e2, hτ, e5, this, e7]
    | false =>
      obtain ⟨s', e7, e8⟩ := lcA_of G τ f r acc hr (by omega) s2 (e4 hτ)
      refine ⟨s', ?_, e8⟩
      simp [e2, hτ, e7]
theorem aLc_ofT {α : Type} {vs : List Nat} {it : DA} {g : DG} {t : DT} {e : DE} {s s0 : DS} {l : List α} (G : α → D) (τ : α → Bool) (f : α → D) (hi : it s = .ok (l.map G) s0) (h : ∀ a ∈ l, ∃ s1 s2, g (G a) (wipeS vs s0) = .ok () s1 ∧ t s1 = .ok (τ a) s2 ∧ (τ a = true → ∃ s3, e s2 = .ok (f a) s3 ∧ wipeS vs s3 = wipeS vs s0) ∧ (τ a = false → wipeS vs s2 = wipeS vs s0))
    (hl : l.length ≤ 1000000) : aLc vs it g t e s = .ok ((l.filter τ).map f) ⟨unwipe vs s0.sl (wipeD vs s0.sl), s0.st⟩ := by
  obtain ⟨s', e1, e2⟩ := lcA_of G τ f l [] h (by simpa using hl) s0 rfl
  have e3 : wipeD vs s'.sl = wipeD vs s0.sl := congrArg DS.sl e2
  have e4 : s'.st = s0.st := by have := congrArg DS.st e2; simpa using this
  rw [r_aLc, hi]
  simp [e1, e3, e4]
theorem aLc_of {α : Type} {vs : List Nat} {it : DA} {g : DG} {e : DE} {s s0 : DS} {l : List α} (G : α → D) (f : α → D) (hi : it s = .ok (l.map G) s0) (h : ∀ a ∈ l, ∃ s1 s3, g (G a) (wipeS vs s0) = .ok () s1 ∧ e s1 = .ok (f a) s3 ∧ wipeS vs s3 = wipeS vs s0)
    (hl : l.length ≤ 1000000) : aLc vs it g bYes e s = .ok (l.map f) ⟨unwipe vs s0.sl (wipeD vs s0.sl), s0.st⟩ := by
  have := aLc_ofT (vs := vs) (it := it) (g := g) (t := bYes) (e := e) (s := s) G (fun _ => true) f hi (fun d hd => by
    obtain ⟨s1, s3, e1, e2, e3⟩ := h d hd
    exact ⟨s1, s1, e1, rfl, fun _ => ⟨s3, e2, e3⟩, fun z => nomatch z⟩) hl
  rwa [List.filter_eq_self.mpr (fun _ _ => rfl)] at this
/-- one variable, an element that leaves the state -/
theorem aLc_T1 {α : Type} {v : Nat} {it : DA} {t : DT} {e : DE} {s s0 : DS} {l : List α} (G : α → D) (τ : α → Bool) (f : α → D) (hi : it s = .ok (l.map G) s0) (hv : s0.sl[v]? = some .un) (h : ∀ a ∈ l, t ⟨s0.sl.set v (.val (G a)), s0.st⟩ = .ok (τ a) ⟨s0.sl.set v (.val (G a)), s0.st⟩ ∧ (τ a = true → e ⟨s0.sl.set v (.val (G a)), s0.st⟩ = .ok (f a) ⟨s0.sl.set v (.val (G a)), s0.st⟩))
    (hl : l.length ≤ 1000000) : aLc [v] it (gN v) t e s = .ok ((l.filter τ).map f) s0 := by
  have hs : s0.sl.set v .un = s0.sl := by
    obtain ⟨h1, h2⟩ := List.getElem?_eq_some_iff.mp hv
    rw [← h2]; exact List.set_getElem_self h1
  have := aLc_ofT (vs := [v]) (it := it) (g := gN v) (t := t) (e := e) (s := s) (s0 := s0) G τ f hi (fun a ha => by
    obtain ⟨h1, h2⟩ := h a ha
    refine ⟨_, _, rfl, ?_, fun ht => ⟨_, h2 ht, ?_⟩, fun _ => ?_⟩
    · simp only [r_wipeS, r_wipe_cons, r_wipe_nil, List.set_set]; exact h1
    · simp only [r_wipeS, r_wipe_cons, r_wipe_nil, List.set_set]
    · simp only [r_wipeS, r_wipe_cons, r_wipe_nil, List.set_set]) hl
  rw [this]
  simp only [r_wipe_cons, r_wipe_nil, r_unw_cons, r_unw_nil, hv, List.set_set, hs]
theorem aLc_M1 {α : Type} {v : Nat} {it : DA} {e : DE} {s s0 : DS} {l : List α} (G : α → D) (f : α → D) (hi : it s = .ok (l.map G) s0) (hv : s0.sl[v]? = some .un) (h : ∀ a ∈ l, e ⟨s0.sl.set v (.val (G a)), s0.st⟩ = .ok (f a) ⟨s0.sl.set v (.val (G a)), s0.st⟩)
    (hl : l.length ≤ 1000000) : aLc [v] it (gN v) bYes e s = .ok (l.map f) s0 := by
  have := aLc_T1 (v := v) (it := it) (t := bYes) (e := e) (s := s) (s0 := s0) G (fun _ => true) f hi hv (fun a ha => ⟨rfl, fun _ => h a ha⟩) hl
  rwa [List.filter_eq_self.mpr (fun _ _ => rfl)] at this
theorem blsOf_map {α : Type} (f : α → Bool) (l : List α) : blsOf (l.map fun a => D.bl (f a)) = some (l.map f) := by
  induction l with
  | nil => rfl
  | cons a l ih => simp only [List.map_cons, blsOf, ih, Option.map_some]
theorem bAll_map {α : Type} (f : α → Bool) (l : List α) : bAll [.lst (l.map fun a => D.bl (f a))] = some (.bl (l.all f)) := by
  simp only [bAll, blsOf_map, Option.map_some, List.all_map]; rfl
theorem bAny_map {α : Type} (f : α → Bool) (l : List α) : bAny [.lst (l.map fun a => D.bl (f a))] = some (.bl (l.any f)) := by
  simp only [bAny, blsOf_map, Option.map_some, List.any_map]; rfl
theorem rngL0 (n : Nat) : rngL 0 n = (List.range n).map fun (i : Nat) => D.int (i : Int) := by
  unfold rngL
  refine List.map_congr_left fun i _ => ?_
  rw [Int.zero_add]
theorem plFs_map {α : Type} (f : α → D) (h : ∀ a, plF (f a)) (l : List α) : plFs (l.map f) := by
  induction l with
  | nil => simp
  | cons a l ih => simp [ih, h a]
theorem eqPls_map {α : Type} [DecidableEq α] (f : α → D) (h : ∀ a b, eqPl (f a) (f b) = decide (a = b)) : ∀ l m : List α, eqPls (l.map f) (m.map f) = decide (l = m)
  | [], [] => by simp
  | [], b :: m => by simp
  | a :: l, [] => by simp
  | a :: l, b :: m => by
    rw [List.map_cons, List.map_cons, eqPls_cons, h, eqPls_map f h l m, ← Bool.decide_and]
    simp
theorem at_map {α : Type} (f : α → D) {l : List α} {k : Nat} {a : α} (h : l[k]? = some a) : L2.atI (l.map f) (k : Int) = some (f a) := L2.atI_nat (by rw [List.getElem?_map, h]; rfl)
def kD (k : Nat) : D := .int (k : Int)
theorem itR1_n {f : DA} {s s1 : DS} {n : Nat} (h : f s = .ok [.int (n : Int)] s1) (hn : n ≤ 1000000) : itR1 f s = .ok ((List.range n).map kD) s1 := by
  obtain ⟨z, hz⟩ : ∃ z : Int, (n : Int) = z := ⟨_, rfl⟩
  have h0 : -4611686018427387904 ≤ z ∧ z < 4611686018427387904 := by omega
  have h1 : z.toNat = n := by omega
  rw [hz] at h
  have e : itR1 f s = .ok (rngL 0 z.toNat) s1 := by
    rw [r_itR1, h]
    simp [h0]
  rw [e, h1, rngL0]; rfl
/-- one statement ahead of the rest -/
theorem sq_nx {f R : DStm} {s s1 : DS} (h : f s = .ok .nx s1) : sSeq f R s = R s1 := by
  rw [r_sSeq, h]; rfl
/-- a call whose arguments leave the state -/
theorem set_c1 {i : Nat} {g : DFn} {a : DE} {s : DS} {x d : D} {S1 : List Cell} (ha : a s = .ok x s) (e : g [x] s.st = .ok d S1) : sSet i (eCall 1 g (aCons a aNil)) s = .ok .nx ⟨s.sl.set i (.val d), S1⟩ := by
  simp [ha, e]
theorem set_c2 {i : Nat} {g : DFn} {a b : DE} {s : DS} {x y d : D} {S1 : List Cell} (ha : a s = .ok x s) (hb : b s = .ok y s) (e : g [x, y] s.st = .ok d S1) : sSet i (eCall 2 g (aCons a (aCons b aNil))) s = .ok .nx ⟨s.sl.set i (.val d), S1⟩ := by
  simp [ha, hb, e]
theorem call_c1 {g : DFn} {a : DE} {s : DS} {x d : D} {S1 : List Cell} (ha : a s = .ok x s) (e : g [x] s.st = .ok d S1) : eCall 1 g (aCons a aNil) s = .ok d ⟨s.sl, S1⟩ := by
  simp [ha, e]
theorem call_c2 {g : DFn} {a b : DE} {s : DS} {x y d : D} {S1 : List Cell} (ha : a s = .ok x s) (hb : b s = .ok y s) (e : g [x, y] s.st = .ok d S1) : eCall 2 g (aCons a (aCons b aNil)) s = .ok d ⟨s.sl, S1⟩ := by
  simp [ha, hb, e]
theorem tup_2 {a b : DE} {s s1 s2 : DS} {x y : D} (ha : a s = .ok x s1) (hb : b s1 = .ok y s2) : eTup (aCons a (aCons b aNil)) s = .ok (.tup [x, y]) s2 := by
  simp [ha, hb]
theorem asg_t {f : DE} {g : DG} {s s1 s2 : DS} {d : D} (h : f s = .ok d s1) (k : g d s1 = .ok () s2) : sAsgT f g s = .ok .nx s2 := by
  simp [h, k]
theorem set_e {i : Nat} {f : DE} {s s1 : DS} {d : D} (h : f s = .ok d s1) : sSet i f s = .ok .nx ⟨s1.sl.set i (.val d), s1.st⟩ := by
  simp [h]
theorem set_o {i : Nat} {f : DA} {s s1 : DS} {ds : List D} (h : f s = .ok ds s1) : sSetO i f s = .ok .nx ⟨s1.sl.set i (.ol ds), s1.st⟩ := by
  simp [h]
theorem if_t {c : DT} {f g : DStm} {s s1 : DS} (h : c s = .ok true s1) : sIf c f g s = f s1 := by
  rw [r_sIf, h]; rfl
theorem if_f {c : DT} {f g : DStm} {s s1 : DS} (h : c s = .ok false s1) : sIf c f g s = g s1 := by
  rw [r_sIf, h]; rfl
theorem ret_e {f : DE} {s s1 : DS} {d : D} (h : f s = .ok d s1) : sRet f s = .ok (.rt d) s1 := by
  simp [h]
theorem sq_rt {f R : DStm} {s s1 : DS} {d : D} (h : f s = .ok (.rt d) s1) : sSeq f R s = .ok (.rt d) s1 := by
  rw [r_sSeq, h]; rfl
theorem op_2 {o : D → D → Option D} {a b : DE} {s s1 s2 : DS} {x y d : D} (ha : a s = .ok x s1) (hb : b s1 = .ok y s2) (h : o x y = some d) : eOp2 o a b s = .ok d s2 := by
  simp [ha, hb, h]
theorem eB_of {f : DE} {s s1 : DS} {b : Bool} (h : f s = .ok (.bl b) s1) : eB f s = .ok b s1 := by
  simp [h]
theorem and_t {f g : DT} {s s1 : DS} (h : f s = .ok true s1) : bAnd f g s = g s1 := by
  rw [r_bAnd, h]; rfl
theorem and_f {f g : DT} {s s1 : DS} (h : f s = .ok false s1) : bAnd f g s = .ok false s1 := by
  rw [r_bAnd, h]; rfl
theorem or_t {f g : DT} {s s1 : DS} (h : f s = .ok true s1) : bOr f g s = .ok true s1 := by
  rw [r_bOr, h]; rfl
theorem or_f {f g : DT} {s s1 : DS} (h : f s = .ok false s1) : bOr f g s = g s1 := by
  rw [r_bOr, h]; rfl
theorem fn_rt {n m : Nat} {b : DStm} {ds : List D} {S S' : List Cell} {d : D} {sl : List Sl} (hn : ds.length = n) (h : b ⟨ds.map .val ++ List.replicate m .un, S⟩ = .ok (.rt d) ⟨sl, S'⟩) : fnD n b m ds S = .ok d S' := by
  simp [fnD, hn, h]
theorem for_seq {f : DE} {g : DG} {b : DStm} {s s1 : DS} {d : D} {xs : List D} {r : Res DS Out} (hf : f s = .ok d s1) (hi : itemsD d = some xs) (h : forL g b xs s1 = r) : sFor (itSeq f) g b s = r := by
  rw [r_sFor, r_itSeq, hf]
  simp only [Res.bind_ok, hi, h]
theorem for_it {it : DA} {g : DG} {b : DStm} {s s1 : DS} {xs : List D} {r : Res DS Out} (hf : it s = .ok xs s1) (h : forL g b xs s1 = r) : sFor it g b s = r := by
  rw [r_sFor, hf]
  simp only [Res.bind_ok, h]
theorem frz_e {f : DA} {s s1 : DS} {xs : List D} (h : f s = .ok xs s1) : eFrz f s = .ok (.lst xs) s1 := by
  rw [r_eFrz, h]; rfl
theorem add_ll {xs ys : List D} (h : xs.length + ys.length ≤ 1000000) : dAdd (.lst xs) (.lst ys) = some (.lst (xs ++ ys)) := by
  rw [r_dAdd_ll, r_lAdd_ll, if_pos h]
theorem app_e {i : Nat} {f : DE} {s s1 : DS} {xs0 xs : List D} {d : D} (h0 : s.sl[i]? = some (.ol xs0)) (h : f s = .ok d s1) (h1 : s1.sl[i]? = some (.ol xs)) (hl : xs.length < 1000000) : sApp i (aCons f aNil) s = .ok .nx ⟨s1.sl.set i (.ol (xs ++ [d])), s1.st⟩ := by
  rw [r_sApp, h0]
  simp only [r_aCons, h, r_aNil, Res.bind_ok, h1, if_pos hl]
theorem for_1 {i : Nat} {b : DStm} {d : D} {r : List D} {s s1 : DS} (h : b ⟨s.sl.set i (.val d), s.st⟩ = .ok .nx s1) : forL (gN i) b (d :: r) s = forL (gN i) b r s1 := by
  rw [r_for_cons]
  simp only [r_gN, r_noX_ok, Res.bind_ok, h, r_lo_nx]
theorem for_rt {i : Nat} {b : DStm} {d v : D} {r : List D} {s s1 : DS} (h : b ⟨s.sl.set i (.val d), s.st⟩ = .ok (.rt v) s1) : forL (gN i) b (d :: r) s = .ok (.rt v) s1 := by
  rw [r_for_cons]
  simp only [r_gN, r_noX_ok, Res.bind_ok, h, r_lo_rt]
end DL
set_option maxRecDepth 100000
set_option maxHeartbeats 4000000
set_option autoImplicit false
namespace DL
open PySem PySem.Spec PyProof.Rows L2
/-! ### x in y, y a list of one's own -/
def eInO (neg : Bool) (fa : DE) (i : Nat) : DE := fun s => (fa s).bind fun d s1 => match s1.sl[i]? with
  | some (.ol xs) => match inP neg d (.lst xs) with
    | some z => .ok z s1
    | none => .stuck
  | _ => .stuck
/-- list(range(n)) -/
def aLrg (f : DE) : DA := fun s => (f s).bind fun d s1 => match d with
  | .int n => if -(2 ^ 62) ≤ n ∧ n ≤ 1000000 then .ok (rngL 0 n.toNat) s1 else .stuck
  | _ => .stuck
section
variable {G : Gam} {W : WX} {X : Cx}
theorem inO_of (hK : G.K = X.K) {neg : Bool} {fa : DE} {i : Nat} {κ : Bs} {w : Wd} {s : DS} {σ : L2.St} {H : Hp} {Q : VK} {r : R2}
    (hr : ∀ x y H Q d ds, Dp X.K H x d → Dp X.K H y (.list ds) → SeqAt.shaped d = true → SeqAt.shaped (.list ds) = true → Q (.bl (if neg then !(ds.any fun z => PyData.eqv z d) else ds.any fun z => PyData.eqv z d)) H → r x y H Q)
    (ok : Ok G κ w s σ H) (q : PostG G W (Rep G) κ w σ (eInO neg fa i s) Q) : tOp r (tD G W fa) (tVar i) σ H Q :=
  ⟨κ, w, s, ok, (PostG.bind q).imp fun v H1 ⟨d, s1, w1, le1, ok1, r1, q1⟩ => by
    cases e : s1.sl[i]? with
    | none => rw [e] at q1; exact q1.elim
    | some y =>
      rw [e] at q1
      cases y with
      | ol xs =>
        replace q1 : PostG G W (Rep G) κ w1 σ (match inP neg d (.lst xs) with | some z => .ok z s1 | none => .stuck) Q := q1
        cases e2 : inP neg d (.lst xs) with
        | none => rw [e2] at q1; exact q1.elim
        | some z =>
          rw [e2] at q1
          obtain ⟨p, qs, h1, h2, s1', s2', rfl⟩ := inP_py e2
          obtain ⟨a, g1, ⟨vs, g2, g3⟩, _⟩ := ok1.own i _ e rfl
          obtain ⟨le3, ok3⟩ := ok1.freeze (d := .lst xs) e rfl g1 g2 fun w' l f => .lst f (g3.mono l)
          exact ⟨.ref a, g1, hr _ _ _ _ p qs (r1.py hK ok1 h1) (Rep.py hK ok3 (.lst upd_same (g3.mono le3)) h2) s1' s2' (q1 w1 _ H1 (.refl _) ok1 (.bl _))⟩
      | _ => exact q1.elim⟩
theorem pd_inO (hK : G.K = X.K) (hu : X.A.units + 65 < cLine) {a : Expr} {fa : DE} {i : Nat} {x : Str} {p pos : Pos} (ha : PD G W X a fa) (ho : PE X (.Name x p) (tVar i)) (hm : behindInMarks .In (.Name x p) = false := by rfl) : PD G W X (.Compare a [.In] [.Name x p] pos) (eInO false fa i) :=
  (pe_cmpR (op_inD hu) ha ho hm).imp fun σ H Q ⟨κ, w, s, ok, q⟩ => inO_of (neg := false) hK (fun x y H Q d ds h1 h2 h3 h4 h5 => ⟨d, ds, h1, h2, h3, h4, h5⟩) ok q
theorem pd_notInO (hK : G.K = X.K) (hu : X.A.units + 65 < cLine) {a : Expr} {fa : DE} {i : Nat} {x : Str} {p pos : Pos} (ha : PD G W X a fa) (ho : PE X (.Name x p) (tVar i)) (hm : behindInMarks .NotIn (.Name x p) = false := by rfl) : PD G W X (.Compare a [.NotIn] [.Name x p] pos) (eInO true fa i) :=
  (pe_cmpR (op_notInD hu) ha ho hm).imp fun σ H Q ⟨κ, w, s, ok, q⟩ => inO_of (neg := true) hK (fun x y H Q d ds h1 h2 h3 h4 h5 => ⟨d, ds, h1, h2, h3, h4, h5⟩) ok q
theorem ptd_inO (hK : G.K = X.K) (hu : X.A.units + 65 < cLine) {a : Expr} {fa : DE} {i : Nat} {x : Str} {p pos : Pos} (ha : PD G W X a fa) (ho : PE X (.Name x p) (tVar i)) (hm : behindInMarks .In (.Name x p) = false := by rfl) : PDT G W X (.Compare a [.In] [.Name x p] pos) (eB (eInO false fa i)) :=
  (pt_cmpR (op_inD hu) ha ho hm).imp fun σ H Q q => by
    obtain ⟨κ, w, s, ok, q⟩ := tB_of q
    exact inO_of (neg := false) hK (fun x y H Q d ds h1 h2 h3 h4 h5 => ⟨d, ds, h1, h2, h3, h4, h5⟩) ok q
theorem ptd_notInO (hK : G.K = X.K) (hu : X.A.units + 65 < cLine) {a : Expr} {fa : DE} {i : Nat} {x : Str} {p pos : Pos} (ha : PD G W X a fa) (ho : PE X (.Name x p) (tVar i)) (hm : behindInMarks .NotIn (.Name x p) = false := by rfl) : PDT G W X (.Compare a [.NotIn] [.Name x p] pos) (eB (eInO true fa i)) :=
  (pt_cmpR (op_notInD hu) ha ho hm).imp fun σ H Q q => by
    obtain ⟨κ, w, s, ok, q⟩ := tB_of q
    exact inO_of (neg := true) hK (fun x y H Q d ds h1 h2 h3 h4 h5 => ⟨d, ds, h1, h2, h3, h4, h5⟩) ok q
/-- x == [] of a list of one's own -/
def eEqE (i : Nat) : DT := fun s => match s.sl[i]? with
  | some (.ol xs) => match dEq (.lst xs) (.lst []) with
    | some (.bl b) => .ok b s
    | _ => .stuck
  | _ => .stuck
theorem ptd_eqE (hK : G.K = X.K) (hu : X.A.units + 64 < cLine) {i : Nat} {x : Str} {p pos pos2 : Pos} (ho : PE X (.Name x p) (tVar i)) : PDT G W X (.Compare (.Name x p) [.Eq] [.List [] pos2] pos) (eEqE i) :=
  (pt_cmpR (op_eqD hu) ho (pe_lst pa_nil) (nomark _)).imp fun σ H Q ⟨κ, w, s, ok, q⟩ => by
    unfold eEqE at q
    cases e : s.sl[i]? with
    | none => rw [e] at q; exact q.elim
    | some y =>
      rw [e] at q
      cases y with
      | ol xs =>
        replace q : PostG G W (fun _ (v : Bool) d => v = d) κ w σ (match dEq (.lst xs) (.lst []) with | some (.bl b) => .ok b s | _ => .stuck) Q := q
        obtain ⟨a, g1, ⟨vs, g2, g3⟩, _⟩ := ok.own i _ e rfl
        refine ⟨.ref a, g1, by decide, fun p hp => ?_⟩
        obtain ⟨le2, ok2⟩ := ok.alloc hp (.lst [])
        obtain ⟨a', h1', ⟨vs', h2', h3'⟩, _⟩ := ok2.own i _ e rfl
        rw [g1] at h1'
        cases h1'
        obtain ⟨le3, ok3⟩ := ok2.freeze (d := .lst xs) e rfl g1 h2' fun w' l f => .lst f (h3'.mono l)
        unfold dEq at q
        cases e1 : toPy (.lst xs) with
        | none => simp [e1] at q; exact q.elim
        | some P =>
          rw [e1] at q
          have e2 : toPy (.lst []) = some (.list []) := rfl
          rw [e2] at q
          replace q : PostG G W (fun _ (v : Bool) d => v = d) κ w σ (match (if (SeqAt.shaped P && SeqAt.shaped (.list [])) = true then some (D.bl (PyData.eqv P (.list []))) else none) with | some (.bl b) => .ok b s | _ => .stuck) Q := q
          split at q
          · rename_i b hb
            split at hb
            · rename_i c
              cases hb
              rw [Bool.and_eq_true] at c
              exact ⟨P, .list [], Rep.py hK ok3 (.lst upd_same (h3'.mono le3)) e1, Rep.py hK ok2 (.lst upd_same .nil) e2, c.1, c.2, _, rfl, q _ _ _ le2 ok2 rfl⟩
            · cases hb
          · exact q.elim
      | _ => exact q.elim
theorem pdo_lrg {a : Expr} {fa : DE} {p p2 pos pos2 : Pos} (hc : X.calm = true) (hg : Gl X "list") (hm : X.mg "list" = none) (rg : Gl X "range") (rm : X.mg "range" = none) (ha : PD G W X a fa)
    (na : starEach [a] X.env = (false, eval a X.env) :: starEach [] X.env := by rfl) (na2 : starEach [.Call (.Name "range" p2) [a] [] pos2] X.env = (false, eval (.Call (.Name "range" p2) [a] [] pos2) X.env) :: starEach [] X.env := by rfl) :
    PDo G W X (.Call (.Name "list" p) [.Call (.Name "range" p2) [a] [] pos2] [] pos) (aLrg fa) :=
  (pe_listRg hc hg hm (prg_1 rg rm ha na) na2).imp fun σ H Q ⟨κ, w, s, ok, q⟩ => ⟨κ, w, s, ok, (PostG.bindO q).imp fun v H1 ⟨d, s1, w1, le1, ok1, r1, q1⟩ => by
    cases r1 with
    | int n =>
      replace q1 : PostO G W κ w1 σ (if -(2 ^ 62) ≤ n ∧ n ≤ 1000000 then .ok (rngL 0 n.toNat) s1 else .stuck) Q := q1
      split at q1
      · rename_i c
        refine ⟨n, rfl, ⟨by omega, by omega, by omega, by omega, by omega⟩, fun p hp => ?_⟩
        refine q1 w1 p (rgV 0 n) _ (.refl _) (ok1.fresh hp _) (ok1.apart hp) ?_
        unfold rgV rngL
        rw [Int.sub_zero]
        generalize List.range n.toNat = l
        induction l with
        | nil => exact .nil
        | cons i l ih => exact .cons (.int _) ih
      · exact q1.elim
    | _ => exact q1.elim⟩
end
/-! readings -/
@[simp] theorem r_aLrg (f : DE) (s : DS) : aLrg f s = (f s).bind fun d s1 => match d with
  | .int n => if -(2 ^ 62) ≤ n ∧ n ≤ 1000000 then .ok (rngL 0 n.toNat) s1 else .stuck
  | _ => .stuck := rfl
theorem eqE_e {i : Nat} {s : DS} {xs : List D} {b : Bool} (hi : s.sl[i]? = some (.ol xs)) (h : dEq (.lst xs) (.lst []) = some (.bl b)) : eEqE i s = .ok b s := by
  unfold eEqE
  rw [hi]
  simp only [h]
theorem inO_e {neg : Bool} {fa : DE} {i : Nat} {s s1 : DS} {d : D} {xs : List D} {b : Bool} (ha : fa s = .ok d s1) (hi : s1.sl[i]? = some (.ol xs)) (h : inP neg d (.lst xs) = some (.bl b)) : eInO neg fa i s = .ok (.bl b) s1 := by
  unfold eInO
  rw [ha]
  show (match s1.sl[i]? with | some (.ol xs) => (match inP neg d (.lst xs) with | some z => Res.ok z s1 | none => .stuck) | _ => .stuck) = _
  rw [hi]
  simp only [h]
/-- among plain data of one kind -/
theorem any_pl {α : Type} [DecidableEq α] (f : α → D) (he : ∀ a b, eqPl (f a) (f b) = decide (a = b)) {a : α} {p : PyData} (hp : toPy (f a) = some p) : ∀ (l : List α) (qs : List PyData), toPys (l.map f) = some qs → (qs.any fun z => PyData.eqv z p) = decide (a ∈ l)
  | [], qs, h => by cases h; simp
  | b :: l, qs, h => by
    simp only [List.map_cons, toPys, Option.bind_eq_some_iff, Option.map_eq_some_iff] at h
    obtain ⟨q, e1, r, e2, rfl⟩ := h
    rw [List.any_cons, any_pl f he hp l r e2, eqv_pl (f b) (f a) q p e1 hp, he]
    by_cases c : b = a
    · subst c; simp
    · have c' : a ≠ b := fun z => c z.symm
      simp [c, c']
theorem inP_pl {α : Type} [DecidableEq α] (f : α → D) (hp : ∀ a, plF (f a)) (he : ∀ a b, eqPl (f a) (f b) = decide (a = b)) (neg : Bool) (a : α) (l : List α) : inP neg (f a) (.lst (l.map f)) = some (.bl (if neg then !decide (a ∈ l) else decide (a ∈ l))) := by
  obtain ⟨p, a1, a2, a3⟩ := toPy_pl (f a) (hp a).ok.1
  obtain ⟨b1, b2⟩ := pl_lst _ (plFs_map f hp l)
  obtain ⟨P, c1, c2, c3⟩ := toPy_pl (.lst (l.map f)) b1
  have c1' := c1
  simp only [toPy, Option.map_eq_some_iff] at c1'
  obtain ⟨qs, e1, rfl⟩ := c1'
  have s1 : SeqAt.shaped p = true := by
    unfold SeqAt.shaped
    rw [a2, a3]
    simp [(hp a).ok.2]
  have s2 : SeqAt.shaped (.list qs) = true := by
    unfold SeqAt.shaped
    rw [c2, c3]
    simp [b2]
  unfold inP
  rw [a1, c1]
  simp only [s1, s2, Bool.and_self, if_true, any_pl f he a1 l qs e1]
/-- a comprehension whose variable's slot holds nothing, or a value that is put back -/
theorem aLc_W1 {α : Type} {v : Nat} {it : DA} {e : DE} {s s0 : DS} {l : List α} (G : α → D) (f : α → D) (hi : it s = .ok (l.map G) s0) (hv : ∃ x, s0.sl[v]? = some x ∧ (x = .un ∨ ∃ d, x = .val d)) (h : ∀ a ∈ l, e ⟨s0.sl.set v (.val (G a)), s0.st⟩ = .ok (f a) ⟨s0.sl.set v (.val (G a)), s0.st⟩)
    (hl : l.length ≤ 1000000) : aLc [v] it (gN v) bYes e s = .ok (l.map f) s0 := by
  obtain ⟨x, hx, hu⟩ := hv
  have hw : ∀ y, (wipeD [v] s0.sl).set v y = s0.sl.set v y := fun y => List.set_set ..
  obtain ⟨ys, S', e1, ha, hS⟩ := aLc_inv (vs := [v]) (it := it) (g := gN v) (e := e) (s := s) (s0 := s0) (items := l.map G) (fun i acc S => acc = (l.take i).map f ∧ S = s0.st) hi ⟨rfl, rfl⟩ (fun i d acc S hd ⟨ha, hS⟩ => by
      rw [List.getElem?_map] at hd
      cases hr : l[i]? with
      | none => rw [hr] at hd; cases hd
      | some r =>
        rw [hr] at hd
        cases hd
        subst hS
        refine ⟨⟨s0.sl.set v (.val (G r)), s0.st⟩, f r, ⟨s0.sl.set v (.val (G r)), s0.st⟩, by show Res.ok () _ = _; rw [hw], h r (List.mem_of_getElem? hr), ?_, ?_, rfl⟩
        · show (s0.sl.set v _).set v _ = s0.sl.set v _
          rw [List.set_set]
        · rw [ha, List.take_succ, hr, List.map_append]; rfl) (by rw [List.length_map]; exact hl)
  rw [List.length_map, List.take_length] at ha
  subst hS
  rw [ha] at e1
  rw [e1]
  have hb : unwipe [v] s0.sl (wipeD [v] s0.sl) = s0.sl := by
    show (wipeD [v] s0.sl).set v (match s0.sl[v]? with | some (.val d) => .val d | _ => .un) = _
    rw [hx]
    have hs : s0.sl.set v x = s0.sl := by
      refine List.ext_getElem? fun j => ?_
      by_cases c : j = v
      · subst c
        rw [List.getElem?_set_self (List.getElem?_eq_some_iff.mp hx).1, hx]
      · rw [List.getElem?_set_ne (Ne.symm c)]
    rcases hu with rfl | ⟨d, rfl⟩
    · rw [hw]; exact hs
    · rw [hw]; exact hs
  rw [hb]
end DL
set_option maxRecDepth 100000
set_option maxHeartbeats 4000000
set_option autoImplicit false
namespace DL
/-! ### steps that leave the state -/
theorem set_k {i : Nat} {f : DE} {s : DS} {d : D} (h : f s = .ok d s) : sSet i f s = .ok .nx ⟨s.sl.set i (.val d), s.st⟩ := by
  simp [h]
/-- one assignment whose value leaves the state, ahead of the rest -/
theorem sq_set {i : Nat} {f : DE} {R : DStm} {s : DS} {d : D} (h : f s = .ok d s) : sSeq (sSet i f) R s = R ⟨s.sl.set i (.val d), s.st⟩ := by
  rw [r_sSeq, set_k h]; rfl
theorem sq_if_f {c : DT} {f R : DStm} {s s1 : DS} (h : c s = .ok false s1) : sSeq (sIf c f sPass) R s = R s1 := by
  rw [r_sSeq, if_f h]; rfl
theorem sq_par {i j : Nat} {a b : DE} {R : DStm} {s s1 s2 : DS} {x y : D} (ha : a s = .ok x s1) (hb : b s1 = .ok y s2) : sSeq (sPar i j (aCons a (aCons b aNil))) R s = R ⟨(s2.sl.set i (.val x)).set j (.val y), s2.st⟩ := by
  simp [ha, hb]
theorem neg_e {f : DE} {s s1 : DS} {x : Int} (h : f s = .ok (.int x) s1) : eNeg f s = .ok (.int (-x)) s1 := by
  simp [h]
theorem not_e {f : DT} {s s1 : DS} {b : Bool} (h : f s = .ok b s1) : bNot f s = .ok (!b) s1 := by
  simp [h]
theorem tru_e {f : DE} {s s1 : DS} {b : Bool} (h : f s = .ok (.bl b) s1) : eTru f s = .ok b s1 := by
  simp [h]
theorem call_c3 {g : DFn} {a b c : DE} {s : DS} {x y z d : D} {S1 : List Cell} (ha : a s = .ok x s) (hb : b s = .ok y s) (hc : c s = .ok z s) (e : g [x, y, z] s.st = .ok d S1) : eCall 3 g (aCons a (aCons b (aCons c aNil))) s = .ok d ⟨s.sl, S1⟩ := by
  simp [ha, hb, hc, e]
theorem andT_t {f g : DE} {s s1 s2 : DS} {d : D} (h : f s = .ok (.bl true) s1) (k : g s1 = .ok d s2) : eAndT f g s = .ok d s2 := by
  simp [h, k]
theorem call_c0 {g : DFn} {s : DS} {d : D} {S1 : List Cell} (e : g [] s.st = .ok d S1) : eCall 0 g aNil s = .ok d ⟨s.sl, S1⟩ := by
  simp [e]
/-- calls whose arguments change the store -/
theorem call_x1 {g : DFn} {a : DE} {s s1 : DS} {x d : D} {S1 : List Cell} (ha : a s = .ok x s1) (e : g [x] s1.st = .ok d S1) : eCall 1 g (aCons a aNil) s = .ok d ⟨s1.sl, S1⟩ := by
  simp [ha, e]
theorem call_x2 {g : DFn} {a b : DE} {s s1 s2 : DS} {x y d : D} {S1 : List Cell} (ha : a s = .ok x s1) (hb : b s1 = .ok y s2) (e : g [x, y] s2.st = .ok d S1) : eCall 2 g (aCons a (aCons b aNil)) s = .ok d ⟨s2.sl, S1⟩ := by
  simp [ha, hb, e]
theorem call_x3 {g : DFn} {a b c : DE} {s s1 s2 s3 : DS} {x y z d : D} {S1 : List Cell} (ha : a s = .ok x s1) (hb : b s1 = .ok y s2) (hc : c s2 = .ok z s3) (e : g [x, y, z] s3.st = .ok d S1) : eCall 3 g (aCons a (aCons b (aCons c aNil))) s = .ok d ⟨s3.sl, S1⟩ := by
  simp [ha, hb, hc, e]
theorem call_x4 {g : DFn} {a b c k : DE} {s s1 s2 s3 s4 : DS} {x y z u d : D} {S1 : List Cell} (ha : a s = .ok x s1) (hb : b s1 = .ok y s2) (hc : c s2 = .ok z s3) (hk : k s3 = .ok u s4) (e : g [x, y, z, u] s4.st = .ok d S1) : eCall 4 g (aCons a (aCons b (aCons c (aCons k aNil)))) s = .ok d ⟨s4.sl, S1⟩ := by
  simp [ha, hb, hc, hk, e]
theorem cb_1 {o : List D → Option D} {a : DE} {s s1 : DS} {x d : D} (ha : a s = .ok x s1) (e : o [x] = some d) : eCB o (aCons a aNil) s = .ok d s1 := by
  simp [ha, e]
theorem cb_2 {o : List D → Option D} {a b : DE} {s s1 s2 : DS} {x y d : D} (ha : a s = .ok x s1) (hb : b s1 = .ok y s2) (e : o [x, y] = some d) : eCB o (aCons a (aCons b aNil)) s = .ok d s2 := by
  simp [ha, hb, e]
theorem tup_3 {a b c : DE} {s s1 s2 s3 : DS} {x y z : D} (ha : a s = .ok x s1) (hb : b s1 = .ok y s2) (hc : c s2 = .ok z s3) : eTup (aCons a (aCons b (aCons c aNil))) s = .ok (.tup [x, y, z]) s3 := by
  simp [ha, hb, hc]
theorem ix_e {a b : DE} {s s1 s2 : DS} {x d : D} {i : Int} (ha : a s = .ok x s1) (hb : b s1 = .ok (.int i) s2) (e : ixD x i = some d) : eIx a b s = .ok d s2 := by
  simp [ha, hb, e]
theorem meth_1 {c : String} {m : Nm} {g : DFn} {fo a : DE} {s s1 : DS} {fs : List (Nm × D)} {x v : D} {S1 : List Cell} (h0 : fo s = .ok (.ins c fs) s) (hm : fs.lookup m = none) (ha : a s = .ok x s1) (e : g [.ins c fs, x] s1.st = .ok v S1) :
    eMeth c m 2 g fo (aCons a aNil) s = .ok v ⟨s1.sl, S1⟩ := by
  simp [h0, hm, ha, e]
theorem meth_3 {c : String} {m : Nm} {g : DFn} {fo a b k : DE} {s s1 s2 s3 : DS} {fs : List (Nm × D)} {x y z v : D} {S1 : List Cell} (h0 : fo s = .ok (.ins c fs) s) (hm : fs.lookup m = none) (ha : a s = .ok x s1) (hb : b s1 = .ok y s2) (hk : k s2 = .ok z s3) (e : g [.ins c fs, x, y, z] s3.st = .ok v S1) :
    eMeth c m 4 g fo (aCons a (aCons b (aCons k aNil))) s = .ok v ⟨s3.sl, S1⟩ := by
  simp [h0, hm, ha, hb, hk, e]
theorem itR2_of {f : DA} {s s1 : DS} {i j : Int} {n : Nat} (h : f s = .ok [.int i, .int j] s1) (c : -(2 ^ 62) ≤ i ∧ i < 2 ^ 62 ∧ -(2 ^ 62) ≤ j ∧ j < 2 ^ 62) (hn : (j - i).toNat = n) : itR2 f s = .ok (rngL i n) s1 := by
  subst hn
  unfold itR2
  rw [h]
  exact if_pos c
theorem meth_0 {c : String} {m : Nm} {g : DFn} {fo : DE} {s : DS} {fs : List (Nm × D)} {v : D} {S1 : List Cell} (h0 : fo s = .ok (.ins c fs) s) (hm : fs.lookup m = none) (e : g [.ins c fs] s.st = .ok v S1) :
    eMeth c m 1 g fo aNil s = .ok v ⟨s.sl, S1⟩ := by
  simp [h0, hm, e]
theorem var_o {i : Nat} {sl : List Sl} {S : List Cell} {xs : List D} (h : sl[i]? = some (.ol xs)) : eVar i ⟨sl, S⟩ = .ok (.lst xs) ⟨sl.set i (.val (.lst xs)), S⟩ := by
  rw [r_eVar, h]
end DL
set_option maxRecDepth 100000
set_option maxHeartbeats 4000000
set_option autoImplicit false
namespace DL
open PySem PySem.Spec PyProof.Rows L2
/-! ### list(range(a, b)) -/
def aLrg2 (f g : DE) : DA := fun s => (f s).bind fun d s1 => (g s1).bind fun e s2 => match d, e with
  | .int a, .int b => if -(2 ^ 62) ≤ a ∧ a < 2 ^ 62 ∧ -(2 ^ 62) ≤ b ∧ b < 2 ^ 62 ∧ (b - a).toNat ≤ 1000000 then .ok (rngL a (b - a).toNat) s2 else .stuck
  | _, _ => .stuck
section
variable {G : Gam} {W : WX} {X : Cx}
theorem pdo_lrg2 {a b : Expr} {fa fb : DE} {p p2 pos pos2 : Pos} (hc : X.calm = true) (hg : Gl X "list") (hm : X.mg "list" = none) (rg : Gl X "range") (rm : X.mg "range" = none) (ha : PD G W X a fa) (hb : PD G W X b fb)
    (na : starEach [a, b] X.env = (false, eval a X.env) :: starEach [b] X.env := by rfl) (nb : starEach [b] X.env = (false, eval b X.env) :: starEach [] X.env := by rfl) (hp : (backTo pos2 (starEach [b] X.env)).any (·.1) = false := by rfl) (na2 : starEach [.Call (.Name "range" p2) [a, b] [] pos2] X.env = (false, eval (.Call (.Name "range" p2) [a, b] [] pos2) X.env) :: starEach [] X.env := by rfl) :
    PDo G W X (.Call (.Name "list" p) [.Call (.Name "range" p2) [a, b] [] pos2] [] pos) (aLrg2 fa fb) :=
  (pe_listRg hc hg hm (prg_2 rg rm ha hb na nb hp) na2).imp fun σ H Q ⟨κ, w, s, ok, q⟩ => ⟨κ, w, s, ok, (PostG.bindO q).imp fun v H1 ⟨d, s1, w1, le1, ok1, r1, q1⟩ => ⟨κ, w1, s1, ok1, (PostG.bindO q1).imp fun v2 H2 ⟨d2, s2, w2, le2, ok2, r2, q2⟩ => by
    have r1 := r1.mono le2
    cases r1 with
    | int n =>
      cases r2 with
      | int m =>
        replace q2 : PostO G W κ w2 σ (if -(2 ^ 62) ≤ n ∧ n < 2 ^ 62 ∧ -(2 ^ 62) ≤ m ∧ m < 2 ^ 62 ∧ (m - n).toNat ≤ 1000000 then .ok (rngL n (m - n).toNat) s2 else .stuck) Q := q2
        split at q2
        · rename_i c
          refine ⟨n, m, rfl, rfl, ⟨by omega, by omega, by omega, by omega, by omega⟩, fun p hp => ?_⟩
          refine q2 w2 p (rgV n m) _ (.refl _) (ok2.fresh hp _) (ok2.apart hp) ?_
          unfold rgV rngL
          generalize List.range (m - n).toNat = l
          induction l with
          | nil => exact .nil
          | cons i l ih => exact .cons (.int _) ih
        · exact q2.elim
      | _ => exact q2.elim
    | _ => exact q2.elim⟩⟩
end
theorem lrg2_e {f g : DE} {s s1 s2 : DS} {a b : Int} (h1 : f s = .ok (.int a) s1) (h2 : g s1 = .ok (.int b) s2) (c : -(2 ^ 62) ≤ a ∧ a < 2 ^ 62 ∧ -(2 ^ 62) ≤ b ∧ b < 2 ^ 62 ∧ (b - a).toNat ≤ 1000000) : aLrg2 f g s = .ok (rngL a (b - a).toNat) s2 := by
  unfold aLrg2
  rw [h1, Res.bind_ok, h2, Res.bind_ok]
  exact if_pos c
end DL
set_option maxRecDepth 100000
set_option maxHeartbeats 4000000
namespace W_k13
open PySem PySem.Spec PyProof.Rows L2 DL
noncomputable section
def topS (i : Nat) : Stmt := PySem.Challenge.pw_areawalks_k13_whole_areas_of_walks.main.body.getD i (.Pass ⟨0, 0, 0, 0⟩)
theorem s_0 : ("left" : Str) = nm [108, 101, 102, 116] := by decide +kernel
theorem s_1 : ("at" : Str) = nm [97, 116] := by decide +kernel
theorem s_2 : ("cells" : Str) = nm [99, 101, 108, 108, 115] := by decide +kernel
theorem s_3 : ("value" : Str) = nm [118, 97, 108, 117, 101] := by decide +kernel
theorem s_4 : ("x" : Str) = nm [120] := by decide +kernel
theorem s_5 : ("y" : Str) = nm [121] := by decide +kernel
theorem s_6 : ("area" : Str) = nm [97, 114, 101, 97] := by decide +kernel
theorem s_7 : ("ew" : Str) = nm [101, 119] := by decide +kernel
theorem s_8 : ("e" : Str) = nm [101] := by decide +kernel
theorem s_9 : ("n" : Str) = nm [110] := by decide +kernel
theorem s_10 : ("enws" : Str) = nm [101, 110, 119, 115] := by decide +kernel
theorem s_11 : ("number" : Str) = nm [110, 117, 109, 98, 101, 114] := by decide +kernel
theorem s_12 : ("1" : Str) = nm [49] := by decide +kernel
abbrev xst_BadNumber : Stmt := inClass (topS 3) 0
theorem xsh_BadNumber : XSh xst_BadNumber "self" "value" "value" := ⟨_, _, _, _, _, _, _, _, _, _, _, rfl, rfl, rfl, rfl, rfl, rfl, rfl, by decide +kernel, rfl, rfl, rfl, by decide⟩
abbrev xst_BadPlace : Stmt := inClass (topS 4) 0
theorem xsh_BadPlace : XSh xst_BadPlace "self" "value" "value" := ⟨_, _, _, _, _, _, _, _, _, _, _, rfl, rfl, rfl, rfl, rfl, rfl, rfl, by decide +kernel, rfl, rfl, rfl, by decide⟩
/-! _law_draw -/
abbrev st__law_draw : Stmt := topS 21
theorem sc__law_draw : FnScope ["_law_pen_here", "_law_span", "_law_digit", "_law_at", "_law_cell", "_law_mash"] ["_law_pen_here", "_law_span"] (defScope st__law_draw) := ⟨rfl, rfl, rfl, by decide +kernel, rfl, by decide +kernel, by decide +kernel⟩
/-! _law_pick -/
abbrev st__law_pick : Stmt := topS 22
theorem sc__law_pick : FnScope ["_law_pen_here", "_law_items"] ["_law_pen_here", "_law_items"] (defScope st__law_pick) := ⟨rfl, rfl, rfl, by decide +kernel, rfl, by decide +kernel, by decide +kernel⟩
/-! _law_great -/
abbrev st__law_great : Stmt := topS 23
theorem sc__law_great : FnScope ["_law_pen_here", "_law_figures", "_law_found", "_law_go"] ["_law_pen_here", "_law_figures"] (defScope st__law_great) := ⟨rfl, rfl, rfl, by decide +kernel, rfl, by decide +kernel, by decide +kernel⟩
/-! _law_signed -/
abbrev st__law_signed : Stmt := topS 24
theorem sc__law_signed : FnScope ["_law_pen_here", "_law_figures", "_law_found"] ["_law_pen_here", "_law_figures"] (defScope st__law_signed) := ⟨rfl, rfl, rfl, by decide +kernel, rfl, by decide +kernel, by decide +kernel⟩
/-! _law_far -/
abbrev st__law_far : Stmt := topS 27
theorem sc__law_far : FnScope ["_law_pen_here", "_law_figures", "_law_x", "_law_y", "_law_path", "_law_wide", "_law_high", "_law_area"] ["_law_pen_here", "_law_figures"] (defScope st__law_far) := ⟨rfl, rfl, rfl, by decide +kernel, rfl, by decide +kernel, by decide +kernel⟩
/-! is_integer -/
abbrev st_is_integer : Stmt := topS 6
theorem sc_is_integer : FnScope ["value"] ["value"] (defScope st_is_integer) := ⟨rfl, rfl, rfl, by decide +kernel, rfl, by decide +kernel, by decide +kernel⟩
/-! Place.__init__ -/
abbrev st_PlaceX_initX : Stmt := inClass (topS 9) 0
theorem sc_PlaceX_initX : FnScope ["self", "x", "y", "area", "value"] ["self", "x", "y", "area"] (defScope st_PlaceX_initX) := ⟨rfl, rfl, rfl, by decide +kernel, rfl, by decide +kernel, by decide +kernel⟩
/-! need_place -/
abbrev st_need_place : Stmt := topS 10
theorem sc_need_place : FnScope ["value"] ["value"] (defScope st_need_place) := ⟨rfl, rfl, rfl, by decide +kernel, rfl, by decide +kernel, by decide +kernel⟩
/-! whole_root -/
abbrev st_whole_root : Stmt := topS 12
theorem sc_whole_root : FnScope ["number", "found", "later"] ["number"] (defScope st_whole_root) := ⟨rfl, rfl, rfl, by decide +kernel, rfl, by decide +kernel, by decide +kernel⟩
/-! steps_of -/
abbrev st_steps_of : Stmt := topS 13
theorem sc_steps_of : FnScope ["x", "y", "area", "ground", "more", "less", "root"] ["x", "y", "area"] (defScope st_steps_of) := ⟨rfl, rfl, rfl, by decide +kernel, rfl, by decide +kernel, by decide +kernel⟩
/-! steps -/
abbrev st_steps : Stmt := topS 17
theorem sc_steps : FnScope ["place"] ["place"] (defScope st_steps) := ⟨rfl, rfl, rfl, by decide +kernel, rfl, by decide +kernel, by decide +kernel⟩
/-! _law_is_told -/
abbrev st__law_is_told : Stmt := topS 31
theorem sc__law_is_told : FnScope ["_law_x", "_law_y", "_law_area", "_law_number", "_law_shown", "_law_least_steps", "_law_can"] ["_law_x", "_law_y", "_law_area", "_law_number", "_law_shown"] (defScope st__law_is_told) := ⟨rfl, rfl, rfl, by decide +kernel, rfl, by decide +kernel, by decide +kernel⟩
/-! _law_gone -/
abbrev st__law_gone : Stmt := topS 25
theorem sc__law_gone : FnScope ["_law_spot", "_law_letter", "_law_times", "_law_x", "_law_y", "_law_area"] ["_law_spot", "_law_letter", "_law_times"] (defScope st__law_gone) := ⟨rfl, rfl, rfl, by decide +kernel, rfl, by decide +kernel, by decide +kernel⟩
/-! _law_ends -/
abbrev st__law_ends : Stmt := topS 28
theorem sc__law_ends : FnScope ["_law_number", "_law_found", "_law_go", "_law_later", "_law_spot", "_law_letter", "_law_ends_here", "_law_x", "_law_y", "_law_area"] ["_law_number"] (defScope st__law_ends) := ⟨rfl, rfl, rfl, by decide +kernel, rfl, by decide +kernel, by decide +kernel⟩
/-! best_sides -/
abbrev st_best_sides : Stmt := topS 14
theorem sc_best_sides : FnScope ["x", "y", "extra"] ["x", "y", "extra"] (defScope st_best_sides) := ⟨rfl, rfl, rfl, by decide +kernel, rfl, by decide +kernel, by decide +kernel⟩
/-! areas_of -/
abbrev st_areas_of : Stmt := topS 15
theorem sc_areas_of : FnScope ["x", "y", "number", "extra", "wide", "high", "span"] ["x", "y", "number"] (defScope st_areas_of) := ⟨rfl, rfl, rfl, by decide +kernel, rfl, by decide +kernel, by decide +kernel⟩
/-! is_whole -/
abbrev st_is_whole : Stmt := topS 7
theorem sc_is_whole : FnScope ["value", "least"] ["value", "least"] (defScope st_is_whole) := ⟨rfl, rfl, rfl, by decide +kernel, rfl, by decide +kernel, by decide +kernel⟩
/-! areas -/
abbrev st_areas : Stmt := topS 18
theorem sc_areas : FnScope ["x", "y", "number", "value"] ["x", "y", "number"] (defScope st_areas) := ⟨rfl, rfl, rfl, by decide +kernel, rfl, by decide +kernel, by decide +kernel⟩
/-! _law_near_right -/
abbrev st__law_near_right : Stmt := topS 30
theorem sc__law_near_right : FnScope ["_law_pen_here", "_law_number", "_law_ends_here", "_law_x", "_law_y", "_law_due", "_law_shown", "_law_area"] ["_law_pen_here"] (defScope st__law_near_right) := ⟨rfl, rfl, rfl, by decide +kernel, rfl, by decide +kernel, by decide +kernel⟩
/-! _law_pen -/
abbrev st__law_pen : Stmt := topS 20
theorem sc__law_pen : FnScope ["_law_script"] ["_law_script"] (defScope st__law_pen) := ⟨rfl, rfl, rfl, by decide +kernel, rfl, by decide +kernel, by decide +kernel⟩
/-! _law_place -/
abbrev st__law_place : Stmt := topS 26
theorem sc__law_place : FnScope ["_law_spot"] ["_law_spot"] (defScope st__law_place) := ⟨rfl, rfl, rfl, by decide +kernel, rfl, by decide +kernel, by decide +kernel⟩
/-! _law_refused -/
abbrev st__law_refused : Stmt := topS 29
theorem sc__law_refused : FnScope ["_law_deed", "e"] ["_law_deed"] (defScope st__law_refused) := ⟨rfl, rfl, rfl, by decide +kernel, rfl, by decide +kernel, by decide +kernel⟩
/-! law -/
abbrev st_law : Stmt := topS 32
theorem sc_law : FnScope ["_law_script", "_law_pen_here", "_law_lap", "_law_spot", "_law_x", "_law_y", "_law_area", "_law_number", "_law_shown", "_law_some", "_law_odd", "_law_one"] ["_law_script"] (defScope st_law) := ⟨rfl, rfl, rfl, by decide +kernel, rfl, by decide +kernel, by decide +kernel⟩
def b__law_draw : DStm := sSeq (sIf (eB (eOp2 iGe (eDGet (eVar 0) (eC (.str [108, 101, 102, 116]))) (eVar 1))) (sSeq (sSet 2 (eOp2 iMod (eCB (bInt) (aCons (eDGet (eVar 0) (eC (.str [108, 101, 102, 116]))) (aNil))) (eVar 1)))
    (sSeq (sDPutC (eVar 0) (eC (.str [108, 101, 102, 116])) (eOp2 iDiv (eDGet (eVar 0) (eC (.str [108, 101, 102, 116]))) (eVar 1)))
    (sRet (eVar 2)))) (sPass))
    (sSeq (sSet 3 (eDGet (eVar 0) (eC (.str [97, 116]))))
    (sSeq (sDPutC (eVar 0) (eC (.str [97, 116])) (eOp2 dAdd (eVar 3) (eC (.int 1))))
    (sSeq (sSet 4 (eOp2 dAdd (eOp2 dMul (eC (.int 97)) (eVar 3)) (eC (.int 59))))
    (sSeq (sIf (eB (eOp2 dNe (eDGet (eVar 0) (eC (.str [99, 101, 108, 108, 115]))) (eFrz (aMax (aNil))))) (sSet 4 (eIx (eDGet (eVar 0) (eC (.str [99, 101, 108, 108, 115]))) (eOp2 iMod (eCB (bInt) (aCons (eVar 3) (aNil))) (eCB (bLen) (aCons (eDGet (eVar 0) (eC (.str [99, 101, 108, 108, 115]))) (aNil)))))) (sPass))
    (sSeq (sIf (bAnd (eB (eOp2 iLt (eVar 3) (eCB (bLen) (aCons (eDGet (eVar 0) (eC (.str [99, 101, 108, 108, 115]))) (aNil))))) (eB (eOp2 iGe (eVar 4) (eOp2 iPow (eC (.int 10)) (eC (.int 18)))))) (sSeq (sDPutC (eVar 0) (eC (.str [108, 101, 102, 116])) (eOp2 iDiv (eOp2 iSub (eVar 4) (eOp2 iPow (eC (.int 10)) (eC (.int 18)))) (eVar 1)))
    (sRet (eOp2 iMod (eCB (bInt) (aCons (eOp2 iSub (eVar 4) (eOp2 iPow (eC (.int 10)) (eC (.int 18)))) (aNil))) (eVar 1)))) (sPass))
    (sSeq (sSet 5 (eOp2 dAdd (eOp2 dMul (eOp2 iMod (eCB (bInt) (aCons (eVar 4) (aNil))) (eC (.int 2147482417))) (eC (.int 45497))) (eOp2 dMul (eOp2 dMul (eC (.int 33529)) (eVar 3)) (eVar 3))))
    (sSeq (sSet 5 (eOp2 iMod (eCB (bInt) (aCons (eOp2 dAdd (eOp2 dAdd (eVar 5) (eOp2 dMul (eC (.int 127)) (eVar 3))) (eC (.int 41))) (aNil))) (eC (.int 2147482481))))
    (sSeq (sSet 5 (eOp2 iMod (eCB (bInt) (aCons (eOp2 dAdd (eOp2 dMul (eVar 5) (eOp2 dAdd (eVar 5) (eC (.int 70423)))) (eOp2 dMul (eC (.int 3)) (eVar 3))) (aNil))) (eC (.int 2147482507))))
    (sRet (eOp2 iMod (eCB (bInt) (aCons (eOp2 iDiv (eOp2 iMod (eCB (bInt) (aCons (eOp2 dAdd (eOp2 dMul (eVar 5) (eVar 5)) (eOp2 dMul (eC (.int 43)) (eVar 5))) (aNil))) (eC (.int 2147482577))) (eC (.int 32))) (aNil))) (eVar 1)))))))))))
def g__law_draw : DFn := fnD 2 b__law_draw 4
def b__law_pick : DStm := sRet (eIx (eVar 1) (eCall 2 g__law_draw (aCons (eVar 0) (aCons (eCB (bLen) (aCons (eVar 1) (aNil))) (aNil)))))
def g__law_pick : DFn := fnD 2 b__law_pick 0
def w__law_great_0 : DStm := sSet 2 (eOp2 dAdd (eOp2 dMul (eVar 2) (eOp2 iPow (eC (.int 10)) (eC (.int 7)))) (eCall 2 g__law_draw (aCons (eVar 0) (aCons (eOp2 iPow (eC (.int 10)) (eC (.int 7))) (aNil)))))
def b__law_great : DStm := sSeq (sSet 2 (eC (.int 0)))
    (sSeq (sFor (itR1 (aCons (eOp2 dAdd (eC (.int 1)) (eCall 2 g__law_draw (aCons (eVar 0) (aCons (eOp2 iDiv (eVar 1) (eC (.int 7))) (aNil))))) (aNil))) (gN 3) (w__law_great_0))
    (sRet (eVar 2)))
def g__law_great : DFn := fnD 2 b__law_great 2
def b__law_signed : DStm := sSeq (sSet 2 (eIf (bOr (eB (eOp2 iLt (eVar 1) (eC (.int 7)))) (eB (eOp2 dEq (eCall 2 g__law_draw (aCons (eVar 0) (aCons (eC (.int 4)) (aNil)))) (eC (.int 0))))) (eCall 2 g__law_draw (aCons (eVar 0) (aCons (eC (.int 12)) (aNil)))) (eCall 2 g__law_great (aCons (eVar 0) (aCons (eVar 1) (aNil))))))
    (sRet (eIf (eB (eOp2 dEq (eCall 2 g__law_draw (aCons (eVar 0) (aCons (eC (.int 2)) (aNil)))) (eC (.int 0)))) (eVar 2) (eNeg (eVar 2))))
def g__law_signed : DFn := fnD 2 b__law_signed 1
def b__law_far : DStm := sSeq (sPar 2 3 (aCons (eCall 2 g__law_signed (aCons (eVar 0) (aCons (eVar 1) (aNil)))) (aCons (eCall 2 g__law_signed (aCons (eVar 0) (aCons (eVar 1) (aNil)))) (aNil))))
    (sSeq (sSet 4 (eCall 2 g__law_draw (aCons (eVar 0) (aCons (eC (.int 4)) (aNil)))))
    (sSeq (sIf (eB (eOp2 dEq (eVar 4) (eC (.int 0)))) (sRet (eTup (aCons (eVar 2) (aCons (eVar 3) (aCons (eCall 2 g__law_signed (aCons (eVar 0) (aCons (eOp2 dMul (eC (.int 2)) (eVar 1)) (aNil)))) (aNil)))))) (sPass))
    (sSeq (sPar 5 6 (aCons (eOp2 dAdd (eCB (bAbs) (aCons (eVar 2) (aNil))) (eCall 2 g__law_draw (aCons (eVar 0) (aCons (eC (.int 9)) (aNil))))) (aCons (eOp2 dAdd (eCB (bAbs) (aCons (eVar 3) (aNil))) (eCall 2 g__law_draw (aCons (eVar 0) (aCons (eC (.int 9)) (aNil))))) (aNil))))
    (sSeq (sIf (eB (eOp2 iGt (eVar 4) (eC (.int 1)))) (sPar 5 6 (aCons (eOp2 dAdd (eCB (bMax2) (aCons (eVar 5) (aCons (eVar 6) (aNil)))) (eCall 2 g__law_draw (aCons (eVar 0) (aCons (eC (.int 3)) (aNil))))) (aCons (eCB (bMax2) (aCons (eVar 5) (aCons (eVar 6) (aNil)))) (aNil)))) (sPass))
    (sSeq (sSet 7 (eOp2 iSub (eOp2 dAdd (eOp2 dMul (eVar 5) (eVar 6)) (eCall 2 g__law_draw (aCons (eVar 0) (aCons (eC (.int 5)) (aNil))))) (eC (.int 2))))
    (sRet (eTup (aCons (eVar 2) (aCons (eVar 3) (aCons (eCall 2 g__law_pick (aCons (eVar 0) (aCons (eFrz (aMax (aCons (eVar 7) (aCons (eOp2 iSub (eOp2 dMul (eVar 2) (eVar 3)) (eVar 7)) (aNil))))) (aNil)))) (aNil)))))))))))
def g__law_far : DFn := fnD 2 b__law_far 6
def b_is_integer : DStm := sRet (eAndT (eCB (bIsi ["Place"]) (aCons (eVar 0) (aCons (eC (.ty "int")) (aNil)))) (eNotT (eCB (bIsi ["Place"]) (aCons (eVar 0) (aCons (eC (.ty "bool")) (aNil))))))
def g_is_integer : DFn := fnD 1 b_is_integer 0
def w_PlaceX_initX_0 : DStm := sIf (bNot (eTru (eCall 1 g_is_integer (aCons (eVar 4) (aNil))))) (sRaise "BadNumber" [118, 97, 108, 117, 101] (aCons (eVar 4) (aNil))) (sPass)
def b_PlaceX_initX : DStm := sSeq (sFor (itSeq (eTup (aCons (eVar 1) (aCons (eVar 2) (aCons (eVar 3) (aNil)))))) (gN 4) (w_PlaceX_initX_0))
    (sSeq (sFldO "Place" 0 [120] (eVar 1))
    (sSeq (sFldO "Place" 0 [121] (eVar 2))
    (sFldO "Place" 0 [97, 114, 101, 97] (eVar 3))))
def g_PlaceX_initX : DIn := inD "Place" 3 b_PlaceX_initX 1
def b_need_place : DStm := sIf (bNot (eTru (eCB (bIsi ["Place"]) (aCons (eVar 0) (aCons (eC (.cls "Place")) (aNil)))))) (sRaise "BadPlace" [118, 97, 108, 117, 101] (aCons (eVar 0) (aNil))) (sPass)
def g_need_place : DFn := fnD 1 b_need_place 0
def c_whole_root_0 : DT := eTru (eC (.bl true))
def w_whole_root_0 : DStm := sSeq (sSet 2 (eOp2 iDiv (eOp2 dAdd (eVar 1) (eOp2 iDiv (eVar 0) (eVar 1))) (eC (.int 2))))
    (sSeq (sIf (eB (eOp2 iGe (eVar 2) (eVar 1))) (sRet (eVar 1)) (sPass))
    (sSet 1 (eVar 2)))
def b_whole_root : DStm := sSeq (sIf (eB (eOp2 iLt (eVar 0) (eC (.int 2)))) (sRet (eVar 0)) (sPass))
    (sSeq (sSet 1 (eOp2 iShl (eC (.int 1)) (eOp2 iDiv (eOp2 dAdd (eBits (eVar 0)) (eC (.int 1))) (eC (.int 2)))))
    (sWhile (c_whole_root_0) (w_whole_root_0)))
def g_whole_root : DFn := fnD 1 b_whole_root 2
def b_steps_of : DStm := sSeq (sSet 3 (eOp2 iDiv (eOp2 dAdd (eCB (bAbs) (aCons (eOp2 iSub (eOp2 dMul (eC (.int 2)) (eVar 2)) (eOp2 dMul (eVar 0) (eVar 1))) (aNil))) (eCB (bAbs) (aCons (eOp2 dMul (eVar 0) (eVar 1)) (aNil)))) (eC (.int 2))))
    (sSeq (sPar 0 1 (aCons (eCB (bAbs) (aCons (eVar 0) (aNil))) (aCons (eCB (bAbs) (aCons (eVar 1) (aNil))) (aNil))))
    (sSeq (sAsgT (eIf (eB (eOp2 iGe (eVar 0) (eVar 1))) (eTup (aCons (eVar 0) (aCons (eVar 1) (aNil)))) (eTup (aCons (eVar 1) (aCons (eVar 0) (aNil))))) (gT 2 (gsCons (gN 4) (gsCons (gN 5) (gsNil)))))
    (sSeq (sIf (eB (eOp2 iLe (eVar 3) (eOp2 dMul (eVar 4) (eVar 5)))) (sRet (eOp2 dAdd (eVar 4) (eVar 5))) (sPass))
    (sSeq (sIf (eB (eOp2 iLe (eVar 3) (eOp2 dMul (eVar 4) (eVar 4)))) (sRet (eOp2 iSub (eOp2 dAdd (eOp2 dMul (eC (.int 2)) (eNeg (eOp2 iDiv (eNeg (eVar 3)) (eVar 4)))) (eVar 4)) (eVar 5))) (sPass))
    (sSeq (sSet 6 (eCall 1 g_whole_root (aCons (eOp2 dMul (eC (.int 4)) (eVar 3)) (aNil))))
    (sRet (eOp2 iSub (eOp2 iSub (eOp2 dMul (eC (.int 2)) (eIf (eB (eOp2 dEq (eOp2 dMul (eVar 6) (eVar 6)) (eOp2 dMul (eC (.int 4)) (eVar 3)))) (eVar 6) (eOp2 dAdd (eVar 6) (eC (.int 1))))) (eVar 4)) (eVar 5))))))))
def g_steps_of : DFn := fnD 3 b_steps_of 4
def b_steps : DStm := sSeq (sExpr (eCall 1 g_need_place (aCons (eVar 0) (aNil))))
    (sRet (eCall 3 g_steps_of (aCons (eFld ["Place"] [120] (eVar 0)) (aCons (eFld ["Place"] [121] (eVar 0)) (aCons (eFld ["Place"] [97, 114, 101, 97] (eVar 0)) (aNil))))))
def g_steps : DFn := fnD 1 b_steps 0
def b__law_is_told : DStm := sSeq (sSet 5 (eCall 1 g_steps (aCons (eMake "Place" 3 g_PlaceX_initX (aCons (eVar 0) (aCons (eVar 1) (aCons (eVar 2) (aNil))))) (aNil))))
    (sSeq (sSet 6 (eAndT (eOp2 iLe (eVar 5) (eVar 3)) (eOp2 dEq (eOp2 iMod (eCB (bInt) (aCons (eOp2 iSub (eVar 3) (eVar 5)) (aNil))) (eC (.int 2))) (eC (.int 0)))))
    (sRet (eOp2 dEq (eVar 6) (eAndT (eOp2 dNotN (eVar 4) (eC .non)) (eChain iLe iLe (eIx (eVar 4) (eC (.int 0))) (eVar 2) (eIx (eVar 4) (eC (.int 1))))))))
def g__law_is_told : DFn := fnD 5 b__law_is_told 2
def b__law_gone : DStm := sSeq (sAsgT (eVar 0) (gT 3 (gsCons (gN 3) (gsCons (gN 4) (gsCons (gN 5) (gsNil))))))
    (sSeq (sIf (eB (eOp2 (dIn false) (eVar 1) (eC (.str [101, 119])))) (sRet (eTup (aCons (eOp2 dAdd (eVar 3) (eIf (eB (eOp2 dEq (eVar 1) (eC (.str [101])))) (eVar 2) (eNeg (eVar 2)))) (aCons (eVar 4) (aCons (eVar 5) (aNil)))))) (sPass))
    (sSeq (sIf (eB (eOp2 dEq (eVar 1) (eC (.str [110])))) (sRet (eTup (aCons (eVar 3) (aCons (eOp2 dAdd (eVar 4) (eVar 2)) (aCons (eOp2 dAdd (eVar 5) (eOp2 dMul (eVar 3) (eVar 2))) (aNil)))))) (sPass))
    (sRet (eTup (aCons (eVar 3) (aCons (eOp2 iSub (eVar 4) (eVar 2)) (aCons (eOp2 iSub (eVar 5) (eOp2 dMul (eVar 3) (eVar 2))) (aNil))))))))
def g__law_gone : DFn := fnD 3 b__law_gone 3
def w__law_ends_0 : DStm := sTPutO 3 (eCall 3 g__law_gone (aCons (eVar 4) (aCons (eVar 5) (aCons (eC (.int 1)) (aNil))))) (eC (.bl true))
def w__law_ends_1 : DStm := sFor (itSeq (eC (.str [101, 110, 119, 115]))) (gN 5) (w__law_ends_0)
def w__law_ends_2 : DStm := sSeq (sSetOt 3 (dTNew))
    (sSeq (sFor (itDct (eVar 1)) (gN 4) (w__law_ends_1))
    (sSet 1 (eVar 3)))
def w__law_ends_3 : DStm := sTPutO 6 (eTup (aCons (eVar 7) (aCons (eVar 8) (aNil)))) (eOp2 dAdd (eTGet2 6 (eTup (aCons (eVar 7) (aCons (eVar 8) (aNil)))) (eFrz (aMax (aNil)))) (eFrz (aMax (aCons (eVar 9) (aNil)))))
def b__law_ends : DStm := sSeq (sSetOt 1 (dTOne (eTup (aCons (eC (.int 0)) (aCons (eC (.int 0)) (aCons (eC (.int 0)) (aNil))))) (eC (.bl true))))
    (sSeq (sFor (itR1 (aCons (eVar 0) (aNil))) (gN 2) (w__law_ends_2))
    (sSeq (sSetOt 6 (dTNew))
    (sSeq (sFor (itDct (eVar 1)) (gT 3 (gsCons (gN 7) (gsCons (gN 8) (gsCons (gN 9) (gsNil))))) (w__law_ends_3))
    (sRet (eVar 6)))))
def g__law_ends : DFn := fnD 1 b__law_ends 9
def b_best_sides : DStm := sSeq (sIf (eB (eOp2 iLe (eVar 2) (eCB (bAbs) (aCons (eOp2 iSub (eVar 0) (eVar 1)) (aNil))))) (sRet (eIf (eB (eOp2 iGe (eVar 0) (eVar 1))) (eTup (aCons (eVar 0) (aCons (eOp2 dAdd (eVar 1) (eVar 2)) (aNil)))) (eTup (aCons (eOp2 dAdd (eVar 0) (eVar 2)) (aCons (eVar 1) (aNil)))))) (sPass))
    (sRet (eTup (aCons (eOp2 iDiv (eOp2 dAdd (eOp2 dAdd (eOp2 dAdd (eVar 0) (eVar 1)) (eVar 2)) (eC (.int 1))) (eC (.int 2))) (aCons (eOp2 iDiv (eOp2 dAdd (eOp2 dAdd (eVar 0) (eVar 1)) (eVar 2)) (eC (.int 2))) (aNil)))))
def g_best_sides : DFn := fnD 3 b_best_sides 0
def b_areas_of : DStm := sSeq (sSet 3 (eOp2 iSub (eOp2 iSub (eVar 2) (eCB (bAbs) (aCons (eVar 0) (aNil)))) (eCB (bAbs) (aCons (eVar 1) (aNil)))))
    (sSeq (sIf (bOr (eB (eOp2 iLt (eVar 3) (eC (.int 0)))) (eB (eOp2 dEq (eOp2 iMod (eVar 3) (eC (.int 2))) (eC (.int 1))))) (sRet (eC .non)) (sPass))
    (sSeq (sAsgT (eCall 3 g_best_sides (aCons (eCB (bAbs) (aCons (eVar 0) (aNil))) (aCons (eCB (bAbs) (aCons (eVar 1) (aNil))) (aCons (eOp2 iDiv (eVar 3) (eC (.int 2))) (aNil))))) (gT 2 (gsCons (gN 4) (gsCons (gN 5) (gsNil)))))
    (sSeq (sSet 6 (eOp2 iSub (eOp2 dMul (eOp2 dMul (eC (.int 2)) (eVar 4)) (eVar 5)) (eCB (bAbs) (aCons (eOp2 dMul (eVar 0) (eVar 1)) (aNil)))))
    (sRet (eTup (aCons (eOp2 iDiv (eOp2 iSub (eOp2 dMul (eVar 0) (eVar 1)) (eVar 6)) (eC (.int 2))) (aCons (eOp2 iDiv (eOp2 dAdd (eOp2 dMul (eVar 0) (eVar 1)) (eVar 6)) (eC (.int 2))) (aNil))))))))
def g_areas_of : DFn := fnD 3 b_areas_of 4
def b_is_whole : DStm := sRet (eAndT (eCall 1 g_is_integer (aCons (eVar 0) (aNil))) (eOp2 iGe (eVar 0) (eVar 1)))
def g_is_whole : DFn := fnD 2 b_is_whole 0
def w_areas_0 : DStm := sIf (bNot (eTru (eCall 1 g_is_integer (aCons (eVar 3) (aNil))))) (sRaise "BadNumber" [118, 97, 108, 117, 101] (aCons (eVar 3) (aNil))) (sPass)
def b_areas : DStm := sSeq (sFor (itSeq (eTup (aCons (eVar 0) (aCons (eVar 1) (aNil))))) (gN 3) (w_areas_0))
    (sSeq (sIf (bNot (eTru (eCall 2 g_is_whole (aCons (eVar 2) (aCons (eC (.int 0)) (aNil)))))) (sRaise "BadNumber" [118, 97, 108, 117, 101] (aCons (eVar 2) (aNil))) (sPass))
    (sRet (eCall 3 g_areas_of (aCons (eVar 0) (aCons (eVar 1) (aCons (eVar 2) (aNil)))))))
def g_areas : DFn := fnD 3 b_areas 1
def e__law_near_right_0 : DE := eCB (bInt) (aCons (eVar 7) (aNil))
def w__law_near_right_1 : DStm := sSeq (sSet 5 (eCB (bSrt) (aCons (eFrz (aLc [7] (itSeq (eTGet2 2 (eTup (aCons (eVar 3) (aCons (eVar 4) (aNil)))) (eFrz (aMax (aNil))))) (gN 7) (bYes) (e__law_near_right_0))) (aNil))))
    (sSeq (sSet 6 (eCall 3 g_areas (aCons (eVar 3) (aCons (eVar 4) (aCons (eVar 1) (aNil))))))
    (sSeq (sIf (bOr (bAnd (eB (eOp2 dEq (eVar 5) (eFrz (aMax (aNil))))) (eB (eOp2 dNotN (eVar 6) (eC .non)))) (bAnd (eB (eOp2 dNe (eVar 5) (eFrz (aMax (aNil))))) (eB (eOp2 dNe (eVar 6) (eTup (aCons (eIx (eVar 5) (eC (.int 0))) (aCons (eIx (eVar 5) (eNeg (eC (.int 1)))) (aNil)))))))) (sRet (eC (.bl false))) (sPass))
    (sIf (bAnd (eB (eOp2 dNe (eVar 5) (eFrz (aMax (aNil))))) (eB (eOp2 dNe (eVar 5) (eFrz (aLrg2 (eIx (eVar 5) (eC (.int 0))) (eOp2 dAdd (eIx (eVar 5) (eNeg (eC (.int 1)))) (eC (.int 1)))))))) (sRet (eC (.bl false))) (sPass))))
def w__law_near_right_2 : DStm := sFor (itR2 (aCons (eOp2 iSub (eNeg (eVar 1)) (eC (.int 1))) (aCons (eOp2 dAdd (eVar 1) (eC (.int 2))) (aNil)))) (gN 4) (w__law_near_right_1)
def b__law_near_right : DStm := sSeq (sSet 1 (eCall 2 g__law_draw (aCons (eVar 0) (aCons (eC (.int 8)) (aNil)))))
    (sSeq (sSet 2 (eCall 1 g__law_ends (aCons (eVar 1) (aNil))))
    (sSeq (sFor (itR2 (aCons (eOp2 iSub (eNeg (eVar 1)) (eC (.int 1))) (aCons (eOp2 dAdd (eVar 1) (eC (.int 2))) (aNil)))) (gN 3) (w__law_near_right_2))
    (sRet (eC (.bl true)))))
def g__law_near_right : DFn := fnD 1 b__law_near_right 7
def b__law_pen : DStm := sRet (eCellD (dDisp [(eC (.str [99, 101, 108, 108, 115]), eFrz (aList (aCons (eSlA (eVar 0) (oNone) (oSome (eC (.int 63)))) (aNil)))), (eC (.str [97, 116]), eC (.int 0)), (eC (.str [108, 101, 102, 116]), eC (.int 0))]))
def g__law_pen : DFn := fnD 1 b__law_pen 0
def b__law_place : DStm := sRet (eMake "Place" 3 g_PlaceX_initX (aCons (eIx (eVar 0) (eC (.int 0))) (aCons (eIx (eVar 0) (eC (.int 1))) (aCons (eIx (eVar 0) (eC (.int 2))) (aNil)))))
def g__law_place : DFn := fnD 1 b__law_place 0
def b__law_refused (Λ : LamR) : DStm := sTry (sExpr (eAct Λ 0)) [⟨.none, some 1, hmT ["BadNumber"] ["BadPlace"], fun x => sRet (eTup (aCons (eC (.str [110, 117, 109, 98, 101, 114])) (aCons (eXf "BadNumber" [118, 97, 108, 117, 101] x) (aNil))))⟩]
def lb_law_0 : DE := eCall 3 g_areas (aCons (eVar 4) (aCons (eVar 5) (aCons (eVar 10) (aNil))))
def lb_law_1 : DE := eCall 3 g_areas (aCons (eVar 10) (aCons (eC .non) (aCons (eNeg (eC (.int 1))) (aNil))))
def lb_law_2 : DE := eCall 3 g_areas (aCons (eVar 4) (aCons (eVar 10) (aCons (eC .non) (aNil))))
def e_law_0 : DE := eVar 11
def t_law_0 : DT := bNot (eTru (eCall 5 g__law_is_told (aCons (eVar 4) (aCons (eVar 5) (aCons (eVar 11) (aCons (eVar 7) (aCons (eVar 8) (aNil))))))))
def w_law_2 : DStm := sSeq (sSet 3 (eCall 2 g__law_far (aCons (eVar 1) (aCons (eCall 2 g__law_pick (aCons (eVar 1) (aCons (eFrz (aMax (aCons (eC (.int 0)) (aCons (eC (.int 14)) (aCons (eC (.int 49)) (aNil)))))) (aNil)))) (aNil)))))
    (sSeq (sAsgT (eVar 3) (gT 3 (gsCons (gN 4) (gsCons (gN 5) (gsCons (gN 6) (gsNil))))))
    (sSeq (sSet 7 (eOp2 dAdd (eCall 1 g_steps (aCons (eCall 1 g__law_place (aCons (eVar 3) (aNil))) (aNil))) (eCall 2 g__law_pick (aCons (eVar 1) (aCons (eFrz (aMax (aCons (eC (.int 0)) (aCons (eC (.int 0)) (aCons (eC (.int 1)) (aCons (eNeg (eC (.int 1))) (aCons (eC (.int 2)) (aCons (eNeg (eC (.int 2))) (aCons (eCall 2 g__law_great (aCons (eVar 1) (aCons (eC (.int 50)) (aNil)))) (aNil)))))))))) (aNil))))))
    (sSeq (sSet 7 (eIf (eB (eOp2 iGe (eVar 7) (eC (.int 0)))) (eVar 7) (eC (.int 0))))
    (sSeq (sSet 8 (eCall 3 g_areas (aCons (eVar 4) (aCons (eVar 5) (aCons (eVar 7) (aNil))))))
    (sSeq (sIf (bAnd (eB (eOp2 dNotN (eVar 8) (eC .non))) (bOr (bNot (eTru (eCB (bIsi ["Place"]) (aCons (eVar 8) (aCons (eC (.ty "tuple")) (aNil)))))) (eB (eOp2 dNe (eCB (bLen) (aCons (eVar 8) (aNil))) (eC (.int 2)))))) (sRet (eC (.bl false))) (sPass))
    (sSeq (sIf (bAnd (eB (eOp2 dNotN (eVar 8) (eC .non))) (bOr (eB (eOp2 dNe (eOp2 dAdd (eIx (eVar 8) (eC (.int 0))) (eIx (eVar 8) (eC (.int 1)))) (eOp2 dMul (eVar 4) (eVar 5)))) (eB (eOp2 iGt (eIx (eVar 8) (eC (.int 0))) (eIx (eVar 8) (eC (.int 1))))))) (sRet (eC (.bl false))) (sPass))
    (sSeq (sSet 9 (eFrz (aMax (aCons (eVar 6) (aCons (eOp2 dAdd (eVar 6) (eC (.int 1))) (aCons (eOp2 iSub (eOp2 dMul (eVar 4) (eVar 5)) (eVar 6)) (aCons (eC (.int 0)) (aCons (eCall 2 g__law_signed (aCons (eVar 1) (aCons (eC (.int 98)) (aNil)))) (aNil)))))))))
    (sSeq (sIf (eB (eOp2 dNotN (eVar 8) (eC .non))) (sSet 9 (eOp2 dAdd (eVar 9) (eFrz (aMax (aCons (eIx (eVar 8) (eC (.int 0))) (aCons (eIx (eVar 8) (eC (.int 1))) (aCons (eOp2 iSub (eIx (eVar 8) (eC (.int 0))) (eC (.int 1))) (aCons (eOp2 dAdd (eIx (eVar 8) (eC (.int 1))) (eC (.int 1))) (aNil))))))))) (sPass))
    (sSeq (sIf (eB (eOp2 dNe (eFrz (aLc [11] (itSeq (eVar 9)) (gN 11) (t_law_0) (e_law_0))) (eFrz (aMax (aNil))))) (sRet (eC (.bl false))) (sPass))
    (sSeq (sIf (eB (eOp2 dNe (eOp2 dIsN (eVar 8) (eC .non)) (eOrT (eOp2 iLt (eVar 7) (eOp2 dAdd (eCB (bAbs) (aCons (eVar 4) (aNil))) (eCB (bAbs) (aCons (eVar 5) (aNil))))) (eOp2 dEq (eOp2 iMod (eCB (bInt) (aCons (eOp2 iSub (eOp2 iSub (eVar 7) (eVar 4)) (eVar 5)) (aNil))) (eC (.int 2))) (eC (.int 1)))))) (sRet (eC (.bl false))) (sPass))
    (sSeq (sSet 10 (eCall 2 g__law_pick (aCons (eVar 1) (aCons (eFrz (aMax (aCons (eC .non) (aCons (eC (.bl true)) (aCons (eC (.str [49])) (aCons (eFrz (aMax (aCons (eC (.int 1)) (aNil)))) (aCons (eNeg (eC (.int 1))) (aNil)))))))) (aNil)))))
    (sSeq (sIf (eB (eOp2 dNe (eCallL 1 (fun Λ => fnD 1 (b__law_refused Λ) 1) (fun n => List.lookup n [("law.0", lb_law_0), ("law.1", lb_law_1), ("law.2", lb_law_2)]) (aCons (eLam 0 "law" "law.0") (aNil))) (eTup (aCons (eC (.str [110, 117, 109, 98, 101, 114])) (aCons (eVar 10) (aNil)))))) (sRet (eC (.bl false))) (sPass))
    (sSeq (sIf (bAnd (eB (eOp2 dNe (eVar 10) (eNeg (eC (.int 1))))) (eB (eOp2 dNe (eCallL 1 (fun Λ => fnD 1 (b__law_refused Λ) 1) (fun n => List.lookup n [("law.0", lb_law_0), ("law.1", lb_law_1), ("law.2", lb_law_2)]) (aCons (eLam 0 "law" "law.1") (aNil))) (eTup (aCons (eC (.str [110, 117, 109, 98, 101, 114])) (aCons (eVar 10) (aNil))))))) (sRet (eC (.bl false))) (sPass))
    (sIf (bAnd (eB (eOp2 dNe (eVar 10) (eNeg (eC (.int 1))))) (eB (eOp2 dNe (eCallL 1 (fun Λ => fnD 1 (b__law_refused Λ) 1) (fun n => List.lookup n [("law.0", lb_law_0), ("law.1", lb_law_1), ("law.2", lb_law_2)]) (aCons (eLam 0 "law" "law.2") (aNil))) (eTup (aCons (eC (.str [110, 117, 109, 98, 101, 114])) (aCons (eVar 10) (aNil))))))) (sRet (eC (.bl false))) (sPass)))))))))))))))
def b_law : DStm := sSeq (sSet 1 (eCall 1 g__law_pen (aCons (eVar 0) (aNil))))
    (sSeq (sIf (bNot (eTru (eCall 1 g__law_near_right (aCons (eVar 1) (aNil))))) (sRet (eC (.bl false))) (sPass))
    (sSeq (sFor (itR1 (aCons (eOp2 dAdd (eC (.int 4)) (eCB (bMin2) (aCons (eC (.int 5)) (aCons (eCB (bLen) (aCons (eVar 0) (aNil))) (aNil))))) (aNil))) (gN 2) (w_law_2))
    (sRet (eC (.bl true)))))
def g_law : DFn := fnDL 1 b_law 11
structure Ev (w0 : World) (P : Program) (G : Gam) (mg : Str → Option Value) (base : Heap) where
  C_Place : Addr
  ct_Place : G.ct "Place" = some C_Place
  cl_Place : Cls G.K C_Place
  m_Place : mg "Place" = some (.ref C_Place)
  sf_Place : PySem.W.selfFirst G.K C_Place = true
  ne_Place : PySem.W.findIn G.K (.ref C_Place) "__ne__" = some (some (.builtin "object.__ne__"))
  mo_Place : PySem.W.mroIn G.K C_Place (.type "object") = some true
  na_Place_x : NoAttr G.K C_Place "x"
  na_Place_y : NoAttr G.K C_Place "y"
  na_Place_area : NoAttr G.K C_Place "area"
  C_BadNumber : Addr
  ct_BadNumber : G.ct "BadNumber" = some C_BadNumber
  m_BadNumber : mg "BadNumber" = some (.ref C_BadNumber)
  fI_BadNumber : Addr
  xfd_BadNumber : FuncData
  X_BadNumber : XFacts P G mg "BadNumber" C_BadNumber fI_BadNumber xfd_BadNumber "self" "value" "value"
  C_BadPlace : Addr
  ct_BadPlace : G.ct "BadPlace" = some C_BadPlace
  m_BadPlace : mg "BadPlace" = some (.ref C_BadPlace)
  fI_BadPlace : Addr
  xfd_BadPlace : FuncData
  X_BadPlace : XFacts P G mg "BadPlace" C_BadPlace fI_BadPlace xfd_BadPlace "self" "value" "value"
  xm_BadNumber_BadNumber : PySem.W.exmOne G.K (.ref C_BadNumber) (.ref C_BadNumber) = some true
  xm_BadPlace_BadNumber : PySem.W.exmOne G.K (.ref C_BadPlace) (.ref C_BadNumber) = some false
  a__law_draw : Addr
  fd__law_draw : FuncData
  F__law_draw : Fun G.K "_law_draw" "_law_draw" st__law_draw a__law_draw fd__law_draw
  b__law_draw : L2.Binds G.K fd__law_draw ["_law_pen_here", "_law_span"] []
  m__law_draw : mg "_law_draw" = some (.ref a__law_draw)
  a__law_pick : Addr
  fd__law_pick : FuncData
  F__law_pick : Fun G.K "_law_pick" "_law_pick" st__law_pick a__law_pick fd__law_pick
  b__law_pick : L2.Binds G.K fd__law_pick ["_law_pen_here", "_law_items"] []
  m__law_pick : mg "_law_pick" = some (.ref a__law_pick)
  a__law_great : Addr
  fd__law_great : FuncData
  F__law_great : Fun G.K "_law_great" "_law_great" st__law_great a__law_great fd__law_great
  b__law_great : L2.Binds G.K fd__law_great ["_law_pen_here", "_law_figures"] []
  m__law_great : mg "_law_great" = some (.ref a__law_great)
  a__law_signed : Addr
  fd__law_signed : FuncData
  F__law_signed : Fun G.K "_law_signed" "_law_signed" st__law_signed a__law_signed fd__law_signed
  b__law_signed : L2.Binds G.K fd__law_signed ["_law_pen_here", "_law_figures"] []
  m__law_signed : mg "_law_signed" = some (.ref a__law_signed)
  a__law_far : Addr
  fd__law_far : FuncData
  F__law_far : Fun G.K "_law_far" "_law_far" st__law_far a__law_far fd__law_far
  b__law_far : L2.Binds G.K fd__law_far ["_law_pen_here", "_law_figures"] []
  m__law_far : mg "_law_far" = some (.ref a__law_far)
  a_is_integer : Addr
  fd_is_integer : FuncData
  F_is_integer : Fun G.K "is_integer" "is_integer" st_is_integer a_is_integer fd_is_integer
  b_is_integer : L2.Binds G.K fd_is_integer ["value"] []
  m_is_integer : mg "is_integer" = some (.ref a_is_integer)
  a_PlaceX_initX : Addr
  fd_PlaceX_initX : FuncData
  F_PlaceX_initX : Fun G.K "__init__" "Place.__init__" st_PlaceX_initX a_PlaceX_initX fd_PlaceX_initX
  b_PlaceX_initX : L2.Binds G.K fd_PlaceX_initX ["self", "x", "y", "area"] []
  M_PlaceX_initX : Meth G.K C_Place "__init__" a_PlaceX_initX
  a_need_place : Addr
  fd_need_place : FuncData
  F_need_place : Fun G.K "need_place" "need_place" st_need_place a_need_place fd_need_place
  b_need_place : L2.Binds G.K fd_need_place ["value"] []
  m_need_place : mg "need_place" = some (.ref a_need_place)
  a_whole_root : Addr
  fd_whole_root : FuncData
  F_whole_root : Fun G.K "whole_root" "whole_root" st_whole_root a_whole_root fd_whole_root
  b_whole_root : L2.Binds G.K fd_whole_root ["number"] []
  m_whole_root : mg "whole_root" = some (.ref a_whole_root)
  a_steps_of : Addr
  fd_steps_of : FuncData
  F_steps_of : Fun G.K "steps_of" "steps_of" st_steps_of a_steps_of fd_steps_of
  b_steps_of : L2.Binds G.K fd_steps_of ["x", "y", "area"] []
  m_steps_of : mg "steps_of" = some (.ref a_steps_of)
  a_steps : Addr
  fd_steps : FuncData
  F_steps : Fun G.K "steps" "steps" st_steps a_steps fd_steps
  b_steps : L2.Binds G.K fd_steps ["place"] []
  m_steps : mg "steps" = some (.ref a_steps)
  a__law_is_told : Addr
  fd__law_is_told : FuncData
  F__law_is_told : Fun G.K "_law_is_told" "_law_is_told" st__law_is_told a__law_is_told fd__law_is_told
  b__law_is_told : L2.Binds G.K fd__law_is_told ["_law_x", "_law_y", "_law_area", "_law_number", "_law_shown"] []
  m__law_is_told : mg "_law_is_told" = some (.ref a__law_is_told)
  a__law_gone : Addr
  fd__law_gone : FuncData
  F__law_gone : Fun G.K "_law_gone" "_law_gone" st__law_gone a__law_gone fd__law_gone
  b__law_gone : L2.Binds G.K fd__law_gone ["_law_spot", "_law_letter", "_law_times"] []
  m__law_gone : mg "_law_gone" = some (.ref a__law_gone)
  a__law_ends : Addr
  fd__law_ends : FuncData
  F__law_ends : Fun G.K "_law_ends" "_law_ends" st__law_ends a__law_ends fd__law_ends
  b__law_ends : L2.Binds G.K fd__law_ends ["_law_number"] []
  m__law_ends : mg "_law_ends" = some (.ref a__law_ends)
  a_best_sides : Addr
  fd_best_sides : FuncData
  F_best_sides : Fun G.K "best_sides" "best_sides" st_best_sides a_best_sides fd_best_sides
  b_best_sides : L2.Binds G.K fd_best_sides ["x", "y", "extra"] []
  m_best_sides : mg "best_sides" = some (.ref a_best_sides)
  a_areas_of : Addr
  fd_areas_of : FuncData
  F_areas_of : Fun G.K "areas_of" "areas_of" st_areas_of a_areas_of fd_areas_of
  b_areas_of : L2.Binds G.K fd_areas_of ["x", "y", "number"] []
  m_areas_of : mg "areas_of" = some (.ref a_areas_of)
  a_is_whole : Addr
  fd_is_whole : FuncData
  F_is_whole : Fun G.K "is_whole" "is_whole" st_is_whole a_is_whole fd_is_whole
  b_is_whole : L2.Binds G.K fd_is_whole ["value", "least"] []
  m_is_whole : mg "is_whole" = some (.ref a_is_whole)
  a_areas : Addr
  fd_areas : FuncData
  F_areas : Fun G.K "areas" "areas" st_areas a_areas fd_areas
  b_areas : L2.Binds G.K fd_areas ["x", "y", "number"] []
  m_areas : mg "areas" = some (.ref a_areas)
  a__law_near_right : Addr
  fd__law_near_right : FuncData
  F__law_near_right : Fun G.K "_law_near_right" "_law_near_right" st__law_near_right a__law_near_right fd__law_near_right
  b__law_near_right : L2.Binds G.K fd__law_near_right ["_law_pen_here"] []
  m__law_near_right : mg "_law_near_right" = some (.ref a__law_near_right)
  a__law_pen : Addr
  fd__law_pen : FuncData
  F__law_pen : Fun G.K "_law_pen" "_law_pen" st__law_pen a__law_pen fd__law_pen
  b__law_pen : L2.Binds G.K fd__law_pen ["_law_script"] []
  m__law_pen : mg "_law_pen" = some (.ref a__law_pen)
  a__law_place : Addr
  fd__law_place : FuncData
  F__law_place : Fun G.K "_law_place" "_law_place" st__law_place a__law_place fd__law_place
  b__law_place : L2.Binds G.K fd__law_place ["_law_spot"] []
  m__law_place : mg "_law_place" = some (.ref a__law_place)
  a__law_refused : Addr
  fd__law_refused : FuncData
  F__law_refused : Fun G.K "_law_refused" "_law_refused" st__law_refused a__law_refused fd__law_refused
  b__law_refused : L2.Binds G.K fd__law_refused ["_law_deed"] []
  m__law_refused : mg "_law_refused" = some (.ref a__law_refused)
  a_law : Addr
  fd_law : FuncData
  F_law : Fun G.K "law" "law" st_law a_law fd_law
  b_law : L2.Binds G.K fd_law ["_law_script"] []
  m_law : mg "law" = some (.ref a_law)
  tc_law : Addr
  P_law : Addr
  cd_law : fd_law.code = .ref tc_law
  tb_law : LamX.TabB base mg tc_law P_law
  mk_Place : Mk G.K C_Place a_PlaceX_initX
  f_area : FldOk G ["Place"] [97, 114, 101, 97]
  f_x : FldOk G ["Place"] [120]
  f_y : FldOk G ["Place"] [121]
  z_abs : mg "abs" = none
  z_bool : mg "bool" = none
  z_int : mg "int" = none
  z_isinstance : mg "isinstance" = none
  z_len : mg "len" = none
  z_list : mg "list" = none
  z_max : mg "max" = none
  z_min : mg "min" = none
  z_range : mg "range" = none
  z_sorted : mg "sorted" = none
  z_tuple : mg "tuple" = none
  iso : IsOk G ["Place"]
  hs : G.hs = tupleKeyHash (mixKind P w0)
  tabs : G.tab = tabG [("law", P_law, ((envOfC "law" (defScope st_law) 0 0 .none).qual ++ "<lambda>"))]
def Ev.sw {w0 : World} {P : Program} {G : Gam} {mg : Str → Option Value} {base : Heap} (e : Ev w0 P G mg base) (lam : String → Addr → Wd → Prop) (lamM : ∀ (k : String) (f : Addr) (w w' : Wd), w.le w' → lam k f w → lam k f w') : Ev w0 P (G.sw lam lamM) mg base := {
  C_Place := e.C_Place
  ct_Place := e.ct_Place
  cl_Place := e.cl_Place
  m_Place := e.m_Place
  sf_Place := e.sf_Place
  ne_Place := e.ne_Place
  mo_Place := e.mo_Place
  na_Place_x := e.na_Place_x
  na_Place_y := e.na_Place_y
  na_Place_area := e.na_Place_area
  C_BadNumber := e.C_BadNumber
  ct_BadNumber := e.ct_BadNumber
  m_BadNumber := e.m_BadNumber
  fI_BadNumber := e.fI_BadNumber
  xfd_BadNumber := e.xfd_BadNumber
  X_BadNumber := ⟨⟨e.X_BadNumber.T.ct, e.X_BadNumber.T.ini, e.X_BadNumber.T.ty, e.X_BadNumber.T.cls⟩, e.X_BadNumber.I, e.X_BadNumber.F, e.X_BadNumber.B⟩
  C_BadPlace := e.C_BadPlace
  ct_BadPlace := e.ct_BadPlace
  m_BadPlace := e.m_BadPlace
  fI_BadPlace := e.fI_BadPlace
  xfd_BadPlace := e.xfd_BadPlace
  X_BadPlace := ⟨⟨e.X_BadPlace.T.ct, e.X_BadPlace.T.ini, e.X_BadPlace.T.ty, e.X_BadPlace.T.cls⟩, e.X_BadPlace.I, e.X_BadPlace.F, e.X_BadPlace.B⟩
  xm_BadNumber_BadNumber := e.xm_BadNumber_BadNumber
  xm_BadPlace_BadNumber := e.xm_BadPlace_BadNumber
  a__law_draw := e.a__law_draw
  fd__law_draw := e.fd__law_draw
  F__law_draw := e.F__law_draw
  b__law_draw := e.b__law_draw
  m__law_draw := e.m__law_draw
  a__law_pick := e.a__law_pick
  fd__law_pick := e.fd__law_pick
  F__law_pick := e.F__law_pick
  b__law_pick := e.b__law_pick
  m__law_pick := e.m__law_pick
  a__law_great := e.a__law_great
  fd__law_great := e.fd__law_great
  F__law_great := e.F__law_great
  b__law_great := e.b__law_great
  m__law_great := e.m__law_great
  a__law_signed := e.a__law_signed
  fd__law_signed := e.fd__law_signed
  F__law_signed := e.F__law_signed
  b__law_signed := e.b__law_signed
  m__law_signed := e.m__law_signed
  a__law_far := e.a__law_far
  fd__law_far := e.fd__law_far
  F__law_far := e.F__law_far
  b__law_far := e.b__law_far
  m__law_far := e.m__law_far
  a_is_integer := e.a_is_integer
  fd_is_integer := e.fd_is_integer
  F_is_integer := e.F_is_integer
  b_is_integer := e.b_is_integer
  m_is_integer := e.m_is_integer
  a_PlaceX_initX := e.a_PlaceX_initX
  fd_PlaceX_initX := e.fd_PlaceX_initX
  F_PlaceX_initX := e.F_PlaceX_initX
  b_PlaceX_initX := e.b_PlaceX_initX
  M_PlaceX_initX := e.M_PlaceX_initX
  a_need_place := e.a_need_place
  fd_need_place := e.fd_need_place
  F_need_place := e.F_need_place
  b_need_place := e.b_need_place
  m_need_place := e.m_need_place
  a_whole_root := e.a_whole_root
  fd_whole_root := e.fd_whole_root
  F_whole_root := e.F_whole_root
  b_whole_root := e.b_whole_root
  m_whole_root := e.m_whole_root
  a_steps_of := e.a_steps_of
  fd_steps_of := e.fd_steps_of
  F_steps_of := e.F_steps_of
  b_steps_of := e.b_steps_of
  m_steps_of := e.m_steps_of
  a_steps := e.a_steps
  fd_steps := e.fd_steps
  F_steps := e.F_steps
  b_steps := e.b_steps
  m_steps := e.m_steps
  a__law_is_told := e.a__law_is_told
  fd__law_is_told := e.fd__law_is_told
  F__law_is_told := e.F__law_is_told
  b__law_is_told := e.b__law_is_told
  m__law_is_told := e.m__law_is_told
  a__law_gone := e.a__law_gone
  fd__law_gone := e.fd__law_gone
  F__law_gone := e.F__law_gone
  b__law_gone := e.b__law_gone
  m__law_gone := e.m__law_gone
  a__law_ends := e.a__law_ends
  fd__law_ends := e.fd__law_ends
  F__law_ends := e.F__law_ends
  b__law_ends := e.b__law_ends
  m__law_ends := e.m__law_ends
  a_best_sides := e.a_best_sides
  fd_best_sides := e.fd_best_sides
  F_best_sides := e.F_best_sides
  b_best_sides := e.b_best_sides
  m_best_sides := e.m_best_sides
  a_areas_of := e.a_areas_of
  fd_areas_of := e.fd_areas_of
  F_areas_of := e.F_areas_of
  b_areas_of := e.b_areas_of
  m_areas_of := e.m_areas_of
  a_is_whole := e.a_is_whole
  fd_is_whole := e.fd_is_whole
  F_is_whole := e.F_is_whole
  b_is_whole := e.b_is_whole
  m_is_whole := e.m_is_whole
  a_areas := e.a_areas
  fd_areas := e.fd_areas
  F_areas := e.F_areas
  b_areas := e.b_areas
  m_areas := e.m_areas
  a__law_near_right := e.a__law_near_right
  fd__law_near_right := e.fd__law_near_right
  F__law_near_right := e.F__law_near_right
  b__law_near_right := e.b__law_near_right
  m__law_near_right := e.m__law_near_right
  a__law_pen := e.a__law_pen
  fd__law_pen := e.fd__law_pen
  F__law_pen := e.F__law_pen
  b__law_pen := e.b__law_pen
  m__law_pen := e.m__law_pen
  a__law_place := e.a__law_place
  fd__law_place := e.fd__law_place
  F__law_place := e.F__law_place
  b__law_place := e.b__law_place
  m__law_place := e.m__law_place
  a__law_refused := e.a__law_refused
  fd__law_refused := e.fd__law_refused
  F__law_refused := e.F__law_refused
  b__law_refused := e.b__law_refused
  m__law_refused := e.m__law_refused
  a_law := e.a_law
  fd_law := e.fd_law
  F_law := e.F_law
  b_law := e.b_law
  m_law := e.m_law
  tc_law := e.tc_law
  P_law := e.P_law
  cd_law := e.cd_law
  tb_law := e.tb_law
  mk_Place := e.mk_Place
  f_area := e.f_area
  f_x := e.f_x
  f_y := e.f_y
  z_abs := e.z_abs
  z_bool := e.z_bool
  z_int := e.z_int
  z_isinstance := e.z_isinstance
  z_len := e.z_len
  z_list := e.z_list
  z_max := e.z_max
  z_min := e.z_min
  z_range := e.z_range
  z_sorted := e.z_sorted
  z_tuple := e.z_tuple
  iso := ⟨e.iso.1, e.iso.2, e.iso.3⟩
  hs := e.hs
  tabs := e.tabs }
theorem Ev.kk {w0 : World} {P : Program} {G : Gam} {mg : Str → Option Value} {base : Heap} (e : Ev w0 P G mg base) : G.K = G.K := rfl
def T_law {w0 : World} {P : Program} {G : Gam} {mg : Str → Option Value} {base : Heap} (e : Ev w0 P G mg base) (L : Nat) : LamT := ⟨e.P_law, ((envOfC "law" (defScope st_law) 0 0 .none).qual ++ "<lambda>"), (envOfC "law" (defScope st_law) L 0 .none).cells, siteOf ["law.0", "law.1", "law.2"] st_law⟩
section
variable {P : Program} {w0 : World} {G : Gam} {mg : Str → Option Value} {base : Heap}
theorem ok__law_draw (e : Ev w0 P G mg base) : FnOk P w0 G.K mg base (L2.CX P w0) 1 e.a__law_draw e.fd__law_draw ["_law_pen_here", "_law_span"] (spG G 2 g__law_draw) :=
  fn_okD e.F__law_draw sc__law_draw rfl rfl fun cdv A outer s H E hr tk ps => pdss_cons (pds_if (ptd_cmp (opd_ge) (pd_dget (hu_of hr) (pd_var (pv 0)) (pd_str s_0) (fun _ _ => rfl)) (pd_var (pv 1)) (nomark _)) (pdss_cons (pds_set (i := 2) sc__law_draw.nd rfl (.inl rfl) (pd_op (opd_mod) (pd_callTy cd_int (by rfl) e.z_int (by decide +kernel) (pda_cons (pd_dget (hu_of hr) (pd_var (pv 0)) (pd_str s_0) (fun _ _ => rfl)) (pda_nil))) (pd_var (pv 1))))
    (pdss_cons (pds_dputC (hu_of hr) (pd_var (pv 0)) (pd_str s_0) (pd_op (opd_div) (pd_dget (hu_of hr) (pd_var (pv 0)) (pd_str s_0) (fun _ _ => rfl)) (pd_var (pv 1))))
    (pdss_one (pds_ret (pd_var (pv 2)))))) (pdss_nil))
    (pdss_cons (pds_set (i := 3) sc__law_draw.nd rfl (.inl rfl) (pd_dget (hu_of hr) (pd_var (pv 0)) (pd_str s_1) (fun _ _ => rfl)))
    (pdss_cons (pds_dputC (hu_of hr) (pd_var (pv 0)) (pd_str s_1) (pd_op (opd_addA e.kk) (pd_var (pv 3)) (pd_int)))
    (pdss_cons (pds_set (i := 4) sc__law_draw.nd rfl (.inl rfl) (pd_op (opd_addA e.kk) (pd_op (opd_mulA) (pd_int) (pd_var (pv 3))) (pd_int)))
    (pdss_cons (pds_if (ptd_cmp (opd_ne e.kk hr.units) (pd_dget (hu_of hr) (pd_var (pv 0)) (pd_str s_2) (fun _ _ => rfl)) (pdo_frz (pdo_lst (pda_nil))) (nomark _)) (pdss_one (pds_set (i := 4) sc__law_draw.nd rfl (.inl rfl) (pd_ix e.kk (pd_dget (hu_of hr) (pd_var (pv 0)) (pd_str s_2) (fun _ _ => rfl)) (pd_op (opd_mod) (pd_callTy cd_int (by rfl) e.z_int (by decide +kernel) (pda_cons (pd_var (pv 3)) (pda_nil))) (pd_callB (cd_len rfl) (by rfl) e.z_len (by decide +kernel) (pda_cons (pd_dget (hu_of hr) (pd_var (pv 0)) (pd_str s_2) (fun _ _ => rfl)) (pda_nil)))) (fun _ _ => rfl)))) (pdss_nil))
    (pdss_cons (pds_if ((pwd_and (ptd_cmp (opd_lt) (pd_var (pv 3)) (pd_callB (cd_len rfl) (by rfl) e.z_len (by decide +kernel) (pda_cons (pd_dget (hu_of hr) (pd_var (pv 0)) (pd_str s_2) (fun _ _ => rfl)) (pda_nil))) (nomark _)) (pwd_and1 (ptd_cmp (opd_ge) (pd_var (pv 4)) (pd_op (opd_pow) (pd_int) (pd_int)) (nomark _)))).pt) (pdss_cons (pds_dputC (hu_of hr) (pd_var (pv 0)) (pd_str s_0) (pd_op (opd_div) (pd_op (opd_sub) (pd_var (pv 4)) (pd_op (opd_pow) (pd_int) (pd_int))) (pd_var (pv 1))))
    (pdss_one (pds_ret (pd_op (opd_mod) (pd_callTy cd_int (by rfl) e.z_int (by decide +kernel) (pda_cons (pd_op (opd_sub) (pd_var (pv 4)) (pd_op (opd_pow) (pd_int) (pd_int))) (pda_nil))) (pd_var (pv 1)))))) (pdss_nil))
    (pdss_cons (pds_set (i := 5) sc__law_draw.nd rfl (.inl rfl) (pd_op (opd_addA e.kk) (pd_op (opd_mulA) (pd_op (opd_mod) (pd_callTy cd_int (by rfl) e.z_int (by decide +kernel) (pda_cons (pd_var (pv 4)) (pda_nil))) (pd_int)) (pd_int)) (pd_op (opd_mulA) (pd_op (opd_mulA) (pd_int) (pd_var (pv 3))) (pd_var (pv 3)))))
    (pdss_cons (pds_set (i := 5) sc__law_draw.nd rfl (.inl rfl) (pd_op (opd_mod) (pd_callTy cd_int (by rfl) e.z_int (by decide +kernel) (pda_cons (pd_op (opd_addA e.kk) (pd_op (opd_addA e.kk) (pd_var (pv 5)) (pd_op (opd_mulA) (pd_int) (pd_var (pv 3)))) (pd_int)) (pda_nil))) (pd_int)))
    (pdss_cons (pds_set (i := 5) sc__law_draw.nd rfl (.inl rfl) (pd_op (opd_mod) (pd_callTy cd_int (by rfl) e.z_int (by decide +kernel) (pda_cons (pd_op (opd_addA e.kk) (pd_op (opd_mulA) (pd_var (pv 5)) (pd_op (opd_addA e.kk) (pd_var (pv 5)) (pd_int))) (pd_op (opd_mulA) (pd_int) (pd_var (pv 3)))) (pda_nil))) (pd_int)))
    (pdss_one (pds_ret (pd_op (opd_mod) (pd_callTy cd_int (by rfl) e.z_int (by decide +kernel) (pda_cons (pd_op (opd_div) (pd_op (opd_mod) (pd_callTy cd_int (by rfl) e.z_int (by decide +kernel) (pda_cons (pd_op (opd_addA e.kk) (pd_op (opd_mulA) (pd_var (pv 5)) (pd_var (pv 5))) (pd_op (opd_mulA) (pd_int) (pd_var (pv 5)))) (pda_nil))) (pd_int)) (pd_int)) (pda_nil))) (pd_var (pv 1)))))))))))))
theorem ok__law_pick (e : Ev w0 P G mg base) : FnOk P w0 G.K mg base (L2.CX P w0) 3 e.a__law_pick e.fd__law_pick ["_law_pen_here", "_law_items"] (spG G 2 g__law_pick) :=
  fn_okD e.F__law_pick sc__law_pick rfl rfl fun cdv A outer s H E hr tk ps => pdss_one (pds_ret (pd_ix e.kk (pd_var (pv 1)) (pd_call (ok__law_draw e) (hr.mono (by decide)) (by rfl) e.m__law_draw e.F__law_draw.kp e.b__law_draw tk (pda_cons (pd_var (pv 0)) (pda_cons (pd_callB (cd_len rfl) (by rfl) e.z_len (by decide +kernel) (pda_cons (pd_var (pv 1)) (pda_nil))) (pda_nil)))) (fun _ _ => rfl)))
theorem ok__law_great (e : Ev w0 P G mg base) : FnOk P w0 G.K mg base (L2.CX P w0) 3 e.a__law_great e.fd__law_great ["_law_pen_here", "_law_figures"] (spG G 2 g__law_great) :=
  fn_okD e.F__law_great sc__law_great rfl rfl fun cdv A outer s H E hr tk ps => pdss_cons (pds_set (i := 2) sc__law_great.nd rfl (.inl rfl) (pd_int))
    (pdss_cons (pds_for ps rfl (pdi_range1 (by rfl) e.z_range (pda_cons (pd_op (opd_addA e.kk) (pd_int) (pd_call (ok__law_draw e) (hr.mono (by decide)) (by rfl) e.m__law_draw e.F__law_draw.kp e.b__law_draw tk (pda_cons (pd_var (pv 0)) (pda_cons (pd_op (opd_div) (pd_var (pv 1)) (pd_int)) (pda_nil))))) (pda_nil))) (pdg_name (i := 3) sc__law_great.nd rfl (.inl rfl)) (pdss_one (pds_set (i := 2) sc__law_great.nd rfl (.inl rfl) (pd_op (opd_addA e.kk) (pd_op (opd_mulA) (pd_var (pv 2)) (pd_op (opd_pow) (pd_int) (pd_int))) (pd_call (ok__law_draw e) (hr.mono (by decide)) (by rfl) e.m__law_draw e.F__law_draw.kp e.b__law_draw tk (pda_cons (pd_var (pv 0)) (pda_cons (pd_op (opd_pow) (pd_int) (pd_int)) (pda_nil))))))))
    (pdss_one (pds_ret (pd_var (pv 2)))))
theorem ok__law_signed (e : Ev w0 P G mg base) : FnOk P w0 G.K mg base (L2.CX P w0) 5 e.a__law_signed e.fd__law_signed ["_law_pen_here", "_law_figures"] (spG G 2 g__law_signed) :=
  fn_okD e.F__law_signed sc__law_signed rfl rfl fun cdv A outer s H E hr tk ps => pdss_cons (pds_set (i := 2) sc__law_signed.nd rfl (.inl rfl) (pd_ifExp ((pwd_or (ptd_cmp (opd_lt) (pd_var (pv 1)) (pd_int) (nomark _)) (pwd_or1 (ptd_cmp (opd_eq e.kk hr.units) (pd_call (ok__law_draw e) (hr.mono (by decide)) (by rfl) e.m__law_draw e.F__law_draw.kp e.b__law_draw tk (pda_cons (pd_var (pv 0)) (pda_cons (pd_int) (pda_nil)))) (pd_int) (nomark _)))).pt) (pd_call (ok__law_draw e) (hr.mono (by decide)) (by rfl) e.m__law_draw e.F__law_draw.kp e.b__law_draw tk (pda_cons (pd_var (pv 0)) (pda_cons (pd_int) (pda_nil)))) (pd_call (ok__law_great e) (hr.mono (by decide)) (by rfl) e.m__law_great e.F__law_great.kp e.b__law_great tk (pda_cons (pd_var (pv 0)) (pda_cons (pd_var (pv 1)) (pda_nil))))))
    (pdss_one (pds_ret (pd_ifExp (ptd_cmp (opd_eq e.kk hr.units) (pd_call (ok__law_draw e) (hr.mono (by decide)) (by rfl) e.m__law_draw e.F__law_draw.kp e.b__law_draw tk (pda_cons (pd_var (pv 0)) (pda_cons (pd_int) (pda_nil)))) (pd_int) (nomark _)) (pd_var (pv 2)) (pd_neg (pd_var (pv 2))))))
theorem ok__law_far (e : Ev w0 P G mg base) : FnOk P w0 G.K mg base (L2.CX P w0) 7 e.a__law_far e.fd__law_far ["_law_pen_here", "_law_figures"] (spG G 2 g__law_far) :=
  fn_okD e.F__law_far sc__law_far rfl rfl fun cdv A outer s H E hr tk ps => pdss_cons (pds_par (i := 2) (j := 3) rfl sc__law_far.nd rfl rfl (by decide) rfl rfl (pda_cons (pd_call (ok__law_signed e) (hr.mono (by decide)) (by rfl) e.m__law_signed e.F__law_signed.kp e.b__law_signed tk (pda_cons (pd_var (pv 0)) (pda_cons (pd_var (pv 1)) (pda_nil)))) (pda_cons (pd_call (ok__law_signed e) (hr.mono (by decide)) (by rfl) e.m__law_signed e.F__law_signed.kp e.b__law_signed tk (pda_cons (pd_var (pv 0)) (pda_cons (pd_var (pv 1)) (pda_nil)))) (pda_nil))) (by rfl))
    (pdss_cons (pds_set (i := 4) sc__law_far.nd rfl (.inl rfl) (pd_call (ok__law_draw e) (hr.mono (by decide)) (by rfl) e.m__law_draw e.F__law_draw.kp e.b__law_draw tk (pda_cons (pd_var (pv 0)) (pda_cons (pd_int) (pda_nil)))))
    (pdss_cons (pds_if (ptd_cmp (opd_eq e.kk hr.units) (pd_var (pv 4)) (pd_int) (nomark _)) (pdss_one (pds_ret (pd_tup (pda_cons (pd_var (pv 2)) (pda_cons (pd_var (pv 3)) (pda_cons (pd_call (ok__law_signed e) (hr.mono (by decide)) (by rfl) e.m__law_signed e.F__law_signed.kp e.b__law_signed tk (pda_cons (pd_var (pv 0)) (pda_cons (pd_op (opd_mulA) (pd_int) (pd_var (pv 1))) (pda_nil)))) (pda_nil))))))) (pdss_nil))
    (pdss_cons (pds_par (i := 5) (j := 6) rfl sc__law_far.nd rfl rfl (by decide) rfl rfl (pda_cons (pd_op (opd_addA e.kk) (pd_callB cd_abs (by rfl) e.z_abs (by decide +kernel) (pda_cons (pd_var (pv 2)) (pda_nil))) (pd_call (ok__law_draw e) (hr.mono (by decide)) (by rfl) e.m__law_draw e.F__law_draw.kp e.b__law_draw tk (pda_cons (pd_var (pv 0)) (pda_cons (pd_int) (pda_nil))))) (pda_cons (pd_op (opd_addA e.kk) (pd_callB cd_abs (by rfl) e.z_abs (by decide +kernel) (pda_cons (pd_var (pv 3)) (pda_nil))) (pd_call (ok__law_draw e) (hr.mono (by decide)) (by rfl) e.m__law_draw e.F__law_draw.kp e.b__law_draw tk (pda_cons (pd_var (pv 0)) (pda_cons (pd_int) (pda_nil))))) (pda_nil))) (by rfl))
    (pdss_cons (pds_if (ptd_cmp (opd_gt) (pd_var (pv 4)) (pd_int) (nomark _)) (pdss_one (pds_par (i := 5) (j := 6) rfl sc__law_far.nd rfl rfl (by decide) rfl rfl (pda_cons (pd_op (opd_addA e.kk) (pd_callB (cd_max2 rfl) (by rfl) e.z_max (by decide +kernel) (pda_cons (pd_var (pv 5)) (pda_cons (pd_var (pv 6)) (pda_nil)))) (pd_call (ok__law_draw e) (hr.mono (by decide)) (by rfl) e.m__law_draw e.F__law_draw.kp e.b__law_draw tk (pda_cons (pd_var (pv 0)) (pda_cons (pd_int) (pda_nil))))) (pda_cons (pd_callB (cd_max2 rfl) (by rfl) e.z_max (by decide +kernel) (pda_cons (pd_var (pv 5)) (pda_cons (pd_var (pv 6)) (pda_nil)))) (pda_nil))) (by rfl))) (pdss_nil))
    (pdss_cons (pds_set (i := 7) sc__law_far.nd rfl (.inl rfl) (pd_op (opd_sub) (pd_op (opd_addA e.kk) (pd_op (opd_mulA) (pd_var (pv 5)) (pd_var (pv 6))) (pd_call (ok__law_draw e) (hr.mono (by decide)) (by rfl) e.m__law_draw e.F__law_draw.kp e.b__law_draw tk (pda_cons (pd_var (pv 0)) (pda_cons (pd_int) (pda_nil))))) (pd_int)))
    (pdss_one (pds_ret (pd_tup (pda_cons (pd_var (pv 2)) (pda_cons (pd_var (pv 3)) (pda_cons (pd_call (ok__law_pick e) (hr.mono (by decide)) (by rfl) e.m__law_pick e.F__law_pick.kp e.b__law_pick tk (pda_cons (pd_var (pv 0)) (pda_cons (pdo_frz (pdo_lst (pda_cons (pd_var (pv 7)) (pda_cons (pd_op (opd_sub) (pd_op (opd_mulA) (pd_var (pv 2)) (pd_var (pv 3))) (pd_var (pv 7))) (pda_nil))))) (pda_nil)))) (pda_nil))))))))))))
theorem ok_is_integer (e : Ev w0 P G mg base) : FnOk P w0 G.K mg base (L2.CX P w0) 1 e.a_is_integer e.fd_is_integer ["value"] (spG G 1 g_is_integer) :=
  fn_okD e.F_is_integer sc_is_integer rfl rfl fun cdv A outer s H E hr tk ps => pdss_one (pds_ret (pd_andT e.kk (pd_callB (cd_isi rfl e.iso) (by rfl) e.z_isinstance (by decide +kernel) (pda_cons (pd_var (pv 0)) (pda_cons (pd_bltn (by rfl) e.z_int boot_int) (pda_nil)))) (pd_one (pd_notT e.kk (pd_callB (cd_isi rfl e.iso) (by rfl) e.z_isinstance (by decide +kernel) (pda_cons (pd_var (pv 0)) (pda_cons (pd_bltn (by rfl) e.z_bool boot_bool) (pda_nil))))))))
theorem ok_PlaceX_initX (e : Ev w0 P G mg base) : FnOk P w0 G.K mg base (L2.CX P w0) 3 e.a_PlaceX_initX e.fd_PlaceX_initX ["self", "x", "y", "area"] (spI G "Place" 3 g_PlaceX_initX) :=
  in_okD e.F_PlaceX_initX sc_PlaceX_initX rfl rfl fun cdv A outer s H E hr tk ps => pdss_cons (pds_for ps rfl (pdi_seq rfl (pd_tup (pda_cons (pd_var (pv 1)) (pda_cons (pd_var (pv 2)) (pda_cons (pd_var (pv 3)) (pda_nil)))))) (pdg_name (i := 4) sc_PlaceX_initX.nd rfl (.inl rfl)) (pdss_one (pds_if (ptd_not (ptd_truth e.kk (pd_call (ok_is_integer e) (hr.mono (by decide)) (by rfl) e.m_is_integer e.F_is_integer.kp e.b_is_integer tk (pda_cons (pd_var (pv 4)) (pda_nil))))) (pdss_one (pds_raise rfl tk e.X_BadNumber.T e.X_BadNumber.I s_3 e.X_BadNumber.B (hr.mono (by decide)) (by rfl) e.m_BadNumber (pda_cons (pd_var (pv 4)) (pda_nil)))) (pdss_nil))))
    (pdss_cons (pds_fld rfl (pv 0) s_4 e.ct_Place e.cl_Place (e.na_Place_x) (pd_var (pv 1)))
    (pdss_cons (pds_fld rfl (pv 0) s_5 e.ct_Place e.cl_Place (e.na_Place_y) (pd_var (pv 2)))
    (pdss_one (pds_fld rfl (pv 0) s_6 e.ct_Place e.cl_Place (e.na_Place_area) (pd_var (pv 3))))))
theorem ok_need_place (e : Ev w0 P G mg base) : FnOk P w0 G.K mg base (L2.CX P w0) 3 e.a_need_place e.fd_need_place ["value"] (spG G 1 g_need_place) :=
  fn_okD e.F_need_place sc_need_place rfl rfl fun cdv A outer s H E hr tk ps => pdss_one (pds_if (ptd_not (ptd_truth e.kk (pd_callB (cd_isi rfl e.iso) (by rfl) e.z_isinstance (by decide +kernel) (pda_cons (pd_var (pv 0)) (pda_cons (pd_cls (by rfl) e.m_Place e.ct_Place) (pda_nil)))))) (pdss_one (pds_raise rfl tk e.X_BadPlace.T e.X_BadPlace.I s_3 e.X_BadPlace.B (hr.mono (by decide)) (by rfl) e.m_BadPlace (pda_cons (pd_var (pv 0)) (pda_nil)))) (pdss_nil))
theorem ok_whole_root (e : Ev w0 P G mg base) : FnOk P w0 G.K mg base (L2.CX P w0) 1 e.a_whole_root e.fd_whole_root ["number"] (spG G 1 g_whole_root) :=
  fn_okD e.F_whole_root sc_whole_root rfl rfl fun cdv A outer s H E hr tk ps => pdss_cons (pds_if (ptd_cmp (opd_lt) (pd_var (pv 0)) (pd_int) (nomark _)) (pdss_one (pds_ret (pd_var (pv 0)))) (pdss_nil))
    (pdss_cons (pds_set (i := 1) sc_whole_root.nd rfl (.inl rfl) (pd_op (opd_shl) (pd_int) (pd_op (opd_div) (pd_op (opd_addA e.kk) (pd_bits (pd_var (pv 0))) (pd_int)) (pd_int))))
    (pdss_one (pds_while ps (ptd_truth e.kk (pd_bl)) (pdss_cons (pds_set (i := 2) sc_whole_root.nd rfl (.inl rfl) (pd_op (opd_div) (pd_op (opd_addA e.kk) (pd_var (pv 1)) (pd_op (opd_div) (pd_var (pv 0)) (pd_var (pv 1)))) (pd_int)))
    (pdss_cons (pds_if (ptd_cmp (opd_ge) (pd_var (pv 2)) (pd_var (pv 1)) (nomark _)) (pdss_one (pds_ret (pd_var (pv 1)))) (pdss_nil))
    (pdss_one (pds_set (i := 1) sc_whole_root.nd rfl (.inl rfl) (pd_var (pv 2)))))))))
theorem ok_steps_of (e : Ev w0 P G mg base) : FnOk P w0 G.K mg base (L2.CX P w0) 3 e.a_steps_of e.fd_steps_of ["x", "y", "area"] (spG G 3 g_steps_of) :=
  fn_okD e.F_steps_of sc_steps_of rfl rfl fun cdv A outer s H E hr tk ps => pdss_cons (pds_set (i := 3) sc_steps_of.nd rfl (.inl rfl) (pd_op (opd_div) (pd_op (opd_addA e.kk) (pd_callB cd_abs (by rfl) e.z_abs (by decide +kernel) (pda_cons (pd_op (opd_sub) (pd_op (opd_mulA) (pd_int) (pd_var (pv 2))) (pd_op (opd_mulA) (pd_var (pv 0)) (pd_var (pv 1)))) (pda_nil))) (pd_callB cd_abs (by rfl) e.z_abs (by decide +kernel) (pda_cons (pd_op (opd_mulA) (pd_var (pv 0)) (pd_var (pv 1))) (pda_nil)))) (pd_int)))
    (pdss_cons (pds_par (i := 0) (j := 1) rfl sc_steps_of.nd rfl rfl (by decide) rfl rfl (pda_cons (pd_callB cd_abs (by rfl) e.z_abs (by decide +kernel) (pda_cons (pd_var (pv 0)) (pda_nil))) (pda_cons (pd_callB cd_abs (by rfl) e.z_abs (by decide +kernel) (pda_cons (pd_var (pv 1)) (pda_nil))) (pda_nil))) (by rfl))
    (pdss_cons (pds_asg (pd_ifExp (ptd_cmp (opd_ge) (pd_var (pv 0)) (pd_var (pv 1)) (nomark _)) (pd_tup (pda_cons (pd_var (pv 0)) (pda_cons (pd_var (pv 1)) (pda_nil)))) (pd_tup (pda_cons (pd_var (pv 1)) (pda_cons (pd_var (pv 0)) (pda_nil))))) (pdg_tup rfl rfl (pdgs_cons (pdg_name (i := 4) sc_steps_of.nd rfl (.inl rfl)) (pdgs_cons (pdg_name (i := 5) sc_steps_of.nd rfl (.inl rfl)) (pdgs_nil)))))
    (pdss_cons (pds_if (ptd_cmp (opd_le) (pd_var (pv 3)) (pd_op (opd_mulA) (pd_var (pv 4)) (pd_var (pv 5))) (nomark _)) (pdss_one (pds_ret (pd_op (opd_addA e.kk) (pd_var (pv 4)) (pd_var (pv 5))))) (pdss_nil))
    (pdss_cons (pds_if (ptd_cmp (opd_le) (pd_var (pv 3)) (pd_op (opd_mulA) (pd_var (pv 4)) (pd_var (pv 4))) (nomark _)) (pdss_one (pds_ret (pd_op (opd_sub) (pd_op (opd_addA e.kk) (pd_op (opd_mulA) (pd_int) (pd_neg (pd_op (opd_div) (pd_neg (pd_var (pv 3))) (pd_var (pv 4))))) (pd_var (pv 4))) (pd_var (pv 5))))) (pdss_nil))
    (pdss_cons (pds_set (i := 6) sc_steps_of.nd rfl (.inl rfl) (pd_call (ok_whole_root e) (hr.mono (by decide)) (by rfl) e.m_whole_root e.F_whole_root.kp e.b_whole_root tk (pda_cons (pd_op (opd_mulA) (pd_int) (pd_var (pv 3))) (pda_nil))))
    (pdss_one (pds_ret (pd_op (opd_sub) (pd_op (opd_sub) (pd_op (opd_mulA) (pd_int) (pd_ifExp (ptd_cmp (opd_eq e.kk hr.units) (pd_op (opd_mulA) (pd_var (pv 6)) (pd_var (pv 6))) (pd_op (opd_mulA) (pd_int) (pd_var (pv 3))) (nomark _)) (pd_var (pv 6)) (pd_op (opd_addA e.kk) (pd_var (pv 6)) (pd_int)))) (pd_var (pv 4))) (pd_var (pv 5))))))))))
theorem ok_steps (e : Ev w0 P G mg base) : FnOk P w0 G.K mg base (L2.CX P w0) 5 e.a_steps e.fd_steps ["place"] (spG G 1 g_steps) :=
  fn_okD e.F_steps sc_steps rfl rfl fun cdv A outer s H E hr tk ps => pdss_cons (pds_expr (pd_call (ok_need_place e) (hr.mono (by decide)) (by rfl) e.m_need_place e.F_need_place.kp e.b_need_place tk (pda_cons (pd_var (pv 0)) (pda_nil))))
    (pdss_one (pds_ret (pd_call (ok_steps_of e) (hr.mono (by decide)) (by rfl) e.m_steps_of e.F_steps_of.kp e.b_steps_of tk (pda_cons (pd_fld rfl s_4 e.f_x (pd_var (pv 0))) (pda_cons (pd_fld rfl s_5 e.f_y (pd_var (pv 0))) (pda_cons (pd_fld rfl s_6 e.f_area (pd_var (pv 0))) (pda_nil)))))))
theorem ok__law_is_told (e : Ev w0 P G mg base) : FnOk P w0 G.K mg base (L2.CX P w0) 7 e.a__law_is_told e.fd__law_is_told ["_law_x", "_law_y", "_law_area", "_law_number", "_law_shown"] (spG G 5 g__law_is_told) :=
  fn_okD e.F__law_is_told sc__law_is_told rfl rfl fun cdv A outer s H E hr tk ps => pdss_cons (pds_set (i := 5) sc__law_is_told.nd rfl (.inl rfl) (pd_call (ok_steps e) (hr.mono (by decide)) (by rfl) e.m_steps e.F_steps.kp e.b_steps tk (pda_cons (pd_make e.mk_Place e.ct_Place (ok_PlaceX_initX e) (hr.mono (by decide)) (by rfl) e.m_Place e.b_PlaceX_initX tk (pda_cons (pd_var (pv 0)) (pda_cons (pd_var (pv 1)) (pda_cons (pd_var (pv 2)) (pda_nil))))) (pda_nil))))
    (pdss_cons (pds_set (i := 6) sc__law_is_told.nd rfl (.inl rfl) (pd_andT e.kk (pd_cmp (opd_le) (pd_var (pv 5)) (pd_var (pv 3)) (nomark _)) (pd_one (pd_cmp (opd_eq e.kk hr.units) (pd_op (opd_mod) (pd_callTy cd_int (by rfl) e.z_int (by decide +kernel) (pda_cons (pd_op (opd_sub) (pd_var (pv 3)) (pd_var (pv 5))) (pda_nil))) (pd_int)) (pd_int) (nomark _)))))
    (pdss_one (pds_ret (pd_cmp (opd_eq e.kk hr.units) (pd_var (pv 6)) (pd_andT e.kk (pd_cmp (opd_notN) (pd_var (pv 4)) (pd_non) (nomark _)) (pd_one (pd_chain (opd_le) (opd_le) (pd_ix e.kk (pd_var (pv 4)) (pd_int) (fun _ _ => rfl)) (pd_var (pv 2)) (pd_ix e.kk (pd_var (pv 4)) (pd_int) (fun _ _ => rfl)) (fun h1 h2 h3 h4 h5 => pe_chain h1 h2 h3 h4 h5)))) (nomark _)))))
theorem ok__law_gone (e : Ev w0 P G mg base) : FnOk P w0 G.K mg base (L2.CX P w0) 1 e.a__law_gone e.fd__law_gone ["_law_spot", "_law_letter", "_law_times"] (spG G 3 g__law_gone) :=
  fn_okD e.F__law_gone sc__law_gone rfl rfl fun cdv A outer s H E hr tk ps => pdss_cons (pds_asg (pd_var (pv 0)) (pdg_tup rfl rfl (pdgs_cons (pdg_name (i := 3) sc__law_gone.nd rfl (.inl rfl)) (pdgs_cons (pdg_name (i := 4) sc__law_gone.nd rfl (.inl rfl)) (pdgs_cons (pdg_name (i := 5) sc__law_gone.nd rfl (.inl rfl)) (pdgs_nil))))))
    (pdss_cons (pds_if (ptd_cmp (opd_in e.kk (room65 hr)) (pd_var (pv 1)) (pd_str s_7) (by rfl)) (pdss_one (pds_ret (pd_tup (pda_cons (pd_op (opd_addA e.kk) (pd_var (pv 3)) (pd_ifExp (ptd_cmp (opd_eq e.kk hr.units) (pd_var (pv 1)) (pd_str s_8) (nomark _)) (pd_var (pv 2)) (pd_neg (pd_var (pv 2))))) (pda_cons (pd_var (pv 4)) (pda_cons (pd_var (pv 5)) (pda_nil))))))) (pdss_nil))
    (pdss_cons (pds_if (ptd_cmp (opd_eq e.kk hr.units) (pd_var (pv 1)) (pd_str s_9) (nomark _)) (pdss_one (pds_ret (pd_tup (pda_cons (pd_var (pv 3)) (pda_cons (pd_op (opd_addA e.kk) (pd_var (pv 4)) (pd_var (pv 2))) (pda_cons (pd_op (opd_addA e.kk) (pd_var (pv 5)) (pd_op (opd_mulA) (pd_var (pv 3)) (pd_var (pv 2)))) (pda_nil))))))) (pdss_nil))
    (pdss_one (pds_ret (pd_tup (pda_cons (pd_var (pv 3)) (pda_cons (pd_op (opd_sub) (pd_var (pv 4)) (pd_var (pv 2))) (pda_cons (pd_op (opd_sub) (pd_var (pv 5)) (pd_op (opd_mulA) (pd_var (pv 3)) (pd_var (pv 2)))) (pda_nil)))))))))
theorem ok__law_ends (e : Ev w0 P G mg base) : FnOk P w0 G.K mg base (L2.CX P w0) 3 e.a__law_ends e.fd__law_ends ["_law_number"] (spG G 1 g__law_ends) :=
  fn_okD e.F__law_ends sc__law_ends rfl rfl fun cdv A outer s H E hr tk ps => pdss_cons (pds_setOt (i := 1) sc__law_ends.nd rfl (.inl rfl) (pdot_one (hu_of hr) e.kk (hs_of e.hs (by rfl) (by rfl)) (pd_tup (pda_cons (pd_int) (pda_cons (pd_int) (pda_cons (pd_int) (pda_nil))))) (pd_bl)))
    (pdss_cons (pds_for ps rfl (pdi_range1 (by rfl) e.z_range (pda_cons (pd_var (pv 0)) (pda_nil))) (pdg_name (i := 2) sc__law_ends.nd rfl (.inl rfl)) (pdss_cons (pds_setOt (i := 3) sc__law_ends.nd rfl (.inl rfl) (pdot_new))
    (pdss_cons (pds_for ps rfl (pdi_dct (pd_var (pv 1))) (pdg_name (i := 4) sc__law_ends.nd rfl (.inl rfl)) (pdss_one (pds_for ps rfl (pdi_seq rfl (pd_str s_10)) (pdg_name (i := 5) sc__law_ends.nd rfl (.inl rfl)) (pdss_one (pds_tput (hu_of hr) e.kk (hs_of e.hs (by rfl) (by rfl)) (pv 3) (pd_call (ok__law_gone e) (hr.mono (by decide)) (by rfl) e.m__law_gone e.F__law_gone.kp e.b__law_gone tk (pda_cons (pd_var (pv 4)) (pda_cons (pd_var (pv 5)) (pda_cons (pd_int) (pda_nil))))) (pd_bl))))))
    (pdss_one (pds_set (i := 1) sc__law_ends.nd rfl (.inl rfl) (pd_var (pv 3)))))))
    (pdss_cons (pds_setOt (i := 6) sc__law_ends.nd rfl (.inl rfl) (pdot_new))
    (pdss_cons (pds_for ps rfl (pdi_dct (pd_var (pv 1))) (pdg_tup rfl rfl (pdgs_cons (pdg_name (i := 7) sc__law_ends.nd rfl (.inl rfl)) (pdgs_cons (pdg_name (i := 8) sc__law_ends.nd rfl (.inl rfl)) (pdgs_cons (pdg_name (i := 9) sc__law_ends.nd rfl (.inl rfl)) (pdgs_nil))))) (pdss_one (pds_tput (hu_of hr) e.kk (hs_of e.hs (by rfl) (by rfl)) (pv 6) (pd_tup (pda_cons (pd_var (pv 7)) (pda_cons (pd_var (pv 8)) (pda_nil)))) (pd_op (opd_addA e.kk) (pd_tget2 (hu_of hr) e.kk (hs_of e.hs (by rfl) (by rfl)) (pv 6) (pd_tup (pda_cons (pd_var (pv 7)) (pda_cons (pd_var (pv 8)) (pda_nil)))) (pdo_frz (pdo_lst (pda_nil))) ⟨rfl, rfl, rfl, rfl⟩) (pdo_frz (pdo_lst (pda_cons (pd_var (pv 9)) (pda_nil))))))))
    (pdss_one (pds_ret (pd_var (pv 6)))))))
theorem ok_best_sides (e : Ev w0 P G mg base) : FnOk P w0 G.K mg base (L2.CX P w0) 1 e.a_best_sides e.fd_best_sides ["x", "y", "extra"] (spG G 3 g_best_sides) :=
  fn_okD e.F_best_sides sc_best_sides rfl rfl fun cdv A outer s H E hr tk ps => pdss_cons (pds_if (ptd_cmp (opd_le) (pd_var (pv 2)) (pd_callB cd_abs (by rfl) e.z_abs (by decide +kernel) (pda_cons (pd_op (opd_sub) (pd_var (pv 0)) (pd_var (pv 1))) (pda_nil))) (nomark _)) (pdss_one (pds_ret (pd_ifExp (ptd_cmp (opd_ge) (pd_var (pv 0)) (pd_var (pv 1)) (nomark _)) (pd_tup (pda_cons (pd_var (pv 0)) (pda_cons (pd_op (opd_addA e.kk) (pd_var (pv 1)) (pd_var (pv 2))) (pda_nil)))) (pd_tup (pda_cons (pd_op (opd_addA e.kk) (pd_var (pv 0)) (pd_var (pv 2))) (pda_cons (pd_var (pv 1)) (pda_nil))))))) (pdss_nil))
    (pdss_one (pds_ret (pd_tup (pda_cons (pd_op (opd_div) (pd_op (opd_addA e.kk) (pd_op (opd_addA e.kk) (pd_op (opd_addA e.kk) (pd_var (pv 0)) (pd_var (pv 1))) (pd_var (pv 2))) (pd_int)) (pd_int)) (pda_cons (pd_op (opd_div) (pd_op (opd_addA e.kk) (pd_op (opd_addA e.kk) (pd_var (pv 0)) (pd_var (pv 1))) (pd_var (pv 2))) (pd_int)) (pda_nil))))))
theorem ok_areas_of (e : Ev w0 P G mg base) : FnOk P w0 G.K mg base (L2.CX P w0) 3 e.a_areas_of e.fd_areas_of ["x", "y", "number"] (spG G 3 g_areas_of) :=
  fn_okD e.F_areas_of sc_areas_of rfl rfl fun cdv A outer s H E hr tk ps => pdss_cons (pds_set (i := 3) sc_areas_of.nd rfl (.inl rfl) (pd_op (opd_sub) (pd_op (opd_sub) (pd_var (pv 2)) (pd_callB cd_abs (by rfl) e.z_abs (by decide +kernel) (pda_cons (pd_var (pv 0)) (pda_nil)))) (pd_callB cd_abs (by rfl) e.z_abs (by decide +kernel) (pda_cons (pd_var (pv 1)) (pda_nil)))))
    (pdss_cons (pds_if ((pwd_or (ptd_cmp (opd_lt) (pd_var (pv 3)) (pd_int) (nomark _)) (pwd_or1 (ptd_cmp (opd_eq e.kk hr.units) (pd_op (opd_mod) (pd_var (pv 3)) (pd_int)) (pd_int) (nomark _)))).pt) (pdss_one (pds_ret (pd_non))) (pdss_nil))
    (pdss_cons (pds_asg (pd_call (ok_best_sides e) (hr.mono (by decide)) (by rfl) e.m_best_sides e.F_best_sides.kp e.b_best_sides tk (pda_cons (pd_callB cd_abs (by rfl) e.z_abs (by decide +kernel) (pda_cons (pd_var (pv 0)) (pda_nil))) (pda_cons (pd_callB cd_abs (by rfl) e.z_abs (by decide +kernel) (pda_cons (pd_var (pv 1)) (pda_nil))) (pda_cons (pd_op (opd_div) (pd_var (pv 3)) (pd_int)) (pda_nil))))) (pdg_tup rfl rfl (pdgs_cons (pdg_name (i := 4) sc_areas_of.nd rfl (.inl rfl)) (pdgs_cons (pdg_name (i := 5) sc_areas_of.nd rfl (.inl rfl)) (pdgs_nil)))))
    (pdss_cons (pds_set (i := 6) sc_areas_of.nd rfl (.inl rfl) (pd_op (opd_sub) (pd_op (opd_mulA) (pd_op (opd_mulA) (pd_int) (pd_var (pv 4))) (pd_var (pv 5))) (pd_callB cd_abs (by rfl) e.z_abs (by decide +kernel) (pda_cons (pd_op (opd_mulA) (pd_var (pv 0)) (pd_var (pv 1))) (pda_nil)))))
    (pdss_one (pds_ret (pd_tup (pda_cons (pd_op (opd_div) (pd_op (opd_sub) (pd_op (opd_mulA) (pd_var (pv 0)) (pd_var (pv 1))) (pd_var (pv 6))) (pd_int)) (pda_cons (pd_op (opd_div) (pd_op (opd_addA e.kk) (pd_op (opd_mulA) (pd_var (pv 0)) (pd_var (pv 1))) (pd_var (pv 6))) (pd_int)) (pda_nil)))))))))
theorem ok_is_whole (e : Ev w0 P G mg base) : FnOk P w0 G.K mg base (L2.CX P w0) 3 e.a_is_whole e.fd_is_whole ["value", "least"] (spG G 2 g_is_whole) :=
  fn_okD e.F_is_whole sc_is_whole rfl rfl fun cdv A outer s H E hr tk ps => pdss_one (pds_ret (pd_andT e.kk (pd_call (ok_is_integer e) (hr.mono (by decide)) (by rfl) e.m_is_integer e.F_is_integer.kp e.b_is_integer tk (pda_cons (pd_var (pv 0)) (pda_nil))) (pd_one (pd_cmp (opd_ge) (pd_var (pv 0)) (pd_var (pv 1)) (nomark _)))))
theorem ok_areas (e : Ev w0 P G mg base) : FnOk P w0 G.K mg base (L2.CX P w0) 5 e.a_areas e.fd_areas ["x", "y", "number"] (spG G 3 g_areas) :=
  fn_okD e.F_areas sc_areas rfl rfl fun cdv A outer s H E hr tk ps => pdss_cons (pds_for ps rfl (pdi_seq rfl (pd_tup (pda_cons (pd_var (pv 0)) (pda_cons (pd_var (pv 1)) (pda_nil))))) (pdg_name (i := 3) sc_areas.nd rfl (.inl rfl)) (pdss_one (pds_if (ptd_not (ptd_truth e.kk (pd_call (ok_is_integer e) (hr.mono (by decide)) (by rfl) e.m_is_integer e.F_is_integer.kp e.b_is_integer tk (pda_cons (pd_var (pv 3)) (pda_nil))))) (pdss_one (pds_raise rfl tk e.X_BadNumber.T e.X_BadNumber.I s_3 e.X_BadNumber.B (hr.mono (by decide)) (by rfl) e.m_BadNumber (pda_cons (pd_var (pv 3)) (pda_nil)))) (pdss_nil))))
    (pdss_cons (pds_if (ptd_not (ptd_truth e.kk (pd_call (ok_is_whole e) (hr.mono (by decide)) (by rfl) e.m_is_whole e.F_is_whole.kp e.b_is_whole tk (pda_cons (pd_var (pv 2)) (pda_cons (pd_int) (pda_nil)))))) (pdss_one (pds_raise rfl tk e.X_BadNumber.T e.X_BadNumber.I s_3 e.X_BadNumber.B (hr.mono (by decide)) (by rfl) e.m_BadNumber (pda_cons (pd_var (pv 2)) (pda_nil)))) (pdss_nil))
    (pdss_one (pds_ret (pd_call (ok_areas_of e) (hr.mono (by decide)) (by rfl) e.m_areas_of e.F_areas_of.kp e.b_areas_of tk (pda_cons (pd_var (pv 0)) (pda_cons (pd_var (pv 1)) (pda_cons (pd_var (pv 2)) (pda_nil))))))))
theorem ok__law_near_right (e : Ev w0 P G mg base) : FnOk P w0 G.K mg base (L2.CX P w0) 7 e.a__law_near_right e.fd__law_near_right ["_law_pen_here"] (spG G 1 g__law_near_right) :=
  fn_okD e.F__law_near_right sc__law_near_right rfl rfl fun cdv A outer s H E hr tk ps => pdss_cons (pds_set (i := 1) sc__law_near_right.nd rfl (.inl rfl) (pd_call (ok__law_draw e) (hr.mono (by decide)) (by rfl) e.m__law_draw e.F__law_draw.kp e.b__law_draw tk (pda_cons (pd_var (pv 0)) (pda_cons (pd_int) (pda_nil)))))
    (pdss_cons (pds_set (i := 2) sc__law_near_right.nd rfl (.inl rfl) (pd_call (ok__law_ends e) (hr.mono (by decide)) (by rfl) e.m__law_ends e.F__law_ends.kp e.b__law_ends tk (pda_cons (pd_var (pv 1)) (pda_nil))))
    (pdss_cons (pds_for ps rfl (pdi_range2 (by rfl) e.z_range (pda_cons (pd_op (opd_sub) (pd_neg (pd_var (pv 1))) (pd_int)) (pda_cons (pd_op (opd_addA e.kk) (pd_var (pv 1)) (pd_int)) (pda_nil)))) (pdg_name (i := 3) sc__law_near_right.nd rfl (.inl rfl)) (pdss_one (pds_for ps rfl (pdi_range2 (by rfl) e.z_range (pda_cons (pd_op (opd_sub) (pd_neg (pd_var (pv 1))) (pd_int)) (pda_cons (pd_op (opd_addA e.kk) (pd_var (pv 1)) (pd_int)) (pda_nil)))) (pdg_name (i := 4) sc__law_near_right.nd rfl (.inl rfl)) (pdss_cons (pds_set (i := 5) sc__law_near_right.nd rfl (.inl rfl) (pd_callB cd_sorted (by rfl) e.z_sorted (by decide +kernel) (pda_cons (pdo_frz (pdo_lc (own := [("_law_area", 7)]) rfl sc__law_near_right.nd (pdi_seq rfl (pd_tget2 (hu_of hr) e.kk (hs_of e.hs (by rfl) (by rfl)) (pv 2) (pd_tup (pda_cons (pd_var (pv 3)) (pda_cons (pd_var (pv 4)) (pda_nil)))) (pdo_frz (pdo_lst (pda_nil))) ⟨rfl, rfl, rfl, rfl⟩)) (by exact blkOk_by (N := ["_law_pen_here", "_law_number", "_law_ends_here", "_law_x", "_law_y", "_law_due", "_law_shown", "_law_area"]) (sc := defScope st__law_near_right) (own := [("_law_area", 7)]) (by decide +kernel)) (by decide) (fun _ _ _ _ _ => pdg_name (i := 7) sc__law_near_right.nd rfl (.inl rfl)) (fun _ _ _ _ _ => ptds_nil) (fun _ _ _ _ _ => pd_callTy cd_int (by rfl) e.z_int (by decide +kernel) (pda_cons (pd_var (pv 7)) (pda_nil))))) (pda_nil))))
    (pdss_cons (pds_set (i := 6) sc__law_near_right.nd rfl (.inl rfl) (pd_call (ok_areas e) (hr.mono (by decide)) (by rfl) e.m_areas e.F_areas.kp e.b_areas tk (pda_cons (pd_var (pv 3)) (pda_cons (pd_var (pv 4)) (pda_cons (pd_var (pv 1)) (pda_nil))))))
    (pdss_cons (pds_if ((pwd_or ((pwd_and (ptd_cmp (opd_eq e.kk hr.units) (pd_var (pv 5)) (pdo_frz (pdo_lst (pda_nil))) (nomark _)) (pwd_and1 (ptd_cmp (opd_notN) (pd_var (pv 6)) (pd_non) (nomark _)))).pt) (pwd_or1 ((pwd_and (ptd_cmp (opd_ne e.kk hr.units) (pd_var (pv 5)) (pdo_frz (pdo_lst (pda_nil))) (nomark _)) (pwd_and1 (ptd_cmp (opd_ne e.kk hr.units) (pd_var (pv 6)) (pd_tup (pda_cons (pd_ix e.kk (pd_var (pv 5)) (pd_int) (fun _ _ => rfl)) (pda_cons (pd_ix e.kk (pd_var (pv 5)) (pd_neg (pd_int)) (fun _ _ => rfl)) (pda_nil)))) (nomark _)))).pt))).pt) (pdss_one (pds_ret (pd_bl))) (pdss_nil))
    (pdss_one (pds_if ((pwd_and (ptd_cmp (opd_ne e.kk hr.units) (pd_var (pv 5)) (pdo_frz (pdo_lst (pda_nil))) (nomark _)) (pwd_and1 (ptd_cmp (opd_ne e.kk hr.units) (pd_var (pv 5)) (pdo_frz (pdo_lrg2 rfl (by rfl) e.z_list (by rfl) e.z_range (pd_ix e.kk (pd_var (pv 5)) (pd_int) (fun _ _ => rfl)) (pd_op (opd_addA e.kk) (pd_ix e.kk (pd_var (pv 5)) (pd_neg (pd_int)) (fun _ _ => rfl)) (pd_int)))) (nomark _)))).pt) (pdss_one (pds_ret (pd_bl))) (pdss_nil)))))))))
    (pdss_one (pds_ret (pd_bl)))))
theorem ok__law_pen (e : Ev w0 P G mg base) : FnOk P w0 G.K mg base (L2.CX P w0) 1 e.a__law_pen e.fd__law_pen ["_law_script"] (spG G 1 g__law_pen) :=
  fn_okD e.F__law_pen sc__law_pen rfl rfl fun cdv A outer s H E hr tk ps => pdss_one (pds_ret (pdod_cell (pdod_disp (fs := [(eC (.str [99, 101, 108, 108, 115]), eFrz (aList (aCons (eSlA (eVar 0) (oNone) (oSome (eC (.int 63)))) (aNil)))), (eC (.str [97, 116]), eC (.int 0)), (eC (.str [108, 101, 102, 116]), eC (.int 0))]) (pps_cons (pd_str s_2) (pdo_frz (pdo_list rfl (by rfl) e.z_list boot_list (pda_cons (pd_slA rfl (pd_var (pv 0)) (pdo_none) (pdo_some (pd_int))) (pda_nil)))) (pps_cons (pd_str s_1) (pd_int) (pps_cons (pd_str s_0) (pd_int) (pps_nil)))) (by rfl) (by rfl) (fun z => by cases z) (by decide))))
theorem ok__law_place (e : Ev w0 P G mg base) : FnOk P w0 G.K mg base (L2.CX P w0) 5 e.a__law_place e.fd__law_place ["_law_spot"] (spG G 1 g__law_place) :=
  fn_okD e.F__law_place sc__law_place rfl rfl fun cdv A outer s H E hr tk ps => pdss_one (pds_ret (pd_make e.mk_Place e.ct_Place (ok_PlaceX_initX e) (hr.mono (by decide)) (by rfl) e.m_Place e.b_PlaceX_initX tk (pda_cons (pd_ix e.kk (pd_var (pv 0)) (pd_int) (fun _ _ => rfl)) (pda_cons (pd_ix e.kk (pd_var (pv 0)) (pd_int) (fun _ _ => rfl)) (pda_cons (pd_ix e.kk (pd_var (pv 0)) (pd_int) (fun _ _ => rfl)) (pda_nil))))))
theorem bl__law_refused (e : Ev w0 P G mg base) : BodyL G P w0 mg base 0 ["_law_deed", "e"] "_law_refused" st__law_refused e.a__law_refused "_law_deed" 0 b__law_refused :=
  fun Λ cdv A outer s H E hr tk ps act => pdss_one (pds_tryB (hs := [⟨.ref e.C_BadNumber, some 1, hmT ["BadNumber"] ["BadPlace"], fun x => sRet (eTup (aCons (eC (.str [110, 117, 109, 98, 101, 114])) (aCons (eXf "BadNumber" [118, 97, 108, 117, 101] x) (aNil))))⟩]) rfl rfl sc__law_refused.nd tk (fun Wi pn xe tk ps => pdss_one (pds_expr (act _ _ _ _ _ tk))) (fun h hh => by
        simp only [List.mem_cons, List.not_mem_nil, or_false] at hh
        subst hh
        · exact mok_of (fun k hk C hC => by simp only [List.mem_cons, List.not_mem_nil, or_false] at hk; subst hk; rw [e.ct_BadNumber] at hC; cases hC; exact e.xm_BadNumber_BadNumber) (fun k hk C hC => by simp only [List.mem_cons, List.not_mem_nil, or_false] at hk; subst hk; rw [e.ct_BadPlace] at hC; cases hC; exact e.xm_BadPlace_BadNumber)) (HdA.as_ (i := 1) (⟨by rfl, by decide, .inl e.m_BadNumber⟩) rfl rfl (su_one fun a ob cl dd pn x hz hfs => pxs_ret (pxd_tup (pxa_cons (pxd_lift (pd_str s_11)) (pxa_cons (pxd_fld (i := 1) rfl e.ct_BadNumber e.X_BadNumber.F e.X_BadNumber.I.no s_3 hz hfs (pv 1)) (pxa_nil))))) (HdA.nil)))
theorem ok_law (e0 : Ev w0 P G mg base) : FnOk P w0 G.K mg base (L2.CX P w0) 9 e0.a_law e0.fd_law ["_law_script"] (spG G 1 g_law) :=
  fn_okDL e0.F_law sc_law rfl rfl (T_law e0) fun cdv hcd A outer s H E hr tk ps => let e := e0.sw _ _; pdss_cons (pds_set (i := 1) sc_law.nd rfl (.inl rfl) (pd_call (ok__law_pen e) (hr.mono (by decide)) (by rfl) e.m__law_pen e.F__law_pen.kp e.b__law_pen tk (pda_cons (pd_var (pv 0)) (pda_nil))))
    (pdss_cons (pds_if (ptd_not (ptd_truth e.kk (pd_call (ok__law_near_right e) (hr.mono (by decide)) (by rfl) e.m__law_near_right e.F__law_near_right.kp e.b__law_near_right tk (pda_cons (pd_var (pv 1)) (pda_nil))))) (pdss_one (pds_ret (pd_bl))) (pdss_nil))
    (pdss_cons (pds_for ps rfl (pdi_range1 (by rfl) e.z_range (pda_cons (pd_op (opd_addA e.kk) (pd_int) (pd_callB (cd_min2 rfl) (by rfl) e.z_min (by decide +kernel) (pda_cons (pd_int) (pda_cons (pd_callB (cd_len rfl) (by rfl) e.z_len (by decide +kernel) (pda_cons (pd_var (pv 0)) (pda_nil))) (pda_nil))))) (pda_nil))) (pdg_name (i := 2) sc_law.nd rfl (.inl rfl)) (pdss_cons (pds_set (i := 3) sc_law.nd rfl (.inl rfl) (pd_call (ok__law_far e) (hr.mono (by decide)) (by rfl) e.m__law_far e.F__law_far.kp e.b__law_far tk (pda_cons (pd_var (pv 1)) (pda_cons (pd_call (ok__law_pick e) (hr.mono (by decide)) (by rfl) e.m__law_pick e.F__law_pick.kp e.b__law_pick tk (pda_cons (pd_var (pv 1)) (pda_cons (pdo_frz (pdo_lst (pda_cons (pd_int) (pda_cons (pd_int) (pda_cons (pd_int) (pda_nil)))))) (pda_nil)))) (pda_nil)))))
    (pdss_cons (pds_asg (pd_var (pv 3)) (pdg_tup rfl rfl (pdgs_cons (pdg_name (i := 4) sc_law.nd rfl (.inr rfl)) (pdgs_cons (pdg_name (i := 5) sc_law.nd rfl (.inr rfl)) (pdgs_cons (pdg_name (i := 6) sc_law.nd rfl (.inl rfl)) (pdgs_nil))))))
    (pdss_cons (pds_set (i := 7) sc_law.nd rfl (.inr rfl) (pd_op (opd_addA e.kk) (pd_call (ok_steps e) (hr.mono (by decide)) (by rfl) e.m_steps e.F_steps.kp e.b_steps tk (pda_cons (pd_call (ok__law_place e) (hr.mono (by decide)) (by rfl) e.m__law_place e.F__law_place.kp e.b__law_place tk (pda_cons (pd_var (pv 3)) (pda_nil))) (pda_nil))) (pd_call (ok__law_pick e) (hr.mono (by decide)) (by rfl) e.m__law_pick e.F__law_pick.kp e.b__law_pick tk (pda_cons (pd_var (pv 1)) (pda_cons (pdo_frz (pdo_lst (pda_cons (pd_int) (pda_cons (pd_int) (pda_cons (pd_int) (pda_cons (pd_neg (pd_int)) (pda_cons (pd_int) (pda_cons (pd_neg (pd_int)) (pda_cons (pd_call (ok__law_great e) (hr.mono (by decide)) (by rfl) e.m__law_great e.F__law_great.kp e.b__law_great tk (pda_cons (pd_var (pv 1)) (pda_cons (pd_int) (pda_nil)))) (pda_nil)))))))))) (pda_nil))))))
    (pdss_cons (pds_set (i := 7) sc_law.nd rfl (.inr rfl) (pd_ifExp (ptd_cmp (opd_ge) (pd_var (pv 7)) (pd_int) (nomark _)) (pd_var (pv 7)) (pd_int)))
    (pdss_cons (pds_set (i := 8) sc_law.nd rfl (.inr rfl) (pd_call (ok_areas e) (hr.mono (by decide)) (by rfl) e.m_areas e.F_areas.kp e.b_areas tk (pda_cons (pd_var (pv 4)) (pda_cons (pd_var (pv 5)) (pda_cons (pd_var (pv 7)) (pda_nil))))))
    (pdss_cons (pds_if ((pwd_and (ptd_cmp (opd_notN) (pd_var (pv 8)) (pd_non) (nomark _)) (pwd_and1 ((pwd_or (ptd_not (ptd_truth e.kk (pd_callB (cd_isi rfl e.iso) (by rfl) e.z_isinstance (by decide +kernel) (pda_cons (pd_var (pv 8)) (pda_cons (pd_bltn (by rfl) e.z_tuple boot_tuple) (pda_nil)))))) (pwd_or1 (ptd_cmp (opd_ne e.kk hr.units) (pd_callB (cd_len rfl) (by rfl) e.z_len (by decide +kernel) (pda_cons (pd_var (pv 8)) (pda_nil))) (pd_int) (nomark _)))).pt))).pt) (pdss_one (pds_ret (pd_bl))) (pdss_nil))
    (pdss_cons (pds_if ((pwd_and (ptd_cmp (opd_notN) (pd_var (pv 8)) (pd_non) (nomark _)) (pwd_and1 ((pwd_or (ptd_cmp (opd_ne e.kk hr.units) (pd_op (opd_addA e.kk) (pd_ix e.kk (pd_var (pv 8)) (pd_int) (fun _ _ => rfl)) (pd_ix e.kk (pd_var (pv 8)) (pd_int) (fun _ _ => rfl))) (pd_op (opd_mulA) (pd_var (pv 4)) (pd_var (pv 5))) (nomark _)) (pwd_or1 (ptd_cmp (opd_gt) (pd_ix e.kk (pd_var (pv 8)) (pd_int) (fun _ _ => rfl)) (pd_ix e.kk (pd_var (pv 8)) (pd_int) (fun _ _ => rfl)) (nomark _)))).pt))).pt) (pdss_one (pds_ret (pd_bl))) (pdss_nil))
    (pdss_cons (pds_set (i := 9) sc_law.nd rfl (.inl rfl) (pdo_frz (pdo_lst (pda_cons (pd_var (pv 6)) (pda_cons (pd_op (opd_addA e.kk) (pd_var (pv 6)) (pd_int)) (pda_cons (pd_op (opd_sub) (pd_op (opd_mulA) (pd_var (pv 4)) (pd_var (pv 5))) (pd_var (pv 6))) (pda_cons (pd_int) (pda_cons (pd_call (ok__law_signed e) (hr.mono (by decide)) (by rfl) e.m__law_signed e.F__law_signed.kp e.b__law_signed tk (pda_cons (pd_var (pv 1)) (pda_cons (pd_int) (pda_nil)))) (pda_nil)))))))))
    (pdss_cons (pds_if (ptd_cmp (opd_notN) (pd_var (pv 8)) (pd_non) (nomark _)) (pdss_one (pds_set (i := 9) sc_law.nd rfl (.inl rfl) (pd_op (opd_addA e.kk) (pd_var (pv 9)) (pdo_frz (pdo_lst (pda_cons (pd_ix e.kk (pd_var (pv 8)) (pd_int) (fun _ _ => rfl)) (pda_cons (pd_ix e.kk (pd_var (pv 8)) (pd_int) (fun _ _ => rfl)) (pda_cons (pd_op (opd_sub) (pd_ix e.kk (pd_var (pv 8)) (pd_int) (fun _ _ => rfl)) (pd_int)) (pda_cons (pd_op (opd_addA e.kk) (pd_ix e.kk (pd_var (pv 8)) (pd_int) (fun _ _ => rfl)) (pd_int)) (pda_nil)))))))))) (pdss_nil))
    (pdss_cons (pds_if (ptd_cmp (opd_ne e.kk hr.units) (pdo_frz (pdo_lc (own := [("_law_one", 11)]) rfl sc_law.nd (pdi_seq rfl (pd_var (pv 9))) (by exact blkOk_by (N := ["_law_script", "_law_pen_here", "_law_lap", "_law_spot", "_law_x", "_law_y", "_law_area", "_law_number", "_law_shown", "_law_some", "_law_odd", "_law_one"]) (sc := defScope st_law) (own := [("_law_one", 11)]) (by decide +kernel)) (by decide) (fun _ _ _ _ _ => pdg_name (i := 11) sc_law.nd rfl (.inl rfl)) (fun _ _ _ _ _ => ptds_one (ptd_not (ptd_truth e.kk (pd_call (ok__law_is_told e) (hr.mono (by decide)) (by rfl) e.m__law_is_told e.F__law_is_told.kp e.b__law_is_told takes0 (pda_cons (pd_var (pv 4)) (pda_cons (pd_var (pv 5)) (pda_cons (pd_var (pv 11)) (pda_cons (pd_var (pv 7)) (pda_cons (pd_var (pv 8)) (pda_nil)))))))))) (fun _ _ _ _ _ => pd_var (pv 11)))) (pdo_frz (pdo_lst (pda_nil))) (nomark _)) (pdss_one (pds_ret (pd_bl))) (pdss_nil))
    (pdss_cons (pds_if (ptd_cmp (opd_ne e.kk hr.units) (pd_cmp (opd_isN) (pd_var (pv 8)) (pd_non) (nomark _)) (pd_orT e.kk (pd_cmp (opd_lt) (pd_var (pv 7)) (pd_op (opd_addA e.kk) (pd_callB cd_abs (by rfl) e.z_abs (by decide +kernel) (pda_cons (pd_var (pv 4)) (pda_nil))) (pd_callB cd_abs (by rfl) e.z_abs (by decide +kernel) (pda_cons (pd_var (pv 5)) (pda_nil)))) (nomark _)) (pd_one (pd_cmp (opd_eq e.kk hr.units) (pd_op (opd_mod) (pd_callTy cd_int (by rfl) e.z_int (by decide +kernel) (pda_cons (pd_op (opd_sub) (pd_op (opd_sub) (pd_var (pv 7)) (pd_var (pv 4))) (pd_var (pv 5))) (pda_nil))) (pd_int)) (pd_int) (nomark _)))) (nomark _)) (pdss_one (pds_ret (pd_bl))) (pdss_nil))
    (pdss_cons (pds_set (i := 10) sc_law.nd rfl (.inr rfl) (pd_call (ok__law_pick e) (hr.mono (by decide)) (by rfl) e.m__law_pick e.F__law_pick.kp e.b__law_pick tk (pda_cons (pd_var (pv 1)) (pda_cons (pdo_frz (pdo_lst (pda_cons (pd_non) (pda_cons (pd_bl) (pda_cons (pd_str s_12) (pda_cons (pdo_frz (pdo_lst (pda_cons (pd_int) (pda_nil)))) (pda_cons (pd_neg (pd_int)) (pda_nil)))))))) (pda_nil)))))
    (pdss_cons (pds_if (ptd_cmp (opd_ne e.kk hr.units) ((by exact pd_callL (k := 6) (T := T_law e0 s.heap.objs.size) (body := b__law_refused) rfl e.F__law_refused sc__law_refused rfl rfl (fun _ _ _ z => z) rfl rfl (lamsOk_cons (n0 := "law.0") rfl ⟨by exact LamX.lamS_by (sc := defScope st_law) (by decide +kernel), fun _ _ _ _ _ => rfl, fun A outer s H E f c' hr tk => pd_call (ok_areas e) (hr.mono (by decide)) (by rfl) e.m_areas e.F_areas.kp e.b_areas tk (pda_cons (pd_var (pv 4)) (pda_cons (pd_var (pv 5)) (pda_cons (pd_var (pv 10)) (pda_nil))))⟩ (lamsOk_cons (n0 := "law.1") rfl ⟨by exact LamX.lamS_by (sc := defScope st_law) (by decide +kernel), fun _ _ _ _ _ => rfl, fun A outer s H E f c' hr tk => pd_call (ok_areas e) (hr.mono (by decide)) (by rfl) e.m_areas e.F_areas.kp e.b_areas tk (pda_cons (pd_var (pv 10)) (pda_cons (pd_non) (pda_cons (pd_neg (pd_int)) (pda_nil))))⟩ (lamsOk_cons (n0 := "law.2") rfl ⟨by exact LamX.lamS_by (sc := defScope st_law) (by decide +kernel), fun _ _ _ _ _ => rfl, fun A outer s H E f c' hr tk => pd_call (ok_areas e) (hr.mono (by decide)) (by rfl) e.m_areas e.F_areas.kp e.b_areas tk (pda_cons (pd_var (pv 4)) (pda_cons (pd_var (pv 10)) (pda_cons (pd_non) (pda_nil))))⟩ (lamsOk_nil)))) (fun w => (bl__law_refused (e.sw _ _)).mono (by decide)) (i := 0) rfl (.inl rfl) (hr.mono (by decide)) (by rfl) e.m__law_refused e.b__law_refused tk (pda_cons (pd_lam (T := T_law e0 s.heap.objs.size) (glam_of e.tabs rfl (fun _ _ _ => Iff.rfl)) e.tb_law (hcd.symm.trans e.cd_law) rfl rfl rfl (by exact LamX.lamS_by (sc := defScope st_law) (by decide +kernel)) rfl) (pda_nil)))) (pd_tup (pda_cons (pd_str s_11) (pda_cons (pd_var (pv 10)) (pda_nil)))) (nomark _)) (pdss_one (pds_ret (pd_bl))) (pdss_nil))
    (pdss_cons (pds_if ((pwd_and (ptd_cmp (opd_ne e.kk hr.units) (pd_var (pv 10)) (pd_neg (pd_int)) (nomark _)) (pwd_and1 (ptd_cmp (opd_ne e.kk hr.units) ((by exact pd_callL (k := 6) (T := T_law e0 s.heap.objs.size) (body := b__law_refused) rfl e.F__law_refused sc__law_refused rfl rfl (fun _ _ _ z => z) rfl rfl (lamsOk_cons (n0 := "law.0") rfl ⟨by exact LamX.lamS_by (sc := defScope st_law) (by decide +kernel), fun _ _ _ _ _ => rfl, fun A outer s H E f c' hr tk => pd_call (ok_areas e) (hr.mono (by decide)) (by rfl) e.m_areas e.F_areas.kp e.b_areas tk (pda_cons (pd_var (pv 4)) (pda_cons (pd_var (pv 5)) (pda_cons (pd_var (pv 10)) (pda_nil))))⟩ (lamsOk_cons (n0 := "law.1") rfl ⟨by exact LamX.lamS_by (sc := defScope st_law) (by decide +kernel), fun _ _ _ _ _ => rfl, fun A outer s H E f c' hr tk => pd_call (ok_areas e) (hr.mono (by decide)) (by rfl) e.m_areas e.F_areas.kp e.b_areas tk (pda_cons (pd_var (pv 10)) (pda_cons (pd_non) (pda_cons (pd_neg (pd_int)) (pda_nil))))⟩ (lamsOk_cons (n0 := "law.2") rfl ⟨by exact LamX.lamS_by (sc := defScope st_law) (by decide +kernel), fun _ _ _ _ _ => rfl, fun A outer s H E f c' hr tk => pd_call (ok_areas e) (hr.mono (by decide)) (by rfl) e.m_areas e.F_areas.kp e.b_areas tk (pda_cons (pd_var (pv 4)) (pda_cons (pd_var (pv 10)) (pda_cons (pd_non) (pda_nil))))⟩ (lamsOk_nil)))) (fun w => (bl__law_refused (e.sw _ _)).mono (by decide)) (i := 0) rfl (.inl rfl) (hr.mono (by decide)) (by rfl) e.m__law_refused e.b__law_refused tk (pda_cons (pd_lam (T := T_law e0 s.heap.objs.size) (glam_of e.tabs rfl (fun _ _ _ => Iff.rfl)) e.tb_law (hcd.symm.trans e.cd_law) rfl rfl rfl (by exact LamX.lamS_by (sc := defScope st_law) (by decide +kernel)) rfl) (pda_nil)))) (pd_tup (pda_cons (pd_str s_11) (pda_cons (pd_var (pv 10)) (pda_nil)))) (nomark _)))).pt) (pdss_one (pds_ret (pd_bl))) (pdss_nil))
    (pdss_one (pds_if ((pwd_and (ptd_cmp (opd_ne e.kk hr.units) (pd_var (pv 10)) (pd_neg (pd_int)) (nomark _)) (pwd_and1 (ptd_cmp (opd_ne e.kk hr.units) ((by exact pd_callL (k := 6) (T := T_law e0 s.heap.objs.size) (body := b__law_refused) rfl e.F__law_refused sc__law_refused rfl rfl (fun _ _ _ z => z) rfl rfl (lamsOk_cons (n0 := "law.0") rfl ⟨by exact LamX.lamS_by (sc := defScope st_law) (by decide +kernel), fun _ _ _ _ _ => rfl, fun A outer s H E f c' hr tk => pd_call (ok_areas e) (hr.mono (by decide)) (by rfl) e.m_areas e.F_areas.kp e.b_areas tk (pda_cons (pd_var (pv 4)) (pda_cons (pd_var (pv 5)) (pda_cons (pd_var (pv 10)) (pda_nil))))⟩ (lamsOk_cons (n0 := "law.1") rfl ⟨by exact LamX.lamS_by (sc := defScope st_law) (by decide +kernel), fun _ _ _ _ _ => rfl, fun A outer s H E f c' hr tk => pd_call (ok_areas e) (hr.mono (by decide)) (by rfl) e.m_areas e.F_areas.kp e.b_areas tk (pda_cons (pd_var (pv 10)) (pda_cons (pd_non) (pda_cons (pd_neg (pd_int)) (pda_nil))))⟩ (lamsOk_cons (n0 := "law.2") rfl ⟨by exact LamX.lamS_by (sc := defScope st_law) (by decide +kernel), fun _ _ _ _ _ => rfl, fun A outer s H E f c' hr tk => pd_call (ok_areas e) (hr.mono (by decide)) (by rfl) e.m_areas e.F_areas.kp e.b_areas tk (pda_cons (pd_var (pv 4)) (pda_cons (pd_var (pv 10)) (pda_cons (pd_non) (pda_nil))))⟩ (lamsOk_nil)))) (fun w => (bl__law_refused (e.sw _ _)).mono (by decide)) (i := 0) rfl (.inl rfl) (hr.mono (by decide)) (by rfl) e.m__law_refused e.b__law_refused tk (pda_cons (pd_lam (T := T_law e0 s.heap.objs.size) (glam_of e.tabs rfl (fun _ _ _ => Iff.rfl)) e.tb_law (hcd.symm.trans e.cd_law) rfl rfl rfl (by exact LamX.lamS_by (sc := defScope st_law) (by decide +kernel)) rfl) (pda_nil)))) (pd_tup (pda_cons (pd_str s_11) (pda_cons (pd_var (pv 10)) (pda_nil)))) (nomark _)))).pt) (pdss_one (pds_ret (pd_bl))) (pdss_nil))))))))))))))))))
    (pdss_one (pds_ret (pd_bl)))))
end
theorem all_mk {l : PySem.W.OpenLaw} {w : World} {q : Program} {K : PySem.W.Frag} {h : Heap} {mg : Str → Option Value} {fa : Addr} {C_Place : Addr} {C_BadNumber : Addr} {fI_BadNumber NS_BadNumber cda_BadNumber cc_BadNumber : Addr} {xnm_BadNumber xq_BadNumber xfile_BadNumber : Str} {xbs_BadNumber xbm_BadNumber xsub_BadNumber : List Value} {xsn_BadNumber : List Str} {xab_BadNumber : Bool} {xcol_BadNumber : Option Bool} {xdd_BadNumber : Option Addr} {xk0_BadNumber xk1_BadNumber xk2_BadNumber xk3_BadNumber xk5_BadNumber : Option Value} {xoc_BadNumber xkV_BadNumber xdoc_BadNumber xpm_BadNumber xct_BadNumber xccl_BadNumber xcl_BadNumber : Value} {xod_BadNumber xan_BadNumber xcdd_BadNumber xcld_BadNumber : Option Addr} {xosl_BadNumber xccs_BadNumber xcsl_BadNumber : Array (Option Value)} {xvs_BadNumber : Array Value} {xtf_BadNumber : Tok} {C_BadPlace : Addr} {fI_BadPlace NS_BadPlace cda_BadPlace cc_BadPlace : Addr} {xnm_BadPlace xq_BadPlace xfile_BadPlace : Str} {xbs_BadPlace xbm_BadPlace xsub_BadPlace : List Value} {xsn_BadPlace : List Str} {xab_BadPlace : Bool} {xcol_BadPlace : Option Bool} {xdd_BadPlace : Option Addr} {xk0_BadPlace xk1_BadPlace xk2_BadPlace xk3_BadPlace xk5_BadPlace : Option Value} {xoc_BadPlace xkV_BadPlace xdoc_BadPlace xpm_BadPlace xct_BadPlace xccl_BadPlace xcl_BadPlace : Value} {xod_BadPlace xan_BadPlace xcdd_BadPlace xcld_BadPlace : Option Addr} {xosl_BadPlace xccs_BadPlace xcsl_BadPlace : Array (Option Value)} {xvs_BadPlace : Array Value} {xtf_BadPlace : Tok} {a__law_draw : Addr} {od__law_draw an__law_draw : Option Addr} {sl__law_draw : Array (Option Value)} {oc__law_draw kV__law_draw dc__law_draw pm__law_draw cd__law_draw ct__law_draw : Value} {a__law_pick : Addr} {od__law_pick an__law_pick : Option Addr} {sl__law_pick : Array (Option Value)} {oc__law_pick kV__law_pick dc__law_pick pm__law_pick cd__law_pick ct__law_pick : Value} {a__law_great : Addr} {od__law_great an__law_great : Option Addr} {sl__law_great : Array (Option Value)} {oc__law_great kV__law_great dc__law_great pm__law_great cd__law_great ct__law_great : Value} {a__law_signed : Addr} {od__law_signed an__law_signed : Option Addr} {sl__law_signed : Array (Option Value)} {oc__law_signed kV__law_signed dc__law_signed pm__law_signed cd__law_signed ct__law_signed : Value} {a__law_far : Addr} {od__law_far an__law_far : Option Addr} {sl__law_far : Array (Option Value)} {oc__law_far kV__law_far dc__law_far pm__law_far cd__law_far ct__law_far : Value} {a_is_integer : Addr} {od_is_integer an_is_integer : Option Addr} {sl_is_integer : Array (Option Value)} {oc_is_integer kV_is_integer dc_is_integer pm_is_integer cd_is_integer ct_is_integer : Value} {a_PlaceX_initX : Addr} {od_PlaceX_initX an_PlaceX_initX : Option Addr} {sl_PlaceX_initX : Array (Option Value)} {oc_PlaceX_initX kV_PlaceX_initX dc_PlaceX_initX pm_PlaceX_initX cd_PlaceX_initX ct_PlaceX_initX : Value} {a_need_place : Addr} {od_need_place an_need_place : Option Addr} {sl_need_place : Array (Option Value)} {oc_need_place kV_need_place dc_need_place pm_need_place cd_need_place ct_need_place : Value} {a_whole_root : Addr} {od_whole_root an_whole_root : Option Addr} {sl_whole_root : Array (Option Value)} {oc_whole_root kV_whole_root dc_whole_root pm_whole_root cd_whole_root ct_whole_root : Value} {a_steps_of : Addr} {od_steps_of an_steps_of : Option Addr} {sl_steps_of : Array (Option Value)} {oc_steps_of kV_steps_of dc_steps_of pm_steps_of cd_steps_of ct_steps_of : Value} {a_steps : Addr} {od_steps an_steps : Option Addr} {sl_steps : Array (Option Value)} {oc_steps kV_steps dc_steps pm_steps cd_steps ct_steps : Value} {a__law_is_told : Addr} {od__law_is_told an__law_is_told : Option Addr} {sl__law_is_told : Array (Option Value)} {oc__law_is_told kV__law_is_told dc__law_is_told pm__law_is_told cd__law_is_told ct__law_is_told : Value} {a__law_gone : Addr} {od__law_gone an__law_gone : Option Addr} {sl__law_gone : Array (Option Value)} {oc__law_gone kV__law_gone dc__law_gone pm__law_gone cd__law_gone ct__law_gone : Value} {a__law_ends : Addr} {od__law_ends an__law_ends : Option Addr} {sl__law_ends : Array (Option Value)} {oc__law_ends kV__law_ends dc__law_ends pm__law_ends cd__law_ends ct__law_ends : Value} {a_best_sides : Addr} {od_best_sides an_best_sides : Option Addr} {sl_best_sides : Array (Option Value)} {oc_best_sides kV_best_sides dc_best_sides pm_best_sides cd_best_sides ct_best_sides : Value} {a_areas_of : Addr} {od_areas_of an_areas_of : Option Addr} {sl_areas_of : Array (Option Value)} {oc_areas_of kV_areas_of dc_areas_of pm_areas_of cd_areas_of ct_areas_of : Value} {a_is_whole : Addr} {od_is_whole an_is_whole : Option Addr} {sl_is_whole : Array (Option Value)} {oc_is_whole kV_is_whole dc_is_whole pm_is_whole cd_is_whole ct_is_whole : Value} {a_areas : Addr} {od_areas an_areas : Option Addr} {sl_areas : Array (Option Value)} {oc_areas kV_areas dc_areas pm_areas cd_areas ct_areas : Value} {a__law_near_right : Addr} {od__law_near_right an__law_near_right : Option Addr} {sl__law_near_right : Array (Option Value)} {oc__law_near_right kV__law_near_right dc__law_near_right pm__law_near_right cd__law_near_right ct__law_near_right : Value} {a__law_pen : Addr} {od__law_pen an__law_pen : Option Addr} {sl__law_pen : Array (Option Value)} {oc__law_pen kV__law_pen dc__law_pen pm__law_pen cd__law_pen ct__law_pen : Value} {a__law_place : Addr} {od__law_place an__law_place : Option Addr} {sl__law_place : Array (Option Value)} {oc__law_place kV__law_place dc__law_place pm__law_place cd__law_place ct__law_place : Value} {a__law_refused : Addr} {od__law_refused an__law_refused : Option Addr} {sl__law_refused : Array (Option Value)} {oc__law_refused kV__law_refused dc__law_refused pm__law_refused cd__law_refused ct__law_refused : Value} {a_law : Addr} {od_law an_law : Option Addr} {sl_law : Array (Option Value)} {oc_law kV_law dc_law pm_law  ct_law : Value} {tc_law P_law : Addr} {tcl_law : Value} {tdd_law : Option Addr} {tvs_law : Array Value} {tsl_law : Array (Option Value)} (X : K.In h) (G0 : h.Ns mainGlobals mg) (hfa : mg "law" = some (.ref fa)) (TT : TabsT q K h)
    (aC_Place : PySem.W.nsIn K mainGlobals "Place" = some (some (.ref C_Place)))
    (cB_Place : clsB K C_Place ["x", "y", "area"] = true)
    (aC_BadNumber : PySem.W.nsIn K mainGlobals "BadNumber" = some (some (.ref C_BadNumber)))
    (xl_BadNumber : K.lookup C_BadNumber = some (excClassObj xnm_BadNumber xq_BadNumber C_BadNumber NS_BadNumber xbs_BadNumber xbm_BadNumber true xsn_BadNumber xsub_BadNumber xab_BadNumber xcol_BadNumber xdd_BadNumber xk0_BadNumber xk1_BadNumber xk2_BadNumber xk3_BadNumber xk5_BadNumber "ValueError.__new__"))
    (xr_BadNumber : PySem.HandSPX.refsVE xbm_BadNumber = true)
    (xi_BadNumber : PySem.W.findIn K (.ref C_BadNumber) "__init__" = some (some (.ref fI_BadNumber)))
    (xf_BadNumber : K.lookup fI_BadNumber = some ⟨xoc_BadNumber, xod_BadNumber, .func (PySem.W.fnX "__init__" "BadNumber.__init__" (defArgs xst_BadNumber) (defBody xst_BadNumber) (defScope xst_BadNumber) [("__class__", cc_BadNumber)] .none xkV_BadNumber xdoc_BadNumber xpm_BadNumber xan_BadNumber (.ref cda_BadNumber) xct_BadNumber), xosl_BadNumber⟩)
    (xc_BadNumber : PySem.W.codeIn K (.ref cda_BadNumber) "BadNumber.__init__" = true)
    (xd_BadNumber : K.lookup cda_BadNumber = some ⟨xccl_BadNumber, xcdd_BadNumber, .fields xvs_BadNumber, xccs_BadNumber⟩)
    (xv_BadNumber : xvs_BadNumber[2]? = some (.str xfile_BadNumber xtf_BadNumber))
    (xe_BadNumber : ((l.prog.main.file : Str) == xfile_BadNumber) = true)
    (xk_BadNumber : K.lookup cc_BadNumber = some ⟨xcl_BadNumber, xcld_BadNumber, .cell (some (.ref C_BadNumber)), xcsl_BadNumber⟩)
    (xB_BadNumber : xcB K C_BadNumber fI_BadNumber "value" = true)
    (aC_BadPlace : PySem.W.nsIn K mainGlobals "BadPlace" = some (some (.ref C_BadPlace)))
    (xl_BadPlace : K.lookup C_BadPlace = some (excClassObj xnm_BadPlace xq_BadPlace C_BadPlace NS_BadPlace xbs_BadPlace xbm_BadPlace true xsn_BadPlace xsub_BadPlace xab_BadPlace xcol_BadPlace xdd_BadPlace xk0_BadPlace xk1_BadPlace xk2_BadPlace xk3_BadPlace xk5_BadPlace "ValueError.__new__"))
    (xr_BadPlace : PySem.HandSPX.refsVE xbm_BadPlace = true)
    (xi_BadPlace : PySem.W.findIn K (.ref C_BadPlace) "__init__" = some (some (.ref fI_BadPlace)))
    (xf_BadPlace : K.lookup fI_BadPlace = some ⟨xoc_BadPlace, xod_BadPlace, .func (PySem.W.fnX "__init__" "BadPlace.__init__" (defArgs xst_BadPlace) (defBody xst_BadPlace) (defScope xst_BadPlace) [("__class__", cc_BadPlace)] .none xkV_BadPlace xdoc_BadPlace xpm_BadPlace xan_BadPlace (.ref cda_BadPlace) xct_BadPlace), xosl_BadPlace⟩)
    (xc_BadPlace : PySem.W.codeIn K (.ref cda_BadPlace) "BadPlace.__init__" = true)
    (xd_BadPlace : K.lookup cda_BadPlace = some ⟨xccl_BadPlace, xcdd_BadPlace, .fields xvs_BadPlace, xccs_BadPlace⟩)
    (xv_BadPlace : xvs_BadPlace[2]? = some (.str xfile_BadPlace xtf_BadPlace))
    (xe_BadPlace : ((l.prog.main.file : Str) == xfile_BadPlace) = true)
    (xk_BadPlace : K.lookup cc_BadPlace = some ⟨xcl_BadPlace, xcld_BadPlace, .cell (some (.ref C_BadPlace)), xcsl_BadPlace⟩)
    (xB_BadPlace : xcB K C_BadPlace fI_BadPlace "value" = true)
    (xtop : (l.prog.main.scope.names.lookup ("super" : Str)).isSome = false)
    (xsup : PySem.W.nsIn K mainGlobals "super" = some none)
    (xm_BadNumber_BadNumber : PySem.W.exmOne K (.ref C_BadNumber) (.ref C_BadNumber) = some true)
    (xm_BadPlace_BadNumber : PySem.W.exmOne K (.ref C_BadPlace) (.ref C_BadNumber) = some false)
    (a1__law_draw : PySem.W.nsIn K mainGlobals "_law_draw" = some (some (.ref a__law_draw)))
    (l1__law_draw : K.lookup a__law_draw = some ⟨oc__law_draw, od__law_draw, .func (PySem.W.fnOf "_law_draw" "_law_draw" (defArgs st__law_draw) (defBody st__law_draw) (defScope st__law_draw) .none kV__law_draw dc__law_draw pm__law_draw an__law_draw cd__law_draw ct__law_draw), sl__law_draw⟩)
    (c1__law_draw : PySem.W.codeIn K cd__law_draw "_law_draw" = true)
    (k1__law_draw : PySem.W.keepIn K (.ref a__law_draw) = true)
    (a1__law_pick : PySem.W.nsIn K mainGlobals "_law_pick" = some (some (.ref a__law_pick)))
    (l1__law_pick : K.lookup a__law_pick = some ⟨oc__law_pick, od__law_pick, .func (PySem.W.fnOf "_law_pick" "_law_pick" (defArgs st__law_pick) (defBody st__law_pick) (defScope st__law_pick) .none kV__law_pick dc__law_pick pm__law_pick an__law_pick cd__law_pick ct__law_pick), sl__law_pick⟩)
    (c1__law_pick : PySem.W.codeIn K cd__law_pick "_law_pick" = true)
    (k1__law_pick : PySem.W.keepIn K (.ref a__law_pick) = true)
    (a1__law_great : PySem.W.nsIn K mainGlobals "_law_great" = some (some (.ref a__law_great)))
    (l1__law_great : K.lookup a__law_great = some ⟨oc__law_great, od__law_great, .func (PySem.W.fnOf "_law_great" "_law_great" (defArgs st__law_great) (defBody st__law_great) (defScope st__law_great) .none kV__law_great dc__law_great pm__law_great an__law_great cd__law_great ct__law_great), sl__law_great⟩)
    (c1__law_great : PySem.W.codeIn K cd__law_great "_law_great" = true)
    (k1__law_great : PySem.W.keepIn K (.ref a__law_great) = true)
    (a1__law_signed : PySem.W.nsIn K mainGlobals "_law_signed" = some (some (.ref a__law_signed)))
    (l1__law_signed : K.lookup a__law_signed = some ⟨oc__law_signed, od__law_signed, .func (PySem.W.fnOf "_law_signed" "_law_signed" (defArgs st__law_signed) (defBody st__law_signed) (defScope st__law_signed) .none kV__law_signed dc__law_signed pm__law_signed an__law_signed cd__law_signed ct__law_signed), sl__law_signed⟩)
    (c1__law_signed : PySem.W.codeIn K cd__law_signed "_law_signed" = true)
    (k1__law_signed : PySem.W.keepIn K (.ref a__law_signed) = true)
    (a1__law_far : PySem.W.nsIn K mainGlobals "_law_far" = some (some (.ref a__law_far)))
    (l1__law_far : K.lookup a__law_far = some ⟨oc__law_far, od__law_far, .func (PySem.W.fnOf "_law_far" "_law_far" (defArgs st__law_far) (defBody st__law_far) (defScope st__law_far) .none kV__law_far dc__law_far pm__law_far an__law_far cd__law_far ct__law_far), sl__law_far⟩)
    (c1__law_far : PySem.W.codeIn K cd__law_far "_law_far" = true)
    (k1__law_far : PySem.W.keepIn K (.ref a__law_far) = true)
    (a1_is_integer : PySem.W.nsIn K mainGlobals "is_integer" = some (some (.ref a_is_integer)))
    (l1_is_integer : K.lookup a_is_integer = some ⟨oc_is_integer, od_is_integer, .func (PySem.W.fnOf "is_integer" "is_integer" (defArgs st_is_integer) (defBody st_is_integer) (defScope st_is_integer) .none kV_is_integer dc_is_integer pm_is_integer an_is_integer cd_is_integer ct_is_integer), sl_is_integer⟩)
    (c1_is_integer : PySem.W.codeIn K cd_is_integer "is_integer" = true)
    (k1_is_integer : PySem.W.keepIn K (.ref a_is_integer) = true)
    (a1_PlaceX_initX : PySem.W.findIn K (.ref C_Place) "__init__" = some (some (.ref a_PlaceX_initX)))
    (i1_PlaceX_initX : PySem.W.isFn K (.ref a_PlaceX_initX) = true)
    (l1_PlaceX_initX : K.lookup a_PlaceX_initX = some ⟨oc_PlaceX_initX, od_PlaceX_initX, .func (PySem.W.fnOf "__init__" "Place.__init__" (defArgs st_PlaceX_initX) (defBody st_PlaceX_initX) (defScope st_PlaceX_initX) .none kV_PlaceX_initX dc_PlaceX_initX pm_PlaceX_initX an_PlaceX_initX cd_PlaceX_initX ct_PlaceX_initX), sl_PlaceX_initX⟩)
    (c1_PlaceX_initX : PySem.W.codeIn K cd_PlaceX_initX "Place.__init__" = true)
    (k1_PlaceX_initX : PySem.W.keepIn K (.ref a_PlaceX_initX) = true)
    (a1_need_place : PySem.W.nsIn K mainGlobals "need_place" = some (some (.ref a_need_place)))
    (l1_need_place : K.lookup a_need_place = some ⟨oc_need_place, od_need_place, .func (PySem.W.fnOf "need_place" "need_place" (defArgs st_need_place) (defBody st_need_place) (defScope st_need_place) .none kV_need_place dc_need_place pm_need_place an_need_place cd_need_place ct_need_place), sl_need_place⟩)
    (c1_need_place : PySem.W.codeIn K cd_need_place "need_place" = true)
    (k1_need_place : PySem.W.keepIn K (.ref a_need_place) = true)
    (a1_whole_root : PySem.W.nsIn K mainGlobals "whole_root" = some (some (.ref a_whole_root)))
    (l1_whole_root : K.lookup a_whole_root = some ⟨oc_whole_root, od_whole_root, .func (PySem.W.fnOf "whole_root" "whole_root" (defArgs st_whole_root) (defBody st_whole_root) (defScope st_whole_root) .none kV_whole_root dc_whole_root pm_whole_root an_whole_root cd_whole_root ct_whole_root), sl_whole_root⟩)
    (c1_whole_root : PySem.W.codeIn K cd_whole_root "whole_root" = true)
    (k1_whole_root : PySem.W.keepIn K (.ref a_whole_root) = true)
    (a1_steps_of : PySem.W.nsIn K mainGlobals "steps_of" = some (some (.ref a_steps_of)))
    (l1_steps_of : K.lookup a_steps_of = some ⟨oc_steps_of, od_steps_of, .func (PySem.W.fnOf "steps_of" "steps_of" (defArgs st_steps_of) (defBody st_steps_of) (defScope st_steps_of) .none kV_steps_of dc_steps_of pm_steps_of an_steps_of cd_steps_of ct_steps_of), sl_steps_of⟩)
    (c1_steps_of : PySem.W.codeIn K cd_steps_of "steps_of" = true)
    (k1_steps_of : PySem.W.keepIn K (.ref a_steps_of) = true)
    (a1_steps : PySem.W.nsIn K mainGlobals "steps" = some (some (.ref a_steps)))
    (l1_steps : K.lookup a_steps = some ⟨oc_steps, od_steps, .func (PySem.W.fnOf "steps" "steps" (defArgs st_steps) (defBody st_steps) (defScope st_steps) .none kV_steps dc_steps pm_steps an_steps cd_steps ct_steps), sl_steps⟩)
    (c1_steps : PySem.W.codeIn K cd_steps "steps" = true)
    (k1_steps : PySem.W.keepIn K (.ref a_steps) = true)
    (a1__law_is_told : PySem.W.nsIn K mainGlobals "_law_is_told" = some (some (.ref a__law_is_told)))
    (l1__law_is_told : K.lookup a__law_is_told = some ⟨oc__law_is_told, od__law_is_told, .func (PySem.W.fnOf "_law_is_told" "_law_is_told" (defArgs st__law_is_told) (defBody st__law_is_told) (defScope st__law_is_told) .none kV__law_is_told dc__law_is_told pm__law_is_told an__law_is_told cd__law_is_told ct__law_is_told), sl__law_is_told⟩)
    (c1__law_is_told : PySem.W.codeIn K cd__law_is_told "_law_is_told" = true)
    (k1__law_is_told : PySem.W.keepIn K (.ref a__law_is_told) = true)
    (a1__law_gone : PySem.W.nsIn K mainGlobals "_law_gone" = some (some (.ref a__law_gone)))
    (l1__law_gone : K.lookup a__law_gone = some ⟨oc__law_gone, od__law_gone, .func (PySem.W.fnOf "_law_gone" "_law_gone" (defArgs st__law_gone) (defBody st__law_gone) (defScope st__law_gone) .none kV__law_gone dc__law_gone pm__law_gone an__law_gone cd__law_gone ct__law_gone), sl__law_gone⟩)
    (c1__law_gone : PySem.W.codeIn K cd__law_gone "_law_gone" = true)
    (k1__law_gone : PySem.W.keepIn K (.ref a__law_gone) = true)
    (a1__law_ends : PySem.W.nsIn K mainGlobals "_law_ends" = some (some (.ref a__law_ends)))
    (l1__law_ends : K.lookup a__law_ends = some ⟨oc__law_ends, od__law_ends, .func (PySem.W.fnOf "_law_ends" "_law_ends" (defArgs st__law_ends) (defBody st__law_ends) (defScope st__law_ends) .none kV__law_ends dc__law_ends pm__law_ends an__law_ends cd__law_ends ct__law_ends), sl__law_ends⟩)
    (c1__law_ends : PySem.W.codeIn K cd__law_ends "_law_ends" = true)
    (k1__law_ends : PySem.W.keepIn K (.ref a__law_ends) = true)
    (a1_best_sides : PySem.W.nsIn K mainGlobals "best_sides" = some (some (.ref a_best_sides)))
    (l1_best_sides : K.lookup a_best_sides = some ⟨oc_best_sides, od_best_sides, .func (PySem.W.fnOf "best_sides" "best_sides" (defArgs st_best_sides) (defBody st_best_sides) (defScope st_best_sides) .none kV_best_sides dc_best_sides pm_best_sides an_best_sides cd_best_sides ct_best_sides), sl_best_sides⟩)
    (c1_best_sides : PySem.W.codeIn K cd_best_sides "best_sides" = true)
    (k1_best_sides : PySem.W.keepIn K (.ref a_best_sides) = true)
    (a1_areas_of : PySem.W.nsIn K mainGlobals "areas_of" = some (some (.ref a_areas_of)))
    (l1_areas_of : K.lookup a_areas_of = some ⟨oc_areas_of, od_areas_of, .func (PySem.W.fnOf "areas_of" "areas_of" (defArgs st_areas_of) (defBody st_areas_of) (defScope st_areas_of) .none kV_areas_of dc_areas_of pm_areas_of an_areas_of cd_areas_of ct_areas_of), sl_areas_of⟩)
    (c1_areas_of : PySem.W.codeIn K cd_areas_of "areas_of" = true)
    (k1_areas_of : PySem.W.keepIn K (.ref a_areas_of) = true)
    (a1_is_whole : PySem.W.nsIn K mainGlobals "is_whole" = some (some (.ref a_is_whole)))
    (l1_is_whole : K.lookup a_is_whole = some ⟨oc_is_whole, od_is_whole, .func (PySem.W.fnOf "is_whole" "is_whole" (defArgs st_is_whole) (defBody st_is_whole) (defScope st_is_whole) .none kV_is_whole dc_is_whole pm_is_whole an_is_whole cd_is_whole ct_is_whole), sl_is_whole⟩)
    (c1_is_whole : PySem.W.codeIn K cd_is_whole "is_whole" = true)
    (k1_is_whole : PySem.W.keepIn K (.ref a_is_whole) = true)
    (a1_areas : PySem.W.nsIn K mainGlobals "areas" = some (some (.ref a_areas)))
    (l1_areas : K.lookup a_areas = some ⟨oc_areas, od_areas, .func (PySem.W.fnOf "areas" "areas" (defArgs st_areas) (defBody st_areas) (defScope st_areas) .none kV_areas dc_areas pm_areas an_areas cd_areas ct_areas), sl_areas⟩)
    (c1_areas : PySem.W.codeIn K cd_areas "areas" = true)
    (k1_areas : PySem.W.keepIn K (.ref a_areas) = true)
    (a1__law_near_right : PySem.W.nsIn K mainGlobals "_law_near_right" = some (some (.ref a__law_near_right)))
    (l1__law_near_right : K.lookup a__law_near_right = some ⟨oc__law_near_right, od__law_near_right, .func (PySem.W.fnOf "_law_near_right" "_law_near_right" (defArgs st__law_near_right) (defBody st__law_near_right) (defScope st__law_near_right) .none kV__law_near_right dc__law_near_right pm__law_near_right an__law_near_right cd__law_near_right ct__law_near_right), sl__law_near_right⟩)
    (c1__law_near_right : PySem.W.codeIn K cd__law_near_right "_law_near_right" = true)
    (k1__law_near_right : PySem.W.keepIn K (.ref a__law_near_right) = true)
    (a1__law_pen : PySem.W.nsIn K mainGlobals "_law_pen" = some (some (.ref a__law_pen)))
    (l1__law_pen : K.lookup a__law_pen = some ⟨oc__law_pen, od__law_pen, .func (PySem.W.fnOf "_law_pen" "_law_pen" (defArgs st__law_pen) (defBody st__law_pen) (defScope st__law_pen) .none kV__law_pen dc__law_pen pm__law_pen an__law_pen cd__law_pen ct__law_pen), sl__law_pen⟩)
    (c1__law_pen : PySem.W.codeIn K cd__law_pen "_law_pen" = true)
    (k1__law_pen : PySem.W.keepIn K (.ref a__law_pen) = true)
    (a1__law_place : PySem.W.nsIn K mainGlobals "_law_place" = some (some (.ref a__law_place)))
    (l1__law_place : K.lookup a__law_place = some ⟨oc__law_place, od__law_place, .func (PySem.W.fnOf "_law_place" "_law_place" (defArgs st__law_place) (defBody st__law_place) (defScope st__law_place) .none kV__law_place dc__law_place pm__law_place an__law_place cd__law_place ct__law_place), sl__law_place⟩)
    (c1__law_place : PySem.W.codeIn K cd__law_place "_law_place" = true)
    (k1__law_place : PySem.W.keepIn K (.ref a__law_place) = true)
    (a1__law_refused : PySem.W.nsIn K mainGlobals "_law_refused" = some (some (.ref a__law_refused)))
    (l1__law_refused : K.lookup a__law_refused = some ⟨oc__law_refused, od__law_refused, .func (PySem.W.fnOf "_law_refused" "_law_refused" (defArgs st__law_refused) (defBody st__law_refused) (defScope st__law_refused) .none kV__law_refused dc__law_refused pm__law_refused an__law_refused cd__law_refused ct__law_refused), sl__law_refused⟩)
    (c1__law_refused : PySem.W.codeIn K cd__law_refused "_law_refused" = true)
    (k1__law_refused : PySem.W.keepIn K (.ref a__law_refused) = true)
    (a1_law : PySem.W.nsIn K mainGlobals "law" = some (some (.ref a_law)))
    (l1_law : K.lookup a_law = some ⟨oc_law, od_law, .func (PySem.W.fnOf "law" "law" (defArgs st_law) (defBody st_law) (defScope st_law) .none kV_law dc_law pm_law an_law (.ref tc_law) ct_law), sl_law⟩)
    (c1_law : PySem.W.codeIn K (.ref tc_law) "law" = true)
    (k1_law : PySem.W.keepIn K (.ref a_law) = true)
    (tl_law : K.lookup tc_law = some ⟨tcl_law, tdd_law, .fields tvs_law, tsl_law⟩)
    (tv_law : tvs_law[11]? = some (.ref P_law))
    (tq_law : PySem.W.tabIn K "law" = some (tc_law, P_law))
    (tn_law : K.lookup P_law = none)
    (tr_law : ((recsOf q).find? (fun e => e.name == ("law" : Str))).isSome = true)
    (z1_abs : PySem.W.nsIn K mainGlobals "abs" = some none)
    (z1_bool : PySem.W.nsIn K mainGlobals "bool" = some none)
    (z1_int : PySem.W.nsIn K mainGlobals "int" = some none)
    (z1_isinstance : PySem.W.nsIn K mainGlobals "isinstance" = some none)
    (z1_len : PySem.W.nsIn K mainGlobals "len" = some none)
    (z1_list : PySem.W.nsIn K mainGlobals "list" = some none)
    (z1_max : PySem.W.nsIn K mainGlobals "max" = some none)
    (z1_min : PySem.W.nsIn K mainGlobals "min" = some none)
    (z1_range : PySem.W.nsIn K mainGlobals "range" = some none)
    (z1_sorted : PySem.W.nsIn K mainGlobals "sorted" = some none)
    (z1_tuple : PySem.W.nsIn K mainGlobals "tuple" = some none)
    (tnd : ([P_law] : List Addr).Nodup)
    (hl : ∀ ns : List Int, ns.length ≤ 63 → (∀ z ∈ ns, Builtin.Int.intBits z ≤ 1048576) → ∃ S, g_law [.scr (ns.map D.int)] [.tab "law"] = .ok (.bl true) S) :
    LamX.LawAtS l w K (L2.CX l.prog w) 9 63 "_law_script" mg fa h := by
  have e := hfa.symm.trans (PySem.W.mg_of X G0 a1_law)
  cases e
  let G : Gam := { K := K, ct := fun c => if c = "Place" then some C_Place else if c = "BadNumber" then some C_BadNumber else if c = "BadPlace" then some C_BadPlace else none, ft := fun c => none, tab := tabG [("law", P_law, ((envOfC "law" (defScope st_law) 0 0 .none).qual ++ "<lambda>"))], tabM := tabG_mono _, hs := tupleKeyHash (mixKind l.prog w) }
  have cF_Place := clsF cB_Place
  have ct_Place : G.ct "Place" = some C_Place := by simp [G]
  have ct_BadNumber : G.ct "BadNumber" = some C_BadNumber := by simp [G]
  have ct_BadPlace : G.ct "BadPlace" = some C_BadPlace := by simp [G]
  have F__law_draw := fun_mk (st := st__law_draw) l1__law_draw c1__law_draw k1__law_draw
  have F__law_pick := fun_mk (st := st__law_pick) l1__law_pick c1__law_pick k1__law_pick
  have F__law_great := fun_mk (st := st__law_great) l1__law_great c1__law_great k1__law_great
  have F__law_signed := fun_mk (st := st__law_signed) l1__law_signed c1__law_signed k1__law_signed
  have F__law_far := fun_mk (st := st__law_far) l1__law_far c1__law_far k1__law_far
  have F_is_integer := fun_mk (st := st_is_integer) l1_is_integer c1_is_integer k1_is_integer
  have F_PlaceX_initX := fun_mk (st := st_PlaceX_initX) l1_PlaceX_initX c1_PlaceX_initX k1_PlaceX_initX
  have F_need_place := fun_mk (st := st_need_place) l1_need_place c1_need_place k1_need_place
  have F_whole_root := fun_mk (st := st_whole_root) l1_whole_root c1_whole_root k1_whole_root
  have F_steps_of := fun_mk (st := st_steps_of) l1_steps_of c1_steps_of k1_steps_of
  have F_steps := fun_mk (st := st_steps) l1_steps c1_steps k1_steps
  have F__law_is_told := fun_mk (st := st__law_is_told) l1__law_is_told c1__law_is_told k1__law_is_told
  have F__law_gone := fun_mk (st := st__law_gone) l1__law_gone c1__law_gone k1__law_gone
  have F__law_ends := fun_mk (st := st__law_ends) l1__law_ends c1__law_ends k1__law_ends
  have F_best_sides := fun_mk (st := st_best_sides) l1_best_sides c1_best_sides k1_best_sides
  have F_areas_of := fun_mk (st := st_areas_of) l1_areas_of c1_areas_of k1_areas_of
  have F_is_whole := fun_mk (st := st_is_whole) l1_is_whole c1_is_whole k1_is_whole
  have F_areas := fun_mk (st := st_areas) l1_areas c1_areas k1_areas
  have F__law_near_right := fun_mk (st := st__law_near_right) l1__law_near_right c1__law_near_right k1__law_near_right
  have F__law_pen := fun_mk (st := st__law_pen) l1__law_pen c1__law_pen k1__law_pen
  have F__law_place := fun_mk (st := st__law_place) l1__law_place c1__law_place k1__law_place
  have F__law_refused := fun_mk (st := st__law_refused) l1__law_refused c1__law_refused k1__law_refused
  have F_law := fun_mk (st := st_law) l1_law c1_law k1_law
  have mkE : ∀ base : Heap, (∀ m ∈ ([("law", tc_law, P_law)] : List (String × Addr × Addr)), LamX.TabB base mg m.2.1 m.2.2) → ∃ e : Ev w l.prog G mg base, e.a_law = fa ∧ e.fd_law = (PySem.W.fnOf "law" "law" (defArgs st_law) (defBody st_law) (defScope st_law) .none kV_law dc_law pm_law an_law (.ref tc_law) ct_law) := fun base tb => ⟨{
    C_Place := C_Place
    ct_Place := ct_Place
    cl_Place := cF_Place.cl
    m_Place := PySem.W.mg_of X G0 aC_Place
    sf_Place := cF_Place.sf
    ne_Place := cF_Place.ne
    mo_Place := cF_Place.mo
    na_Place_x := cF_Place.na _ (by simp)
    na_Place_y := cF_Place.na _ (by simp)
    na_Place_area := cF_Place.na _ (by simp)
    C_BadNumber := C_BadNumber
    ct_BadNumber := ct_BadNumber
    m_BadNumber := PySem.W.mg_of X G0 aC_BadNumber
    fI_BadNumber := fI_BadNumber
    xfd_BadNumber := _
    X_BadNumber := xfacts_of (G := G) ct_BadNumber xl_BadNumber xr_BadNumber xi_BadNumber xf_BadNumber xc_BadNumber xd_BadNumber xv_BadNumber xe_BadNumber xk_BadNumber xB_BadNumber xtop (PySem.W.mg_none_of X G0 xsup) xsh_BadNumber (by decide) (by decide) (by decide) (fun us hl => match us, hl with | [_, _], _ => rfl)
    C_BadPlace := C_BadPlace
    ct_BadPlace := ct_BadPlace
    m_BadPlace := PySem.W.mg_of X G0 aC_BadPlace
    fI_BadPlace := fI_BadPlace
    xfd_BadPlace := _
    X_BadPlace := xfacts_of (G := G) ct_BadPlace xl_BadPlace xr_BadPlace xi_BadPlace xf_BadPlace xc_BadPlace xd_BadPlace xv_BadPlace xe_BadPlace xk_BadPlace xB_BadPlace xtop (PySem.W.mg_none_of X G0 xsup) xsh_BadPlace (by decide) (by decide) (by decide) (fun us hl => match us, hl with | [_, _], _ => rfl)
    xm_BadNumber_BadNumber := xm_BadNumber_BadNumber
    xm_BadPlace_BadNumber := xm_BadPlace_BadNumber
    a__law_draw := a__law_draw
    fd__law_draw := _
    F__law_draw := F__law_draw
    b__law_draw := F__law_draw.binds (ps := ["_law_pen_here", "_law_span"]) fun _ _ _ _ _ _ us hl => match us, hl with | [_, _], _ => rfl
    m__law_draw := PySem.W.mg_of X G0 a1__law_draw
    a__law_pick := a__law_pick
    fd__law_pick := _
    F__law_pick := F__law_pick
    b__law_pick := F__law_pick.binds (ps := ["_law_pen_here", "_law_items"]) fun _ _ _ _ _ _ us hl => match us, hl with | [_, _], _ => rfl
    m__law_pick := PySem.W.mg_of X G0 a1__law_pick
    a__law_great := a__law_great
    fd__law_great := _
    F__law_great := F__law_great
    b__law_great := F__law_great.binds (ps := ["_law_pen_here", "_law_figures"]) fun _ _ _ _ _ _ us hl => match us, hl with | [_, _], _ => rfl
    m__law_great := PySem.W.mg_of X G0 a1__law_great
    a__law_signed := a__law_signed
    fd__law_signed := _
    F__law_signed := F__law_signed
    b__law_signed := F__law_signed.binds (ps := ["_law_pen_here", "_law_figures"]) fun _ _ _ _ _ _ us hl => match us, hl with | [_, _], _ => rfl
    m__law_signed := PySem.W.mg_of X G0 a1__law_signed
    a__law_far := a__law_far
    fd__law_far := _
    F__law_far := F__law_far
    b__law_far := F__law_far.binds (ps := ["_law_pen_here", "_law_figures"]) fun _ _ _ _ _ _ us hl => match us, hl with | [_, _], _ => rfl
    m__law_far := PySem.W.mg_of X G0 a1__law_far
    a_is_integer := a_is_integer
    fd_is_integer := _
    F_is_integer := F_is_integer
    b_is_integer := F_is_integer.binds (ps := ["value"]) fun _ _ _ _ _ _ us hl => match us, hl with | [_], _ => rfl
    m_is_integer := PySem.W.mg_of X G0 a1_is_integer
    a_PlaceX_initX := a_PlaceX_initX
    fd_PlaceX_initX := _
    F_PlaceX_initX := F_PlaceX_initX
    b_PlaceX_initX := F_PlaceX_initX.binds (ps := ["self", "x", "y", "area"]) fun _ _ _ _ _ _ us hl => match us, hl with | [_, _, _, _], _ => rfl
    M_PlaceX_initX := ⟨a1_PlaceX_initX, i1_PlaceX_initX, k1_PlaceX_initX⟩
    a_need_place := a_need_place
    fd_need_place := _
    F_need_place := F_need_place
    b_need_place := F_need_place.binds (ps := ["value"]) fun _ _ _ _ _ _ us hl => match us, hl with | [_], _ => rfl
    m_need_place := PySem.W.mg_of X G0 a1_need_place
    a_whole_root := a_whole_root
    fd_whole_root := _
    F_whole_root := F_whole_root
    b_whole_root := F_whole_root.binds (ps := ["number"]) fun _ _ _ _ _ _ us hl => match us, hl with | [_], _ => rfl
    m_whole_root := PySem.W.mg_of X G0 a1_whole_root
    a_steps_of := a_steps_of
    fd_steps_of := _
    F_steps_of := F_steps_of
    b_steps_of := F_steps_of.binds (ps := ["x", "y", "area"]) fun _ _ _ _ _ _ us hl => match us, hl with | [_, _, _], _ => rfl
    m_steps_of := PySem.W.mg_of X G0 a1_steps_of
    a_steps := a_steps
    fd_steps := _
    F_steps := F_steps
    b_steps := F_steps.binds (ps := ["place"]) fun _ _ _ _ _ _ us hl => match us, hl with | [_], _ => rfl
    m_steps := PySem.W.mg_of X G0 a1_steps
    a__law_is_told := a__law_is_told
    fd__law_is_told := _
    F__law_is_told := F__law_is_told
    b__law_is_told := F__law_is_told.binds (ps := ["_law_x", "_law_y", "_law_area", "_law_number", "_law_shown"]) fun _ _ _ _ _ _ us hl => match us, hl with | [_, _, _, _, _], _ => rfl
    m__law_is_told := PySem.W.mg_of X G0 a1__law_is_told
    a__law_gone := a__law_gone
    fd__law_gone := _
    F__law_gone := F__law_gone
    b__law_gone := F__law_gone.binds (ps := ["_law_spot", "_law_letter", "_law_times"]) fun _ _ _ _ _ _ us hl => match us, hl with | [_, _, _], _ => rfl
    m__law_gone := PySem.W.mg_of X G0 a1__law_gone
    a__law_ends := a__law_ends
    fd__law_ends := _
    F__law_ends := F__law_ends
    b__law_ends := F__law_ends.binds (ps := ["_law_number"]) fun _ _ _ _ _ _ us hl => match us, hl with | [_], _ => rfl
    m__law_ends := PySem.W.mg_of X G0 a1__law_ends
    a_best_sides := a_best_sides
    fd_best_sides := _
    F_best_sides := F_best_sides
    b_best_sides := F_best_sides.binds (ps := ["x", "y", "extra"]) fun _ _ _ _ _ _ us hl => match us, hl with | [_, _, _], _ => rfl
    m_best_sides := PySem.W.mg_of X G0 a1_best_sides
    a_areas_of := a_areas_of
    fd_areas_of := _
    F_areas_of := F_areas_of
    b_areas_of := F_areas_of.binds (ps := ["x", "y", "number"]) fun _ _ _ _ _ _ us hl => match us, hl with | [_, _, _], _ => rfl
    m_areas_of := PySem.W.mg_of X G0 a1_areas_of
    a_is_whole := a_is_whole
    fd_is_whole := _
    F_is_whole := F_is_whole
    b_is_whole := F_is_whole.binds (ps := ["value", "least"]) fun _ _ _ _ _ _ us hl => match us, hl with | [_, _], _ => rfl
    m_is_whole := PySem.W.mg_of X G0 a1_is_whole
    a_areas := a_areas
    fd_areas := _
    F_areas := F_areas
    b_areas := F_areas.binds (ps := ["x", "y", "number"]) fun _ _ _ _ _ _ us hl => match us, hl with | [_, _, _], _ => rfl
    m_areas := PySem.W.mg_of X G0 a1_areas
    a__law_near_right := a__law_near_right
    fd__law_near_right := _
    F__law_near_right := F__law_near_right
    b__law_near_right := F__law_near_right.binds (ps := ["_law_pen_here"]) fun _ _ _ _ _ _ us hl => match us, hl with | [_], _ => rfl
    m__law_near_right := PySem.W.mg_of X G0 a1__law_near_right
    a__law_pen := a__law_pen
    fd__law_pen := _
    F__law_pen := F__law_pen
    b__law_pen := F__law_pen.binds (ps := ["_law_script"]) fun _ _ _ _ _ _ us hl => match us, hl with | [_], _ => rfl
    m__law_pen := PySem.W.mg_of X G0 a1__law_pen
    a__law_place := a__law_place
    fd__law_place := _
    F__law_place := F__law_place
    b__law_place := F__law_place.binds (ps := ["_law_spot"]) fun _ _ _ _ _ _ us hl => match us, hl with | [_], _ => rfl
    m__law_place := PySem.W.mg_of X G0 a1__law_place
    a__law_refused := a__law_refused
    fd__law_refused := _
    F__law_refused := F__law_refused
    b__law_refused := F__law_refused.binds (ps := ["_law_deed"]) fun _ _ _ _ _ _ us hl => match us, hl with | [_], _ => rfl
    m__law_refused := PySem.W.mg_of X G0 a1__law_refused
    a_law := fa
    fd_law := _
    F_law := F_law
    b_law := F_law.binds (ps := ["_law_script"]) fun _ _ _ _ _ _ us hl => match us, hl with | [_], _ => rfl
    m_law := PySem.W.mg_of X G0 a1_law
    tc_law := tc_law
    P_law := P_law
    cd_law := rfl
    tb_law := tb ("law", tc_law, P_law) (by simp)
    mk_Place := ⟨cF_Place.makes, a1_PlaceX_initX, i1_PlaceX_initX, cF_Place.kp⟩
    f_area := fun c hc C hC => by
      simp only [List.mem_cons, List.not_mem_nil, or_false] at hc
      (subst hc; rw [ct_Place] at hC; cases hC; exact ⟨cF_Place.cl, by rw [← s_6]; exact cF_Place.na _ (by simp)⟩)
    f_x := fun c hc C hC => by
      simp only [List.mem_cons, List.not_mem_nil, or_false] at hc
      (subst hc; rw [ct_Place] at hC; cases hC; exact ⟨cF_Place.cl, by rw [← s_4]; exact cF_Place.na _ (by simp)⟩)
    f_y := fun c hc C hC => by
      simp only [List.mem_cons, List.not_mem_nil, or_false] at hc
      (subst hc; rw [ct_Place] at hC; cases hC; exact ⟨cF_Place.cl, by rw [← s_5]; exact cF_Place.na _ (by simp)⟩)
    z_abs := PySem.W.mg_none_of X G0 z1_abs
    z_bool := PySem.W.mg_none_of X G0 z1_bool
    z_int := PySem.W.mg_none_of X G0 z1_int
    z_isinstance := PySem.W.mg_none_of X G0 z1_isinstance
    z_len := PySem.W.mg_none_of X G0 z1_len
    z_list := PySem.W.mg_none_of X G0 z1_list
    z_max := PySem.W.mg_none_of X G0 z1_max
    z_min := PySem.W.mg_none_of X G0 z1_min
    z_range := PySem.W.mg_none_of X G0 z1_range
    z_sorted := PySem.W.mg_none_of X G0 z1_sorted
    z_tuple := PySem.W.mg_none_of X G0 z1_tuple
    iso := isOk_of (fun c hc => by
      simp only [List.mem_cons, List.not_mem_nil, or_false] at hc
      (subst hc; exact ⟨C_Place, _, ct_Place, cF_Place⟩)) fun c hc c2 hc2 C1 C2 h1 h2 => by
      simp only [List.mem_cons, List.not_mem_nil, or_false] at hc hc2
      · subst hc; subst hc2; rw [ct_Place] at h1; rw [ct_Place] at h2; cases h1; cases h2; exact kit_self
    tabs := rfl
    hs := rfl }, rfl, rfl⟩
  exact lawAt_of (G := G) (g := g_law) (fd := (PySem.W.fnOf "law" "law" (defArgs st_law) (defBody st_law) (defScope st_law) .none kV_law dc_law pm_law an_law (.ref tc_law) ct_law)) [("law", tc_law, P_law)] (fun m hm => by
    simp only [List.mem_cons, List.not_mem_nil, or_false] at hm
    subst hm; exact TT _ _ _ tr_law tq_law) (fun m hm => by
    simp only [List.mem_cons, List.not_mem_nil, or_false] at hm
    subst hm; exact tn_law) (tnd) (fun s v => .of_eq rfl) (fun base tb => by
    obtain ⟨e, e1, e2⟩ := mkE base tb
    have o := ok_law (w0 := w) e
    rw [e1, e2] at o
    exact o) (fun m hm F => by
    simp only [List.mem_cons, List.not_mem_nil, or_false] at hm
    subst hm; exact ⟨_, rfl, tabP_nil _ _ _⟩) hl
end
end W_k13
set_option maxRecDepth 100000
set_option maxHeartbeats 4000000
namespace W_k13
open DL
instance : Bd (2 : Int) 2 := ⟨by decide⟩
instance : Bd (3 : Int) 2 := ⟨by decide⟩
instance : Bd (4 : Int) 3 := ⟨by decide⟩
instance : Bd (5 : Int) 3 := ⟨by decide⟩
instance : Bd (7 : Int) 3 := ⟨by decide⟩
instance : Bd (8 : Int) 4 := ⟨by decide⟩
instance : Bd (9 : Int) 4 := ⟨by decide⟩
instance : Bd (10 : Int) 4 := ⟨by decide⟩
instance : Bd (12 : Int) 4 := ⟨by decide⟩
instance : Bd (14 : Int) 4 := ⟨by decide⟩
instance : Bd (18 : Int) 5 := ⟨by decide⟩
instance : Bd (32 : Int) 6 := ⟨by decide⟩
instance : Bd (41 : Int) 6 := ⟨by decide⟩
instance : Bd (43 : Int) 6 := ⟨by decide⟩
instance : Bd (49 : Int) 6 := ⟨by decide⟩
instance : Bd (50 : Int) 6 := ⟨by decide⟩
instance : Bd (59 : Int) 6 := ⟨by decide⟩
instance : Bd (63 : Int) 6 := ⟨by decide⟩
instance : Bd (97 : Int) 7 := ⟨by decide⟩
instance : Bd (98 : Int) 7 := ⟨by decide⟩
instance : Bd (127 : Int) 7 := ⟨by decide⟩
instance : Bd (33529 : Int) 16 := ⟨by decide⟩
instance : Bd (45497 : Int) 16 := ⟨by decide⟩
instance : Bd (70423 : Int) 17 := ⟨by decide⟩
instance : Bd (10000000 : Int) 24 := ⟨by decide⟩
instance : Bd (2147482417 : Int) 31 := ⟨by decide⟩
instance : Bd (2147482481 : Int) 31 := ⟨by decide⟩
instance : Bd (2147482507 : Int) 31 := ⟨by decide⟩
instance : Bd (2147482577 : Int) 31 := ⟨by decide⟩
instance : Bd (1000000000000000000 : Int) 60 := ⟨by decide⟩
abbrev penD (cs : List Int) (c l : Int) : List (DK × D) := [(.s [99, 101, 108, 108, 115], .lst (cs.map D.int)), (.s [97, 116], .int c), (.s [108, 101, 102, 116], .int l)]
def Pen (n : Nat) (S : List Cell) : Prop := ∃ cs c l, S = [.tab "law", .dic (penD cs c l)] ∧ 0 ≤ c ∧ c ≤ n ∧ 0 ≤ l
theorem Pen.mono {n m : Nat} {S : List Cell} (h : Pen n S) (hm : n ≤ m) : Pen m S := by
  obtain ⟨cs, c, l, h1, h2, h3, h4⟩ := h
  exact ⟨cs, c, l, h1, h2, by omega, h4⟩
theorem draw_ok {n : Nat} {S : List Cell} {p : Int} (hS : Pen n S) (hn : n < 2 ^ 20) (hp : 0 < p) (hp2 : p < 2 ^ 60) : ∃ d S', g__law_draw [.cell 1, .int p] S = .ok (.int d) S' ∧ 0 ≤ d ∧ d < p ∧ Pen (n + 1) S' := by
  obtain ⟨cs, c, l, rfl, c0, c1, l0⟩ := hS
  have bp : Bd p 60 := ⟨by omega⟩
  have bc : Bd c 20 := ⟨by omega⟩
  have dp : divOk p = true := divOk_of bp (by omega) (by omega)
  have hp' : p ≠ 0 := by omega
  have m1 := fun x : Int => Int.fmod_nonneg_of_pos x hp
  have m2 := fun x : Int => Int.fmod_lt_of_pos x hp
  have ndk : ∀ (a b c : D), keysNd [(.s [99, 101, 108, 108, 115], a), (.s [97, 116], b), (.s [108, 101, 102, 116], c)] = true := fun a b c => rfl
  have mc (x : Int) : mulOk (x.fmod 2147482417) 45497 = true := by
    have : Bd (x.fmod 2147482417) 31 := .of_range (m := 2147482417) (Int.fmod_nonneg_of_pos _ (by decide)) (Int.fmod_lt_of_pos _ (by decide)) (by decide)
    exact mulOk_bd (by decide)
  have mb (x : Int) : mulOk (x.fmod 2147482481) (x.fmod 2147482481 + 70423) = true := by
    have : Bd (x.fmod 2147482481) 31 := .of_range (m := 2147482481) (Int.fmod_nonneg_of_pos _ (by decide)) (Int.fmod_lt_of_pos _ (by decide)) (by decide)
    exact mulOk_bd (by decide)
  have me (x : Int) : mulOk (x.fmod 2147482507) (x.fmod 2147482507) = true := by
    have : Bd (x.fmod 2147482507) 31 := .of_range (m := 2147482507) (Int.fmod_nonneg_of_pos _ (by decide)) (Int.fmod_lt_of_pos _ (by decide)) (by decide)
    exact mulOk_bd (by decide)
  have mf (x : Int) : mulOk 43 (x.fmod 2147482507) = true := by
    have : Bd (x.fmod 2147482507) 31 := .of_range (m := 2147482507) (Int.fmod_nonneg_of_pos _ (by decide)) (Int.fmod_lt_of_pos _ (by decide)) (by decide)
    exact mulOk_bd (by decide)
  have q0 : mulOk 97 c = true := mulOk_bd (by decide)
  have q1 : mulOk 33529 c = true := mulOk_bd (by decide)
  have q2 : mulOk 127 c = true := mulOk_bd (by decide)
  have q3 : mulOk 3 c = true := mulOk_bd (by decide)
  have qs : mulOk (33529 * c) c = true := mulOk_bd (by decide)
  have qd : divOk 32 = true := by decide
  by_cases a1 : p ≤ l
  · simp [g__law_draw, b__law_draw, fnD, dLook, dPut, dp, hp', ndk, a1]
    exact ⟨_, _, ⟨rfl, rfl⟩, m1 _, m2 _, cs, c, _, rfl, c0, by omega, Int.fdiv_nonneg l0 (by omega)⟩
  · by_cases a2 : cs = []
    · subst a2
      have a3 : ¬ c < 0 := by omega
      simp [g__law_draw, b__law_draw, fnD, dLook, dPut, dp, hp', ndk, a1, q0, q1, q2, q3, qs, qd, mc, mb, me, mf, a3]
      exact ⟨_, _, ⟨rfl, rfl⟩, m1 _, m2 _, [], c + 1, l, rfl, by omega, by omega, l0⟩
    · obtain ⟨x, hx⟩ := ix_mod cs c a2
      by_cases a3 : c < cs.length ∧ 1000000000000000000 ≤ x
      · simp [g__law_draw, b__law_draw, fnD, dLook, dPut, dp, hp', ndk, a1, q0, q1, q2, q3, qs, qd, mc, mb, me, mf, a2, hx, a3]
        exact ⟨_, _, ⟨rfl, rfl⟩, m1 _, m2 _, cs, c + 1, _, rfl, by omega, by omega, Int.fdiv_nonneg (by omega) (by omega)⟩
      · by_cases a4 : c < cs.length
        · have a5 : ¬ 1000000000000000000 ≤ x := fun h => a3 ⟨a4, h⟩
          simp [g__law_draw, b__law_draw, fnD, dLook, dPut, dp, hp', ndk, a1, q0, q1, q2, q3, qs, qd, mc, mb, me, mf, a2, hx, a4, a5]
          exact ⟨_, _, ⟨rfl, rfl⟩, m1 _, m2 _, cs, c + 1, l, rfl, by omega, by omega, l0⟩
        · simp [g__law_draw, b__law_draw, fnD, dLook, dPut, dp, hp', ndk, a1, q0, q1, q2, q3, qs, qd, mc, mb, me, mf, a2, hx, a4]
          exact ⟨_, _, ⟨rfl, rfl⟩, m1 _, m2 _, cs, c + 1, l, rfl, by omega, by omega, l0⟩
theorem begin_ok (ns : List Int) : ∃ S, g__law_pen [.scr (ns.map D.int)] [.tab "law"] = .ok (.cell 1) S ∧ Pen 0 S := by
  have e : cutD (ns.map D.int) none (some 63) = (cutD ns none (some 63)).map D.int := by
    simp [cutD, List.map_drop, List.map_take]
  have k : ∀ a b c : D, keysNd [(.s [99, 101, 108, 108, 115], a), (.s [97, 116], b), (.s [108, 101, 102, 116], c)] = true := fun a b c => rfl
  simp [g__law_pen, b__law_pen, fnD, e, k]
  exact ⟨_, 0, 0, rfl, by decide, by decide, by decide⟩
theorem pick_ok {n : Nat} {S : List Cell} {xs : List D} (hS : Pen n S) (hn : n < 2 ^ 20) (h0 : xs ≠ []) (h1 : xs.length < 1000) : ∃ d S', g__law_pick [.cell 1, .lst xs] S = .ok d S' ∧ d ∈ xs ∧ Pen (n + 1) S' := by
  have hl : (0 : Int) < xs.length := by
    cases xs with
    | nil => exact absurd rfl h0
    | cons a r => simp
  obtain ⟨d, S', e, d0, d1, hP⟩ := draw_ok hS hn hl (by omega)
  obtain ⟨k, rfl⟩ := Int.eq_ofNat_of_zero_le d0
  have hk : k < xs.length := by omega
  have : L2.atI xs (k : Int) = some xs[k] := L2.atI_nat (by simp [hk])
  refine ⟨xs[k], S', ?_, List.getElem_mem _, hP⟩
  simp [g__law_pick, b__law_pick, fnD, e, this]
end W_k13
set_option maxRecDepth 100000
set_option maxHeartbeats 4000000
namespace ST
/-! ### fewest steps: the plain law -/
abbrev ab (i : Int) : Int := if i < 0 then -i else i
/-- the ground that a walk must have room for -/
def gnd (x y a : Int) : Int := (ab (2 * a - x * y) + ab (x * y)).fdiv 2
/-- the least r with n ≤ r * r -/
def IsRt (n r : Int) : Prop := 0 ≤ r ∧ n ≤ r * r ∧ (0 < r → (r - 1) * (r - 1) < n)
/-- p by q holds the place -/
structure Box (x y a p q : Int) : Prop where
  px : ab x ≤ p
  qy : ab y ≤ q
  room : gnd x y a ≤ p * q
theorem gnd_max (x y a : Int) : (0 ≤ x * y → gnd x y a = if x * y ≤ 2 * a then a else x * y - a) ∧ (x * y < 0 → gnd x y a = if x * y ≤ 2 * a then a - x * y else -a) := by
  unfold gnd ab
  generalize x * y = t
  rw [Int.fdiv_eq_ediv_of_nonneg _ (by decide)]
  constructor <;> intro h <;> (repeat' split) <;> omega
/-- the room, by the two ends of the areas -/
theorem gnd_le (x y a m : Int) : gnd x y a ≤ m ↔ a ≤ m - (if x * y < 0 then -(x * y) else 0) ∧ (if x * y < 0 then 0 else x * y) - m ≤ a := by
  have h := gnd_max x y a
  by_cases c : x * y < 0
  · rw [h.2 c]; simp only [c, if_true]; split <;> omega
  · rw [h.1 (by omega)]; simp only [c, if_false]; split <;> omega
theorem gnd_nonneg (x y a : Int) : 0 ≤ gnd x y a := by
  unfold gnd ab
  rw [Int.fdiv_eq_ediv_of_nonneg _ (by decide)]
  split <;> split <;> omega
theorem ab_nonneg (x : Int) : 0 ≤ ab x := by unfold ab; split <;> omega
theorem ab_neg (x : Int) : ab (-x) = ab x := by unfold ab; split <;> split <;> omega
/-! mirrors -/
theorem gnd_mx (x y a : Int) : gnd (-x) y (-a) = gnd x y a := by
  unfold gnd
  rw [show 2 * -a - -x * y = -(2 * a - x * y) by grind, show -x * y = -(x * y) by grind, ab_neg, ab_neg]
theorem gnd_my (x y a : Int) : gnd x (-y) (-a) = gnd x y a := by
  unfold gnd
  rw [show 2 * -a - x * -y = -(2 * a - x * y) by grind, show x * -y = -(x * y) by grind, ab_neg, ab_neg]
theorem gnd_t (x y a : Int) : gnd y x (x * y - a) = gnd x y a := by
  unfold gnd
  rw [show 2 * (x * y - a) - y * x = -(2 * a - x * y) by grind, show y * x = x * y by grind, ab_neg]
theorem Box.mx {x y a p q : Int} (b : Box x y a p q) : Box (-x) y (-a) p q := ⟨by rw [ab_neg]; exact b.px, b.qy, by rw [gnd_mx]; exact b.room⟩
theorem Box.my {x y a p q : Int} (b : Box x y a p q) : Box x (-y) (-a) p q := ⟨b.px, by rw [ab_neg]; exact b.qy, by rw [gnd_my]; exact b.room⟩
theorem Box.t {x y a p q : Int} (b : Box x y a p q) : Box y x (x * y - a) q p := ⟨b.qy, b.px, by rw [gnd_t, Int.mul_comm]; exact b.room⟩
/-- a step is taken -/
inductive Stp : Int → Int → Int → Int → Int → Int → Prop
  | e (x y a : Int) : Stp x y a (x + 1) y a
  | w (x y a : Int) : Stp x y a (x - 1) y a
  | n (x y a : Int) : Stp x y a x (y + 1) (a + x)
  | s (x y a : Int) : Stp x y a x (y - 1) (a - x)
theorem Stp.mx {x y a x' y' a' : Int} (h : Stp x y a x' y' a') : Stp (-x) y (-a) (-x') y' (-a') := by
  cases h with
  | e => rw [show -(x + 1) = -x - 1 by omega]; exact .w ..
  | w => rw [show -(x - 1) = -x + 1 by omega]; exact .e ..
  | n => rw [show -(a + x) = -a + -x by omega]; exact .n ..
  | s => rw [show -(a - x) = -a - -x by omega]; exact .s ..
theorem Stp.my {x y a x' y' a' : Int} (h : Stp x y a x' y' a') : Stp x (-y) (-a) x' (-y') (-a') := by
  cases h with
  | e => exact .e ..
  | w => exact .w ..
  | n => rw [show -(y + 1) = -y - 1 by omega, show -(a + x) = -a - x by omega]; exact .s ..
  | s => rw [show -(y - 1) = -y + 1 by omega, show -(a - x) = -a + x by omega]; exact .n ..
theorem Stp.t {x y a x' y' a' : Int} (h : Stp x y a x' y' a') : Stp y x (x * y - a) y' x' (x' * y' - a') := by
  cases h with
  | e => rw [show (x + 1) * y - a = x * y - a + y by grind]; exact .n ..
  | w => rw [show (x - 1) * y - a = x * y - a - y by grind]; exact .s ..
  | n => rw [show x * (y + 1) - (a + x) = x * y - a by grind]; exact .e ..
  | s => rw [show x * (y - 1) - (a - x) = x * y - a by grind]; exact .w ..
theorem Stp.back {x y a x' y' a' : Int} (h : Stp x y a x' y' a') : Stp x' y' a' x y a := by
  cases h with
  | e => have := Stp.w (x + 1) y a; rwa [show x + 1 - 1 = x by omega] at this
  | w => have := Stp.e (x - 1) y a; rwa [show x - 1 + 1 = x by omega] at this
  | n => have := Stp.s x (y + 1) (a + x); rwa [show y + 1 - 1 = y by omega, show a + x - x = a by omega] at this
  | s => have := Stp.n x (y - 1) (a - x); rwa [show y - 1 + 1 = y by omega, show a - x + x = a by omega] at this
def cost (x y p q : Int) : Int := 2 * (p + q) - ab x - ab y
theorem pr_pos {u v : Int} (hu : 0 ≤ u) (hv : 0 ≤ v) : 0 ≤ u * v := Int.mul_nonneg hu hv
/-- a step further costs one more at most: east -/
theorem up_e {x y a p q : Int} (b : Box x y a p q) : ∃ p' q', Box (x + 1) y a p' q' ∧ cost (x + 1) y p' q' ≤ cost x y p q + 1 := by
  obtain ⟨h1, h2, h3⟩ := b
  rw [gnd_le] at h3
  by_cases hx : 0 ≤ x
  · refine ⟨p + 1, q, ⟨by unfold ab at *; split <;> split at h1 <;> omega, h2, ?_⟩, by unfold cost ab; split <;> split <;> split <;> omega⟩
    rw [gnd_le, show (x + 1) * y = x * y + y by grind, show (p + 1) * q = p * q + q by grind]
    have hq := ab_nonneg y
    by_cases hy : 0 ≤ y
    · have := pr_pos hx hy
      have hy' : y ≤ q := by unfold ab at h2; split at h2 <;> omega
      simp only [show ¬ x * y < 0 by omega, show ¬ x * y + y < 0 by omega, if_false] at h3 ⊢
      omega
    · have hy' : -y ≤ q := by unfold ab at h2; split at h2 <;> omega
      have h5 : x * y ≤ 0 := by have := pr_pos hx (show 0 ≤ -y by omega); rw [Int.mul_neg] at this; omega
      by_cases c : x * y < 0
      · simp only [c, show x * y + y < 0 by omega, if_true] at h3 ⊢; omega
      · simp only [c, show x * y + y < 0 by omega, if_true, if_false] at h3 ⊢; omega
  · refine ⟨p, q, ⟨by unfold ab at *; split <;> split at h1 <;> omega, h2, ?_⟩, by unfold cost ab; split <;> split <;> split <;> omega⟩
    rw [gnd_le, show (x + 1) * y = x * y + y by grind]
    by_cases hy : 0 ≤ y
    · have h5 : x * y ≤ -y := by have := pr_pos (show 0 ≤ -x - 1 by omega) hy; rw [show (-x - 1) * y = -(x * y) - y by grind] at this; omega
      by_cases c : x * y < 0 <;> by_cases c' : x * y + y < 0 <;> simp only [c, c', if_true, if_false] at h3 ⊢ <;> omega
    · have h5 : 0 ≤ x * y + y := by have := pr_pos (show 0 ≤ -x - 1 by omega) (show 0 ≤ -y by omega); rw [show (-x - 1) * -y = x * y + y by grind] at this; omega
      by_cases c : x * y < 0 <;> by_cases c' : x * y + y < 0 <;> simp only [c, c', if_true, if_false] at h3 ⊢ <;> omega
theorem cost_mx (x y p q : Int) : cost (-x) y p q = cost x y p q := by unfold cost; rw [ab_neg]
theorem cost_my (x y p q : Int) : cost x (-y) p q = cost x y p q := by unfold cost; rw [ab_neg]
theorem cost_t (x y p q : Int) : cost y x q p = cost x y p q := by unfold cost; omega
theorem up_w {x y a p q : Int} (b : Box x y a p q) : ∃ p' q', Box (x - 1) y a p' q' ∧ cost (x - 1) y p' q' ≤ cost x y p q + 1 := by
  obtain ⟨p', q', b', c⟩ := up_e b.mx
  have := b'.mx
  rw [show -(-x + 1) = x - 1 by omega, show - -a = a by omega] at this
  refine ⟨p', q', this, ?_⟩
  rw [cost_mx] at c
  rw [← cost_mx, show -(x - 1) = -x + 1 by omega]
  exact c
theorem up {x y a x' y' a' p q : Int} (h : Stp x y a x' y' a') (b : Box x y a p q) : ∃ p' q', Box x' y' a' p' q' ∧ cost x' y' p' q' ≤ cost x y p q + 1 := by
  cases h with
  | e => exact up_e b
  | w => exact up_w b
  | n =>
    obtain ⟨p', q', b', c⟩ := up_e b.t
    have := b'.t
    rw [show (y + 1) * x - (x * y - a) = a + x by grind] at this
    exact ⟨q', p', this, by rw [cost_t, ← cost_t x y p q]; exact c⟩
  | s =>
    obtain ⟨p', q', b', c⟩ := up_w b.t
    have := b'.t
    rw [show (y - 1) * x - (x * y - a) = a - x by grind] at this
    exact ⟨q', p', this, by rw [cost_t, ← cost_t x y p q]; exact c⟩
/-- one less at some neighbour: over the first quarter, from half the oblong on -/
theorem down0 {x y a p q : Int} (b : Box x y a p q) (hx : 0 ≤ x) (hy : 0 ≤ y) (h2 : x * y ≤ 2 * a) (h0 : ¬ (x = 0 ∧ y = 0 ∧ a = 0)) :
    ∃ x' y' a' p' q', Stp x y a x' y' a' ∧ Box x' y' a' p' q' ∧ cost x' y' p' q' = cost x y p q - 1 := by
  obtain ⟨b1, b2, b3⟩ := b
  have t0 := pr_pos hx hy
  rw [gnd_le] at b3
  simp only [show ¬ x * y < 0 by omega, if_false] at b3
  have e1 : ab x = x := by unfold ab; split <;> omega
  have e2 : ab y = y := by unfold ab; split <;> omega
  rw [e1] at b1
  rw [e2] at b2
  by_cases hp : x < p
  · refine ⟨_, _, _, p, q, .e x y a, ⟨by unfold ab; split <;> omega, by rw [e2]; exact b2, ?_⟩, by unfold cost; rw [e1, e2]; unfold ab; split <;> omega⟩
    rw [gnd_le, show (x + 1) * y = x * y + y by grind]
    simp only [show ¬ x * y + y < 0 by omega, if_false]
    have h5 := pr_pos (show 0 ≤ p - x - 1 by omega) (show 0 ≤ q by omega)
    have h6 := pr_pos (show 0 ≤ x + 1 by omega) (show 0 ≤ q - y by omega)
    rw [show (p - x - 1) * q = p * q - x * q - q by grind] at h5
    rw [show (x + 1) * (q - y) = x * q - x * y + q - y by grind] at h6
    omega
  · have hpx : p = x := by omega
    subst hpx
    by_cases hq : y < q
    · have h5 := pr_pos hx (show 0 ≤ q - y - 1 by omega)
      rw [show p * (q - y - 1) = p * q - p * y - p by grind] at h5
      by_cases y1 : 1 ≤ y
      · refine ⟨_, _, _, p, q - 1, .s p y a, ⟨by rw [e1]; exact Int.le_refl _, by unfold ab; split <;> omega, ?_⟩, by unfold cost; rw [e1, e2]; unfold ab; split <;> omega⟩
        have h6 := pr_pos hx (show 0 ≤ y - 1 by omega)
        rw [gnd_le, show p * (y - 1) = p * y - p by grind, show p * (q - 1) = p * q - p by grind]
        rw [show p * (y - 1) = p * y - p by grind] at h6
        simp only [show ¬ p * y - p < 0 by omega, if_false]
        omega
      · have y0 : y = 0 := by omega
        subst y0
        refine ⟨_, _, _, p, q, .s p 0 a, ⟨by rw [e1]; exact Int.le_refl _, by unfold ab; split <;> omega, ?_⟩, by unfold cost; rw [e1, e2]; unfold ab; split <;> omega⟩
        rw [gnd_le, show p * (0 - 1) = -p by grind]
        rw [Int.mul_zero] at h5 h2 b3
        by_cases c : -p < 0 <;> simp only [c, if_true, if_false] <;> omega
    · have hqy : q = y := by omega
      subst hqy
      by_cases ha : 1 ≤ q ∧ p ≤ a
      · refine ⟨_, _, _, p, q - 1, .s p q a, ⟨by rw [e1]; exact Int.le_refl _, by unfold ab; split <;> omega, ?_⟩, by unfold cost; rw [e1, e2]; unfold ab; split <;> omega⟩
        have h6 := pr_pos hx (show 0 ≤ q - 1 by omega)
        rw [gnd_le, show p * (q - 1) = p * q - p by grind]
        rw [show p * (q - 1) = p * q - p by grind] at h6
        simp only [show ¬ p * q - p < 0 by omega, if_false]
        omega
      · have x1 : 1 ≤ p := by
          by_cases z : 1 ≤ p
          · exact z
          · have p0 : p = 0 := by omega
            subst p0
            rw [Int.zero_mul] at b3
            omega
        refine ⟨_, _, _, p - 1, q, .w p q a, ⟨by unfold ab; split <;> omega, by rw [e2]; exact Int.le_refl _, ?_⟩, by unfold cost; rw [e1, e2]; unfold ab; split <;> omega⟩
        have h6 := pr_pos (show 0 ≤ p - 1 by omega) hy
        rw [gnd_le, show (p - 1) * q = p * q - q by grind]
        rw [show (p - 1) * q = p * q - q by grind] at h6
        simp only [show ¬ p * q - q < 0 by omega, if_false]
        by_cases q1 : 1 ≤ q
        · have h7 := pr_pos (show 0 ≤ p - 1 by omega) (show 0 ≤ q - 1 by omega)
          rw [show (p - 1) * (q - 1) = p * q - p - q + 1 by grind] at h7
          omega
        · have q0 : q = 0 := by omega
          subst q0
          rw [Int.mul_zero] at b3 h2 ⊢
          omega
theorem down1 {x y a p q : Int} (b : Box x y a p q) (hx : 0 ≤ x) (hy : 0 ≤ y) (h0 : ¬ (x = 0 ∧ y = 0 ∧ a = 0)) :
    ∃ x' y' a' p' q', Stp x y a x' y' a' ∧ Box x' y' a' p' q' ∧ cost x' y' p' q' = cost x y p q - 1 := by
  by_cases h : x * y ≤ 2 * a
  · exact down0 b hx hy h h0
  · obtain ⟨x', y', a', p', q', s, b', c⟩ := down0 b.t hy hx (by rw [Int.mul_comm]; omega) (fun z => h0 ⟨z.2.1, z.1, by rw [z.1, Int.mul_zero] at z; omega⟩)
    have s' := s.t
    rw [show y * x - (x * y - a) = a by grind] at s'
    exact ⟨y', x', _, q', p', s', b'.t, by rw [cost_t, c, cost_t]⟩
theorem down {x y a p q : Int} (b : Box x y a p q) (h0 : ¬ (x = 0 ∧ y = 0 ∧ a = 0)) :
    ∃ x' y' a' p' q', Stp x y a x' y' a' ∧ Box x' y' a' p' q' ∧ cost x' y' p' q' = cost x y p q - 1 := by
  have half : ∀ {x y a p q : Int}, Box x y a p q → 0 ≤ y → ¬ (x = 0 ∧ y = 0 ∧ a = 0) → ∃ x' y' a' p' q', Stp x y a x' y' a' ∧ Box x' y' a' p' q' ∧ cost x' y' p' q' = cost x y p q - 1 := fun {x y a p q} b hy h0 => by
    by_cases hx : 0 ≤ x
    · exact down1 b hx hy h0
    · obtain ⟨x', y', a', p', q', s, b', c⟩ := down1 b.mx (by omega) hy (by omega)
      have s' := s.mx
      rw [show - -x = x by omega, show - -a = a by omega] at s'
      exact ⟨_, _, _, p', q', s', b'.mx, by rw [cost_mx, c, cost_mx]⟩
  by_cases hy : 0 ≤ y
  · exact half b hy h0
  · obtain ⟨x', y', a', p', q', s, b', c⟩ := half b.my (by omega) (by omega)
    have s' := s.my
    rw [show - -y = y by omega, show - -a = a by omega] at s'
    exact ⟨_, _, _, p', q', s', b'.my, by rw [cost_my, c, cost_my]⟩
/-! the formula -/
/-- c by ceiling: the least c with Z ≤ X * c -/
def ceilD (z m : Int) : Int := -((-z).fdiv m)
theorem ceilD_le {z m : Int} (hm : 0 < m) : z ≤ m * ceilD z m ∧ m * (ceilD z m - 1) < z := by
  unfold ceilD
  have h1 : m * (-z).fdiv m + (-z).fmod m = -z := Int.mul_fdiv_add_fmod (-z) m
  have h2 : 0 ≤ (-z).fmod m := Int.fmod_nonneg_of_pos _ hm
  have h3 : (-z).fmod m < m := Int.fmod_lt_of_pos _ hm
  rw [show m * (-(-z).fdiv m - 1) = -(m * (-z).fdiv m) - m by grind, Int.mul_neg]
  omega
def mor (x y : Int) : Int := if ab y ≤ ab x then ab x else ab y
def les (x y : Int) : Int := if ab y ≤ ab x then ab y else ab x
/-- what the formula tells, r being the least root of 4 * ground -/
def stpF (x y a r : Int) : Int :=
  if gnd x y a ≤ mor x y * les x y then mor x y + les x y
  else if gnd x y a ≤ mor x y * mor x y then 2 * ceilD (gnd x y a) (mor x y) + mor x y - les x y
  else 2 * r - mor x y - les x y
theorem mor_les (x y : Int) : mor x y + les x y = ab x + ab y ∧ les x y ≤ mor x y ∧ 0 ≤ les x y := by
  have h1 := ab_nonneg x
  have h2 := ab_nonneg y
  unfold mor les
  split <;> omega
theorem sq_le {u v : Int} (hu : 0 ≤ u) (hv : 0 ≤ v) (h : u * u ≤ v * v) : u ≤ v := by
  by_cases c : u ≤ v
  · exact c
  · have h1 := pr_pos (show 0 ≤ u - v - 1 by omega) (show 0 ≤ u + v by omega)
    rw [show (u - v - 1) * (u + v) = u * u - v * v - u - v by grind] at h1
    omega
theorem sq_lt {u v : Int} (hu : 0 ≤ u) (hv : 0 ≤ v) (h : u * u < v * v) : u < v := by
  by_cases c : u < v
  · exact c
  · have h1 := pr_pos (show 0 ≤ u - v by omega) (show 0 ≤ u + v by omega)
    rw [show (u - v) * (u + v) = u * u - v * v by grind] at h1
    omega
/-- no box is cheaper -/
theorem low_box {X Y Z p q r : Int} (hY : 0 ≤ Y) (hXY : Y ≤ X) (hp : X ≤ p) (hq : Y ≤ q) (hz : Z ≤ p * q) (hr : IsRt (4 * Z) r) :
    (if Z ≤ X * Y then X + Y else if Z ≤ X * X then 2 * ceilD Z X + X - Y else 2 * r - X - Y) ≤ 2 * (p + q) - X - Y := by
  split
  · omega
  · rename_i h1
    split
    · rename_i h2
      have hX : 0 < X := by
        by_cases c : 0 < X
        · exact c
        · have x0 : X = 0 := by omega
          subst x0
          rw [Int.zero_mul] at h1 h2
          omega
      obtain ⟨c1, c2⟩ := ceilD_le (z := Z) hX
      generalize ceilD Z X = c at *
      have hc : c ≤ X := by
        have : X * (c - 1) < X * X := Int.lt_of_lt_of_le c2 h2
        have := Int.lt_of_mul_lt_mul_left this (Int.le_of_lt hX)
        omega
      by_cases g : c + X ≤ p + q
      · omega
      · have h5 := pr_pos (show 0 ≤ p - X by omega) (show 0 ≤ X - c + 1 by omega)
        have h6 := pr_pos (show 0 ≤ p - X by omega) (show 0 ≤ p - X by omega)
        have h7 := pr_pos (show 0 ≤ p by omega) (show 0 ≤ c + X - 1 - p - q by omega)
        rw [show (p - X) * (X - c + 1) = p * X - p * c + p - X * X + X * c - X by grind] at h5
        rw [show (p - X) * (p - X) = p * p - 2 * (p * X) + X * X by grind] at h6
        rw [show p * (c + X - 1 - p - q) = p * c + p * X - p - p * p - p * q by grind] at h7
        rw [show X * (c - 1) = X * c - X by grind] at c2
        omega
    · have : r ≤ p + q := by
        by_cases c : r ≤ p + q
        · exact c
        · have h5 := hr.2.2 (by omega)
          have h6 := pr_pos (show 0 ≤ r - 1 - (p + q) by omega) (show 0 ≤ r - 1 + (p + q) by omega)
          rw [show (r - 1 - (p + q)) * (r - 1 + (p + q)) = (r - 1) * (r - 1) - (p * p + 2 * (p * q) + q * q) by grind] at h6
          have h7 : 0 ≤ (p - q) * (p - q) := by
            by_cases g : 0 ≤ p - q
            · exact pr_pos g g
            · have := pr_pos (show 0 ≤ q - p by omega) (show 0 ≤ q - p by omega)
              rw [show (q - p) * (q - p) = (p - q) * (p - q) by grind] at this
              exact this
          rw [show (p - q) * (p - q) = p * p - 2 * (p * q) + q * q by grind] at h7
          omega
      omega
/-- some box is as cheap -/
theorem has_box {X Y Z r : Int} (hY : 0 ≤ Y) (hXY : Y ≤ X) (hr : IsRt (4 * Z) r) : ∃ p q, X ≤ p ∧ Y ≤ q ∧ Z ≤ p * q ∧
    (if Z ≤ X * Y then X + Y else if Z ≤ X * X then 2 * ceilD Z X + X - Y else 2 * r - X - Y) = 2 * (p + q) - X - Y := by
  split
  · rename_i h1
    exact ⟨X, Y, Int.le_refl _, Int.le_refl _, h1, by omega⟩
  · rename_i h1
    split
    · rename_i h2
      have hX : 0 < X := by
        by_cases c : 0 < X
        · exact c
        · have x0 : X = 0 := by omega
          subst x0
          rw [Int.zero_mul] at h1 h2
          omega
      obtain ⟨c1, c2⟩ := ceilD_le (z := Z) hX
      generalize ceilD Z X = c at *
      have : Y < c := by
        have : X * Y < X * c := by omega
        exact Int.lt_of_mul_lt_mul_left this (Int.le_of_lt hX)
      exact ⟨X, c, Int.le_refl _, by omega, c1, by omega⟩
    · rename_i h2
      have h3 : 2 * X < r := sq_lt (by omega) hr.1 (by have := hr.2.1; rw [show 2 * X * (2 * X) = 4 * (X * X) by grind]; omega)
      have h4 := hr.2.1
      have ⟨k, hk⟩ : ∃ k, r = 2 * k ∨ r = 2 * k + 1 := ⟨r / 2, by omega⟩
      rcases hk with rfl | rfl
      · refine ⟨k, k, by omega, by omega, ?_, by omega⟩
        rw [show 2 * k * (2 * k) = 4 * (k * k) by grind] at h4
        omega
      · refine ⟨k + 1, k, by omega, by omega, ?_, by omega⟩
        rw [show (2 * k + 1) * (2 * k + 1) = 4 * (k * k) + 4 * k + 1 by grind] at h4
        rw [show (k + 1) * k = k * k + k by grind]
        omega
theorem stp_low {x y a p q r : Int} (b : Box x y a p q) (hr : IsRt (4 * gnd x y a) r) : stpF x y a r ≤ cost x y p q := by
  obtain ⟨h1, h2, h3⟩ := b
  obtain ⟨m1, m2, m3⟩ := mor_les x y
  have key : ∀ p q, mor x y ≤ p → les x y ≤ q → gnd x y a ≤ p * q → stpF x y a r ≤ 2 * (p + q) - mor x y - les x y := fun p q hp hq hz => low_box m3 m2 hp hq hz hr
  unfold cost
  unfold mor les at key m1
  split at key
  · rename_i c
    have := key p q h1 h2 h3
    omega
  · have := key q p h2 h1 (by rw [Int.mul_comm]; exact h3)
    omega
theorem stp_has {x y a r : Int} (hr : IsRt (4 * gnd x y a) r) : ∃ p q, Box x y a p q ∧ stpF x y a r = cost x y p q := by
  obtain ⟨m1, m2, m3⟩ := mor_les x y
  obtain ⟨p, q, hp, hq, hz, e⟩ := has_box (Z := gnd x y a) m3 m2 hr
  have e : stpF x y a r = 2 * (p + q) - mor x y - les x y := e
  unfold mor at hp
  unfold les at hq
  unfold cost
  split at hp <;> rename_i c <;> simp only [c, if_true, if_false] at hq
  · exact ⟨p, q, ⟨hp, hq, hz⟩, by omega⟩
  · exact ⟨q, p, ⟨hq, hp, by rw [Int.mul_comm]; exact hz⟩, by omega⟩
/-- the least root of a whole number -/
theorem rt_ex (n : Int) (h : 0 ≤ n) : ∃ r, IsRt n r := by
  have : ∀ k : Nat, (∃ r, 0 ≤ r ∧ r ≤ k ∧ IsRt n r) ∨ (k : Int) * k < n := fun k => by
    induction k with
    | zero =>
      by_cases c : n = 0
      · exact .inl ⟨0, by omega, by omega, by omega, by omega, by omega⟩
      · exact .inr (by simp; omega)
    | succ k ih =>
      rcases ih with ⟨r, h1, h2, h3⟩ | h
      · exact .inl ⟨r, h1, by omega, h3⟩
      · by_cases c : ((k + 1 : Nat) : Int) * (k + 1 : Nat) < n
        · exact .inr c
        · exact .inl ⟨(k + 1 : Nat), by omega, by omega, by omega, by omega, fun _ => by
            rw [show ((k + 1 : Nat) : Int) - 1 = k by omega]
            exact h⟩
  rcases this (n.toNat + 1) with ⟨r, _, _, h⟩ | h
  · exact ⟨r, h⟩
  · exfalso
    have e : ((n.toNat + 1 : Nat) : Int) = n + 1 := by omega
    rw [e, show (n + 1) * (n + 1) = n * n + 2 * n + 1 by grind] at h
    have := pr_pos (show (0:Int) ≤ n from by assumption) (show (0:Int) ≤ n from by assumption)
    omega
theorem rt_uniq {n r r' : Int} (h : IsRt n r) (h' : IsRt n r') : r = r' := by
  have key : ∀ {r r' : Int}, IsRt n r → IsRt n r' → r ≤ r' := fun {r r'} h h' => by
    by_cases c : r ≤ r'
    · exact c
    · have h1 := h.2.2 (by have := h'.1; omega)
      have h2 := h'.2.1
      have := sq_lt (by have := h'.1; omega) h'.1 (Int.lt_of_lt_of_le h1 h2)
      omega
  have h1 := key h h'
  have h2 := key h' h
  omega
open Classical in
noncomputable def rt (n : Int) : Int := if h : 0 ≤ n then Classical.choose (rt_ex n h) else 0
theorem rt_is {n : Int} (h : 0 ≤ n) : IsRt n (rt n) := by
  unfold rt
  rw [dif_pos h]
  exact Classical.choose_spec (rt_ex n h)
theorem rt_eq {n r : Int} (h : IsRt n r) : rt n = r := by
  by_cases c : 0 ≤ n
  · exact rt_uniq (rt_is c) h
  · unfold rt
    rw [dif_neg c]
    by_cases g : 0 < r
    · have := h.2.2 g
      have := pr_pos (show 0 ≤ r - 1 by omega) (show 0 ≤ r - 1 by omega)
      omega
    · have := h.1
      omega
/-- the steps of a place -/
noncomputable def stp (x y a : Int) : Int := stpF x y a (rt (4 * gnd x y a))
theorem g4 (x y a : Int) : 0 ≤ 4 * gnd x y a := by have := gnd_nonneg x y a; omega
theorem stp_le {x y a p q : Int} (b : Box x y a p q) : stp x y a ≤ cost x y p q := stp_low b (rt_is (g4 x y a))
theorem stp_box (x y a : Int) : ∃ p q, Box x y a p q ∧ stp x y a = cost x y p q := stp_has (rt_is (g4 x y a))
theorem stp_up {x y a x' y' a' : Int} (h : Stp x y a x' y' a') : stp x' y' a' ≤ stp x y a + 1 := by
  obtain ⟨p, q, b, e⟩ := stp_box x y a
  obtain ⟨p', q', b', c⟩ := up h b
  have := stp_le b'
  omega
theorem stp_par (x y a : Int) : (stp x y a - x - y) % 2 = 0 := by
  obtain ⟨p, q, b, e⟩ := stp_box x y a
  rw [e]
  unfold cost ab
  split <;> split <;> omega
theorem stp_adj {x y a x' y' a' : Int} (h : Stp x y a x' y' a') : stp x' y' a' = stp x y a + 1 ∨ stp x' y' a' = stp x y a - 1 := by
  have h1 := stp_up h
  have h2 := stp_up h.back
  have h3 := stp_par x y a
  have h4 := stp_par x' y' a'
  have h5 : (x' + y' - x - y) % 2 = 1 := by cases h <;> omega
  omega
theorem stp_dec {x y a : Int} (h0 : ¬ (x = 0 ∧ y = 0 ∧ a = 0)) : ∃ x' y' a', Stp x y a x' y' a' ∧ stp x' y' a' = stp x y a - 1 := by
  obtain ⟨p, q, b, e⟩ := stp_box x y a
  obtain ⟨x', y', a', p', q', s, b', c⟩ := down b h0
  refine ⟨x', y', a', s, ?_⟩
  have h1 := stp_le b'
  have h2 := stp_adj s
  omega
theorem stp_nonneg (x y a : Int) : 0 ≤ stp x y a := by
  obtain ⟨p, q, b, e⟩ := stp_box x y a
  rw [e]
  have := b.px
  have := b.qy
  have := ab_nonneg x
  have := ab_nonneg y
  unfold cost
  omega
theorem stp_zero : stp 0 0 0 = 0 := by
  have h := stp_le (x := 0) (y := 0) (a := 0) (p := 0) (q := 0) ⟨by decide, by decide, by decide⟩
  have h2 := stp_nonneg 0 0 0
  have : cost 0 0 0 0 = 0 := by decide
  omega
theorem stp_pos {x y a : Int} (h0 : ¬ (x = 0 ∧ y = 0 ∧ a = 0)) : 0 < stp x y a := by
  obtain ⟨x', y', a', s, e⟩ := stp_dec h0
  have := stp_nonneg x' y' a'
  omega
theorem stp_sym {x y a x' y' a' : Int} (h : ∀ p q, Box x y a p q → ∃ p' q', Box x' y' a' p' q' ∧ cost x' y' p' q' = cost x y p q) : stp x' y' a' ≤ stp x y a := by
  obtain ⟨p, q, b, e⟩ := stp_box x y a
  obtain ⟨p', q', b', c⟩ := h p q b
  have := stp_le b'
  omega
theorem stp_mx (x y a : Int) : stp (-x) y (-a) = stp x y a := by
  have key : ∀ x y a : Int, stp (-x) y (-a) ≤ stp x y a := fun x y a => stp_sym fun p q b => ⟨p, q, b.mx, cost_mx ..⟩
  have h1 := key x y a
  have h2 := key (-x) y (-a)
  rw [show - -x = x by omega, show - -a = a by omega] at h2
  omega
theorem stp_my (x y a : Int) : stp x (-y) (-a) = stp x y a := by
  have key : ∀ x y a : Int, stp x (-y) (-a) ≤ stp x y a := fun x y a => stp_sym fun p q b => ⟨p, q, b.my, cost_my ..⟩
  have h1 := key x y a
  have h2 := key x (-y) (-a)
  rw [show - -y = y by omega, show - -a = a by omega] at h2
  omega
theorem stp_t (x y a : Int) : stp y x (x * y - a) = stp x y a := by
  have key : ∀ x y a : Int, stp y x (x * y - a) ≤ stp x y a := fun x y a => stp_sym fun p q b => ⟨q, p, b.t, cost_t ..⟩
  have h1 := key x y a
  have h2 := key y x (x * y - a)
  rw [show y * x - (x * y - a) = a by grind] at h2
  omega
/-- a place, walked on by a step, ahead of it another one -/
theorem Stp.ahead {x y a x' y' a' : Int} (h : Stp x y a x' y' a') (u v b : Int) : Stp (u + x) (v + y) (b + a + u * y) (u + x') (v + y') (b + a' + u * y') := by
  cases h with
  | e => rw [show u + (x + 1) = u + x + 1 by omega]; exact .e ..
  | w => rw [show u + (x - 1) = u + x - 1 by omega]; exact .w ..
  | n => rw [show v + (y + 1) = v + y + 1 by omega, show b + (a + x) + u * (y + 1) = b + a + u * y + (u + x) by grind]; exact .n ..
  | s => rw [show v + (y - 1) = v + y - 1 by omega, show b + (a - x) + u * (y - 1) = b + a + u * y - (u + x) by grind]; exact .s ..
theorem stp_tri (u v b : Int) : ∀ (n : Nat) (x y a : Int), stp x y a = n → stp (u + x) (v + y) (b + a + u * y) ≤ stp u v b + n
  | 0, x, y, a, h => by
    by_cases h0 : x = 0 ∧ y = 0 ∧ a = 0
    · obtain ⟨rfl, rfl, rfl⟩ := h0
      rw [show u + 0 = u by omega, show v + 0 = v by omega, show b + 0 + u * 0 = b by grind]
      simp
    · have := stp_pos h0
      simp at h
      omega
  | n + 1, x, y, a, h => by
    by_cases h0 : x = 0 ∧ y = 0 ∧ a = 0
    · obtain ⟨rfl, rfl, rfl⟩ := h0
      rw [stp_zero] at h
      omega
    · obtain ⟨x', y', a', s, e⟩ := stp_dec h0
      have h1 := stp_tri u v b n x' y' a' (by omega)
      have h2 := stp_up (s.ahead u v b).back
      omega
theorem tri (u v b x y a : Int) : stp (u + x) (v + y) (b + a + u * y) ≤ stp u v b + stp x y a := by
  have h := stp_nonneg x y a
  obtain ⟨n, hn⟩ := Int.eq_ofNat_of_zero_le h
  have := stp_tri u v b n x y a hn
  omega
/-! closed values -/
theorem stp_eq {x y a v p q : Int} (b : Box x y a p q) (hc : cost x y p q = v) (hl : ∀ p q, Box x y a p q → v ≤ cost x y p q) : stp x y a = v := by
  have h1 := stp_le b
  obtain ⟨p', q', b', e⟩ := stp_box x y a
  have h2 := hl p' q' b'
  omega
theorem ab_of {x : Int} (h : 0 ≤ x) : ab x = x := by unfold ab; split <;> omega
theorem gnd0 {x a : Int} : gnd x 0 a = ab a := by
  unfold gnd ab
  rw [Int.mul_zero, Int.fdiv_eq_ediv_of_nonneg _ (by decide)]
  split <;> split <;> omega
theorem gnd00 {a : Int} : gnd 0 0 a = ab a := gnd0
theorem sq4 (p q : Int) : 4 * (p * q) ≤ (p + q) * (p + q) := by
  have h : 0 ≤ (p - q) * (p - q) := by
    by_cases g : 0 ≤ p - q
    · exact pr_pos g g
    · have := pr_pos (show 0 ≤ q - p by omega) (show 0 ≤ q - p by omega)
      rw [show (q - p) * (q - p) = (p - q) * (p - q) by grind] at this
      exact this
  rw [show (p - q) * (p - q) = (p + q) * (p + q) - 4 * (p * q) by grind] at h
  omega
theorem closed_sq {s m : Int} (hs : 1 ≤ s) (hm : m = 0 ∨ m = 1) : stp 0 0 (s * (s + m)) = 4 * s + 2 * m ∧ stp 0 0 (s * (s + m) + 1) = 4 * s + 2 * m + 2 := by
  have hA := pr_pos (show 0 ≤ s by omega) (show 0 ≤ s + m by omega)
  have c0 : ∀ p q : Int, cost 0 0 p q = 2 * (p + q) := fun p q => by unfold cost ab; simp
  have low : ∀ (p q t : Int), 0 ≤ p → 0 ≤ q → 0 ≤ t → t * t < 4 * (p * q) → t < p + q := fun p q t hp hq ht h => sq_lt ht (by omega) (by have := sq4 p q; omega)
  constructor
  · refine stp_eq (p := s) (q := s + m) ⟨by rw [ab_of (by omega)]; omega, by rw [ab_of (by omega)]; omega, by rw [gnd00, ab_of hA]; exact Int.le_refl _⟩ (by rw [c0]; omega) fun p q b => ?_
    have h1 := b.px
    have h2 := b.qy
    have h3 := b.room
    rw [gnd00, ab_of hA] at h3
    rw [ab_of (by omega)] at h1 h2
    rw [c0]
    have := low p q (2 * s + m - 1) h1 h2 (by omega) (by
      rcases hm with rfl | rfl
      · rw [show (2 * s + 0 - 1) * (2 * s + 0 - 1) = 4 * (s * s) - 4 * s + 1 by grind]
        rw [show s * (s + 0) = s * s by grind] at h3
        omega
      · rw [show (2 * s + 1 - 1) * (2 * s + 1 - 1) = 4 * (s * s) by grind]
        rw [show s * (s + 1) = s * s + s by grind] at h3
        omega)
    omega
  · refine stp_eq (p := s + 1) (q := s + m) ⟨by rw [ab_of (by omega)]; omega, by rw [ab_of (by omega)]; omega, ?_⟩ (by rw [c0]; omega) fun p q b => ?_
    · rw [gnd00, ab_of (by omega), show (s + 1) * (s + m) = s * (s + m) + s + m by grind]
      omega
    have h1 := b.px
    have h2 := b.qy
    have h3 := b.room
    rw [gnd00, ab_of (by omega)] at h3
    rw [ab_of (by omega)] at h1 h2
    rw [c0]
    have := low p q (2 * s + m) h1 h2 (by omega) (by
      rcases hm with rfl | rfl
      · rw [show (2 * s + 0) * (2 * s + 0) = 4 * (s * s) by grind]
        rw [show s * (s + 0) = s * s by grind] at h3
        omega
      · rw [show (2 * s + 1) * (2 * s + 1) = 4 * (s * s) + 4 * s + 1 by grind]
        rw [show s * (s + 1) = s * s + s by grind] at h3
        omega)
    omega
theorem sum_ge {W H p q : Int} (hH : 0 ≤ H) (hW : H ≤ W) (hp : W ≤ p) (hq : 0 ≤ q) (h : W * H - W < p * q) : W + H ≤ p + q := by
  by_cases c : W + H ≤ p + q
  · exact c
  · have h1 := pr_pos (show 0 ≤ p by omega) (show 0 ≤ W + H - 1 - p - q by omega)
    have h2 := pr_pos (show 0 ≤ p - W by omega) (show 0 ≤ W - H + 1 by omega)
    have h3 := pr_pos (show 0 ≤ p - W by omega) (show 0 ≤ p - W by omega)
    rw [show p * (W + H - 1 - p - q) = p * W + p * H - p - p * p - p * q by grind] at h1
    rw [show (p - W) * (W - H + 1) = p * W - p * H + p - W * W + W * H - W by grind] at h2
    rw [show (p - W) * (p - W) = p * p - 2 * (p * W) + W * W by grind] at h3
    omega
theorem closed_ob {W H : Int} (hH : 1 ≤ H) (hW : H ≤ W) : stp W H (W * H) = W + H ∧ stp W H 0 = W + H ∧ stp W 0 (W * H) = W + 2 * H ∧ stp W H (W * H + 1) = W + H + 2 ∧ stp W 0 (-W * H + 1) = W + 2 * H - 2 * (if W = 1 then 1 else 0) := by
  have hA := pr_pos (show 0 ≤ W by omega) (show 0 ≤ H by omega)
  have aW : ab W = W := ab_of (by omega)
  have aH : ab H = H := ab_of (by omega)
  have a0 : ab 0 = 0 := ab_of (by omega)
  have g := gnd_max W H
  have big : 1 ≤ W * H := by
    have := pr_pos (show 0 ≤ W - 1 by omega) (show 0 ≤ H - 1 by omega)
    rw [show (W - 1) * (H - 1) = W * H - W - H + 1 by grind] at this
    omega
  have c1 : ∀ p q, cost W H p q = 2 * (p + q) - W - H := fun p q => by unfold cost; rw [aW, aH]
  have c2 : ∀ p q, cost W 0 p q = 2 * (p + q) - W := fun p q => by unfold cost; rw [aW, a0]; omega
  refine ⟨?_, ?_, ?_, ?_, ?_⟩
  · refine stp_eq (p := W) (q := H) ⟨by rw [aW]; exact Int.le_refl _, by rw [aH]; exact Int.le_refl _, by rw [(g _).1 hA]; split <;> omega⟩ (by rw [c1]; omega) fun p q b => ?_
    have h1 := b.px
    have h2 := b.qy
    rw [aW] at h1
    rw [aH] at h2
    rw [c1]
    omega
  · refine stp_eq (p := W) (q := H) ⟨by rw [aW]; exact Int.le_refl _, by rw [aH]; exact Int.le_refl _, by rw [(g _).1 hA]; split <;> omega⟩ (by rw [c1]; omega) fun p q b => ?_
    have h1 := b.px
    have h2 := b.qy
    rw [aW] at h1
    rw [aH] at h2
    rw [c1]
    omega
  · refine stp_eq (p := W) (q := H) ⟨by rw [aW]; exact Int.le_refl _, by rw [a0]; omega, by rw [gnd0, ab_of hA]; exact Int.le_refl _⟩ (by rw [c2]; omega) fun p q b => ?_
    have h1 := b.px
    have h2 := b.qy
    have h3 := b.room
    rw [aW] at h1
    rw [a0] at h2
    rw [gnd0, ab_of hA] at h3
    rw [c2]
    have := sum_ge (show 0 ≤ H by omega) hW h1 h2 (by omega)
    omega
  · refine stp_eq (p := W + 1) (q := H) ⟨by rw [aW]; omega, by rw [aH]; exact Int.le_refl _, ?_⟩ (by rw [c1]; omega) fun p q b => ?_
    · rw [(g _).1 hA, show (W + 1) * H = W * H + H by grind]; split <;> omega
    have h1 := b.px
    have h2 := b.qy
    have h3 := b.room
    rw [aW] at h1
    rw [aH] at h2
    rw [(g _).1 hA] at h3
    rw [if_pos (by omega)] at h3
    rw [c1]
    by_cases e : p + q = W + H
    · have e1 : p = W := by omega
      have e2 : q = H := by omega
      subst e1
      subst e2
      omega
    · omega
  · rw [show -W * H + 1 = -(W * H - 1) by grind]
    have gz : gnd W 0 (-(W * H - 1)) = W * H - 1 := by rw [gnd0, ab_neg, ab_of (by omega)]
    by_cases w1 : W = 1
    · subst w1
      have h1 : H = 1 := by omega
      subst h1
      rw [if_pos rfl]
      refine stp_eq (p := 1) (q := 0) ⟨by rw [aW]; exact Int.le_refl _, by rw [a0]; omega, by rw [gz]; decide⟩ (by rw [c2]; decide) fun p q b => ?_
      have h1 := b.px
      have h2 := b.qy
      rw [aW] at h1
      rw [a0] at h2
      rw [c2]
      omega
    · rw [if_neg w1]
      refine stp_eq (p := W) (q := H) ⟨by rw [aW]; exact Int.le_refl _, by rw [a0]; omega, by rw [gz]; omega⟩ (by rw [c2]; omega) fun p q b => ?_
      have h1 := b.px
      have h2 := b.qy
      have h3 := b.room
      rw [aW] at h1
      rw [a0] at h2
      rw [gz] at h3
      rw [c2]
      have := sum_ge (show 0 ≤ H by omega) hW h1 h2 (by omega)
      omega
theorem stp_congr {x y a x' y' a' : Int} (h : gnd x y a = gnd x' y' a') (hx : ab x = ab x') (hy : ab y = ab y') : stp x y a = stp x' y' a' := by
  unfold stp stpF mor les
  rw [h, hx, hy]
theorem stp_back (x y a : Int) : stp (-x) (-y) (x * y - a) = stp x y a := by
  refine stp_congr ?_ (ab_neg x) (ab_neg y)
  unfold gnd
  rw [show 2 * (x * y - a) - -x * -y = -(2 * a - x * y) by grind, show -x * -y = x * y by grind, ab_neg]
end ST
set_option maxRecDepth 100000
set_option maxHeartbeats 4000000
namespace ST
/-! ### walks as runs: the plain law -/
/-- letters: e 101, n 110, w 119, s 115 -/
def isL (c : Nat) : Prop := c = 101 ∨ c = 110 ∨ c = 119 ∨ c = 115
structure Sp where
  x : Int
  y : Int
  a : Int
def gone (p : Sp) (c : Nat) (t : Int) : Sp :=
  if c = 101 then ⟨p.x + t, p.y, p.a⟩ else if c = 119 then ⟨p.x - t, p.y, p.a⟩ else if c = 110 then ⟨p.x, p.y + t, p.a + p.x * t⟩ else ⟨p.x, p.y - t, p.a - p.x * t⟩
abbrev Runs := List (Nat × Int)
def led (p : Sp) : Runs → Sp
  | [] => p
  | (c, t) :: r => led (gone p c t) r
def len : Runs → Int
  | [] => 0
  | (_, t) :: r => t + len r
abbrev home : Sp := ⟨0, 0, 0⟩
/-- all letters are letters, all numbers are 0 or greater -/
def Good (r : Runs) : Prop := ∀ q ∈ r, isL q.1 ∧ 0 ≤ q.2
theorem Good.tail {q : Nat × Int} {r : Runs} (h : Good (q :: r)) : Good r := fun p hp => h p (List.mem_cons_of_mem _ hp)
theorem Good.head {q : Nat × Int} {r : Runs} (h : Good (q :: r)) : isL q.1 ∧ 0 ≤ q.2 := h q (List.mem_cons_self ..)
theorem Good.app {r r' : Runs} (h : Good r) (h' : Good r') : Good (r ++ r') := fun p hp => by
  rcases List.mem_append.mp hp with z | z
  · exact h p z
  · exact h' p z
theorem led_app (p : Sp) (r r' : Runs) : led p (r ++ r') = led (led p r) r' := by
  induction r generalizing p with
  | nil => rfl
  | cons q r ih => exact ih _
theorem len_app (r r' : Runs) : len (r ++ r') = len r + len r' := by
  induction r with
  | nil => simp [len]
  | cons q r ih => simp only [List.cons_append, len, ih]; omega
theorem len_nonneg {r : Runs} (h : Good r) : 0 ≤ len r := by
  induction r with
  | nil => exact Int.le_refl _
  | cons q r ih =>
    have h1 := h.head.2
    have h2 := ih h.tail
    simp only [len]
    omega
theorem gone_zero (p : Sp) (c : Nat) : gone p c 0 = p := by
  unfold gone
  split
  · simp
  · split
    · simp
    · split <;> simp
theorem gone_add (p : Sp) (c : Nat) (t u : Int) : gone (gone p c t) c u = gone p c (t + u) := by
  unfold gone
  split
  · simp; omega
  · split
    · simp; omega
    · split
      · simp only [Sp.mk.injEq, true_and]; exact ⟨by omega, by grind⟩
      · simp only [Sp.mk.injEq, true_and]; exact ⟨by omega, by grind⟩
/-- one step -/
theorem gone_one {p : Sp} {c : Nat} (h : isL c) : Stp p.x p.y p.a (gone p c 1).x (gone p c 1).y (gone p c 1).a := by
  unfold gone
  rcases h with rfl | rfl | rfl | rfl
  · exact .e ..
  · simp only [show ¬ (110 = 101) by decide, show ¬ (110 = 119) by decide, if_false, if_true, Int.mul_one]; exact .n ..
  · simp only [show ¬ (119 = 101) by decide, if_false, if_true]; exact .w ..
  · simp only [show ¬ (115 = 101) by decide, show ¬ (115 = 119) by decide, show ¬ (115 = 110) by decide, if_false, Int.mul_one]; exact .s ..
noncomputable def st (p : Sp) : Int := stp p.x p.y p.a
theorem st_gone1 {p : Sp} {c : Nat} (h : isL c) : st (gone p c 1) = st p + 1 ∨ st (gone p c 1) = st p - 1 := stp_adj (gone_one h)
theorem st_gone {p : Sp} {c : Nat} (h : isL c) : ∀ n : Nat, st (gone p c n) ≤ st p + n ∧ st p ≤ st (gone p c n) + n
  | 0 => by
    rw [show ((0 : Nat) : Int) = 0 from rfl, gone_zero]
    omega
  | n + 1 => by
    have h1 := st_gone (p := p) h n
    have h2 := st_gone1 (p := gone p c n) h
    rw [gone_add] at h2
    rw [show ((n + 1 : Nat) : Int) = (n : Int) + 1 by omega]
    omega
theorem st_goneI {p : Sp} {c : Nat} {t : Int} (h : isL c) (ht : 0 ≤ t) : st (gone p c t) ≤ st p + t ∧ st p ≤ st (gone p c t) + t := by
  obtain ⟨n, rfl⟩ := Int.eq_ofNat_of_zero_le ht
  exact st_gone h n
theorem st_led {p : Sp} {r : Runs} (h : Good r) : st (led p r) ≤ st p + len r := by
  induction r generalizing p with
  | nil => simp [led, len]
  | cons q r ih =>
    have h1 := (st_goneI (p := p) h.head.1 h.head.2).1
    have h2 := ih (p := gone p q.1 q.2) h.tail
    simp only [led, len]
    omega
theorem st_home : st home = 0 := stp_zero
/-- a walk is no shorter than the steps of its place -/
theorem st_le_len {r : Runs} (h : Good r) : st (led home r) ≤ len r := by
  have := st_led (p := home) h
  rw [st_home] at this
  omega
/-! ### runs put together -/
def mgStep (acc : Runs) (q : Nat × Int) : Runs := match acc.getLast? with
  | some l => if l.1 = q.1 then acc.dropLast ++ [(q.1, l.2 + q.2)] else if 0 < q.2 then acc ++ [q] else acc
  | none => if 0 < q.2 then acc ++ [q] else acc
def mg (r : Runs) : Runs := r.foldl mgStep []
/-- unlike letters next to one another, numbers from 1 on -/
def Neat : Runs → Prop
  | [] => True
  | [q] => isL q.1 ∧ 1 ≤ q.2
  | q :: q' :: r => (isL q.1 ∧ 1 ≤ q.2) ∧ q.1 ≠ q'.1 ∧ Neat (q' :: r)
theorem Neat.tail {q : Nat × Int} {r : Runs} (h : Neat (q :: r)) : Neat r := by
  cases r with
  | nil => trivial
  | cons q' r => exact h.2.2
theorem Neat.head {q : Nat × Int} {r : Runs} (h : Neat (q :: r)) : isL q.1 ∧ 1 ≤ q.2 := by
  cases r with
  | nil => exact h
  | cons q' r => exact h.1
theorem Neat.good : ∀ {r : Runs}, Neat r → Good r
  | [], _ => fun q hq => by cases hq
  | q :: r, h => fun p hp => by
    rcases List.mem_cons.mp hp with z | z
    · subst z
      exact ⟨h.head.1, by have := h.head.2; omega⟩
    · exact Neat.good h.tail p z
theorem neat_snoc : ∀ {r : Runs} {q : Nat × Int}, Neat r → isL q.1 → 1 ≤ q.2 → (∀ l, r.getLast? = some l → l.1 ≠ q.1) → Neat (r ++ [q])
  | [], q, _, h1, h2, _ => ⟨h1, h2⟩
  | [l], q, h, h1, h2, h3 => ⟨h, h3 l rfl, h1, h2⟩
  | l :: l' :: r, q, h, h1, h2, h3 => ⟨h.1, h.2.1, neat_snoc (r := l' :: r) h.2.2 h1 h2 (fun z hz => h3 z (by rw [List.getLast?_cons_cons]; exact hz))⟩
theorem neat_app : ∀ {r r' : Runs}, Neat (r ++ r') → Neat r ∧ Neat r'
  | [], r', h => ⟨trivial, h⟩
  | [q], [], h => ⟨h, trivial⟩
  | [q], q' :: r', h => ⟨h.head, h.tail⟩
  | q :: q' :: r, r', h => ⟨⟨h.1, h.2.1, (neat_app (r := q' :: r) h.2.2).1⟩, (neat_app (r := q' :: r) h.2.2).2⟩
theorem mgStep_ok {acc : Runs} {q : Nat × Int} (h : Neat acc) (h1 : isL q.1) (h2 : 0 ≤ q.2) (p : Sp) : Neat (mgStep acc q) ∧ led p (mgStep acc q) = gone (led p acc) q.1 q.2 ∧ len (mgStep acc q) = len acc + q.2 := by
  have zero : q.2 = 0 → led p acc = gone (led p acc) q.1 q.2 ∧ len acc = len acc + q.2 := fun z => by rw [z, gone_zero]; simp
  unfold mgStep
  split
  · rename_i l hl
    have e : acc = acc.dropLast ++ [l] := by
      rw [List.getLast?_eq_some_iff] at hl
      obtain ⟨ys, rfl⟩ := hl
      simp
    split
    · rename_i hc
      have hn := (neat_app (e ▸ h)).1
      have hl2 : isL l.1 ∧ 1 ≤ l.2 := (neat_app (r := acc.dropLast) (r' := [l]) (e ▸ h)).2
      refine ⟨neat_snoc hn h1 (by show 1 ≤ l.2 + q.2; omega) (fun l' hl' => ?_), ?_, ?_⟩
      · rw [List.getLast?_eq_some_iff] at hl'
        obtain ⟨ys, hy⟩ := hl'
        rw [hy] at e
        have : Neat (ys ++ ([l'] ++ [l])) := by rw [← List.append_assoc, ← e]; exact h
        have := (neat_app this).2
        rw [← hc]
        exact this.2.1
      · rw [led_app]
        conv => rhs; rw [e, led_app]
        show gone (led p acc.dropLast) q.1 (l.2 + q.2) = gone (gone (led p acc.dropLast) l.1 l.2) q.1 q.2
        rw [hc, gone_add]
      · rw [len_app]
        conv => rhs; rw [e, len_app]
        simp only [len]
        omega
    · rename_i hc
      split
      · refine ⟨neat_snoc h h1 (by omega) (fun l' hl' => ?_), by rw [led_app]; rfl, by rw [len_app]; simp only [len]; omega⟩
        rw [hl] at hl'
        cases hl'
        exact hc
      · exact ⟨h, zero (by omega)⟩
  · rename_i hl
    have e : acc = [] := List.getLast?_eq_none_iff.mp hl
    subst e
    split
    · exact ⟨⟨h1, by omega⟩, rfl, by simp [len]⟩
    · exact ⟨trivial, zero (by omega)⟩
theorem fold_ok (p : Sp) : ∀ (r acc : Runs), Good r → Neat acc → Neat (r.foldl mgStep acc) ∧ led p (r.foldl mgStep acc) = led (led p acc) r ∧ len (r.foldl mgStep acc) = len acc + len r
  | [], acc, _, h => ⟨h, rfl, by simp [len]⟩
  | q :: r, acc, g, h => by
    obtain ⟨h1, h2, h3⟩ := mgStep_ok h g.head.1 g.head.2 p
    obtain ⟨k1, k2, k3⟩ := fold_ok p r (mgStep acc q) g.tail h1
    refine ⟨k1, ?_, ?_⟩
    · show led p (r.foldl mgStep (mgStep acc q)) = led (gone (led p acc) q.1 q.2) r
      rw [k2, h2]
    · show len (r.foldl mgStep (mgStep acc q)) = len acc + (q.2 + len r)
      rw [k3, h3]
      omega
theorem mg_neat {r : Runs} (g : Good r) : Neat (mg r) := (fold_ok home r [] g trivial).1
theorem mg_led {r : Runs} (g : Good r) (p : Sp) : led p (mg r) = led p r := (fold_ok p r [] g trivial).2.1
theorem mg_len {r : Runs} (g : Good r) : len (mg r) = len r := by
  have := (fold_ok home r [] g trivial).2.2
  simp only [len] at this
  unfold mg
  omega
/-! ### the best sides for so many steps more -/
def bs (x y k : Int) : Int × Int := if k ≤ ab (x - y) then (if y ≤ x then (x, y + k) else (x + k, y)) else ((x + y + k + 1).fdiv 2, (x + y + k).fdiv 2)
theorem bs_ok {x y k : Int} (hx : 0 ≤ x) (hy : 0 ≤ y) (hk : 0 ≤ k) : x ≤ (bs x y k).1 ∧ y ≤ (bs x y k).2 ∧ (bs x y k).1 + (bs x y k).2 = x + y + k := by
  unfold bs ab
  rw [Int.fdiv_eq_ediv_of_nonneg _ (by decide), Int.fdiv_eq_ediv_of_nonneg _ (by decide)]
  by_cases c : x - y < 0
  · simp only [c, if_true]
    split
    · simp only [show ¬ y ≤ x by omega, if_false]; omega
    · simp only; omega
  · simp only [c, if_false]
    split
    · simp only [show y ≤ x by omega, if_true]; omega
    · simp only; omega
/-- no other sides hold more -/
theorem bs_max {x y k p q : Int} (hx : 0 ≤ x) (hy : 0 ≤ y) (hk : 0 ≤ k) (hp : x ≤ p) (hq : y ≤ q) (h : p + q = x + y + k) : p * q ≤ (bs x y k).1 * (bs x y k).2 := by
  have main : ∀ {u v p q : Int}, u + v = p + q → (u - v) * (u - v) ≤ (p - q) * (p - q) → p * q ≤ u * v := fun {u v p q} h1 h2 => by
    have e1 : (u - v) * (u - v) = (u + v) * (u + v) - 4 * (u * v) := by grind
    have e2 : (p - q) * (p - q) = (p + q) * (p + q) - 4 * (p * q) := by grind
    rw [e1, e2, h1] at h2
    omega
  have sqm : ∀ {s t : Int}, (s ≤ t ∨ s ≤ -t) → (-s ≤ t ∨ -s ≤ -t) → s * s ≤ t * t := fun {s t} h1 h2 => by
    have a1 : ab s ≤ ab t := by unfold ab; split <;> split <;> omega
    have a2 : ab s * ab s = s * s := by unfold ab; split <;> grind
    have a3 : ab t * ab t = t * t := by unfold ab; split <;> grind
    rw [← a2, ← a3]
    exact Int.mul_le_mul a1 a1 (ab_nonneg s) (ab_nonneg t)
  have hb := bs_ok hx hy hk
  have sol : ∀ u v : Int, u + v = p + q → (u - v ≤ p - q ∨ u - v ≤ -(p - q)) → (-(u - v) ≤ p - q ∨ -(u - v) ≤ -(p - q)) → p * q ≤ u * v := fun u v h1 h2 h3 => main h1 (sqm h2 h3)
  unfold bs ab
  rw [Int.fdiv_eq_ediv_of_nonneg _ (by decide), Int.fdiv_eq_ediv_of_nonneg _ (by decide)]
  by_cases c : x - y < 0
  · simp only [c, if_true]
    split
    · simp only [show ¬ y ≤ x by omega, if_false]
      exact sol _ _ (by omega) (by omega) (by omega)
    · exact sol _ _ (by omega) (by omega) (by omega)
  · simp only [c, if_false]
    split
    · simp only [show y ≤ x by omega, if_true]
      exact sol _ _ (by omega) (by omega) (by omega)
    · exact sol _ _ (by omega) (by omega) (by omega)
end ST
set_option maxRecDepth 100000
set_option maxHeartbeats 4000000
namespace ST
/-! ### the areas of walks of a length -/
def loA (x y m : Int) : Int := (x * y - (2 * m - ab (x * y))).fdiv 2
def hiA (x y m : Int) : Int := (x * y + (2 * m - ab (x * y))).fdiv 2
theorem between_iff (x y a m : Int) : (loA x y m ≤ a ∧ a ≤ hiA x y m) ↔ gnd x y a ≤ m := by
  rw [gnd_le]
  unfold loA hiA ab
  generalize x * y = t
  rw [Int.fdiv_eq_ediv_of_nonneg _ (by decide), Int.fdiv_eq_ediv_of_nonneg _ (by decide)]
  by_cases c : t < 0 <;> simp only [c, if_true, if_false] <;> omega
/-- a walk of n steps has room just if the steps are no more -/
theorem room_iff {x y a n k : Int} (hk : 0 ≤ k) (hn : n = ab x + ab y + 2 * k) : gnd x y a ≤ (bs (ab x) (ab y) k).1 * (bs (ab x) (ab y) k).2 ↔ stp x y a ≤ n := by
  have hx := ab_nonneg x
  have hy := ab_nonneg y
  obtain ⟨b1, b2, b3⟩ := bs_ok hx hy hk
  constructor
  · intro h
    have := stp_le ⟨b1, b2, h⟩
    unfold cost at this
    omega
  · intro h
    obtain ⟨p, q, b, e⟩ := stp_box x y a
    have c1 := b.px
    have c2 := b.qy
    have c3 := b.room
    unfold cost at e
    have hp := stp_par x y a
    have h2 : 0 ≤ n - stp x y a := by omega
    have h3 : ∃ d, 0 ≤ d ∧ p + d + q = ab x + ab y + k := ⟨ab x + ab y + k - p - q, by omega, by omega⟩
    obtain ⟨d, d0, d1⟩ := h3
    have h4 := bs_max hx hy hk (p := p + d) (q := q) (by omega) c2 d1
    have h5 := pr_pos d0 (show 0 ≤ q by omega)
    rw [show (p + d) * q = p * q + d * q by grind] at h4
    omega
/-! ### mirrored letters -/
def sw1 (c : Nat) : Nat := if c = 101 then 119 else if c = 119 then 101 else c
def sw2 (c : Nat) : Nat := if c = 110 then 115 else if c = 115 then 110 else c
def sw3 (c : Nat) : Nat := if c = 101 then 110 else if c = 110 then 101 else if c = 119 then 115 else if c = 115 then 119 else c
theorem isL_sw1 {c : Nat} (h : isL c) : isL (sw1 c) := by
  rcases h with rfl | rfl | rfl | rfl <;> unfold isL sw1 <;> decide
theorem isL_sw2 {c : Nat} (h : isL c) : isL (sw2 c) := by
  rcases h with rfl | rfl | rfl | rfl <;> unfold isL sw2 <;> decide
theorem isL_sw3 {c : Nat} (h : isL c) : isL (sw3 c) := by
  rcases h with rfl | rfl | rfl | rfl <;> unfold isL sw3 <;> decide
def mX (p : Sp) : Sp := ⟨-p.x, p.y, -p.a⟩
def mY (p : Sp) : Sp := ⟨p.x, -p.y, -p.a⟩
def mT (p : Sp) : Sp := ⟨p.y, p.x, p.x * p.y - p.a⟩
theorem gone_mX {p : Sp} {c : Nat} {t : Int} (h : isL c) : gone (mX p) (sw1 c) t = mX (gone p c t) := by
  rcases h with rfl | rfl | rfl | rfl <;> simp [gone, mX, sw1] <;> grind
theorem gone_mY {p : Sp} {c : Nat} {t : Int} (h : isL c) : gone (mY p) (sw2 c) t = mY (gone p c t) := by
  rcases h with rfl | rfl | rfl | rfl <;> simp [gone, mY, sw2] <;> grind
theorem gone_mT {p : Sp} {c : Nat} {t : Int} (h : isL c) : gone (mT p) (sw3 c) t = mT (gone p c t) := by
  rcases h with rfl | rfl | rfl | rfl <;> simp [gone, mT, sw3] <;> grind
abbrev mp (f : Nat → Nat) (r : Runs) : Runs := r.map fun q => (f q.1, q.2)
theorem led_mp {f : Nat → Nat} {m : Sp → Sp} (hf : ∀ {p : Sp} {c : Nat} {t : Int}, isL c → gone (m p) (f c) t = m (gone p c t)) : ∀ {r : Runs} {p : Sp}, Good r → led (m p) (mp f r) = m (led p r)
  | [], _, _ => rfl
  | q :: r, p, g => by
    show led (gone (m p) (f q.1) q.2) (mp f r) = m (led (gone p q.1 q.2) r)
    rw [hf g.head.1]
    exact led_mp hf g.tail
theorem len_mp (f : Nat → Nat) (r : Runs) : len (mp f r) = len r := by
  induction r with
  | nil => rfl
  | cons q r ih => show q.2 + len (mp f r) = q.2 + len r; rw [ih]
theorem good_mp {f : Nat → Nat} (hf : ∀ {c : Nat}, isL c → isL (f c)) {r : Runs} (g : Good r) : Good (mp f r) := fun q hq => by
  obtain ⟨q', h1, rfl⟩ := List.mem_map.mp hq
  exact ⟨hf (g q' h1).1, (g q' h1).2⟩
theorem mX_home : mX home = home := by simp [mX]
theorem mY_home : mY home = home := by simp [mY]
theorem mT_home : mT home = home := by simp [mT]
/-! ### a walk of so many steps -/
def colsOf (W H a : Int) : Int × Int := if (W * H - a).fdiv H = W then (W - 1, H) else ((W * H - a).fdiv H, (W * H - a).fmod H)
def wp (x y a k : Int) : Runs :=
  if (bs x y k).1 * (bs x y k).2 = 0 then [(115, (bs x y k).2 - y), (101, (bs x y k).1), (110, (bs x y k).2), (119, (bs x y k).1 - x)]
  else [(115, (bs x y k).2 - y), (101, (bs x y k).1 - 1 - (colsOf (bs x y k).1 (bs x y k).2 a).1), (110, (colsOf (bs x y k).1 (bs x y k).2 a).2), (101, 1), (110, (bs x y k).2 - (colsOf (bs x y k).1 (bs x y k).2 a).2), (101, (colsOf (bs x y k).1 (bs x y k).2 a).1), (119, (bs x y k).1 - x)]
/-- the walk in the first quarter -/
theorem wp_ok {x y a k : Int} (hx : 0 ≤ x) (hy : 0 ≤ y) (hk : 0 ≤ k) (h0 : 0 ≤ a) (h1 : a ≤ (bs x y k).1 * (bs x y k).2) : Good (wp x y a k) ∧ led home (wp x y a k) = ⟨x, y, a⟩ ∧ len (wp x y a k) = x + y + 2 * k := by
  obtain ⟨b1, b2, b3⟩ := bs_ok hx hy hk
  unfold wp
  generalize (bs x y k).1 = W at *
  generalize (bs x y k).2 = H at *
  have L : ∀ c : Nat, c = 101 ∨ c = 110 ∨ c = 119 ∨ c = 115 → isL c := fun c h => h
  split
  · rename_i hz
    refine ⟨fun q hq => ?_, ?_, ?_⟩
    · simp only [List.mem_cons, List.not_mem_nil, or_false] at hq
      rcases hq with rfl | rfl | rfl | rfl
      all_goals exact ⟨by unfold isL; simp, by simp only; omega⟩
    · simp only [led, gone]
      simp
      have : a = 0 := by omega
      exact ⟨by omega, by omega, by omega⟩
    · simp only [len]; omega
  · rename_i hz
    have hW : 0 < W := by
      by_cases c : 0 < W
      · exact c
      · have : W = 0 := by omega
        subst this
        simp at hz
    have hH : 0 < H := by
      by_cases c : 0 < H
      · exact c
      · have : H = 0 := by omega
        subst this
        simp at hz
    have e1 : H * (W * H - a).fdiv H + (W * H - a).fmod H = W * H - a := Int.mul_fdiv_add_fmod _ _
    have e2 : 0 ≤ (W * H - a).fmod H := Int.fmod_nonneg_of_pos _ hH
    have e3 : (W * H - a).fmod H < H := Int.fmod_lt_of_pos _ hH
    have key : ∃ c e : Int, colsOf W H a = (c, e) ∧ c * H + e = W * H - a ∧ 0 ≤ c ∧ c ≤ W - 1 ∧ 0 ≤ e ∧ e ≤ H := by
      unfold colsOf
      have q0 : 0 ≤ (W * H - a).fdiv H := Int.fdiv_nonneg (by omega) (by omega)
      generalize (W * H - a).fdiv H = c at *
      generalize (W * H - a).fmod H = e at *
      split
      · rename_i hc
        subst hc
        refine ⟨c - 1, H, rfl, ?_, by omega, by omega, by omega, by omega⟩
        have : H * c = c * H := Int.mul_comm _ _
        rw [show (c - 1) * H + H = c * H by grind]
        omega
      · rename_i hc
        refine ⟨c, e, rfl, by rw [Int.mul_comm]; exact e1, q0, ?_, e2, by omega⟩
        have h5 : H * c ≤ H * W := by rw [show H * W = W * H from Int.mul_comm _ _]; omega
        have := Int.le_of_mul_le_mul_left h5 hH
        omega
    obtain ⟨c, e, he, k1, k2, k3, k4, k5⟩ := key
    rw [he]
    refine ⟨fun q hq => ?_, ?_, ?_⟩
    · simp only [List.mem_cons, List.not_mem_nil, or_false] at hq
      rcases hq with rfl | rfl | rfl | rfl | rfl | rfl | rfl
      all_goals exact ⟨by unfold isL; simp, by simp only; omega⟩
    · simp only [led, gone]
      simp
      refine ⟨by omega, by omega, ?_⟩
      rw [show (W - 1 - c) * e + (W - 1 - c + 1) * (H - e) = W * H - (c * H + e) by grind, k1]
      omega
    · simp only [len]; omega
/-- as the program goes: mirrored to the first quarter and above the half -/
def pt (x y a n : Int) : Runs :=
  let x1 := if x < 0 then -x else x
  let a1 := if x < 0 then -a else a
  let y1 := if y < 0 then -y else y
  let a2 := if y < 0 then -a1 else a1
  let f1 : Nat → Nat := if x < 0 then sw1 else id
  let f2 : Nat → Nat := if y < 0 then fun c => f1 (sw2 c) else f1
  if 2 * a2 < x1 * y1 then mp (fun c => f2 (sw3 c)) (wp y1 x1 (x1 * y1 - a2) ((n - y1 - x1).fdiv 2)) else mp f2 (wp x1 y1 a2 ((n - x1 - y1).fdiv 2))
theorem mp_mp (f g : Nat → Nat) (r : Runs) : mp f (mp g r) = mp (fun c => f (g c)) r := by simp [mp]
theorem mp_id (r : Runs) : mp id r = r := by simp [mp]
theorem mX_mX (p : Sp) : mX (mX p) = p := by simp [mX]
theorem mY_mY (p : Sp) : mY (mY p) = p := by simp [mY]
theorem mT_mT (p : Sp) : mT (mT p) = p := by
  obtain ⟨x, y, a⟩ := p
  simp only [mT, Sp.mk.injEq, true_and]
  grind
/-- what is known of a told walk -/
structure Leads (r : Runs) (p : Sp) (n : Int) : Prop where
  good : Good r
  to : led home r = p
  len : len r = n
theorem Leads.sw {f : Nat → Nat} {m : Sp → Sp} (hf : ∀ {p : Sp} {c : Nat} {t : Int}, isL c → gone (m p) (f c) t = m (gone p c t)) (hl : ∀ {c : Nat}, isL c → isL (f c)) (hh : m home = home) {r : Runs} {p : Sp} {n : Int} (h : Leads r p n) : Leads (mp f r) (m p) n :=
  ⟨good_mp hl h.good, by have := led_mp (f := f) (m := m) (fun h => hf h) (p := home) h.good; rw [hh] at this; rw [this, h.to], by rw [len_mp]; exact h.len⟩
theorem pt_ok {x y a n k : Int} (hk : 0 ≤ k) (hn : n = ab x + ab y + 2 * k) (hs : stp x y a ≤ n) : Leads (pt x y a n) ⟨x, y, a⟩ n := by
  have core : ∀ x y a : Int, 0 ≤ x → 0 ≤ y → n = x + y + 2 * k → x * y ≤ 2 * a → stp x y a ≤ n → Leads (wp x y a ((n - x - y).fdiv 2)) ⟨x, y, a⟩ n := fun x y a hx hy hn h2 hs => by
    have e : (n - x - y).fdiv 2 = k := by rw [Int.fdiv_eq_ediv_of_nonneg _ (by decide)]; omega
    rw [e]
    have t0 := pr_pos hx hy
    have hg := (room_iff (x := x) (y := y) (a := a) hk (by rw [ab_of hx, ab_of hy]; exact hn)).mpr hs
    rw [ab_of hx, ab_of hy, (gnd_max x y a).1 t0, if_pos h2] at hg
    obtain ⟨w1, w2, w3⟩ := wp_ok hx hy hk (by omega) hg
    exact ⟨w1, w2, by omega⟩
  have quarter : ∀ x y a : Int, 0 ≤ x → 0 ≤ y → n = x + y + 2 * k → stp x y a ≤ n → Leads (if 2 * a < x * y then mp sw3 (wp y x (x * y - a) ((n - y - x).fdiv 2)) else wp x y a ((n - x - y).fdiv 2)) ⟨x, y, a⟩ n := fun x y a hx hy hn hs => by
    split
    · rename_i c
      have := core y x (x * y - a) hy hx (by omega) (by rw [Int.mul_comm y x]; omega) (by rw [stp_t]; exact hs)
      have := this.sw gone_mT isL_sw3 mT_home
      rw [show mT ⟨y, x, x * y - a⟩ = ⟨x, y, a⟩ by simp only [mT, Sp.mk.injEq, true_and]; grind] at this
      exact this
    · rename_i c
      exact core x y a hx hy hn (by omega) hs
  have upper : ∀ x y a : Int, 0 ≤ x → n = x + ab y + 2 * k → stp x y a ≤ n → Leads (if y < 0 then mp sw2 (if 2 * -a < x * -y then mp sw3 (wp (-y) x (x * -y - -a) ((n - -y - x).fdiv 2)) else wp x (-y) (-a) ((n - x - -y).fdiv 2)) else (if 2 * a < x * y then mp sw3 (wp y x (x * y - a) ((n - y - x).fdiv 2)) else wp x y a ((n - x - y).fdiv 2))) ⟨x, y, a⟩ n := fun x y a hx hn hs => by
    split
    · rename_i c
      have := quarter x (-y) (-a) hx (by omega) (by rw [hn]; unfold ab; simp only [c, if_true]) (by rw [stp_my]; exact hs)
      have := this.sw gone_mY isL_sw2 mY_home
      rw [show mY ⟨x, -y, -a⟩ = ⟨x, y, a⟩ by simp [mY]] at this
      exact this
    · rename_i c
      exact quarter x y a hx (by omega) (by rw [hn]; unfold ab; simp only [c, if_false]) hs
  unfold pt
  by_cases cx : x < 0
  · have := upper (-x) y (-a) (by omega) (by rw [hn]; unfold ab; simp only [cx, if_true]) (by rw [stp_mx]; exact hs)
    have := this.sw gone_mX isL_sw1 mX_home
    rw [show mX ⟨-x, y, -a⟩ = ⟨x, y, a⟩ by simp [mX]] at this
    simp only [cx, if_true]
    by_cases cy : y < 0
    · simp only [cy, if_true] at this ⊢
      split at this
      · rename_i c; rw [if_pos c]; simpa [mp, Function.comp_def] using this
      · rename_i c; rw [if_neg c]; simpa [mp, Function.comp_def] using this
    · simp only [cy, if_false] at this ⊢
      split at this
      · rename_i c; rw [if_pos c]; simpa [mp, Function.comp_def] using this
      · rename_i c; rw [if_neg c]; simpa [mp, Function.comp_def] using this
  · have := upper x y a (by omega) (by rw [hn]; unfold ab; simp only [cx, if_false]) hs
    simp only [cx, if_false]
    by_cases cy : y < 0
    · simp only [cy, if_true] at this ⊢
      split at this
      · rename_i c; rw [if_pos c]; simpa [mp, Function.comp_def] using this
      · rename_i c; rw [if_neg c]; simpa [mp, Function.comp_def] using this
    · simp only [cy, if_false] at this ⊢
      split at this
      · rename_i c; rw [if_pos c]; simpa [mp, Function.comp_def] using this
      · rename_i c; rw [if_neg c]; simpa [mp, Function.comp_def] using this
end ST
set_option maxRecDepth 100000
set_option maxHeartbeats 4000000
namespace ST
/-! ### which numbers of steps have a walk -/
theorem stp_ge (x y a : Int) : ab x + ab y ≤ stp x y a := by
  obtain ⟨p, q, b, e⟩ := stp_box x y a
  have h1 := b.px
  have h2 := b.qy
  unfold cost at e
  omega
/-- the areas that so many steps can sweep -/
def lim (x y n : Int) : Option (Int × Int) :=
  if n - ab x - ab y < 0 ∨ (n - ab x - ab y).fmod 2 = 1 then none
  else some (loA x y ((bs (ab x) (ab y) ((n - ab x - ab y).fdiv 2)).1 * (bs (ab x) (ab y) ((n - ab x - ab y).fdiv 2)).2), hiA x y ((bs (ab x) (ab y) ((n - ab x - ab y).fdiv 2)).1 * (bs (ab x) (ab y) ((n - ab x - ab y).fdiv 2)).2))
/-- what walk_of looks for -/
def ptO (x y a n : Int) : Option Runs := match lim x y n with
  | none => none
  | some (lo, hi) => if lo ≤ a ∧ a ≤ hi then some (pt x y a n) else none
theorem ab_par (x : Int) : (ab x - x) % 2 = 0 := by unfold ab; split <;> omega
theorem lim_none {x y n : Int} (a : Int) (h : lim x y n = none) : ¬ (stp x y a ≤ n ∧ (n - stp x y a) % 2 = 0) := by
  unfold lim at h
  have h1 := stp_ge x y a
  have h2 := stp_par x y a
  have h3 := ab_par x
  have h4 := ab_par y
  rw [Int.fmod_eq_emod_of_nonneg _ (by decide)] at h
  split at h
  · omega
  · cases h
theorem lim_some {x y n lo hi : Int} (a : Int) (h : lim x y n = some (lo, hi)) : (∃ k, 0 ≤ k ∧ n = ab x + ab y + 2 * k) ∧ ((lo ≤ a ∧ a ≤ hi) ↔ stp x y a ≤ n) ∧ (n - stp x y a) % 2 = 0 := by
  unfold lim at h
  have h2 := stp_par x y a
  have h3 := ab_par x
  have h4 := ab_par y
  rw [Int.fmod_eq_emod_of_nonneg _ (by decide), Int.fdiv_eq_ediv_of_nonneg _ (by decide)] at h
  split at h
  · cases h
  · rename_i c
    cases h
    have hk : 0 ≤ (n - ab x - ab y) / 2 := by omega
    have hn : n = ab x + ab y + 2 * ((n - ab x - ab y) / 2) := by omega
    refine ⟨⟨_, hk, hn⟩, ?_, by omega⟩
    rw [between_iff]
    exact room_iff hk hn
theorem ptO_eq (x y a n : Int) : ptO x y a n = if stp x y a ≤ n ∧ (n - stp x y a) % 2 = 0 then some (pt x y a n) else none := by
  unfold ptO
  cases h : lim x y n with
  | none => rw [if_neg (lim_none a h)]
  | some p =>
    obtain ⟨lo, hi⟩ := p
    obtain ⟨_, h1, h2⟩ := lim_some a h
    by_cases c : stp x y a ≤ n
    · simp only [if_pos (h1.mpr c), if_pos (And.intro c h2)]
    · simp only [if_neg (fun z => c (h1.mp z)), if_neg (fun z : stp x y a ≤ n ∧ _ => c z.1)]
theorem pt_leads {x y a n : Int} (h : stp x y a ≤ n) (h' : (n - stp x y a) % 2 = 0) : Leads (pt x y a n) ⟨x, y, a⟩ n := by
  have h1 := stp_ge x y a
  have h2 := stp_par x y a
  have h3 := ab_par x
  have h4 := ab_par y
  exact pt_ok (k := (n - ab x - ab y) / 2) (by omega) (by omega) h
/-! ### how many runs -/
def cnt (r : Runs) : Nat := (r.filter fun q => decide (0 < q.2)).length
theorem cnt_le (r : Runs) : cnt r ≤ r.length := List.length_filter_le ..
theorem cnt_mp (f : Nat → Nat) (r : Runs) : cnt (mp f r) = cnt r := by
  induction r with
  | nil => rfl
  | cons q r ih =>
    obtain ⟨c, t⟩ := q
    simp only [cnt, mp, List.map_cons, List.filter_cons] at *
    split <;> simp [ih]
theorem fold_cnt : ∀ (r acc : Runs), (r.foldl mgStep acc).length ≤ acc.length + cnt r
  | [], acc => by simp
  | q :: r, acc => by
    have h := fold_cnt r (mgStep acc q)
    have h1 : (mgStep acc q).length + cnt r ≤ acc.length + cnt (q :: r) := by
      have h2 : cnt (q :: r) = cnt r + if 0 < q.2 then 1 else 0 := by
        unfold cnt
        rw [List.filter_cons]
        by_cases c : 0 < q.2
        · simp [c]
        · simp [c]
      rw [h2]
      unfold mgStep
      cases e : acc.getLast? with
      | none =>
        simp only
        split
        · simp; omega
        · omega
      | some l =>
        have hne : 0 < acc.length := by
          cases acc with
          | nil => cases e
          | cons => simp
        simp only
        split
        · simp; omega
        · split
          · simp; omega
          · omega
    exact Nat.le_trans h h1
theorem mg_cnt (r : Runs) : (mg r).length ≤ cnt r := by
  have := fold_cnt r []
  rw [List.length_nil, Nat.zero_add] at this
  exact this
theorem wp_len (x y a k : Int) : (wp x y a k).length ≤ 7 := by
  unfold wp
  split <;> simp
theorem pt_len (x y a n : Int) : (pt x y a n).length ≤ 7 := by
  have h : ∀ (c : Prop) [Decidable c] (f g : Nat → Nat) (u v : Runs), u.length ≤ 7 → v.length ≤ 7 → List.length (if c then mp f u else mp g v) ≤ 7 := fun c _ f g u v hu hv => by
    split
    · rw [mp, List.length_map]; exact hu
    · rw [mp, List.length_map]; exact hv
  exact h _ _ _ _ _ (wp_len ..) (wp_len ..)
theorem mg_pt (x y a n : Int) : (mg (pt x y a n)).length ≤ 7 := Nat.le_trans (mg_cnt _) (Nat.le_trans (cnt_le _) (pt_len ..))
theorem wp_six {x y a k n : Int} (hx : 0 ≤ x) (hy : 0 ≤ y) (hk : 0 ≤ k) (hn : n = x + y + 2 * k) (h2 : x * y ≤ 2 * a) (hs : stp x y a = n) : cnt (wp x y a k) ≤ 6 := by
  have t0 := pr_pos hx hy
  have room := (room_iff (x := x) (y := y) (a := a) hk (by rw [ab_of hx, ab_of hy]; exact hn)).mpr (Int.le_of_eq hs)
  have hg : gnd x y a = a := by rw [(gnd_max x y a).1 t0, if_pos h2]
  rw [ab_of hx, ab_of hy, hg] at room
  obtain ⟨b1, b2, b3⟩ := bs_ok hx hy hk
  have key : (bs x y k).1 = x ∨ (bs x y k).2 = y ∨ (bs x y k).1 * (bs x y k).2 - a < (bs x y k).2 := by
    by_cases c : k ≤ ab (x - y)
    · by_cases c1 : y ≤ x
      · left; unfold bs; rw [if_pos c, if_pos c1]
      · right; left; unfold bs; rw [if_pos c, if_neg c1]
    · right; right
      have e1 : (bs x y k).1 = (x + y + k + 1) / 2 := by unfold bs; rw [if_neg c, Int.fdiv_eq_ediv_of_nonneg _ (by decide)]
      have e2 : (bs x y k).2 = (x + y + k) / 2 := by unfold bs; rw [if_neg c]; simp only; rw [Int.fdiv_eq_ediv_of_nonneg _ (by decide)]
      have hab : x - y ≤ ab (x - y) ∧ y - x ≤ ab (x - y) ∧ 0 ≤ ab (x - y) := by unfold ab; split <;> omega
      have r2 := room_iff (x := x) (y := y) (a := a) (n := n - 2) (k := k - 1) (by omega) (by rw [ab_of hx, ab_of hy]; omega)
      rw [ab_of hx, ab_of hy, hg] at r2
      have mx := bs_max (x := x) (y := y) (k := k - 1) (p := (bs x y k).1 - 1) (q := (bs x y k).2) hx hy (by omega) (by omega) (by omega) (by omega)
      have nr : ¬ a ≤ (bs x y (k - 1)).1 * (bs x y (k - 1)).2 := fun z => by have := r2.mp z; omega
      generalize (bs x y k).1 = W at *
      generalize (bs x y k).2 = H at *
      rw [show (W - 1) * H = W * H - H by grind] at mx
      omega
  unfold wp
  generalize (bs x y k).1 = W at *
  generalize (bs x y k).2 = H at *
  split
  · exact Nat.le_trans (cnt_le _) (by simp)
  · rename_i hz
    have hH : 0 < H := by
      by_cases c : 0 < H
      · exact c
      · have : H = 0 := by omega
        subst this
        simp at hz
    have hW : 0 < W := by
      by_cases c : 0 < W
      · exact c
      · have : W = 0 := by omega
        subst this
        simp at hz
    have lt : ∀ r : Runs, (∃ q ∈ r, ¬ 0 < q.2) → cnt r < r.length := fun r ⟨q, h1, h2⟩ => by
      unfold cnt
      rw [List.length_filter_lt_length_iff_exists]
      exact ⟨q, h1, by simpa using h2⟩
    refine Nat.le_of_lt_succ (lt _ ?_)
    rcases key with e | e | e
    · exact ⟨(119, W - x), by simp, by simp only; omega⟩
    · exact ⟨(115, H - y), by simp, by simp only; omega⟩
    · have q0 : (W * H - a).fdiv H = 0 := by
        rw [Int.fdiv_eq_ediv_of_nonneg _ (by omega)]
        exact Int.ediv_eq_zero_of_lt (by omega) e
      have : (colsOf W H a).1 = 0 := by
        unfold colsOf
        rw [q0, if_neg (by omega)]
      exact ⟨(101, (colsOf W H a).1), by simp, by simp only; omega⟩
theorem pt_six {x y a : Int} : cnt (pt x y a (stp x y a)) ≤ 6 := by
  have h1 := stp_ge x y a
  have h2 := stp_par x y a
  have h3 := ab_par x
  have h4 := ab_par y
  generalize hn : stp x y a = n at *
  simp only [pt]
  have e0 : stp (if x < 0 then -x else x) (if y < 0 then -y else y) (if y < 0 then -(if x < 0 then -a else a) else (if x < 0 then -a else a)) = n := by
    by_cases c : x < 0
    · by_cases d : y < 0
      · simp only [if_pos c, if_pos d]; rw [stp_my, stp_mx, hn]
      · simp only [if_pos c, if_neg d]; rw [stp_mx, hn]
    · by_cases d : y < 0
      · simp only [if_neg c, if_pos d]; rw [stp_my, hn]
      · simp only [if_neg c, if_neg d]; rw [hn]
  have px : 0 ≤ (if x < 0 then -x else x) := ab_nonneg x
  have py : 0 ≤ (if y < 0 then -y else y) := ab_nonneg y
  have ex : (if x < 0 then -x else x) = ab x := rfl
  have ey : (if y < 0 then -y else y) = ab y := rfl
  generalize (if y < 0 then -(if x < 0 then -a else a) else (if x < 0 then -a else a)) = A at *
  generalize (if x < 0 then -x else x) = X at *
  generalize (if y < 0 then -y else y) = Y at *
  split
  · rename_i c
    rw [cnt_mp]
    refine wp_six (n := n) py px (by rw [Int.fdiv_eq_ediv_of_nonneg _ (by decide)]; omega) (by rw [Int.fdiv_eq_ediv_of_nonneg _ (by decide)]; omega) ?_ (by rw [stp_t, e0])
    rw [show Y * X = X * Y from Int.mul_comm _ _]
    omega
  · rw [cnt_mp]
    exact wp_six (n := n) px py (by rw [Int.fdiv_eq_ediv_of_nonneg _ (by decide)]; omega) (by rw [Int.fdiv_eq_ediv_of_nonneg _ (by decide)]; omega) (by omega) e0
end ST
set_option maxRecDepth 100000
set_option maxHeartbeats 4000000
set_option exponentiation.threshold 4000
namespace W_k13
open DL ST
/-! ### the whole root -/
def IsFl (n r : Int) : Prop := 0 ≤ r ∧ r * r ≤ n ∧ n < (r + 1) * (r + 1)
theorem newton {n f : Int} (hf : 1 ≤ f) : n < ((f + n.fdiv f).fdiv 2 + 1) * ((f + n.fdiv f).fdiv 2 + 1) := by
  have h1 : f * n.fdiv f + n.fmod f = n := Int.mul_fdiv_add_fmod n f
  have h3 : n.fmod f < f := Int.fmod_lt_of_pos _ (by omega)
  generalize n.fdiv f = q at *
  rw [Int.fdiv_eq_ediv_of_nonneg _ (by decide)]
  have h5 : f + q ≤ 2 * ((f + q) / 2) + 1 := by omega
  generalize (f + q) / 2 = t at *
  by_cases c : 0 ≤ f + q + 1
  · have h6 := pr_pos (show 0 ≤ 2 * t + 2 - (f + q + 1) by omega) (show 0 ≤ 2 * t + 2 + (f + q + 1) by omega)
    have h7 : 0 ≤ (f - q - 1) * (f - q - 1) := by
      by_cases g : 0 ≤ f - q - 1
      · exact pr_pos g g
      · have := pr_pos (show 0 ≤ -(f - q - 1) by omega) (show 0 ≤ -(f - q - 1) by omega)
        rw [Int.neg_mul_neg] at this
        exact this
    rw [show (2 * t + 2 - (f + q + 1)) * (2 * t + 2 + (f + q + 1)) = 4 * ((t + 1) * (t + 1)) - (f + q + 1) * (f + q + 1) by grind] at h6
    rw [show (f - q - 1) * (f - q - 1) = (f + q + 1) * (f + q + 1) - 4 * (f * q + f) by grind] at h7
    omega
  · have h6 : f * q ≤ f * (-f - 2) := Int.mul_le_mul_of_nonneg_left (by omega) (by omega)
    have h7 := pr_pos (show 0 ≤ f by omega) (show 0 ≤ f by omega)
    have h8 : 0 ≤ (t + 1) * (t + 1) := by
      by_cases g : 0 ≤ t + 1
      · exact pr_pos g g
      · have := pr_pos (show 0 ≤ -(t + 1) by omega) (show 0 ≤ -(t + 1) by omega)
        rw [Int.neg_mul_neg] at this
        exact this
    rw [show f * (-f - 2) = -(f * f) - 2 * f by grind] at h6
    omega
theorem root_loop (n : Int) (S : List Cell) (hn : 2 ≤ n) (bn : Bd n 4000) : ∀ (k : Nat) (f : Int) (x : Sl), f.toNat ≤ k → 1 ≤ f → n < (f + 1) * (f + 1) → Bd f 8000 →
    ∃ r sl, sWhile c_whole_root_0 w_whole_root_0 ⟨[.val (.int n), .val (.int f), x], S⟩ = .ok (.rt (.int r)) ⟨sl, S⟩ ∧ IsFl n r
  | 0, f, x, h, h1, _, _ => by omega
  | k + 1, f, x, h, h1, h2, bf => by
    have dv : divOk f = true := divOk_of bf (by omega) (by decide)
    rw [sWhile_eq]
    by_cases c : f ≤ (f + n.fdiv f).fdiv 2
    · refine ⟨f, [.val (.int n), .val (.int f), .val (.int ((f + n.fdiv f).fdiv 2))], by simp [c_whole_root_0, w_whole_root_0, dv, c], by omega, ?_, h2⟩
      have e1 : f * n.fdiv f + n.fmod f = n := Int.mul_fdiv_add_fmod n f
      have e3 : 0 ≤ n.fmod f := Int.fmod_nonneg_of_pos _ (by omega)
      rw [Int.fdiv_eq_ediv_of_nonneg _ (by decide)] at c
      have h4 : f * f ≤ f * n.fdiv f := Int.mul_le_mul_of_nonneg_left (by omega) (by omega)
      omega
    · have hq : 1 ≤ (f + n.fdiv f).fdiv 2 := by
        have hq : 0 ≤ n.fdiv f := Int.fdiv_nonneg (by omega) (by omega)
        rw [Int.fdiv_eq_ediv_of_nonneg _ (by decide)]
        by_cases z : f = 1
        · subst z
          rw [Int.fdiv_one]
          omega
        · omega
      obtain ⟨r, sl, e, hr⟩ := root_loop n S hn bn k ((f + n.fdiv f).fdiv 2) (.val (.int ((f + n.fdiv f).fdiv 2))) (by omega) hq (newton h1) (bf.of_le (by omega) (by omega))
      exact ⟨r, sl, by simpa [c_whole_root_0, w_whole_root_0, dv, c] using e, hr⟩
theorem bits_lt (n : Int) (h : 0 ≤ n) : n < 2 ^ (PySem.Builtin.Int.intBits n) := by
  unfold PySem.Builtin.Int.intBits
  by_cases e : n = 0
  · subst e; decide
  · have h1 : n.natAbs < 2 ^ (n.natAbs.log2 + 1) := Nat.lt_log2_self
    rw [if_neg (by simpa using e)]
    have h2 : ((2 ^ (n.natAbs.log2 + 1) : Nat) : Int) = 2 ^ (n.natAbs.log2 + 1) := by simp
    rw [← h2]
    omega
theorem bits_le {n : Int} {k : Nat} (b : Bd n k) : PySem.Builtin.Int.intBits n ≤ k := by
  unfold PySem.Builtin.Int.intBits
  by_cases e : n = 0
  · subst e; simp
  · rw [if_neg (by simpa using e)]
    have := (Nat.log2_lt (show n.natAbs ≠ 0 by omega)).mpr b.lt
    omega
theorem whole_root_ok (n : Int) (S : List Cell) (hn : 0 ≤ n) (bn : Bd n 4000) : ∃ r, g_whole_root [.int n] S = .ok (.int r) S ∧ IsFl n r := by
  by_cases c : n < 2
  · refine ⟨n, by simp [g_whole_root, b_whole_root, fnD, c], hn, ?_, ?_⟩
    · have : n = 0 ∨ n = 1 := by omega
      rcases this with rfl | rfl <;> decide
    · have : n = 0 ∨ n = 1 := by omega
      rcases this with rfl | rfl <;> decide
  · have hb := bits_le bn
    have hl := bits_lt n hn
    generalize hB : PySem.Builtin.Int.intBits n = B at *
    have hk : ((B : Int) + 1).fdiv 2 = ((B + 1) / 2 : Nat) := by
      rw [Int.fdiv_eq_ediv_of_nonneg _ (by decide)]
      omega
    generalize hK : (B + 1) / 2 = K at *
    have hK2 : K ≤ 2001 := by omega
    have h2 : ((2 ^ K : Nat) : Int) = 2 ^ K := by simp
    have bf : Bd ((2 : Int) ^ K) 8000 := ⟨by
      rw [← h2, Int.natAbs_natCast]
      exact Nat.pow_lt_pow_right (by decide) (by omega)⟩
    have h1 : (1 : Int) ≤ 2 ^ K := by
      rw [← h2]
      have := Nat.one_le_two_pow (n := K)
      omega
    have hbig : n < (2 ^ K + 1) * (2 ^ K + 1) := by
      have e1 : (2 : Int) ^ B ≤ 2 ^ K * 2 ^ K := by
        rw [← Int.pow_add]
        have h3 : ((2 ^ B : Nat) : Int) = 2 ^ B := by simp
        have h4 : ((2 ^ (K + K) : Nat) : Int) = 2 ^ (K + K) := by simp
        rw [← h3, ← h4]
        have := Nat.pow_le_pow_right (n := 2) (by decide) (show B ≤ K + K by omega)
        omega
      rw [show ((2 : Int) ^ K + 1) * (2 ^ K + 1) = 2 ^ K * 2 ^ K + 2 * 2 ^ K + 1 by grind]
      omega
    obtain ⟨r, sl, e, hr⟩ := root_loop n S (by omega) bn _ (2 ^ K) .un (Nat.le_refl _) h1 hbig bf
    refine ⟨r, ?_, hr⟩
    have q1 : (0 : Int) ≤ (K : Int) := by omega
    have q2 : (K : Int) ≤ 1000000 := by omega
    simp [g_whole_root, b_whole_root, fnD, c, hB, hk, q1, q2, e]
theorem fl_rt {n r : Int} (h : IsFl n r) : rt n = if r * r = n then r else r + 1 := by
  obtain ⟨h1, h2, h3⟩ := h
  split
  · rename_i e
    refine rt_eq ⟨h1, by omega, fun hr => ?_⟩
    rw [show (r - 1) * (r - 1) = r * r - 2 * r + 1 by grind]
    omega
  · refine rt_eq ⟨by omega, by omega, fun _ => ?_⟩
    rw [show r + 1 - 1 = r by omega]
    omega
/-! ### steps -/
theorem bd_gnd {x y a : Int} (bx : Bd x 600) (bY : Bd y 600) (ba : Bd a 1200) : Bd (gnd x y a) 3604 := by
  unfold gnd ab
  infer_instance
theorem steps_of_ok (x y a : Int) (S : List Cell) (bx : Bd x 600) (bY : Bd y 600) (ba : Bd a 1200) : g_steps_of [.int x, .int y, .int a] S = .ok (.int (stp x y a)) S := by
  have bg := bd_gnd bx bY ba
  have hg := gnd_nonneg x y a
  obtain ⟨r, er, hr⟩ := whole_root_ok (4 * gnd x y a) S (by omega) ((bd_mul (m := 3) (n := 3604) : Bd (4 * gnd x y a) _).le (by decide))
  have hrt := fl_rt hr
  have b2 : Bd r 4000 := by
    refine Bd.of_le (y := 4 * gnd x y a) ((bd_mul (m := 3) (n := 3604) : Bd (4 * gnd x y a) _).le (by decide)) hr.1 ?_
    have := hr.2.1
    by_cases c : r = 0
    · subst c; omega
    · have h5 := pr_pos (show 0 ≤ r - 1 by have := hr.1; omega) hr.1
      rw [show (r - 1) * r = r * r - r by grind] at h5
      omega
  have b3 : Bd (ab x) 600 := by unfold ab; infer_instance
  have b4 : Bd (ab y) 600 := by unfold ab; infer_instance
  have e0 : ((if 2 * a - x * y < 0 then -(2 * a - x * y) else 2 * a - x * y) + (if x * y < 0 then -(x * y) else x * y)).fdiv 2 = gnd x y a := rfl
  have ex : (if x < 0 then -x else x) = ab x := rfl
  have ey : (if y < 0 then -y else y) = ab y := rfl
  have m0 : mulOk x y = true := mulOk_bd (by decide)
  have m1 : mulOk 2 a = true := mulOk_bd (by decide)
  have m2 : mulOk (ab x) (ab y) = true := mulOk_bd (by decide)
  have m3 : mulOk (ab y) (ab x) = true := mulOk_bd (by decide)
  have m4 : mulOk (ab x) (ab x) = true := mulOk_bd (by decide)
  have m5 : mulOk (ab y) (ab y) = true := mulOk_bd (by decide)
  have m6 : mulOk 4 (gnd x y a) = true := mulOk_bd (by decide)
  have m7 : mulOk r r = true := mulOk_bd (by decide)
  have m8 : mulOk 2 r = true := mulOk_bd (by decide)
  have m9 : mulOk 2 (r + 1) = true := mulOk_bd (by decide)
  have mA : ∀ z : Int, mulOk 2 (-((-gnd x y a).fdiv z)) = true := fun z => mulOk_bd (by decide)
  have pX := ab_nonneg x
  have pY := ab_nonneg y
  unfold stp stpF mor les ceilD
  rw [hrt]
  by_cases c : ab y ≤ ab x
  · by_cases c1 : gnd x y a ≤ ab x * ab y
    · simp [g_steps_of, b_steps_of, fnD, e0, ex, ey, m0, m1, m2, c, c1]
    · by_cases c2 : gnd x y a ≤ ab x * ab x
      · have dv : divOk (ab x) = true := divOk_of b3 (fun z => by rw [z] at c1 c2; simp at c1 c2; omega) (by decide)
        simp [g_steps_of, b_steps_of, fnD, e0, ex, ey, m0, m1, m2, m4, c, c1, c2, dv, mA]
      · by_cases c3 : r * r = 4 * gnd x y a
        · simp [g_steps_of, b_steps_of, fnD, e0, ex, ey, m0, m1, m2, m4, m6, m7, m8, m9, c, c1, c2, c3, er]
        · simp [g_steps_of, b_steps_of, fnD, e0, ex, ey, m0, m1, m2, m4, m6, m7, m8, m9, c, c1, c2, c3, er]
  · by_cases c1 : gnd x y a ≤ ab y * ab x
    · simp [g_steps_of, b_steps_of, fnD, e0, ex, ey, m0, m1, m3, c, c1]
    · by_cases c2 : gnd x y a ≤ ab y * ab y
      · have dv : divOk (ab y) = true := divOk_of b4 (fun z => by rw [z] at c1 c2; simp at c1 c2; omega) (by decide)
        simp [g_steps_of, b_steps_of, fnD, e0, ex, ey, m0, m1, m3, m5, c, c1, c2, dv, mA]
      · by_cases c3 : r * r = 4 * gnd x y a
        · simp [g_steps_of, b_steps_of, fnD, e0, ex, ey, m0, m1, m3, m5, m6, m7, m8, m9, c, c1, c2, c3, er]
        · simp [g_steps_of, b_steps_of, fnD, e0, ex, ey, m0, m1, m3, m5, m6, m7, m8, m9, c, c1, c2, c3, er]
abbrev tr (x y a : Int) : D := .tup [.int x, .int y, .int a]
abbrev plc (x y a : Int) : D := .ins "Place" [([120], .int x), ([121], .int y), ([97, 114, 101, 97], .int a)]
@[simp] theorem is_integer_ok (i : Int) (S : List Cell) : g_is_integer [.int i] S = .ok (.bl true) S := by
  simp [g_is_integer, b_is_integer, fnD]
@[simp] theorem init_ok (x y a : Int) (S : List Cell) : g_PlaceX_initX [.int x, .int y, .int a] S = .ok [([120], .int x), ([121], .int y), ([97, 114, 101, 97], .int a)] S := by
  simp [g_PlaceX_initX, b_PlaceX_initX, w_PlaceX_initX_0, inD, inFin, putN]
@[simp] theorem place_ok (x y a : Int) (S : List Cell) : g__law_place [tr x y a] S = .ok (plc x y a) S := by
  simp [g__law_place, b__law_place, fnD]
@[simp] theorem need_ok (x y a : Int) (S : List Cell) : g_need_place [plc x y a] S = .ok .non S := by
  simp [g_need_place, b_need_place, fnD]
/-- a place of the size that is drawn -/
structure PB (x y a : Int) : Prop where
  x : Bd x 600
  y : Bd y 600
  a : Bd a 1200
theorem steps_ok {x y a : Int} (h : PB x y a) (S : List Cell) : g_steps [plc x y a] S = .ok (.int (stp x y a)) S := by
  simp [g_steps, b_steps, fnD, List.lookup, steps_of_ok x y a S h.x h.y h.a]
end W_k13
set_option maxRecDepth 100000
set_option maxHeartbeats 4000000
set_option exponentiation.threshold 4000
namespace W_k13
open DL ST
/-! ### runs as data -/
abbrev qD (q : Nat × Int) : D := .tup [.str [q.1], .int q.2]
abbrev rD (r : Runs) : List D := r.map qD
abbrev wk (r : Runs) : D := .ins "Walk" [([114, 117, 110, 115], .tup (rD r))]
abbrev spD (p : Sp) : D := tr p.x p.y p.a
theorem isL_lt {c : Nat} (h : isL c) : c < 1114112 := by rcases h with rfl | rfl | rfl | rfl <;> decide
theorem mgStep_len (acc : Runs) (q : Nat × Int) : (mgStep acc q).length ≤ acc.length + 1 := by
  unfold mgStep
  split
  · split
    · simp
    · split <;> simp
  · split <;> simp
theorem take_snoc {α : Type} {l : List α} {i : Nat} {x : α} (h : l[i]? = some x) : l.take (i + 1) = l.take i ++ [x] := by
  rw [List.take_add_one, h]
  rfl
end W_k13
set_option maxRecDepth 100000
set_option maxHeartbeats 4000000
set_option exponentiation.threshold 4000
namespace W_k13
open DL ST
/-! ### told walks -/
@[simp] theorem is_whole_ok (i j : Int) (S : List Cell) : g_is_whole [.int i, .int j] S = .ok (.bl (decide (j ≤ i))) S := by
  simp [g_is_whole, b_is_whole, fnD]
theorem isi_str (l : Nm) : bIsi ["Place"] [.str l, .ty "str"] = some (.bl true) := by simp [bIsi, tyOfD, tyD, isOne, mem_ty, isTy]
theorem isi_lst_str (l : List D) : bIsi ["Place"] [.lst l, .ty "str"] = some (.bl false) := by simp [bIsi, tyOfD, tyD, isOne, mem_ty, isTy]
theorem isi_tup_str (l : List D) : bIsi ["Place"] [.tup l, .ty "str"] = some (.bl false) := by simp [bIsi, tyOfD, tyD, isOne, mem_ty, isTy]
theorem all_true (n : Nat) : bAll [.lst (List.replicate n (.bl true))] = some (.bl true) := by
  have h : blsOf (List.replicate n (D.bl true)) = some (List.replicate n true) := by
    induction n with
    | zero => rfl
    | succ n ih => simp [List.replicate_succ, blsOf, ih]
  simp [bAll, h]
/-! ### sides, areas -/
theorem ab_eq (x : Int) : (if x < 0 then -x else x) = ab x := rfl
theorem best_ok (x y k : Int) (S : List Cell) : g_best_sides [.int x, .int y, .int k] S = .ok (.tup [.int (bs x y k).1, .int (bs x y k).2]) S := by
  unfold bs
  by_cases c : k ≤ ab (x - y)
  · by_cases c1 : y ≤ x
    · simp [g_best_sides, b_best_sides, fnD, ab_eq, c, c1]
    · simp [g_best_sides, b_best_sides, fnD, ab_eq, c, c1]
  · simp [g_best_sides, b_best_sides, fnD, ab_eq, c]
theorem Bd.plus {x y : Int} {n : Nat} (h : Bd x n) (k : Bd y n) : Bd (x + y) (n + 1) := ⟨by
  have := h.lt
  have := k.lt
  rw [Nat.pow_succ]
  omega⟩
theorem bd_ab {x : Int} {n : Nat} (h : Bd x n) : Bd (ab x) n := by unfold ab; infer_instance
theorem bd_stp {x y a : Int} (bx : Bd x 600) (bY : Bd y 600) (ba : Bd a 1200) : Bd (stp x y a) 3620 := by
  have bg := bd_gnd bx bY ba
  have hg := gnd_nonneg x y a
  have h := rt_is (show 0 ≤ 4 * gnd x y a by omega)
  obtain ⟨h1, h2, h3⟩ := h
  have hx := ab_nonneg x
  have hy := ab_nonneg y
  obtain ⟨m1, m2, m3⟩ := mor_les x y
  have up : stp x y a ≤ 8 * gnd x y a + 2 + (ab x + ab y) := by
    unfold stp stpF
    split
    · omega
    · rename_i c
      split
      · rename_i c2
        have hm : 0 < mor x y := by
          by_cases z : 0 < mor x y
          · exact z
          · have : mor x y = 0 := by omega
            rw [this] at c c2
            simp at c c2
            omega
        have : ceilD (gnd x y a) (mor x y) ≤ gnd x y a := by
          unfold ceilD
          have e1 : mor x y * (-gnd x y a).fdiv (mor x y) + (-gnd x y a).fmod (mor x y) = -gnd x y a := Int.mul_fdiv_add_fmod _ _
          have e2 : (-gnd x y a).fmod (mor x y) < mor x y := Int.fmod_lt_of_pos _ hm
          generalize (-gnd x y a).fdiv (mor x y) = q at *
          by_cases z : -q ≤ gnd x y a
          · exact z
          · have := pr_pos (show 0 ≤ mor x y - 1 by omega) (show 0 ≤ -q - 1 by omega)
            rw [show (mor x y - 1) * (-q - 1) = -(mor x y * q) - mor x y + q + 1 by grind] at this
            omega
        omega
      · have : rt (4 * gnd x y a) ≤ 4 * gnd x y a + 1 := by
          by_cases z : 0 < rt (4 * gnd x y a)
          · have h4 := h3 z
            by_cases z1 : rt (4 * gnd x y a) = 1
            · omega
            · have := pr_pos (show 0 ≤ rt (4 * gnd x y a) - 2 by omega) (show 0 ≤ rt (4 * gnd x y a) - 1 by omega)
              generalize rt (4 * gnd x y a) = r at *
              rw [show (r - 2) * (r - 1) = (r - 1) * (r - 1) - (r - 1) by grind] at this
              omega
          · omega
        omega
  have b8 : Bd (8 : Int) 4 := ⟨by decide⟩
  have b1 : Bd (8 * gnd x y a) 3610 := (bd_mul (m := 4) (n := 3604) : Bd (8 * gnd x y a) _).le (by decide)
  have b2 : Bd (ab x + ab y) 3611 := (Bd.plus (bd_ab bx) (bd_ab bY)).le (by decide)
  have b3 : Bd (8 * gnd x y a + 2) 3611 := Bd.plus b1 ((inferInstance : Bd (2 : Int) 2).le (by decide))
  exact ((Bd.plus b3 b2).of_le (stp_nonneg x y a) up).le (by decide)
theorem bd_bs {x y k : Int} (bx : Bd x 600) (bY : Bd y 600) (bk : Bd k 5300) : Bd (bs x y k).1 7000 ∧ Bd (bs x y k).2 7000 := by
  have b1 : Bd (x + k) 7000 := (Bd.plus (bx.le (by decide)) bk).le (by decide)
  have b2 : Bd (y + k) 7000 := (Bd.plus (bY.le (by decide)) bk).le (by decide)
  have b0 : Bd (x + y + k) 5301 := Bd.plus ((Bd.plus bx bY).le (by decide)) bk
  have b3 : Bd ((x + y + k).fdiv 2) 7000 := (bd_half (h := b0)).le (by decide)
  have b4 : Bd ((x + y + k + 1).fdiv 2) 7000 := (bd_half (h := Bd.plus b0 ((inferInstance : Bd (1 : Int) 1).le (by decide)))).le (by decide)
  unfold bs
  split
  · split
    · exact ⟨bx.le (by decide), b2⟩
    · exact ⟨b1, bY.le (by decide)⟩
  · exact ⟨b4, b3⟩
def limD : Option (Int × Int) → D
  | none => .non
  | some (a, b) => .tup [.int a, .int b]
theorem bd_ext {x y n : Int} (bx : Bd x 600) (bY : Bd y 600) (bn : Bd n 4000) : Bd ((n - ab x - ab y).fdiv 2) 5300 := by
  have b1 := bd_ab bx
  have b2 := bd_ab bY
  exact (inferInstance : Bd ((n - ab x - ab y).fdiv 2) _).le (by decide)
theorem areas_of_ok (x y n : Int) (S : List Cell) (bx : Bd x 600) (bY : Bd y 600) (bn : Bd n 4000) : g_areas_of [.int x, .int y, .int n] S = .ok (limD (lim x y n)) S := by
  have be := bd_ext bx bY bn
  have m0 : mulOk x y = true := mulOk_bd (by decide)
  unfold lim
  by_cases c1 : n - ab x - ab y < 0
  · simp [g_areas_of, b_areas_of, fnD, ab_eq, c1, limD]
  · by_cases c2 : (n - ab x - ab y).fmod 2 = 1
    · simp [g_areas_of, b_areas_of, fnD, ab_eq, c1, c2, limD]
    · generalize hk : (n - ab x - ab y).fdiv 2 = k at *
      have hb := best_ok (ab x) (ab y) k S
      obtain ⟨b1, b2⟩ := bd_bs (bd_ab bx) (bd_ab bY) be
      generalize (bs (ab x) (ab y) k).1 = W at *
      generalize (bs (ab x) (ab y) k).2 = H at *
      have m1 : mulOk 2 W = true := mulOk_bd (by decide)
      have m2 : mulOk (2 * W) H = true := mulOk_bd (by decide)
      have e : 2 * W * H = 2 * (W * H) := by grind
      simp [g_areas_of, b_areas_of, fnD, ab_eq, c1, c2, hk, hb, m0, m1, m2, limD, loA, hiA, e]
/-! ### a walk of so many steps -/
def nmD (f : Nat → Nat) : D := .dic [(.s [101], .str [f 101]), (.s [110], .str [f 110]), (.s [119], .str [f 119]), (.s [115], .str [f 115])]
theorem nm_nd (a b c d : D) : keysNd [(.s [101], a), (.s [110], b), (.s [119], c), (.s [115], d)] = true := rfl
theorem wp_isL {x y a k : Int} : ∀ q ∈ wp x y a k, isL q.1 := fun q hq => by
  unfold wp at hq
  split at hq <;> simp only [List.mem_cons, List.not_mem_nil, or_false] at hq
  · rcases hq with rfl | rfl | rfl | rfl <;> simp [isL]
  · rcases hq with rfl | rfl | rfl | rfl | rfl | rfl | rfl <;> simp [isL]
theorem wp_short {x y a k : Int} : (wp x y a k).length ≤ 7 := by
  unfold wp
  split <;> simp
def ptD : Option Runs → D
  | none => .non
  | some r => .lst (rD r)
/-! ### how far a walk leads -/
theorem led_x : ∀ (r : Runs) (p : Sp), Good r → -(len r) ≤ (led p r).x - p.x ∧ (led p r).x - p.x ≤ len r
  | [], p, _ => by simp [led, len]
  | (c, t) :: r, p, g => by
    have h := led_x r (gone p c t) g.tail
    have h1 := g.head.2
    simp only [led, len] at *
    have h2 : -t ≤ (gone p c t).x - p.x ∧ (gone p c t).x - p.x ≤ t := by
      unfold gone
      split
      · simp; omega
      · split
        · simp; omega
        · split <;> simp <;> omega
    omega
theorem len_take {r : Runs} (g : Good r) (i : Nat) : len (r.take i) ≤ len r := by
  have h : len (r.take i) + len (r.drop i) = len r := by rw [← len_app, List.take_append_drop]
  have := len_nonneg (r := r.drop i) (fun q hq => g q (List.mem_of_mem_drop hq))
  omega
theorem mem_len : ∀ {r : Runs} (q : Nat × Int), Good r → q ∈ r → q.2 ≤ len r
  | (c, t) :: r, q, g, h => by
    have h1 := g.head.2
    have h2 := len_nonneg g.tail
    rcases List.mem_cons.mp h with z | z
    · subst z; simp only [len]; omega
    · have := mem_len q g.tail z
      simp only [len] at *
      omega
theorem bd_pm {x m : Int} {n : Nat} (b : Bd m n) (h1 : -m ≤ x) (h2 : x ≤ m) : Bd x n := ⟨by have := b.lt; omega⟩
theorem gone_mul {r : Runs} (g : Good r) {n : Nat} (bl : Bd (len r) n) (hn : n < 40000) {i : Nat} {q : Nat × Int} (hq : r[i]? = some q) : mulOk (led home (r.take i)).x q.2 = true := by
  have h1 := led_x (r.take i) home (fun q hq => g q (List.mem_of_mem_take hq))
  have h2 := len_take g i
  have h3 := mem_len q g (List.mem_of_getElem? hq)
  have h4 := (g q (List.mem_of_getElem? hq)).2
  simp only [home] at h1
  have b1 : Bd (led home (r.take i)).x n := bd_pm bl (by simp only [home]; omega) (by simp only [home]; omega)
  have b2 : Bd q.2 n := bl.of_le h4 h3
  exact mulOk_bd (by omega)
theorem led_take {r : Runs} {i : Nat} {q : Nat × Int} (hq : r[i]? = some q) (p : Sp) : led p (r.take (i + 1)) = gone (led p (r.take i)) q.1 q.2 := by
  rw [take_snoc hq, led_app]
  rfl
theorem lgone_ok (p : Sp) (c : Nat) (t : Int) (S : List Cell) (hc : isL c) (hm : mulOk p.x t = true) : g__law_gone [spD p, .str [c], .int t] S = .ok (spD (gone p c t)) S := by
  rcases hc with rfl | rfl | rfl | rfl <;> simp [g__law_gone, b__law_gone, fnD, hm, gone] <;> grind
def spts (r : Runs) (i : Nat) : List D := (List.range i).map fun j => spD (led home (r.take j))
theorem spts_snoc (r : Runs) (i : Nat) : spts r (i + 1) = spts r i ++ [spD (led home (r.take i))] := by
  simp [spts, List.range_succ]
theorem spts_len (r : Runs) (i : Nat) : (spts r i).length = i := by simp [spts]
theorem plFs_rD : ∀ (r : Runs), (∀ q ∈ r, q.1 < 1114112) → plFs (rD r)
  | [], _ => by simp
  | q :: r, h => by
    have h1 := plFs_rD r (fun p hp => h p (List.mem_cons_of_mem _ hp))
    have h2 := h q (List.mem_cons_self ..)
    rw [rD, List.map_cons, plFs_cons]
    exact ⟨by simp [plF, plD, plDs, dpD, dpDs, h2], h1⟩
theorem sum_times (r : Runs) : bSum [.lst (r.map fun q => D.int q.2)] = some (.int (len r)) := by
  have h : ∀ r : Runs, intsOf (r.map fun q => D.int q.2) = some (r.map fun q => q.2) := fun r => by
    induction r with
    | nil => rfl
    | cons q r ih => simp [intsOf, ih]
  have h2 : ∀ r : Runs, (r.map fun q : Nat × Int => q.2).sum = len r := fun r => by
    induction r with
    | nil => rfl
    | cons q r ih => simp only [List.map_cons, List.sum_cons, ih]; rfl
  simp [bSum, h, h2]
end W_k13
set_option maxRecDepth 100000
set_option maxHeartbeats 4000000
set_option exponentiation.threshold 2000
namespace W_k13
open DL ST
theorem ipow_le {i j : Nat} (h : i ≤ j) : (10000000 : Int) ^ i ≤ 10000000 ^ j := by
  have h1 : ((10000000 ^ i : Nat) : Int) = 10000000 ^ i := by simp
  have h2 : ((10000000 ^ j : Nat) : Int) = 10000000 ^ j := by simp
  rw [← h1, ← h2]
  exact Int.ofNat_le.mpr (Nat.pow_le_pow_right (by decide) h)
theorem great_ok {n : Nat} {S : List Cell} {f : Int} (hS : Pen n S) (hn : n + 20 < 2 ^ 20) (h1 : 7 ≤ f) (h2 : f < 105) : ∃ d S', g__law_great [.cell 1, .int f] S = .ok (.int d) S' ∧ 0 ≤ d ∧ Bd d 340 ∧ Pen (n + 16) S' := by
  have hf : 1 ≤ f.fdiv 7 ∧ f.fdiv 7 ≤ 14 := by rw [Int.fdiv_eq_ediv_of_nonneg _ (by decide)]; omega
  obtain ⟨c, S1, e1, c0, c1, P1⟩ := draw_ok hS (by omega) (p := f.fdiv 7) (by omega) (by omega)
  have hk : ∃ k : Nat, (1 + c).toNat = k ∧ k ≤ 14 ∧ 1 + c = (k : Int) := ⟨(1 + c).toNat, rfl, by omega, by omega⟩
  obtain ⟨k, hk1, hk2, hk3⟩ := hk
  have d7 : divOk 7 = true := by decide
  obtain ⟨s', e2, v, x, hs, v0, v1, hP⟩ := for_inv (g := gN 3) (b := w__law_great_0) (items := rngL 0 k) (s := ⟨[.val (.cell 1), .val (.int f), .val (.int 0), .un], S1⟩)
    (fun i s => ∃ (v : Int) (x : Sl), s.sl = [.val (.cell 1), .val (.int f), .val (.int v), x] ∧ 0 ≤ v ∧ v < 10000000 ^ i ∧ Pen (n + 1 + i) s.st)
    ⟨0, .un, rfl, by omega, by decide, P1⟩ (fun i d s hi hp => by
      obtain ⟨v, x, hs, v0, v1, hP⟩ := hp
      obtain ⟨sl, st⟩ := s
      simp only at hs hP
      subst hs
      obtain ⟨hi1, rfl⟩ := rngL_get hi
      obtain ⟨c, S2, e, c0, c1, P2⟩ := draw_ok hP (by omega) (p := 10000000) (by decide) (by decide)
      have hi2 : i ≤ 14 := by omega
      have hle : (10000000 : Int) ^ i ≤ 10000000 ^ 14 := ipow_le hi2
      have bv : Bd v 340 := ⟨by
        have : (10000000 : Int) ^ 14 < 2 ^ 340 := by decide
        omega⟩
      have m : mulOk v 10000000 = true := mulOk_bd (by decide)
      refine ⟨_, ⟨[.val (.cell 1), .val (.int f), .val (.int (v * 10000000 + c)), .val (.int (0 + i))], S2⟩, rfl, .inl ?_, v * 10000000 + c, _, rfl, by omega, ?_, P2⟩
      · simp [w__law_great_0, e, m]
      · rw [Int.pow_succ]
        omega)
  rw [rngL_len] at v1 hP
  obtain ⟨sl, st⟩ := s'
  simp only at hs hP
  subst hs
  have hle : (10000000 : Int) ^ k ≤ 10000000 ^ 14 := ipow_le hk2
  have hlt : (10000000 : Int) ^ 14 < 2 ^ 340 := by decide
  refine ⟨v, st, ?_, v0, ⟨by omega⟩, hP.mono (by omega)⟩
  have q : -4611686018427387904 ≤ (1 + c) ∧ 1 + c < 4611686018427387904 := by omega
  simp [g__law_great, b__law_great, fnD, e1, d7, hk1, q, e2]
theorem signed_ok {n : Nat} {S : List Cell} {f : Int} (hS : Pen n S) (hn : n + 30 < 2 ^ 20) (h2 : f < 105) : ∃ d S', g__law_signed [.cell 1, .int f] S = .ok (.int d) S' ∧ Bd d 340 ∧ Pen (n + 20) S' := by
  have fin : ∀ {m : Nat} {S1 : List Cell} (d : Int), Pen m S1 → m ≤ n + 18 → ∃ c S2, g__law_draw [.cell 1, .int 2] S1 = .ok (.int c) S2 ∧ Pen (n + 20) S2 := fun d hP hm => by
    obtain ⟨c, S2, e, _, _, P2⟩ := draw_ok hP (by omega) (p := 2) (by decide) (by decide)
    exact ⟨c, S2, e, P2.mono (by omega)⟩
  have neg : ∀ d : Int, Bd d 340 → Bd (-d) 340 := fun d h => bd_neg
  by_cases c : f < 7
  · obtain ⟨d, S1, e1, d0, d1, P1⟩ := draw_ok hS (by omega) (p := 12) (by decide) (by decide)
    obtain ⟨k, S2, e2, P2⟩ := fin d P1 (by omega)
    have bd : Bd d 340 := (⟨by omega⟩ : Bd d 4).le (by decide)
    by_cases hk : k = 0
    · exact ⟨d, S2, by simp [g__law_signed, b__law_signed, fnD, c, e1, e2, hk], bd, P2⟩
    · exact ⟨-d, S2, by simp [g__law_signed, b__law_signed, fnD, c, e1, e2, hk], neg d bd, P2⟩
  · obtain ⟨t, S0, e0, t0, t1, P0⟩ := draw_ok hS (by omega) (p := 4) (by decide) (by decide)
    by_cases ht : t = 0
    · obtain ⟨d, S1, e1, d0, d1, P1⟩ := draw_ok P0 (by omega) (p := 12) (by decide) (by decide)
      obtain ⟨k, S2, e2, P2⟩ := fin d P1 (by omega)
      have bd : Bd d 340 := (⟨by omega⟩ : Bd d 4).le (by decide)
      by_cases hk : k = 0
      · exact ⟨d, S2, by simp [g__law_signed, b__law_signed, fnD, c, e0, ht, e1, e2, hk], bd, P2⟩
      · exact ⟨-d, S2, by simp [g__law_signed, b__law_signed, fnD, c, e0, ht, e1, e2, hk], neg d bd, P2⟩
    · obtain ⟨d, S1, e1, d0, bd, P1⟩ := great_ok P0 (by omega) (f := f) (by omega) h2
      obtain ⟨k, S2, e2, P2⟩ := fin d P1 (by omega)
      by_cases hk : k = 0
      · exact ⟨d, S2, by simp [g__law_signed, b__law_signed, fnD, c, e0, ht, e1, e2, hk], bd, P2⟩
      · exact ⟨-d, S2, by simp [g__law_signed, b__law_signed, fnD, c, e0, ht, e1, e2, hk], neg d bd, P2⟩
/-- a drawn place -/
structure PD (x y a : Int) : Prop where
  x : Bd x 340
  y : Bd y 340
  a : Bd a 700
theorem PD.b {x y a : Int} (h : PD x y a) : PB x y a := ⟨h.x.le (by decide), h.y.le (by decide), h.a.le (by decide)⟩
theorem far_ok {n : Nat} {S : List Cell} {f : Int} (hS : Pen n S) (hn : n + 200 < 2 ^ 20) (h2 : f < 52) (h3 : 0 ≤ f) : ∃ x y a S', g__law_far [.cell 1, .int f] S = .ok (tr x y a) S' ∧ PD x y a ∧ Pen (n + 100) S' := by
  obtain ⟨x, S1, e1, bx, P1⟩ := signed_ok hS (by omega) (f := f) (by omega)
  obtain ⟨y, S2, e2, bY, P2⟩ := signed_ok P1 (by omega) (f := f) (by omega)
  obtain ⟨t, S3, e3, t0, t1, P3⟩ := draw_ok P2 (by omega) (p := 4) (by decide) (by decide)
  by_cases c : t = 0
  · obtain ⟨a, S4, e4, ba, P4⟩ := signed_ok P3 (by omega) (f := 2 * f) (by omega)
    have bf : Bd f 8 := ⟨by omega⟩
    have m : mulOk 2 f = true := mulOk_bd (by decide)
    exact ⟨x, y, a, S4, by simp [g__law_far, b__law_far, fnD, e1, e2, e3, c, e4, m], ⟨bx, bY, ba.le (by decide)⟩, P4.mono (by omega)⟩
  · obtain ⟨u, S4, e4, u0, u1, P4⟩ := draw_ok P3 (by omega) (p := 9) (by decide) (by decide)
    obtain ⟨v, S5, e5, v0, v1, P5⟩ := draw_ok P4 (by omega) (p := 9) (by decide) (by decide)
    have bu : Bd u 4 := ⟨by omega⟩
    have bv : Bd v 4 := ⟨by omega⟩
    have mx : mulOk x y = true := mulOk_bd (by decide)
    have fin : ∀ {S6 : List Cell} (w h : Int), Pen (n + 45) S6 → Bd w 348 → Bd h 348 → ∃ a S7, (∃ z S', g__law_draw [.cell 1, .int 5] S6 = .ok (.int z) S' ∧ g__law_pick [.cell 1, .lst [.int (w * h + z - 2), .int (x * y - (w * h + z - 2))]] S' = .ok (.int a) S7) ∧ Bd a 700 ∧ Pen (n + 100) S7 := fun {S6} w h P6 bw bh => by
      obtain ⟨z, S', e6, z0, z1, P7⟩ := draw_ok P6 (by omega) (p := 5) (by decide) (by decide)
      obtain ⟨k, S7, e7, hk, P8⟩ := pick_ok (xs := [.int (w * h + z - 2), .int (x * y - (w * h + z - 2))]) P7 (by omega) (by simp) (by simp)
      have b1 : Bd (w * h) 696 := (bd_mul : Bd (w * h) (348 + 348))
      have b2 : Bd (x * y) 680 := (bd_mul : Bd (x * y) (340 + 340))
      have l1 := b1.lt
      have l2 := b2.lt
      have l3 : (2 : Nat) ^ 700 = 2 ^ 680 * 2 ^ 20 := by rw [← Nat.pow_add]
      have l4 : (2 : Nat) ^ 696 = 2 ^ 680 * 2 ^ 16 := by rw [← Nat.pow_add]
      have l5 : 1 ≤ (2 : Nat) ^ 680 := Nat.one_le_two_pow
      have : ∃ a, k = .int a ∧ Bd a 700 := by
        simp at hk
        rcases hk with rfl | rfl
        · exact ⟨_, rfl, ⟨by omega⟩⟩
        · exact ⟨_, rfl, ⟨by omega⟩⟩
      obtain ⟨a, rfl, ba⟩ := this
      exact ⟨a, S7, ⟨z, S', e6, e7⟩, ba, P8.mono (by omega)⟩
    have ax : Bd (ab x) 340 := by unfold ab; infer_instance
    have ay : Bd (ab y) 340 := by unfold ab; infer_instance
    have ex : (if x < 0 then -x else x) = ab x := rfl
    have ey : (if y < 0 then -y else y) = ab y := rfl
    have bw : Bd (ab x + u) 345 := (bd_add : Bd (ab x + u) (340 + 4 + 1))
    have bh : Bd (ab y + v) 345 := (bd_add : Bd (ab y + v) (340 + 4 + 1))
    by_cases c2 : 1 < t
    · obtain ⟨q, S6, e6, q0, q1, P6⟩ := draw_ok P5 (by omega) (p := 3) (by decide) (by decide)
      have bq : Bd q 2 := ⟨by omega⟩
      generalize hM : (if ab x + u < ab y + v then ab y + v else ab x + u) = M at *
      have bM : Bd M 345 := by
        rw [← hM]
        split
        · exact bh
        · exact bw
      have bM2 : Bd (M + q) 348 := (bd_add : Bd (M + q) (345 + 2 + 1))
      obtain ⟨a, S7, ⟨z, S', e7, e8⟩, ba, P7⟩ := fin (M + q) M (P6.mono (by omega)) bM2 (bM.le (by decide))
      have mm : mulOk (M + q) M = true := mulOk_bd (by decide)
      exact ⟨x, y, a, S7, by simp [g__law_far, b__law_far, fnD, e1, e2, e3, c, e4, e5, c2, e6, e7, e8, mm, mx, ex, ey, hM], ⟨bx, bY, ba⟩, P7⟩
    · obtain ⟨a, S7, ⟨z, S', e7, e8⟩, ba, P7⟩ := fin (ab x + u) (ab y + v) (P5.mono (by omega)) (bw.le (by decide)) (bh.le (by decide))
      have mm : mulOk (ab x + u) (ab y + v) = true := mulOk_bd (by decide)
      exact ⟨x, y, a, S7, by simp [g__law_far, b__law_far, fnD, e1, e2, e3, c, e4, e5, c2, e7, e8, mm, mx, ex, ey], ⟨bx, bY, ba⟩, P7⟩
end W_k13
namespace ST
/-! walks parted -/
def mn (a b : Int) : Int := if b < a then b else a
theorem mn_le {a b : Int} : mn a b ≤ a ∧ mn a b ≤ b := by unfold mn; split <;> omega
theorem mn_nn {a b : Int} (h : 0 ≤ a) (k : 0 ≤ b) : 0 ≤ mn a b := by unfold mn; split <;> omega
def hd : Runs → Int → Runs
  | [], _ => []
  | q :: r, k => (q.1, mn k q.2) :: hd r (k - mn k q.2)
def tl : Runs → Int → Runs
  | [], _ => []
  | q :: r, k => (q.1, q.2 - mn k q.2) :: tl r (k - mn k q.2)
theorem hd_snoc : ∀ (r : Runs) (q : Nat × Int) (k : Int), hd (r ++ [q]) k = hd r k ++ [(q.1, mn (k - len (hd r k)) q.2)]
  | [], q, k => by simp [hd, len]
  | p :: r, q, k => by
    show (p.1, mn k p.2) :: hd (r ++ [q]) (k - mn k p.2) = _
    rw [hd_snoc r q]
    show _ = (p.1, mn k p.2) :: (hd r (k - mn k p.2) ++ [(q.1, mn (k - (mn k p.2 + len (hd r (k - mn k p.2)))) q.2)])
    rw [show k - (mn k p.2 + len (hd r (k - mn k p.2))) = k - mn k p.2 - len (hd r (k - mn k p.2)) by omega]
theorem tl_snoc : ∀ (r : Runs) (q : Nat × Int) (k : Int), tl (r ++ [q]) k = tl r k ++ [(q.1, q.2 - mn (k - len (hd r k)) q.2)]
  | [], q, k => by simp [hd, tl, len]
  | p :: r, q, k => by
    show (p.1, p.2 - mn k p.2) :: tl (r ++ [q]) (k - mn k p.2) = _
    rw [tl_snoc r q]
    show _ = (p.1, p.2 - mn k p.2) :: (tl r (k - mn k p.2) ++ [(q.1, q.2 - mn (k - (mn k p.2 + len (hd r (k - mn k p.2)))) q.2)])
    rw [show k - (mn k p.2 + len (hd r (k - mn k p.2))) = k - mn k p.2 - len (hd r (k - mn k p.2)) by omega]
theorem hd_length : ∀ (r : Runs) (k : Int), (hd r k).length = r.length
  | [], _ => rfl
  | q :: r, k => by simp [hd, hd_length r]
theorem tl_length : ∀ (r : Runs) (k : Int), (tl r k).length = r.length
  | [], _ => rfl
  | q :: r, k => by simp [tl, tl_length r]
theorem hd_good : ∀ {r : Runs} {k : Int}, Good r → 0 ≤ k → Good (hd r k)
  | [], _, _, _ => fun _ h => nomatch h
  | q :: r, k, g, hk => fun p hp => by
    have h0 := g.head
    have h1 := mn_le (a := k) (b := q.2)
    rcases List.mem_cons.mp hp with rfl | hp
    · exact ⟨h0.1, mn_nn hk h0.2⟩
    · exact hd_good g.tail (by omega) p hp
theorem tl_good : ∀ {r : Runs} {k : Int}, Good r → 0 ≤ k → Good (tl r k)
  | [], _, _, _ => fun _ h => nomatch h
  | q :: r, k, g, hk => fun p hp => by
    have h0 := g.head
    have h1 := mn_le (a := k) (b := q.2)
    rcases List.mem_cons.mp hp with rfl | hp
    · exact ⟨h0.1, by show 0 ≤ q.2 - mn k q.2; omega⟩
    · exact tl_good g.tail (by omega) p hp
theorem hd_len : ∀ {r : Runs} {k : Int}, Good r → 0 ≤ k → k ≤ len r → len (hd r k) = k
  | [], k, _, h, h' => by
    show (0 : Int) = k
    have : len ([] : Runs) = 0 := rfl
    omega
  | q :: r, k, g, hk, h' => by
    have h0 := g.head
    have h1 := mn_le (a := k) (b := q.2)
    have h2 := len_nonneg g.tail
    have h3 : len (q :: r) = q.2 + len r := rfl
    show mn k q.2 + len (hd r (k - mn k q.2)) = k
    rw [hd_len g.tail (by omega) (by unfold mn; split <;> omega)]
    omega
theorem hd_tl_len : ∀ (r : Runs) (k : Int), len (hd r k) + len (tl r k) = len r
  | [], _ => rfl
  | q :: r, k => by
    have := hd_tl_len r (k - mn k q.2)
    show mn k q.2 + len (hd r (k - mn k q.2)) + (q.2 - mn k q.2 + len (tl r (k - mn k q.2))) = q.2 + len r
    omega
theorem hd_zero : ∀ {r : Runs} (p : Sp), Good r → led p (hd r 0) = p
  | [], _, _ => rfl
  | q :: r, p, g => by
    have h0 := g.head.2
    have : mn 0 q.2 = 0 := by unfold mn; split <;> omega
    show led (gone p q.1 (mn 0 q.2)) (hd r (0 - mn 0 q.2)) = p
    rw [this, gone_zero]
    exact hd_zero p g.tail
theorem tl_zero : ∀ {r : Runs}, Good r → tl r 0 = r
  | [], _ => rfl
  | q :: r, g => by
    have h0 := g.head.2
    have : mn 0 q.2 = 0 := by unfold mn; split <;> omega
    show (q.1, q.2 - mn 0 q.2) :: tl r (0 - mn 0 q.2) = _
    rw [this, show (0 : Int) - 0 = 0 from rfl, tl_zero g.tail]
    simp
theorem hd_tl_led : ∀ {r : Runs} {k : Int} (p : Sp), Good r → 0 ≤ k → led (led p (hd r k)) (tl r k) = led p r
  | [], _, _, _, _ => rfl
  | q :: r, k, p, g, hk => by
    have h0 := g.head.2
    show led (gone (led (gone p q.1 (mn k q.2)) (hd r (k - mn k q.2))) q.1 (q.2 - mn k q.2)) (tl r (k - mn k q.2)) = led (gone p q.1 q.2) r
    by_cases c : q.2 < k
    · have e : mn k q.2 = q.2 := by unfold mn; rw [if_pos c]
      rw [e, Int.sub_self, gone_zero]
      exact hd_tl_led _ g.tail (by omega)
    · have e : mn k q.2 = k := by unfold mn; rw [if_neg c]
      rw [e, Int.sub_self, hd_zero _ g.tail, tl_zero g.tail, gone_add, show k + (q.2 - k) = q.2 by omega]
/-! the middle of a least walk -/
/-- the product of two spots -/
def mul (p q : Sp) : Sp := ⟨p.x + q.x, p.y + q.y, p.a + q.a + p.x * q.y⟩
def inv (p : Sp) : Sp := ⟨-p.x, -p.y, p.x * p.y - p.a⟩
theorem mul_gone (p q : Sp) (c : Nat) (t : Int) : gone (mul p q) c t = mul p (gone q c t) := by
  unfold gone mul
  repeat' split
  all_goals (simp only [Sp.mk.injEq]; refine ⟨by grind, by grind, by grind⟩)
theorem mul_led (p : Sp) : ∀ (r : Runs) (q : Sp), led (mul p q) r = mul p (led q r)
  | [], _ => rfl
  | c :: r, q => by
    show led (gone (mul p q) c.1 c.2) r = mul p (led (gone q c.1 c.2) r)
    rw [mul_gone, mul_led p r]
theorem mul_home (p : Sp) : mul p home = p := by simp [mul]
theorem led_from (p : Sp) (r : Runs) : led p r = mul p (led home r) := by
  rw [← mul_led, mul_home]
theorem mul_assoc (p q s : Sp) : mul (mul p q) s = mul p (mul q s) := by
  unfold mul
  simp only [Sp.mk.injEq]
  refine ⟨by omega, by omega, by grind⟩
theorem inv_mul (p : Sp) : mul (inv p) p = home := by
  unfold mul inv
  simp only [Sp.mk.injEq]
  refine ⟨by omega, by omega, by grind⟩
theorem mul_inv (p : Sp) : mul p (inv p) = home := by
  unfold mul inv
  simp only [Sp.mk.injEq]
  refine ⟨by omega, by omega, by grind⟩
theorem home_mul (p : Sp) : mul home p = p := by simp [mul]
theorem inv_inv (p : Sp) : inv (inv p) = p := by
  unfold inv
  cases p
  simp only [Sp.mk.injEq]
  refine ⟨by omega, by omega, by grind⟩
theorem inv_of_mul (p q : Sp) : inv (mul p q) = mul (inv q) (inv p) := by
  unfold mul inv
  simp only [Sp.mk.injEq]
  refine ⟨by omega, by omega, by grind⟩
theorem cancel (t p q : Sp) : mul (inv (mul t p)) (mul t q) = mul (inv p) q := by
  rw [inv_of_mul, mul_assoc, ← mul_assoc (inv t), inv_mul, home_mul]
theorem st_tri (p q : Sp) : st (mul p q) ≤ st p + st q := tri ..
theorem st_inv (p : Sp) : st (inv p) = st p := stp_back ..
/-- the steps between two places -/
noncomputable def dst (p q : Sp) : Int := st (mul (inv p) q)
theorem dst_sym (p q : Sp) : dst p q = dst q p := by
  unfold dst
  rw [← st_inv, inv_of_mul, inv_inv]
theorem dst_tri (p q s : Sp) : dst p q ≤ dst p s + dst s q := by
  unfold dst
  have h : mul (inv p) q = mul (mul (inv p) s) (mul (inv s) q) := by
    rw [mul_assoc, ← mul_assoc s, mul_inv, home_mul]
  rw [h]
  exact st_tri _ _
theorem dst_move (t p q : Sp) : dst (mul t p) (mul t q) = dst p q := by unfold dst; rw [cancel]
theorem dst_self (p : Sp) : dst p p = 0 := by unfold dst; rw [inv_mul]; exact st_home
theorem inv_home : inv home = home := by simp [inv]
theorem dst_home (p : Sp) : dst home p = st p := by unfold dst; rw [inv_home, home_mul]
theorem st_zero {p : Sp} (h : st p = 0) : p = home := by
  obtain ⟨x, y, a⟩ := p
  by_cases c : x = 0 ∧ y = 0 ∧ a = 0
  · obtain ⟨rfl, rfl, rfl⟩ := c; rfl
  · have := stp_pos c
    have : stp x y a = 0 := h
    omega
theorem dst_zero {p q : Sp} (h : dst p q = 0) : p = q := by
  have h1 : mul (inv p) q = home := st_zero h
  have h2 := congrArg (mul p) h1
  rw [← mul_assoc, mul_inv, home_mul, mul_home] at h2
  exact h2.symm
theorem mid {p q : Sp} {r : Runs} (g : Good r) (to : led home r = mul (inv p) q) (hl : len r = dst p q) {k : Int} (hk : 0 ≤ k) (hk2 : k ≤ len r) :
    dst p (mul p (led home (hd r k))) = k ∧ dst (mul p (led home (hd r k))) q = len r - k := by
  have h1 := hd_len g hk hk2
  have h2 := hd_tl_len r k
  have h3 := hd_tl_led home g hk
  have h4 : dst p (mul p (led home (hd r k))) ≤ k := by
    have : dst (mul p home) (mul p (led home (hd r k))) = st (led home (hd r k)) := by rw [dst_move, dst_home]
    rw [mul_home] at this
    rw [this]
    have := st_le_len (hd_good g hk)
    omega
  have h5 : dst (mul p (led home (hd r k))) q ≤ len r - k := by
    have : q = mul p (led home r) := by rw [to, ← mul_assoc, mul_inv, home_mul]
    rw [this, dst_move, ← h3, led_from (led home (hd r k)), ← mul_home (led home (hd r k))]
    rw [show mul (mul (led home (hd r k)) home) (led home (tl r k)) = mul (led home (hd r k)) (led home (tl r k)) by rw [mul_home], dst_move, dst_home]
    have := st_le_len (tl_good g hk)
    omega
  have h6 := dst_tri p q (mul p (led home (hd r k)))
  omega
end ST
set_option maxRecDepth 100000
set_option maxHeartbeats 4000000
set_option exponentiation.threshold 4000
namespace DL
open ST
/-! ### how great places are -/
theorem bd_plus {x y : Int} {n : Nat} (h : Bd x n) (k : Bd y n) : Bd (x + y) (n + 1) := ⟨by
  have := h.lt
  have := k.lt
  rw [Nat.pow_succ]
  omega⟩
structure Sz (n : Nat) (p : Sp) : Prop where
  x : Bd p.x n
  y : Bd p.y n
  a : Bd p.a (2 * n + 20)
theorem Sz.mono {n m : Nat} {p : Sp} (h : Sz n p) (hm : n ≤ m) : Sz m p := ⟨h.x.le hm, h.y.le hm, h.a.le (by omega)⟩
theorem Sz.mul {n : Nat} {p q : Sp} (h : Sz n p) (k : Sz n q) : Sz (n + 1) (mul p q) :=
  ⟨bd_plus h.x k.x, bd_plus h.y k.y, by
    have h1 := bd_plus h.a k.a
    have h2 : Bd (p.x * q.y) (n + n) := @bd_mul _ _ _ _ h.x k.y
    exact (bd_plus h1 (h2.le (by omega))).le (by omega)⟩
theorem Sz.inv {n : Nat} {p : Sp} (h : Sz n p) : Sz (n + 1) (inv p) :=
  ⟨(@bd_neg _ _ h.x).le (by omega), (@bd_neg _ _ h.y).le (by omega), by
    have h2 : Bd (p.x * p.y) (n + n) := @bd_mul _ _ _ _ h.x h.y
    have h3 := @bd_neg _ _ h.a
    have h4 := bd_plus (h2.le (show n + n ≤ 2 * n + 20 by omega)) h3
    rw [show p.x * p.y + -p.a = p.x * p.y - p.a by omega] at h4
    exact h4.le (by omega)⟩
theorem Sz.mulOk {n : Nat} {p q : Sp} (h : Sz n p) (k : Sz n q) (hn : n < 40000) : mulOk p.x q.y = true := mulOk_of h.x k.y (by omega)
theorem ab_lt {x : Int} {n : Nat} (h : Bd x n) : ab x < 2 ^ n := by
  have := h.lt
  have e : ((2 ^ n : Nat) : Int) = 2 ^ n := by simp
  unfold ab
  split <;> omega
theorem gnd_up (x y a : Int) : gnd x y a ≤ ab a + ab (x * y) := by
  unfold gnd
  rw [Int.fdiv_eq_ediv_of_nonneg _ (by decide)]
  unfold ab
  split <;> split <;> split <;> omega
theorem gnd_dn (x y a : Int) : ab a ≤ gnd x y a + ab (x * y) := by
  unfold gnd
  rw [Int.fdiv_eq_ediv_of_nonneg _ (by decide)]
  unfold ab
  split <;> split <;> split <;> omega
theorem two_le (n : Nat) : (1 : Int) ≤ 2 ^ n := by
  have e : ((2 ^ n : Nat) : Int) = 2 ^ n := by simp
  have : 1 ≤ 2 ^ n := Nat.one_le_two_pow
  omega
theorem Sz.st {n : Nat} {p : Sp} (h : Sz n p) : Bd (ST.st p) (n + 14) := by
  have hx := ab_lt h.x
  have hy := ab_lt h.y
  have ha := ab_lt h.a
  have hxy : ab (p.x * p.y) < 2 ^ (2 * n) := by
    have : Bd (p.x * p.y) (n + n) := @bd_mul _ _ _ _ h.x h.y
    have := ab_lt this
    rwa [show n + n = 2 * n by omega] at this
  have hg := gnd_up p.x p.y p.a
  have e1 : (2 : Int) ^ (2 * n + 20) = 2 ^ (2 * n) * 1048576 := by rw [Int.pow_add]; rfl
  have e2 : (2 : Int) ^ (n + 11) * 2 ^ (n + 11) = 2 ^ (2 * n) * 4194304 := by rw [← Int.pow_add, show n + 11 + (n + 11) = 2 * n + 22 by omega, Int.pow_add]; rfl
  have e3 : (2 : Int) ^ (n + 11) = 2 ^ n * 2048 := by rw [Int.pow_add]; rfl
  have o1 := two_le n
  have o2 := two_le (2 * n)
  have b : Box p.x p.y p.a (2 ^ (n + 11)) (2 ^ (n + 11)) := ⟨by omega, by omega, by omega⟩
  have h1 := stp_le b
  have h2 := stp_nonneg p.x p.y p.a
  have h3 := ab_nonneg p.x
  have h4 := ab_nonneg p.y
  have e4 : (2 : Int) ^ (n + 14) = 2 ^ n * 16384 := by rw [Int.pow_add]; rfl
  refine ⟨?_⟩
  have e5 : ((2 ^ (n + 14) : Nat) : Int) = 2 ^ (n + 14) := by simp
  unfold cost at h1
  show (stp p.x p.y p.a).natAbs < _
  omega
theorem Sz.of_st {n : Nat} {p : Sp} (h : ST.st p < 2 ^ n) : Sz n p := by
  have h0 := stp_ge p.x p.y p.a
  have h1 := stp_nonneg p.x p.y p.a
  have h2 := ab_nonneg p.x
  have h3 := ab_nonneg p.y
  have h' : stp p.x p.y p.a < 2 ^ n := h
  have e : ((2 ^ n : Nat) : Int) = 2 ^ n := by simp
  have bs : Bd (stp p.x p.y p.a) n := ⟨by omega⟩
  have hx : ab p.x ≤ stp p.x p.y p.a := by omega
  have hy : ab p.y ≤ stp p.x p.y p.a := by omega
  have ax : ∀ z : Int, (ab z).natAbs = z.natAbs := fun z => by unfold ab; split <;> omega
  obtain ⟨p', q', b, hb⟩ := stp_box p.x p.y p.a
  have b1 := b.px
  have b2 := b.qy
  have b3 := b.room
  unfold cost at hb
  have hp : p' ≤ stp p.x p.y p.a := by omega
  have hq : q' ≤ stp p.x p.y p.a := by omega
  have m1 : p' * q' ≤ stp p.x p.y p.a * stp p.x p.y p.a := Int.mul_le_mul hp hq (by omega) h1
  have m2 : ab (p.x * p.y) ≤ stp p.x p.y p.a * stp p.x p.y p.a := by
    have : ab (p.x * p.y) = ab p.x * ab p.y := by
      unfold ab
      have := @Int.mul_nonneg p.x p.y
      by_cases c1 : p.x < 0
      · by_cases c2 : p.y < 0
        · have := Int.mul_pos_of_neg_of_neg c1 c2
          rw [if_neg (by omega), if_pos c1, if_pos c2, Int.neg_mul_neg]
        · rw [if_pos c1, if_neg c2]
          have := Int.mul_nonneg (show 0 ≤ -p.x by omega) (show 0 ≤ p.y by omega)
          rw [Int.neg_mul] at this
          split
          · rw [Int.neg_mul]
          · rw [Int.neg_mul]; omega
      · by_cases c2 : p.y < 0
        · rw [if_neg c1, if_pos c2]
          have := Int.mul_nonneg (show 0 ≤ p.x by omega) (show 0 ≤ -p.y by omega)
          rw [Int.mul_neg] at this
          split
          · rw [Int.mul_neg]
          · rw [Int.mul_neg]; omega
        · have := Int.mul_nonneg (show 0 ≤ p.x by omega) (show 0 ≤ p.y by omega)
          rw [if_neg (by omega), if_neg c1, if_neg c2]
    rw [this]
    exact Int.mul_le_mul hx hy h3 h1
  have m3 := gnd_dn p.x p.y p.a
  have bb : Bd (stp p.x p.y p.a * stp p.x p.y p.a) (n + n) := @bd_mul _ _ _ _ bs bs
  have bb2 := bd_plus bb bb
  refine ⟨⟨?_⟩, ⟨?_⟩, ?_⟩
  · have := ax p.x
    omega
  · have := ax p.y
    omega
  · have := (bb2.of_le (ab_nonneg p.a) (by omega)).le (show n + n + 1 ≤ 2 * n + 20 by omega)
    exact ⟨by rw [← ax]; exact this.lt⟩
end DL
set_option maxRecDepth 100000
set_option maxHeartbeats 4000000
set_option exponentiation.threshold 4000
namespace W_k13
open DL ST
abbrev plS (p : Sp) : D := plc p.x p.y p.a
theorem Sz.pb {n : Nat} {p : Sp} (h : Sz n p) (hn : n ≤ 590) : PB p.x p.y p.a := ⟨h.x.le (by omega), h.y.le (by omega), h.a.le (by omega)⟩
/-! ### walks parted -/
/-! ### products, ways back, distances -/
theorem sp_eq (p q : Sp) : (p.x = q.x ∧ p.y = q.y ∧ p.a = q.a) ↔ p = q := by
  cases p; cases q
  simp
/-! ### what is refused -/
abbrev badP (o : D) : Xc := ⟨"BadPlace", [([118, 97, 108, 117, 101], o)]⟩
abbrev badN (o : D) : Xc := ⟨"BadNumber", [([118, 97, 108, 117, 101], o)]⟩
theorem need_odd {o : D} (h : bIsi ["Place"] [o, .cls "Place"] = some (.bl false)) (S : List Cell) : g_need_place [o] S = .exc (badP o) S := by
  simp [g_need_place, b_need_place, fnD, h]
end W_k13
namespace ST
/-! ### letters that lead nearer -/
abbrev four : List Nat := [101, 110, 119, 115]
noncomputable def nr (p : Sp) : List Nat := four.filter fun c => decide (st (gone p c 1) < st p)
theorem four_isL {c : Nat} (h : c ∈ four) : isL c := by
  simp only [four, List.mem_cons, List.not_mem_nil, or_false] at h
  exact h
theorem isL_four {c : Nat} (h : isL c) : c ∈ four := by
  rcases h with rfl | rfl | rfl | rfl <;> simp [four]
theorem mem_nr {p : Sp} {c : Nat} : c ∈ nr p ↔ isL c ∧ st (gone p c 1) < st p := by
  unfold nr
  rw [List.mem_filter, decide_eq_true_eq]
  exact ⟨fun h => ⟨four_isL h.1, h.2⟩, fun h => ⟨isL_four h.1, h.2⟩⟩
/-- the step of a letter as a place -/
def stepP (c : Nat) : Sp := gone home c 1
theorem gone_mul (p : Sp) (c : Nat) (t : Int) : gone p c t = mul p (gone home c t) := by
  rw [← mul_gone, mul_home]
theorem nr_home : nr home = [] := by
  unfold nr
  rw [List.filter_eq_nil_iff]
  intro c _
  rw [decide_eq_true_eq]
  have h1 : st home = 0 := st_home
  have h2 : 0 ≤ st (gone home c 1) := stp_nonneg ..
  omega
theorem nr_ne {p : Sp} (h : p ≠ home) : nr p ≠ [] := by
  obtain ⟨x, y, a⟩ := p
  have h0 : ¬ (x = 0 ∧ y = 0 ∧ a = 0) := fun ⟨h1, h2, h3⟩ => h (by subst h1 h2 h3; rfl)
  obtain ⟨x', y', a', hs, hd⟩ := stp_dec h0
  have key : ∀ c, isL c → gone ⟨x, y, a⟩ c 1 = ⟨x', y', a'⟩ → nr ⟨x, y, a⟩ ≠ [] := fun c hc e z => by
    have : c ∈ nr ⟨x, y, a⟩ := mem_nr.mpr ⟨hc, by rw [e]; show stp x' y' a' < stp x y a; omega⟩
    rw [z] at this
    cases this
  rcases hs with ⟨rfl, rfl, rfl⟩ | ⟨rfl, rfl, rfl⟩ | ⟨rfl, rfl, rfl⟩ | ⟨rfl, rfl, rfl⟩
  · exact key 101 (by simp [isL]) (by simp [gone])
  · exact key 119 (by simp [isL]) (by simp [gone]; try omega)
  · exact key 110 (by simp [isL]) (by simp [gone])
  · exact key 115 (by simp [isL]) (by simp [gone]; try omega)
theorem nr_nil {p : Sp} : nr p = [] ↔ p = home := ⟨fun h => by
  by_cases c : p = home
  · exact c
  · exact absurd h (nr_ne c), fun h => h ▸ nr_home⟩
theorem st_nr {p : Sp} {c : Nat} (h : c ∈ nr p) : st (gone p c 1) = st p - 1 := by
  obtain ⟨h1, h2⟩ := mem_nr.mp h
  have := st_gone1 (p := p) h1
  omega
/-- the letters with which a least walk can begin -/
theorem first_eq (p : Sp) {c : Nat} (hc : isL c) : (st (mul (inv (stepP c)) p) < st p) ↔ c ∈ nr (inv p) := by
  rw [mem_nr, st_inv, gone_mul, ← st_inv (mul (inv p) _), inv_of_mul, inv_inv]
  exact ⟨fun h => ⟨hc, h⟩, fun h => h.2⟩
theorem first_in {r : Runs} {p : Sp} {c : Nat} {t : Int} (g : Good ((c, t) :: r)) (ht : 1 ≤ t) (to : led home ((c, t) :: r) = p) (hl : len ((c, t) :: r) = st p) : c ∈ nr (inv p) := by
  have hc := g.head.1
  rw [← first_eq p hc]
  have e : led home ((c, t) :: r) = mul (stepP c) (led home ((c, t - 1) :: r)) := by
    show led (gone home c t) r = mul (stepP c) (led (gone home c (t - 1)) r)
    rw [← mul_led, ← mul_gone, mul_home]
    unfold stepP
    rw [gone_add, show 1 + (t - 1) = t by omega]
  rw [← to, e, ← mul_assoc, inv_mul, home_mul]
  have g2 : Good ((c, t - 1) :: r) := fun q hq => by
    rcases List.mem_cons.mp hq with rfl | hq
    · exact ⟨hc, by show 0 ≤ t - 1; omega⟩
    · exact g.tail q hq
  have h1 := st_le_len g2
  rw [← e, to, ← hl]
  have h2 : len ((c, t - 1) :: r) = t - 1 + len r := rfl
  have h3 : len ((c, t) :: r) = t + len r := rfl
  omega
/-- the letter turned about -/
def about (c : Nat) : Nat := if c = 101 then 119 else if c = 119 then 101 else if c = 110 then 115 else 110
theorem isL_about {c : Nat} (h : isL c) : isL (about c) := by
  rcases h with rfl | rfl | rfl | rfl <;> simp [about, isL]
theorem about_back {c : Nat} (h : isL c) (p : Sp) (t : Int) : gone (gone p c t) (about c) 1 = gone p c (t - 1) := by
  rcases h with rfl | rfl | rfl | rfl <;> simp [about, gone] <;> grind
theorem last_in {r : Runs} {p : Sp} {c : Nat} {t : Int} (g : Good (r ++ [(c, t)])) (ht : 1 ≤ t) (to : led home (r ++ [(c, t)]) = p) (hl : len (r ++ [(c, t)]) = st p) : about c ∈ nr p := by
  have hc := (g (c, t) (by simp)).1
  refine mem_nr.mpr ⟨isL_about hc, ?_⟩
  have e1 : led home (r ++ [(c, t)]) = gone (led home r) c t := by rw [led_app]; rfl
  rw [← to] at *
  rw [e1, about_back hc]
  rw [← e1, ← hl]
  have gr : Good r := fun q hq => g q (by simp [hq])
  have g2 : Good (r ++ [(c, t - 1)]) := gr.app fun q hq => by
    rcases List.mem_singleton.mp hq with rfl
    exact ⟨hc, by show 0 ≤ t - 1; omega⟩
  have h1 := st_le_len g2
  rw [led_app, len_app] at h1
  rw [len_app]
  have h2 : len [(c, t - 1)] = t - 1 + 0 := rfl
  have h3 : len [(c, t)] = t + 0 := rfl
  have h4 : led (led home r) [(c, t - 1)] = gone (led home r) c (t - 1) := rfl
  rw [h4] at h1
  show st (gone (led home r) c (t - 1)) < _
  omega
/-! ### summits -/
theorem nr_all {p : Sp} (h : ∀ c, isL c → st (gone p c 1) < st p) : nr p = four := by
  unfold nr
  rw [List.filter_eq_self]
  intro c hc
  exact decide_eq_true (h c (four_isL hc))
theorem nr_len4 (p : Sp) : (nr p).length = 4 ↔ ∀ c, isL c → st (gone p c 1) < st p := by
  constructor
  · intro h c hc
    have : nr p = four := List.Sublist.eq_of_length List.filter_sublist h
    have hm : c ∈ nr p := this ▸ isL_four hc
    exact (mem_nr.mp hm).2
  · intro h
    rw [nr_all h]; rfl
theorem box_st {x y a p q : Int} (h1 : ab x ≤ p) (h2 : ab y ≤ q) (h3 : gnd x y a ≤ p * q) : stp x y a ≤ 2 * (p + q) - ab x - ab y := stp_le ⟨h1, h2, h3⟩
theorem gnd_x0 (y a : Int) : gnd 0 y a = ab a := by
  unfold gnd
  rw [Int.zero_mul, Int.fdiv_eq_ediv_of_nonneg _ (by decide)]
  unfold ab
  split <;> split <;> split <;> omega
theorem summit_near {a p q : Int} (hp : 1 ≤ p) (hq : 1 ≤ q) (ha : ab a ≤ p * q) (hs : stp 0 0 a = 2 * (p + q)) : ∀ c, isL c → st (gone ⟨0, 0, a⟩ c 1) < st ⟨0, 0, a⟩ := fun c hc => by
  have e : st ⟨0, 0, a⟩ = 2 * (p + q) := hs
  have a1 : ab 1 = 1 := by decide
  have a2 : ab (-1) = 1 := by decide
  have a0 : ab 0 = 0 := by decide
  rw [e]
  rcases hc with rfl | rfl | rfl | rfl
  · have := box_st (x := 1) (y := 0) (a := a) (p := p) (q := q) (by omega) (by omega) (by rw [gnd0]; exact ha)
    exact Int.lt_of_le_of_lt (show stp (0 + 1) 0 a ≤ _ from this) (by omega)
  · have := box_st (x := 0) (y := 1) (a := a + 0 * 1) (p := p) (q := q) (by omega) (by omega) (by rw [gnd_x0]; simpa using ha)
    exact Int.lt_of_le_of_lt (show stp 0 (0 + 1) (a + 0 * 1) ≤ _ from this) (by omega)
  · have := box_st (x := -1) (y := 0) (a := a) (p := p) (q := q) (by omega) (by omega) (by rw [gnd0]; exact ha)
    exact Int.lt_of_le_of_lt (show stp (0 - 1) 0 a ≤ _ from this) (by omega)
  · have := box_st (x := 0) (y := -1) (a := a - 0 * 1) (p := p) (q := q) (by omega) (by omega) (by rw [gnd_x0]; simpa using ha)
    exact Int.lt_of_le_of_lt (show stp 0 (0 - 1) (a - 0 * 1) ≤ _ from this) (by omega)
theorem summit_sq {s : Int} (hs : 1 ≤ s) : (nr ⟨0, 0, s * s⟩).length = 4 := by
  have h := (closed_sq hs (.inl rfl) (m := 0)).1
  rw [Int.add_zero] at h
  refine (nr_len4 _).mpr (summit_near hs hs ?_ (by omega))
  have := Int.mul_pos (show 0 < s by omega) (show 0 < s by omega)
  rw [ab_of (by omega)]
  omega
theorem summit_ob {s : Int} (hs : 1 ≤ s) : (nr ⟨0, 0, -(s * (s + 1))⟩).length = 4 := by
  have h := (closed_sq hs (.inr rfl) (m := 1)).1
  have e := stp_mx 0 0 (s * (s + 1))
  rw [show (-0 : Int) = 0 from rfl] at e
  have := Int.mul_pos (show 0 < s by omega) (show 0 < s + 1 by omega)
  refine (nr_len4 _).mpr (summit_near (p := s) (q := s + 1) hs (by omega) ?_ (by omega))
  rw [ab_neg, ab_of (by omega)]
  omega
theorem no_summit {s : Int} (hs : 1 ≤ s) : ¬ (nr ⟨s, s, 0⟩).length = 4 := fun h => by
  have h1 := (nr_len4 _).mp h 101 (by simp [isL])
  have h2 := (closed_ob hs (Int.le_refl s)).2.1
  have h3 : st (gone ⟨s, s, 0⟩ 101 1) = stp (s + 1) s 0 := rfl
  have h4 : st ⟨s, s, 0⟩ = stp s s 0 := rfl
  have h5 := stp_ge (s + 1) s 0
  rw [ab_of (by omega), ab_of (by omega)] at h5
  omega
theorem nr_east {s : Int} (hs : 1 ≤ s) : nr ⟨s, 0, 0⟩ = [119] := by
  have a0 : ab 0 = 0 := by decide
  have a1 : ab 1 = 1 := by decide
  have a2 : ab (-1) = 1 := by decide
  have g : ∀ z : Int, gnd z 0 0 = 0 := fun z => by rw [gnd0]; decide
  have st0 : ∀ z : Int, 0 ≤ z → stp z 0 0 = z := fun z hz => by
    have h1 := box_st (x := z) (y := 0) (a := 0) (p := z) (q := 0) (by rw [ab_of hz]; omega) (by omega) (by rw [g]; omega)
    have h2 := stp_ge z 0 0
    rw [ab_of hz, a0] at h1 h2
    omega
  have e0 : st ⟨s, 0, 0⟩ = s := st0 s (by omega)
  have e1 : st (gone ⟨s, 0, 0⟩ 101 1) = s + 1 := st0 (s + 1) (by omega)
  have e3 : st (gone ⟨s, 0, 0⟩ 119 1) = s - 1 := st0 (s - 1) (by omega)
  have e2 : s + 1 ≤ st (gone ⟨s, 0, 0⟩ 110 1) := by
    have := stp_ge s (0 + 1) (0 + s * 1)
    rw [ab_of (by omega)] at this
    have a1' : ab (0 + 1) = 1 := by decide
    show s + 1 ≤ stp s (0 + 1) (0 + s * 1)
    omega
  have e4 : s + 1 ≤ st (gone ⟨s, 0, 0⟩ 115 1) := by
    have := stp_ge s (0 - 1) (0 - s * 1)
    rw [ab_of (by omega)] at this
    have a1' : ab (0 - 1) = 1 := by decide
    show s + 1 ≤ stp s (0 - 1) (0 - s * 1)
    omega
  have d1 : decide (st (gone ⟨s, 0, 0⟩ 101 1) < st ⟨s, 0, 0⟩) = false := decide_eq_false (by omega)
  have d2 : decide (st (gone ⟨s, 0, 0⟩ 110 1) < st ⟨s, 0, 0⟩) = false := decide_eq_false (by omega)
  have d3 : decide (st (gone ⟨s, 0, 0⟩ 119 1) < st ⟨s, 0, 0⟩) = true := decide_eq_true (by omega)
  have d4 : decide (st (gone ⟨s, 0, 0⟩ 115 1) < st ⟨s, 0, 0⟩) = false := decide_eq_false (by omega)
  unfold nr
  rw [List.filter_cons_of_neg (by rw [d1]; decide), List.filter_cons_of_neg (by rw [d2]; decide), List.filter_cons_of_pos (by rw [d3]), List.filter_cons_of_neg (by rw [d4]; decide)]
  rfl
end ST
namespace ST
/-! ### walks of just so many steps -/
theorem abs_e (x : Int) : ab x = (x.natAbs : Int) := by unfold ab; split <;> omega
theorem ab_prod (x y : Int) : ab (x * y) = ab x * ab y := by rw [abs_e, abs_e, abs_e, Int.natAbs_mul]; simp
theorem lim_sum {x y n lo hi : Int} (h : lim x y n = some (lo, hi)) : lo + hi = x * y ∧ lo ≤ hi ∧ (n ≤ 7 → hi - lo ≤ 30) := by
  unfold lim at h
  have h3 := ab_nonneg x
  have h4 := ab_nonneg y
  rw [Int.fmod_eq_emod_of_nonneg _ (by decide), Int.fdiv_eq_ediv_of_nonneg _ (by decide)] at h
  split at h
  · cases h
  · rename_i c
    have hk : 0 ≤ (n - ab x - ab y) / 2 := by omega
    obtain ⟨q1, q2, q3⟩ := bs_ok h3 h4 hk
    have hs : (bs (ab x) (ab y) ((n - ab x - ab y) / 2)).1 + (bs (ab x) (ab y) ((n - ab x - ab y) / 2)).2 ≤ n := by omega
    generalize (bs (ab x) (ab y) ((n - ab x - ab y) / 2)).1 = W at *
    generalize (bs (ab x) (ab y) ((n - ab x - ab y) / 2)).2 = H at *
    have m : ab (x * y) ≤ W * H := by
      have e : ab (x * y) = ab x * ab y := ab_prod x y
      rw [e]
      exact Int.mul_le_mul q1 q2 h4 (by omega)
    have s4 := sq4 W H
    have n7 : n ≤ 7 → W * H ≤ 12 := fun h7 => by
      have a0 : 0 ≤ W + H := by omega
      have : (W + H) * (W + H) ≤ 7 * 7 := Int.mul_le_mul (by omega) (by omega) a0 (by decide)
      omega
    unfold loA hiA at h
    simp only [Option.some.injEq, Prod.mk.injEq] at h
    obtain ⟨h5, h6⟩ := h
    generalize W * H = P at *
    generalize x * y = Z at *
    unfold ab at *
    rw [Int.fdiv_eq_ediv_of_nonneg _ (by decide)] at h5 h6
    split at m <;> (refine ⟨by omega, by omega, fun h7 => ?_⟩; have := n7 h7; omega)
theorem lim_non {x y n : Int} : lim x y n = none ↔ n < ab x + ab y ∨ (n - x - y) % 2 = 1 := by
  unfold lim
  have h3 := ab_par x
  have h4 := ab_par y
  rw [Int.fmod_eq_emod_of_nonneg _ (by decide)]
  by_cases c : n - ab x - ab y < 0 ∨ (n - ab x - ab y) % 2 = 1
  · rw [if_pos c]
    simp only [true_iff]
    rcases c with c | c
    · left; omega
    · right; omega
  · rw [if_neg c]
    simp only [reduceCtorEq, false_iff]
    omega
theorem told_iff (x y a n : Int) : (stp x y a ≤ n ∧ (n - stp x y a) % 2 = 0) ↔ ∃ lo hi, lim x y n = some (lo, hi) ∧ lo ≤ a ∧ a ≤ hi := by
  cases h : lim x y n with
  | none => exact ⟨fun k => absurd k (lim_none a h), fun ⟨_, _, z, _⟩ => by cases z⟩
  | some p =>
    obtain ⟨lo, hi⟩ := p
    obtain ⟨_, h1, h2⟩ := lim_some a h
    exact ⟨fun k => ⟨lo, hi, rfl, h1.mpr k.1⟩, fun ⟨l, u, e, k⟩ => by cases e; exact ⟨h1.mp k, h2⟩⟩
def Rch (n : Int) (p : Sp) : Prop := st p ≤ n ∧ (n - st p) % 2 = 0
theorem rch_0 {p : Sp} : Rch 0 p ↔ p = home := by
  have n : 0 ≤ st p := stp_nonneg ..
  constructor
  · intro ⟨h, _⟩
    exact st_zero (by omega)
  · intro h
    subst h
    have := st_home
    exact ⟨by omega, by omega⟩
theorem rch_step {n : Int} (hn : 0 ≤ n) {q : Sp} : Rch (n + 1) q ↔ ∃ p c, isL c ∧ Rch n p ∧ gone p c 1 = q := by
  constructor
  · intro ⟨h1, h2⟩
    have back : ∀ c, isL c → gone (gone q c 1) (about c) 1 = q := fun c hc => by
      rw [about_back hc, show (1 : Int) - 1 = 0 by omega, gone_zero]
    by_cases c : st q = n + 1
    · have h0 : q ≠ home := fun e => by rw [e, st_home] at c; omega
      obtain ⟨d, hd⟩ := List.exists_mem_of_ne_nil _ (nr_ne h0)
      have e := st_nr hd
      have hL := (mem_nr.mp hd).1
      exact ⟨gone q d 1, about d, isL_about hL, ⟨by omega, by omega⟩, back d hL⟩
    · have hL : isL 101 := .inl rfl
      have t := st_gone1 (p := q) hL
      refine ⟨gone q 101 1, about 101, isL_about hL, ⟨?_, ?_⟩, back _ hL⟩
      · rcases t with t | t <;> omega
      · rcases t with t | t <;> omega
  · rintro ⟨p, c, hc, ⟨h1, h2⟩, rfl⟩
    have t := st_gone1 (p := p) hc
    exact ⟨by omega, by omega⟩
end ST
set_option maxRecDepth 100000
set_option maxHeartbeats 4000000
set_option exponentiation.threshold 4000
namespace W_k13
open DL ST
/-! ### where walks of just so many steps lead -/
abbrev trS (p : Sp) : D := tr p.x p.y p.a
abbrev stD (c : Nat) : D := .str [c]
def keyS (p : Sp) : List DK := [.i p.x, .i p.y, .i p.a]
def kvT (p : Sp) : List DK × D := (keyS p, .bl true)
theorem keyS_inj {p q : Sp} (h : keyS p = keyS q) : p = q := by
  obtain ⟨x, y, a⟩ := p
  obtain ⟨x', y', a'⟩ := q
  simp only [keyS, List.cons.injEq, DK.i.injEq, and_true] at h
  obtain ⟨rfl, rfl, rfl⟩ := h
  rfl
theorem tk_tr (p : Sp) : tkOf (trS p) = some (keyS p) := rfl
theorem put_in {L : List Sp} {p : Sp} (h : p ∈ L) : tPut (L.map kvT) (keyS p) (.bl true) = L.map kvT := by
  induction L with
  | nil => cases h
  | cons q L ih =>
    rw [List.map_cons]
    unfold tPut
    by_cases c : q = p
    · subst c
      exact if_pos rfl
    · rw [if_neg (show ¬ (kvT q).1 = keyS p from fun z => c (keyS_inj z))]
      rcases List.mem_cons.mp h with rfl | h
      · exact absurd rfl c
      · rw [ih h]
theorem put_out {L : List Sp} {p : Sp} (h : p ∉ L) : tPut (L.map kvT) (keyS p) (.bl true) = (L ++ [p]).map kvT := by
  rw [tPut_new, List.map_append]; rfl
  rw [tLook_none, List.map_map]
  intro z
  obtain ⟨q, hq, e⟩ := List.mem_map.mp z
  have : q = p := keyS_inj e
  subst this
  exact h hq
theorem gone_q {p : Sp} {c : Nat} (hc : isL c) {n : Nat} (h : Sz n p) (hn : n < 4000) (S : List Cell) : g__law_gone [trS p, .str [c], .int 1] S = .ok (trS (gone p c 1)) S := by
  have m : mulOk p.x 1 = true := mulOk_of h.x (show Bd (1 : Int) 1 from ⟨by decide⟩) (by omega)
  rcases hc with rfl | rfl | rfl | rfl
  · simp [g__law_gone, b__law_gone, fnD, gone, m]
  · simp [g__law_gone, b__law_gone, fnD, gone, m]
  · simp [g__law_gone, b__law_gone, fnD, gone, m]; try omega
  · simp [g__law_gone, b__law_gone, fnD, gone, m]
abbrev sE (x0 x1 x2 x3 x4 x5 x6 x7 x8 x9 : Sl) (S : List Cell) : DS := ⟨[x0, x1, x2, x3, x4, x5, x6, x7, x8, x9], S⟩
theorem ex_cons {α : Type} {P : α → Prop} {d : α} {cs : List α} : (∃ c, c ∈ d :: cs ∧ P c) ↔ P d ∨ ∃ c, c ∈ cs ∧ P c := by
  constructor
  · rintro ⟨c, hc, h⟩
    rcases List.mem_cons.mp hc with rfl | hc
    · exact .inl h
    · exact .inr ⟨c, hc, h⟩
  · rintro (h | ⟨c, hc, h⟩)
    · exact ⟨d, List.mem_cons_self, h⟩
    · exact ⟨c, List.mem_cons_of_mem _ hc, h⟩
theorem ends_w {L : List Sp} (hl : L.length < 999999) {p : Sp} {c : Nat} (hc : isL c) (sz : Sz 4 p) (x0 x1 x2 x6 x7 x8 x9 : Sl) (S : List Cell) :
    ∃ L' : List Sp, w__law_ends_0 (sE x0 x1 x2 (.ot (L.map kvT)) (.val (trS p)) (.val (stD c)) x6 x7 x8 x9 S) = .ok .nx (sE x0 x1 x2 (.ot (L'.map kvT)) (.val (trS p)) (.val (stD c)) x6 x7 x8 x9 S) ∧ (∀ q, q ∈ L' ↔ q ∈ L ∨ q = gone p c 1) ∧ L'.length ≤ L.length + 1 ∧ (L.Nodup → L'.Nodup) := by
  have g := gone_q hc sz (by decide) S
  have c1 := call_x3 (a := eVar 4) (b := eVar 5) (c := eC (.int 1)) (s := sE x0 x1 x2 (.ot (L.map kvT)) (.val (trS p)) (.val (stD c)) x6 x7 x8 x9 S) (s1 := sE x0 x1 x2 (.ot (L.map kvT)) (.val (trS p)) (.val (stD c)) x6 x7 x8 x9 S) (s2 := sE x0 x1 x2 (.ot (L.map kvT)) (.val (trS p)) (.val (stD c)) x6 x7 x8 x9 S) (s3 := sE x0 x1 x2 (.ot (L.map kvT)) (.val (trS p)) (.val (stD c)) x6 x7 x8 x9 S) rfl rfl rfl g
  generalize gone p c 1 = q at c1 ⊢
  have p1 := tput_e (i := 3) (fv := eC (.bl true)) (v := .bl true) (s := sE x0 x1 x2 (.ot (L.map kvT)) (.val (trS p)) (.val (stD c)) x6 x7 x8 x9 S) (kv0 := L.map kvT) (kvs := L.map kvT) rfl rfl c1 rfl (tk_tr q) (by rw [List.length_map]; omega)
  by_cases hq : q ∈ L
  · rw [put_in hq] at p1
    exact ⟨L, p1, fun z => ⟨.inl, fun h => h.elim id fun e => by rw [e]; exact hq⟩, by omega, id⟩
  · rw [put_out hq] at p1
    refine ⟨L ++ [q], p1, fun z => by simp, by simp, fun nd => ?_⟩
    rw [List.nodup_append]
    exact ⟨nd, by simp, fun a ha b hb e => by rw [List.mem_singleton] at hb; subst hb; subst e; exact hq ha⟩
theorem ends_l (x0 x1 x2 x6 x7 x8 x9 : Sl) (S : List Cell) {p : Sp} (sz : Sz 4 p) : ∀ (cs : List Nat) (L : List Sp) (x5 : Sl), (∀ c ∈ cs, isL c) → L.length + cs.length < 999999 →
    ∃ (L' : List Sp) (y5 : Sl), forL (gN 5) w__law_ends_0 (cs.map stD) (sE x0 x1 x2 (.ot (L.map kvT)) (.val (trS p)) x5 x6 x7 x8 x9 S) = .ok .nx (sE x0 x1 x2 (.ot (L'.map kvT)) (.val (trS p)) y5 x6 x7 x8 x9 S) ∧ (∀ q, q ∈ L' ↔ q ∈ L ∨ ∃ c ∈ cs, q = gone p c 1) ∧ L'.length ≤ L.length + cs.length ∧ (L.Nodup → L'.Nodup)
  | [], L, x5, _, _ => ⟨L, x5, rfl, fun q => by simp, by omega, id⟩
  | c :: cs, L, x5, hc, hl => by
    simp only [List.length_cons] at hl
    obtain ⟨L1, e1, m1, l1, d1⟩ := ends_w (by omega) (hc c List.mem_cons_self) sz x0 x1 x2 x6 x7 x8 x9 S (L := L)
    obtain ⟨L2, y5, e2, m2, l2, d2⟩ := ends_l x0 x1 x2 x6 x7 x8 x9 S sz cs L1 (.val (stD c)) (fun d hd => hc d (List.mem_cons_of_mem _ hd)) (by omega)
    refine ⟨L2, y5, (for_1 (i := 5) (b := w__law_ends_0) (s := sE x0 x1 x2 (.ot (L.map kvT)) (.val (trS p)) x5 x6 x7 x8 x9 S) e1).trans e2, fun q => ?_, by simp only [List.length_cons]; omega, fun n => d2 (d1 n)⟩
    rw [m2, m1, ex_cons]
    exact ⟨fun h => h.elim (fun h => h.elim .inl fun h => .inr (.inl h)) fun h => .inr (.inr h), fun h => h.elim (fun h => .inl (.inl h)) fun h => h.elim (fun h => .inl (.inr h)) .inr⟩
theorem ends_p (x0 x1 x2 x6 x7 x8 x9 : Sl) (S : List Cell) : ∀ (ps L : List Sp) (x4 x5 : Sl), (∀ p ∈ ps, Sz 4 p) → L.length + 4 * ps.length < 999999 →
    ∃ (L' : List Sp) (y4 y5 : Sl), forL (gN 4) w__law_ends_1 (ps.map trS) (sE x0 x1 x2 (.ot (L.map kvT)) x4 x5 x6 x7 x8 x9 S) = .ok .nx (sE x0 x1 x2 (.ot (L'.map kvT)) y4 y5 x6 x7 x8 x9 S) ∧ (∀ q, q ∈ L' ↔ q ∈ L ∨ ∃ p ∈ ps, ∃ c, isL c ∧ q = gone p c 1) ∧ L'.length ≤ L.length + 4 * ps.length ∧ (L.Nodup → L'.Nodup)
  | [], L, x4, x5, _, _ => ⟨L, x4, x5, rfl, fun q => by simp, by omega, id⟩
  | p :: ps, L, x4, x5, hc, hl => by
    simp only [List.length_cons] at hl
    obtain ⟨L1, z5, e1, m1, l1, d1⟩ := ends_l x0 x1 x2 x6 x7 x8 x9 S (hc p List.mem_cons_self) [101, 110, 119, 115] L x5 (fun c hc => four_isL hc) (by simp only [List.length_cons, List.length_nil]; omega)
    simp only [List.length_cons, List.length_nil] at l1
    have w : w__law_ends_1 (sE x0 x1 x2 (.ot (L.map kvT)) (.val (trS p)) x5 x6 x7 x8 x9 S) = .ok .nx (sE x0 x1 x2 (.ot (L1.map kvT)) (.val (trS p)) z5 x6 x7 x8 x9 S) := for_it (it := itSeq (eC (.str [101, 110, 119, 115]))) rfl e1
    obtain ⟨L2, y4, y5, e2, m2, l2, d2⟩ := ends_p x0 x1 x2 x6 x7 x8 x9 S ps L1 (.val (trS p)) z5 (fun d hd => hc d (List.mem_cons_of_mem _ hd)) (by omega)
    refine ⟨L2, y4, y5, (for_1 (i := 4) (b := w__law_ends_1) (s := sE x0 x1 x2 (.ot (L.map kvT)) x4 x5 x6 x7 x8 x9 S) w).trans e2, fun q => ?_, by simp only [List.length_cons]; omega, fun n => d2 (d1 n)⟩
    have k : (∃ c ∈ ([101, 110, 119, 115] : List Nat), q = gone p c 1) ↔ ∃ c, isL c ∧ q = gone p c 1 := ⟨fun ⟨c, h, e⟩ => ⟨c, four_isL h, e⟩, fun ⟨c, h, e⟩ => ⟨c, isL_four h, e⟩⟩
    rw [m2, m1, k, ex_cons]
    exact ⟨fun h => h.elim (fun h => h.elim .inl fun h => .inr (.inl h)) fun h => .inr (.inr h), fun h => h.elim (fun h => .inl (.inl h)) fun h => h.elim (fun h => .inl (.inr h)) .inr⟩
structure Rnd (n : Nat) (L : List Sp) : Prop where
  all : ∀ p, p ∈ L ↔ Rch n p
  nd : L.Nodup
  len : L.length ≤ 4 ^ n
/-- own, or given away -/
def Hold (x : Sl) (L : List Sp) : Prop := x = .ot (L.map kvT) ∨ x = .val (.dct (L.map kvT))
theorem hold_it {x1 : Sl} {L : List Sp} (h : Hold x1 L) (x0 x2 x3 x4 x5 x6 x7 x8 x9 : Sl) (S : List Cell) : itDct (eVar 1) (sE x0 x1 x2 x3 x4 x5 x6 x7 x8 x9 S) = .ok (L.map trS) (sE x0 (.val (.dct (L.map kvT))) x2 x3 x4 x5 x6 x7 x8 x9 S) := by
  have e : eVar 1 (sE x0 x1 x2 x3 x4 x5 x6 x7 x8 x9 S) = .ok (.dct (L.map kvT)) (sE x0 (.val (.dct (L.map kvT))) x2 x3 x4 x5 x6 x7 x8 x9 S) := by
    rcases h with rfl | rfl
    · exact var_t (i := 1) rfl
    · rfl
  rw [itDct_e e, List.map_map]
  rfl
theorem sz_rch {n : Nat} (hn : n ≤ 8) {p : Sp} (h : Rch n p) : Sz 4 p := Sz.of_st (by have := h.1; omega)
theorem ends_r {n : Nat} (hn : n ≤ 7) {L : List Sp} (r : Rnd n L) (x0 x1 x2 x3 x4 x5 x6 x7 x8 x9 : Sl) (hx : Hold x1 L) (S : List Cell) :
    ∃ (L' : List Sp) (y3 y4 y5 : Sl), w__law_ends_2 (sE x0 x1 x2 x3 x4 x5 x6 x7 x8 x9 S) = .ok .nx (sE x0 (.val (.dct (L'.map kvT))) x2 y3 y4 y5 x6 x7 x8 x9 S) ∧ Rnd (n + 1) L' := by
  have p4 : 4 ^ n ≤ 16384 := Nat.le_trans (Nat.pow_le_pow_right (by decide) hn) (by decide)
  have lL := r.len
  obtain ⟨L1, y4, y5, e1, m1, l1, d1⟩ := ends_p x0 (.val (.dct (L.map kvT))) x2 x6 x7 x8 x9 S L [] x4 x5 (fun p h => sz_rch (show n ≤ 8 by omega) ((r.all p).mp h)) (by simp only [List.length_nil]; omega)
  have a1 : sSetOt 3 dTNew (sE x0 x1 x2 x3 x4 x5 x6 x7 x8 x9 S) = .ok .nx (sE x0 x1 x2 (.ot ([].map kvT)) x4 x5 x6 x7 x8 x9 S) := rfl
  have a2 := for_it (g := gN 4) (b := w__law_ends_1) (hold_it hx x0 x2 (.ot ([].map kvT)) x4 x5 x6 x7 x8 x9 S) e1
  have a3 := set_e (i := 1) (var_t (i := 3) (sl := (sE x0 (.val (.dct (L.map kvT))) x2 (.ot (L1.map kvT)) y4 y5 x6 x7 x8 x9 S).sl) (S := S) rfl)
  refine ⟨L1, .val (.dct (L1.map kvT)), y4, y5, (sq_nx a1).trans ((sq_nx a2).trans a3), fun p => ?_, d1 List.nodup_nil, ?_⟩
  · rw [m1, show ((n + 1 : Nat) : Int) = (n : Int) + 1 by omega, rch_step (by omega)]
    constructor
    · rintro (h | ⟨q, hq, c, hc, e⟩)
      · cases h
      · exact ⟨q, c, hc, (r.all q).mp hq, e.symm⟩
    · rintro ⟨q, c, hc, hq, e⟩
      exact .inr ⟨q, (r.all q).mpr hq, c, hc, e.symm⟩
  · rw [Nat.pow_succ]
    simp only [List.length_nil] at l1
    omega
/-! ### areas by ends -/
abbrev k2 (x y : Int) : List DK := [.i x, .i y]
theorem look_put {l l' : List DK} {v : D} : ∀ kvs : List (List DK × D), tLook (tPut kvs l v) l' = if l = l' then some v else tLook kvs l'
  | [] => by
    unfold tPut tLook
    by_cases c : l = l'
    · rw [if_pos c, if_pos c]
    · rw [if_neg c, if_neg c]
      rfl
  | q :: r => by
    unfold tPut
    by_cases h : q.1 = l
    · rw [if_pos h]
      unfold tLook
      by_cases c : l = l'
      · rw [if_pos c, if_pos c]
      · rw [if_neg c, if_neg c, if_neg fun z => c (h.symm.trans z)]
    · rw [if_neg h]
      unfold tLook
      by_cases c : q.1 = l'
      · rw [if_pos c, if_pos c, if_neg fun z => h (c.trans z.symm)]
      · rw [if_neg c, if_neg c, look_put r]
theorem put_len (l : List DK) (v : D) : ∀ kvs : List (List DK × D), (tPut kvs l v).length ≤ kvs.length + 1
  | [] => by simp [tPut]
  | q :: r => by
    unfold tPut
    have := put_len l v r
    split
    · simp
    · simp only [List.length_cons]; omega
def pf (P : List Sp) (x y : Int) : List Int := (P.filter fun p => decide (p.x = x ∧ p.y = y)).map (·.a)
theorem pf_len (P : List Sp) (x y : Int) : (pf P x y).length ≤ P.length := by
  unfold pf
  rw [List.length_map]
  exact List.length_filter_le _ _
structure Ar (P : List Sp) (E : List (List DK × D)) : Prop where
  at_ : ∀ x y, (tLook E (k2 x y)).getD (.lst []) = .lst ((pf P x y).map D.int)
  len : E.length ≤ P.length
theorem areas_w {P : List Sp} {E : List (List DK × D)} (a : Ar P E) (hl : P.length < 100000) (p : Sp) (x0 x1 x2 x3 x4 x5 : Sl) (S : List Cell) :
    ∃ E', w__law_ends_3 (sE x0 x1 x2 x3 x4 x5 (.ot E) (.val (.int p.x)) (.val (.int p.y)) (.val (.int p.a)) S) = .ok .nx (sE x0 x1 x2 x3 x4 x5 (.ot E') (.val (.int p.x)) (.val (.int p.y)) (.val (.int p.a)) S) ∧ Ar (P ++ [p]) E' := by
  have t : eTup (aCons (eVar 7) (aCons (eVar 8) (aNil))) (sE x0 x1 x2 x3 x4 x5 (.ot E) (.val (.int p.x)) (.val (.int p.y)) (.val (.int p.a)) S) = .ok (.tup [.int p.x, .int p.y]) (sE x0 x1 x2 x3 x4 x5 (.ot E) (.val (.int p.x)) (.val (.int p.y)) (.val (.int p.a)) S) := tup_2 (a := eVar 7) (b := eVar 8) rfl rfl
  have g := tget2_e (i := 6) (fx := eFrz (aMax (aNil))) (x := .lst []) (kv0 := E) (kvs := E) (s := sE x0 x1 x2 x3 x4 x5 (.ot E) (.val (.int p.x)) (.val (.int p.y)) (.val (.int p.a)) S) (l := k2 p.x p.y) rfl t rfl rfl rfl
  rw [a.at_] at g
  have o1 : eFrz (aMax (aCons (eVar 9) (aNil))) (sE x0 x1 x2 x3 x4 x5 (.ot E) (.val (.int p.x)) (.val (.int p.y)) (.val (.int p.a)) S) = .ok (.lst [.int p.a]) (sE x0 x1 x2 x3 x4 x5 (.ot E) (.val (.int p.x)) (.val (.int p.y)) (.val (.int p.a)) S) := rfl
  have pl := pf_len P p.x p.y
  have o2 := op_2 g o1 (add_ll (by simp only [List.length_map, List.length_cons, List.length_nil]; omega))
  have w := tput_e (i := 6) (kv0 := E) (kvs := E) o2 rfl t rfl (l := k2 p.x p.y) rfl (by have := a.len; omega)
  refine ⟨_, w, fun x y => ?_, ?_⟩
  · rw [look_put]
    by_cases c : k2 p.x p.y = k2 x y
    · rw [if_pos c]
      simp only [k2, List.cons.injEq, DK.i.injEq, and_true] at c
      obtain ⟨rfl, rfl⟩ := c
      show D.lst _ = _
      unfold pf
      rw [List.filter_append, List.map_append, List.map_append]
      simp
    · rw [if_neg c, a.at_]
      have h : ¬ (p.x = x ∧ p.y = y) := fun ⟨h1, h2⟩ => c (by rw [h1, h2])
      unfold pf
      rw [List.filter_append, List.filter_cons_of_neg (by simpa using h), List.filter_nil, List.append_nil]
  · have := put_len (k2 p.x p.y) (.lst ((pf P p.x p.y).map D.int ++ [.int p.a])) E
    have := a.len
    simp only [List.length_append, List.length_cons, List.length_nil]
    omega
abbrev gAr : DG := gT 3 (gsCons (gN 7) (gsCons (gN 8) (gsCons (gN 9) (gsNil))))
theorem areas_l (x0 x1 x2 x3 x4 x5 : Sl) (S : List Cell) : ∀ (ps P : List Sp) (E : List (List DK × D)) (x7 x8 x9 : Sl), Ar P E → P.length + ps.length < 100000 →
    ∃ E' y7 y8 y9, forL gAr w__law_ends_3 (ps.map trS) (sE x0 x1 x2 x3 x4 x5 (.ot E) x7 x8 x9 S) = .ok .nx (sE x0 x1 x2 x3 x4 x5 (.ot E') y7 y8 y9 S) ∧ Ar (P ++ ps) E'
  | [], P, E, x7, x8, x9, a, _ => ⟨E, x7, x8, x9, rfl, by rw [List.append_nil]; exact a⟩
  | p :: ps, P, E, x7, x8, x9, a, hl => by
    simp only [List.length_cons] at hl
    obtain ⟨E1, e1, a1⟩ := areas_w a (by omega) p x0 x1 x2 x3 x4 x5 S
    obtain ⟨E2, y7, y8, y9, e2, a2⟩ := areas_l x0 x1 x2 x3 x4 x5 S ps (P ++ [p]) E1 (.val (.int p.x)) (.val (.int p.y)) (.val (.int p.a)) a1 (by simp only [List.length_append, List.length_cons, List.length_nil]; omega)
    rw [List.append_assoc] at a2
    refine ⟨E2, y7, y8, y9, ?_, a2⟩
    have q : forL gAr w__law_ends_3 ((p :: ps).map trS) (sE x0 x1 x2 x3 x4 x5 (.ot E) x7 x8 x9 S) = forL gAr w__law_ends_3 (ps.map trS) (sE x0 x1 x2 x3 x4 x5 (.ot E1) (.val (.int p.x)) (.val (.int p.y)) (.val (.int p.a)) S) := by
      rw [List.map_cons, r_for_cons]
      show loopOut (w__law_ends_3 (sE x0 x1 x2 x3 x4 x5 (.ot E) (.val (.int p.x)) (.val (.int p.y)) (.val (.int p.a)) S)) _ = _
      rw [e1, r_lo_nx]
    exact q.trans e2
theorem ends_q {m : Nat} (hm : m ≤ 7) (S : List Cell) : ∃ (P : List Sp) (E : List (List DK × D)), g__law_ends [.int m] S = .ok (.dct E) S ∧ (∀ p, p ∈ P ↔ Rch m p) ∧ P.Nodup ∧ Ar P E := by
  obtain ⟨s', e, L, x1, y3, y4, y5, hs, hr, hx⟩ := for_inv (g := gN 2) (b := w__law_ends_2) (items := rngL 0 m) (s := sE (.val (.int m)) (.ot ([home].map kvT)) .un .un .un .un .un .un .un .un S)
    (fun i s => ∃ (L : List Sp) (x1 y3 y4 y5 : Sl), (∃ y2 : Sl, s = sE (.val (.int m)) x1 y2 y3 y4 y5 .un .un .un .un S) ∧ Rnd i L ∧ Hold x1 L)
    ⟨[home], _, .un, .un, .un, ⟨.un, rfl⟩, ⟨fun p => by rw [List.mem_singleton]; exact rch_0.symm, by simp, by decide⟩, .inl rfl⟩ (fun i d s hd ⟨L, x1, y3, y4, y5, ⟨y2, hs⟩, hr, hx⟩ => by
      obtain ⟨hi, rfl⟩ := rngL_get hd
      subst hs
      obtain ⟨L', z3, z4, z5, e, r'⟩ := ends_r (n := i) (by omega) hr (.val (.int m)) x1 (.val (.int (0 + i))) y3 y4 y5 .un .un .un .un hx S
      exact ⟨_, _, rfl, .inl e, L', _, z3, z4, z5, ⟨_, rfl⟩, r', .inr rfl⟩)
  rw [rngL_len] at hr
  obtain ⟨y2, rfl⟩ := hs
  have p4 : 4 ^ m ≤ 16384 := Nat.le_trans (Nat.pow_le_pow_right (by decide) hm) (by decide)
  have lL := hr.len
  obtain ⟨E, y7, y8, y9, e2, a2⟩ := areas_l (.val (.int m)) (.val (.dct (L.map kvT))) y2 y3 y4 y5 S L [] [] .un .un .un ⟨fun x y => rfl, Nat.le_refl _⟩ (by simp only [List.length_nil]; omega)
  refine ⟨L, E, ?_, hr.all, hr.nd, by rw [List.nil_append] at a2; exact a2⟩
  have a1 : sSetOt 1 (dTOne (eTup (aCons (eC (.int 0)) (aCons (eC (.int 0)) (aCons (eC (.int 0)) (aNil))))) (eC (.bl true))) (sE (.val (.int m)) .un .un .un .un .un .un .un .un .un S) = .ok .nx (sE (.val (.int m)) (.ot ([home].map kvT)) .un .un .un .un .un .un .un .un S) :=
    setOt_one (i := 1) (fk := eTup (aCons (eC (.int 0)) (aCons (eC (.int 0)) (aCons (eC (.int 0)) (aNil))))) (fv := eC (.bl true)) (s := sE (.val (.int m)) .un .un .un .un .un .un .un .un .un S) (k := trS home) (v := .bl true) rfl rfl (tk_tr home)
  have it : itR1 (aCons (eVar 0) (aNil)) (sE (.val (.int m)) (.ot ([home].map kvT)) .un .un .un .un .un .un .un .un S) = .ok (rngL 0 m) (sE (.val (.int m)) (.ot ([home].map kvT)) .un .un .un .un .un .un .un .un S) := by
    rw [itR1_n (f := aCons (eVar 0) (aNil)) (n := m) rfl (by omega), rngL0]; rfl
  have a3 := for_it it e
  have a4 : sSetOt 6 dTNew (sE (.val (.int m)) x1 y2 y3 y4 y5 .un .un .un .un S) = .ok .nx (sE (.val (.int m)) x1 y2 y3 y4 y5 (.ot []) .un .un .un S) := rfl
  have a5 := for_it (g := gAr) (b := w__law_ends_3) (hold_it hx (.val (.int m)) y2 y3 y4 y5 (.ot []) .un .un .un S) e2
  have a6 := ret_e (var_t (i := 6) (sl := (sE (.val (.int m)) (.val (.dct (L.map kvT))) y2 y3 y4 y5 (.ot E) y7 y8 y9 S).sl) (S := S) rfl)
  exact fn_rt rfl ((sq_nx a1).trans ((sq_nx a3).trans ((sq_nx a4).trans ((sq_nx a5).trans a6))))
end W_k13
set_option maxRecDepth 100000
set_option maxHeartbeats 4000000
set_option exponentiation.threshold 4000
namespace W_k13
open DL ST
/-! ### the areas near -/
theorem whole_ok (n : Int) (S : List Cell) : g_is_whole [.int n, .int 0] S = .ok (.bl (decide (0 ≤ n))) S := by
  simp [g_is_whole, b_is_whole, fnD]
theorem areas_q {x y n : Int} (bx : Bd x 600) (bY : Bd y 600) (bn : Bd n 4000) (h0 : 0 ≤ n) (S : List Cell) : g_areas [.int x, .int y, .int n] S = .ok (limD (lim x y n)) S := by
  have e := areas_of_ok x y n S bx bY bn
  have w := whole_ok n S
  simp [g_areas, b_areas, w_areas_0, fnD, e, w, h0]
def Iv (lo hi : Int) : List Int := (List.range (hi - lo + 1).toNat).map fun i : Nat => lo + (i : Int)
theorem mem_iv {lo hi a : Int} : a ∈ Iv lo hi ↔ lo ≤ a ∧ a ≤ hi := by
  unfold Iv
  rw [List.mem_map]
  constructor
  · rintro ⟨i, hi, rfl⟩
    rw [List.mem_range] at hi
    omega
  · intro h
    exact ⟨(a - lo).toNat, by rw [List.mem_range]; omega, by omega⟩
theorem iv_lt (lo hi : Int) : (Iv lo hi).Pairwise (· < ·) := by
  unfold Iv
  rw [List.pairwise_map]
  exact List.Pairwise.imp (fun h => by omega) List.pairwise_lt_range
theorem iv_len (lo hi : Int) : (Iv lo hi).length = (hi - lo + 1).toNat := by unfold Iv; rw [List.length_map, List.length_range]
theorem perm_iv {A : List Int} {lo hi : Int} (nd : A.Nodup) (h : ∀ a, a ∈ A ↔ lo ≤ a ∧ a ≤ hi) : (Iv lo hi).Perm A :=
  (List.perm_ext_iff_of_nodup ((iv_lt lo hi).imp fun h => Int.ne_of_lt h) nd).mpr fun a => mem_iv.trans (h a).symm
theorem iv_D (lo hi : Int) : (Iv lo hi).map D.int = rngL lo (hi - lo + 1).toNat := by
  unfold Iv rngL
  rw [List.map_map]
  rfl
theorem pf_nd {P : List Sp} (nd : P.Nodup) (x y : Int) : (pf P x y).Nodup := by
  unfold pf
  unfold List.Nodup
  rw [List.pairwise_map]
  refine List.Pairwise.imp_of_mem (fun {p q} hp hq h => ?_) (nd.filter (fun p => decide (p.x = x ∧ p.y = y)))
  intro e
  rw [List.mem_filter, decide_eq_true_eq] at hp hq
  obtain ⟨_, h1, h2⟩ := hp
  obtain ⟨_, h3, h4⟩ := hq
  apply h
  obtain ⟨px, py, pa⟩ := p
  obtain ⟨qx, qy, qa⟩ := q
  simp only at h1 h2 h3 h4 e
  rw [h1, h2, h3, h4, e]
theorem mem_pf {P : List Sp} {n : Int} (hP : ∀ p, p ∈ P ↔ Rch n p) (x y a : Int) : a ∈ pf P x y ↔ Rch n ⟨x, y, a⟩ := by
  unfold pf
  rw [List.mem_map]
  constructor
  · rintro ⟨p, hp, rfl⟩
    rw [List.mem_filter, decide_eq_true_eq] at hp
    obtain ⟨h1, rfl, rfl⟩ := hp
    exact (hP p).mp h1
  · intro h
    exact ⟨⟨x, y, a⟩, by rw [List.mem_filter, decide_eq_true_eq]; exact ⟨(hP _).mpr h, rfl, rfl⟩, rfl⟩
theorem pl_ints (ns : List Int) : plFs (ns.map D.int) := plFs_map D.int (fun a => by simp [plF, plD, dpD]) ns
theorem eq_ll (a b : List Int) : dEq (.lst (a.map D.int)) (.lst (b.map D.int)) = some (.bl (decide (a = b))) := by
  rw [dEq_pl _ _ (pl_lst _ (pl_ints a)) (pl_lst _ (pl_ints b))]
  rw [show eqPl (.lst (a.map D.int)) (.lst (b.map D.int)) = eqPls (a.map D.int) (b.map D.int) from rfl, eqPls_map D.int (fun a b => by simp [eqPl]) a b]
theorem ne_ll (a b : List Int) : dNe (.lst (a.map D.int)) (.lst (b.map D.int)) = some (.bl (!decide (a = b))) := by
  rw [dNe_pl _ _ (pl_lst _ (pl_ints a)) (pl_lst _ (pl_ints b))]
  rw [show eqPl (.lst (a.map D.int)) (.lst (b.map D.int)) = eqPls (a.map D.int) (b.map D.int) from rfl, eqPls_map D.int (fun a b => by simp [eqPl]) a b]
theorem ne_t2 (a b : Int) : dNe (.tup [.int a, .int b]) (.tup [.int a, .int b]) = some (.bl false) := by
  rw [dNe_tt _ _ (by simp) (by simp)]
  simp [eqPl]
theorem intsOf_ints : ∀ A : List Int, intsOf (A.map D.int) = some A
  | [] => rfl
  | a :: r => by simp [intsOf, intsOf_ints r]
theorem at_last {xs : List D} {x : D} (h : xs.getLast? = some x) : L2.atI xs (-1) = some x := by
  obtain ⟨ys, rfl⟩ := List.getLast?_eq_some_iff.mp h
  exact at_neg1 ys x
theorem srt_e {A : List Int} (h : A.length < 64) : bSrt [.lst (A.map D.int)] = some (.lst ((isrt A).map D.int)) := by
  unfold bSrt
  simp only [intsOf_ints]
  exact if_pos h
abbrev sN (x0 x1 x2 x3 x4 x5 x6 x7 : Sl) (S : List Cell) : DS := ⟨[x0, x1, x2, x3, x4, x5, x6, x7], S⟩
theorem max0 (s : DS) : eFrz (aMax (aNil)) s = .ok (.lst (([] : List Int).map D.int)) s := rfl
theorem near_w {n : Nat} (hn : n ≤ 7) {P : List Sp} {E : List (List DK × D)} (hP : ∀ p, p ∈ P ↔ Rch n p) (nd : P.Nodup) (ar : Ar P E) {x y : Int} (bx : Bd x 600) (bY : Bd y 600) (x0 x5 x6 : Sl) (S : List Cell) :
    ∃ y5 y6, w__law_near_right_1 (sN x0 (.val (.int n)) (.val (.dct E)) (.val (.int x)) (.val (.int y)) x5 x6 .un S) = .ok .nx (sN x0 (.val (.int n)) (.val (.dct E)) (.val (.int x)) (.val (.int y)) y5 y6 .un S) := by
  have aq := areas_q bx bY (n := n) ⟨by have : (2 : Nat) ^ 4000 > 16 := Nat.lt_of_lt_of_le (by decide : 16 < 2 ^ 5) (Nat.pow_le_pow_right (by decide) (by decide)); omega⟩ (by omega) S
  have mA := mem_pf hP x y
  have nA := pf_nd nd x y
  have tt : ∀ x5 x6 x7 : Sl, eTup (aCons (eVar 3) (aCons (eVar 4) (aNil))) (sN x0 (.val (.int n)) (.val (.dct E)) (.val (.int x)) (.val (.int y)) x5 x6 x7 S) = .ok (.tup [.int x, .int y]) (sN x0 (.val (.int n)) (.val (.dct E)) (.val (.int x)) (.val (.int y)) x5 x6 x7 S) := fun _ _ _ => tup_2 (a := eVar 3) (b := eVar 4) rfl rfl
  have g := tget2_e (i := 2) (fx := eFrz (aMax (aNil))) (x := .lst []) (kv0 := E) (kvs := E) (l := k2 x y) rfl (tt x5 x6 .un) rfl rfl rfl
  rw [ar.at_] at g
  have lA : (pf P x y).length < 64 ∧ ((lim x y n = none ∧ pf P x y = []) ∨ ∃ lo hi, lim x y n = some (lo, hi) ∧ lo ≤ hi ∧ hi - lo ≤ 30 ∧ isrt (pf P x y) = Iv lo hi) := by
    cases h : lim x y n with
    | none =>
      have : pf P x y = [] := by
        rw [List.eq_nil_iff_forall_not_mem]
        intro a ha
        obtain ⟨lo, hi, e, _⟩ := (told_iff x y a n).mp ((mA a).mp ha)
        rw [h] at e; cases e
      rw [this]
      exact ⟨by decide, .inl ⟨rfl, rfl⟩⟩
    | some p =>
      obtain ⟨lo, hi⟩ := p
      obtain ⟨s1, s2, s3⟩ := lim_sum h
      have s3 := s3 (by omega)
      have pm := perm_iv nA fun a => (mA a).trans ((told_iff x y a n).trans ⟨fun ⟨l, u, e, k⟩ => by rw [h] at e; cases e; exact k, fun k => ⟨lo, hi, h, k⟩⟩)
      have le := pm.length_eq
      rw [iv_len] at le
      exact ⟨by omega, .inr ⟨lo, hi, rfl, s2, s3, (isrt_eq pm ((iv_lt lo hi).imp fun h => Int.le_of_lt h)).symm⟩⟩
  obtain ⟨lA, cs⟩ := lA
  generalize hA : pf P x y = A at *
  have it : itSeq (eTGet2 2 (eTup (aCons (eVar 3) (aCons (eVar 4) (aNil)))) (eFrz (aMax (aNil)))) (sN x0 (.val (.int n)) (.val (.dct E)) (.val (.int x)) (.val (.int y)) x5 x6 .un S) = .ok (A.map D.int) (sN x0 (.val (.int n)) (.val (.dct E)) (.val (.int x)) (.val (.int y)) x5 x6 .un S) := by
    rw [r_itSeq, g]; rfl
  have lc := aLc_M1 (v := 7) (e := e__law_near_right_0) D.int D.int it rfl (fun a _ => cb_1 (o := bInt) (a := eVar 7) (d := .int a) rfl rfl) (by omega)
  have s1 := set_e (i := 5) (cb_1 (frz_e lc) (srt_e lA))
  have s2 : ∀ x5 : Sl, sSet 6 (eCall 3 g_areas (aCons (eVar 3) (aCons (eVar 4) (aCons (eVar 1) (aNil))))) (sN x0 (.val (.int n)) (.val (.dct E)) (.val (.int x)) (.val (.int y)) x5 x6 .un S) = .ok .nx (sN x0 (.val (.int n)) (.val (.dct E)) (.val (.int x)) (.val (.int y)) x5 (.val (limD (lim x y n))) .un S) := fun x5 =>
    set_e (i := 6) (call_x3 (a := eVar 3) (b := eVar 4) (c := eVar 1) (s := sN x0 (.val (.int n)) (.val (.dct E)) (.val (.int x)) (.val (.int y)) x5 x6 .un S) (s1 := sN x0 (.val (.int n)) (.val (.dct E)) (.val (.int x)) (.val (.int y)) x5 x6 .un S) (s2 := sN x0 (.val (.int n)) (.val (.dct E)) (.val (.int x)) (.val (.int y)) x5 x6 .un S) (s3 := sN x0 (.val (.int n)) (.val (.dct E)) (.val (.int x)) (.val (.int y)) x5 x6 .un S) rfl rfl rfl aq)
  rcases cs with ⟨h1, h2⟩ | ⟨lo, hi, h1, h2, h3, h4⟩
  · subst h2
    rw [h1] at s2
    have s2 := s2 (.val (.lst (([] : List Int).map D.int)))
    have s1 : _ = Res.ok Out.nx (sN x0 (.val (.int n)) (.val (.dct E)) (.val (.int x)) (.val (.int y)) (.val (.lst (([] : List Int).map D.int))) x6 .un S) := s1
    have c1 := eB_of (op_2 (o := dEq) (a := eVar 5) (s := sN x0 (.val (.int n)) (.val (.dct E)) (.val (.int x)) (.val (.int y)) (.val (.lst (([] : List Int).map D.int))) (.val (limD none)) .un S) rfl (max0 _) (eq_ll [] []))
    have c2 := eB_of (op_2 (o := dNe) (a := eVar 5) (s := sN x0 (.val (.int n)) (.val (.dct E)) (.val (.int x)) (.val (.int y)) (.val (.lst (([] : List Int).map D.int))) (.val (limD none)) .un S) rfl (max0 _) (ne_ll [] []))
    have c3 := eB_of (op_2 (o := dNotN) (a := eVar 6) (b := eC .non) (d := .bl false) (s := sN x0 (.val (.int n)) (.val (.dct E)) (.val (.int x)) (.val (.int y)) (.val (.lst (([] : List Int).map D.int))) (.val (limD none)) .un S) rfl rfl rfl)
    exact ⟨_, _, (sq_nx s1).trans ((sq_nx s2).trans ((sq_nx (if_f (f := sRet (eC (.bl false))) (g := sPass) ((or_f ((and_t c1).trans c3)).trans (and_f c2)))).trans (if_f (f := sRet (eC (.bl false))) (g := sPass) (and_f c2))))⟩
  · rw [h1] at s2
    rw [h4] at s1
    have s2 := s2 (.val (.lst ((Iv lo hi).map D.int)))
    have s1 : _ = Res.ok Out.nx (sN x0 (.val (.int n)) (.val (.dct E)) (.val (.int x)) (.val (.int y)) (.val (.lst ((Iv lo hi).map D.int))) x6 .un S) := s1
    have ne : Iv lo hi ≠ [] := fun e => by
      have : lo ∈ Iv lo hi := mem_iv.mpr ⟨Int.le_refl _, h2⟩
      rw [e] at this; cases this
    have st : DS := sN x0 (.val (.int n)) (.val (.dct E)) (.val (.int x)) (.val (.int y)) (.val (.lst ((Iv lo hi).map D.int))) (.val (limD (some (lo, hi)))) .un S
    have c1 := eB_of (op_2 (o := dEq) (a := eVar 5) (s := sN x0 (.val (.int n)) (.val (.dct E)) (.val (.int x)) (.val (.int y)) (.val (.lst ((Iv lo hi).map D.int))) (.val (limD (some (lo, hi)))) .un S) rfl (max0 _) (eq_ll (Iv lo hi) []))
    have c2 := eB_of (op_2 (o := dNe) (a := eVar 5) (s := sN x0 (.val (.int n)) (.val (.dct E)) (.val (.int x)) (.val (.int y)) (.val (.lst ((Iv lo hi).map D.int))) (.val (limD (some (lo, hi)))) .un S) rfl (max0 _) (ne_ll (Iv lo hi) []))
    rw [decide_eq_false ne] at c1 c2
    have f0 : L2.atI ((Iv lo hi).map D.int) 0 = some (D.int lo) := by
      have : (Iv lo hi)[0]? = some lo := by
        unfold Iv
        rw [List.getElem?_map, List.getElem?_range (by omega)]
        simp
      exact at_map D.int (k := 0) this
    have fl : L2.atI ((Iv lo hi).map D.int) (-1) = some (D.int hi) := by
      have g : ((Iv lo hi).map D.int).getLast? = some (D.int hi) := by
        rw [List.getLast?_map]
        have : (Iv lo hi).getLast? = some hi := by
          rw [List.getLast?_eq_getElem?, iv_len]
          unfold Iv
          rw [List.getElem?_map, List.getElem?_range (by omega)]
          simp only [Option.map_some, Option.some.injEq]
          omega
        rw [this]; rfl
      exact at_last g
    have i0 := ix_e (a := eVar 5) (b := eC (.int 0)) (s := sN x0 (.val (.int n)) (.val (.dct E)) (.val (.int x)) (.val (.int y)) (.val (.lst ((Iv lo hi).map D.int))) (.val (limD (some (lo, hi)))) .un S) rfl rfl f0
    have i1 := ix_e (a := eVar 5) (b := eNeg (eC (.int 1))) (i := -1) (s := sN x0 (.val (.int n)) (.val (.dct E)) (.val (.int x)) (.val (.int y)) (.val (.lst ((Iv lo hi).map D.int))) (.val (limD (some (lo, hi)))) .un S) rfl (neg_e rfl) fl
    have c3 := eB_of (op_2 (o := dNe) (a := eVar 6) (s := sN x0 (.val (.int n)) (.val (.dct E)) (.val (.int x)) (.val (.int y)) (.val (.lst ((Iv lo hi).map D.int))) (.val (limD (some (lo, hi)))) .un S) rfl (tup_2 i0 i1) (ne_t2 lo hi))
    have p1 := op_2 (o := dAdd) (b := eC (.int 1)) (d := .int (hi + 1)) i1 rfl rfl
    have bb : -(2 ^ 62) ≤ lo ∧ lo < 2 ^ 62 ∧ -(2 ^ 62) ≤ hi + 1 ∧ hi + 1 < 2 ^ 62 ∧ (hi + 1 - lo).toNat ≤ 1000000 := by
      have hr : Rch n ⟨x, y, lo⟩ := (mA lo).mp (by
        have := (isrt_perm A).mem_iff (a := lo)
        rw [h4] at this
        exact this.mp (mem_iv.mpr ⟨Int.le_refl _, h2⟩))
      have sz : Sz 4 ⟨x, y, lo⟩ := sz_rch (by omega) hr
      have := sz.a.lt
      have h28 : (lo.natAbs : Int) < 2 ^ 28 := by have := sz.a; exact_mod_cast this.1
      omega
    have l1 := frz_e (lrg2_e i0 p1 bb)
    rw [show (hi + 1 - lo).toNat = (hi - lo + 1).toNat by omega, ← iv_D] at l1
    have c4 := eB_of (op_2 (o := dNe) (a := eVar 5) (s := sN x0 (.val (.int n)) (.val (.dct E)) (.val (.int x)) (.val (.int y)) (.val (.lst ((Iv lo hi).map D.int))) (.val (limD (some (lo, hi)))) .un S) rfl l1 (ne_ll (Iv lo hi) (Iv lo hi)))
    rw [decide_eq_true rfl] at c4
    exact ⟨_, _, (sq_nx s1).trans ((sq_nx s2).trans ((sq_nx (if_f (f := sRet (eC (.bl false))) (g := sPass) ((or_f (and_f c1)).trans ((and_t c2).trans c3)))).trans (if_f (f := sRet (eC (.bl false))) (g := sPass) ((and_t c2).trans c4))))⟩
end W_k13
set_option maxRecDepth 100000
set_option maxHeartbeats 4000000
set_option exponentiation.threshold 4000
namespace W_k13
open DL ST
/-! ### the near part, whole -/
theorem near_q {n : Nat} {S : List Cell} (hS : Pen n S) (hn : n < 1000) : ∃ S', g__law_near_right [.cell 1] S = .ok (.bl true) S' ∧ Pen (n + 1) S' := by
  obtain ⟨d, S1, e1, d0, d8, hP1⟩ := draw_ok hS (by omega) (p := 8) (by decide) (by decide)
  obtain ⟨m, rfl⟩ := Int.eq_ofNat_of_zero_le d0
  have hm : m ≤ 7 := by omega
  obtain ⟨P, E, e2, hP, nd, ar⟩ := ends_q hm S1
  have s1 := set_e (i := 1) (call_x2 (a := eVar 0) (b := eC (.int 8)) (s := sN (.val (.cell 1)) .un .un .un .un .un .un .un S) (s1 := sN (.val (.cell 1)) .un .un .un .un .un .un .un S) (s2 := sN (.val (.cell 1)) .un .un .un .un .un .un .un S) rfl rfl e1)
  have s1 : _ = Res.ok Out.nx (sN (.val (.cell 1)) (.val (.int m)) .un .un .un .un .un .un S1) := s1
  have s2 := set_e (i := 2) (call_x1 (a := eVar 1) (s := sN (.val (.cell 1)) (.val (.int m)) .un .un .un .un .un .un S1) (s1 := sN (.val (.cell 1)) (.val (.int m)) .un .un .un .un .un .un S1) rfl e2)
  have s2 : _ = Res.ok Out.nx (sN (.val (.cell 1)) (.val (.int m)) (.val (.dct E)) .un .un .un .un .un S1) := s2
  have it : ∀ x3 x4 x5 x6 : Sl, itR2 (aCons (eOp2 iSub (eNeg (eVar 1)) (eC (.int 1))) (aCons (eOp2 dAdd (eVar 1) (eC (.int 2))) (aNil))) (sN (.val (.cell 1)) (.val (.int m)) (.val (.dct E)) x3 x4 x5 x6 .un S1) = .ok (rngL (-m - 1) (2 * m + 3)) (sN (.val (.cell 1)) (.val (.int m)) (.val (.dct E)) x3 x4 x5 x6 .un S1) := fun x3 x4 x5 x6 =>
    itR2_of (i := -m - 1) (j := m + 2) rfl (by omega) (by omega)
  have bb : ∀ i : Nat, i < 2 * m + 3 → Bd (-(m : Int) - 1 + i) 600 := fun i hi => Bd.le (n := 6) ⟨by omega⟩ (by decide)
  have inner : ∀ (x : Int) (x4 x5 x6 : Sl), Bd x 600 → ∃ y4 y5 y6, w__law_near_right_2 (sN (.val (.cell 1)) (.val (.int m)) (.val (.dct E)) (.val (.int x)) x4 x5 x6 .un S1) = .ok .nx (sN (.val (.cell 1)) (.val (.int m)) (.val (.dct E)) (.val (.int x)) y4 y5 y6 .un S1) := fun x x4 x5 x6 bx => by
    obtain ⟨s', e, y4, y5, y6, hs⟩ := for_inv (g := gN 4) (b := w__law_near_right_1) (items := rngL (-m - 1) (2 * m + 3)) (s := sN (.val (.cell 1)) (.val (.int m)) (.val (.dct E)) (.val (.int x)) x4 x5 x6 .un S1)
      (fun i s => ∃ y4 y5 y6, s = sN (.val (.cell 1)) (.val (.int m)) (.val (.dct E)) (.val (.int x)) y4 y5 y6 .un S1)
      ⟨x4, x5, x6, rfl⟩ (fun i d s hd ⟨y4, y5, y6, hs⟩ => by
        obtain ⟨hi, rfl⟩ := rngL_get hd
        subst hs
        obtain ⟨z5, z6, e⟩ := near_w hm hP nd ar bx (bb i hi) (.val (.cell 1)) y5 y6 S1
        exact ⟨_, _, rfl, .inl e, _, z5, z6, rfl⟩)
    subst hs
    exact ⟨y4, y5, y6, for_it (it _ _ _ _) e⟩
  obtain ⟨s', e3, y3, y4, y5, y6, hs⟩ := for_inv (g := gN 3) (b := w__law_near_right_2) (items := rngL (-m - 1) (2 * m + 3)) (s := sN (.val (.cell 1)) (.val (.int m)) (.val (.dct E)) .un .un .un .un .un S1)
    (fun i s => ∃ y3 y4 y5 y6, s = sN (.val (.cell 1)) (.val (.int m)) (.val (.dct E)) y3 y4 y5 y6 .un S1)
    ⟨.un, .un, .un, .un, rfl⟩ (fun i d s hd ⟨y3, y4, y5, y6, hs⟩ => by
      obtain ⟨hi, rfl⟩ := rngL_get hd
      subst hs
      obtain ⟨z4, z5, z6, e⟩ := inner (-(m : Int) - 1 + i) y4 y5 y6 (bb i hi)
      exact ⟨_, _, rfl, .inl e, _, z4, z5, z6, rfl⟩)
  subst hs
  have s3 := for_it (g := gN 3) (b := w__law_near_right_2) (it .un .un .un .un) e3
  exact ⟨S1, fn_rt rfl ((sq_nx s1).trans ((sq_nx s2).trans ((sq_nx s3).trans (ret_e (f := eC (.bl true)) rfl)))), hP1⟩
/-! ### told areas -/
theorem eqb (a b : Bool) : dEq (.bl a) (.bl b) = some (.bl (a == b)) := by cases a <;> cases b <;> rfl
theorem told_q {x y a n : Int} (pb : PB x y a) (S : List Cell) : g__law_is_told [.int x, .int y, .int a, .int n, limD (lim x y n)] S = .ok (.bl true) S := by
  have st := steps_ok pb S
  have ti := told_iff x y a n
  have e2 : ∀ z : Int, z.fmod 2 = z % 2 := fun z => Int.fmod_eq_emod_of_nonneg _ (by decide)
  have ev : ∀ h : Prop, ∀ [Decidable h], dEq (.bl (decide h)) (.bl true) = some (.bl (decide h)) := fun h _ => by rw [eqb]; simp
  cases hl : lim x y n with
  | none =>
    rw [hl] at ti
    have nt : ¬ (stp x y a ≤ n ∧ (n - stp x y a) % 2 = 0) := fun h => by obtain ⟨_, _, z, _⟩ := ti.mp h; cases z
    by_cases c : stp x y a ≤ n
    · have c2 : ¬ (n - stp x y a) % 2 = 0 := fun h => nt ⟨c, h⟩
      simp [g__law_is_told, b__law_is_told, fnD, st, limD, c, e2, c2, eqb]
    · simp [g__law_is_told, b__law_is_told, fnD, st, limD, c, eqb]
  | some p =>
    obtain ⟨lo, hi⟩ := p
    rw [hl] at ti
    have ti : (stp x y a ≤ n ∧ (n - stp x y a) % 2 = 0) ↔ (lo ≤ a ∧ a ≤ hi) := ti.trans ⟨fun ⟨l, u, e, k⟩ => by cases e; exact k, fun k => ⟨lo, hi, rfl, k⟩⟩
    by_cases c : stp x y a ≤ n
    · by_cases c2 : (n - stp x y a) % 2 = 0
      · obtain ⟨h1, h2⟩ := ti.mp ⟨c, c2⟩
        simp [g__law_is_told, b__law_is_told, fnD, st, limD, c, e2, c2, h1, h2, eqb]
      · have h : ¬ (lo ≤ a ∧ a ≤ hi) := fun h => c2 (ti.mpr h).2
        by_cases h1 : lo ≤ a
        · have h2 : ¬ a ≤ hi := fun z => h ⟨h1, z⟩
          simp [g__law_is_told, b__law_is_told, fnD, st, limD, c, e2, c2, h1, h2, eqb]
        · simp [g__law_is_told, b__law_is_told, fnD, st, limD, c, e2, c2, h1, eqb]
    · have h : ¬ (lo ≤ a ∧ a ≤ hi) := fun h => c (ti.mpr h).1
      by_cases h1 : lo ≤ a
      · have h2 : ¬ a ≤ hi := fun z => h ⟨h1, z⟩
        simp [g__law_is_told, b__law_is_told, fnD, st, limD, c, h1, h2, eqb]
      · simp [g__law_is_told, b__law_is_told, fnD, st, limD, c, h1, eqb]
/-! ### refusals -/
abbrev nw (o : D) : D := .tup [.str [110, 117, 109, 98, 101, 114], o]
theorem lam_e {s : DS} {k : String} (ht : s.st[0]? = some (.tab "law")) : eLam 0 "law" k s = .ok (.lam k) s := by simp [ht]
noncomputable abbrev bsL : String → Option DE := fun n => List.lookup n [("law.0", lb_law_0), ("law.1", lb_law_1), ("law.2", lb_law_2)]
theorem ref_e {s s1 : DS} {fl b : DE} {k : String} {o : D} {sl : List Sl} (h1 : fl s = .ok (.lam k) s1) (h2 : bsL k = some b) (h3 : b ⟨s1.sl.map stripS, s1.st⟩ = .exc (badN o) ⟨sl, s1.st⟩) : eCallL 1 (fun Λ => fnD 1 (b__law_refused Λ) 1) bsL (aCons fl aNil) s = .ok (nw o) s1 := by
  have e : lamR bsL s1.sl k s1.st = .exc (badN o) s1.st := by simp [h2, h3]
  have e2 : fnD 1 (b__law_refused (lamR bsL s1.sl)) 1 [.lam k] s1.st = .ok (nw o) s1.st := by simp [-r_lamR, fnD, b__law_refused, e, hmT, List.lookup]
  simp [-r_lamR, h1, e2]
inductive Odd : D → Prop
  | non : Odd .non
  | bl : Odd (.bl true)
  | str : Odd (.str [49])
  | lst : Odd (.lst [.int 1])
theorem isint_odd {o : D} (h : Odd o) (S : List Cell) : g_is_integer [o] S = .ok (.bl false) S := by
  cases h <;> simp [g_is_integer, b_is_integer, fnD, bIsi, tyOfD, tyD, isOne, mem_ty, isTy]
theorem areas_0 {o : D} {x y : Int} (h : Odd o ∨ o = .int (-1)) (S : List Cell) : g_areas [.int x, .int y, o] S = .exc (badN o) S := by
  rcases h with h | rfl
  · have e := isint_odd h S
    simp [g_areas, b_areas, w_areas_0, fnD, g_is_whole, b_is_whole, e]
  · simp [g_areas, b_areas, w_areas_0, fnD, g_is_whole, b_is_whole]
theorem areas_1 {o a b : D} (h : Odd o) (S : List Cell) : g_areas [o, a, b] S = .exc (badN o) S := by
  have e := isint_odd h S
  simp [g_areas, b_areas, w_areas_0, fnD, e]
theorem areas_2 {o b : D} {x : Int} (h : Odd o) (S : List Cell) : g_areas [.int x, o, b] S = .exc (badN o) S := by
  have e := isint_odd h S
  simp [g_areas, b_areas, w_areas_0, fnD, e]
theorem odd_pl {o : D} (h : Odd o ∨ o = .int (-1)) : plF o := by
  rcases h with h | rfl
  · cases h <;> exact ⟨by first | decide | rfl, by first | decide | simp [dpD, dpDs]⟩
  · exact ⟨by rfl, by decide⟩
theorem ne_nw {o : D} (h : Odd o ∨ o = .int (-1)) : dNe (nw o) (nw o) = some (.bl false) := by
  have : plFs [D.str [110, 117, 109, 98, 101, 114], o] := by
    rw [plFs_cons, plFs_cons]
    exact ⟨⟨by decide, by decide⟩, odd_pl h, plFs_nil.mpr trivial⟩
  rw [dNe_tt _ _ this this, eqPls_refl _ this.1]; rfl
theorem ne_m1 {o : D} (h : Odd o) : dNe o (.int (-1)) = some (.bl true) := by
  have p := odd_pl (.inl h)
  have q : plF (.int (-1)) := odd_pl (.inr rfl)
  rw [dNe_pl _ _ p.ok q.ok]
  cases h <;> simp [eqPl]
theorem ne_mm : dNe (.int (-1)) (.int (-1)) = some (.bl false) := by simp
end W_k13
set_option maxRecDepth 100000
set_option maxHeartbeats 4000000
set_option exponentiation.threshold 4000
namespace W_k13
open DL ST
/-! ### a lap of the law -/
abbrev sL (x0 x1 x2 x3 x4 x5 x6 x7 x8 x9 x10 x11 : Sl) (S : List Cell) : DS := ⟨[x0, x1, x2, x3, x4, x5, x6, x7, x8, x9, x10, x11], S⟩
theorem max5 {a b c d e : DE} {s s1 s2 s3 s4 s5 : DS} {x y z u v : D} (ha : a s = .ok x s1) (hb : b s1 = .ok y s2) (hc : c s2 = .ok z s3) (hd : d s3 = .ok u s4) (he : e s4 = .ok v s5) : aMax (aCons a (aCons b (aCons c (aCons d (aCons e aNil))))) s = .ok [x, y, z, u, v] s5 := by
  simp [ha, hb, hc, hd, he]
theorem max4 {a b c d : DE} {s s1 s2 s3 s4 : DS} {x y z u : D} (ha : a s = .ok x s1) (hb : b s1 = .ok y s2) (hc : c s2 = .ok z s3) (hd : d s3 = .ok u s4) : aMax (aCons a (aCons b (aCons c (aCons d aNil)))) s = .ok [x, y, z, u] s4 := by
  simp [ha, hb, hc, hd]
theorem max7 {a b c d e f g : DE} {s s1 s2 s3 s4 s5 s6 s7 : DS} {x y z u v w t : D} (ha : a s = .ok x s1) (hb : b s1 = .ok y s2) (hc : c s2 = .ok z s3) (hd : d s3 = .ok u s4) (he : e s4 = .ok v s5) (hf : f s5 = .ok w s6) (hg : g s6 = .ok t s7) : aMax (aCons a (aCons b (aCons c (aCons d (aCons e (aCons f (aCons g aNil))))))) s = .ok [x, y, z, u, v, w, t] s7 := by
  simp [ha, hb, hc, hd, he, hf, hg]
theorem isn_lim (o : Option (Int × Int)) : isNonD (limD o) = o.isNone := by rcases o with _ | ⟨a, b⟩ <;> rfl
theorem bd_1 {z : Int} {n : Nat} (h : Bd z n) : Bd (z + 1) (n + 1) ∧ Bd (z - 1) (n + 1) := by
  have := h.lt
  have : (2 : Nat) ^ (n + 1) = 2 ^ n * 2 := Nat.pow_succ 2 n
  have : 1 ≤ (2 : Nat) ^ n := Nat.one_le_two_pow
  exact ⟨⟨by omega⟩, ⟨by omega⟩⟩
theorem far_part {n : Nat} {S : List Cell} (hS : Pen n S) (hn : n < 900000) (x0 x2 x3 x4 x5 x6 x7 x8 x9 x10 : Sl) (R : DStm) :
    ∃ x y a N S', PD x y a ∧ 0 ≤ N ∧ Bd N 356 ∧ Pen (n + 140) S' ∧ sSeq (sSet 3 (eCall 2 g__law_far (aCons (eVar 1) (aCons (eCall 2 g__law_pick (aCons (eVar 1) (aCons (eFrz (aMax (aCons (eC (.int 0)) (aCons (eC (.int 14)) (aCons (eC (.int 49)) (aNil)))))) (aNil)))) (aNil)))))
    (sSeq (sAsgT (eVar 3) (gT 3 (gsCons (gN 4) (gsCons (gN 5) (gsCons (gN 6) (gsNil))))))
    (sSeq (sSet 7 (eOp2 dAdd (eCall 1 g_steps (aCons (eCall 1 g__law_place (aCons (eVar 3) (aNil))) (aNil))) (eCall 2 g__law_pick (aCons (eVar 1) (aCons (eFrz (aMax (aCons (eC (.int 0)) (aCons (eC (.int 0)) (aCons (eC (.int 1)) (aCons (eNeg (eC (.int 1))) (aCons (eC (.int 2)) (aCons (eNeg (eC (.int 2))) (aCons (eCall 2 g__law_great (aCons (eVar 1) (aCons (eC (.int 50)) (aNil)))) (aNil)))))))))) (aNil))))))
    (sSeq (sSet 7 (eIf (eB (eOp2 iGe (eVar 7) (eC (.int 0)))) (eVar 7) (eC (.int 0)))) R))) (sL x0 (.val (.cell 1)) x2 x3 x4 x5 x6 x7 x8 x9 x10 .un S) = R (sL x0 (.val (.cell 1)) x2 (.val (tr x y a)) (.val (.int x)) (.val (.int y)) (.val (.int a)) (.val (.int N)) x8 x9 x10 .un S') := by
  obtain ⟨f, S1, e1, hf, P1⟩ := pick_ok (xs := [.int 0, .int 14, .int 49]) hS (by omega) (by simp) (by simp)
  obtain ⟨f, rfl, f0, f1⟩ : ∃ f', f = .int f' ∧ 0 ≤ f' ∧ f' < 52 := by
    simp only [List.mem_cons, List.not_mem_nil, or_false] at hf
    rcases hf with rfl | rfl | rfl <;> exact ⟨_, rfl, by omega, by omega⟩
  obtain ⟨x, y, a, S2, e2, pd, P2⟩ := far_ok P1 (by omega) f1 f0
  have st := steps_ok pd.b S2
  have hst : stp x y a = ST.st ⟨x, y, a⟩ := rfl
  have bs : Bd (stp x y a) 354 := Sz.st (n := 340) (p := ⟨x, y, a⟩) ⟨pd.x, pd.y, pd.a⟩
  obtain ⟨g, S3, e3, g0, gb, P3⟩ := great_ok P2 (by omega) (f := 50) (by decide) (by decide)
  obtain ⟨k, S4, e4, hk, P4⟩ := pick_ok (xs := [.int 0, .int 0, .int 1, .int (-1), .int 2, .int (-2), .int g]) P3 (by omega) (by simp) (by simp)
  have pl := place_ok x y a S2
  obtain ⟨k, rfl, kb⟩ : ∃ k', k = .int k' ∧ Bd k' 340 := by
    simp only [List.mem_cons, List.not_mem_nil, or_false] at hk
    have sm : ∀ z : Int, z.natAbs < 4 → Bd z 340 := fun z hz => Bd.le (n := 2) ⟨hz⟩ (by decide)
    rcases hk with rfl | rfl | rfl | rfl | rfl | rfl | rfl
    · exact ⟨_, rfl, sm _ (by decide)⟩
    · exact ⟨_, rfl, sm _ (by decide)⟩
    · exact ⟨_, rfl, sm _ (by decide)⟩
    · exact ⟨_, rfl, sm _ (by decide)⟩
    · exact ⟨_, rfl, sm _ (by decide)⟩
    · exact ⟨_, rfl, sm _ (by decide)⟩
    · exact ⟨_, rfl, gb⟩
  have bN : Bd (stp x y a + k) 355 := bd_plus bs (kb.le (by decide))
  have s0 : 0 ≤ stp x y a := stp_nonneg ..
  generalize stp x y a = t at *
  have c1 := call_x2 (a := eVar 1) (b := eFrz (aMax (aCons (eC (.int 0)) (aCons (eC (.int 14)) (aCons (eC (.int 49)) (aNil)))))) (s := sL x0 (.val (.cell 1)) x2 x3 x4 x5 x6 x7 x8 x9 x10 .un S) (s1 := sL x0 (.val (.cell 1)) x2 x3 x4 x5 x6 x7 x8 x9 x10 .un S) (s2 := sL x0 (.val (.cell 1)) x2 x3 x4 x5 x6 x7 x8 x9 x10 .un S) rfl rfl e1
  have s1 := set_e (i := 3) (call_x2 (a := eVar 1) (s := sL x0 (.val (.cell 1)) x2 x3 x4 x5 x6 x7 x8 x9 x10 .un S) (s1 := sL x0 (.val (.cell 1)) x2 x3 x4 x5 x6 x7 x8 x9 x10 .un S) rfl c1 e2)
  have s1 : _ = Res.ok Out.nx (sL x0 (.val (.cell 1)) x2 (.val (tr x y a)) x4 x5 x6 x7 x8 x9 x10 .un S2) := s1
  have s2 : sAsgT (eVar 3) (gT 3 (gsCons (gN 4) (gsCons (gN 5) (gsCons (gN 6) (gsNil))))) (sL x0 (.val (.cell 1)) x2 (.val (tr x y a)) x4 x5 x6 x7 x8 x9 x10 .un S2) = .ok .nx (sL x0 (.val (.cell 1)) x2 (.val (tr x y a)) (.val (.int x)) (.val (.int y)) (.val (.int a)) x7 x8 x9 x10 .un S2) := asg_t (f := eVar 3) rfl rfl
  have c3 := call_x1 (call_x1 (a := eVar 3) (s := sL x0 (.val (.cell 1)) x2 (.val (tr x y a)) (.val (.int x)) (.val (.int y)) (.val (.int a)) x7 x8 x9 x10 .un S2) (s1 := sL x0 (.val (.cell 1)) x2 (.val (tr x y a)) (.val (.int x)) (.val (.int y)) (.val (.int a)) x7 x8 x9 x10 .un S2) rfl pl) st
  have c4 := call_x2 (a := eVar 1) (b := eC (.int 50)) (s := sL x0 (.val (.cell 1)) x2 (.val (tr x y a)) (.val (.int x)) (.val (.int y)) (.val (.int a)) x7 x8 x9 x10 .un S2) (s1 := sL x0 (.val (.cell 1)) x2 (.val (tr x y a)) (.val (.int x)) (.val (.int y)) (.val (.int a)) x7 x8 x9 x10 .un S2) (s2 := sL x0 (.val (.cell 1)) x2 (.val (tr x y a)) (.val (.int x)) (.val (.int y)) (.val (.int a)) x7 x8 x9 x10 .un S2) rfl rfl e3
  have c5 := call_x2 (a := eVar 1) (s := sL x0 (.val (.cell 1)) x2 (.val (tr x y a)) (.val (.int x)) (.val (.int y)) (.val (.int a)) x7 x8 x9 x10 .un S2) (s1 := sL x0 (.val (.cell 1)) x2 (.val (tr x y a)) (.val (.int x)) (.val (.int y)) (.val (.int a)) x7 x8 x9 x10 .un S2) rfl (frz_e (max7 (a := eC (.int 0)) (b := eC (.int 0)) (c := eC (.int 1)) (d := eNeg (eC (.int 1))) (e := eC (.int 2)) (f := eNeg (eC (.int 2))) rfl rfl rfl rfl rfl rfl c4)) e4
  have s3 := set_e (i := 7) (op_2 (o := dAdd) (d := .int (t + k)) c3 c5 rfl)
  have s3 : _ = Res.ok Out.nx (sL x0 (.val (.cell 1)) x2 (.val (tr x y a)) (.val (.int x)) (.val (.int y)) (.val (.int a)) (.val (.int (t + k))) x8 x9 x10 .un S4) := s3
  have c6 := eB_of (op_2 (o := iGe) (a := eVar 7) (b := eC (.int 0)) (s := sL x0 (.val (.cell 1)) x2 (.val (tr x y a)) (.val (.int x)) (.val (.int y)) (.val (.int a)) (.val (.int (t + k))) x8 x9 x10 .un S4) rfl rfl (r_iGe _ _))
  by_cases h : t + k ≥ 0
  · have s4 : sSet 7 (eIf (eB (eOp2 iGe (eVar 7) (eC (.int 0)))) (eVar 7) (eC (.int 0))) (sL x0 (.val (.cell 1)) x2 (.val (tr x y a)) (.val (.int x)) (.val (.int y)) (.val (.int a)) (.val (.int (t + k))) x8 x9 x10 .un S4) = .ok .nx (sL x0 (.val (.cell 1)) x2 (.val (tr x y a)) (.val (.int x)) (.val (.int y)) (.val (.int a)) (.val (.int (t + k))) x8 x9 x10 .un S4) := by
      refine (set_e (i := 7) (d := .int (t + k)) (s1 := sL x0 (.val (.cell 1)) x2 (.val (tr x y a)) (.val (.int x)) (.val (.int y)) (.val (.int a)) (.val (.int (t + k))) x8 x9 x10 .un S4) ?_).trans rfl
      unfold eIf
      rw [c6, Res.bind_ok, decide_eq_true h]
      rfl
    exact ⟨x, y, a, t + k, S4, pd, h, bN.le (by decide), P4.mono (by omega), (sq_nx s1).trans ((sq_nx s2).trans ((sq_nx s3).trans (sq_nx s4)))⟩
  · have s4 : sSet 7 (eIf (eB (eOp2 iGe (eVar 7) (eC (.int 0)))) (eVar 7) (eC (.int 0))) (sL x0 (.val (.cell 1)) x2 (.val (tr x y a)) (.val (.int x)) (.val (.int y)) (.val (.int a)) (.val (.int (t + k))) x8 x9 x10 .un S4) = .ok .nx (sL x0 (.val (.cell 1)) x2 (.val (tr x y a)) (.val (.int x)) (.val (.int y)) (.val (.int a)) (.val (.int 0)) x8 x9 x10 .un S4) := by
      refine (set_e (i := 7) (d := .int 0) (s1 := sL x0 (.val (.cell 1)) x2 (.val (tr x y a)) (.val (.int x)) (.val (.int y)) (.val (.int a)) (.val (.int (t + k))) x8 x9 x10 .un S4) ?_).trans rfl
      unfold eIf
      rw [c6, Res.bind_ok, decide_eq_false h]
      rfl
    exact ⟨x, y, a, 0, S4, pd, by decide, ⟨Nat.two_pow_pos _⟩, P4.mono (by omega), (sq_nx s1).trans ((sq_nx s2).trans ((sq_nx s3).trans (sq_nx s4)))⟩
theorem lim_bd {x y n lo hi : Int} (bn : Bd n 356) (h : lim x y n = some (lo, hi)) : Bd lo 732 ∧ Bd hi 732 := by
  obtain ⟨_, le, _⟩ := lim_sum h
  have lt := bn.lt
  have k : ∀ a, lo ≤ a → a ≤ hi → Bd a 732 := fun a h1 h2 => by
    have := ((lim_some a h).2.1).mp ⟨h1, h2⟩
    have e : ((2 ^ 356 : Nat) : Int) = 2 ^ 356 := by simp
    exact (Sz.of_st (n := 356) (p := ⟨x, y, a⟩) (show stp x y a < 2 ^ 356 by omega)).a
  exact ⟨k lo (Int.le_refl _) le, k hi le (Int.le_refl _)⟩
/-- behind the draw: what is told, and the list of areas -/
theorem told_part {n : Nat} {S : List Cell} (hS : Pen n S) (hn : n < 900000) {x y a N : Int} (pd : PD x y a) (n0 : 0 ≤ N) (bN : Bd N 356) (x0 x2 x3 x8 x9 x10 : Sl) (R : DStm) :
    ∃ (A : List Int) (S' : List Cell), (∀ b ∈ A, PB x y b) ∧ A.length ≤ 9 ∧ Pen (n + 20) S' ∧ sSeq (sSet 8 (eCall 3 g_areas (aCons (eVar 4) (aCons (eVar 5) (aCons (eVar 7) (aNil))))))
    (sSeq (sIf (bAnd (eB (eOp2 dNotN (eVar 8) (eC .non))) (bOr (bNot (eTru (eCB (bIsi ["Place"]) (aCons (eVar 8) (aCons (eC (.ty "tuple")) (aNil)))))) (eB (eOp2 dNe (eCB (bLen) (aCons (eVar 8) (aNil))) (eC (.int 2)))))) (sRet (eC (.bl false))) (sPass))
    (sSeq (sIf (bAnd (eB (eOp2 dNotN (eVar 8) (eC .non))) (bOr (eB (eOp2 dNe (eOp2 dAdd (eIx (eVar 8) (eC (.int 0))) (eIx (eVar 8) (eC (.int 1)))) (eOp2 dMul (eVar 4) (eVar 5)))) (eB (eOp2 iGt (eIx (eVar 8) (eC (.int 0))) (eIx (eVar 8) (eC (.int 1))))))) (sRet (eC (.bl false))) (sPass))
    (sSeq (sSet 9 (eFrz (aMax (aCons (eVar 6) (aCons (eOp2 dAdd (eVar 6) (eC (.int 1))) (aCons (eOp2 iSub (eOp2 dMul (eVar 4) (eVar 5)) (eVar 6)) (aCons (eC (.int 0)) (aCons (eCall 2 g__law_signed (aCons (eVar 1) (aCons (eC (.int 98)) (aNil)))) (aNil)))))))))
    (sSeq (sIf (eB (eOp2 dNotN (eVar 8) (eC .non))) (sSet 9 (eOp2 dAdd (eVar 9) (eFrz (aMax (aCons (eIx (eVar 8) (eC (.int 0))) (aCons (eIx (eVar 8) (eC (.int 1))) (aCons (eOp2 iSub (eIx (eVar 8) (eC (.int 0))) (eC (.int 1))) (aCons (eOp2 dAdd (eIx (eVar 8) (eC (.int 1))) (eC (.int 1))) (aNil))))))))) (sPass)) R)))) (sL x0 (.val (.cell 1)) x2 x3 (.val (.int x)) (.val (.int y)) (.val (.int a)) (.val (.int N)) x8 x9 x10 .un S) = R (sL x0 (.val (.cell 1)) x2 x3 (.val (.int x)) (.val (.int y)) (.val (.int a)) (.val (.int N)) (.val (limD (lim x y N))) (.val (.lst (A.map D.int))) x10 .un S') := by
  have aq := areas_q (pd.x.le (by decide)) (pd.y.le (by decide)) (bN.le (by decide)) n0 S
  obtain ⟨u, S1, e1, ub, P1⟩ := signed_ok hS (by omega) (f := 98) (by decide)
  have mm : mulOk x y = true := mulOk_of pd.x pd.y (by decide)
  have bxy : Bd (x * y) 680 := @bd_mul _ _ _ _ pd.x pd.y
  have pb : ∀ b, Bd b 1200 → PB x y b := fun b h => ⟨pd.x.le (by decide), pd.y.le (by decide), h⟩
  have s1 := set_e (i := 8) (call_x3 (a := eVar 4) (b := eVar 5) (c := eVar 7) (s := sL x0 (.val (.cell 1)) x2 x3 (.val (.int x)) (.val (.int y)) (.val (.int a)) (.val (.int N)) x8 x9 x10 .un S) (s1 := sL x0 (.val (.cell 1)) x2 x3 (.val (.int x)) (.val (.int y)) (.val (.int a)) (.val (.int N)) x8 x9 x10 .un S) (s2 := sL x0 (.val (.cell 1)) x2 x3 (.val (.int x)) (.val (.int y)) (.val (.int a)) (.val (.int N)) x8 x9 x10 .un S) (s3 := sL x0 (.val (.cell 1)) x2 x3 (.val (.int x)) (.val (.int y)) (.val (.int a)) (.val (.int N)) x8 x9 x10 .un S) rfl rfl rfl aq)
  have s1 : _ = Res.ok Out.nx (sL x0 (.val (.cell 1)) x2 x3 (.val (.int x)) (.val (.int y)) (.val (.int a)) (.val (.int N)) (.val (limD (lim x y N))) x9 x10 .un S) := s1
  have mxy : ∀ (x8 x9 : Sl) (S : List Cell), eOp2 dMul (eVar 4) (eVar 5) (sL x0 (.val (.cell 1)) x2 x3 (.val (.int x)) (.val (.int y)) (.val (.int a)) (.val (.int N)) x8 x9 x10 .un S) = .ok (.int (x * y)) (sL x0 (.val (.cell 1)) x2 x3 (.val (.int x)) (.val (.int y)) (.val (.int a)) (.val (.int N)) x8 x9 x10 .un S) := fun x8 x9 S => op_2 (a := eVar 4) (b := eVar 5) rfl rfl (by rw [r_dMul, if_pos mm])
  have nn : ∀ (x9 : Sl) (S : List Cell), eB (eOp2 dNotN (eVar 8) (eC .non)) (sL x0 (.val (.cell 1)) x2 x3 (.val (.int x)) (.val (.int y)) (.val (.int a)) (.val (.int N)) (.val (limD (lim x y N))) x9 x10 .un S) = .ok (!(lim x y N).isNone) (sL x0 (.val (.cell 1)) x2 x3 (.val (.int x)) (.val (.int y)) (.val (.int a)) (.val (.int N)) (.val (limD (lim x y N))) x9 x10 .un S) := fun x9 S => by
    rw [← isn_lim]
    exact eB_of (op_2 (a := eVar 8) (b := eC .non) rfl rfl (r_dNotN _))
  have cl := call_x2 (a := eVar 1) (b := eC (.int 98)) (s := sL x0 (.val (.cell 1)) x2 x3 (.val (.int x)) (.val (.int y)) (.val (.int a)) (.val (.int N)) (.val (limD (lim x y N))) x9 x10 .un S) (s1 := sL x0 (.val (.cell 1)) x2 x3 (.val (.int x)) (.val (.int y)) (.val (.int a)) (.val (.int N)) (.val (limD (lim x y N))) x9 x10 .un S) (s2 := sL x0 (.val (.cell 1)) x2 x3 (.val (.int x)) (.val (.int y)) (.val (.int a)) (.val (.int N)) (.val (limD (lim x y N))) x9 x10 .un S) rfl rfl e1
  have o1 : eOp2 dAdd (eVar 6) (eC (.int 1)) (sL x0 (.val (.cell 1)) x2 x3 (.val (.int x)) (.val (.int y)) (.val (.int a)) (.val (.int N)) (.val (limD (lim x y N))) x9 x10 .un S) = .ok (.int (a + 1)) (sL x0 (.val (.cell 1)) x2 x3 (.val (.int x)) (.val (.int y)) (.val (.int a)) (.val (.int N)) (.val (limD (lim x y N))) x9 x10 .un S) := op_2 (a := eVar 6) (b := eC (.int 1)) rfl rfl rfl
  have o2 : eOp2 iSub (eOp2 dMul (eVar 4) (eVar 5)) (eVar 6) (sL x0 (.val (.cell 1)) x2 x3 (.val (.int x)) (.val (.int y)) (.val (.int a)) (.val (.int N)) (.val (limD (lim x y N))) x9 x10 .un S) = .ok (.int (x * y - a)) (sL x0 (.val (.cell 1)) x2 x3 (.val (.int x)) (.val (.int y)) (.val (.int a)) (.val (.int N)) (.val (limD (lim x y N))) x9 x10 .un S) := op_2 (b := eVar 6) (mxy (.val (limD (lim x y N))) x9 S) rfl rfl
  have s4 := set_e (i := 9) (frz_e (max5 (a := eVar 6) (d := eC (.int 0)) (s := sL x0 (.val (.cell 1)) x2 x3 (.val (.int x)) (.val (.int y)) (.val (.int a)) (.val (.int N)) (.val (limD (lim x y N))) x9 x10 .un S) (s1 := sL x0 (.val (.cell 1)) x2 x3 (.val (.int x)) (.val (.int y)) (.val (.int a)) (.val (.int N)) (.val (limD (lim x y N))) x9 x10 .un S) rfl o1 o2 rfl cl))
  have s4 : _ = Res.ok Out.nx (sL x0 (.val (.cell 1)) x2 x3 (.val (.int x)) (.val (.int y)) (.val (.int a)) (.val (.int N)) (.val (limD (lim x y N))) (.val (.lst (([a, a + 1, x * y - a, 0, u] : List Int).map D.int))) x10 .un S1) := s4
  have b5 : ∀ b ∈ ([a, a + 1, x * y - a, 0, u] : List Int), PB x y b := by
    intro b hb
    simp only [List.mem_cons, List.not_mem_nil, or_false] at hb
    rcases hb with rfl | rfl | rfl | rfl | rfl
    · exact pb _ (pd.a.le (by decide))
    · exact pb _ ((bd_1 pd.a).1.le (by decide))
    · refine pb _ ?_
      have h := bd_plus (n := 700) (bxy.le (by decide)) (@bd_neg _ _ pd.a)
      rw [show x * y + -a = x * y - a by omega] at h
      exact h.le (by decide)
    · exact pb _ ⟨Nat.two_pow_pos _⟩
    · exact pb _ (ub.le (by decide))
  cases hl : lim x y N with
  | none =>
    rw [hl] at s1 nn s4
    have nn : ∀ (x9 : Sl) (S : List Cell), eB (eOp2 dNotN (eVar 8) (eC .non)) (sL x0 (.val (.cell 1)) x2 x3 (.val (.int x)) (.val (.int y)) (.val (.int a)) (.val (.int N)) (.val (limD none)) x9 x10 .un S) = .ok false (sL x0 (.val (.cell 1)) x2 x3 (.val (.int x)) (.val (.int y)) (.val (.int a)) (.val (.int N)) (.val (limD none)) x9 x10 .un S) := nn
    have s2 := if_f (f := sRet (eC (.bl false))) (g := sPass) (and_f (g := bOr (bNot (eTru (eCB (bIsi ["Place"]) (aCons (eVar 8) (aCons (eC (.ty "tuple")) (aNil)))))) (eB (eOp2 dNe (eCB (bLen) (aCons (eVar 8) (aNil))) (eC (.int 2))))) (nn x9 S))
    have s3 := if_f (f := sRet (eC (.bl false))) (g := sPass) (and_f (g := bOr (eB (eOp2 dNe (eOp2 dAdd (eIx (eVar 8) (eC (.int 0))) (eIx (eVar 8) (eC (.int 1)))) (eOp2 dMul (eVar 4) (eVar 5)))) (eB (eOp2 iGt (eIx (eVar 8) (eC (.int 0))) (eIx (eVar 8) (eC (.int 1)))))) (nn x9 S))
    have s5 := if_f (f := sSet 9 (eOp2 dAdd (eVar 9) (eFrz (aMax (aCons (eIx (eVar 8) (eC (.int 0))) (aCons (eIx (eVar 8) (eC (.int 1))) (aCons (eOp2 iSub (eIx (eVar 8) (eC (.int 0))) (eC (.int 1))) (aCons (eOp2 dAdd (eIx (eVar 8) (eC (.int 1))) (eC (.int 1))) (aNil))))))))) (g := sPass) (nn (.val (.lst (([a, a + 1, x * y - a, 0, u] : List Int).map D.int))) S1)
    exact ⟨[a, a + 1, x * y - a, 0, u], S1, b5, (show 5 ≤ 9 by decide), P1, (sq_nx s1).trans ((sq_nx s2).trans ((sq_nx s3).trans ((sq_nx s4).trans (sq_nx s5))))⟩
  | some p =>
    obtain ⟨lo, hi⟩ := p
    obtain ⟨l1, l2, _⟩ := lim_sum hl
    obtain ⟨bl, bh⟩ := lim_bd bN hl
    rw [hl] at s1 nn s4
    have nn : ∀ (x9 : Sl) (S : List Cell), eB (eOp2 dNotN (eVar 8) (eC .non)) (sL x0 (.val (.cell 1)) x2 x3 (.val (.int x)) (.val (.int y)) (.val (.int a)) (.val (.int N)) (.val (limD (some (lo, hi)))) x9 x10 .un S) = .ok true (sL x0 (.val (.cell 1)) x2 x3 (.val (.int x)) (.val (.int y)) (.val (.int a)) (.val (.int N)) (.val (limD (some (lo, hi)))) x9 x10 .un S) := nn
    have i0 : ∀ (x9 : Sl) (S : List Cell), eIx (eVar 8) (eC (.int 0)) (sL x0 (.val (.cell 1)) x2 x3 (.val (.int x)) (.val (.int y)) (.val (.int a)) (.val (.int N)) (.val (limD (some (lo, hi)))) x9 x10 .un S) = .ok (.int lo) (sL x0 (.val (.cell 1)) x2 x3 (.val (.int x)) (.val (.int y)) (.val (.int a)) (.val (.int N)) (.val (limD (some (lo, hi)))) x9 x10 .un S) := fun _ _ => rfl
    have i1 : ∀ (x9 : Sl) (S : List Cell), eIx (eVar 8) (eC (.int 1)) (sL x0 (.val (.cell 1)) x2 x3 (.val (.int x)) (.val (.int y)) (.val (.int a)) (.val (.int N)) (.val (limD (some (lo, hi)))) x9 x10 .un S) = .ok (.int hi) (sL x0 (.val (.cell 1)) x2 x3 (.val (.int x)) (.val (.int y)) (.val (.int a)) (.val (.int N)) (.val (limD (some (lo, hi)))) x9 x10 .un S) := fun _ _ => rfl
    have c1 := not_e (tru_e (cb_2 (o := bIsi ["Place"]) (a := eVar 8) (b := eC (.ty "tuple")) (d := .bl true) (s := sL x0 (.val (.cell 1)) x2 x3 (.val (.int x)) (.val (.int y)) (.val (.int a)) (.val (.int N)) (.val (limD (some (lo, hi)))) x9 x10 .un S) rfl rfl (by simp [limD, bIsi, tyOfD, tyD, isOne, mem_ty, isTy])))
    have c2 := eB_of (op_2 (o := dNe) (b := eC (.int 2)) (d := .bl false) (cb_1 (o := bLen) (a := eVar 8) (d := .int 2) (s := sL x0 (.val (.cell 1)) x2 x3 (.val (.int x)) (.val (.int y)) (.val (.int a)) (.val (.int N)) (.val (limD (some (lo, hi)))) x9 x10 .un S) rfl rfl) rfl (by simp))
    have s2 := if_f (f := sRet (eC (.bl false))) (g := sPass) ((and_t (nn x9 S)).trans ((or_f c1).trans c2))
    have c3 := eB_of (op_2 (o := dNe) (d := .bl false) (op_2 (o := dAdd) (d := .int (lo + hi)) (i0 x9 S) (i1 x9 S) rfl) (mxy (.val (limD (some (lo, hi)))) x9 S) (by rw [l1]; simp))
    have c4 := eB_of (op_2 (o := iGt) (i0 x9 S) (i1 x9 S) (r_iGt _ _))
    rw [decide_eq_false (by omega)] at c4
    have s3 := if_f (f := sRet (eC (.bl false))) (g := sPass) ((and_t (nn x9 S)).trans ((or_f c3).trans c4))
    have s5 : sIf (eB (eOp2 dNotN (eVar 8) (eC .non))) (sSet 9 (eOp2 dAdd (eVar 9) (eFrz (aMax (aCons (eIx (eVar 8) (eC (.int 0))) (aCons (eIx (eVar 8) (eC (.int 1))) (aCons (eOp2 iSub (eIx (eVar 8) (eC (.int 0))) (eC (.int 1))) (aCons (eOp2 dAdd (eIx (eVar 8) (eC (.int 1))) (eC (.int 1))) (aNil))))))))) (sPass) (sL x0 (.val (.cell 1)) x2 x3 (.val (.int x)) (.val (.int y)) (.val (.int a)) (.val (.int N)) (.val (limD (some (lo, hi)))) (.val (.lst (([a, a + 1, x * y - a, 0, u] : List Int).map D.int))) x10 .un S1) = .ok .nx (sL x0 (.val (.cell 1)) x2 x3 (.val (.int x)) (.val (.int y)) (.val (.int a)) (.val (.int N)) (.val (limD (some (lo, hi)))) (.val (.lst (([a, a + 1, x * y - a, 0, u, lo, hi, lo - 1, hi + 1] : List Int).map D.int))) x10 .un S1) := by
      refine (if_t (nn _ S1)).trans ?_
      have z := frz_e (max4 (i0 (.val (.lst (([a, a + 1, x * y - a, 0, u] : List Int).map D.int))) S1) (i1 _ S1) (op_2 (o := iSub) (b := eC (.int 1)) (d := .int (lo - 1)) (i0 _ S1) rfl rfl) (op_2 (o := dAdd) (b := eC (.int 1)) (d := .int (hi + 1)) (i1 _ S1) rfl rfl))
      have o3 := op_2 (o := dAdd) (a := eVar 9) (x := .lst (([a, a + 1, x * y - a, 0, u] : List Int).map D.int)) (s := sL x0 (.val (.cell 1)) x2 x3 (.val (.int x)) (.val (.int y)) (.val (.int a)) (.val (.int N)) (.val (limD (some (lo, hi)))) (.val (.lst (([a, a + 1, x * y - a, 0, u] : List Int).map D.int))) x10 .un S1) rfl z (add_ll (show 5 + 4 ≤ 1000000 by decide))
      exact set_e (i := 9) o3
    refine ⟨[a, a + 1, x * y - a, 0, u, lo, hi, lo - 1, hi + 1], S1, ?_, (show 9 ≤ 9 by decide), P1, (sq_nx s1).trans ((sq_nx s2).trans ((sq_nx s3).trans ((sq_nx s4).trans (sq_nx s5))))⟩
    intro b hb
    have hb : b ∈ [a, a + 1, x * y - a, 0, u] ++ [lo, hi, lo - 1, hi + 1] := hb
    rcases List.mem_append.mp hb with h | h
    · exact b5 b h
    · simp only [List.mem_cons, List.not_mem_nil, or_false] at h
      rcases h with rfl | rfl | rfl | rfl
      · exact pb _ (bl.le (by decide))
      · exact pb _ (bh.le (by decide))
      · exact pb _ ((bd_1 bl).2.le (by decide))
      · exact pb _ ((bd_1 bh).1.le (by decide))
end W_k13
set_option maxRecDepth 100000
set_option maxHeartbeats 4000000
set_option exponentiation.threshold 4000
namespace W_k13
open DL ST
/-! ### the rest of a lap -/
abbrev sM (x0 x2 x3 : Sl) (x y a N : Int) (o : Option (Int × Int)) (A : List Int) (x10 : Sl) (S : List Cell) : DS := sL x0 (.val (.cell 1)) x2 x3 (.val (.int x)) (.val (.int y)) (.val (.int a)) (.val (.int N)) (.val (limD o)) (.val (.lst (A.map D.int))) x10 .un S
theorem call_x5 {g : DFn} {a b c k l : DE} {s s1 s2 s3 s4 s5 : DS} {x y z u p d : D} {S1 : List Cell} (ha : a s = .ok x s1) (hb : b s1 = .ok y s2) (hc : c s2 = .ok z s3) (hk : k s3 = .ok u s4) (hl : l s4 = .ok p s5) (e : g [x, y, z, u, p] s5.st = .ok d S1) :
    eCall 5 g (aCons a (aCons b (aCons c (aCons k (aCons l aNil))))) s = .ok d ⟨s5.sl, S1⟩ := by
  simp [ha, hb, hc, hk, hl, e]
theorem call_xx {g : DFn} {a b c : DE} {s : DS} {x y z : D} {e : Xc} {S1 : List Cell} (ha : a s = .ok x s) (hb : b s = .ok y s) (hc : c s = .ok z s) (h : g [x, y, z] s.st = .exc e S1) :
    eCall 3 g (aCons a (aCons b (aCons c aNil))) s = .exc e ⟨s.sl, S1⟩ := by
  simp [ha, hb, hc, h]
theorem orT_t {f g : DE} {s s1 : DS} (h : f s = .ok (.bl true) s1) : eOrT f g s = .ok (.bl true) s1 := by simp [h]
theorem orT_f {f g : DE} {s s1 : DS} {r : Res DS D} (h : f s = .ok (.bl false) s1) (k : g s1 = r) : eOrT f g s = r := by simp [h, k]
theorem judged_e {x y a N : Int} {A : List Int} (pb : ∀ b ∈ A, PB x y b) (hl : A.length ≤ 9) (x0 x2 x3 x10 : Sl) (S : List Cell) :
    sIf (eB (eOp2 dNe (eFrz (aLc [11] (itSeq (eVar 9)) (gN 11) (t_law_0) (e_law_0))) (eFrz (aMax (aNil))))) (sRet (eC (.bl false))) (sPass) (sM x0 x2 x3 x y a N (lim x y N) A x10 S) = .ok .nx (sM x0 x2 x3 x y a N (lim x y N) A x10 S) := by
  have l := aLc_T1 (v := 11) (it := itSeq (eVar 9)) (t := t_law_0) (e := e_law_0) (s := sM x0 x2 x3 x y a N (lim x y N) A x10 S) (s0 := sM x0 x2 x3 x y a N (lim x y N) A x10 S) D.int (fun _ => false) D.int rfl rfl (fun b hb => by
    have t := told_q (n := N) (pb b hb) S
    refine ⟨?_, fun h => nomatch h⟩
    exact not_e (tru_e (call_x5 (a := eVar 4) (b := eVar 5) (c := eVar 11) (k := eVar 7) (l := eVar 8) (s := sL x0 (.val (.cell 1)) x2 x3 (.val (.int x)) (.val (.int y)) (.val (.int a)) (.val (.int N)) (.val (limD (lim x y N))) (.val (.lst (A.map D.int))) x10 (.val (.int b)) S) (s1 := sL x0 (.val (.cell 1)) x2 x3 (.val (.int x)) (.val (.int y)) (.val (.int a)) (.val (.int N)) (.val (limD (lim x y N))) (.val (.lst (A.map D.int))) x10 (.val (.int b)) S) (s2 := sL x0 (.val (.cell 1)) x2 x3 (.val (.int x)) (.val (.int y)) (.val (.int a)) (.val (.int N)) (.val (limD (lim x y N))) (.val (.lst (A.map D.int))) x10 (.val (.int b)) S) (s3 := sL x0 (.val (.cell 1)) x2 x3 (.val (.int x)) (.val (.int y)) (.val (.int a)) (.val (.int N)) (.val (limD (lim x y N))) (.val (.lst (A.map D.int))) x10 (.val (.int b)) S) (s4 := sL x0 (.val (.cell 1)) x2 x3 (.val (.int x)) (.val (.int y)) (.val (.int a)) (.val (.int N)) (.val (limD (lim x y N))) (.val (.lst (A.map D.int))) x10 (.val (.int b)) S) (s5 := sL x0 (.val (.cell 1)) x2 x3 (.val (.int x)) (.val (.int y)) (.val (.int a)) (.val (.int N)) (.val (limD (lim x y N))) (.val (.lst (A.map D.int))) x10 (.val (.int b)) S) rfl rfl rfl rfl rfl t))) (by omega)
  rw [show A.filter (fun _ => false) = [] by simp] at l
  exact if_f (eB_of (op_2 (o := dNe) (frz_e l) (max0 _) (ne_ll [] [])))
theorem none_e {x y a N : Int} {A : List Int} (x0 x2 x3 x10 : Sl) (S : List Cell) :
    sIf (eB (eOp2 dNe (eOp2 dIsN (eVar 8) (eC .non)) (eOrT (eOp2 iLt (eVar 7) (eOp2 dAdd (eCB (bAbs) (aCons (eVar 4) (aNil))) (eCB (bAbs) (aCons (eVar 5) (aNil))))) (eOp2 dEq (eOp2 iMod (eCB (bInt) (aCons (eOp2 iSub (eOp2 iSub (eVar 7) (eVar 4)) (eVar 5)) (aNil))) (eC (.int 2))) (eC (.int 1)))))) (sRet (eC (.bl false))) (sPass) (sM x0 x2 x3 x y a N (lim x y N) A x10 S) = .ok .nx (sM x0 x2 x3 x y a N (lim x y N) A x10 S) := by
  have i1 : eOp2 dIsN (eVar 8) (eC .non) (sM x0 x2 x3 x y a N (lim x y N) A x10 S) = .ok (.bl (lim x y N).isNone) (sM x0 x2 x3 x y a N (lim x y N) A x10 S) := by
    rw [← isn_lim]
    exact op_2 (a := eVar 8) (b := eC .non) rfl rfl (r_dIsN _)
  have b1 : eCB (bAbs) (aCons (eVar 4) (aNil)) (sM x0 x2 x3 x y a N (lim x y N) A x10 S) = .ok (.int (ab x)) (sM x0 x2 x3 x y a N (lim x y N) A x10 S) := cb_1 (o := bAbs) (a := eVar 4) (x := .int x) rfl (by simp [bAbs, ab_eq])
  have b2 : eCB (bAbs) (aCons (eVar 5) (aNil)) (sM x0 x2 x3 x y a N (lim x y N) A x10 S) = .ok (.int (ab y)) (sM x0 x2 x3 x y a N (lim x y N) A x10 S) := cb_1 (o := bAbs) (a := eVar 5) (x := .int y) rfl (by simp [bAbs, ab_eq])
  have c1 := op_2 (o := iLt) (a := eVar 7) (s := sM x0 x2 x3 x y a N (lim x y N) A x10 S) rfl (op_2 (o := dAdd) (d := .int (ab x + ab y)) b1 b2 rfl) (r_iLt _ _)
  have c2 := op_2 (o := dEq) (b := eC (.int 1)) (d := .bl (decide ((N - x - y).fmod 2 = 1))) (op_2 (o := iMod) (b := eC (.int 2)) (d := .int ((N - x - y).fmod 2)) (cb_1 (o := bInt) (d := .int (N - x - y)) (op_2 (o := iSub) (b := eVar 5) (d := .int (N - x - y)) (op_2 (o := iSub) (a := eVar 7) (b := eVar 4) (d := .int (N - x)) (s := sM x0 x2 x3 x y a N (lim x y N) A x10 S) rfl rfl rfl) rfl rfl) rfl) rfl rfl) rfl (by simp)
  have i2 : eOrT (eOp2 iLt (eVar 7) (eOp2 dAdd (eCB (bAbs) (aCons (eVar 4) (aNil))) (eCB (bAbs) (aCons (eVar 5) (aNil))))) (eOp2 dEq (eOp2 iMod (eCB (bInt) (aCons (eOp2 iSub (eOp2 iSub (eVar 7) (eVar 4)) (eVar 5)) (aNil))) (eC (.int 2))) (eC (.int 1))) (sM x0 x2 x3 x y a N (lim x y N) A x10 S) = .ok (.bl (lim x y N).isNone) (sM x0 x2 x3 x y a N (lim x y N) A x10 S) := by
    have h := lim_non (x := x) (y := y) (n := N)
    have e2 : (N - x - y).fmod 2 = (N - x - y) % 2 := Int.fmod_eq_emod_of_nonneg _ (by decide)
    have iff : (lim x y N).isNone = decide (N < ab x + ab y ∨ (N - x - y) % 2 = 1) := by
      rw [← Bool.coe_iff_coe, Option.isNone_iff_eq_none, decide_eq_true_eq, h]
    rw [iff]
    rw [e2] at c2
    by_cases k : N < ab x + ab y
    · rw [decide_eq_true k] at c1
      rw [decide_eq_true (.inl k)]
      exact orT_t c1
    · rw [decide_eq_false k] at c1
      refine (orT_f c1 c2).trans ?_
      rw [show decide (N < ab x + ab y ∨ (N - x - y) % 2 = 1) = decide ((N - x - y) % 2 = 1) by simp [k]]
  exact if_f (eB_of (op_2 (o := dNe) i1 i2 (by simp)))
theorem stripM (x0 x2 x3 : Sl) (x y a N : Int) (o : Option (Int × Int)) (A : List Int) (d : D) (S : List Cell) : ∃ y0 y2 y3, (sM x0 x2 x3 x y a N o A (.val d) S).sl.map stripS = (sM y0 y2 y3 x y a N o A (.val d) S).sl := ⟨_, _, _, rfl⟩
theorem ref0 {x y a N : Int} {A : List Int} {o : Option (Int × Int)} {d : D} (hd : Odd d ∨ d = .int (-1)) (x0 x2 x3 : Sl) {S : List Cell} (ht : S[0]? = some (.tab "law")) :
    sIf (eB (eOp2 dNe (eCallL 1 (fun Λ => fnD 1 (b__law_refused Λ) 1) (fun n => List.lookup n [("law.0", lb_law_0), ("law.1", lb_law_1), ("law.2", lb_law_2)]) (aCons (eLam 0 "law" "law.0") (aNil))) (eTup (aCons (eC (.str [110, 117, 109, 98, 101, 114])) (aCons (eVar 10) (aNil)))))) (sRet (eC (.bl false))) (sPass) (sM x0 x2 x3 x y a N o A (.val d) S) = .ok .nx (sM x0 x2 x3 x y a N o A (.val d) S) := by
  obtain ⟨y0, y2, y3, hs⟩ := stripM x0 x2 x3 x y a N o A d S
  have b : lb_law_0 ⟨(sM x0 x2 x3 x y a N o A (.val d) S).sl.map stripS, S⟩ = .exc (badN d) ⟨(sM y0 y2 y3 x y a N o A (.val d) S).sl, S⟩ := by
    rw [hs]
    exact call_xx (a := eVar 4) (b := eVar 5) (c := eVar 10) (s := sM y0 y2 y3 x y a N o A (.val d) S) rfl rfl rfl (areas_0 hd S)
  have q := ref_e (lam_e (s := sM x0 x2 x3 x y a N o A (.val d) S) (k := "law.0") ht) (by simp [List.lookup]) b
  exact if_f (eB_of (op_2 (o := dNe) q (tup_2 (a := eC (.str [110, 117, 109, 98, 101, 114])) (b := eVar 10) rfl rfl) (ne_nw hd)))
theorem ref1 {x y a N : Int} {A : List Int} {o : Option (Int × Int)} {d : D} (hd : Odd d ∨ d = .int (-1)) (x0 x2 x3 : Sl) {S : List Cell} (ht : S[0]? = some (.tab "law")) :
    sIf (bAnd (eB (eOp2 dNe (eVar 10) (eNeg (eC (.int 1))))) (eB (eOp2 dNe (eCallL 1 (fun Λ => fnD 1 (b__law_refused Λ) 1) (fun n => List.lookup n [("law.0", lb_law_0), ("law.1", lb_law_1), ("law.2", lb_law_2)]) (aCons (eLam 0 "law" "law.1") (aNil))) (eTup (aCons (eC (.str [110, 117, 109, 98, 101, 114])) (aCons (eVar 10) (aNil))))))) (sRet (eC (.bl false))) (sPass) (sM x0 x2 x3 x y a N o A (.val d) S) = .ok .nx (sM x0 x2 x3 x y a N o A (.val d) S) := by
  rcases hd with h | rfl
  · have c := eB_of (op_2 (o := dNe) (a := eVar 10) (b := eNeg (eC (.int 1))) (s := sM x0 x2 x3 x y a N o A (.val d) S) rfl (neg_e rfl) (ne_m1 h))
    obtain ⟨y0, y2, y3, hs⟩ := stripM x0 x2 x3 x y a N o A d S
    have b : lb_law_1 ⟨(sM x0 x2 x3 x y a N o A (.val d) S).sl.map stripS, S⟩ = .exc (badN d) ⟨(sM y0 y2 y3 x y a N o A (.val d) S).sl, S⟩ := by
      rw [hs]
      exact call_xx (a := eVar 10) (b := eC .non) (c := eNeg (eC (.int 1))) (s := sM y0 y2 y3 x y a N o A (.val d) S) rfl rfl (neg_e rfl) (areas_1 h S)
    have q := ref_e (lam_e (s := sM x0 x2 x3 x y a N o A (.val d) S) (k := "law.1") ht) (by simp [List.lookup]) b
    exact if_f ((and_t c).trans (eB_of (op_2 (o := dNe) q (tup_2 (a := eC (.str [110, 117, 109, 98, 101, 114])) (b := eVar 10) rfl rfl) (ne_nw (.inl h)))))
  · have c := eB_of (op_2 (o := dNe) (a := eVar 10) (b := eNeg (eC (.int 1))) (s := sM x0 x2 x3 x y a N o A (.val (.int (-1))) S) rfl (neg_e rfl) ne_mm)
    exact if_f (and_f c)
theorem ref2 {x y a N : Int} {A : List Int} {o : Option (Int × Int)} {d : D} (hd : Odd d ∨ d = .int (-1)) (x0 x2 x3 : Sl) {S : List Cell} (ht : S[0]? = some (.tab "law")) :
    sIf (bAnd (eB (eOp2 dNe (eVar 10) (eNeg (eC (.int 1))))) (eB (eOp2 dNe (eCallL 1 (fun Λ => fnD 1 (b__law_refused Λ) 1) (fun n => List.lookup n [("law.0", lb_law_0), ("law.1", lb_law_1), ("law.2", lb_law_2)]) (aCons (eLam 0 "law" "law.2") (aNil))) (eTup (aCons (eC (.str [110, 117, 109, 98, 101, 114])) (aCons (eVar 10) (aNil))))))) (sRet (eC (.bl false))) (sPass) (sM x0 x2 x3 x y a N o A (.val d) S) = .ok .nx (sM x0 x2 x3 x y a N o A (.val d) S) := by
  rcases hd with h | rfl
  · have c := eB_of (op_2 (o := dNe) (a := eVar 10) (b := eNeg (eC (.int 1))) (s := sM x0 x2 x3 x y a N o A (.val d) S) rfl (neg_e rfl) (ne_m1 h))
    obtain ⟨y0, y2, y3, hs⟩ := stripM x0 x2 x3 x y a N o A d S
    have b : lb_law_2 ⟨(sM x0 x2 x3 x y a N o A (.val d) S).sl.map stripS, S⟩ = .exc (badN d) ⟨(sM y0 y2 y3 x y a N o A (.val d) S).sl, S⟩ := by
      rw [hs]
      exact call_xx (a := eVar 4) (b := eVar 10) (c := eC .non) (s := sM y0 y2 y3 x y a N o A (.val d) S) rfl rfl rfl (areas_2 h S)
    have q := ref_e (lam_e (s := sM x0 x2 x3 x y a N o A (.val d) S) (k := "law.2") ht) (by simp [List.lookup]) b
    exact if_f ((and_t c).trans (eB_of (op_2 (o := dNe) q (tup_2 (a := eC (.str [110, 117, 109, 98, 101, 114])) (b := eVar 10) rfl rfl) (ne_nw (.inl h)))))
  · have c := eB_of (op_2 (o := dNe) (a := eVar 10) (b := eNeg (eC (.int 1))) (s := sM x0 x2 x3 x y a N o A (.val (.int (-1))) S) rfl (neg_e rfl) ne_mm)
    exact if_f (and_f c)
theorem lap_q {n : Nat} {S : List Cell} (hS : Pen n S) (hn : n < 800000) (x0 x2 x3 x4 x5 x6 x7 x8 x9 x10 : Sl) :
    ∃ y3 y4 y5 y6 y7 y8 y9 y10 S', w_law_2 (sL x0 (.val (.cell 1)) x2 x3 x4 x5 x6 x7 x8 x9 x10 .un S) = .ok .nx (sL x0 (.val (.cell 1)) x2 y3 y4 y5 y6 y7 y8 y9 y10 .un S') ∧ Pen (n + 200) S' := by
  unfold w_law_2
  obtain ⟨x, y, a, N, S1, pd, n0, bN, P1, e1⟩ := far_part hS (by omega) x0 x2 x3 x4 x5 x6 x7 x8 x9 x10 _
  rw [e1]
  obtain ⟨A, S2, pb, lA, P2, e2⟩ := told_part P1 (by omega) pd n0 bN x0 x2 (.val (tr x y a)) x8 x9 x10 _
  rw [e2]
  obtain ⟨d, S3, e3, hd, P3⟩ := pick_ok (xs := [.non, .bl true, .str [49], .lst [.int 1], .int (-1)]) P2 (by omega) (by simp) (by simp)
  have hd : Odd d ∨ d = .int (-1) := by
    simp only [List.mem_cons, List.not_mem_nil, or_false] at hd
    rcases hd with rfl | rfl | rfl | rfl | rfl
    · exact .inl .non
    · exact .inl .bl
    · exact .inl .str
    · exact .inl .lst
    · exact .inr rfl
  have ht : S3[0]? = some (.tab "law") := by
    obtain ⟨cs, c, l, h, _⟩ := P3
    rw [h]; rfl
  have s1 := judged_e (N := N) (a := a) pb lA x0 x2 (.val (tr x y a)) x10 S2
  have s2 := none_e (x := x) (y := y) (a := a) (N := N) (A := A) x0 x2 (.val (tr x y a)) x10 S2
  have s3 := set_e (i := 10) (call_x2 (a := eVar 1) (b := eFrz (aMax (aCons (eC .non) (aCons (eC (.bl true)) (aCons (eC (.str [49])) (aCons (eFrz (aMax (aCons (eC (.int 1)) (aNil)))) (aCons (eNeg (eC (.int 1))) (aNil)))))))) (s := sM x0 x2 (.val (tr x y a)) x y a N (lim x y N) A x10 S2) (s1 := sM x0 x2 (.val (tr x y a)) x y a N (lim x y N) A x10 S2) (s2 := sM x0 x2 (.val (tr x y a)) x y a N (lim x y N) A x10 S2) rfl rfl e3)
  have s3 : _ = Res.ok Out.nx (sM x0 x2 (.val (tr x y a)) x y a N (lim x y N) A (.val d) S3) := s3
  have s4 := ref0 (x := x) (y := y) (a := a) (N := N) (A := A) (o := lim x y N) hd x0 x2 (.val (tr x y a)) ht
  have s5 := ref1 (x := x) (y := y) (a := a) (N := N) (A := A) (o := lim x y N) hd x0 x2 (.val (tr x y a)) ht
  have s6 := ref2 (x := x) (y := y) (a := a) (N := N) (A := A) (o := lim x y N) hd x0 x2 (.val (tr x y a)) ht
  exact ⟨_, _, _, _, _, _, _, _, S3, (sq_nx s1).trans ((sq_nx s2).trans ((sq_nx s3).trans ((sq_nx s4).trans ((sq_nx s5).trans s6)))), P3.mono (by omega)⟩
theorem law_ok (ns : List Int) (hl : ns.length ≤ 63) (hb : ∀ z ∈ ns, PySem.Builtin.Int.intBits z ≤ 1048576) : ∃ S, g_law [.scr (ns.map D.int)] [.tab "law"] = .ok (.bl true) S := by
  obtain ⟨S1, e1, hP1⟩ := begin_ok ns
  obtain ⟨S2, e2, hP2⟩ := near_q hP1 (by omega)
  obtain ⟨x0, h0⟩ : ∃ x : Sl, x = .val (.scr (ns.map D.int)) := ⟨_, rfl⟩
  have s1 : sSet 1 (eCall 1 g__law_pen (aCons (eVar 0) (aNil))) (sL x0 .un .un .un .un .un .un .un .un .un .un .un [.tab "law"]) = .ok .nx (sL x0 (.val (.cell 1)) .un .un .un .un .un .un .un .un .un .un S1) := by
    subst h0
    exact set_e (i := 1) (call_x1 (a := eVar 0) (s := sL (.val (.scr (ns.map D.int))) .un .un .un .un .un .un .un .un .un .un .un [.tab "law"]) (s1 := sL (.val (.scr (ns.map D.int))) .un .un .un .un .un .un .un .un .un .un .un [.tab "law"]) rfl e1)
  have s2 := if_f (f := sRet (eC (.bl false))) (g := sPass) (not_e (tru_e (call_x1 (a := eVar 1) (s := sL x0 (.val (.cell 1)) .un .un .un .un .un .un .un .un .un .un S1) (s1 := sL x0 (.val (.cell 1)) .un .un .un .un .un .un .un .un .un .un S1) rfl e2)))
  obtain ⟨k, hk, it⟩ : ∃ k : Nat, k ≤ 9 ∧ itR1 (aCons (eOp2 dAdd (eC (.int 4)) (eCB (bMin2) (aCons (eC (.int 5)) (aCons (eCB (bLen) (aCons (eVar 0) (aNil))) (aNil))))) (aNil)) (sL x0 (.val (.cell 1)) .un .un .un .un .un .un .un .un .un .un S2) = .ok (rngL 0 k) (sL x0 (.val (.cell 1)) .un .un .un .un .un .un .un .un .un .un S2) := by
    subst h0
    refine ⟨4 + min 5 ns.length, by omega, ?_⟩
    rw [itR1_n (n := 4 + min 5 ns.length) (s1 := sL (.val (.scr (ns.map D.int))) (.val (.cell 1)) .un .un .un .un .un .un .un .un .un .un S2) ?_ (by omega), rngL0]
    · rfl
    · have l1 : eCB (bLen) (aCons (eVar 0) (aNil)) (sL (.val (.scr (ns.map D.int))) (.val (.cell 1)) .un .un .un .un .un .un .un .un .un .un S2) = .ok (.int ns.length) (sL (.val (.scr (ns.map D.int))) (.val (.cell 1)) .un .un .un .un .un .un .un .un .un .un S2) := cb_1 (o := bLen) (a := eVar 0) rfl (by simp [bLen])
      have l2 := cb_2 (o := bMin2) (a := eC (.int 5)) (d := .int (4 + min 5 ns.length - 4 : Int)) rfl l1 (by simp [bMin2]; omega)
      have l3 := op_2 (o := dAdd) (a := eC (.int 4)) (d := .int ((4 + min 5 ns.length : Nat) : Int)) rfl l2 (by simp; omega)
      rw [r_aCons, l3]
      rfl
  obtain ⟨s', e3, S3, ⟨y2, y3, y4, y5, y6, y7, y8, y9, y10, hs⟩, hP3⟩ := for_inv (g := gN 2) (b := w_law_2) (items := rngL 0 k) (s := sL x0 (.val (.cell 1)) .un .un .un .un .un .un .un .un .un .un S2)
    (fun i s => ∃ S3, (∃ y2 y3 y4 y5 y6 y7 y8 y9 y10, s = sL x0 (.val (.cell 1)) y2 y3 y4 y5 y6 y7 y8 y9 y10 .un S3) ∧ Pen (1 + 200 * i) S3)
    ⟨S2, ⟨.un, .un, .un, .un, .un, .un, .un, .un, .un, rfl⟩, hP2⟩ (fun i d s hd ⟨S3, ⟨y2, y3, y4, y5, y6, y7, y8, y9, y10, hs⟩, hP⟩ => by
      obtain ⟨hi, rfl⟩ := rngL_get hd
      subst hs
      obtain ⟨z3, z4, z5, z6, z7, z8, z9, z10, S4, e, hP4⟩ := lap_q hP (by omega) x0 (.val (.int (0 + i))) y3 y4 y5 y6 y7 y8 y9 y10
      exact ⟨_, _, rfl, .inl e, S4, ⟨_, z3, z4, z5, z6, z7, z8, z9, z10, rfl⟩, hP4.mono (by omega)⟩)
  subst hs
  have s3 := for_it it e3
  subst h0
  have fin : fnD 1 b_law 11 [.scr (ns.map D.int)] [.tab "law"] = .ok (.bl true) S3 :=
    fn_rt (sl := (sL (.val (.scr (ns.map D.int))) (.val (.cell 1)) y2 y3 y4 y5 y6 y7 y8 y9 y10 .un S3).sl) rfl ((sq_nx s1).trans ((sq_nx s2).trans ((sq_nx s3).trans (ret_e (f := eC (.bl true)) rfl))))
  refine ⟨S3, ?_⟩
  unfold g_law fnDL
  have n1 : noLams [D.scr (ns.map D.int)] = true := by simp [noLams, DL.noLam, noLams_int]
  have n2 : noLamS S3 = true := by
    obtain ⟨cs, c, l, h, _⟩ := hP3
    rw [h]; simp [noLamS, noLamC, noLamK, DL.noLam, noLams_int]
  rw [if_pos ⟨n1, by rfl⟩, fin]
  exact if_pos ⟨rfl, n2⟩
end W_k13
open PySem PySem.W PyProof.Rows
set_option maxRecDepth 100000 in
set_option maxHeartbeats 0 in
theorem PySem.Challenge.cw_areawalks_k13_whole_areas_of_walks_holds : PySem.Challenge.rw_areawalks_k13_whole_areas_of_walks.Holds := by
  w_on; o_law; k_head; (case hw => w_witness2)
  k_fill
  refine DL.walk_ofD (l := PySem.Challenge.rw_areawalks_k13_whole_areas_of_walks) (n := 63) (k := 9) (x := "_law_script") (CX := fun w => L2.CX PySem.Challenge.rw_areawalks_k13_whole_areas_of_walks.prog w) rfl (by decide) rfl ⟨rfl, by decide, by decide⟩ (fun w h Y => PySem.W.km_in_of Y) ?F (fun w => DL.noCX)
  case F =>
    intro w mg fa h KX G hmg TT
    refine' W_k13.all_mk KX G hmg TT ?aC_Place ?cB_Place ?aC_BadNumber ?xl_BadNumber ?xr_BadNumber ?xi_BadNumber ?xf_BadNumber ?xc_BadNumber ?xd_BadNumber ?xv_BadNumber ?xe_BadNumber ?xk_BadNumber ?xB_BadNumber ?aC_BadPlace ?xl_BadPlace ?xr_BadPlace ?xi_BadPlace ?xf_BadPlace ?xc_BadPlace ?xd_BadPlace ?xv_BadPlace ?xe_BadPlace ?xk_BadPlace ?xB_BadPlace ?xtop ?xsup ?xm_BadNumber_BadNumber ?xm_BadPlace_BadNumber ?a1__law_draw ?l1__law_draw ?c1__law_draw ?k1__law_draw ?a1__law_pick ?l1__law_pick ?c1__law_pick ?k1__law_pick ?a1__law_great ?l1__law_great ?c1__law_great ?k1__law_great ?a1__law_signed ?l1__law_signed ?c1__law_signed ?k1__law_signed ?a1__law_far ?l1__law_far ?c1__law_far ?k1__law_far ?a1_is_integer ?l1_is_integer ?c1_is_integer ?k1_is_integer ?a1_PlaceX_initX ?i1_PlaceX_initX ?l1_PlaceX_initX ?c1_PlaceX_initX ?k1_PlaceX_initX ?a1_need_place ?l1_need_place ?c1_need_place ?k1_need_place ?a1_whole_root ?l1_whole_root ?c1_whole_root ?k1_whole_root ?a1_steps_of ?l1_steps_of ?c1_steps_of ?k1_steps_of ?a1_steps ?l1_steps ?c1_steps ?k1_steps ?a1__law_is_told ?l1__law_is_told ?c1__law_is_told ?k1__law_is_told ?a1__law_gone ?l1__law_gone ?c1__law_gone ?k1__law_gone ?a1__law_ends ?l1__law_ends ?c1__law_ends ?k1__law_ends ?a1_best_sides ?l1_best_sides ?c1_best_sides ?k1_best_sides ?a1_areas_of ?l1_areas_of ?c1_areas_of ?k1_areas_of ?a1_is_whole ?l1_is_whole ?c1_is_whole ?k1_is_whole ?a1_areas ?l1_areas ?c1_areas ?k1_areas ?a1__law_near_right ?l1__law_near_right ?c1__law_near_right ?k1__law_near_right ?a1__law_pen ?l1__law_pen ?c1__law_pen ?k1__law_pen ?a1__law_place ?l1__law_place ?c1__law_place ?k1__law_place ?a1__law_refused ?l1__law_refused ?c1__law_refused ?k1__law_refused ?a1_law ?l1_law ?c1_law ?k1_law ?tl_law ?tv_law ?tq_law ?tn_law ?tr_law ?z1_abs ?z1_bool ?z1_int ?z1_isinstance ?z1_len ?z1_list ?z1_max ?z1_min ?z1_range ?z1_sorted ?z1_tuple ?tnd W_k13.law_ok
    (case aC_Place => k_is)
    (case cB_Place => kernel_rfl)
    (case aC_BadNumber => k_is)
    (case xl_BadNumber => k_is)
    (case xr_BadNumber => kernel_rfl)
    (case xi_BadNumber => k_is)
    (case xf_BadNumber => k_is)
    (case xc_BadNumber => k_is)
    (case xd_BadNumber => k_is)
    (case xv_BadNumber => rfl)
    (case xe_BadNumber => kernel_rfl)
    (case xk_BadNumber => k_is)
    (case xB_BadNumber => kernel_rfl)
    (case aC_BadPlace => k_is)
    (case xl_BadPlace => k_is)
    (case xr_BadPlace => kernel_rfl)
    (case xi_BadPlace => k_is)
    (case xf_BadPlace => k_is)
    (case xc_BadPlace => k_is)
    (case xd_BadPlace => k_is)
    (case xv_BadPlace => rfl)
    (case xe_BadPlace => kernel_rfl)
    (case xk_BadPlace => k_is)
    (case xB_BadPlace => kernel_rfl)
    (case xtop => kernel_rfl)
    (case xsup => k_is)
    (case xm_BadNumber_BadNumber => kernel_rfl)
    (case xm_BadPlace_BadNumber => kernel_rfl)
    (case a1__law_draw => k_is)
    (case l1__law_draw => k_is)
    (case c1__law_draw => k_is)
    (case k1__law_draw => k_is)
    (case a1__law_pick => k_is)
    (case l1__law_pick => k_is)
    (case c1__law_pick => k_is)
    (case k1__law_pick => k_is)
    (case a1__law_great => k_is)
    (case l1__law_great => k_is)
    (case c1__law_great => k_is)
    (case k1__law_great => k_is)
    (case a1__law_signed => k_is)
    (case l1__law_signed => k_is)
    (case c1__law_signed => k_is)
    (case k1__law_signed => k_is)
    (case a1__law_far => k_is)
    (case l1__law_far => k_is)
    (case c1__law_far => k_is)
    (case k1__law_far => k_is)
    (case a1_is_integer => k_is)
    (case l1_is_integer => k_is)
    (case c1_is_integer => k_is)
    (case k1_is_integer => k_is)
    (case a1_PlaceX_initX => k_is)
    (case i1_PlaceX_initX => k_is)
    (case l1_PlaceX_initX => k_is)
    (case c1_PlaceX_initX => k_is)
    (case k1_PlaceX_initX => k_is)
    (case a1_need_place => k_is)
    (case l1_need_place => k_is)
    (case c1_need_place => k_is)
    (case k1_need_place => k_is)
    (case a1_whole_root => k_is)
    (case l1_whole_root => k_is)
    (case c1_whole_root => k_is)
    (case k1_whole_root => k_is)
    (case a1_steps_of => k_is)
    (case l1_steps_of => k_is)
    (case c1_steps_of => k_is)
    (case k1_steps_of => k_is)
    (case a1_steps => k_is)
    (case l1_steps => k_is)
    (case c1_steps => k_is)
    (case k1_steps => k_is)
    (case a1__law_is_told => k_is)
    (case l1__law_is_told => k_is)
    (case c1__law_is_told => k_is)
    (case k1__law_is_told => k_is)
    (case a1__law_gone => k_is)
    (case l1__law_gone => k_is)
    (case c1__law_gone => k_is)
    (case k1__law_gone => k_is)
    (case a1__law_ends => k_is)
    (case l1__law_ends => k_is)
    (case c1__law_ends => k_is)
    (case k1__law_ends => k_is)
    (case a1_best_sides => k_is)
    (case l1_best_sides => k_is)
    (case c1_best_sides => k_is)
    (case k1_best_sides => k_is)
    (case a1_areas_of => k_is)
    (case l1_areas_of => k_is)
    (case c1_areas_of => k_is)
    (case k1_areas_of => k_is)
    (case a1_is_whole => k_is)
    (case l1_is_whole => k_is)
    (case c1_is_whole => k_is)
    (case k1_is_whole => k_is)
    (case a1_areas => k_is)
    (case l1_areas => k_is)
    (case c1_areas => k_is)
    (case k1_areas => k_is)
    (case a1__law_near_right => k_is)
    (case l1__law_near_right => k_is)
    (case c1__law_near_right => k_is)
    (case k1__law_near_right => k_is)
    (case a1__law_pen => k_is)
    (case l1__law_pen => k_is)
    (case c1__law_pen => k_is)
    (case k1__law_pen => k_is)
    (case a1__law_place => k_is)
    (case l1__law_place => k_is)
    (case c1__law_place => k_is)
    (case k1__law_place => k_is)
    (case a1__law_refused => k_is)
    (case l1__law_refused => k_is)
    (case c1__law_refused => k_is)
    (case k1__law_refused => k_is)
    (case a1_law => k_is)
    (case l1_law => k_is)
    (case c1_law => k_is)
    (case k1_law => k_is)
    (case tl_law => k_is)
    (case tv_law => rfl)
    (case tq_law => kernel_rfl)
    (case tn_law => kernel_rfl)
    (case tr_law => kernel_rfl)
    (case z1_abs => k_is)
    (case z1_bool => k_is)
    (case z1_int => k_is)
    (case z1_isinstance => k_is)
    (case z1_len => k_is)
    (case z1_list => k_is)
    (case z1_max => k_is)
    (case z1_min => k_is)
    (case z1_range => k_is)
    (case z1_sorted => k_is)
    (case z1_tuple => k_is)
    (case tnd => decide)
