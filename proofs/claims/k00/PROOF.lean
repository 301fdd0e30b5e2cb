import PyProof.Rows.All
import Wide.All
import OpenK.AllK
import Wide.FinOn
import HandS.ForMost
import HandS.ForExc
import HandS.CallSlots
import HandS.IsInst
import HandS.Wide
import HandS.Flow
import HandS.Property
import HandS.OwnEq
import KE.KOpsOwn
import HandS.Zip
import HandS.Style
import HandS.Exc
import HandS.ExcInit
import HandS.TryMany
import KE.KExcSuper
import HandS.ExcField
import HandS.Lambda
import HandS.EndTab
import HandS.WideBits
import HandS.Deep
import HandS.StrMore
import HandS.NoneIn
import PyProof.StrBlock2
import HandS.TupAny
import HandS.Iter
import HandS.ExcOwn
import PyProof.ExcBaseAll.ValueError
import KE.KCallOwn
import HandS.More
import HandS.Dict
import HandS.MakeKwOnly
import KE.KExcIs
import KE.KDictList
import KE.KEqNest
import PyProof.NeKinds
import HandS.DictComp
import HandS.ExcValue
import PySem.Challenge.RW_areawalks_k00_errors_made_by_hand
set_option Elab.async false
set_option linter.all false
set_option maxRecDepth 100000
set_option maxHeartbeats 4000000
set_option autoImplicit false
namespace DL
open PySem PySem.Spec PyProof.Rows L2

/-! ### data -/
/-- a name or a text by its code points -/
abbrev Nm := List Nat
def nm (l : Nm) : Str := ⟨l.toArray⟩
theorem nm_inj {a b : Nm} (h : nm a = nm b) : a = b := by
  have := congrArg (fun s : Str => s.cps.toList) h
  simpa [nm] using this
inductive DK where
  | i (n : Int)
  | s (l : List Nat)
  deriving DecidableEq
inductive D where
  | non | bl (b : Bool) | int (i : Int) | str (l : List Nat)
  | tup (xs : List D) | lst (xs : List D) | scr (xs : List D)
  | dic (kvs : List (DK × D))
  | dct (kvs : List (List DK × D))
  | ins (c : String) (fs : List (Nm × D))
  | cell (n : Nat) | cls (c : String) | ty (n : String) | fn (f : String) | lam (k : String)
instance : Inhabited D := ⟨.non⟩
/-- a thing of the store, by reference -/
inductive Cell where
  | dic (kvs : List (DK × D))
  | lst (xs : List D)
  | obj (c : String) (fs : List (Nm × D))
  | tab (k : String)
  | dct (kvs : List (List DK × D))
instance : Inhabited Cell := ⟨.lst []⟩
/-- a slot: no value known, a value, a list / dict / instance of this frame's own -/
inductive Sl where
  | un | val (d : D) | ol (xs : List D) | od (kvs : List (DK × D)) | ot (kvs : List (List DK × D)) | oi (c : String) (fs : List (Nm × D))
instance : Inhabited Sl := ⟨.un⟩
def Sl.own : Sl → Bool
  | .un => false
  | .val _ => false
  | _ => true
structure Xc where
  cls : String
  fs : List (Nm × D)
structure DS where
  sl : List Sl
  st : List Cell
inductive Res (σ α : Type) where
  | ok (a : α) (t : σ) | exc (x : Xc) (t : σ) | stuck
def Res.bind {σ α β : Type} (r : Res σ α) (k : α → σ → Res σ β) : Res σ β := match r with
  | .ok a t => k a t
  | .exc x t => .exc x t
  | .stuck => .stuck
@[simp] theorem Res.bind_ok {σ α β : Type} (a : α) (t : σ) (k : α → σ → Res σ β) : (Res.ok a t).bind k = k a t := rfl
@[simp] theorem Res.bind_exc {σ α β : Type} (x : Xc) (t : σ) (k : α → σ → Res σ β) : (Res.exc x t).bind k = .exc x t := rfl
@[simp] theorem Res.bind_stuck {σ α β : Type} (k : α → σ → Res σ β) : (Res.stuck).bind k = .stuck := rfl
inductive Out where
  | nx | rt (d : D) | bk | ct
abbrev DE := DS → Res DS D
abbrev DA := DS → Res DS (List D)
abbrev DT := DS → Res DS Bool
abbrev DStm := DS → Res DS Out
abbrev DFn := List D → List Cell → Res (List Cell) D

/-! ### how data lie in the heap -/
structure Wd where
  F : Hp
  ρ : List Addr
structure Wd.le (w w' : Wd) : Prop where
  f : ∀ a o, w.F a = some o → w'.F a = some o
  r : w.ρ <+: w'.ρ
theorem Wd.le.refl (w : Wd) : w.le w := ⟨fun _ _ h => h, List.prefix_refl _⟩
theorem Wd.le.trans {a b c : Wd} (h : a.le b) (k : b.le c) : a.le c := ⟨fun x o e => k.f x o (h.f x o e), h.r.trans k.r⟩
structure Gam where
  K : PySem.W.Frag
  ct : String → Option Addr
  ft : String → Option Addr
  lam : String → Addr → Wd → Prop := fun _ _ _ => False
  lamM : ∀ (k : String) (f : Addr) (w w' : Wd), w.le w' → lam k f w → lam k f w' := by (intros; assumption)
  tab : String → Addr → Hp → HO → Prop := fun _ _ _ _ => False
  tabM : ∀ (k : String) (a : Addr) (F F' : Hp) (o : HO), (∀ a o, F a = some o → F' a = some o) → tab k a F o → tab k a F' o := by (intros; assumption)
  hs : List Key → Int := fun _ => 0
def dkey : DK → Key
  | .i n => .inl n
  | .s l => .inr (nm l)
/-- a dict object by its entries -/
def dctO (a : Addr) (es : List DictEntry) (ep : Nat) : HO := .ext fun h => ∃ o es', h.get? a = some o ∧ o.ExactDict ∧ o.data = .dict es' ep ∧ es'.toList = es
mutual
inductive Rep (G : Gam) (w : Wd) : V → D → Prop
  | non : Rep G w .non .non
  | bl (b : Bool) : Rep G w (.bl b) (.bl b)
  | int (i : Int) : Rep G w (.int i) (.int i)
  | str (l : List Nat) : Rep G w (.str (nm l)) (.str l)
  | tup {a : Addr} {vs : List V} {ds : List D} : SqT G.K w.F a vs → Reps G w vs ds → Rep G w (.ref a) (.tup ds)
  | lst {a : Addr} {vs : List V} {ds : List D} : w.F a = some (.lst vs) → Reps G w vs ds → Rep G w (.ref a) (.lst ds)
  | scr {a : Addr} {vs : List V} {ds : List D} : SqL G.K w.F a vs → Reps G w vs ds → Rep G w (.ref a) (.scr ds)
  | dic {a : Addr} {vs : List (Key × V)} {ds : List (DK × D)} : w.F a = some (.dK vs) → RepK G w vs ds → Rep G w (.ref a) (.dic ds)
  | dct {a : Addr} {es : List DictEntry} {ep : Nat} {ds : List (List DK × D)} : w.F a = some (dctO a es ep) → RepT G w es ds → (ds.map (·.1)).Nodup → (a == sysModules) = false → Rep G w (.ref a) (.dct ds)
  | ins {a C dx : Addr} {c : String} {vs : List (Str × V)} {ds : List (Nm × D)} : G.ct c = some C → w.F a = some (.ins C dx vs) → RepF G w vs ds → Rep G w (.ref a) (.ins c ds)
  | cell {a : Addr} {n : Nat} : w.ρ[n]? = some a → Rep G w (.ref a) (.cell n)
  | cls {C : Addr} {c : String} : G.ct c = some C → Rep G w (.ref C) (.cls c)
  | ty (n : String) : Rep G w (.ty n) (.ty n)
  | fn {a : Addr} {f : String} : G.ft f = some a → Rep G w (.ref a) (.fn f)
  | lam {f : Addr} {k : String} : G.lam k f w → Rep G w (.ref f) (.lam k)
inductive Reps (G : Gam) (w : Wd) : List V → List D → Prop
  | nil : Reps G w [] []
  | cons {v : V} {d : D} {vs : List V} {ds : List D} : Rep G w v d → Reps G w vs ds → Reps G w (v :: vs) (d :: ds)
inductive RepF (G : Gam) (w : Wd) : List (Str × V) → List (Nm × D) → Prop
  | nil : RepF G w [] []
  | cons {f : Nm} {v : V} {d : D} {vs : List (Str × V)} {ds : List (Nm × D)} : Rep G w v d → RepF G w vs ds → RepF G w ((nm f, v) :: vs) ((f, d) :: ds)
inductive RepK (G : Gam) (w : Wd) : List (Key × V) → List (DK × D) → Prop
  | nil : RepK G w [] []
  | cons {k : DK} {v : V} {d : D} {vs : List (Key × V)} {ds : List (DK × D)} : Rep G w v d → RepK G w vs ds → RepK G w ((dkey k, v) :: vs) ((k, d) :: ds)
inductive RepT (G : Gam) (w : Wd) : List DictEntry → List (List DK × D) → Prop
  | nil : RepT G w [] []
  | cons {k : List DK} {b : Addr} {v : V} {u : Value} {d : D} {es : List DictEntry} {ds : List (List DK × D)} : SqT G.K w.F b (k.map fun x => kV (dkey x)) → RelV v u → Rep G w v d → RepT G w es ds → RepT G w (⟨G.hs (k.map dkey), .ref b, u⟩ :: es) ((k, d) :: ds)
end
theorem SqT.le {K : PySem.W.Frag} {F F' : Hp} {a : Addr} {xs : List V} (h : SqT K F a xs) (e : ∀ a o, F a = some o → F' a = some o) : SqT K F' a xs := by
  rcases h with (h | ⟨o, h⟩) | h
  · exact .inl (.inl (e _ _ h))
  · exact .inl (.inr ⟨o, e _ _ h⟩)
  · exact .inr h
theorem SqL.le {K : PySem.W.Frag} {F F' : Hp} {a : Addr} {xs : List V} (h : SqL K F a xs) (e : ∀ a o, F a = some o → F' a = some o) : SqL K F' a xs := by
  rcases h with (h | ⟨o, h⟩) | h
  · exact .inl (.inl (e _ _ h))
  · exact .inl (.inr ⟨o, e _ _ h⟩)
  · exact .inr h
theorem pre_get {α : Type} {l l' : List α} {n : Nat} {x : α} (h : l <+: l') (e : l[n]? = some x) : l'[n]? = some x := by
  obtain ⟨r, rfl⟩ := h
  rw [List.getElem?_append_left (by exact (List.getElem?_eq_some_iff.mp e).1)]
  exact e
mutual
theorem Rep.mono {G : Gam} {w w' : Wd} (h : w.le w') : ∀ {v : V} {d : D}, Rep G w v d → Rep G w' v d
  | _, _, .non => .non
  | _, _, .bl b => .bl b
  | _, _, .int i => .int i
  | _, _, .str l => .str l
  | _, _, .tup a b => .tup (SqT.le a h.f) (Reps.mono h b)
  | _, _, .lst a b => .lst (h.f _ _ a) (Reps.mono h b)
  | _, _, .scr a b => .scr (SqL.le a h.f) (Reps.mono h b)
  | _, _, .dic a b => .dic (h.f _ _ a) (RepK.mono h b)
  | _, _, .dct a b c d => .dct (h.f _ _ a) (RepT.mono h b) c d
  | _, _, .ins c a b => .ins c (h.f _ _ a) (RepF.mono h b)
  | _, _, .cell a => .cell (pre_get h.r a)
  | _, _, .cls a => .cls a
  | _, _, .ty n => .ty n
  | _, _, .fn a => .fn a
  | _, _, .lam a => .lam (G.lamM _ _ _ _ h a)
theorem Reps.mono {G : Gam} {w w' : Wd} (h : w.le w') : ∀ {v : List V} {d : List D}, Reps G w v d → Reps G w' v d
  | _, _, .nil => .nil
  | _, _, .cons a b => .cons (Rep.mono h a) (Reps.mono h b)
theorem RepF.mono {G : Gam} {w w' : Wd} (h : w.le w') : ∀ {v : List (Str × V)} {d : List (Nm × D)}, RepF G w v d → RepF G w' v d
  | _, _, .nil => .nil
  | _, _, .cons a b => .cons (Rep.mono h a) (RepF.mono h b)
theorem RepK.mono {G : Gam} {w w' : Wd} (h : w.le w') : ∀ {v : List (Key × V)} {d : List (DK × D)}, RepK G w v d → RepK G w' v d
  | _, _, .nil => .nil
  | _, _, .cons a b => .cons (Rep.mono h a) (RepK.mono h b)
theorem RepT.mono {G : Gam} {w w' : Wd} (h : w.le w') : ∀ {v : List DictEntry} {d : List (List DK × D)}, RepT G w v d → RepT G w' v d
  | _, _, .nil => .nil
  | _, _, .cons s r a b => .cons (SqT.le s h.f) r (Rep.mono h a) (RepT.mono h b)
end
theorem Reps.length {G : Gam} {w : Wd} : ∀ {v : List V} {d : List D}, Reps G w v d → v.length = d.length
  | _, _, .nil => rfl
  | _, _, .cons _ b => by rw [List.length_cons, List.length_cons, Reps.length b]
theorem Reps.get {G : Gam} {w : Wd} : ∀ {v : List V} {d : List D} {i : Nat} {x : D}, Reps G w v d → d[i]? = some x → ∃ y, v[i]? = some y ∧ Rep G w y x
  | _, _, _, _, .nil, e => by simp at e
  | _, _, 0, _, .cons a _, e => by simp at e; subst e; exact ⟨_, rfl, a⟩
  | _, _, i + 1, x, .cons _ b, e => by
    obtain ⟨y, h1, h2⟩ := Reps.get (i := i) (x := x) b (by simpa using e)
    exact ⟨y, by simpa using h1, h2⟩
theorem Reps.append {G : Gam} {w : Wd} : ∀ {v v' : List V} {d d' : List D}, Reps G w v d → Reps G w v' d' → Reps G w (v ++ v') (d ++ d')
  | _, _, _, _, .nil, h => h
  | _, _, _, _, .cons a b, h => .cons a (Reps.append b h)
theorem Reps.set {G : Gam} {w : Wd} {x : V} {y : D} (r : Rep G w x y) : ∀ {v : List V} {d : List D} (i : Nat), Reps G w v d → Reps G w (v.set i x) (d.set i y)
  | _, _, _, .nil => .nil
  | _, _, 0, .cons _ b => .cons r b
  | _, _, i + 1, .cons a b => .cons a (Reps.set r i b)
theorem Reps.drop {G : Gam} {w : Wd} : ∀ {v : List V} {d : List D} (n : Nat), Reps G w v d → Reps G w (v.drop n) (d.drop n)
  | _, _, 0, r => r
  | _, _, _ + 1, .nil => .nil
  | _, _, n + 1, .cons _ t => Reps.drop n t
theorem Reps.take {G : Gam} {w : Wd} : ∀ {v : List V} {d : List D} (n : Nat), Reps G w v d → Reps G w (v.take n) (d.take n)
  | _, _, 0, _ => .nil
  | _, _, _ + 1, .nil => .nil
  | _, _, n + 1, .cons r t => .cons r (Reps.take n t)
theorem Reps.ints {G : Gam} {w : Wd} : ∀ {v : List V} {ns : List Int}, Reps G w v (ns.map D.int) → v = ns.map V.int
  | _, [], h => by cases h; rfl
  | _, n :: ns, h => by
    cases h with
    | cons a b => cases a; rw [Reps.ints b]; rfl
theorem Reps.of_ints {G : Gam} {w : Wd} : ∀ ns : List Int, Reps G w (ns.map V.int) (ns.map D.int)
  | [] => .nil
  | n :: ns => .cons (.int n) (Reps.of_ints ns)
theorem RepF.look {G : Gam} {w : Wd} : ∀ {v : List (Str × V)} {d : List (Nm × D)} {f : Nm} {x : D}, RepF G w v d → d.lookup f = some x → ∃ y, v.lookup (nm f) = some y ∧ Rep G w y x
  | _, _, _, _, .nil, e => by simp at e
  | _, _, f, x, .cons (f := g) a b, e => by
    by_cases h : f = g
    · subst h
      rw [List.lookup_cons_self] at e
      cases e
      exact ⟨_, List.lookup_cons_self, a⟩
    · have h1 : (f == g) = false := beq_eq_false_iff_ne.mpr h
      have h2 : (nm f == nm g) = false := beq_eq_false_iff_ne.mpr fun q => h (nm_inj q)
      simp only [List.lookup_cons, h1] at e
      obtain ⟨y, q1, q2⟩ := RepF.look b e
      exact ⟨y, by simp only [List.lookup_cons, h2]; exact q1, q2⟩
theorem RepF.none {G : Gam} {w : Wd} : ∀ {v : List (Str × V)} {d : List (Nm × D)} {f : Nm}, RepF G w v d → d.lookup f = none → v.lookup (nm f) = none
  | _, _, _, .nil, e => rfl
  | _, _, f, .cons (f := g) a b, e => by
    by_cases h : f = g
    · subst h
      rw [List.lookup_cons_self] at e
      cases e
    · have h1 : (f == g) = false := beq_eq_false_iff_ne.mpr h
      have h2 : (nm f == nm g) = false := beq_eq_false_iff_ne.mpr fun q => h (nm_inj q)
      simp only [List.lookup_cons, h1] at e
      simp only [List.lookup_cons, h2]
      exact RepF.none b e
theorem RepF.length {G : Gam} {w : Wd} : ∀ {v : List (Str × V)} {d : List (Nm × D)}, RepF G w v d → v.length = d.length
  | _, _, .nil => rfl
  | _, _, .cons _ b => by rw [List.length_cons, List.length_cons, RepF.length b]
def putN (f : Nm) (x : D) : List (Nm × D) → List (Nm × D)
  | [] => [(f, x)]
  | (g, y) :: r => if g = f then (f, x) :: r else (g, y) :: putN f x r
/-! ### the store, the slots -/
/-- a dict whose keys are tuples, at a -/
def TOk (G : Gam) (w : Wd) (H : Hp) (a : Addr) (kvs : List (List DK × D)) : Prop := ∃ es ep, H a = some (dctO a es ep) ∧ RepT G w es kvs ∧ (kvs.map (·.1)).Nodup ∧ (a == sysModules) = false
theorem TOk.mono {G : Gam} {w w' : Wd} {H H' : Hp} {a : Addr} {kvs : List (List DK × D)} (h : TOk G w H a kvs) (le : w.le w') (e : H' a = H a) : TOk G w' H' a kvs := by
  obtain ⟨es, ep, h1, h2, h3⟩ := h
  exact ⟨es, ep, e.trans h1, h2.mono le, h3⟩
def CellOk (G : Gam) (w : Wd) (H : Hp) (a : Addr) : Cell → Prop
  | .dic kvs => ∃ vs, H a = some (.dK vs) ∧ RepK G w vs kvs
  | .lst xs => ∃ vs, H a = some (.lst vs) ∧ Reps G w vs xs
  | .obj c fs => ∃ C dx vs, G.ct c = some C ∧ H a = some (.ins C dx vs) ∧ RepF G w vs fs
  | .tab k => ∃ o, H a = some o ∧ G.tab k a w.F o
  | .dct kvs => TOk G w H a kvs
structure FOk (G : Gam) (w : Wd) (S : List Cell) (H : Hp) : Prop where
  sub : ∀ a o, w.F a = some o → H a = some o
  len : w.ρ.length = S.length
  cel : ∀ (n : Nat) (a : Addr) (c : Cell), w.ρ[n]? = some a → S[n]? = some c → CellOk G w H a c
  nd : w.ρ.Nodup
  nf : ∀ a, a ∈ w.ρ → w.F a = none
theorem CellOk.there {G : Gam} {w : Wd} {H : Hp} {a : Addr} {c : Cell} (h : CellOk G w H a c) : ∃ o, H a = some o := by
  cases c with
  | dic kvs => obtain ⟨_, h, _⟩ := h; exact ⟨_, h⟩
  | lst xs => obtain ⟨_, h, _⟩ := h; exact ⟨_, h⟩
  | obj c fs => obtain ⟨_, _, _, _, h, _⟩ := h; exact ⟨_, h⟩
  | tab k => obtain ⟨_, h, _⟩ := h; exact ⟨_, h⟩
  | dct kvs => obtain ⟨_, _, h, _⟩ := h; exact ⟨_, h⟩
theorem CellOk.mono {G : Gam} {w w' : Wd} {H H' : Hp} {a : Addr} {c : Cell} (h : CellOk G w H a c) (le : w.le w') (e : H' a = H a) : CellOk G w' H' a c := by
  cases c with
  | dic kvs => obtain ⟨_, h, r⟩ := h; exact ⟨_, e.trans h, r.mono le⟩
  | lst xs => obtain ⟨_, h, r⟩ := h; exact ⟨_, e.trans h, r.mono le⟩
  | obj c fs => obtain ⟨_, _, _, q, h, r⟩ := h; exact ⟨_, _, _, q, e.trans h, r.mono le⟩
  | tab k => obtain ⟨_, h, r⟩ := h; exact ⟨_, e.trans h, G.tabM _ _ _ _ _ le.f r⟩
  | dct kvs => exact TOk.mono h le e
theorem FOk.rho {G : Gam} {w : Wd} {S : List Cell} {H : Hp} (h : FOk G w S H) {a : Addr} (ha : a ∈ w.ρ) : ∃ o, H a = some o := by
  obtain ⟨n, hn, e⟩ := List.getElem_of_mem ha
  have h1 : w.ρ[n]? = some a := by rw [List.getElem?_eq_getElem hn, e]
  have h2 : n < S.length := by rw [← h.len]; exact hn
  exact (h.cel n a _ h1 (List.getElem?_eq_getElem h2)).there
/-- from one state to a later one: what may have changed -/
structure Nx (w : Wd) (H : Hp) (w' : Wd) (H' : Hp) : Prop where
  le : w.le w'
  keep : ∀ a o, H a = some o → a ∉ w.ρ → H' a = some o
  newF : ∀ a, w'.F a ≠ none → w.F a ≠ none ∨ H a = none
  newR : ∀ a, a ∈ w'.ρ → a ∈ w.ρ ∨ H a = none
theorem Nx.refl (w : Wd) (H : Hp) : Nx w H w H := ⟨.refl w, fun _ _ h _ => h, fun _ h => .inl h, fun _ h => .inl h⟩
theorem Nx.trans {G : Gam} {w w1 w2 : Wd} {H H1 H2 : Hp} {S1 : List Cell} (a : Nx w H w1 H1) (f : FOk G w1 S1 H1) (b : Nx w1 H1 w2 H2) : Nx w H w2 H2 := by
  have back : ∀ x, H1 x = none → H x = none := fun x h => by
    cases e : H x with
    | none => rfl
    | some o =>
      by_cases hx : x ∈ w.ρ
      · obtain ⟨o', q⟩ := f.rho (a.le.r.subset hx)
        rw [q] at h; cases h
      · rw [a.keep x o e hx] at h; cases h
  refine ⟨a.le.trans b.le, fun x o e n => ?_, fun x h => ?_, fun x h => ?_⟩
  · refine b.keep x o (a.keep x o e n) fun q => ?_
    rcases a.newR x q with z | z
    · exact n z
    · rw [z] at e; cases e
  · rcases b.newF x h with z | z
    · exact a.newF x z
    · exact .inr (back x z)
  · rcases b.newR x h with z | z
    · exact a.newR x z
    · exact .inr (back x z)
def OwnOk (G : Gam) (w : Wd) (H : Hp) (a : Addr) : Sl → Prop
  | .ol xs => ∃ vs, H a = some (.lst vs) ∧ Reps G w vs xs
  | .od kvs => ∃ vs, H a = some (.dK vs) ∧ RepK G w vs kvs
  | .ot kvs => TOk G w H a kvs
  | .oi c fs => ∃ C dx vs, G.ct c = some C ∧ H a = some (.ins C dx vs) ∧ RepF G w vs fs
  | _ => False
/-- a frame's base: the world and the heap at its entry; objects that are set apart -/
structure Bs where
  B : Wd
  H : Hp
  γ : List (Addr × HO)
  me : Option Addr
/-- the state of a frame -/
structure Ok (G : Gam) (κ : Bs) (w : Wd) (s : DS) (σ : L2.St) (H : Hp) : Prop where
  fok : FOk G w s.st H
  nx : Nx κ.B κ.H w H
  len : s.sl.length = σ.length
  val : ∀ (i : Nat) (d : D), s.sl[i]? = some (.val d) → ∃ v, σ[i]? = some (some v) ∧ Rep G w v d
  own : ∀ (i : Nat) (x : Sl), s.sl[i]? = some x → x.own = true → ∃ a, σ[i]? = some (some (.ref a)) ∧ OwnOk G w H a x ∧ w.F a = none ∧ a ∉ w.ρ ∧ κ.H a = none
  ne : ∀ (i j : Nat) (x y : Sl) (a : Addr), s.sl[i]? = some x → s.sl[j]? = some y → x.own = true → y.own = true → σ[i]? = some (some (.ref a)) → σ[j]? = some (some (.ref a)) → i = j
  gam : ∀ p ∈ κ.γ, H p.1 = some p.2 ∧ w.F p.1 = none ∧ p.1 ∉ w.ρ ∧ κ.H p.1 = none ∧ ∀ (i : Nat) (x : Sl), s.sl[i]? = some x → x.own = true → σ[i]? ≠ some (some (.ref p.1))
  me : ∀ a, κ.me = some a → ∀ c fs, s.sl[0]? = some (.oi c fs) → σ[0]? = some (some (.ref a))
theorem OwnOk.there {G : Gam} {w : Wd} {H : Hp} {a : Addr} {c : Sl} (h : OwnOk G w H a c) : ∃ o, H a = some o := by
  cases c with
  | ol xs => obtain ⟨_, h, _⟩ := h; exact ⟨_, h⟩
  | od xs => obtain ⟨_, h, _⟩ := h; exact ⟨_, h⟩
  | ot xs => obtain ⟨_, _, h, _⟩ := h; exact ⟨_, h⟩
  | oi c fs => obtain ⟨_, _, _, _, h, _⟩ := h; exact ⟨_, h⟩
  | un => exact h.elim
  | val _ => exact h.elim
theorem OwnOk.mono {G : Gam} {w w' : Wd} {H H' : Hp} {a : Addr} {c : Sl} (h : OwnOk G w H a c) (le : w.le w') (e : H' a = H a) : OwnOk G w' H' a c := by
  cases c with
  | ol xs => obtain ⟨_, h, r⟩ := h; exact ⟨_, e.trans h, r.mono le⟩
  | od xs => obtain ⟨_, h, r⟩ := h; exact ⟨_, e.trans h, r.mono le⟩
  | ot xs => exact TOk.mono h le e
  | oi c fs => obtain ⟨_, _, _, q, h, r⟩ := h; exact ⟨_, _, _, q, e.trans h, r.mono le⟩
  | un => exact h.elim
  | val _ => exact h.elim
section
variable {G : Gam} {κ : Bs} {w w' : Wd} {s : DS} {σ : L2.St} {H H' : Hp} {S' : List Cell}
/-- a step that leaves the slots as they are -/
theorem Ok.step (h : Ok G κ w s σ H) (n : Nx w H w' H') (f : FOk G w' S' H') : Ok G κ w' ⟨s.sl, S'⟩ σ H' := by
  have nF : ∀ a o, H a = some o → w.F a = none → w'.F a = none := fun a ob he h3 => by
    cases q : w'.F a with
    | none => rfl
    | some o =>
      rcases n.newF a (by rw [q]; exact fun z => nomatch z) with z | z
      · exact absurd h3 z
      · rw [he] at z; cases z
  have nR : ∀ a o, H a = some o → a ∉ w.ρ → a ∉ w'.ρ := fun a ob he h4 q => by
    rcases n.newR a q with z | z
    · exact h4 z
    · rw [he] at z; cases z
  refine ⟨f, h.nx.trans h.fok n, h.len, fun i d e => ?_, fun i x e o => ?_, h.ne, fun p hp => ?_, h.me⟩
  · obtain ⟨v, h1, h2⟩ := h.val i d e
    exact ⟨v, h1, h2.mono n.le⟩
  · obtain ⟨a, h1, h2, h3, h4, h5⟩ := h.own i x e o
    obtain ⟨ob, he⟩ := h2.there
    exact ⟨a, h1, h2.mono n.le ((n.keep a ob he h4).trans he.symm), nF a ob he h3, nR a ob he h4, h5⟩
  · obtain ⟨h1, h2, h3, h4, h5⟩ := h.gam p hp
    exact ⟨n.keep _ _ h1 h3, nF _ _ h1 h2, nR _ _ h1 h3, h4, h5⟩
/-- a new frozen object -/
theorem FOk.alloc {S : List Cell} (h : FOk G w S H) {p : Addr} (hp : H p = none) (o : HO) : FOk G ⟨upd w.F p o, w.ρ⟩ S (upd H p o) ∧ Nx w H ⟨upd w.F p o, w.ρ⟩ (upd H p o) := by
  have le : w.le ⟨upd w.F p o, w.ρ⟩ := ⟨fun a u e => by
    show upd w.F p o a = some u
    rw [upd_ne (ne_of_none (h.sub a u e) hp)]
    exact e, List.prefix_refl _⟩
  have np : p ∉ w.ρ := fun q => by
    obtain ⟨o, e⟩ := h.rho q
    rw [hp] at e; cases e
  refine ⟨⟨fun a u e => ?_, h.len, fun n a c e1 e2 => ?_, h.nd, fun a ha => ?_⟩, ⟨le, fun a u e _ => ?_, fun a q => ?_, fun a q => .inl q⟩⟩
  · by_cases z : a = p
    · subst z
      have e : upd w.F a o a = some u := e
      rw [upd_same] at e ⊢
      exact e
    · have e : upd w.F p o a = some u := e
      rw [upd_ne z] at e ⊢
      exact h.sub a u e
  · refine (h.cel n a c e1 e2).mono le (upd_ne fun z => ?_)
    subst z
    exact np (List.mem_of_getElem? e1)
  · show upd w.F p o a = none
    rw [upd_ne (show a ≠ p from fun z => np (by rw [← z]; exact ha))]
    exact h.nf a ha
  · rw [upd_ne (ne_of_none e hp)]
    exact e
  · by_cases z : a = p
    · subst z; exact .inr hp
    · have q : upd w.F p o a ≠ none := q
      rw [upd_ne z] at q
      exact .inl q
theorem Ok.alloc (h : Ok G κ w s σ H) {p : Addr} (hp : H p = none) (o : HO) : w.le ⟨upd w.F p o, w.ρ⟩ ∧ Ok G κ ⟨upd w.F p o, w.ρ⟩ s σ (upd H p o) := by
  obtain ⟨f, n⟩ := h.fok.alloc hp o
  exact ⟨n.le, h.step n f⟩
end
end DL
set_option maxRecDepth 100000
set_option maxHeartbeats 4000000
set_option autoImplicit false
namespace DL
open PySem PySem.Spec PyProof.Rows L2
/-! ### what is wanted behind a piece of code -/
def RepX (G : Gam) (w : Wd) (c : Value) (dd : Option Addr) (x : Xc) : Prop :=
  ∃ C, G.ct x.cls = some C ∧ c = .ref C ∧ ((x.fs = [] ∧ dd = none) ∨ ∃ a vs, dd = some a ∧ w.F a = some (.xd vs) ∧ RepF G w vs x.fs)
section
variable (G : Gam) (W : WX)
def PostG {α β : Type} (rep : Wd → β → α → Prop) (κ : Bs) (w : Wd) (σ : L2.St) (r : Res DS α) (Q : β → Hp → Prop) : Prop := match r with
  | .ok d s' => ∀ w' v H', w.le w' → Ok G κ w' s' σ H' → rep w' v d → Q v H'
  | .exc x s' => ∀ w' c dd H', w.le w' → Ok G κ w' s' σ H' → RepX G w' c dd x → W c dd σ H'
  | .stuck => False
def tD (f : DE) : TE := fun σ H Q => ∃ κ w s, Ok G κ w s σ H ∧ PostG G W (Rep G) κ w σ (f s) Q
def tDT (f : DT) : TT := fun σ H Q => ∃ κ w s, Ok G κ w s σ H ∧ PostG G W (fun _ (v : Bool) d => v = d) κ w σ (f s) Q
def tDA (f : DA) : TA := fun σ H Q => ∃ κ w s, Ok G κ w s σ H ∧ PostG G W (Reps G) κ w σ (f s) Q
def PostS (κ : Bs) (w : Wd) (r : Res DS Out) (N : Ends) : Prop := match r with
  | .ok .nx s' => ∀ w' σ' H', w.le w' → Ok G κ w' s' σ' H' → N.nx σ' H'
  | .ok .bk s' => ∀ w' σ' H', w.le w' → Ok G κ w' s' σ' H' → N.bk σ' H'
  | .ok .ct s' => ∀ w' σ' H', w.le w' → Ok G κ w' s' σ' H' → N.ct σ' H'
  | .ok (.rt d) s' => ∀ w' σ' v H', w.le w' → Ok G κ w' s' σ' H' → Rep G w' v d → N.rt v H'
  | .exc x s' => ∀ w' σ' c dd H', w.le w' → Ok G κ w' s' σ' H' → RepX G w' c dd x → W c dd σ' H'
  | .stuck => False
def tDS (f : DStm) : TS := fun N σ H => ∃ κ w s, Ok G κ w s σ H ∧ PostS G W κ w (f s) N
end
section
variable {G : Gam} {W : WX} {α β γ δ : Type} {rep : Wd → β → α → Prop} {rep' : Wd → δ → γ → Prop} {κ : Bs} {w w1 : Wd} {σ : L2.St}
theorem PostG.mono {r : Res DS α} {Q : β → Hp → Prop} (le : w.le w1) (h : PostG G W rep κ w σ r Q) : PostG G W rep κ w1 σ r Q := by
  cases r with
  | ok d s' => exact fun w' v H' l o r => h w' v H' (le.trans l) o r
  | exc x s' => exact fun w' c dd H' l o r => h w' c dd H' (le.trans l) o r
  | stuck => exact h
theorem PostG.imp {r : Res DS α} {Q Q' : β → Hp → Prop} (h : PostG G W rep κ w σ r Q) (k : ∀ v H, Q v H → Q' v H) : PostG G W rep κ w σ r Q' := by
  cases r with
  | ok d s' => exact fun w' v H' l o r => k _ _ (h w' v H' l o r)
  | exc x s' => exact h
  | stuck => exact h
/-- behind the first of two -/
theorem PostG.bind {r : Res DS α} {k : α → DS → Res DS γ} {Q : δ → Hp → Prop} (h : PostG G W rep' κ w σ (r.bind k) Q) :
    PostG G W rep κ w σ r (fun v H1 => ∃ d s1 w1, w.le w1 ∧ Ok G κ w1 s1 σ H1 ∧ rep w1 v d ∧ PostG G W rep' κ w1 σ (k d s1) Q) := by
  cases r with
  | ok d s' => exact fun w' v H' l o r => ⟨d, s', w', l, o, r, PostG.mono l h⟩
  | exc x s' => exact h
  | stuck => exact h
theorem PostS.mono {r : Res DS Out} {N : Ends} (le : w.le w1) (h : PostS G W κ w r N) : PostS G W κ w1 r N := by
  cases r with
  | ok o s' =>
    cases o with
    | nx => exact fun w' σ' H' l o => h w' σ' H' (le.trans l) o
    | bk => exact fun w' σ' H' l o => h w' σ' H' (le.trans l) o
    | ct => exact fun w' σ' H' l o => h w' σ' H' (le.trans l) o
    | rt d => exact fun w' σ' v H' l o r => h w' σ' v H' (le.trans l) o r
  | exc x s' => exact fun w' σ' c dd H' l o r => h w' σ' c dd H' (le.trans l) o r
  | stuck => exact h
/-- an expression, then a statement's end -/
theorem PostG.bindS {r : Res DS α} {k : α → DS → Res DS Out} {N : Ends} (h : PostS G W κ w (r.bind k) N) :
    PostG G W rep κ w σ r (fun v H1 => ∃ d s1 w1, w.le w1 ∧ Ok G κ w1 s1 σ H1 ∧ rep w1 v d ∧ PostS G W κ w1 (k d s1) N) := by
  cases r with
  | ok d s' => exact fun w' v H' l o r => ⟨d, s', w', l, o, r, PostS.mono l h⟩
  | exc x s' => exact fun w' c dd H' l o r => h w' σ c dd H' l o r
  | stuck => exact h
end
theorem _root_.L2.PE.imp {X : Cx} {e : Expr} {t t' : TE} (h : PE X e t) (k : ∀ σ H Q, t' σ H Q → t σ H Q) : PE X e t' := ⟨fun pins s σ H Q I q => h.run pins s σ H Q I (k σ H Q q)⟩
theorem _root_.L2.PT.imp {X : Cx} {e : Expr} {t t' : TT} (h : PT X e t) (k : ∀ σ H Q, t' σ H Q → t σ H Q) : PT X e t' := ⟨fun pins s σ H Q I q => h.run pins s σ H Q I (k σ H Q q)⟩
theorem _root_.L2.PA.imp {X : Cx} {e : List Expr} {t t' : TA} (h : PA X e t) (k : ∀ σ H Q, t' σ H Q → t σ H Q) : PA X e t' := ⟨fun pos pins s σ H Q I q => h.run pos pins s σ H Q I (k σ H Q q)⟩
theorem _root_.L2.PS.imp {X : Cx} {e : Stmt} {t t' : TS} (h : PS X e t) (k : ∀ D σ H, t' D σ H → t D σ H) : PS X e t' := ⟨fun pins s σ H D I q => h.run pins s σ H D I (k D σ H q)⟩
theorem _root_.L2.PSs.imp {X : Cx} {e : List Stmt} {t t' : TS} (h : PSs X e t) (k : ∀ D σ H, t' D σ H → t D σ H) : PSs X e t' := ⟨fun pins s σ H D I q => h.run pins s σ H D I (k D σ H q)⟩
abbrev PD (G : Gam) (W : WX) (X : Cx) (e : Expr) (f : DE) : Prop := PE X e (tD G W f)
abbrev PDT (G : Gam) (W : WX) (X : Cx) (e : Expr) (f : DT) : Prop := PT X e (tDT G W f)
abbrev PDA (G : Gam) (W : WX) (X : Cx) (es : List Expr) (f : DA) : Prop := PA X es (tDA G W f)
abbrev PDS (G : Gam) (W : WX) (X : Cx) (st : Stmt) (f : DStm) : Prop := PS X st (tDS G W f)
abbrev PDSs (G : Gam) (W : WX) (X : Cx) (st : List Stmt) (f : DStm) : Prop := PSs X st (tDS G W f)
section
variable {G : Gam} {W : WX} {X : Cx}
/-! ### constants, names -/
def eC (d : D) : DE := fun s => .ok d s
theorem pd_c {e : Expr} {v : V} {d : D} (h : PE X e (tC v)) (r : ∀ w, Rep G w v d) : PD G W X e (eC d) :=
  h.imp fun σ H Q ⟨κ, w, s, ok, q⟩ => q w v H (.refl w) ok (r w)
theorem pd_int {i : Int} {j : Nat} {pos : Pos} : PD G W X (.Constant (.int i) j pos) (eC (.int i)) := pd_c pe_int fun _ => .int i
theorem pd_bl {b : Bool} {j : Nat} {pos : Pos} : PD G W X (.Constant (.bool b) j pos) (eC (.bl b)) := pd_c pe_bl fun _ => .bl b
theorem pd_non {j : Nat} {pos : Pos} : PD G W X (.Constant .none j pos) (eC .non) := pd_c pe_non fun _ => .non
theorem pd_str {x : Str} {l : Nm} {j : Nat} {pos : Pos} (h : x = nm l) : PD G W X (.Constant (.str x) j pos) (eC (.str l)) := pd_c pe_str fun _ => by rw [h]; exact .str l
theorem pd_glob {x : Str} {v : V} {u : Value} {d : D} {pos : Pos} (hg : Gl X x) (hm : X.mg x = some u) (r : RelV v u) (rd : ∀ w, Rep G w v d) (hd : (x == ("__debug__" : Str)) = false := by decide) : PD G W X (.Name x pos) (eC d) :=
  pd_c (pe_glob hg hm r hd) rd
def eVar (i : Nat) : DE := fun s => match s.sl[i]? with
  | some (.val d) => .ok d s
  | some (.ol xs) => .ok (.lst xs) ⟨s.sl.set i (.val (.lst xs)), s.st⟩
  | some (.od kvs) => .ok (.dic kvs) ⟨s.sl.set i (.val (.dic kvs)), s.st⟩
  | some (.ot kvs) => .ok (.dct kvs) ⟨s.sl.set i (.val (.dct kvs)), s.st⟩
  | some (.oi c fs) => .ok (.ins c fs) ⟨s.sl.set i (.val (.ins c fs)), s.st⟩
  | _ => .stuck
theorem Ok.freeze {κ : Bs} {w : Wd} {s : DS} {σ : L2.St} {H : Hp} (h : Ok G κ w s σ H) {i : Nat} {x : Sl} {a : Addr} {o : HO} {d : D} (hx : s.sl[i]? = some x) (own : x.own = true) (ha : σ[i]? = some (some (.ref a)))
    (ho : H a = some o) (hd : ∀ w' : Wd, w.le w' → w'.F a = some o → Rep G w' (.ref a) d) :
    w.le ⟨upd w.F a o, w.ρ⟩ ∧ Ok G κ ⟨upd w.F a o, w.ρ⟩ ⟨s.sl.set i (.val d), s.st⟩ σ H := by
  obtain ⟨a', h1, h2, h3, h4, h5⟩ := h.own i x hx own
  rw [ha] at h1
  cases h1
  have le : w.le ⟨upd w.F a o, w.ρ⟩ := ⟨fun b u e => by
    show upd w.F a o b = some u
    rw [upd_ne (ne_of_none e h3)]
    exact e, List.prefix_refl _⟩
  have hil : i < s.sl.length := (List.getElem?_eq_some_iff.mp hx).1
  have sub : ∀ (b : Addr) (u : HO), upd w.F a o b = some u → H b = some u := fun b u e => by
    by_cases z : b = a
    · subst z
      rw [upd_same] at e
      cases e
      exact ho
    · rw [upd_ne z] at e
      exact h.fok.sub b u e
  have fok : FOk G ⟨upd w.F a o, w.ρ⟩ s.st H := ⟨sub, h.fok.len, fun n b c e1 e2 => (h.fok.cel n b c e1 e2).mono le rfl, h.fok.nd, fun b hb => by
    show upd w.F a o b = none
    rw [upd_ne (show b ≠ a from fun z => h4 (by rw [← z]; exact hb))]
    exact h.fok.nf b hb⟩
  refine ⟨le, ⟨fok, ⟨h.nx.le.trans le, h.nx.keep, fun b q => ?_, h.nx.newR⟩, by rw [List.length_set]; exact h.len, fun j e hj => ?_, fun j y hj oy => ?_, fun j k y z b hj hk oy oz e1 e2 => ?_, fun p hp => ?_, fun b hb c fs e => ?_⟩⟩
  · by_cases z : b = a
    · subst z; exact .inr h5
    · have q : upd w.F a o b ≠ none := q
      rw [upd_ne z] at q
      exact h.nx.newF b q
  · by_cases z : j = i
    · subst z
      rw [List.getElem?_set_self hil] at hj
      cases hj
      exact ⟨_, ha, hd _ le upd_same⟩
    · rw [List.getElem?_set_ne (Ne.symm z)] at hj
      obtain ⟨v, q1, q2⟩ := h.val j e hj
      exact ⟨v, q1, q2.mono le⟩
  · by_cases z : j = i
    · subst z
      rw [List.getElem?_set_self hil] at hj
      cases hj
      cases oy
    · rw [List.getElem?_set_ne (Ne.symm z)] at hj
      obtain ⟨b, q1, q2, q3, q4, q5⟩ := h.own j y hj oy
      refine ⟨b, q1, q2.mono le rfl, ?_, q4, q5⟩
      show upd w.F a o b = none
      rw [upd_ne (show b ≠ a from fun e => z (h.ne j i y x b hj hx oy own q1 (by rw [e]; exact ha)))]
      exact q3
  · have nj : j ≠ i := fun z => by
      subst z
      rw [List.getElem?_set_self hil] at hj
      cases hj
      cases oy
    have nk : k ≠ i := fun z => by
      subst z
      rw [List.getElem?_set_self hil] at hk
      cases hk
      cases oz
    rw [List.getElem?_set_ne (Ne.symm nj)] at hj
    rw [List.getElem?_set_ne (Ne.symm nk)] at hk
    exact h.ne j k y z b hj hk oy oz e1 e2
  · obtain ⟨q1, q2, q3, q4, q5⟩ := h.gam p hp
    refine ⟨q1, ?_, q3, q4, fun j y hj oy => ?_⟩
    · show upd w.F a o p.1 = none
      rw [upd_ne (show p.1 ≠ a from fun e => q5 i x hx own (by rw [ha, e]))]
      exact q2
    · have nj : j ≠ i := fun z => by
        subst z
        rw [List.getElem?_set_self hil] at hj
        cases hj
        cases oy
      rw [List.getElem?_set_ne (Ne.symm nj)] at hj
      exact q5 j y hj oy
  · by_cases z : i = 0
    · subst z
      rw [List.getElem?_set_self hil] at e
      cases e
    · rw [List.getElem?_set_ne z] at e
      exact h.me b hb c fs e
theorem pd_var {i : Nat} {x : Str} {pos : Pos} (h : PE X (.Name x pos) (tVar i)) : PD G W X (.Name x pos) (eVar i) := h.imp fun σ H Q ⟨κ, w, s, ok, q⟩ => by
  unfold eVar at q
  cases e : s.sl[i]? with
  | none => rw [e] at q; exact q.elim
  | some x =>
    rw [e] at q
    cases x with
    | un => exact q.elim
    | val d =>
      obtain ⟨v, h1, h2⟩ := ok.val i d e
      exact ⟨v, h1, q w v H (.refl w) ok h2⟩
    | ol xs =>
      obtain ⟨a, h1, ⟨vs, h2, h3⟩, _⟩ := ok.own i _ e rfl
      obtain ⟨le, ok'⟩ := ok.freeze (d := .lst xs) e rfl h1 h2 fun w' l f => .lst f (h3.mono l)
      exact ⟨_, h1, q _ _ H le ok' (.lst upd_same (h3.mono le))⟩
    | od xs =>
      obtain ⟨a, h1, ⟨vs, h2, h3⟩, _⟩ := ok.own i _ e rfl
      obtain ⟨le, ok'⟩ := ok.freeze (d := .dic xs) e rfl h1 h2 fun w' l f => .dic f (h3.mono l)
      exact ⟨_, h1, q _ _ H le ok' (.dic upd_same (h3.mono le))⟩
    | ot xs =>
      obtain ⟨a, h1, ⟨es, ep, h2, h3, h4, h5⟩, _⟩ := ok.own i _ e rfl
      obtain ⟨le, ok'⟩ := ok.freeze (d := .dct xs) e rfl h1 h2 fun w' l f => .dct f (h3.mono l) h4 h5
      exact ⟨_, h1, q _ _ H le ok' (.dct upd_same (h3.mono le) h4 h5)⟩
    | oi c fs =>
      obtain ⟨a, h1, ⟨C, dx, vs, hC, h2, h3⟩, _⟩ := ok.own i _ e rfl
      obtain ⟨le, ok'⟩ := ok.freeze (d := .ins c fs) e rfl h1 h2 fun w' l f => .ins hC f (h3.mono l)
      exact ⟨_, h1, q _ _ H le ok' (.ins hC upd_same (h3.mono le))⟩
/-! ### operators -/
def eOp2 (o : D → D → Option D) (fa fb : DE) : DE := fun s => (fa s).bind fun x s1 => (fb s1).bind fun y s2 => match o x y with
  | some d => .ok d s2
  | none => .stuck
/-- an operator by data -/
def OpD (G : Gam) (X : Cx) (f : Value → Value → Sem Value) (o : D → D → Option D) : Prop := ∃ r, OpR X f r ∧ ∀ (κ : Bs) (w : Wd) (s : DS) (σ : L2.St) (H : Hp) (x y : V) (dx dy d : D) (Q : VK),
  Ok G κ w s σ H → Rep G w x dx → Rep G w y dy → o dx dy = some d → (∀ w' v H', w.le w' → Ok G κ w' s σ H' → Rep G w' v d → Q v H') → r x y H Q
theorem op2 {r : R2} {o : D → D → Option D} {fa fb : DE} {σ : L2.St} {H : Hp} {Q : VK}
    (hr : ∀ (κ : Bs) (w : Wd) (s : DS) (σ : L2.St) (H : Hp) (x y : V) (dx dy d : D) (Q : VK), Ok G κ w s σ H → Rep G w x dx → Rep G w y dy → o dx dy = some d → (∀ w' v H', w.le w' → Ok G κ w' s σ H' → Rep G w' v d → Q v H') → r x y H Q)
    (h : tD G W (eOp2 o fa fb) σ H Q) : tOp r (tD G W fa) (tD G W fb) σ H Q := by
  obtain ⟨κ, w, s, ok, q⟩ := h
  refine ⟨κ, w, s, ok, (PostG.bind q).imp fun v H1 ⟨d, s1, w1, le, ok1, r1, q1⟩ => ?_⟩
  refine ⟨κ, w1, s1, ok1, (PostG.bind q1).imp fun v2 H2 ⟨d2, s2, w2, le2, ok2, r2, q2⟩ => ?_⟩
  cases e : o d d2 with
  | none => rw [e] at q2; exact q2.elim
  | some z => rw [e] at q2; exact hr κ w2 s2 σ H2 v v2 d d2 z Q ok2 (r1.mono le2) r2 e q2
theorem pd_op {op : Operator} {o : D → D → Option D} {a b : Expr} {fa fb : DE} {pos : Pos} (ho : OpD G X (binaryOp op) o) (ha : PD G W X a fa) (hb : PD G W X b fb) : PD G W X (.BinOp a op b pos) (eOp2 o fa fb) := by
  obtain ⟨r, h1, h2⟩ := ho
  exact (pe_op h1 ha hb).imp fun σ H Q h => op2 h2 h
theorem pd_cmp {op : CmpOp} {o : D → D → Option D} {a b : Expr} {fa fb : DE} {pos : Pos} (ho : OpD G X (compareOp op) o) (ha : PD G W X a fa) (hb : PD G W X b fb) (hm : behindInMarks op b = false) : PD G W X (.Compare a [op] [b] pos) (eOp2 o fa fb) := by
  obtain ⟨r, h1, h2⟩ := ho
  exact (pe_cmpR h1 ha hb hm).imp fun σ H Q h => op2 h2 h
/-- a value that is a bool, as a test -/
def eB (f : DE) : DT := fun s => (f s).bind fun d s1 => match d with
  | .bl b => .ok b s1
  | _ => .stuck
theorem tB_of {f : DE} {σ : L2.St} {H : Hp} {Q : Bool → Hp → Prop} (h : tDT G W (eB f) σ H Q) : tD G W f σ H fun x H1 => ∃ c, x = .bl c ∧ Q c H1 := by
  obtain ⟨κ, w, s, ok, q⟩ := h
  refine ⟨κ, w, s, ok, (PostG.bind q).imp fun v H1 ⟨d, s1, w1, le, ok1, r1, q1⟩ => ?_⟩
  cases r1 with
  | bl b => exact ⟨b, rfl, q1 w1 b H1 (.refl _) ok1 rfl⟩
  | _ => exact q1.elim
theorem ptd_val {e : Expr} {f : DE} (h : PD G W X e f) (he : ∀ whole, isTrue e X.env whole = (do let v ← whole; standAt e.pos; holding [v] (truthy v)) := by intro _; rfl) : PDT G W X e (eB f) :=
  (pt_val h he).imp fun σ H Q q => tB_of q
theorem ptd_cmp {op : CmpOp} {o : D → D → Option D} {a b : Expr} {fa fb : DE} {pos : Pos} (ho : OpD G X (compareOp op) o) (ha : PD G W X a fa) (hb : PD G W X b fb) (hm : behindInMarks op b = false) : PDT G W X (.Compare a [op] [b] pos) (eB (eOp2 o fa fb)) := by
  obtain ⟨r, h1, h2⟩ := ho
  exact (pt_cmpR h1 ha hb hm).imp fun σ H Q h => op2 h2 (tB_of h)
/-! ### and, or, not, if -/
def bAnd (f g : DT) : DT := fun s => (f s).bind fun b s1 => if b = true then g s1 else .ok false s1
def bOr (f g : DT) : DT := fun s => (f s).bind fun b s1 => if b = true then .ok true s1 else g s1
def bNot (f : DT) : DT := fun s => (f s).bind fun b s1 => .ok (!b) s1
abbrev PDW (G : Gam) (W : WX) (X : Cx) (e : Expr) (f : DT) : Prop := PW X e (tDT G W f)
theorem _root_.L2.PW.imp {X : Cx} {e : Expr} {t t' : TT} (h : PW X e t) (k : ∀ σ H Q, t' σ H Q → t σ H Q) : PW X e t' := ⟨fun wh pins s σ H Q I q => h.run wh pins s σ H Q I (k σ H Q q)⟩
theorem pwd_and1 {a : Expr} {f : DT} {pos : Pos} (h : PDT G W X a f) : PDW G W X (.BoolOp .And [a] pos) f := pw_and1 h
theorem pwd_or1 {a : Expr} {f : DT} {pos : Pos} (h : PDT G W X a f) : PDW G W X (.BoolOp .Or [a] pos) f := pw_or1 h
theorem pwd_and {a b : Expr} {r : List Expr} {f g : DT} {pos : Pos} (h : PDT G W X a f) (k : PDW G W X (.BoolOp .And (b :: r) pos) g) : PDW G W X (.BoolOp .And (a :: b :: r) pos) (bAnd f g) :=
  (pw_and h k).imp fun σ H Q ⟨κ, w, s, ok, q⟩ => ⟨κ, w, s, ok, (PostG.bind q).imp fun v H1 ⟨d, s1, w1, le, ok1, r1, q1⟩ => by
    subst r1
    cases v with
    | true => exact ⟨κ, w1, s1, ok1, q1⟩
    | false => exact q1 w1 false H1 (.refl _) ok1 rfl⟩
theorem pwd_or {a b : Expr} {r : List Expr} {f g : DT} {pos : Pos} (h : PDT G W X a f) (k : PDW G W X (.BoolOp .Or (b :: r) pos) g) : PDW G W X (.BoolOp .Or (a :: b :: r) pos) (bOr f g) :=
  (pw_or h k).imp fun σ H Q ⟨κ, w, s, ok, q⟩ => ⟨κ, w, s, ok, (PostG.bind q).imp fun v H1 ⟨d, s1, w1, le, ok1, r1, q1⟩ => by
    subst r1
    cases v with
    | false => exact ⟨κ, w1, s1, ok1, q1⟩
    | true => exact q1 w1 true H1 (.refl _) ok1 rfl⟩
theorem ptd_not {a : Expr} {f : DT} {pos : Pos} (h : PDT G W X a f) : PDT G W X (.UnaryOp .Not a pos) (bNot f) :=
  (pt_not h).imp fun σ H Q ⟨κ, w, s, ok, q⟩ => ⟨κ, w, s, ok, (PostG.bind q).imp fun v H1 ⟨d, s1, w1, le, ok1, r1, q1⟩ => by
    subst r1
    exact q1 w1 _ H1 (.refl _) ok1 rfl⟩
/-- as values -/
def eAnd (f g : DE) : DE := fun s => (f s).bind fun d s1 => match d with
  | .bl b => if b = true then g s1 else .ok (.bl false) s1
  | _ => .stuck
def eOr (f g : DE) : DE := fun s => (f s).bind fun d s1 => match d with
  | .bl b => if b = true then .ok (.bl true) s1 else g s1
  | _ => .stuck
def eNot (f : DE) : DE := fun s => (f s).bind fun d s1 => match d with
  | .bl b => .ok (.bl (!b)) s1
  | _ => .stuck
theorem pd_one {op : PySem.BoolOp} {a : Expr} {f : DE} {pos : Pos} (h : PD G W X a f) : PD G W X (.BoolOp op [a] pos) f := pe_one h
theorem pd_and {a b : Expr} {r : List Expr} {f g : DE} {pos : Pos} (h : PD G W X a f) (k : PD G W X (.BoolOp .And (b :: r) pos) g) : PD G W X (.BoolOp .And (a :: b :: r) pos) (eAnd f g) :=
  (pe_and h k).imp fun σ H Q ⟨κ, w, s, ok, q⟩ => ⟨κ, w, s, ok, (PostG.bind q).imp fun v H1 ⟨d, s1, w1, le, ok1, r1, q1⟩ => by
    cases r1 with
    | bl b =>
      refine ⟨b, rfl, ?_⟩
      cases b with
      | true => exact ⟨κ, w1, s1, ok1, q1⟩
      | false => exact q1 w1 _ H1 (.refl _) ok1 (.bl false)
    | _ => exact q1.elim⟩
theorem pd_or {a b : Expr} {r : List Expr} {f g : DE} {pos : Pos} (h : PD G W X a f) (k : PD G W X (.BoolOp .Or (b :: r) pos) g) : PD G W X (.BoolOp .Or (a :: b :: r) pos) (eOr f g) :=
  (pe_or h k).imp fun σ H Q ⟨κ, w, s, ok, q⟩ => ⟨κ, w, s, ok, (PostG.bind q).imp fun v H1 ⟨d, s1, w1, le, ok1, r1, q1⟩ => by
    cases r1 with
    | bl b =>
      refine ⟨b, rfl, ?_⟩
      cases b with
      | false => exact ⟨κ, w1, s1, ok1, q1⟩
      | true => exact q1 w1 _ H1 (.refl _) ok1 (.bl true)
    | _ => exact q1.elim⟩
theorem pd_not {a : Expr} {f : DE} {pos : Pos} (h : PD G W X a f) : PD G W X (.UnaryOp .Not a pos) (eNot f) :=
  (pe_not h).imp fun σ H Q ⟨κ, w, s, ok, q⟩ => ⟨κ, w, s, ok, (PostG.bind q).imp fun v H1 ⟨d, s1, w1, le, ok1, r1, q1⟩ => by
    cases r1 with
    | bl b => exact ⟨b, rfl, q1 w1 _ H1 (.refl _) ok1 (.bl _)⟩
    | _ => exact q1.elim⟩
def eIf (c : DT) (f g : DE) : DE := fun s => (c s).bind fun b s1 => if b = true then f s1 else g s1
theorem pd_ifExp {c a b : Expr} {fc : DT} {f g : DE} {pos : Pos} (hc : PDT G W X c fc) (h : PD G W X a f) (k : PD G W X b g) : PD G W X (.IfExp c a b pos) (eIf fc f g) :=
  (pe_ifExp hc h k).imp fun σ H Q ⟨κ, w, s, ok, q⟩ => ⟨κ, w, s, ok, (PostG.bind q).imp fun v H1 ⟨d, s1, w1, le, ok1, r1, q1⟩ => by
    subst r1
    cases v with
    | true => exact ⟨κ, w1, s1, ok1, q1⟩
    | false => exact ⟨κ, w1, s1, ok1, q1⟩⟩
/-! ### argument lists -/
def aNil : DA := fun s => .ok [] s
def aCons (f : DE) (g : DA) : DA := fun s => (f s).bind fun d s1 => (g s1).bind fun ds s2 => .ok (d :: ds) s2
theorem pda_nil : PDA G W X [] aNil := pa_nil.imp fun σ H Q ⟨κ, w, s, ok, q⟩ => q w [] H (.refl _) ok .nil
theorem pda_cons {e : Expr} {es : List Expr} {f : DE} {g : DA} (h : PD G W X e f) (k : PDA G W X es g) (hs : starEach (e :: es) X.env = (false, eval e X.env) :: starEach es X.env := by rfl) : PDA G W X (e :: es) (aCons f g) :=
  (pa_cons h k hs).imp fun σ H Q ⟨κ, w, s, ok, q⟩ => ⟨κ, w, s, ok, (PostG.bind q).imp fun v H1 ⟨d, s1, w1, le, ok1, r1, q1⟩ =>
    ⟨κ, w1, s1, ok1, (PostG.bind q1).imp fun v2 H2 ⟨d2, s2, w2, le2, ok2, r2, q2⟩ => q2 w2 _ H2 (.refl _) ok2 (.cons (r1.mono le2) r2)⟩⟩
/-! ### tuples, lists -/
def eTup (g : DA) : DE := fun s => (g s).bind fun ds s1 => if ds.length ≤ 1000 then .ok (.tup ds) s1 else .stuck
theorem sz1000 {n : Nat} (h : n ≤ 1000) : n ≤ sizeLine := Nat.le_of_lt (small1000 h)
theorem pd_tup {es : List Expr} {k : Nat} {g : DA} {pos : Pos} (h : PDA G W X es g) : PD G W X (.Tuple es k pos) (eTup g) :=
  (pe_tup h).imp fun σ H Q ⟨κ, w, s, ok, q⟩ => ⟨κ, w, s, ok, (PostG.bind q).imp fun v H1 ⟨d, s1, w1, le, ok1, r1, q1⟩ => by
    by_cases c : d.length ≤ 1000
    · rw [if_pos c] at q1
      refine ⟨by rw [r1.length]; exact sz1000 c, fun p hp => ?_⟩
      obtain ⟨le2, ok2⟩ := ok1.alloc hp (.tup v)
      exact q1 _ _ _ le2 ok2 (.tup (.inl (.inl upd_same)) (r1.mono le2))
    · rw [if_neg c] at q1
      exact q1.elim⟩
end
end DL
set_option maxRecDepth 100000
set_option maxHeartbeats 4000000
set_option autoImplicit false
namespace DL
open PySem PySem.Spec PyProof.Rows L2
section
variable {G : Gam} {W : WX} {X : Cx} {κ : Bs} {w : Wd} {s : DS} {σ : L2.St} {H : Hp}
/-- an object set apart -/
abbrev Bs.plus (κ : Bs) (a : Addr) (o : HO) : Bs := ⟨κ.B, κ.H, (a, o) :: κ.γ, κ.me⟩
theorem Ok.back (h : Ok G κ w s σ H) {p : Addr} (hp : H p = none) : κ.H p = none := by
  cases e : κ.H p with
  | none => rfl
  | some o =>
    by_cases hx : p ∈ κ.B.ρ
    · obtain ⟨o', q⟩ := h.fok.rho (h.nx.le.r.subset hx)
      rw [q] at hp; cases hp
    · rw [h.nx.keep p o e hx] at hp; cases hp
/-- a new object, set apart -/
theorem Ok.fresh (h : Ok G κ w s σ H) {p : Addr} (hp : H p = none) (o : HO) : Ok G (κ.plus p o) w s σ (upd H p o) := by
  have ne : ∀ {a : Addr} {u : HO}, H a = some u → a ≠ p := fun e => ne_of_none e hp
  have nF : w.F p = none := by
    cases e : w.F p with
    | none => rfl
    | some u => rw [h.fok.sub p u e] at hp; cases hp
  have nR : p ∉ w.ρ := fun q => by
    obtain ⟨u, e⟩ := h.fok.rho q
    rw [e] at hp; cases hp
  refine ⟨⟨fun a u e => ?_, h.fok.len, fun n a c e1 e2 => ?_, h.fok.nd, h.fok.nf⟩, ⟨h.nx.le, fun a u e n => ?_, h.nx.newF, h.nx.newR⟩, h.len, h.val, fun i x e o' => ?_, h.ne, fun q hq => ?_, h.me⟩
  · rw [upd_ne (ne (h.fok.sub a u e))]
    exact h.fok.sub a u e
  · obtain ⟨u, q⟩ := (h.fok.cel n a c e1 e2).there
    exact (h.fok.cel n a c e1 e2).mono (.refl _) (upd_ne (ne q))
  · rw [upd_ne (ne (h.nx.keep a u e n))]
    exact h.nx.keep a u e n
  · obtain ⟨a, h1, h2, h3, h4, h5⟩ := h.own i x e o'
    obtain ⟨u, q⟩ := h2.there
    exact ⟨a, h1, h2.mono (.refl _) (upd_ne (ne q)), h3, h4, h5⟩
  · rcases List.mem_cons.mp hq with rfl | hq
    · refine ⟨upd_same, nF, nR, h.back hp, fun i x e o' z => ?_⟩
      obtain ⟨a, h1, h2, _⟩ := h.own i x e o'
      rw [h1] at z
      cases z
      obtain ⟨u, q⟩ := h2.there
      exact ne q rfl
    · obtain ⟨h1, h2⟩ := h.gam q hq
      exact ⟨by rw [upd_ne (ne h1)]; exact h1, h2⟩
theorem Ok.unplus {a : Addr} {o : HO} (h : Ok G (κ.plus a o) w s σ H) : Ok G κ w s σ H := ⟨h.fok, h.nx, h.len, h.val, h.own, h.ne, fun p hp => h.gam p (List.mem_cons_of_mem _ hp), h.me⟩
/-- what was set apart is frozen (its address is not set apart twice) -/
theorem Ok.frz {a : Addr} {o : HO} (h : Ok G (κ.plus a o) w s σ H) (hγ : ∀ p ∈ κ.γ, p.1 ≠ a) : w.le ⟨upd w.F a o, w.ρ⟩ ∧ Ok G κ ⟨upd w.F a o, w.ρ⟩ s σ H := by
  obtain ⟨ho, h3, h4, h5, h6⟩ := h.gam (a, o) List.mem_cons_self
  have le : w.le ⟨upd w.F a o, w.ρ⟩ := ⟨fun b u e => by
    show upd w.F a o b = some u
    rw [upd_ne (ne_of_none e h3)]
    exact e, List.prefix_refl _⟩
  have sub : ∀ (b : Addr) (u : HO), upd w.F a o b = some u → H b = some u := fun b u e => by
    by_cases z : b = a
    · subst z
      rw [upd_same] at e
      cases e
      exact ho
    · rw [upd_ne z] at e
      exact h.fok.sub b u e
  refine ⟨le, ⟨⟨sub, h.fok.len, fun n b c e1 e2 => (h.fok.cel n b c e1 e2).mono le rfl, h.fok.nd, fun b hb => ?_⟩, ⟨h.nx.le.trans le, h.nx.keep, fun b q => ?_, h.nx.newR⟩, h.len, fun i d e => ?_, fun i x e o' => ?_, h.ne, fun p hp => ?_, h.me⟩⟩
  · show upd w.F a o b = none
    rw [upd_ne (show b ≠ a from fun z => h4 (by rw [← z]; exact hb))]
    exact h.fok.nf b hb
  · by_cases z : b = a
    · subst z; exact .inr h5
    · have q : upd w.F a o b ≠ none := q
      rw [upd_ne z] at q
      exact h.nx.newF b q
  · obtain ⟨v, h1, h2⟩ := h.val i d e
    exact ⟨v, h1, h2.mono le⟩
  · obtain ⟨b, q1, q2, q3, q4, q5⟩ := h.own i x e o'
    refine ⟨b, q1, q2.mono le rfl, ?_, q4, q5⟩
    show upd w.F a o b = none
    rw [upd_ne (show b ≠ a from fun z => h6 i x e o' (by rw [q1, z]))]
    exact q3
  · obtain ⟨q1, q2, q3⟩ := h.gam p (List.mem_cons_of_mem _ hp)
    refine ⟨q1, ?_, q3⟩
    show upd w.F a o p.1 = none
    rw [upd_ne (hγ p hp)]
    exact q2
/-- a slot is set -/
theorem Ok.setVal (h : Ok G κ w s σ H) {v : V} {d : D} (r : Rep G w v d) (i : Nat) : Ok G κ w ⟨s.sl.set i (.val d), s.st⟩ (σ.set i (some v)) H := by
  have back : ∀ (j : Nat) (x : Sl), (s.sl.set i (.val d))[j]? = some x → (j = i ∧ x = .val d ∧ i < s.sl.length) ∨ (j ≠ i ∧ s.sl[j]? = some x) := fun j x e => by
    by_cases z : j = i
    · subst z
      have hl : j < s.sl.length := by
        have := (List.getElem?_eq_some_iff.mp e).1
        rwa [List.length_set] at this
      rw [List.getElem?_set_self hl] at e
      exact .inl ⟨rfl, (Option.some.inj e).symm, hl⟩
    · rw [List.getElem?_set_ne (Ne.symm z)] at e
      exact .inr ⟨z, e⟩
  refine ⟨h.fok, h.nx, by rw [List.length_set, List.length_set]; exact h.len, fun j e hj => ?_, fun j x hj o => ?_, fun j k x y a hj hk ox oy e1 e2 => ?_, fun p hp => ?_, fun b hb c fs e => ?_⟩
  · rcases back j _ hj with ⟨rfl, q, hl⟩ | ⟨z, hj⟩
    · cases q
      exact ⟨v, List.getElem?_set_self (by rw [← h.len]; exact hl), r⟩
    · rw [List.getElem?_set_ne (Ne.symm z)]
      exact h.val j e hj
  · rcases back j _ hj with ⟨rfl, q, hl⟩ | ⟨z, hj⟩
    · subst q; cases o
    · rw [List.getElem?_set_ne (Ne.symm z)]
      exact h.own j x hj o
  · rcases back j _ hj with ⟨rfl, q, hl⟩ | ⟨z, hj⟩
    · subst q; cases ox
    · rcases back k _ hk with ⟨rfl, q, hl⟩ | ⟨z', hk⟩
      · subst q; cases oy
      · rw [List.getElem?_set_ne (Ne.symm z)] at e1
        rw [List.getElem?_set_ne (Ne.symm z')] at e2
        exact h.ne j k x y a hj hk ox oy e1 e2
  · obtain ⟨q1, q2, q3, q4, q5⟩ := h.gam p hp
    refine ⟨q1, q2, q3, q4, fun j x hj o => ?_⟩
    rcases back j _ hj with ⟨rfl, q, hl⟩ | ⟨z, hj⟩
    · subst q; cases o
    · rw [List.getElem?_set_ne (Ne.symm z)]
      exact q5 j x hj o
  · rcases back 0 _ e with ⟨z, q, hl⟩ | ⟨z, e⟩
    · cases q
    · rw [List.getElem?_set_ne (Ne.symm z)]
      exact h.me b hb c fs e
/-- a slot gets what was set apart -/
theorem Ok.setOwn {a : Addr} {o : HO} (h : Ok G (κ.plus a o) w s σ H) (hγ : ∀ p ∈ κ.γ, p.1 ≠ a) {y : Sl} (hy : OwnOk G w H a y) (oy : y.own = true) (hy0 : ∀ c fs, y ≠ .oi c fs) (i : Nat) : Ok G κ w ⟨s.sl.set i y, s.st⟩ (σ.set i (some (.ref a))) H := by
  obtain ⟨ho, h3, h4, h5, h6⟩ := h.gam (a, o) List.mem_cons_self
  have back : ∀ (j : Nat) (x : Sl), (s.sl.set i y)[j]? = some x → (j = i ∧ x = y ∧ i < s.sl.length) ∨ (j ≠ i ∧ s.sl[j]? = some x) := fun j x e => by
    by_cases z : j = i
    · subst z
      have hl : j < s.sl.length := by
        have := (List.getElem?_eq_some_iff.mp e).1
        rwa [List.length_set] at this
      rw [List.getElem?_set_self hl] at e
      exact .inl ⟨rfl, (Option.some.inj e).symm, hl⟩
    · rw [List.getElem?_set_ne (Ne.symm z)] at e
      exact .inr ⟨z, e⟩
  refine ⟨h.fok, h.nx, by rw [List.length_set, List.length_set]; exact h.len, fun j e hj => ?_, fun j x hj o' => ?_, fun j k x z b hj hk ox oz e1 e2 => ?_, fun p hp => ?_, fun b hb c fs e => ?_⟩
  · rcases back j _ hj with ⟨rfl, q, hl⟩ | ⟨z, hj⟩
    · subst q; cases oy
    · rw [List.getElem?_set_ne (Ne.symm z)]
      exact h.val j e hj
  · rcases back j _ hj with ⟨rfl, q, hl⟩ | ⟨z, hj⟩
    · subst q
      exact ⟨a, List.getElem?_set_self (by rw [← h.len]; exact hl), hy, h3, h4, h5⟩
    · rw [List.getElem?_set_ne (Ne.symm z)]
      exact h.own j x hj o'
  · rcases back j _ hj with ⟨ej, q, hl⟩ | ⟨zj, hj⟩
    · rcases back k _ hk with ⟨ek, q', hl'⟩ | ⟨zk, hk⟩
      · rw [ej, ek]
      · rw [ej, List.getElem?_set_self (by rw [← h.len]; exact hl)] at e1
        cases e1
        rw [List.getElem?_set_ne (Ne.symm zk)] at e2
        exact absurd e2 (h6 k z hk oz)
    · rcases back k _ hk with ⟨ek, q', hl'⟩ | ⟨zk, hk⟩
      · rw [ek, List.getElem?_set_self (by rw [← h.len]; exact hl')] at e2
        cases e2
        rw [List.getElem?_set_ne (Ne.symm zj)] at e1
        exact absurd e1 (h6 j x hj ox)
      · rw [List.getElem?_set_ne (Ne.symm zj)] at e1
        rw [List.getElem?_set_ne (Ne.symm zk)] at e2
        exact h.ne j k x z b hj hk ox oz e1 e2
  · obtain ⟨q1, q2, q3, q4, q5⟩ := h.gam p (List.mem_cons_of_mem _ hp)
    refine ⟨q1, q2, q3, q4, fun j x hj o' => ?_⟩
    rcases back j _ hj with ⟨ej, q, hl⟩ | ⟨z, hj⟩
    · rw [ej, List.getElem?_set_self (by rw [← h.len]; exact hl)]
      exact fun e => hγ p hp (by cases e; rfl)
    · rw [List.getElem?_set_ne (Ne.symm z)]
      exact q5 j x hj o'
  · rcases back 0 _ e with ⟨z, q, hl⟩ | ⟨z, e⟩
    · exact absurd q.symm (hy0 c fs)
    · rw [List.getElem?_set_ne (Ne.symm z)]
      exact h.me b hb c fs e
/-- the thing of an own slot is changed -/
theorem Ok.mut (h : Ok G κ w s σ H) {i : Nat} {x y : Sl} {a : Addr} {o : HO} (hx : s.sl[i]? = some x) (ox : x.own = true) (oy : y.own = true) (ha : σ[i]? = some (some (.ref a))) (hy : OwnOk G w (upd H a o) a y) (hxy : ∀ c fs, y = .oi c fs → ∃ c' fs', x = .oi c' fs') :
    Ok G κ w ⟨s.sl.set i y, s.st⟩ σ (upd H a o) := by
  obtain ⟨a', h1, h2, h3, h4, h5⟩ := h.own i x hx ox
  rw [ha] at h1
  cases h1
  have hil : i < s.sl.length := (List.getElem?_eq_some_iff.mp hx).1
  have back : ∀ (j : Nat) (z : Sl), (s.sl.set i y)[j]? = some z → (j = i ∧ z = y) ∨ (j ≠ i ∧ s.sl[j]? = some z) := fun j z e => by
    by_cases q : j = i
    · subst q
      rw [List.getElem?_set_self hil] at e
      exact .inl ⟨rfl, (Option.some.inj e).symm⟩
    · rw [List.getElem?_set_ne (Ne.symm q)] at e
      exact .inr ⟨q, e⟩
  refine ⟨⟨fun b u e => ?_, h.fok.len, fun n b c e1 e2 => ?_, h.fok.nd, h.fok.nf⟩, ⟨h.nx.le, fun b u e n => ?_, h.nx.newF, h.nx.newR⟩, by rw [List.length_set]; exact h.len, fun j d hj => ?_, fun j z hj oz => ?_, fun j k z z' b hj hk oz oz' e1 e2 => ?_, fun p hp => ?_, fun b hb c fs e => ?_⟩
  · rw [upd_ne (ne_of_none e h3)]
    exact h.fok.sub b u e
  · exact (h.fok.cel n b c e1 e2).mono (.refl _) (upd_ne fun z => h4 (by rw [← z]; exact List.mem_of_getElem? e1))
  · rw [upd_ne (ne_of_none e h5)]
    exact h.nx.keep b u e n
  · rcases back j _ hj with ⟨rfl, q⟩ | ⟨_, hj⟩
    · subst q; cases oy
    · exact h.val j d hj
  · rcases back j _ hj with ⟨rfl, q⟩ | ⟨nj, hj⟩
    · subst q
      exact ⟨a, ha, hy, h3, h4, h5⟩
    · obtain ⟨b, q1, q2, q3, q4, q5⟩ := h.own j z hj oz
      exact ⟨b, q1, q2.mono (.refl _) (upd_ne fun e => nj (h.ne j i z x b hj hx oz ox q1 (by rw [e]; exact ha))), q3, q4, q5⟩
  · rcases back j _ hj with ⟨ej, q⟩ | ⟨nj, hj⟩
    · rcases back k _ hk with ⟨ek, q'⟩ | ⟨nk, hk⟩
      · rw [ej, ek]
      · rw [ej] at e1 ⊢
        exact h.ne i k x z' b hx hk ox oz' e1 e2
    · rcases back k _ hk with ⟨ek, q'⟩ | ⟨nk, hk⟩
      · rw [ek] at e2 ⊢
        exact h.ne j i z x b hj hx oz ox e1 e2
      · exact h.ne j k z z' b hj hk oz oz' e1 e2
  · obtain ⟨q1, q2, q3, q4, q5⟩ := h.gam p hp
    have np : p.1 ≠ a := fun e => q5 i x hx ox (by rw [ha, e])
    refine ⟨by rw [upd_ne np]; exact q1, q2, q3, q4, fun j z hj oz => ?_⟩
    rcases back j _ hj with ⟨ej, q⟩ | ⟨nj, hj⟩
    · rw [ej, ha]
      exact fun e => np (by cases e; rfl)
    · exact q5 j z hj oz
  · rcases back 0 _ e with ⟨z, q⟩ | ⟨z, e⟩
    · obtain ⟨c', fs', q'⟩ := hxy c fs q.symm
      subst q'
      subst z
      exact h.me b hb c' fs' hx
    · exact h.me b hb c fs e
/-- a cell of the store is changed -/
theorem Ok.cell (h : Ok G κ w s σ H) {n : Nat} {a : Addr} {c : Cell} {o : HO} (ha : w.ρ[n]? = some a) (hc : CellOk G w (upd H a o) a c) : Ok G κ w ⟨s.sl, s.st.set n c⟩ σ (upd H a o) := by
  have hm : a ∈ w.ρ := List.mem_of_getElem? ha
  have hn : n < w.ρ.length := (List.getElem?_eq_some_iff.mp ha).1
  refine ⟨⟨fun b u e => ?_, by rw [List.length_set]; exact h.fok.len, fun k b c' e1 e2 => ?_, h.fok.nd, h.fok.nf⟩, ⟨h.nx.le, fun b u e q => ?_, h.nx.newF, h.nx.newR⟩, h.len, h.val, fun j z hj oz => ?_, h.ne, fun p hp => ?_, h.me⟩
  · rw [upd_ne (ne_of_none e (h.fok.nf a hm))]
    exact h.fok.sub b u e
  · by_cases z : k = n
    · subst z
      rw [ha] at e1
      cases e1
      rw [List.getElem?_set_self (by rw [← h.fok.len]; exact hn)] at e2
      cases e2
      exact hc
    · rw [List.getElem?_set_ne (Ne.symm z)] at e2
      refine (h.fok.cel k b c' e1 e2).mono (.refl _) (upd_ne fun e => z ?_)
      subst e
      exact nodup_ix_any h.fok.nd e1 ha
  · have hbne : b ≠ a := fun e' => by
      subst e'
      rcases h.nx.newR b hm with z | z
      · exact q z
      · rw [e] at z; cases z
    rw [upd_ne hbne]
    exact h.nx.keep b u e q
  · obtain ⟨b, q1, q2, q3, q4, q5⟩ := h.own j z hj oz
    exact ⟨b, q1, q2.mono (.refl _) (upd_ne fun e => q4 (by rw [e]; exact hm)), q3, q4, q5⟩
  · obtain ⟨q1, q2, q3, q4⟩ := h.gam p hp
    exact ⟨by rw [upd_ne fun e => q3 (by rw [e]; exact hm)]; exact q1, q2, q3, q4⟩
where
  nodup_ix_any {l : List Addr} (hN : l.Nodup) {i j : Nat} {x : Addr} (a : l[i]? = some x) (b : l[j]? = some x) : i = j := by
    obtain ⟨h1, e1⟩ := List.getElem?_eq_some_iff.mp a
    obtain ⟨h2, e2⟩ := List.getElem?_eq_some_iff.mp b
    exact (List.getElem_inj hN).mp (e1.trans e2.symm)
end
end DL
set_option maxRecDepth 100000
set_option maxHeartbeats 4000000
set_option autoImplicit false
namespace DL
open PySem PySem.Spec PyProof.Rows L2
section
variable (G : Gam) (W : WX)
/-- a new list of one's own -/
def PostO (κ : Bs) (w : Wd) (σ : L2.St) (r : Res DS (List D)) (Q : VK) : Prop := match r with
  | .ok xs s' => ∀ w' a vs H', w.le w' → Ok G (κ.plus a (.lst vs)) w' s' σ H' → (∀ p ∈ κ.γ, p.1 ≠ a) → Reps G w' vs xs → Q (.ref a) H'
  | .exc x s' => ∀ w' c dd H', w.le w' → Ok G κ w' s' σ H' → RepX G w' c dd x → W c dd σ H'
  | .stuck => False
def tDo (f : DA) : TE := fun σ H Q => ∃ κ w s, Ok G κ w s σ H ∧ PostO G W κ w σ (f s) Q
end
abbrev PDo (G : Gam) (W : WX) (X : Cx) (e : Expr) (f : DA) : Prop := PE X e (tDo G W f)
section
variable {G : Gam} {W : WX} {X : Cx}
theorem PostO.mono {κ : Bs} {w w1 : Wd} {σ : L2.St} {r : Res DS (List D)} {Q : VK} (le : w.le w1) (h : PostO G W κ w σ r Q) : PostO G W κ w1 σ r Q := by
  cases r with
  | ok d s' => exact fun w' a vs H' l o g r => h w' a vs H' (le.trans l) o g r
  | exc x s' => exact fun w' c dd H' l o r => h w' c dd H' (le.trans l) o r
  | stuck => exact h
theorem Ok.apart {κ : Bs} {w : Wd} {s : DS} {σ : L2.St} {H : Hp} (h : Ok G κ w s σ H) {p : Addr} (hp : H p = none) : ∀ q ∈ κ.γ, q.1 ≠ p := fun q hq => ne_of_none (h.gam q hq).1 hp
/-- an expression, then a new list -/
theorem PostG.bindO {α β : Type} {rep : Wd → β → α → Prop} {κ : Bs} {w : Wd} {σ : L2.St} {r : Res DS α} {k : α → DS → Res DS (List D)} {Q : VK} (h : PostO G W κ w σ (r.bind k) Q) :
    PostG G W rep κ w σ r (fun v H1 => ∃ d s1 w1, w.le w1 ∧ Ok G κ w1 s1 σ H1 ∧ rep w1 v d ∧ PostO G W κ w1 σ (k d s1) Q) := by
  cases r with
  | ok d s' => exact fun w' v H' l o r => ⟨d, s', w', l, o, r, PostO.mono l h⟩
  | exc x s' => exact h
  | stuck => exact h
def aMax (g : DA) : DA := fun s => (g s).bind fun ds s1 => if ds.length ≤ 1000 then .ok ds s1 else .stuck
theorem pdo_lst {es : List Expr} {g : DA} {pos : Pos} (h : PDA G W X es g) : PDo G W X (.List es pos) (aMax g) :=
  (pe_lst h).imp fun σ H Q ⟨κ, w, s, ok, q⟩ => ⟨κ, w, s, ok, (PostG.bindO q).imp fun v H1 ⟨d, s1, w1, le, ok1, r1, q1⟩ => by
    by_cases c : d.length ≤ 1000
    · rw [if_pos c] at q1
      refine ⟨by rw [r1.length]; exact sz1000 c, fun p hp => ?_⟩
      exact q1 w1 p v _ (.refl _) (ok1.fresh hp _) (ok1.apart hp) r1
    · rw [if_neg c] at q1
      exact q1.elim⟩
def eFrz (f : DA) : DE := fun s => (f s).bind fun xs s1 => .ok (.lst xs) s1
theorem pdo_frz {e : Expr} {f : DA} (h : PDo G W X e f) : PD G W X e (eFrz f) := h.imp fun σ H Q ⟨κ, w, s, ok, q⟩ => ⟨κ, w, s, ok, by
  unfold eFrz at q
  cases e : f s with
  | stuck => rw [e] at q; exact q.elim
  | exc x s' => rw [e] at q; exact q
  | ok xs s' =>
    rw [e] at q
    intro w' a vs H' l o g r
    obtain ⟨le, ok'⟩ := o.frz g
    exact q _ _ H' (l.trans le) ok' (.lst upd_same (r.mono le))⟩
/-! ### statements -/
def sPass : DStm := fun s => .ok .nx s
def sSeq (f g : DStm) : DStm := fun s => (f s).bind fun o s1 => match o with
  | .nx => g s1
  | o => .ok o s1
theorem pdss_nil : PDSs G W X [] sPass := pss_nil.imp fun N σ H ⟨κ, w, s, ok, q⟩ => q w σ H (.refl _) ok
theorem PostS.seq {κ : Bs} {w : Wd} {r : Res DS Out} {g : DStm} {N : Ends} (h : PostS G W κ w (r.bind fun o s1 => match o with | .nx => g s1 | o => .ok o s1) N) : PostS G W κ w r { N with nx := tDS G W g N } := by
  cases r with
  | stuck => exact h
  | exc x s' => exact h
  | ok o s' =>
    cases o with
    | nx => exact fun w' σ' H' l o => ⟨κ, w', s', o, PostS.mono l h⟩
    | bk => exact h
    | ct => exact h
    | rt d => exact h
theorem pdss_cons {st : Stmt} {r : List Stmt} {f g : DStm} (h : PDS G W X st f) (k : PDSs G W X r g) : PDSs G W X (st :: r) (sSeq f g) :=
  (pss_cons h k).imp fun N σ H ⟨κ, w, s, ok, q⟩ => ⟨κ, w, s, ok, PostS.seq q⟩
theorem pdss_one {st : Stmt} {f : DStm} (h : PDS G W X st f) : PDSs G W X [st] f := pss_one h
def sNever : DStm := fun _ => .stuck
theorem pds_never {st : Stmt} : PDS G W X st sNever := ps_never.imp fun N σ H ⟨κ, w, s, ok, q⟩ => q.elim
theorem pdss_never {st : List Stmt} : PDSs G W X st sNever := pss_never.imp fun N σ H ⟨κ, w, s, ok, q⟩ => q.elim
theorem pds_pass {pos : Pos} : PDS G W X (.Pass pos) sPass := ps_pass.imp fun N σ H ⟨κ, w, s, ok, q⟩ => q w σ H (.refl _) ok
def sBreak : DStm := fun s => .ok .bk s
def sCont : DStm := fun s => .ok .ct s
theorem pds_break {pos : Pos} : PDS G W X (.Break pos) sBreak := ps_break.imp fun N σ H ⟨κ, w, s, ok, q⟩ => q w σ H (.refl _) ok
theorem pds_continue {pos : Pos} : PDS G W X (.Continue pos) sCont := ps_continue.imp fun N σ H ⟨κ, w, s, ok, q⟩ => q w σ H (.refl _) ok
def sExpr (f : DE) : DStm := fun s => (f s).bind fun _ s1 => .ok .nx s1
theorem pds_expr {e : Expr} {f : DE} {pos : Pos} (h : PD G W X e f) (hs : swapsWith e none pos.line X.env = pure false := by rfl) : PDS G W X (.Expr e pos) (sExpr f) :=
  (ps_expr h hs).imp fun N σ H ⟨κ, w, s, ok, q⟩ => ⟨κ, w, s, ok, (PostG.bindS q).imp fun v H1 ⟨d, s1, w1, le, ok1, r1, q1⟩ => q1 w1 σ H1 (.refl _) ok1⟩
def sRet (f : DE) : DStm := fun s => (f s).bind fun d s1 => .ok (.rt d) s1
theorem pds_ret {e : Expr} {f : DE} {pos : Pos} (h : PD G W X e f) : PDS G W X (.Return (some e) pos) (sRet f) :=
  (ps_ret h).imp fun N σ H ⟨κ, w, s, ok, q⟩ => ⟨κ, w, s, ok, (PostG.bindS q).imp fun v H1 ⟨d, s1, w1, le, ok1, r1, q1⟩ => q1 w1 σ v H1 (.refl _) ok1 r1⟩
theorem pds_retN {pos : Pos} : PDS G W X (.Return none pos) (sRet (eC .non)) := ps_retN.imp fun N σ H ⟨κ, w, s, ok, q⟩ => q w σ .non H (.refl _) ok .non
def sIf (c : DT) (f g : DStm) : DStm := fun s => (c s).bind fun b s1 => if b = true then f s1 else g s1
theorem pds_if {c : Expr} {a b : List Stmt} {fc : DT} {f g : DStm} {pos : Pos} (hc : PDT G W X c fc) (h : PDSs G W X a f) (k : PDSs G W X b g) : PDS G W X (.If c a b pos) (sIf fc f g) :=
  (ps_if hc h k).imp fun N σ H ⟨κ, w, s, ok, q⟩ => ⟨κ, w, s, ok, (PostG.bindS q).imp fun v H1 ⟨d, s1, w1, le, ok1, r1, q1⟩ => by
    subst r1
    cases v with
    | true => exact ⟨κ, w1, s1, ok1, q1⟩
    | false => exact ⟨κ, w1, s1, ok1, q1⟩⟩
def sSet (i : Nat) (f : DE) : DStm := fun s => (f s).bind fun d s1 => .ok .nx ⟨s1.sl.set i (.val d), s1.st⟩
theorem pds_set {i : Nat} {x : Str} {e : Expr} {f : DE} {pos pos' : Pos} (hN : X.N.Nodup) (hi : X.N[i]? = some x) (hx : Loc X.env.scope x) (he : PD G W X e f) (hs : swapsWith e (some (.Name x pos')) pos.line X.env = pure false := by rfl)
    (hf : X.fn x = true ∨ X.env.scope.names.lookup x = some .local := by first | exact .inl rfl | exact .inr rfl | assumption) : PDS G W X (.Assign [.Name x pos'] e pos) (sSet i f) :=
  (ps_set hN hi hx he hs hf).imp fun N σ H ⟨κ, w, s, ok, q⟩ => ⟨κ, w, s, ok, (PostG.bindS q).imp fun v H1 ⟨d, s1, w1, le, ok1, r1, q1⟩ => q1 w1 _ H1 (.refl _) (ok1.setVal r1 i)⟩
/-- name = a new list -/
def sSetO (i : Nat) (f : DA) : DStm := fun s => (f s).bind fun xs s1 => .ok .nx ⟨s1.sl.set i (.ol xs), s1.st⟩
theorem setO_of {i : Nat} {f : DA} {N : Ends} {σ : L2.St} {H : Hp} (h : tDS G W (sSetO i f) N σ H) : tAsg (tDo G W f) (gName i) N σ H := by
  obtain ⟨κ, w, s, ok, q⟩ := h
  refine ⟨κ, w, s, ok, ?_⟩
  unfold sSetO at q
  cases e : f s with
  | stuck => rw [e] at q; exact q.elim
  | exc x s' =>
    rw [e] at q
    exact fun w' c dd H' l o r => q w' σ c dd H' l o r
  | ok xs s' =>
    rw [e] at q
    intro w' a vs H' l o g r
    exact q w' _ H' l (o.setOwn (y := .ol xs) g ⟨vs, (o.gam (a, .lst vs) List.mem_cons_self).1, r⟩ rfl (fun _ _ z => nomatch z) i)
theorem pds_setO {i : Nat} {x : Str} {e : Expr} {f : DA} {pos pos' : Pos} (hN : X.N.Nodup) (hi : X.N[i]? = some x) (hx : Loc X.env.scope x) (he : PDo G W X e f) (hs : swapsWith e (some (.Name x pos')) pos.line X.env = pure false := by rfl)
    (hf : X.fn x = true ∨ X.env.scope.names.lookup x = some .local := by first | exact .inl rfl | exact .inr rfl | assumption) : PDS G W X (.Assign [.Name x pos'] e pos) (sSetO i f) :=
  (ps_set hN hi hx he hs hf).imp fun N σ H q => setO_of q
/-! ### targets -/
abbrev DG := D → DS → Res DS Unit
section
variable (G : Gam) (W : WX)
def PostT (is : List Nat) (σ : L2.St) (κ : Bs) (w : Wd) (r : Res DS Unit) (Q : L2.St → Hp → Prop) : Prop := match r with
  | .ok _ s' => ∀ w' σ' H', w.le w' → Ok G κ w' s' σ' H' → (σ'.length = σ.length ∧ ∀ i : Nat, i ∉ is → σ'[i]? = σ[i]?) → Q σ' H'
  | .exc x s' => False
  | .stuck => False
def tDG (is : List Nat) (g : DG) : TG := fun v σ H Q => ∃ κ w s d, Ok G κ w s σ H ∧ Rep G w v d ∧ PostT G is σ κ w (g d s) Q
def tDGs (is : List Nat) (g : List D → DS → Res DS Unit) : TGs := fun v σ H Q => ∃ κ w s d, Ok G κ w s σ H ∧ Reps G w v d ∧ PostT G is σ κ w (g d s) Q
end
theorem _root_.L2.PG.imp {X : Cx} {e : Expr} {t t' : TG} (h : PG X e t) (k : ∀ v σ H Q, t' v σ H Q → t v σ H Q) : PG X e t' := ⟨fun pins s σ H v u Q I r q => h.run pins s σ H v u Q I r (k v σ H Q q)⟩
theorem _root_.L2.PGs.imp {X : Cx} {e : List Expr} {t t' : TGs} (h : PGs X e t) (k : ∀ v σ H Q, t' v σ H Q → t v σ H Q) : PGs X e t' := ⟨fun pins s σ H v u Q I r q => h.run pins s σ H v u Q I r (k v σ H Q q)⟩
abbrev PDG (G : Gam) (X : Cx) (e : Expr) (is : List Nat) (g : DG) : Prop := PG X e (tDG G is g)
abbrev PDGs (G : Gam) (X : Cx) (e : List Expr) (is : List Nat) (g : List D → DS → Res DS Unit) : Prop := PGs X e (tDGs G is g)
def gN (i : Nat) : DG := fun d s => .ok () ⟨s.sl.set i (.val d), s.st⟩
theorem pdg_name {i : Nat} {x : Str} {pos : Pos} (hN : X.N.Nodup) (hi : X.N[i]? = some x) (hx : Loc X.env.scope x) (hf : X.fn x = true ∨ X.env.scope.names.lookup x = some .local := by first | exact .inl rfl | exact .inr rfl | assumption) : PDG G X (.Name x pos) [i] (gN i) :=
  (pg_name hN hi hx hf).imp fun v σ H Q ⟨κ, w, s, d, ok, r, q⟩ => q w _ H (.refl _) (ok.setVal r i) ⟨by rw [List.length_set], fun j hj => List.getElem?_set_ne fun z => hj (by rw [z]; exact List.mem_singleton.mpr rfl)⟩
def gsNil : List D → DS → Res DS Unit := fun ds s => match ds with
  | [] => .ok () s
  | _ => .stuck
def gsCons (g : DG) (k : List D → DS → Res DS Unit) : List D → DS → Res DS Unit := fun ds s => match ds with
  | d :: r => (g d s).bind fun _ s1 => k r s1
  | _ => .stuck
theorem pdgs_nil : PDGs G X [] [] gsNil := pgs_nil.imp fun v σ H Q ⟨κ, w, s, d, ok, r, q⟩ => by
  cases r with
  | nil => exact ⟨rfl, q w σ H (.refl _) ok ⟨rfl, fun _ _ => rfl⟩⟩
  | cons a b => exact q.elim
theorem pdgs_cons {e : Expr} {es : List Expr} {is is' : List Nat} {g : DG} {k : List D → DS → Res DS Unit} (h1 : PDG G X e is g) (h2 : PDGs G X es is' k)
    (hs : (assignEach (e :: es) X.env).map (·.2) = assign e X.env :: (assignEach es X.env).map (·.2) := by rfl) : PDGs G X (e :: es) (is ++ is') (gsCons g k) :=
  (pgs_cons h1 h2 hs).imp fun v σ H Q ⟨κ, w, s, d, ok, r, q⟩ => by
    cases r with
    | nil => exact q.elim
    | @cons v d vs ds a b =>
      refine ⟨v, vs, rfl, κ, w, s, d, ok, a, ?_⟩
      have q : PostT G (is ++ is') σ κ w ((g d s).bind fun _ s1 => k ds s1) Q := q
      cases e : g d s with
      | stuck => rw [e] at q; exact q.elim
      | exc x s' => rw [e] at q; exact q.elim
      | ok u s' =>
        rw [e] at q
        intro w' σ' H' l o hσ
        refine ⟨κ, w', s', ds, o, b.mono l, ?_⟩
        have q : PostT G (is ++ is') σ κ w (k ds s') Q := q
        cases e2 : k ds s' with
        | stuck => rw [e2] at q; exact q.elim
        | exc x s' => rw [e2] at q; exact q.elim
        | ok u s2 =>
          rw [e2] at q
          exact fun w2 σ2 H2 l2 o2 h2 => q w2 σ2 H2 (l.trans l2) o2 ⟨h2.1.trans hσ.1, fun i hi => (h2.2 i fun z => hi (List.mem_append_right _ z)).trans (hσ.2 i fun z => hi (List.mem_append_left _ z))⟩
def gT (n : Nat) (g : List D → DS → Res DS Unit) : DG := fun d s => match d with
  | .tup ds => if ds.length = n then g ds s else .stuck
  | _ => .stuck
theorem pdg_tup (hK : G.K = X.K) {es : List Expr} {is : List Nat} {k : Nat} {g : List D → DS → Res DS Unit} {n : Nat} {pos : Pos} (hc : X.calm = true) (h : PDGs G X es is g)
    (hn : (assignEach es X.env).length = n := by rfl) (hst : (assignEach es X.env).findIdx? (·.1) = none := by rfl) : PDG G X (.Tuple es k pos) is (gT n g) :=
  (pg_tup hc h hn hst).imp fun v σ H Q ⟨κ, w, s, d, ok, r, q⟩ => by
    cases r with
    | @tup a vs ds e r =>
      by_cases c : ds.length = n
      · have q : PostT G is σ κ w (if ds.length = n then g ds s else .stuck) Q := q
        rw [if_pos c] at q
        refine ⟨a, vs, rfl, hK ▸ SqT.le e ok.fok.sub, by rw [r.length]; exact c, κ, w, s, ds, ok, r, q⟩
      · have q : PostT G is σ κ w (if ds.length = n then g ds s else .stuck) Q := q
        rw [if_neg c] at q
        exact q.elim
    | _ => exact q.elim
def sAsg (f : DE) (g : DG) : DStm := fun s => (f s).bind fun d s1 => (g d s1).bind fun _ s2 => .ok .nx s2
theorem PostT.toS {is : List Nat} {σ : L2.St} {κ : Bs} {w : Wd} {r : Res DS Unit} {N : Ends} {Wx : WX} (h : PostS G Wx κ w (r.bind fun _ s2 => .ok .nx s2) N) (hx : ∀ x s, r ≠ .exc x s) : PostT G is σ κ w r N.nx := by
  cases r with
  | stuck => exact h
  | exc x s' => exact absurd rfl (hx x s')
  | ok u s' => exact fun w' σ' H' l o _ => h w' σ' H' l o
def noX {σ α : Type} (r : Res σ α) : Res σ α := match r with
  | .exc _ _ => .stuck
  | r => r
theorem noX_exc {σ α : Type} (r : Res σ α) : ∀ x s, noX r ≠ .exc x s := fun x s h => by cases r <;> cases h
def sAsgT (f : DE) (g : DG) : DStm := fun s => (f s).bind fun d s1 => (noX (g d s1)).bind fun _ s2 => .ok .nx s2
theorem PostT.ofNoX {is : List Nat} {σ : L2.St} {κ : Bs} {w : Wd} {r : Res DS Unit} {Q : L2.St → Hp → Prop} (h : PostT G is σ κ w (noX r) Q) : PostT G is σ κ w r Q := by
  cases r with
  | stuck => exact h
  | exc x s' => exact h
  | ok u s' => exact h
theorem pds_asg {tg e : Expr} {f : DE} {is : List Nat} {g : DG} {pos : Pos} (he : PD G W X e f) (hg : PDG G X tg is g) (hs : swapsWithSole [tg] e pos.line X.env = pure false := by rfl) (hw : swappedStores [tg] e X.env = pure none := by rfl)
    (h1 : (assignEach [tg] X.env).map (·.2) = [assign tg X.env] := by rfl) : PDS G W X (.Assign [tg] e pos) (sAsgT f g) :=
  (ps_asg he hg hs hw h1).imp fun N σ H ⟨κ, w, s, ok, q⟩ => ⟨κ, w, s, ok, (PostG.bindS q).imp fun v H1 ⟨d, s1, w1, le, ok1, r1, q1⟩ =>
    ⟨κ, w1, s1, d, ok1, r1, PostT.ofNoX (PostT.toS q1 (noX_exc _))⟩⟩
/-- a, b = x, y with plain locals -/
def sPar (i j : Nat) (f : DA) : DStm := fun s => (f s).bind fun ds s1 => match ds with
  | [x, y] => .ok .nx ⟨(s1.sl.set i (.val x)).set j (.val y), s1.st⟩
  | _ => .stuck
theorem pds_par {i j : Nat} {x y : Str} {a b : Expr} {f : DA} {px py pt pos : Pos} {kt k2 : Nat} {pt2 : Pos} (hc : X.calm = true) (hN : X.N.Nodup) (hi : X.N[i]? = some x) (hj : X.N[j]? = some y) (hij : i ≠ j)
    (hx : X.env.scope.names.lookup x = some .local) (hy : X.env.scope.names.lookup y = some .local) (ha : PDA G W X [a, b] f)
    (hw : swappedStores [.Tuple [.Name x px, .Name y py] kt pt] (.Tuple [a, b] k2 pt2) X.env = pure (some [x, y]))
    (hs : swapsWithSole [.Tuple [.Name x px, .Name y py] kt pt] (.Tuple [a, b] k2 pt2) pos.line X.env = pure false := by rfl) :
    PDS G W X (.Assign [.Tuple [.Name x px, .Name y py] kt pt] (.Tuple [a, b] k2 pt2) pos) (sPar i j f) :=
  (ps_par hc hN hi hj hij hx hy ha hw hs).imp fun N σ H ⟨κ, w, s, ok, q⟩ => ⟨κ, w, s, ok, (PostG.bindS q).imp fun v H1 ⟨d, s1, w1, le, ok1, r1, q1⟩ => by
    cases r1 with
    | nil => exact q1.elim
    | cons a b =>
      cases b with
      | nil => exact q1.elim
      | cons a2 b2 =>
        cases b2 with
        | nil => exact ⟨_, _, rfl, q1 w1 _ H1 (.refl _) ((ok1.setVal a i).setVal a2 j)⟩
        | cons _ _ => exact q1.elim⟩
/-! ### loops -/
def loopOut (r : Res DS Out) (k : DS → Res DS Out) : Res DS Out := match r with
  | .ok .nx s2 => k s2
  | .ok .ct s2 => k s2
  | .ok .bk s2 => .ok .nx s2
  | r => r
def runW (c : DT) (b : DStm) : Nat → DS → Res DS Out
  | 0, _ => .stuck
  | n + 1, s => (c s).bind fun t s1 => if t = true then loopOut (b s1) (runW c b n) else .ok .nx s1
theorem runW_mono (c : DT) (b : DStm) : ∀ (n : Nat) (s : DS), runW c b n s ≠ .stuck → runW c b (n + 1) s = runW c b n s
  | 0, s, h => absurd rfl h
  | n + 1, s, h => by
    show (c s).bind (fun t s1 => if t = true then loopOut (b s1) (runW c b (n + 1)) else .ok .nx s1) = (c s).bind fun t s1 => if t = true then loopOut (b s1) (runW c b n) else .ok .nx s1
    have h : (c s).bind (fun t s1 => if t = true then loopOut (b s1) (runW c b n) else .ok .nx s1) ≠ .stuck := h
    cases e : c s with
    | stuck => rfl
    | exc x s' => rfl
    | ok t s1 =>
      rw [e] at h
      rw [Res.bind_ok] at h ⊢
      rw [Res.bind_ok]
      cases t with
      | false => rfl
      | true =>
        rw [if_pos rfl] at h ⊢
        rw [if_pos rfl]
        cases e2 : b s1 with
        | stuck => rfl
        | exc x s' => rfl
        | ok o s2 =>
          rw [e2] at h
          cases o with
          | nx => exact runW_mono c b n s2 h
          | ct => exact runW_mono c b n s2 h
          | bk => rfl
          | rt d => rfl
theorem runW_le (c : DT) (b : DStm) {n m : Nat} {s : DS} (hnm : n ≤ m) (h : runW c b n s ≠ .stuck) : runW c b m s = runW c b n s := by
  induction hnm with
  | refl => rfl
  | step hk ih => rw [runW_mono c b _ s (by rw [ih]; exact h), ih]
open Classical in
noncomputable def sWhile (c : DT) (b : DStm) : DStm := fun s => if h : ∃ n, runW c b n s ≠ .stuck then runW c b h.choose s else .stuck
theorem sWhile_of {c : DT} {b : DStm} {s : DS} (n : Nat) (h : runW c b n s ≠ .stuck) : sWhile c b s = runW c b n s := by
  have ex : ∃ n, runW c b n s ≠ .stuck := ⟨n, h⟩
  unfold sWhile
  rw [dif_pos ex]
  rcases Nat.le_total n ex.choose with z | z
  · exact runW_le c b z h
  · exact (runW_le c b z ex.choose_spec).symm
theorem sWhile_eq (c : DT) (b : DStm) (s : DS) : sWhile c b s = (c s).bind fun t s1 => if t = true then loopOut (b s1) (sWhile c b) else .ok .nx s1 := by
  have key : ∀ n, runW c b (n + 1) s ≠ .stuck → sWhile c b s = (c s).bind fun t s1 => if t = true then loopOut (b s1) (sWhile c b) else .ok .nx s1 := fun n h => by
    rw [sWhile_of (n + 1) h]
    have h : (c s).bind (fun t s1 => if t = true then loopOut (b s1) (runW c b n) else .ok .nx s1) ≠ .stuck := h
    show (c s).bind (fun t s1 => if t = true then loopOut (b s1) (runW c b n) else .ok .nx s1) = _
    cases e : c s with
    | stuck => rfl
    | exc x s' => rfl
    | ok t s1 =>
      rw [e] at h
      rw [Res.bind_ok] at h ⊢
      rw [Res.bind_ok]
      cases t with
      | false => rfl
      | true =>
        rw [if_pos rfl] at h ⊢
        rw [if_pos rfl]
        cases e2 : b s1 with
        | stuck => rfl
        | exc x s' => rfl
        | ok o s2 =>
          rw [e2] at h
          cases o with
          | nx => exact (sWhile_of n h).symm
          | ct => exact (sWhile_of n h).symm
          | bk => rfl
          | rt d => rfl
  by_cases ex : ∃ n, runW c b n s ≠ .stuck
  · obtain ⟨n, h⟩ := ex
    cases n with
    | zero => exact absurd rfl h
    | succ n => exact key n h
  · have all : ∀ n, runW c b n s = .stuck := fun n => Classical.byContradiction fun h => ex ⟨n, h⟩
    have l : sWhile c b s = .stuck := by
      unfold sWhile
      rw [dif_neg ex]
    rw [l]
    have a1 := all 1
    cases e : c s with
    | stuck => rfl
    | exc x s' =>
      have a1 : (c s).bind (fun t s1 => if t = true then loopOut (b s1) (runW c b 0) else .ok .nx s1) = .stuck := a1
      rw [e] at a1
      cases a1
    | ok t s1 =>
      rw [Res.bind_ok]
      cases t with
      | false =>
        have a1 : (c s).bind (fun t s1 => if t = true then loopOut (b s1) (runW c b 0) else .ok .nx s1) = .stuck := a1
        rw [e] at a1
        cases a1
      | true =>
        rw [if_pos rfl]
        have an : ∀ n, loopOut (b s1) (runW c b n) = .stuck := fun n => by
          have := all (n + 1)
          have a1 : (c s).bind (fun t s1 => if t = true then loopOut (b s1) (runW c b n) else .ok .nx s1) = .stuck := this
          rw [e] at a1
          exact a1
        cases e2 : b s1 with
        | stuck => rfl
        | exc x s' => have := an 0; rw [e2] at this; cases this
        | ok o s2 =>
          have nn : ∀ n, loopOut (.ok o s2) (runW c b n) = .stuck := fun n => by rw [← e2]; exact an n
          have un : (∀ n, runW c b n s2 = .stuck) → sWhile c b s2 = .stuck := fun q => by
            unfold sWhile
            rw [dif_neg fun ⟨n, h⟩ => h (q n)]
          cases o with
          | nx => exact (un nn).symm
          | ct => exact (un nn).symm
          | bk => cases nn 0
          | rt d => cases nn 0
theorem pds_while {c : Expr} {body : List Stmt} {fc : DT} {fb : DStm} {pos : Pos} (hp : PassesOwn (model X.prog X.w) X.A X.env X.xe) (hc : PDT G W X c fc) (hb : PDSs G W X body fb) : PDS G W X (.While c body [] pos) (sWhile fc fb) :=
  (ps_while hp hc hb).imp fun N σ H ⟨κ, w, s, ok, q⟩ => by
    by_cases ex : ∃ n, runW fc fb n s ≠ .stuck
    · obtain ⟨n, hn⟩ := ex
      rw [sWhile_of n hn] at q
      refine ⟨fun m σ H => ∃ w' s', w.le w' ∧ Ok G κ w' s' σ H ∧ PostS G W κ w' (runW fc fb m s') N, ⟨n, w, s, .refl _, ok, q⟩, fun m σ' H' ⟨w', s', le, ok', q'⟩ => ?_⟩
      cases m with
      | zero => exact q'.elim
      | succ m =>
        refine ⟨κ, w', s', ok', (PostG.bindS q').imp fun v H1 ⟨d, s1, w1, le1, ok1, r1, q1⟩ => ?_⟩
        subst r1
        cases v with
        | false => exact q1 w1 σ' H1 (.refl _) ok1
        | true =>
          refine ⟨fun σ2 H2 => ∃ w2 s2, w.le w2 ∧ Ok G κ w2 s2 σ2 H2 ∧ PostS G W κ w2 (runW fc fb m s2) N, fun σ2 H2 z => ⟨m, Nat.lt_succ_self _, z⟩, κ, w1, s1, ok1, ?_⟩
          have q1 : PostS G W κ w1 (loopOut (fb s1) (runW fc fb m)) N := q1
          cases e : fb s1 with
          | stuck => rw [e] at q1; exact q1.elim
          | exc x s' => rw [e] at q1; exact q1
          | ok o s2 =>
            rw [e] at q1
            cases o with
            | nx => exact fun w2 σ2 H2 l o => ⟨w2, s2, (le.trans le1).trans l, o, PostS.mono l q1⟩
            | ct => exact fun w2 σ2 H2 l o => ⟨w2, s2, (le.trans le1).trans l, o, PostS.mono l q1⟩
            | bk => exact q1
            | rt d => exact q1
    · unfold sWhile at q
      rw [dif_neg ex] at q
      exact q.elim
/-! ### what a for walks -/
section
variable (G : Gam) (W : WX)
def ItOk (w : Wd) (J : It) (items : List D) : Prop := ∀ (w1 : Wd) (S : List Cell) (H : Hp), w.le w1 → FOk G w1 S H → ∀ i : Nat,
  (∀ d, items[i]? = some d → J.go i H ∧ ∀ x H', J.yld i H x H' → ∃ w2, Nx w1 H w2 H' ∧ FOk G w2 S H' ∧ Rep G w2 x d) ∧ (items[i]? = none → J.stop i H)
def PostI (κ : Bs) (w : Wd) (σ : L2.St) (r : Res DS (List D)) (R : It → Hp → Prop) : Prop := match r with
  | .ok ds s' => ∀ w' J H', w.le w' → Ok G κ w' s' σ H' → ItOk G w' J ds → R J H'
  | .exc x s' => ∀ w' c dd H', w.le w' → Ok G κ w' s' σ H' → RepX G w' c dd x → W c dd σ H'
  | .stuck => False
def tDI (f : DA) : TI := fun σ H R => ∃ κ w s, Ok G κ w s σ H ∧ PostI G W κ w σ (f s) R
end
theorem _root_.L2.PI.imp {X : Cx} {tg e : Expr} {t t' : TI} (h : PI X tg e t) (k : ∀ σ H R, t' σ H R → t σ H R) : PI X tg e t' := ⟨fun pins s σ H R I q => h.run pins s σ H R I (k σ H R q)⟩
abbrev PDI (G : Gam) (W : WX) (X : Cx) (tg e : Expr) (f : DA) : Prop := PI X tg e (tDI G W f)
theorem PostI.mono {κ : Bs} {w w1 : Wd} {σ : L2.St} {r : Res DS (List D)} {R : It → Hp → Prop} (le : w.le w1) (h : PostI G W κ w σ r R) : PostI G W κ w1 σ r R := by
  cases r with
  | ok d s' => exact fun w' J H' l o g => h w' J H' (le.trans l) o g
  | exc x s' => exact fun w' c dd H' l o r => h w' c dd H' (le.trans l) o r
  | stuck => exact h
theorem PostG.bindI {α β : Type} {rep : Wd → β → α → Prop} {κ : Bs} {w : Wd} {σ : L2.St} {r : Res DS α} {k : α → DS → Res DS (List D)} {Q : It → Hp → Prop} (h : PostI G W κ w σ (r.bind k) Q) :
    PostG G W rep κ w σ r (fun v H1 => ∃ d s1 w1, w.le w1 ∧ Ok G κ w1 s1 σ H1 ∧ rep w1 v d ∧ PostI G W κ w1 σ (k d s1) Q) := by
  cases r with
  | ok d s' => exact fun w' v H' l o r => ⟨d, s', w', l, o, r, PostI.mono l h⟩
  | exc x s' => exact h
  | stuck => exact h
/-- the items of a list; of a tuple -/
def itL (f : DE) : DA := fun s => (f s).bind fun d s1 => match d with
  | .lst xs => .ok xs s1
  | .scr xs => .ok xs s1
  | _ => .stuck
def itT (f : DE) : DA := fun s => (f s).bind fun d s1 => match d with
  | .tup xs => .ok xs s1
  | _ => .stuck
theorem itOk_list (hK : G.K = X.K) {w : Wd} {a : Addr} {vs : List V} {ds : List D} (e : SqL G.K w.F a vs) (un : ∀ (H : Hp) ys, SqL X.K H a vs → SqL X.K H a ys → vs = ys → True) (r : Reps G w vs ds) (inj : ∀ (H : Hp), SqL X.K H a vs → True) : ItOk G w (Itl X.K a) ds := by
  intro w1 S H le fok i
  have q : SqL X.K H a vs := hK ▸ SqL.le (SqL.le e le.f) fok.sub
  refine ⟨fun d hd => ?_, fun hn => ?_⟩
  · obtain ⟨y, h1, h2⟩ := r.get hd
    refine ⟨⟨vs, y, q, h1⟩, fun x H' ⟨hH, hx⟩ => ⟨w1, ?_, ?_, ?_⟩⟩
    · rw [hH]; exact .refl _ _
    · rw [hH]; exact fok
    · have := hx vs q
      rw [h1] at this
      cases this
      exact h2.mono le
  · refine ⟨vs, q, ?_⟩
    rw [r.length]
    exact List.getElem?_eq_none_iff.mp hn
theorem itOk_tup (hK : G.K = X.K) {w : Wd} {a : Addr} {vs : List V} {ds : List D} (e : SqT G.K w.F a vs) (r : Reps G w vs ds) : ItOk G w (Itt X.K a) ds := by
  intro w1 S H le fok i
  have q : SqT X.K H a vs := hK ▸ SqT.le (SqT.le e le.f) fok.sub
  refine ⟨fun d hd => ?_, fun hn => ?_⟩
  · obtain ⟨y, h1, h2⟩ := r.get hd
    refine ⟨⟨vs, y, q, h1⟩, fun x H' ⟨hH, hx⟩ => ⟨w1, ?_, ?_, ?_⟩⟩
    · rw [hH]; exact .refl _ _
    · rw [hH]; exact fok
    · have := hx vs q
      rw [h1] at this
      cases this
      exact h2.mono le
  · refine ⟨vs, q, ?_⟩
    rw [r.length]
    exact List.getElem?_eq_none_iff.mp hn
theorem pdi_list (hK : G.K = X.K) {tg e : Expr} {f : DE} (h : PD G W X e f) : PDI G W X tg e (itL f) :=
  (pi_list h).imp fun σ H R ⟨κ, w, s, ok, q⟩ => ⟨κ, w, s, ok, (PostG.bindI q).imp fun v H1 ⟨d, s1, w1, le, ok1, r1, q1⟩ => by
    cases r1 with
    | @lst a vs ds e r =>
      have e' : SqL G.K w1.F a vs := .inl (.inl e)
      exact ⟨a, rfl, ⟨vs, hK ▸ SqL.le e' ok1.fok.sub⟩, q1 w1 _ H1 (.refl _) ok1 (itOk_list hK e' (fun _ _ _ _ _ => trivial) r fun _ _ => trivial)⟩
    | @scr a vs ds e r =>
      exact ⟨a, rfl, ⟨vs, hK ▸ SqL.le e ok1.fok.sub⟩, q1 w1 _ H1 (.refl _) ok1 (itOk_list hK e (fun _ _ _ _ _ => trivial) r fun _ _ => trivial)⟩
    | _ => exact q1.elim⟩
theorem pdi_tup (hK : G.K = X.K) {tg e : Expr} {f : DE} (h : PD G W X e f) : PDI G W X tg e (itT f) :=
  (pi_tup h).imp fun σ H R ⟨κ, w, s, ok, q⟩ => ⟨κ, w, s, ok, (PostG.bindI q).imp fun v H1 ⟨d, s1, w1, le, ok1, r1, q1⟩ => by
    cases r1 with
    | @tup a vs ds e r => exact ⟨a, rfl, ⟨vs, hK ▸ SqT.le e ok1.fok.sub⟩, q1 w1 _ H1 (.refl _) ok1 (itOk_tup hK e r)⟩
    | _ => exact q1.elim⟩
/-- range -/
def rngL (lo : Int) (n : Nat) : List D := (List.range n).map fun (i : Nat) => D.int (lo + (i : Int))
theorem itOk_rng {w : Wd} (lo : Int) (n : Nat) : ItOk G w (Itr lo n) (rngL lo n) := by
  intro w1 S H le fok i
  refine ⟨fun d hd => ?_, fun hn => ?_⟩
  · unfold rngL at hd
    rw [List.getElem?_map] at hd
    by_cases c : i < n
    · rw [List.getElem?_range c] at hd
      cases hd
      refine ⟨c, fun x H' ⟨hH, hx⟩ => ⟨w1, ?_, ?_, ?_⟩⟩
      · rw [hH]; exact .refl _ _
      · rw [hH]; exact fok
      · rw [hx]; exact .int _
    · rw [List.getElem?_eq_none (by rw [List.length_range]; omega)] at hd
      cases hd
  · have := List.getElem?_eq_none_iff.mp hn
    unfold rngL at this
    rw [List.length_map, List.length_range] at this
    exact this
def itR1 (f : DA) : DA := fun s => (f s).bind fun ds s1 => match ds with
  | [.int j] => if -(2 ^ 62) ≤ j ∧ j < 2 ^ 62 then .ok (rngL 0 j.toNat) s1 else .stuck
  | _ => .stuck
def itR2 (f : DA) : DA := fun s => (f s).bind fun ds s1 => match ds with
  | [.int i, .int j] => if -(2 ^ 62) ≤ i ∧ i < 2 ^ 62 ∧ -(2 ^ 62) ≤ j ∧ j < 2 ^ 62 then .ok (rngL i (j - i).toNat) s1 else .stuck
  | _ => .stuck
theorem pdi_range1 {tg a : Expr} {f : DA} {p pos : Pos} (hg : Gl X "range") (hm : X.mg "range" = none) (ha : PDA G W X [a] f) (hs : starEach [a] X.env = [(false, eval a X.env)] := by rfl) : PDI G W X tg (.Call (.Name "range" p) [a] [] pos) (itR1 f) :=
  (pi_range1 hg hm ha hs).imp fun σ H R ⟨κ, w, s, ok, q⟩ => ⟨κ, w, s, ok, (PostG.bindI q).imp fun v H1 ⟨d, s1, w1, le, ok1, r1, q1⟩ => by
    cases r1 with
    | nil => exact q1.elim
    | cons a b =>
      cases b with
      | cons _ _ => cases a <;> exact q1.elim
      | nil =>
        cases a with
        | int j =>
          have q1 : PostI G W κ w1 σ (if -(2 ^ 62) ≤ j ∧ j < 2 ^ 62 then .ok (rngL 0 j.toNat) s1 else .stuck) R := q1
          by_cases c : -(2 ^ 62) ≤ j ∧ j < 2 ^ 62
          · rw [if_pos c] at q1
            exact ⟨j, rfl, c.1, c.2, q1 w1 _ H1 (.refl _) ok1 (itOk_rng 0 _)⟩
          · rw [if_neg c] at q1
            exact q1.elim
        | _ => exact q1.elim⟩
theorem pdi_range2 {tg a b : Expr} {f : DA} {p pos : Pos} (hg : Gl X "range") (hm : X.mg "range" = none) (ha : PDA G W X [a, b] f) (hs : starEach [a, b] X.env = [(false, eval a X.env), (false, eval b X.env)] := by rfl) (hs2 : starEach [b] X.env = [(false, eval b X.env)] := by rfl) :
    PDI G W X tg (.Call (.Name "range" p) [a, b] [] pos) (itR2 f) :=
  (pi_range2 hg hm ha hs hs2).imp fun σ H R ⟨κ, w, s, ok, q⟩ => ⟨κ, w, s, ok, (PostG.bindI q).imp fun v H1 ⟨d, s1, w1, le, ok1, r1, q1⟩ => by
    cases r1 with
    | nil => exact q1.elim
    | cons a b =>
      cases b with
      | nil => cases a <;> exact q1.elim
      | cons a2 b2 =>
        cases b2 with
        | cons _ _ => cases a <;> first | exact q1.elim | (cases a2 <;> exact q1.elim)
        | nil =>
          cases a with
          | int i =>
            cases a2 with
            | int j =>
              have q1 : PostI G W κ w1 σ (if -(2 ^ 62) ≤ i ∧ i < 2 ^ 62 ∧ -(2 ^ 62) ≤ j ∧ j < 2 ^ 62 then .ok (rngL i (j - i).toNat) s1 else .stuck) R := q1
              by_cases c : -(2 ^ 62) ≤ i ∧ i < 2 ^ 62 ∧ -(2 ^ 62) ≤ j ∧ j < 2 ^ 62
              · rw [if_pos c] at q1
                exact ⟨i, j, rfl, c, q1 w1 _ H1 (.refl _) ok1 (itOk_rng i _)⟩
              · rw [if_neg c] at q1
                exact q1.elim
            | _ => exact q1.elim
          | _ => exact q1.elim⟩
/-! ### for -/
def forL (g : DG) (b : DStm) : List D → DS → Res DS Out
  | [], s => .ok .nx s
  | d :: r, s => (noX (g d s)).bind fun _ s1 => loopOut (b s1) (forL g b r)
def sFor (it : DA) (g : DG) (b : DStm) : DStm := fun s => (it s).bind fun ds s1 => forL g b ds s1
theorem drop_get {α : Type} {l : List α} {i : Nat} {d : α} {r : List α} (h : l.drop i = d :: r) : l[i]? = some d ∧ l.drop (i + 1) = r := by
  refine ⟨?_, ?_⟩
  · have := congrArg (fun l => l[0]?) h
    simpa using this
  · have := congrArg List.tail h
    simpa using this
theorem for_of {is : List Nat} {κ : Bs} {w : Wd} {J : It} {g : DG} {b : DStm} {N : Ends} {items : List D} (hJ : ItOk G w J items) {w0 : Wd} {s : DS} {σ : L2.St} {H : Hp} (le : w.le w0) (ok : Ok G κ w0 s σ H) (q : PostS G W κ w0 (forL g b items s) N) :
    ∃ Wv : Nat → Nat → L2.St → Hp → Prop, (∃ m, Wv 0 m σ H) ∧ ∀ i m σ H, Wv i m σ H →
      (J.stop i H ∧ N.nx σ H) ∨ (J.go i H ∧ ∃ N' : L2.St → Hp → Prop, (∀ σ' H', N' σ' H' → ∃ m', m' < m ∧ Wv (i + 1) m' σ' H') ∧ ∀ x H', J.yld i H x H' → tDG G is g x σ H' fun σ2 H2 => tDS G W b { N with nx := N', ct := N', bk := N.nx } σ2 H2) := by
  refine ⟨fun i m σ H => ∃ w' s', w.le w' ∧ Ok G κ w' s' σ H ∧ (items.drop i).length = m ∧ PostS G W κ w' (forL g b (items.drop i) s') N, ⟨items.length, w0, s, le, ok, by simp, by simpa using q⟩, ?_⟩
  rintro i m σ H ⟨w', s', le', ok', hm, q'⟩
  cases e : items.drop i with
  | nil =>
    rw [e] at q'
    have hn : items[i]? = none := by
      have := congrArg (fun l => l[0]?) e
      simpa using this
    exact .inl ⟨(hJ w' _ H le' ok'.fok i).2 hn, q' w' σ H (.refl _) ok'⟩
  | cons d r =>
    rw [e] at q' hm
    obtain ⟨h1, h2⟩ := drop_get e
    obtain ⟨go, yl⟩ := (hJ w' _ H le' ok'.fok i).1 d h1
    refine .inr ⟨go, fun σ2 H2 => ∃ w2 s2, w.le w2 ∧ Ok G κ w2 s2 σ2 H2 ∧ PostS G W κ w2 (forL g b r s2) N, fun σ2 H2 ⟨w2, s2, l2, o2, q2⟩ => ?_, fun x H' hy => ?_⟩
    · refine ⟨r.length, by rw [← hm]; exact Nat.lt_succ_self _, w2, s2, l2, o2, by rw [h2], by rw [h2]; exact q2⟩
    · obtain ⟨w2, nx, fok, rx⟩ := yl x H' hy
      have ok2 := ok'.step nx fok
      refine ⟨κ, w2, s', d, ok2, rx, ?_⟩
      have q' : PostS G W κ w' ((noX (g d s')).bind fun _ s1 => loopOut (b s1) (forL g b r)) N := q'
      refine PostT.ofNoX ?_
      cases e3 : noX (g d s') with
      | stuck => rw [e3] at q'; exact q'.elim
      | exc x s' => exact absurd e3 (noX_exc _ _ _)
      | ok u s3 =>
        rw [e3] at q'
        intro w3 σ3 H3 l3 o3 _
        refine ⟨κ, w3, s3, o3, ?_⟩
        have q' : PostS G W κ w' (loopOut (b s3) (forL g b r)) N := q'
        have lw : w'.le w3 := nx.le.trans l3
        cases e4 : b s3 with
        | stuck => rw [e4] at q'; exact q'.elim
        | exc x s4 => rw [e4] at q'; exact PostS.mono (r := .exc x s4) lw q'
        | ok o s4 =>
          rw [e4] at q'
          cases o with
          | nx => exact fun w4 σ4 H4 l4 o4 => ⟨w4, s4, (le'.trans lw).trans l4, o4, PostS.mono (lw.trans l4) q'⟩
          | ct => exact fun w4 σ4 H4 l4 o4 => ⟨w4, s4, (le'.trans lw).trans l4, o4, PostS.mono (lw.trans l4) q'⟩
          | bk => exact PostS.mono (r := .ok .nx s4) lw q'
          | rt d => exact PostS.mono (r := .ok (.rt d) s4) lw q'
theorem pds_for {tg iter : Expr} {body : List Stmt} {it : DA} {is : List Nat} {g : DG} {b : DStm} {pos : Pos} (hp : PassesOwn (model X.prog X.w) X.A X.env X.xe) (hc : X.calm = true) (hi : PDI G W X tg iter it) (hg : PDG G X tg is g) (hb : PDSs G W X body b)
    (hs : ∀ x, foldedSetIterable iter X.env x = pure x := by intro _; rfl) : PDS G W X (.For tg iter body [] pos) (sFor it g b) :=
  (ps_for hp hc hi hg hb hs).imp fun N σ H ⟨κ, w, s, ok, q⟩ => ⟨κ, w, s, ok, by
    unfold sFor at q
    cases e : it s with
    | stuck => rw [e] at q; exact q.elim
    | exc x s' =>
      rw [e] at q
      exact fun w' c dd H' l o r => q w' σ c dd H' l o r
    | ok ds s' =>
      rw [e] at q
      intro w' J H' l o hJ
      exact for_of hJ (.refl _) o (PostS.mono l q)⟩
end
end DL
set_option maxRecDepth 100000
set_option maxHeartbeats 4000000
set_option autoImplicit false
namespace DL
open PySem PySem.Spec PyProof.Rows L2
/-! ### what a def promises -/
section
variable (G : Gam)
def PostF {α : Type} (rep : Wd → V → α → Prop) (w : Wd) (H : Hp) (r : Res (List Cell) α) (Q : VK) (E : XK) : Prop := match r with
  | .ok d S' => ∀ w' v H', Nx w H w' H' → FOk G w' S' H' → rep w' v d → Q v H'
  | .exc x S' => ∀ w' c dd H', Nx w H w' H' → FOk G w' S' H' → RepX G w' c dd x → E c dd H'
  | .stuck => False
def spG (n : Nat) (g : DFn) : Sp := fun vs H Q E => vs.length = n ∧ ∃ w S ds, FOk G w S H ∧ Reps G w vs ds ∧ PostF G (Rep G) w H (g ds S) Q E
end
def lift {α : Type} (s : DS) (r : Res (List Cell) α) : Res DS α := match r with
  | .ok d S' => .ok d ⟨s.sl, S'⟩
  | .exc x S' => .exc x ⟨s.sl, S'⟩
  | .stuck => .stuck
section
variable {G : Gam} {W : WX} {X : Cx}
theorem postF_of {κ : Bs} {w : Wd} {s : DS} {σ : L2.St} {H : Hp} {r : Res (List Cell) D} {Q : VK} (ok : Ok G κ w s σ H) (q : PostG G W (Rep G) κ w σ (lift s r) Q) : PostF G (Rep G) w H r Q (WE W σ) := by
  cases r with
  | ok d S' => exact fun w' v H' n f r => q w' v H' n.le (ok.step n f) r
  | exc x S' => exact fun w' c dd H' n f r => q w' c dd H' n.le (ok.step n f) r
  | stuck => exact q
theorem callD {k : Nat} {f : Addr} {fd : FuncData} {ps : List Str} {n : Nat} {g : DFn} {pins : List (Addr × Obj)} {sh : Shared} {κ : Bs} {w : Wd} {s : DS} {σ : L2.St} {H : Hp} {vs : List V} {ds : List D} {us : List Value} {Q : VK}
    (F : FnOk X.prog X.w X.K X.mg X.base (L2.CX X.prog X.w) k f fd ps (spG G n g)) (hr : Room k X.A) (hb : Binds X.K fd ps []) (tk : Takes X W) (I : Inv X pins σ H sh) (ok : Ok G κ w s σ H) (rs : Reps G w vs ds) (r : Vals vs us) (hn : ds.length = n)
    (q : PostG G W (Rep G) κ w σ (lift s (g ds s.st)) Q) : wpAny (model X.prog X.w) X.A (call (.ref f) us) (EP X pins σ Q) X.xe sh := by
  refine run_fnSD (E := WE W) (dvs := []) (ds := []) F hr hb .nil (passAt tk σ) I r ?_
  rw [List.append_nil]
  exact ⟨by rw [rs.length]; exact hn, w, s.st, ds, ok.fok, rs, postF_of ok q⟩
/-! ### f(..) -/
def eCall (n : Nat) (g : DFn) (fa : DA) : DE := fun s => (fa s).bind fun ds s1 => if ds.length = n then lift s1 (g ds s1.st) else .stuck
theorem pd_call {k : Nat} {f : Addr} {fd : FuncData} {ps : List Str} {n : Nat} {g : DFn} {x : Str} {p pos : Pos} {e : Expr} {es : List Expr} {fa : DA} (F : FnOk X.prog X.w X.K X.mg X.base (L2.CX X.prog X.w) k f fd ps (spG G n g)) (hr : Room k X.A) (hg : Gl X x) (hm : X.mg x = some (.ref f))
    (hk : PySem.W.keepIn X.K (.ref f) = true) (hb : Binds X.K fd ps []) (tk : Takes X W) (ha : PDA G W X (e :: es) fa) (hdb : (x == ("__debug__" : Str)) = false := by decide) (he : starEach (e :: es) X.env = (false, eval e X.env) :: starEach es X.env := by rfl)
    (hpl : (backTo pos (starEach es X.env)).any (·.1) = false := by rfl) : PD G W X (.Call (.Name x p) (e :: es) [] pos) (eCall n g fa) := by
  refine ⟨fun pins s σ H Q I h => ?_⟩
  obtain ⟨κ, w, ds, ok, q⟩ := h
  refine wpAny_Call_Name_kw (ld_glob I hg hm ?_ hdb)
  have hh : tDA G W fa σ H fun vs H1 => ∃ d s1 w1, w.le w1 ∧ Ok G κ w1 s1 σ H1 ∧ Reps G w1 vs d ∧ PostG G W (Rep G) κ w1 σ (if d.length = n then lift s1 (g d s1.st) else .stuck) Q := ⟨κ, w, ds, ok, PostG.bind q⟩
  refine PySem.W.callWith_K (h₀ := X.base) I.ok.mod.kin hk (thn (ha.run pos pins s σ H _ I hh) fun us s1 ⟨vs, H1, I1, r, d, s2, w1, le, ok1, rs, q1⟩ => ⟨I1.kIn, ?_⟩) he hpl
  by_cases c : d.length = n
  · rw [if_pos c] at q1
    exact callD F hr hb tk I1 ok1 rs r c q1
  · rw [if_neg c] at q1
    exact q1.elim
theorem pd_call0 {k : Nat} {f : Addr} {fd : FuncData} {ps : List Str} {g : DFn} {x : Str} {p pos : Pos} (F : FnOk X.prog X.w X.K X.mg X.base (L2.CX X.prog X.w) k f fd ps (spG G 0 g)) (hr : Room k X.A) (hg : Gl X x) (hm : X.mg x = some (.ref f))
    (hk : PySem.W.keepIn X.K (.ref f) = true) (hb : Binds X.K fd ps []) (tk : Takes X W) (hdb : (x == ("__debug__" : Str)) = false := by decide) : PD G W X (.Call (.Name x p) [] [] pos) (eCall 0 g aNil) := by
  refine ⟨fun pins s σ H Q I h => ?_⟩
  obtain ⟨κ, w, ds, ok, q⟩ := h
  refine wpAny_Call_Name_kw (ld_glob I hg hm ?_ hdb)
  exact PySem.W.callWith_K0 I.kIn hk (callD (us := []) F hr hb tk I ok .nil .nil rfl q)
/-! ### the body of a def -/
def fnD (n : Nat) (body : DStm) (m : Nat) : DFn := fun ds S => if ds.length = n then match body ⟨ds.map Sl.val ++ List.replicate m .un, S⟩ with
  | .ok (.rt d) s => .ok d s.st
  | .ok .nx s => .ok .non s.st
  | .exc x s => .exc x s.st
  | _ => .stuck
  else .stuck
theorem Ok.start {w : Wd} {S : List Cell} {H : Hp} {vs : List V} {ds : List D} (f : FOk G w S H) (r : Reps G w vs ds) (m : Nat) : Ok G ⟨w, H, [], none⟩ w ⟨ds.map Sl.val ++ List.replicate m .un, S⟩ (vs.map some ++ List.replicate m none) H := by
  have no : ∀ (i : Nat) (x : Sl), (ds.map Sl.val ++ List.replicate m Sl.un)[i]? = some x → x.own = false := fun i x e => by
    have hx := List.mem_of_getElem? e
    rcases List.mem_append.mp hx with h | h
    · obtain ⟨d, _, rfl⟩ := List.mem_map.mp h
      rfl
    · rw [(List.mem_replicate.mp h).2]
      rfl
  refine ⟨f, .refl _ _, by simp [r.length], fun i d e => ?_, fun i x e o => ?_, fun i j x y a e1 e2 o1 o2 _ _ => ?_, fun p hp => by simp at hp, fun a z => nomatch z⟩
  · by_cases c : i < ds.length
    · have e1 : (ds.map Sl.val ++ List.replicate m Sl.un)[i]? = some (.val d) := e
      rw [List.getElem?_append_left (by rw [List.length_map]; exact c), List.getElem?_map] at e1
      cases q : ds[i]? with
      | none => rw [q] at e1; cases e1
      | some d' =>
        rw [q] at e1
        cases e1
        obtain ⟨v, h1, h2⟩ := r.get q
        refine ⟨v, ?_, h2⟩
        rw [List.getElem?_append_left (by rw [List.length_map, r.length]; exact c), List.getElem?_map, h1]
        rfl
    · have e1 : (ds.map Sl.val ++ List.replicate m Sl.un)[i]? = some (.val d) := e
      rw [List.getElem?_append_right (by rw [List.length_map]; omega), List.getElem?_replicate] at e1
      split at e1 <;> cases e1
  · rw [no i x e] at o; cases o
  · rw [no i x e1] at o1; cases o1
theorem start_eq {N : List Str} {vs : List V} {m : Nat} (h : N.length - vs.length = m) : L2.start N vs = vs.map some ++ List.replicate m none := by
  unfold L2.start
  rw [h]
theorem fn_okD {P : Program} {w0 : World} {mg : Str → Option Value} {base : Heap} {x qual : Str} {st : Stmt} {f : Addr} {fd : FuncData} {N ps : List Str} {k n m : Nat} {body : DStm} (F : Fun G.K x qual st f fd) (S : FnScope N ps (defScope st)) (hn : ps.length = n) (hm : N.length - n = m)
    (hbody : ∀ (cdv : Value) (A : Around) (outer : List Env) (s : Shared) (H : Hp) (E : XK), Room k (A.deeper (envOfC qual (defScope st) s.heap.objs.size f cdv)) →
      Takes (cxOf (L2.CX P w0) P w0 G.K mg base N qual (defScope st) f cdv A outer s H E) (fun c d _ H => E c d H) → PassesOwn (model P w0) (A.deeper (envOfC qual (defScope st) s.heap.objs.size f cdv)) (envOfC qual (defScope st) s.heap.objs.size f cdv) (cxOf (L2.CX P w0) P w0 G.K mg base N qual (defScope st) f cdv A outer s H E).xe →
      PDSs G (fun c d _ H => E c d H) (cxOf (L2.CX P w0) P w0 G.K mg base N qual (defScope st) f cdv A outer s H E) (defBody st) body) : FnOk P w0 G.K mg base (L2.CX P w0) (k + 1) f fd ps (spG G n (fnD n body m)) := by
  refine F.okX S (fun vs H Q E h => by rw [h.1, hn]) fun cdv A outer s H vs Q E hr h => ?_
  refine ⟨_, hbody cdv A outer s H E hr (takes_of rfl rfl rfl rfl) (passes_of rfl), ?_⟩
  obtain ⟨hl, w, S', ds, fok, rs, q⟩ := h
  have hd : ds.length = n := by rw [← rs.length]; exact hl
  unfold fnD at q
  rw [if_pos hd] at q
  rw [start_eq (m := m) (by rw [hl]; exact hm)]
  refine ⟨⟨w, H, [], none⟩, w, _, Ok.start fok rs m, ?_⟩
  cases e : body ⟨ds.map Sl.val ++ List.replicate m .un, S'⟩ with
  | stuck => rw [e] at q; exact q.elim
  | exc x s' =>
    rw [e] at q
    exact fun w' σ' c dd H' l o r => q w' c dd H' o.nx o.fok r
  | ok o s' =>
    rw [e] at q
    cases o with
    | nx => exact fun w' σ' H' l o => q w' .non H' o.nx o.fok .non
    | bk => exact q.elim
    | ct => exact q.elim
    | rt d => exact fun w' σ' v H' l o r => q w' v H' o.nx o.fok r
/-! ### attributes -/
def insOf (d : D) (s : DS) : Option (String × List (Nm × D)) := match d with
  | .ins c fs => some (c, fs)
  | .cell n => match s.st[n]? with
    | some (.obj c fs) => some (c, fs)
    | _ => none
  | _ => none
theorem Rep.ins_of {κ : Bs} {w : Wd} {s : DS} {σ : L2.St} {H : Hp} {v : V} {d : D} {c : String} {fs : List (Nm × D)} (r : Rep G w v d) (ok : Ok G κ w s σ H) (h : insOf d s = some (c, fs)) : ∃ a C dx vs, v = .ref a ∧ G.ct c = some C ∧ H a = some (.ins C dx vs) ∧ RepF G w vs fs := by
  cases r with
  | @ins a C dx c' vs ds e1 e2 e3 =>
    have h : some (c', ds) = some (c, fs) := h
    cases h
    exact ⟨a, C, dx, vs, rfl, e1, ok.fok.sub _ _ e2, e3⟩
  | @cell a n e =>
    unfold insOf at h
    cases q : s.st[n]? with
    | none => simp [q] at h
    | some c' =>
      cases c' with
      | obj cc ff =>
        simp only [q] at h
        cases h
        obtain ⟨C, dx, vs, h1, h2, h3⟩ := ok.fok.cel n a _ e q
        exact ⟨a, C, dx, vs, rfl, h1, h2, h3⟩
      | _ => simp [q] at h
  | _ => exact nomatch h
def eFld (cs : List String) (fn : Nm) (f : DE) : DE := fun s => (f s).bind fun d s1 => match insOf d s1 with
  | some (c, fs) => if c ∈ cs then match fs.lookup fn with
    | some x => .ok x s1
    | none => .stuck
    else .stuck
  | none => .stuck
/-- what of the text the classes must have for an attribute -/
def FldOk (G : Gam) (cs : List String) (fn : Nm) : Prop := ∀ c ∈ cs, ∀ C, G.ct c = some C → Cls G.K C ∧ NoAttr G.K C (nm fn)
theorem pd_fld (hK : G.K = X.K) {cs : List String} {fn : Nm} {f : DE} {e : Expr} {x : Str} {pos : Pos} (hx : x = nm fn) (ho : FldOk G cs fn) (h : PD G W X e f) (hb : attributeBase e x X.env (eval e X.env) = eval e X.env := by rfl) : PD G W X (.Attribute e x pos) (eFld cs fn f) :=
  (pe_fld h hb).imp fun σ H Q ⟨κ, w, s, ok, q⟩ => ⟨κ, w, s, ok, (PostG.bind q).imp fun v H1 ⟨d, s1, w1, le, ok1, r1, q1⟩ => by
    cases e1 : insOf d s1 with
    | none => rw [e1] at q1; exact q1.elim
    | some p =>
      obtain ⟨c, fs⟩ := p
      rw [e1] at q1
      obtain ⟨a, C, dx, vs, ev, hC, hH, rf⟩ := r1.ins_of ok1 e1
      have q1 : PostG G W (Rep G) κ w1 σ (if c ∈ cs then match fs.lookup fn with | some x => .ok x s1 | none => .stuck else .stuck) Q := q1
      by_cases hc : c ∈ cs
      · rw [if_pos hc] at q1
        cases e2 : fs.lookup fn with
        | none => rw [e2] at q1; exact q1.elim
        | some z =>
          rw [e2] at q1
          obtain ⟨y, h1, h2⟩ := rf.look e2
          obtain ⟨cl, na⟩ := ho c hc C hC
          refine ⟨a, C, dx, vs, y, ev, hH, hK ▸ cl, by rw [hx]; exact hK ▸ na, by rw [hx]; exact h1, q1 w1 y H1 (.refl _) ok1 h2⟩
      · rw [if_neg hc] at q1
        exact q1.elim⟩
/-! ### o.m(..) -/
def eMeth (c : String) (m : Nm) (n : Nat) (g : DFn) (fo : DE) (fa : DA) : DE := fun s => (fo s).bind fun d s1 => match insOf d s1 with
  | some (c', fs) => if c' = c ∧ fs.lookup m = none then (fa s1).bind fun ds s2 => if ds.length + 1 = n then lift s2 (g (d :: ds) s2.st) else .stuck
    else .stuck
  | none => .stuck
theorem pd_meth (hK : G.K = X.K) {c : String} {mn : Nm} {n : Nat} {g : DFn} {fo : DE} {fa : DA} {C f : Addr} {m : Str} {k : Nat} {fd : FuncData} {ps : List Str} {o e : Expr} {es : List Expr} {apos pos : Pos} {pl : Sem Bool} (he : PD G W X o fo) (hC : G.ct c = some C) (cl : Cls X.K C) (hmn : m = nm mn) (hm : Meth X.K C m f)
    (F : FnOk X.prog X.w X.K X.mg X.base (L2.CX X.prog X.w) k f fd ps (spG G n g)) (hr : Room k X.A) (hb : Binds X.K fd ps []) (tk : Takes X W) (ha : PDA G W X (e :: es) fa)
    (hst : starEach (e :: es) X.env = (false, eval e X.env) :: starEach es X.env := by rfl) (hpl : (backTo pos (starEach es X.env)).any (·.1) = false := by rfl)
    (ht : eval (.Call (.Attribute o m apos) (e :: es) [] pos) X.env = (do
      let ov ← eval o X.env
      standAt apos.atName
      let (f, first) ← holding [ov] (getMethod ov m pl)
      callWith pos f first (backTo pos (starEach (e :: es) X.env)) (backToKw pos (keywordEach [] X.env))) := by rfl) :
    PD G W X (.Call (.Attribute o m apos) (e :: es) [] pos) (eMeth c mn n g fo fa) := by
  refine ⟨fun pins sh σ H Q I h => ?_⟩
  obtain ⟨κ, w, s, ok, q⟩ := h
  have hh : tD G W fo σ H fun v H1 => ∃ d s1 w1, w.le w1 ∧ Ok G κ w1 s1 σ H1 ∧ Rep G w1 v d ∧ PostG G W (Rep G) κ w1 σ (match insOf d s1 with
    | some (c', fs) => if c' = c ∧ fs.lookup mn = none then (fa s1).bind fun ds s2 => if ds.length + 1 = n then lift s2 (g (d :: ds) s2.st) else .stuck else .stuck
    | none => .stuck) Q := ⟨κ, w, s, ok, PostG.bind q⟩
  refine PySem.W.methodCall_KW (pl := pl) (thn (he.run pins sh σ H _ I hh) fun u s1 ⟨x, H1, I1, rx, d, t1, w1, le, ok1, r1, q1⟩ => ?_) ht
  cases e1 : insOf d t1 with
  | none => rw [e1] at q1; exact q1.elim
  | some p =>
    obtain ⟨c', fs⟩ := p
    rw [e1] at q1
    replace q1 : PostG G W (Rep G) κ w1 σ (if c' = c ∧ fs.lookup mn = none then (fa t1).bind fun ds s2 => if ds.length + 1 = n then lift s2 (g (d :: ds) s2.st) else .stuck else .stuck) Q := q1
    by_cases hc : c' = c ∧ fs.lookup mn = none
    · rw [if_pos hc] at q1
      obtain ⟨rfl, hl⟩ := hc
      obtain ⟨a, C', dx, vs, ev, hC', hH, rf⟩ := r1.ins_of ok1 e1
      rw [hC] at hC'
      cases hC'
      subst ev
      obtain rfl : u = Value.ref a := rx
      have hl2 : vs.lookup m = none := by rw [hmn]; exact rf.none hl
      refine getmeth_ok I1 hH cl hm hl2 ?_
      have hh2 : tDA G W fa σ H1 fun vs H2 => ∃ ds s2 w2, w1.le w2 ∧ Ok G κ w2 s2 σ H2 ∧ Reps G w2 vs ds ∧ PostG G W (Rep G) κ w2 σ (if ds.length + 1 = n then lift s2 (g (d :: ds) s2.st) else .stuck) Q := ⟨κ, w1, t1, ok1, PostG.bind q1⟩
      refine PySem.W.callWith_K (first := [.ref a]) (h₀ := X.base) I.ok.mod.kin hm.kp (thn (ha.run pos pins s1 σ H1 _ I1 hh2) fun us s2 ⟨vs2, H2, I2, r2, ds, t2, w2, le2, ok2, rs2, q2⟩ => ⟨I2.kIn, ?_⟩) hst hpl
      by_cases c3 : ds.length + 1 = n
      · rw [if_pos c3] at q2
        exact callD (us := .ref a :: us) (vs := .ref a :: vs2) (ds := d :: ds) F hr hb tk I2 ok2 (.cons (r1.mono le2) rs2) (.cons rfl r2) c3 q2
      · rw [if_neg c3] at q2
        exact q2.elim
    · rw [if_neg hc] at q1
      exact q1.elim
theorem pd_meth0 (hK : G.K = X.K) {c : String} {mn : Nm} {n : Nat} {g : DFn} {fo : DE} {C f : Addr} {m : Str} {k : Nat} {fd : FuncData} {ps : List Str} {o : Expr} {apos pos : Pos} {pl : Sem Bool} (he : PD G W X o fo) (hC : G.ct c = some C) (cl : Cls X.K C) (hmn : m = nm mn) (hm : Meth X.K C m f)
    (F : FnOk X.prog X.w X.K X.mg X.base (L2.CX X.prog X.w) k f fd ps (spG G n g)) (hr : Room k X.A) (hb : Binds X.K fd ps []) (tk : Takes X W)
    (ht : eval (.Call (.Attribute o m apos) [] [] pos) X.env = (do
      let ov ← eval o X.env
      standAt apos.atName
      let (f, first) ← holding [ov] (getMethod ov m pl)
      callWith pos f first (backTo pos (starEach [] X.env)) (backToKw pos (keywordEach [] X.env))) := by rfl) :
    PD G W X (.Call (.Attribute o m apos) [] [] pos) (eMeth c mn n g fo aNil) := by
  refine ⟨fun pins sh σ H Q I h => ?_⟩
  obtain ⟨κ, w, s, ok, q⟩ := h
  have hh : tD G W fo σ H fun v H1 => ∃ d s1 w1, w.le w1 ∧ Ok G κ w1 s1 σ H1 ∧ Rep G w1 v d ∧ PostG G W (Rep G) κ w1 σ (match insOf d s1 with
    | some (c', fs) => if c' = c ∧ fs.lookup mn = none then (aNil s1).bind fun ds s2 => if ds.length + 1 = n then lift s2 (g (d :: ds) s2.st) else .stuck else .stuck
    | none => .stuck) Q := ⟨κ, w, s, ok, PostG.bind q⟩
  refine PySem.W.methodCall_KW (pl := pl) (thn (he.run pins sh σ H _ I hh) fun u s1 ⟨x, H1, I1, rx, d, t1, w1, le, ok1, r1, q1⟩ => ?_) ht
  cases e1 : insOf d t1 with
  | none => rw [e1] at q1; exact q1.elim
  | some p =>
    obtain ⟨c', fs⟩ := p
    rw [e1] at q1
    replace q1 : PostG G W (Rep G) κ w1 σ (if c' = c ∧ fs.lookup mn = none then (if 0 + 1 = n then lift t1 (g [d] t1.st) else .stuck) else .stuck) Q := q1
    by_cases hc : c' = c ∧ fs.lookup mn = none
    · rw [if_pos hc] at q1
      obtain ⟨rfl, hl⟩ := hc
      obtain ⟨a, C', dx, vs, ev, hC', hH, rf⟩ := r1.ins_of ok1 e1
      rw [hC] at hC'
      cases hC'
      subst ev
      obtain rfl : u = Value.ref a := rx
      have hl2 : vs.lookup m = none := by rw [hmn]; exact rf.none hl
      refine getmeth_ok I1 hH cl hm hl2 ?_
      by_cases c3 : 0 + 1 = n
      · rw [if_pos c3] at q1
        exact PySem.W.callWith_K0 (first := [.ref a]) I1.kIn hm.kp (callD (us := [.ref a]) (vs := [.ref a]) (ds := [d]) F hr hb tk I1 ok1 (.cons r1 .nil) (.cons rfl .nil) c3 q1)
      · rw [if_neg c3] at q1
        exact q1.elim
    · rw [if_neg hc] at q1
      exact q1.elim
/-! ### C(..): an instance of one's own class is made -/
abbrev DIn := List D → List Cell → Res (List Cell) (List (Nm × D))
def erase (H : Hp) (x : Addr) : Hp := fun a => if a = x then none else H a
def spI (G : Gam) (c : String) (n : Nat) (g : DIn) : Sp := fun vs H Q E => vs.length = n + 1 ∧ ∃ w S ds x vs' C dx, vs = .ref x :: vs' ∧ G.ct c = some C ∧ H x = some (.ins C dx []) ∧ FOk G w S H ∧ w.F x = none ∧ x ∉ w.ρ ∧ Reps G w vs' ds ∧
  match g ds S with
  | .ok fs S' => ∀ w' H' vfs dx', Nx w (erase H x) w' H' → FOk G w' S' H' → H' x = some (.ins C dx' vfs) → RepF G w' vfs fs → w'.F x = none → x ∉ w'.ρ → Q .non H'
  | .exc x' S' => ∀ w' cc dd H', Nx w (erase H x) w' H' → FOk G w' S' H' → RepX G w' cc dd x' → E cc dd H'
  | .stuck => False
def inFin (c : String) (s : DS) : Res (List Cell) (List (Nm × D)) := match (s.sl[0]? : Option Sl) with
  | some (.oi c' fs) => if c' = c then .ok fs s.st else .stuck
  | _ => .stuck
def inD (c : String) (n : Nat) (body : DStm) (m : Nat) : DIn := fun ds S => if ds.length = n then
  match body ⟨.oi c [] :: ds.map Sl.val ++ List.replicate m .un, S⟩ with
  | .ok (.rt .non) s => inFin c s
  | .ok .nx s => inFin c s
  | .exc x s => .exc x s.st
  | _ => .stuck
  else .stuck
theorem Ok.startI {w : Wd} {S : List Cell} {H : Hp} {vs : List V} {ds : List D} {x C dx : Addr} {c : String} (f : FOk G w S H) (r : Reps G w vs ds) (m : Nat) (hC : G.ct c = some C) (hx : H x = some (.ins C dx [])) (nF : w.F x = none) (nR : x ∉ w.ρ) :
    Ok G ⟨w, erase H x, [], some x⟩ w ⟨.oi c [] :: ds.map Sl.val ++ List.replicate m .un, S⟩ (some (.ref x) :: vs.map some ++ List.replicate m none) H := by
  have base := Ok.start f r m
  have no : ∀ (i : Nat) (y : Sl), (ds.map Sl.val ++ List.replicate m Sl.un)[i]? = some y → y.own = false := fun i y e => by
    have hx := List.mem_of_getElem? e
    rcases List.mem_append.mp hx with h | h
    · obtain ⟨d, _, rfl⟩ := List.mem_map.mp h
      rfl
    · rw [(List.mem_replicate.mp h).2]
      rfl
  refine ⟨f, ⟨.refl _, fun a o e _ => ?_, fun a h => .inl h, fun a h => .inl h⟩, by simp [r.length], fun i d e => ?_, fun i y e o => ?_, fun i j y z a e1 e2 o1 o2 _ _ => ?_, fun p hp => by simp at hp, fun a z c' fs' _ => by cases z; rfl⟩
  · have e : (if a = x then none else H a) = some o := e
    split at e
    · cases e
    · exact e
  · cases i with
    | zero => cases e
    | succ i => exact base.val i d e
  · cases i with
    | zero =>
      cases e
      exact ⟨x, rfl, ⟨C, dx, [], hC, hx, .nil⟩, nF, nR, by show (if x = x then none else H x) = none; rw [if_pos rfl]⟩
    | succ i =>
      rw [no i y e] at o
      cases o
  · cases i with
    | zero =>
      cases j with
      | zero => rfl
      | succ j => rw [no j z e2] at o2; cases o2
    | succ i => rw [no i y e1] at o1; cases o1
theorem in_okD {P : Program} {w0 : World} {mg : Str → Option Value} {base : Heap} {x qual : Str} {st : Stmt} {f : Addr} {fd : FuncData} {N ps : List Str} {c : String} {k n m : Nat} {body : DStm} (F : Fun G.K x qual st f fd) (S : FnScope N ps (defScope st)) (hn : ps.length = n + 1) (hm : N.length - (n + 1) = m)
    (hbody : ∀ (cdv : Value) (A : Around) (outer : List Env) (s : Shared) (H : Hp) (E : XK), Room k (A.deeper (envOfC qual (defScope st) s.heap.objs.size f cdv)) →
      Takes (cxOf (L2.CX P w0) P w0 G.K mg base N qual (defScope st) f cdv A outer s H E) (fun c d _ H => E c d H) → PassesOwn (model P w0) (A.deeper (envOfC qual (defScope st) s.heap.objs.size f cdv)) (envOfC qual (defScope st) s.heap.objs.size f cdv) (cxOf (L2.CX P w0) P w0 G.K mg base N qual (defScope st) f cdv A outer s H E).xe →
      PDSs G (fun c d _ H => E c d H) (cxOf (L2.CX P w0) P w0 G.K mg base N qual (defScope st) f cdv A outer s H E) (defBody st) body) : FnOk P w0 G.K mg base (L2.CX P w0) (k + 1) f fd ps (spI G c n (inD c n body m)) := by
  refine F.okX S (fun vs H Q E h => by rw [h.1, hn]) fun cdv A outer s H vs Q E hr h => ?_
  refine ⟨_, hbody cdv A outer s H E hr (takes_of rfl rfl rfl rfl) (passes_of rfl), ?_⟩
  obtain ⟨hl, w, S', ds, xa, vs', C, dx, ev, hC, hx, fok, nF, nR, rs, q⟩ := h
  subst ev
  have hl' : vs'.length = n := by simpa using hl
  have hd : ds.length = n := by rw [← rs.length]; exact hl'
  unfold inD at q
  rw [if_pos hd] at q
  rw [start_eq (m := m) (by rw [List.length_cons, hl']; exact hm)]
  refine ⟨⟨w, erase H xa, [], some xa⟩, w, _, Ok.startI fok rs m hC hx nF nR, ?_⟩
  have fin : ∀ (w' : Wd) (σ' : L2.St) (H' : Hp) (s' : DS), Ok G ⟨w, erase H xa, [], some xa⟩ w' s' σ' H' →
      (match inFin c s' with
        | .ok fs S' => ∀ w' H' vfs dx', Nx w (erase H xa) w' H' → FOk G w' S' H' → H' xa = some (.ins C dx' vfs) → RepF G w' vfs fs → w'.F xa = none → xa ∉ w'.ρ → Q .non H'
        | .exc x' S' => ∀ w' cc dd H', Nx w (erase H xa) w' H' → FOk G w' S' H' → RepX G w' cc dd x' → E cc dd H'
        | .stuck => False) → Q .non H' := fun w' σ' H' s' o q => by
    unfold inFin at q
    cases e0 : s'.sl[0]? with
    | none => rw [e0] at q; exact q.elim
    | some y =>
      rw [e0] at q
      cases y with
      | oi c' fs =>
        by_cases hc : c' = c
        · subst hc
          simp only [if_true] at q
          have h0 := o.me xa rfl _ _ e0
          obtain ⟨a, h1, ⟨C', dx', vfs, hC', hH, rf⟩, h3, h4, _⟩ := o.own 0 _ e0 rfl
          rw [h0] at h1
          cases h1
          rw [hC] at hC'
          cases hC'
          exact q w' H' vfs dx' o.nx o.fok hH rf h3 h4
        · simp only [if_neg hc] at q
      | _ => exact q.elim
  cases e : body ⟨.oi c [] :: ds.map Sl.val ++ List.replicate m .un, S'⟩ with
  | stuck => rw [e] at q; exact q.elim
  | exc x s' =>
    rw [e] at q
    exact fun w' σ' c dd H' l o r => q w' c dd H' o.nx o.fok r
  | ok o s' =>
    rw [e] at q
    cases o with
    | nx => exact fun w' σ' H' l o => fin w' σ' H' s' o q
    | bk => exact q.elim
    | ct => exact q.elim
    | rt d =>
      intro w' σ' v H' l o r
      cases r with
      | non => exact fin w' σ' H' s' o q
      | _ => exact q.elim
/-- what of the text a class must have to be made -/
theorem makeD {c : String} {n k : Nat} {g : DIn} {C f : Addr} {fd : FuncData} {ps : List Str} {pins : List (Addr × Obj)} {sh : Shared} {κ : Bs} {w : Wd} {s : DS} {σ : L2.St} {H : Hp} {vs : List V} {ds : List D} {us : List Value} {Q : VK} (M : Mk X.K C f) (hC : G.ct c = some C)
    (F : FnOk X.prog X.w X.K X.mg X.base (L2.CX X.prog X.w) k f fd ps (spI G c n g)) (hr : Room (k + 1) X.A) (hb : Binds X.K fd ps []) (tk : Takes X W) (I : Inv X pins σ H sh) (ok : Ok G κ w s σ H) (rs : Reps G w vs ds) (r : Vals vs us) (hn : ds.length = n)
    (q : PostG G W (Rep G) κ w σ ((lift s (g ds s.st)).bind fun fs s1 => .ok (.ins c fs) s1) Q) : wpAny (model X.prog X.w) X.A (call (.ref C) us) (EP X pins σ Q) X.xe sh := by
  have key : ∀ x dx, H x = none → H dx = none → dx ≠ x → spI G c n g (.ref x :: (vs ++ [])) (upd (upd H dx (.own x)) x (.ins C dx [])) (fun v H2 => v = .non ∧ Q (.ref x) H2) (WE W σ) := fun x dx nx ndx ne => by
    have o1 := ok.fresh ndx (.own x)
    have nx1 : upd H dx (.own x) x = none := by rw [upd_ne (Ne.symm ne)]; exact nx
    have o2 := o1.fresh nx1 (.ins C dx [])
    obtain ⟨g1, g2, g3, g4, g5⟩ := o2.gam (x, .ins C dx []) List.mem_cons_self
    have kx : ∀ a o, H a = some o → erase (upd (upd H dx (.own x)) x (.ins C dx [])) x a = some o := fun a o e => by
      have h1 : a ≠ x := ne_of_none e nx
      have h2 : a ≠ dx := ne_of_none e ndx
      show (if a = x then none else _) = some o
      rw [if_neg h1, upd_ne h1, upd_ne h2]
      exact e
    have bk : ∀ a, erase (upd (upd H dx (.own x)) x (.ins C dx [])) x a = none → H a = none := fun a e => by
      cases e2 : H a with
      | none => rfl
      | some o => rw [kx a o e2] at e; cases e
    refine ⟨by rw [List.append_nil, List.length_cons, rs.length, hn], w, s.st, ds, x, vs, C, dx, by rw [List.append_nil], hC, g1, o2.fok, g2, g3, rs, ?_⟩
    cases e : g ds s.st with
    | stuck => rw [e] at q; exact q.elim
    | exc x' S' =>
      rw [e] at q
      exact fun w' cc dd H' nn f' r => q w' cc dd H' nn.le (ok.step ⟨nn.le, fun a o e1 e2 => nn.keep a o (kx a o e1) e2, fun a h => (nn.newF a h).imp_right (bk a), fun a h => (nn.newR a h).imp_right (bk a)⟩ f') r
    | ok fs S' =>
      rw [e] at q
      intro w' H' vfs dx' nn f' hx rf hF hR
      refine ⟨rfl, ?_⟩
      have N1 : Nx w H w' H' := ⟨nn.le, fun a o e1 e2 => nn.keep a o (kx a o e1) e2, fun a h => (nn.newF a h).imp_right (bk a), fun a h => (nn.newR a h).imp_right (bk a)⟩
      have o3 : Ok G (κ.plus x (.ins C dx' vfs)) w' ⟨s.sl, S'⟩ σ H' := by
        have o3 := ok.step N1 f'
        refine ⟨o3.fok, o3.nx, o3.len, o3.val, o3.own, o3.ne, fun p hp => ?_, o3.me⟩
        rcases List.mem_cons.mp hp with rfl | hp
        · exact ⟨hx, hF, hR, g4, g5⟩
        · exact o3.gam p hp
      obtain ⟨le, o4⟩ := o3.frz fun p hp => ne_of_none (ok.gam p hp).1 nx
      exact q _ _ _ (nn.le.trans le) o4 (.ins hC upd_same (rf.mono le))
  have hx : PassesAt (L2.CX X.prog X.w) X σ (WE W σ) := passAt tk σ
  have hq := key (sh.heap.objs.size + 1) sh.heap.objs.size (I.hok.fresh (Nat.le_succ _)) (I.hok.fresh (Nat.le_refl _)) (Nat.ne_of_lt (Nat.lt_succ_self _))
  have I2 := Inv.made (C := C) I
  have r2 : Vals (V.ref (sh.heap.objs.size + 1) :: (vs ++ [])) (Value.ref (sh.heap.objs.size + 1) :: (us ++ [])) := .cons rfl (r.append .nil)
  have hl : (Value.ref (sh.heap.objs.size + 1) :: us ++ []).length = ps.length := by
    have e := r2.length
    rw [F.len _ _ _ _ hq] at e
    exact e.symm
  refine wpAny_call (make_map (f := f) I.kIn M.makes M.init (beq_iff_eq.mp M.fn) (codeAny_mono (F.run _ X.stack _ _ ⟨Value.ref (sh.heap.objs.size + 1) :: us, []⟩ (Value.ref (sh.heap.objs.size + 1) :: (us ++ [])) _ _ (WE W σ) (hr.make C us [])
    (I2.env0.make C us []) (by
      have hbb := hb _ (Value.ref (sh.heap.objs.size + 1) :: us) I2.kIn hl
      rw [List.cons_append] at hbb
      exact hbb) r2 hq) fun r s' hq' => ?_))
  cases r with
  | error e => exact hx pins _ _ e s' I2 hq'
  | ok fl =>
    cases fl with
    | ret u =>
      obtain ⟨v, H', I3, rv, ev, q3⟩ := I2.after hq'
      subst ev
      exact ⟨rv, ⟨V.ref (sh.heap.objs.size + 1), H', I3, rfl, q3⟩⟩
    | next => exact False.elim hq'
    | brk => exact False.elim hq'
    | cont => exact False.elim hq'
def eMake (c : String) (n : Nat) (g : DIn) (fa : DA) : DE := fun s => (fa s).bind fun ds s1 => if ds.length = n then (lift s1 (g ds s1.st)).bind fun fs s2 => .ok (.ins c fs) s2 else .stuck
theorem pd_make {c : String} {n k : Nat} {g : DIn} {C f : Addr} {fd : FuncData} {ps : List Str} {x : Str} {p pos : Pos} {e : Expr} {es : List Expr} {fa : DA} (M : Mk X.K C f) (hC : G.ct c = some C) (F : FnOk X.prog X.w X.K X.mg X.base (L2.CX X.prog X.w) k f fd ps (spI G c n g)) (hr : Room (k + 1) X.A) (hg : Gl X x)
    (hm : X.mg x = some (.ref C)) (hb : Binds X.K fd ps []) (tk : Takes X W) (ha : PDA G W X (e :: es) fa) (hdb : (x == ("__debug__" : Str)) = false := by decide) (he : starEach (e :: es) X.env = (false, eval e X.env) :: starEach es X.env := by rfl)
    (hpl : (backTo pos (starEach es X.env)).any (·.1) = false := by rfl) : PD G W X (.Call (.Name x p) (e :: es) [] pos) (eMake c n g fa) := by
  refine ⟨fun pins s σ H Q I h => ?_⟩
  obtain ⟨κ, w, ds, ok, q⟩ := h
  refine wpAny_Call_Name_kw (ld_glob I hg hm ?_ hdb)
  have hh : tDA G W fa σ H fun vs H1 => ∃ d s1 w1, w.le w1 ∧ Ok G κ w1 s1 σ H1 ∧ Reps G w1 vs d ∧ PostG G W (Rep G) κ w1 σ (if d.length = n then (lift s1 (g d s1.st)).bind fun fs s2 => .ok (.ins c fs) s2 else .stuck) Q := ⟨κ, w, ds, ok, PostG.bind q⟩
  refine PySem.W.callWith_K (h₀ := X.base) I.ok.mod.kin M.kp (thn (ha.run pos pins s σ H _ I hh) fun us s1 ⟨vs, H1, I1, r, d, s2, w1, le, ok1, rs, q1⟩ => ⟨I1.kIn, ?_⟩) he hpl
  by_cases c : d.length = n
  · rw [if_pos c] at q1
    exact makeD M hC F hr hb tk I1 ok1 rs r c q1
  · rw [if_neg c] at q1
    exact q1.elim
/-! ### self.f = e -/
def sFldO (c : String) (i : Nat) (fn : Nm) (f : DE) : DStm := fun s => (f s).bind fun d s1 => match s1.sl[i]? with
  | some (.oi c' fs) => if c' = c ∧ fs.length < 1000 then .ok .nx ⟨s1.sl.set i (.oi c (putN fn d fs)), s1.st⟩ else .stuck
  | _ => .stuck
theorem RepF.put {w : Wd} {y : V} {d : D} {fn : Nm} (r : Rep G w y d) : ∀ {v : List (Str × V)} {ds : List (Nm × D)}, RepF G w v ds → RepF G w (putF (nm fn) y v) (putN fn d ds)
  | _, _, .nil => .cons r .nil
  | _, _, .cons (f := g) a b => by
    unfold putF putN
    by_cases h : g = fn
    · subst h
      rw [if_pos rfl]
      simp only [if_true]
      first
        | exact .cons r b
        | (split <;> first | exact .cons r b | (rename_i q; exact absurd rfl q))
    · have h2 : nm g ≠ nm fn := fun q => h (nm_inj q)
      rw [if_neg h]
      split
      · rename_i q; exact absurd q h2
      · exact .cons a (RepF.put r b)
theorem pds_fld (hK : G.K = X.K) {c : String} {C : Addr} {i : Nat} {fn : Nm} {f : DE} {x y : Str} {p pos' pos : Pos} {value : Expr} (ho : PE X (.Name y p) (tVar i)) (hx : x = nm fn) (hC : G.ct c = some C) (cl : Cls X.K C) (na : NoAttr X.K C x) (hv : PD G W X value f)
    (hs : swapsWith value (some (.Attribute (.Name y p) x pos')) pos.line X.env = pure false := by rfl) : PDS G W X (.Assign [.Attribute (.Name y p) x pos'] value pos) (sFldO c i fn f) :=
  (ps_fld ho hv hs).imp fun N σ H ⟨κ, w, s, ok, q⟩ => ⟨κ, w, s, ok, (PostG.bindS q).imp fun v H1 ⟨d, s1, w1, le, ok1, r1, q1⟩ => by
    cases e : s1.sl[i]? with
    | none => rw [e] at q1; exact q1.elim
    | some z =>
      rw [e] at q1
      cases z with
      | oi c' fs =>
        replace q1 : PostS G W κ w1 (if c' = c ∧ fs.length < 1000 then .ok .nx ⟨s1.sl.set i (.oi c (putN fn d fs)), s1.st⟩ else .stuck) N := q1
        by_cases hc : c' = c ∧ fs.length < 1000
        · rw [if_pos hc] at q1
          obtain ⟨rfl, hl⟩ := hc
          obtain ⟨a, h1, ⟨C', dx, vs, hC', hH, rf⟩, _⟩ := ok1.own i _ e rfl
          rw [hC] at hC'
          cases hC'
          refine ⟨_, h1, a, C, dx, vs, rfl, hH, cl, na, by rw [rf.length]; exact hl, ?_⟩
          refine q1 w1 σ _ (.refl _) (ok1.mut e rfl rfl h1 ⟨C, dx, _, hC, upd_same, ?_⟩ fun _ _ _ => ⟨_, _, rfl⟩)
          rw [hx]
          exact RepF.put r1 rf
        · rw [if_neg hc] at q1
          exact q1.elim
      | _ => exact q1.elim⟩
end
end DL
set_option maxRecDepth 100000
set_option maxHeartbeats 4000000
set_option autoImplicit false
namespace DL
open PySem PySem.Spec PyProof.Rows L2
section
variable {G : Gam} {W : WX} {X : Cx}
/-! ### operators that may call -/
abbrev DO2 := D → D → DS → Res DS D
def OpX (G : Gam) (W : WX) (X : Cx) (f : Value → Value → Sem Value) (o : DO2) : Prop := ∀ (pins : List (Addr × Obj)) (sh : Shared) (σ : L2.St) (H : Hp) (x y : V) (v u : Value) (κ : Bs) (w : Wd) (s : DS) (dx dy : D) (Q : VK),
  Inv X pins σ H sh → RelV x v → RelV y u → Ok G κ w s σ H → Rep G w x dx → Rep G w y dy → PostG G W (Rep G) κ w σ (o dx dy s) Q → wpAny (model X.prog X.w) X.A (f v u) (EP X pins σ Q) X.xe sh
def eOpX (o : DO2) (fa fb : DE) : DE := fun s => (fa s).bind fun x s1 => (fb s1).bind fun y s2 => o x y s2
def liftO (o : D → D → Option D) : DO2 := fun x y s => match o x y with
  | some d => .ok d s
  | none => .stuck
theorem OpD.x {f : Value → Value → Sem Value} {o : D → D → Option D} (h : OpD G X f o) : OpX G W X f (liftO o) := by
  obtain ⟨r, h1, h2⟩ := h
  intro pins sh σ H x y v u κ w s dx dy Q I rx ry ok dx' dy' q
  unfold liftO at q
  cases e : o dx dy with
  | none => rw [e] at q; exact q.elim
  | some z => rw [e] at q; exact h1 pins sh σ H x y v u Q I rx ry (h2 κ w s σ H x y dx dy z Q ok dx' dy' e q)
def orO (o o' : DO2) : DO2 := fun x y s => match o x y s with
  | .stuck => o' x y s
  | r => r
theorem OpX.or {f : Value → Value → Sem Value} {o o' : DO2} (h : OpX G W X f o) (h' : OpX G W X f o') : OpX G W X f (orO o o') := by
  intro pins sh σ H x y v u κ w s dx dy Q I rx ry ok dx' dy' q
  unfold orO at q
  cases e : o dx dy s with
  | stuck => rw [e] at q; exact h' pins sh σ H x y v u κ w s dx dy Q I rx ry ok dx' dy' q
  | exc a b => rw [e] at q; exact h pins sh σ H x y v u κ w s dx dy Q I rx ry ok dx' dy' (by rw [e]; exact q)
  | ok a b => rw [e] at q; exact h pins sh σ H x y v u κ w s dx dy Q I rx ry ok dx' dy' (by rw [e]; exact q)
theorem opX_run {o : DO2} {fa fb : DE} {a b : Expr} (ha : PD G W X a fa) (hb : PD G W X b fb) {f : Value → Value → Sem Value} (ho : OpX G W X f o) {pins : List (Addr × Obj)} {sh : Shared} {σ : L2.St} {H : Hp} {Q : VK} (I : Inv X pins σ H sh) (h : tD G W (eOpX o fa fb) σ H Q) :
    wpAny (model X.prog X.w) X.A (eval a X.env) (fun v s₁ => wpAny (model X.prog X.w) X.A (eval b X.env) (fun u s₂ => wpAny (model X.prog X.w) X.A (f v u) (EP X pins σ Q) X.xe s₂) X.xe s₁) X.xe sh := by
  obtain ⟨κ, w, s, ok, q⟩ := h
  have hh : tD G W fa σ H fun v H1 => tD G W fb σ H1 fun u H2 => ∃ d s1 w1, Ok G κ w1 s1 σ H2 ∧ ∃ d1, Rep G w1 v d1 ∧ Rep G w1 u d ∧ PostG G W (Rep G) κ w1 σ (o d1 d s1) Q :=
    ⟨κ, w, s, ok, (PostG.bind q).imp fun v H1 ⟨d, s1, w1, le, ok1, r1, q1⟩ => ⟨κ, w1, s1, ok1, (PostG.bind q1).imp fun u H2 ⟨d2, s2, w2, le2, ok2, r2, q2⟩ => ⟨d2, s2, w2, ok2, d, r1.mono le2, r2, q2⟩⟩⟩
  refine bin ha hb I (R := fun x y H2 => ∃ d s1 w1, Ok G κ w1 s1 σ H2 ∧ ∃ d1, Rep G w1 x d1 ∧ Rep G w1 y d ∧ PostG G W (Rep G) κ w1 σ (o d1 d s1) Q) hh fun v u s2 x y H2 I2 rx ry ⟨d, s1, w1, ok1, d1, r1, r2, q2⟩ => ?_
  exact ho pins s2 σ H2 x y v u κ w1 s1 d1 d Q I2 rx ry ok1 r1 r2 q2
theorem pd_opX {op : Operator} {o : DO2} {a b : Expr} {fa fb : DE} {pos : Pos} (ho : OpX G W X (binaryOp op) o) (ha : PD G W X a fa) (hb : PD G W X b fb) : PD G W X (.BinOp a op b pos) (eOpX o fa fb) :=
  ⟨fun pins s σ H Q I h => wpAny_BinOp (opX_run ha hb ho I h)⟩
theorem pd_cmpX {op : CmpOp} {o : DO2} {a b : Expr} {fa fb : DE} {pos : Pos} (ho : OpX G W X (compareOp op) o) (ha : PD G W X a fa) (hb : PD G W X b fb) (hm : behindInMarks op b = false) : PD G W X (.Compare a [op] [b] pos) (eOpX o fa fb) :=
  ⟨fun pins s σ H Q I h => wpAny_Compare1 (opX_run ha hb ho I h) hm⟩
/-! ### truth -/
def truD (d : D) : Option Bool := match d with
  | .non => some false
  | .bl b => some b
  | .int i => some (i != 0)
  | .str l => if l.length ≤ 16777216 then some ((l.length : Int) != 0) else none
  | .tup xs => some (!xs.isEmpty)
  | .lst xs => some (!xs.isEmpty)
  | .scr xs => some (!xs.isEmpty)
  | .dic xs => some (!xs.isEmpty)
  | _ => none
theorem Reps.isEmpty {w : Wd} {vs : List V} {ds : List D} (r : Reps G w vs ds) : vs.isEmpty = ds.isEmpty := by cases r <;> rfl
theorem RepK.isEmpty {w : Wd} {vs : List (Key × V)} {ds : List (DK × D)} (r : RepK G w vs ds) : vs.isEmpty = ds.isEmpty := by cases r <;> rfl
theorem nm_len (l : Nm) : (nm l).length = l.length := by simp [nm, Str.length]
theorem truV_of (hK : G.K = X.K) {κ : Bs} {w : Wd} {s : DS} {σ : L2.St} {H : Hp} {v : V} {d : D} {k : Bool} (ok : Ok G κ w s σ H) (r : Rep G w v d) (h : truD d = some k) : TruV X.K v H k := by
  cases r with
  | non => cases h; rfl
  | bl b => cases h; rfl
  | int i => cases h; rfl
  | str l =>
    have h : (if l.length ≤ 16777216 then some ((l.length : Int) != 0) else none) = some k := h
    split at h
    · rename_i c
      cases h
      exact ⟨by rw [nm_len, sizeLine_eq]; exact c, by rw [nm_len]⟩
    · cases h
  | @tup a vs ds e r => cases h; exact .inr (.inl ⟨vs, hK ▸ SqT.le e ok.fok.sub, by rw [r.isEmpty]⟩)
  | @lst a vs ds e r => cases h; exact .inl ⟨vs, .inl (.inl (ok.fok.sub _ _ e)), by rw [r.isEmpty]⟩
  | @scr a vs ds e r => cases h; exact .inl ⟨vs, hK ▸ SqL.le e ok.fok.sub, by rw [r.isEmpty]⟩
  | @dic a vs ds e r => cases h; exact .inr (.inr ⟨vs, ok.fok.sub _ _ e, by rw [r.isEmpty]⟩)
  | _ => cases h
def eTru (f : DE) : DT := fun s => (f s).bind fun d s1 => match truD d with
  | some b => .ok b s1
  | none => .stuck
theorem ptd_truth (hK : G.K = X.K) {e : Expr} {f : DE} (h : PD G W X e f) (he : ∀ whole, isTrue e X.env whole = (do let v ← whole; standAt e.pos; holding [v] (truthy v)) := by intro _; rfl) : PDT G W X e (eTru f) :=
  (pt_truth h he).imp fun σ H Q ⟨κ, w, s, ok, q⟩ => ⟨κ, w, s, ok, (PostG.bind q).imp fun v H1 ⟨d, s1, w1, le, ok1, r1, q1⟩ => by
    cases e1 : truD d with
    | none => rw [e1] at q1; exact q1.elim
    | some k => rw [e1] at q1; exact ⟨k, truV_of hK ok1 r1 e1, q1 w1 k H1 (.refl _) ok1 rfl⟩⟩
theorem ptd_cmpX {op : CmpOp} {o : DO2} {a b : Expr} {fa fb : DE} {pos : Pos} (ho : OpX G W X (compareOp op) o) (ha : PD G W X a fa) (hb : PD G W X b fb) (hm : behindInMarks op b = false) : PDT G W X (.Compare a [op] [b] pos) (eB (eOpX o fa fb)) :=
  ⟨fun pins s σ H Q I h => by
    have hh := tB_of h
    refine wpAny_isTrue_Compare1 (thn (opX_run ha hb ho I hh) fun v s1 h1 => thn h1 fun u s2 h2 => thn h2 fun c s3 ⟨x, H1, I1, r1, q1⟩ => ?_) hm
    obtain ⟨d, rfl, q⟩ := q1
    cases r1
    exact wpAny_truthy_bool ⟨H1, I1, q⟩⟩
/-- x or y, x and y by truth, as values -/
def eOrT (f g : DE) : DE := fun s => (f s).bind fun d s1 => match truD d with
  | some b => if b = true then .ok d s1 else g s1
  | none => .stuck
def eAndT (f g : DE) : DE := fun s => (f s).bind fun d s1 => match truD d with
  | some b => if b = true then g s1 else .ok d s1
  | none => .stuck
def eNotT (f : DE) : DE := fun s => (f s).bind fun d s1 => match truD d with
  | some b => .ok (.bl (!b)) s1
  | none => .stuck
theorem pd_orT (hK : G.K = X.K) {a b : Expr} {r : List Expr} {f g : DE} {pos : Pos} (h : PD G W X a f) (k : PD G W X (.BoolOp .Or (b :: r) pos) g) : PD G W X (.BoolOp .Or (a :: b :: r) pos) (eOrT f g) :=
  (pe_orT h k).imp fun σ H Q ⟨κ, w, s, ok, q⟩ => ⟨κ, w, s, ok, (PostG.bind q).imp fun v H1 ⟨d, s1, w1, le, ok1, r1, q1⟩ => by
    cases e1 : truD d with
    | none => rw [e1] at q1; exact q1.elim
    | some k =>
      rw [e1] at q1
      refine ⟨k, truV_of hK ok1 r1 e1, ?_⟩
      cases k with
      | true => exact q1 w1 v H1 (.refl _) ok1 r1
      | false => exact ⟨κ, w1, s1, ok1, q1⟩⟩
theorem pd_andT (hK : G.K = X.K) {a b : Expr} {r : List Expr} {f g : DE} {pos : Pos} (h : PD G W X a f) (k : PD G W X (.BoolOp .And (b :: r) pos) g) : PD G W X (.BoolOp .And (a :: b :: r) pos) (eAndT f g) :=
  (pe_andT h k).imp fun σ H Q ⟨κ, w, s, ok, q⟩ => ⟨κ, w, s, ok, (PostG.bind q).imp fun v H1 ⟨d, s1, w1, le, ok1, r1, q1⟩ => by
    cases e1 : truD d with
    | none => rw [e1] at q1; exact q1.elim
    | some k =>
      rw [e1] at q1
      refine ⟨k, truV_of hK ok1 r1 e1, ?_⟩
      cases k with
      | false => exact q1 w1 v H1 (.refl _) ok1 r1
      | true => exact ⟨κ, w1, s1, ok1, q1⟩⟩
theorem pd_notT (hK : G.K = X.K) {a : Expr} {f : DE} {pos : Pos} (h : PD G W X a f) : PD G W X (.UnaryOp .Not a pos) (eNotT f) :=
  (pe_notT h).imp fun σ H Q ⟨κ, w, s, ok, q⟩ => ⟨κ, w, s, ok, (PostG.bind q).imp fun v H1 ⟨d, s1, w1, le, ok1, r1, q1⟩ => by
    cases e1 : truD d with
    | none => rw [e1] at q1; exact q1.elim
    | some k => rw [e1] at q1; exact ⟨k, truV_of hK ok1 r1 e1, q1 w1 _ H1 (.refl _) ok1 (.bl _)⟩⟩
/-! ### ints -/
def dI (g : Int → Int → Option D) : D → D → Option D := fun x y => match x, y with
  | .int i, .int j => g i j
  | _, _ => none
theorem opd_I {f : Value → Value → Sem Value} {C : Int → Int → Prop} {gv : Int → Int → V} {g : Int → Int → Option D} (h : OpR X f (rI C gv)) (hg : ∀ i j d, g i j = some d → C i j ∧ ∀ w, Rep G w (gv i j) d) : OpD G X f (dI g) :=
  ⟨_, h, fun κ w s σ H x y dx dy d Q ok rx ry e q => by
    cases rx with
    | int i =>
      cases ry with
      | int j =>
        obtain ⟨c, r⟩ := hg _ _ _ e
        exact ⟨_, _, rfl, rfl, c, q w _ H (.refl _) ok (r w)⟩
      | _ => exact nomatch e
    | _ => exact nomatch e⟩
theorem opd_I0 {f : Value → Value → Sem Value} {gv : Int → Int → V} {g : Int → Int → Option D} (h : OpR X f (rI0 gv)) (hg : ∀ i j d, g i j = some d → ∀ w, Rep G w (gv i j) d) : OpD G X f (dI g) :=
  ⟨_, h, fun κ w s σ H x y dx dy d Q ok rx ry e q => by
    cases rx with
    | int i =>
      cases ry with
      | int j => exact ⟨_, _, rfl, rfl, q w _ H (.refl _) ok (hg _ _ _ e w)⟩
      | _ => exact nomatch e
    | _ => exact nomatch e⟩
/-- a bound on the bits that products may have -/
def mulOk (i j : Int) : Bool := decide (i.natAbs.log2 + j.natAbs.log2 < 100000000)
def divOk (j : Int) : Bool := decide (j ≠ 0 ∧ j.natAbs.log2 < 9000)
def iAdd : D → D → Option D := dI fun i j => some (.int (i + j))
def iSub : D → D → Option D := dI fun i j => some (.int (i - j))
def iMul : D → D → Option D := dI fun i j => if mulOk i j then some (.int (i * j)) else none
def iDiv : D → D → Option D := dI fun i j => if divOk j then some (.int (i.fdiv j)) else none
def iMod : D → D → Option D := dI fun i j => if j ≠ 0 then some (.int (i.fmod j)) else none
def iPow : D → D → Option D := dI fun i j => if 0 ≤ j ∧ j ≤ 1000000 ∧ i.natAbs < 2 ^ 64 then some (.int (i ^ j.toNat)) else none
def iShl : D → D → Option D := dI fun i j => if 0 ≤ j ∧ j ≤ 1000000 ∧ i.natAbs < 2 ^ 64 then some (.int (i * 2 ^ j.toNat)) else none
def iLt : D → D → Option D := dI fun i j => some (.bl (decide (i < j)))
def iLe : D → D → Option D := dI fun i j => some (.bl (decide (i ≤ j)))
def iGt : D → D → Option D := dI fun i j => some (.bl (decide (j < i)))
def iGe : D → D → Option D := dI fun i j => some (.bl (decide (j ≤ i)))
theorem opd_add : OpD G X (binaryOp .Add) iAdd := opd_I0 op_add fun i j d e w => by cases e; exact .int _
theorem opd_sub : OpD G X (binaryOp .Sub) iSub := opd_I0 op_sub fun i j d e w => by cases e; exact .int _
def CMulX (i j : Int) : Prop := i.natAbs.log2 + j.natAbs.log2 < 100000000
theorem CMulX.ok {i j : Int} (h : CMulX i j) : IntMulOk i j := by
  have b : ∀ x : Int, Builtin.Int.intBits x ≤ x.natAbs.log2 + 1 := fun x => by
    unfold Builtin.Int.intBits
    split <;> omega
  have h1 := b i
  have h2 := b j
  have h3 : i.natAbs.log2 + j.natAbs.log2 < 100000000 := h
  have e : bitsLine = 134217728 := by decide
  unfold IntMulOk
  intro z
  rw [Bool.and_eq_true] at z
  have z2 := z.2
  unfold Builtin.Int.intTooBig at z2
  have z3 := of_decide_eq_true z2
  rw [e] at z3
  omega
theorem op_mulX : OpR X (binaryOp .Mult) (rI CMulX fun i j => .int (i * j)) := opI fun _ _ _ _ _ _ _ hc q => mul_int q hc.ok
theorem opd_mul : OpD G X (binaryOp .Mult) iMul := opd_I op_mulX fun i j d e => by
  split at e
  · rename_i h
    cases e
    have h : decide (i.natAbs.log2 + j.natAbs.log2 < 100000000) = true := h
    exact ⟨(of_decide_eq_true h : i.natAbs.log2 + j.natAbs.log2 < 100000000), fun w => .int _⟩
  · cases e
theorem op_fdivX : OpR X (binaryOp .FloorDiv) (rI (fun _ j => j ≠ 0 ∧ j.natAbs.log2 < 9000) fun i j => .int (i.fdiv j)) := opI fun _ _ _ _ _ _ _ hc q => floordiv_int hc.1 q (.inl (PyProof.noPylong_of_log2 hc.2))
theorem opd_div : OpD G X (binaryOp .FloorDiv) iDiv := opd_I op_fdivX fun i j d e => by
  split at e
  · rename_i h
    cases e
    exact ⟨of_decide_eq_true h, fun w => .int _⟩
  · cases e
theorem opd_mod : OpD G X (binaryOp .Mod) iMod := opd_I op_modN fun i j d e => by
  split at e
  · rename_i h
    cases e
    exact ⟨h, fun w => .int _⟩
  · cases e
theorem opd_pow : OpD G X (binaryOp .Pow) iPow := opd_I op_pow fun i j d e => by
  split at e
  · rename_i h
    cases e
    exact ⟨h, fun w => .int _⟩
  · cases e
theorem opd_shl : OpD G X (binaryOp .LShift) iShl := opd_I op_shl fun i j d e => by
  split at e
  · rename_i h
    cases e
    exact ⟨h, fun w => .int _⟩
  · cases e
theorem opd_lt : OpD G X (compareOp .Lt) iLt := opd_I0 op_lt fun i j d e w => by cases e; exact .bl _
theorem opd_le : OpD G X (compareOp .LtE) iLe := opd_I0 op_le fun i j d e w => by cases e; exact .bl _
theorem opd_gt : OpD G X (compareOp .Gt) iGt := opd_I0 op_gt fun i j d e w => by cases e; exact .bl _
theorem opd_ge : OpD G X (compareOp .GtE) iGe := opd_I0 op_ge fun i j d e w => by cases e; exact .bl _
def eNeg (f : DE) : DE := fun s => (f s).bind fun d s1 => match d with
  | .int i => .ok (.int (-i)) s1
  | _ => .stuck
theorem pd_neg {a : Expr} {f : DE} {pos : Pos} (h : PD G W X a f) : PD G W X (.UnaryOp .USub a pos) (eNeg f) :=
  (pe_un un_neg h).imp fun σ H Q ⟨κ, w, s, ok, q⟩ => ⟨κ, w, s, ok, (PostG.bind q).imp fun v H1 ⟨d, s1, w1, le, ok1, r1, q1⟩ => by
    cases r1 with
    | int i => exact ⟨i, rfl, q1 w1 _ H1 (.refl _) ok1 (.int _)⟩
    | _ => exact q1.elim⟩
/-! ### sequences: +, * -/
def sAdd : D → D → Option D := fun x y => match x, y with
  | .str a, .str b => if a.length + b.length ≤ 1000000 then some (.str (a ++ b)) else none
  | .tup a, .tup b => if a ≠ [] ∧ b ≠ [] ∧ a.length + b.length ≤ 1000000 then some (.tup (a ++ b)) else none
  | _, _ => none
theorem nm_append (a b : Nm) : nm a ++ nm b = nm (a ++ b) := by
  show Str.mk _ = _
  simp [nm]
theorem opd_sadd (hK : G.K = X.K) : OpD G X (binaryOp .Add) sAdd := ⟨_, op_add_str.or op_catT, fun κ w s σ H x y dx dy d Q ok rx ry e q => by
  cases rx with
  | str a =>
    cases ry with
    | str b =>
      left
      have e : (if a.length + b.length ≤ 1000000 then some (D.str (a ++ b)) else none) = some d := e
      split at e
      · rename_i c
        cases e
        refine ⟨nm a, nm b, rfl, rfl, by rw [nm_len, nm_len, sizeLine_eq]; omega, ?_⟩
        rw [nm_append]
        exact q w _ H (.refl _) ok (.str _)
      · cases e
    | _ => exact nomatch e
  | @tup a vs ds e1 r1 =>
    cases ry with
    | @tup a2 vs2 ds2 e2 r2 =>
      right
      have e : (if ds ≠ [] ∧ ds2 ≠ [] ∧ ds.length + ds2.length ≤ 1000000 then some (D.tup (ds ++ ds2)) else none) = some d := e
      split at e
      · rename_i c
        cases e
        have n1 : vs ≠ [] := fun z => c.1 (by subst z; cases r1; rfl)
        have n2 : vs2 ≠ [] := fun z => c.2.1 (by subst z; cases r2; rfl)
        refine ⟨a, a2, vs, vs2, rfl, rfl, hK ▸ SqT.le e1 ok.fok.sub, hK ▸ SqT.le e2 ok.fok.sub, n1, by rw [r1.length, r2.length, sizeLine_eq]; omega, ?_⟩
        first
          | exact ⟨fun z => absurd z n2, fun p hp => by
              obtain ⟨le2, ok2⟩ := ok.alloc hp (.tup (vs ++ vs2))
              exact q _ _ _ le2 ok2 (.tup (.inl (.inl upd_same)) ((r1.append r2).mono le2))⟩
          | exact ⟨fun z => absurd z n2, fun _ p hp => by
              obtain ⟨le2, ok2⟩ := ok.alloc hp (.tup (vs ++ vs2))
              exact q _ _ _ le2 ok2 (.tup (.inl (.inl upd_same)) ((r1.append r2).mono le2))⟩
      · cases e
    | _ => exact nomatch e
  | _ => exact nomatch e⟩
/-- a + b of lists: a new list -/
def aCat (fa fb : DE) : DA := fun s => (fa s).bind fun x s1 => (fb s1).bind fun y s2 => match x, y with
  | .lst a, .lst b => if a.length + b.length ≤ 1000000 then .ok (a ++ b) s2 else .stuck
  | _, _ => .stuck
theorem pdo_cat {a b : Expr} {fa fb : DE} {pos : Pos} (ha : PD G W X a fa) (hb : PD G W X b fb) : PDo G W X (.BinOp a .Add b pos) (aCat fa fb) :=
  (pe_op op_cat ha hb).imp fun σ H Q ⟨κ, w, s, ok, q⟩ => ⟨κ, w, s, ok, (PostG.bindO q).imp fun v H1 ⟨d, s1, w1, le, ok1, r1, q1⟩ => ⟨κ, w1, s1, ok1, (PostG.bindO q1).imp fun v2 H2 ⟨d2, s2, w2, le2, ok2, r2, q2⟩ => by
    cases r1 with
    | @lst p vs ds e1 r1 =>
      cases r2 with
      | @lst p2 vs2 ds2 e2 r2 =>
        replace q2 : PostO G W κ w2 σ (if ds.length + ds2.length ≤ 1000000 then .ok (ds ++ ds2) s2 else .stuck) Q := q2
        split at q2
        · refine ⟨p, p2, vs, vs2, rfl, rfl, ok2.fok.sub _ _ (le2.f _ _ e1), ok2.fok.sub _ _ e2, by rw [r1.length, r2.length, sizeLine_eq]; omega, fun p hp => ?_⟩
          exact q2 w2 p _ _ (.refl _) (ok2.fresh hp _) (ok2.apart hp) ((r1.mono le2).append r2)
        · exact q2.elim
      | _ => exact q2.elim
    | _ => exact q2.elim⟩⟩
/-- list * int: a new list -/
def aRep (fa fb : DE) : DA := fun s => (fa s).bind fun x s1 => (fb s1).bind fun y s2 => match x, y with
  | .lst a, .int k => if -(2 ^ 63) ≤ k ∧ k < 2 ^ 63 ∧ a.length * k.toNat ≤ 1000000 then .ok (List.replicate k.toNat a).flatten s2 else .stuck
  | _, _ => .stuck
theorem Reps.rep {w : Wd} {vs : List V} {ds : List D} (r : Reps G w vs ds) : ∀ k : Nat, Reps G w (List.replicate k vs).flatten (List.replicate k ds).flatten
  | 0 => .nil
  | k + 1 => by
    rw [List.replicate_succ, List.replicate_succ, List.flatten_cons, List.flatten_cons]
    exact r.append (Reps.rep r k)
/-! ### subscripts -/
def ixD (d : D) (i : Int) : Option D := match d with
  | .tup xs => atI xs i
  | .lst xs => atI xs i
  | .scr xs => atI xs i
  | .str l => if l.length ≤ 16777216 then (atI l i).map fun c => .str [c] else none
  | _ => none
def eIx (fa fb : DE) : DE := fun s => (fa s).bind fun x s1 => (fb s1).bind fun y s2 => match y with
  | .int i => match ixD x i with
    | some d => .ok d s2
    | none => .stuck
  | _ => .stuck
theorem Reps.atI {w : Wd} {vs : List V} {ds : List D} {i : Int} {d : D} (r : Reps G w vs ds) (h : L2.atI ds i = some d) : ∃ v, L2.atI vs i = some v ∧ Rep G w v d := by
  unfold L2.atI at h ⊢
  rw [r.length]
  cases e : ixN ds.length i with
  | none => rw [e] at h; cases h
  | some j =>
    rw [e] at h
    obtain ⟨v, h1, h2⟩ := r.get (i := j) h
    exact ⟨v, h1, h2⟩
theorem pd_ix (hK : G.K = X.K) {a b : Expr} {fa fb : DE} {pos : Pos} (ha : PD G W X a fa) (hb : PD G W X b fb) (hs : PlainIx b) : PD G W X (.Subscript a b pos) (eIx fa fb) :=
  (pe_ix ix_seq ha hb hs).imp fun σ H Q ⟨κ, w, s, ok, q⟩ => ⟨κ, w, s, ok, (PostG.bind q).imp fun v H1 ⟨d, s1, w1, le, ok1, r1, q1⟩ => ⟨κ, w1, s1, ok1, (PostG.bind q1).imp fun v2 H2 ⟨d2, s2, w2, le2, ok2, r2, q2⟩ => by
    cases r2 with
    | int i =>
      replace q2 : PostG G W (Rep G) κ w2 σ (match ixD d i with | some d => .ok d s2 | none => .stuck) Q := q2
      cases e : ixD d i with
      | none => rw [e] at q2; exact q2.elim
      | some z =>
        rw [e] at q2
        cases r1 with
        | @tup p vs ds e1 r1 =>
          obtain ⟨y, h1, h2⟩ := Reps.atI r1 e
          exact .inr (.inl ⟨p, vs, i, y, rfl, rfl, hK ▸ SqT.le (SqT.le e1 le2.f) ok2.fok.sub, h1, q2 w2 y H2 (.refl _) ok2 (h2.mono le2)⟩)
        | @lst p vs ds e1 r1 =>
          obtain ⟨y, h1, h2⟩ := Reps.atI r1 e
          exact .inl ⟨p, vs, i, y, rfl, rfl, .inl (.inl (ok2.fok.sub _ _ (le2.f _ _ e1))), h1, q2 w2 y H2 (.refl _) ok2 (h2.mono le2)⟩
        | @scr p vs ds e1 r1 =>
          obtain ⟨y, h1, h2⟩ := Reps.atI r1 e
          exact .inl ⟨p, vs, i, y, rfl, rfl, hK ▸ SqL.le (SqL.le e1 le2.f) ok2.fok.sub, h1, q2 w2 y H2 (.refl _) ok2 (h2.mono le2)⟩
        | str l =>
          have e : (if l.length ≤ 16777216 then (L2.atI l i).map fun c => D.str [c] else none) = some z := e
          split at e
          · rename_i hl
            cases e3 : L2.atI l i with
            | none => simp [e3] at e
            | some c =>
              simp only [e3, Option.map_some, Option.some.injEq] at e
              subst e
              refine .inr (.inr ⟨nm l, i, c, rfl, rfl, by rw [nm_len, sizeLine_eq]; exact hl, by simpa [nm] using e3, ?_⟩)
              exact q2 w2 _ H2 (.refl _) ok2 (.str [c])
          · cases e
        | _ => exact nomatch e
    | _ => exact q2.elim⟩⟩
end
end DL
set_option maxRecDepth 100000
set_option maxHeartbeats 4000000
set_option autoImplicit false
namespace DL
open PySem PySem.Spec PyProof.Rows L2
section
variable {G : Gam} {W : WX} {X : Cx}
/-! ### built-ins by name -/
def CallD (G : Gam) (X : Cx) (f : Value) (o : List D → Option D) : Prop := ∃ r, CallR X f r ∧ ∀ (κ : Bs) (w : Wd) (s : DS) (σ : L2.St) (H : Hp) (vs : List V) (ds : List D) (d : D) (Q : VK),
  Ok G κ w s σ H → Reps G w vs ds → o ds = some d → (∀ w' v H', w.le w' → Ok G κ w' s σ H' → Rep G w' v d → Q v H') → r vs H Q
def eCB (o : List D → Option D) (fa : DA) : DE := fun s => (fa s).bind fun ds s1 => match o ds with
  | some d => .ok d s1
  | none => .stuck
theorem cb_of {o : List D → Option D} {r : List V → Hp → VK → Prop} {fa : DA} {σ : L2.St} {H : Hp} {Q : VK} (h2 : ∀ (κ : Bs) (w : Wd) (s : DS) (σ : L2.St) (H : Hp) (vs : List V) (ds : List D) (d : D) (Q : VK),
    Ok G κ w s σ H → Reps G w vs ds → o ds = some d → (∀ w' v H', w.le w' → Ok G κ w' s σ H' → Rep G w' v d → Q v H') → r vs H Q) (h : tD G W (eCB o fa) σ H Q) : tCB r (tDA G W fa) σ H Q := by
  obtain ⟨κ, w, s, ok, q⟩ := h
  refine ⟨κ, w, s, ok, (PostG.bind q).imp fun v H1 ⟨d, s1, w1, le, ok1, r1, q1⟩ => ?_⟩
  cases e : o d with
  | none => rw [e] at q1; exact q1.elim
  | some z => rw [e] at q1; exact h2 κ w1 s1 σ H1 v d z Q ok1 r1 e q1
theorem pd_callB {x : Str} {id : String} {p pos : Pos} {e : Expr} {es : List Expr} {fa : DA} {o : List D → Option D} (hc : CallD G X (.builtin id) o) (hg : Gl X x) (hm : X.mg x = none) (hv : bootBuiltins x = some (.builtin id)) (ha : PDA G W X (e :: es) fa) (hn : x ≠ "__name__" := by decide)
    (hdb : (x == ("__debug__" : Str)) = false := by decide) (he : starEach (e :: es) X.env = (false, eval e X.env) :: starEach es X.env := by rfl) (hpl : (backTo pos (starEach es X.env)).any (·.1) = false := by rfl) : PD G W X (.Call (.Name x p) (e :: es) [] pos) (eCB o fa) := by
  obtain ⟨r, h1, h2⟩ := hc
  exact (pe_callB h1 hg hm hv ha hn hdb he hpl).imp fun σ H Q h => cb_of h2 h
theorem pd_callTy {x : Str} {T : String} {p pos : Pos} {e : Expr} {es : List Expr} {fa : DA} {o : List D → Option D} (hc : CallD G X (.type T) o) (hg : Gl X x) (hm : X.mg x = none) (hv : bootBuiltins x = some (.type T)) (ha : PDA G W X (e :: es) fa) (hn : x ≠ "__name__" := by decide)
    (hdb : (x == ("__debug__" : Str)) = false := by decide) (he : starEach (e :: es) X.env = (false, eval e X.env) :: starEach es X.env := by rfl) (hpl : (backTo pos (starEach es X.env)).any (·.1) = false := by rfl) : PD G W X (.Call (.Name x p) (e :: es) [] pos) (eCB o fa) := by
  obtain ⟨r, h1, h2⟩ := hc
  exact (pe_callTy h1 hg hm hv ha hn hdb he hpl).imp fun σ H Q h => cb_of h2 h
theorem Reps.one {w : Wd} {vs : List V} {d : D} (r : Reps G w vs [d]) : ∃ v, vs = [v] ∧ Rep G w v d := by
  cases r with
  | cons a b => cases b; exact ⟨_, rfl, a⟩
theorem Reps.two {w : Wd} {vs : List V} {d d' : D} (r : Reps G w vs [d, d']) : ∃ v v', vs = [v, v'] ∧ Rep G w v d ∧ Rep G w v' d' := by
  cases r with
  | cons a b =>
    cases b with
    | cons a2 b2 => cases b2; exact ⟨_, _, rfl, a, a2⟩
def bLen : List D → Option D
  | [.tup xs] => some (.int xs.length)
  | [.lst xs] => some (.int xs.length)
  | [.scr xs] => some (.int xs.length)
  | [.str l] => if l.length ≤ 16777216 then some (.int l.length) else none
  | _ => none
theorem cd_len (hK : G.K = X.K) : CallD G X (.builtin "len") bLen := ⟨_, call_len, fun κ w s σ H vs ds d Q ok rs e q => by
  match ds, e with
  | [.tup xs], e =>
    cases e
    obtain ⟨v, rfl, r⟩ := rs.one
    cases r with
    | @tup a vs ds e r => exact ⟨_, _, rfl, .inr ⟨vs, hK ▸ SqT.le e ok.fok.sub, rfl⟩, by rw [r.length]; exact q w _ H (.refl _) ok (.int _)⟩
  | [.lst xs], e =>
    cases e
    obtain ⟨v, rfl, r⟩ := rs.one
    cases r with
    | @lst a vs ds e r => exact ⟨_, _, rfl, .inl ⟨vs, .inl (.inl (ok.fok.sub _ _ e)), rfl⟩, by rw [r.length]; exact q w _ H (.refl _) ok (.int _)⟩
  | [.scr xs], e =>
    cases e
    obtain ⟨v, rfl, r⟩ := rs.one
    cases r with
    | @scr a vs ds e r => exact ⟨_, _, rfl, .inl ⟨vs, hK ▸ SqL.le e ok.fok.sub, rfl⟩, by rw [r.length]; exact q w _ H (.refl _) ok (.int _)⟩
  | [.str l], e =>
    have e : (if l.length ≤ 16777216 then some (D.int l.length) else none) = some d := e
    split at e
    · rename_i c
      cases e
      obtain ⟨v, rfl, r⟩ := rs.one
      cases r
      exact ⟨_, _, rfl, ⟨by rw [nm_len, sizeLine_eq]; exact c, rfl⟩, by rw [nm_len]; exact q w _ H (.refl _) ok (.int _)⟩
    · cases e⟩
def bInt : List D → Option D
  | [.int i] => some (.int i)
  | [.bl b] => some (.int (if b then 1 else 0))
  | _ => none
theorem cd_int : CallD G X (.type "int") bInt := ⟨_, call_int1, fun κ w s σ H vs ds d Q ok rs e q => by
  match ds, e with
  | [.int i], e =>
    cases e
    obtain ⟨v, rfl, r⟩ := rs.one
    cases r
    exact .inl ⟨i, rfl, q w _ H (.refl _) ok (.int _)⟩
  | [.bl b], e =>
    cases e
    obtain ⟨v, rfl, r⟩ := rs.one
    cases r
    exact .inr ⟨b, rfl, q w _ H (.refl _) ok (.int _)⟩⟩
def bAbs : List D → Option D
  | [.int i] => some (.int (if i < 0 then -i else i))
  | _ => none
theorem cd_abs : CallD G X (.builtin "abs") bAbs := ⟨_, call_abs, fun κ w s σ H vs ds d Q ok rs e q => by
  match ds, e with
  | [.int i], e =>
    cases e
    obtain ⟨v, rfl, r⟩ := rs.one
    cases r
    exact ⟨i, rfl, q w _ H (.refl _) ok (.int _)⟩⟩
def bMax2 : List D → Option D
  | [.int i, .int j] => some (.int (if j > i then j else i))
  | _ => none
def bMin2 : List D → Option D
  | [.int i, .int j] => some (.int (if j < i then j else i))
  | _ => none
theorem cd_max2 (hc : X.calm = true) : CallD G X (.builtin "max") bMax2 := ⟨_, call_max2 hc, fun κ w s σ H vs ds d Q ok rs e q => by
  match ds, e with
  | [.int i, .int j], e =>
    cases e
    obtain ⟨v, v', rfl, r, r'⟩ := rs.two
    cases r
    cases r'
    exact ⟨i, j, rfl, q w _ H (.refl _) ok (.int _)⟩⟩
theorem cd_min2 (hc : X.calm = true) : CallD G X (.builtin "min") bMin2 := ⟨_, call_min2 hc, fun κ w s σ H vs ds d Q ok rs e q => by
  match ds, e with
  | [.int i, .int j], e =>
    cases e
    obtain ⟨v, v', rfl, r, r'⟩ := rs.two
    cases r
    cases r'
    exact ⟨i, j, rfl, q w _ H (.refl _) ok (.int _)⟩⟩
def intsOf : List D → Option (List Int)
  | [] => some []
  | .int i :: r => (intsOf r).map (i :: ·)
  | _ => none
theorem intsOf_eq : ∀ {ds : List D} {ns : List Int}, intsOf ds = some ns → ds = ns.map D.int
  | [], ns, e => by cases e; rfl
  | .int i :: r, ns, e => by
    unfold intsOf at e
    cases q : intsOf r with
    | none => rw [q] at e; cases e
    | some ms =>
      rw [q] at e
      cases e
      rw [intsOf_eq q]
      rfl
  | .non :: _, _, e => nomatch e
  | .bl _ :: _, _, e => nomatch e
  | .str _ :: _, _, e => nomatch e
  | .tup _ :: _, _, e => nomatch e
  | .lst _ :: _, _, e => nomatch e
  | .scr _ :: _, _, e => nomatch e
  | .dic _ :: _, _, e => nomatch e
  | .ins _ _ :: _, _, e => nomatch e
  | .cell _ :: _, _, e => nomatch e
  | .cls _ :: _, _, e => nomatch e
  | .ty _ :: _, _, e => nomatch e
  | .fn _ :: _, _, e => nomatch e
def blsOf : List D → Option (List Bool)
  | [] => some []
  | .bl i :: r => (blsOf r).map (i :: ·)
  | _ => none
theorem blsOf_eq : ∀ {ds : List D} {ns : List Bool}, blsOf ds = some ns → ds = ns.map D.bl
  | [], ns, e => by cases e; rfl
  | .bl i :: r, ns, e => by
    unfold blsOf at e
    cases q : blsOf r with
    | none => rw [q] at e; cases e
    | some ms =>
      rw [q] at e
      cases e
      rw [blsOf_eq q]
      rfl
  | .non :: _, _, e => nomatch e
  | .int _ :: _, _, e => nomatch e
  | .str _ :: _, _, e => nomatch e
  | .tup _ :: _, _, e => nomatch e
  | .lst _ :: _, _, e => nomatch e
  | .scr _ :: _, _, e => nomatch e
  | .dic _ :: _, _, e => nomatch e
  | .ins _ _ :: _, _, e => nomatch e
  | .cell _ :: _, _, e => nomatch e
  | .cls _ :: _, _, e => nomatch e
  | .ty _ :: _, _, e => nomatch e
  | .fn _ :: _, _, e => nomatch e
theorem Reps.bls {w : Wd} : ∀ {v : List V} {ns : List Bool}, Reps G w v (ns.map D.bl) → v = ns.map V.bl
  | _, [], h => by cases h; rfl
  | _, n :: ns, h => by
    cases h with
    | cons a b => cases a; rw [Reps.bls b]; rfl
def bSum : List D → Option D
  | [.lst xs] => (intsOf xs).map fun ns => .int ns.sum
  | _ => none
theorem cd_sum (hc : X.calm = true) : CallD G X (.builtin "sum") bSum := ⟨_, cr_sum hc, fun κ w s σ H vs ds d Q ok rs e q => by
  match ds, e with
  | [.lst xs], e =>
    have e : (intsOf xs).map (fun ns => D.int ns.sum) = some d := e
    cases e1 : intsOf xs with
    | none => rw [e1] at e; cases e
    | some ns =>
      rw [e1] at e
      cases e
      obtain ⟨v, rfl, r⟩ := rs.one
      cases r with
      | @lst a vs ds e r =>
        rw [intsOf_eq e1] at r
        rw [r.ints] at e
        exact ⟨a, ns, rfl, .inl (.inl (ok.fok.sub _ _ e)), q w _ H (.refl _) ok (.int _)⟩⟩
def bAll : List D → Option D
  | [.lst xs] => (blsOf xs).map fun ns => .bl (ns.all id)
  | _ => none
def bAny : List D → Option D
  | [.lst xs] => (blsOf xs).map fun ns => .bl (ns.any id)
  | _ => none
theorem cd_all (hc : X.calm = true) : CallD G X (.builtin "all") bAll := ⟨_, cr_all hc, fun κ w s σ H vs ds d Q ok rs e q => by
  match ds, e with
  | [.lst xs], e =>
    have e : (blsOf xs).map (fun ns => D.bl (ns.all id)) = some d := e
    cases e1 : blsOf xs with
    | none => rw [e1] at e; cases e
    | some ns =>
      rw [e1] at e
      cases e
      obtain ⟨v, rfl, r⟩ := rs.one
      cases r with
      | @lst a vs ds e r =>
        rw [blsOf_eq e1] at r
        rw [r.bls] at e
        exact ⟨a, ns, rfl, .inl (.inl (ok.fok.sub _ _ e)), q w _ H (.refl _) ok (.bl _)⟩⟩
theorem cd_any (hc : X.calm = true) : CallD G X (.builtin "any") bAny := ⟨_, cr_any hc, fun κ w s σ H vs ds d Q ok rs e q => by
  match ds, e with
  | [.lst xs], e =>
    have e : (blsOf xs).map (fun ns => D.bl (ns.any id)) = some d := e
    cases e1 : blsOf xs with
    | none => rw [e1] at e; cases e
    | some ns =>
      rw [e1] at e
      cases e
      obtain ⟨v, rfl, r⟩ := rs.one
      cases r with
      | @lst a vs ds e r =>
        rw [blsOf_eq e1] at r
        rw [r.bls] at e
        exact ⟨a, ns, rfl, .inl (.inl (ok.fok.sub _ _ e)), q w _ H (.refl _) ok (.bl _)⟩⟩
/-- tuple(x) -/
def bTup : List D → Option D
  | [.tup xs] => some (.tup xs)
  | [.lst xs] => some (.tup xs)
  | _ => none
theorem cd_tup (hK : G.K = X.K) : CallD G X (.type "tuple") bTup := ⟨_, call_tuple_of, fun κ w s σ H vs ds d Q ok rs e q => by
  match ds, e with
  | [.tup xs], e =>
    cases e
    obtain ⟨v, rfl, r⟩ := rs.one
    cases r with
    | @tup a vs ds e r => exact ⟨a, vs, rfl, .inr ⟨hK ▸ SqT.le e ok.fok.sub, q w _ H (.refl _) ok (.tup e r)⟩⟩
  | [.lst xs], e =>
    cases e
    obtain ⟨v, rfl, r⟩ := rs.one
    cases r with
    | @lst a vs ds e r => exact ⟨a, vs, rfl, .inl ⟨.inl (.inl (ok.fok.sub _ _ e)), fun l hl => by
        obtain ⟨le2, ok2⟩ := ok.alloc hl (.tup vs)
        exact q _ _ _ le2 ok2 (.tup (.inl (.inl upd_same)) (r.mono le2))⟩⟩⟩
/-- list(x): a new list -/
def seqD (d : D) : Option (List D) := match d with
  | .tup xs => some xs
  | .lst xs => some xs
  | .scr xs => some xs
  | _ => none
def aList (fa : DA) : DA := fun s => (fa s).bind fun ds s1 => match ds with
  | [d] => match seqD d with
    | some xs => .ok xs s1
    | none => .stuck
  | _ => .stuck
theorem Rep.seq (hK : G.K = X.K) {κ : Bs} {w : Wd} {s : DS} {σ : L2.St} {H : Hp} {v : V} {d : D} {xs : List D} (ok : Ok G κ w s σ H) (r : Rep G w v d) (h : seqD d = some xs) : ∃ a vs, v = .ref a ∧ (SqL X.K H a vs ∨ SqT X.K H a vs) ∧ Reps G w vs xs := by
  cases r with
  | @tup a vs ds e r => cases h; exact ⟨a, vs, rfl, .inr (hK ▸ SqT.le e ok.fok.sub), r⟩
  | @lst a vs ds e r => cases h; exact ⟨a, vs, rfl, .inl (.inl (.inl (ok.fok.sub _ _ e))), r⟩
  | @scr a vs ds e r => cases h; exact ⟨a, vs, rfl, .inl (hK ▸ SqL.le e ok.fok.sub), r⟩
  | _ => exact nomatch h
theorem pdo_list (hK : G.K = X.K) {x : Str} {p pos : Pos} {e : Expr} {fa : DA} (hg : Gl X x) (hm : X.mg x = none) (hv : bootBuiltins x = some (.type "list")) (ha : PDA G W X [e] fa) (hn : x ≠ "__name__" := by decide) (hdb : (x == ("__debug__" : Str)) = false := by decide)
    (he : starEach [e] X.env = (false, eval e X.env) :: starEach [] X.env := by rfl) (hpl : (backTo pos (starEach [] X.env)).any (·.1) = false := by rfl) : PDo G W X (.Call (.Name x p) [e] [] pos) (aList fa) :=
  (pe_callTy call_list_of hg hm hv ha hn hdb he hpl).imp fun σ H Q ⟨κ, w, s, ok, q⟩ => ⟨κ, w, s, ok, (PostG.bindO q).imp fun v H1 ⟨d, s1, w1, le, ok1, r1, q1⟩ => by
    match d, q1 with
    | [d], q1 =>
      replace q1 : PostO G W κ w1 σ (match seqD d with | some xs => .ok xs s1 | none => .stuck) Q := q1
      cases e1 : seqD d with
      | none => rw [e1] at q1; exact q1.elim
      | some xs =>
        rw [e1] at q1
        obtain ⟨v, rfl, r⟩ := r1.one
        obtain ⟨a, vs, rfl, h1, h2⟩ := r.seq hK ok1 e1
        exact ⟨a, vs, rfl, h1, fun l hl => q1 w1 l vs _ (.refl _) (ok1.fresh hl _) (ok1.apart hl) h2⟩⟩
/-! ### slices -/
abbrev DOp := DS → Res DS (Option Int)
def oNone : DOp := fun s => .ok none s
def oSome (f : DE) : DOp := fun s => (f s).bind fun d s1 => match d with
  | .int i => .ok (some i) s1
  | _ => .stuck
def tDO (G : Gam) (W : WX) (f : DOp) : TO := fun σ H Q => ∃ κ w s, Ok G κ w s σ H ∧ PostG G W (fun _ (v : Option Int) d => v = d) κ w σ (f s) Q
theorem _root_.L2.PO.imp {X : Cx} {e : Option Expr} {t t' : TO} (h : PO X e t) (k : ∀ σ H Q, t' σ H Q → t σ H Q) : PO X e t' := ⟨by
  first
    | exact fun pins s σ H Q I q => h.run pins s σ H Q I (k σ H Q q)
    | exact fun a pins s σ H Q I q => h.run a pins s σ H Q I (k σ H Q q)⟩
theorem pdo_none : PO X none (tDO G W oNone) := po_none.imp fun σ H Q ⟨κ, w, s, ok, q⟩ => q w none H (.refl _) ok rfl
theorem pdo_some {e : Expr} {f : DE} (h : PD G W X e f) : PO X (some e) (tDO G W (oSome f)) := (po_some h).imp fun σ H Q ⟨κ, w, s, ok, q⟩ => ⟨κ, w, s, ok, (PostG.bind q).imp fun v H1 ⟨d, s1, w1, le, ok1, r1, q1⟩ => by
  cases r1 with
  | int i => exact ⟨i, rfl, q1 w1 _ H1 (.refl _) ok1 rfl⟩
  | _ => exact q1.elim⟩
def cutD {α : Type} (xs : List α) (lo hi : Option Int) : List α := (xs.drop (HT.sIx xs.length 0 lo)).take (HT.sIx xs.length xs.length hi - HT.sIx xs.length 0 lo)
theorem Reps.cut {w : Wd} {vs : List V} {ds : List D} (r : Reps G w vs ds) (lo hi : Option Int) : Reps G w (cutV vs lo hi) (cutD ds lo hi) := by
  unfold cutV cutD
  rw [r.length]
  exact (r.drop _).take _
/-- a slice of a list: a new list -/
def aSl (f : DE) (l h : DOp) : DA := fun s => (f s).bind fun d s1 => (l s1).bind fun lo s2 => (h s2).bind fun hi s3 => match d with
  | .lst xs => .ok (cutD xs lo hi) s3
  | .scr xs => .ok (cutD xs lo hi) s3
  | _ => .stuck
theorem pdo_slice (hK : G.K = X.K) {e : Expr} {lo hi : Option Expr} {f : DE} {l h : DOp} {p2 pos : Pos} (he : PD G W X e f) (hl : PO X lo (tDO G W l)) (hh : PO X hi (tDO G W h)) : PDo G W X (.Subscript e (.Slice lo hi none p2) pos) (aSl f l h) :=
  (pe_slice sl_list he hl hh).imp fun σ H Q ⟨κ, w, s, ok, q⟩ => ⟨κ, w, s, ok, (PostG.bindO q).imp fun v H1 ⟨d, s1, w1, le, ok1, r1, q1⟩ => ⟨κ, w1, s1, ok1, (PostG.bindO q1).imp fun v2 H2 ⟨d2, s2, w2, le2, ok2, r2, q2⟩ =>
    ⟨κ, w2, s2, ok2, (PostG.bindO q2).imp fun v3 H3 ⟨d3, s3, w3, le3, ok3, r3, q3⟩ => by
      subst r2
      subst r3
      cases r1 with
      | @lst a vs ds e r =>
        have e := le3.f _ _ (le2.f _ _ e)
        exact ⟨a, vs, rfl, .inl (.inl (ok3.fok.sub _ _ e)), fun p hp => q3 w3 p _ _ (.refl _) (ok3.fresh hp _) (ok3.apart hp) (((r.mono le2).mono le3).cut _ _)⟩
      | @scr a vs ds e r =>
        exact ⟨a, vs, rfl, hK ▸ SqL.le (SqL.le (SqL.le e le2.f) le3.f) ok3.fok.sub, fun p hp => q3 w3 p _ _ (.refl _) (ok3.fresh hp _) (ok3.apart hp) (((r.mono le2).mono le3).cut _ _)⟩
      | _ => exact q3.elim⟩⟩⟩
/-! ### isinstance -/
def tyD (d : D) : Option String := match d with
  | .non => some "NoneType"
  | .bl _ => some "bool"
  | .int _ => some "int"
  | .str _ => some "str"
  | .tup _ => some "tuple"
  | .lst _ => some "list"
  | .scr _ => some "list"
  | .dic _ => some "dict"
  | _ => none
def tyNames : List String := ["NoneType", "bool", "int", "str", "tuple", "list", "dict"]
def isTy (a b : String) : Bool := a == b || (a == "bool" && b == "int")
theorem isTy_ok : ∀ a ∈ tyNames, ∀ b ∈ tyNames, kitB a b = some (isTy a b) := by decide +kernel
/-- what of the text isinstance asks of the own classes -/
structure IsOk (G : Gam) (cs : List String) : Prop where
  cl : ∀ c ∈ cs, ∀ C, G.ct c = some C → Cls G.K C ∧ PySem.W.findIn G.K (.ref C) "__class__" = some (some (.builtin "object.__class__")) ∧ PySem.W.specialIn G.K (.builtin "object.__class__") "__get__" = some (some (.builtin "getset_descriptor.__get__")) ∧
    PySem.W.takesIn G.K (.builtin "object.__class__") = some true ∧ PySem.W.mroIn G.K C (.type "object") = some true
  bo : ∀ c ∈ cs, ∀ C, G.ct c = some C → ∀ b ∈ tyNames, PySem.W.kitOne G.K (.ref C) (.type b) = some false ∧ PySem.W.kitOne G.K (.type b) (.ref C) = some false
  oo : ∀ c ∈ cs, ∀ c' ∈ cs, ∀ C C', G.ct c = some C → G.ct c' = some C' → PySem.W.kitOne G.K (.ref C) (.ref C') = some (c == c')
/-- the type of data: built-in or own -/
def tyOfD (cs : List String) (d : D) : Option (String ⊕ String) := match d with
  | .ins c _ => if c ∈ cs then some (.inr c) else none
  | d => (tyD d).map .inl
def isOne (cs : List String) (t : String ⊕ String) (c : D) : Option Bool := match t, c with
  | .inl a, .ty b => if a ∈ tyNames ∧ b ∈ tyNames then some (isTy a b) else none
  | .inl a, .cls b => if a ∈ tyNames ∧ b ∈ cs then some false else none
  | .inr a, .ty b => if b ∈ tyNames then some false else none
  | .inr a, .cls b => if b ∈ cs then some (a == b) else none
  | _, _ => none
def bIsi (cs : List String) : List D → Option D
  | [d, c] => (tyOfD cs d).bind fun t => (isOne cs t c).map .bl
  | _ => none
theorem tyX_of (hK : G.K = X.K) {cs : List String} (I : IsOk G cs) {κ : Bs} {w : Wd} {s : DS} {σ : L2.St} {H : Hp} {v : V} {d : D} {t : String ⊕ String} (ok : Ok G κ w s σ H) (r : Rep G w v d) (h : tyOfD cs d = some t) :
    ∃ tv, TyX X.K H v tv ∧ (match t with | .inl a => tv = .type a ∧ a ∈ tyNames | .inr c => c ∈ cs ∧ ∃ C, G.ct c = some C ∧ tv = .ref C) := by
  cases r with
  | non => cases h; exact ⟨_, .base .non, rfl, by decide⟩
  | bl b => cases h; exact ⟨_, .base (.bl b), rfl, by decide⟩
  | int i => cases h; exact ⟨_, .base (.int i), rfl, by decide⟩
  | str l => cases h; exact ⟨_, .base (.str _), rfl, by decide⟩
  | @tup a vs ds e r =>
    cases h
    rcases SqT.le e ok.fok.sub with (z | ⟨o, z⟩) | ⟨o, its, n, z1, z2, _⟩
    · exact ⟨_, .base (.tup z), rfl, by decide⟩
    · exact ⟨_, .fTuple z, rfl, by decide⟩
    · exact ⟨_, .kTuple (hK ▸ z1) z2, rfl, by decide⟩
  | @lst a vs ds e r => cases h; exact ⟨_, .base (.lst (ok.fok.sub _ _ e)), rfl, by decide⟩
  | @scr a vs ds e r =>
    cases h
    rcases SqL.le e ok.fok.sub with (z | ⟨o, z⟩) | ⟨o, its, n, z1, z2, _⟩
    · exact ⟨_, .base (.lst z), rfl, by decide⟩
    · exact ⟨_, .base (.frz z), rfl, by decide⟩
    · exact ⟨_, .kList (hK ▸ z1) z2, rfl, by decide⟩
  | @dic a vs ds e r => cases h; exact ⟨_, .base (.dK (ok.fok.sub _ _ e)), rfl, by decide⟩
  | @ins a C dx c vs ds hC e r =>
    have h : (if c ∈ cs then some (Sum.inr c) else none) = some t := h
    split at h
    · rename_i hc
      cases h
      obtain ⟨cl, h1, h2, h3, h4⟩ := I.cl c hc C hC
      exact ⟨_, .base (.ins (ok.fok.sub _ _ e) (hK ▸ cl) (hK ▸ h1) (hK ▸ h2) (hK ▸ h3) (hK ▸ h4)), hc, C, hC, rfl⟩
    · cases h
  | _ => exact nomatch h
theorem cd_isi (hK : G.K = X.K) {cs : List String} (I : IsOk G cs) : CallD G X (.builtin "isinstance") (bIsi cs) := ⟨_, call_isi, fun κ w s σ H vs ds d Q ok rs e q => by
  match ds, e with
  | [x, c], e =>
    have e : ((tyOfD cs x).bind fun t => (isOne cs t c).map D.bl) = some d := e
    cases e1 : tyOfD cs x with
    | none => rw [e1] at e; cases e
    | some t =>
      rw [e1] at e
      obtain ⟨v, v', rfl, r, r'⟩ := rs.two
      obtain ⟨tv, ty, ht⟩ := tyX_of hK I ok r e1
      have e : (isOne cs t c).map D.bl = some d := e
      cases e2 : isOne cs t c with
      | none => rw [e2] at e; cases e
      | some b =>
        rw [e2] at e
        cases e
        cases t with
        | inl a =>
          obtain ⟨rfl, ha⟩ := ht
          cases r' with
          | ty n =>
            have e2 : (if a ∈ tyNames ∧ n ∈ tyNames then some (isTy a n) else none) = some b := e2
            split at e2
            · rename_i h
              cases e2
              exact ⟨v, _, _, .type n, _, rfl, .ty n, ty, kit_ty (isTy_ok a h.1 n h.2), q w _ H (.refl _) ok (.bl _)⟩
            · cases e2
          | @cls C n hC =>
            have e2 : (if a ∈ tyNames ∧ n ∈ cs then some false else none) = some b := e2
            split at e2
            · rename_i h
              cases e2
              exact ⟨v, _, _, .ref C, _, rfl, .own C, ty, hK ▸ (I.bo n h.2 C hC a h.1).2, q w _ H (.refl _) ok (.bl _)⟩
            · cases e2
          | _ => exact nomatch e2
        | inr a =>
          obtain ⟨ha, C', hC', rfl⟩ := ht
          cases r' with
          | ty n =>
            have e2 : (if n ∈ tyNames then some false else none) = some b := e2
            split at e2
            · rename_i h
              cases e2
              exact ⟨v, _, _, .type n, _, rfl, .ty n, ty, hK ▸ (I.bo a ha C' hC' n h).1, q w _ H (.refl _) ok (.bl _)⟩
            · cases e2
          | @cls C n hC =>
            have e2 : (if n ∈ cs then some (a == n) else none) = some b := e2
            split at e2
            · rename_i h
              cases e2
              exact ⟨v, _, _, .ref C, _, rfl, .own C, ty, hK ▸ I.oo a ha n h C' C hC' hC, q w _ H (.refl _) ok (.bl _)⟩
            · cases e2
          | _ => exact nomatch e2⟩
end
end DL
set_option maxRecDepth 100000
set_option maxHeartbeats 4000000
set_option autoImplicit false
namespace DL
open PySem PySem.Spec PyProof.Rows L2
section
variable {G : Gam} {W : WX} {X : Cx}
/-! ### dicts -/
theorem dkey_inj {a b : DK} (h : dkey a = dkey b) : a = b := by
  cases a <;> cases b <;> simp [dkey] at h <;> first | (subst h; rfl) | (rw [nm_inj h])
def kOf (d : D) : Option DK := match d with
  | .int i => some (.i i)
  | .str l => some (.s l)
  | _ => none
theorem Rep.key {w : Wd} {v : V} {d : D} {k : DK} (r : Rep G w v d) (h : kOf d = some k) : v = kV (dkey k) := by
  cases r with
  | int i => cases h; rfl
  | str l => cases h; rfl
  | _ => exact nomatch h
def dLook (kvs : List (DK × D)) (k : DK) : Option D := match kvs with
  | [] => none
  | (k', d) :: r => if k' = k then some d else dLook r k
def dPut (kvs : List (DK × D)) (k : DK) (x : D) : List (DK × D) := match kvs with
  | [] => [(k, x)]
  | (k', d) :: r => if k' = k then (k, x) :: r else (k', d) :: dPut r k x
theorem RepK.look {w : Wd} : ∀ {v : List (Key × V)} {d : List (DK × D)} {k : DK}, RepK G w v d → (∀ x, dLook d k = some x → ∃ y, valV v (dkey k) = some y ∧ Rep G w y x) ∧ (dLook d k = none → valV v (dkey k) = none)
  | _, _, _, .nil => ⟨fun x e => (nomatch e), fun _ => rfl⟩
  | _, _, k, .cons (k := k') (v := v) (d := d) (vs := vs) (ds := ds) a b => by
    by_cases h : k' = k
    · subst h
      refine ⟨fun x e => ?_, fun e => ?_⟩
      · unfold dLook at e
        rw [if_pos rfl] at e
        cases e
        exact ⟨v, valV_pos rfl, a⟩
      · unfold dLook at e
        rw [if_pos rfl] at e
        cases e
    · have h2 : ¬ dkey k' = dkey k := fun q => h (dkey_inj q)
      obtain ⟨i1, i2⟩ := RepK.look (k := k) b
      refine ⟨fun x e => ?_, fun e => ?_⟩
      · unfold dLook at e
        rw [if_neg h] at e
        obtain ⟨y, q1, q2⟩ := i1 x e
        exact ⟨y, (valV_neg h2).trans q1, q2⟩
      · unfold dLook at e
        rw [if_neg h] at e
        exact (valV_neg h2).trans (i2 e)
theorem RepK.length {w : Wd} : ∀ {v : List (Key × V)} {d : List (DK × D)}, RepK G w v d → v.length = d.length
  | _, _, .nil => rfl
  | _, _, .cons _ b => by rw [List.length_cons, List.length_cons, RepK.length b]
/-- what of a dict is told (Nodup keys are not known here: the store at the first place and at the last agree by this) -/
def keysNd : List (DK × D) → Bool
  | [] => true
  | (k, _) :: r => !(r.any fun p => decide (p.1 = k)) && keysNd r
theorem RepK.any {w : Wd} {k : DK} : ∀ {v : List (Key × V)} {d : List (DK × D)}, RepK G w v d → (v.any fun kv => decide (kv.1 = dkey k)) = d.any fun kv => decide (kv.1 = k)
  | _, _, .nil => rfl
  | _, _, .cons (k := k') a b => by
    rw [List.any_cons, List.any_cons, RepK.any b]
    congr 1
    by_cases h : k' = k
    · subst h; simp
    · simp [h, show ¬ dkey k' = dkey k from fun q => h (dkey_inj q)]
theorem RepK.keepMap {w : Wd} {k : DK} {y : V} : ∀ {v : List (Key × V)} {d : List (DK × D)}, RepK G w v d → (d.any fun kv => decide (kv.1 = k)) = false → v.map (fun kv => if kv.1 = dkey k then (kv.1, y) else kv) = v
  | _, _, .nil, _ => rfl
  | _, _, .cons (k := k') a b, h => by
    rw [List.any_cons, Bool.or_eq_false_iff] at h
    have h1 : ¬ k' = k := of_decide_eq_false h.1
    rw [List.map_cons, if_neg (show ¬ dkey k' = dkey k from fun q => h1 (dkey_inj q)), RepK.keepMap b h.2]
theorem dPut_new : ∀ {d : List (DK × D)} {k : DK} {x : D}, (d.any fun kv => decide (kv.1 = k)) = false → dPut d k x = d ++ [(k, x)]
  | [], _, _, _ => rfl
  | (k', z) :: r, k, x, h => by
    rw [List.any_cons, Bool.or_eq_false_iff] at h
    have h1 : ¬ k' = k := of_decide_eq_false h.1
    unfold dPut
    rw [if_neg h1, dPut_new h.2]
    rfl
theorem RepK.append {w : Wd} : ∀ {v v' : List (Key × V)} {d d' : List (DK × D)}, RepK G w v d → RepK G w v' d' → RepK G w (v ++ v') (d ++ d')
  | _, _, _, _, .nil, h => h
  | _, _, _, _, .cons a b, h => .cons a (RepK.append b h)
theorem RepK.putMap {w : Wd} {k : DK} {y : V} {x : D} (r : Rep G w y x) : ∀ {v : List (Key × V)} {d : List (DK × D)}, RepK G w v d → keysNd d = true → (d.any fun kv => decide (kv.1 = k)) = true → RepK G w (v.map fun kv => if kv.1 = dkey k then (kv.1, y) else kv) (dPut d k x)
  | _, _, .nil, _, h => nomatch h
  | _, _, .cons (k := k') a b, nd, h => by
    unfold keysNd at nd
    rw [Bool.and_eq_true, Bool.not_eq_true'] at nd
    unfold dPut
    by_cases e : k' = k
    · subst e
      rw [if_pos rfl, List.map_cons, if_pos rfl, RepK.keepMap b nd.1]
      exact .cons r b
    · rw [if_neg e, List.map_cons, if_neg (show ¬ dkey k' = dkey k from fun q => e (dkey_inj q))]
      refine .cons a (RepK.putMap r b nd.2 ?_)
      rw [List.any_cons, Bool.or_eq_true] at h
      rcases h with h | h
      · exact absurd (of_decide_eq_true h) e
      · exact h
theorem RepK.put {w : Wd} {k : DK} {y : V} {x : D} (r : Rep G w y x) {v : List (Key × V)} {d : List (DK × D)} (h : RepK G w v d) (nd : keysNd d = true) : RepK G w (putK v (dkey k) y) (dPut d k x) := by
  unfold putK
  rw [h.any]
  cases e : d.any fun kv => decide (kv.1 = k) with
  | true => rw [if_pos rfl]; exact h.putMap r nd e
  | false =>
    rw [if_neg (fun z => nomatch z), dPut_new e]
    exact h.append (.cons r .nil)
def dictOf (d : D) (s : DS) : Option (List (DK × D)) := match d with
  | .dic kvs => some kvs
  | .cell n => match s.st[n]? with
    | some (.dic kvs) => some kvs
    | _ => none
  | _ => none
theorem Rep.dict {κ : Bs} {w : Wd} {s : DS} {σ : L2.St} {H : Hp} {v : V} {d : D} {kvs : List (DK × D)} (ok : Ok G κ w s σ H) (r : Rep G w v d) (h : dictOf d s = some kvs) : ∃ a vs, v = .ref a ∧ H a = some (.dK vs) ∧ RepK G w vs kvs := by
  cases r with
  | @dic a vs ds e r => cases h; exact ⟨a, vs, rfl, ok.fok.sub _ _ e, r⟩
  | @cell a n e =>
    have h : (match s.st[n]? with | some (.dic kvs) => some kvs | _ => none) = some kvs := h
    cases q : s.st[n]? with
    | none => rw [q] at h; cases h
    | some c =>
      rw [q] at h
      cases c with
      | dic kvs' =>
        cases h
        obtain ⟨vs, h1, h2⟩ := ok.fok.cel n a _ e q
        exact ⟨a, vs, rfl, h1, h2⟩
      | _ => cases h
  | _ => exact nomatch h
def eDGet (fo fi : DE) : DE := fun s => (fo s).bind fun d s1 => (fi s1).bind fun k s2 => match dictOf d s2, kOf k with
  | some kvs, some k => match dLook kvs k with
    | some x => .ok x s2
    | none => .stuck
  | _, _ => .stuck
theorem pd_dget {o i : Expr} {fo fi : DE} {pos : Pos} (hu : X.A.units + 1 < cLine) (ho : PD G W X o fo) (hi : PD G W X i fi) (hs : NoSl i) : PD G W X (.Subscript o i pos) (eDGet fo fi) :=
  (pe_dget hu ho hi hs).imp fun σ H Q ⟨κ, w, s, ok, q⟩ => ⟨κ, w, s, ok, (PostG.bind q).imp fun v H1 ⟨d, s1, w1, le, ok1, r1, q1⟩ => ⟨κ, w1, s1, ok1, (PostG.bind q1).imp fun v2 H2 ⟨d2, s2, w2, le2, ok2, r2, q2⟩ => by
    cases e1 : dictOf d s2 with
    | none => rw [e1] at q2; exact q2.elim
    | some kvs =>
      cases e2 : kOf d2 with
      | none => rw [e1, e2] at q2; exact q2.elim
      | some k =>
        rw [e1, e2] at q2
        replace q2 : PostG G W (Rep G) κ w2 σ (match dLook kvs k with | some x => .ok x s2 | none => .stuck) Q := q2
        cases e3 : dLook kvs k with
        | none => rw [e3] at q2; exact q2.elim
        | some x =>
          rw [e3] at q2
          obtain ⟨a, vs, rfl, hH, rk⟩ := (r1.mono le2).dict ok2 e1
          obtain ⟨y, h1, h2⟩ := (rk.look (k := k)).1 x e3
          refine ⟨a, y, rfl, ?_, q2 w2 y H2 (.refl _) ok2 h2⟩
          rw [r2.key e2, ← h1]
          exact DGet.k hH⟩⟩
/-- d[k] = v of a dict in the store -/
def sDPutC (fo fi fv : DE) : DStm := fun s => (fv s).bind fun x s1 => (fo s1).bind fun d s2 => (fi s2).bind fun k s3 => match d, kOf k with
  | .cell n, some k => match s3.st[n]? with
    | some (.dic kvs) => if kvs.length < 1000000 ∧ keysNd kvs = true then .ok .nx ⟨s3.sl, s3.st.set n (.dic (dPut kvs k x))⟩ else .stuck
    | _ => .stuck
  | _, _ => .stuck
theorem pds_dputC {o i value : Expr} {fo fi fv : DE} {pos pos' : Pos} (hu : X.A.units + 1 < cLine) (ho : PD G W X o fo) (hi : PD G W X i fi) (hv : PD G W X value fv) (hs : swapsWith value (some (.Subscript o i pos')) pos.line X.env = pure false := by rfl) :
    PDS G W X (.Assign [.Subscript o i pos'] value pos) (sDPutC fo fi fv) :=
  (ps_dput hu ho hi hv hs).imp fun N σ H ⟨κ, w, s, ok, q⟩ => ⟨κ, w, s, ok, (PostG.bindS q).imp fun v H1 ⟨d, s1, w1, le, ok1, r1, q1⟩ => ⟨κ, w1, s1, ok1, (PostG.bindS q1).imp fun v2 H2 ⟨d2, s2, w2, le2, ok2, r2, q2⟩ =>
    ⟨κ, w2, s2, ok2, (PostG.bindS q2).imp fun v3 H3 ⟨d3, s3, w3, le3, ok3, r3, q3⟩ => by
      cases r2 with
      | @cell a n e =>
        cases e2 : kOf d3 with
        | none => rw [e2] at q3; exact q3.elim
        | some k =>
          rw [e2] at q3
          replace q3 : PostS G W κ w3 (match s3.st[n]? with | some (.dic kvs) => if kvs.length < 1000000 ∧ keysNd kvs = true then .ok .nx ⟨s3.sl, s3.st.set n (.dic (dPut kvs k d))⟩ else .stuck | _ => .stuck) N := q3
          cases e3 : s3.st[n]? with
          | none => rw [e3] at q3; exact q3.elim
          | some c =>
            rw [e3] at q3
            cases c with
            | dic kvs =>
              replace q3 : PostS G W κ w3 (if kvs.length < 1000000 ∧ keysNd kvs = true then .ok .nx ⟨s3.sl, s3.st.set n (.dic (dPut kvs k d))⟩ else .stuck) N := q3
              split at q3
              · rename_i c
                have e' := pre_get le3.r e
                obtain ⟨vs, h1, h2⟩ := ok3.fok.cel n a _ e' e3
                refine ⟨a, _, rfl, ?_, q3 w3 σ _ (.refl _) (ok3.cell e' (c := .dic (dPut kvs k d)) ⟨_, upd_same, h2.put ((r1.mono le2).mono le3) c.2⟩)⟩
                rw [r3.key e2]
                exact DPut.k h1 (by rw [h2.length, sizeLine_eq]; omega)
              · exact q3.elim
            | _ => exact q3.elim
      | _ => exact q3.elim⟩⟩⟩
/-! ### a dict is displayed -/
def pairsD : List (DE × DE) → DS → Res DS (List (D × D))
  | [], s => .ok [] s
  | (fk, fv) :: r, s => (fk s).bind fun k s1 => (fv s1).bind fun x s2 => (pairsD r s2).bind fun ps s3 => .ok ((k, x) :: ps) s3
inductive RepP (G : Gam) (w : Wd) : List (V × V) → List (D × D) → Prop
  | nil : RepP G w [] []
  | cons {v v' : V} {d d' : D} {vs : List (V × V)} {ds : List (D × D)} : Rep G w v d → Rep G w v' d' → RepP G w vs ds → RepP G w ((v, v') :: vs) ((d, d') :: ds)
theorem pairs_of : ∀ (fs : List (DE × DE)) {κ : Bs} {w : Wd} {s : DS} {σ : L2.St} {H : Hp} {Q : List (V × V) → Hp → Prop}, Ok G κ w s σ H → PostG G W (RepP G) κ w σ (pairsD fs s) Q → tPairs (fs.map fun p => (tD G W p.1, tD G W p.2)) σ H Q
  | [], κ, w, s, σ, H, Q, ok, q => q w [] H (.refl _) ok .nil
  | (fk, fv) :: r, κ, w, s, σ, H, Q, ok, q => by
    refine ⟨κ, w, s, ok, (PostG.bind q).imp fun v H1 ⟨d, s1, w1, le, ok1, r1, q1⟩ => ⟨κ, w1, s1, ok1, (PostG.bind q1).imp fun v2 H2 ⟨d2, s2, w2, le2, ok2, r2, q2⟩ => ?_⟩⟩
    refine pairs_of r ok2 ((PostG.bind (rep := RepP G) q2).imp fun ps H3 ⟨ds, s3, w3, le3, ok3, r3, q3⟩ => ?_)
    exact q3 w3 _ H3 (.refl _) ok3 (.cons ((r1.mono le2).mono le3) (r2.mono le3) r3)
def keyed : List (D × D) → Option (List (DK × D))
  | [] => some []
  | (k, x) :: r => match kOf k, keyed r with
    | some k, some r => some ((k, x) :: r)
    | _, _ => none
theorem keyed_of {w : Wd} : ∀ {ps : List (V × V)} {ds : List (D × D)} {kvs : List (DK × D)}, RepP G w ps ds → keyed ds = some kvs → ∃ vs : List (Key × V), ps = vs.map (fun kv => (kV kv.1, kv.2)) ∧ RepK G w vs kvs
  | _, _, _, .nil, e => by cases e; exact ⟨[], rfl, .nil⟩
  | _, _, kvs, .cons (d := d) (ds := ds) a b c, e => by
    unfold keyed at e
    cases e1 : kOf d with
    | none => rw [e1] at e; cases e
    | some k =>
      cases e2 : keyed ds with
      | none => rw [e1, e2] at e; cases e
      | some r =>
        rw [e1, e2] at e
        cases e
        obtain ⟨vs, h1, h2⟩ := keyed_of c e2
        refine ⟨(dkey k, _) :: vs, ?_, .cons b h2⟩
        rw [h1, a.key e1]
        rfl
theorem keys_merge {w : Wd} : ∀ {more : List (Key × V)} {kvs : List (DK × D)} {v : List (Key × V)} {d : List (DK × D)}, RepK G w more kvs → RepK G w v d → (keysNd (d ++ kvs) = true) → RepK G w (mergeK v more) (d ++ kvs)
  | _, _, v, d, .nil, h, _ => by rw [List.append_nil]; exact h
  | _, _, v, d, .cons (k := k) (v := y) (d := x) (vs := vs) (ds := ds) a b, h, nd => by
    have new : (d.any fun kv => decide (kv.1 = k)) = false := by
      clear h a b
      induction d with
      | nil => rfl
      | cons p r ih =>
        rw [List.cons_append] at nd
        unfold keysNd at nd
        rw [Bool.and_eq_true, Bool.not_eq_true', List.any_append, Bool.or_eq_false_iff, List.any_cons, Bool.or_eq_false_iff] at nd
        rw [List.any_cons, ih nd.2, Bool.or_false]
        have := of_decide_eq_false nd.1.2.1
        exact decide_eq_false fun q => this q.symm
    have e : mergeK v ((dkey k, y) :: vs) = mergeK (v ++ [(dkey k, y)]) vs := by
      unfold mergeK
      rw [List.foldl_cons]
      congr 1
      unfold putK
      rw [h.any, new]
      rfl
    rw [e]
    have := keys_merge b (h.append (.cons a .nil)) (d := d ++ [(k, x)]) (by rw [List.append_assoc]; exact nd)
    rw [List.append_assoc] at this
    exact this
/-- a new dict of one's own -/
def PostOd (G : Gam) (W : WX) (κ : Bs) (w : Wd) (σ : L2.St) (r : Res DS (List (DK × D))) (Q : VK) : Prop := match r with
  | .ok xs s' => ∀ w' a vs H', w.le w' → Ok G (κ.plus a (.dK vs)) w' s' σ H' → (∀ p ∈ κ.γ, p.1 ≠ a) → RepK G w' vs xs → Q (.ref a) H'
  | .exc x s' => ∀ w' c dd H', w.le w' → Ok G κ w' s' σ H' → RepX G w' c dd x → W c dd σ H'
  | .stuck => False
abbrev DD := DS → Res DS (List (DK × D))
def tDod (G : Gam) (W : WX) (f : DD) : TE := fun σ H Q => ∃ κ w s, Ok G κ w s σ H ∧ PostOd G W κ w σ (f s) Q
abbrev PDod (G : Gam) (W : WX) (X : Cx) (e : Expr) (f : DD) : Prop := PE X e (tDod G W f)
/-- behind what was set apart a new value -/
theorem Ok.swap {κ : Bs} {w : Wd} {s : DS} {σ : L2.St} {H : Hp} {a : Addr} {o o' : HO} (h : Ok G (κ.plus a o) w s σ H) (hγ : ∀ p ∈ κ.γ, p.1 ≠ a) : Ok G (κ.plus a o') w s σ (upd H a o') := by
  obtain ⟨ho, h3, h4, h5, h6⟩ := h.gam (a, o) List.mem_cons_self
  refine ⟨⟨fun b u e => ?_, h.fok.len, fun n b c e1 e2 => ?_, h.fok.nd, h.fok.nf⟩, ⟨h.nx.le, fun b u e n => ?_, h.nx.newF, h.nx.newR⟩, h.len, h.val, fun j z hj oz => ?_, h.ne, fun p hp => ?_, h.me⟩
  · rw [upd_ne (ne_of_none e h3)]
    exact h.fok.sub b u e
  · exact (h.fok.cel n b c e1 e2).mono (.refl _) (upd_ne fun z => h4 (by rw [← z]; exact List.mem_of_getElem? e1))
  · rw [upd_ne (ne_of_none e h5)]
    exact h.nx.keep b u e n
  · obtain ⟨b, q1, q2, q3, q4, q5⟩ := h.own j z hj oz
    exact ⟨b, q1, q2.mono (.refl _) (upd_ne fun e => h6 j z hj oz (by rw [q1, e])), q3, q4, q5⟩
  · rcases List.mem_cons.mp hp with rfl | hp
    · exact ⟨upd_same, h3, h4, h5, h6⟩
    · obtain ⟨q1, q2⟩ := h.gam p (List.mem_cons_of_mem _ hp)
      exact ⟨by rw [upd_ne (hγ p hp)]; exact q1, q2⟩
def dDisp (fs : List (DE × DE)) : DD := fun s => (pairsD fs s).bind fun ps s1 => match keyed ps with
  | some kvs => if kvs.length ≤ 15 ∧ keysNd kvs = true then .ok kvs s1 else .stuck
  | none => .stuck
theorem pdod_disp {pos : Pos} {keys : List (Option Expr)} {values : List Expr} {fs : List (DE × DE)} (h : PPs X pos keys values (fs.map fun p => (tD G W p.1, tD G W p.2))) (hall : keys.all (·.isSome) = true) (hl : keys.length = values.length) (h0 : keys ≠ []) (h15 : keys.length ≤ 15) :
    PDod G W X (.Dict keys values pos) (dDisp fs) :=
  (pe_disp h hall hl h0 h15).imp fun σ H Q ⟨κ, w, s, ok, q⟩ => by
    intro p hp
    have ok1 := ok.fresh hp (.dK [])
    have hγ := ok.apart hp
    unfold dDisp at q
    refine pairs_of fs (κ := κ.plus p (.dK [])) (w := w) (s := s) ok1 ?_
    cases e : pairsD fs s with
    | stuck => rw [e] at q; exact q.elim
    | exc x s' =>
      rw [e] at q
      exact fun w' c dd H' l o r => q w' c dd H' l o.unplus r
    | ok ps s' =>
      rw [e] at q
      intro w' vps H' l o r
      replace q : PostOd G W κ w σ (match keyed ps with | some kvs => if kvs.length ≤ 15 ∧ keysNd kvs = true then .ok kvs s' else .stuck | none => .stuck) Q := q
      cases e2 : keyed ps with
      | none => rw [e2] at q; exact q.elim
      | some kvs =>
        rw [e2] at q
        replace q : PostOd G W κ w σ (if kvs.length ≤ 15 ∧ keysNd kvs = true then .ok kvs s' else .stuck) Q := q
        split at q
        · rename_i c
          obtain ⟨vs, h1, h2⟩ := keyed_of r e2
          refine ⟨(o.gam (p, .dK []) List.mem_cons_self).1, vs, h1, by rw [h2.length]; exact c.1, ?_⟩
          exact q w' p _ _ l (o.swap hγ) hγ (keys_merge h2 .nil (d := []) c.2)
        · exact q.elim
def eFrzD (f : DD) : DE := fun s => (f s).bind fun xs s1 => .ok (.dic xs) s1
theorem pdod_frz {e : Expr} {f : DD} (h : PDod G W X e f) : PD G W X e (eFrzD f) := h.imp fun σ H Q ⟨κ, w, s, ok, q⟩ => ⟨κ, w, s, ok, by
  unfold eFrzD at q
  cases e : f s with
  | stuck => rw [e] at q; exact q.elim
  | exc x s' => rw [e] at q; exact q
  | ok xs s' =>
    rw [e] at q
    intro w' a vs H' l o g r
    obtain ⟨le, ok'⟩ := o.frz g
    exact q _ _ H' (l.trans le) ok' (.dic upd_same (r.mono le))⟩
/-- what was set apart goes into the store -/
theorem Ok.store {κ : Bs} {w : Wd} {s : DS} {σ : L2.St} {H : Hp} {a : Addr} {o : HO} {c : Cell} (h : Ok G (κ.plus a o) w s σ H) (hγ : ∀ p ∈ κ.γ, p.1 ≠ a) (hc : CellOk G w H a c) : w.le ⟨w.F, w.ρ ++ [a]⟩ ∧ Ok G κ ⟨w.F, w.ρ ++ [a]⟩ ⟨s.sl, s.st ++ [c]⟩ σ H := by
  obtain ⟨ho, h3, h4, h5, h6⟩ := h.gam (a, o) List.mem_cons_self
  have le : w.le ⟨w.F, w.ρ ++ [a]⟩ := ⟨fun _ _ e => e, List.prefix_append _ _⟩
  refine ⟨le, ⟨⟨h.fok.sub, ?_, fun n b c' e1 e2 => ?_, ?_, fun b hb => ?_⟩, ⟨h.nx.le.trans le, h.nx.keep, h.nx.newF, fun b hb => ?_⟩, h.len, fun i d e => ?_, fun i x e o' => ?_, h.ne, fun p hp => ?_, h.me⟩⟩
  · show (w.ρ ++ [a]).length = (s.st ++ [c]).length
    rw [List.length_append, List.length_append, h.fok.len]
    rfl
  · have e1 : (w.ρ ++ [a])[n]? = some b := e1
    have e2 : (s.st ++ [c])[n]? = some c' := e2
    by_cases hn : n < w.ρ.length
    · rw [List.getElem?_append_left hn] at e1
      rw [List.getElem?_append_left (by rw [← h.fok.len]; exact hn)] at e2
      exact (h.fok.cel n b c' e1 e2).mono le rfl
    · rw [List.getElem?_append_right (by omega)] at e1
      rw [List.getElem?_append_right (by rw [← h.fok.len]; omega), ← h.fok.len] at e2
      cases z : n - w.ρ.length with
      | zero =>
        rw [z] at e1 e2
        cases e1
        cases e2
        exact hc.mono le rfl
      | succ k => rw [z] at e1; cases e1
  · show (w.ρ ++ [a]).Nodup
    rw [List.nodup_append]
    exact ⟨h.fok.nd, by simp, fun x hx y hy e => by
      rw [List.mem_singleton] at hy
      subst hy
      subst e
      exact h4 hx⟩
  · rcases List.mem_append.mp hb with hb | hb
    · exact h.fok.nf b hb
    · rw [List.mem_singleton.mp hb]
      exact h3
  · rcases List.mem_append.mp hb with hb | hb
    · exact h.nx.newR b hb
    · rw [List.mem_singleton.mp hb]
      exact .inr h5
  · obtain ⟨v, h1, h2⟩ := h.val i d e
    exact ⟨v, h1, h2.mono le⟩
  · obtain ⟨b, q1, q2, q3, q4, q5⟩ := h.own i x e o'
    refine ⟨b, q1, q2.mono le rfl, q3, fun hb => ?_, q5⟩
    rcases List.mem_append.mp hb with hb | hb
    · exact q4 hb
    · exact h6 i x e o' (by rw [q1, List.mem_singleton.mp hb])
  · obtain ⟨q1, q2, q3, q4⟩ := h.gam p (List.mem_cons_of_mem _ hp)
    refine ⟨q1, q2, fun hb => ?_, q4⟩
    rcases List.mem_append.mp hb with hb | hb
    · exact q3 hb
    · exact hγ p hp (List.mem_singleton.mp hb)
def eCellD (f : DD) : DE := fun s => (f s).bind fun xs s1 => .ok (.cell s1.st.length) ⟨s1.sl, s1.st ++ [.dic xs]⟩
theorem pdod_cell {e : Expr} {f : DD} (h : PDod G W X e f) : PD G W X e (eCellD f) := h.imp fun σ H Q ⟨κ, w, s, ok, q⟩ => ⟨κ, w, s, ok, by
  unfold eCellD at q
  cases e : f s with
  | stuck => rw [e] at q; exact q.elim
  | exc x s' => rw [e] at q; exact q
  | ok xs s' =>
    rw [e] at q
    intro w' a vs H' l o g r
    obtain ⟨le, ok'⟩ := o.store (c := .dic xs) g ⟨vs, (o.gam (a, .dK vs) List.mem_cons_self).1, r⟩
    refine q _ _ H' (l.trans le) ok' (.cell ?_)
    show (w'.ρ ++ [a])[s'.st.length]? = some a
    rw [← o.fok.len]
    simp⟩
/-! ### == and != of data -/
mutual
def toPy : D → Option PyData
  | .non => some .none
  | .bl b => some (.bool b)
  | .int i => some (.int i)
  | .str l => some (.str (nm l))
  | .tup xs => (toPys xs).map .tuple
  | .lst xs => (toPys xs).map .list
  | .scr xs => (toPys xs).map .list
  | _ => none
def toPys : List D → Option (List PyData)
  | [] => some []
  | d :: r => (toPy d).bind fun p => (toPys r).map fun q => p :: q
end
mutual
theorem Rep.py (hK : G.K = X.K) {κ : Bs} {w : Wd} {s : DS} {σ : L2.St} {H : Hp} (ok : Ok G κ w s σ H) : ∀ {v : V} {d : D} {p : PyData}, Rep G w v d → toPy d = some p → Dp X.K H v p
  | _, _, _, .non, e => by cases e; exact .non
  | _, _, _, .bl b, e => by cases e; exact .bl b
  | _, _, _, .int b, e => by cases e; exact .int b
  | _, _, _, .str b, e => by cases e; exact .str _
  | _, _, _, .tup (ds := ds) a r, e => by
    cases q : toPys ds with
    | none => simp [toPy, q] at e
    | some ps =>
      simp only [toPy, q, Option.map_some, Option.some.injEq] at e
      subst e
      exact .tup (hK ▸ SqT.le a ok.fok.sub) (Reps.py hK ok r q)
  | _, _, _, .lst (ds := ds) a r, e => by
    cases q : toPys ds with
    | none => simp [toPy, q] at e
    | some ps =>
      simp only [toPy, q, Option.map_some, Option.some.injEq] at e
      subst e
      exact .lst (.inl (.inl (ok.fok.sub _ _ a))) (Reps.py hK ok r q)
  | _, _, _, .scr (ds := ds) a r, e => by
    cases q : toPys ds with
    | none => simp [toPy, q] at e
    | some ps =>
      simp only [toPy, q, Option.map_some, Option.some.injEq] at e
      subst e
      exact .lst (hK ▸ SqL.le a ok.fok.sub) (Reps.py hK ok r q)
  | _, _, _, .dic _ _, e => by simp [toPy] at e
  | _, _, _, .ins _ _ _, e => by simp [toPy] at e
  | _, _, _, .cell _, e => by simp [toPy] at e
  | _, _, _, .cls _, e => by simp [toPy] at e
  | _, _, _, .ty _, e => by simp [toPy] at e
  | _, _, _, .fn _, e => by simp [toPy] at e
theorem Reps.py (hK : G.K = X.K) {κ : Bs} {w : Wd} {s : DS} {σ : L2.St} {H : Hp} (ok : Ok G κ w s σ H) : ∀ {v : List V} {d : List D} {p : List PyData}, Reps G w v d → toPys d = some p → DpAll X.K H v p
  | _, _, _, .nil, e => by simp [toPys] at e; subst e; exact .nil
  | _, _, _, .cons (d := d) (ds := ds) a r, e => by
    cases q1 : toPy d with
    | none => simp [toPys, q1] at e
    | some p =>
      cases q2 : toPys ds with
      | none => simp [toPys, q1, q2] at e
      | some ps =>
        simp only [toPys, q1, q2, Option.bind_some, Option.map_some, Option.some.injEq] at e
        subst e
        exact .cons (Rep.py hK ok a q1) (Reps.py hK ok r q2)
end
def dEq : D → D → Option D := fun x y => match toPy x, toPy y with
  | some p, some q => if SeqAt.shaped p && SeqAt.shaped q then some (.bl (PyData.eqv p q)) else none
  | _, _ => none
def dNe : D → D → Option D := fun x y => match toPy x, toPy y with
  | some p, some q => if SeqAt.shaped p && SeqAt.shaped q then some (.bl (!PyData.eqv p q)) else none
  | _, _ => none
theorem opd_eq (hK : G.K = X.K) (hu : X.A.units + 64 < cLine) : OpD G X (compareOp .Eq) dEq := ⟨_, op_eqD hu, fun κ w s σ H x y dx dy d Q ok rx ry e q => by
  unfold dEq at e
  cases e1 : toPy dx with
  | none => simp [e1] at e
  | some p =>
    cases e2 : toPy dy with
    | none => simp [e1, e2] at e
    | some p' =>
      simp only [e1, e2] at e
      split at e
      · rename_i c
        cases e
        rw [Bool.and_eq_true] at c
        exact ⟨p, p', rx.py hK ok e1, ry.py hK ok e2, c.1, c.2, q w _ H (.refl _) ok (.bl _)⟩
      · cases e⟩
theorem opd_ne (hK : G.K = X.K) (hu : X.A.units + 64 < cLine) : OpD G X (compareOp .NotEq) dNe := ⟨_, op_neD hu, fun κ w s σ H x y dx dy d Q ok rx ry e q => by
  unfold dNe at e
  cases e1 : toPy dx with
  | none => simp [e1] at e
  | some p =>
    cases e2 : toPy dy with
    | none => simp [e1, e2] at e
    | some p' =>
      simp only [e1, e2] at e
      split at e
      · rename_i c
        cases e
        rw [Bool.and_eq_true] at c
        exact ⟨p, p', rx.py hK ok e1, ry.py hK ok e2, c.1, c.2, q w _ H (.refl _) ok (.bl _)⟩
      · cases e⟩
/-- is None -/
def isNonD : D → Bool
  | .non => true
  | _ => false
def dIsN : D → D → Option D := fun x y => match y with
  | .non => some (.bl (isNonD x))
  | _ => none
def dNotN : D → D → Option D := fun x y => match y with
  | .non => some (.bl (!isNonD x))
  | _ => none
theorem Rep.non_iff {w : Wd} {v : V} {d : D} (r : Rep G w v d) : decide (v = .non) = isNonD d := by
  cases r <;> simp [isNonD]
theorem opd_isN : OpD G X (compareOp .Is) dIsN := ⟨_, op_isN, fun κ w s σ H x y dx dy d Q ok rx ry e q => by
  cases ry with
  | non =>
    cases e
    refine ⟨rfl, ?_⟩
    rw [rx.non_iff]
    exact q w _ H (.refl _) ok (.bl _)
  | _ => exact nomatch e⟩
theorem opd_notN : OpD G X (compareOp .IsNot) dNotN := ⟨_, op_notN, fun κ w s σ H x y dx dy d Q ok rx ry e q => by
  cases ry with
  | non =>
    cases e
    refine ⟨rfl, ?_⟩
    rw [rx.non_iff]
    exact q w _ H (.refl _) ok (.bl _)
  | _ => exact nomatch e⟩
/-! ### operators of own classes -/
def ownO (c : String) (g : DFn) : DO2 := fun x y s => match insOf x s, insOf y s with
  | some (c1, _), some (c2, _) => if c1 = c ∧ c2 = c then lift s (g [x, y] s.st) else .stuck
  | _, _ => .stuck
theorem ep_back {pins : List (Addr × Obj)} {σ : L2.St} {Q : VK} {v : Value} {s' : Shared} (h : EP X pins σ Q v s') : PySem.W.CmpBack (EP X pins σ Q) v s' := by
  obtain ⟨x, H, I, r, q⟩ := id h
  cases v <;> first
    | exact h
    | (have := r.abs; cases this)
theorem ownO_of {c : String} {g : DFn} {κ : Bs} {w : Wd} {s : DS} {σ : L2.St} {H : Hp} {x y : V} {dx dy : D} {Q : VK} (ok : Ok G κ w s σ H) (rx : Rep G w x dx) (ry : Rep G w y dy) (q : PostG G W (Rep G) κ w σ (ownO c g dx dy s) Q) :
    ∃ a b C dxa dxb fa fb, x = .ref a ∧ y = .ref b ∧ G.ct c = some C ∧ H a = some (.ins C dxa fa) ∧ H b = some (.ins C dxb fb) ∧ PostG G W (Rep G) κ w σ (lift s (g [dx, dy] s.st)) Q := by
  unfold ownO at q
  cases e1 : insOf dx s with
  | none => rw [e1] at q; exact q.elim
  | some p =>
    cases e2 : insOf dy s with
    | none => rw [e1, e2] at q; exact q.elim
    | some p' =>
      obtain ⟨c1, f1⟩ := p
      obtain ⟨c2, f2⟩ := p'
      rw [e1, e2] at q
      replace q : PostG G W (Rep G) κ w σ (if c1 = c ∧ c2 = c then lift s (g [dx, dy] s.st) else .stuck) Q := q
      split at q
      · rename_i h
        obtain ⟨rfl, rfl⟩ := h
        obtain ⟨a, C, dxa, vs, ev, hC, hH, _⟩ := rx.ins_of ok e1
        obtain ⟨b, C', dxb, vs', ev', hC', hH', _⟩ := ry.ins_of ok e2
        rw [hC] at hC'
        cases hC'
        exact ⟨a, b, C, dxa, dxb, vs, vs', ev, ev', hC, hH, hH', q⟩
      · exact q.elim
theorem opx_own {op : Operator} {mname : Str} {c : String} {C f : Addr} {k : Nat} {fd : FuncData} {ps : List Str} {g : DFn} (hm' : PySem.dunder op.info.2 = mname) (hC : G.ct c = some C) (hs : PySem.W.findIn X.K (.ref C) mname = some (some (.ref f))) (hf : PySem.W.isFn X.K (.ref f) = true) (hc : PySem.W.selfFirst X.K C = true)
    (F : FnOk X.prog X.w X.K X.mg X.base (L2.CX X.prog X.w) k f fd ps (spG G 2 g)) (hr : Room k X.A) (hb : Binds X.K fd ps []) (tk : Takes X W) : OpX G W X (binaryOp op) (ownO c g) := by
  subst hm'
  intro pins sh σ H x y v u κ w s dx dy Q I rx ry ok rdx rdy q
  obtain ⟨a, b, C', dxa, dxb, fa, fb, rfl, rfl, hC', hH, hH', q⟩ := ownO_of ok rdx rdy q
  rw [hC] at hC'
  cases hC'
  cases rx
  cases ry
  obtain ⟨mA, J, _⟩ := ins_get I.hok hH
  obtain ⟨mB, J', _⟩ := ins_get I.hok hH'
  obtain ⟨od, J, _⟩ := J.look
  obtain ⟨od', J', _⟩ := J'.look
  obtain ⟨m, hF⟩ := I.fr
  refine PySem.W.binop_K hF I.ok.mod.kin J J'.type hc hs hf ?_
  exact thn (callD (us := [.ref a, .ref b]) (vs := [.ref a, .ref b]) (ds := [dx, dy]) F hr hb tk I ok (.cons rdx (.cons rdy .nil)) (.cons rfl (.cons rfl .nil)) rfl q) fun v s' h => ep_back h
theorem opx_ownEq {c : String} {C f : Addr} {k : Nat} {fd : FuncData} {ps : List Str} {g : DFn} (hC : G.ct c = some C) (hs : PySem.W.findIn X.K (.ref C) "__eq__" = some (some (.ref f))) (hf : PySem.W.isFn X.K (.ref f) = true)
    (F : FnOk X.prog X.w X.K X.mg X.base (L2.CX X.prog X.w) k f fd ps (spG G 2 g)) (hr : Room k X.A) (hb : Binds X.K fd ps []) (tk : Takes X W) : OpX G W X (compareOp .Eq) (ownO c g) := by
  intro pins sh σ H x y v u κ w s dx dy Q I rx ry ok rdx rdy q
  obtain ⟨a, b, C', dxa, dxb, fa, fb, rfl, rfl, hC', hH, hH', q⟩ := ownO_of ok rdx rdy q
  rw [hC] at hC'
  cases hC'
  cases rx
  cases ry
  obtain ⟨mA, J, _⟩ := ins_get I.hok hH
  obtain ⟨mB, J', _⟩ := ins_get I.hok hH'
  obtain ⟨od, J, _⟩ := J.look
  obtain ⟨od', J', _⟩ := J'.look
  obtain ⟨m, hF⟩ := I.fr
  show wpAny (model X.prog X.w) X.A (richCompare .Eq (.ref a) (.ref b)) _ _ _
  refine PySem.W.cmp_K (op := .Eq) (tb := .ref C) hr.units0 hF I.ok.mod.kin J J'.type (by simp [PySem.W.notFirst]) hs hf ?_
  exact thn (callD (us := [.ref a, .ref b]) (vs := [.ref a, .ref b]) (ds := [dx, dy]) F hr hb tk I ok (.cons rdx (.cons rdy .nil)) (.cons rfl (.cons rfl .nil)) rfl q) fun v s' h => ep_back h
/-- ~x of an own class -/
def eInv (c : String) (g : DFn) (f : DE) : DE := fun s => (f s).bind fun d s1 => match insOf d s1 with
  | some (c1, _) => if c1 = c then lift s1 (g [d] s1.st) else .stuck
  | none => .stuck
theorem pd_inv {c : String} {C f : Addr} {k : Nat} {fd : FuncData} {ps : List Str} {g : DFn} {e : Expr} {fe : DE} {pos : Pos} (hC : G.ct c = some C) (hs : PySem.W.findIn X.K (.ref C) "__invert__" = some (some (.ref f))) (hf : PySem.W.isFn X.K (.ref f) = true)
    (F : FnOk X.prog X.w X.K X.mg X.base (L2.CX X.prog X.w) k f fd ps (spG G 1 g)) (hr : Room k X.A) (hb : Binds X.K fd ps []) (tk : Takes X W) (he : PD G W X e fe) : PD G W X (.UnaryOp .Invert e pos) (eInv c g fe) := by
  refine ⟨fun pins sh σ H Q I h => ?_⟩
  obtain ⟨κ, w, s, ok, q⟩ := h
  have hh : tD G W fe σ H fun v H1 => ∃ d s1 w1, w.le w1 ∧ Ok G κ w1 s1 σ H1 ∧ Rep G w1 v d ∧ PostG G W (Rep G) κ w1 σ (match insOf d s1 with
    | some (c1, _) => if c1 = c then lift s1 (g [d] s1.st) else .stuck
    | none => .stuck) Q := ⟨κ, w, s, ok, PostG.bind q⟩
  refine UnaryOp_ (thn (he.run pins sh σ H _ I hh) fun u s1 ⟨x, H1, I1, rx, d, t1, w1, le, ok1, r1, q1⟩ => ?_)
  cases e1 : insOf d t1 with
  | none => rw [e1] at q1; exact q1.elim
  | some p =>
    obtain ⟨c1, fs⟩ := p
    rw [e1] at q1
    replace q1 : PostG G W (Rep G) κ w1 σ (if c1 = c then lift t1 (g [d] t1.st) else .stuck) Q := q1
    split at q1
    · rename_i hc
      subst hc
      obtain ⟨a, C', dx, vs, ev, hC', hH, rf⟩ := r1.ins_of ok1 e1
      rw [hC] at hC'
      cases hC'
      subst ev
      obtain rfl : u = Value.ref a := rx
      obtain ⟨mA, J, _⟩ := ins_get I1.hok hH
      obtain ⟨od, J, _⟩ := J.look
      obtain ⟨m, hF⟩ := I1.fr
      exact PySem.W.ksp_inv hF I1.ok.mod.kin J hs hf (callD (us := [.ref a]) (vs := [.ref a]) (ds := [d]) F hr hb tk I1 ok1 (.cons r1 .nil) (.cons rfl .nil) rfl q1)
    · exact q1.elim
end
end DL
set_option maxRecDepth 100000
set_option maxHeartbeats 4000000
set_option autoImplicit false
namespace DL
open PySem PySem.Spec PyProof.Rows L2 RZ
section
variable {G : Gam} {W : WX} {X : Cx}
/-! ### list comprehensions -/
abbrev WF : WX := fun _ _ _ _ => False
def wipeD (vs : List Nat) (l : List Sl) : List Sl := match vs with
  | [] => l
  | v :: vs => (wipeD vs l).set v .un
def wipeS (vs : List Nat) (s : DS) : DS := ⟨wipeD vs s.sl, s.st⟩
theorem wipeD_length (l : List Sl) : ∀ vs : List Nat, (wipeD vs l).length = l.length
  | [] => rfl
  | v :: vs => by unfold wipeD; rw [List.length_set, wipeD_length l vs]
theorem wipeD_in {l : List Sl} {i : Nat} {x : Sl} : ∀ {vs : List Nat}, (wipeD vs l)[i]? = some x → (i ∈ vs ∧ x = .un) ∨ (i ∉ vs ∧ l[i]? = some x)
  | [], h => .inr ⟨by simp, h⟩
  | v :: vs, h => by
    unfold wipeD at h
    by_cases hi : v = i
    · subst hi
      by_cases hv : v < (wipeD vs l).length
      · rw [List.getElem?_set_self hv] at h
        cases h
        exact .inl ⟨List.mem_cons_self, rfl⟩
      · rw [List.getElem?_eq_none (by simpa using hv)] at h; cases h
    · rw [List.getElem?_set_ne hi] at h
      rcases wipeD_in h with ⟨h1, h2⟩ | ⟨h1, h2⟩
      · exact .inl ⟨List.mem_cons_of_mem _ h1, h2⟩
      · exact .inr ⟨by simp only [List.mem_cons, not_or]; exact ⟨fun e => hi e.symm, h1⟩, h2⟩
theorem wipe_out' {σ : L2.St} {i : Nat} : ∀ {vs : List Nat}, i ∉ vs → (L2.wipe σ vs)[i]? = σ[i]?
  | [], _ => rfl
  | v :: vs, h => by
    unfold L2.wipe
    rw [List.getElem?_set_ne (fun e => h (by rw [e]; exact List.mem_cons_self)), wipe_out' fun z => h (List.mem_cons_of_mem _ z)]
theorem Ok.wipe {κ : Bs} {w : Wd} {s : DS} {σ : L2.St} {H : Hp} (h : Ok G κ w s σ H) (vs : List Nat) : Ok G κ w (wipeS vs s) (L2.wipe σ vs) H := by
  refine ⟨h.fok, h.nx, by rw [wipe_length]; exact (wipeD_length _ _).trans h.len, fun i d e => ?_, fun i x e o => ?_, fun i j x y a e1 e2 o1 o2 h1 h2 => ?_, fun p hp => ?_, fun a ha c fs e => ?_⟩
  · rcases wipeD_in e with ⟨_, z⟩ | ⟨z, e⟩
    · cases z
    · rw [wipe_out' z]; exact h.val i d e
  · rcases wipeD_in e with ⟨_, z⟩ | ⟨z, e⟩
    · subst z; cases o
    · rw [wipe_out' z]; exact h.own i x e o
  · rcases wipeD_in e1 with ⟨_, z⟩ | ⟨z, e1⟩
    · subst z; cases o1
    · rcases wipeD_in e2 with ⟨_, z'⟩ | ⟨z', e2⟩
      · subst z'; cases o2
      · rw [wipe_out' z] at h1
        rw [wipe_out' z'] at h2
        exact h.ne i j x y a e1 e2 o1 o2 h1 h2
  · obtain ⟨q1, q2, q3, q4, q5⟩ := h.gam p hp
    refine ⟨q1, q2, q3, q4, fun i x e o => ?_⟩
    rcases wipeD_in e with ⟨_, z⟩ | ⟨z, e⟩
    · subst z; cases o
    · rw [wipe_out' z]; exact q5 i x e o
  · rcases wipeD_in e with ⟨_, z⟩ | ⟨z, e⟩
    · cases z
    · rw [wipe_out' z]; exact h.me a ha c fs e
/-- the slots behind the block: the block's own names as they were -/
def unwipe (vs : List Nat) (old new : List Sl) : List Sl := match vs with
  | [] => new
  | v :: vs => (unwipe vs old new).set v (match old[v]? with | some (.val d) => .val d | _ => .un)
theorem unwipe_length (l l' : List Sl) : ∀ vs : List Nat, (unwipe vs l l').length = l'.length
  | [] => rfl
  | v :: vs => by unfold unwipe; rw [List.length_set, unwipe_length l l' vs]
theorem unwipe_in {l l' : List Sl} {i : Nat} {x : Sl} : ∀ {vs : List Nat}, (unwipe vs l l')[i]? = some x → (i ∈ vs ∧ (x = .un ∨ ∃ d, x = .val d ∧ l[i]? = some x)) ∨ (i ∉ vs ∧ l'[i]? = some x)
  | [], h => .inr ⟨by simp, h⟩
  | v :: vs, h => by
    unfold unwipe at h
    by_cases hi : v = i
    · subst hi
      by_cases hv : v < (unwipe vs l l').length
      · rw [List.getElem?_set_self hv] at h
        refine .inl ⟨List.mem_cons_self, ?_⟩
        cases e : l[v]? with
        | none => rw [e] at h; cases h; exact .inl rfl
        | some y =>
          rw [e] at h
          cases y with
          | val d => cases h; exact .inr ⟨d, rfl, rfl⟩
          | _ => cases h; exact .inl rfl
      · rw [List.getElem?_eq_none (by simpa using hv)] at h; cases h
    · rw [List.getElem?_set_ne hi] at h
      rcases unwipe_in h with ⟨h1, h2⟩ | ⟨h1, h2⟩
      · exact .inl ⟨List.mem_cons_of_mem _ h1, h2⟩
      · exact .inr ⟨by simp only [List.mem_cons, not_or]; exact ⟨fun e => hi e.symm, h1⟩, h2⟩
theorem Ok.unwipe {κ κ' : Bs} {w w1 : Wd} {s s1 : DS} {σ : L2.St} {H H1 : Hp} {vs : List Nat} (h1 : Ok G κ' w1 s1 σ H1) (le : w1.le w) (h : Ok G κ w s (L2.wipe σ vs) H) (hme : κ.me = κ'.me) : Ok G κ w ⟨DL.unwipe vs s1.sl s.sl, s.st⟩ σ H := by
  refine ⟨h.fok, h.nx, ?_, fun i d e => ?_, fun i x e o => ?_, fun i j x y a e1 e2 o1 o2 q1 q2 => ?_, fun p hp => ?_, fun a ha c fs e => ?_⟩
  · show (DL.unwipe vs s1.sl s.sl).length = σ.length
    rw [unwipe_length, h.len, wipe_length]
  · rcases unwipe_in e with ⟨_, z | ⟨d', z, e⟩⟩ | ⟨z, e⟩
    · cases z
    · obtain ⟨v, q1, q2⟩ := h1.val i d e
      exact ⟨v, q1, q2.mono le⟩
    · obtain ⟨v, q1, q2⟩ := h.val i d e
      exact ⟨v, by rw [wipe_out' z] at q1; exact q1, q2⟩
  · rcases unwipe_in e with ⟨_, z | ⟨d', z, e⟩⟩ | ⟨z, e⟩
    · subst z; cases o
    · subst z; cases o
    · have := h.own i x e o
      rwa [wipe_out' z] at this
  · rcases unwipe_in e1 with ⟨_, z | ⟨d', z, e1⟩⟩ | ⟨z, e1⟩
    · subst z; cases o1
    · subst z; cases o1
    · rcases unwipe_in e2 with ⟨_, z' | ⟨d', z', e2⟩⟩ | ⟨z', e2⟩
      · subst z'; cases o2
      · subst z'; cases o2
      · exact h.ne i j x y a e1 e2 o1 o2 (by rw [wipe_out' z]; exact q1) (by rw [wipe_out' z']; exact q2)
  · obtain ⟨q1, q2, q3, q4, q5⟩ := h.gam p hp
    refine ⟨q1, q2, q3, q4, fun i x e o => ?_⟩
    rcases unwipe_in e with ⟨_, z | ⟨d', z, e⟩⟩ | ⟨z, e⟩
    · subst z; cases o
    · subst z; cases o
    · have := q5 i x e o
      rwa [wipe_out' z] at this
  · rcases unwipe_in e with ⟨_, z | ⟨d', z, e⟩⟩ | ⟨z, e⟩
    · cases z
    · cases z
    · have := h.me a ha c fs e
      rwa [wipe_out' z] at this
def lcL (vs : List Nat) (g : DG) (t : DT) (e : DE) : List D → List D → DS → Res DS (List D)
  | [], acc, s => .ok acc s
  | d :: r, acc, s => (noX (g d (wipeS vs s))).bind fun _ s1 => (noX (t s1)).bind fun b s2 => if b = true then (noX (e s2)).bind fun y s3 => if acc.length < 1000000 then lcL vs g t e r (acc ++ [y]) s3 else .stuck
    else lcL vs g t e r acc s2
def aLc (vs : List Nat) (it : DA) (g : DG) (t : DT) (e : DE) : DA := fun s => (it s).bind fun items s1 => (noX (lcL vs g t e items [] s1)).bind fun ys s2 => .ok ys ⟨unwipe vs s1.sl (wipeD vs s2.sl), s2.st⟩
def bYes : DT := fun s => .ok true s
theorem ptds_nil : PTs X [] (tDT G W bYes) := ⟨fun pins s σ H Q I ⟨κ, w, d, ok, q⟩ => pts_nil.run pins s σ H Q I (q w true H (.refl _) ok rfl)⟩
theorem ptds_one {c : Expr} {t : DT} (h : PDT G W X c t) : PTs X [c] (tDT G W t) := pts_one h
theorem wipe_same {σ σ2 : L2.St} {vs is : List Nat} (hl : σ2.length = (L2.wipe σ vs).length) (h : ∀ i : Nat, i ∉ is → σ2[i]? = (L2.wipe σ vs)[i]?) (hs : ∀ i ∈ is, i ∈ vs) : L2.wipe σ2 vs = L2.wipe σ vs := by
  have at_ : ∀ (τ : L2.St) (i : Nat), i ∈ vs → (L2.wipe τ vs)[i]? = if i < τ.length then some none else none := by
    intro τ i hi
    clear h hs hl
    induction vs with
    | nil => simp at hi
    | cons v r ih =>
      unfold L2.wipe
      by_cases e : v = i
      · subst e
        by_cases c : v < τ.length
        · rw [List.getElem?_set_self (by rw [wipe_length]; exact c), if_pos c]
        · rw [if_neg c, List.getElem?_eq_none (by rw [List.length_set, wipe_length]; omega)]
      · rw [List.getElem?_set_ne e]
        exact ih (by rcases List.mem_cons.mp hi with z | z; exact absurd z.symm e; exact z)
  have hl2 : σ2.length = σ.length := by rw [hl, wipe_length]
  apply List.ext_getElem?
  intro i
  by_cases hi : i ∈ vs
  · rw [at_ σ2 i hi, at_ σ i hi, hl2]
  · rw [wipe_out' hi]
    exact h i fun z => hi (hs i z)
theorem lc_of {vs is : List Nat} (hs : ∀ i ∈ is, i ∈ vs) {κ : Bs} {w : Wd} {J : It} {g : DG} {t : DT} {e : DE} {items : List D} (hJ : ItOk G w J items) {s0 : DS} {σ : L2.St} {H1 : Hp} {Q : VK} (ok : Ok G κ w s0 σ H1) {Dp : Addr} (hD : H1 Dp = none)
    (q : match noX (lcL vs g t e items [] s0) with
      | .ok ys s2 => ∀ w2 acc H2, w.le w2 → Ok G (κ.plus Dp (.lst acc)) w2 (wipeS vs s2) (L2.wipe σ vs) H2 → Reps G w2 acc ys → Q (.ref Dp) H2
      | _ => False) :
    ∃ Wv : Nat → Nat → Hp → Prop, (∃ m, Wv 0 m (upd H1 Dp (.lst []))) ∧ ∀ i m H, Wv i m H →
      (J.stop i H ∧ Q (.ref Dp) H) ∨ (J.go i H ∧ ∃ Nx : Hp → Prop, (∀ H', Nx H' → ∃ m', m' < m ∧ Wv (i + 1) m' H') ∧ ∀ x H', J.yld i H x H' → tDG G is g x (L2.wipe σ vs) H' fun σ2 H2 => L2.wipe σ2 vs = L2.wipe σ vs ∧ tDT G WF t σ2 H2 fun b H3 =>
        if b = true then tD G WF e σ2 H3 fun y H4 => ∃ acc, H4 Dp = some (.lst acc) ∧ acc.length < sizeLine ∧ Nx (upd H4 Dp (.lst (acc ++ [y]))) else Nx H3) := by
  have hγ := ok.apart hD
  -- a state of the loop: slots wiped
  refine ⟨fun i m H => ∃ w' s' acc accD, w.le w' ∧ Ok G (κ.plus Dp (.lst acc)) w' (wipeS vs s') (L2.wipe σ vs) H ∧ Reps G w' acc accD ∧ (items.drop i).length = m ∧
    (match noX (lcL vs g t e (items.drop i) accD s') with
      | .ok ys s2 => ∀ w2 acc H2, w'.le w2 → Ok G (κ.plus Dp (.lst acc)) w2 (wipeS vs s2) (L2.wipe σ vs) H2 → Reps G w2 acc ys → Q (.ref Dp) H2
      | _ => False), ⟨items.length, w, s0, [], [], .refl _, (ok.fresh hD _).wipe vs, .nil, by simp, ?_⟩, ?_⟩
  · rw [List.drop_zero]
    exact q
  · rintro i m H ⟨w', s', acc, accD, le', ok', ra, hm, q'⟩
    cases ed : items.drop i with
    | nil =>
      rw [ed] at q'
      have hn : items[i]? = none := by
        have := congrArg (fun l => l[0]?) ed
        simpa using this
      exact .inl ⟨(hJ w' _ H le' ok'.fok i).2 hn, q' w' acc H (.refl _) ok' ra⟩
    | cons d r =>
      rw [ed] at q' hm
      obtain ⟨h1, h2⟩ := drop_get ed
      obtain ⟨go, yl⟩ := (hJ w' _ H le' ok'.fok i).1 d h1
      refine .inr ⟨go, fun H2 => ∃ w2 s2 acc accD, w.le w2 ∧ Ok G (κ.plus Dp (.lst acc)) w2 (wipeS vs s2) (L2.wipe σ vs) H2 ∧ Reps G w2 acc accD ∧
        (match noX (lcL vs g t e r accD s2) with
          | .ok ys s3 => ∀ w3 acc H3, w2.le w3 → Ok G (κ.plus Dp (.lst acc)) w3 (wipeS vs s3) (L2.wipe σ vs) H3 → Reps G w3 acc ys → Q (.ref Dp) H3
          | _ => False), fun H2 ⟨w2, s2, acc2, accD2, l2, o2, r2, q2⟩ => ?_, fun x H' hy => ?_⟩
      · exact ⟨r.length, by rw [← hm]; exact Nat.lt_succ_self _, w2, s2, acc2, accD2, l2, o2, r2, by rw [h2], by rw [h2]; exact q2⟩
      · obtain ⟨w2, nx, fok, rx⟩ := yl x H' hy
        have ok2 : Ok G (κ.plus Dp (.lst acc)) w2 (wipeS vs s') (L2.wipe σ vs) H' := ok'.step nx fok
        refine ⟨κ.plus Dp (.lst acc), w2, wipeS vs s', d, ok2, rx, PostT.ofNoX ?_⟩
        unfold lcL at q'
        cases e1 : noX (g d (wipeS vs s')) with
        | stuck => rw [e1] at q'; exact q'.elim
        | exc x s => exact absurd e1 (noX_exc _ _ _)
        | ok u s1 =>
          rw [e1] at q'
          rw [Res.bind_ok] at q'
          intro w3 σ3 H3 l3 o3 hσ
          have hw : L2.wipe σ3 vs = L2.wipe σ vs := wipe_same hσ.1 hσ.2 hs
          refine ⟨hw, κ.plus Dp (.lst acc), w3, s1, o3, ?_⟩
          cases e2 : t s1 with
          | stuck => rw [e2] at q'; exact q'.elim
          | exc x s => rw [e2] at q'; exact q'.elim
          | ok b s2 =>
            rw [e2] at q'
            intro w4 b' H4 l4 o4 eb
            subst eb
            have lw : w'.le w4 := (nx.le.trans l3).trans l4
            cases b' with
            | false =>
              rw [if_neg (fun z => nomatch z)]
              refine ⟨w4, s2, acc, accD, le'.trans lw, by rw [← hw]; exact o4.wipe vs, ra.mono lw, ?_⟩
              replace q' : (match noX (lcL vs g t e r accD s2) with
                | .ok ys s3 => ∀ w3 acc H3, w'.le w3 → Ok G (κ.plus Dp (.lst acc)) w3 (wipeS vs s3) (L2.wipe σ vs) H3 → Reps G w3 acc ys → Q (.ref Dp) H3
                | _ => False) := q'
              cases e3 : noX (lcL vs g t e r accD s2) with
              | stuck => rw [e3] at q'; exact q'.elim
              | exc x s => rw [e3] at q'; exact q'.elim
              | ok ys s3 => rw [e3] at q'; exact fun w5 acc5 H5 l5 o5 r5 => q' w5 acc5 H5 (lw.trans l5) o5 r5
            | true =>
              rw [if_pos rfl]
              refine ⟨κ.plus Dp (.lst acc), w4, s2, o4, ?_⟩
              replace q' : (match noX ((noX (e s2)).bind fun y s3 => if accD.length < 1000000 then lcL vs g t e r (accD ++ [y]) s3 else .stuck) with
                | .ok ys s3 => ∀ w3 acc H3, w'.le w3 → Ok G (κ.plus Dp (.lst acc)) w3 (wipeS vs s3) (L2.wipe σ vs) H3 → Reps G w3 acc ys → Q (.ref Dp) H3
                | _ => False) := q'
              cases e3 : e s2 with
              | stuck => rw [e3] at q'; exact q'.elim
              | exc x s => rw [e3] at q'; exact q'.elim
              | ok y s3 =>
                rw [e3] at q'
                intro w5 v5 H5 l5 o5 r5
                replace q' : (match noX (if accD.length < 1000000 then lcL vs g t e r (accD ++ [y]) s3 else .stuck) with
                  | .ok ys s3 => ∀ w3 acc H3, w'.le w3 → Ok G (κ.plus Dp (.lst acc)) w3 (wipeS vs s3) (L2.wipe σ vs) H3 → Reps G w3 acc ys → Q (.ref Dp) H3
                  | _ => False) := q'
                by_cases c : accD.length < 1000000
                · rw [if_pos c] at q'
                  refine ⟨acc, (o5.gam (Dp, .lst acc) List.mem_cons_self).1, by rw [ra.length, sizeLine_eq]; omega, w5, s3, acc ++ [v5], accD ++ [y], le'.trans (lw.trans l5), ?_, ((ra.mono lw).mono l5).append (.cons r5 .nil), ?_⟩
                  · rw [← hw]
                    exact (o5.swap hγ).wipe vs
                  · cases e4 : noX (lcL vs g t e r (accD ++ [y]) s3) with
                    | stuck => rw [e4] at q'; exact q'.elim
                    | exc x s => rw [e4] at q'; exact q'.elim
                    | ok ys s4 => rw [e4] at q'; exact fun w6 acc6 H6 l6 o6 r6 => q' w6 acc6 H6 ((lw.trans l5).trans l6) o6 r6
                · rw [if_neg c] at q'
                  exact q'.elim
theorem pdo_lc {elt tg iter : Expr} {ifs : List Expr} {scope : Scope} {own : List (Str × Nat)} {is : List Nat} {pos : Pos} {it : DA} {g : DG} {t : DT} {e : DE} (hc : X.calm = true) (hN : X.N.Nodup) (hi : PDI G W X tg iter it) (ok : BlkOk X.N X.env.scope scope own) (hs' : ∀ i ∈ is, i ∈ own.map (·.2))
    (hg : ∀ (s : Shared) (H : Hp) (C : Addr) (cl : List (Str × Addr)) (fp : List Addr), PDG G (X.blk s H scope (compEnvC scope cl C X.env) fp) tg is g) (ht : ∀ (s : Shared) (H : Hp) (C : Addr) (cl : List (Str × Addr)) (fp : List Addr), PTs (X.blk s H scope (compEnvC scope cl C X.env) fp) ifs (tDT G WF t))
    (he : ∀ (s : Shared) (H : Hp) (C : Addr) (cl : List (Str × Addr)) (fp : List Addr), PD G WF (X.blk s H scope (compEnvC scope cl C X.env) fp) elt e) (hs : ∀ x, foldedSetIterable iter X.env x = pure x := by intro _; rfl) :
    PDo G W X (.ListComp elt [⟨tg, iter, ifs, 0⟩] scope pos) (aLc (own.map (·.2)) it g t e) :=
  (pe_lc hc hN hi ok hg ht he hs).imp fun σ H Q h => lc_fin hs' h
where
  lc_fin {vs is : List Nat} (hs : ∀ i ∈ is, i ∈ vs) {it : DA} {g : DG} {t : DT} {e : DE} {σ : L2.St} {H : Hp} {Q : VK} (h : tDo G W (aLc vs it g t e) σ H Q) : tLc (tDI G W it) (tDG G is g) (tDT G WF t) (tD G WF e) vs σ H Q := by
    obtain ⟨κ, w, s, ok, q⟩ := h
    refine ⟨κ, w, s, ok, ?_⟩
    unfold aLc at q
    cases e1 : it s with
    | stuck => rw [e1] at q; exact q.elim
    | exc x s' => rw [e1] at q; exact q
    | ok items s1 =>
      rw [e1] at q
      rw [Res.bind_ok] at q
      intro w1 J H1 l1 o1 hJ D hD
      refine lc_of hs hJ o1 hD ?_
      cases e2 : noX (lcL vs g t e items [] s1) with
      | stuck => rw [e2] at q; exact q.elim
      | exc x s' => exact absurd e2 (noX_exc _ _ _)
      | ok ys s2 =>
        rw [e2] at q
        intro w2 acc H2 l2 o2 r2
        exact q w2 D acc H2 (l1.trans l2) (Ok.unwipe o1 l2 o2 rfl) (o1.apart hD) r2
/-- name = [..] on one line, the name a plain local -/
theorem pds_setLc {i : Nat} {y : Str} {py : Pos} {elt tg iter : Expr} {ifs : List Expr} {scope : Scope} {own : List (Str × Nat)} {is : List Nat} {pos spos : Pos} {it : DA} {g : DG} {t : DT} {e : DE} (hc : X.calm = true) (hN : X.N.Nodup) (hy : X.N[i]? = some y) (hyl : X.env.scope.names.lookup y = some .local)
    (hsw : swapsWith (.ListComp elt [⟨tg, iter, ifs, 0⟩] scope pos) (some (.Name y py)) spos.line X.env = pure true) (hi : PDI G W X tg iter it) (ok : BlkOk X.N X.env.scope scope own) (hs' : ∀ i ∈ is, i ∈ own.map (·.2))
    (hg : ∀ (s : Shared) (H : Hp) (C : Addr) (cl : List (Str × Addr)) (fp : List Addr), PDG G (X.blk s H scope (compEnvC scope cl C X.env) fp) tg is g) (ht : ∀ (s : Shared) (H : Hp) (C : Addr) (cl : List (Str × Addr)) (fp : List Addr), PTs (X.blk s H scope (compEnvC scope cl C X.env) fp) ifs (tDT G WF t))
    (he : ∀ (s : Shared) (H : Hp) (C : Addr) (cl : List (Str × Addr)) (fp : List Addr), PD G WF (X.blk s H scope (compEnvC scope cl C X.env) fp) elt e) (hs : ∀ x, foldedSetIterable iter X.env x = pure x := by intro _; rfl) :
    PDS G W X (.Assign [.Name y py] (.ListComp elt [⟨tg, iter, ifs, 0⟩] scope pos) spos) (sSetO i (aLc (own.map (·.2)) it g t e)) :=
  (ps_setLc hc hN hy hyl hsw hi ok hg ht he hs).imp fun N σ H q => by
    have q := setO_of q
    exact pdo_lc.lc_fin hs' q
/-! ### enumerate, zip -/
def enumL (xs : List D) : List D := (List.range xs.length).zipWith (fun (i : Nat) x => .tup [.int (i : Int), x]) xs
def zipL (xs ys : List D) : List D := xs.zipWith (fun x y => .tup [x, y]) ys
theorem zipL_get {xs ys : List D} {i : Nat} {d : D} (h : (zipL xs ys)[i]? = some d) : ∃ x y, xs[i]? = some x ∧ ys[i]? = some y ∧ d = .tup [x, y] := by
  unfold zipL at h
  rw [List.getElem?_zipWith] at h
  cases e1 : xs[i]? with
  | none => simp [e1] at h
  | some x =>
    cases e2 : ys[i]? with
    | none => simp [e1, e2] at h
    | some y => simp [e1, e2] at h; exact ⟨x, y, rfl, rfl, h.symm⟩
theorem enumL_get {xs : List D} {i : Nat} {d : D} (h : (enumL xs)[i]? = some d) : ∃ x, xs[i]? = some x ∧ d = .tup [.int (i : Int), x] := by
  unfold enumL at h
  rw [List.getElem?_zipWith] at h
  cases e2 : xs[i]? with
  | none => simp [e2] at h
  | some y =>
    have hi : i < xs.length := (List.getElem?_eq_some_iff.mp e2).1
    rw [List.getElem?_range hi, e2] at h
    cases h
    exact ⟨y, rfl, rfl⟩
theorem itOk_enum (hK : G.K = X.K) {w : Wd} {a : Addr} {vs : List V} {ds : List D} (e : SqL G.K w.F a vs) (r : Reps G w vs ds) : ItOk G w (Ite X.K a) (enumL ds) := by
  intro w1 S H le fok i
  have q : SqL X.K H a vs := hK ▸ SqL.le (SqL.le e le.f) fok.sub
  refine ⟨fun d hd => ?_, fun hn => ?_⟩
  · obtain ⟨x, h1, rfl⟩ := enumL_get hd
    obtain ⟨y, h2, h3⟩ := r.get h1
    refine ⟨⟨vs, y, q, h2⟩, fun v H' ⟨T, x', hv, hT, hH, hx⟩ => ?_⟩
    have := hx vs q
    rw [h2] at this
    cases this
    obtain ⟨f2, n2⟩ := fok.alloc hT (.tup [.int (i : Nat), y])
    subst hH
    subst hv
    exact ⟨_, n2, f2, .tup (.inl (.inl upd_same)) (.cons (.int _) (.cons ((h3.mono le).mono n2.le) .nil))⟩
  · refine ⟨vs, q, ?_⟩
    have := List.getElem?_eq_none_iff.mp hn
    unfold enumL at this
    rw [List.length_zipWith, List.length_range] at this
    rw [r.length]
    omega
def itEnum (f : DA) : DA := fun s => (f s).bind fun ds s1 => match ds with
  | [.lst xs] => .ok (enumL xs) s1
  | [.scr xs] => .ok (enumL xs) s1
  | _ => .stuck
theorem pdi_enum (hK : G.K = X.K) {e : Expr} {fa : DA} {p pos tpos : Pos} {elts : List Expr} {kk : Nat} (hg : Gl X "enumerate") (hm : X.mg "enumerate" = none) (ha : PDA G W X [e] fa) (hs : starEach [e] X.env = [(false, eval e X.env)] := by rfl) :
    PDI G W X (.Tuple elts kk tpos) (.Call (.Name "enumerate" p) [e] [] pos) (itEnum fa) :=
  (pi_enum hg hm ha hs).imp fun σ H R ⟨κ, w, s, ok, q⟩ => ⟨κ, w, s, ok, (PostG.bindI q).imp fun v H1 ⟨d, s1, w1, le, ok1, r1, q1⟩ => by
    match d, q1 with
    | [.lst xs], q1 =>
      obtain ⟨v, rfl, r⟩ := r1.one
      cases r with
      | @lst a vs ds e r =>
        have e' : SqL G.K w1.F a vs := .inl (.inl e)
        exact ⟨a, vs, rfl, hK ▸ SqL.le e' ok1.fok.sub, q1 w1 _ H1 (.refl _) ok1 (itOk_enum hK e' r)⟩
    | [.scr xs], q1 =>
      obtain ⟨v, rfl, r⟩ := r1.one
      cases r with
      | @scr a vs ds e r => exact ⟨a, vs, rfl, hK ▸ SqL.le e ok1.fok.sub, q1 w1 _ H1 (.refl _) ok1 (itOk_enum hK e r)⟩⟩
theorem zip_none {vs ws : List V} {ds es : List D} {w : Wd} {i : Nat} (r : Reps G w vs ds) (r' : Reps G w ws es) (hn : (zipL ds es)[i]? = none) : vs.length ≤ i ∨ ws.length ≤ i := by
  have := List.getElem?_eq_none_iff.mp hn
  unfold zipL at this
  rw [List.length_zipWith] at this
  rw [r.length, r'.length]
  omega
theorem itOk_zip (hK : G.K = X.K) {w : Wd} {a b : Addr} {vs ws : List V} {ds es : List D} (e : SqL G.K w.F a vs) (e' : SqL G.K w.F b ws) (r : Reps G w vs ds) (r' : Reps G w ws es) : ItOk G w (Itz X.K a b) (zipL ds es) := by
  intro w1 S H le fok i
  have q : SqL X.K H a vs := hK ▸ SqL.le (SqL.le e le.f) fok.sub
  have q' : SqL X.K H b ws := hK ▸ SqL.le (SqL.le e' le.f) fok.sub
  refine ⟨fun d hd => ?_, fun hn => ⟨vs, ws, q, q', zip_none r r' hn⟩⟩
  obtain ⟨x, y, h1, h1', rfl⟩ := zipL_get hd
  obtain ⟨x', h2, h3⟩ := r.get h1
  obtain ⟨y', h2', h3'⟩ := r'.get h1'
  refine ⟨⟨vs, ws, x', y', q, q', h2, h2'⟩, fun v H' ⟨T, x2, y2, hv, hT, hH, hx, hy⟩ => ?_⟩
  have := hx vs q
  rw [h2] at this
  cases this
  have := hy ws q'
  rw [h2'] at this
  cases this
  obtain ⟨f2, n2⟩ := fok.alloc hT (.tup [x', y'])
  subst hH
  subst hv
  exact ⟨_, n2, f2, .tup (.inl (.inl upd_same)) (.cons ((h3.mono le).mono n2.le) (.cons ((h3'.mono le).mono n2.le) .nil))⟩
theorem itOk_zipT (hK : G.K = X.K) {w : Wd} {a b : Addr} {vs ws : List V} {ds es : List D} (e : SqT G.K w.F a vs) (e' : SqT G.K w.F b ws) (r : Reps G w vs ds) (r' : Reps G w ws es) : ItOk G w (ItzT X.K a b) (zipL ds es) := by
  intro w1 S H le fok i
  have q : SqT X.K H a vs := hK ▸ SqT.le (SqT.le e le.f) fok.sub
  have q' : SqT X.K H b ws := hK ▸ SqT.le (SqT.le e' le.f) fok.sub
  refine ⟨fun d hd => ?_, fun hn => ⟨vs, ws, q, q', zip_none r r' hn⟩⟩
  obtain ⟨x, y, h1, h1', rfl⟩ := zipL_get hd
  obtain ⟨x', h2, h3⟩ := r.get h1
  obtain ⟨y', h2', h3'⟩ := r'.get h1'
  refine ⟨⟨vs, ws, x', y', q, q', h2, h2'⟩, fun v H' ⟨T, x2, y2, hv, hT, hH, hx, hy⟩ => ?_⟩
  have := hx vs q
  rw [h2] at this
  cases this
  have := hy ws q'
  rw [h2'] at this
  cases this
  obtain ⟨f2, n2⟩ := fok.alloc hT (.tup [x', y'])
  subst hH
  subst hv
  exact ⟨_, n2, f2, .tup (.inl (.inl upd_same)) (.cons ((h3.mono le).mono n2.le) (.cons ((h3'.mono le).mono n2.le) .nil))⟩
def itZip (f : DA) : DA := fun s => (f s).bind fun ds s1 => match ds with
  | [.lst xs, .lst ys] => .ok (zipL xs ys) s1
  | [.tup xs, .tup ys] => .ok (zipL xs ys) s1
  | _ => .stuck
theorem pdi_zip (hK : G.K = X.K) {e e2 : Expr} {fa : DA} {p pos tpos : Pos} {elts : List Expr} {kk : Nat} (hg : Gl X "zip") (hm : X.mg "zip" = none) (ha : PDA G W X [e, e2] fa)
    (hs : starEach [e, e2] X.env = (false, eval e X.env) :: starEach [e2] X.env := by rfl) (hpl : (backTo pos (starEach [e2] X.env)).any (·.1) = false := by rfl) :
    PDI G W X (.Tuple elts kk tpos) (.Call (.Name "zip" p) [e, e2] [] pos) (itZip fa) :=
  (pi_zipA hg hm ha hs hpl).imp fun σ H R ⟨κ, w, s, ok, q⟩ => ⟨κ, w, s, ok, (PostG.bindI q).imp fun v H1 ⟨d, s1, w1, le, ok1, r1, q1⟩ => by
    match d, q1 with
    | [.lst xs, .lst ys], q1 =>
      obtain ⟨v, v', rfl, r, r'⟩ := r1.two
      cases r with
      | @lst a vs ds e r =>
        cases r' with
        | @lst b ws es e' r' =>
          have e1 : SqL G.K w1.F a vs := .inl (.inl e)
          have e2 : SqL G.K w1.F b ws := .inl (.inl e')
          exact ⟨a, b, vs, ws, rfl, .inl ⟨hK ▸ SqL.le e1 ok1.fok.sub, hK ▸ SqL.le e2 ok1.fok.sub, q1 w1 _ H1 (.refl _) ok1 (itOk_zip hK e1 e2 r r')⟩⟩
    | [.tup xs, .tup ys], q1 =>
      obtain ⟨v, v', rfl, r, r'⟩ := r1.two
      cases r with
      | @tup a vs ds e r =>
        cases r' with
        | @tup b ws es e' r' =>
          exact ⟨a, b, vs, ws, rfl, .inr ⟨hK ▸ SqT.le e ok1.fok.sub, hK ▸ SqT.le e' ok1.fok.sub, q1 w1 _ H1 (.refl _) ok1 (itOk_zipT hK e e' r r')⟩⟩⟩
/-! ### x.append(e) of an own list; x += e -/
/-- the list at an own slot -/
theorem own_list {κ : Bs} {w : Wd} {s : DS} {σ : L2.St} {H : Hp} {i : Nat} {xs : List D} (ok : Ok G κ w s σ H) (e : s.sl[i]? = some (.ol xs)) : ∃ a vs, σ[i]? = some (some (.ref a)) ∧ H a = some (.lst vs) ∧ Reps G w vs xs := by
  obtain ⟨a, h1, ⟨vs, h2, h3⟩, _⟩ := ok.own i _ e rfl
  exact ⟨a, vs, h1, h2, h3⟩
def sApp (i : Nat) (fa : DA) : DStm := fun s => match s.sl[i]? with
  | some (.ol _) => (fa s).bind fun ds s1 => match ds, s1.sl[i]? with
    | [d], some (.ol xs) => if xs.length < 1000000 then .ok .nx ⟨s1.sl.set i (.ol (xs ++ [d])), s1.st⟩ else .stuck
    | _, _ => .stuck
  | _ => .stuck
theorem app_of {i : Nat} {fa : DA} {N : Ends} {σ : L2.St} {H : Hp} (h : tDS G W (sApp i fa) N σ H) : tDrop (tBM X.K "list" rAppend (tVar i) (tDA G W fa)) N σ H := by
  obtain ⟨κ, w, s, ok, q⟩ := h
  unfold sApp at q
  cases e : s.sl[i]? with
  | none => rw [e] at q; exact q.elim
  | some y =>
    rw [e] at q
    cases y with
    | ol xs0 =>
      obtain ⟨a, vs, h1, h2, h3⟩ := own_list ok e
      refine ⟨.ref a, h1, .inl ⟨rfl, vs, .inl (.inl h2)⟩, κ, w, s, ok, (PostG.bindS q).imp fun v H1 ⟨d, s1, w1, le, ok1, r1, q1⟩ => ?_⟩
      match d, q1 with
      | [d], q1 =>
        cases e1 : s1.sl[i]? with
        | none => rw [e1] at q1; exact q1.elim
        | some z =>
          rw [e1] at q1
          cases z with
          | ol xs =>
            replace q1 : PostS G W κ w1 (if xs.length < 1000000 then .ok .nx ⟨s1.sl.set i (.ol (xs ++ [d])), s1.st⟩ else .stuck) N := q1
            split at q1
            · rename_i c
              obtain ⟨a', vs', g1, g2, g3⟩ := own_list ok1 e1
              rw [h1] at g1
              cases g1
              obtain ⟨y, rfl, ry⟩ := r1.one
              refine ⟨a, vs', y, rfl, rfl, g2, by rw [g3.length, sizeLine_eq]; omega, ?_⟩
              exact q1 w1 σ _ (.refl _) (ok1.mut e1 rfl rfl h1 ⟨_, upd_same, g3.append (.cons ry .nil)⟩ fun _ _ z => nomatch z)
            · exact q1.elim
          | _ => exact q1.elim
      | [], q1 => cases e1 : s1.sl[i]? <;> exact q1.elim
      | _ :: _ :: _, q1 => cases e1 : s1.sl[i]? <;> exact q1.elim
    | _ => exact q.elim
theorem pds_append {i : Nat} {x : Str} {p apos cpos pos : Pos} {e : Expr} {fa : DA} (ho : PE X (.Name x p) (tVar i)) (ha : PDA G W X [e] fa)
    (hbase : attributeBase (.Name x p) "append" X.env (eval (.Name x p) X.env) = eval (.Name x p) X.env := by rfl)
    (hfew : ((backTo cpos (starEach [e] X.env)).all (fun x => !x.1) && (backToKw cpos (keywordEach [] X.env)).all (fun x => x.1.isSome)
      && decide ([e].length + ([] : List Keyword).length + (if ([] : List Keyword).isEmpty then 0 else 1) < 30)) = true := by rfl)
    (hline : (apos.endLine == cpos.line) = true := by rfl) (hs : starEach [e] X.env = (false, eval e X.env) :: starEach [] X.env := by rfl) (hplain : (backTo cpos (starEach [] X.env)).any (·.1) = false := by rfl)
    (hsw : swapsWith (.Call (.Attribute (.Name x p) "append" apos) [e] [] cpos) none pos.line X.env = pure false := by rfl) : PDS G W X (.Expr (.Call (.Attribute (.Name x p) "append" apos) [e] [] cpos) pos) (sApp i fa) :=
  (ps_expr (pe_bm PySem.F.plainAttrs_list PySem.F.slot_list_append PySem.F.type_list_append mt_append ho ha hbase hfew hline hs hplain) hsw).imp fun N σ H q => app_of q
/-- x += e of ints -/
def sAug (i : Nat) (o : Int → Int → Int) (f : DE) : DStm := fun s => match s.sl[i]? with
  | some (.val (.int a)) => (f s).bind fun d s1 => match d with
    | .int b => .ok .nx ⟨s1.sl.set i (.val (.int (o a b))), s1.st⟩
    | _ => .stuck
  | _ => .stuck
theorem pds_aug {i : Nat} {x : Str} {e : Expr} {f : DE} {op : Operator} {o : Int → Int → Int} {pos pos' : Pos} (hN : X.N.Nodup) (hi : X.N[i]? = some x) (hx : Loc X.env.scope x) (he : PD G W X e f) (ho : PIp X op (ipI o))
    (hf : X.fn x = true ∨ X.env.scope.names.lookup x = some .local := by first | exact .inl rfl | exact .inr rfl | assumption) : PDS G W X (.AugAssign (.Name x pos') op e pos) (sAug i o f) :=
  (ps_aug hN hi hx he ho hf).imp fun N σ H ⟨κ, w, s, ok, q⟩ => by
    unfold sAug at q
    cases e : s.sl[i]? with
    | none => rw [e] at q; exact q.elim
    | some y =>
      rw [e] at q
      cases y with
      | val d =>
        cases d with
        | int a =>
          obtain ⟨v, h1, h2⟩ := ok.val i _ e
          cases h2
          refine ⟨.int a, h1, κ, w, s, ok, (PostG.bindS q).imp fun v H1 ⟨d, s1, w1, le, ok1, r1, q1⟩ => ?_⟩
          cases r1 with
          | int b => exact ⟨a, b, rfl, rfl, q1 w1 _ H1 (.refl _) (ok1.setVal (.int _) i)⟩
          | _ => exact q1.elim
        | _ => exact q.elim
      | _ => exact q.elim
/-- a < b < c -/
def eChain (o o' : D → D → Option D) (fa fb fc : DE) : DE := fun s => (fa s).bind fun x s1 => (fb s1).bind fun y s2 => match o x y with
  | some (.bl true) => (fc s2).bind fun z s3 => match o' y z with
    | some d => .ok d s3
    | none => .stuck
  | some (.bl false) => .ok (.bl false) s2
  | _ => .stuck
theorem op2b {r : R2} {o : D → D → Option D} (hr : ∀ (κ : Bs) (w : Wd) (s : DS) (σ : L2.St) (H : Hp) (x y : V) (dx dy d : D) (Q : VK), Ok G κ w s σ H → Rep G w x dx → Rep G w y dy → o dx dy = some d → (∀ w' v H', w.le w' → Ok G κ w' s σ H' → Rep G w' v d → Q v H') → r x y H Q) :
    ∀ (κ : Bs) (w : Wd) (s : DS) (σ : L2.St) (H : Hp) (x y : V) (dx dy d : D) (Q : VK), Ok G κ w s σ H → Rep G w x dx → Rep G w y dy → o dx dy = some d → (∀ w' v H', w.le w' → Ok G κ w' s σ H' → Rep G w' v d → Q v H') → r x y H Q := hr
theorem pd_chain {op op' : CmpOp} {o o' : D → D → Option D} {a b c : Expr} {fa fb fc : DE} {pos : Pos} (ho : OpD G X (compareOp op) o) (ho' : OpD G X (compareOp op') o') (ha : PD G W X a fa) (hb : PD G W X b fb) (hc : PD G W X c fc)
    (hp : ∀ {r r' : R2} {ta tb tc : TE}, OpR X (compareOp op) r → OpR X (compareOp op') r' → PE X a ta → PE X b tb → PE X c tc → PE X (.Compare a [op, op'] [b, c] pos) (tChain r r' ta tb tc)) : PD G W X (.Compare a [op, op'] [b, c] pos) (eChain o o' fa fb fc) := by
  obtain ⟨r, h1, h2⟩ := ho
  obtain ⟨r', h1', h2'⟩ := ho'
  refine (hp h1 h1' ha hb hc).imp fun σ H Q ⟨κ, w, s, ok, q⟩ => ⟨κ, w, s, ok, (PostG.bind q).imp fun v H1 ⟨d, s1, w1, le, ok1, r1, q1⟩ => ⟨κ, w1, s1, ok1, (PostG.bind q1).imp fun v2 H2 ⟨d2, s2, w2, le2, ok2, r2, q2⟩ => ?_⟩⟩
  cases e : o d d2 with
  | none => rw [e] at q2; exact q2.elim
  | some z =>
    rw [e] at q2
    refine h2 κ w2 s2 σ H2 v v2 d d2 z _ ok2 (r1.mono le2) r2 e fun w3 v3 H3 l3 o3 r3 => ?_
    cases r3 with
    | bl k =>
      refine ⟨k, rfl, ?_⟩
      cases k with
      | false => exact q2 w3 _ H3 l3 o3 (.bl false)
      | true =>
        refine ⟨κ, w3, s2, o3, (PostG.bind (PostG.mono l3 q2)).imp fun v4 H4 ⟨d4, s4, w4, le4, ok4, r4, q4⟩ => ?_⟩
        cases e' : o' d2 d4 with
        | none => rw [e'] at q4; exact q4.elim
        | some z' => rw [e'] at q4; exact h2' κ w4 s4 σ H4 v2 v4 d2 d4 z' Q ok4 ((r2.mono l3).mono le4) r4 e' q4
    | _ => exact q2.elim
end
end DL
set_option maxRecDepth 100000
set_option maxHeartbeats 4000000
set_option autoImplicit false
namespace DL
open PySem PySem.Spec PyProof.Rows L2
section
variable {G : Gam} {W : WX} {X : Cx}
/-! ### a for over a list, a tuple, a text -/
theorem pi_any {tg l : Expr} {tl : TE} (hl : PE X l tl) : PI X tg l (fun σ H R => tl σ H fun x H1 => (∃ a, x = .ref a ∧ (∃ xs, SqL X.K H1 a xs) ∧ R (Itl X.K a) H1) ∨ (∃ a, x = .ref a ∧ (∃ xs, SqT X.K H1 a xs) ∧ R (Itt X.K a) H1) ∨ ∃ y, x = .str y ∧ R (Its y) H1) := by
  refine ⟨fun pins s σ H R I h => ?_⟩
  refine thn (hl.run pins s σ H _ I h) fun v s1 ⟨x, H1, I1, r1, q1⟩ => ?_
  rcases q1 with ⟨a, e, ⟨xs, hq⟩, q⟩ | ⟨a, e, ⟨xs, hq⟩, q⟩ | ⟨y, e, q⟩
  · subst e
    cases r1
    obtain ⟨its, rv, p, hz⟩ := I1.list hq
    refine wpAny_pyIter_list p.isList ?_
    refine ⟨s1.heap.objs.size, [s1.heap.objs.size], _, _, H1, rfl, I1.kept (t' := s1.toks) fun b o e => Heap.get?_push_of_some _ e, turn_list a _, ⟨_, Heap.get?_push_size _ rfl, rfl, rfl⟩, fun b hb => ?_, q⟩
    have e : b = s1.heap.objs.size := by simpa using hb
    subst e
    exact I1.fpOk (Nat.le_refl _) (I1.hok.fresh (Nat.le_refl _))
  · subst e
    cases r1
    obtain ⟨its, rv, p, hz⟩ := I1.tuple hq
    refine wpAny_pyIter_tuple (show s1.heap.IsTuple a its.toArray from p) ?_
    refine ⟨s1.heap.objs.size, [s1.heap.objs.size], _, _, H1, rfl, I1.kept (t' := s1.toks) fun b o e => Heap.get?_push_of_some _ e, turn_tuple a _, ⟨_, Heap.get?_push_size _ rfl, rfl, rfl⟩, fun b hb => ?_, q⟩
    have e : b = s1.heap.objs.size := by simpa using hb
    subst e
    exact I1.fpOk (Nat.le_refl _) (I1.hok.fresh (Nat.le_refl _))
  · subst e
    obtain ⟨t, rfl⟩ := r1
    cases ha : y.cps.all (· < 128)
    · exact wpAny_pyIter_wide ha (pi_one (tk := s1.toks) I1 _ (turn_str _ y t "str_iterator" (.inr rfl)) ⟨_, Heap.get?_push_size _ rfl, rfl, rfl⟩ q)
    · exact wpAny_pyIter_ascii ha (pi_one (tk := s1.toks) I1 _ (turn_str _ y t "str_ascii_iterator" (.inl rfl)) ⟨_, Heap.get?_push_size _ rfl, rfl, rfl⟩ q)
theorem itOk_str {w : Wd} (l : Nm) : ItOk G w (Its (nm l)) (l.map fun c => D.str [c]) := by
  intro w1 S H le fok i
  refine ⟨fun d hd => ?_, fun hn => ?_⟩
  · rw [List.getElem?_map] at hd
    cases e : l[i]? with
    | none => rw [e] at hd; cases hd
    | some c =>
      rw [e] at hd
      cases hd
      have hc : (nm l).cps[i]? = some c := by simpa [nm] using e
      refine ⟨?_, fun x H' hy => ?_⟩
      · show i < (nm l).cps.size
        exact (Array.getElem?_eq_some_iff.mp hc).1
      · obtain ⟨hH, c', hc', hx⟩ := hy
        rw [hc] at hc'
        cases hc'
        subst hH
        subst hx
        exact ⟨w1, .refl _ _, fok, .str [c]⟩
  · show (nm l).cps.size ≤ i
    rw [List.getElem?_map] at hn
    cases e : l[i]? with
    | some c => rw [e] at hn; cases hn
    | none =>
      have := List.getElem?_eq_none_iff.mp e
      simpa [nm] using this
def itemsD (d : D) : Option (List D) := match d with
  | .lst xs => some xs
  | .scr xs => some xs
  | .tup xs => some xs
  | .str l => some (l.map fun c => .str [c])
  | _ => none
def itSeq (f : DE) : DA := fun s => (f s).bind fun d s1 => match itemsD d with
  | some xs => .ok xs s1
  | none => .stuck
theorem pdi_seq (hK : G.K = X.K) {tg e : Expr} {f : DE} (h : PD G W X e f) : PDI G W X tg e (itSeq f) :=
  (pi_any h).imp fun σ H R ⟨κ, w, s, ok, q⟩ => ⟨κ, w, s, ok, (PostG.bindI q).imp fun v H1 ⟨d, s1, w1, le, ok1, r1, q1⟩ => by
    cases r1 with
    | @lst a vs ds e r =>
      have e' : SqL G.K w1.F a vs := .inl (.inl e)
      exact .inl ⟨a, rfl, ⟨vs, hK ▸ SqL.le e' ok1.fok.sub⟩, q1 w1 _ H1 (.refl _) ok1 (itOk_list hK e' (fun _ _ _ _ _ => trivial) r fun _ _ => trivial)⟩
    | @scr a vs ds e r =>
      exact .inl ⟨a, rfl, ⟨vs, hK ▸ SqL.le e ok1.fok.sub⟩, q1 w1 _ H1 (.refl _) ok1 (itOk_list hK e (fun _ _ _ _ _ => trivial) r fun _ _ => trivial)⟩
    | @tup a vs ds e r => exact .inr (.inl ⟨a, rfl, ⟨vs, hK ▸ SqT.le e ok1.fok.sub⟩, q1 w1 _ H1 (.refl _) ok1 (itOk_tup hK e r)⟩)
    | str l => exact .inr (.inr ⟨nm l, rfl, q1 w1 _ H1 (.refl _) ok1 (itOk_str l)⟩)
    | _ => exact q1.elim⟩
/-! ### + and * in all -/
def lAdd : D → D → Option D := fun x y => match x, y with
  | .lst a, .lst b => if a.length + b.length ≤ 1000000 then some (.lst (a ++ b)) else none
  | _, _ => none
theorem opd_ladd : OpD G X (binaryOp .Add) lAdd := ⟨_, op_cat, fun κ w s σ H x y dx dy d Q ok rx ry e q => by
  cases rx with
  | @lst a vs ds e1 r1 =>
    cases ry with
    | @lst a2 vs2 ds2 e2 r2 =>
      have e : (if ds.length + ds2.length ≤ 1000000 then some (D.lst (ds ++ ds2)) else none) = some d := e
      split at e
      · cases e
        refine ⟨a, a2, vs, vs2, rfl, rfl, ok.fok.sub _ _ e1, ok.fok.sub _ _ e2, by rw [r1.length, r2.length, sizeLine_eq]; omega, fun p hp => ?_⟩
        obtain ⟨le2, ok2⟩ := ok.alloc hp (.lst (vs ++ vs2))
        exact q _ _ _ le2 ok2 (.lst upd_same ((r1.append r2).mono le2))
      · cases e
    | _ => exact nomatch e
  | _ => exact nomatch e⟩
def lMul : D → D → Option D := fun x y => match x, y with
  | .lst a, .int k => if -(2 ^ 63) ≤ k ∧ k < 2 ^ 63 ∧ a.length * k.toNat ≤ 1000000 then some (.lst (List.replicate k.toNat a).flatten) else none
  | _, _ => none
theorem opd_lmul : OpD G X (binaryOp .Mult) lMul := ⟨_, op_rep, fun κ w s σ H x y dx dy d Q ok rx ry e q => by
  cases rx with
  | @lst a vs ds e1 r1 =>
    cases ry with
    | int k =>
      have e : (if -(2 ^ 63) ≤ k ∧ k < 2 ^ 63 ∧ ds.length * k.toNat ≤ 1000000 then some (D.lst (List.replicate k.toNat ds).flatten) else none) = some d := e
      split at e
      · rename_i c
        cases e
        refine ⟨a, k, vs, rfl, rfl, ok.fok.sub _ _ e1, c.1, c.2.1, by rw [r1.length, sizeLine_eq]; omega, fun p hp => ?_⟩
        obtain ⟨le2, ok2⟩ := ok.alloc hp (.lst (List.replicate k.toNat vs).flatten)
        exact q _ _ _ le2 ok2 (.lst upd_same ((r1.rep _).mono le2))
      · cases e
    | _ => exact nomatch e
  | _ => exact nomatch e⟩
theorem OpD.or {f : Value → Value → Sem Value} {o o' : D → D → Option D} (h : OpD G X f o) (h' : OpD G X f o') : OpD G X f (fun x y => (o x y).orElse fun _ => o' x y) := by
  obtain ⟨r, h1, h2⟩ := h
  obtain ⟨r', h1', h2'⟩ := h'
  refine ⟨_, h1.or h1', fun κ w s σ H x y dx dy d Q ok rx ry e q => ?_⟩
  have e : ((o dx dy).orElse fun _ => o' dx dy) = some d := e
  cases e1 : o dx dy with
  | some z => rw [e1] at e; cases e; exact .inl (h2 κ w s σ H x y dx dy _ Q ok rx ry e1 q)
  | none => rw [e1] at e; exact .inr (h2' κ w s σ H x y dx dy d Q ok rx ry e q)
def dAdd : D → D → Option D := fun x y => match x, y with
  | .int i, .int j => some (.int (i + j))
  | x, y => (sAdd x y).orElse fun _ => lAdd x y
theorem OpD.congr {f : Value → Value → Sem Value} {o o' : D → D → Option D} (h : OpD G X f o) (e : ∀ x y, o' x y = o x y) : OpD G X f o' := by
  have : o' = o := by funext x y; exact e x y
  rw [this]; exact h
theorem opd_addA (hK : G.K = X.K) : OpD G X (binaryOp .Add) dAdd := (opd_add.or ((opd_sadd hK).or opd_ladd)).congr fun x y => by
  cases x <;> cases y <;> rfl
def dMul : D → D → Option D := fun x y => match x, y with
  | .int i, .int j => if mulOk i j then some (.int (i * j)) else none
  | x, y => lMul x y
theorem opd_mulA : OpD G X (binaryOp .Mult) dMul := (opd_mul.or opd_lmul).congr fun x y => by
  cases x <;> cases y <;> first
    | rfl
    | (rename_i i j
       show (if mulOk i j then some (D.int (i * j)) else none) = ((if mulOk i j then some (D.int (i * j)) else none).orElse fun _ => lMul (.int i) (.int j))
       split <;> rfl)
/-! ### a, b, c = x, y, z -/
def sPar3 (i j l : Nat) (f : DA) : DStm := fun s => (f s).bind fun ds s1 => match ds with
  | [x, y, z] => .ok .nx ⟨((s1.sl.set i (.val x)).set j (.val y)).set l (.val z), s1.st⟩
  | _ => .stuck
theorem pds_par3 {i j l : Nat} {x y z : Str} {a b c : Expr} {f : DA} {px py pz pt pos : Pos} {kt k2 : Nat} {pt2 : Pos} (hc : X.calm = true) (hN : X.N.Nodup) (hi : X.N[i]? = some x) (hj : X.N[j]? = some y) (hl : X.N[l]? = some z) (hij : i ≠ j) (hil : i ≠ l) (hjl : j ≠ l)
    (hx : X.env.scope.names.lookup x = some .local) (hy : X.env.scope.names.lookup y = some .local) (hz : X.env.scope.names.lookup z = some .local) (ha : PDA G W X [a, b, c] f)
    (hw : swappedStores [.Tuple [.Name x px, .Name y py, .Name z pz] kt pt] (.Tuple [a, b, c] k2 pt2) X.env = pure (some [x, y, z]))
    (hs : swapsWithSole [.Tuple [.Name x px, .Name y py, .Name z pz] kt pt] (.Tuple [a, b, c] k2 pt2) pos.line X.env = pure false := by rfl) :
    PDS G W X (.Assign [.Tuple [.Name x px, .Name y py, .Name z pz] kt pt] (.Tuple [a, b, c] k2 pt2) pos) (sPar3 i j l f) :=
  (ps_par3 hc hN hi hj hl hij hil hjl hx hy hz ha hw hs).imp fun N σ H ⟨κ, w, s, ok, q⟩ => ⟨κ, w, s, ok, (PostG.bindS q).imp fun v H1 ⟨d, s1, w1, le, ok1, r1, q1⟩ => by
    match d, q1, r1 with
    | [x, y, z], q1, .cons a (.cons b (.cons c .nil)) => exact ⟨_, _, _, rfl, q1 w1 _ H1 (.refl _) (((ok1.setVal a i).setVal b j).setVal c l)⟩
    | [], q1, _ => exact q1.elim
    | [_], q1, _ => exact q1.elim
    | [_, _], q1, _ => exact q1.elim
    | _ :: _ :: _ :: _ :: _, q1, _ => exact q1.elim⟩
/-! ### types as values -/
theorem pd_bltn {x : Str} {n : String} {pos : Pos} (hg : Gl X x) (hm : X.mg x = none) (hv : bootBuiltins x = some (.type n)) (hn : x ≠ "__name__" := by decide) (hd : (x == ("__debug__" : Str)) = false := by decide) : PD G W X (.Name x pos) (eC (.ty n)) :=
  pd_c (pe_bltn (v := .ty n) hg hm hv rfl hn hd) fun _ => .ty n
theorem pd_cls {x : Str} {c : String} {C : Addr} {pos : Pos} (hg : Gl X x) (hm : X.mg x = some (.ref C)) (hC : G.ct c = some C) (hd : (x == ("__debug__" : Str)) = false := by decide) : PD G W X (.Name x pos) (eC (.cls c)) :=
  pd_c (pe_glob (v := .ref C) hg hm rfl hd) fun _ => .cls hC
/-! ### slices of tuples and texts, xs[::-1] -/
def eSlT (f : DE) (l h : DOp) : DE := fun s => (f s).bind fun d s1 => (l s1).bind fun lo s2 => (h s2).bind fun hi s3 => match d with
  | .tup xs => if (cutD xs lo hi).length ≠ xs.length then .ok (.tup (cutD xs lo hi)) s3 else .stuck
  | _ => .stuck
theorem cut_len {w : Wd} {vs : List V} {ds : List D} (r : Reps G w vs ds) (lo hi : Option Int) : (cutV vs lo hi).length = (cutD ds lo hi).length := (r.cut lo hi).length
theorem pd_slT (hK : G.K = X.K) {e : Expr} {lo hi : Option Expr} {f : DE} {l h : DOp} {p2 pos : Pos} (he : PD G W X e f) (hl : PO X lo (tDO G W l)) (hh : PO X hi (tDO G W h)) : PD G W X (.Subscript e (.Slice lo hi none p2) pos) (eSlT f l h) :=
  (pe_slice sl_tup he hl hh).imp fun σ H Q ⟨κ, w, s, ok, q⟩ => ⟨κ, w, s, ok, (PostG.bind q).imp fun v H1 ⟨d, s1, w1, le, ok1, r1, q1⟩ => ⟨κ, w1, s1, ok1, (PostG.bind q1).imp fun v2 H2 ⟨d2, s2, w2, le2, ok2, r2, q2⟩ =>
    ⟨κ, w2, s2, ok2, (PostG.bind q2).imp fun v3 H3 ⟨d3, s3, w3, le3, ok3, r3, q3⟩ => by
      subst r2
      subst r3
      cases r1 with
      | @tup a vs ds e r =>
        replace q3 : PostG G W (Rep G) κ w3 σ (if (cutD ds v2 v3).length ≠ ds.length then .ok (.tup (cutD ds v2 v3)) s3 else .stuck) Q := q3
        split at q3
        · rename_i c
          have rr := (r.mono le2).mono le3
          refine ⟨a, vs, rfl, hK ▸ SqT.le (SqT.le (SqT.le e le2.f) le3.f) ok3.fok.sub, ?_, fun p hp => ?_⟩
          · intro z
            apply c
            rw [← cut_len rr, ← rr.length]
            unfold cutV
            rw [z.1, z.2]
            simp
          · obtain ⟨le4, ok4⟩ := ok3.alloc hp (.tup (cutV vs v2 v3))
            exact q3 _ _ _ le4 ok4 (.tup (.inl (.inl upd_same)) ((rr.cut v2 v3).mono le4))
        · exact q3.elim
      | _ => exact q3.elim⟩⟩⟩
/-- a slice of a list or of a tuple -/
def slD (d : D) (lo hi : Option Int) : Option D := match d with
  | .lst xs => some (.lst (cutD xs lo hi))
  | .scr xs => some (.lst (cutD xs lo hi))
  | .tup xs => if (cutD xs lo hi).length ≠ xs.length then some (.tup (cutD xs lo hi)) else none
  | _ => none
def eSlA (f : DE) (l h : DOp) : DE := fun s => (f s).bind fun d s1 => (l s1).bind fun lo s2 => (h s2).bind fun hi s3 => match slD d lo hi with
  | some x => .ok x s3
  | none => .stuck
theorem pd_slA (hK : G.K = X.K) {e : Expr} {lo hi : Option Expr} {f : DE} {l h : DOp} {p2 pos : Pos} (he : PD G W X e f) (hl : PO X lo (tDO G W l)) (hh : PO X hi (tDO G W h)) : PD G W X (.Subscript e (.Slice lo hi none p2) pos) (eSlA f l h) :=
  (pe_slice (sl_list.or sl_tup) he hl hh).imp fun σ H Q ⟨κ, w, s, ok, q⟩ => ⟨κ, w, s, ok, (PostG.bind q).imp fun v H1 ⟨d, s1, w1, le, ok1, r1, q1⟩ => ⟨κ, w1, s1, ok1, (PostG.bind q1).imp fun v2 H2 ⟨d2, s2, w2, le2, ok2, r2, q2⟩ =>
    ⟨κ, w2, s2, ok2, (PostG.bind q2).imp fun v3 H3 ⟨d3, s3, w3, le3, ok3, r3, q3⟩ => by
      subst r2
      subst r3
      cases r1 with
      | @lst a vs ds e r =>
        have e := le3.f _ _ (le2.f _ _ e)
        refine .inl ⟨a, vs, rfl, .inl (.inl (ok3.fok.sub _ _ e)), fun p hp => ?_⟩
        obtain ⟨le4, ok4⟩ := ok3.alloc hp (.lst (cutV vs v2 v3))
        exact q3 _ _ _ le4 ok4 (.lst upd_same ((((r.mono le2).mono le3).cut v2 v3).mono le4))
      | @scr a vs ds e r =>
        refine .inl ⟨a, vs, rfl, hK ▸ SqL.le (SqL.le (SqL.le e le2.f) le3.f) ok3.fok.sub, fun p hp => ?_⟩
        obtain ⟨le4, ok4⟩ := ok3.alloc hp (.lst (cutV vs v2 v3))
        exact q3 _ _ _ le4 ok4 (.lst upd_same ((((r.mono le2).mono le3).cut v2 v3).mono le4))
      | @tup a vs ds e r =>
        right
        have rr := (r.mono le2).mono le3
        cases e4 : slD (.tup ds) v2 v3 with
        | none => rw [e4] at q3; exact q3.elim
        | some x =>
          rw [e4] at q3
          have e4 : (if (cutD ds v2 v3).length ≠ ds.length then some (D.tup (cutD ds v2 v3)) else none) = some x := e4
          split at e4
          · rename_i c
            cases e4
            refine ⟨a, vs, rfl, hK ▸ SqT.le (SqT.le (SqT.le e le2.f) le3.f) ok3.fok.sub, ?_, fun p hp => ?_⟩
            · intro z
              apply c
              rw [← cut_len rr, ← rr.length]
              unfold cutV
              rw [z.1, z.2]
              simp
            · obtain ⟨le4, ok4⟩ := ok3.alloc hp (.tup (cutV vs v2 v3))
              exact q3 _ _ _ le4 ok4 (.tup (.inl (.inl upd_same)) ((rr.cut v2 v3).mono le4))
          · cases e4
      | _ => exact q3.elim⟩⟩⟩
/-- xs[::-1] of a list: a new list -/
def aRev (f : DE) : DA := fun s => (f s).bind fun d s1 => match d with
  | .lst xs => .ok xs.reverse s1
  | .scr xs => .ok xs.reverse s1
  | _ => .stuck
theorem Reps.reverse {w : Wd} : ∀ {vs : List V} {ds : List D}, Reps G w vs ds → Reps G w vs.reverse ds.reverse
  | _, _, .nil => .nil
  | _, _, .cons a b => by
    rw [List.reverse_cons, List.reverse_cons]
    exact (Reps.reverse b).append (.cons a .nil)
theorem pdo_rev (hK : G.K = X.K) {e : Expr} {f : DE} {k : Nat} {p1 p2 p3 pos : Pos} (he : PD G W X e f) : PDo G W X (.Subscript e (.Slice none none (some (.UnaryOp .USub (.Constant (.int 1) k p1) p2)) p3) pos) (aRev f) :=
  (pe_revL he).imp fun σ H Q ⟨κ, w, s, ok, q⟩ => ⟨κ, w, s, ok, (PostG.bindO q).imp fun v H1 ⟨d, s1, w1, le, ok1, r1, q1⟩ => by
    cases r1 with
    | @lst a vs ds e r => exact ⟨a, vs, rfl, .inl (.inl (ok1.fok.sub _ _ e)), fun p hp => q1 w1 p _ _ (.refl _) (ok1.fresh hp _) (ok1.apart hp) r.reverse⟩
    | @scr a vs ds e r => exact ⟨a, vs, rfl, hK ▸ SqL.le e ok1.fok.sub, fun p hp => q1 w1 p _ _ (.refl _) (ok1.fresh hp _) (ok1.apart hp) r.reverse⟩
    | _ => exact q1.elim⟩
/-! ### the law's end -/
def spLaw (K : PySem.W.Frag) : Sp := fun vs H Q _ => ∃ (a : Addr) (ns : List Int), vs = [.ref a] ∧ SqL K H a (ns.map V.int) ∧ ns.length ≤ 63 ∧ ∀ H', Q (.bl true) H'
theorem law_end {P : Program} {w0 : World} {mg : Str → Option Value} {base : Heap} {k : Nat} {f : Addr} {fd : FuncData} {ps : List Str} {g : DFn} (F : FnOk P w0 G.K mg base (L2.CX P w0) k f fd ps (spG G 1 g))
    (h : ∀ ns : List Int, ns.length ≤ 63 → ∃ S, g [.scr (ns.map D.int)] [] = .ok (.bl true) S) : FnOk P w0 G.K mg base (L2.CX P w0) k f fd ps (spLaw G.K) :=
  F.imp fun vs H Q E ⟨a, ns, e, hS, hl, q⟩ => by
    obtain ⟨S, hg⟩ := h ns hl
    subst e
    refine ⟨rfl, ⟨H, []⟩, [], [.scr (ns.map D.int)], ⟨fun _ _ e => e, rfl, fun n a c e => by simp at e, List.nodup_nil, fun a ha => by simp at ha⟩, .cons (.scr hS (Reps.of_ints ns)) .nil, ?_⟩
    rw [hg]
    intro w' v H' nx f r
    cases r
    exact q H'
theorem noCX {P : Program} {w : World} : ∀ (H : Hp) (s : Shared) (e : Value) (s' : Shared), L2.CX P w [] H s (fun _ _ _ => False) e s' → False := fun H s e s' h => by
  obtain ⟨_, _, _, _, _, _, _, _, _, _, _, _, z⟩ := h
  exact z
end
end DL
set_option maxRecDepth 100000
set_option maxHeartbeats 4000000
set_option autoImplicit false
namespace DL
open PySem PySem.Spec PyProof.Rows L2
section
variable {G : Gam} {W : WX} {X : Cx}
theorem callD1 {k : Nat} {f : Addr} {fd : FuncData} {ps : List Str} {n : Nat} {g : DFn} {pins : List (Addr × Obj)} {sh : Shared} {κ : Bs} {w : Wd} {s : DS} {σ : L2.St} {H : Hp} {vs : List V} {ds : List D} {us : List Value} {Q : VK}
    (F : FnOk X.prog X.w X.K X.mg X.base (L2.CX X.prog X.w) k f fd ps (spG G n g)) (hr : Room (k + 1) X.A) (hb : Binds X.K fd ps []) (tk : Takes X W) (I : Inv X pins σ H sh) (ok : Ok G κ w s σ H) (rs : Reps G w vs ds) (r : Vals vs us) (hn : ds.length = n)
    (q : PostG G W (Rep G) κ w σ (lift s (g ds s.st)) Q) : wpAny (model X.prog X.w) X.A.in1 (call (.ref f) us) (EP X pins σ Q) X.xe sh := by
  have h : spG G n g vs H Q (WE W σ) := ⟨by rw [rs.length]; exact hn, w, s.st, ds, ok.fok, rs, postF_of ok q⟩
  have hl : us.length = ps.length := by rw [← r.length]; exact F.len _ _ _ _ h
  have hbb := hb sh us I.kIn (by rw [List.append_nil]; exact hl)
  rw [List.append_nil] at hbb
  refine wpAny_call (codeAny_mono (F.run X.A.in1 X.stack sh H ⟨us, []⟩ us vs Q (WE W σ) hr.in1 I.env0.in1 hbb r h) fun r s' hq => ?_)
  cases r with
  | error e => exact passAt tk σ pins H sh e s' I hq
  | ok fl =>
    cases fl with
    | ret u => exact I.after hq
    | next => exact False.elim hq
    | brk => exact False.elim hq
    | cont => exact False.elim hq
/-- a built-in special method of an instance of an own class -/
theorem ifBound_B {M : Model} {A : Around} {E : Value → Shared → Prop} {s : Shared} {K : PySem.W.Frag} {x C : Addr} {ox : Obj} {od : Option Obj} {name : Str} {id : String} {args : List Value} {Q : Option Value → Shared → Prop} (Xk : K.In s.heap) (I : PySem.W.InstAt s.heap x ox C od)
    (hs : PySem.W.findIn K (.ref C) name = some (some (.builtin id))) (hb : ∀ self, bindSpecial (.builtin id) self = pure (.builtin id, [self]))
    (h : wpAny M A (call (.builtin id) (.ref x :: args)) (fun v => Q (some v)) E s) : wpAny M A (callSpecialIfBound? (.ref x) name args) Q E s := by
  simp only [callSpecialIfBound?, bindSpecialIfBound?]
  refine wpAny_holding (wpAny_bind (wpAny_bind (wpAny_bind (I.type.here ((PySem.W.looks_findIn Xk hs).here ?_)))))
  refine wpAny_bind (wpAny_askSetting (wpAny_ite ?_))
  have fin : wpAny M A (call (.builtin id) ([.ref x] ++ args) >>= fun v => pure (some v)) Q E s := wpAny_bind (wpAny_mono h (fun v s' h' => wpAny_pure h') fun _ _ h' => h')
  simp only [hb]
  split
  · exact wpAny_bind (wpAny_pure (wpAny_pure (by exact fin)))
  · exact wpAny_tryCatch (wpAny_bind (wpAny_pure (wpAny_pure (by exact fin))))
theorem ne_call {prog : Program} {w : World} {A : Around} {E : Value → Shared → Prop} {s : Shared} {K : PySem.W.Frag} {a C b : Addr} {ox : Obj} {od : Option Obj} {Q : Value → Shared → Prop} (Xk : K.In s.heap) (I : PySem.W.InstAt s.heap a ox C od) (hm : PySem.W.mroIn K C (.type "object") = some true)
    (h : wpAny (model prog w) A.in1 (callSpecialIfBound? (.ref a) "__eq__" [.ref b]) (fun r s' => ∃ b, r = some (.bool b) ∧ Q (.bool (!b)) s') E s) (hu : A.in1.units < cLine) : wpAny (model prog w) A (call (.builtin "object.__ne__") [.ref a, .ref b]) Q E s := by
  have L0 := I.type (M := model prog w)
  have L1 := PySem.W.looks_mroIn (M := model prog w) Xk hm
  refine wpAny_call (codeAny_call_builtin PySem.F.cmp_object.ne.plain PySem.F.cmpEntry_ne ?_)
  obtain ⟨hh, g, dr, t, os⟩ := s
  have hk := PySem.F.cmpKind_ne
  have hs := PySem.F.cmpSplit_ne
  have ha := PySem.F.cmpArgs_ne (.ref a) (.ref b)
  have fin : wpAny (model prog w) A.in1 (Builtin.«object.__ne__» ⟨[.ref a, .ref b], []⟩) (fun fin s' => match fin with | .done f => (match (.ok f : Result) with | .ok (.ret v) => Q v s' | .ok _ => False | .error e => E e s') | .again c' => c'.quiet = true ∧ codeAny (model prog w) A c' (fun r s' => match r with | .ok (.ret v) => Q v s' | .ok _ => False | .error e => E e s') s') (fun e s' => E e s') ⟨hh, g, dr, t, os⟩ := by
    unfold Builtin.«object.__ne__»
    rw [show slotArgs "__ne__" 1 ⟨[.ref a, .ref b], []⟩ = pure (.ref a, [.ref b]) from rfl]
    refine wpAny_bind (wpAny_pure (wpAny_bind (wpAny_cRoomFor hu (wpAny_bind (wpAny_mono h (fun r s' hr => ?_) fun _ _ e => e)))))
    obtain ⟨b, rfl, q⟩ := hr
    exact wpAny_bind (wpAny_truthy_bool (wpAny_pure q))
  simp only [checkBuiltinCall, hk, hs]
  refine wpAny_bind ?_
  unfold isInstance
  repeat (first | exact fin | lk)
def negD (r : Res DS D) : Res DS D := match r with
  | .ok (.bl b) s => .ok (.bl (!b)) s
  | .exc x s => .exc x s
  | _ => .stuck
def ownNe (c : String) (g : DFn) : DO2 := fun x y s => negD (ownO c g x y s)
theorem negD_post {κ : Bs} {w : Wd} {σ : L2.St} {r : Res DS D} {Q : VK} (h : PostG G W (Rep G) κ w σ (negD r) Q) : PostG G W (Rep G) κ w σ r (fun v H => ∃ b, v = .bl b ∧ Q (.bl (!b)) H) := by
  cases r with
  | stuck => exact h
  | exc x s => exact h
  | ok d s =>
    cases d with
    | bl b =>
      intro w' v H' l o r
      cases r
      exact ⟨b, rfl, h w' _ H' l o (.bl _)⟩
    | _ => exact h.elim
theorem opx_ownNe {c : String} {C f : Addr} {k : Nat} {fd : FuncData} {ps : List Str} {g : DFn} (hC : G.ct c = some C) (hs : PySem.W.findIn X.K (.ref C) "__eq__" = some (some (.ref f))) (hf : PySem.W.isFn X.K (.ref f) = true)
    (hne : PySem.W.findIn X.K (.ref C) "__ne__" = some (some (.builtin "object.__ne__"))) (hob : PySem.W.mroIn X.K C (.type "object") = some true)
    (F : FnOk X.prog X.w X.K X.mg X.base (L2.CX X.prog X.w) k f fd ps (spG G 2 g)) (hr : Room (k + 1) X.A) (hb : Binds X.K fd ps []) (tk : Takes X W) : OpX G W X (compareOp .NotEq) (ownNe c g) := by
  intro pins sh σ H x y v u κ w s dx dy Q I rx ry ok rdx rdy q
  obtain ⟨a, b, C', dxa, dxb, fa, fb, rfl, rfl, hC', hH, hH', q⟩ := ownO_of ok rdx rdy (negD_post q)
  rw [hC] at hC'
  cases hC'
  cases rx
  cases ry
  obtain ⟨mA, J, _⟩ := ins_get I.hok hH
  obtain ⟨mB, J', _⟩ := ins_get I.hok hH'
  obtain ⟨od, J, _⟩ := J.look
  obtain ⟨od', J', _⟩ := J'.look
  have KX := I.kIn
  show wpAny (model X.prog X.w) X.A (richCompare .NotEq (.ref a) (.ref b)) _ _ _
  -- object.__ne__: __eq__, turned
  have one : wpAny (model X.prog X.w) X.A (tryCompare (.ref a) "__ne__" (.ref b)) (fun r s' => ∃ v, r = some v ∧ EP X pins σ Q v s') X.xe sh := by
    unfold tryCompare
    refine wpAny_bind (ifBound_B KX J hne PySem.F.cmp_object.ne.bind ?_)
    refine wpAny_mono (ne_call (Q := fun v s' => ∃ b, v = .bool b ∧ EP X pins σ Q v s') KX J hob ?_ hr.in1.units0) (fun v s' h => ?_) fun _ _ e => e
    case refine_1 =>
      have hc := callD1 (us := [.ref a, .ref b]) (vs := [.ref a, .ref b]) (ds := [dx, dy]) F hr hb tk I ok (.cons rdx (.cons rdy .nil)) (.cons rfl (.cons rfl .nil)) rfl q
      refine PySem.W.ifBound_K KX J hs hf (wpAny_mono hc (fun v s' h => ?_) fun _ _ e => e)
      obtain ⟨x, H', I', r, b, rfl, q'⟩ := h
      cases r
      exact ⟨b, rfl, !b, rfl, .bl (!b), H', I', rfl, q'⟩
    case refine_2 =>
      obtain ⟨b, rfl, h⟩ := h
      exact wpAny_pure ⟨_, rfl, h⟩
  unfold richCompare
  simp only [oneThing_ref]
  refine wpAny_holding (wpAny_bind (wpAny_cRoomFor hr.units0 ?_))
  refine wpAny_bind (J.type.here (wpAny_bind (J'.type.here ?_)))
  rw [if_neg (by simp)]
  refine wpAny_bind (wpAny_pure ?_)
  simp only [Bool.false_eq_true, if_false]
  refine wpAny_bind (wpAny_mono one (fun r s' z => ?_) fun _ _ e => e)
  obtain ⟨v, rfl, hq⟩ := z
  exact wpAny_pure hq
end
end DL
set_option maxRecDepth 100000
set_option maxHeartbeats 4000000
set_option autoImplicit false
namespace DL
open PySem PySem.Spec PyProof.Rows L2
/-- all that is asked of a class, in one -/
def clsB (K : PySem.W.Frag) (C : Addr) (fs : List Str) : Bool :=
  PySem.W.plainGet K C Str.empty && (PySem.W.hasDictIn K C && (PySem.W.plainOver K C && (PySem.W.makesIn K C && (PySem.W.keepIn K (.ref C) && (PySem.W.selfFirst K C &&
    ((PySem.W.findIn K (.ref C) "__setattr__" == some (some (.builtin "object.__setattr__"))) && ((PySem.W.findIn K (.ref C) "__ne__" == some (some (.builtin "object.__ne__"))) && ((PySem.W.mroIn K C (.type "object") == some true) &&
    ((PySem.W.findIn K (.ref C) "__class__" == some (some (.builtin "object.__class__"))) && ((PySem.W.specialIn K (.builtin "object.__class__") "__get__" == some (some (.builtin "getset_descriptor.__get__"))) && ((PySem.W.takesIn K (.builtin "object.__class__") == some true) &&
    (fs.all (fun f => PySem.W.findIn K (.ref C) f == some none) && tyNames.all fun b => (PySem.W.kitOne K (.ref C) (.type b) == some false) && (PySem.W.kitOne K (.type b) (.ref C) == some false)))))))))))))
structure ClsF (K : PySem.W.Frag) (C : Addr) (fs : List Str) : Prop where
  cl : Cls K C
  makes : PySem.W.makesIn K C = true
  kp : PySem.W.keepIn K (.ref C) = true
  sf : PySem.W.selfFirst K C = true
  ne : PySem.W.findIn K (.ref C) "__ne__" = some (some (.builtin "object.__ne__"))
  mo : PySem.W.mroIn K C (.type "object") = some true
  i1 : PySem.W.findIn K (.ref C) "__class__" = some (some (.builtin "object.__class__"))
  i2 : PySem.W.specialIn K (.builtin "object.__class__") "__get__" = some (some (.builtin "getset_descriptor.__get__"))
  i3 : PySem.W.takesIn K (.builtin "object.__class__") = some true
  na : ∀ f ∈ fs, NoAttr K C f
  bo : ∀ b ∈ tyNames, PySem.W.kitOne K (.ref C) (.type b) = some false ∧ PySem.W.kitOne K (.type b) (.ref C) = some false
theorem clsF {K : PySem.W.Frag} {C : Addr} {fs : List Str} (h : clsB K C fs = true) : ClsF K C fs := by
  unfold clsB at h
  simp only [Bool.and_eq_true, beq_iff_eq, List.all_eq_true] at h
  obtain ⟨h1, h2, h3, h4, h5, h6, h7, h8, h9, h10, h11, h12, h13, h14⟩ := h
  exact ⟨⟨h1, h2, h3, h7⟩, h4, h5, h6, h8, h9, h10, h11, h12, fun f hf => h13 f hf, fun b hb => h14 b hb⟩
/-- the own classes apart from one another -/
theorem isOk_of {G : Gam} {cs : List String} (h1 : ∀ c ∈ cs, ∃ C fs, G.ct c = some C ∧ ClsF G.K C fs) (h2 : ∀ c ∈ cs, ∀ c' ∈ cs, ∀ C C', G.ct c = some C → G.ct c' = some C' → PySem.W.kitOne G.K (.ref C) (.ref C') = some (c == c')) : IsOk G cs := by
  refine ⟨fun c hc C hC => ?_, fun c hc C hC => ?_, h2⟩
  · obtain ⟨C', fs, e, f⟩ := h1 c hc
    rw [hC] at e
    cases e
    exact ⟨f.cl, f.i1, f.i2, f.i3, f.mo⟩
  · obtain ⟨C', fs, e, f⟩ := h1 c hc
    rw [hC] at e
    cases e
    exact f.bo
theorem kit_self {K : PySem.W.Frag} {C : Addr} : PySem.W.kitOne K (.ref C) (.ref C) = some true := by
  unfold PySem.W.kitOne
  rw [if_pos (by simp)]
end DL
set_option maxRecDepth 100000
set_option maxHeartbeats 4000000
set_option autoImplicit false
namespace DL
open PySem PySem.Spec PyProof.Rows L2
/-! ### an own error whose __init__ says super().__init__(x); self.f = x -/
section
variable {P : Program} {W0 : World} {Ar : Around} {Er : Value → Shared → Prop} {hp : Heap} {gs : Array GenState} {dr : Drawn} {tk : Nat} {osS : OsState}
theorem call_mwV {cn cq : Str} {C NN u e t0 : Addr} {b1 b2 sbs : List Value} {hdc abs : Bool} {sns : List Str} {cl : Option Bool} {dd : Option Addr} {j0 j1 j2 j3 j5 : Option Value} {rest : List Value} {Q : Value → Shared → Prop}
    (hC : hp.get? C = some (excClassObj cn cq C NN b1 b2 hdc sns sbs abs cl dd j0 j1 j2 j3 j5 "ValueError.__new__")) (he : hp.get? e = some (HandSPX.excO C t0)) (hu : hp.get? u = some (PySem.W.kxs_mw "ValueError.__init__" e)) (hrest : rest.length ≤ sizeLine)
    (hq : ∀ h' t1, (∀ b o, b ≠ e → hp.get? b = some o → h'.get? b = some o) → h'.get? e = some (HandSPX.excO C t1) → Q .none ⟨h', gs, dr, tk, osS⟩) :
    wpAny (model P W0) Ar (call (.ref u) rest) Q Er ⟨hp, gs, dr, tk, osS⟩ := by
  refine wpAny_call (codeAny_of_tree ?_)
  show wpAny _ Ar.in1 (callAny (.ref u) ⟨rest, []⟩) _ _ _
  simp only [callAny]
  refine wpAny_bind (wpAny_load hu ?_)
  simp only [PySem.W.kxs_mw, show (Value.type "method-wrapper" == Value.type "method" || Value.type "method-wrapper" == Value.type "builtin_function_or_method" || Value.type "method-wrapper" == Value.type "method-wrapper") = true by decide, if_true]
  refine PySem.W.KFB.if_so (by decide) ?_
  refine wpAny_bind (PySem.W.check_bound_init F.excBase_ValueError.toExcCallFacts hC he rfl ?_)
  refine wpAny_bind (wpAny_pure (wpAny_pure ?_))
  refine ⟨Code.quiet_builtin _ (by decide +kernel), codeAny_builtin F.excBase_ValueError.initEntry ?_⟩
  rw [Around.under_plainId F.excBase_ValueError.init.plain _]
  wp_walk
  refine hq _ hp.objs.size (fun b o hb ho => ?_) ?_
  · rw [Heap.get?_update_other _ _ (Ne.symm hb)]
    exact Heap.get?_push_of_some _ ho
  · rw [Heap.get?_update_self _ (Heap.get?_push_of_some _ he) rfl]
    rfl
end
theorem eval_si (x : Str) (env : Env) (p0 p1 p2 p3 p4 : Pos) (hp : (p2.endLine == p4.line) = true) : eval (.Call (.Attribute (.Call (.Name "super" p0) [] [] p1) "__init__" p2) [.Name x p3] [] p4) env = (do
      let ov ← attributeBase (.Call (.Name "super" p0) [] [] p1) "__init__" env (eval (.Call (.Name "super" p0) [] [] p1) env)
      standAt p2.atName
      let (f, first) ← holding [ov] (getMethod ov "__init__" (do return (← importBound (.Call (.Name "super" p0) [] [] p1) env).getD true))
      callWith p4 f first (backTo p4 (starEach [.Name x p3] env)) []) := by
  have h : ∀ fm, methodCallPos fm (.Call (.Name "super" p0) [] [] p1) env p2 p4 = pure p4 := fun fm => by
    unfold methodCallPos
    rw [hp]
    simp
  show (do
      let ov ← attributeBase (.Call (.Name "super" p0) [] [] p1) "__init__" env (eval (.Call (.Name "super" p0) [] [] p1) env)
      standAt p2.atName
      let (f, first) ← holding [ov] (calleeOf true (.Call (.Name "super" p0) [] [] p1) env ov "__init__")
      let callPos ← methodCallPos true (.Call (.Name "super" p0) [] [] p1) env p2 p4
      callWith callPos f first (backTo p4 (starEach [.Name x p3] env)) []) = _
  rw [h]
  rfl
def spX (C : Addr) (f : Str) : Sp := fun vs H Q _ => ∃ (a : Addr) (y : V), vs = [.ref a, y] ∧ H a = some (exo a C none) ∧ ∀ dx, H dx = none → dx ≠ a → Q .non (upd (upd H dx (exd dx [(f, y)])) a (exo a C (some dx)))
/-- what the text and the linked part say of such a def -/
structure XIn (P : Program) (K : PySem.W.Frag) (mg : Str → Option Value) (C fI : Addr) (fd : FuncData) (slf x f : Str) : Prop where
  ex : ∃ (oc doc pm dV kV ct ccl cl : Value) (od an cdd cld : Option Addr) (osl ccs csl : Array (Option Value)) (cda cc : Addr) (name qual file : Str) (params : Arguments) (scope : Scope) (vs : Array Value) (tf : Tok) (ar : Arg) (p0 p1 p2 p3 p4 p5 p6 p7 p8 p9 : Pos),
    fd = PySem.W.fnX name qual params [.Expr (.Call (.Attribute (.Call (.Name "super" p0) [] [] p1) "__init__" p2) [.Name x p3] [] p4) p5, .Assign [.Attribute (.Name slf p6) f p7] (.Name x p8) p9] scope [("__class__", cc)] dV kV doc pm an (.ref cda) ct ∧
    K.lookup fI = some ⟨oc, od, .func fd, osl⟩ ∧ PySem.W.codeIn K (.ref cda) qual = true ∧ (params.posonlyargs ++ params.args).head? = some ar ∧ ar.arg = slf ∧
    K.lookup cda = some ⟨ccl, cdd, .fields vs, ccs⟩ ∧ vs[2]? = some (.str file tf) ∧ ((P.main.file : Str) == file) = true ∧ K.lookup cc = some ⟨cl, cld, .cell (some (.ref C)), csl⟩ ∧
    scope.names.lookup ("super" : Str) = some .globalImplicit ∧ scope.names.lookup ("__class__" : Str) = some .free ∧ scope.names.lookup slf = some .local ∧ scope.names.lookup x = some .local ∧ (∀ z ∈ scope.names, z.2 ≠ .cell) ∧ scope.kind = .function ∧ scope.isCoroutine = false ∧ scope.isGenerator = false ∧ (p2.endLine == p4.line) = true
  top : (P.main.scope.names.lookup ("super" : Str)).isSome = false
  sup : mg "super" = none
  self : PySem.W.mroIn K C (.ref C) = some true
  al : PySem.W.ks_superIn K C C "__init__" = some (some (.builtin "ValueError.__init__"))
  ve : PySem.W.subIn K (.ref C) (.type "ValueError") = some true
  any : PySem.W.nsIn K cStatics "thirdparty.any" = some none
  cls : OexC K C
  no : PySem.W.findIn K (.ref C) f = some none
  ds : (slf == ("__debug__" : Str)) = false
  dx : (x == ("__debug__" : Str)) = false
  sx : slf ≠ x
theorem x_ok {P : Program} {w0 : World} {K : PySem.W.Frag} {mg : Str → Option Value} {base : Heap} {CX : CXT} {C fI : Addr} {fd : FuncData} {slf x f : Str} (T : XIn P K mg C fI fd slf x f) : FnOk P w0 K mg base CX 1 fI fd [slf, x] (spX C f) := by
  obtain ⟨⟨oc, doc, pm, dV, kV, ct, ccl, cl, od, an, cdd, cld, osl, ccs, csl, cda, cc, name, qual, file, params, scope, vs, tf, ar, p0, p1, p2, p3, p4, p5, p6, p7, p8, p9, efd, lk, hcd, har, hars, lcd, hvs, hfile, lcc, ksup, kcls, kslf, kx, kcell, kk, kco, kgen, kpos⟩, htop, hsup, hself, hal, hve, hany, hcls, hno, hds, hdx, hsx⟩ := T
  subst efd
  refine ⟨fun vs H Q E ⟨a, y, e, _⟩ => by rw [e]; rfl, fun A outer s H args us vs' Q E hr e0 hb hv hsp => ?_⟩
  obtain ⟨a, y, rfl, ea, hq⟩ := hsp
  cases hv with
  | @cons _ u0 _ ur ra rest =>
  cases rest with
  | @cons _ u _ ur2 ry rest =>
  cases rest
  obtain rfl : u0 = Value.ref a := ra
  have KX : K.In s.heap := e0.mod.kin.keeps fun b o e => (e0.bs b o e).1
  have lim : s.heap.NoLimit := e0.mod.nolimit.keeps fun b o e => (e0.bs b o e).1
  obtain ⟨t0, hea⟩ := exo_at e0.hok ea
  obtain ⟨cn, cq, NS, b1, b2, sns, sbs, abs, col, dd, j0, j1, j2, j3, j5, hC, hbm⟩ := hcls.cls
  have hcl : PySem.W.clsIn K C = some { name := cn, bases := b1, mro := .ref C :: b2, ns := NS, qualname := cq, hasDict := true, slotNames := sns, subclasses := sbs, abstract := abs, collection := col, hasDel := false } := by unfold PySem.W.clsIn; rw [hC] <;> rfl
  refine ks_codeAny_call_defAt (binds := [(slf, .ref a), (x, u)]) hr.depth (KX _ _ lk) rfl lim (PySem.W.codeRec_of KX hcd) rfl hb kcell (fun z hz => ?_) (fun h0 hns hk0 => ?_) kco kgen kk
  · rcases List.mem_cons.mp hz with rfl | hz
    · exact kslf
    · rcases List.mem_cons.mp hz with rfl | hz
      · exact kx
      · cases hz
  have X0 : K.In h0 := KX.keeps hk0
  have ns_s : (fun y => ([(slf, Value.ref a), (x, u)] : List (Str × Value)).reverse.lookup y) slf = some (.ref a) := by
    have : (slf == x) = false := by simpa using hsx
    simp [List.lookup, this]
  have ns_x : (fun y => ([(slf, Value.ref a), (x, u)] : List (Str × Value)).reverse.lookup y) x = some u := by simp [List.lookup]
  have hea0 := hk0 _ _ hea
  have oC : s.heap.get? C = some _ := KX _ _ hC
  have ne_aC : a ≠ C := fun z => by
    rw [z, oC] at hea
    cases hea
  refine ks_wpAt_execs_cons (ks_wpAt_Expr_any (ks_wpAt_MethodCall ?_ (eval_si x _ p0 p1 p2 p3 p4 kpos)) (hi := by show (scope.kind == .module && _) = false; rw [kk]; rfl))
  refine ks_wpAt_super_base ksup kcls (by decide) rfl (X0 _ _ lk) rfl har rfl (X0 _ _ lcd) rfl hvs hfile htop ?_
  obtain ⟨mb, hb1, hb2⟩ := e0.mod.blt
  have bk : ∀ b o, base.get? b = some o → h0.get? b = some o := fun b o e => hk0 _ _ (e0.bs b o e).1
  refine PySem.W.ks_loadName_global kk ksup (Calls.loadGlobal_builtin (e0.mod.glob.keeps bk) hsup (hb1.keeps bk) ((hb2 _ (by decide)).trans PyProof.Rows.Boot.«super») ⟨rfl, ?_⟩)
  refine wpAny_loadName_free kk kcls (c := cc) rfl ⟨_, X0 _ _ lcc, rfl⟩ ?_
  rw [hars]
  refine wpAny_loadName_local kk kslf hns ns_s ?_
  refine ks_wpAny_isType_cls (X0 _ _ hC) rfl ⟨rfl, ?_⟩
  refine ks_wpAny_call_super (X0 _ _ hC) rfl hea0 rfl (fun c z => nomatch z) (PySem.W.looks_mroIn X0 hself) (fun h1 hso hk1 => ?_)
  have X1 : K.In h1 := X0.keeps hk1
  have hea1 := hk1 _ _ hea0
  have inst1 : PySem.W.InstAt h1 a _ C none := ⟨hea1, rfl, rfl, trivial⟩
  have hI : PySem.W.Looks (model P w0) h1 (isInstance (.ref a) (.type "ValueError")) true := inst1.type.andThen (PySem.W.looks_subIn X1 hve)
  have hmro : PySem.W.Looks (model P w0) h1 (mroOf (.ref C)) (.ref C :: b2) := (PySem.W.looks_clsIn X1 hcl).andThen .now
  have hal' : PySem.W.alongIn K "__init__" (((Value.ref C :: b2).dropWhile (· != .ref C)).drop 1) = some (some (.builtin "ValueError.__init__")) := by
    unfold PySem.W.ks_superIn at hal
    rw [hcl] at hal
    exact hal
  refine PySem.W.kxs_getMethod PySem.W.kxs_ValueError hso (PySem.W.looks_opaque X1 hany) hmro rfl X1 hal' hI ne_aC (by decide) ?_
  have hmw : (h1.push (PySem.W.kxs_mw "ValueError.__init__" a)).get? h1.objs.size = some (PySem.W.kxs_mw "ValueError.__init__" a) := Heap.get?_push_at rfl rfl
  have kp2 : ∀ b o, h1.get? b = some o → (h1.push (PySem.W.kxs_mw "ValueError.__init__" a)).get? b = some o := fun b o e => Heap.get?_push_of_some _ e
  have ns2 : (h1.push (PySem.W.kxs_mw "ValueError.__init__" a)).Ns s.heap.objs.size (fun y => ([(slf, Value.ref a), (x, u)] : List (Str × Value)).reverse.lookup y) := (hns.keeps hk1).keeps kp2
  refine PySem.W.kxs_callWith (i := "ValueError.__init__") (x := a) rfl ?_
  refine Calls.evalArgs_plain (Calls.spliced_cons (wpAny_Name (wpAny_loadName_local kk kx ns2 ns_x (Calls.spliced_nil ⟨hmw, ?_⟩)) hdx))
  refine call_mwV (X1.keeps kp2 _ _ hC) (kp2 _ _ hea1) hmw (by rw [sizeLine_eq]; show 1 ≤ _; decide) fun h3 t1 hk3 hea3 => ?_
  have lt0 : ∀ {b : Addr} {o : Obj}, s.heap.get? b = some o → b ≠ s.heap.objs.size := fun e => Nat.ne_of_lt (Heap.lt_size e)
  have kall : ∀ b o, b ≠ a → s.heap.get? b = some o → h3.get? b = some o := fun b o hb e => hk3 b o hb (kp2 _ _ (hk1 _ _ (hk0 _ _ e)))
  have ne_aL : s.heap.objs.size ≠ a := fun z => lt0 hea z.symm
  have X3 : K.In h3 := fun b o e => hk3 b o (fun z => by
    have := (e0.bs b o (e0.mod.kin b o e)).2
    rw [z, ea] at this
    cases this) (kp2 _ _ (X1 b o e))
  have ns3 : h3.Ns s.heap.objs.size (fun y => ([(slf, Value.ref a), (x, u)] : List (Str × Value)).reverse.lookup y) := by
    obtain ⟨ob, es, ep, ho, r⟩ := ns2
    exact ⟨ob, es, ep, hk3 _ _ ne_aL ho, r⟩
  show PySem.wpAt _ _ _ (execs [_] _) _ _ _
  refine ks_wpAt_execs_cons (PySem.wpAt_of_wpAny (plainObj_wpAny_Assign_Attribute (wpAny_Name (wpAny_loadName_local kk kx ns3 ns_x (wpAny_Name (wpAny_loadName_local kk kslf ns3 ns_s ?_) hds)) hdx)))
  refine PySem.W.set_plain (ox := { cls := .ref C, dict := none, data := .fields #[.ref t1, .none, .none, .none, .bool false, .none] }) (od := none) X3 ⟨hea3, rfl, rfl, trivial⟩ hcls.sa ?_
  refine PySem.HandSPX.exc_osa X3 hea3 hcl (show PySem.HandSPX.refsVE (.ref C :: b2) = true from hbm) rfl hno (fun h4 tk4 dxa hk4 dn dne hx4 hn4 => ?_)
  refine PySem.wpAt_of_wpAny (wpAny_execs_nil ?_)
  have szL : s.heap.objs.size < h3.objs.size := by
    obtain ⟨ob, _, _, ho, _⟩ := ns3
    exact Heap.lt_size ho
  have hnd : H dxa = none := e0.hok.fresh (Nat.le_trans (Nat.le_of_lt szL) dn)
  have kfin : ∀ b o, b ≠ a → s.heap.get? b = some o → h4.get? b = some o := fun b o hb e => hk4 b o hb (kall b o hb e)
  have ndx : ∀ {b : Addr} {o : Obj}, s.heap.get? b = some o → b ≠ dxa := fun {b o} e => Nat.ne_of_lt (Nat.lt_of_lt_of_le (Nat.lt_trans (Heap.lt_size e) szL) dn)
  have na : ∀ {b : Addr}, H b = none → b ≠ a := fun {b} n z => by
    rw [z, ea] at n
    cases n
  refine ⟨.non, upd (upd H dxa (exd dxa [(f, y)])) a (exo a C (some dxa)), rfl, e0.bare, ?_, ?_, rfl, hq dxa hnd dne⟩
  · exact {
      keep := fun b o e n _ _ => kfin b o (na n) e
      slot := fun b o e n _ _ => ⟨o.slots, kfin b o (na n) e⟩
      free := fun b o e n _ => by rw [upd_ne (na n), upd_ne (ndx e)]; exact n
      there := fun b o e _ => by
        by_cases hb : b = a
        · exact ⟨_, by rw [hb]; exact hx4⟩
        · exact ⟨o, kfin b o hb e⟩
      tups := fun b xs e => by rw [upd_ne (at_ne ea e exo_tup), upd_ne (ne_of_none e hnd)]; exact e
      frzs := fun b o v e => by rw [upd_ne (at_ne ea e exo_frz), upd_ne (ne_of_none e hnd)]; exact e
      tbls := fun b ps e => ⟨#[], by rw [upd_ne (at_ne ea e exo_tbl), upd_ne (ne_of_none e hnd), e]; simp⟩ }
  · intro b o e
    by_cases hb : b = a
    · subst hb
      rw [upd_same] at e
      cases e
      exact exo_ok hx4
    · rw [upd_ne hb] at e
      by_cases hd : b = dxa
      · subst hd
        rw [upd_same] at e
        cases e
        exact exd_ok hn4 (relO_put (fs := []) ry fun g => True.intro)
      · rw [upd_ne hd] at e
        refine (e0.hok b o e).stay (fun c v hc z => kfin c v ?_ z) (fun c hc => ?_) (fun c xs hc => ?_)
        · rcases hc with hc | hc
          · rw [hc]; exact hb
          · exact at_ne ea hc exo_own
        · rw [upd_ne (at_ne ea hc exo_own), upd_ne (ne_of_none hc hnd)]; exact hc
        · rw [upd_ne (at_ne ea hc exo_tup), upd_ne (ne_of_none hc hnd)]; exact hc
/-! ### raise C(e) -/
def sRaise (c : String) (f : Nm) (fa : DA) : DStm := fun s => (fa s).bind fun ds s1 => match ds with
  | [d] => .exc ⟨c, [(f, d)]⟩ s1
  | _ => .stuck
/-- an own error class: made by its own __init__ -/
structure XCls (G : Gam) (K : PySem.W.Frag) (c : String) (C fI : Addr) : Prop where
  ct : G.ct c = some C
  ini : PySem.W.findIn K (.ref C) "__init__" = some (some (.ref fI))
  ty : PySem.W.typeIn K (.ref fI) = some (.type "function")
  cls : OexC K C
section
variable {G : Gam} {W : WX} {X : Cx}
theorem pds_raise {c : String} {C fI : Addr} {fd : FuncData} {slf xp f x : Str} {fn : Nm} {e : Expr} {fa : DA} {p pos pos' : Pos} (hc : X.calm = true) (tk : Takes X W) (T : XCls G X.K c C fI) (T2 : XIn X.prog X.K X.mg C fI fd slf xp f) (hf : f = nm fn) (hb : Binds X.K fd [slf, xp] [])
    (hr : Room 2 X.A) (hg : Gl X x) (hm : X.mg x = some (.ref C)) (ha : PDA G W X [e] fa) (hdb : (x == ("__debug__" : Str)) = false := by decide) (he : starEach [e] X.env = (false, eval e X.env) :: starEach [] X.env := by rfl) :
    PDS G W X (.Raise (some (.Call (.Name x p) [e] [] pos)) none pos') (sRaise c fn fa) :=
  (ps_raise hc tk (pmk_oex (CX := L2.CX X.prog X.w) T.cls T.ini T.ty (x_ok T2) hr hb .nil (passes_call tk fun _ _ _ _ z => z.elim) hg hm ha hdb he)).imp fun N σ H ⟨κ, w, s, ok, q⟩ => ⟨κ, w, s, ok, (PostG.bindS q).imp fun vs H1 ⟨ds, s1, w1, le, ok1, rs, q1⟩ => by
    match ds, q1 with
    | [d], q1 =>
      cases rs with
      | @cons v _ vs' _ r rs =>
      cases rs
      refine ⟨by show 1 ≤ 1000; decide, fun a ha => ⟨a, v, rfl, upd_same, fun dx h1 h2 => ⟨rfl, dx, [(f, v)], ?_, ?_, ?_, ?_⟩⟩⟩
      · exact upd_same
      · rw [upd_ne h2, upd_same]
      · rw [upd_ne h2] at h1; exact h1
      · rw [upd_ne h2] at h1
        have eH : upd (del (upd (upd (upd H1 a (exo a C none)) dx (exd dx [(f, v)])) a (exo a C (some dx))) a) dx (.xd [(f, v)]) = upd H1 dx (.xd [(f, v)]) := by
          funext b
          by_cases hb : b = dx
          · rw [hb, upd_same, upd_same]
          · rw [upd_ne hb, upd_ne hb]
            by_cases hba : b = a
            · rw [hba, del_same, ha]
            · rw [del_ne hba, upd_ne hba, upd_ne hb, upd_ne hba]
        rw [eH]
        obtain ⟨le2, ok2⟩ := ok1.alloc h1 (.xd [(f, v)])
        exact q1 _ σ (.ref C) (some dx) _ le2 ok2 ⟨C, T.ct, rfl, .inr ⟨dx, [(f, v)], rfl, upd_same, by subst hf; exact .cons (r.mono le2) .nil⟩⟩
    | [], q1 => exact q1.elim
    | _ :: _ :: _, q1 => exact q1.elim⟩
end
end DL
set_option maxRecDepth 100000
set_option maxHeartbeats 4000000
set_option autoImplicit false
namespace DL
open PySem PySem.Spec PyProof.Rows L2
/-! ### try with several clauses, each with a name or without -/
abbrev HTs := Addr → Value → Option Addr → TS
def unset (D : Ends) (i : Nat) : Ends := { nx := fun τ Z => D.nx (τ.set i none) Z, rt := D.rt, bk := fun τ Z => D.bk (τ.set i none) Z, ct := fun τ Z => D.ct (τ.set i none) Z }
def wHd (K : PySem.W.Frag) (Wo : WX) (D : Ends) : List (Value × Option Nat × HTs) → WX
  | [] => Wo
  | (c, none, ts) :: r => fun cl dd τ Z => ∃ b, PySem.W.exmOne K cl c = some b ∧ (b = true → ∀ a, Z a = none → ts a cl dd D τ Z) ∧ (b = false → wHd K Wo D r cl dd τ Z)
  | (c, some i, ts) :: r => fun cl dd τ Z => ∃ b, PySem.W.exmOne K cl c = some b ∧ (b = true → ∀ a, Z a = none → ts a cl dd (unset D i) (τ.set i (some (.ref a))) Z) ∧ (b = false → wHd K Wo D r cl dd τ Z)
/-- the suite of a clause -/
def SuOk (X : Cx) (st : List Stmt) (ts : HTs) : Prop := ∀ (a : Addr) (ob : Obj) (cl : Value) (dd : Option Addr) (pn : List (Addr × Obj)), Zc cl dd ob → (∃ vs, ob.data = .fields vs) → PSs (X.suite a ((a, ob) :: pn)) st (ts a cl dd)
inductive HdA (X : Cx) : List ExceptHandler → List (Value × Option Nat × HTs) → Prop
  | nil : HdA X [] []
  | bare {x : Str} {c : Value} {ts : HTs} {s0 : Stmt} {su : List Stmt} {np pp : Pos} {hs : List ExceptHandler} {l : List (Value × Option Nat × HTs)} (nc : Names X x c) (ok : SuOk X (s0 :: su) ts) (r : HdA X hs l) :
      HdA X (.ExceptHandler (some (.Name x np)) none (s0 :: su) pp :: hs) ((c, none, ts) :: l)
  | as_ {x n : Str} {i : Nat} {c : Value} {ts : HTs} {s0 : Stmt} {su : List Stmt} {np pp : Pos} {hs : List ExceptHandler} {l : List (Value × Option Nat × HTs)} (nc : Names X x c) (hi : X.N[i]? = some n) (hl : X.env.kindOf n = some .local) (ok : SuOk X (s0 :: su) ts) (r : HdA X hs l) :
      HdA X (.ExceptHandler (some (.Name x np)) (some n) (s0 :: su) pp :: hs) ((c, some i, ts) :: l)
section
variable {X : Cx} {bd : List Stmt} {g0 : ExceptHandler} {gs : List ExceptHandler} {l : List (Value × Option Nat × HTs)} {tpos : Pos} {tb : WX → TS} {Wo : WX}
theorem ps_tryA (est : X.stack = X.env :: X.outer) (efr : X.env.frame = some X.env.locals) (nd : X.N.Nodup) (tk : Takes X Wo)
    (hbd : ∀ (Wi : WX) (pn : List (Addr × Obj)) (xe : Value → Shared → Prop), Takes (X.tr pn xe) Wi → PassesOwn (model X.prog X.w) X.A X.env xe → PSs (X.tr pn xe) bd (tb Wi)) (hh : HdA X (g0 :: gs) l) :
    PS X (.Try bd (g0 :: gs) [] [] tpos) (fun D τ Z => tb (wHd X.K Wo D l) D τ Z) := by
  refine ⟨fun pins sh τ Z D I h => ?_⟩
  have okX := I.ok
  have frX : X.A.frames = some (X.env :: X.outer) := by rw [okX.frames, est]
  let xeT : Value → Shared → Prop := fun e z1 => wpAny (model X.prog X.w) X.A (noteFrame e X.env) (fun _ z2 => wpAny (model X.prog X.w) X.A (setFlight e none) (fun _ z3 => wpAny (model X.prog X.w) X.A (handleBy e X.env (g0 :: gs)) (SP X pins D) X.xe z3) X.xe z2) X.xe z1
  refine wpAny_Try_except (wpAny_mono ((hbd (wHd X.K Wo D l) (X.pn ++ pins) xeT (fun u sh' xx => ?_) PassesOwn.looking).run [] sh τ Z D (I.toTry _) h) (fun fl sh1 hsp => ?_) (fun e sh1 he => he))
  · obtain ⟨a, Bh, sI, pins', τ', Z', cl, dd, rfl, J', nb, up, sky, na, eos, ag, wish⟩ := xx
    have J : Inv X pins τ' Z' sI := J'.ofTry okX
    have sky2 : Sky Bh (X.env :: X.outer) a (Zc cl dd) X.env.locals sh'.heap := est ▸ sky
    show wpAny (model X.prog X.w) X.A (noteFrame (.ref a) X.env) _ _ _
    refine Sky.land Zc.steady frX efr sky2 fun h3 fl3 up3 => ?_
    have J3 : Inv X pins τ' Z' { sh' with heap := h3 } := J.landed nb fl3.1 (up.trans up3) eos ag
    obtain ⟨ob3, vs3, he3, hz3, hd3⟩ := fl3.there
    have nfr : a ∉ frs (X.env :: X.outer) := fun hm => by
      obtain ⟨_, o', e', hnf⟩ := fl3.2.2.1.mem hm
      rw [he3] at e'
      cases e'
      exact hnf _ hd3
    have nL : a ≠ X.env.locals := fun z => nfr (List.mem_filterMap.mpr ⟨X.env, List.mem_cons_self, efr.trans (congrArg some z.symm)⟩)
    have nF : a ∉ X.fs := fun hm => by
      obtain ⟨ev, hev, eq⟩ := List.mem_filterMap.mp hm
      exact nfr (List.mem_filterMap.mpr ⟨ev, List.mem_cons_of_mem _ hev, eq⟩)
    have S3 := J3.suite he3 hd3 na nL nF
    have LT : PySem.W.Looks (model X.prog X.w) h3 (typeOf (.ref a)) cl := fun A Q E z k q => wpAny_typeOf_ref (k _ _ he3) (hz3.1.symm ▸ q)
    have test : ∀ {x : Str} {c : Value} {np : Pos} {Q : Value → Shared → Prop} {E : Value → Shared → Prop}, Names X x c → Q c { sh' with heap := h3 } → wpAny (model X.prog X.w) (X.A.mark (some (.ref a))) (eval (.Name x np) X.env) Q E { sh' with heap := h3 } := fun {x c np Q E} nc q => by
      obtain ⟨hg, hdb, hm | ⟨hm, hv, hnn⟩⟩ := nc
      · exact ld_glob (X := X.suite a ((a, ob3) :: (X.pn ++ pins))) S3 hg hm q hdb
      · exact ld_blt (X := X.suite a ((a, ob3) :: (X.pn ++ pins))) S3 hg hm hv q hnn hdb
    have go : ∀ {gs' : List ExceptHandler} {l' : List (Value × Option Nat × HTs)}, HdA X gs' l' → wHd X.K Wo D l' cl dd τ' Z' → wpAny (model X.prog X.w) X.A (handleBy (.ref a) X.env gs') (SP X pins D) X.xe { sh' with heap := h3 } := by
      intro gs' l' hk
      induction hk with
      | nil =>
        intro wish
        refine wpAny_handleBy_nil ?_
        obtain ⟨_, _, _, oe, vs, Tb, _, _, he, _, hd, h1, _⟩ := id fl3
        unfold PySem.passOn
        refine wpAny_bind (wpAny_field he hd h1 ?_)
        rw [if_neg (show ¬ ((Value.ref Tb == Value.none) = true) by simp)]
        have fin : wpAny (model X.prog X.w) X.A (setFlight (.ref a) X.env.frame) (fun _ z4 => wpAny (model X.prog X.w) X.A (throw (.ref a) : Sem Flow) (SP X pins D) X.xe z4) X.xe { sh' with heap := h3 } := by
          rw [efr]
          refine HandSPX.setFlight_upZ fl3 fun h4 hh4 up4 => wpAny_throw (tk _ _ ⟨a, Bh, sI, pins, τ', Z', cl, dd, rfl, J, nb, (up.trans up3).trans up4, .inr (.inr ?_), na, eos, ag, wish⟩)
          rw [est]
          exact hh4
        first
          | exact wpAny_bind (wpAny_pure (wpAny_bind fin))
          | exact wpAny_bind fin
      | @bare x c ts s0 su np pp hs2 l2 nc ok r ih =>
        intro wish
        obtain ⟨b, hb1, yes, no⟩ := wish
        refine wpAny_handleBy_cons (codeAny_handlers_test (test nc ((PySem.W.exm_one (M := model X.prog X.w) J3.kIn LT hb1).here ?_))) (by intro q; cases q)
        cases b with
        | false => exact ih (no rfl)
        | true =>
          refine codeAny_handlers_suite (HandSPX.lands_againZ fl3 fun h4 fl4 up4 => ?_)
          have J4 : Inv X pins τ' Z' { sh' with heap := h4 } := J.landed nb fl4.1 ((up.trans up3).trans up4) eos ag
          obtain ⟨ob4, vs4, he4, hz4, hd4⟩ := fl4.there
          refine wpAny_mono ((ok a ob4 cl dd (X.pn ++ pins) hz4 ⟨_, hd4⟩).run [] _ _ Z' _ (J4.suite he4 hd4 na nL nF) (yes rfl a na)) (fun fl z6 hsp => ?_) (fun _ _ z => False.elim z)
          cases fl with
          | ret u => obtain ⟨_, _, _, S6, r6, q6⟩ := hsp; exact ⟨_, _, _, S6.unsuite okX, r6, q6⟩
          | next => obtain ⟨_, _, S6, q6⟩ := hsp; exact ⟨_, _, S6.unsuite okX, q6⟩
          | brk => obtain ⟨_, _, S6, q6⟩ := hsp; exact ⟨_, _, S6.unsuite okX, q6⟩
          | cont => obtain ⟨_, _, S6, q6⟩ := hsp; exact ⟨_, _, S6.unsuite okX, q6⟩
      | @as_ x n i c ts s0 su np pp hs2 l2 nc hi hl ok r ih =>
        intro wish
        obtain ⟨b, hb1, yes, no⟩ := wish
        refine wpAny_handleBy_cons (codeAny_handlers_test (test nc ((PySem.W.exm_one (M := model X.prog X.w) J3.kIn LT hb1).here ?_))) (by intro q; cases q)
        cases b with
        | false => exact ih (no rfl)
        | true =>
          refine codeAny_handlers_suite_as (HandSPX.lands_againZ fl3 fun h4 fl4 up4 => ?_)
          have J4 : Inv X pins τ' Z' { sh' with heap := h4 } := J.landed nb fl4.1 ((up.trans up3).trans up4) eos ag
          obtain ⟨ob4, vs4, he4, hz4, hd4⟩ := fl4.there
          refine store_ok (X := X.suite a ((a, ob4) :: (X.pn ++ pins))) (v := .ref a) (J4.suite he4 hd4 na nL nF) nd hi (.inl hl) rfl (fun z5 S5 => ?_) (.inr hl)
          refine wpAny_mono ((ok a ob4 cl dd (X.pn ++ pins) hz4 ⟨_, hd4⟩).run [] z5 _ Z' _ S5 (yes rfl a na)) (fun fl z6 hsp => ?_) (fun _ _ z => False.elim z)
          have fin : ∀ {τ6 : L2.St} {Z6 : Hp} {R : Shared → Prop}, Inv (X.suite a ((a, ob4) :: (X.pn ++ pins))) [] τ6 Z6 z6 → (∀ z7, Inv X pins (τ6.set i none) Z6 z7 → R z7) → wpAny (model X.prog X.w) X.A (do bindName X.env n .none; unbindBehindTheSuite X.env n pp) (fun _ z7 => R z7) X.xe z6 := fun {τ6 Z6 R} S6 hq => gone_ok (S6.unsuite okX) nd hi hl hq
          cases fl with
          | ret u => obtain ⟨_, _, _, S6, r6, q6⟩ := hsp; exact fin S6 fun _ J7 => ⟨_, _, _, J7, r6, q6⟩
          | next => obtain ⟨_, _, S6, q6⟩ := hsp; exact fin S6 fun _ J7 => ⟨_, _, J7, q6⟩
          | brk => obtain ⟨_, _, S6, q6⟩ := hsp; exact fin S6 fun _ J7 => ⟨_, _, J7, q6⟩
          | cont => obtain ⟨_, _, S6, q6⟩ := hsp; exact fin S6 fun _ J7 => ⟨_, _, J7, q6⟩
    exact go hh wish
  · cases fl with
    | ret u => obtain ⟨v, τ', Z', J', r, q⟩ := hsp; exact ⟨v, τ', Z', J'.ofTry okX, r, q⟩
    | next => obtain ⟨τ', Z', J', q⟩ := hsp; exact wpAny_execs_nil ⟨τ', Z', J'.ofTry okX, q⟩
    | brk => obtain ⟨τ', Z', J', q⟩ := hsp; exact ⟨τ', Z', J'.ofTry okX, q⟩
    | cont => obtain ⟨τ', Z', J', q⟩ := hsp; exact ⟨τ', Z', J'.ofTry okX, q⟩
end
/-! ### the same as a reading -/
section
variable {G : Gam} {W : WX} {X : Cx}
theorem Ok.setUn {κ : Bs} {w : Wd} {s : DS} {σ : L2.St} {H : Hp} (h : Ok G κ w s σ H) (i : Nat) (v : Option V) : Ok G κ w ⟨s.sl.set i .un, s.st⟩ (σ.set i v) H := by
  have inn : ∀ {j : Nat} {x : Sl}, (s.sl.set i .un)[j]? = some x → (x = .un) ∨ (j ≠ i ∧ s.sl[j]? = some x) := fun {j x} e => by
    by_cases hj : i = j
    · subst hj
      by_cases hv : i < s.sl.length
      · rw [List.getElem?_set_self hv] at e
        exact .inl (Option.some.inj e).symm
      · rw [List.getElem?_eq_none (by simpa using hv)] at e; cases e
    · rw [List.getElem?_set_ne hj] at e
      exact .inr ⟨fun z => hj z.symm, e⟩
  have out : ∀ {j : Nat}, j ≠ i → (σ.set i v)[j]? = σ[j]? := fun {j} n => List.getElem?_set_ne (fun z => n z.symm)
  refine ⟨h.fok, h.nx, by simpa using h.len, fun j d e => ?_, fun j x e o => ?_, fun j k x y a e1 e2 o1 o2 h1 h2 => ?_, fun p hp => ?_, fun a ha c fs e => ?_⟩
  · rcases inn e with z | ⟨z, e⟩
    · cases z
    · rw [out z]; exact h.val j d e
  · rcases inn e with z | ⟨z, e⟩
    · subst z; cases o
    · rw [out z]; exact h.own j x e o
  · rcases inn e1 with z | ⟨z, e1⟩
    · subst z; cases o1
    · rcases inn e2 with z' | ⟨z', e2⟩
      · subst z'; cases o2
      · rw [out z] at h1
        rw [out z'] at h2
        exact h.ne j k x y a e1 e2 o1 o2 h1 h2
  · obtain ⟨q1, q2, q3, q4, q5⟩ := h.gam p hp
    refine ⟨q1, q2, q3, q4, fun j x e o => ?_⟩
    rcases inn e with z | ⟨z, e⟩
    · subst z; cases o
    · rw [out z]; exact q5 j x e o
  · rcases inn e with z | ⟨z, e⟩
    · cases z
    · rw [out z]; exact h.me a ha c fs e
theorem RepX.mono {w w' : Wd} {c : Value} {dd : Option Addr} {x : Xc} (h : RepX G w c dd x) (le : w.le w') : RepX G w' c dd x := by
  obtain ⟨C, h1, h2, h3⟩ := h
  refine ⟨C, h1, h2, ?_⟩
  rcases h3 with h3 | ⟨a, vs, e1, e2, e3⟩
  · exact .inl h3
  · exact .inr ⟨a, vs, e1, le.1 _ _ e2, e3.mono le⟩
structure HdR where
  c : Value
  oi : Option Nat
  m : String → Option Bool
  f : Xc → DStm
def unD (i : Nat) (r : Res DS Out) : Res DS Out := r.bind fun o s => .ok o ⟨s.sl.set i .un, s.st⟩
def catchD : List HdR → Xc → DStm
  | [], x, s => .exc x s
  | ⟨_, none, m, f⟩ :: r, x, s => match m x.cls with
    | some true => noX (f x s)
    | some false => catchD r x s
    | none => .stuck
  | ⟨_, some i, m, f⟩ :: r, x, s => match m x.cls with
    | some true => if i < s.sl.length then unD i (noX (f x ⟨s.sl.set i .un, s.st⟩)) else .stuck
    | some false => catchD r x s
    | none => .stuck
def sTry (b : DStm) (hs : List HdR) : DStm := fun s => match b s with
  | .exc x s1 => catchD hs x s1
  | r => r
/-- what is known of the caught one -/
def Fx (G : Gam) (oi : Option Nat) (a : Addr) (cl : Value) (dd : Option Addr) (x : Xc) (w : Wd) (σ : L2.St) : Prop := (∀ i, oi = some i → σ[i]? = some (some (.ref a))) ∧ RepX G w cl dd x
def tXS (G : Gam) (oi : Option Nat) (a : Addr) (cl : Value) (dd : Option Addr) (x : Xc) (f : DStm) : TS := fun N σ H => ∃ κ w s, Ok G κ w s σ H ∧ Fx G oi a cl dd x w σ ∧ PostS G WF κ w (f s) N
def tSu (G : Gam) (h : HdR) : HTs := fun a cl dd N σ H => ∃ x, tXS G h.oi a cl dd x (h.f x) N σ H
/-- the class test of a clause -/
def MOk (G : Gam) (K : PySem.W.Frag) (h : HdR) : Prop := ∀ (k : String) (b : Bool), h.m k = some b → ∀ C, G.ct k = some C → PySem.W.exmOne K (.ref C) h.c = some b
theorem catch_of {D0 : Ends} {κ : Bs} {x : Xc} : ∀ {hs : List HdR}, (∀ h ∈ hs, MOk G X.K h) → ∀ {w : Wd} {s : DS} {cl : Value} {dd : Option Addr} {σ : L2.St} {H : Hp}, PostS G W κ w (catchD hs x s) D0 → Ok G κ w s σ H → RepX G w cl dd x → wHd X.K W D0 (hs.map fun h => (h.c, h.oi, tSu G h)) cl dd σ H
  | [], _, w, s, cl, dd, σ, H, q, ok, rx => q w σ cl dd H (.refl _) ok rx
  | ⟨c, none, m, f⟩ :: r, hm, w, s, cl, dd, σ, H, q, ok, rx => by
    obtain ⟨C, hC, rfl, _⟩ := id rx
    have q : PostS G W κ w (match m x.cls with | some true => noX (f x s) | some false => catchD r x s | none => .stuck) D0 := q
    cases e : m x.cls with
    | none => rw [e] at q; exact q.elim
    | some b =>
      refine ⟨b, hm _ List.mem_cons_self x.cls b e C hC, fun hb a ha => ?_, fun hb => ?_⟩
      · subst hb
        rw [e] at q
        refine ⟨x, κ, w, s, ok, ⟨fun i z => (nomatch z), rx⟩, ?_⟩
        show PostS G WF κ w (f x s) D0
        replace q : PostS G W κ w (noX (f x s)) D0 := q
        cases z : f x s with
        | ok o s' => rw [z] at q; cases o <;> exact q
        | exc y s' => rw [z] at q; exact q.elim
        | stuck => rw [z] at q; exact q.elim
      · subst hb
        rw [e] at q
        exact catch_of (fun h hh => hm h (List.mem_cons_of_mem _ hh)) q ok rx
  | ⟨c, some i, m, f⟩ :: r, hm, w, s, cl, dd, σ, H, q, ok, rx => by
    obtain ⟨C, hC, rfl, _⟩ := id rx
    have q : PostS G W κ w (match m x.cls with | some true => if i < s.sl.length then unD i (noX (f x ⟨s.sl.set i .un, s.st⟩)) else .stuck | some false => catchD r x s | none => .stuck) D0 := q
    cases e : m x.cls with
    | none => rw [e] at q; exact q.elim
    | some b =>
      refine ⟨b, hm _ List.mem_cons_self x.cls b e C hC, fun hb a ha => ?_, fun hb => ?_⟩
      · subst hb
        rw [e] at q
        replace q : PostS G W κ w (if i < s.sl.length then unD i (noX (f x ⟨s.sl.set i .un, s.st⟩)) else .stuck) D0 := q
        have hj : i < s.sl.length := by
          by_cases h : i < s.sl.length
          · exact h
          · rw [if_neg h] at q; exact q.elim
        rw [if_pos hj] at q
        refine ⟨x, κ, w, ⟨s.sl.set i .un, s.st⟩, ok.setUn i _, ⟨fun j z => ?_, rx⟩, ?_⟩
        · have z : some i = some j := z
          cases z
          rw [List.getElem?_set_self (by rw [← ok.len]; exact hj)]
        show PostS G WF κ w (f x ⟨s.sl.set i .un, s.st⟩) (unset D0 i)
        cases z : f x ⟨s.sl.set i .un, s.st⟩ with
        | ok o s' =>
          rw [z] at q
          cases o with
          | nx => exact fun w' σ' H' le ok' => q w' _ H' le (ok'.setUn i none)
          | bk => exact fun w' σ' H' le ok' => q w' _ H' le (ok'.setUn i none)
          | ct => exact fun w' σ' H' le ok' => q w' _ H' le (ok'.setUn i none)
          | rt d => exact fun w' σ' v H' le ok' r' => q w' _ v H' le (ok'.setUn i none) r'
        | exc y s' => rw [z] at q; exact q.elim
        | stuck => rw [z] at q; exact q.elim
      · subst hb
        rw [e] at q
        exact catch_of (fun h hh => hm h (List.mem_cons_of_mem _ hh)) q ok rx
theorem pds_try {bd : List Stmt} {g0 : ExceptHandler} {gs : List ExceptHandler} {hs : List HdR} {tpos : Pos} {fb : DStm} (est : X.stack = X.env :: X.outer) (efr : X.env.frame = some X.env.locals) (nd : X.N.Nodup) (tk : Takes X W)
    (hbd : ∀ (Wi : WX) (pn : List (Addr × Obj)) (xe : Value → Shared → Prop), Takes (X.tr pn xe) Wi → PassesOwn (model X.prog X.w) X.A X.env xe → PDSs G Wi (X.tr pn xe) bd fb) (hm : ∀ h ∈ hs, MOk G X.K h)
    (hh : HdA X (g0 :: gs) (hs.map fun h => (h.c, h.oi, tSu G h))) : PDS G W X (.Try bd (g0 :: gs) [] [] tpos) (sTry fb hs) :=
  (ps_tryA (tb := fun Wi => tDS G Wi fb) est efr nd tk hbd hh).imp fun N σ H ⟨κ, w, s, ok, q⟩ => ⟨κ, w, s, ok, by
    have q : PostS G W κ w (match fb s with | .exc x s1 => catchD hs x s1 | r => r) N := q
    cases e : fb s with
    | stuck => rw [e] at q; exact q.elim
    | ok o s' => rw [e] at q; cases o <;> exact q
    | exc x s' =>
      rw [e] at q
      replace q : PostS G W κ w (catchD hs x s') N := q
      intro w' σ' c dd H' le ok' rx
      have q' : PostS G W κ w' (catchD hs x s') N := PostS.mono le q
      exact catch_of hm q' ok' rx⟩
end
/-! ### the suite's words -/
section
variable {G : Gam} {X : Cx} {oi : Option Nat} {a : Addr} {cl : Value} {dd : Option Addr} {x : Xc}
theorem Fx.mono {w w' : Wd} {σ : L2.St} (h : Fx G oi a cl dd x w σ) (le : w.le w') : Fx G oi a cl dd x w' σ := ⟨h.1, h.2.mono le⟩
def tXD (G : Gam) (oi : Option Nat) (a : Addr) (cl : Value) (dd : Option Addr) (x : Xc) (f : DE) : TE := fun σ H Q => ∃ κ w s, Ok G κ w s σ H ∧ Fx G oi a cl dd x w σ ∧ PostG G WF (Rep G) κ w σ (f s) Q
def tXA (G : Gam) (oi : Option Nat) (a : Addr) (cl : Value) (dd : Option Addr) (x : Xc) (f : DA) : TA := fun σ H Q => ∃ κ w s, Ok G κ w s σ H ∧ Fx G oi a cl dd x w σ ∧ PostG G WF (Reps G) κ w σ (f s) Q
theorem pxd_lift {e : Expr} {f : DE} (h : PD G WF X e f) : PE X e (tXD G oi a cl dd x f) := h.imp fun σ H Q ⟨κ, w, s, ok, _, q⟩ => ⟨κ, w, s, ok, q⟩
theorem pxa_nil : PA X [] (tXA G oi a cl dd x aNil) := pa_nil.imp fun σ H Q ⟨κ, w, s, ok, _, q⟩ => q w [] H (.refl _) ok .nil
theorem pxa_cons {e : Expr} {es : List Expr} {f : DE} {g : DA} (h : PE X e (tXD G oi a cl dd x f)) (k : PA X es (tXA G oi a cl dd x g)) (hs : starEach (e :: es) X.env = (false, eval e X.env) :: starEach es X.env := by rfl) : PA X (e :: es) (tXA G oi a cl dd x (aCons f g)) :=
  (pa_cons h k hs).imp fun σ H Q ⟨κ, w, s, ok, fx, q⟩ => ⟨κ, w, s, ok, fx, (PostG.bind q).imp fun v H1 ⟨d, s1, w1, le, ok1, r1, q1⟩ =>
    ⟨κ, w1, s1, ok1, fx.mono le, (PostG.bind q1).imp fun v2 H2 ⟨d2, s2, w2, le2, ok2, r2, q2⟩ => q2 w2 _ H2 (.refl _) ok2 (.cons (r1.mono le2) r2)⟩⟩
theorem pxd_tup {es : List Expr} {k : Nat} {g : DA} {pos : Pos} (h : PA X es (tXA G oi a cl dd x g)) : PE X (.Tuple es k pos) (tXD G oi a cl dd x (eTup g)) :=
  (pe_tup h).imp fun σ H Q ⟨κ, w, s, ok, fx, q⟩ => ⟨κ, w, s, ok, fx, (PostG.bind q).imp fun v H1 ⟨d, s1, w1, le, ok1, r1, q1⟩ => by
    by_cases c : d.length ≤ 1000
    · rw [if_pos c] at q1
      refine ⟨r1.length ▸ sz1000 c, fun p hp => ?_⟩
      obtain ⟨le2, ok2⟩ := ok1.alloc hp (.tup v)
      exact q1 _ _ _ le2 ok2 (.tup (.inl (.inl upd_same)) (r1.mono le2))
    · rw [if_neg c] at q1
      exact q1.elim⟩
theorem RepF.look' {w : Wd} : ∀ {vs : List (Str × V)} {fs : List (Nm × D)} {f : Nm} {d : D}, RepF G w vs fs → fs.lookup f = some d → ∃ v, vs.lookup (nm f) = some v ∧ Rep G w v d
  | _, _, _, _, .nil, e => nomatch e
  | _, _, f, d, .cons (f := g) (v := v) (d := d') r rs, e => by
    by_cases h : f = g
    · subst h
      simp [List.lookup] at e ⊢
      subst e
      exact r
    · have h1 : (f == g) = false := by simpa using h
      have h2 : (nm f == nm g) = false := by
        have : nm f ≠ nm g := fun z => h (nm_inj z)
        simpa using this
      simp only [List.lookup, h1] at e
      obtain ⟨v', q1, q2⟩ := RepF.look' rs e
      exact ⟨v', by simp only [List.lookup, h2]; exact q1, q2⟩
/-- e.f of the caught one, known to be of the class c -/
def eXf (c : String) (f : Nm) (x : Xc) : DE := fun s => if x.cls = c then match x.fs.lookup f with | some d => .ok d s | none => .stuck else .stuck
theorem pxd_fld {i : Nat} {C : Addr} {ob : Obj} {pn : List (Addr × Obj)} {c : String} {f : Nm} {fn e : Str} {p pos : Pos} (hK : G.K = X.K) (hC : G.ct c = some C) (T : XfC X.K C) (hno : PySem.W.findIn X.K (.ref C) fn = some none) (hf : fn = nm f) (hz : Zc cl dd ob) (hfs : ∃ vs, ob.data = .fields vs)
    (he : PE (X.suite a ((a, ob) :: pn)) (.Name e p) (tVar i)) : PE (X.suite a ((a, ob) :: pn)) (.Attribute (.Name e p) fn pos) (tXD G (some i) a cl dd x (eXf c f x)) :=
  (pe_xf T hno hz hfs he).imp fun σ H Q ⟨κ, w, s, ok, fx, q⟩ => by
    have q : PostG G WF (Rep G) κ w σ (if x.cls = c then match x.fs.lookup f with | some d => .ok d s | none => .stuck else .stuck) Q := q
    by_cases h : x.cls = c
    · rw [if_pos h] at q
      cases e : x.fs.lookup f with
      | none => rw [e] at q; exact q.elim
      | some d =>
        rw [e] at q
        obtain ⟨h1, C', h2, h3, h4⟩ := fx
        rw [h, hC] at h2
        cases h2
        rcases h4 with ⟨h4, _⟩ | ⟨da, vs, h5, h6, h7⟩
        · rw [h4] at e; cases e
        · obtain ⟨v, l1, l2⟩ := h7.look' e
          exact ⟨.ref a, h1 i rfl, rfl, h3, da, vs, v, h5, ok.fok.sub _ _ h6, hf ▸ l1, q w v H (.refl _) ok l2⟩
    · rw [if_neg h] at q
      exact q.elim
theorem pxs_ret {e : Expr} {f : DE} {pos : Pos} (h : PE X e (tXD G oi a cl dd x f)) : PS X (.Return (some e) pos) (tXS G oi a cl dd x (sRet f)) :=
  (ps_ret h).imp fun N σ H ⟨κ, w, s, ok, fx, q⟩ => ⟨κ, w, s, ok, fx, (PostG.bindS q).imp fun v H1 ⟨d, s1, w1, le, ok1, r1, q1⟩ => q1 w1 σ v H1 (.refl _) ok1 r1⟩
theorem pxs_set {i : Nat} {n : Str} {e : Expr} {f : DE} {pos pos' : Pos} (hN : X.N.Nodup) (hi : X.N[i]? = some n) (hx : Loc X.env.scope n) (he : PE X e (tXD G oi a cl dd x f)) (hs : swapsWith e (some (.Name n pos')) pos.line X.env = pure false := by rfl)
    (hf : X.fn n = true ∨ X.env.scope.names.lookup n = some .local := by first | exact .inl rfl | exact .inr rfl | assumption) : PS X (.Assign [.Name n pos'] e pos) (tXS G oi a cl dd x (sSet i f)) :=
  (ps_set hN hi hx he hs hf).imp fun N σ H ⟨κ, w, s, ok, fx, q⟩ => ⟨κ, w, s, ok, fx, (PostG.bindS q).imp fun v H1 ⟨d, s1, w1, le, ok1, r1, q1⟩ => q1 w1 _ H1 (.refl _) (ok1.setVal r1 i)⟩
theorem pxs_lift {st : Stmt} {f : DStm} (h : PDS G WF X st f) : PS X st (tXS G oi a cl dd x f) := h.imp fun N σ H ⟨κ, w, s, ok, _, q⟩ => ⟨κ, w, s, ok, q⟩
/-- a suite of one statement -/
theorem su_one {st : Stmt} {h : HdR} (k : ∀ (a : Addr) (ob : Obj) (cl : Value) (dd : Option Addr) (pn : List (Addr × Obj)) (x : Xc), Zc cl dd ob → (∃ vs, ob.data = .fields vs) → PS (X.suite a ((a, ob) :: pn)) st (tXS G h.oi a cl dd x (h.f x))) : SuOk X [st] (tSu G h) :=
  fun a ob cl dd pn hz hf => pss_one ⟨fun pins s σ H D I ⟨x, z⟩ => (k a ob cl dd pn x hz hf).run pins s σ H D I z⟩
end
end DL
set_option maxRecDepth 100000
set_option maxHeartbeats 4000000
set_option autoImplicit false
namespace DL
open PySem PySem.Spec PyProof.Rows L2
/-! ### lambdas without parameters -/
/-- the function object of a lambda -/
def FnO (f : Addr) (q : Str) (pr : Arguments) (bd : Expr) (sc : Scope) (clo : List (Str × Addr)) (pm : Value) (c : Addr) (ctv : Value) : HO := .ext fun h => h.get? f = some (PySem.W.kla_obj "<lambda>" q pr bd sc clo pm c ctv)
/-- a maker of lambdas: its table, the name of its lambdas' codes, its cells, the sites -/
structure LamT where
  P : Addr
  q : Str
  cells : List (Str × Addr)
  site : String → Option (Arguments × Expr × Scope)
def LamT.lam (T : LamT) : String → Addr → Wd → Prop := fun k f w => ∃ pr bd sc pm c ctv, T.site k = some (pr, bd, sc) ∧ w.F f = some (FnO f T.q pr bd sc (cloFrom T.cells sc.names []) pm c ctv) ∧ w.F c = some (LamX.CodeO c T.q)
def LamT.tab (T : LamT) : Addr → Hp → HO → Prop := fun a F o => a = T.P ∧ ∃ ps : Array Value, o = .tbl ps ∧ TriplesOk ps.toList ∧ ∀ (pos : Pos) (cv : Value), codeAmong pos ps.toList = some cv → ∃ c, cv = .ref c ∧ F c = some (LamX.CodeO c T.q)
theorem LamT.lamM (T : LamT) (k : String) (f : Addr) (w w' : Wd) (e : w.le w') : T.lam k f w → T.lam k f w' := fun ⟨pr, bd, sc, pm, c, ctv, h1, h2, h3⟩ => ⟨pr, bd, sc, pm, c, ctv, h1, e.f _ _ h2, e.f _ _ h3⟩
theorem LamT.tabM (T : LamT) (a : Addr) (F F' : Hp) (o : HO) (e : ∀ a o, F a = some o → F' a = some o) : T.tab a F o → T.tab a F' o := fun ⟨h0, ps, h1, h2, h3⟩ => ⟨h0, ps, h1, h2, fun pos cv hc => by
  obtain ⟨c, z1, z2⟩ := h3 pos cv hc
  exact ⟨c, z1, e _ _ z2⟩⟩
/-- the lambda is made -/
def eLam (n : Nat) (tk k : String) : DE := fun s => match s.st[n]? with
  | some (.tab t) => if t = tk then .ok (.lam k) s else .stuck
  | _ => .stuck
section
variable {G : Gam} {W : WX} {X : Cx}
/-- what G says of the maker's lambdas -/
structure GLam (G : Gam) (tk : String) (T : LamT) : Prop where
  tab : ∀ a F o, G.tab tk a F o ↔ T.tab a F o
  lam : ∀ k f w, (T.site k).isSome = true → (G.lam k f w ↔ T.lam k f w)
theorem fnO_ok {P : Program} {w0 : World} {H : Hp} {h : Heap} {f c : Addr} {q : Str} {pr : Arguments} {bd : Expr} {sc : Scope} {clo : List (Str × Addr)} {pm ctv : Value} (e : h.get? f = some (PySem.W.kla_obj "<lambda>" q pr bd sc clo pm c ctv)) : ObjOk P w0 H h f (FnO f q pr bd sc clo pm c ctv) :=
  ⟨e, ⟨_, e⟩, fun h1 h2 z k => k _ z⟩
theorem pd_lam0 {n : Nat} {tk k : String} {c : Addr} {T : LamT} {pr : Arguments} {bd : Expr} {sc : Scope} {pos : Pos} (GL : GLam G tk T) (TB : LamX.TabB X.base X.mg c T.P) (hcode : X.env.code = .ref c) (hq : T.q = X.env.qual ++ "<lambda>") (hcl : T.cells = X.env.cells) (hs : T.site k = some (pr, bd, sc))
    (L : ∀ y ∈ sc.names, y.2 = .free → X.env.scope.names.lookup y.1 = some .cell ∨ X.env.scope.names.lookup y.1 = some .free) (hdef : defaultsOf pr X.env = ([], [])) : PD G W X (.Lambda pr bd sc pos) (eLam n tk k) := by
  refine ⟨fun pins sh σ H Q I ⟨κ, w, s, ok, q⟩ => ?_⟩
  unfold eLam at q
  cases e : s.st[n]? with
  | none => rw [e] at q; exact q.elim
  | some cel =>
    rw [e] at q
    cases cel with
    | tab t' =>
      replace q : PostG G W (Rep G) κ w σ (if t' = tk then .ok (.lam k) s else .stuck) Q := q
      by_cases ht : t' = tk
      · subst ht
        rw [if_pos rfl] at q
        have hn : n < w.ρ.length := by
          rw [ok.fok.len]
          exact (List.getElem?_eq_some_iff.mp e).1
        have hρ : w.ρ[n]? = some (w.ρ[n]) := List.getElem?_eq_getElem hn
        obtain ⟨o, hP, ht⟩ := ok.fok.cel n _ _ hρ e
        obtain ⟨eP, ps, rfl, tr, among⟩ := (GL.tab _ _ _).mp ht
        rw [eP] at hP hρ
        have hfree : ∀ y ∈ sc.names, y.2 = .free → ∃ c, X.env.cells.lookup y.1 = some c := fun y hy e => (L y hy e).elim (fun k => I.ok.has _ (.inl k)) fun k => I.ok.has _ (.inr k)
        refine PySem.W.kla_eval hdef ?_
        have bP : sh.heap.BuiltinsAt X.mg T.P := TB.bm.keeps I.bk
        have hP' : sh.heap.get? T.P = some { cls := .none, data := .fields ps } := I.hok T.P _ hP
        cases hc : codeAmong pos ps.toList with
        | none =>
          refine PySem.W.kla_makeFunction (mg := X.mg) (c := c) (P := T.P) (ps := ps) (closure_ok hfree) I.ok.glob (I.mod.glob.keeps I.bk) hcode (TB.code.keeps I.bk) hP' tr hc TB.gP bP fun c' ctv h' tk' hx hge hlt hrec htb => ?_
          obtain ⟨c2, oc, vs, t, e2, hoc, hd, hv⟩ := hrec
          cases e2
          have nC : H c' = none := I.hok.fresh hge
          have hsz : sh.heap.objs.size ≤ h'.objs.size := Nat.le_trans hge (Nat.le_of_lt hlt)
          have I1 := LamX.inv_table (t' := tk') (q := X.env.qual ++ "<lambda>") (more := #[rawInt pos.line, rawInt pos.col, .ref c']) (h' := h') I hP (fun b o hb z => hx b o hb z) htb hge ⟨oc, vs, t, hoc, hd, hv⟩
          have I2 := I1.laid (t' := tk') (a := h'.objs.size) (o := FnO h'.objs.size (X.env.qual ++ "<lambda>") pr bd sc (cloFrom X.env.cells sc.names []) ((X.mg "__name__").getD .none) c' ctv)
            (h' := h'.push (PySem.W.kla_obj "<lambda>" (X.env.qual ++ "<lambda>") pr bd sc (cloFrom X.env.cells sc.names []) ((X.mg "__name__").getD .none) c' ctv)) (fun b u z => Heap.get?_push_of_some _ z) (Nat.le_refl _) (fnO_ok (Heap.get?_push_size _ rfl))
          have okC := ok.alloc nC (LamX.CodeO c' (X.env.qual ++ "<lambda>"))
          obtain ⟨le1, ok1⟩ := okC
          have nPc : T.P ≠ c' := ne_of_none hP nC
          have eL : (ps ++ #[rawInt pos.line, rawInt pos.col, .ref c']).toList = ps.toList ++ [rawInt pos.line, rawInt pos.col, .ref c'] := by simp
          have cell1 : CellOk G ⟨upd w.F c' (LamX.CodeO c' (X.env.qual ++ "<lambda>")), w.ρ⟩ (upd (upd H c' (LamX.CodeO c' (X.env.qual ++ "<lambda>"))) T.P (.tbl (ps ++ #[rawInt pos.line, rawInt pos.col, .ref c']))) T.P (.tab t') := by
            refine ⟨_, upd_same, (GL.tab _ _ _).mpr ⟨rfl, _, rfl, by rw [eL]; exact PySem.TriplesOk_snoc _ _ _ _ tr, fun p' cv hcv => ?_⟩⟩
            rw [eL] at hcv
            rcases LamX.among_app _ tr hcv with z | z
            · obtain ⟨c0, e1, e2⟩ := among p' cv z
              exact ⟨c0, e1, le1.f _ _ e2⟩
            · exact ⟨c', z, by rw [hq]; exact upd_same⟩
          have ok2 := ok1.cell (n := n) (a := T.P) hρ cell1
          have eS : s.st.set n (.tab t') = s.st := by
            apply List.ext_getElem?
            intro i
            by_cases hi : n = i
            · subst hi
              rw [List.getElem?_set_self (List.getElem?_eq_some_iff.mp e).1, e]
            · rw [List.getElem?_set_ne hi]
          rw [eS] at ok2
          have swap : upd (upd H c' (LamX.CodeO c' (X.env.qual ++ "<lambda>"))) T.P (.tbl (ps ++ #[rawInt pos.line, rawInt pos.col, .ref c'])) = upd (upd H T.P (.tbl (ps ++ #[rawInt pos.line, rawInt pos.col, .ref c']))) c' (LamX.CodeO c' (X.env.qual ++ "<lambda>")) := by
            funext b
            by_cases h1 : b = T.P
            · rw [h1, upd_same, upd_ne nPc, upd_same]
            · rw [upd_ne h1]
              by_cases h2 : b = c'
              · rw [h2, upd_same, upd_same]
              · rw [upd_ne h2, upd_ne h2, upd_ne h1]
          rw [swap] at ok2
          obtain ⟨le3, ok3⟩ := ok2.alloc (I1.hok.fresh (Nat.le_refl _)) (FnO h'.objs.size (X.env.qual ++ "<lambda>") pr bd sc (cloFrom X.env.cells sc.names []) ((X.mg "__name__").getD .none) c' ctv)
          refine ⟨.ref h'.objs.size, _, I2, rfl, q _ _ _ (le1.trans le3) ok3 (.lam ((GL.lam _ _ _ (by rw [hs]; rfl)).mpr ⟨pr, bd, sc, (X.mg "__name__").getD .none, c', ctv, hs, ?_, ?_⟩))⟩
          · rw [hq, hcl]; exact upd_same
          · rw [hq]
            exact le3.f _ _ upd_same
        | some cv =>
          obtain ⟨c', ecv, hco⟩ := among pos cv hc
          subst ecv
          refine PySem.W.kla_makeFunctionHit (mg := X.mg) (c := c) (P := T.P) (ps := ps) (closure_ok hfree) I.ok.glob (I.mod.glob.keeps I.bk) hcode (TB.code.keeps I.bk) hP' tr hc bP fun ctv h' tk' hx hsz => ?_
          have I2 := I.laid (t' := tk') (a := h'.objs.size) (o := FnO h'.objs.size (X.env.qual ++ "<lambda>") pr bd sc (cloFrom X.env.cells sc.names []) ((X.mg "__name__").getD .none) c' ctv)
            (h' := h'.push (PySem.W.kla_obj "<lambda>" (X.env.qual ++ "<lambda>") pr bd sc (cloFrom X.env.cells sc.names []) ((X.mg "__name__").getD .none) c' ctv)) (fun b u z => Heap.get?_push_of_some _ (hx b u z)) hsz (fnO_ok (Heap.get?_push_size _ rfl))
          obtain ⟨le3, ok3⟩ := ok.alloc (I.hok.fresh hsz) (FnO h'.objs.size (X.env.qual ++ "<lambda>") pr bd sc (cloFrom X.env.cells sc.names []) ((X.mg "__name__").getD .none) c' ctv)
          refine ⟨.ref h'.objs.size, _, I2, rfl, q _ _ _ le3 ok3 (.lam ((GL.lam _ _ _ (by rw [hs]; rfl)).mpr ⟨pr, bd, sc, (X.mg "__name__").getD .none, c', ctv, hs, ?_, ?_⟩))⟩
          · rw [hq, hcl]; exact upd_same
          · exact le3.f _ _ hco
      · rw [if_neg ht] at q
        exact q.elim
    | _ => exact q.elim
theorem pd_lam {n : Nat} {tk k : String} {c : Addr} {T : LamT} {pr : Arguments} {bd : Expr} {sc : Scope} {pos : Pos} (GL : GLam G tk T) (TB : LamX.TabB X.base X.mg c T.P) (hcode : X.env.code = .ref c) (hq : T.q = X.env.qual ++ "<lambda>") (hcl : T.cells = X.env.cells) (hs : T.site k = some (pr, bd, sc))
    (L : LamX.LamS X.env.scope sc) (hdef : defaultsOf pr X.env = ([], [])) : PD G W X (.Lambda pr bd sc pos) (eLam n tk k) := pd_lam0 GL TB hcode hq hcl hs L.free hdef
end
end DL
set_option maxRecDepth 100000
set_option maxHeartbeats 4000000
set_option autoImplicit false
namespace DL
open PySem PySem.Spec PyProof.Rows L2
/-! ### data without lambdas -/
mutual
def noLam : D → Bool
  | .tup xs => noLams xs
  | .lst xs => noLams xs
  | .scr xs => noLams xs
  | .dic kvs => noLamK kvs
  | .dct kvs => noLamT kvs
  | .ins _ fs => noLamF fs
  | .lam _ => false
  | _ => true
def noLams : List D → Bool
  | [] => true
  | x :: r => noLam x && noLams r
def noLamK : List (DK × D) → Bool
  | [] => true
  | x :: r => noLam x.2 && noLamK r
def noLamF : List (Nm × D) → Bool
  | [] => true
  | x :: r => noLam x.2 && noLamF r
def noLamT : List (List DK × D) → Bool
  | [] => true
  | x :: r => noLam x.2 && noLamT r
end
def noLamC : Cell → Bool
  | .dic kvs => noLamK kvs
  | .lst xs => noLams xs
  | .obj _ fs => noLamF fs
  | .tab _ => true
  | .dct kvs => noLamT kvs
def noLamS : List Cell → Bool
  | [] => true
  | c :: r => noLamC c && noLamS r
/-- other words for lambdas -/
def Gam.sw (G : Gam) (lam : String → Addr → Wd → Prop) (lamM : ∀ (k : String) (f : Addr) (w w' : Wd), w.le w' → lam k f w → lam k f w') : Gam := { G with lam := lam, lamM := lamM }
section
variable {G : Gam} {lam : String → Addr → Wd → Prop} {lamM : ∀ (k : String) (f : Addr) (w w' : Wd), w.le w' → lam k f w → lam k f w'} {w : Wd}
mutual
theorem Rep.sw : ∀ {v : V} {d : D}, (noLam d = true ∨ ∀ k f, G.lam k f w → lam k f w) → Rep G w v d → Rep (G.sw lam lamM) w v d
  | _, _, _, .non => .non
  | _, _, _, .bl b => .bl b
  | _, _, _, .int i => .int i
  | _, _, _, .str l => .str l
  | _, _, h, .tup a b => .tup a (Reps.sw h b)
  | _, _, h, .lst a b => .lst a (Reps.sw h b)
  | _, _, h, .scr a b => .scr a (Reps.sw h b)
  | _, _, h, .dic a b => .dic a (RepK.sw h b)
  | _, _, h, .dct a b c d => .dct a (RepT.sw h b) c d
  | _, _, h, .ins c a b => .ins c a (RepF.sw h b)
  | _, _, _, .cell a => .cell a
  | _, _, _, .cls a => .cls a
  | _, _, _, .ty n => .ty n
  | _, _, _, .fn a => .fn a
  | _, _, h, .lam a => .lam (h.elim (fun z => nomatch z) fun z => z _ _ a)
theorem Reps.sw : ∀ {v : List V} {d : List D}, (noLams d = true ∨ ∀ k f, G.lam k f w → lam k f w) → Reps G w v d → Reps (G.sw lam lamM) w v d
  | _, _, _, .nil => .nil
  | _, _, h, .cons a b => .cons (Rep.sw (h.imp (fun z => ((Bool.and_eq_true _ _).mp z).1) id) a) (Reps.sw (h.imp (fun z => ((Bool.and_eq_true _ _).mp z).2) id) b)
theorem RepF.sw : ∀ {v : List (Str × V)} {d : List (Nm × D)}, (noLamF d = true ∨ ∀ k f, G.lam k f w → lam k f w) → RepF G w v d → RepF (G.sw lam lamM) w v d
  | _, _, _, .nil => .nil
  | _, _, h, .cons a b => .cons (Rep.sw (h.imp (fun z => ((Bool.and_eq_true _ _).mp z).1) id) a) (RepF.sw (h.imp (fun z => ((Bool.and_eq_true _ _).mp z).2) id) b)
theorem RepK.sw : ∀ {v : List (Key × V)} {d : List (DK × D)}, (noLamK d = true ∨ ∀ k f, G.lam k f w → lam k f w) → RepK G w v d → RepK (G.sw lam lamM) w v d
  | _, _, _, .nil => .nil
  | _, _, h, .cons a b => .cons (Rep.sw (h.imp (fun z => ((Bool.and_eq_true _ _).mp z).1) id) a) (RepK.sw (h.imp (fun z => ((Bool.and_eq_true _ _).mp z).2) id) b)
theorem RepT.sw : ∀ {v : List DictEntry} {d : List (List DK × D)}, (noLamT d = true ∨ ∀ k f, G.lam k f w → lam k f w) → RepT G w v d → RepT (G.sw lam lamM) w v d
  | _, _, _, .nil => .nil
  | _, _, h, .cons s r a b => .cons s r (Rep.sw (h.imp (fun z => ((Bool.and_eq_true _ _).mp z).1) id) a) (RepT.sw (h.imp (fun z => ((Bool.and_eq_true _ _).mp z).2) id) b)
end
theorem CellOk.sw {H : Hp} {a : Addr} {c : Cell} (h : noLamC c = true ∨ ∀ k f, G.lam k f w → lam k f w) (k : CellOk G w H a c) : CellOk (G.sw lam lamM) w H a c := by
  cases c with
  | dic kvs => obtain ⟨vs, e, r⟩ := k; exact ⟨vs, e, r.sw h⟩
  | lst xs => obtain ⟨vs, e, r⟩ := k; exact ⟨vs, e, r.sw h⟩
  | obj c fs => obtain ⟨C, dx, vs, q, e, r⟩ := k; exact ⟨C, dx, vs, q, e, r.sw h⟩
  | tab t => exact k
  | dct kvs => obtain ⟨es, ep, e, r, q⟩ := k; exact ⟨es, ep, e, r.sw h, q⟩
theorem noLamS_get : ∀ {S : List Cell} {n : Nat} {c : Cell}, noLamS S = true → S[n]? = some c → noLamC c = true
  | [], _, _, _, e => by simp at e
  | x :: r, 0, c, h, e => by
    simp at e; subst e
    exact ((Bool.and_eq_true _ _).mp h).1
  | x :: r, n + 1, c, h, e => noLamS_get (S := r) (n := n) ((Bool.and_eq_true _ _).mp h).2 (by simpa using e)
theorem FOk.sw {S : List Cell} {H : Hp} (h : noLamS S = true ∨ ∀ k f, G.lam k f w → lam k f w) (k : FOk G w S H) : FOk (G.sw lam lamM) w S H :=
  ⟨k.sub, k.len, fun n a c e1 e2 => (k.cel n a c e1 e2).sw (h.imp (fun z => noLamS_get z e2) id), k.nd, k.nf⟩
theorem RepX.sw {c : Value} {dd : Option Addr} {x : Xc} (h : noLamF x.fs = true ∨ ∀ k f, G.lam k f w → lam k f w) (k : RepX G w c dd x) : RepX (G.sw lam lamM) w c dd x := by
  obtain ⟨C, h1, h2, h3⟩ := k
  refine ⟨C, h1, h2, h3.imp id fun ⟨a, vs, q1, q2, q3⟩ => ⟨a, vs, q1, q2, q3.sw h⟩⟩
theorem Rep.bk {v : V} {d : D} (h : noLam d = true ∨ ∀ k f, lam k f w → G.lam k f w) (k : Rep (G.sw lam lamM) w v d) : Rep G w v d := Rep.sw (G := G.sw lam lamM) (lam := G.lam) (lamM := G.lamM) h k
theorem FOk.bk {S : List Cell} {H : Hp} (h : noLamS S = true ∨ ∀ k f, lam k f w → G.lam k f w) (k : FOk (G.sw lam lamM) w S H) : FOk G w S H := FOk.sw (G := G.sw lam lamM) (lam := G.lam) (lamM := G.lamM) h k
theorem RepX.bk {c : Value} {dd : Option Addr} {x : Xc} (h : noLamF x.fs = true ∨ ∀ k f, lam k f w → G.lam k f w) (k : RepX (G.sw lam lamM) w c dd x) : RepX G w c dd x := RepX.sw (G := G.sw lam lamM) (lam := G.lam) (lamM := G.lamM) h k
end
/-! ### a def that makes lambdas -/
def fnDL (n : Nat) (body : DStm) (m : Nat) : DFn := fun ds S => if noLams ds = true ∧ noLamS S = true then match fnD n body m ds S with
  | .ok d S' => if noLam d = true ∧ noLamS S' = true then .ok d S' else .stuck
  | .exc x S' => if noLamF x.fs = true ∧ noLamS S' = true then .exc x S' else .stuck
  | .stuck => .stuck
  else .stuck
/-- the frame's own words for its lambdas -/
theorem fn_okDL {G : Gam} {P : Program} {w0 : World} {mg : Str → Option Value} {base : Heap} {x qual : Str} {st : Stmt} {f : Addr} {fd : FuncData} {N ps : List Str} {k n m : Nat} {body : DStm} (F : Fun G.K x qual st f fd) (S : FnScope N ps (defScope st)) (hn : ps.length = n) (hm : N.length - n = m)
    (T : Nat → LamT)
    (hbody : ∀ (cdv : Value), fd.code = cdv → ∀ (A : Around) (outer : List Env) (s : Shared) (H : Hp) (E : XK), Room k (A.deeper (envOfC qual (defScope st) s.heap.objs.size f cdv)) →
      Takes (cxOf (L2.CX P w0) P w0 G.K mg base N qual (defScope st) f cdv A outer s H E) (fun c d _ H => E c d H) → PassesOwn (model P w0) (A.deeper (envOfC qual (defScope st) s.heap.objs.size f cdv)) (envOfC qual (defScope st) s.heap.objs.size f cdv) (cxOf (L2.CX P w0) P w0 G.K mg base N qual (defScope st) f cdv A outer s H E).xe →
      PDSs (G.sw (T s.heap.objs.size).lam (T s.heap.objs.size).lamM) (fun c d _ H => E c d H) (cxOf (L2.CX P w0) P w0 G.K mg base N qual (defScope st) f cdv A outer s H E) (defBody st) body) : FnOk P w0 G.K mg base (L2.CX P w0) (k + 1) f fd ps (spG G n (fnDL n body m)) := by
  obtain ⟨oc, od, kV, doc, pm, an, cdv, ct, osl, rfl, lk, hcd⟩ := F.ex
  refine fn_of lk hcd S (fun vs H Q E h => by rw [h.1, hn]) fun A outer s H vs Q E hr h => ?_
  refine ⟨_, hbody cdv rfl A outer s H E hr (takes_of rfl rfl rfl rfl) (passes_of rfl), ?_⟩
  obtain ⟨hl, w, S', ds, fok, rs, q⟩ := h
  have hd : ds.length = n := by rw [← rs.length]; exact hl
  unfold fnDL at q
  by_cases hno : noLams ds = true ∧ noLamS S' = true
  case neg => rw [if_neg hno] at q; exact q.elim
  rw [if_pos hno] at q
  rw [start_eq (m := m) (by rw [hl]; exact hm)]
  have fok' := fok.sw (lam := (T s.heap.objs.size).lam) (lamM := (T s.heap.objs.size).lamM) (.inl hno.2)
  have rs' := rs.sw (lam := (T s.heap.objs.size).lam) (lamM := (T s.heap.objs.size).lamM) (.inl hno.1)
  refine ⟨⟨w, H, [], none⟩, w, _, Ok.start fok' rs' m, ?_⟩
  unfold fnD at q
  rw [if_pos hd] at q
  cases e : body ⟨ds.map Sl.val ++ List.replicate m .un, S'⟩ with
  | stuck => rw [e] at q; exact q.elim
  | exc x s' =>
    rw [e] at q
    replace q : PostF G (Rep G) w H (if noLamF x.fs = true ∧ noLamS s'.st = true then .exc x s'.st else .stuck) Q E := q
    by_cases hx : noLamF x.fs = true ∧ noLamS s'.st = true
    case neg => rw [if_neg hx] at q; exact q.elim
    rw [if_pos hx] at q
    exact fun w' σ' c dd H' le ok' rx => q w' c dd H' ok'.nx (ok'.fok.bk (.inl hx.2)) (rx.bk (.inl hx.1))
  | ok o s' =>
    rw [e] at q
    have key : ∀ d, PostF G (Rep G) w H (if noLam d = true ∧ noLamS s'.st = true then .ok d s'.st else .stuck) Q E → ∀ (w' : Wd) (v : L2.St × V) (H' : Hp), Ok (G.sw (T s.heap.objs.size).lam (T s.heap.objs.size).lamM) ⟨w, H, [], none⟩ w' s' v.1 H' → Rep (G.sw (T s.heap.objs.size).lam (T s.heap.objs.size).lamM) w' v.2 d → Q v.2 H' := fun d q w' v H' ok' r' => by
      by_cases hx : noLam d = true ∧ noLamS s'.st = true
      case neg => rw [if_neg hx] at q; exact q.elim
      rw [if_pos hx] at q
      exact q w' v.2 H' ok'.nx (ok'.fok.bk (.inl hx.2)) (r'.bk (.inl hx.1))
    cases o with
    | nx => exact fun w' σ' H' le ok' => key .non q w' (σ', .non) H' ok' .non
    | rt d => exact fun w' σ' v H' le ok' r' => key d q w' (σ', v) H' ok' r'
    | bk => exact q.elim
    | ct => exact q.elim
/-! ### a lambda called in the def that it was handed to -/
abbrev LamR := String → List Cell → Res (List Cell) D
def eAct (Λ : LamR) (i : Nat) : DE := fun s => match s.sl[i]? with
  | some (.val (.lam k)) => lift s (Λ k s.st)
  | _ => .stuck
def stripS : Sl → Sl
  | .val d => .val d
  | _ => .un
def lamRun (b : DE) (sl : List Sl) (st : List Cell) : Res (List Cell) D := match b ⟨sl.map stripS, st⟩ with
  | .ok d s' => .ok d s'.st
  | .exc x s' => .exc x s'.st
  | .stuck => .stuck
def lamR (bs : String → Option DE) (sl : List Sl) : LamR := fun k st => match bs k with
  | some b => lamRun b sl st
  | none => .stuck
def eCallL (n : Nat) (g : LamR → DFn) (bs : String → Option DE) (fa : DA) : DE := fun s => (fa s).bind fun ds s1 => if ds.length = n then lift s1 (g (lamR bs s1.sl) ds s1.st) else .stuck
theorem Ok.strip {G : Gam} {κ : Bs} {w w' : Wd} {s : DS} {σ : L2.St} {H H' : Hp} {S' : List Cell} (h : Ok G κ w s σ H) (le : w.le w') (f : FOk G w' S' H') : Ok G ⟨w', H', [], none⟩ w' ⟨s.sl.map stripS, S'⟩ σ H' := by
  have no : ∀ (i : Nat) (x : Sl), (s.sl.map stripS)[i]? = some x → x.own = false := fun i x e => by
    rw [List.getElem?_map] at e
    cases q : s.sl[i]? with
    | none => rw [q] at e; cases e
    | some y => rw [q] at e; cases e; cases y <;> rfl
  refine ⟨f, .refl _ _, by simp [h.len], fun i d e => ?_, fun i x e o => ?_, fun i j x y a e1 e2 o1 o2 _ _ => ?_, fun p hp => by simp at hp, fun a z => nomatch z⟩
  · replace e : (s.sl.map stripS)[i]? = some (.val d) := e
    rw [List.getElem?_map] at e
    cases q : s.sl[i]? with
    | none => rw [q] at e; cases e
    | some y =>
      rw [q] at e
      cases y with
      | val d' =>
        cases e
        obtain ⟨v, h1, h2⟩ := h.val i d q
        exact ⟨v, h1, h2.mono le⟩
      | _ => cases e
  · rw [no i x e] at o; cases o
  · rw [no i x e1] at o1; cases o1
/-- the words while w stands below -/
def Gam.at (G : Gam) (w : Wd) : Gam := G.sw (fun k f w' => G.lam k f w' ∧ w.le w') (fun k f a b le h => ⟨G.lamM k f a b le h.1, h.2.trans le⟩)
/-- the bodies of a maker's lambdas -/
structure LamB (G : Gam) (X : Cx) (k : Nat) (pr : Arguments) (bd : Expr) (sc : Scope) (b : DE) : Prop where
  L : LamX.LamS X.env.scope sc
  bind : ∀ (q : Str) (cl : List (Str × Addr)) (pm cv ctv : Value), bindArgs (PySem.W.kla_fn "<lambda>" q pr bd sc cl pm cv ctv) ⟨[], []⟩ = pure []
  body : ∀ (A : Around) (outer : List Env) (s : Shared) (H : Hp) (E : XK) (f c' : Addr), Room k (A.deeper (LamX.lamEnv X sc s.heap.objs.size f c')) → Takes (LamX.lamCx X A outer s H E sc f c') (fun c d _ H => E c d H) →
    PD G (fun c d _ H => E c d H) (LamX.lamCx X A outer s H E sc f c') bd b
def LamsOk (G : Gam) (X : Cx) (T : LamT) (k : Nat) (bs : String → Option DE) : Prop := ∀ (n : String) (b : DE), bs n = some b → ∃ pr bd sc, T.site n = some (pr, bd, sc) ∧ LamB G X k pr bd sc b
section
variable {G : Gam} {W : WX} {X : Cx}
theorem pd_act {T : LamT} {bs : String → Option DE} {pins : List (Addr × Obj)} {σ : L2.St} {H : Hp} {sh : Shared} {κ : Bs} {w : Wd} {s : DS} {k i : Nat} {Ng : List Str} {qg : Str} {sg : Scope} {g : Addr} {cdg : Value} {Eg : XK} {pn : List (Addr × Obj)} {xe : Value → Shared → Prop} {a : Str} {Wz : WX} {p1 p2 : Pos}
    (I : Inv X pins σ H sh) (ok : Ok G κ w s σ H) (GL : ∀ n f w', G.lam n f w' → T.lam n f w') (hq : T.q = X.env.qual ++ "<lambda>") (hcl : T.cells = X.env.cells) (hbs : LamsOk G X T k bs)
    (tk : Takes ((cxOf (L2.CX X.prog X.w) X.prog X.w X.K X.mg X.base Ng qg sg g cdg X.A X.stack sh H Eg).tr pn xe) Wz) (hr : Room (k + 1) (X.A.deeper (envOfC qg sg sh.heap.objs.size g cdg)))
    (hN : Ng[i]? = some a) (hv : Vis sg a) (hd : (a == ("__debug__" : Str)) = false := by decide) (hcd : (a == ("__classdict__" : Str)) = false := by decide) :
    PD (G.at w) Wz ((cxOf (L2.CX X.prog X.w) X.prog X.w X.K X.mg X.base Ng qg sg g cdg X.A X.stack sh H Eg).tr pn xe) (.Call (.Name a p1) [] [] p2) (eAct (lamR bs s.sl) i) := by
  refine ⟨fun pinsZ sZ σZ HZ Q IZ ⟨κZ, wZ, dZ, okZ, q⟩ => ?_⟩
  have ⟨n, e⟩ : ∃ n, dZ.sl[i]? = some (.val (.lam n)) := by
    unfold eAct at q
    split at q
    · exact ⟨_, by assumption⟩
    · exact q.elim
  simp only [eAct, e] at q
  obtain ⟨v, hs, rep⟩ := okZ.val i _ e
  cases rep with
  | @lam f _ hl =>
  obtain ⟨hl, le⟩ := hl
  have ⟨b, hb⟩ : ∃ b, bs n = some b := by
    unfold lamR at q
    split at q
    · exact ⟨_, by assumption⟩
    · exact q.elim
  simp only [lamR, hb] at q
  obtain ⟨pr, bd, sc, hsite, B⟩ := hbs n b hb
  obtain ⟨pr', bd', sc', pm, c', ctv, hsite', hF, hC⟩ := GL _ _ _ hl
  rw [hsite] at hsite'
  cases hsite'
  have hf0 := okZ.fok.sub _ _ hF
  have hc0 := okZ.fok.sub _ _ hC
  refine wpAny_Call_Name_kw (thn ((pe_var (pos := p1) (i := i) hN hv hd hcd).run pinsZ sZ σZ HZ (fun v H1 => v = .ref f ∧ H1 = HZ) IZ ⟨.ref f, hs, rfl, rfl⟩) fun u s1 ⟨v, H1, I1, r1, q1⟩ => ?_)
  obtain ⟨ev, eH⟩ := q1
  subst ev
  rw [eH] at I1
  obtain rfl : u = Value.ref f := r1
  have of1 : s1.heap.get? f = some (PySem.W.kla_obj "<lambda>" T.q pr bd sc (cloFrom T.cells sc.names []) pm c' ctv) := (I1.hok f _ hf0).1
  obtain ⟨⟨oc, vs, t, hoc, hdc, hvc⟩, _, _⟩ := I1.hok c' _ hc0
  rw [hq, hcl] at of1
  rw [hq] at hvc
  refine PySem.W.callWith_F0 ⟨_, _, _, _, of1⟩ ?_
  have un : Un (frs X.stack) [] H HZ sh.heap s1.heap := I1.base
  have rc : codeAny (model X.prog X.w) (X.A.deeper (envOfC qg sg sh.heap.objs.size g cdg)) (.call (.ref f) ⟨[], []⟩) (CR (L2.CX X.prog X.w) (envOfC qg sg sh.heap.objs.size g cdg :: X.stack) X.prog X.w HZ s1 Q (WE Wz σZ)) s1 := by
    refine PySem.W.kla_callFunE hr.depth of1 rfl B.L.co B.L.gen rfl ⟨c', oc, vs, t, rfl, hoc, hdc, hvc⟩ ?_
    rw [B.bind]
    refine wpAny_pure (wpAny_newFunctionEnv (fun y hy => (B.L.own y hy).2) (fun y hy => absurd hy (by simp)) (fun h₁ hns hsb => ⟨I1.nolimit.fresh _ hsb, ?_⟩) B.L.kind)
    show codeAny _ _ (.expr bd (LamX.lamEnv X sc s1.heap.objs.size f c')) _ _
    have kp : ∀ b o, s1.heap.get? b = some o → h₁.get? b = some o := fun b o e => hsb.extBut b o (Nat.ne_of_lt (Heap.lt_size e)) (Heap.get?_push_of_some _ e)
    have J : Inv (LamX.lamCx X (X.A.deeper (envOfC qg sg sh.heap.objs.size g cdg)) (envOfC qg sg sh.heap.objs.size g cdg :: X.stack) s1 HZ (WE Wz σZ) sc f c') [] σ HZ { s1 with heap := h₁, toks := s1.toks + ([] : List (Str × Value)).length } :=
      LamX.lam_start2 I B.L I1.env0 hr.hd un hns kp
    have okB := ok.strip le (okZ.fok.bk (.inr fun _ _ z => z.1))
    have ht : tD G (fun c d _ H => WE Wz σZ c d H) b σ HZ Q := by
      refine ⟨_, _, _, okB, ?_⟩
      unfold lamRun at q
      cases er : b ⟨s.sl.map stripS, dZ.st⟩ with
      | stuck => rw [er] at q; exact q.elim
      | ok d s' =>
        rw [er] at q
        intro w' v' H' le' ok' r'
        exact q w' v' H' le' (okZ.step ok'.nx (ok'.fok.sw (.inr fun _ _ z => ⟨z, le.trans le'⟩))) (r'.sw (.inr fun _ _ z => ⟨z, le.trans le'⟩))
      | exc x s' =>
        rw [er] at q
        intro w' cl dd H' le' ok' r'
        exact q w' cl dd H' le' (okZ.step ok'.nx (ok'.fok.sw (.inr fun _ _ z => ⟨z, le.trans le'⟩))) (r'.sw (.inr fun _ _ z => ⟨z, le.trans le'⟩))
    refine PySem.W.kla_codeExpr (wpAny_mono ((B.body _ _ s1 HZ _ _ _ (hr.deeper _) (takes_of rfl rfl rfl rfl)).run [] _ _ HZ Q J ht) (fun v s' hq => ?_) fun e s' hq => hq)
    obtain ⟨w', H', J', rv, q⟩ := hq
    exact ⟨w', H', J'.os, J'.bare, J'.base, J'.hok, rv, q⟩
  refine wpAny_call (codeAny_mono rc fun r s' hq => ?_)
  cases r with
  | error e => exact passAt tk σZ pinsZ HZ s1 e s' I1 hq
  | ok fl =>
    cases fl with
    | ret u => exact I1.after hq
    | next => exact False.elim hq
    | brk => exact False.elim hq
    | cont => exact False.elim hq
/-- the body of a def that is handed lambdas -/
def BodyL (G : Gam) (P : Program) (w0 : World) (mg : Str → Option Value) (base : Heap) (k : Nat) (N : List Str) (qual : Str) (st : Stmt) (f : Addr) (a : Str) (i : Nat) (body : LamR → DStm) : Prop :=
  ∀ (Λ : LamR) (cdv : Value) (A : Around) (outer : List Env) (s : Shared) (H : Hp) (E : XK), Room k (A.deeper (envOfC qual (defScope st) s.heap.objs.size f cdv)) →
    Takes (cxOf (L2.CX P w0) P w0 G.K mg base N qual (defScope st) f cdv A outer s H E) (fun c d _ H => E c d H) → PassesOwn (model P w0) (A.deeper (envOfC qual (defScope st) s.heap.objs.size f cdv)) (envOfC qual (defScope st) s.heap.objs.size f cdv) (cxOf (L2.CX P w0) P w0 G.K mg base N qual (defScope st) f cdv A outer s H E).xe →
    (∀ (pn : List (Addr × Obj)) (xe : Value → Shared → Prop) (W : WX) (p1 p2 : Pos), Takes ((cxOf (L2.CX P w0) P w0 G.K mg base N qual (defScope st) f cdv A outer s H E).tr pn xe) W → PD G W ((cxOf (L2.CX P w0) P w0 G.K mg base N qual (defScope st) f cdv A outer s H E).tr pn xe) (.Call (.Name a p1) [] [] p2) (eAct Λ i)) →
    PDSs G (fun c d _ H => E c d H) (cxOf (L2.CX P w0) P w0 G.K mg base N qual (defScope st) f cdv A outer s H E) (defBody st) (body Λ)
theorem pd_callL {T : LamT} {bs : String → Option DE} {k n m i : Nat} {f : Addr} {fd : FuncData} {N ps : List Str} {body : LamR → DStm} {x qual a : Str} {st : Stmt} {p pos : Pos} {e : Expr} {es : List Expr} {fa : DA} (hK : G.K = X.K) (F : Fun X.K x qual st f fd) (S : FnScope N ps (defScope st)) (hn : ps.length = n) (hm : N.length - n = m)
    (GL : ∀ n f w', G.lam n f w' → T.lam n f w') (hq : T.q = X.env.qual ++ "<lambda>") (hcl : T.cells = X.env.cells) (hbs : LamsOk G X T k bs)
    (hbody : ∀ w, BodyL (G.at w) X.prog X.w X.mg X.base (k + 1) N qual st f a i body) (hN : N[i]? = some a) (hv : Vis (defScope st) a)
    (hr : Room (k + 2) X.A) (hg : Gl X x) (hmg : X.mg x = some (.ref f)) (hb : Binds X.K fd ps []) (tk : Takes X W) (ha : PDA G W X (e :: es) fa) (hdb : (x == ("__debug__" : Str)) = false := by decide) (hda : (a == ("__debug__" : Str)) = false := by decide) (hcd : (a == ("__classdict__" : Str)) = false := by decide)
    (he : starEach (e :: es) X.env = (false, eval e X.env) :: starEach es X.env := by rfl) (hpl : (backTo pos (starEach es X.env)).any (·.1) = false := by rfl) : PD G W X (.Call (.Name x p) (e :: es) [] pos) (eCallL n (fun Λ => fnD n (body Λ) m) bs fa) := by
  refine ⟨fun pins s σ H Q I h => ?_⟩
  obtain ⟨κ, w, ds, ok, q⟩ := h
  refine wpAny_Call_Name_kw (ld_glob I hg hmg ?_ hdb)
  have hh : tDA G W fa σ H fun vs H1 => ∃ d s1 w1, w.le w1 ∧ Ok G κ w1 s1 σ H1 ∧ Reps G w1 vs d ∧ PostG G W (Rep G) κ w1 σ (if d.length = n then lift s1 (fnD n (body (lamR bs s1.sl)) m d s1.st) else .stuck) Q := ⟨κ, w, ds, ok, PostG.bind q⟩
  refine PySem.W.callWith_K (h₀ := X.base) I.ok.mod.kin F.kp (thn (ha.run pos pins s σ H _ I hh) fun us s1 ⟨vs, H1, I1, r, d, s2, w1, le, ok1, rs, q1⟩ => ⟨I1.kIn, ?_⟩) he hpl
  by_cases c : d.length = n
  case neg => rw [if_neg c] at q1; exact q1.elim
  rw [if_pos c] at q1
  have q2 := postF_of ok1 q1
  obtain ⟨oc, od, kV, doc, pm, an, cdv, ct, osl, rfl, lk, hcode⟩ := F.ex
  have hl : vs.length = n := by rw [rs.length]; exact c
  have hul : us.length = ps.length := by rw [← r.length, hl, hn]
  have rc : codeAny (model X.prog X.w) X.A (.call (.ref f) ⟨us, []⟩) (CR (L2.CX X.prog X.w) X.stack X.prog X.w H1 s1 Q (WE W σ)) s1 := by
    have hbd := hb s1 us I1.kIn (by simpa using hul)
    rw [List.append_nil] at hbd
    refine LamX.run_ofS (N := N) (ps := ps) (us := us) (vs := vs) lk hcode S hr I1.env0 hbd r (by rw [hl, hn]) fun hr' => ?_
    have hb0 := hbody w1 (lamR bs s2.sl) cdv X.A X.stack s1 H1 (WE W σ) hr' (takes_of rfl rfl rfl rfl) (passes_of rfl) 
    have hK' : (G.at w1).K = X.K := hK
    rw [hK'] at hb0
    refine ⟨_, hb0 fun pn xe W' p1 p2 tk' => pd_act I1 ok1 GL hq hcl hbs tk' hr' hN hv hda hcd, ?_⟩
    rw [start_eq (m := m) (by rw [hl]; exact hm)]
    have fok' : FOk (G.at w1) w1 s2.st H1 := ok1.fok.sw (.inr fun _ _ z => ⟨z, .refl _⟩)
    have rs' : Reps (G.at w1) w1 vs d := rs.sw (.inr fun _ _ z => ⟨z, .refl _⟩)
    refine ⟨⟨w1, H1, [], none⟩, w1, _, Ok.start fok' rs' m, ?_⟩
    unfold fnD at q2
    rw [if_pos c] at q2
    cases e : body (lamR bs s2.sl) ⟨d.map Sl.val ++ List.replicate m .un, s2.st⟩ with
    | stuck => rw [e] at q2; exact q2.elim
    | exc x s' =>
      rw [e] at q2
      exact fun w' σ' c dd H' le ok' rx => q2 w' c dd H' ok'.nx (ok'.fok.bk (.inr fun _ _ z => z.1)) (rx.bk (.inr fun _ _ z => z.1))
    | ok o s' =>
      rw [e] at q2
      cases o with
      | nx => exact fun w' σ' H' le ok' => q2 w' .non H' ok'.nx (ok'.fok.bk (.inr fun _ _ z => z.1)) .non
      | rt d => exact fun w' σ' v H' le ok' r' => q2 w' v H' ok'.nx (ok'.fok.bk (.inr fun _ _ z => z.1)) (r'.bk (.inr fun _ _ z => z.1))
      | bk => exact q2.elim
      | ct => exact q2.elim
  refine wpAny_call (codeAny_mono rc fun r s' hq => ?_)
  cases r with
  | error e => exact passAt tk σ pins H1 s1 e s' I1 hq
  | ok fl =>
    cases fl with
    | ret u => exact I1.after hq
    | next => exact False.elim hq
    | brk => exact False.elim hq
    | cont => exact False.elim hq
end
end DL
set_option maxRecDepth 100000
set_option maxHeartbeats 4000000
set_option autoImplicit false
namespace DL
open PySem PySem.Spec PyProof.Rows L2
/-! ### the law's end, with tables of code objects -/
def tabP (P : Addr) (q : Str) : Addr → Hp → HO → Prop := fun a F o => a = P ∧ ∃ ps : Array Value, o = .tbl ps ∧ TriplesOk ps.toList ∧ ∀ (pos : Pos) (cv : Value), codeAmong pos ps.toList = some cv → ∃ c, cv = .ref c ∧ F c = some (LamX.CodeO c q)
theorem tabP_nil (P : Addr) (q : Str) (F : Hp) : tabP P q P F (.tbl #[]) := ⟨rfl, #[], rfl, True.intro, fun pos cv hc => by
  have hc : codeAmong pos [] = some cv := hc
  simp [codeAmong] at hc⟩
def tabG (ms : List (String × Addr × Str)) : String → Addr → Hp → HO → Prop := fun k a F o => ∃ m, ms.lookup k = some m ∧ tabP m.1 m.2 a F o
theorem tabG_mono (ms : List (String × Addr × Str)) (k : String) (a : Addr) (F F' : Hp) (o : HO) (e : ∀ a o, F a = some o → F' a = some o) : tabG ms k a F o → tabG ms k a F' o := fun ⟨m, hm, h0, ps, h1, h2, h3⟩ => ⟨m, hm, h0, ps, h1, h2, fun pos cv hc => by
  obtain ⟨c, z1, z2⟩ := h3 pos cv hc
  exact ⟨c, z1, e _ _ z2⟩⟩
theorem glam_of {G : Gam} {ms : List (String × Addr × Str)} {tk : String} {T : LamT} (ht : G.tab = tabG ms) (hl : ms.lookup tk = some (T.P, T.q)) (hlam : ∀ k f w, G.lam k f w ↔ T.lam k f w) : GLam G tk T := by
  refine ⟨fun a F o => ?_, fun k f w _ => hlam k f w⟩
  rw [ht]
  constructor
  · rintro ⟨m, hm, h⟩
    rw [hl] at hm
    cases hm
    exact h
  · intro h
    exact ⟨_, hl, h⟩
def spLawT (K : PySem.W.Frag) (Ps : List Addr) : Sp := fun vs H Q _ => ∃ (a : Addr) (ns : List Int), vs = [.ref a] ∧ SqL K H a (ns.map V.int) ∧ ns.length ≤ 63 ∧ (∀ z ∈ ns, Builtin.Int.intBits z ≤ 1048576) ∧ (∀ P ∈ Ps, H P = some (.tbl #[])) ∧ ∀ H', Q (.bl true) H'
theorem law_endT {G : Gam} {P : Program} {w0 : World} {mg : Str → Option Value} {base : Heap} {k : Nat} {f : Addr} {fd : FuncData} {ps : List Str} {g : DFn} {Ms : List (String × Addr)} (F : FnOk P w0 G.K mg base (L2.CX P w0) k f fd ps (spG G 1 g)) (nd : (Ms.map (·.2)).Nodup)
    (ht : ∀ m ∈ Ms, ∀ F, G.tab m.1 m.2 F (.tbl #[]))
    (h : ∀ ns : List Int, ns.length ≤ 63 → (∀ z ∈ ns, Builtin.Int.intBits z ≤ 1048576) → ∃ S, g [.scr (ns.map D.int)] (Ms.map fun m => .tab m.1) = .ok (.bl true) S) : FnOk P w0 G.K mg base (L2.CX P w0) k f fd ps (spLawT G.K (Ms.map (·.2))) :=
  F.imp fun vs H Q E ⟨a, ns, e, hS, hl, hb, hP, q⟩ => by
    obtain ⟨S, hg⟩ := h ns hl hb
    subst e
    have hF : ∀ b, b ∉ Ms.map (·.2) → (fun b => if b ∈ Ms.map (·.2) then none else H b : Hp) b = H b := fun b hb => if_neg hb
    have nt : ∀ o, H a = some o → (∀ ps, o ≠ .tbl ps) → a ∉ Ms.map (·.2) := fun o e n z => n #[] (Option.some.inj (e.symm.trans (hP a z)))
    refine ⟨rfl, ⟨fun b => if b ∈ Ms.map (·.2) then none else H b, Ms.map (·.2)⟩, Ms.map fun m => .tab m.1, [.scr (ns.map D.int)], ⟨fun b o e => ?_, by simp, fun n b c e1 e2 => ?_, nd, fun b hb => if_pos hb⟩, .cons (.scr ?_ (Reps.of_ints ns)) .nil, ?_⟩
    · by_cases z : b ∈ Ms.map (·.2)
      · have e : (if b ∈ Ms.map (·.2) then none else H b) = some o := e
        rw [if_pos z] at e; cases e
      · have e : (if b ∈ Ms.map (·.2) then none else H b) = some o := e
        rw [if_neg z] at e; exact e
    · rw [List.getElem?_map] at e1 e2
      cases hm : Ms[n]? with
      | none => rw [hm] at e1; cases e1
      | some m =>
        rw [hm] at e1 e2
        cases e1; cases e2
        have mem := List.mem_of_getElem? hm
        exact ⟨_, hP _ (List.mem_map.mpr ⟨m, mem, rfl⟩), ht m mem _⟩
    · rcases hS with (z | ⟨o, z⟩) | z
      · exact .inl (.inl ((hF a (nt _ z fun _ => by simp)).trans z))
      · exact .inl (.inr ⟨o, (hF a (nt _ z fun _ => by simp)).trans z⟩)
      · exact .inr z
    · rw [hg]
      intro w' v H' nx f r
      cases r
      exact q H'
/-- the tables of the makers -/
def TabsT (q : Program) (K : PySem.W.Frag) (h : Heap) : Prop := ∀ (y : Str) (c P : Addr), ((recsOf q).find? (fun e => e.name == y)).isSome = true → PySem.W.tabIn K y = some (c, P) → PySem.W.CodeHd h c P ∧ h.get? P = some { cls := .none, data := .fields #[] }
theorem walk_ofD {l : PySem.W.OpenLaw} {n k : Nat} {q : Program} {loose : List Str} {XP : (Str → Option Value) → Heap → Prop} {YP : World → Heap → Prop} {d : DefRec} {K : Params → PySem.W.Frag} {CX : World → CXT} {x : Str}
    (hn : l.most = some n) (hn2 : n ≤ sizeLine) (hdf : d.params.defaults = []) (hr : Room k callerA) (hY : ∀ (w : World) (h : Heap), YP w h → (K w.params).In h)
    (F : ∀ (w : World) (mg : Str → Option Value) (fa : Addr) (h : Heap), (K w.params).In h → h.Ns mainGlobals mg → mg d.name = some (.ref fa) → TabsT q (K w.params) h → LamX.LawAtS l w (K w.params) (CX w) k n x mg fa h)
    (hCX : ∀ (w : World) (H : Hp) (s : Shared) (e : Value) (s' : Shared), CX w [] H s (fun _ _ _ => False) e s' → False) :
    PySem.W.WalkO q loose XP YP l.row.toRowW d [] (fun f vs => PySem.call f vs) := by
  refine Att.attach_callB hn hdf fun w s₀ s₁ mg mb fa o pm cd doc a vs ns G Y ho hd hcd hmg hobj hints hlen hbits hg => ?_
  have KX := hY w _ Y
  have tt : TabsT q (K w.params) s₁.heap := fun y c P hr ht => by
    obtain ⟨dd, hdd⟩ := Option.isSome_iff_exists.mp hr
    exact PySem.W.tab_of G.T KX hdd ht
  obtain ⟨fd, cs, sp, hT, nT, C, hb, hsp, hF⟩ := F w mg fa _ KX G.T.g hmg tt
  exact LamX.law_callTs KX G.T.g G.T.b G.T.builtins G.T.nolimit hg hT nT C G.T.bmain hobj hints (Nat.le_trans hlen hn2) hr hF hb (fun H hH hS => hsp H a ns hlen hbits hH hS) fun H e s' => hCX w H s₁ e s'
end DL
set_option maxRecDepth 100000
set_option maxHeartbeats 4000000
set_option autoImplicit false
namespace DL
open PySem PySem.Spec PyProof.Rows L2
/-! ### own error classes: the facts of the head -/
/-- the text of an own error's __init__ -/
def XSh (st : Stmt) (slf x f : Str) : Prop := ∃ (ar : Arg) (p0 p1 p2 p3 p4 p5 p6 p7 p8 p9 : Pos),
  defBody st = [.Expr (.Call (.Attribute (.Call (.Name "super" p0) [] [] p1) "__init__" p2) [.Name x p3] [] p4) p5, .Assign [.Attribute (.Name slf p6) f p7] (.Name x p8) p9] ∧
  ((defArgs st).posonlyargs ++ (defArgs st).args).head? = some ar ∧ ar.arg = slf ∧
  (defScope st).names.lookup ("super" : Str) = some .globalImplicit ∧ (defScope st).names.lookup ("__class__" : Str) = some .free ∧ (defScope st).names.lookup slf = some .local ∧ (defScope st).names.lookup x = some .local ∧ (∀ z ∈ (defScope st).names, z.2 ≠ .cell) ∧
  (defScope st).kind = .function ∧ (defScope st).isCoroutine = false ∧ (defScope st).isGenerator = false ∧ (p2.endLine == p4.line) = true
def xcB (K : PySem.W.Frag) (C fI : Addr) (f : Str) : Bool :=
  (PySem.W.findIn K (.ref C) "__setattr__" == some (some (.builtin "object.__setattr__"))) && ((PySem.W.subIn K (.ref C) (.type "BaseException") == some true) && ((PySem.W.typeIn K (.ref C) == some (.type "type")) && (PySem.W.keepIn K (.ref C) && ((PySem.W.typeIn K (.ref fI) == some (.type "function")) &&
  ((PySem.W.mroIn K C (.ref C) == some true) && ((PySem.W.ks_superIn K C C "__init__" == some (some (.builtin "ValueError.__init__"))) && ((PySem.W.subIn K (.ref C) (.type "ValueError") == some true) && ((PySem.W.nsIn K cStatics "thirdparty.any" == some none) && ((PySem.W.findIn K (.ref C) f == some none) && xfB K C)))))))))
structure XFacts (P : Program) (G : Gam) (mg : Str → Option Value) (c : String) (C fI : Addr) (fd : FuncData) (slf x f : Str) : Prop where
  T : XCls G G.K c C fI
  I : XIn P G.K mg C fI fd slf x f
  F : XfC G.K C
  B : Binds G.K fd [slf, x] []
theorem xfacts_of {P : Program} {G : Gam} {mg : Str → Option Value} {c : String} {C fI NS cda cc : Addr} {st : Stmt} {slf x f nm q name qual file : Str} {bs bm sub : List Value} {sn : List Str} {ab : Bool} {col : Option Bool} {dd : Option Addr} {k0 k1 k2 k3 k5 : Option Value}
    {oc dV kV doc pm ct ccl cl : Value} {od an cdd cld : Option Addr} {osl ccs csl : Array (Option Value)} {vs : Array Value} {tf : Tok}
    (hct : G.ct c = some C) (xl : G.K.lookup C = some (excClassObj nm q C NS bs bm true sn sub ab col dd k0 k1 k2 k3 k5 "ValueError.__new__")) (xr : PySem.HandSPX.refsVE bm = true) (xi : PySem.W.findIn G.K (.ref C) "__init__" = some (some (.ref fI)))
    (xf : G.K.lookup fI = some ⟨oc, od, .func (PySem.W.fnX name qual (defArgs st) (defBody st) (defScope st) [("__class__", cc)] dV kV doc pm an (.ref cda) ct), osl⟩) (xc : PySem.W.codeIn G.K (.ref cda) qual = true) (xd : G.K.lookup cda = some ⟨ccl, cdd, .fields vs, ccs⟩) (xv : vs[2]? = some (.str file tf))
    (xe : ((P.main.file : Str) == file) = true) (xk : G.K.lookup cc = some ⟨cl, cld, .cell (some (.ref C)), csl⟩) (xB : xcB G.K C fI f = true) (xt : (P.main.scope.names.lookup ("super" : Str)).isSome = false) (xs : mg "super" = none) (sh : XSh st slf x f)
    (d1 : (slf == ("__debug__" : Str)) = false) (d2 : (x == ("__debug__" : Str)) = false) (d3 : slf ≠ x) (hb : ∀ us : List Value, us.length = 2 → bindArgs (PySem.W.fnX name qual (defArgs st) (defBody st) (defScope st) [("__class__", cc)] dV kV doc pm an (.ref cda) ct) ⟨us, []⟩ = pure ([slf, x].zip us)) :
    XFacts P G mg c C fI (PySem.W.fnX name qual (defArgs st) (defBody st) (defScope st) [("__class__", cc)] dV kV doc pm an (.ref cda) ct) slf x f := by
  unfold xcB at xB
  simp only [Bool.and_eq_true, beq_iff_eq] at xB
  obtain ⟨b1, b2, b3, b4, b5, b6, b7, b8, b9, b10, b11⟩ := xB
  obtain ⟨ar, p0, p1, p2, p3, p4, p5, p6, p7, p8, p9, s1, s2, s3, s4, s5, s6, s7, s8, s9, s10, s11, s12⟩ := sh
  have oex : OexC G.K C := ⟨⟨nm, q, NS, bs, bm, sn, sub, ab, col, dd, k0, k1, k2, k3, k5, xl, xr⟩, b1, b2, b3, b4⟩
  refine ⟨⟨hct, xi, b5, oex⟩, ⟨⟨oc, doc, pm, dV, kV, ct, ccl, cl, od, an, cdd, cld, osl, ccs, csl, cda, cc, name, qual, file, defArgs st, defScope st, vs, tf, ar, p0, p1, p2, p3, p4, p5, p6, p7, p8, p9, by rw [s1], xf, xc, s2, s3, xd, xv, xe, xk, s4, s5, s6, s7, s8, s9, s10, s11, s12⟩, xt, xs, b6, b7, b8, b9, oex, b10, d1, d2, d3⟩, xfB_ok b11, .all hb⟩
/-! ### handlers without addresses -/
def HdR.bare (h : HdR) : HdR := ⟨.none, h.oi, h.m, h.f⟩
theorem catch_bare (x : Xc) : ∀ (hs : List HdR) (s : DS), catchD (hs.map HdR.bare) x s = catchD hs x s
  | [], s => rfl
  | ⟨_, none, m, f⟩ :: r, s => by
    show (match m x.cls with | some true => noX (f x s) | some false => catchD (r.map HdR.bare) x s | none => .stuck) = _
    rw [catch_bare x r s]
    rfl
  | ⟨_, some i, m, f⟩ :: r, s => by
    show (match m x.cls with | some true => (if i < s.sl.length then unD i (noX (f x ⟨s.sl.set i .un, s.st⟩)) else .stuck) | some false => catchD (r.map HdR.bare) x s | none => .stuck) = _
    rw [catch_bare x r s]
    rfl
theorem try_bare (b : DStm) (hs : List HdR) : sTry b (hs.map HdR.bare) = sTry b hs := by
  funext s
  unfold sTry
  cases b s with
  | exc x s1 => exact catch_bare x hs s1
  | ok o s1 => rfl
  | stuck => rfl
def hmT (yes no : List String) : String → Option Bool := fun k => if k ∈ yes then some true else if k ∈ no then some false else none
theorem mok_of {G : Gam} {K : PySem.W.Frag} {c : Value} {oi : Option Nat} {f : Xc → DStm} {yes no : List String} (h1 : ∀ k ∈ yes, ∀ C, G.ct k = some C → PySem.W.exmOne K (.ref C) c = some true) (h2 : ∀ k ∈ no, ∀ C, G.ct k = some C → PySem.W.exmOne K (.ref C) c = some false) : MOk G K ⟨c, oi, hmT yes no, f⟩ := by
  intro k b h C hC
  simp only [hmT] at h
  split at h
  · cases h; exact h1 k (by assumption) C hC
  · split at h
    · cases h; exact h2 k (by assumption) C hC
    · cases h
section
variable {G : Gam} {W : WX} {X : Cx}
theorem pds_tryB {bd : List Stmt} {g0 : ExceptHandler} {gs : List ExceptHandler} {hs : List HdR} {tpos : Pos} {fb : DStm} (est : X.stack = X.env :: X.outer) (efr : X.env.frame = some X.env.locals) (nd : X.N.Nodup) (tk : Takes X W)
    (hbd : ∀ (Wi : WX) (pn : List (Addr × Obj)) (xe : Value → Shared → Prop), Takes (X.tr pn xe) Wi → PassesOwn (model X.prog X.w) X.A X.env xe → PDSs G Wi (X.tr pn xe) bd fb) (hm : ∀ h ∈ hs, MOk G X.K h)
    (hh : HdA X (g0 :: gs) (hs.map fun h => (h.c, h.oi, tSu G h))) : PDS G W X (.Try bd (g0 :: gs) [] [] tpos) (sTry fb (hs.map HdR.bare)) := by
  rw [try_bare]
  exact pds_try est efr nd tk hbd hm hh
end
end DL
set_option maxRecDepth 100000
set_option maxHeartbeats 4000000
set_option autoImplicit false
namespace DL
open PySem PySem.Spec PyProof.Rows L2
/-! ### the lambdas of a text, in their order -/
abbrev LSite := Arguments × Expr × Scope
def lamsE : Nat → Expr → List LSite
  | 0, _ => []
  | n + 1, e => match e with
    | .Lambda a b s _ => [(a, b, s)]
    | .BoolOp _ vs _ => vs.flatMap (lamsE n)
    | .BinOp a _ b _ => lamsE n a ++ lamsE n b
    | .UnaryOp _ a _ => lamsE n a
    | .IfExp a b c _ => lamsE n a ++ lamsE n b ++ lamsE n c
    | .Compare a _ cs _ => lamsE n a ++ cs.flatMap (lamsE n)
    | .Call f as _ _ => lamsE n f ++ as.flatMap (lamsE n)
    | .Attribute a _ _ => lamsE n a
    | .Subscript a b _ => lamsE n a ++ lamsE n b
    | .List es _ => es.flatMap (lamsE n)
    | .Tuple es _ _ => es.flatMap (lamsE n)
    | _ => []
def lamsS : Nat → Stmt → List LSite
  | 0, _ => []
  | n + 1, s => match s with
    | .Return (some e) _ => lamsE 30 e
    | .Assign _ e _ => lamsE 30 e
    | .Expr e _ => lamsE 30 e
    | .AugAssign _ _ e _ => lamsE 30 e
    | .For _ e b _ _ => lamsE 30 e ++ b.flatMap (lamsS n)
    | .While e b _ _ => lamsE 30 e ++ b.flatMap (lamsS n)
    | .If e b c _ => lamsE 30 e ++ b.flatMap (lamsS n) ++ c.flatMap (lamsS n)
    | _ => []
def lamsOf (st : Stmt) : List LSite := (defBody st).flatMap (lamsS 12)
def siteOf (ns : List String) (st : Stmt) : String → Option LSite := fun k => (ns.zip (lamsOf st)).lookup k
section
variable {G : Gam} {W : WX} {X : Cx}
theorem lamsOk_nil {T : LamT} {k : Nat} : LamsOk G X T k (fun n => List.lookup n []) := fun n b h => by simp at h
theorem lamsOk_cons {T : LamT} {k : Nat} {n0 : String} {pr : Arguments} {bd : Expr} {sc : Scope} {b : DE} {L : List (String × DE)} (hs : T.site n0 = some (pr, bd, sc)) (B : LamB G X k pr bd sc b) (r : LamsOk G X T k (fun n => List.lookup n L)) : LamsOk G X T k (fun n => List.lookup n ((n0, b) :: L)) := fun n b' h => by
  have h : List.lookup n ((n0, b) :: L) = some b' := h
  by_cases e : n = n0
  · subst e
    rw [List.lookup_cons_self] at h
    cases h
    exact ⟨pr, bd, sc, hs, B⟩
  · have h1 : (n == n0) = false := beq_eq_false_iff_ne.mpr e
    simp only [List.lookup_cons, h1] at h
    exact r n b' h
theorem fn_stuck {P : Program} {w0 : World} {mg : Str → Option Value} {base : Heap} {f : Addr} {fd : FuncData} {ps : List Str} {k n : Nat} (hn : ps.length = n) : FnOk P w0 G.K mg base (L2.CX P w0) k f fd ps (spG G n (fun _ _ => .stuck)) :=
  ⟨fun vs H Q E h => by rw [h.1, hn], fun A outer s H args us vs Q E hr e0 hb r h => by
    obtain ⟨_, w, S, ds, _, _, q⟩ := h
    exact q.elim⟩
theorem BodyL.mono {P : Program} {w0 : World} {mg : Str → Option Value} {base : Heap} {j k : Nat} {N : List Str} {qual : Str} {st : Stmt} {f : Addr} {a : Str} {i : Nat} {body : LamR → DStm} (h : BodyL G P w0 mg base j N qual st f a i body) (hk : j ≤ k) : BodyL G P w0 mg base k N qual st f a i body :=
  fun Λ cdv A outer s H E hr => h Λ cdv A outer s H E (hr.mono hk)
end
theorem lawAt_of {G : Gam} {l : PySem.W.OpenLaw} {w : World} {k : Nat} {x : Str} {mg : Str → Option Value} {fa : Addr} {h : Heap} {fd : FuncData} {g : DFn} (Ms : List (String × Addr × Addr))
    (ht : ∀ m ∈ Ms, PySem.W.CodeHd h m.2.1 m.2.2 ∧ h.get? m.2.2 = some { cls := .none, data := .fields #[] }) (nl : ∀ m ∈ Ms, G.K.lookup m.2.2 = none) (nd : (Ms.map (·.2.2)).Nodup) (hb : ∀ (s : Shared) (u : Value), BindsTo s fd ⟨[u], []⟩ [(x, u)])
    (F : ∀ base : Heap, (∀ m ∈ Ms, LamX.TabB base mg m.2.1 m.2.2) → FnOk l.prog w G.K mg base (L2.CX l.prog w) k fa fd [x] (spG G 1 g)) (htab : ∀ m ∈ Ms, ∀ F, G.tab m.1 m.2.2 F (.tbl #[]))
    (hl : ∀ ns : List Int, ns.length ≤ 63 → (∀ z ∈ ns, Builtin.Int.intBits z ≤ 1048576) → ∃ S, g [.scr (ns.map D.int)] (Ms.map fun m => .tab m.1) = .ok (.bl true) S) : LamX.LawAtS l w G.K (L2.CX l.prog w) k 63 x mg fa h := by
  refine ⟨fd, Ms.map (·.2), spLawT G.K (Ms.map (·.2.2)), fun p hp => ?_, fun p hp => ?_, fun p hp => ?_, hb, fun H a ns h1 h2 h3 h4 => ⟨a, ns, rfl, h4, h1, h2, fun P hP => ?_, fun _ => rfl⟩, fun base _ _ tb => ?_⟩
  · obtain ⟨m, hm, rfl⟩ := List.mem_map.mp hp
    exact (ht m hm).2
  · obtain ⟨m, hm, rfl⟩ := List.mem_map.mp hp
    exact nl m hm
  · obtain ⟨m, hm, rfl⟩ := List.mem_map.mp hp
    exact (ht m hm).1
  · obtain ⟨m, hm, rfl⟩ := List.mem_map.mp hP
    exact h3 _ (List.mem_map.mpr ⟨m, hm, rfl⟩)
  · have e : Ms.map (·.2.2) = (Ms.map fun m => (m.1, m.2.2)).map (·.2) := by simp
    rw [e]
    refine law_endT (F base fun m hm => tb _ (List.mem_map.mpr ⟨m, hm, rfl⟩)) (by rw [← e]; exact nd) (fun m hm F => ?_) fun ns h1 h2 => ?_
    · obtain ⟨m', hm', rfl⟩ := List.mem_map.mp hm
      exact htab m' hm' F
    · have e2 : ((Ms.map fun m => (m.1, m.2.2)).map fun m => Cell.tab m.1) = Ms.map fun m => .tab m.1 := by simp
      rw [e2]
      exact hl ns h1 h2
end DL
set_option maxRecDepth 100000
set_option maxHeartbeats 4000000
set_option autoImplicit false
namespace DL
open PySem PySem.Spec PyProof.Rows L2
section
variable {G : Gam} {W : WX} {X : Cx}
/-! ### x in y, x not in y -/
def flD : D → Bool
  | .non => true
  | .bl _ => true
  | .int _ => true
  | .str _ => true
  | _ => false
def eqFl : D → D → Bool
  | .non, .non => true
  | .bl a, .bl b => a == b
  | .bl a, .int b => (if a then 1 else 0) == b
  | .int a, .bl b => a == (if b then 1 else 0)
  | .int a, .int b => a == b
  | .str a, .str b => a == b
  | _, _ => false
theorem fl_rep {w : Wd} {v : V} {d : D} (r : Rep G w v d) (h : flD d = true) : flatV v = true := by
  cases r <;> first | rfl | cases h
theorem eq_rep {w : Wd} {v u : V} {d e : D} (r : Rep G w v d) (r' : Rep G w u e) (h : flD d = true) (h' : flD e = true) : eqV v u = eqFl d e := by
  cases r <;> first | (cases h; done) | skip
  all_goals cases r' <;> first | (cases h'; done) | rfl | skip
  rename_i l m
  show (nm l == nm m) = (l == m)
  by_cases e : l = m
  · subst e; simp
  · rw [beq_eq_false_iff_ne.mpr e, beq_eq_false_iff_ne.mpr fun z => e (nm_inj z)]
theorem fls_rep {w : Wd} : ∀ {vs : List V} {ds : List D}, Reps G w vs ds → ds.all flD = true → vs.all flatV = true
  | _, _, .nil, _ => rfl
  | _, _, .cons a b, h => by
    rw [List.all_cons, Bool.and_eq_true] at h ⊢
    exact ⟨fl_rep a h.1, fls_rep b h.2⟩
theorem any_rep {w : Wd} {u : V} {e : D} (r' : Rep G w u e) (h' : flD e = true) : ∀ {vs : List V} {ds : List D}, Reps G w vs ds → ds.all flD = true → vs.any (fun y => eqV y u) = ds.any (fun y => eqFl y e)
  | _, _, .nil, _ => rfl
  | _, _, .cons a b, h => by
    rw [List.all_cons, Bool.and_eq_true] at h
    rw [List.any_cons, List.any_cons, eq_rep a r' h.1 h', any_rep r' h' b h.2]
def inS (neg : Bool) : D → D → Option D := fun x y => match x, y with
  | .str [c], .str l => some (.bl (if neg then !decide (c ∈ l) else decide (c ∈ l)))
  | _, _ => none
def inF (neg : Bool) : D → D → Option D := fun x y => match y with
  | .tup ds => if flD x = true ∧ ds.all flD = true then some (.bl (if neg then !(ds.any fun z => eqFl z x) else ds.any fun z => eqFl z x)) else none
  | .lst ds => if flD x = true ∧ ds.all flD = true then some (.bl (if neg then !(ds.any fun z => eqFl z x) else ds.any fun z => eqFl z x)) else none
  | _ => none
def inP (neg : Bool) : D → D → Option D := fun x y => match toPy x, toPy y with
  | some p, some (.list qs) => if SeqAt.shaped p && SeqAt.shaped (.list qs) then some (.bl (if neg then !(qs.any fun z => PyData.eqv z p) else qs.any fun z => PyData.eqv z p)) else none
  | _, _ => none
theorem nm_list (l : Nm) : (nm l).cps.toList = l := by simp [nm]
theorem opd_inS : OpD G X (compareOp .In) (inS false) := ⟨_, op_in_sign, fun κ w s σ H x y dx dy d Q ok rx ry e q => by
  unfold inS at e
  split at e
  · rename_i c l
    cases e
    cases rx
    cases ry
    exact ⟨c, nm l, rfl, rfl, by rw [nm_list]; exact q w _ H (.refl _) ok (.bl _)⟩
  · cases e⟩
theorem opd_notInS : OpD G X (compareOp .NotIn) (inS true) := ⟨_, op_notIn_sign, fun κ w s σ H x y dx dy d Q ok rx ry e q => by
  unfold inS at e
  split at e
  · rename_i c l
    cases e
    cases rx
    cases ry
    exact ⟨c, nm l, rfl, rfl, by rw [nm_list]; exact q w _ H (.refl _) ok (.bl _)⟩
  · cases e⟩
theorem inF_of (hK : G.K = X.K) {neg : Bool} {κ : Bs} {w : Wd} {s : DS} {σ : L2.St} {H : Hp} {x y : V} {dx dy d : D} {Q : VK} (ok : Ok G κ w s σ H) (rx : Rep G w x dx) (ry : Rep G w y dy) (e : inF neg dx dy = some d) (q : ∀ w' v H', w.le w' → Ok G κ w' s σ H' → Rep G w' v d → Q v H') : rIn X.K neg x y H Q := by
  unfold inF at e
  split at e
  · split at e
    · rename_i h
      cases e
      cases ry with
      | tup h1 r1 =>
        refine ⟨_, _, rfl, .inr (hK ▸ SqT.le h1 ok.fok.sub), fl_rep rx h.1, fls_rep r1 h.2, ?_⟩
        unfold inV
        rw [any_rep rx h.1 r1 h.2]
        exact q w _ H (.refl _) ok (.bl _)
    · cases e
  · split at e
    · rename_i h
      cases e
      cases ry with
      | lst h1 r1 =>
        refine ⟨_, _, rfl, .inl (.inl (.inl (ok.fok.sub _ _ h1))), fl_rep rx h.1, fls_rep r1 h.2, ?_⟩
        unfold inV
        rw [any_rep rx h.1 r1 h.2]
        exact q w _ H (.refl _) ok (.bl _)
    · cases e
  · cases e
theorem opd_inF (hK : G.K = X.K) : OpD G X (compareOp .In) (inF false) := ⟨_, op_in_seq, fun κ w s σ H x y dx dy d Q ok rx ry e q => inF_of hK ok rx ry e q⟩
theorem opd_notInF (hK : G.K = X.K) : OpD G X (compareOp .NotIn) (inF true) := ⟨_, op_notIn_seq, fun κ w s σ H x y dx dy d Q ok rx ry e q => inF_of hK ok rx ry e q⟩
theorem inP_py {neg : Bool} {dx dy d : D} (e : inP neg dx dy = some d) : ∃ p qs, toPy dx = some p ∧ toPy dy = some (.list qs) ∧ SeqAt.shaped p = true ∧ SeqAt.shaped (.list qs) = true ∧ d = .bl (if neg then !(qs.any fun z => PyData.eqv z p) else qs.any fun z => PyData.eqv z p) := by
  unfold inP at e
  split at e
  · rename_i p qs h1 h2
    split at e
    · rename_i h
      cases e
      rw [Bool.and_eq_true] at h
      exact ⟨p, qs, h1, h2, h.1, h.2, rfl⟩
    · cases e
  · cases e
theorem opd_inP (hK : G.K = X.K) (hu : X.A.units + 65 < cLine) : OpD G X (compareOp .In) (inP false) := ⟨_, op_inD hu, fun κ w s σ H x y dx dy d Q ok rx ry e q => by
  obtain ⟨p, qs, h1, h2, s1, s2, rfl⟩ := inP_py e
  exact ⟨p, qs, rx.py hK ok h1, ry.py hK ok h2, s1, s2, q w _ H (.refl _) ok (.bl _)⟩⟩
theorem opd_notInP (hK : G.K = X.K) (hu : X.A.units + 65 < cLine) : OpD G X (compareOp .NotIn) (inP true) := ⟨_, op_notInD hu, fun κ w s σ H x y dx dy d Q ok rx ry e q => by
  obtain ⟨p, qs, h1, h2, s1, s2, rfl⟩ := inP_py e
  exact ⟨p, qs, rx.py hK ok h1, ry.py hK ok h2, s1, s2, q w _ H (.refl _) ok (.bl _)⟩⟩
def dIn (neg : Bool) : D → D → Option D := fun x y => (inS neg x y).orElse fun _ => (inF neg x y).orElse fun _ => inP neg x y
theorem room65 {A : Around} {k : Nat} (hr : Room k A) : A.units + 65 < cLine := by have := hr.un; omega
theorem opd_in (hK : G.K = X.K) (hu : X.A.units + 65 < cLine) : OpD G X (compareOp .In) (dIn false) := (opd_inS.or ((opd_inF hK).or (opd_inP hK hu))).congr fun x y => rfl
theorem opd_notIn (hK : G.K = X.K) (hu : X.A.units + 65 < cLine) : OpD G X (compareOp .NotIn) (dIn true) := (opd_notInS.or ((opd_notInF hK).or (opd_notInP hK hu))).congr fun x y => rfl
/-! ### n.bit_length(), divmod -/
def eBits (f : DE) : DE := fun s => (f s).bind fun d s1 => match d with
  | .int i => .ok (.int (Builtin.Int.intBits i : Nat)) s1
  | _ => .stuck
theorem pd_bits {o : Expr} {f : DE} {apos pos : Pos} (ho : PD G W X o f) (hbase : attributeBase o "bit_length" X.env (eval o X.env) = eval o X.env := by rfl) (hline : (apos.endLine == pos.line) = true := by rfl) : PD G W X (.Call (.Attribute o "bit_length" apos) [] [] pos) (eBits f) :=
  (pe_bits ho hbase hline).imp fun σ H Q ⟨κ, w, s, ok, q⟩ => ⟨κ, w, s, ok, (PostG.bind q).imp fun v H1 ⟨d, s1, w1, le, ok1, r1, q1⟩ => by
    cases r1 with
    | int i => exact ⟨i, rfl, q1 w1 _ H1 (.refl _) ok1 (.int _)⟩
    | _ => exact q1.elim⟩
def bDivmod : List D → Option D
  | [.int i, .int j] => if 0 < j ∧ divOk j = true then some (.tup [.int (i.fdiv j), .int (i.fmod j)]) else none
  | _ => none
theorem pylong_no {i j : Int} (h : j.natAbs.log2 < 9000) : Builtin.divisionGoesByPylong i j = false := by
  unfold Builtin.divisionGoesByPylong
  have : ¬ ((if (j == 0) = true then 0 else j.natAbs.log2 / 30 + 1) > 300) := by
    split
    · omega
    · omega
  simp only [Bool.and_eq_false_iff, decide_eq_false_iff_not]
  exact .inl this
theorem cd_divmod : CallD G X (.builtin "divmod") bDivmod := ⟨_, call_divmodW, fun κ w s σ H vs ds d Q ok rs e q => by
  unfold bDivmod at e
  split at e
  · rename_i i j
    split at e
    · rename_i h
      cases e
      cases rs with
      | cons a rs =>
      cases rs with
      | cons b rs =>
      cases rs
      cases a
      cases b
      have hd := h.2
      unfold divOk at hd
      have hd := of_decide_eq_true hd
      refine ⟨i, j, rfl, ⟨h.1, pylong_no hd.2⟩, fun p hp => ?_⟩
      rw [Int.fdiv_eq_ediv_of_nonneg i (Int.le_of_lt h.1), Int.fmod_eq_emod_of_nonneg i (Int.le_of_lt h.1)] at q
      obtain ⟨le, ok'⟩ := ok.alloc hp (.tup [.int (i / j), .int (i % j)])
      exact q _ _ _ le ok' (.tup (.inl (.inl upd_same)) (.cons (.int _) (.cons (.int _) .nil)))
    · cases e
  · cases e⟩
/-! ### methods of built-in types -/
def MtD (G : Gam) (X : Cx) (T id : String) (o : D → List D → Option D) : Prop := ∃ r, MtR X id r ∧ (∀ (κ : Bs) (w : Wd) (s : DS) (σ : L2.St) (H : Hp) (x : V) (vs : List V) (dx : D) (ds : List D) (d : D) (Q : VK), Ok G κ w s σ H → Rep G w x dx → Reps G w vs ds → o dx ds = some d →
  (∀ w' v H', w.le w' → Ok G κ w' s σ H' → Rep G w' v d → Q v H') → r x vs H Q) ∧ ∀ (κ : Bs) (w : Wd) (s : DS) (σ : L2.St) (H : Hp) (x : V) (dx : D), Ok G κ w s σ H → Rep G w x dx → tyOk T dx = true → tyV X.K T x H
where
  tyOk (T : String) : D → Bool
  | .str _ => T == "str"
  | .lst _ => T == "list"
  | .dic _ => T == "dict"
  | _ => false
def eBM (T : String) (o : D → List D → Option D) (fo : DE) (fa : DA) : DE := fun s => (fo s).bind fun x s1 => if MtD.tyOk T x = true then (fa s1).bind fun ds s2 => match o x ds with
  | some d => .ok d s2
  | none => .stuck
  else .stuck
theorem pd_bm {T id : String} {name : Str} {o : D → List D → Option D} {oe e : Expr} {es : List Expr} {fo : DE} {fa : DA} {apos cpos : Pos} (pa : PlainAttrs T) (slot : Slot T name id) (hty : typeOf (.builtin id) = pure (.type "method_descriptor")) (hm : MtD G X T id o) (ho : PD G W X oe fo) (ha : PDA G W X (e :: es) fa)
    (hbase : attributeBase oe name X.env (eval oe X.env) = eval oe X.env := by rfl)
    (hfew : ((backTo cpos (starEach (e :: es) X.env)).all (fun x => !x.1) && (backToKw cpos (keywordEach [] X.env)).all (fun x => x.1.isSome)
      && decide ((e :: es).length + ([] : List Keyword).length + (if ([] : List Keyword).isEmpty then 0 else 1) < 30)) = true := by rfl)
    (hline : (apos.endLine == cpos.line) = true := by rfl) (hs : starEach (e :: es) X.env = (false, eval e X.env) :: starEach es X.env := by rfl) (hplain : (backTo cpos (starEach es X.env)).any (·.1) = false := by rfl) :
    PD G W X (.Call (.Attribute oe name apos) (e :: es) [] cpos) (eBM T o fo fa) := by
  obtain ⟨r, h1, h2, h3⟩ := hm
  refine (pe_bm pa slot hty h1 ho ha hbase hfew hline hs hplain).imp fun σ H Q ⟨κ, w, s, ok, q⟩ => ⟨κ, w, s, ok, (PostG.bind q).imp fun v H1 ⟨d, s1, w1, le, ok1, r1, q1⟩ => ?_⟩
  by_cases ht : MtD.tyOk T d = true
  · rw [if_pos ht] at q1
    refine ⟨h3 κ w1 s1 σ H1 v d ok1 r1 ht, κ, w1, s1, ok1, (PostG.bind q1).imp fun vs H2 ⟨ds, s2, w2, le2, ok2, r2, q2⟩ => ?_⟩
    cases e : o d ds with
    | none => rw [e] at q2; exact q2.elim
    | some z => rw [e] at q2; exact h2 κ w2 s2 σ H2 v vs d ds z Q ok2 (r1.mono le2) r2 e q2
  · rw [if_neg ht] at q1
    exact q1.elim
theorem ty_ok {T : String} {κ : Bs} {w : Wd} {s : DS} {σ : L2.St} {H : Hp} {x : V} {dx : D} (ok : Ok G κ w s σ H) (r : Rep G w x dx) (h : MtD.tyOk T dx = true) : tyV X.K T x H := by
  cases r <;> first | (cases h; done) | skip
  · exact beq_iff_eq.mp h
  · rename_i h1 _
    exact .inl ⟨beq_iff_eq.mp h, _, .inl (.inl (ok.fok.sub _ _ h1))⟩
  · rename_i h1 _
    exact .inr (.inr (.inl ⟨beq_iff_eq.mp h, .inl ⟨_, ok.fok.sub _ _ h1⟩⟩))
/-- texts of a list -/
def strsOf : List D → Option (List Nm)
  | [] => some []
  | .str l :: r => (strsOf r).map fun m => l :: m
  | _ => none
theorem strs_rep {w : Wd} : ∀ {vs : List V} {ds : List D} {ls : List Nm}, Reps G w vs ds → strsOf ds = some ls → vs = (ls.map nm).map V.str
  | _, _, _, .nil, h => by cases h; rfl
  | _, _, ls, .cons a b, h => by
    cases a <;> first | (simp [strsOf] at h; done) | skip
    simp only [strsOf, Option.map_eq_some_iff] at h
    obtain ⟨m, hm, rfl⟩ := h
    rw [strs_rep b hm]
    rfl
def mJoin : D → List D → Option D
  | .str a, [.lst ds] => match strsOf ds with
    | some ls => if (ls.map (·.length)).sum + ls.length * a.length ≤ 16777216 then some (.str (TL.joinL a ls)) else none
    | none => none
  | _, _ => none
theorem join_nm (a : Nm) (ls : List Nm) : Txt.join (nm a) (ls.map nm) = nm (TL.joinL a ls) := by
  have h := TL.tl_join (nm a) (ls.map nm)
  rw [← TL.join_eq, show TL.tl (nm a) = a from nm_list a, List.map_map] at h
  have e : (TL.tl ∘ nm) = id := by funext l; exact nm_list l
  rw [e, List.map_id] at h
  have : ∀ x : Str, x = nm (TL.tl x) := fun x => by simp [nm, TL.tl]
  rw [this (Txt.join _ _), h]
theorem mtd_join : MtD G X "str" "str.join" mJoin := by
  refine ⟨_, mt_join, fun κ w s σ H x vs dx ds d Q ok rx rs e q => ?_, fun κ w s σ H x dx ok r h => ty_ok ok r h⟩
  unfold mJoin at e
  split at e
  · rename_i a ds'
    split at e
    · rename_i ls hl
      split at e
      · rename_i hz
        cases e
        cases rx
        cases rs with
        | cons r1 rs =>
        cases rs
        cases r1 with
        | lst h1 r1 =>
        have := strs_rep r1 hl
        subst this
        refine ⟨nm a, _, ls.map nm, rfl, rfl, .inl (.inl (.inl (ok.fok.sub _ _ h1))), ?_, by rw [join_nm]; exact q w _ H (.refl _) ok (.str _)⟩
        have e1 : (ls.map nm).map (·.length) = ls.map (·.length) := by
          rw [List.map_map]
          apply List.map_congr_left
          intro l _
          show (nm l).cps.size = l.length
          simp [nm]
        have e2 : (nm a).length = a.length := by show (nm a).cps.size = _; simp [nm]
        rw [e1, e2, List.length_map]
        exact hz
      · cases e
    · cases e
  · cases e
end
end DL
set_option maxRecDepth 100000
set_option maxHeartbeats 4000000
set_option autoImplicit false
namespace DL
open PySem PySem.Spec PyProof.Rows L2
section
variable {G : Gam} {W : WX} {X : Cx}
/-! ### an own list, looked at without giving it away -/
def eIxO (i : Nat) (fb : DE) : DE := fun s => match s.sl[i]? with
  | some (.ol _) => (fb s).bind fun y s1 => match y, s1.sl[i]? with
    | .int k, some (.ol xs) => (match L2.atI xs k with | some d => .ok d s1 | none => .stuck)
    | _, _ => .stuck
  | some (.val x) => (fb s).bind fun y s1 => match y with
    | .int k => (match ixD x k with | some d => .ok d s1 | none => .stuck)
    | _ => .stuck
  | _ => .stuck
theorem ix_run (hK : G.K = X.K) {κ : Bs} {w : Wd} {s : DS} {σ : L2.St} {H : Hp} {v : V} {dx z : D} {k : Int} {Q : VK} (ok : Ok G κ w s σ H) (r1 : Rep G w v dx) (e : ixD dx k = some z) (q : PostG G W (Rep G) κ w σ (.ok z s) Q) : rIx X.K v (.int k) H Q := by
  cases r1 with
  | @tup p vs ds e1 r1 =>
    obtain ⟨y, h1, h2⟩ := Reps.atI r1 e
    exact .inr (.inl ⟨p, vs, k, y, rfl, rfl, hK ▸ SqT.le e1 ok.fok.sub, h1, q w y H (.refl _) ok h2⟩)
  | @lst p vs ds e1 r1 =>
    obtain ⟨y, h1, h2⟩ := Reps.atI r1 e
    exact .inl ⟨p, vs, k, y, rfl, rfl, .inl (.inl (ok.fok.sub _ _ e1)), h1, q w y H (.refl _) ok h2⟩
  | @scr p vs ds e1 r1 =>
    obtain ⟨y, h1, h2⟩ := Reps.atI r1 e
    exact .inl ⟨p, vs, k, y, rfl, rfl, hK ▸ SqL.le e1 ok.fok.sub, h1, q w y H (.refl _) ok h2⟩
  | str l =>
    have e : (if l.length ≤ 16777216 then (L2.atI l k).map fun c => D.str [c] else none) = some z := e
    split at e
    · rename_i hl
      cases e3 : L2.atI l k with
      | none => simp [e3] at e
      | some c =>
        simp only [e3, Option.map_some, Option.some.injEq] at e
        subst e
        refine .inr (.inr ⟨nm l, k, c, rfl, rfl, by rw [nm_len, sizeLine_eq]; exact hl, by simpa [nm] using e3, ?_⟩)
        exact q w _ H (.refl _) ok (.str [c])
    · cases e
  | _ => cases e
theorem pd_ixO (hK : G.K = X.K) {i : Nat} {x : Str} {p pos : Pos} {b : Expr} {fb : DE} (ho : PE X (.Name x p) (tVar i)) (hb : PD G W X b fb) (hs : PlainIx b) : PD G W X (.Subscript (.Name x p) b pos) (eIxO i fb) :=
  (pe_ix ix_seq ho hb hs).imp fun σ H Q ⟨κ, w, s, ok, q⟩ => by
    unfold eIxO at q
    cases e : s.sl[i]? with
    | none => rw [e] at q; exact q.elim
    | some y =>
      rw [e] at q
      cases y with
      | ol xs0 =>
        obtain ⟨a, vs, h1, h2, h3⟩ := own_list ok e
        refine ⟨.ref a, h1, κ, w, s, ok, (PostG.bind q).imp fun v2 H2 ⟨d2, s2, w2, le2, ok2, r2, q2⟩ => ?_⟩
        cases r2 with
        | int k =>
          cases e1 : s2.sl[i]? with
          | none => rw [e1] at q2; exact q2.elim
          | some z =>
            rw [e1] at q2
            cases z with
            | ol xs =>
              replace q2 : PostG G W (Rep G) κ w2 σ (match L2.atI xs k with | some d => .ok d s2 | none => .stuck) Q := q2
              obtain ⟨a', vs', g1, g2, g3⟩ := own_list ok2 e1
              rw [h1] at g1
              cases g1
              cases e2 : L2.atI xs k with
              | none => rw [e2] at q2; exact q2.elim
              | some d =>
                rw [e2] at q2
                obtain ⟨y, h1, h2⟩ := Reps.atI g3 e2
                exact .inl ⟨a, vs', k, y, rfl, rfl, .inl (.inl g2), h1, q2 w2 y H2 (.refl _) ok2 h2⟩
            | _ => exact q2.elim
        | _ => exact q2.elim
      | val dx =>
        obtain ⟨v, h1, r1⟩ := ok.val i dx e
        refine ⟨v, h1, κ, w, s, ok, (PostG.bind q).imp fun v2 H2 ⟨d2, s2, w2, le2, ok2, r2, q2⟩ => ?_⟩
        cases r2 with
        | int k =>
          replace q2 : PostG G W (Rep G) κ w2 σ (match ixD dx k with | some d => .ok d s2 | none => .stuck) Q := q2
          cases e2 : ixD dx k with
          | none => rw [e2] at q2; exact q2.elim
          | some z => rw [e2] at q2; exact ix_run hK ok2 (r1.mono le2) e2 q2
        | _ => exact q2.elim
      | _ => exact q.elim
/-- truth -/
def eTruO (i : Nat) : DT := fun s => match s.sl[i]? with
  | some (.ol xs) => .ok (!xs.isEmpty) s
  | some (.val d) => (match truD d with | some b => .ok b s | none => .stuck)
  | _ => .stuck
theorem ptd_truO (hK : G.K = X.K) {i : Nat} {x : Str} {p : Pos} (ho : PE X (.Name x p) (tVar i)) (he : ∀ whole, isTrue (.Name x p) X.env whole = (do let v ← whole; standAt (Expr.pos (.Name x p)); holding [v] (truthy v)) := by intro _; rfl) : PDT G W X (.Name x p) (eTruO i) :=
  (pt_truth ho he).imp fun σ H Q ⟨κ, w, s, ok, q⟩ => by
    unfold eTruO at q
    cases e : s.sl[i]? with
    | none => rw [e] at q; exact q.elim
    | some y =>
      rw [e] at q
      cases y with
      | ol xs =>
        obtain ⟨a, vs, h1, h2, h3⟩ := own_list ok e
        refine ⟨.ref a, h1, !xs.isEmpty, ?_, q w _ H (.refl _) ok rfl⟩
        exact .inl ⟨vs, .inl (.inl h2), by rw [h3.isEmpty]⟩
      | val d =>
        obtain ⟨v, h1, r1⟩ := ok.val i d e
        replace q : PostG G W (fun _ (v : Bool) d => v = d) κ w σ (match truD d with | some b => .ok b s | none => .stuck) Q := q
        cases e1 : truD d with
        | none => rw [e1] at q; exact q.elim
        | some k => rw [e1] at q; exact ⟨v, h1, k, truV_of hK ok r1 e1, q w k H (.refl _) ok rfl⟩
      | _ => exact q.elim
/-- x[i] = v -/
def sIxO (i : Nat) (fi fv : DE) : DStm := fun s => (fv s).bind fun d s1 => match s1.sl[i]? with
  | some (.ol _) => (fi s1).bind fun y s2 => match y, s2.sl[i]? with
    | .int k, some (.ol xs) => (match ixN xs.length k with | some j => .ok .nx ⟨s2.sl.set i (.ol (xs.set j d)), s2.st⟩ | none => .stuck)
    | _, _ => .stuck
  | _ => .stuck
theorem pds_ixO {i : Nat} {x : Str} {p tp pos : Pos} {b e : Expr} {fi fv : DE} (ho : PE X (.Name x p) (tVar i)) (hb : PD G WF X b fi) (he : PD G W X e fv) (hs : swapsWithSole [.Subscript (.Name x p) b tp] e pos.line X.env = pure false := by rfl) (hw : swappedStores [.Subscript (.Name x p) b tp] e X.env = pure none := by rfl)
    (h1 : (assignEach [.Subscript (.Name x p) b tp] X.env).map (·.2) = [assign (.Subscript (.Name x p) b tp) X.env] := by rfl)
    (ha : ∀ v, assign (.Subscript (.Name x p) b tp) X.env v = (do
      let ov ← holding [v] (eval (.Name x p) X.env)
      let iv ← holding [v, ov] (eval b X.env)
      standAt tp
      holding [v, ov, iv] (setItem ov iv v)
      release [v, ov, iv] []) := by intro _; rfl) (hcol : ∀ (s : DS), (∀ x s', fi s ≠ .exc x s')) : PDS G W X (.Assign [.Subscript (.Name x p) b tp] e pos) (sIxO i fi fv) :=
  (ps_asg he (pg_sub ho hb set_list ha) hs hw h1).imp fun N σ H ⟨κ, w, s, ok, q⟩ => ⟨κ, w, s, ok, (PostG.bindS q).imp fun v H1 ⟨d, s1, w1, le, ok1, r1, q1⟩ => by
    cases e : s1.sl[i]? with
    | none => rw [e] at q1; exact q1.elim
    | some y =>
      rw [e] at q1
      cases y with
      | ol xs0 =>
        obtain ⟨a, vs, h1, h2, h3⟩ := own_list ok1 e
        replace q1 : PostS G W κ w1 ((fi s1).bind fun y s2 => match y, s2.sl[i]? with
          | .int k, some (.ol xs) => (match ixN xs.length k with | some j => .ok .nx ⟨s2.sl.set i (.ol (xs.set j d)), s2.st⟩ | none => .stuck)
          | _, _ => .stuck) N := q1
        refine ⟨.ref a, h1, κ, w1, s1, ok1, ?_⟩
        cases ef : fi s1 with
        | stuck => rw [ef] at q1; exact q1.elim
        | exc z s' => exact absurd ef (hcol s1 z s')
        | ok d2 s2 =>
          rw [ef] at q1
          intro w2 v2 H2 le2 ok2 r2
          cases r2 with
          | int k =>
            cases e1 : s2.sl[i]? with
            | none => simp [e1] at q1; exact q1.elim
            | some z =>
              cases z with
              | ol xs =>
                simp only [Res.bind_ok, e1] at q1
                obtain ⟨a', vs', g1, g2, g3⟩ := own_list ok2 e1
                rw [h1] at g1
                cases g1
                cases e2 : ixN xs.length k with
                | none => rw [e2] at q1; exact q1.elim
                | some j =>
                  rw [e2] at q1
                  refine ⟨a, vs', k, j, rfl, rfl, g2, by rw [g3.length]; exact e2, ?_⟩
                  exact q1 w2 σ _ le2 (ok2.mut e1 rfl rfl h1 ⟨_, upd_same, Reps.set (r1.mono le2) j g3⟩ fun _ _ z => nomatch z)
              | _ => simp only [Res.bind_ok, e1] at q1; exact q1.elim
          | _ => simp only [Res.bind_ok] at q1; exact q1.elim
      | _ => exact q1.elim⟩
/-! ### len of an own list -/
def eLenO (i : Nat) : DE := fun s => match s.sl[i]? with
  | some (.ol xs) => .ok (.int xs.length) s
  | some (.val d) => (match bLen [d] with | some r => .ok r s | none => .stuck)
  | _ => .stuck
/-! ### a property -/
def eProp (c : String) (g : DFn) (f : DE) : DE := fun s => (f s).bind fun d s1 => match insOf d s1 with
  | some (c1, _) => if c1 = c then noX (lift s1 (g [d] s1.st)) else .stuck
  | none => .stuck
theorem pd_prop {c : String} {C p gf : Addr} {k : Nat} {fd : FuncData} {ps : List Str} {g : DFn} {e : Expr} {fe : DE} {f : Str} {pos : Pos} (hC : G.ct c = some C) (hcl : Cls X.K C) (hp : PropOf X.K C f p gf) (F : FnOk X.prog X.w X.K X.mg X.base (L2.CX X.prog X.w) k gf fd ps (spG G 1 g)) (hr : Room (k + 1) X.A) (hb : Binds X.K fd ps [])
    (he : PD G W X e fe) (hab : attributeBase e f X.env (eval e X.env) = eval e X.env := by rfl) : PD G W X (.Attribute e f pos) (eProp c g fe) :=
  (pe_prop (E := fun _ _ _ => False) he hcl hp F hr hb .nil (passes_call takes0 fun _ _ _ _ z => z) hab).imp fun σ H Q ⟨κ, w, s, ok, q⟩ => ⟨κ, w, s, ok, (PostG.bind q).imp fun v H1 ⟨d, s1, w1, le, ok1, r1, q1⟩ => by
    cases e1 : insOf d s1 with
    | none => rw [e1] at q1; exact q1.elim
    | some cf =>
      obtain ⟨c1, fs⟩ := cf
      rw [e1] at q1
      replace q1 : PostG G W (Rep G) κ w1 σ (if c1 = c then noX (lift s1 (g [d] s1.st)) else .stuck) Q := q1
      by_cases hc : c1 = c
      · rw [if_pos hc] at q1
        subst hc
        obtain ⟨a, C', dx, vs, rfl, hC', hH, _⟩ := r1.ins_of ok1 e1
        rw [hC] at hC'
        cases hC'
        refine ⟨a, dx, vs, rfl, hH, rfl, w1, s1.st, [d], ok1.fok, .cons r1 .nil, ?_⟩
        cases eg : g [d] s1.st with
        | stuck => rw [eg] at q1; exact q1.elim
        | exc x S => rw [eg] at q1; exact q1.elim
        | ok d' S => rw [eg] at q1; exact fun w' v H' n fk r => q1 w' v H' n.le (ok1.step n fk) r
      · rw [if_neg hc] at q1
        exact q1.elim⟩
/-! ### constants of the module: texts, numbers, tuples of them -/
def repK (K : PySem.W.Frag) : Nat → Value → D → Bool
  | 0, _, _ => false
  | n + 1, v, d => match v, d with
    | .none, .non => true
    | .bool b, .bl c => b == c
    | .int i _, .int j => i == j
    | .str x _, .str l => x == nm l
    | .ref a, .tup ds => match K.lookup a with
      | some o => o.cls == .type "tuple" && (match o.data with
        | .seq its _ => decide (its.size ≤ 1000) && go n its.toList ds
        | _ => false)
      | none => false
    | _, _ => false
where
  go (n : Nat) : List Value → List D → Bool
  | [], [] => true
  | v :: vs, d :: ds => repK K n v d && go n vs ds
  | _, _ => false
theorem repK_ok {K : PySem.W.Frag} (hK : G.K = K) : ∀ (n : Nat) (v : Value) (d : D), repK K n v d = true → ∃ x, RelV x v ∧ ∀ w, Rep G w x d := by
  intro n
  induction n with
  | zero => intro v d h; simp [repK] at h
  | succ n ih =>
    have goes : ∀ (vs : List Value) (ds : List D), repK.go K n vs ds = true → ∃ xs, Vals xs vs ∧ ∀ w, Reps G w xs ds := by
      intro vs
      induction vs with
      | nil =>
        intro ds h
        cases ds with
        | nil => exact ⟨[], .nil, fun _ => .nil⟩
        | cons _ _ => cases h
      | cons v vs ihv =>
        intro ds h
        cases ds with
        | nil => cases h
        | cons d ds =>
          simp only [repK.go, Bool.and_eq_true] at h
          obtain ⟨x, r1, r2⟩ := ih v d h.1
          obtain ⟨xs, r3, r4⟩ := ihv ds h.2
          exact ⟨x :: xs, .cons r1 r3, fun w => .cons (r2 w) (r4 w)⟩
    intro v d h
    unfold repK at h
    split at h
    · exact ⟨.non, rfl, fun _ => .non⟩
    · rw [beq_iff_eq] at h; subst h; exact ⟨.bl _, rfl, fun _ => .bl _⟩
    · rw [beq_iff_eq] at h; subst h; exact ⟨.int _, ⟨_, rfl⟩, fun _ => .int _⟩
    · rw [beq_iff_eq] at h; subst h; exact ⟨.str _, ⟨_, rfl⟩, fun _ => .str _⟩
    · split at h
      · rename_i o ho
        rw [Bool.and_eq_true, beq_iff_eq] at h
        obtain ⟨h1, h2⟩ := h
        split at h2
        · rename_i its m hd
          rw [Bool.and_eq_true, decide_eq_true_eq] at h2
          obtain ⟨xs, r3, r4⟩ := goes _ _ h2.2
          refine ⟨.ref _, rfl, fun w => .tup (.inr ⟨o, its, m, by rw [hK]; exact ho, h1, hd, by rw [sizeLine_eq]; omega, r3⟩) (r4 w)⟩
        · cases h2
      · cases h
    · cases h
theorem pd_const {x : Str} {v : Value} {d : D} {pos : Pos} (hg : Gl X x) (hm : X.mg x = some v) (hr : ∃ y, RelV y v ∧ ∀ w, Rep G w y d) (hd : (x == ("__debug__" : Str)) = false := by decide) : PD G W X (.Name x pos) (eC d) := by
  obtain ⟨y, r1, r2⟩ := hr
  exact pd_glob hg hm r1 r2 hd
/-! ### text.index(text) -/
def eSix (fo : DE) (fa : DA) : DE := fun s => (fo s).bind fun x s1 => match x with
  | .str a => (fa s1).bind fun ds s2 => match ds with
    | [.str b] => (match Txt.index0 (nm a) (nm b) with | some k => .ok (.int (k : Nat)) s2 | none => .stuck)
    | _ => .stuck
  | _ => .stuck
theorem pd_six {oe e : Expr} {fo : DE} {fa : DA} {apos cpos : Pos} (hc : X.calm = true) (tk : Takes X W) (ho : PD G W X oe fo) (ha : PDA G W X [e] fa)
    (hbase : attributeBase oe "index" X.env (eval oe X.env) = eval oe X.env := by rfl)
    (hfew : ((backTo cpos (starEach [e] X.env)).all (fun x => !x.1) && (backToKw cpos (keywordEach [] X.env)).all (fun x => x.1.isSome)
      && decide ([e].length + ([] : List Keyword).length + (if ([] : List Keyword).isEmpty then 0 else 1) < 30)) = true := by rfl)
    (hline : (apos.endLine == cpos.line) = true := by rfl) (hs : starEach [e] X.env = (false, eval e X.env) :: starEach [] X.env := by rfl) (hplain : (backTo cpos (starEach [] X.env)).any (·.1) = false := by rfl) :
    PD G W X (.Call (.Attribute oe "index" apos) [e] [] cpos) (eSix fo fa) :=
  (pe_bmS PySem.F.plainAttrs_str PySem.F.slot_str_index PySem.F.type_str_index (mt_indexX hc tk) ho ha hbase hfew hline hs hplain).imp fun σ H Q ⟨κ, w, s, ok, q⟩ => ⟨κ, w, s, ok, (PostG.bind q).imp fun v H1 ⟨d, s1, w1, le, ok1, r1, q1⟩ => by
    cases r1 with
    | str a =>
      refine ⟨rfl, κ, w1, s1, ok1, (PostG.bind q1).imp fun vs H2 ⟨ds, s2, w2, le2, ok2, r2, q2⟩ => ?_⟩
      match ds, q2 with
      | [.str b], q2 =>
        cases r2 with
        | cons r2 r3 =>
        cases r3
        cases r2
        replace q2 : PostG G W (Rep G) κ w2 σ (match Txt.index0 (nm a) (nm b) with | some k => .ok (.int (k : Nat)) s2 | none => .stuck) Q := q2
        cases e : Txt.index0 (nm a) (nm b) with
        | none => rw [e] at q2; exact q2.elim
        | some k =>
          rw [e] at q2
          refine ⟨nm a, nm b, rfl, rfl, fun k' hk => ?_, fun hn => ?_⟩
          · rw [e] at hk; cases hk; exact q2 w2 _ H2 (.refl _) ok2 (.int _)
          · rw [e] at hn; cases hn
      | [], q2 => exact q2.elim
      | x :: _ :: _, q2 => cases x <;> exact q2.elim
      | [.non], q2 => exact q2.elim
      | [.bl _], q2 => exact q2.elim
      | [.int _], q2 => exact q2.elim
      | [.tup _], q2 => exact q2.elim
      | [.lst _], q2 => exact q2.elim
      | [.scr _], q2 => exact q2.elim
      | [.dic _], q2 => exact q2.elim
      | [.ins _ _], q2 => exact q2.elim
      | [.cell _], q2 => exact q2.elim
      | [.cls _], q2 => exact q2.elim
      | [.ty _], q2 => exact q2.elim
      | [.fn _], q2 => exact q2.elim
      | [.lam _], q2 => exact q2.elim
    | _ => exact q1.elim⟩
/-! ### a < b < c as a test -/
theorem ptd_chain {op op' : CmpOp} {o o' : D → D → Option D} {a b c : Expr} {fa fb fc : DE} {pos : Pos} (ho : OpD G X (compareOp op) o) (ho' : OpD G X (compareOp op') o') (ha : PD G W X a fa) (hb : PD G W X b fb) (hc : PD G W X c fc)
    (hp : ∀ {r r' : R2} {ta tb tc : TE}, OpR X (compareOp op) r → OpR X (compareOp op') r' → PE X a ta → PE X b tb → PE X c tc → PT X (.Compare a [op, op'] [b, c] pos) (tTest (tChain r r' ta tb tc))) : PDT G W X (.Compare a [op, op'] [b, c] pos) (eB (eChain o o' fa fb fc)) := by
  obtain ⟨r, h1, h2⟩ := ho
  obtain ⟨r', h1', h2'⟩ := ho'
  refine (hp h1 h1' ha hb hc).imp fun σ H Q h => ?_
  obtain ⟨κ, w, s, ok, q⟩ := tB_of h
  refine ⟨κ, w, s, ok, (PostG.bind q).imp fun v H1 ⟨d, s1, w1, le, ok1, r1, q1⟩ => ⟨κ, w1, s1, ok1, (PostG.bind q1).imp fun v2 H2 ⟨d2, s2, w2, le2, ok2, r2, q2⟩ => ?_⟩⟩
  cases e : o d d2 with
  | none => rw [e] at q2; exact q2.elim
  | some z =>
    rw [e] at q2
    refine h2 κ w2 s2 σ H2 v v2 d d2 z _ ok2 (r1.mono le2) r2 e fun w3 v3 H3 l3 o3 r3 => ?_
    cases r3 with
    | bl k =>
      refine ⟨k, rfl, ?_⟩
      cases k with
      | false => exact q2 w3 _ H3 l3 o3 (.bl false)
      | true =>
        refine ⟨κ, w3, s2, o3, (PostG.bind (PostG.mono l3 q2)).imp fun v4 H4 ⟨d4, s4, w4, le4, ok4, r4, q4⟩ => ?_⟩
        cases e' : o' d2 d4 with
        | none => rw [e'] at q4; exact q4.elim
        | some z' => rw [e'] at q4; exact h2' κ w4 s4 σ H4 v2 v4 d2 d4 z' _ ok4 ((r2.mono l3).mono le4) r4 e' q4
    | _ => exact q2.elim
/-! ### readings that raise nothing -/
theorem nx_c (d : D) : ∀ (s : DS), (∀ x s', eC d s ≠ .exc x s') := fun s x s' h => nomatch h
theorem nx_var (i : Nat) : ∀ (s : DS), (∀ x s', eVar i s ≠ .exc x s') := fun s x s' h => by
  unfold eVar at h
  split at h <;> cases h
theorem nx_neg {f : DE} (k : ∀ (s : DS), (∀ x s', f s ≠ .exc x s')) : ∀ (s : DS), (∀ x s', eNeg f s ≠ .exc x s') := fun s x s' h => by
  unfold eNeg at h
  cases e : f s with
  | stuck => rw [e] at h; cases h
  | exc z t => exact k s z t e
  | ok d t =>
    rw [e] at h
    simp only [Res.bind_ok] at h
    split at h <;> cases h
theorem nx_op2 {o : D → D → Option D} {f g : DE} (k : ∀ (s : DS), (∀ x s', f s ≠ .exc x s')) (l : ∀ (s : DS), (∀ x s', g s ≠ .exc x s')) : ∀ (s : DS), (∀ x s', eOp2 o f g s ≠ .exc x s') := fun s x s' h => by
  unfold eOp2 at h
  cases e : f s with
  | stuck => rw [e] at h; cases h
  | exc z t => exact k s z t e
  | ok d t =>
    rw [e] at h
    simp only [Res.bind_ok] at h
    cases e2 : g t with
    | stuck => rw [e2] at h; cases h
    | exc z t' => exact l t z t' e2
    | ok d' t' =>
      rw [e2] at h
      simp only [Res.bind_ok] at h
      split at h <;> cases h
/-! ### an own slot is given away -/
def eFz (i : Nat) (f : DE) : DE := fun s => match s.sl[i]? with
  | some (.ol xs) => f ⟨s.sl.set i (.val (.lst xs)), s.st⟩
  | some (.od kvs) => f ⟨s.sl.set i (.val (.dic kvs)), s.st⟩
  | some (.ot kvs) => f ⟨s.sl.set i (.val (.dct kvs)), s.st⟩
  | some (.oi c fs) => f ⟨s.sl.set i (.val (.ins c fs)), s.st⟩
  | _ => f s
theorem pd_fz {i : Nat} {e : Expr} {f : DE} (h : PD G W X e f) : PD G W X e (eFz i f) := h.imp fun σ H Q ⟨κ, w, s, ok, q⟩ => by
  unfold eFz at q
  split at q
  · rename_i xs e
    obtain ⟨a, h1, ⟨vs, h2, h3⟩, _⟩ := ok.own i _ e rfl
    obtain ⟨le, ok'⟩ := ok.freeze (d := .lst xs) e rfl h1 h2 fun w' l f => .lst f (h3.mono l)
    exact ⟨κ, _, _, ok', PostG.mono le q⟩
  · rename_i xs e
    obtain ⟨a, h1, ⟨vs, h2, h3⟩, _⟩ := ok.own i _ e rfl
    obtain ⟨le, ok'⟩ := ok.freeze (d := .dic xs) e rfl h1 h2 fun w' l f => .dic f (h3.mono l)
    exact ⟨κ, _, _, ok', PostG.mono le q⟩
  · rename_i xs e
    obtain ⟨a, h1, ⟨es, ep, h2, h3, h4, h5⟩, _⟩ := ok.own i _ e rfl
    obtain ⟨le, ok'⟩ := ok.freeze (d := .dct xs) e rfl h1 h2 fun w' l f => .dct f (h3.mono l) h4 h5
    exact ⟨κ, _, _, ok', PostG.mono le q⟩
  · rename_i c fs e
    obtain ⟨a, h1, ⟨C, dx, vs, hC, h2, h3⟩, _⟩ := ok.own i _ e rfl
    obtain ⟨le, ok'⟩ := ok.freeze (d := .ins c fs) e rfl h1 h2 fun w' l f => .ins hC f (h3.mono l)
    exact ⟨κ, _, _, ok', PostG.mono le q⟩
  · exact ⟨κ, w, s, ok, q⟩
/-! ### isinstance(x, (A, B)) -/
/-- all items are classes -/
def clsD : D → Bool
  | .ty _ => true
  | .cls _ => true
  | _ => false
def isAny (cs : List String) (t : String ⊕ String) : List D → Option Bool
  | [] => some false
  | c :: r => match isOne cs t c with
    | some true => some true
    | some false => isAny cs t r
    | none => none
def eIsT (cs : List String) (fe : DE) (fa : DA) : DE := fun s => (fe s).bind fun d s1 => (fa s1).bind fun ts s2 => if ts.length ≤ 1000 ∧ ts.all clsD = true then match (tyOfD cs d).bind fun t => isAny cs t ts with
  | some b => .ok (.bl b) s2
  | none => .stuck
  else .stuck
theorem isOne_kit (hK : G.K = X.K) {cs : List String} (I : IsOk G cs) {w : Wd} {t : String ⊕ String} {tv : Value} {c : D} {v : V} {b : Bool} (ht : match t with | .inl a => tv = .type a ∧ a ∈ tyNames | .inr c => c ∈ cs ∧ ∃ C, G.ct c = some C ∧ tv = .ref C) (r : Rep G w v c) (e : isOne cs t c = some b) : ∃ u, ClsV v u ∧ PySem.W.kitOne X.K tv u = some b := by
  cases t with
  | inl a =>
    obtain ⟨rfl, ha⟩ := ht
    cases r with
    | ty n =>
      have e : (if a ∈ tyNames ∧ n ∈ tyNames then some (isTy a n) else none) = some b := e
      split at e
      · rename_i h
        cases e
        exact ⟨_, .ty n, kit_ty (isTy_ok a h.1 n h.2)⟩
      · cases e
    | @cls C n hC =>
      have e : (if a ∈ tyNames ∧ n ∈ cs then some false else none) = some b := e
      split at e
      · rename_i h
        cases e
        exact ⟨_, .own C, hK ▸ (I.bo n h.2 C hC a h.1).2⟩
      · cases e
    | _ => exact nomatch e
  | inr a =>
    obtain ⟨ha, C', hC', rfl⟩ := ht
    cases r with
    | ty n =>
      have e : (if n ∈ tyNames then some false else none) = some b := e
      split at e
      · rename_i h
        cases e
        exact ⟨_, .ty n, hK ▸ (I.bo a ha C' hC' n h).1⟩
      · cases e
    | @cls C n hC =>
      have e : (if n ∈ cs then some (a == n) else none) = some b := e
      split at e
      · rename_i h
        cases e
        exact ⟨_, .own C, hK ▸ I.oo a ha n h C' C hC' hC⟩
      · cases e
    | _ => exact nomatch e
/-- a class value and its object -/
def clsOf : V → Value
  | .ty n => .type n
  | .ref C => .ref C
  | _ => .none
theorem isAny_kit (hK : G.K = X.K) {cs : List String} (I : IsOk G cs) {w : Wd} {t : String ⊕ String} {tv : Value} (ht : match t with | .inl a => tv = .type a ∧ a ∈ tyNames | .inr c => c ∈ cs ∧ ∃ C, G.ct c = some C ∧ tv = .ref C) : ∀ {vs : List V} {ds : List D} {b : Bool}, Reps G w vs ds → ds.all clsD = true → isAny cs t ds = some b → ∃ us, Paired ClsV vs us ∧ PySem.W.kitAny X.K tv us = some b
  | _, _, _, .nil, _, e => by cases e; exact ⟨[], .nil, kitAny_nil⟩
  | _, _, b, .cons (v := v) (d := c) (vs := vs) (ds := ds) r rs, hc, e => by
    rw [List.all_cons, Bool.and_eq_true] at hc
    have rest : ∃ us, Paired ClsV vs us := by
      clear e
      have : ∀ {vs : List V} {ds : List D}, Reps G w vs ds → ds.all clsD = true → ∃ us, Paired ClsV vs us := fun {vs ds} r h => by
        induction ds generalizing vs with
        | nil => cases r; exact ⟨[], .nil⟩
        | cons d ds ih =>
          cases r with
          | cons a b =>
            rw [List.all_cons, Bool.and_eq_true] at h
            obtain ⟨us, hu⟩ := ih b h.2
            cases a with
            | ty n => exact ⟨_, .cons (.ty n) hu⟩
            | @cls C n hC => exact ⟨_, .cons (.own C) hu⟩
            | _ => exact nomatch h.1
      exact this rs hc.2
    simp only [isAny] at e
    split at e
    · rename_i e1
      cases e
      obtain ⟨u, h1, h2⟩ := isOne_kit hK I ht r e1
      obtain ⟨us, hu⟩ := rest
      exact ⟨u :: us, .cons h1 hu, kitAny_cons h2 (fun z => nomatch z) fun _ => rfl⟩
    · rename_i e1
      obtain ⟨u, h1, h2⟩ := isOne_kit hK I ht r e1
      obtain ⟨us, hu, hk⟩ := isAny_kit hK I ht rs hc.2 e
      exact ⟨u :: us, .cons h1 hu, kitAny_cons h2 (fun _ => hk) fun z => nomatch z⟩
    · cases e
theorem pd_isT (hK : G.K = X.K) {cs : List String} (I : IsOk G cs) {x : Str} {p pos pos2 : Pos} {k : Nat} {e : Expr} {es : List Expr} {fe : DE} {fa : DA} (hg : Gl X x) (hm : X.mg x = none) (hv : bootBuiltins x = some (.builtin "isinstance")) (he : PD G W X e fe) (hes : PDA G W X es fa) (hn : x ≠ "__name__" := by decide)
    (hdb : (x == ("__debug__" : Str)) = false := by decide) (h1 : starEach (e :: [Expr.Tuple es k pos2]) X.env = (false, eval e X.env) :: starEach [Expr.Tuple es k pos2] X.env := by rfl) (h2 : starEach [Expr.Tuple es k pos2] X.env = (false, eval (.Tuple es k pos2) X.env) :: starEach [] X.env := by rfl)
    (hpl : (backTo pos (starEach [Expr.Tuple es k pos2] X.env)).any (·.1) = false := by rfl) : PD G W X (.Call (.Name x p) [e, .Tuple es k pos2] [] pos) (eIsT cs fe fa) :=
  (pe_callB call_isiT hg hm hv (pa_cons he (pa_cons (pe_tup hes) pa_nil h2) h1) hn hdb h1 hpl).imp fun σ H Q ⟨κ, w, s, ok, q⟩ => ⟨κ, w, s, ok, (PostG.bind q).imp fun v H1 ⟨d, s1, w1, le, ok1, r1, q1⟩ =>
    ⟨κ, w1, s1, ok1, (PostG.bind q1).imp fun vs H2 ⟨ts, s2, w2, le2, ok2, r2, q2⟩ => by
      by_cases c : ts.length ≤ 1000 ∧ ts.all clsD = true
      · rw [if_pos c] at q2
        refine ⟨by rw [r2.length]; exact sz1000 c.1, fun p hp => ?_⟩
        obtain ⟨le3, ok3⟩ := ok2.alloc hp (.tup vs)
        cases e1 : tyOfD cs d with
        | none => rw [e1] at q2; exact q2.elim
        | some t =>
          rw [e1] at q2
          obtain ⟨tv, ty, ht⟩ := tyX_of hK I ok3 ((r1.mono le2).mono le3) e1
          cases e2 : isAny cs t ts with
          | none => simp only [Option.bind_some, e2] at q2; exact q2.elim
          | some b =>
            simp only [Option.bind_some, e2] at q2
            obtain ⟨us, hu, hk⟩ := isAny_kit hK I (t := t) (tv := tv) (by cases t <;> exact ht) (r2.mono le3) c.2 e2
            exact ⟨v, p, vs, tv, us, b, rfl, upd_same, hu, ty, hk, q2 _ _ _ le3 ok3 (.bl b)⟩
      · rw [if_neg c] at q2
        exact q2.elim⟩⟩
/-! ### x != [] of an own list -/
def eNeO (i : Nat) : DT := fun s => match s.sl[i]? with
  | some (.ol xs) => (match dNe (.lst xs) (.lst []) with | some (.bl b) => .ok b s | _ => .stuck)
  | some (.val d) => (match dNe d (.lst []) with | some (.bl b) => .ok b s | _ => .stuck)
  | _ => .stuck
theorem dNe_parts {x y : D} {b : Bool} (e : dNe x y = some (.bl b)) : ∃ p q, toPy x = some p ∧ toPy y = some q ∧ SeqAt.shaped p = true ∧ SeqAt.shaped q = true ∧ b = !PyData.eqv p q := by
  unfold dNe at e
  cases e1 : toPy x with
  | none => simp [e1] at e
  | some p =>
    cases e2 : toPy y with
    | none => simp [e1, e2] at e
    | some p' =>
      simp only [e1, e2] at e
      split at e
      · rename_i c
        cases e
        rw [Bool.and_eq_true] at c
        exact ⟨p, p', rfl, rfl, c.1, c.2, rfl⟩
      · cases e
theorem ptd_neO (hK : G.K = X.K) (hu : X.A.units + 64 < cLine) {i : Nat} {x : Str} {p pos pos2 : Pos} (ho : PE X (.Name x p) (tVar i)) : PDT G W X (.Compare (.Name x p) [.NotEq] [.List [] pos2] pos) (eNeO i) :=
  (pt_cmpR (op_neD hu) ho (pe_lst pa_nil) (nomark _)).imp fun σ H Q ⟨κ, w, s, ok, q⟩ => by
    unfold eNeO at q
    cases e : s.sl[i]? with
    | none => rw [e] at q; exact q.elim
    | some y =>
      rw [e] at q
      cases y with
      | ol xs =>
        replace q : PostG G W (fun _ (v : Bool) d => v = d) κ w σ (match dNe (.lst xs) (.lst []) with | some (.bl b) => .ok b s | _ => .stuck) Q := q
        obtain ⟨a, vs, h1, h2, h3⟩ := own_list ok e
        refine ⟨.ref a, h1, by decide, fun p hp => ?_⟩
        split at q
        · rename_i b e1
          obtain ⟨p1, p2, t1, t2, c1, c2, rfl⟩ := dNe_parts e1
          obtain ⟨le2, ok2⟩ := ok.alloc hp (.lst [])
          obtain ⟨a', h1', ⟨vs', h2', h3'⟩, _⟩ := ok2.own i _ e rfl
          obtain ⟨le3, ok3⟩ := ok2.freeze (d := .lst xs) e rfl h1' h2' fun w' l f => .lst f (h3'.mono l)
          rw [h1] at h1'
          cases h1'
          have r1 : Dp X.K _ (.ref a) p1 := Rep.py hK ok3 (.lst upd_same (h3'.mono le3)) t1
          have r2 : Dp X.K _ (.ref p) p2 := Rep.py hK ok2 (.lst upd_same .nil) t2
          exact ⟨p1, p2, r1, r2, c1, c2, _, rfl, q _ _ _ le2 ok2 rfl⟩
        · exact q.elim
      | val d =>
        replace q : PostG G W (fun _ (v : Bool) d => v = d) κ w σ (match dNe d (.lst []) with | some (.bl b) => .ok b s | _ => .stuck) Q := q
        obtain ⟨v, h1, r1⟩ := ok.val i d e
        refine ⟨v, h1, by decide, fun p hp => ?_⟩
        split at q
        · rename_i b e1
          obtain ⟨p1, p2, t1, t2, c1, c2, rfl⟩ := dNe_parts e1
          obtain ⟨le2, ok2⟩ := ok.alloc hp (.lst [])
          have r2 : Dp X.K _ (.ref p) p2 := Rep.py hK ok2 (.lst upd_same .nil) t2
          exact ⟨p1, p2, Rep.py hK ok2 (r1.mono le2) t1, r2, c1, c2, _, rfl, q _ _ _ le2 ok2 rfl⟩
        · exact q.elim
      | _ => exact q.elim
end
end DL
set_option maxRecDepth 100000
set_option maxHeartbeats 4000000
set_option autoImplicit false
namespace DL
open PySem PySem.Spec PyProof.Rows L2
section
variable {G : Gam} {W : WX} {X : Cx}
/-! ### a, b, c = [], [], x with lists of one's own -/
def sPar3O (i j l : Nat) (f1 f2 : DA) (f3 : DE) : DStm := fun s => match f1 s with
  | .ok xs s1 => match f2 s1 with
    | .ok ys s2 => match f3 s2 with
      | .ok d s3 => .ok .nx ⟨((s3.sl.set i (.ol xs)).set j (.ol ys)).set l (.val d), s3.st⟩
      | _ => .stuck
    | _ => .stuck
  | _ => .stuck
theorem pds_par3O {i j l : Nat} {x y z : Str} {a b c : Expr} {f1 f2 : DA} {f3 : DE} {px py pz pt pos : Pos} {kt k2 : Nat} {pt2 : Pos} (hc : X.calm = true) (hN : X.N.Nodup) (hi : X.N[i]? = some x) (hj : X.N[j]? = some y) (hl : X.N[l]? = some z) (hij : i ≠ j) (hil : i ≠ l) (hjl : j ≠ l)
    (hx : X.env.scope.names.lookup x = some .local) (hy : X.env.scope.names.lookup y = some .local) (hz : X.env.scope.names.lookup z = some .local) (ha : PDo G W X a f1) (hb : PDo G W X b f2) (hd : PD G W X c f3)
    (hw : swappedStores [.Tuple [.Name x px, .Name y py, .Name z pz] kt pt] (.Tuple [a, b, c] k2 pt2) X.env = pure (some [x, y, z]))
    (hs : swapsWithSole [.Tuple [.Name x px, .Name y py, .Name z pz] kt pt] (.Tuple [a, b, c] k2 pt2) pos.line X.env = pure false := by rfl)
    (s1 : starEach [a, b, c] X.env = (false, eval a X.env) :: starEach [b, c] X.env := by rfl) (s2 : starEach [b, c] X.env = (false, eval b X.env) :: starEach [c] X.env := by rfl) (s3 : starEach [c] X.env = (false, eval c X.env) :: starEach [] X.env := by rfl) :
    PDS G W X (.Assign [.Tuple [.Name x px, .Name y py, .Name z pz] kt pt] (.Tuple [a, b, c] k2 pt2) pos) (sPar3O i j l f1 f2 f3) :=
  (ps_par3 hc hN hi hj hl hij hil hjl hx hy hz (pa_cons ha (pa_cons hb (pa_cons hd pa_nil s3) s2) s1) hw hs).imp fun N σ H ⟨κ, w, s, ok, q⟩ => by
    unfold sPar3O at q
    cases e1 : f1 s with
    | stuck => rw [e1] at q; exact q.elim
    | exc x s' => rw [e1] at q; exact q.elim
    | ok xs s1 =>
      rw [e1] at q
      simp only at q
      refine ⟨κ, w, s, ok, ?_⟩
      rw [e1]
      intro w1 a vs H1 l1 ok1 g1 r1
      cases e2 : f2 s1 with
      | stuck => rw [e2] at q; exact q.elim
      | exc x s' => rw [e2] at q; exact q.elim
      | ok ys s2 =>
        rw [e2] at q
        simp only at q
        refine ⟨_, w1, s1, ok1, ?_⟩
        rw [e2]
        intro w2 b us H2 l2 ok2 g2 r2
        cases e3 : f3 s2 with
        | stuck => rw [e3] at q; exact q.elim
        | exc x s' => rw [e3] at q; exact q.elim
        | ok d s3 =>
          rw [e3] at q
          simp only at q
          refine ⟨_, w2, s2, ok2, ?_⟩
          rw [e3]
          intro w3 v H3 l3 ok3 r3
          refine ⟨_, _, _, rfl, ?_⟩
          have h1 := ok3.setOwn (y := .ol ys) g2 ⟨us, (ok3.gam (b, .lst us) List.mem_cons_self).1, r2.mono l3⟩ rfl (fun _ _ z => nomatch z) j
          have h2 := h1.setOwn (y := .ol xs) g1 ⟨vs, (h1.gam (a, .lst vs) List.mem_cons_self).1, (r1.mono l2).mono l3⟩ rfl (fun _ _ z => nomatch z) i
          have h3 := h2.setVal r3 l
          rw [List.set_comm _ _ hij] 
          rw [List.set_comm _ _ hij] at q
          exact q w3 _ H3 (l1.trans (l2.trans l3)) h3
/-! ### is True, is False -/
def dIsB : D → D → Option D := fun x y => match x, y with
  | .bl a, .bl b => some (.bl (decide (a = b)))
  | _, _ => none
def dNotB : D → D → Option D := fun x y => match x, y with
  | .bl a, .bl b => some (.bl (!decide (a = b)))
  | _, _ => none
theorem opd_isB : OpD G X (compareOp .Is) dIsB := ⟨_, op_isBl, fun κ w s σ H x y dx dy d Q ok rx ry e q => by
  cases rx with
  | bl a =>
    cases ry with
    | bl b =>
      cases e
      exact ⟨_, _, rfl, rfl, q w _ H (.refl _) ok (.bl _)⟩
    | _ => exact nomatch e
  | _ => exact nomatch e⟩
theorem opd_notB : OpD G X (compareOp .IsNot) dNotB := ⟨_, op_notBl, fun κ w s σ H x y dx dy d Q ok rx ry e q => by
  cases rx with
  | bl a =>
    cases ry with
    | bl b =>
      cases e
      exact ⟨_, _, rfl, rfl, q w _ H (.refl _) ok (.bl _)⟩
    | _ => exact nomatch e
  | _ => exact nomatch e⟩
/-! ### a, b = a list of two -/
def gTA (n : Nat) (g : List D → DS → Res DS Unit) : DG := fun d s => match d with
  | .tup ds => if ds.length = n then g ds s else .stuck
  | .lst ds => if ds.length = n then g ds s else .stuck
  | _ => .stuck
theorem pdg_any (hK : G.K = X.K) {es : List Expr} {is : List Nat} {k : Nat} {g : List D → DS → Res DS Unit} {n : Nat} {pos : Pos} (hc : X.calm = true) (h : PDGs G X es is g)
    (hn : (assignEach es X.env).length = n := by rfl) (hst : (assignEach es X.env).findIdx? (·.1) = none := by rfl) : PDG G X (.Tuple es k pos) is (gTA n g) :=
  ⟨fun pins s0 σ H v u Q I r0 ⟨κ, w, s, d, ok, r, q⟩ => by
    cases r with
    | @tup a vs ds e r =>
      by_cases c : ds.length = n
      · have q : PostT G is σ κ w (if ds.length = n then g ds s else .stuck) Q := q
        rw [if_pos c] at q
        exact (pg_tup hc h hn hst).run pins s0 σ H _ u Q I r0 ⟨a, vs, rfl, hK ▸ SqT.le e ok.fok.sub, by rw [r.length]; exact c, κ, w, s, ds, ok, r, q⟩
      · have q : PostT G is σ κ w (if ds.length = n then g ds s else .stuck) Q := q
        rw [if_neg c] at q
        exact q.elim
    | @lst a vs ds e r =>
      by_cases c : ds.length = n
      · have q : PostT G is σ κ w (if ds.length = n then g ds s else .stuck) Q := q
        rw [if_pos c] at q
        exact (pg_unl hc h hn hst).run pins s0 σ H _ u Q I r0 ⟨a, vs, rfl, .inl (.inl (ok.fok.sub _ _ e)), by rw [r.length]; exact c, κ, w, s, ds, ok, r, q⟩
      · have q : PostT G is σ κ w (if ds.length = n then g ds s else .stuck) Q := q
        rw [if_neg c] at q
        exact q.elim
    | _ => exact q.elim⟩
/-! ### text * number -/
theorem op_smul : OpR X (binaryOp .Mult) (fun x y H Q => ∃ (i : Str) (n : Int), x = .str i ∧ y = .int n ∧ i.length ≤ 100 ∧ -100000 ≤ n ∧ n ≤ 100000 ∧ Q (.str (Txt.mul i n)) H) := by
  intro pins s σ H x y v u Q I rx ry h
  obtain ⟨i, n, rfl, rfl, hz, h0, h1, q⟩ := h
  obtain ⟨t, rfl⟩ := rx
  obtain ⟨t', rfl⟩ := ry
  refine SB.mul ⟨?_, fun hn _ => ?_, fun hn _ => ?_⟩ fun t' k => ⟨.str (Txt.mul i n), H, I.tok _, ⟨_, rfl⟩, q⟩
  · rw [decide_eq_false (by omega), decide_eq_false (by omega)]; rfl
  · have : (i.length : Int) ≤ (2 ^ 63 - 1) / n := by
      rw [Int.le_ediv_iff_mul_le (by omega)]
      have := Int.mul_le_mul (show (i.length : Int) ≤ 100 by omega) h1 (by omega) (by omega)
      omega
    omega
  · unfold Builtin.Str.tooLong
    have := Nat.mul_le_mul hz (show n.toNat ≤ 100000 by omega)
    rw [decide_eq_false]
    rw [Nat.not_lt]
    exact Nat.le_trans this (by decide)
theorem foldl_repN (l : List Nat) : ∀ (k : Nat) (acc : List Nat), (List.replicate k l.toArray).foldl (· ++ ·) acc.toArray = (acc ++ (List.replicate k l).flatten).toArray
  | 0, acc => by simp
  | k + 1, acc => by
    rw [List.replicate_succ, List.foldl_cons, List.append_toArray, foldl_repN l k (acc ++ l), List.replicate_succ, List.flatten_cons, List.append_assoc]
theorem mul_nm (l : Nm) (n : Int) : Txt.mul (nm l) n = nm (List.replicate n.toNat l).flatten := by
  unfold Txt.mul
  by_cases c : n < 1
  · rw [if_pos c, show n.toNat = 0 by omega]
    rfl
  · rw [if_neg c]
    by_cases c2 : (n == 1 || (nm l).length == 0) = true
    · rw [if_pos c2]
      rw [Bool.or_eq_true] at c2
      rcases c2 with c2 | c2
      · have : n = 1 := by simpa using c2
        subst this
        simp
      · have hl : l = [] := by
          have := (beq_iff_eq.mp c2)
          rw [nm_len] at this
          exact List.eq_nil_of_length_eq_zero this
        subst hl
        simp
    · rw [if_neg c2]
      have := foldl_repN l n.toNat []
      rw [List.nil_append] at this
      unfold nm
      rw [← this]
def sMul : D → D → Option D := fun x y => match x, y with
  | .str l, .int n => if l.length ≤ 100 ∧ -100000 ≤ n ∧ n ≤ 100000 then some (.str (List.replicate n.toNat l).flatten) else none
  | _, _ => none
theorem opd_smul : OpD G X (binaryOp .Mult) sMul := ⟨_, op_smul, fun κ w s σ H x y dx dy d Q ok rx ry e q => by
  cases rx with
  | str l =>
    cases ry with
    | int n =>
      have e : (if l.length ≤ 100 ∧ -100000 ≤ n ∧ n ≤ 100000 then some (D.str (List.replicate n.toNat l).flatten) else none) = some d := e
      split at e
      · rename_i c
        cases e
        refine ⟨nm l, n, rfl, rfl, by rw [nm_len]; exact c.1, c.2.1, c.2.2, ?_⟩
        rw [mul_nm]
        exact q w _ H (.refl _) ok (.str _)
      · cases e
    | _ => exact nomatch e
  | _ => exact nomatch e⟩
/-! ### tuple + tuple, empty ones too -/
def tAdd : D → D → Option D := fun x y => match x, y with
  | .tup a, .tup b => if a.length + b.length ≤ 1000000 then some (.tup (a ++ b)) else none
  | _, _ => none
theorem opd_tadd (hK : G.K = X.K) : OpD G X (binaryOp .Add) tAdd := ⟨_, op_catA, fun κ w s σ H x y dx dy d Q ok rx ry e q => by
  cases rx with
  | @tup a vs ds e1 r1 =>
    cases ry with
    | @tup a2 vs2 ds2 e2 r2 =>
      have e : (if ds.length + ds2.length ≤ 1000000 then some (D.tup (ds ++ ds2)) else none) = some d := e
      split at e
      · rename_i c
        cases e
        refine ⟨a, a2, vs, vs2, rfl, rfl, hK ▸ SqT.le e1 ok.fok.sub, hK ▸ SqT.le e2 ok.fok.sub, by rw [r1.length, r2.length, sizeLine_eq]; omega, fun z => ?_, fun _ z => ?_, fun _ _ p hp => ?_⟩
        · subst z
          cases r1
          exact q w _ H (.refl _) ok (.tup e2 r2)
        · subst z
          cases r2
          rw [List.append_nil] at q
          exact q w _ H (.refl _) ok (.tup e1 r1)
        · obtain ⟨le2, ok2⟩ := ok.alloc hp (.tup (vs ++ vs2))
          exact q _ _ _ le2 ok2 (.tup (.inl (.inl upd_same)) ((r1.append r2).mono le2))
      · cases e
    | _ => exact nomatch e
  | _ => exact nomatch e⟩
/-! ### max(xs), min(xs) of a list of ints -/
def mxL : List Int → Int
  | [] => 0
  | [x] => x
  | x :: y :: r => if mxL (y :: r) > x then mxL (y :: r) else x
def mnL : List Int → Int
  | [] => 0
  | [x] => x
  | x :: y :: r => if mnL (y :: r) < x then mnL (y :: r) else x
theorem mxL_mem : ∀ {l : List Int}, l ≠ [] → mxL l ∈ l ∧ ∀ y ∈ l, y ≤ mxL l
  | [], h => absurd rfl h
  | [x], _ => ⟨by simp [mxL], fun y hy => by simp at hy; subst hy; simp [mxL]⟩
  | x :: y :: r, _ => by
    obtain ⟨h1, h2⟩ := mxL_mem (l := y :: r) (by simp)
    unfold mxL
    split
    · refine ⟨List.mem_cons_of_mem _ h1, fun z hz => ?_⟩
      rcases List.mem_cons.mp hz with rfl | hz
      · omega
      · exact h2 z hz
    · refine ⟨List.mem_cons_self .., fun z hz => ?_⟩
      rcases List.mem_cons.mp hz with rfl | hz
      · omega
      · have := h2 z hz; omega
theorem mnL_mem : ∀ {l : List Int}, l ≠ [] → mnL l ∈ l ∧ ∀ y ∈ l, mnL l ≤ y
  | [], h => absurd rfl h
  | [x], _ => ⟨by simp [mnL], fun y hy => by simp at hy; subst hy; simp [mnL]⟩
  | x :: y :: r, _ => by
    obtain ⟨h1, h2⟩ := mnL_mem (l := y :: r) (by simp)
    unfold mnL
    split
    · refine ⟨List.mem_cons_of_mem _ h1, fun z hz => ?_⟩
      rcases List.mem_cons.mp hz with rfl | hz
      · omega
      · exact h2 z hz
    · refine ⟨List.mem_cons_self .., fun z hz => ?_⟩
      rcases List.mem_cons.mp hz with rfl | hz
      · omega
      · have := h2 z hz; omega
def bMaxL : List D → Option D
  | [.lst xs] => match intsOf xs with
    | some (n :: ns) => some (.int (mxL (n :: ns)))
    | _ => none
  | _ => none
def bMinL : List D → Option D
  | [.lst xs] => match intsOf xs with
    | some (n :: ns) => some (.int (mnL (n :: ns)))
    | _ => none
  | _ => none
theorem cd_maxL (hc : X.calm = true) : CallD G X (.builtin "max") bMaxL := ⟨_, cr_max hc, fun κ w s σ H vs ds d Q ok rs e q => by
  match ds, e with
  | [.lst xs], e =>
    have e : (match intsOf xs with | some (n :: ns) => some (D.int (mxL (n :: ns))) | _ => none) = some d := e
    cases e1 : intsOf xs with
    | none => rw [e1] at e; cases e
    | some l =>
      rw [e1] at e
      cases l with
      | nil => cases e
      | cons n ns =>
        cases e
        obtain ⟨v, rfl, r⟩ := rs.one
        cases r with
        | @lst a vs ds e r =>
          rw [intsOf_eq e1] at r
          rw [r.ints] at e
          refine ⟨a, n :: ns, rfl, .inl (.inl (ok.fok.sub _ _ e)), by simp, fun m h1 h2 => ?_⟩
          obtain ⟨h3, h4⟩ := mxL_mem (l := n :: ns) (by simp)
          have : m = mxL (n :: ns) := Int.le_antisymm (h4 m h1) (h2 _ h3)
          subst this
          exact q w _ H (.refl _) ok (.int _)⟩
theorem cd_minL (hc : X.calm = true) : CallD G X (.builtin "min") bMinL := ⟨_, cr_min hc, fun κ w s σ H vs ds d Q ok rs e q => by
  match ds, e with
  | [.lst xs], e =>
    have e : (match intsOf xs with | some (n :: ns) => some (D.int (mnL (n :: ns))) | _ => none) = some d := e
    cases e1 : intsOf xs with
    | none => rw [e1] at e; cases e
    | some l =>
      rw [e1] at e
      cases l with
      | nil => cases e
      | cons n ns =>
        cases e
        obtain ⟨v, rfl, r⟩ := rs.one
        cases r with
        | @lst a vs ds e r =>
          rw [intsOf_eq e1] at r
          rw [r.ints] at e
          refine ⟨a, n :: ns, rfl, .inl (.inl (ok.fok.sub _ _ e)), by simp, fun m h1 h2 => ?_⟩
          obtain ⟨h3, h4⟩ := mnL_mem (l := n :: ns) (by simp)
          have : m = mnL (n :: ns) := Int.le_antisymm (h2 _ h3) (h4 m h1)
          subst this
          exact q w _ H (.refl _) ok (.int _)⟩
/-! ### range(i, j, c) -/
def rngC (lo c : Int) (n : Nat) : List D := (List.range n).map fun (i : Nat) => D.int (lo + (i : Int) * c)
theorem itOk_rngC {w : Wd} (lo c : Int) (n : Nat) : ItOk G w (Itc lo c n) (rngC lo c n) := by
  intro w1 S H le fok i
  refine ⟨fun d hd => ?_, fun hn => ?_⟩
  · unfold rngC at hd
    rw [List.getElem?_map] at hd
    by_cases c : i < n
    · rw [List.getElem?_range c] at hd
      cases hd
      refine ⟨c, fun x H' ⟨hH, hx⟩ => ⟨w1, ?_, ?_, ?_⟩⟩
      · rw [hH]; exact .refl _ _
      · rw [hH]; exact fok
      · rw [hx]; exact .int _
    · rw [List.getElem?_eq_none (by rw [List.length_range]; omega)] at hd
      cases hd
  · have := List.getElem?_eq_none_iff.mp hn
    unfold rngC at this
    rw [List.length_map, List.length_range] at this
    exact this
def itR3 (f : DA) : DA := fun s => (f s).bind fun ds s1 => match ds with
  | [.int i, .int j, .int c] => if c ≠ 0 ∧ c.natAbs < 1073741824 ∧ Builtin.Range.small i j c = true ∧ 0 ≤ Builtin.Range.rangeSize i j c then .ok (rngC i c (Builtin.Range.rangeSize i j c).toNat) s1 else .stuck
  | _ => .stuck
theorem pdi_range3 {tg a b c : Expr} {f : DA} {p pos : Pos} (hg : Gl X "range") (hm : X.mg "range" = none) (ha : PDA G W X [a, b, c] f) (hs : starEach [a, b, c] X.env = (false, eval a X.env) :: starEach [b, c] X.env := by rfl) (hpl : (backTo pos (starEach [b, c] X.env)).any (·.1) = false := by rfl) :
    PDI G W X tg (.Call (.Name "range" p) [a, b, c] [] pos) (itR3 f) :=
  (pi_range3 hg hm ha hs hpl).imp fun σ H R ⟨κ, w, s, ok, q⟩ => ⟨κ, w, s, ok, (PostG.bindI q).imp fun v H1 ⟨d, s1, w1, le, ok1, r1, q1⟩ => by
    match d, q1, r1 with
    | [.int i, .int j, .int c], q1, .cons (.int _) (.cons (.int _) (.cons (.int _) .nil)) =>
      have q1 : PostI G W κ w1 σ (if c ≠ 0 ∧ c.natAbs < 1073741824 ∧ Builtin.Range.small i j c = true ∧ 0 ≤ Builtin.Range.rangeSize i j c then .ok (rngC i c (Builtin.Range.rangeSize i j c).toNat) s1 else .stuck) R := q1
      by_cases cc : c ≠ 0 ∧ c.natAbs < 1073741824 ∧ Builtin.Range.small i j c = true ∧ 0 ≤ Builtin.Range.rangeSize i j c
      · rw [if_pos cc] at q1
        exact ⟨i, j, c, _, rfl, ⟨cc.1, cc.2.1, cc.2.2.1, (Int.toNat_of_nonneg cc.2.2.2).symm⟩, q1 w1 _ H1 (.refl _) ok1 (itOk_rngC i c _)⟩
      · rw [if_neg cc] at q1
        exact q1.elim⟩
end
end DL
set_option maxRecDepth 100000
set_option maxHeartbeats 4000000
set_option autoImplicit false
namespace DL
open PySem PySem.Spec PyProof.Rows L2
/-! ### raise C(), the class with no __init__ of its own -/
abbrev veM : List Value := [.type "ValueError", .type "Exception", .type "BaseException", .type "object"]
def x0B (K : PySem.W.Frag) (C : Addr) : Bool := PySem.W.excIn K C veM "ValueError.__new__" && (PySem.W.keepIn K (.ref C) && ((PySem.W.subIn K (.ref C) (.type "BaseException") == some true) && (PySem.W.typeIn K (.ref C) == some (.type "type"))))
def sRaise0 (c : String) : DStm := fun s => .exc ⟨c, []⟩ s
@[simp] theorem r_sRaise0 (c : String) (s : DS) : sRaise0 c s = .exc ⟨c, []⟩ s := rfl
section
variable {G : Gam} {W : WX} {X : Cx}
theorem pmk_own0 {C : Addr} {x : Str} {p pos : Pos} (hB : x0B X.K C = true) (gC : X.mg x = some (.ref C)) (hg : Gl X x) (hdb : (x == ("__debug__" : Str)) = false := by decide) :
    PMk X (.Call (.Name x p) [] [] pos) (fun σ H Q => Q (.ref C) none H) := by
  unfold x0B at hB
  simp only [Bool.and_eq_true, beq_iff_eq] at hB
  obtain ⟨q, kC, b1, b2⟩ := hB
  intro pins s σ H Q I h
  refine wpAny_Call_Name_kw (ld_glob I hg gC ?_ hdb)
  refine PySem.W.callWith_K0 I.kIn kC ?_
  obtain ⟨bm, N, nm, qn, bs, hdct, sn, sub, ab, col, dd, k0, k1, k2, k3, k5, mN, hC, hN, hni, T⟩ := exc_obj I.kIn q
  refine wpAny_call_exc_subT PySem.F.excBase_ValueError T hC hN hni (fun h' e hm => ?_) (by show 0 ≤ sizeLine; rw [sizeLine_eq]; omega)
  exact mk_of I hm (raises_own b1 b2) h (I.hok.gone hm.new)
theorem pds_raise0 {c : String} {C : Addr} {x : Str} {p pos pos' : Pos} (hc : X.calm = true) (tk : Takes X W) (hct : G.ct c = some C) (hB : x0B X.K C = true) (hg : Gl X x) (hm : X.mg x = some (.ref C)) (hdb : (x == ("__debug__" : Str)) = false := by decide) :
    PDS G W X (.Raise (some (.Call (.Name x p) [] [] pos)) none pos') (sRaise0 c) :=
  (ps_raise hc tk (pmk_own0 hB hm hg hdb)).imp fun N σ H ⟨κ, w, s, ok, q⟩ => q w σ (.ref C) none H (.refl _) ok ⟨C, hct, rfl, .inl ⟨rfl, rfl⟩⟩
end
end DL
set_option maxRecDepth 100000
set_option maxHeartbeats 4000000
set_option autoImplicit false
namespace DL
open PySem PySem.Spec PyProof.Rows L2
/-! ### a comprehension whose element calls a def with a lambda of the maker: the maker's own state goes along -/
section
variable {X : Cx}
theorem lcK {elt tg iter : Expr} {ifs : List Expr} {scope : Scope} {own : List (Str × Nat)} {pos : Pos} {wi : TI} {g : TG} {tt : TT} {te : TE} (hc : X.calm = true) (hN : X.N.Nodup) (hi : PI X tg iter wi) (ok : BlkOk X.N X.env.scope scope own)
    (hg : ∀ (s : Shared) (H : Hp) (C : Addr) (cl : List (Str × Addr)) (fp : List Addr), PG (X.blk s H scope (compEnvC scope cl C X.env) fp) tg g) (ht : ∀ (s : Shared) (H : Hp) (C : Addr) (cl : List (Str × Addr)) (fp : List Addr), PTs (X.blk s H scope (compEnvC scope cl C X.env) fp) ifs tt)
    (he : ∀ (pins : List (Addr × Obj)) (σ : L2.St) (s : Shared) (H : Hp) (C : Addr) (cl : List (Str × Addr)) (fp : List Addr), Inv X pins σ H s → (∀ b ∈ fp, FpOk X pins H b) → PE (X.blk s H scope (compEnvC scope cl C X.env) fp) elt (fun σ' H' Q => L2.wipe σ' (own.map (·.2)) = L2.wipe σ (own.map (·.2)) ∧ te σ' H' Q)) (hs : ∀ x, foldedSetIterable iter X.env x = pure x := by intro _; rfl) :
    PE X (.ListComp elt [⟨tg, iter, ifs, 0⟩] scope pos) (tLc wi g tt te (own.map (·.2))) := by
  refine ⟨fun pins s σ H Q I h => ?_⟩
  rw [eval_ListComp]
  have fr : ∀ y ∈ scope.names, y.2 = .free → ∃ c, X.env.cells.lookup y.1 = some c := fun y hy e => (ok.free y hy e).elim (fun k => I.ok.has _ (.inl k)) fun k => I.ok.has _ (.inr k)
  refine wpAny_comprehension_free (use := none) rfl hs (closure_ok fr) ok.kind (fun y hy e => by rw [ok.uniq y hy, e])
    (thn (hi.run pins s σ H _ I h) fun xv s1 hx => thn hx fun itv s2 h2 => ?_)
  obtain ⟨it, fp, tn, J, H2, rfl, I2, T, st2, f2, q⟩ := h2
  refine wpAny_newObj_type (newEnv_comp ?_) (by show 0 ≤ sizeLine; decide)
  generalize hD : s2.heap.objs.size = D
  have nD : H2 D = none := I2.hok.fresh (Nat.le_of_eq hD)
  obtain ⟨Wv, ⟨m0, w0⟩, turn⟩ := q D nD
  generalize e3 : ({ s2 with heap := s2.heap.push { cls := .type "list", data := .seq ([] : List Value).toArray } } : Shared) = s3
  have hh : s3.heap = s2.heap.push { cls := .type "list", data := .seq ([] : List Value).toArray } := by rw [← e3]
  have I3 : Inv X pins σ (upd H2 D (.lst [])) s3 := by
    rw [← e3]
    refine I2.laid (t' := s2.toks) (fun b o e => Heap.get?_push_of_some _ e) (Nat.le_of_eq hD) ⟨Nat.zero_le _, [], 0, .nil, ?_⟩
    rw [← hD]
    exact Heap.get?_push_size _ rfl
  have lt2 : ∀ b ∈ fp, b < s2.heap.objs.size := fun b hb => let ⟨_, e, _⟩ := T.obj _ _ st2 b hb; Heap.lt_size e
  have f3 : ∀ b ∈ fp, FpOk X pins (upd H2 D (.lst [])) b ∧ b < s3.heap.objs.size := fun b hb =>
    ⟨⟨by rw [upd_ne (by rw [← hD]; exact Nat.ne_of_lt (lt2 b hb))]; exact (f2 b hb).1, (f2 b hb).2⟩, by rw [hh, Heap.size_push]; exact Nat.lt_succ_of_lt (lt2 b hb)⟩
  have st3 : tn 0 s3.heap := T.keep _ _ _ st2 fun b _ o e => by rw [hh]; exact Heap.get?_push_of_some _ e
  have I4 := block_start I3 ok hN f3
  show codeAny _ _ (.compStart (.ListComp elt [⟨tg, iter, ifs, 0⟩] scope pos) 0 (.ref it) (.ref D) (compEnvC scope (cellsFrom (s3.heap.objs.size + 1) scope.names (cloFrom X.env.cells scope.names [])) s3.heap.objs.size X.env)) (compPost (model X.prog X.w) X.A X.xe none (EP X pins σ Q) (.ref D) s3.heap.objs.size) { s3 with heap := pushCells (s3.heap.push { cls := .type "dict", data := .dict #[] }) scope.names }
  have pg := hg s3 (upd H2 D (.lst [])) s3.heap.objs.size (cellsFrom (s3.heap.objs.size + 1) scope.names (cloFrom X.env.cells scope.names [])) fp
  have pt := ht s3 (upd H2 D (.lst [])) s3.heap.objs.size (cellsFrom (s3.heap.objs.size + 1) scope.names (cloFrom X.env.cells scope.names [])) fp
  have pe := he pins σ s3 (upd H2 D (.lst [])) s3.heap.objs.size (cellsFrom (s3.heap.objs.size + 1) scope.names (cloFrom X.env.cells scope.names [])) fp I3 fun b hb => (f3 b hb).1
  have nfp : ∀ b ∈ fp, (upd H2 D (.lst [])) b = none := fun b hb => (f3 b hb).1.1
  generalize hce : compEnvC scope (cellsFrom (s3.heap.objs.size + 1) scope.names (cloFrom X.env.cells scope.names [])) s3.heap.objs.size X.env = ce at I4 pg pt pe ⊢
  have cL : ce.locals = s3.heap.objs.size := by subst hce; rfl
  generalize upd H2 D (.lst []) = H3 at I3 I4 pg pt pe w0 nfp f3
  generalize hs4 : ({ s3 with heap := pushCells (s3.heap.push { cls := .type "dict", data := .dict #[] }) scope.names } : Shared) = s4 at I4 ⊢
  have st4 : tn 0 s4.heap := T.keep _ _ _ st3 fun b _ o e => by rw [← hs4]; exact pushCells_keeps _ _ _ _ (Heap.get?_push_of_some _ e)
  have stat : ∀ {σ' : L2.St} {H' : Hp} {s' : Shared}, Inv (X.blk s3 H3 scope ce fp) [] σ' H' s' → (∀ b ∈ fp, H' b = none) → ∀ b ∈ fp, FpOk (X.blk s3 H3 scope ce fp) [] H' b := fun {σ' H' s'} I' hn b hb =>
    ⟨hn b hb, (I'.ok.exf b hb).1, I'.ok.exfs b hb, .inl hb, (I'.ok.exf b hb).2, fun p hp => absurd (show p ∈ ([] : List (Addr × Obj)) ++ [] from hp) (by simp)⟩
  have loop : codeAny (model X.prog X.w) X.A (.compLoop (.ListComp elt [⟨tg, iter, ifs, 0⟩] scope pos) 0 (.ref it) (.ref D) ce) (compPost (model X.prog X.w) X.A X.xe none (EP X pins σ Q) (.ref D) s3.heap.objs.size) s4 := by
    refine compLoop_any (fun n s' => ∃ i H', Inv (X.blk s3 H3 scope ce fp) [] (L2.wipe σ (own.map (·.2))) H' s' ∧ tn i s'.heap ∧ (∀ b ∈ fp, H' b = none) ∧ Wv i n H') ?_ m0 ⟨0, H3, I4, st4, nfp, w0⟩
    rintro n s5 ⟨i, H5, I5, st5, n5, w5⟩
    rcases turn i n H5 w5 with ⟨stop, qq⟩ | ⟨go, Nx, hNx, step⟩
    · refine thnF (T.done (X.blk s3 H3 scope ce fp) rfl rfl rfl hc i [] s5 _ H5 (fun _ _ => False) I5 (stat I5 n5) st5 stop) fun r s6 ⟨hr, I6⟩ => ?_
      subst hr
      have I7 : Inv X pins σ H5 s6 := I3.call' (ch := fp) I6.os I6.base I6.hok I6.bare fun b hb => ⟨(f3 b hb).1.2.2.2.1, (f3 b hb).1.2.1, (f3 b hb).1.2.2.2.2.1, (f3 b hb).1.2.2.2.2.2⟩
      have nC : H5 s3.heap.objs.size = none := by
        have z : H5 ce.locals = none := I6.free
        rw [cL] at z
        exact z
      obtain ⟨m, hn, _⟩ := I6.loc
      have hn : s6.heap.Ns ce.locals m := hn
      rw [cL] at hn
      obtain ⟨f0, f1, f2, f3, f4, f5⟩ := I3.fpOk (Nat.le_refl _) nC
      exact ⟨m, hn, fun h'' sb => ⟨.ref D, H5, I7.turned (t' := s6.toks) (fun b o hb e => (sb.2 b hb).trans e) f0 f1 f3 f4 f5, rfl, qq⟩⟩
    · refine thnF (T.item (X.blk s3 H3 scope ce fp) rfl rfl rfl hc i [] s5 _ H5 (fun _ _ => False) I5 (stat I5 n5) st5 go) fun r s6 ⟨u, hr, h6⟩ => ?_
      subst hr
      refine thnF h6 fun _ s7 ⟨x, H7, I7, r7, y7, st7, n7⟩ => ?_
      refine thnF (pg.run _ s7 _ H7 x u _ (I7.pinned (stat I7 n7) (T.obj _ _ st7)) r7 (step x H7 y7)) fun _ s8 ⟨σ8, H8, I8, hw8, q8⟩ => ?_
      refine thnF (pt.run _ s8 σ8 H8 _ I8 q8) fun b s9 ⟨H9, I9, q9⟩ => ?_
      have fin : ∀ {s' : Shared} {H' : Hp}, Inv (X.blk s3 H3 scope ce fp) ([] ++ pinsAt fp s7.heap) σ8 H' s' → Nx H' → ∃ m, m < n ∧ ∃ i H', Inv (X.blk s3 H3 scope ce fp) [] (L2.wipe σ (own.map (·.2))) H' s' ∧ tn i s'.heap ∧ (∀ b ∈ fp, H' b = none) ∧ Wv i m H' := fun {s' H'} I' nx => by
        obtain ⟨m', hm, w'⟩ := hNx H' nx
        have pin' : ∀ b ∈ fp, ∀ o, s7.heap.get? b = some o → s'.heap.get? b = some o ∧ H' b = none := fun b hb o e =>
          let z := I'.pin (b, o) (List.mem_append_right _ (List.mem_append_right _ (mem_pinsAt hb e)))
          ⟨z.1, z.2.1⟩
        refine ⟨m', hm, i + 1, H', (I'.unpinned (pins := [])).weak (by rw [← hw8, L2.wipe_length]) (fun j v e => by rw [← hw8] at e; exact (wipe_some e).1), T.keep _ _ _ st7 fun b hb o e => (pin' b hb o e).1, fun b hb => ?_, w'⟩
        obtain ⟨o, e, _⟩ := T.obj _ _ st7 b hb
        exact (pin' b hb o e).2
      cases b with
      | false =>
        simp only [Bool.false_eq_true, if_false] at q9 ⊢
        exact fin I9 q9
      | true =>
        simp only [if_true] at q9 ⊢
        refine thnF (pe.run _ s9 σ8 H9 _ I9 ⟨hw8, q9⟩) fun z s10 ⟨yv, H10, I10, r10, acc, hD10, hz10, nx⟩ => ?_
        exact app_ok (X := X.blk s3 H3 scope ce fp) I10 hD10 hz10 r10 fun s11 I11 => fin I11 nx
  exact codeAny_compStart_list loop (T.self X.A 0 _ _ _ st4 loop)
end

def eCallLB (n : Nat) (g : LamR → DFn) (bs : String → Option DE) (vs : List Nat) (fa : DA) : DE := fun s => (fa s).bind fun ds s1 => if ds.length = n then lift s1 (g (lamR bs (wipeD vs s1.sl)) ds s1.st) else .stuck
@[simp] theorem r_eCallLB (n : Nat) (g : LamR → DFn) (bs : String → Option DE) (vs : List Nat) (fa : DA) (s : DS) : eCallLB n g bs vs fa s = (fa s).bind fun ds s1 => if ds.length = n then lift s1 (g (lamR bs (wipeD vs s1.sl)) ds s1.st) else .stuck := rfl
section
variable {G : Gam} {W : WX} {X : Cx}
theorem pd_callLB {T : LamT} {bs : String → Option DE} {k n m i : Nat} {f : Addr} {fd : FuncData} {N ps : List Str} {body : LamR → DStm} {x qual a : Str} {st : Stmt} {p pos : Pos} {e : Expr} {es : List Expr} {fa : DA} {vs : List Nat}
    {pinsX : List (Addr × Obj)} {σX : L2.St} {sX : Shared} {HX : Hp} {scope : Scope} {cenv : Env} {fp : List Addr} (IX : Inv X pinsX σX HX sX) (hfp : ∀ b ∈ fp, FpOk X pinsX HX b) (hK : G.K = X.K) (F : Fun X.K x qual st f fd) (S : FnScope N ps (defScope st)) (hn : ps.length = n) (hm : N.length - n = m)
    (GL : ∀ n f w', G.lam n f w' → T.lam n f w') (hq : T.q = X.env.qual ++ "<lambda>") (hcl : T.cells = X.env.cells) (hbs : LamsOk G X T k bs)
    (hbody : ∀ w, BodyL (G.at w) X.prog X.w X.mg X.base (k + 1) N qual st f a i body) (hN : N[i]? = some a) (hv : Vis (defScope st) a)
    (hr : Room (k + 2) X.A) (hg : Gl (X.blk sX HX scope cenv fp) x) (hmg : X.mg x = some (.ref f)) (hb : Binds X.K fd ps []) (tk : Takes (X.blk sX HX scope cenv fp) WF) (ha : PDA G WF (X.blk sX HX scope cenv fp) (e :: es) fa) (hdb : (x == ("__debug__" : Str)) = false := by decide) (hda : (a == ("__debug__" : Str)) = false := by decide) (hcd : (a == ("__classdict__" : Str)) = false := by decide)
    (he : starEach (e :: es) cenv = (false, eval e cenv) :: starEach es cenv := by rfl) (hpl : (backTo pos (starEach es cenv)).any (·.1) = false := by rfl) :
    PE (X.blk sX HX scope cenv fp) (.Call (.Name x p) (e :: es) [] pos) (fun σ' H' Q => L2.wipe σ' vs = L2.wipe σX vs ∧ tD G WF (eCallLB n (fun Λ => fnD n (body Λ) m) bs vs fa) σ' H' Q) := by
  refine ⟨fun pins s σ H Q I ⟨hw, h⟩ => ?_⟩
  obtain ⟨κ, w, ds, ok, q⟩ := h
  refine wpAny_Call_Name_kw (ld_glob I hg hmg ?_ hdb)
  have hh : tDA G WF fa σ H fun vs' H1 => ∃ d s1 w1, w.le w1 ∧ Ok G κ w1 s1 σ H1 ∧ Reps G w1 vs' d ∧ PostG G WF (Rep G) κ w1 σ (if d.length = n then lift s1 (fnD n (body (lamR bs (wipeD vs s1.sl))) m d s1.st) else .stuck) Q := ⟨κ, w, ds, ok, PostG.bind q⟩
  refine PySem.W.callWith_K (h₀ := X.base) I.ok.mod.kin F.kp (thn (ha.run pos pins s σ H _ I hh) fun us s1 ⟨vs', H1, I1, r, d, s2, w1, le, ok1, rs, q1⟩ => ⟨I1.kIn, ?_⟩) he hpl
  by_cases c : d.length = n
  case neg => rw [if_neg c] at q1; exact q1.elim
  rw [if_pos c] at q1
  have q2 := postF_of ok1 q1
  have J : Inv X pinsX (L2.wipe σX vs) H1 s1 := (IX.call' (ch := fp) I1.os I1.base I1.hok I1.bare fun b hb => ⟨(hfp b hb).2.2.2.1, (hfp b hb).2.1, (hfp b hb).2.2.2.2.1, (hfp b hb).2.2.2.2.2⟩).weak (L2.wipe_length _ _) fun j v e => (wipe_some e).1
  have okW : Ok G κ w1 (wipeS vs s2) (L2.wipe σX vs) H1 := by rw [← hw]; exact ok1.wipe vs
  obtain ⟨oc, od, kV, doc, pm, an, cdv, ct, osl, rfl, lk, hcode⟩ := F.ex
  have hl : vs'.length = n := by rw [rs.length]; exact c
  have hul : us.length = ps.length := by rw [← r.length, hl, hn]
  have rc : codeAny (model X.prog X.w) X.A (.call (.ref f) ⟨us, []⟩) (CR (L2.CX X.prog X.w) X.stack X.prog X.w H1 s1 Q (WE WF σ)) s1 := by
    have hbd := hb s1 us I1.kIn (by simpa using hul)
    rw [List.append_nil] at hbd
    refine LamX.run_ofS (N := N) (ps := ps) (us := us) (vs := vs') lk hcode S hr I1.env0 hbd r (by rw [hl, hn]) fun hr' => ?_
    have hb0 := hbody w1 (lamR bs (wipeD vs s2.sl)) cdv X.A X.stack s1 H1 (WE WF σ) hr' (takes_of rfl rfl rfl rfl) (passes_of rfl) 
    have hK' : (G.at w1).K = X.K := hK
    rw [hK'] at hb0
    refine ⟨_, hb0 fun pn xe W' p1 p2 tk' => pd_act J okW GL hq hcl hbs tk' hr' hN hv hda hcd, ?_⟩
    rw [start_eq (m := m) (by rw [hl]; exact hm)]
    have fok' : FOk (G.at w1) w1 s2.st H1 := ok1.fok.sw (.inr fun _ _ z => ⟨z, .refl _⟩)
    have rs' : Reps (G.at w1) w1 vs' d := rs.sw (.inr fun _ _ z => ⟨z, .refl _⟩)
    refine ⟨⟨w1, H1, [], none⟩, w1, _, Ok.start fok' rs' m, ?_⟩
    unfold fnD at q2
    rw [if_pos c] at q2
    cases e : body (lamR bs (wipeD vs s2.sl)) ⟨d.map Sl.val ++ List.replicate m .un, s2.st⟩ with
    | stuck => rw [e] at q2; exact q2.elim
    | exc x s' =>
      rw [e] at q2
      exact fun w' σ' c dd H' le ok' rx => q2 w' c dd H' ok'.nx (ok'.fok.bk (.inr fun _ _ z => z.1)) (rx.bk (.inr fun _ _ z => z.1))
    | ok o s' =>
      rw [e] at q2
      cases o with
      | nx => exact fun w' σ' H' le ok' => q2 w' .non H' ok'.nx (ok'.fok.bk (.inr fun _ _ z => z.1)) .non
      | rt d => exact fun w' σ' v H' le ok' r' => q2 w' v H' ok'.nx (ok'.fok.bk (.inr fun _ _ z => z.1)) (r'.bk (.inr fun _ _ z => z.1))
      | bk => exact q2.elim
      | ct => exact q2.elim
  refine wpAny_call (codeAny_mono rc fun r s' hq => ?_)
  cases r with
  | error e => exact passAt tk σ pins H1 s1 e s' I1 hq
  | ok fl =>
    cases fl with
    | ret u => exact I1.after hq
    | next => exact False.elim hq
    | brk => exact False.elim hq
    | cont => exact False.elim hq
theorem pdo_lcL {elt tg iter : Expr} {ifs : List Expr} {scope : Scope} {own : List (Str × Nat)} {is : List Nat} {pos : Pos} {it : DA} {g : DG} {t : DT} {e : DE} (hc : X.calm = true) (hN : X.N.Nodup) (hi : PDI G W X tg iter it) (ok : BlkOk X.N X.env.scope scope own) (hs' : ∀ i ∈ is, i ∈ own.map (·.2))
    (hg : ∀ (s : Shared) (H : Hp) (C : Addr) (cl : List (Str × Addr)) (fp : List Addr), PDG G (X.blk s H scope (compEnvC scope cl C X.env) fp) tg is g) (ht : ∀ (s : Shared) (H : Hp) (C : Addr) (cl : List (Str × Addr)) (fp : List Addr), PTs (X.blk s H scope (compEnvC scope cl C X.env) fp) ifs (tDT G WF t))
    (he : ∀ (pins : List (Addr × Obj)) (σ : L2.St) (s : Shared) (H : Hp) (C : Addr) (cl : List (Str × Addr)) (fp : List Addr), Inv X pins σ H s → (∀ b ∈ fp, FpOk X pins H b) → PE (X.blk s H scope (compEnvC scope cl C X.env) fp) elt (fun σ' H' Q => L2.wipe σ' (own.map (·.2)) = L2.wipe σ (own.map (·.2)) ∧ tD G WF e σ' H' Q)) (hs : ∀ x, foldedSetIterable iter X.env x = pure x := by intro _; rfl) :
    PDo G W X (.ListComp elt [⟨tg, iter, ifs, 0⟩] scope pos) (aLc (own.map (·.2)) it g t e) :=
  (lcK hc hN hi ok hg ht he hs).imp fun σ H Q h => pdo_lc.lc_fin hs' h
end
end DL
set_option maxRecDepth 100000
set_option maxHeartbeats 4000000
set_option autoImplicit false
namespace DL
open PySem PySem.Spec PyProof.Rows L2 PySem.W
/-! ### o(..): an instance is called -/
section
variable {M : Model} {A : Around} {E : Value → Shared → Prop} {s : Shared} {env : Env} {pos : Pos} {x : Addr} {first : List Value} {Q : Value → Shared → Prop}
theorem callWithI_of {args : List (Bool × Sem Value)} {keywords : List (Option Str × Sem Value)} (hplain : (args.any (·.1) || keywords.any (·.1.isNone)) = false)
    (h : wpAny M A (evalArgs (.ref x) true args keywords) (fun a s₁ => (∃ (C : Addr) (ox : Obj) (od : Option Obj), PySem.W.InstAt s₁.heap x ox C od ∧ ox.data = .plain) ∧ wpAny M A (call (.ref x) (first ++ a.pos) a.kw) Q E s₁) E s) : wpAny M A (callWith pos (.ref x) first args keywords) Q E s := by
  unfold callWith
  refine wpAny_bind (wpAny_holding (wpAny_mono h (fun a s₁ h₁ => wpAny_bind (wpAny_standAt ?_)) fun _ _ y => y))
  obtain ⟨⟨C, ox, od, I, hd⟩, h2⟩ := h₁
  have L := PySem.W.kco_keeper (M := M) I hd
  simp only [hplain]
  refine wpAny_bind (L.here ?_)
  have tail : ∀ {t : Sem Value}, wpAny M A t Q E s₁ → wpAny M A (t >>= fun r => holding [r] point >>= fun _ => pure r) Q E s₁ :=
    fun ht => wpAny_bind (wpAny_mono ht (fun r s₂ hr => wpAny_bind (wpAny_holding (wpAny_point (wpAny_pure hr)))) fun _ _ y => y)
  exact tail (wpAny_operateT h2)
theorem callWithI {e : Expr} {rest : List Expr} (h : wpAny M A (spliced (backTo pos (starEach (e :: rest) env))) (fun vs s₁ => (∃ (C : Addr) (ox : Obj) (od : Option Obj), PySem.W.InstAt s₁.heap x ox C od ∧ ox.data = .plain) ∧ wpAny M A (call (.ref x) (first ++ vs)) Q E s₁) E s)
    (he : starEach (e :: rest) env = (false, eval e env) :: starEach rest env) (hplain : (backTo pos (starEach rest env)).any (·.1) = false) :
    wpAny M A (callWith pos (.ref x) first (backTo pos (starEach (e :: rest) env)) []) Q E s := by
  rw [he] at h ⊢
  exact callWithI_of (by show ((false || (backTo pos (starEach rest env)).any (·.1)) || false) = false; rw [hplain]; rfl) (PySem.Calls.evalArgs_plain h)
end
theorem fnIn_of {K : PySem.W.Frag} {x qual : Str} {st : Stmt} {f : Addr} {fd : FuncData} (F : Fun K x qual st f fd) : PySem.W.fnIn K f = true := by
  obtain ⟨oc, od, kV, doc, pm, an, cdv, ct, osl, _, lk, _⟩ := F.ex
  unfold PySem.W.fnIn
  rw [lk]
section
variable {G : Gam} {W : WX} {X : Cx}
def eCallI (c : String) (n : Nat) (g : DFn) (fo : DE) (fa : DA) : DE := fun s => (fo s).bind fun d s1 => match d with
  | .ins c' fs => if c' = c then (fa s1).bind fun ds s2 => if ds.length + 1 = n then lift s2 (g (.ins c' fs :: ds) s2.st) else .stuck
    else .stuck
  | _ => .stuck
theorem pd_callI (hK : G.K = X.K) {c : String} {n : Nat} {g : DFn} {fo : DE} {fa : DA} {C f : Addr} {k : Nat} {fd : FuncData} {ps : List Str} {o e : Expr} {es : List Expr} {pos : Pos} (he : PD G W X o fo) (hC : G.ct c = some C) (hm : Meth X.K C "__call__" f) (hfn : PySem.W.fnIn X.K f = true)
    (F : FnOk X.prog X.w X.K X.mg X.base (L2.CX X.prog X.w) k f fd ps (spG G n g)) (hr : Room k X.A) (hb : Binds X.K fd ps []) (tk : Takes X W) (ha : PDA G W X (e :: es) fa)
    (hst : starEach (e :: es) X.env = (false, eval e X.env) :: starEach es X.env := by rfl) (hpl : (backTo pos (starEach es X.env)).any (·.1) = false := by rfl)
    (ht : eval (.Call o (e :: es) [] pos) X.env = (do callWith pos (← eval o X.env) [] (backTo pos (starEach (e :: es) X.env)) (backToKw pos (keywordEach [] X.env))) := by rfl) :
    PD G W X (.Call o (e :: es) [] pos) (eCallI c n g fo fa) := by
  refine ⟨fun pins sh σ H Q I h => ?_⟩
  obtain ⟨κ, w, s, ok, q⟩ := h
  rw [ht]
  have hh : tD G W fo σ H fun v H1 => ∃ d s1 w1, w.le w1 ∧ Ok G κ w1 s1 σ H1 ∧ Rep G w1 v d ∧ PostG G W (Rep G) κ w1 σ (match d with
    | .ins c' fs => if c' = c then (fa s1).bind fun ds s2 => if ds.length + 1 = n then lift s2 (g (.ins c' fs :: ds) s2.st) else .stuck else .stuck
    | _ => .stuck) Q := ⟨κ, w, s, ok, PostG.bind q⟩
  refine wpAny_bind (thn (he.run pins sh σ H _ I hh) fun u s1 ⟨x, H1, I1, rx, d, t1, w1, le, ok1, r1, q1⟩ => ?_)
  cases d with
  | ins c' fs =>
    replace q1 : PostG G W (Rep G) κ w1 σ (if c' = c then (fa t1).bind fun ds s2 => if ds.length + 1 = n then lift s2 (g (.ins c' fs :: ds) s2.st) else .stuck else .stuck) Q := q1
    by_cases hc : c' = c
    · rw [if_pos hc] at q1
      subst hc
      cases r1 with
      | @ins a C' dx _ vs _ hC' hF rf =>
      rw [hC] at hC'
      cases hC'
      obtain rfl : u = Value.ref a := rx
      have hh2 : tDA G W fa σ H1 fun vs H2 => ∃ ds s2 w2, w1.le w2 ∧ Ok G κ w2 s2 σ H2 ∧ Reps G w2 vs ds ∧ PostG G W (Rep G) κ w2 σ (if ds.length + 1 = n then lift s2 (g (.ins c' fs :: ds) s2.st) else .stuck) Q := ⟨κ, w1, t1, ok1, PostG.bind q1⟩
      refine callWithI (first := []) (thn (ha.run pos pins s1 σ H1 _ I1 hh2) fun us s2 ⟨vs2, H2, I2, r2, ds, t2, w2, le2, ok2, rs2, q2⟩ => ?_) hst hpl
      obtain ⟨mA, J, _⟩ := ins_get I2.hok (ok2.fok.sub _ _ (le2.f _ _ hF))
      obtain ⟨od, J, _⟩ := J.look
      refine ⟨⟨C, _, _, J, rfl⟩, ?_⟩
      by_cases c3 : ds.length + 1 = n
      · rw [if_pos c3] at q2
        have rr : Reps G w2 (.ref a :: vs2) (.ins c' fs :: ds) := .cons (.ins hC (le2.f _ _ hF) (rf.mono le2)) rs2
        have hsp : spG G n g (.ref a :: vs2) H2 Q (WE W σ) := ⟨by rw [rr.length]; exact c3, w2, t2.st, _, ok2.fok, rr, postF_of ok2 q2⟩
        have hl := F.len _ _ _ _ hsp
        have rv : Vals (V.ref a :: vs2) (Value.ref a :: us) := .cons rfl r2
        have hl2 : (Value.ref a :: us).length = ps.length := by rw [← rv.length]; exact hl
        refine wpAny_call (PySem.W.kco_code (a := ⟨us, []⟩) I2.kIn J rfl hm.at_ hm.fn hfn (codeAny_mono (F.run X.A X.stack s2 H2 ⟨.ref a :: us, []⟩ (.ref a :: us) (.ref a :: vs2) Q (WE W σ) hr I2.env0 (by
          have := hb s2 (.ref a :: us) I2.kIn (by simpa using hl2)
          simpa using this) rv hsp) fun r s' hq => ?_))
        cases r with
        | error e => exact passAt tk σ pins H2 s2 e s' I2 hq
        | ok fl =>
          cases fl with
          | ret u => exact I2.after hq
          | next => exact False.elim hq
          | brk => exact False.elim hq
          | cont => exact False.elim hq
      · rw [if_neg c3] at q2
        exact q2.elim
    · rw [if_neg hc] at q1
      exact q1.elim
  | _ => exact q1.elim
/-! ### {} -/
def dNil : DD := fun s => .ok [] s
theorem pdod_nil {pos : Pos} : PDod G W X (.Dict [] [] pos) dNil :=
  pe_dnewK.imp fun σ H Q ⟨κ, w, s, ok, q⟩ => fun p hp => q w p [] _ (.refl _) (ok.fresh hp (.dK [])) (ok.apart hp) .nil
@[simp] theorem r_dNil (s : DS) : dNil s = .ok [] s := rfl
@[simp] theorem r_eCallI (c : String) (n : Nat) (g : DFn) (fo : DE) (fa : DA) (s : DS) : eCallI c n g fo fa s = (fo s).bind fun d s1 => match d with
  | .ins c' fs => if c' = c then (fa s1).bind fun ds s2 => if ds.length + 1 = n then lift s2 (g (.ins c' fs :: ds) s2.st) else .stuck else .stuck
  | _ => .stuck := rfl
end
end DL
set_option maxRecDepth 100000
set_option maxHeartbeats 4000000
set_option autoImplicit false
namespace DL
/-! ### readings, by simp -/
section
variable {s : DS} {st : List Cell} {sl : List Sl}
@[simp] theorem r_eC (d : D) (s : DS) : eC d s = .ok d s := rfl
@[simp] theorem r_eVar (i : Nat) (sl : List Sl) (st : List Cell) : eVar i ⟨sl, st⟩ = match sl[i]? with
  | some (.val d) => .ok d ⟨sl, st⟩
  | some (.ol xs) => .ok (.lst xs) ⟨sl.set i (.val (.lst xs)), st⟩
  | some (.od kvs) => .ok (.dic kvs) ⟨sl.set i (.val (.dic kvs)), st⟩
  | some (.ot kvs) => .ok (.dct kvs) ⟨sl.set i (.val (.dct kvs)), st⟩
  | some (.oi c fs) => .ok (.ins c fs) ⟨sl.set i (.val (.ins c fs)), st⟩
  | _ => .stuck := rfl
@[simp] theorem r_eOp2 (o : D → D → Option D) (fa fb : DE) (s : DS) : eOp2 o fa fb s = (fa s).bind fun x s1 => (fb s1).bind fun y s2 => match o x y with | some d => .ok d s2 | none => .stuck := rfl
@[simp] theorem r_eOpX (o : DO2) (fa fb : DE) (s : DS) : eOpX o fa fb s = (fa s).bind fun x s1 => (fb s1).bind fun y s2 => o x y s2 := rfl
@[simp] theorem r_eB (f : DE) (s : DS) : eB f s = (f s).bind fun d s1 => match d with | .bl b => .ok b s1 | _ => .stuck := rfl
@[simp] theorem r_eTru (f : DE) (s : DS) : eTru f s = (f s).bind fun d s1 => match truD d with | some b => .ok b s1 | none => .stuck := rfl
@[simp] theorem r_bAnd (f g : DT) (s : DS) : bAnd f g s = (f s).bind fun b s1 => if b = true then g s1 else .ok false s1 := rfl
@[simp] theorem r_bOr (f g : DT) (s : DS) : bOr f g s = (f s).bind fun b s1 => if b = true then .ok true s1 else g s1 := rfl
@[simp] theorem r_bNot (f : DT) (s : DS) : bNot f s = (f s).bind fun b s1 => .ok (!b) s1 := rfl
@[simp] theorem r_bYes (s : DS) : bYes s = .ok true s := rfl
@[simp] theorem r_eAndT (f g : DE) (s : DS) : eAndT f g s = (f s).bind fun d s1 => match truD d with | some b => if b = true then g s1 else .ok d s1 | none => .stuck := rfl
@[simp] theorem r_eOrT (f g : DE) (s : DS) : eOrT f g s = (f s).bind fun d s1 => match truD d with | some b => if b = true then .ok d s1 else g s1 | none => .stuck := rfl
@[simp] theorem r_eNotT (f : DE) (s : DS) : eNotT f s = (f s).bind fun d s1 => match truD d with | some b => .ok (.bl (!b)) s1 | none => .stuck := rfl
@[simp] theorem r_eIf (c : DT) (f g : DE) (s : DS) : eIf c f g s = (c s).bind fun b s1 => if b = true then f s1 else g s1 := rfl
@[simp] theorem r_aNil (s : DS) : aNil s = .ok [] s := rfl
@[simp] theorem r_aCons (f : DE) (g : DA) (s : DS) : aCons f g s = (f s).bind fun d s1 => (g s1).bind fun ds s2 => .ok (d :: ds) s2 := rfl
@[simp] theorem r_eTup (g : DA) (s : DS) : eTup g s = (g s).bind fun ds s1 => if ds.length ≤ 1000 then .ok (.tup ds) s1 else .stuck := rfl
@[simp] theorem r_aMax (g : DA) (s : DS) : aMax g s = (g s).bind fun ds s1 => if ds.length ≤ 1000 then .ok ds s1 else .stuck := rfl
@[simp] theorem r_eFrz (f : DA) (s : DS) : eFrz f s = (f s).bind fun xs s1 => .ok (.lst xs) s1 := rfl
@[simp] theorem r_eFrzD (f : DD) (s : DS) : eFrzD f s = (f s).bind fun xs s1 => .ok (.dic xs) s1 := rfl
@[simp] theorem r_sPass (s : DS) : sPass s = .ok .nx s := rfl
@[simp] theorem r_sNever (s : DS) : sNever s = .stuck := rfl
@[simp] theorem r_sBreak (s : DS) : sBreak s = .ok .bk s := rfl
@[simp] theorem r_sCont (s : DS) : sCont s = .ok .ct s := rfl
@[simp] theorem r_sSeq (f g : DStm) (s : DS) : sSeq f g s = (f s).bind fun o s1 => match o with | .nx => g s1 | o => .ok o s1 := rfl
@[simp] theorem r_sExpr (f : DE) (s : DS) : sExpr f s = (f s).bind fun _ s1 => .ok .nx s1 := rfl
@[simp] theorem r_sRet (f : DE) (s : DS) : sRet f s = (f s).bind fun d s1 => .ok (.rt d) s1 := rfl
@[simp] theorem r_sIf (c : DT) (f g : DStm) (s : DS) : sIf c f g s = (c s).bind fun b s1 => if b = true then f s1 else g s1 := rfl
@[simp] theorem r_sSet (i : Nat) (f : DE) (s : DS) : sSet i f s = (f s).bind fun d s1 => .ok .nx ⟨s1.sl.set i (.val d), s1.st⟩ := rfl
@[simp] theorem r_sSetO (i : Nat) (f : DA) (s : DS) : sSetO i f s = (f s).bind fun xs s1 => .ok .nx ⟨s1.sl.set i (.ol xs), s1.st⟩ := rfl
@[simp] theorem r_gN (i : Nat) (d : D) (s : DS) : gN i d s = .ok () ⟨s.sl.set i (.val d), s.st⟩ := rfl
@[simp] theorem r_gsNil (s : DS) : gsNil [] s = .ok () s := rfl
@[simp] theorem r_gsCons (g : DG) (k : List D → DS → Res DS Unit) (d : D) (r : List D) (s : DS) : gsCons g k (d :: r) s = (g d s).bind fun _ s1 => k r s1 := rfl
@[simp] theorem r_gT (n : Nat) (g : List D → DS → Res DS Unit) (ds : List D) (s : DS) : gT n g (.tup ds) s = if ds.length = n then g ds s else .stuck := rfl
@[simp] theorem r_noX_ok {σ α : Type} (a : α) (t : σ) : noX (Res.ok a t) = .ok a t := rfl
@[simp] theorem r_noX_stuck {σ α : Type} : noX (Res.stuck : Res σ α) = .stuck := rfl
@[simp] theorem r_noX_exc {σ α : Type} (x : Xc) (t : σ) : noX (Res.exc x t : Res σ α) = .stuck := rfl
@[simp] theorem r_sAsgT (f : DE) (g : DG) (s : DS) : sAsgT f g s = (f s).bind fun d s1 => (noX (g d s1)).bind fun _ s2 => .ok .nx s2 := rfl
@[simp] theorem r_sPar (i j : Nat) (f : DA) (s : DS) : sPar i j f s = (f s).bind fun ds s1 => match ds with | [x, y] => .ok .nx ⟨(s1.sl.set i (.val x)).set j (.val y), s1.st⟩ | _ => .stuck := rfl
@[simp] theorem r_sPar3 (i j l : Nat) (f : DA) (s : DS) : sPar3 i j l f s = (f s).bind fun ds s1 => match ds with | [x, y, z] => .ok .nx ⟨((s1.sl.set i (.val x)).set j (.val y)).set l (.val z), s1.st⟩ | _ => .stuck := rfl
@[simp] theorem r_lo_nx (s : DS) (k : DS → Res DS Out) : loopOut (.ok .nx s) k = k s := rfl
@[simp] theorem r_lo_ct (s : DS) (k : DS → Res DS Out) : loopOut (.ok .ct s) k = k s := rfl
@[simp] theorem r_lo_bk (s : DS) (k : DS → Res DS Out) : loopOut (.ok .bk s) k = .ok .nx s := rfl
@[simp] theorem r_lo_rt (d : D) (s : DS) (k : DS → Res DS Out) : loopOut (.ok (.rt d) s) k = .ok (.rt d) s := rfl
@[simp] theorem r_lo_stuck (k : DS → Res DS Out) : loopOut .stuck k = .stuck := rfl
@[simp] theorem r_for_nil (g : DG) (b : DStm) (s : DS) : forL g b [] s = .ok .nx s := rfl
@[simp] theorem r_for_cons (g : DG) (b : DStm) (d : D) (r : List D) (s : DS) : forL g b (d :: r) s = (noX (g d s)).bind fun _ s1 => loopOut (b s1) (forL g b r) := rfl
@[simp] theorem r_sFor (it : DA) (g : DG) (b : DStm) (s : DS) : sFor it g b s = (it s).bind fun ds s1 => forL g b ds s1 := rfl
@[simp] theorem r_itSeq (f : DE) (s : DS) : itSeq f s = (f s).bind fun d s1 => match itemsD d with | some xs => .ok xs s1 | none => .stuck := rfl
@[simp] theorem r_itemsD_l (xs : List D) : itemsD (.lst xs) = some xs := rfl
@[simp] theorem r_itemsD_s (xs : List D) : itemsD (.scr xs) = some xs := rfl
@[simp] theorem r_itemsD_t (xs : List D) : itemsD (.tup xs) = some xs := rfl
@[simp] theorem r_itemsD_str (xs : Nm) : itemsD (.str xs) = some (xs.map fun c => .str [c]) := rfl
@[simp] theorem r_eCall (n : Nat) (g : DFn) (fa : DA) (s : DS) : eCall n g fa s = (fa s).bind fun ds s1 => if ds.length = n then lift s1 (g ds s1.st) else .stuck := rfl
@[simp] theorem r_lift_ok {α : Type} (s : DS) (d : α) (S : List Cell) : lift s (.ok d S) = .ok d ⟨s.sl, S⟩ := rfl
@[simp] theorem r_lift_exc {α : Type} (s : DS) (x : Xc) (S : List Cell) : lift s (.exc x S : Res (List Cell) α) = .exc x ⟨s.sl, S⟩ := rfl
@[simp] theorem r_lift_stuck {α : Type} (s : DS) : lift s (.stuck : Res (List Cell) α) = .stuck := rfl
@[simp] theorem r_eMake (c : String) (n : Nat) (g : DIn) (fa : DA) (s : DS) : eMake c n g fa s = (fa s).bind fun ds s1 => if ds.length = n then (lift s1 (g ds s1.st)).bind fun fs s2 => .ok (.ins c fs) s2 else .stuck := rfl
@[simp] theorem r_eMeth (c : String) (m : Nm) (n : Nat) (g : DFn) (fo : DE) (fa : DA) (s : DS) : eMeth c m n g fo fa s = (fo s).bind fun d s1 => match insOf d s1 with
  | some (c', fs) => if c' = c ∧ fs.lookup m = none then (fa s1).bind fun ds s2 => if ds.length + 1 = n then lift s2 (g (d :: ds) s2.st) else .stuck else .stuck
  | none => .stuck := rfl
@[simp] theorem r_eFld (cs : List String) (fn : Nm) (f : DE) (s : DS) : eFld cs fn f s = (f s).bind fun d s1 => match insOf d s1 with
  | some (c, fs) => if c ∈ cs then match fs.lookup fn with | some x => .ok x s1 | none => .stuck else .stuck
  | none => .stuck := rfl
@[simp] theorem r_insOf (c : String) (fs : List (Nm × D)) (s : DS) : insOf (.ins c fs) s = some (c, fs) := rfl
@[simp] theorem r_eInv (c : String) (g : DFn) (f : DE) (s : DS) : eInv c g f s = (f s).bind fun d s1 => match insOf d s1 with | some (c1, _) => if c1 = c then lift s1 (g [d] s1.st) else .stuck | none => .stuck := rfl
@[simp] theorem r_ownO (c c1 c2 : String) (f1 f2 : List (Nm × D)) (g : DFn) (s : DS) : ownO c g (.ins c1 f1) (.ins c2 f2) s = if c1 = c ∧ c2 = c then lift s (g [.ins c1 f1, .ins c2 f2] s.st) else .stuck := rfl
@[simp] theorem r_ownNe (c : String) (g : DFn) (x y : D) (s : DS) : ownNe c g x y s = negD (ownO c g x y s) := rfl
@[simp] theorem r_negD (b : Bool) (s : DS) : negD (.ok (.bl b) s) = .ok (.bl (!b)) s := rfl
@[simp] theorem r_eCB (o : List D → Option D) (fa : DA) (s : DS) : eCB o fa s = (fa s).bind fun ds s1 => match o ds with | some d => .ok d s1 | none => .stuck := rfl
@[simp] theorem r_eNeg (f : DE) (s : DS) : eNeg f s = (f s).bind fun d s1 => match d with | .int i => .ok (.int (-i)) s1 | _ => .stuck := rfl
@[simp] theorem r_eIx (fa fb : DE) (s : DS) : eIx fa fb s = (fa s).bind fun x s1 => (fb s1).bind fun y s2 => match y with | .int i => (match ixD x i with | some d => .ok d s2 | none => .stuck) | _ => .stuck := rfl
@[simp] theorem r_sFldO (c : String) (i : Nat) (fn : Nm) (f : DE) (s : DS) : sFldO c i fn f s = (f s).bind fun d s1 => match s1.sl[i]? with
  | some (.oi c' fs) => if c' = c ∧ fs.length < 1000 then .ok .nx ⟨s1.sl.set i (.oi c (putN fn d fs)), s1.st⟩ else .stuck
  | _ => .stuck := rfl
@[simp] theorem r_aList (fa : DA) (s : DS) : aList fa s = (fa s).bind fun ds s1 => match ds with | [d] => (match seqD d with | some xs => .ok xs s1 | none => .stuck) | _ => .stuck := rfl
@[simp] theorem r_seqD_l (xs : List D) : seqD (.lst xs) = some xs := rfl
@[simp] theorem r_seqD_s (xs : List D) : seqD (.scr xs) = some xs := rfl
@[simp] theorem r_seqD_t (xs : List D) : seqD (.tup xs) = some xs := rfl
@[simp] theorem r_oNone (s : DS) : oNone s = .ok none s := rfl
@[simp] theorem r_oSome (f : DE) (s : DS) : oSome f s = (f s).bind fun d s1 => match d with | .int i => .ok (some i) s1 | _ => .stuck := rfl
@[simp] theorem r_aSl (f : DE) (l h : DOp) (s : DS) : aSl f l h s = (f s).bind fun d s1 => (l s1).bind fun lo s2 => (h s2).bind fun hi s3 => match d with | .lst xs => .ok (cutD xs lo hi) s3 | .scr xs => .ok (cutD xs lo hi) s3 | _ => .stuck := rfl
@[simp] theorem r_eSlT (f : DE) (l h : DOp) (s : DS) : eSlT f l h s = (f s).bind fun d s1 => (l s1).bind fun lo s2 => (h s2).bind fun hi s3 => match d with | .tup xs => if (cutD xs lo hi).length ≠ xs.length then .ok (.tup (cutD xs lo hi)) s3 else .stuck | _ => .stuck := rfl
@[simp] theorem r_eSlA (f : DE) (l h : DOp) (s : DS) : eSlA f l h s = (f s).bind fun d s1 => (l s1).bind fun lo s2 => (h s2).bind fun hi s3 => match slD d lo hi with | some x => .ok x s3 | none => .stuck := rfl
@[simp] theorem r_slD_l (xs : List D) (lo hi : Option Int) : slD (.lst xs) lo hi = some (.lst (cutD xs lo hi)) := rfl
@[simp] theorem r_slD_s (xs : List D) (lo hi : Option Int) : slD (.scr xs) lo hi = some (.lst (cutD xs lo hi)) := rfl
@[simp] theorem r_slD_t (xs : List D) (lo hi : Option Int) : slD (.tup xs) lo hi = if (cutD xs lo hi).length ≠ xs.length then some (.tup (cutD xs lo hi)) else none := rfl
/-! data -/
@[simp] theorem r_iAdd (i j : Int) : iAdd (.int i) (.int j) = some (.int (i + j)) := rfl
@[simp] theorem r_dAdd (i j : Int) : dAdd (.int i) (.int j) = some (.int (i + j)) := rfl
@[simp] theorem r_iSub (i j : Int) : iSub (.int i) (.int j) = some (.int (i - j)) := rfl
@[simp] theorem r_dMul (i j : Int) : dMul (.int i) (.int j) = if mulOk i j = true then some (.int (i * j)) else none := rfl
@[simp] theorem r_iDiv (i j : Int) : iDiv (.int i) (.int j) = if divOk j = true then some (.int (i.fdiv j)) else none := rfl
@[simp] theorem r_iMod (i j : Int) : iMod (.int i) (.int j) = if j ≠ 0 then some (.int (i.fmod j)) else none := rfl
@[simp] theorem r_iPow (i j : Int) : iPow (.int i) (.int j) = if 0 ≤ j ∧ j ≤ 1000000 ∧ i.natAbs < 2 ^ 64 then some (.int (i ^ j.toNat)) else none := rfl
@[simp] theorem r_iLt (i j : Int) : iLt (.int i) (.int j) = some (.bl (decide (i < j))) := rfl
@[simp] theorem r_iLe (i j : Int) : iLe (.int i) (.int j) = some (.bl (decide (i ≤ j))) := rfl
@[simp] theorem r_iGt (i j : Int) : iGt (.int i) (.int j) = some (.bl (decide (j < i))) := rfl
@[simp] theorem r_iGe (i j : Int) : iGe (.int i) (.int j) = some (.bl (decide (j ≤ i))) := rfl
@[simp] theorem r_dEq_int (i j : Int) : dEq (.int i) (.int j) = some (.bl (decide (i = j))) := by
  show (if (true && true) = true then some (D.bl (i == j)) else none) = _
  simp [Bool.beq_eq_decide_eq]
@[simp] theorem r_dNe_int (i j : Int) : dNe (.int i) (.int j) = some (.bl (!decide (i = j))) := by
  show (if (true && true) = true then some (D.bl (!(i == j))) else none) = _
  simp [Bool.beq_eq_decide_eq]
@[simp] theorem r_dIsN (x : D) : dIsN x .non = some (.bl (isNonD x)) := rfl
@[simp] theorem r_dNotN (x : D) : dNotN x .non = some (.bl (!isNonD x)) := rfl
@[simp] theorem r_isNon : isNonD .non = true := rfl
@[simp] theorem r_isNon_t (xs : List D) : isNonD (.tup xs) = false := rfl
@[simp] theorem r_isNon_i (i : Int) : isNonD (.int i) = false := rfl
@[simp] theorem r_isNon_n (c : String) (fs : List (Nm × D)) : isNonD (.ins c fs) = false := rfl
@[simp] theorem r_isNon_l (xs : List D) : isNonD (.lst xs) = false := rfl
@[simp] theorem r_tru_bl (b : Bool) : truD (.bl b) = some b := rfl
@[simp] theorem r_tru_non : truD .non = some false := rfl
@[simp] theorem r_tru_int (i : Int) : truD (.int i) = some (i != 0) := rfl
@[simp] theorem r_tru_lst (xs : List D) : truD (.lst xs) = some (!xs.isEmpty) := rfl
@[simp] theorem r_tru_tup (xs : List D) : truD (.tup xs) = some (!xs.isEmpty) := rfl
@[simp] theorem r_bInt (i : Int) : bInt [.int i] = some (.int i) := rfl
@[simp] theorem r_bInt_b (b : Bool) : bInt [.bl b] = some (.int (if b then 1 else 0)) := rfl
@[simp] theorem r_bLen_l (xs : List D) : bLen [.lst xs] = some (.int xs.length) := rfl
@[simp] theorem r_bLen_s (xs : List D) : bLen [.scr xs] = some (.int xs.length) := rfl
@[simp] theorem r_bLen_t (xs : List D) : bLen [.tup xs] = some (.int xs.length) := rfl
@[simp] theorem r_bAbs (i : Int) : bAbs [.int i] = some (.int (if i < 0 then -i else i)) := rfl
@[simp] theorem r_bTup_l (xs : List D) : bTup [.lst xs] = some (.tup xs) := rfl
@[simp] theorem r_bTup_t (xs : List D) : bTup [.tup xs] = some (.tup xs) := rfl
@[simp] theorem r_bMax (i j : Int) : bMax2 [.int i, .int j] = some (.int (if j > i then j else i)) := rfl
@[simp] theorem r_bMin (i j : Int) : bMin2 [.int i, .int j] = some (.int (if j < i then j else i)) := rfl
@[simp] theorem r_ix_t (xs : List D) (i : Int) : ixD (.tup xs) i = L2.atI xs i := rfl
@[simp] theorem r_ix_l (xs : List D) (i : Int) : ixD (.lst xs) i = L2.atI xs i := rfl
@[simp] theorem r_ix_s (xs : List D) (i : Int) : ixD (.scr xs) i = L2.atI xs i := rfl
@[simp] theorem r_at0 {α : Type} (x : α) (r : List α) : L2.atI (x :: r) 0 = some x := L2.atI_nat (j := 0) rfl
@[simp] theorem r_at1 {α : Type} (x y : α) (r : List α) : L2.atI (x :: y :: r) 1 = some y := L2.atI_nat (j := 1) rfl
@[simp] theorem r_at2 {α : Type} (x y z : α) (r : List α) : L2.atI (x :: y :: z :: r) 2 = some z := L2.atI_nat (j := 2) rfl
@[simp] theorem r_at3 {α : Type} (x y z u : α) (r : List α) : L2.atI (x :: y :: z :: u :: r) 3 = some u := L2.atI_nat (j := 3) rfl
/-! isinstance -/
theorem mem_ty : ("int" ∈ tyNames) = True ∧ ("bool" ∈ tyNames) = True ∧ ("str" ∈ tyNames) = True ∧ ("list" ∈ tyNames) = True ∧ ("tuple" ∈ tyNames) = True ∧ ("dict" ∈ tyNames) = True ∧ ("NoneType" ∈ tyNames) = True := by simp [tyNames]
@[simp] theorem r_isi_int_int (cs : List String) (i : Int) : bIsi cs [.int i, .ty "int"] = some (.bl true) := by simp [bIsi, tyOfD, tyD, isOne, mem_ty, isTy]
@[simp] theorem r_isi_int_bool (cs : List String) (i : Int) : bIsi cs [.int i, .ty "bool"] = some (.bl false) := by simp [bIsi, tyOfD, tyD, isOne, mem_ty, isTy]
@[simp] theorem r_isi_ins_cls (cs : List String) (c : String) (fs : List (Nm × D)) (c' : String) (h : c ∈ cs := by simp) (h' : c' ∈ cs := by simp) : bIsi cs [.ins c fs, .cls c'] = some (.bl (c == c')) := by simp [bIsi, tyOfD, isOne, h, h']
@[simp] theorem r_isi_int_cls (cs : List String) (i : Int) (c' : String) (h' : c' ∈ cs := by simp) : bIsi cs [.int i, .cls c'] = some (.bl false) := by simp [bIsi, tyOfD, tyD, isOne, h', mem_ty]
@[simp] theorem r_isi_non_cls (cs : List String) (c' : String) (h' : c' ∈ cs := by simp) : bIsi cs [.non, .cls c'] = some (.bl false) := by simp [bIsi, tyOfD, tyD, isOne, h', mem_ty]
end
/-! ### bits -/
class Bd (x : Int) (n : outParam Nat) : Prop where
  lt : x.natAbs < 2 ^ n
theorem Bd.le {x : Int} {n m : Nat} (h : Bd x n) (hnm : n ≤ m) : Bd x m := ⟨Nat.lt_of_lt_of_le h.lt (Nat.pow_le_pow_right (by decide) hnm)⟩
instance bd_add {x y : Int} {m n : Nat} [h : Bd x m] [k : Bd y n] : Bd (x + y) (m + n + 1) := ⟨by
  have h1 := h.lt
  have h2 := k.lt
  have h3 : (2 : Nat) ^ m ≤ 2 ^ (m + n) := Nat.pow_le_pow_right (by decide) (by omega)
  have h4 : (2 : Nat) ^ n ≤ 2 ^ (m + n) := Nat.pow_le_pow_right (by decide) (by omega)
  have h5 : (2 : Nat) ^ (m + n + 1) = 2 ^ (m + n) * 2 := Nat.pow_succ ..
  omega⟩
instance bd_neg {x : Int} {m : Nat} [h : Bd x m] : Bd (-x) m := ⟨by rw [Int.natAbs_neg]; exact h.lt⟩
instance bd_sub {x y : Int} {m n : Nat} [h : Bd x m] [k : Bd y n] : Bd (x - y) (m + n + 1) := by
  rw [Int.sub_eq_add_neg]; exact bd_add
instance bd_mul {x y : Int} {m n : Nat} [h : Bd x m] [k : Bd y n] : Bd (x * y) (m + n) := ⟨by
  rw [Int.natAbs_mul, Nat.pow_add]
  exact Nat.mul_lt_mul'' h.lt k.lt⟩
instance bd_0 : Bd 0 0 := ⟨by decide⟩
instance bd_1 : Bd 1 1 := ⟨by decide⟩
theorem log2_lt {x : Int} {n : Nat} (h : Bd x n) : x.natAbs.log2 ≤ n := by
  have := h.lt
  by_cases e : x.natAbs = 0
  · rw [e]; simp
  · exact Nat.le_of_lt ((Nat.log2_lt e).mpr this)
theorem mulOk_of {x y : Int} {m n : Nat} (h : Bd x m) (k : Bd y n) (hl : m + n < 100000000) : mulOk x y = true := by
  unfold mulOk
  have h1 := log2_lt h
  have h2 := log2_lt k
  exact decide_eq_true (by omega)
@[simp] theorem mulOk_bd {x y : Int} {m n : Nat} [h : Bd x m] [k : Bd y n] (hl : m + n < 100000000) : mulOk x y = true := mulOk_of h k hl
theorem divOk_of {y : Int} {n : Nat} (k : Bd y n) (h0 : y ≠ 0) (hl : n < 9000) : divOk y = true := by
  unfold divOk
  exact decide_eq_true ⟨h0, Nat.lt_of_le_of_lt (log2_lt k) hl⟩
@[simp] theorem divOk_bd {y : Int} {n : Nat} [k : Bd y n] (h0 : y ≠ 0) (hl : n < 9000) : divOk y = true := divOk_of k h0 hl
@[simp] theorem divOk_2 : divOk 2 = true := by decide
end DL
set_option maxRecDepth 100000
set_option maxHeartbeats 4000000
set_option autoImplicit false
namespace DL
@[simp] theorem r_eDGet (fo fi : DE) (s : DS) : eDGet fo fi s = (fo s).bind fun d s1 => (fi s1).bind fun k s2 => match dictOf d s2, kOf k with
  | some kvs, some k => match dLook kvs k with
    | some x => .ok x s2
    | none => .stuck
  | _, _ => .stuck := rfl
@[simp] theorem r_dictOf_c (n : Nat) (sl : List Sl) (st : List Cell) : dictOf (.cell n) ⟨sl, st⟩ = match st[n]? with | some (.dic kvs) => some kvs | _ => none := rfl
@[simp] theorem r_dictOf_d (kvs : List (DK × D)) (s : DS) : dictOf (.dic kvs) s = some kvs := rfl
@[simp] theorem r_kOf_s (l : List Nat) : kOf (.str l) = some (.s l) := rfl
@[simp] theorem r_kOf_i (l : Int) : kOf (.int l) = some (.i l) := rfl
@[simp] theorem r_sDPutC (fo fi fv : DE) (s : DS) : sDPutC fo fi fv s = (fv s).bind fun x s1 => (fo s1).bind fun d s2 => (fi s2).bind fun k s3 => match d, kOf k with
  | .cell n, some k => match s3.st[n]? with
    | some (.dic kvs) => if kvs.length < 1000000 ∧ keysNd kvs = true then .ok .nx ⟨s3.sl, s3.st.set n (.dic (dPut kvs k x))⟩ else .stuck
    | _ => .stuck
  | _, _ => .stuck := rfl
@[simp] theorem r_eCellD (f : DD) (s : DS) : eCellD f s = (f s).bind fun xs s1 => .ok (.cell s1.st.length) ⟨s1.sl, s1.st ++ [.dic xs]⟩ := rfl
@[simp] theorem r_dDisp (fs : List (DE × DE)) (s : DS) : dDisp fs s = (pairsD fs s).bind fun ps s1 => match keyed ps with
  | some kvs => if kvs.length ≤ 15 ∧ keysNd kvs = true then .ok kvs s1 else .stuck
  | none => .stuck := rfl
@[simp] theorem r_pairs_nil (s : DS) : pairsD [] s = .ok [] s := rfl
@[simp] theorem r_pairs_cons (fk fv : DE) (r : List (DE × DE)) (s : DS) : pairsD ((fk, fv) :: r) s = (fk s).bind fun k s1 => (fv s1).bind fun x s2 => (pairsD r s2).bind fun ps s3 => .ok ((k, x) :: ps) s3 := rfl
@[simp] theorem r_keyed_nil : keyed [] = some [] := rfl
@[simp] theorem r_keyed_cons (k x : D) (r : List (D × D)) : keyed ((k, x) :: r) = match kOf k, keyed r with
    | some k, some r => some ((k, x) :: r)
    | _, _ => none := rfl
@[simp] theorem r_itR1 (f : DA) (s : DS) : itR1 f s = (f s).bind fun ds s1 => match ds with
  | [.int j] => if -(2 ^ 62) ≤ j ∧ j < 2 ^ 62 then .ok (rngL 0 j.toNat) s1 else .stuck
  | _ => .stuck := rfl
@[simp] theorem r_itEnum_l (f : DA) (s : DS) : itEnum f s = (f s).bind fun ds s1 => match ds with
  | [.lst xs] => .ok (enumL xs) s1
  | [.scr xs] => .ok (enumL xs) s1
  | _ => .stuck := rfl
@[simp] theorem r_itZip (f : DA) (s : DS) : itZip f s = (f s).bind fun ds s1 => match ds with
  | [.lst xs, .lst ys] => .ok (zipL xs ys) s1
  | [.tup xs, .tup ys] => .ok (zipL xs ys) s1
  | _ => .stuck := rfl
@[simp] theorem r_aLc (vs : List Nat) (it : DA) (g : DG) (t : DT) (e : DE) (s : DS) : aLc vs it g t e s = (it s).bind fun items s1 => (noX (lcL vs g t e items [] s1)).bind fun ys s2 => .ok ys ⟨unwipe vs s1.sl (wipeD vs s2.sl), s2.st⟩ := rfl
@[simp] theorem r_lc_nil (vs : List Nat) (g : DG) (t : DT) (e : DE) (acc : List D) (s : DS) : lcL vs g t e [] acc s = .ok acc s := rfl
@[simp] theorem r_lc_cons (vs : List Nat) (g : DG) (t : DT) (e : DE) (d : D) (r acc : List D) (s : DS) : lcL vs g t e (d :: r) acc s = (noX (g d (wipeS vs s))).bind fun _ s1 => (noX (t s1)).bind fun b s2 => if b = true then (noX (e s2)).bind fun y s3 => if acc.length < 1000000 then lcL vs g t e r (acc ++ [y]) s3 else .stuck
    else lcL vs g t e r acc s2 := rfl
@[simp] theorem r_wipe_nil (l : List Sl) : wipeD [] l = l := rfl
@[simp] theorem r_wipe_cons (v : Nat) (vs : List Nat) (l : List Sl) : wipeD (v :: vs) l = (wipeD vs l).set v .un := rfl
@[simp] theorem r_wipeS (vs : List Nat) (s : DS) : wipeS vs s = ⟨wipeD vs s.sl, s.st⟩ := rfl
@[simp] theorem r_unw_nil (o l : List Sl) : unwipe [] o l = l := rfl
@[simp] theorem r_unw_cons (v : Nat) (vs : List Nat) (o l : List Sl) : unwipe (v :: vs) o l = (unwipe vs o l).set v (match o[v]? with | some (.val d) => .val d | _ => .un) := rfl
@[simp] theorem r_sApp (i : Nat) (fa : DA) (s : DS) : sApp i fa s = match s.sl[i]? with
  | some (.ol _) => (fa s).bind fun ds s1 => match ds, s1.sl[i]? with
    | [d], some (.ol xs) => if xs.length < 1000000 then .ok .nx ⟨s1.sl.set i (.ol (xs ++ [d])), s1.st⟩ else .stuck
    | _, _ => .stuck
  | _ => .stuck := rfl
/-! data equality -/
open PySem in
theorem pys_ints (ns : List Int) : toPys (ns.map D.int) = some (ns.map PyData.int) := by
  induction ns with
  | nil => rfl
  | cons a r ih => simp [toPys, toPy, ih]
open PySem in
theorem can_ints (ns : List Int) : PyData.canLayAll0 (ns.map PyData.int) = true := by
  induction ns with
  | nil => rfl
  | cons a r ih => simp [PyData.canLayAll0, PyData.canLay0, ih]
open PySem in
theorem dep_ints (ns : List Int) : PyData.depthAll (ns.map PyData.int) = 0 := by
  induction ns with
  | nil => rfl
  | cons a r ih => simp [PyData.depthAll, PyData.depth, ih]
open PySem in
@[simp] theorem r_ne_nil (ns : List Int) : dNe (.lst (ns.map D.int)) (.lst []) = some (.bl (!ns.isEmpty)) := by
  cases ns with
  | nil => simp [dNe, toPy, toPys, SeqAt.shaped, PyData.canLay0, PyData.depth, PyData.depthAll, PyData.eqv, PyData.eqvAll, PyData.canLayAll0]
  | cons a r => simp [dNe, toPy, toPys, pys_ints, can_ints, dep_ints, SeqAt.shaped, PyData.canLay0, PyData.depth, PyData.depthAll, PyData.eqv, PyData.eqvAll, PyData.canLayAll0]
@[simp] theorem r_ne_nil0 : dNe (.lst []) (.lst []) = some (.bl false) := r_ne_nil []
/-! the draw pen -/
abbrev penD (cs : List Int) (c l : Int) : List (DK × D) := [(.s [99, 101, 108, 108, 115], .lst (cs.map D.int)), (.s [99, 111, 117, 110, 116], .int c), (.s [108, 101, 102, 116], .int l)]
def Pen (n : Nat) (S : List Cell) : Prop := ∃ cs c l, S = [.dic (penD cs c l)] ∧ 0 ≤ c ∧ c ≤ n ∧ 0 ≤ l
theorem Pen.mono {n m : Nat} {S : List Cell} (h : Pen n S) (hm : n ≤ m) : Pen m S := by
  obtain ⟨cs, c, l, h1, h2, h3, h4⟩ := h
  exact ⟨cs, c, l, h1, h2, by omega, h4⟩
theorem ix_mod (cs : List Int) (c : Int) (h : cs ≠ []) : ∃ x : Int, L2.atI (cs.map D.int) (c.fmod cs.length) = some (.int x) := by
  have hp : (0 : Int) < cs.length := by
    cases cs with
    | nil => exact absurd rfl h
    | cons a r => simp
  have h1 : 0 ≤ c.fmod cs.length := Int.fmod_nonneg_of_pos _ hp
  have h2 : c.fmod cs.length < cs.length := Int.fmod_lt_of_pos _ hp
  obtain ⟨k, hk⟩ := Int.eq_ofNat_of_zero_le h1
  rw [hk] at h2 ⊢
  have h3 : k < cs.length := by omega
  refine ⟨cs[k], ?_⟩
  have : (cs.map D.int)[k]? = some (D.int cs[k]) := by simp [h3]
  exact L2.atI_nat this
theorem Bd.of_range {x : Int} {m n : Nat} (h0 : 0 ≤ x) (h1 : x < m) (h : m ≤ 2 ^ n) : Bd x n := ⟨by omega⟩
end DL
set_option maxRecDepth 100000
set_option maxHeartbeats 4000000
set_option autoImplicit false
namespace DL
/-! more bounds -/
instance bd_half {x : Int} {n : Nat} [h : Bd x n] : Bd (x.fdiv 2) n := ⟨by
  have := h.lt
  rw [Int.fdiv_eq_ediv_of_nonneg _ (by decide)]
  omega⟩
instance bd_abs {x : Int} {n : Nat} [h : Bd x n] : Bd (if x < 0 then -x else x) n := ⟨by
  have := h.lt
  split
  · rw [Int.natAbs_neg]; exact this
  · exact this⟩
instance bd_ite {c : Prop} [Decidable c] {x y : Int} {m n : Nat} [h : Bd x m] [k : Bd y n] : Bd (if c then x else y) (m + n) := ⟨by
  split
  · exact Nat.lt_of_lt_of_le h.lt (Nat.pow_le_pow_right (by decide) (by omega))
  · exact Nat.lt_of_lt_of_le k.lt (Nat.pow_le_pow_right (by decide) (by omega))⟩
theorem Bd.of_le {x : Int} {y : Int} {n : Nat} (k : Bd y n) (h0 : 0 ≤ x) (h : x ≤ y) : Bd x n := ⟨by have := k.lt; omega⟩
theorem fdiv_le_abs (x y : Int) : (x.fdiv y).natAbs ≤ x.natAbs + 1 := by
  by_cases hy : y = 0
  · subst hy; simp
  have key : ∀ x y : Int, 0 < y → (x.fdiv y).natAbs ≤ x.natAbs + 1 := fun x y hy => by
    have h1 : y * x.fdiv y + x.fmod y = x := Int.mul_fdiv_add_fmod x y
    have h2 : 0 ≤ x.fmod y := Int.fmod_nonneg_of_pos _ hy
    have h3 : x.fmod y < y := Int.fmod_lt_of_pos _ hy
    generalize x.fdiv y = q at *
    by_cases c : 0 ≤ q
    · have := Int.mul_nonneg (show 0 ≤ y - 1 by omega) c
      rw [Int.sub_mul] at this
      omega
    · have := Int.mul_nonneg (show 0 ≤ y - 1 by omega) (show 0 ≤ -q - 1 by omega)
      rw [show (y - 1) * (-q - 1) = -(y * q) - y + q + 1 by grind] at this
      omega
  by_cases c : 0 < y
  · exact key x y c
  · have h := key (-x) (-y) (by omega)
    rw [show (-x).fdiv (-y) = x.fdiv y from Int.neg_fdiv_neg x y, Int.natAbs_neg] at h
    exact h
instance bd_fdiv {x y : Int} {n : Nat} [h : Bd x n] : Bd (x.fdiv y) (n + 1) := ⟨by
  have h1 := h.lt
  have h2 := fdiv_le_abs x y
  have h3 : (2 : Nat) ^ (n + 1) = 2 ^ n * 2 := Nat.pow_succ ..
  have h4 : 1 ≤ (2 : Nat) ^ n := Nat.one_le_two_pow
  omega⟩
/-! readings of DLu -/
@[simp] theorem r_eBits (f : DE) (s : DS) : eBits f s = (f s).bind fun d s1 => match d with | .int i => .ok (.int (PySem.Builtin.Int.intBits i : Nat)) s1 | _ => .stuck := rfl
@[simp] theorem r_sRaise (c : String) (f : Nm) (fa : DA) (s : DS) : sRaise c f fa s = (fa s).bind fun ds s1 => match ds with | [d] => .exc ⟨c, [(f, d)]⟩ s1 | _ => .stuck := rfl
@[simp] theorem r_iShl (i j : Int) : iShl (.int i) (.int j) = if 0 ≤ j ∧ j ≤ 1000000 ∧ i.natAbs < 2 ^ 64 then some (.int (i * 2 ^ j.toNat)) else none := rfl
@[simp] theorem r_inS (neg : Bool) (c : Nat) (l : Nm) : dIn neg (.str [c]) (.str l) = some (.bl (if neg then !decide (c ∈ l) else decide (c ∈ l))) := rfl
@[simp] theorem r_lo_exc (x : Xc) (s : DS) (k : DS → Res DS Out) : loopOut (.exc x s) k = .exc x s := rfl
theorem inF_ints (neg : Bool) (i : Int) (ns : List Int) : dIn neg (.int i) (.tup (ns.map D.int)) = some (.bl (if neg then !decide (i ∈ ns) else decide (i ∈ ns))) := by
  have h1 : (ns.map D.int).all flD = true := by simp [flD]
  have h2 : (ns.map D.int).any (fun z => eqFl z (.int i)) = decide (i ∈ ns) := by
    induction ns with
    | nil => rfl
    | cons a r ih =>
      simp only [List.map_cons, List.any_cons, ih (by simp [flD])]
      show ((a == i) || decide (i ∈ r)) = _
      by_cases e : a = i
      · subst e; simp
      · simp [e, Ne.symm e]
  simp [dIn, inS, inF, h1, h2, flD]
theorem inF_intsL (neg : Bool) (i : Int) (ns : List Int) : dIn neg (.int i) (.lst (ns.map D.int)) = some (.bl (if neg then !decide (i ∈ ns) else decide (i ∈ ns))) := by
  have h1 : (ns.map D.int).all flD = true := by simp [flD]
  have h2 : (ns.map D.int).any (fun z => eqFl z (.int i)) = decide (i ∈ ns) := by
    induction ns with
    | nil => rfl
    | cons a r ih =>
      simp only [List.map_cons, List.any_cons, ih (by simp [flD])]
      show ((a == i) || decide (i ∈ r)) = _
      by_cases e : a = i
      · subst e; simp
      · simp [e, Ne.symm e]
  simp [dIn, inS, inF, h1, h2, flD]
/-! + and * of sequences -/
@[simp] theorem r_dAdd_ll (xs ys : List D) : dAdd (.lst xs) (.lst ys) = lAdd (.lst xs) (.lst ys) := rfl
@[simp] theorem r_lAdd_ll (xs ys : List D) : lAdd (.lst xs) (.lst ys) = if xs.length + ys.length ≤ 1000000 then some (.lst (xs ++ ys)) else none := rfl
/-! loops -/
theorem forL_inv {g : DG} {b : DStm} {items : List D} (P : Nat → DS → Prop) (step : ∀ (i : Nat) (d : D) (s : DS), items[i]? = some d → P i s → ∃ s1 s2, g d s = .ok () s1 ∧ (b s1 = .ok .nx s2 ∨ b s1 = .ok .ct s2) ∧ P (i + 1) s2) :
    ∀ (l : List D) (i : Nat) (s : DS), (∀ j, l[j]? = items[i + j]?) → P i s → ∃ s', forL g b l s = .ok .nx s' ∧ P (i + l.length) s'
  | [], i, s, h, hp => ⟨s, rfl, hp⟩
  | d :: l, i, s, h, hp => by
    have h0 := h 0
    simp only [List.getElem?_cons_zero, Nat.add_zero] at h0
    obtain ⟨s1, s2, e1, e2, hp2⟩ := step i d s h0.symm hp
    obtain ⟨s', e3, hp3⟩ := forL_inv P step l (i + 1) s2 (fun j => by
      have := h (j + 1)
      rw [List.getElem?_cons_succ] at this
      rw [this]
      congr 1
      omega) hp2
    refine ⟨s', ?_, by rw [show i + (d :: l).length = i + 1 + l.length by simp; omega]; exact hp3⟩
    rw [r_for_cons, e1]
    rcases e2 with e2 | e2 <;> simp [e2, e3]
theorem for_inv {g : DG} {b : DStm} {items : List D} {s : DS} (P : Nat → DS → Prop) (h0 : P 0 s) (step : ∀ (i : Nat) (d : D) (s : DS), items[i]? = some d → P i s → ∃ s1 s2, g d s = .ok () s1 ∧ (b s1 = .ok .nx s2 ∨ b s1 = .ok .ct s2) ∧ P (i + 1) s2) :
    ∃ s', forL g b items s = .ok .nx s' ∧ P items.length s' := by
  obtain ⟨s', e, hp⟩ := forL_inv P step items 0 s (fun j => by simp) h0
  exact ⟨s', e, by simpa using hp⟩
@[simp] theorem rngL_len (lo : Int) (n : Nat) : (rngL lo n).length = n := by simp [rngL]
theorem rngL_get {lo : Int} {n i : Nat} {d : D} (h : (rngL lo n)[i]? = some d) : i < n ∧ d = .int (lo + i) := by
  unfold rngL at h
  rw [List.getElem?_map] at h
  cases e : (List.range n)[i]? with
  | none => rw [e] at h; cases h
  | some k =>
    rw [e] at h
    cases h
    have hi : i < n := by simpa using (List.getElem?_eq_some_iff.mp e).1
    rw [List.getElem?_range hi] at e
    cases e
    exact ⟨hi, rfl⟩
end DL
set_option maxRecDepth 100000
set_option maxHeartbeats 4000000
set_option autoImplicit false
namespace DL
open PySem
/-! ### == of plain data, by data alone -/
mutual
def plD : D → Bool
  | .non => true
  | .bl _ => true
  | .int _ => true
  | .str l => l.all (· < 0x110000)
  | .tup xs => plDs xs
  | .lst xs => plDs xs
  | .scr xs => plDs xs
  | _ => false
def plDs : List D → Bool
  | [] => true
  | x :: r => plD x && plDs r
end
mutual
def dpD : D → Nat
  | .tup xs => dpDs xs + 1
  | .lst xs => dpDs xs + 1
  | .scr xs => dpDs xs + 1
  | _ => 0
def dpDs : List D → Nat
  | [] => 0
  | x :: r => max (dpD x) (dpDs r)
end
mutual
def eqPl : D → D → Bool
  | .non, .non => true
  | .bl a, .bl b => a == b
  | .bl a, .int j => decide ((if a then (1 : Int) else 0) = j)
  | .int i, .bl b => decide (i = if b then (1 : Int) else 0)
  | .int i, .int j => decide (i = j)
  | .str a, .str b => decide (a = b)
  | .tup xs, .tup ys => eqPls xs ys
  | .lst xs, .lst ys => eqPls xs ys
  | .scr xs, .lst ys => eqPls xs ys
  | .lst xs, .scr ys => eqPls xs ys
  | .scr xs, .scr ys => eqPls xs ys
  | _, _ => false
def eqPls : List D → List D → Bool
  | [], [] => true
  | x :: xs, y :: ys => eqPl x y && eqPls xs ys
  | _, _ => false
end
theorem strOk_nm (l : Nm) : PyData.strOk (nm l) = l.all (· < 0x110000) := by simp [PyData.strOk, nm]
mutual
theorem toPy_pl : ∀ d : D, plD d = true → ∃ p, toPy d = some p ∧ p.canLay0 = true ∧ p.depth = dpD d
  | .non, _ => ⟨.none, rfl, rfl, rfl⟩
  | .bl b, _ => ⟨.bool b, rfl, rfl, rfl⟩
  | .int i, _ => ⟨.int i, rfl, rfl, rfl⟩
  | .str l, h => ⟨.str (nm l), rfl, by simp only [plD] at h; simp only [PyData.canLay0, strOk_nm]; exact h, rfl⟩
  | .tup xs, h => by
    obtain ⟨ps, h1, h2, h3⟩ := toPys_pl xs h
    exact ⟨.tuple ps, by simp [toPy, h1], h2, by simp [PyData.depth, dpD, h3]⟩
  | .lst xs, h => by
    obtain ⟨ps, h1, h2, h3⟩ := toPys_pl xs h
    exact ⟨.list ps, by simp [toPy, h1], h2, by simp [PyData.depth, dpD, h3]⟩
  | .scr xs, h => by
    obtain ⟨ps, h1, h2, h3⟩ := toPys_pl xs h
    exact ⟨.list ps, by simp [toPy, h1], h2, by simp [PyData.depth, dpD, h3]⟩
  | .dic _, h => by simp [plD] at h
  | .ins _ _, h => by simp [plD] at h
  | .cell _, h => by simp [plD] at h
  | .cls _, h => by simp [plD] at h
  | .ty _, h => by simp [plD] at h
  | .fn _, h => by simp [plD] at h
  | .lam _, h => by simp [plD] at h
theorem toPys_pl : ∀ ds : List D, plDs ds = true → ∃ ps, toPys ds = some ps ∧ PyData.canLayAll0 ps = true ∧ PyData.depthAll ps = dpDs ds
  | [], _ => ⟨[], rfl, rfl, rfl⟩
  | d :: r, h => by
    simp only [plDs, Bool.and_eq_true] at h
    obtain ⟨p, h1, h2, h3⟩ := toPy_pl d h.1
    obtain ⟨ps, h4, h5, h6⟩ := toPys_pl r h.2
    exact ⟨p :: ps, by simp [toPys, h1, h4], by simp [PyData.canLayAll0, h2, h5], by simp [PyData.depthAll, dpDs, h3, h6]⟩
end
theorem nm_beq (a b : Nm) : (nm a == nm b) = decide (a = b) := by
  by_cases e : a = b
  · subst e; simp
  · rw [beq_eq_false_iff_ne.mpr fun z => e (nm_inj z)]; simp [e]
theorem dec_beq (a b : Int) : (a == b) = decide (a = b) := by simp [Bool.beq_eq_decide_eq]
mutual
theorem eqv_pl : ∀ (x y : D) (p q : PyData), toPy x = some p → toPy y = some q → PyData.eqv p q = eqPl x y := by
  intro x y p q h1 h2
  cases x <;> cases y <;> first
    | (simp [toPy] at h1; done)
    | (simp [toPy] at h2; done)
    | (simp only [toPy, Option.some.injEq] at h1 h2; subst h1; subst h2; first | rfl | exact dec_beq _ _ | exact nm_beq _ _ | (simp [PyData.eqv, eqPl]; done))
    | (simp only [toPy, Option.map_eq_some_iff, Option.some.injEq] at h1 h2
       first
         | (obtain ⟨ps, e1, rfl⟩ := h1; obtain ⟨qs, e2, rfl⟩ := h2; first | exact eqvs_pl _ _ _ _ e1 e2 | rfl)
         | (obtain ⟨ps, e1, rfl⟩ := h1; subst h2; rfl)
         | (obtain ⟨qs, e2, rfl⟩ := h2; subst h1; rfl))
theorem eqvs_pl : ∀ (xs ys : List D) (ps qs : List PyData), toPys xs = some ps → toPys ys = some qs → PyData.eqvAll ps qs = eqPls xs ys
  | [], [], ps, qs, h1, h2 => by cases h1; cases h2; rfl
  | [], y :: ys, ps, qs, h1, h2 => by
    cases h1
    simp only [toPys, Option.bind_eq_some_iff, Option.map_eq_some_iff] at h2
    obtain ⟨p, _, q, _, rfl⟩ := h2
    rfl
  | x :: xs, [], ps, qs, h1, h2 => by
    cases h2
    simp only [toPys, Option.bind_eq_some_iff, Option.map_eq_some_iff] at h1
    obtain ⟨p, _, q, _, rfl⟩ := h1
    rfl
  | x :: xs, y :: ys, ps, qs, h1, h2 => by
    simp only [toPys, Option.bind_eq_some_iff, Option.map_eq_some_iff] at h1 h2
    obtain ⟨p, e1, q, e2, rfl⟩ := h1
    obtain ⟨p', e3, q', e4, rfl⟩ := h2
    simp only [PyData.eqvAll, eqPls, eqv_pl x y p p' e1 e3, eqvs_pl xs ys q q' e2 e4]
end
def plOk (d : D) : Prop := plD d = true ∧ dpD d ≤ 64
theorem dEq_pl (x y : D) (h : plOk x) (k : plOk y) : dEq x y = some (.bl (eqPl x y)) := by
  obtain ⟨p, a1, a2, a3⟩ := toPy_pl x h.1
  obtain ⟨q, b1, b2, b3⟩ := toPy_pl y k.1
  have s1 : SeqAt.shaped p = true := by
    unfold SeqAt.shaped
    rw [a2, a3]
    simp [h.2]
  have s2 : SeqAt.shaped q = true := by
    unfold SeqAt.shaped
    rw [b2, b3]
    simp [k.2]
  unfold dEq
  rw [a1, b1]
  simp only [s1, s2, Bool.and_self, if_true, eqv_pl x y p q a1 b1]
theorem dNe_pl (x y : D) (h : plOk x) (k : plOk y) : dNe x y = some (.bl (!eqPl x y)) := by
  obtain ⟨p, a1, a2, a3⟩ := toPy_pl x h.1
  obtain ⟨q, b1, b2, b3⟩ := toPy_pl y k.1
  have s1 : SeqAt.shaped p = true := by
    unfold SeqAt.shaped
    rw [a2, a3]
    simp [h.2]
  have s2 : SeqAt.shaped q = true := by
    unfold SeqAt.shaped
    rw [b2, b3]
    simp [k.2]
  unfold dNe
  rw [a1, b1]
  simp only [s1, s2, Bool.and_self, if_true, eqv_pl x y p q a1 b1]
@[simp] theorem pl_non : plOk .non := ⟨rfl, by simp [dpD]⟩
@[simp] theorem pl_bl (b : Bool) : plOk (.bl b) := ⟨rfl, by simp [dpD]⟩
@[simp] theorem pl_int (i : Int) : plOk (.int i) := ⟨rfl, by simp [dpD]⟩
theorem pl_str (l : Nm) (h : l.all (· < 0x110000) = true) : plOk (.str l) := ⟨h, by simp [dpD]⟩
/-- flat items -/
def plF (d : D) : Prop := plD d = true ∧ dpD d ≤ 60
def plFs (ds : List D) : Prop := plDs ds = true ∧ dpDs ds ≤ 60
@[simp] theorem plFs_nil : plFs [] ↔ True := by simp [plFs, plDs, dpDs]
@[simp] theorem plFs_cons (d : D) (r : List D) : plFs (d :: r) ↔ plF d ∧ plFs r := by
  simp only [plFs, plF, plDs, dpDs, Bool.and_eq_true, Nat.max_le]
  constructor <;> intro h <;> simp [h]
@[simp] theorem plF_non : plF .non ↔ True := by simp [plF, plD, dpD]
@[simp] theorem plF_bl (b : Bool) : plF (.bl b) ↔ True := by simp [plF, plD, dpD]
@[simp] theorem plF_int (i : Int) : plF (.int i) ↔ True := by simp [plF, plD, dpD]
@[simp] theorem plF_str (l : Nm) : plF (.str l) ↔ l.all (· < 0x110000) = true := by simp [plF, plD, dpD]
theorem plF_tup3 (x y z : Int) : plF (.tup [.int x, .int y, .int z]) := by simp [plF, plD, plDs, dpD, dpDs]
theorem plFs_ints (ns : List Int) : plFs (ns.map D.int) := by
  induction ns with
  | nil => simp
  | cons a r ih => simp [ih]
theorem pl_tup (xs : List D) (h : plFs xs) : plOk (.tup xs) := ⟨h.1, by have := h.2; simp only [dpD]; omega⟩
theorem pl_lst (xs : List D) (h : plFs xs) : plOk (.lst xs) := ⟨h.1, by have := h.2; simp only [dpD]; omega⟩
theorem plF.ok {d : D} (h : plF d) : plOk d := ⟨h.1, by have := h.2; omega⟩
@[simp] theorem dEq_tt (xs ys : List D) (h : plFs xs) (k : plFs ys) : dEq (.tup xs) (.tup ys) = some (.bl (eqPls xs ys)) := dEq_pl _ _ (pl_tup _ h) (pl_tup _ k)
@[simp] theorem dNe_tt (xs ys : List D) (h : plFs xs) (k : plFs ys) : dNe (.tup xs) (.tup ys) = some (.bl (!eqPls xs ys)) := dNe_pl _ _ (pl_tup _ h) (pl_tup _ k)
@[simp] theorem dEq_ll (xs ys : List D) (h : plFs xs) (k : plFs ys) : dEq (.lst xs) (.lst ys) = some (.bl (eqPls xs ys)) := dEq_pl _ _ (pl_lst _ h) (pl_lst _ k)
@[simp] theorem dNe_ll (xs ys : List D) (h : plFs xs) (k : plFs ys) : dNe (.lst xs) (.lst ys) = some (.bl (!eqPls xs ys)) := dNe_pl _ _ (pl_lst _ h) (pl_lst _ k)
@[simp] theorem dEq_ss (a b : Nm) (h : a.all (· < 0x110000) = true) (k : b.all (· < 0x110000) = true) : dEq (.str a) (.str b) = some (.bl (decide (a = b))) := dEq_pl _ _ (pl_str _ h) (pl_str _ k)
@[simp] theorem dNe_ss (a b : Nm) (h : a.all (· < 0x110000) = true) (k : b.all (· < 0x110000) = true) : dNe (.str a) (.str b) = some (.bl (!decide (a = b))) := dNe_pl _ _ (pl_str _ h) (pl_str _ k)
@[simp] theorem dEq_nt (xs : List D) (h : plFs xs) : dEq .non (.tup xs) = some (.bl false) := dEq_pl _ _ pl_non (pl_tup _ h)
@[simp] theorem dEq_tn (xs : List D) (h : plFs xs) : dEq (.tup xs) .non = some (.bl false) := dEq_pl _ _ (pl_tup _ h) pl_non
@[simp] theorem dNe_nt (xs : List D) (h : plFs xs) : dNe .non (.tup xs) = some (.bl true) := dNe_pl _ _ pl_non (pl_tup _ h)
@[simp] theorem dNe_tn (xs : List D) (h : plFs xs) : dNe (.tup xs) .non = some (.bl true) := dNe_pl _ _ (pl_tup _ h) pl_non
@[simp] theorem dEq_nn : dEq .non .non = some (.bl true) := dEq_pl _ _ pl_non pl_non
@[simp] theorem dNe_nn : dNe .non .non = some (.bl false) := dNe_pl _ _ pl_non pl_non
@[simp] theorem eqPls_nil : eqPls [] [] = true := by simp [eqPls]
@[simp] theorem eqPls_cons (x y : D) (xs ys : List D) : eqPls (x :: xs) (y :: ys) = (eqPl x y && eqPls xs ys) := by simp [eqPls]
@[simp] theorem eqPls_nc (y : D) (ys : List D) : eqPls [] (y :: ys) = false := by simp [eqPls]
@[simp] theorem eqPls_cn (y : D) (ys : List D) : eqPls (y :: ys) [] = false := by simp [eqPls]
@[simp] theorem eqPl_int (i j : Int) : eqPl (.int i) (.int j) = decide (i = j) := by simp [eqPl]
@[simp] theorem eqPl_str (i j : Nm) : eqPl (.str i) (.str j) = decide (i = j) := by simp [eqPl]
@[simp] theorem eqPl_tup (i j : List D) : eqPl (.tup i) (.tup j) = eqPls i j := by simp [eqPl]
@[simp] theorem eqPl_lst (i j : List D) : eqPl (.lst i) (.lst j) = eqPls i j := by simp [eqPl]
@[simp] theorem eqPl_nn : eqPl .non .non = true := by simp [eqPl]
@[simp] theorem eqPl_bb (a b : Bool) : eqPl (.bl a) (.bl b) = (a == b) := by simp [eqPl]
mutual
theorem eqPl_refl : ∀ d : D, plD d = true → eqPl d d = true
  | .non, _ => by simp
  | .bl b, _ => by simp
  | .int i, _ => by simp
  | .str l, _ => by simp
  | .tup xs, h => by simp only [eqPl]; exact eqPls_refl xs h
  | .lst xs, h => by simp only [eqPl]; exact eqPls_refl xs h
  | .scr xs, h => by simp only [eqPl]; exact eqPls_refl xs h
  | .dic _, h => by simp [plD] at h
  | .ins _ _, h => by simp [plD] at h
  | .cell _, h => by simp [plD] at h
  | .cls _, h => by simp [plD] at h
  | .ty _, h => by simp [plD] at h
  | .fn _, h => by simp [plD] at h
  | .lam _, h => by simp [plD] at h
theorem eqPls_refl : ∀ ds : List D, plDs ds = true → eqPls ds ds = true
  | [], _ => by simp
  | d :: r, h => by
    simp only [plDs, Bool.and_eq_true] at h
    simp only [eqPls, eqPl_refl d h.1, eqPls_refl r h.2, Bool.and_self]
end
end DL
set_option maxRecDepth 100000
set_option maxHeartbeats 4000000
set_option autoImplicit false
namespace DL
/-! ### readings of DLk -/
@[simp] theorem r_eIxO (i : Nat) (fb : DE) (s : DS) : eIxO i fb s = match s.sl[i]? with
  | some (.ol _) => (fb s).bind fun y s1 => match y, s1.sl[i]? with
    | .int k, some (.ol xs) => (match L2.atI xs k with | some d => .ok d s1 | none => .stuck)
    | _, _ => .stuck
  | some (.val x) => (fb s).bind fun y s1 => match y with
    | .int k => (match ixD x k with | some d => .ok d s1 | none => .stuck)
    | _ => .stuck
  | _ => .stuck := rfl
@[simp] theorem r_eTruO (i : Nat) (s : DS) : eTruO i s = match s.sl[i]? with
  | some (.ol xs) => .ok (!xs.isEmpty) s
  | some (.val d) => (match truD d with | some b => .ok b s | none => .stuck)
  | _ => .stuck := rfl
@[simp] theorem r_sIxO (i : Nat) (fi fv : DE) (s : DS) : sIxO i fi fv s = (fv s).bind fun d s1 => match s1.sl[i]? with
  | some (.ol _) => (fi s1).bind fun y s2 => match y, s2.sl[i]? with
    | .int k, some (.ol xs) => (match L2.ixN xs.length k with | some j => .ok .nx ⟨s2.sl.set i (.ol (xs.set j d)), s2.st⟩ | none => .stuck)
    | _, _ => .stuck
  | _ => .stuck := rfl
@[simp] theorem r_eProp (c : String) (g : DFn) (f : DE) (s : DS) : eProp c g f s = (f s).bind fun d s1 => match insOf d s1 with
  | some (c1, _) => if c1 = c then noX (lift s1 (g [d] s1.st)) else .stuck
  | none => .stuck := rfl
@[simp] theorem r_eChain (o o' : D → D → Option D) (fa fb fc : DE) (s : DS) : eChain o o' fa fb fc s = (fa s).bind fun x s1 => (fb s1).bind fun y s2 => match o x y with
  | some (.bl true) => (fc s2).bind fun z s3 => match o' y z with
    | some d => .ok d s3
    | none => .stuck
  | some (.bl false) => .ok (.bl false) s2
  | _ => .stuck := rfl
@[simp] theorem r_eSix (fo : DE) (fa : DA) (s : DS) : eSix fo fa s = (fo s).bind fun x s1 => match x with
  | .str a => (fa s1).bind fun ds s2 => match ds with
    | [.str b] => (match PySem.Txt.index0 (nm a) (nm b) with | some k => .ok (.int (k : Nat)) s2 | none => .stuck)
    | _ => .stuck
  | _ => .stuck := rfl
@[simp] theorem r_eBM (T : String) (o : D → List D → Option D) (fo : DE) (fa : DA) (s : DS) : eBM T o fo fa s = (fo s).bind fun x s1 => if MtD.tyOk T x = true then (fa s1).bind fun ds s2 => match o x ds with
  | some d => .ok d s2
  | none => .stuck
  else .stuck := rfl
@[simp] theorem r_tyOk_s (T : String) (l : Nm) : MtD.tyOk T (.str l) = (T == "str") := rfl
@[simp] theorem r_mJoin (a : Nm) (ds : List D) : mJoin (.str a) [.lst ds] = match strsOf ds with
    | some ls => if (ls.map (·.length)).sum + ls.length * a.length ≤ 16777216 then some (.str (TL.joinL a ls)) else none
    | none => none := rfl
@[simp] theorem r_bDivmod (i j : Int) : bDivmod [.int i, .int j] = if 0 < j ∧ divOk j = true then some (.tup [.int (i.fdiv j), .int (i.fmod j)]) else none := rfl
@[simp] theorem r_eFz (i : Nat) (f : DE) (s : DS) : eFz i f s = match s.sl[i]? with
  | some (.ol xs) => f ⟨s.sl.set i (.val (.lst xs)), s.st⟩
  | some (.od kvs) => f ⟨s.sl.set i (.val (.dic kvs)), s.st⟩
  | some (.ot kvs) => f ⟨s.sl.set i (.val (.dct kvs)), s.st⟩
  | some (.oi c fs) => f ⟨s.sl.set i (.val (.ins c fs)), s.st⟩
  | _ => f s := rfl
/-! ### lambdas, tries -/
@[simp] theorem r_eLam (n : Nat) (tk k : String) (s : DS) : eLam n tk k s = match s.st[n]? with
  | some (.tab t) => if t = tk then .ok (.lam k) s else .stuck
  | _ => .stuck := rfl
@[simp] theorem r_eAct (Λ : LamR) (i : Nat) (s : DS) : eAct Λ i s = match s.sl[i]? with
  | some (.val (.lam k)) => lift s (Λ k s.st)
  | _ => .stuck := rfl
@[simp] theorem r_eCallL (n : Nat) (g : LamR → DFn) (bs : String → Option DE) (fa : DA) (s : DS) : eCallL n g bs fa s = (fa s).bind fun ds s1 => if ds.length = n then lift s1 (g (lamR bs s1.sl) ds s1.st) else .stuck := rfl
@[simp] theorem r_lamR (bs : String → Option DE) (sl : List Sl) (k : String) (st : List Cell) : lamR bs sl k st = match bs k with
  | some b => lamRun b sl st
  | none => .stuck := rfl
@[simp] theorem r_lamRun (b : DE) (sl : List Sl) (st : List Cell) : lamRun b sl st = match b ⟨sl.map stripS, st⟩ with
  | .ok d s' => .ok d s'.st
  | .exc x s' => .exc x s'.st
  | .stuck => .stuck := rfl
@[simp] theorem r_strip_v (d : D) : stripS (.val d) = .val d := rfl
@[simp] theorem r_strip_u : stripS .un = .un := rfl
@[simp] theorem r_strip_l (xs : List D) : stripS (.ol xs) = .un := rfl
@[simp] theorem r_sTry (b : DStm) (hs : List HdR) (s : DS) : sTry b hs s = match b s with
  | .exc x s1 => catchD hs x s1
  | r => r := rfl
@[simp] theorem r_catch_nil (x : Xc) (s : DS) : catchD [] x s = .exc x s := rfl
@[simp] theorem r_catch_none (c : PySem.Value) (m : String → Option Bool) (f : Xc → DStm) (r : List HdR) (x : Xc) (s : DS) : catchD (⟨c, none, m, f⟩ :: r) x s = match m x.cls with
    | some true => noX (f x s)
    | some false => catchD r x s
    | none => .stuck := rfl
@[simp] theorem r_catch_some (c : PySem.Value) (i : Nat) (m : String → Option Bool) (f : Xc → DStm) (r : List HdR) (x : Xc) (s : DS) : catchD (⟨c, some i, m, f⟩ :: r) x s = match m x.cls with
    | some true => if i < s.sl.length then unD i (noX (f x ⟨s.sl.set i .un, s.st⟩)) else .stuck
    | some false => catchD r x s
    | none => .stuck := rfl
@[simp] theorem r_unD (i : Nat) (r : Res DS Out) : unD i r = r.bind fun o s => .ok o ⟨s.sl.set i .un, s.st⟩ := rfl
@[simp] theorem r_hmT (yes no : List String) (k : String) : hmT yes no k = if k ∈ yes then some true else if k ∈ no then some false else none := rfl
@[simp] theorem r_eXf (c : String) (f : Nm) (x : Xc) (s : DS) : eXf c f x s = if x.cls = c then match x.fs.lookup f with | some d => .ok d s | none => .stuck else .stuck := rfl
/-! ### indexes from behind -/
theorem ixN_last {n : Nat} (h : 0 < n) : L2.ixN n (-1) = some (n - 1) := by
  unfold L2.ixN
  rw [if_neg (by omega), if_pos (by omega)]
  congr 1
  omega
theorem at_neg1 {α : Type} (xs : List α) (x : α) : L2.atI (xs ++ [x]) (-1) = some x := by
  unfold L2.atI
  rw [ixN_last (by simp)]
  simp
theorem set_last {α : Type} (xs : List α) (x y : α) : (xs ++ [x]).set ((xs ++ [x]).length - 1) y = xs ++ [y] := by
  simp
theorem at_nat {α : Type} {xs : List α} {i : Nat} {x : α} (h : xs[i]? = some x) : L2.atI xs (i : Int) = some x := L2.atI_nat h
/-! ### comprehensions that leave the store -/
theorem lc_gen {vs : List Nat} {g : DG} {t : DT} {e : DE} {s0 : DS} (τ : D → Bool) (f : D → D) : ∀ (items acc : List D), (∀ d ∈ items, ∃ s1 s2, g d (wipeS vs s0) = .ok () s1 ∧ t s1 = .ok (τ d) s2 ∧ (τ d = true → ∃ s3, e s2 = .ok (f d) s3 ∧ wipeS vs s3 = wipeS vs s0) ∧ (τ d = false → wipeS vs s2 = wipeS vs s0)) →
    items.length + acc.length ≤ 1000000 → ∀ s, wipeS vs s = wipeS vs s0 → ∃ s', lcL vs g t e items acc s = .ok (acc ++ (items.filter τ).map f) s' ∧ wipeS vs s' = wipeS vs s0
  | [], acc, _, _, s, hs => ⟨s, by simp, hs⟩
  | d :: r, acc, h, hl, s, hs => by
    obtain ⟨s1, s2, e1, e2, e3, e4⟩ := h d (List.mem_cons_self ..)
    have hr := fun d hd => h d (List.mem_cons_of_mem _ hd)
    simp only [List.length_cons] at hl
    rw [r_lc_cons, hs, e1]
    cases hτ : τ d with
    | true =>
      obtain ⟨s3, e5, e6⟩ := e3 hτ
      obtain ⟨s', e7, e8⟩ := lc_gen τ f r (acc ++ [f d]) hr (by simp; omega) s3 e6
      refine ⟨s', ?_, e8⟩
      have : acc.length < 1000000 := by omega
      simp [e2, hτ, e5, this, e7]
    | false =>
      obtain ⟨s', e7, e8⟩ := lc_gen τ f r acc hr (by omega) s2 (e4 hτ)
      refine ⟨s', ?_, e8⟩
      simp [e2, hτ, e7]
theorem aLc_gen {vs : List Nat} {it : DA} {g : DG} {t : DT} {e : DE} {s s0 : DS} {items : List D} (τ : D → Bool) (f : D → D) (hi : it s = .ok items s0) (h : ∀ d ∈ items, ∃ s1 s2, g d (wipeS vs s0) = .ok () s1 ∧ t s1 = .ok (τ d) s2 ∧ (τ d = true → ∃ s3, e s2 = .ok (f d) s3 ∧ wipeS vs s3 = wipeS vs s0) ∧ (τ d = false → wipeS vs s2 = wipeS vs s0))
    (hl : items.length ≤ 1000000) : aLc vs it g t e s = .ok ((items.filter τ).map f) ⟨unwipe vs s0.sl (wipeD vs s0.sl), s0.st⟩ := by
  obtain ⟨s', e1, e2⟩ := lc_gen τ f items [] h (by simpa using hl) s0 rfl
  have e3 : wipeD vs s'.sl = wipeD vs s0.sl := congrArg DS.sl e2
  have e4 : s'.st = s0.st := by have := congrArg DS.st e2; simpa using this
  rw [r_aLc, hi]
  simp [e1, e3, e4]
theorem aLc_map {vs : List Nat} {it : DA} {g : DG} {e : DE} {s s0 : DS} {items : List D} (f : D → D) (hi : it s = .ok items s0) (h : ∀ d ∈ items, ∃ s1 s3, g d (wipeS vs s0) = .ok () s1 ∧ e s1 = .ok (f d) s3 ∧ wipeS vs s3 = wipeS vs s0)
    (hl : items.length ≤ 1000000) : aLc vs it g bYes e s = .ok (items.map f) ⟨unwipe vs s0.sl (wipeD vs s0.sl), s0.st⟩ := by
  have := aLc_gen (vs := vs) (it := it) (g := g) (t := bYes) (e := e) (s := s) (fun _ => true) f hi (fun d hd => by
    obtain ⟨s1, s3, e1, e2, e3⟩ := h d hd
    exact ⟨s1, s1, e1, rfl, fun _ => ⟨s3, e2, e3⟩, fun z => nomatch z⟩) hl
  rwa [List.filter_eq_self.mpr (fun _ _ => rfl)] at this
/-! comprehensions that draw: by an invariant of the store -/
theorem lc_inv {vs : List Nat} {g : DG} {e : DE} {s0 : List Sl} {items : List D} (P : Nat → List D → List Cell → Prop) (step : ∀ (i : Nat) (d : D) (acc : List D) (S : List Cell), items[i]? = some d → P i acc S → ∃ s1 y s3, g d ⟨wipeD vs s0, S⟩ = .ok () s1 ∧ e s1 = .ok y s3 ∧ wipeD vs s3.sl = wipeD vs s0 ∧ P (i + 1) (acc ++ [y]) s3.st) :
    ∀ (l : List D) (i : Nat) (acc : List D) (s : DS), (∀ j, l[j]? = items[i + j]?) → l.length + acc.length ≤ 1000000 → wipeD vs s.sl = wipeD vs s0 → P i acc s.st → ∃ ys s', lcL vs g bYes e l acc s = .ok ys s' ∧ wipeD vs s'.sl = wipeD vs s0 ∧ P (i + l.length) ys s'.st
  | [], i, acc, s, h, _, hs, hp => ⟨acc, s, rfl, hs, hp⟩
  | d :: l, i, acc, s, h, hl, hs, hp => by
    have h0 := h 0
    simp only [List.getElem?_cons_zero, Nat.add_zero] at h0
    simp only [List.length_cons] at hl
    obtain ⟨s1, y, s3, e1, e2, e3, hp2⟩ := step i d acc s.st h0.symm hp
    obtain ⟨ys, s', e4, e5, hp3⟩ := lc_inv P step l (i + 1) (acc ++ [y]) s3 (fun j => by
      have := h (j + 1)
      rw [List.getElem?_cons_succ] at this
      rw [this]
      congr 1
      omega) (by simp; omega) e3 hp2
    refine ⟨ys, s', ?_, e5, by rw [show i + (d :: l).length = i + 1 + l.length by simp; omega]; exact hp3⟩
    have : acc.length < 1000000 := by omega
    rw [r_lc_cons, show wipeS vs s = ⟨wipeD vs s0, s.st⟩ by simp [hs], e1]
    simp [e2, this, e4]
theorem aLc_inv {vs : List Nat} {it : DA} {g : DG} {e : DE} {s : DS} {s0 : DS} {items : List D} (P : Nat → List D → List Cell → Prop) (hi : it s = .ok items s0) (h0 : P 0 [] s0.st) (step : ∀ (i : Nat) (d : D) (acc : List D) (S : List Cell), items[i]? = some d → P i acc S → ∃ s1 y s3, g d ⟨wipeD vs s0.sl, S⟩ = .ok () s1 ∧ e s1 = .ok y s3 ∧ wipeD vs s3.sl = wipeD vs s0.sl ∧ P (i + 1) (acc ++ [y]) s3.st)
    (hl : items.length ≤ 1000000) : ∃ ys S', aLc vs it g bYes e s = .ok ys ⟨unwipe vs s0.sl (wipeD vs s0.sl), S'⟩ ∧ P items.length ys S' := by
  obtain ⟨ys, s', e1, e2, hp⟩ := lc_inv P step items 0 [] s0 (fun j => by simp) (by simpa using hl) rfl h0
  refine ⟨ys, s'.st, ?_, by simpa using hp⟩
  rw [r_aLc, hi]
  simp [e1, e2]
/-! isinstance(x, (list, tuple)) -/
def isLT (cs : List String) : D → Option Bool
  | .lst _ => some true
  | .scr _ => some true
  | .tup _ => some true
  | .ins c _ => if c ∈ cs then some false else none
  | .non => some false
  | .bl _ => some false
  | .int _ => some false
  | .str _ => some false
  | .dic _ => some false
  | _ => none
theorem isLT_eq (cs : List String) (d : D) : ((tyOfD cs d).bind fun t => isAny cs t [.ty "list", .ty "tuple"]) = isLT cs d := by
  cases d <;> simp [isLT, tyOfD, tyD, isAny, isOne, mem_ty, isTy]
  split <;> simp [isAny, isOne, mem_ty]
@[simp] theorem r_isLT (cs : List String) (fe : DE) (s : DS) : eIsT cs fe (aCons (eC (.ty "list")) (aCons (eC (.ty "tuple")) aNil)) s = (fe s).bind fun d s1 => match isLT cs d with
  | some b => .ok (.bl b) s1
  | none => .stuck := by
  unfold eIsT
  simp [clsD, isLT_eq]
  all_goals rfl
/-! x != [] of an own list -/
@[simp] theorem r_eNeO (i : Nat) (s : DS) : eNeO i s = match s.sl[i]? with
  | some (.ol xs) => (match dNe (.lst xs) (.lst []) with | some (.bl b) => .ok b s | _ => .stuck)
  | some (.val d) => (match dNe d (.lst []) with | some (.bl b) => .ok b s | _ => .stuck)
  | _ => .stuck := rfl
@[simp] theorem r_sPar3O (i j l : Nat) (f1 f2 : DA) (f3 : DE) (s : DS) : sPar3O i j l f1 f2 f3 s = match f1 s with
  | .ok xs s1 => match f2 s1 with
    | .ok ys s2 => match f3 s2 with
      | .ok d s3 => .ok .nx ⟨((s3.sl.set i (.ol xs)).set j (.ol ys)).set l (.val d), s3.st⟩
      | _ => .stuck
    | _ => .stuck
  | _ => .stuck := rfl
@[simp] theorem r_dIsB (a b : Bool) : dIsB (.bl a) (.bl b) = some (.bl (decide (a = b))) := rfl
@[simp] theorem r_dNotB (a b : Bool) : dNotB (.bl a) (.bl b) = some (.bl (!decide (a = b))) := rfl
@[simp] theorem r_gTA_t (n : Nat) (g : List D → DS → Res DS Unit) (ds : List D) (s : DS) : gTA n g (.tup ds) s = if ds.length = n then g ds s else .stuck := rfl
@[simp] theorem r_gTA_l (n : Nat) (g : List D → DS → Res DS Unit) (ds : List D) (s : DS) : gTA n g (.lst ds) s = if ds.length = n then g ds s else .stuck := rfl
@[simp] theorem r_sMul (l : Nm) (n : Int) : sMul (.str l) (.int n) = if l.length ≤ 100 ∧ -100000 ≤ n ∧ n ≤ 100000 then some (.str (List.replicate n.toNat l).flatten) else none := rfl
@[simp] theorem r_tAdd (a b : List D) : tAdd (.tup a) (.tup b) = if a.length + b.length ≤ 1000000 then some (.tup (a ++ b)) else none := rfl
/-! equality of truth values, refusals -/
@[simp] theorem dNe_bb (a b : Bool) : dNe (.bl a) (.bl b) = some (.bl (!(a == b))) := by
  rw [dNe_pl _ _ (pl_bl a) (pl_bl b)]
  cases a <;> cases b <;> rfl
@[simp] theorem dEq_bb (a b : Bool) : dEq (.bl a) (.bl b) = some (.bl (a == b)) := by
  rw [dEq_pl _ _ (pl_bl a) (pl_bl b)]
  cases a <;> cases b <;> rfl
theorem ne_refl {xs : List D} (h : plFs xs) : dNe (.tup xs) (.tup xs) = some (.bl false) := by
  rw [dNe_tt _ _ h h, eqPls_refl _ h.1]; rfl
theorem noLams_int (cs : List Int) : noLams (cs.map D.int) = true := by
  induction cs with
  | nil => rfl
  | cons c cs ih => simp [noLams, noLam, ih]
/-! ### texts put together -/
theorem joinL_ones : ∀ l : List Nat, TL.joinL [] (l.map fun c => [c]) = l
  | [] => rfl
  | [c] => rfl
  | c :: d :: r => by
    have := joinL_ones (d :: r)
    simp only [List.map_cons] at this ⊢
    simp [TL.joinL, this]
theorem strsOf_ones (l : List Nat) : strsOf (l.map fun c => D.str [c]) = some (l.map fun c => [c]) := by
  induction l with
  | nil => rfl
  | cons c l ih => simp [strsOf, ih]
theorem sum_ones (l : List Nat) : ((l.map fun c => [c]).map (·.length)).sum = l.length := by
  induction l with
  | nil => rfl
  | cons c l ih => simp only [List.map_cons, List.sum_cons, ih, List.length_cons, List.length_nil]; omega
theorem join_ones (l : List Nat) (h : l.length ≤ 10000) : mJoin (.str []) [.lst (l.map fun c => D.str [c])] = some (.str l) := by
  rw [r_mJoin, strsOf_ones]
  simp only [sum_ones, joinL_ones, List.length_nil, Nat.mul_zero, Nat.add_zero]
  rw [if_pos (by omega)]
theorem joinL_nil : ∀ ls : List (List Nat), TL.joinL [] ls = ls.flatten
  | [] => rfl
  | [c] => by simp [TL.joinL]
  | c :: d :: r => by
    have := joinL_nil (d :: r)
    simp only [TL.joinL, this, List.flatten_cons, List.nil_append]
theorem strsOf_map {α : Type} (f : α → List Nat) (l : List α) : strsOf (l.map fun x => D.str (f x)) = some (l.map f) := by
  induction l with
  | nil => rfl
  | cons c l ih => simp [strsOf, ih]
theorem join_map {α : Type} (f : α → List Nat) (l : List α) (h : (l.map f).flatten.length ≤ 10000) : mJoin (.str []) [.lst (l.map fun x => D.str (f x))] = some (.str (l.map f).flatten) := by
  rw [r_mJoin, strsOf_map]
  rw [List.length_flatten] at h
  simp only [joinL_nil, List.length_nil, Nat.mul_zero, Nat.add_zero]
  rw [if_pos (Nat.le_trans h (by decide))]
theorem filter_first {α : Type} (τ : α → Bool) : ∀ (l : List α) (f : Nat) (x : α), l[f]? = some x → τ x = true → (∀ i y, i < f → l[i]? = some y → τ y = false) → ∃ r, l.filter τ = x :: r ∧ (∀ z ∈ r, z ∈ l)
  | [], f, x, h, _, _ => by simp at h
  | y :: l, 0, x, h, h1, h2 => by
    simp only [List.getElem?_cons_zero, Option.some.injEq] at h
    subst h
    exact ⟨l.filter τ, by rw [List.filter_cons_of_pos h1], fun z hz => List.mem_cons_of_mem _ (List.mem_filter.mp hz).1⟩
  | y :: l, f + 1, x, h, h1, h2 => by
    have e := h2 0 y (by omega) rfl
    obtain ⟨r, hr, hm⟩ := filter_first τ l f x (by simpa using h) h1 fun i z hi hz => h2 (i + 1) z (by omega) (by simpa using hz)
    exact ⟨r, by rw [List.filter_cons_of_neg (by rw [e]; decide)]; exact hr, fun z hz => List.mem_cons_of_mem _ (hm z hz)⟩
end DL
set_option maxRecDepth 100000
set_option maxHeartbeats 4000000
set_option autoImplicit false
namespace DL
/-! reading from the left: what stands behind is read once its first part is known -/
def seqK (r : Res DS Out) (g : DStm) : Res DS Out := r.bind fun o s1 => match o with | .nx => g s1 | o => .ok o s1
@[simp] theorem seqK_nx (s : DS) (g : DStm) : seqK (.ok .nx s) g = g s := rfl
@[simp] theorem seqK_rt (d : D) (s : DS) (g : DStm) : seqK (.ok (.rt d) s) g = .ok (.rt d) s := rfl
@[simp] theorem seqK_bk (s : DS) (g : DStm) : seqK (.ok .bk s) g = .ok .bk s := rfl
@[simp] theorem seqK_ct (s : DS) (g : DStm) : seqK (.ok .ct s) g = .ok .ct s := rfl
@[simp] theorem seqK_exc (x : Xc) (s : DS) (g : DStm) : seqK (.exc x s) g = .exc x s := rfl
theorem q_sSeq (f g : DStm) (s : DS) : sSeq f g s = seqK (f s) g := rfl
def ifK (r : Res DS Bool) (f g : DStm) : Res DS Out := r.bind fun b s1 => if b = true then f s1 else g s1
@[simp] theorem ifK_t (s : DS) (f g : DStm) : ifK (.ok true s) f g = f s := rfl
@[simp] theorem ifK_f (s : DS) (f g : DStm) : ifK (.ok false s) f g = g s := rfl
theorem ifK_b (b : Bool) (s : DS) (f g : DStm) : ifK (.ok b s) f g = if b = true then f s else g s := by cases b <;> rfl
theorem q_sIf (c : DT) (f g : DStm) (s : DS) : sIf c f g s = ifK (c s) f g := rfl
/-! ### comprehensions over the images of a list of anything -/
theorem lcA_of {α : Type} {vs : List Nat} {g : DG} {t : DT} {e : DE} {s0 : DS} (G : α → D) (τ : α → Bool) (f : α → D) : ∀ (l : List α) (acc : List D), (∀ a ∈ l, ∃ s1 s2, g (G a) (wipeS vs s0) = .ok () s1 ∧ t s1 = .ok (τ a) s2 ∧ (τ a = true → ∃ s3, e s2 = .ok (f a) s3 ∧ wipeS vs s3 = wipeS vs s0) ∧ (τ a = false → wipeS vs s2 = wipeS vs s0)) →
    l.length + acc.length ≤ 1000000 → ∀ s, wipeS vs s = wipeS vs s0 → ∃ s', lcL vs g t e (l.map G) acc s = .ok (acc ++ (l.filter τ).map f) s' ∧ wipeS vs s' = wipeS vs s0
  | [], acc, _, _, s, hs => ⟨s, by simp [lcL], hs⟩
  | a :: r, acc, h, hl, s, hs => by
    obtain ⟨s1, s2, e1, e2, e3, e4⟩ := h a (List.mem_cons_self ..)
    have hr := fun d hd => h d (List.mem_cons_of_mem _ hd)
    simp only [List.length_cons] at hl
    rw [List.map_cons, r_lc_cons, hs, e1]
    cases hτ : τ a with
    | true =>
      obtain ⟨s3, e5, e6⟩ := e3 hτ
      obtain ⟨s', e7, e8⟩ := lcA_of G τ f r (acc ++ [f a]) hr (by simp; omega) s3 e6
      refine ⟨s', ?_, e8⟩
      have : acc.length < 1000000 := by omega
      simp [e2, hτ, e5, this, e7]
    | false =>
      obtain ⟨s', e7, e8⟩ := lcA_of G τ f r acc hr (by omega) s2 (e4 hτ)
      refine ⟨s', ?_, e8⟩
      simp [e2, hτ, e7]
theorem aLc_ofT {α : Type} {vs : List Nat} {it : DA} {g : DG} {t : DT} {e : DE} {s s0 : DS} {l : List α} (G : α → D) (τ : α → Bool) (f : α → D) (hi : it s = .ok (l.map G) s0) (h : ∀ a ∈ l, ∃ s1 s2, g (G a) (wipeS vs s0) = .ok () s1 ∧ t s1 = .ok (τ a) s2 ∧ (τ a = true → ∃ s3, e s2 = .ok (f a) s3 ∧ wipeS vs s3 = wipeS vs s0) ∧ (τ a = false → wipeS vs s2 = wipeS vs s0))
    (hl : l.length ≤ 1000000) : aLc vs it g t e s = .ok ((l.filter τ).map f) ⟨unwipe vs s0.sl (wipeD vs s0.sl), s0.st⟩ := by
  obtain ⟨s', e1, e2⟩ := lcA_of G τ f l [] h (by simpa using hl) s0 rfl
  have e3 : wipeD vs s'.sl = wipeD vs s0.sl := congrArg DS.sl e2
  have e4 : s'.st = s0.st := by have := congrArg DS.st e2; simpa using this
  rw [r_aLc, hi]
  simp [e1, e3, e4]
theorem aLc_of {α : Type} {vs : List Nat} {it : DA} {g : DG} {e : DE} {s s0 : DS} {l : List α} (G : α → D) (f : α → D) (hi : it s = .ok (l.map G) s0) (h : ∀ a ∈ l, ∃ s1 s3, g (G a) (wipeS vs s0) = .ok () s1 ∧ e s1 = .ok (f a) s3 ∧ wipeS vs s3 = wipeS vs s0)
    (hl : l.length ≤ 1000000) : aLc vs it g bYes e s = .ok (l.map f) ⟨unwipe vs s0.sl (wipeD vs s0.sl), s0.st⟩ := by
  have := aLc_ofT (vs := vs) (it := it) (g := g) (t := bYes) (e := e) (s := s) G (fun _ => true) f hi (fun d hd => by
    obtain ⟨s1, s3, e1, e2, e3⟩ := h d hd
    exact ⟨s1, s1, e1, rfl, fun _ => ⟨s3, e2, e3⟩, fun z => nomatch z⟩) hl
  rwa [List.filter_eq_self.mpr (fun _ _ => rfl)] at this
/-- one variable, an element that leaves the state -/
theorem aLc_T1 {α : Type} {v : Nat} {it : DA} {t : DT} {e : DE} {s s0 : DS} {l : List α} (G : α → D) (τ : α → Bool) (f : α → D) (hi : it s = .ok (l.map G) s0) (hv : s0.sl[v]? = some .un) (h : ∀ a ∈ l, t ⟨s0.sl.set v (.val (G a)), s0.st⟩ = .ok (τ a) ⟨s0.sl.set v (.val (G a)), s0.st⟩ ∧ (τ a = true → e ⟨s0.sl.set v (.val (G a)), s0.st⟩ = .ok (f a) ⟨s0.sl.set v (.val (G a)), s0.st⟩))
    (hl : l.length ≤ 1000000) : aLc [v] it (gN v) t e s = .ok ((l.filter τ).map f) s0 := by
  have hs : s0.sl.set v .un = s0.sl := by
    obtain ⟨h1, h2⟩ := List.getElem?_eq_some_iff.mp hv
    rw [← h2]; exact List.set_getElem_self h1
  have := aLc_ofT (vs := [v]) (it := it) (g := gN v) (t := t) (e := e) (s := s) (s0 := s0) G τ f hi (fun a ha => by
    obtain ⟨h1, h2⟩ := h a ha
    refine ⟨_, _, rfl, ?_, fun ht => ⟨_, h2 ht, ?_⟩, fun _ => ?_⟩
    · simp only [r_wipeS, r_wipe_cons, r_wipe_nil, List.set_set]; exact h1
    · simp only [r_wipeS, r_wipe_cons, r_wipe_nil, List.set_set]
    · simp only [r_wipeS, r_wipe_cons, r_wipe_nil, List.set_set]) hl
  rw [this]
  simp only [r_wipe_cons, r_wipe_nil, r_unw_cons, r_unw_nil, hv, List.set_set, hs]
theorem aLc_M1 {α : Type} {v : Nat} {it : DA} {e : DE} {s s0 : DS} {l : List α} (G : α → D) (f : α → D) (hi : it s = .ok (l.map G) s0) (hv : s0.sl[v]? = some .un) (h : ∀ a ∈ l, e ⟨s0.sl.set v (.val (G a)), s0.st⟩ = .ok (f a) ⟨s0.sl.set v (.val (G a)), s0.st⟩)
    (hl : l.length ≤ 1000000) : aLc [v] it (gN v) bYes e s = .ok (l.map f) s0 := by
  have := aLc_T1 (v := v) (it := it) (t := bYes) (e := e) (s := s) (s0 := s0) G (fun _ => true) f hi hv (fun a ha => ⟨rfl, fun _ => h a ha⟩) hl
  rwa [List.filter_eq_self.mpr (fun _ _ => rfl)] at this
theorem blsOf_map {α : Type} (f : α → Bool) (l : List α) : blsOf (l.map fun a => D.bl (f a)) = some (l.map f) := by
  induction l with
  | nil => rfl
  | cons a l ih => simp only [List.map_cons, blsOf, ih, Option.map_some]
theorem bAll_map {α : Type} (f : α → Bool) (l : List α) : bAll [.lst (l.map fun a => D.bl (f a))] = some (.bl (l.all f)) := by
  simp only [bAll, blsOf_map, Option.map_some, List.all_map]; rfl
theorem bAny_map {α : Type} (f : α → Bool) (l : List α) : bAny [.lst (l.map fun a => D.bl (f a))] = some (.bl (l.any f)) := by
  simp only [bAny, blsOf_map, Option.map_some, List.any_map]; rfl
theorem rngL0 (n : Nat) : rngL 0 n = (List.range n).map fun (i : Nat) => D.int (i : Int) := by
  unfold rngL
  refine List.map_congr_left fun i _ => ?_
  rw [Int.zero_add]
theorem plFs_map {α : Type} (f : α → D) (h : ∀ a, plF (f a)) (l : List α) : plFs (l.map f) := by
  induction l with
  | nil => simp
  | cons a l ih => simp [ih, h a]
theorem eqPls_map {α : Type} [DecidableEq α] (f : α → D) (h : ∀ a b, eqPl (f a) (f b) = decide (a = b)) : ∀ l m : List α, eqPls (l.map f) (m.map f) = decide (l = m)
  | [], [] => by simp
  | [], b :: m => by simp
  | a :: l, [] => by simp
  | a :: l, b :: m => by
    rw [List.map_cons, List.map_cons, eqPls_cons, h, eqPls_map f h l m, ← Bool.decide_and]
    simp
theorem at_map {α : Type} (f : α → D) {l : List α} {k : Nat} {a : α} (h : l[k]? = some a) : L2.atI (l.map f) (k : Int) = some (f a) := L2.atI_nat (by rw [List.getElem?_map, h]; rfl)
def kD (k : Nat) : D := .int (k : Int)
theorem itR1_n {f : DA} {s s1 : DS} {n : Nat} (h : f s = .ok [.int (n : Int)] s1) (hn : n ≤ 1000000) : itR1 f s = .ok ((List.range n).map kD) s1 := by
  obtain ⟨z, hz⟩ : ∃ z : Int, (n : Int) = z := ⟨_, rfl⟩
  have h0 : -4611686018427387904 ≤ z ∧ z < 4611686018427387904 := by omega
  have h1 : z.toNat = n := by omega
  rw [hz] at h
  have e : itR1 f s = .ok (rngL 0 z.toNat) s1 := by
    rw [r_itR1, h]
    simp [h0]
  rw [e, h1, rngL0]; rfl
/-- one statement ahead of the rest -/
theorem sq_nx {f R : DStm} {s s1 : DS} (h : f s = .ok .nx s1) : sSeq f R s = R s1 := by
  rw [r_sSeq, h]; rfl
/-- a call whose arguments leave the state -/
theorem set_c1 {i : Nat} {g : DFn} {a : DE} {s : DS} {x d : D} {S1 : List Cell} (ha : a s = .ok x s) (e : g [x] s.st = .ok d S1) : sSet i (eCall 1 g (aCons a aNil)) s = .ok .nx ⟨s.sl.set i (.val d), S1⟩ := by
  simp [ha, e]
theorem set_c2 {i : Nat} {g : DFn} {a b : DE} {s : DS} {x y d : D} {S1 : List Cell} (ha : a s = .ok x s) (hb : b s = .ok y s) (e : g [x, y] s.st = .ok d S1) : sSet i (eCall 2 g (aCons a (aCons b aNil))) s = .ok .nx ⟨s.sl.set i (.val d), S1⟩ := by
  simp [ha, hb, e]
theorem call_c1 {g : DFn} {a : DE} {s : DS} {x d : D} {S1 : List Cell} (ha : a s = .ok x s) (e : g [x] s.st = .ok d S1) : eCall 1 g (aCons a aNil) s = .ok d ⟨s.sl, S1⟩ := by
  simp [ha, e]
theorem call_c2 {g : DFn} {a b : DE} {s : DS} {x y d : D} {S1 : List Cell} (ha : a s = .ok x s) (hb : b s = .ok y s) (e : g [x, y] s.st = .ok d S1) : eCall 2 g (aCons a (aCons b aNil)) s = .ok d ⟨s.sl, S1⟩ := by
  simp [ha, hb, e]
theorem tup_2 {a b : DE} {s s1 s2 : DS} {x y : D} (ha : a s = .ok x s1) (hb : b s1 = .ok y s2) : eTup (aCons a (aCons b aNil)) s = .ok (.tup [x, y]) s2 := by
  simp [ha, hb]
theorem asg_t {f : DE} {g : DG} {s s1 s2 : DS} {d : D} (h : f s = .ok d s1) (k : g d s1 = .ok () s2) : sAsgT f g s = .ok .nx s2 := by
  simp [h, k]
theorem set_e {i : Nat} {f : DE} {s s1 : DS} {d : D} (h : f s = .ok d s1) : sSet i f s = .ok .nx ⟨s1.sl.set i (.val d), s1.st⟩ := by
  simp [h]
theorem set_o {i : Nat} {f : DA} {s s1 : DS} {ds : List D} (h : f s = .ok ds s1) : sSetO i f s = .ok .nx ⟨s1.sl.set i (.ol ds), s1.st⟩ := by
  simp [h]
theorem if_t {c : DT} {f g : DStm} {s s1 : DS} (h : c s = .ok true s1) : sIf c f g s = f s1 := by
  rw [r_sIf, h]; rfl
theorem if_f {c : DT} {f g : DStm} {s s1 : DS} (h : c s = .ok false s1) : sIf c f g s = g s1 := by
  rw [r_sIf, h]; rfl
theorem ret_e {f : DE} {s s1 : DS} {d : D} (h : f s = .ok d s1) : sRet f s = .ok (.rt d) s1 := by
  simp [h]
theorem sq_rt {f R : DStm} {s s1 : DS} {d : D} (h : f s = .ok (.rt d) s1) : sSeq f R s = .ok (.rt d) s1 := by
  rw [r_sSeq, h]; rfl
theorem op_2 {o : D → D → Option D} {a b : DE} {s s1 s2 : DS} {x y d : D} (ha : a s = .ok x s1) (hb : b s1 = .ok y s2) (h : o x y = some d) : eOp2 o a b s = .ok d s2 := by
  simp [ha, hb, h]
theorem eB_of {f : DE} {s s1 : DS} {b : Bool} (h : f s = .ok (.bl b) s1) : eB f s = .ok b s1 := by
  simp [h]
theorem and_t {f g : DT} {s s1 : DS} (h : f s = .ok true s1) : bAnd f g s = g s1 := by
  rw [r_bAnd, h]; rfl
theorem and_f {f g : DT} {s s1 : DS} (h : f s = .ok false s1) : bAnd f g s = .ok false s1 := by
  rw [r_bAnd, h]; rfl
theorem or_t {f g : DT} {s s1 : DS} (h : f s = .ok true s1) : bOr f g s = .ok true s1 := by
  rw [r_bOr, h]; rfl
theorem or_f {f g : DT} {s s1 : DS} (h : f s = .ok false s1) : bOr f g s = g s1 := by
  rw [r_bOr, h]; rfl
theorem fn_rt {n m : Nat} {b : DStm} {ds : List D} {S S' : List Cell} {d : D} {sl : List Sl} (hn : ds.length = n) (h : b ⟨ds.map .val ++ List.replicate m .un, S⟩ = .ok (.rt d) ⟨sl, S'⟩) : fnD n b m ds S = .ok d S' := by
  simp [fnD, hn, h]
theorem for_seq {f : DE} {g : DG} {b : DStm} {s s1 : DS} {d : D} {xs : List D} {r : Res DS Out} (hf : f s = .ok d s1) (hi : itemsD d = some xs) (h : forL g b xs s1 = r) : sFor (itSeq f) g b s = r := by
  rw [r_sFor, r_itSeq, hf]
  simp only [Res.bind_ok, hi, h]
theorem for_it {it : DA} {g : DG} {b : DStm} {s s1 : DS} {xs : List D} {r : Res DS Out} (hf : it s = .ok xs s1) (h : forL g b xs s1 = r) : sFor it g b s = r := by
  rw [r_sFor, hf]
  simp only [Res.bind_ok, h]
theorem frz_e {f : DA} {s s1 : DS} {xs : List D} (h : f s = .ok xs s1) : eFrz f s = .ok (.lst xs) s1 := by
  rw [r_eFrz, h]; rfl
theorem add_ll {xs ys : List D} (h : xs.length + ys.length ≤ 1000000) : dAdd (.lst xs) (.lst ys) = some (.lst (xs ++ ys)) := by
  rw [r_dAdd_ll, r_lAdd_ll, if_pos h]
theorem app_e {i : Nat} {f : DE} {s s1 : DS} {xs0 xs : List D} {d : D} (h0 : s.sl[i]? = some (.ol xs0)) (h : f s = .ok d s1) (h1 : s1.sl[i]? = some (.ol xs)) (hl : xs.length < 1000000) : sApp i (aCons f aNil) s = .ok .nx ⟨s1.sl.set i (.ol (xs ++ [d])), s1.st⟩ := by
  rw [r_sApp, h0]
  simp only [r_aCons, h, r_aNil, Res.bind_ok, h1, if_pos hl]
theorem for_1 {i : Nat} {b : DStm} {d : D} {r : List D} {s s1 : DS} (h : b ⟨s.sl.set i (.val d), s.st⟩ = .ok .nx s1) : forL (gN i) b (d :: r) s = forL (gN i) b r s1 := by
  rw [r_for_cons]
  simp only [r_gN, r_noX_ok, Res.bind_ok, h, r_lo_nx]
theorem for_rt {i : Nat} {b : DStm} {d v : D} {r : List D} {s s1 : DS} (h : b ⟨s.sl.set i (.val d), s.st⟩ = .ok (.rt v) s1) : forL (gN i) b (d :: r) s = .ok (.rt v) s1 := by
  rw [r_for_cons]
  simp only [r_gN, r_noX_ok, Res.bind_ok, h, r_lo_rt]
end DL
set_option maxRecDepth 100000
set_option maxHeartbeats 4000000
set_option autoImplicit false
namespace DL
open PySem PySem.Spec PyProof.Rows L2
/-! ### d[k] of a dict that stands in the module -/
def lookN : List (Nm × D) → Nm → Option D
  | [], _ => none
  | (k, d) :: r, l => if k = l then some d else lookN r l
theorem lookN_nl : ∀ {kvs : List (Nm × D)} {l : Nm} {d : D}, (kvs.all fun q => noLam q.2) = true → lookN kvs l = some d → noLam d = true
  | [], _, _, _, h => by cases h
  | (k, x) :: r, l, d, h, e => by
    rw [List.all_cons, Bool.and_eq_true] at h
    unfold lookN at e
    split at e
    · cases e; exact h.1
    · exact lookN_nl h.2 e
def eKd (kvs : List (Nm × D)) (fi : DE) : DE := fun s => (fi s).bind fun k s1 => match k with
  | .str l => (match lookN kvs l with | some d => .ok d s1 | none => .stuck)
  | _ => .stuck
@[simp] theorem r_eKd (kvs : List (Nm × D)) (fi : DE) (s : DS) : eKd kvs fi s = (fi s).bind fun k s1 => match k with
  | .str l => (match lookN kvs l with | some d => .ok d s1 | none => .stuck)
  | _ => .stuck := rfl
/-- the entries of a dict of the module, told as data -/
def kdm (K : PySem.W.Frag) : List DictEntry → List (Nm × D) → Bool
  | [], [] => true
  | e :: es, (k, d) :: kvs => (match e.key with | .str x _ => x == nm k | _ => false) && repK K 6 e.val d && kdm K es kvs
  | _, _ => false
/-- the entries of a dict that stands in the module -/
def dEnt (K : PySem.W.Frag) (v : Value) : List DictEntry := match v with
  | .ref a => (match K.lookup a with
    | some ⟨_, _, .dict es _, _⟩ => es.toList
    | _ => [])
  | _ => []
def dForm (K : PySem.W.Frag) (v : Value) : Bool := match v with
  | .ref a => (match K.lookup a with
    | some ⟨c, none, .dict _ _, sl⟩ => c == .type "dict" && sl.isEmpty && !(a == sysModules)
    | _ => false)
  | _ => false
structure KdB (P : Params) (K : PySem.W.Frag) (v : Value) (kvs : List (Nm × D)) : Prop where
  form : dForm K v = true
  ents : kdm K (dEnt K v) kvs = true
  hash : (dEnt K v).map (·.hash) = kvs.map fun q => PyData.keyHash P (nm q.1)
theorem kdm_lit {P : Params} {K : PySem.W.Frag} : ∀ {es : List DictEntry} {kvs : List (Nm × D)}, kdm K es kvs = true → es.map (·.hash) = (kvs.map fun q => PyData.keyHash P (nm q.1)) → PySem.W.KeysLit P es
  | [], [], _, _ => trivial
  | [], _ :: _, h, _ => by cases h
  | _ :: _, [], h, _ => by cases h
  | e :: es, (k, d) :: kvs, h, q => by
    unfold kdm at h
    rw [Bool.and_eq_true, Bool.and_eq_true] at h
    obtain ⟨⟨h1, h2⟩, h3⟩ := h
    simp only [List.map_cons, List.cons.injEq] at q
    refine And.intro ?_ (kdm_lit h3 q.2)
    cases hk : e.key with
    | str x t =>
      rw [hk] at h1
      have h1 : (x == nm k) = true := h1
      rw [beq_iff_eq] at h1
      subst h1
      exact ⟨_, t, rfl, q.1⟩
    | _ => rw [hk] at h1; cases h1
theorem KdB.obj {P : Params} {K : PySem.W.Frag} {v : Value} {kvs : List (Nm × D)} (h : KdB P K v kvs) : ∃ (p : Addr) (es : Array DictEntry) (n : Nat), v = .ref p ∧ (p == sysModules) = false ∧ K.lookup p = some { cls := .type "dict", data := .dict es n } ∧ PySem.W.KeysLit P es.toList ∧ kdm K es.toList kvs = true := by
  obtain ⟨h1, h2, h3⟩ := h
  cases v with
  | ref a =>
    unfold dForm at h1
    unfold dEnt at h2 h3
    simp only at h1 h2 h3
    cases e : K.lookup a with
    | none => rw [e] at h1; cases h1
    | some o =>
      rw [e] at h1 h2 h3
      obtain ⟨c, dd, data, sl⟩ := o
      cases dd with
      | some _ => cases h1
      | none =>
        cases data with
        | dict es n =>
          rw [Bool.and_eq_true, Bool.and_eq_true, beq_iff_eq, Bool.not_eq_true'] at h1
          obtain ⟨⟨rfl, hs⟩, hlo⟩ := h1
          have : sl = #[] := Array.isEmpty_iff.mp hs
          subst this
          exact ⟨a, es, n, rfl, hlo, e, kdm_lit h2 h3, h2⟩
        | _ => cases h1
  | _ => cases h1
def KdOk (G : Gam) (w0 : World) (v : Value) (kvs : List (Nm × D)) : Prop :=
  ∃ p : Addr, v = .ref p ∧ (p == sysModules) = false ∧ ∀ l d, lookN kvs l = some d → ∃ y, KDct G.K w0 p (nm l) y ∧ ∀ w, Rep G w y d
theorem kdm_look {G : Gam} : ∀ {es : List DictEntry} {kvs : List (Nm × D)}, kdm G.K es kvs = true → ∀ l d, lookN kvs l = some d → ∃ e, es.find? (fun x => x.key.isStr (nm l)) = some e ∧ ∃ y, RelV y e.val ∧ ∀ w, Rep G w y d
  | [], [], _, l, d, h => by cases h
  | [], _ :: _, h, _, _, _ => by cases h
  | _ :: _, [], h, _, _, _ => by cases h
  | e :: es, (k, d') :: kvs, h, l, d, hl => by
    unfold kdm at h
    rw [Bool.and_eq_true, Bool.and_eq_true] at h
    obtain ⟨⟨h1, h2⟩, h3⟩ := h
    cases hk : e.key with
    | str x t =>
      rw [hk] at h1
      have h1 : (x == nm k) = true := h1
      rw [beq_iff_eq] at h1
      subst h1
      unfold lookN at hl
      by_cases c : k = l
      · rw [if_pos c] at hl
        cases hl
        subst c
        obtain ⟨y, r1, r2⟩ := repK_ok (G := G) rfl 6 _ _ h2
        refine ⟨e, ?_, y, r1, r2⟩
        rw [List.find?_cons_of_pos]
        rw [hk]
        simp [Value.isStr]
      · rw [if_neg c] at hl
        obtain ⟨e', q1, q2⟩ := kdm_look h3 l d hl
        refine ⟨e', ?_, q2⟩
        rw [List.find?_cons_of_neg, q1]
        rw [hk]
        simp [Value.isStr]
        intro z
        exact c (dkey_inj (a := .s k) (b := .s l) (by show Sum.inr (nm k) = Sum.inr (nm l); rw [z]) |> fun q => by cases q; rfl)
    | _ => rw [hk] at h1; cases h1
theorem kdOk_of {G : Gam} {w0 : World} {v : Value} {kvs : List (Nm × D)} (h : KdB w0.params G.K v kvs) : KdOk G w0 v kvs := by
  obtain ⟨p, es, n, rfl, lo, h1, h2, h3⟩ := h.obj
  refine ⟨p, rfl, lo, fun l d hl => ?_⟩
  obtain ⟨e, q1, y, r1, r2⟩ := kdm_look h3 l d hl
  refine ⟨y, ⟨es, n, e.val, h1, h2, ?_, r1⟩, r2⟩
  unfold PySem.W.nsIn
  rw [h1]
  simp only
  rw [q1]
section
variable {G : Gam} {W : WX} {X : Cx}
theorem pd_kd (hK : G.K = X.K) {x : Str} {v : Value} {kvs : List (Nm × D)} {i : Expr} {fi : DE} {pos pos' : Pos} (hg : Gl X x) (hm : X.mg x = some v) (hk : KdOk G X.w v kvs) (hi : PD G W X i fi) (hs : PlainIx i) (hd : (x == ("__debug__" : Str)) = false := by decide) :
    PD G W X (.Subscript (.Name x pos) i pos') (eKd kvs fi) := by
  obtain ⟨p, rfl, _, hk⟩ := hk
  refine (pe_ix (X := X) (r := rIxD X.K X.w) ix_kdict (pe_glob (v := .ref p) hg hm rfl hd) hi hs).imp fun σ H Q ⟨κ, w, s, ok, q⟩ => ?_
  show _
  refine ⟨κ, w, s, ok, (PostG.bind q).imp fun v2 H2 ⟨d2, s2, w2, le2, ok2, r2, q2⟩ => ?_⟩
  cases r2 with
  | str l =>
    replace q2 : PostG G W (Rep G) κ w2 σ (match lookN kvs l with | some d => .ok d s2 | none => .stuck) Q := q2
    cases e : lookN kvs l with
    | none => rw [e] at q2; exact q2.elim
    | some d =>
      rw [e] at q2
      obtain ⟨y, h1, h2⟩ := hk l d e
      exact ⟨p, nm l, y, rfl, rfl, hK ▸ h1, q2 w2 y H2 (.refl _) ok2 (h2 w2)⟩
  | _ => exact q2.elim
/-! ### k in d, k not in d, of a dict that stands in the module: keys that are there -/
theorem op_inKd : OpR X (compareOp .In) (fun x y H Q => ∃ p z v, y = .ref p ∧ x = .str z ∧ KDct X.K X.w p z v ∧ (p == sysModules) = false ∧ Q (.bl true) H) := by
  intro pins s σ H x y v u Q I rx ry h
  obtain ⟨p, z, r, rfl, rfl, ⟨es, n, u0, hl, hk, e, ru⟩, lo, q⟩ := h
  obtain rfl : u = Value.ref p := ry
  obtain ⟨t, rfl⟩ := rx
  have hm := PySem.W.mapOf_K (prog := X.prog) (w := X.w) I.kIn hl hk
  exact wpAny_in_of (strKind_is X.prog X.w z t) lo hm (by rw [PySem.W.find_K hl e]; exact ⟨.bl true, H, I.tok _, rfl, q⟩)
theorem op_notInKd : OpR X (compareOp .NotIn) (fun x y H Q => ∃ p z v, y = .ref p ∧ x = .str z ∧ KDct X.K X.w p z v ∧ (p == sysModules) = false ∧ Q (.bl false) H) := by
  intro pins s σ H x y v u Q I rx ry h
  obtain ⟨p, z, r, rfl, rfl, ⟨es, n, u0, hl, hk, e, ru⟩, lo, q⟩ := h
  obtain rfl : u = Value.ref p := ry
  obtain ⟨t, rfl⟩ := rx
  have hm := PySem.W.mapOf_K (prog := X.prog) (w := X.w) I.kIn hl hk
  exact wpAny_notIn_of (strKind_is X.prog X.w z t) lo hm (by rw [PySem.W.find_K hl e]; exact ⟨.bl false, H, I.tok _, rfl, q⟩)
def eInKd (b : Bool) (kvs : List (Nm × D)) (fi : DE) : DE := fun s => (fi s).bind fun k s1 => match k with
  | .str l => (match lookN kvs l with | some _ => .ok (.bl b) s1 | none => .stuck)
  | _ => .stuck
@[simp] theorem r_eInKd (b : Bool) (kvs : List (Nm × D)) (fi : DE) (s : DS) : eInKd b kvs fi s = (fi s).bind fun k s1 => match k with
  | .str l => (match lookN kvs l with | some _ => .ok (.bl b) s1 | none => .stuck)
  | _ => .stuck := rfl
theorem pd_inKd (hK : G.K = X.K) {x : Str} {v : Value} {kvs : List (Nm × D)} {i : Expr} {fi : DE} {pos pos' : Pos} (hg : Gl X x) (hm : X.mg x = some v) (hk : KdOk G X.w v kvs) (hi : PD G W X i fi) (hb : behindInMarks .In (.Name x pos) = false) (hd : (x == ("__debug__" : Str)) = false := by decide) :
    PD G W X (.Compare i [.In] [.Name x pos] pos') (eInKd true kvs fi) := by
  obtain ⟨p, rfl, lo, hk⟩ := hk
  refine (pe_cmpR (X := X) op_inKd hi (pe_glob (v := .ref p) hg hm rfl hd) hb).imp fun σ H Q ⟨κ, w, s, ok, q⟩ => ?_
  refine ⟨κ, w, s, ok, (PostG.bind q).imp fun v2 H2 ⟨d2, s2, w2, le2, ok2, r2, q2⟩ => ?_⟩
  cases r2 with
  | str l =>
    replace q2 : PostG G W (Rep G) κ w2 σ (match lookN kvs l with | some _ => .ok (.bl true) s2 | none => .stuck) Q := q2
    cases e : lookN kvs l with
    | none => rw [e] at q2; exact q2.elim
    | some d =>
      rw [e] at q2
      obtain ⟨y, h1, h2⟩ := hk l d e
      exact ⟨p, nm l, y, rfl, rfl, hK ▸ h1, lo, q2 w2 (.bl true) H2 (.refl _) ok2 (.bl true)⟩
  | _ => exact q2.elim
theorem pd_notInKd (hK : G.K = X.K) {x : Str} {v : Value} {kvs : List (Nm × D)} {i : Expr} {fi : DE} {pos pos' : Pos} (hg : Gl X x) (hm : X.mg x = some v) (hk : KdOk G X.w v kvs) (hi : PD G W X i fi) (hb : behindInMarks .NotIn (.Name x pos) = false) (hd : (x == ("__debug__" : Str)) = false := by decide) :
    PD G W X (.Compare i [.NotIn] [.Name x pos] pos') (eInKd false kvs fi) := by
  obtain ⟨p, rfl, lo, hk⟩ := hk
  refine (pe_cmpR (X := X) op_notInKd hi (pe_glob (v := .ref p) hg hm rfl hd) hb).imp fun σ H Q ⟨κ, w, s, ok, q⟩ => ?_
  refine ⟨κ, w, s, ok, (PostG.bind q).imp fun v2 H2 ⟨d2, s2, w2, le2, ok2, r2, q2⟩ => ?_⟩
  cases r2 with
  | str l =>
    replace q2 : PostG G W (Rep G) κ w2 σ (match lookN kvs l with | some _ => .ok (.bl false) s2 | none => .stuck) Q := q2
    cases e : lookN kvs l with
    | none => rw [e] at q2; exact q2.elim
    | some d =>
      rw [e] at q2
      obtain ⟨y, h1, h2⟩ := hk l d e
      exact ⟨p, nm l, y, rfl, rfl, hK ▸ h1, lo, q2 w2 (.bl false) H2 (.refl _) ok2 (.bl false)⟩
  | _ => exact q2.elim
theorem ptd_inKd (hK : G.K = X.K) {x : Str} {v : Value} {kvs : List (Nm × D)} {i : Expr} {fi : DE} {pos pos' : Pos} (hg : Gl X x) (hm : X.mg x = some v) (hk : KdOk G X.w v kvs) (hi : PD G W X i fi) (hb : behindInMarks .In (.Name x pos) = false) (hd : (x == ("__debug__" : Str)) = false := by decide) :
    PDT G W X (.Compare i [.In] [.Name x pos] pos') (eB (eInKd true kvs fi)) := by
  obtain ⟨p, rfl, lo, hk⟩ := hk
  refine (pt_cmpR (X := X) op_inKd hi (pe_glob (v := .ref p) hg hm rfl hd) hb).imp fun σ H Q h => ?_
  obtain ⟨κ, w, s, ok, q⟩ := tB_of h
  refine ⟨κ, w, s, ok, (PostG.bind q).imp fun v2 H2 ⟨d2, s2, w2, le2, ok2, r2, q2⟩ => ?_⟩
  cases r2 with
  | str l =>
    replace q2 := q2
    cases e : lookN kvs l with
    | none => simp only [e] at q2; exact q2.elim
    | some d =>
      simp only [e] at q2
      obtain ⟨y, h1, h2⟩ := hk l d e
      exact ⟨p, nm l, y, rfl, rfl, hK ▸ h1, lo, q2 w2 (.bl true) H2 (.refl _) ok2 (.bl true)⟩
  | _ => exact q2.elim
theorem ptd_notInKd (hK : G.K = X.K) {x : Str} {v : Value} {kvs : List (Nm × D)} {i : Expr} {fi : DE} {pos pos' : Pos} (hg : Gl X x) (hm : X.mg x = some v) (hk : KdOk G X.w v kvs) (hi : PD G W X i fi) (hb : behindInMarks .NotIn (.Name x pos) = false) (hd : (x == ("__debug__" : Str)) = false := by decide) :
    PDT G W X (.Compare i [.NotIn] [.Name x pos] pos') (eB (eInKd false kvs fi)) := by
  obtain ⟨p, rfl, lo, hk⟩ := hk
  refine (pt_cmpR (X := X) op_notInKd hi (pe_glob (v := .ref p) hg hm rfl hd) hb).imp fun σ H Q h => ?_
  obtain ⟨κ, w, s, ok, q⟩ := tB_of h
  refine ⟨κ, w, s, ok, (PostG.bind q).imp fun v2 H2 ⟨d2, s2, w2, le2, ok2, r2, q2⟩ => ?_⟩
  cases r2 with
  | str l =>
    replace q2 := q2
    cases e : lookN kvs l with
    | none => simp only [e] at q2; exact q2.elim
    | some d =>
      simp only [e] at q2
      obtain ⟨y, h1, h2⟩ := hk l d e
      exact ⟨p, nm l, y, rfl, rfl, hK ▸ h1, lo, q2 w2 (.bl false) H2 (.refl _) ok2 (.bl false)⟩
  | _ => exact q2.elim
end
end DL
set_option maxRecDepth 100000
set_option maxHeartbeats 4000000
set_option autoImplicit false
namespace DL
open PySem PySem.Spec PyProof.Rows L2
/-! ### dicts with tuple keys -/
section
variable {G : Gam} {W : WX} {X : Cx}
/-- the hash of a tuple key is this world's -/
structure HsOk (G : Gam) (X : Cx) : Prop where
  h : G.hs = tupleKeyHash (mixKind X.prog X.w)
theorem hs_of {P : Program} {w0 : World} (e : G.hs = tupleKeyHash (mixKind P w0)) (hp : X.prog = P) (hw : X.w = w0) : HsOk G X := by
  subst hp; subst hw; exact ⟨e⟩
abbrev KX := List Key × Addr × Value
abbrev kdX (X : Cx) : HeapKind X.prog X.w (List Key) := tupleKind (mixKind X.prog X.w)
abbrev entX (X : Cx) (x : KX) : DictEntry := entryOfKey (kdX X) x
theorem sq_key {pins : List (Addr × Obj)} {σ : L2.St} {H : Hp} {s : Shared} (I : Inv X pins σ H s) {b : Addr} {ks : List Key} (h : SqT X.K H b (ks.map kV)) : (kdX X).is s.heap ks b := by
  obtain ⟨its, r, ⟨o, h1, h2, n, h3⟩, hz⟩ := I.tuple h
  exact ⟨o, its.toArray, n, h1, h2, h3, by simpa using items_are r⟩
/-- keys and values, beside one another -/
abbrev KvR (G : Gam) (w : Wd) : List (List DK × D) → List KX → Prop := Paired fun (q : List DK × D) (x : KX) => q.1.map dkey = x.1 ∧ SqT G.K w.F x.2.1 (x.1.map kV) ∧ ∃ v, RelV v x.2.2 ∧ Rep G w v q.2
theorem rt_xs (hH : HsOk G X) {w : Wd} : ∀ {es : List DictEntry} {kvs : List (List DK × D)}, RepT G w es kvs → ∃ xs : List KX, es = xs.map (entX X) ∧ KvR G w kvs xs
  | _, _, .nil => ⟨[], rfl, .nil⟩
  | _, _, .cons (k := k) (b := b) (v := v) (u := u) (d := d) h1 h2 h3 r => by
    obtain ⟨xs, a1, a2⟩ := rt_xs hH r
    refine ⟨(k.map dkey, b, u) :: xs, ?_, .cons ⟨rfl, ?_, v, h2, h3⟩ a2⟩
    · rw [List.map_cons, ← a1]
      congr 1
      rw [hH.h]; rfl
    · show SqT G.K w.F b ((k.map dkey).map kV)
      rw [List.map_map]; exact h1
theorem xs_rt (hH : HsOk G X) {w : Wd} : ∀ {kvs : List (List DK × D)} {xs : List KX}, KvR G w kvs xs → RepT G w (xs.map (entX X)) kvs
  | [], [], _ => .nil
  | [], _ :: _, h => by cases h
  | _ :: _, [], h => by cases h
  | (k, d) :: kvs, (k', b, u) :: xs, h => by
    have h1 : k.map dkey = k' ∧ SqT G.K w.F b (k'.map kV) ∧ ∃ v, RelV v u ∧ Rep G w v d := by cases h; assumption
    have t : KvR G w kvs xs := by cases h; assumption
    obtain ⟨e1, e2, v, e3, e4⟩ := h1
    subst e1
    rw [List.map_map] at e2
    have := RepT.cons (G := G) (w := w) (k := k) (b := b) (v := v) (u := u) (d := d) e2 e3 e4 (xs_rt hH t)
    rw [hH.h] at this
    exact this
theorem kv_keys {w : Wd} : ∀ {kvs : List (List DK × D)} {xs : List KX}, KvR G w kvs xs → xs.map (·.1) = kvs.map fun q => q.1.map dkey
  | [], [], _ => rfl
  | [], _ :: _, h => by cases h
  | _ :: _, [], h => by cases h
  | q :: kvs, x :: xs, h => by
    have h1 : q.1.map dkey = x.1 := by cases h with | cons a b => exact a.1
    have t : KvR G w kvs xs := by cases h; assumption
    rw [List.map_cons, List.map_cons, kv_keys t, h1]
theorem kv_sq {w : Wd} : ∀ {kvs : List (List DK × D)} {xs : List KX}, KvR G w kvs xs → ∀ x ∈ xs, SqT G.K w.F x.2.1 (x.1.map kV)
  | [], [], _, _, hx => nomatch hx
  | [], _ :: _, h, _, _ => by cases h
  | _ :: _, [], h, _, _ => by cases h
  | q :: kvs, y :: xs, h, x, hx => by
    have h1 : SqT G.K w.F y.2.1 (y.1.map kV) := by cases h with | cons a b => exact a.2.1
    have t : KvR G w kvs xs := by cases h; assumption
    rcases List.mem_cons.mp hx with rfl | hx
    · exact h1
    · exact kv_sq t x hx
theorem dkeys_inj {a b : List DK} (h : a.map dkey = b.map dkey) : a = b := by
  induction a generalizing b with
  | nil => cases b with
    | nil => rfl
    | cons _ _ => cases h
  | cons x a ih => cases b with
    | nil => cases h
    | cons y b =>
      rw [List.map_cons, List.map_cons, List.cons.injEq] at h
      rw [dkey_inj h.1, ih h.2]
theorem nodup_map {α β : Type} {f : α → β} (hf : ∀ x y, f x = f y → x = y) : ∀ {l : List α}, l.Nodup → (l.map f).Nodup
  | [], _ => List.nodup_nil
  | x :: l, h => by
    rw [List.nodup_cons] at h
    rw [List.map_cons, List.nodup_cons]
    refine ⟨fun q => ?_, nodup_map hf h.2⟩
    obtain ⟨y, hy, e⟩ := List.mem_map.mp q
    rw [hf _ _ e] at hy
    exact h.1 hy
/-- a dict with tuple keys in the heap -/
structure TD (X : Cx) (H : Hp) (a : Addr) (xs : List KX) (ep : Nat) : Prop where
  e : H a = some (dctO a (xs.map (entX X)) ep)
  sq : ∀ x ∈ xs, SqT X.K H x.2.1 (x.1.map kV)
  nd : (xs.map (·.1)).Nodup
  lo : (a == sysModules) = false
theorem TD.dict {pins : List (Addr × Obj)} {σ : L2.St} {H : Hp} {s : Shared} {a : Addr} {xs : List KX} {ep : Nat} (t : TD X H a xs ep) (I : Inv X pins σ H s) : s.heap.DictOfH (kdX X) a xs := by
  obtain ⟨⟨o, es, g1, g2, g3, g4⟩, _⟩ := (show ObjOk X.prog X.w H s.heap a (dctO a (xs.map (entX X)) ep) from I.hok a _ t.e)
  exact ⟨o, es, ep, g1, g2, g3, g4, fun x hx => sq_key I (t.sq x hx), t.nd⟩
theorem tok_td (hK : G.K = X.K) (hH : HsOk G X) {w : Wd} {S : List Cell} {H : Hp} {a : Addr} {kvs : List (List DK × D)} (f : FOk G w S H) (h : TOk G w H a kvs) : ∃ xs ep, TD X H a xs ep ∧ KvR G w kvs xs := by
  obtain ⟨es, ep, e, r, nd, lo⟩ := h
  obtain ⟨xs, a1, a2⟩ := rt_xs hH r
  subst a1
  refine ⟨xs, ep, ⟨e, fun x hx => hK ▸ SqT.le (kv_sq a2 x hx) f.sub, ?_, lo⟩, a2⟩
  rw [kv_keys a2]
  have := nodup_map (f := fun l : List DK => l.map dkey) (fun x y h => dkeys_inj h) nd
  rwa [List.map_map] at this
theorem ext_ok {P : Program} {w : World} {H : Hp} {h : Heap} {a : Addr} {es : List DictEntry} {ep : Nat} (hh : ∃ o es', h.get? a = some o ∧ o.ExactDict ∧ o.data = .dict es' ep ∧ es'.toList = es) : ObjOk P w H h a (dctO a es ep) :=
  ⟨hh, let ⟨o, _, ho, _⟩ := hh; ⟨o, ho⟩, fun h1 h2 ⟨o, es', q1, q2⟩ k => ⟨o, es', k o q1, q2⟩⟩
def tLook : List (List DK × D) → List DK → Option D
  | [], _ => none
  | q :: r, l => if q.1 = l then some q.2 else tLook r l
def tPut : List (List DK × D) → List DK → D → List (List DK × D)
  | [], l, x => [(l, x)]
  | q :: r, l, x => if q.1 = l then (l, x) :: r else q :: tPut r l x
theorem kv_look {w : Wd} (l : List DK) : ∀ {kvs : List (List DK × D)} {xs : List KX}, KvR G w kvs xs → (∀ d, tLook kvs l = some d → ∃ p v, atKey xs (l.map dkey) = some p ∧ RelV v p.2 ∧ Rep G w v d) ∧ (tLook kvs l = none → atKey xs (l.map dkey) = none)
  | [], [], _ => ⟨fun _ h => (nomatch h), fun _ => rfl⟩
  | [], _ :: _, h => by cases h
  | _ :: _, [], h => by cases h
  | q :: kvs, x :: xs, hh => by
    have h : q.1.map dkey = x.1 ∧ SqT G.K w.F x.2.1 (x.1.map kV) ∧ ∃ v, RelV v x.2.2 ∧ Rep G w v q.2 := by cases hh; assumption
    have t : KvR G w kvs xs := by cases hh; assumption
    obtain ⟨i1, i2⟩ := kv_look l t
    obtain ⟨h1, _, v, h2, h3⟩ := h
    by_cases c : q.1 = l
    · have e : atKey (x :: xs) (l.map dkey) = some x.2 := by
        unfold atKey
        rw [List.find?_cons_of_pos (by rw [← c]; exact decide_eq_true h1.symm)]; rfl
      refine ⟨fun d hd => ?_, fun hd => ?_⟩
      · unfold tLook at hd
        rw [if_pos c] at hd
        cases hd
        exact ⟨x.2, v, e, h2, h3⟩
      · unfold tLook at hd
        rw [if_pos c] at hd
        cases hd
    · have e : atKey (x :: xs) (l.map dkey) = atKey xs (l.map dkey) := by
        unfold atKey
        rw [List.find?_cons_of_neg]
        intro z
        have z := of_decide_eq_true z
        exact c (dkeys_inj (h1.trans z))
      refine ⟨fun d hd => ?_, fun hd => ?_⟩
      · unfold tLook at hd
        rw [if_neg c] at hd
        rw [e]; exact i1 d hd
      · unfold tLook at hd
        rw [if_neg c] at hd
        rw [e]; exact i2 hd
theorem kv_len {w : Wd} {kvs : List (List DK × D)} {xs : List KX} (h : KvR G w kvs xs) : kvs.length = xs.length := Paired.length h
theorem tLook_none : ∀ {kvs : List (List DK × D)} {l : List DK}, tLook kvs l = none ↔ l ∉ kvs.map (·.1)
  | [], l => by simp [tLook]
  | q :: r, l => by
    unfold tLook
    by_cases c : q.1 = l
    · rw [if_pos c]; simp [c]
    · rw [if_neg c, tLook_none, List.map_cons, List.mem_cons, not_or]
      exact ⟨fun h => ⟨fun e => c e.symm, h⟩, fun h => h.2⟩
theorem tPut_new : ∀ {kvs : List (List DK × D)} {l : List DK} {x : D}, tLook kvs l = none → tPut kvs l x = kvs ++ [(l, x)]
  | [], _, _, _ => rfl
  | q :: r, l, x, h => by
    unfold tLook at h
    by_cases c : q.1 = l
    · rw [if_pos c] at h; cases h
    · rw [if_neg c] at h
      unfold tPut
      rw [if_neg c, tPut_new h]; rfl
theorem tPut_keys : ∀ {kvs : List (List DK × D)} {l : List DK} {x : D} {d : D}, tLook kvs l = some d → (tPut kvs l x).map (·.1) = kvs.map (·.1)
  | [], _, _, _, h => by cases h
  | q :: r, l, x, d, h => by
    unfold tLook at h
    unfold tPut
    by_cases c : q.1 = l
    · rw [if_pos c, List.map_cons, List.map_cons, c]
    · rw [if_neg c] at h
      rw [if_neg c, List.map_cons, List.map_cons, tPut_keys h]
theorem tPut_nd {kvs : List (List DK × D)} {l : List DK} {x : D} (nd : (kvs.map (·.1)).Nodup) : ((tPut kvs l x).map (·.1)).Nodup := by
  cases e : tLook kvs l with
  | some d => rw [tPut_keys e]; exact nd
  | none =>
    rw [tPut_new e, List.map_append, List.nodup_append]
    refine ⟨nd, by simp, fun a ha b hb => ?_⟩
    have hb : b = l := by simpa using hb
    rw [hb]
    exact fun q => tLook_none.mp e (by rw [← q]; exact ha)
theorem kv_keep {w : Wd} {l : List DK} {u : Value} : ∀ {kvs : List (List DK × D)} {xs : List KX}, KvR G w kvs xs → l ∉ kvs.map (·.1) → xs.map (putAt (l.map dkey) u) = xs
  | [], [], _, _ => rfl
  | [], _ :: _, h, _ => by cases h
  | _ :: _, [], h, _ => by cases h
  | q :: kvs, x :: xs, hh, hn => by
    have h : q.1.map dkey = x.1 := by cases hh with | cons a b => exact a.1
    have t : KvR G w kvs xs := by cases hh; assumption
    rw [List.map_cons, List.mem_cons, not_or] at hn
    rw [List.map_cons, kv_keep t hn.2]
    unfold putAt
    rw [if_neg fun e => hn.1 (dkeys_inj (h.trans e)).symm]
theorem kv_old {w : Wd} {l : List DK} {u : Value} {v : V} {d : D} (ru : RelV v u) (rd : Rep G w v d) : ∀ {kvs : List (List DK × D)} {xs : List KX}, KvR G w kvs xs → (kvs.map (·.1)).Nodup → (tLook kvs l).isSome = true → KvR G w (tPut kvs l d) (xs.map (putAt (l.map dkey) u))
  | [], [], _, _, h => by cases h
  | [], _ :: _, h, _, _ => by cases h
  | _ :: _, [], h, _, _ => by cases h
  | q :: kvs, x :: xs, hh, nd, hs => by
    have h : q.1.map dkey = x.1 ∧ SqT G.K w.F x.2.1 (x.1.map kV) ∧ ∃ v, RelV v x.2.2 ∧ Rep G w v q.2 := by cases hh; assumption
    have t : KvR G w kvs xs := by cases hh; assumption
    rw [List.map_cons, List.nodup_cons] at nd
    unfold tLook at hs
    unfold tPut
    by_cases c : q.1 = l
    · rw [if_pos c, List.map_cons, kv_keep t (by rw [← c]; exact nd.1)]
      refine .cons ?_ t
      unfold putAt
      rw [if_pos (h.1.symm.trans (by rw [c]))]
      exact ⟨by rw [← c]; exact h.1, h.2.1, v, ru, rd⟩
    · rw [if_neg c] at hs
      rw [if_neg c, List.map_cons]
      refine .cons ?_ (kv_old ru rd t nd.2 hs)
      unfold putAt
      rw [if_neg fun e => c (dkeys_inj (h.1.trans e))]
      exact h
theorem kv_put {w : Wd} {l : List DK} {b : Addr} {u : Value} {v : V} {d : D} (ru : RelV v u) (rd : Rep G w v d) (sb : SqT G.K w.F b ((l.map dkey).map kV)) {kvs : List (List DK × D)} {xs : List KX} (h : KvR G w kvs xs) (nd : (kvs.map (·.1)).Nodup) : KvR G w (tPut kvs l d) (storedH xs (l.map dkey) b u) := by
  obtain ⟨k1, k2⟩ := kv_look l h
  unfold storedH
  cases e : tLook kvs l with
  | some x =>
    obtain ⟨p, _, q, _⟩ := k1 x e
    rw [q, if_pos (show (some p).isSome = true from rfl)]
    exact kv_old ru rd h nd (by rw [e]; rfl)
  | none =>
    rw [k2 e, if_neg (by simp), tPut_new e]
    exact Paired.snoc h ⟨rfl, sb, v, ru, rd⟩
/-! ### the library's words -/
def TGet (X : Cx) (H : Hp) (a : Addr) (y : V) (r : Option V) : Prop := ∃ xs ep k b, TD X H a xs ep ∧ y = .ref b ∧ SqT X.K H b (k.map kV) ∧ RelO r ((atKey xs k).map (·.2))
theorem relO_some {v : V} {o : Option Value} (r : RelO (some v) o) : ∃ u, o = some u ∧ RelV v u := by
  cases o with
  | none => exact (show False from r).elim
  | some u => exact ⟨u, rfl, r⟩
section
variable {pins : List (Addr × Obj)} {σ : L2.St} {H : Hp} {s : Shared} {a : Addr} {y v : V} {u r : Value} {o : Option V} {A : Around} {E : Value → Shared → Prop}
theorem t_getItem {Q : Value → Shared → Prop} (hu : A.units + 1 < cLine) (I : Inv X pins σ H s) (g : TGet X H a y (some v)) (ry : RelV y u) (h : ∀ w' s', Inv X pins σ H s' → RelV v w' → Q w' s') :
    wpAny (model X.prog X.w) A (getItem (.ref a) u) Q E s := by
  obtain ⟨xs, ep, k, b, t, ey, eb, l⟩ := g
  subst ey
  cases (show u = Value.ref b from ry)
  obtain ⟨w', hw, rw'⟩ := relO_some l
  obtain ⟨p, hp, hp2⟩ := Option.map_eq_some_iff.mp hw
  refine wpAny_getItem_heap (tupleKind_room_in1 hu) (sq_key I eb) (t.dict I) hp ?_
  rw [hp2]
  exact h w' _ (I.tok _) rw'
theorem t_in {Q : Value → Shared → Prop} (hu : A.units + 1 < cLine) (I : Inv X pins σ H s) (g : TGet X H a y o) (ry : RelV y u) (h : ∀ s', Inv X pins σ H s' → Q (.bool o.isSome) s') :
    wpAny (model X.prog X.w) A (compareOp .In u (.ref a)) Q E s := by
  obtain ⟨xs, ep, k, b, t, ey, eb, l⟩ := g
  subst ey
  cases (show u = Value.ref b from ry)
  refine wpAny_in_heap (tupleKind_room_in1 hu) (sq_key I eb) t.lo (t.dict I) ?_
  have q := l.isSome_eq
  rw [Option.isSome_map] at q
  rw [← q]
  exact h _ (I.tok _)
theorem t_notIn {Q : Value → Shared → Prop} (hu : A.units + 1 < cLine) (I : Inv X pins σ H s) (g : TGet X H a y o) (ry : RelV y u) (h : ∀ s', Inv X pins σ H s' → Q (.bool (!o.isSome)) s') :
    wpAny (model X.prog X.w) A (compareOp .NotIn u (.ref a)) Q E s := by
  obtain ⟨xs, ep, k, b, t, ey, eb, l⟩ := g
  subst ey
  cases (show u = Value.ref b from ry)
  refine wpAny_notIn_heap (tupleKind_room_in1 hu) (sq_key I eb) t.lo (t.dict I) ?_
  have q := l.isSome_eq
  rw [Option.isSome_map] at q
  rw [← q]
  exact h _ (I.tok _)
theorem t_get2 {d : V} {Q : Value → Shared → Prop} (hu : A.units + 1 < cLine) (I : Inv X pins σ H s) (g : TGet X H a y o) (ry : RelV y u) (rd : RelV d r) (h : ∀ w' s', Inv X pins σ H s' → RelV (o.getD d) w' → Q w' s') :
    wpAny (model X.prog X.w) A (call (.builtin "dict.get") [.ref a, u, r]) Q E s := by
  obtain ⟨xs, ep, k, b, t, ey, eb, l⟩ := g
  subst ey
  cases (show u = Value.ref b from ry)
  exact call_meetsIn PySem.F.slot_dict_get (t.dict I).typeIs PySem.F.entry_dict_get (PySem.F.args_dict_get_3 _ _ _) (meetsH_dict_get_default (kdX X) a b t.lo r) ⟨tupleKind_room_in1 hu, k, xs, sq_key I eb, t.dict I, h _ _ (I.tok _) (l.getD rd)⟩
theorem t_setItem {xs : List KX} {ep : Nat} {k : List Key} {b : Addr} {Q : Unit → Shared → Prop} (hu : A.units + 1 < cLine) (I : Inv X pins σ H s) (t : TD X H a xs ep) (eb : SqT X.K H b (k.map kV)) (hl : xs.length < sizeLine)
    (h : ∀ ep' s', Inv X pins σ (upd H a (dctO a ((storedH xs k b r).map (entX X)) ep')) s' → Q () s') :
    wpAny (model X.prog X.w) A (setItem (.ref a) (.ref b) r) Q E s := by
  refine wpAny_setItem_heap (hsz := Nat.le_of_lt hl) (tupleKind_room_in1 hu) (sq_key I eb) (t.dict I) fun h' dd' hs => ?_
  obtain ⟨q, es, ep', hq, h2, h3, h4, _, _⟩ := dd'
  exact h ep' _ (d_write I (by rw [t.e]; exact True.intro) hs ⟨q, hq⟩ (ext_ok ⟨q, es, hq, h2, h3, h4⟩))
end
def tTGet (X : Cx) (td ty : TE) : TE := fun σ H Q => td σ H fun x H1 => ty σ H1 fun y H2 => ∃ a v, x = .ref a ∧ TGet X H2 a y (some v) ∧ Q v H2
def tTIn (X : Cx) (ty td : TE) : TE := fun σ H Q => ty σ H fun y H1 => td σ H1 fun x H2 => ∃ a o, x = .ref a ∧ TGet X H2 a y o ∧ Q (.bl o.isSome) H2
def tTNotIn (X : Cx) (ty td : TE) : TE := fun σ H Q => ty σ H fun y H1 => td σ H1 fun x H2 => ∃ a o, x = .ref a ∧ TGet X H2 a y o ∧ Q (.bl (!o.isSome)) H2
def sTPut (X : Cx) (td ty tv : TE) : TS := fun N σ H => tv σ H fun v H1 => td σ H1 fun x H2 => ty σ H2 fun y H3 => ∃ a xs ep k b, x = .ref a ∧ TD X H3 a xs ep ∧ y = .ref b ∧ SqT X.K H3 b (k.map kV) ∧ xs.length < sizeLine ∧
  ∀ ep' u, RelV v u → N.nx σ (upd H3 a (dctO a ((storedH xs k b u).map (entX X)) ep'))
def tTGet2 (X : Cx) (td ty tx : TE) : TE := fun σ H Q => td σ H fun x H1 => ∃ a xs ep, x = .ref a ∧ TD X H1 a xs ep ∧ ty σ H1 fun y H2 => tx σ H2 fun z H3 => ∃ o, TGet X H3 a y o ∧ Q (o.getD z) H3
section
variable {o i e f value : Expr} {pos pos' tpos apos cpos : Pos} {td ty tv tx : TE}
theorem pe_tget (hu : X.A.units + 1 < cLine) (ho : PE X o td) (hi : PE X i ty) (hs : NoSl i) : PE X (.Subscript o i pos) (tTGet X td ty) := by
  refine ⟨fun pins s σ H Q I h => ?_⟩
  refine subD_of PySem.F.slot_dict_getitem.lookup hs (thn (ho.run pins s σ H _ I h) fun u s1 ⟨x, H1, I1, rx, q1⟩ => thn (hi.run pins s1 σ H1 _ I1 q1) fun iv s2 ⟨y, H2, I2, ry, a, v, ex, g, q2⟩ => ?_)
  subst ex
  obtain rfl : u = Value.ref a := rx
  have g' := g
  obtain ⟨xs, ep, k, b, t, _⟩ := g'
  exact ⟨(t.dict I2).typeIs, t_getItem hu I2 g ry fun w' s3 I3 rw' => ⟨v, H2, I3, rw', q2⟩⟩
theorem pc_tin (hu : X.A.units + 1 < cLine) (hi : PE X i ty) (ho : PE X o td) : PC X .In i o (tTIn X ty td) := by
  refine ⟨fun pins s σ H Q I h => ?_⟩
  refine thn (hi.run pins s σ H _ I h) fun iv s1 ⟨y, H1, I1, ry, q1⟩ => thn (ho.run pins s1 σ H1 _ I1 q1) fun u s2 ⟨x, H2, I2, rx, a, ov, ex, g, q2⟩ => ?_
  subst ex
  obtain rfl : u = Value.ref a := rx
  exact t_in hu I2 g ry fun s3 I3 => ⟨.bl ov.isSome, H2, I3, rfl, q2⟩
theorem pc_tnotin (hu : X.A.units + 1 < cLine) (hi : PE X i ty) (ho : PE X o td) : PC X .NotIn i o (tTNotIn X ty td) := by
  refine ⟨fun pins s σ H Q I h => ?_⟩
  refine thn (hi.run pins s σ H _ I h) fun iv s1 ⟨y, H1, I1, ry, q1⟩ => thn (ho.run pins s1 σ H1 _ I1 q1) fun u s2 ⟨x, H2, I2, rx, a, ov, ex, g, q2⟩ => ?_
  subst ex
  obtain rfl : u = Value.ref a := rx
  exact t_notIn hu I2 g ry fun s3 I3 => ⟨.bl (!ov.isSome), H2, I3, rfl, q2⟩
theorem ps_tput (hu : X.A.units + 1 < cLine) (ho : PE X o td) (hi : PE X i ty) (hv : PE X value tv) (hs : swapsWith value (some (.Subscript o i pos')) pos.line X.env = pure false) :
    PS X (.Assign [.Subscript o i pos'] value pos) (sTPut X td ty tv) := by
  refine ⟨fun pins s σ H N I h => ?_⟩
  refine wpAny_Assign_Subscript (thn (hv.run pins s σ H _ I h) fun r s1 ⟨v, H1, I1, rv, q1⟩ => thn (ho.run pins s1 σ H1 _ I1 q1) fun u s2 ⟨x, H2, I2, rx, q2⟩ => thn (hi.run pins s2 σ H2 _ I2 q2) fun iv s3 ⟨y, H3, I3, ry, a, xs, ep, k, b, ex, t, ey, eb, hl, q3⟩ => ?_) hs
  subst ex
  subst ey
  obtain rfl : u = Value.ref a := rx
  obtain rfl : iv = Value.ref b := ry
  exact t_setItem hu I3 t eb hl fun ep' s4 I4 => ⟨σ, _, I4, q3 ep' r rv⟩
theorem pe_tget2 (hu : X.A.units + 1 < cLine) (ho : PE X o td) (he : PE X e ty) (hf : PE X f tx) (m : M2 X o "get" apos e f cpos) : PE X (.Call (.Attribute o "get" apos) [e, f] [] cpos) (tTGet2 X td ty tx) := by
  refine ⟨fun pins s σ H Q I h => ?_⟩
  refine wpAny_Call_method m.base m.few m.line PySem.F.plainAttrs_dict PySem.F.slot_dict_get PySem.F.type_dict_get (thn (ho.run pins s σ H _ I h) fun u s1 ⟨x, H1, I1, rx, a, xs, ep, ex, t, q1⟩ => ?_)
  subst ex
  obtain rfl : u = Value.ref a := rx
  have dd := t.dict I1
  refine ⟨dd.typeIs, fun b q => ?_, ?_⟩
  · cases q
    obtain ⟨ob, _, _, h1, h2, _⟩ := dd
    exact ⟨ob, h1, h2.2.1⟩
  rw [m.trees]
  refine Calls.callWith_builtin rfl (Calls.evalArgs_plain (Calls.spliced_cons (thn (he.run pins s1 σ H1 _ I1 q1) fun iv s2 ⟨y, H2, I2, ry, q2⟩ =>
    Calls.spliced_cons (thn (hf.run pins s2 σ H2 _ I2 q2) fun fv s3 ⟨z, H3, I3, rz, ov, g, q3⟩ => Calls.spliced_nil ?_))))
  exact t_get2 hu I3 g ry rz fun w' s4 I4 rw' => ⟨_, H3, I4, rw', q3⟩
end
/-! ### displays -/
def tTNew : TE := fun _ H Q => ∀ p, H p = none → (p == sysModules) = false → Q (.ref p) (upd H p (dctO p [] 0))
def tTDisp (X : Cx) (tk tv : TE) : TE := fun σ H Q => ∀ p, H p = none → (p == sysModules) = false → tk σ (upd H p (dctO p [] 0)) fun x H1 => tv σ H1 fun y H2 => ∃ k b, x = .ref b ∧ H2 p = some (dctO p [] 0) ∧ SqT X.K H2 b (k.map kV) ∧
  ∀ ep u, RelV y u → Q (.ref p) (upd H2 p (dctO p [entX X (k, b, u)] ep))
theorem ext_new {P : Program} {w : World} {H : Hp} (h : Heap) : ObjOk P w H (h.push { cls := .type "dict", data := .dict #[] }) h.objs.size (dctO h.objs.size [] 0) :=
  ext_ok ⟨_, #[], Heap.get?_push_size _ rfl, ⟨rfl, rfl, rfl⟩, rfl, rfl⟩
theorem not_mods {pins : List (Addr × Obj)} {σ : L2.St} {H : Hp} {s : Shared} (I : Inv X pins σ H s) : (s.heap.objs.size == sysModules) = false := beq_eq_false_iff_ne.mpr (Ne.symm (Nat.ne_of_lt I.big))
theorem pe_tnew {pos : Pos} : PE X (.Dict [] [] pos) tTNew := ⟨fun pins s σ H Q I h =>
  wpAny_Dict_empty ⟨.ref s.heap.objs.size, _, I.laid (a := s.heap.objs.size) (o := dctO s.heap.objs.size [] 0) (t' := s.toks) (fun _ _ q => Heap.get?_push_of_some _ q) (Nat.le_refl _) (ext_new s.heap), rfl, h _ (I.hok.fresh (Nat.le_refl _)) (not_mods I)⟩⟩
theorem pe_tdisp (hu : X.A.units + 1 < cLine) {k v : Expr} {pos : Pos} {tk tv : TE} (hk : PE X k tk) (hv : PE X v tv) : PE X (.Dict [some k] [v] pos) (tTDisp X tk tv) := by
  refine ⟨fun pins s σ H Q I q => ?_⟩
  have hn := I.hok.fresh (Nat.le_refl s.heap.objs.size)
  have I1 := I.laid (a := s.heap.objs.size) (o := dctO s.heap.objs.size [] 0) (h' := s.heap.push { cls := .type "dict", data := .dict #[] }) (t' := s.toks) (fun _ _ q => Heap.get?_push_of_some _ q) (Nat.le_refl _) (ext_new s.heap)
  refine wpAny_Dict_any rfl rfl (by simp) (show 1 ≤ 15 by decide) (thn ((pps_cons hk hv pps_nil).run pins _ σ _ (fun ps H2 => match ps with
    | [(x, y)] => ∃ k b, x = V.ref b ∧ H2 s.heap.objs.size = some (dctO s.heap.objs.size [] 0) ∧ SqT X.K H2 b (k.map kV) ∧ ∀ ep u, RelV y u → Q (.ref s.heap.objs.size) (upd H2 s.heap.objs.size (dctO s.heap.objs.size [entX X (k, b, u)] ep))
    | _ => False) I1 (q _ hn (not_mods I))) fun ws s2 ⟨ps, H2, I2, rel, h⟩ => ?_)
  generalize hp : s.heap.objs.size = p at *
  cases rel with
  | nil => exact h.elim
  | @cons ab uv _ _ a b =>
    cases b with
    | cons _ _ => exact h.elim
    | nil =>
      obtain ⟨k', b', ex, e, eb, q3⟩ := h
      obtain ⟨r1, r2⟩ := a
      obtain ⟨u1, u2⟩ := uv
      rw [ex] at r1
      obtain rfl : u1 = Value.ref b' := r1
      have t : TD X H2 p [] 0 := TD.mk e (fun _ hx => nomatch hx) List.nodup_nil (hp ▸ not_mods I)
      unfold storeAll
      rw [List.forIn_cons]
      refine wpAny_bind (wpAny_bind (wpAny_dictSet_heap (hsz := Nat.zero_le _) (knd := kdX X) (show (tupleKind (mixKind X.prog X.w)).room X.A from Nat.lt_of_succ_lt hu) (sq_key I2 eb) (t.dict I2) fun h' dd' hs => wpAny_pure ?_))
      show wpAny _ _ (pure PUnit.unit) _ _ _
      refine wpAny_pure ?_
      obtain ⟨o, es, ep', hq, h2, h3, h4, _, _⟩ := dd'
      exact ⟨.ref p, _, d_write I2 (by rw [e]; exact True.intro) hs ⟨o, hq⟩ (ext_ok ⟨o, es, hq, h2, h3, h4⟩), rfl, q3 ep' u2 r2⟩
/-! ### for k in d -/
def Itx (d : Addr) (es : List DictEntry) (ep : Nat) : It :=
  ⟨fun i H => H d = some (dctO d es ep) ∧ ∃ e b, es[i]? = some e ∧ e.key = .ref b, fun i H x H' => H' = H ∧ ∃ e b, es[i]? = some e ∧ e.key = .ref b ∧ x = .ref b, fun i H => H d = some (dctO d es ep) ∧ es.length ≤ i⟩
theorem ext_at {pins : List (Addr × Obj)} {σ : L2.St} {H : Hp} {s : Shared} {d : Addr} {es : List DictEntry} {ep : Nat} (I : Inv X pins σ H s) (h : H d = some (dctO d es ep)) :
    ∃ o es', s.heap.get? d = some o ∧ o.ExactDict ∧ o.data = .dict es' ep ∧ es'.toList = es :=
  (show ObjOk X.prog X.w H s.heap d (dctO d es ep) from I.hok d _ h).1
theorem turn_x {P : Program} {w : World} {K : PySem.W.Frag} {tg : Expr} {d : Addr} {es : List DictEntry} {ep : Nat} (it : Addr) : Turn P w K tg (Itx d es ep) [it] it (fun i h => h.IsKeyIter it d i es.length ep) where
  mem := by simp
  obj := fun i h st b hb => by
    have e : b = it := by simpa using hb
    subst e
    obtain ⟨oi, e, c, dd⟩ := st
    exact ⟨oi, e, fun v z => by rw [dd] at z; cases z⟩
  keep := fun i h h' st k => st.at fun oi e => k it (by simp) oi e
  item := by
    intro X hP hw hK hc i pins s σ H E I hf st hg
    subst hP hw hK
    obtain ⟨hd, en, q, hen, hkey⟩ := hg
    obtain ⟨f0, f1, f2, f3, f4, f5⟩ := hf it (by simp)
    obtain ⟨o, es', hgd, hx, hdt, he⟩ := ext_at I hd
    have hsz : es'.size = es.length := by rw [← he, Array.length_toList]
    have hen' : es'[i]? = some en := by rw [← Array.getElem?_toList, he]; exact hen
    refine next_key_item st hgd hdt hsz hen' fun h' st' sb => ?_
    have I1 : Inv X pins σ H { s with heap := h' } := I.turned (t' := s.toks) (fun b ob hb e => (sb.2 b hb).trans e) f0 f1 f3 f4 f5
    obtain ⟨oi, e, c, dd⟩ := id st'
    exact ⟨en.key, rfl, go_of (s := { s with heap := h' }) e c dd (by decide) ⟨.ref q, H, I1, hkey, ⟨rfl, en, q, hen, hkey, rfl⟩, st', fun b hb => (hf b hb).1⟩⟩
  done := by
    intro X hP hw hK hc i pins s σ H E I hf st hg
    subst hP hw hK
    obtain ⟨hd, hi⟩ := hg
    obtain ⟨f0, f1, f2, f3, f4, f5⟩ := hf it (by simp)
    obtain ⟨o, es', hgd, hx, hdt, he⟩ := ext_at I hd
    have hsz : es'.size = es.length := by rw [← he, Array.length_toList]
    exact next_key_end (I.ok.hd hc) st hgd hdt hsz hi fun h' eb => ⟨rfl, I.turned (t' := s.toks) (fun b ob hb e => eb b ob hb e) f0 f1 f3 f4 f5⟩
  self := fun A i s Q E st h => by
    refine wpAny_pyIter_slot st.typeIs F.slot_dict_keyiterator_iter (wpAny_call_entry F.slot_dict_keyiterator_iter st.typeIs F.entry_dict_keyiterator_iter ?_ (F.args_dict_keyiterator_iter_1 _))
    show wpAny _ _ (ret (.ref it)) _ _ s
    exact wpAny_pure ⟨_, rfl, "dict_keyiterator", _, st.typeIs, F.slot_dict_keyiterator_next.lookup, h⟩
theorem pi_x {tg e : Expr} {td : TE} (he : PE X e td) : PI X tg e (fun σ H R => td σ H fun x H1 => ∃ d es ep, x = .ref d ∧ (d == sysModules) = false ∧ H1 d = some (dctO d es ep) ∧ R (Itx d es ep) H1) := by
  refine ⟨fun pins s σ H R I h => ?_⟩
  refine thn (he.run pins s σ H _ I h) fun u s1 ⟨x, H1, I1, rx, d, es, ep, ex, lo, hd, q⟩ => ?_
  subst ex
  obtain rfl : u = Value.ref d := rx
  obtain ⟨o, es', hgd, hx, hdt, hel⟩ := ext_at I1 hd
  have hsz : es'.size = es.length := by rw [← hel, Array.length_toList]
  refine iter_keys lo hgd hx hdt (pi_one (tk := s1.toks) I1 _ (turn_x _) ⟨_, Heap.get?_push_size _ rfl, rfl, ?_⟩ q)
  rw [hsz] <;> rfl
/-! ### by data -/
def dkD : DK → D
  | .i n => .int n
  | .s l => .str l
def tupD (l : List DK) : D := .tup (l.map dkD)
theorem reps_keys {w : Wd} : ∀ l : List DK, Reps G w (l.map fun x => kV (dkey x)) (l.map dkD)
  | [] => .nil
  | .i n :: r => .cons (.int n) (reps_keys r)
  | .s t :: r => .cons (.str t) (reps_keys r)
def tkOf (d : D) : Option (List DK) := match d with
  | .tup xs => xs.mapM kOf
  | _ => none
theorem reps_of_keys {w : Wd} : ∀ {vs : List V} {ds : List D} {l : List DK}, Reps G w vs ds → ds.mapM kOf = some l → vs = l.map fun x => kV (dkey x)
  | _, _, l, .nil, e => by
    have : l = [] := by simpa using e.symm
    subst this; rfl
  | _, _, l, .cons (d := d) (ds := ds) a b, e => by
    rw [List.mapM_cons] at e
    cases e1 : kOf d with
    | none => rw [e1] at e; cases e
    | some k =>
      rw [e1] at e
      cases e2 : ds.mapM kOf with
      | none => rw [e2] at e; cases e
      | some l' =>
        rw [e2] at e
        have : l = k :: l' := by simpa using e.symm
        subst this
        rw [List.map_cons, ← a.key e1, reps_of_keys b e2]
theorem Rep.tkey (hK : G.K = X.K) {w : Wd} {S : List Cell} {H : Hp} (f : FOk G w S H) {v : V} {d : D} {l : List DK} (r : Rep G w v d) (h : tkOf d = some l) : ∃ b, v = .ref b ∧ SqT X.K H b ((l.map dkey).map kV) ∧ SqT G.K w.F b ((l.map dkey).map kV) := by
  cases r with
  | @tup a vs ds e r =>
    have q := reps_of_keys r h
    subst q
    refine ⟨a, rfl, ?_, ?_⟩
    · rw [List.map_map]; exact hK ▸ SqT.le e f.sub
    · rw [List.map_map]; exact e
  | _ => exact nomatch h
/-- the dict of a slot, own or given away -/
def tAt (i : Nat) (s : DS) : Option (List (List DK × D)) := match s.sl[i]? with
  | some (.ot kvs) => some kvs
  | some (.val (.dct kvs)) => some kvs
  | _ => none
theorem tAt_ok {κ : Bs} {w : Wd} {s : DS} {σ : L2.St} {H : Hp} {i : Nat} {kvs : List (List DK × D)} (ok : Ok G κ w s σ H) (e : tAt i s = some kvs) : ∃ a, σ[i]? = some (some (.ref a)) ∧ TOk G w H a kvs := by
  unfold tAt at e
  split at e
  · rename_i x e1
    cases e
    obtain ⟨a, h1, h2, _⟩ := ok.own i _ e1 rfl
    exact ⟨a, h1, h2⟩
  · rename_i x e1
    cases e
    obtain ⟨v, h1, h2⟩ := ok.val i _ e1
    cases h2 with
    | @dct a es ep ds q1 q2 q3 q4 => exact ⟨a, h1, es, ep, ok.fok.sub _ _ q1, q2, q3, q4⟩
  · cases e
def eTGet (i : Nat) (fk : DE) : DE := fun s => match tAt i s with
  | none => .stuck
  | some _ => (fk s).bind fun k s1 => match tAt i s1, tkOf k with
    | some kvs, some l => match tLook kvs l with
      | some x => .ok x s1
      | none => .stuck
    | _, _ => .stuck
theorem tget_of (hK : G.K = X.K) (hH : HsOk G X) {κ : Bs} {w : Wd} {s : DS} {σ : L2.St} {H : Hp} {i : Nat} {a : Addr} {kvs : List (List DK × D)} {v : V} {d : D} {l : List DK} (ok : Ok G κ w s σ H) (e : tAt i s = some kvs) (ha : σ[i]? = some (some (.ref a))) (r : Rep G w v d) (hl : tkOf d = some l) :
    (∀ x, tLook kvs l = some x → ∃ y, TGet X H a v (some y) ∧ Rep G w y x) ∧ (tLook kvs l = none → TGet X H a v none) := by
  obtain ⟨a', h1, tk⟩ := tAt_ok ok e
  rw [ha] at h1
  cases h1
  obtain ⟨xs, ep, t, kv⟩ := tok_td hK hH ok.fok tk
  obtain ⟨b, rfl, sb, _⟩ := r.tkey hK ok.fok hl
  obtain ⟨k1, k2⟩ := kv_look l kv
  refine ⟨fun x hx => ?_, fun hx => ?_⟩
  · obtain ⟨p, y, q1, q2, q3⟩ := k1 x hx
    exact ⟨y, ⟨xs, ep, _, b, t, rfl, sb, by rw [q1]; exact q2⟩, q3⟩
  · exact ⟨xs, ep, _, b, t, rfl, sb, by rw [k2 hx]; exact True.intro⟩
theorem pd_tget (hu : X.A.units + 1 < cLine) (hK : G.K = X.K) (hH : HsOk G X) {i : Nat} {o k : Expr} {fk : DE} {pos : Pos} (ho : PE X o (tVar i)) (hk : PD G W X k fk) (hs : NoSl k) : PD G W X (.Subscript o k pos) (eTGet i fk) :=
  (pe_tget hu ho hk hs).imp fun σ H Q ⟨κ, w, s, ok, q⟩ => by
    unfold eTGet at q
    cases e0 : tAt i s with
    | none => rw [e0] at q; exact q.elim
    | some kv0 =>
      rw [e0] at q
      obtain ⟨a, ha, _⟩ := tAt_ok ok e0
      refine ⟨.ref a, ha, κ, w, s, ok, (PostG.bind q).imp fun v H1 ⟨d, s1, w1, le, ok1, r1, q1⟩ => ?_⟩
      cases e1 : tAt i s1 with
      | none => rw [e1] at q1; exact q1.elim
      | some kvs =>
        cases e2 : tkOf d with
        | none => rw [e1, e2] at q1; exact q1.elim
        | some l =>
          rw [e1, e2] at q1
          replace q1 : PostG G W (Rep G) κ w1 σ (match tLook kvs l with | some x => .ok x s1 | none => .stuck) Q := q1
          obtain ⟨g1, g2⟩ := tget_of hK hH ok1 e1 ha r1 e2
          cases e3 : tLook kvs l with
          | none => rw [e3] at q1; exact q1.elim
          | some x =>
            rw [e3] at q1
            obtain ⟨y, t1, t2⟩ := g1 x e3
            exact ⟨a, y, rfl, t1, q1 w1 y H1 (.refl _) ok1 t2⟩
/-- k in d, k not in d -/
def eTIn (p : Bool) (fk : DE) (i : Nat) : DE := fun s => (fk s).bind fun k s1 => match tAt i s1, tkOf k with
  | some kvs, some l => .ok (.bl ((tLook kvs l).isSome == p)) s1
  | _, _ => .stuck
theorem beq_t (b : Bool) : (b == true) = b := by cases b <;> rfl
theorem beq_f (b : Bool) : (b == false) = !b := by cases b <;> rfl
theorem tin_run (hK : G.K = X.K) (hH : HsOk G X) {σ : L2.St} {H : Hp} {Q : VK} {i : Nat} {p : Bool} {fk : DE} (h : tD G W (eTIn p fk i) σ H Q) : tD G W fk σ H fun y H1 => ∃ v, σ[i]? = some (some v) ∧ ∃ a o, v = .ref a ∧ TGet X H1 a y o ∧ Q (.bl (o.isSome == p)) H1 := by
  obtain ⟨κ, w, s, ok, q⟩ := h
  refine ⟨κ, w, s, ok, (PostG.bind q).imp fun v H1 ⟨d, s1, w1, le, ok1, r1, q1⟩ => ?_⟩
  cases e1 : tAt i s1 with
  | none => rw [e1] at q1; exact q1.elim
  | some kvs =>
    cases e2 : tkOf d with
    | none => rw [e1, e2] at q1; exact q1.elim
    | some l =>
      rw [e1, e2] at q1
      obtain ⟨a, ha, _⟩ := tAt_ok ok1 e1
      obtain ⟨g1, g2⟩ := tget_of hK hH ok1 e1 ha r1 e2
      replace q1 : PostG G W (Rep G) κ w1 σ (.ok (.bl ((tLook kvs l).isSome == p)) s1) Q := q1
      cases e3 : tLook kvs l with
      | none =>
        rw [e3] at q1
        exact ⟨_, ha, a, none, rfl, g2 e3, q1 w1 _ H1 (.refl _) ok1 (.bl _)⟩
      | some x =>
        rw [e3] at q1
        obtain ⟨y, t1, t2⟩ := g1 x e3
        exact ⟨_, ha, a, some y, rfl, t1, q1 w1 _ H1 (.refl _) ok1 (.bl _)⟩
theorem ptd_tin (hu : X.A.units + 1 < cLine) (hK : G.K = X.K) (hH : HsOk G X) {i : Nat} {o k : Expr} {fk : DE} {pos : Pos} (hk : PD G W X k fk) (ho : PE X o (tVar i)) (h1 : behindInMarks .In o = false := by first | exact nobehind _ (by decide) (by decide) | rfl) :
    PDT G W X (.Compare k [.In] [o] pos) (eB (eTIn true fk i)) := by
  refine (pt_cmp (pc_tin hu hk ho) h1).imp fun σ H Q h => ?_
  obtain ⟨κ, w, s, ok, q⟩ := tin_run hK hH (tB_of h)
  refine ⟨κ, w, s, ok, q.imp fun v H1 ⟨x, e, a, o, ex, g, q2⟩ => ⟨x, e, a, o, ex, g, ?_⟩⟩
  rw [beq_t] at q2
  exact q2
theorem ptd_tnotin (hu : X.A.units + 1 < cLine) (hK : G.K = X.K) (hH : HsOk G X) {i : Nat} {o k : Expr} {fk : DE} {pos : Pos} (hk : PD G W X k fk) (ho : PE X o (tVar i)) (h1 : behindInMarks .NotIn o = false := by first | exact nobehind _ (by decide) (by decide) | rfl) :
    PDT G W X (.Compare k [.NotIn] [o] pos) (eB (eTIn false fk i)) := by
  refine (pt_cmp (pc_tnotin hu hk ho) h1).imp fun σ H Q h => ?_
  obtain ⟨κ, w, s, ok, q⟩ := tin_run hK hH (tB_of h)
  refine ⟨κ, w, s, ok, q.imp fun v H1 ⟨x, e, a, o, ex, g, q2⟩ => ⟨x, e, a, o, ex, g, ?_⟩⟩
  rw [beq_f] at q2
  exact q2
/-- d[k] = v of one's own dict -/
def sTPutO (i : Nat) (fk fv : DE) : DStm := fun s => (fv s).bind fun v s1 => match s1.sl[i]? with
  | some (.ot _) => (fk s1).bind fun k s2 => match s2.sl[i]?, tkOf k with
    | some (.ot kvs), some l => if kvs.length < 1000000 then .ok .nx ⟨s2.sl.set i (.ot (tPut kvs l v)), s2.st⟩ else .stuck
    | _, _ => .stuck
  | _ => .stuck
theorem pds_tput (hu : X.A.units + 1 < cLine) (hK : G.K = X.K) (hH : HsOk G X) {i : Nat} {o k value : Expr} {fk fv : DE} {pos pos' : Pos} (ho : PE X o (tVar i)) (hk : PD G W X k fk) (hv : PD G W X value fv) (hs : swapsWith value (some (.Subscript o k pos')) pos.line X.env = pure false := by rfl) :
    PDS G W X (.Assign [.Subscript o k pos'] value pos) (sTPutO i fk fv) :=
  (ps_tput hu ho hk hv hs).imp fun N σ H ⟨κ, w, s, ok, q⟩ => ⟨κ, w, s, ok, (PostG.bindS q).imp fun v H1 ⟨d, s1, w1, le, ok1, r1, q1⟩ => by
    cases e1 : s1.sl[i]? with
    | none => rw [e1] at q1; exact q1.elim
    | some x =>
      rw [e1] at q1
      cases x with
      | ot kv0 =>
        obtain ⟨a, ha, _⟩ := ok1.own i _ e1 rfl
        refine ⟨_, ha, κ, w1, s1, ok1, (PostG.bindS q1).imp fun v2 H2 ⟨d2, s2, w2, le2, ok2, r2, q2⟩ => ?_⟩
        cases e2 : s2.sl[i]? with
        | none => rw [e2] at q2; exact q2.elim
        | some x2 =>
          cases x2 with
          | ot kvs =>
            cases e3 : tkOf d2 with
            | none => rw [e2, e3] at q2; exact q2.elim
            | some l =>
              rw [e2, e3] at q2
              replace q2 : PostS G W κ w2 (if kvs.length < 1000000 then .ok .nx ⟨s2.sl.set i (.ot (tPut kvs l d)), s2.st⟩ else .stuck) N := q2
              split at q2
              · rename_i c
                obtain ⟨a', h1, tk, _⟩ := ok2.own i _ e2 rfl
                rw [ha] at h1
                cases h1
                have nd := tk.choose_spec.choose_spec.2.2.1
                obtain ⟨xs, ep, t, kv⟩ := tok_td hK hH ok2.fok tk
                obtain ⟨b, rfl, sb, sb'⟩ := r2.tkey hK ok2.fok e3
                refine ⟨a, xs, ep, _, b, rfl, t, rfl, sb, by rw [← kv_len kv, sizeLine_eq]; omega, fun ep' u ru => ?_⟩
                exact q2 w2 σ _ (.refl _) (ok2.mut (y := .ot (tPut kvs l d)) e2 rfl rfl ha ⟨_, ep', upd_same, xs_rt hH (kv_put ru (r1.mono le2) sb' kv nd), tPut_nd nd, t.lo⟩ fun _ _ z => nomatch z)
              · exact q2.elim
          | _ => rw [e2] at q2; exact q2.elim
      | _ => exact q1.elim⟩
/-- d.get(k, x) -/
def eTGet2 (i : Nat) (fk fx : DE) : DE := fun s => match tAt i s with
  | none => .stuck
  | some _ => (fk s).bind fun k s1 => (fx s1).bind fun x s2 => match tAt i s2, tkOf k with
    | some kvs, some l => .ok ((tLook kvs l).getD x) s2
    | _, _ => .stuck
theorem pd_tget2 (hu : X.A.units + 1 < cLine) (hK : G.K = X.K) (hH : HsOk G X) {i : Nat} {o e f : Expr} {fk fx : DE} {apos cpos : Pos} (ho : PE X o (tVar i)) (hk : PD G W X e fk) (hx : PD G W X f fx) (m : M2 X o "get" apos e f cpos) : PD G W X (.Call (.Attribute o "get" apos) [e, f] [] cpos) (eTGet2 i fk fx) :=
  (pe_tget2 hu ho hk hx m).imp fun σ H Q ⟨κ, w, s, ok, q⟩ => by
    unfold eTGet2 at q
    cases e0 : tAt i s with
    | none => rw [e0] at q; exact q.elim
    | some kv0 =>
      rw [e0] at q
      obtain ⟨a, ha, tk⟩ := tAt_ok ok e0
      obtain ⟨xs, ep, t, _⟩ := tok_td hK hH ok.fok tk
      refine ⟨.ref a, ha, a, xs, ep, rfl, t, κ, w, s, ok, (PostG.bind q).imp fun v H1 ⟨d, s1, w1, le, ok1, r1, q1⟩ => ⟨κ, w1, s1, ok1, (PostG.bind q1).imp fun v2 H2 ⟨d2, s2, w2, le2, ok2, r2, q2⟩ => ?_⟩⟩
      cases e1 : tAt i s2 with
      | none => rw [e1] at q2; exact q2.elim
      | some kvs =>
        cases e2 : tkOf d with
        | none => rw [e1, e2] at q2; exact q2.elim
        | some l =>
          rw [e1, e2] at q2
          replace q2 : PostG G W (Rep G) κ w2 σ (.ok ((tLook kvs l).getD d2) s2) Q := q2
          obtain ⟨g1, g2⟩ := tget_of hK hH ok2 e1 ha (r1.mono le2) e2
          cases e3 : tLook kvs l with
          | none =>
            rw [e3] at q2
            exact ⟨none, g2 e3, q2 w2 v2 H2 (.refl _) ok2 r2⟩
          | some x =>
            rw [e3] at q2
            obtain ⟨y, t1, t2⟩ := g1 x e3
            exact ⟨some y, t1, q2 w2 y H2 (.refl _) ok2 t2⟩
/-! ### a dict of one's own is made -/
def PostOt (G : Gam) (W : WX) (κ : Bs) (w : Wd) (σ : L2.St) (r : Res DS (List (List DK × D))) (Q : VK) : Prop := match r with
  | .ok xs s' => ∀ w' a es ep H', w.le w' → Ok G (κ.plus a (dctO a es ep)) w' s' σ H' → (∀ p ∈ κ.γ, p.1 ≠ a) → RepT G w' es xs → (xs.map (·.1)).Nodup → (a == sysModules) = false → Q (.ref a) H'
  | .exc x s' => ∀ w' c dd H', w.le w' → Ok G κ w' s' σ H' → RepX G w' c dd x → W c dd σ H'
  | .stuck => False
abbrev DTd := DS → Res DS (List (List DK × D))
def tDot (G : Gam) (W : WX) (f : DTd) : TE := fun σ H Q => ∃ κ w s, Ok G κ w s σ H ∧ PostOt G W κ w σ (f s) Q
abbrev PDot (G : Gam) (W : WX) (X : Cx) (e : Expr) (f : DTd) : Prop := PE X e (tDot G W f)
def dTNew : DTd := fun s => .ok [] s
def dTOne (fk fv : DE) : DTd := fun s => (fk s).bind fun k s1 => (fv s1).bind fun v s2 => match tkOf k with
  | some l => .ok [(l, v)] s2
  | none => .stuck
theorem pdot_new {pos : Pos} : PDot G W X (.Dict [] [] pos) dTNew := pe_tnew.imp fun σ H Q ⟨κ, w, s, ok, q⟩ p hp lo =>
  q w p [] 0 _ (.refl _) (ok.fresh hp (dctO p [] 0)) (ok.apart hp) .nil List.nodup_nil lo
theorem pdot_one (hu : X.A.units + 1 < cLine) (hK : G.K = X.K) (hH : HsOk G X) {k v : Expr} {fk fv : DE} {pos : Pos} (hk : PD G W X k fk) (hv : PD G W X v fv) : PDot G W X (.Dict [some k] [v] pos) (dTOne fk fv) :=
  (pe_tdisp hu hk hv).imp fun σ H Q ⟨κ, w, s, ok, q⟩ p hp lo => by
    have ok1 := ok.fresh hp (dctO p [] 0)
    have hγ := ok.apart hp
    refine ⟨κ.plus p (dctO p [] 0), w, s, ok1, ?_⟩
    unfold dTOne at q
    cases e1 : fk s with
    | stuck => rw [e1] at q; exact q.elim
    | exc x s' => rw [e1] at q; exact fun w' c dd H' l o r => q w' c dd H' l o.unplus r
    | ok d s1 =>
      rw [e1] at q
      intro w1 v1 H1 l1 ok2 r1
      refine ⟨κ.plus p (dctO p [] 0), w1, s1, ok2, ?_⟩
      replace q : PostOt G W κ w σ ((fv s1).bind fun v s2 => match tkOf d with | some l => .ok [(l, v)] s2 | none => .stuck) Q := q
      cases e2 : fv s1 with
      | stuck => rw [e2] at q; exact q.elim
      | exc x s' => rw [e2] at q; exact fun w' c dd H' l o r => q w' c dd H' (l1.trans l) o.unplus r
      | ok d2 s2 =>
        rw [e2] at q
        intro w2 v2 H2 l2 ok3 r2
        replace q : PostOt G W κ w σ (match tkOf d with | some l => .ok [(l, d2)] s2 | none => .stuck) Q := q
        cases e3 : tkOf d with
        | none => rw [e3] at q; exact q.elim
        | some l =>
          rw [e3] at q
          obtain ⟨b, rfl, sb, sb'⟩ := (r1.mono l2).tkey hK ok3.fok e3
          refine ⟨_, b, rfl, (ok3.gam (p, dctO p [] 0) List.mem_cons_self).1, sb, fun ep u ru => ?_⟩
          have rt : RepT G w2 [entX X (l.map dkey, b, u)] [(l, d2)] := xs_rt hH (xs := [(l.map dkey, b, u)]) (.cons ⟨rfl, sb', v2, ru, r2⟩ .nil)
          exact q w2 p _ ep _ (l1.trans l2) (ok3.swap hγ) hγ rt (by simp) lo
/-- name = a new dict with tuple keys -/
def sSetOt (i : Nat) (f : DTd) : DStm := fun s => (f s).bind fun xs s1 => .ok .nx ⟨s1.sl.set i (.ot xs), s1.st⟩
theorem setOt_of {i : Nat} {f : DTd} {N : Ends} {σ : L2.St} {H : Hp} (h : tDS G W (sSetOt i f) N σ H) : tAsg (tDot G W f) (gName i) N σ H := by
  obtain ⟨κ, w, s, ok, q⟩ := h
  refine ⟨κ, w, s, ok, ?_⟩
  unfold sSetOt at q
  cases e : f s with
  | stuck => rw [e] at q; exact q.elim
  | exc x s' =>
    rw [e] at q
    exact fun w' c dd H' l o r => q w' σ c dd H' l o r
  | ok xs s' =>
    rw [e] at q
    intro w' a es ep H' l o g r nd lo
    exact q w' _ H' l (o.setOwn (y := .ot xs) g ⟨es, ep, (o.gam (a, dctO a es ep) List.mem_cons_self).1, r, nd, lo⟩ rfl (fun _ _ z => nomatch z) i)
theorem pds_setOt {i : Nat} {x : Str} {e : Expr} {f : DTd} {pos pos' : Pos} (hN : X.N.Nodup) (hi : X.N[i]? = some x) (hx : Loc X.env.scope x) (he : PDot G W X e f) (hs : swapsWith e (some (.Name x pos')) pos.line X.env = pure false := by rfl)
    (hf : X.fn x = true ∨ X.env.scope.names.lookup x = some .local := by first | exact .inl rfl | exact .inr rfl | assumption) : PDS G W X (.Assign [.Name x pos'] e pos) (sSetOt i f) :=
  (ps_set hN hi hx he hs hf).imp fun N σ H q => setOt_of q
/-! ### for k in d, by data -/
def itDct (f : DE) : DA := fun s => (f s).bind fun d s1 => match d with
  | .dct kvs => .ok (kvs.map fun q => tupD q.1) s1
  | _ => .stuck
theorem rt_get {w : Wd} : ∀ {es : List DictEntry} {kvs : List (List DK × D)} {i : Nat} {q : List DK × D}, RepT G w es kvs → kvs[i]? = some q → ∃ e b, es[i]? = some e ∧ e.key = .ref b ∧ SqT G.K w.F b (q.1.map fun x => kV (dkey x))
  | _, _, _, _, .nil, e => by simp at e
  | _, _, 0, _, .cons (b := b) h1 h2 h3 r, e => by
    simp at e; subst e
    exact ⟨_, b, rfl, rfl, h1⟩
  | _, _, i + 1, q, .cons h1 h2 h3 r, e => by
    obtain ⟨e', b, g1, g2, g3⟩ := rt_get (i := i) (q := q) r (by simpa using e)
    exact ⟨e', b, by simpa using g1, g2, g3⟩
theorem rt_len {w : Wd} : ∀ {es : List DictEntry} {kvs : List (List DK × D)}, RepT G w es kvs → es.length = kvs.length
  | _, _, .nil => rfl
  | _, _, .cons _ _ _ r => by rw [List.length_cons, List.length_cons, rt_len r]
theorem itOk_dct {w : Wd} {a : Addr} {es : List DictEntry} {ep : Nat} {kvs : List (List DK × D)} (e : w.F a = some (dctO a es ep)) (r : RepT G w es kvs) : ItOk G w (Itx a es ep) (kvs.map fun q => tupD q.1) := by
  intro w1 S H le fok i
  have q : H a = some (dctO a es ep) := fok.sub _ _ (le.f _ _ e)
  refine ⟨fun d hd => ?_, fun hn => ⟨q, ?_⟩⟩
  · rw [List.getElem?_map] at hd
    cases hk : kvs[i]? with
    | none => rw [hk] at hd; cases hd
    | some z =>
      rw [hk] at hd
      cases hd
      obtain ⟨en, b, g1, g2, g3⟩ := rt_get r hk
      refine ⟨⟨q, en, b, g1, g2⟩, fun x H' ⟨hH, en', b', g1', g2', hx⟩ => ⟨w1, ?_, ?_, ?_⟩⟩
      · rw [hH]; exact .refl _ _
      · rw [hH]; exact fok
      · rw [g1] at g1'
        cases g1'
        rw [g2] at g2'
        cases g2'
        subst hx
        exact .tup (SqT.le g3 le.f) (reps_keys z.1)
  · rw [List.getElem?_map] at hn
    cases hk : kvs[i]? with
    | some z => rw [hk] at hn; cases hn
    | none => rw [rt_len r]; exact List.getElem?_eq_none_iff.mp hk
theorem pdi_dct {tg e : Expr} {f : DE} (h : PD G W X e f) : PDI G W X tg e (itDct f) :=
  (pi_x h).imp fun σ H R ⟨κ, w, s, ok, q⟩ => ⟨κ, w, s, ok, (PostG.bindI q).imp fun v H1 ⟨d, s1, w1, le, ok1, r1, q1⟩ => by
    cases r1 with
    | @dct a es ep ds e r nd lo => exact ⟨a, es, ep, rfl, lo, ok1.fok.sub _ _ e, q1 w1 _ H1 (.refl _) ok1 (itOk_dct e r)⟩
    | _ => exact q1.elim⟩
end
/-! ### readings -/
theorem tat_o {i : Nat} {s : DS} {kvs : List (List DK × D)} (h : s.sl[i]? = some (.ot kvs)) : tAt i s = some kvs := by unfold tAt; rw [h]
theorem tat_v {i : Nat} {s : DS} {kvs : List (List DK × D)} (h : s.sl[i]? = some (.val (.dct kvs))) : tAt i s = some kvs := by unfold tAt; rw [h]
theorem tget_e {i : Nat} {fk : DE} {s s1 : DS} {kv0 kvs : List (List DK × D)} {k x : D} {l : List DK} (h0 : tAt i s = some kv0) (hk : fk s = .ok k s1) (h1 : tAt i s1 = some kvs) (hl : tkOf k = some l) (e : tLook kvs l = some x) : eTGet i fk s = .ok x s1 := by
  unfold eTGet
  rw [h0, hk]
  simp only [Res.bind_ok, h1, hl, e]
theorem tin_e {p : Bool} {i : Nat} {fk : DE} {s s1 : DS} {kvs : List (List DK × D)} {k : D} {l : List DK} (hk : fk s = .ok k s1) (h1 : tAt i s1 = some kvs) (hl : tkOf k = some l) : eTIn p fk i s = .ok (.bl ((tLook kvs l).isSome == p)) s1 := by
  unfold eTIn
  rw [hk]
  simp only [Res.bind_ok, h1, hl]
theorem tput_e {i : Nat} {fk fv : DE} {s s1 s2 : DS} {kv0 kvs : List (List DK × D)} {k v : D} {l : List DK} (hv : fv s = .ok v s1) (h0 : s1.sl[i]? = some (.ot kv0)) (hk : fk s1 = .ok k s2) (h1 : s2.sl[i]? = some (.ot kvs)) (hl : tkOf k = some l) (hn : kvs.length < 1000000) : sTPutO i fk fv s = .ok .nx ⟨s2.sl.set i (.ot (tPut kvs l v)), s2.st⟩ := by
  unfold sTPutO
  rw [hv]
  simp only [Res.bind_ok, h0, hk, h1, hl]
  exact if_pos hn
theorem tget2_e {i : Nat} {fk fx : DE} {s s1 s2 : DS} {kv0 kvs : List (List DK × D)} {k x : D} {l : List DK} (h0 : tAt i s = some kv0) (hk : fk s = .ok k s1) (hx : fx s1 = .ok x s2) (h1 : tAt i s2 = some kvs) (hl : tkOf k = some l) : eTGet2 i fk fx s = .ok ((tLook kvs l).getD x) s2 := by
  unfold eTGet2
  rw [h0, hk]
  simp only [Res.bind_ok, hx, h1, hl]
theorem setOt_new {i : Nat} {s : DS} : sSetOt i dTNew s = .ok .nx ⟨s.sl.set i (.ot []), s.st⟩ := rfl
theorem setOt_one {i : Nat} {fk fv : DE} {s s1 s2 : DS} {k v : D} {l : List DK} (hk : fk s = .ok k s1) (hv : fv s1 = .ok v s2) (hl : tkOf k = some l) : sSetOt i (dTOne fk fv) s = .ok .nx ⟨s2.sl.set i (.ot [(l, v)]), s2.st⟩ := by
  unfold sSetOt dTOne
  rw [hk]
  simp only [Res.bind_ok, hv, hl]
theorem itDct_e {f : DE} {s s1 : DS} {kvs : List (List DK × D)} (h : f s = .ok (.dct kvs) s1) : itDct f s = .ok (kvs.map fun q => tupD q.1) s1 := by
  unfold itDct
  rw [h]; rfl
theorem var_t {i : Nat} {sl : List Sl} {S : List Cell} {kvs : List (List DK × D)} (h : sl[i]? = some (.ot kvs)) : eVar i ⟨sl, S⟩ = .ok (.dct kvs) ⟨sl.set i (.val (.dct kvs)), S⟩ := by
  rw [r_eVar, h]
end DL
set_option maxRecDepth 100000
set_option maxHeartbeats 4000000
set_option autoImplicit false
namespace DL
open PySem PySem.Spec PyProof.Rows L2
/-! ### an own error of two fields: super().__init__(x, y); self.f = x; self.g = y -/
theorem eval_si2 (x x2 : Str) (env : Env) (p0 p1 p2 p3 p4 q3 : Pos) (hp : (p2.endLine == p4.line) = true) : eval (.Call (.Attribute (.Call (.Name "super" p0) [] [] p1) "__init__" p2) [.Name x p3, .Name x2 q3] [] p4) env = (do
      let ov ← attributeBase (.Call (.Name "super" p0) [] [] p1) "__init__" env (eval (.Call (.Name "super" p0) [] [] p1) env)
      standAt p2.atName
      let (f, first) ← holding [ov] (getMethod ov "__init__" (do return (← importBound (.Call (.Name "super" p0) [] [] p1) env).getD true))
      callWith p4 f first (backTo p4 (starEach [.Name x p3, .Name x2 q3] env)) []) := by
  have h : ∀ fm, methodCallPos fm (.Call (.Name "super" p0) [] [] p1) env p2 p4 = pure p4 := fun fm => by
    unfold methodCallPos
    rw [hp]
    simp
  show (do
      let ov ← attributeBase (.Call (.Name "super" p0) [] [] p1) "__init__" env (eval (.Call (.Name "super" p0) [] [] p1) env)
      standAt p2.atName
      let (f, first) ← holding [ov] (calleeOf true (.Call (.Name "super" p0) [] [] p1) env ov "__init__")
      let callPos ← methodCallPos true (.Call (.Name "super" p0) [] [] p1) env p2 p4
      callWith callPos f first (backTo p4 (starEach [.Name x p3, .Name x2 q3] env)) []) = _
  rw [h]
  rfl
def spX2 (C : Addr) (f g : Str) : Sp := fun vs H Q _ => ∃ (a : Addr) (y z : V), vs = [.ref a, y, z] ∧ H a = some (exo a C none) ∧ ∀ dx, H dx = none → dx ≠ a → Q .non (upd (upd H dx (exd dx [(g, z), (f, y)])) a (exo a C (some dx)))
/-- what the text and the linked part say of such a def -/
structure XIn2 (P : Program) (K : PySem.W.Frag) (mg : Str → Option Value) (C fI : Addr) (fd : FuncData) (slf x f x2 g : Str) : Prop where
  ex : ∃ (oc doc pm dV kV ct ccl cl : Value) (od an cdd cld : Option Addr) (osl ccs csl : Array (Option Value)) (cda cc : Addr) (name qual file : Str) (params : Arguments) (scope : Scope) (vs : Array Value) (tf : Tok) (ar : Arg) (p0 p1 p2 p3 p4 p5 p6 p7 p8 p9 q3 q6 q7 q8 q9 : Pos),
    fd = PySem.W.fnX name qual params [.Expr (.Call (.Attribute (.Call (.Name "super" p0) [] [] p1) "__init__" p2) [.Name x p3, .Name x2 q3] [] p4) p5, .Assign [.Attribute (.Name slf p6) f p7] (.Name x p8) p9, .Assign [.Attribute (.Name slf q6) g q7] (.Name x2 q8) q9] scope [("__class__", cc)] dV kV doc pm an (.ref cda) ct ∧
    K.lookup fI = some ⟨oc, od, .func fd, osl⟩ ∧ PySem.W.codeIn K (.ref cda) qual = true ∧ (params.posonlyargs ++ params.args).head? = some ar ∧ ar.arg = slf ∧
    K.lookup cda = some ⟨ccl, cdd, .fields vs, ccs⟩ ∧ vs[2]? = some (.str file tf) ∧ ((P.main.file : Str) == file) = true ∧ K.lookup cc = some ⟨cl, cld, .cell (some (.ref C)), csl⟩ ∧
    scope.names.lookup ("super" : Str) = some .globalImplicit ∧ scope.names.lookup ("__class__" : Str) = some .free ∧ scope.names.lookup slf = some .local ∧ scope.names.lookup x = some .local ∧ scope.names.lookup x2 = some .local ∧ (∀ z ∈ scope.names, z.2 ≠ .cell) ∧ scope.kind = .function ∧ scope.isCoroutine = false ∧ scope.isGenerator = false ∧ (p2.endLine == p4.line) = true
  top : (P.main.scope.names.lookup ("super" : Str)).isSome = false
  sup : mg "super" = none
  self : PySem.W.mroIn K C (.ref C) = some true
  al : PySem.W.ks_superIn K C C "__init__" = some (some (.builtin "ValueError.__init__"))
  ve : PySem.W.subIn K (.ref C) (.type "ValueError") = some true
  any : PySem.W.nsIn K cStatics "thirdparty.any" = some none
  cls : OexC K C
  no : PySem.W.findIn K (.ref C) f = some none
  no2 : PySem.W.findIn K (.ref C) g = some none
  ds : (slf == ("__debug__" : Str)) = false
  dx : (x == ("__debug__" : Str)) = false
  sx : slf ≠ x
  dx2 : (x2 == ("__debug__" : Str)) = false
  sx2 : slf ≠ x2
  xx : x ≠ x2
theorem x_ok2 {P : Program} {w0 : World} {K : PySem.W.Frag} {mg : Str → Option Value} {base : Heap} {CX : CXT} {C fI : Addr} {fd : FuncData} {slf x f x2 g : Str} (T : XIn2 P K mg C fI fd slf x f x2 g) : FnOk P w0 K mg base CX 1 fI fd [slf, x, x2] (spX2 C f g) := by
  obtain ⟨⟨oc, doc, pm, dV, kV, ct, ccl, cl, od, an, cdd, cld, osl, ccs, csl, cda, cc, name, qual, file, params, scope, vs, tf, ar, p0, p1, p2, p3, p4, p5, p6, p7, p8, p9, q3, q6, q7, q8, q9, efd, lk, hcd, har, hars, lcd, hvs, hfile, lcc, ksup, kcls, kslf, kx, kx2, kcell, kk, kco, kgen, kpos⟩, htop, hsup, hself, hal, hve, hany, hcls, hno, hno2, hds, hdx, hsx, hdx2, hsx2, hxx⟩ := T
  subst efd
  refine ⟨fun vs H Q E ⟨a, y, z, e, _⟩ => by rw [e]; rfl, fun A outer s H args us vs' Q E hr e0 hb hv hsp => ?_⟩
  obtain ⟨a, y, z2, rfl, ea, hq⟩ := hsp
  cases hv with
  | @cons _ u0 _ ur ra rest =>
  cases rest with
  | @cons _ u _ ur2 ry rest =>
  cases rest with
  | @cons _ u2 _ ur3 rz rest =>
  cases rest
  obtain rfl : u0 = Value.ref a := ra
  have KX : K.In s.heap := e0.mod.kin.keeps fun b o e => (e0.bs b o e).1
  have lim : s.heap.NoLimit := e0.mod.nolimit.keeps fun b o e => (e0.bs b o e).1
  obtain ⟨t0, hea⟩ := exo_at e0.hok ea
  obtain ⟨cn, cq, NS, b1, b2, sns, sbs, abs, col, dd, j0, j1, j2, j3, j5, hC, hbm⟩ := hcls.cls
  have hcl : PySem.W.clsIn K C = some { name := cn, bases := b1, mro := .ref C :: b2, ns := NS, qualname := cq, hasDict := true, slotNames := sns, subclasses := sbs, abstract := abs, collection := col, hasDel := false } := by unfold PySem.W.clsIn; rw [hC] <;> rfl
  refine ks_codeAny_call_defAt (binds := [(slf, .ref a), (x, u), (x2, u2)]) hr.depth (KX _ _ lk) rfl lim (PySem.W.codeRec_of KX hcd) rfl hb kcell (fun z hz => ?_) (fun h0 hns hk0 => ?_) kco kgen kk
  · rcases List.mem_cons.mp hz with rfl | hz
    · exact kslf
    · rcases List.mem_cons.mp hz with rfl | hz
      · exact kx
      · rcases List.mem_cons.mp hz with rfl | hz
        · exact kx2
        · cases hz
  have X0 : K.In h0 := KX.keeps hk0
  have ns_s : (fun y => ([(slf, Value.ref a), (x, u), (x2, u2)] : List (Str × Value)).reverse.lookup y) slf = some (.ref a) := by
    have h1 : (slf == x) = false := by simpa using hsx
    have h2 : (slf == x2) = false := by simpa using hsx2
    simp [List.lookup, h1, h2]
  have ns_x : (fun y => ([(slf, Value.ref a), (x, u), (x2, u2)] : List (Str × Value)).reverse.lookup y) x = some u := by
    have h1 : (x == x2) = false := by simpa using hxx
    simp [List.lookup, h1]
  have ns_x2 : (fun y => ([(slf, Value.ref a), (x, u), (x2, u2)] : List (Str × Value)).reverse.lookup y) x2 = some u2 := by simp [List.lookup]
  have hea0 := hk0 _ _ hea
  have oC : s.heap.get? C = some _ := KX _ _ hC
  have ne_aC : a ≠ C := fun z => by
    rw [z, oC] at hea
    cases hea
  refine ks_wpAt_execs_cons (ks_wpAt_Expr_any (ks_wpAt_MethodCall ?_ (eval_si2 x x2 _ p0 p1 p2 p3 p4 q3 kpos)) (hi := by show (scope.kind == .module && _) = false; rw [kk]; rfl))
  refine ks_wpAt_super_base ksup kcls (by decide) rfl (X0 _ _ lk) rfl har rfl (X0 _ _ lcd) rfl hvs hfile htop ?_
  obtain ⟨mb, hb1, hb2⟩ := e0.mod.blt
  have bk : ∀ b o, base.get? b = some o → h0.get? b = some o := fun b o e => hk0 _ _ (e0.bs b o e).1
  refine PySem.W.ks_loadName_global kk ksup (Calls.loadGlobal_builtin (e0.mod.glob.keeps bk) hsup (hb1.keeps bk) ((hb2 _ (by decide)).trans PyProof.Rows.Boot.«super») ⟨rfl, ?_⟩)
  refine wpAny_loadName_free kk kcls (c := cc) rfl ⟨_, X0 _ _ lcc, rfl⟩ ?_
  rw [hars]
  refine wpAny_loadName_local kk kslf hns ns_s ?_
  refine ks_wpAny_isType_cls (X0 _ _ hC) rfl ⟨rfl, ?_⟩
  refine ks_wpAny_call_super (X0 _ _ hC) rfl hea0 rfl (fun c z => nomatch z) (PySem.W.looks_mroIn X0 hself) (fun h1 hso hk1 => ?_)
  have X1 : K.In h1 := X0.keeps hk1
  have hea1 := hk1 _ _ hea0
  have inst1 : PySem.W.InstAt h1 a _ C none := ⟨hea1, rfl, rfl, trivial⟩
  have hI : PySem.W.Looks (model P w0) h1 (isInstance (.ref a) (.type "ValueError")) true := inst1.type.andThen (PySem.W.looks_subIn X1 hve)
  have hmro : PySem.W.Looks (model P w0) h1 (mroOf (.ref C)) (.ref C :: b2) := (PySem.W.looks_clsIn X1 hcl).andThen .now
  have hal' : PySem.W.alongIn K "__init__" (((Value.ref C :: b2).dropWhile (· != .ref C)).drop 1) = some (some (.builtin "ValueError.__init__")) := by
    unfold PySem.W.ks_superIn at hal
    rw [hcl] at hal
    exact hal
  refine PySem.W.kxs_getMethod PySem.W.kxs_ValueError hso (PySem.W.looks_opaque X1 hany) hmro rfl X1 hal' hI ne_aC (by decide) ?_
  have hmw : (h1.push (PySem.W.kxs_mw "ValueError.__init__" a)).get? h1.objs.size = some (PySem.W.kxs_mw "ValueError.__init__" a) := Heap.get?_push_at rfl rfl
  have kp2 : ∀ b o, h1.get? b = some o → (h1.push (PySem.W.kxs_mw "ValueError.__init__" a)).get? b = some o := fun b o e => Heap.get?_push_of_some _ e
  have ns2 : (h1.push (PySem.W.kxs_mw "ValueError.__init__" a)).Ns s.heap.objs.size (fun y => ([(slf, Value.ref a), (x, u), (x2, u2)] : List (Str × Value)).reverse.lookup y) := (hns.keeps hk1).keeps kp2
  refine PySem.W.kxs_callWith (i := "ValueError.__init__") (x := a) rfl ?_
  refine Calls.evalArgs_plain (Calls.spliced_cons (wpAny_Name (wpAny_loadName_local kk kx ns2 ns_x (Calls.spliced_cons (wpAny_Name (wpAny_loadName_local kk kx2 ns2 ns_x2 (Calls.spliced_nil ⟨hmw, ?_⟩)) hdx2))) hdx))
  refine call_mwV (X1.keeps kp2 _ _ hC) (kp2 _ _ hea1) hmw (by rw [sizeLine_eq]; show 2 ≤ _; decide) fun h3 t1 hk3 hea3 => ?_
  have lt0 : ∀ {b : Addr} {o : Obj}, s.heap.get? b = some o → b ≠ s.heap.objs.size := fun e => Nat.ne_of_lt (Heap.lt_size e)
  have kall : ∀ b o, b ≠ a → s.heap.get? b = some o → h3.get? b = some o := fun b o hb e => hk3 b o hb (kp2 _ _ (hk1 _ _ (hk0 _ _ e)))
  have ne_aL : s.heap.objs.size ≠ a := fun z => lt0 hea z.symm
  have X3 : K.In h3 := fun b o e => hk3 b o (fun z => by
    have := (e0.bs b o (e0.mod.kin b o e)).2
    rw [z, ea] at this
    cases this) (kp2 _ _ (X1 b o e))
  have ns3 : h3.Ns s.heap.objs.size (fun y => ([(slf, Value.ref a), (x, u), (x2, u2)] : List (Str × Value)).reverse.lookup y) := by
    obtain ⟨ob, es, ep, ho, r⟩ := ns2
    exact ⟨ob, es, ep, hk3 _ _ ne_aL ho, r⟩
  show PySem.wpAt _ _ _ (execs [_, _] _) _ _ _
  refine ks_wpAt_execs_cons (PySem.wpAt_of_wpAny (plainObj_wpAny_Assign_Attribute (wpAny_Name (wpAny_loadName_local kk kx ns3 ns_x (wpAny_Name (wpAny_loadName_local kk kslf ns3 ns_s ?_) hds)) hdx)))
  refine PySem.W.set_plain (ox := { cls := .ref C, dict := none, data := .fields #[.ref t1, .none, .none, .none, .bool false, .none] }) (od := none) X3 ⟨hea3, rfl, rfl, trivial⟩ hcls.sa ?_
  refine PySem.HandSPX.exc_osa X3 hea3 hcl (show PySem.HandSPX.refsVE (.ref C :: b2) = true from hbm) rfl hno (fun h4 tk4 dxa hk4 dn dne hx4 hn4 => ?_)
  have ns4 : h4.Ns s.heap.objs.size (fun y => ([(slf, Value.ref a), (x, u), (x2, u2)] : List (Str × Value)).reverse.lookup y) := by
    obtain ⟨ob, es, ep, ho, r⟩ := ns3
    exact ⟨ob, es, ep, hk4 _ _ ne_aL ho, r⟩
  have X4 : K.In h4 := fun b o e => hk4 b o (fun z => by
    have := (e0.bs b o (e0.mod.kin b o e)).2
    rw [z, ea] at this
    cases this) (X3 b o e)
  show PySem.wpAt _ _ _ (execs [_] _) _ _ _
  refine ks_wpAt_execs_cons (PySem.wpAt_of_wpAny (plainObj_wpAny_Assign_Attribute (wpAny_Name (wpAny_loadName_local kk kx2 ns4 ns_x2 (wpAny_Name (wpAny_loadName_local kk kslf ns4 ns_s ?_) hds)) hdx2)))
  have hw := Within.cons f u Within.nil
  obtain ⟨oD, _, _, hoD, _, _⟩ := hn4.count hw
  refine PySem.W.set_plain (ox := { cls := .ref C, dict := some dxa, data := .fields #[.ref t1, .none, .none, .none, .bool false, .none] }) (od := some oD) X4 ⟨hx4, rfl, rfl, hoD⟩ hcls.sa ?_
  refine PySem.OEX.osa_old X4 hx4 hn4 hw (by show 1 ≤ 1000; decide) hcl (show PySem.HandSPX.refsVE (.ref C :: b2) = true from hbm) rfl hno2 (fun h5 tk5 hk5 hn5 => ?_)
  refine PySem.wpAt_of_wpAny (wpAny_execs_nil ?_)
  have hx5 := hk5 _ _ (Ne.symm dne) hx4
  have szL : s.heap.objs.size < h3.objs.size := by
    obtain ⟨ob, _, _, ho, _⟩ := ns3
    exact Heap.lt_size ho
  have hnd : H dxa = none := e0.hok.fresh (Nat.le_trans (Nat.le_of_lt szL) dn)
  have ndx : ∀ {b : Addr} {o : Obj}, s.heap.get? b = some o → b ≠ dxa := fun {b o} e => Nat.ne_of_lt (Nat.lt_of_lt_of_le (Nat.lt_trans (Heap.lt_size e) szL) dn)
  have kfin : ∀ b o, b ≠ a → s.heap.get? b = some o → h5.get? b = some o := fun b o hb e => hk5 b o (ndx e) (hk4 b o hb (kall b o hb e))
  have na : ∀ {b : Addr}, H b = none → b ≠ a := fun {b} n z => by
    rw [z, ea] at n
    cases n
  refine ⟨.non, upd (upd H dxa (exd dxa [(g, z2), (f, y)])) a (exo a C (some dxa)), rfl, e0.bare, ?_, ?_, rfl, hq dxa hnd dne⟩
  · exact {
      keep := fun b o e n _ _ => kfin b o (na n) e
      slot := fun b o e n _ _ => ⟨o.slots, kfin b o (na n) e⟩
      free := fun b o e n _ => by rw [upd_ne (na n), upd_ne (ndx e)]; exact n
      there := fun b o e _ => by
        by_cases hb : b = a
        · exact ⟨_, by rw [hb]; exact hx5⟩
        · exact ⟨o, kfin b o hb e⟩
      tups := fun b xs e => by rw [upd_ne (at_ne ea e exo_tup), upd_ne (ne_of_none e hnd)]; exact e
      frzs := fun b o v e => by rw [upd_ne (at_ne ea e exo_frz), upd_ne (ne_of_none e hnd)]; exact e
      tbls := fun b ps e => ⟨#[], by rw [upd_ne (at_ne ea e exo_tbl), upd_ne (ne_of_none e hnd), e]; simp⟩ }
  · intro b o e
    by_cases hb : b = a
    · subst hb
      rw [upd_same] at e
      cases e
      exact exo_ok hx5
    · rw [upd_ne hb] at e
      by_cases hd : b = dxa
      · subst hd
        rw [upd_same] at e
        cases e
        exact exd_ok hn5 (relO_put (fs := [(f, y)]) rz (relO_put (fs := []) ry fun g => True.intro))
      · rw [upd_ne hd] at e
        refine (e0.hok b o e).stay (fun c v hc z => kfin c v ?_ z) (fun c hc => ?_) (fun c xs hc => ?_)
        · rcases hc with hc | hc
          · rw [hc]; exact hb
          · exact at_ne ea hc exo_own
        · rw [upd_ne (at_ne ea hc exo_own), upd_ne (ne_of_none hc hnd)]; exact hc
        · rw [upd_ne (at_ne ea hc exo_tup), upd_ne (ne_of_none hc hnd)]; exact hc
/-! ### raise C(e, e') -/
def sRaise2 (c : String) (f g : Nm) (fa : DA) : DStm := fun s => (fa s).bind fun ds s1 => match ds with
  | [d, d2] => .exc ⟨c, [(g, d2), (f, d)]⟩ s1
  | _ => .stuck
section
variable {G : Gam} {W : WX} {X : Cx}
theorem pds_raise2 {c : String} {C fI : Addr} {fd : FuncData} {slf xp f xp2 g x : Str} {fn gn : Nm} {e e2 : Expr} {fa : DA} {p pos pos' : Pos} (hc : X.calm = true) (tk : Takes X W) (T : XCls G X.K c C fI) (T2 : XIn2 X.prog X.K X.mg C fI fd slf xp f xp2 g) (hf : f = nm fn) (hg2 : g = nm gn) (hb : Binds X.K fd [slf, xp, xp2] [])
    (hr : Room 2 X.A) (hg : Gl X x) (hm : X.mg x = some (.ref C)) (ha : PDA G W X [e, e2] fa) (hdb : (x == ("__debug__" : Str)) = false := by decide) (he : starEach [e, e2] X.env = (false, eval e X.env) :: starEach [e2] X.env := by rfl) (hpl : (backTo pos (starEach [e2] X.env)).any (·.1) = false := by rfl) :
    PDS G W X (.Raise (some (.Call (.Name x p) [e, e2] [] pos)) none pos') (sRaise2 c fn gn fa) :=
  (ps_raise hc tk (pmk_oex (CX := L2.CX X.prog X.w) T.cls T.ini T.ty (x_ok2 T2) hr hb .nil (passes_call tk fun _ _ _ _ z => z.elim) hg hm ha hdb he hpl)).imp fun N σ H ⟨κ, w, s, ok, q⟩ => ⟨κ, w, s, ok, (PostG.bindS q).imp fun vs H1 ⟨ds, s1, w1, le, ok1, rs, q1⟩ => by
    match ds, q1 with
    | [d, d2], q1 =>
      cases rs with
      | @cons v _ vs' _ r rs =>
      cases rs with
      | @cons v2 _ vs2 _ r2 rs =>
      cases rs
      refine ⟨by show 2 ≤ 1000; decide, fun a ha => ⟨a, v, v2, rfl, upd_same, fun dx h1 h2 => ⟨rfl, dx, [(g, v2), (f, v)], ?_, ?_, ?_, ?_⟩⟩⟩
      · exact upd_same
      · rw [upd_ne h2, upd_same]
      · rw [upd_ne h2] at h1; exact h1
      · rw [upd_ne h2] at h1
        have eH : upd (del (upd (upd (upd H1 a (exo a C none)) dx (exd dx [(g, v2), (f, v)])) a (exo a C (some dx))) a) dx (.xd [(g, v2), (f, v)]) = upd H1 dx (.xd [(g, v2), (f, v)]) := by
          funext b
          by_cases hb : b = dx
          · rw [hb, upd_same, upd_same]
          · rw [upd_ne hb, upd_ne hb]
            by_cases hba : b = a
            · rw [hba, del_same, ha]
            · rw [del_ne hba, upd_ne hba, upd_ne hb, upd_ne hba]
        rw [eH]
        obtain ⟨le2, ok2⟩ := ok1.alloc h1 (.xd [(g, v2), (f, v)])
        exact q1 _ σ (.ref C) (some dx) _ le2 ok2 ⟨C, T.ct, rfl, .inr ⟨dx, [(g, v2), (f, v)], rfl, upd_same, by subst hf; subst hg2; exact .cons (r2.mono le2) (.cons (r.mono le2) .nil)⟩⟩
    | [], q1 => exact q1.elim
    | [_], q1 => exact q1.elim
    | _ :: _ :: _ :: _, q1 => exact q1.elim⟩
end
/-- the text of an own error's __init__ -/
def XSh2 (st : Stmt) (slf x f x2 g : Str) : Prop := ∃ (ar : Arg) (p0 p1 p2 p3 p4 p5 p6 p7 p8 p9 q3 q6 q7 q8 q9 : Pos),
  defBody st = [.Expr (.Call (.Attribute (.Call (.Name "super" p0) [] [] p1) "__init__" p2) [.Name x p3, .Name x2 q3] [] p4) p5, .Assign [.Attribute (.Name slf p6) f p7] (.Name x p8) p9, .Assign [.Attribute (.Name slf q6) g q7] (.Name x2 q8) q9] ∧
  ((defArgs st).posonlyargs ++ (defArgs st).args).head? = some ar ∧ ar.arg = slf ∧
  (defScope st).names.lookup ("super" : Str) = some .globalImplicit ∧ (defScope st).names.lookup ("__class__" : Str) = some .free ∧ (defScope st).names.lookup slf = some .local ∧ (defScope st).names.lookup x = some .local ∧ (defScope st).names.lookup x2 = some .local ∧ (∀ z ∈ (defScope st).names, z.2 ≠ .cell) ∧
  (defScope st).kind = .function ∧ (defScope st).isCoroutine = false ∧ (defScope st).isGenerator = false ∧ (p2.endLine == p4.line) = true
structure XFacts2 (P : Program) (G : Gam) (mg : Str → Option Value) (c : String) (C fI : Addr) (fd : FuncData) (slf x f x2 g : Str) : Prop where
  T : XCls G G.K c C fI
  I : XIn2 P G.K mg C fI fd slf x f x2 g
  F : XfC G.K C
  B : Binds G.K fd [slf, x, x2] []
theorem xfacts2_of {P : Program} {G : Gam} {mg : Str → Option Value} {c : String} {C fI NS cda cc : Addr} {st : Stmt} {slf x f x2 g nm q name qual file : Str} {bs bm sub : List Value} {sn : List Str} {ab : Bool} {col : Option Bool} {dd : Option Addr} {k0 k1 k2 k3 k5 : Option Value}
    {oc dV kV doc pm ct ccl cl : Value} {od an cdd cld : Option Addr} {osl ccs csl : Array (Option Value)} {vs : Array Value} {tf : Tok}
    (hct : G.ct c = some C) (xl : G.K.lookup C = some (excClassObj nm q C NS bs bm true sn sub ab col dd k0 k1 k2 k3 k5 "ValueError.__new__")) (xr : PySem.HandSPX.refsVE bm = true) (xi : PySem.W.findIn G.K (.ref C) "__init__" = some (some (.ref fI)))
    (xf : G.K.lookup fI = some ⟨oc, od, .func (PySem.W.fnX name qual (defArgs st) (defBody st) (defScope st) [("__class__", cc)] dV kV doc pm an (.ref cda) ct), osl⟩) (xc : PySem.W.codeIn G.K (.ref cda) qual = true) (xd : G.K.lookup cda = some ⟨ccl, cdd, .fields vs, ccs⟩) (xv : vs[2]? = some (.str file tf))
    (xe : ((P.main.file : Str) == file) = true) (xk : G.K.lookup cc = some ⟨cl, cld, .cell (some (.ref C)), csl⟩) (xB : xcB G.K C fI f = true) (xB2 : PySem.W.findIn G.K (.ref C) g = some none) (xt : (P.main.scope.names.lookup ("super" : Str)).isSome = false) (xs : mg "super" = none) (sh : XSh2 st slf x f x2 g)
    (d1 : (slf == ("__debug__" : Str)) = false) (d2 : (x == ("__debug__" : Str)) = false) (d3 : slf ≠ x) (d4 : (x2 == ("__debug__" : Str)) = false) (d5 : slf ≠ x2) (d6 : x ≠ x2) (hb : ∀ us : List Value, us.length = 3 → bindArgs (PySem.W.fnX name qual (defArgs st) (defBody st) (defScope st) [("__class__", cc)] dV kV doc pm an (.ref cda) ct) ⟨us, []⟩ = pure ([slf, x, x2].zip us)) :
    XFacts2 P G mg c C fI (PySem.W.fnX name qual (defArgs st) (defBody st) (defScope st) [("__class__", cc)] dV kV doc pm an (.ref cda) ct) slf x f x2 g := by
  unfold xcB at xB
  simp only [Bool.and_eq_true, beq_iff_eq] at xB
  obtain ⟨b1, b2, b3, b4, b5, b6, b7, b8, b9, b10, b11⟩ := xB
  obtain ⟨ar, p0, p1, p2, p3, p4, p5, p6, p7, p8, p9, q3, q6, q7, q8, q9, s1, s2, s3, s4, s5, s6, s7, s72, s8, s9, s10, s11, s12⟩ := sh
  have oex : OexC G.K C := ⟨⟨nm, q, NS, bs, bm, sn, sub, ab, col, dd, k0, k1, k2, k3, k5, xl, xr⟩, b1, b2, b3, b4⟩
  refine ⟨⟨hct, xi, b5, oex⟩, ⟨⟨oc, doc, pm, dV, kV, ct, ccl, cl, od, an, cdd, cld, osl, ccs, csl, cda, cc, name, qual, file, defArgs st, defScope st, vs, tf, ar, p0, p1, p2, p3, p4, p5, p6, p7, p8, p9, q3, q6, q7, q8, q9, by rw [s1], xf, xc, s2, s3, xd, xv, xe, xk, s4, s5, s6, s7, s72, s8, s9, s10, s11, s12⟩, xt, xs, b6, b7, b8, b9, oex, b10, xB2, d1, d2, d3, d4, d5, d6⟩, xfB_ok b11, .all hb⟩
end DL
set_option maxRecDepth 100000
set_option maxHeartbeats 4000000
set_option autoImplicit false
namespace DL
open PySem PySem.Spec PyProof.Rows L2
/-! ### defs as values; a call of a variable that holds one of some defs -/
abbrev FTb := List (String × Nat × DFn)
def eCallF (tb : FTb) (i : Nat) (fa : DA) : DE := fun s => match s.sl[i]? with
  | some (.val (.fn c)) => match tb.lookup c with
    | some (n, g) => (fa s).bind fun ds s1 => if ds.length = n then lift s1 (g ds s1.st) else .stuck
    | none => .stuck
  | _ => .stuck
def FnsOk (G : Gam) (X : Cx) (tb : FTb) : Prop := ∀ c n g a, tb.lookup c = some (n, g) → G.ft c = some a → ∃ (k : Nat) (fd : FuncData) (ps : List Str), FnOk X.prog X.w X.K X.mg X.base (L2.CX X.prog X.w) k a fd ps (spG G n g) ∧ Room k X.A ∧ PySem.W.keepIn X.K (.ref a) = true ∧ Binds X.K fd ps []
section
variable {G : Gam} {W : WX} {X : Cx}
theorem fnsOk_nil : FnsOk G X [] := fun _ _ _ _ e => by simp at e
theorem fnsOk_cons {c : String} {a : Addr} {k n : Nat} {g : DFn} {fd : FuncData} {ps : List Str} {tb : FTb} (hc : G.ft c = some a) (F : FnOk X.prog X.w X.K X.mg X.base (L2.CX X.prog X.w) k a fd ps (spG G n g)) (hr : Room k X.A) (hk : PySem.W.keepIn X.K (.ref a) = true) (hb : Binds X.K fd ps [])
    (r : FnsOk G X tb) : FnsOk G X ((c, n, g) :: tb) := fun c' n' g' a' e1 e2 => by
  rw [List.lookup_cons] at e1
  by_cases h : (c' == c) = true
  · rw [h] at e1
    cases e1
    obtain rfl : c' = c := by simpa using h
    rw [hc] at e2
    cases e2
    exact ⟨k, fd, ps, F, hr, hk, hb⟩
  · rw [Bool.not_eq_true] at h
    rw [h] at e1
    exact r _ _ _ _ e1 e2
theorem pd_fnv {x : Str} {c : String} {a : Addr} {pos : Pos} (hg : Gl X x) (hm : X.mg x = some (.ref a)) (hc : G.ft c = some a) (hd : (x == ("__debug__" : Str)) = false := by decide) : PD G W X (.Name x pos) (eC (.fn c)) :=
  pd_c (pe_glob (v := .ref a) hg hm rfl hd) fun _ => .fn hc
theorem pd_callF {i : Nat} {tb : FTb} {x : Str} {p pos : Pos} {e : Expr} {es : List Expr} {fa : DA} (T : FnsOk G X tb) (hv : PE X (.Name x p) (tVar i)) (tk : Takes X W) (ha : PDA G W X (e :: es) fa)
    (he : starEach (e :: es) X.env = (false, eval e X.env) :: starEach es X.env := by rfl) (hpl : (backTo pos (starEach es X.env)).any (·.1) = false := by rfl) : PD G W X (.Call (.Name x p) (e :: es) [] pos) (eCallF tb i fa) := by
  refine ⟨fun pins s σ H Q I h => ?_⟩
  obtain ⟨κ, w, ds, ok, q⟩ := h
  unfold eCallF at q
  split at q
  case h_2 => exact q.elim
  case h_1 c hs =>
  split at q
  case h_2 => exact q.elim
  case h_1 n g ht =>
  obtain ⟨v, h1, h2⟩ := ok.val i _ hs
  cases h2 with
  | @fn a _ hc =>
  obtain ⟨k, fd, ps, F, hr, hk, hb⟩ := T _ _ _ _ ht hc
  refine wpAny_Call_Name_kw (thn (hv.run pins s σ H (fun v H1 => v = .ref a ∧ H1 = H) I ⟨.ref a, h1, rfl, rfl⟩) fun u s0 ⟨v, H0, I0, r0, q0⟩ => ?_)
  obtain ⟨rfl, rfl⟩ := q0
  cases r0
  have hh : tDA G W fa σ H0 fun vs H1 => ∃ d s1 w1, w.le w1 ∧ Ok G κ w1 s1 σ H1 ∧ Reps G w1 vs d ∧ PostG G W (Rep G) κ w1 σ (if d.length = n then lift s1 (g d s1.st) else .stuck) Q := ⟨κ, w, ds, ok, PostG.bind q⟩
  refine PySem.W.callWith_K (h₀ := X.base) I0.ok.mod.kin hk (thn (ha.run pos pins s0 σ H0 _ I0 hh) fun us s1 ⟨vs, H1, I1, r, d, s2, w1, le, ok1, rs, q1⟩ => ⟨I1.kIn, ?_⟩) he hpl
  by_cases c : d.length = n
  · rw [if_pos c] at q1
    exact callD F hr hb tk I1 ok1 rs r c q1
  · rw [if_neg c] at q1
    exact q1.elim
end
end DL
set_option maxRecDepth 100000
set_option maxHeartbeats 4000000
set_option autoImplicit false
namespace DL
open PySem PySem.Spec PyProof.Rows L2
/-! ### an own class made by keywords alone, told in the opposite order of its parameters -/
section
variable {G : Gam} {W : WX} {X : Cx}
theorem makeKD {c : String} {n k : Nat} {g : DIn} {C f : Addr} {fd : FuncData} {ps : List Str} {pins : List (Addr × Obj)} {sh : Shared} {κ : Bs} {w : Wd} {s : DS} {σ : L2.St} {H : Hp} {vs : List V} {ds : List D} {us : List Value} {Q : VK} (M : Mk X.K C f) (hC : G.ct c = some C)
    (F : FnOk X.prog X.w X.K X.mg X.base (L2.CX X.prog X.w) k f fd ps (spI G c n g)) (hr : Room (k + 1) X.A) {kw : List (Str × Value)} (hb : ∀ (s : Shared) (a : Value), X.K.In s.heap → BindsTo s fd ⟨[a], kw⟩ (ps.zip (a :: us))) (tk : Takes X W) (I : Inv X pins σ H sh) (ok : Ok G κ w s σ H) (rs : Reps G w vs ds) (r : Vals vs us) (hn : ds.length = n)
    (q : PostG G W (Rep G) κ w σ ((lift s (g ds s.st)).bind fun fs s1 => .ok (.ins c fs) s1) Q) : wpAny (model X.prog X.w) X.A (call (.ref C) [] kw) (EP X pins σ Q) X.xe sh := by
  have key : ∀ x dx, H x = none → H dx = none → dx ≠ x → spI G c n g (.ref x :: (vs ++ [])) (upd (upd H dx (.own x)) x (.ins C dx [])) (fun v H2 => v = .non ∧ Q (.ref x) H2) (WE W σ) := fun x dx nx ndx ne => by
    have o1 := ok.fresh ndx (.own x)
    have nx1 : upd H dx (.own x) x = none := by rw [upd_ne (Ne.symm ne)]; exact nx
    have o2 := o1.fresh nx1 (.ins C dx [])
    obtain ⟨g1, g2, g3, g4, g5⟩ := o2.gam (x, .ins C dx []) List.mem_cons_self
    have kx : ∀ a o, H a = some o → erase (upd (upd H dx (.own x)) x (.ins C dx [])) x a = some o := fun a o e => by
      have h1 : a ≠ x := ne_of_none e nx
      have h2 : a ≠ dx := ne_of_none e ndx
      show (if a = x then none else _) = some o
      rw [if_neg h1, upd_ne h1, upd_ne h2]
      exact e
    have bk : ∀ a, erase (upd (upd H dx (.own x)) x (.ins C dx [])) x a = none → H a = none := fun a e => by
      cases e2 : H a with
      | none => rfl
      | some o => rw [kx a o e2] at e; cases e
    refine ⟨by rw [List.append_nil, List.length_cons, rs.length, hn], w, s.st, ds, x, vs, C, dx, by rw [List.append_nil], hC, g1, o2.fok, g2, g3, rs, ?_⟩
    cases e : g ds s.st with
    | stuck => rw [e] at q; exact q.elim
    | exc x' S' =>
      rw [e] at q
      exact fun w' cc dd H' nn f' r => q w' cc dd H' nn.le (ok.step ⟨nn.le, fun a o e1 e2 => nn.keep a o (kx a o e1) e2, fun a h => (nn.newF a h).imp_right (bk a), fun a h => (nn.newR a h).imp_right (bk a)⟩ f') r
    | ok fs S' =>
      rw [e] at q
      intro w' H' vfs dx' nn f' hx rf hF hR
      refine ⟨rfl, ?_⟩
      have N1 : Nx w H w' H' := ⟨nn.le, fun a o e1 e2 => nn.keep a o (kx a o e1) e2, fun a h => (nn.newF a h).imp_right (bk a), fun a h => (nn.newR a h).imp_right (bk a)⟩
      have o3 : Ok G (κ.plus x (.ins C dx' vfs)) w' ⟨s.sl, S'⟩ σ H' := by
        have o3 := ok.step N1 f'
        refine ⟨o3.fok, o3.nx, o3.len, o3.val, o3.own, o3.ne, fun p hp => ?_, o3.me⟩
        rcases List.mem_cons.mp hp with rfl | hp
        · exact ⟨hx, hF, hR, g4, g5⟩
        · exact o3.gam p hp
      obtain ⟨le, o4⟩ := o3.frz fun p hp => ne_of_none (ok.gam p hp).1 nx
      exact q _ _ _ (nn.le.trans le) o4 (.ins hC upd_same (rf.mono le))
  have hx : PassesAt (L2.CX X.prog X.w) X σ (WE W σ) := passAt tk σ
  have hq := key (sh.heap.objs.size + 1) sh.heap.objs.size (I.hok.fresh (Nat.le_succ _)) (I.hok.fresh (Nat.le_refl _)) (Nat.ne_of_lt (Nat.lt_succ_self _))
  have I2 := Inv.made (C := C) I
  have r2 : Vals (V.ref (sh.heap.objs.size + 1) :: (vs ++ [])) (Value.ref (sh.heap.objs.size + 1) :: (us ++ [])) := .cons rfl (r.append .nil)
  refine wpAny_call (make_map (f := f) I.kIn M.makes M.init (beq_iff_eq.mp M.fn) (codeAny_mono (F.run _ X.stack _ _ ⟨[Value.ref (sh.heap.objs.size + 1)], kw⟩ (Value.ref (sh.heap.objs.size + 1) :: (us ++ [])) _ _ (WE W σ) (hr.make C [] kw)
    (I2.env0.make C [] kw) (by rw [List.append_nil]; exact hb _ _ I2.kIn) r2 hq) fun r s' hq' => ?_))
  cases r with
  | error e => exact hx pins _ _ e s' I2 hq'
  | ok fl =>
    cases fl with
    | ret u =>
      obtain ⟨v, H', I3, rv, ev, q3⟩ := I2.after hq'
      subst ev
      exact ⟨rv, ⟨V.ref (sh.heap.objs.size + 1), H', I3, rfl, q3⟩⟩
    | next => exact False.elim hq'
    | brk => exact False.elim hq'
    | cont => exact False.elim hq'
theorem PK.imp {kws : List Keyword} {t t' : TA} (h : PK X kws t) (k : ∀ σ H Q, t' σ H Q → t σ H Q) : PK X kws t' := ⟨fun pos pins s σ H Q I q => h.run pos pins s σ H Q I (k σ H Q q)⟩
theorem pkd_nil : PK X [] (tDA G W aNil) := PK.imp pk_nil fun σ H Q ⟨κ, w, s, ok, q⟩ => q w [] H (.refl _) ok .nil
theorem pkd_cons {nm : Option Str} {kpos : Pos} {e : Expr} {kws : List Keyword} {f : DE} {g : DA} (h : PD G W X e f) (k : PK X kws (tDA G W g)) : PK X (⟨nm, e, kpos⟩ :: kws) (tDA G W (aCons f g)) :=
  PK.imp (pk_cons h k) fun σ H Q ⟨κ, w, s, ok, q⟩ => ⟨κ, w, s, ok, (PostG.bind q).imp fun v H1 ⟨d, s1, w1, le, ok1, r1, q1⟩ =>
    ⟨κ, w1, s1, ok1, (PostG.bind q1).imp fun v2 H2 ⟨d2, s2, w2, le2, ok2, r2, q2⟩ => q2 w2 _ H2 (.refl _) ok2 (.cons (r1.mono le2) r2)⟩⟩
theorem Reps.snoc {w : Wd} {v : V} {d : D} (r : Rep G w v d) : ∀ {vs : List V} {ds : List D}, Reps G w vs ds → Reps G w (vs ++ [v]) (ds ++ [d])
  | _, _, .nil => .cons r .nil
  | _, _, .cons a b => .cons a (Reps.snoc r b)
theorem Reps.rev {w : Wd} : ∀ {vs : List V} {ds : List D}, Reps G w vs ds → Reps G w vs.reverse ds.reverse
  | _, _, .nil => .nil
  | _, _, .cons a b => by
    rw [List.reverse_cons, List.reverse_cons]
    exact Reps.snoc a (Reps.rev b)
theorem vals_rev {vs : List V} {us : List Value} (h : Vals vs us) : Vals vs.reverse us.reverse := by
  induction h with
  | nil => exact .nil
  | cons a b ih =>
    rw [List.reverse_cons, List.reverse_cons]
    exact ih.append (.cons a .nil)
/-- C(k = v, ..), the keywords in the opposite order of the parameters -/
def eMakeK (c : String) (n : Nat) (g : DIn) (fa : DA) : DE := fun s => (fa s).bind fun ds s1 => if ds.length = n then (lift s1 (g ds.reverse s1.st)).bind fun fs s2 => .ok (.ins c fs) s2 else .stuck
theorem pd_makeK {c : String} {n k : Nat} {g : DIn} {C f : Addr} {fd : FuncData} {ps ks : List Str} {x : Str} {p pos : Pos} {kws : List Keyword} {fa : DA} (M : Mk X.K C f) (hC : G.ct c = some C) (F : FnOk X.prog X.w X.K X.mg X.base (L2.CX X.prog X.w) k f fd ps (spI G c n g)) (hr : Room (k + 1) X.A) (hg : Gl X x)
    (hm : X.mg x = some (.ref C)) (hb : ∀ (a : Value) (ws : List Value), ws.length = n → bindArgs fd ⟨[a], ks.zip ws⟩ = pure (ps.zip (a :: ws.reverse))) (tk : Takes X W) (hkw : PK X kws (tDA G W fa))
    (hall : (backToKw pos (keywordEach kws X.env)).all (·.1.isSome) = true := by rfl) (hks : (backToKw pos (keywordEach kws X.env)).filterMap (·.1) = ks := by rfl) (hdb : (x == ("__debug__" : Str)) = false := by decide)
    (hpl : ((backTo pos (starEach [] X.env)).any (·.1) || (backToKw pos (keywordEach kws X.env)).any (·.1.isNone)) = false := by rfl) : PD G W X (.Call (.Name x p) [] kws pos) (eMakeK c n g fa) := by
  refine ⟨fun pins s σ H Q I h => ?_⟩
  obtain ⟨κ, w, ds, ok, q⟩ := h
  refine wpAny_Call_Name_kw (ld_glob I hg hm ?_ hdb)
  have hh : tDA G W fa σ H fun vs H1 => ∃ d s1 w1, w.le w1 ∧ Ok G κ w1 s1 σ H1 ∧ Reps G w1 vs d ∧ PostG G W (Rep G) κ w1 σ (if d.length = n then (lift s1 (g d.reverse s1.st)).bind fun fs s2 => .ok (.ins c fs) s2 else .stuck) Q := ⟨κ, w, ds, ok, PostG.bind q⟩
  refine PySem.W.callWith_KW0 (h₀ := X.base) I.ok.mod.kin M.kp hall ?_ hpl
  refine thn (hkw.run pos pins s σ H _ I hh) fun ws s1 ⟨vs, H1, I1, r, d, s2, w1, le, ok1, rs, q1⟩ => ⟨I1.kIn, ?_⟩
  rw [hks]
  by_cases c : d.length = n
  · rw [if_pos c] at q1
    have hw : ws.length = n := by rw [← r.length, rs.length]; exact c
    exact makeKD M hC F hr (us := ws.reverse) (kw := ks.zip ws) (fun s a _ => BindsTo.of_looks fun M => .of_pure (hb a ws hw)) tk I1 ok1 rs.rev (vals_rev r) (by rw [List.length_reverse]; exact c) q1
  · rw [if_neg c] at q1
    exact q1.elim
theorem kwb_of {K : PySem.W.Frag} {x qual : Str} {st : Stmt} {f : Addr} {fd : FuncData} (F : Fun K x qual st f fd) {ks ps : List Str} {n : Nat} (h : ∀ (kV doc pm : Value) (an : Option Addr) (cdv ct a : Value) (ws : List Value), ws.length = n → bindArgs (PySem.W.fnOf x qual (defArgs st) (defBody st) (defScope st) .none kV doc pm an cdv ct) ⟨[a], ks.zip ws⟩ = pure (ps.zip (a :: ws.reverse))) : ∀ (a : Value) (ws : List Value), ws.length = n → bindArgs fd ⟨[a], ks.zip ws⟩ = pure (ps.zip (a :: ws.reverse)) := fun a ws hw => by
  obtain ⟨oc, od, kV, doc, pm, an, cdv, ct, osl, rfl, lk, hcd⟩ := F.ex
  exact h _ _ _ _ _ _ a ws hw
end
end DL
set_option maxRecDepth 100000
set_option maxHeartbeats 4000000
set_option autoImplicit false
namespace L2
open PySem PySem.Spec PyProof.Rows
/-! ### isinstance(e, C) of the caught one -/
structure XiC (K : PySem.W.Frag) (C : Addr) : Prop where
  cl : (PySem.W.clsIn K C).isSome = true
  ga : PySem.W.findIn K (.ref C) "__getattribute__" = some (some (.builtin "BaseException.__getattribute__"))
  gg : PySem.W.findIn K (.ref C) "__getattr__" = some none
  exC : PySem.W.subIn K (.ref C) (.type "BaseException") = some true
  ca : PySem.W.findIn K (.ref C) "__class__" = some (some (.builtin "object.__class__"))
  hn : PySem.W.specialIn K (.builtin "object.__class__") "__get__" = some (some (.builtin "getset_descriptor.__get__"))
  tk : PySem.W.takesIn K (.builtin "object.__class__") = some true
  mo : PySem.W.mroIn K C (.type "object") = some true
def xiB (K : PySem.W.Frag) (C : Addr) : Bool := (PySem.W.clsIn K C).isSome && (decide (PySem.W.findIn K (.ref C) "__getattribute__" = some (some (.builtin "BaseException.__getattribute__"))) && (decide (PySem.W.findIn K (.ref C) "__getattr__" = some none) && (decide (PySem.W.subIn K (.ref C) (.type "BaseException") = some true) && (decide (PySem.W.findIn K (.ref C) "__class__" = some (some (.builtin "object.__class__"))) && (decide (PySem.W.specialIn K (.builtin "object.__class__") "__get__" = some (some (.builtin "getset_descriptor.__get__"))) && (decide (PySem.W.takesIn K (.builtin "object.__class__") = some true) && decide (PySem.W.mroIn K C (.type "object") = some true)))))))
theorem xiB_ok {K : PySem.W.Frag} {C : Addr} (h : xiB K C = true) : XiC K C := by
  obtain ⟨h0, h⟩ := Bool.and_eq_true_iff.mp h
  obtain ⟨h1, h⟩ := Bool.and_eq_true_iff.mp h
  obtain ⟨h2, h⟩ := Bool.and_eq_true_iff.mp h
  obtain ⟨h3, h⟩ := Bool.and_eq_true_iff.mp h
  obtain ⟨h4, h⟩ := Bool.and_eq_true_iff.mp h
  obtain ⟨h5, h⟩ := Bool.and_eq_true_iff.mp h
  obtain ⟨h6, h7⟩ := Bool.and_eq_true_iff.mp h
  exact ⟨h0, of_decide_eq_true h1, of_decide_eq_true h2, of_decide_eq_true h3, of_decide_eq_true h4, of_decide_eq_true h5, of_decide_eq_true h6, of_decide_eq_true h7⟩
def tXi (a : Addr) (cls : Value) (d : Option Addr) (C : Addr) (c : V) (te : TA) : TE := fun σ H Q => te σ H fun xs H1 => xs = [.ref a, c] ∧ cls = .ref C ∧ (d = none ∨ ∃ (dd : Addr) (fs : List (Str × V)), d = some dd ∧ H1 dd = some (.xd fs)) ∧ Q (.bl true) H1
theorem pe_xi {X : Cx} {a C Cw : Addr} {oe : Obj} {cls : Value} {d : Option Addr} {pn : List (Addr × Obj)} {e ec : Expr} {te : TA} {p pos : Pos} (T : XiC X.K C) (hk : PySem.W.kitOne X.K (.ref C) (.ref Cw) = some true)
    (hz : Zc cls d oe) (hf : ∃ vs, oe.data = .fields vs) (hg : Gl X "isinstance") (hm : X.mg "isinstance" = none) (ha : PA (X.suite a ((a, oe) :: pn)) [e, ec] te)
    (he : starEach [e, ec] X.env = (false, eval e X.env) :: starEach [ec] X.env := by rfl) (hpl : (backTo pos (starEach [ec] X.env)).any (·.1) = false := by rfl) :
    PE (X.suite a ((a, oe) :: pn)) (.Call (.Name "isinstance" p) [e, ec] [] pos) (tXi a cls d C (.ref Cw) te) := by
  refine ⟨fun pins s σ H Q I h => ?_⟩
  refine wpAny_Call_Name_kw (ld_blt (X := X.suite a ((a, oe) :: pn)) I hg hm (by rfl) ?_ (by decide) (by decide))
  refine PyProof.Rows.callWith_builtin1 (thn (ha.run pos pins s σ H _ I h) fun us s1 hh => ?_) he hpl
  obtain ⟨xs, H1, I1, rx, ex, ec', hd, q⟩ := hh
  subst ex
  subst ec'
  cases rx with
  | cons r1 rs =>
    cases rs with
    | cons r2 rs2 =>
      cases rs2
      obtain rfl := r1
      obtain rfl := r2
      obtain ⟨ha', _⟩ := I1.pin (a, oe) (List.mem_append_left _ List.mem_cons_self)
      obtain ⟨vs, hdd⟩ := hf
      have fin : ∀ od, PySem.W.InstAt s1.heap a oe C od → wpAny (model X.prog X.w) (X.suite a ((a, oe) :: pn)).A (call (.builtin "isinstance") [Value.ref a, Value.ref Cw]) (EP (X.suite a ((a, oe) :: pn)) pins σ Q) (X.suite a ((a, oe) :: pn)).xe s1 := fun od J =>
        PySem.W.kia_one (PySem.W.kitx_exc T.cl T.ga T.gg T.exC T.ca T.hn T.tk T.mo) I1.kIn J hk (fun z => nomatch z) fun tk => ⟨.bl true, H1, I1.tok tk, rfl, q⟩
      rcases hd with hd | ⟨dd, fs, hd, ea⟩
      · exact fin none ⟨ha', hz.1, by unfold PySem.W.notCls; rw [hdd] <;> rfl, by rw [hz.2, hd]; exact trivial⟩
      · have hx : ObjOk X.prog X.w H1 s1.heap dd (.xd fs) := I1.hok dd _ ea
        obtain ⟨mA, hns, hr⟩ := hx
        obtain ⟨od, ho, hl⟩ := lookIn_ns hns
        exact fin (some od) ⟨ha', hz.1, by unfold PySem.W.notCls; rw [hdd] <;> rfl, by rw [hz.2, hd]; exact ho⟩
end L2
namespace DL
open PySem PySem.Spec PyProof.Rows L2
section
variable {G : Gam} {X : Cx} {oi : Option Nat} {a : Addr} {cl : Value} {dd : Option Addr} {x : Xc}
/-- f, if the caught one is of the class c (whose isinstance is told) -/
def eXi (c : String) (x : Xc) (f : DE) : DE := fun s => if x.cls = c then f s else .stuck
@[simp] theorem r_eXi (c : String) (x : Xc) (f : DE) (s : DS) : eXi c x f s = if x.cls = c then f s else .stuck := rfl
theorem pxd_isi {i : Nat} {C Cw : Addr} {ob : Obj} {pn : List (Addr × Obj)} {c : String} {e W : Str} {e1 e2 : Expr} {f g : DE} {p p2 p3 pos pos2 : Pos} (hK : G.K = X.K) (hC : G.ct c = some C) (T : XiC X.K C) (hk : PySem.W.kitOne X.K (.ref C) (.ref Cw) = some true)
    (hz : Zc cl dd ob) (hfs : ∃ vs, ob.data = .fields vs) (hg : Gl X "isinstance") (hm : X.mg "isinstance" = none) (hgW : Gl X W) (hmW : X.mg W = some (.ref Cw))
    (he : PE (X.suite a ((a, ob) :: pn)) (.Name e p2) (tVar i)) (h1 : PE (X.suite a ((a, ob) :: pn)) e1 (tXD G (some i) a cl dd x f)) (h2 : PE (X.suite a ((a, ob) :: pn)) e2 (tXD G (some i) a cl dd x g)) (hdW : (W == ("__debug__" : Str)) = false := by decide) :
    PE (X.suite a ((a, ob) :: pn)) (.IfExp (.Call (.Name "isinstance" p) [.Name e p2, .Name W p3] [] pos) e1 e2 pos2) (tXD G (some i) a cl dd x (eXi c x f)) := by
  have hW : PE (X.suite a ((a, ob) :: pn)) (.Name W p3) (tC (.ref Cw)) := pe_glob (X := X.suite a ((a, ob) :: pn)) hgW hmW (show RelV (.ref Cw) (.ref Cw) from rfl) hdW
  have t1 := pe_xi (X := X) (p := p) (pos := pos) T hk hz hfs hg hm (pa_cons (X := X.suite a ((a, ob) :: pn)) he (pa_cons hW pa_nil))
  refine (pe_ifExp (pt_val t1) h1 h2).imp fun σ H Q ⟨κ, w, s, ok, fx, q⟩ => ?_
  have q : PostG G WF (Rep G) κ w σ (if x.cls = c then f s else .stuck) Q := q
  by_cases h : x.cls = c
  · rw [if_pos h] at q
    obtain ⟨z1, C', z2, z3, z4⟩ := id fx
    rw [h, hC] at z2
    cases z2
    refine ⟨.ref a, z1 i rfl, ?_⟩
    refine ⟨rfl, z3, ?_, true, rfl, ?_⟩
    · rcases z4 with ⟨_, z⟩ | ⟨a', vs, z5, z6, _⟩
      · exact .inl z
      · exact .inr ⟨a', vs, z5, ok.fok.sub _ _ z6⟩
    · show tXD G (some i) a cl dd x f σ H Q
      exact ⟨κ, w, s, ok, fx, q⟩
  · rw [if_neg h] at q
    exact q.elim
end
end DL
set_option maxRecDepth 100000
set_option maxHeartbeats 4000000
set_option autoImplicit false
namespace DL
/-! ### steps that leave the state -/
theorem set_k {i : Nat} {f : DE} {s : DS} {d : D} (h : f s = .ok d s) : sSet i f s = .ok .nx ⟨s.sl.set i (.val d), s.st⟩ := by
  simp [h]
/-- one assignment whose value leaves the state, ahead of the rest -/
theorem sq_set {i : Nat} {f : DE} {R : DStm} {s : DS} {d : D} (h : f s = .ok d s) : sSeq (sSet i f) R s = R ⟨s.sl.set i (.val d), s.st⟩ := by
  rw [r_sSeq, set_k h]; rfl
theorem sq_if_f {c : DT} {f R : DStm} {s s1 : DS} (h : c s = .ok false s1) : sSeq (sIf c f sPass) R s = R s1 := by
  rw [r_sSeq, if_f h]; rfl
theorem sq_par {i j : Nat} {a b : DE} {R : DStm} {s s1 s2 : DS} {x y : D} (ha : a s = .ok x s1) (hb : b s1 = .ok y s2) : sSeq (sPar i j (aCons a (aCons b aNil))) R s = R ⟨(s2.sl.set i (.val x)).set j (.val y), s2.st⟩ := by
  simp [ha, hb]
theorem neg_e {f : DE} {s s1 : DS} {x : Int} (h : f s = .ok (.int x) s1) : eNeg f s = .ok (.int (-x)) s1 := by
  simp [h]
theorem not_e {f : DT} {s s1 : DS} {b : Bool} (h : f s = .ok b s1) : bNot f s = .ok (!b) s1 := by
  simp [h]
theorem tru_e {f : DE} {s s1 : DS} {b : Bool} (h : f s = .ok (.bl b) s1) : eTru f s = .ok b s1 := by
  simp [h]
theorem call_c3 {g : DFn} {a b c : DE} {s : DS} {x y z d : D} {S1 : List Cell} (ha : a s = .ok x s) (hb : b s = .ok y s) (hc : c s = .ok z s) (e : g [x, y, z] s.st = .ok d S1) : eCall 3 g (aCons a (aCons b (aCons c aNil))) s = .ok d ⟨s.sl, S1⟩ := by
  simp [ha, hb, hc, e]
theorem andT_t {f g : DE} {s s1 s2 : DS} {d : D} (h : f s = .ok (.bl true) s1) (k : g s1 = .ok d s2) : eAndT f g s = .ok d s2 := by
  simp [h, k]
theorem call_c0 {g : DFn} {s : DS} {d : D} {S1 : List Cell} (e : g [] s.st = .ok d S1) : eCall 0 g aNil s = .ok d ⟨s.sl, S1⟩ := by
  simp [e]
/-- calls whose arguments change the store -/
theorem call_x1 {g : DFn} {a : DE} {s s1 : DS} {x d : D} {S1 : List Cell} (ha : a s = .ok x s1) (e : g [x] s1.st = .ok d S1) : eCall 1 g (aCons a aNil) s = .ok d ⟨s1.sl, S1⟩ := by
  simp [ha, e]
theorem call_x2 {g : DFn} {a b : DE} {s s1 s2 : DS} {x y d : D} {S1 : List Cell} (ha : a s = .ok x s1) (hb : b s1 = .ok y s2) (e : g [x, y] s2.st = .ok d S1) : eCall 2 g (aCons a (aCons b aNil)) s = .ok d ⟨s2.sl, S1⟩ := by
  simp [ha, hb, e]
theorem call_x3 {g : DFn} {a b c : DE} {s s1 s2 s3 : DS} {x y z d : D} {S1 : List Cell} (ha : a s = .ok x s1) (hb : b s1 = .ok y s2) (hc : c s2 = .ok z s3) (e : g [x, y, z] s3.st = .ok d S1) : eCall 3 g (aCons a (aCons b (aCons c aNil))) s = .ok d ⟨s3.sl, S1⟩ := by
  simp [ha, hb, hc, e]
theorem call_x4 {g : DFn} {a b c k : DE} {s s1 s2 s3 s4 : DS} {x y z u d : D} {S1 : List Cell} (ha : a s = .ok x s1) (hb : b s1 = .ok y s2) (hc : c s2 = .ok z s3) (hk : k s3 = .ok u s4) (e : g [x, y, z, u] s4.st = .ok d S1) : eCall 4 g (aCons a (aCons b (aCons c (aCons k aNil)))) s = .ok d ⟨s4.sl, S1⟩ := by
  simp [ha, hb, hc, hk, e]
theorem cb_1 {o : List D → Option D} {a : DE} {s s1 : DS} {x d : D} (ha : a s = .ok x s1) (e : o [x] = some d) : eCB o (aCons a aNil) s = .ok d s1 := by
  simp [ha, e]
theorem cb_2 {o : List D → Option D} {a b : DE} {s s1 s2 : DS} {x y d : D} (ha : a s = .ok x s1) (hb : b s1 = .ok y s2) (e : o [x, y] = some d) : eCB o (aCons a (aCons b aNil)) s = .ok d s2 := by
  simp [ha, hb, e]
theorem tup_3 {a b c : DE} {s s1 s2 s3 : DS} {x y z : D} (ha : a s = .ok x s1) (hb : b s1 = .ok y s2) (hc : c s2 = .ok z s3) : eTup (aCons a (aCons b (aCons c aNil))) s = .ok (.tup [x, y, z]) s3 := by
  simp [ha, hb, hc]
theorem ix_e {a b : DE} {s s1 s2 : DS} {x d : D} {i : Int} (ha : a s = .ok x s1) (hb : b s1 = .ok (.int i) s2) (e : ixD x i = some d) : eIx a b s = .ok d s2 := by
  simp [ha, hb, e]
theorem meth_1 {c : String} {m : Nm} {g : DFn} {fo a : DE} {s s1 : DS} {fs : List (Nm × D)} {x v : D} {S1 : List Cell} (h0 : fo s = .ok (.ins c fs) s) (hm : fs.lookup m = none) (ha : a s = .ok x s1) (e : g [.ins c fs, x] s1.st = .ok v S1) :
    eMeth c m 2 g fo (aCons a aNil) s = .ok v ⟨s1.sl, S1⟩ := by
  simp [h0, hm, ha, e]
theorem meth_3 {c : String} {m : Nm} {g : DFn} {fo a b k : DE} {s s1 s2 s3 : DS} {fs : List (Nm × D)} {x y z v : D} {S1 : List Cell} (h0 : fo s = .ok (.ins c fs) s) (hm : fs.lookup m = none) (ha : a s = .ok x s1) (hb : b s1 = .ok y s2) (hk : k s2 = .ok z s3) (e : g [.ins c fs, x, y, z] s3.st = .ok v S1) :
    eMeth c m 4 g fo (aCons a (aCons b (aCons k aNil))) s = .ok v ⟨s3.sl, S1⟩ := by
  simp [h0, hm, ha, hb, hk, e]
theorem itR2_of {f : DA} {s s1 : DS} {i j : Int} {n : Nat} (h : f s = .ok [.int i, .int j] s1) (c : -(2 ^ 62) ≤ i ∧ i < 2 ^ 62 ∧ -(2 ^ 62) ≤ j ∧ j < 2 ^ 62) (hn : (j - i).toNat = n) : itR2 f s = .ok (rngL i n) s1 := by
  subst hn
  unfold itR2
  rw [h]
  exact if_pos c
theorem meth_0 {c : String} {m : Nm} {g : DFn} {fo : DE} {s : DS} {fs : List (Nm × D)} {v : D} {S1 : List Cell} (h0 : fo s = .ok (.ins c fs) s) (hm : fs.lookup m = none) (e : g [.ins c fs] s.st = .ok v S1) :
    eMeth c m 1 g fo aNil s = .ok v ⟨s.sl, S1⟩ := by
  simp [h0, hm, e]
theorem var_o {i : Nat} {sl : List Sl} {S : List Cell} {xs : List D} (h : sl[i]? = some (.ol xs)) : eVar i ⟨sl, S⟩ = .ok (.lst xs) ⟨sl.set i (.val (.lst xs)), S⟩ := by
  rw [r_eVar, h]
end DL
set_option maxRecDepth 100000
set_option maxHeartbeats 4000000
set_option autoImplicit false
namespace DL
open PySem PySem.Spec PyProof.Rows L2
section
variable {G : Gam} {W : WX} {X : Cx}
/-! ### list(d.values()) -/
theorem kv_vals {κ : Type} : ∀ {kvs : List (κ × V)} {vs : List (κ × Value)}, KV kvs vs → Vals (kvs.map (·.2)) (vs.map (·.2))
  | [], [], _ => .nil
  | [], _ :: _, h => by cases h
  | _ :: _, [], h => by cases h
  | p :: kvs, q :: vs, h => by
    have h' : (p.1 = q.1 ∧ RelV p.2 q.2) ∧ KV kvs vs := by cases h; exact ⟨by assumption, by assumption⟩
    exact .cons h'.1.2 (kv_vals h'.2)
def tListVals (td : TE) : TE := fun σ H Q => td σ H fun x H1 => ∃ a kvs, x = V.ref a ∧ H1 a = some (.dK kvs) ∧ kvs.length ≤ sizeLine ∧ ∀ p, H1 p = none → Q (.ref p) (upd H1 p (.lst (kvs.map (·.2))))
theorem pe_listVals {o : Expr} {p pos apos mpos : Pos} {td : TE} (hc : X.calm = true) (hg : Gl X "list") (hm : X.mg "list" = none) (hd : PE X o td) (hbase : attributeBase o "values" X.env (eval o X.env) = eval o X.env := by rfl) (hline : (apos.endLine == mpos.line) = true := by rfl)
    (hse : starEach [Expr.Call (.Attribute o "values" apos) [] [] mpos] X.env = [(false, eval (Expr.Call (.Attribute o "values" apos) [] [] mpos) X.env)] := by rfl) :
    PE X (.Call (.Name "list" p) [.Call (.Attribute o "values" apos) [] [] mpos] [] pos) (tListVals td) := by
  refine ⟨fun pins s σ H Q I h => ?_⟩
  refine wpAny_Call_Name_kw (ld_blt I hg hm (u := .type "list") (by first | rfl | decide +kernel) ?_ (by first | decide +kernel | decide) (by first | decide +kernel | decide))
  rw [hse]
  refine PySem.callWith_type1 (wpAny_Call_method0_late hbase hline (thn (hd.run pins s σ H _ I h) fun v s1 ⟨x, H1, I1, r1, a, kvs, ex, ha, hz, q⟩ => ?_))
  subst ex
  obtain rfl : v = Value.ref a := r1
  obtain ⟨_, hsys, vs, rel, dof⟩ := dk_of I1.hok ha
  obtain ⟨ep, dat⟩ := dof.dictAt
  have dat' := dat
  obtain ⟨ob, es, ho, ex, hdat, hko, hpr, hnd⟩ := dat'
  refine ⟨"dict", "dict.values", F.plainAttrs_dict, F.slot_dict_values, F.type_dict_values, ⟨ob, ho, ex.1⟩, fun b e => ?_, Calls.callWith_builtin rfl (PySem.evalArgs_none ?_)⟩
  · cases e
    exact ⟨ob, ho, ex.2.1⟩
  refine call_meetsIn F.slot_dict_values ⟨ob, ho, ex.1⟩ F.entry_dict_values (F.args_dict_values_1 _) (meets_dict_values (mixKind X.prog X.w) a hsys) ⟨⟨vs, dof⟩, ?_⟩
  have k1 : ∀ b u, s1.heap.get? b = some u → (s1.heap.push { cls := .type "dict_values", data := .fields #[.ref a] }).get? b = some u := fun b u e => Heap.get?_push_of_some _ e
  have dat1 : (s1.heap.push { cls := .type "dict_values", data := .fields #[.ref a] }).DictAt (mixKind X.prog X.w) a vs ep := dat.keep k1
  have hlv : vs.length = kvs.length := (KV.length rel).symm
  have hsz : (s1.heap.push { cls := .type "dict_values", data := .fields #[.ref a] }).objs.size = s1.heap.objs.size + 1 := Heap.size_push _ _
  refine PySem.W.kdl_call (PySem.W.kdl_values (r := s1.heap.objs.size) (d := a) (knd := mixKind X.prog X.w) (kvs := vs) (ep := ep)) (I.ok.hd hc) ⟨⟨_, Heap.get?_push_size _ rfl, rfl, rfl⟩, dat1⟩ (by rw [hlv]; exact hz) fun h' tk acc c' hkp hD hacc => ?_
  have hv : Vals (kvs.map (·.2)) acc.toList := by
    have e := PySem.W.kdl_vals_eq (kvs := vs) acc.toList (by rw [Array.length_toList]; exact hacc.1) fun j v e => hacc.2 j v (by rw [← Array.getElem?_toList]; exact e)
    rw [e]
    exact kv_vals rel
  have I2 : Inv X pins σ H1 { s1 with heap := s1.heap.push { cls := .type "dict_values", data := .fields #[.ref a] } } := I1.kept (t' := s1.toks) k1
  exact ⟨.ref (s1.heap.push { cls := .type "dict_values", data := .fields #[.ref a] }).objs.size, upd H1 (s1.heap.push { cls := .type "dict_values", data := .fields #[.ref a] }).objs.size (.lst (kvs.map (·.2))), I2.laid (t' := tk) hkp (Nat.le_refl _)
    (show ObjOk X.prog X.w _ _ _ (.lst (kvs.map (·.2))) from ⟨by rw [List.length_map]; exact hz, acc.toList, c', hv, by rw [Array.toArray_toList]; exact hD⟩), rfl, q _ (I2.hok.fresh (Nat.le_refl _))⟩
theorem repk_vals {w : Wd} : ∀ {kvs : List (Key × V)} {ds : List (DK × D)}, RepK G w kvs ds → Reps G w (kvs.map (·.2)) (ds.map (·.2))
  | _, _, .nil => .nil
  | _, _, .cons a b => .cons a (repk_vals b)
/-- list(d.values()) of a dict that is handed about -/
def eVals (f : DE) : DE := fun s => (f s).bind fun d s1 => match d with
  | .dic kvs => if kvs.length ≤ 1000000 then .ok (.lst (kvs.map (·.2))) s1 else .stuck
  | _ => .stuck
theorem pd_listVals {o : Expr} {p pos apos mpos : Pos} {f : DE} (hc : X.calm = true) (hg : Gl X "list") (hm : X.mg "list" = none) (hd : PD G W X o f) (hbase : attributeBase o "values" X.env (eval o X.env) = eval o X.env := by rfl) (hline : (apos.endLine == mpos.line) = true := by rfl)
    (hse : starEach [Expr.Call (.Attribute o "values" apos) [] [] mpos] X.env = [(false, eval (Expr.Call (.Attribute o "values" apos) [] [] mpos) X.env)] := by rfl) :
    PD G W X (.Call (.Name "list" p) [.Call (.Attribute o "values" apos) [] [] mpos] [] pos) (eVals f) :=
  (pe_listVals hc hg hm hd hbase hline hse).imp fun σ H Q ⟨κ, w, s, ok, q⟩ => ⟨κ, w, s, ok, (PostG.bind q).imp fun v H1 ⟨d, s1, w1, le, ok1, r1, q1⟩ => by
    cases r1 with
    | @dic a kvs ds e r =>
      simp only at q1
      split at q1
      · rename_i c
        refine ⟨a, kvs, rfl, ok1.fok.sub _ _ e, by rw [RepK.length r, sizeLine_eq]; omega, fun p hp => ?_⟩
        obtain ⟨le2, ok2⟩ := ok1.alloc hp (.lst (kvs.map (·.2)))
        exact q1 _ _ _ le2 ok2 (.lst upd_same ((repk_vals r).mono le2))
      · exact q1.elim
    | _ => exact q1.elim⟩
/-! ### list(d) of a dict that is handed about -/
theorem repk_keys {w w' : Wd} : ∀ {kvs : List (Key × V)} {ds : List (DK × D)}, RepK G w kvs ds → Reps G w' (kvs.map fun p => kV p.1) (ds.map fun q => dkD q.1)
  | _, _, .nil => .nil
  | _, _, .cons (k := k) a b => by
    rw [List.map_cons, List.map_cons]
    refine .cons ?_ (repk_keys b)
    cases k with
    | i n => exact .int n
    | s t => exact .str t
def bListD : List D → Option D
  | [.dic kvs] => some (.lst (kvs.map fun q => dkD q.1))
  | _ => none
theorem cd_listD (hc : X.calm = true) : CallD G X (.type "list") bListD := ⟨_, call_listD hc, fun κ w s σ H vs ds d Q ok rs e q => by
  match ds, e with
  | [.dic kvs], e =>
    cases e
    obtain ⟨v, rfl, r⟩ := rs.one
    cases r with
    | @dic a us _ e2 r =>
      refine ⟨a, us, rfl, .inl (ok.fok.sub _ _ e2), fun p hp => ?_⟩
      obtain ⟨le2, ok2⟩ := ok.alloc hp (.lst (us.map fun p => kV p.1))
      exact q _ _ _ le2 ok2 (.lst upd_same (repk_keys r))⟩
end
@[simp] theorem r_eVals (f : DE) (s : DS) : eVals f s = (f s).bind fun d s1 => match d with
  | .dic kvs => if kvs.length ≤ 1000000 then .ok (.lst (kvs.map (·.2))) s1 else .stuck
  | _ => .stuck := rfl
@[simp] theorem r_bListD (kvs : List (DK × D)) : bListD [.dic kvs] = some (.lst (kvs.map fun q => dkD q.1)) := rfl
end DL
set_option maxRecDepth 100000
set_option maxHeartbeats 4000000
set_option autoImplicit false
namespace DL
open PySem PySem.Spec PyProof.Rows L2
open PySem.SeqAt (EqIn)
section
open AutoSeq1 (wpAny_loadPart')
open MeetsSeq MeetsSeq2 MeetsSeq3 SeqRoads2 PySem.SeqAt
variable {prog : Program} {w : World}
/-- lists whose items are alike, one by one: != says False -/
theorem ne_loop_same (l b : Addr) (items items2 : Array Value) (n n2 : Nat) (dd dd2 : Option Addr) (sl sl2 : Array (Option Value)) (hsz : items.size = items2.size) (k : Nat) :
    ∀ i : Nat, items.size - i = k → MeetsIn prog w (Builtin.«list.__eq__.loop» ⟨[.ref l, .ref b, rawInt i, rawInt 3], []⟩)
      (fun A R s => s.heap.get? l = some { cls := .type "list", dict := dd, data := .seq items n, slots := sl } ∧ s.heap.get? b = some { cls := .type "list", dict := dd2, data := .seq items2 n2, slots := sl2 } ∧
        (∀ j (h1 : j < items.size) (h2 : j < items2.size), EqIn prog w A.in1 s items[j] items2[j] true) ∧ R (.ok (.ret (.bool false))) s) := by
  induction k with
  | zero =>
    intro i hk A R s h
    obtain ⟨hp, g, d, tk, os⟩ := s
    obtain ⟨hl, hb, he, h⟩ := h
    wp_walk using wpAny_loadPart' hl, wpAny_loadPart' hb
    have hi1 : items[((i : Nat) : Int).toNat]? = none := by simp; omega
    have hi2 : items2[((i : Nat) : Int).toNat]? = none := by simp; omega
    rw [hi1, hi2]
    wp_walk using wpAny_loadPart' hl, wpAny_loadPart' hb
    show R (.ok (.ret (.bool (items.size != items2.size)))) _
    rw [hsz]
    simpa using h
  | succ k ih =>
    intro i hk A R s h
    obtain ⟨hp, g, d, tk, os⟩ := s
    obtain ⟨hl, hb, he, h⟩ := h
    wp_walk using wpAny_loadPart' hl, wpAny_loadPart' hb
    have hlt : i < items.size := by omega
    have hlt2 : i < items2.size := by omega
    have hi1 : items[((i : Nat) : Int).toNat]? = some items[i] := by simp [hlt]
    have hi2 : items2[((i : Nat) : Int).toNat]? = some items2[i] := by simp [hlt2]
    have hc : ((i : Int) + 1) = ((i + 1 : Nat) : Int) := by push_cast; rfl
    rw [hi1, hi2]
    refine wpAny_bind (he i hlt hlt2 _ _ ?_)
    wp_walk
    rw [hc]
    exact ⟨plainId_quiet plain_eq_loop _, codeAny_builtin entry_eq_loop (by
      rw [Around.under_plainId plain_eq_loop _]
      exact ih (i + 1) (by omega) A R _ ⟨hl, hb, he, h⟩)⟩
theorem list_ne_same (l b : Addr) (items items2 : Array Value) (n n2 : Nat) (dd dd2 : Option Addr) (sl sl2 : Array (Option Value)) (hsz : items.size = items2.size) :
    MeetsIn prog w (Builtin.«list.__ne__» ⟨[.ref l, .ref b], []⟩)
      (fun A R s => s.heap.get? l = some { cls := .type "list", dict := dd, data := .seq items n, slots := sl } ∧ s.heap.get? b = some { cls := .type "list", dict := dd2, data := .seq items2 n2, slots := sl2 } ∧
        (∀ j (h1 : j < items.size) (h2 : j < items2.size), EqIn prog w A.in1 s items[j] items2[j] true) ∧ R (.ok (.ret (.bool false))) s) := by
  intro A R s h
  obtain ⟨hp, g, d, tk, os⟩ := s
  obtain ⟨hl, hb, he, h⟩ := h
  have f3 := AutoSeq1.sub_list_list
  have hne : ¬ (items.size != items2.size) = true := by simp [hsz]
  wp_walk using wpAny_loadPart' hl, wpAny_loadPart' hb
  exact ⟨plainId_quiet plain_eq_loop _, codeAny_builtin entry_eq_loop (by
    rw [Around.under_plainId plain_eq_loop _]
    exact ne_loop_same l b items items2 n n2 dd dd2 sl sl2 hsz _ 0 rfl A R _ ⟨hl, hb, he, h⟩)⟩
theorem rcne_same {A : Around} {s : Shared} {E : Value → Shared → Prop} {l b : Addr} {items items2 : Array Value} {Q : Value → Shared → Prop} (hl : s.heap.IsList l items) (hb : s.heap.IsList b items2) (hsz : items.size = items2.size) (hu : A.units < cLine)
    (he : ∀ j (h1 : j < items.size) (h2 : j < items2.size), EqIn prog w A.in1 s items[j] items2[j] true) (h : Q (.bool false) s) : wpAny (model prog w) A (richCompare .NotEq (.ref l) (.ref b)) Q E s := by
  obtain ⟨⟨cls, dd, data, sl⟩, ho, hc, n, hd⟩ := id hl
  obtain ⟨⟨cls2, dd2, data2, sl2⟩, ho2, hc2, n2, hd2⟩ := id hb
  simp only at hc hd hc2 hd2
  subst hc hd hc2 hd2
  exact wpAny_richCompare_same_room (T := "list") (op := .NotEq) ⟨_, ho, rfl⟩ ⟨_, ho2, rfl⟩ F.slot_list_ne (call_meetsIn F.slot_list_ne ⟨_, ho, rfl⟩ F.entry_list_ne (F.args_list_ne_2 _ _) (list_ne_same l b items items2 n n2 dd dd2 sl sl2 hsz)
    ⟨ho, ho2, he, show Value.bool false ≠ Value.notImplemented ∧ Q (.bool false) s from ⟨(fun x => nomatch x), h⟩⟩) hu
end
/-! ### != of lists that are alike, some items dicts of at most one pair -/
inductive Same1 (K : PySem.W.Frag) (H : Hp) : V → V → Prop
  | pl {u v : V} {p q : PyData} : Dp K H u p → Dp K H v q → SeqAt.shaped p = true → SeqAt.shaped q = true → PyData.eqv p q = true → Same1 K H u v
  | dk {a b : Addr} {ks ls : List (Key × V)} : H a = some (.dK ks) → H b = some (.dK ls) → ks.length = ls.length → (∀ p ∈ ks, valV ls p.1 = some p.2 ∧ flatB p.2 = true) → Same1 K H (.ref a) (.ref b)
inductive SameV (K : PySem.W.Frag) (H : Hp) : List V → List V → Prop
  | nil : SameV K H [] []
  | cons {u v : V} {us vs : List V} : Same1 K H u v → SameV K H us vs → SameV K H (u :: us) (v :: vs)
def rNeS (K : PySem.W.Frag) : R2 := fun x y H Q => ∃ a b xs ys, x = .ref a ∧ y = .ref b ∧ SqL K H a xs ∧ SqL K H b ys ∧ SameV K H xs ys ∧ Q (.bl false) H
section
variable {G : Gam} {W : WX} {X : Cx}
theorem same_in (hu : X.A.units + 65 < cLine) {pins : List (Addr × Obj)} {σ : L2.St} {H : Hp} {s : Shared} (I : Inv X pins σ H s) {u v : V} {x y : Value} (h : Same1 X.K H u v) (rx : RelV u x) (ry : RelV v y) : EqIn X.prog X.w X.A.in1 s x y true := by
  cases h with
  | pl hp hq sp sq e =>
    rename_i p q
    obtain ⟨as, r1⟩ := Dp.reads I _ _ _ hp rx
    obtain ⟨bs, r2⟩ := Dp.reads I _ _ _ hq ry
    have d1 := SeqAt.depth_of_shaped sp
    have m : min p.depth q.depth ≤ p.depth := Nat.min_le_left _ _
    have := SeqAt.eqAt_reads p q X.A.in1 s x y as bs r1 r2 (SeqAt.canLay_of_shaped sp) (SeqAt.canLay_of_shaped sq) (by show X.A.units + 1 + _ < cLine; omega)
    rw [e] at this
    exact this.inModel _ _
  | dk ea eb hl hp =>
    rename_i a b ks ls
    obtain rfl : x = Value.ref a := rx
    obtain rfl : y = Value.ref b := ry
    by_cases c : a = b
    · subst c
      exact (SeqAt.EqAt.same _).inModel _ _
    · obtain ⟨_, ya, va, ra, da⟩ := (show ObjOk X.prog X.w H s.heap a (.dK ks) from I.hok a _ ea)
      obtain ⟨_, yb, vb, rb, db⟩ := (show ObjOk X.prog X.w H s.heap b (.dK ls) from I.hok b _ eb)
      have hl' : va.length = vb.length := by rw [← ra.length, ← rb.length]; exact hl
      exact SeqAt.EqIn.of_refs c fun E Q hq => PySem.W.keq_eq (knd := mixKind X.prog X.w) (A := X.A.in1) (r := true) ya yb da db (by show X.A.units + 1 < cLine; omega) (fun _ => hits_all rb ra hp) (by simpa [hl'] using hq)
theorem same_all (hu : X.A.units + 65 < cLine) {pins : List (Addr × Obj)} {σ : L2.St} {H : Hp} {s : Shared} (I : Inv X pins σ H s) {us vs : List V} (h : SameV X.K H us vs) : ∀ {xs ys : List Value}, Vals us xs → Vals vs ys → xs.length = ys.length ∧ ∀ j (h1 : j < xs.length) (h2 : j < ys.length), EqIn X.prog X.w X.A.in1 s xs[j] ys[j] true := by
  induction h with
  | nil =>
    intro xs ys h1 h2
    cases h1
    cases h2
    exact ⟨rfl, fun j h1 => absurd h1 (Nat.not_lt_zero _)⟩
  | cons a r ih =>
    intro xs ys h1 h2
    cases h1 with
    | cons rx rs =>
      cases h2 with
      | cons ry ts =>
        obtain ⟨q1, q2⟩ := ih rs ts
        refine ⟨by simp [q1], fun j h1 h2 => ?_⟩
        cases j with
        | zero => exact same_in hu I a rx ry
        | succ j => exact q2 j (by simpa using h1) (by simpa using h2)
theorem op_neS (hu : X.A.units + 65 < cLine) : OpR X (compareOp .NotEq) (rNeS X.K) := by
  intro pins s σ H x y v u Q I rx ry h
  obtain ⟨a, b, xs, ys, rfl, rfl, ha, hb, sm, q⟩ := h
  obtain rfl : v = Value.ref a := rx
  obtain rfl : u = Value.ref b := ry
  obtain ⟨is, ri, pi, _⟩ := I.list ha
  obtain ⟨js, rj, pj, _⟩ := I.list hb
  obtain ⟨hl, he⟩ := same_all hu I sm ri rj
  refine rcne_same (prog := X.prog) (w := X.w) pi.isList pj.isList (by simpa using hl) (by omega) (fun j h1 h2 => ?_) ⟨.bl false, H, I, rfl, q⟩
  have := he j (by simpa using h1) (by simpa using h2)
  simpa using this
def sameK : List (DK × D) → List (DK × D) → Bool
  | [], [] => true
  | [(k, .int i)], [(k', .int j)] => decide (k = k' ∧ i = j)
  | _, _ => false
def same1 : D → D → Bool
  | .dic ks, .dic ls => sameK ks ls
  | d, d' => match dNe d d' with
    | some (.bl b) => !b
    | _ => false
def sameQ : List D → List D → Bool
  | [], [] => true
  | d :: r, d' :: r' => same1 d d' && sameQ r r'
  | _, _ => false
def neS : D → D → Option D := fun x y => match x, y with
  | .lst xs, .lst ys => if sameQ xs ys = true then some (.bl false) else none
  | _, _ => none
theorem dne_py {x y : D} {b : Bool} (h : dNe x y = some (.bl b)) : ∃ p q, toPy x = some p ∧ toPy y = some q ∧ SeqAt.shaped p = true ∧ SeqAt.shaped q = true ∧ b = !PyData.eqv p q := by
  unfold dNe at h
  split at h
  · rename_i p q h1 h2
    split at h
    · rename_i c
      rw [Bool.and_eq_true] at c
      injection h with h
      injection h with h
      exact ⟨p, q, h1, h2, c.1, c.2, h.symm⟩
    · cases h
  · cases h
theorem same1_rep (hK : G.K = X.K) {κ : Bs} {w : Wd} {s : DS} {σ : L2.St} {H : Hp} (ok : Ok G κ w s σ H) {u v : V} {d d' : D} (h : same1 d d' = true) (r : Rep G w u d) (r' : Rep G w v d') : Same1 X.K H u v := by
  have pl : (match dNe d d' with | some (.bl b) => !b | _ => false) = true → Same1 X.K H u v := fun h => by
    cases e : dNe d d' with
    | none => rw [e] at h; cases h
    | some z =>
      rw [e] at h
      cases z with
      | bl b =>
        obtain ⟨p, q, h1, h2, s1, s2, hb⟩ := dne_py e
        have : PyData.eqv p q = true := by
          rw [hb] at h
          simpa using h
        exact .pl (r.py hK ok h1) (r'.py hK ok h2) s1 s2 this
      | _ => cases h
  cases d with
  | dic ks =>
    cases d' with
    | dic ls =>
      have h : sameK ks ls = true := h
      cases r with
      | @dic a vs _ ea ra =>
        cases r' with
        | @dic b us _ eb rb =>
          refine .dk (ok.fok.sub _ _ ea) (ok.fok.sub _ _ eb) ?_ ?_
          · rw [RepK.length ra, RepK.length rb]
            unfold sameK at h
            split at h
            · rfl
            · rfl
            · cases h
          · unfold sameK at h
            split at h
            · cases ra
              intro p hp
              cases hp
            · rename_i k i k' j _
              have h : k = k' ∧ i = j := by simpa using h
              obtain ⟨rfl, rfl⟩ := h
              cases ra with
              | cons a1 a2 =>
                cases a2
                cases a1
                cases rb with
                | cons b1 b2 =>
                  cases b2
                  cases b1
                  intro p hp
                  rw [List.mem_singleton.mp hp]
                  exact ⟨by simp [valV], rfl⟩
            · cases h
    | _ => exact pl h
  | _ => exact pl h
theorem sameQ_rep (hK : G.K = X.K) {κ : Bs} {w : Wd} {s : DS} {σ : L2.St} {H : Hp} (ok : Ok G κ w s σ H) : ∀ {us vs : List V} {ds es : List D}, sameQ ds es = true → Reps G w us ds → Reps G w vs es → SameV X.K H us vs
  | _, _, [], [], _, .nil, .nil => .nil
  | _, _, d :: ds, e :: es, h, .cons a r, .cons b t => by
    unfold sameQ at h
    rw [Bool.and_eq_true] at h
    exact .cons (same1_rep hK ok h.1 a b) (sameQ_rep hK ok h.2 r t)
theorem opd_neS (hK : G.K = X.K) (hu : X.A.units + 65 < cLine) : OpD G X (compareOp .NotEq) neS := ⟨_, op_neS hu, fun κ w s σ H x y dx dy d Q ok rx ry e q => by
  unfold neS at e
  split at e
  · split at e
    · rename_i xs ys c
      cases e
      cases rx with
      | lst a r =>
        cases ry with
        | lst b t => exact ⟨_, _, _, _, rfl, rfl, .inl (.inl (ok.fok.sub _ _ a)), .inl (.inl (ok.fok.sub _ _ b)), sameQ_rep hK ok c r t, q w _ H (.refl _) ok (.bl _)⟩
    · cases e
  · cases e⟩
def dNeS : D → D → Option D := fun x y => (dNe x y).orElse fun _ => neS x y
theorem opd_neA (hK : G.K = X.K) (hu : X.A.units + 65 < cLine) : OpD G X (compareOp .NotEq) dNeS := ((opd_ne hK (by omega)).or (opd_neS hK hu)).congr fun x y => rfl
end
end DL
set_option maxRecDepth 100000
set_option maxHeartbeats 4000000
set_option autoImplicit false
namespace DL
open PySem PySem.Spec PyProof.Rows L2
/-! ### != of plain values, of empty dicts too -/
def neDK : D → D → Option D := fun x y => match x, y with
  | .dic [], .dic [] => some (.bl false)
  | _, _ => none
def dNeV : D → D → Option D := fun x y => (dNe x y).orElse fun _ => neDK x y
section
variable {G : Gam} {W : WX} {X : Cx}
theorem opd_neDK (hu : X.A.units + 65 < cLine) : OpD G X (compareOp .NotEq) neDK := ⟨_, op_ne_dictA (by omega), fun κ w s σ H x y dx dy d Q ok rx ry e q => by
  unfold neDK at e
  split at e
  · cases e
    cases rx with
    | @dic a vs _ ea ra =>
      cases ry with
      | @dic b us _ eb rb =>
        cases ra
        cases rb
        exact ⟨a, b, [], [], rfl, rfl, ok.fok.sub _ _ ea, ok.fok.sub _ _ eb, rfl, fun p hp => (nomatch hp), q w _ H (.refl _) ok (.bl _)⟩
  · cases e⟩
theorem opd_neV (hK : G.K = X.K) (hu : X.A.units + 65 < cLine) : OpD G X (compareOp .NotEq) dNeV := ((opd_ne hK (by omega)).or (opd_neDK hu)).congr fun x y => rfl
end
end DL
set_option maxRecDepth 100000
set_option maxHeartbeats 4000000
set_option autoImplicit false
namespace DL
open PySem
/-! ### C(.., f = v, ..) of an own error class: `__new__` leaves the keywords alone -/
section
variable {P : Program} {W0 : World} {Mo : Model} {Ar : Around} {Er : Value → Shared → Prop} {R : Result → Shared → Prop} {hp : Heap} {gs : Array GenState} {dr : Drawn} {tk : Nat} {osS : OsState}
variable {cn cq : Str} {C NN : Addr} {b1 b2 bB : List Value} {hdc abs : Bool} {sns : List Str} {sbs : List Value} {cl : Option Bool} {dd : Option Addr} {j0 j1 j2 j3 j5 : Option Value} {B nI iI : String}
theorem chk_newK (Fb : ExcBaseFacts B nI iI bB) (same : ∀ Y : String, b2.contains (.type Y) = bB.contains (.type Y)) {vs : List Value} {kw : List (Str × Value)} {Q : Unit → Shared → Prop}
    (oC : hp.get? C = some (excClassObj cn cq C NN b1 b2 hdc sns sbs abs cl dd j0 j1 j2 j3 j5 nI)) (hq : Q () ⟨hp, gs, dr, tk, osS⟩) : wpAny Mo Ar (checkBuiltinCall nI ⟨.ref C :: vs, kw⟩) Q Er ⟨hp, gs, dr, tk, osS⟩ := by
  have isB : (Value.ref C :: b2).contains (.type B) = true := by rw [List.contains_cons, same, Fb.hasB, Bool.or_true]
  have nostar := Fb.noStar
  unfold checkBuiltinCall
  simp only [Fb.newRow, Fb.newSplit, Fb.newKind]
  repeat (first | (refine wpAny_staticBase_exc oC ?_) | (refine wpAny_madeBy_exc oC ?_) | (refine wpAny_loadPart_at oC ?_) | (refine wpAny_isSubtype_exc oC ?_; rw [isB]) | (simp only [Bool.false_eq_true, bne_self_eq_false, if_false]) | wp_step)
  exact hq
theorem run_newK (Fb : ExcBaseFacts B nI iI bB) (same : ∀ Y : String, b2.contains (.type Y) = bB.contains (.type Y)) {vs : List Value} {kw : List (Str × Value)}
    (oC : hp.get? C = some (excClassObj cn cq C NN b1 b2 hdc sns sbs abs cl dd j0 j1 j2 j3 j5 nI)) (hq : R (.ok (.ret (.ref (hp.objs.size + 1)))) ⟨(hp.push (PySem.W.kdv_tup vs)).push (PySem.HandSPX.excO C hp.objs.size), gs, dr, tk, osS⟩) (lv : vs.length ≤ sizeLine) :
    codeAny (model P W0) Ar (.builtin nI ⟨.ref C :: vs, kw⟩) R ⟨hp, gs, dr, tk, osS⟩ := by
  have ends := Fb.ends
  have isB : (Value.ref C :: b2).contains (.type B) = true := by rw [List.contains_cons, same, Fb.hasB, Bool.or_true]
  have isN : (Value.ref C :: b2).contains (.type "NameError") = false := by rw [List.contains_cons, same, Fb.noName]; rfl
  have isA : (Value.ref C :: b2).contains (.type "AttributeError") = false := by rw [List.contains_cons, same, Fb.noAttr]; rfl
  refine codeAny_builtinAt Fb.entry ?_
  unfold Builtin.«BaseException.__new__»
  refine wpAt_bind ?_
  show wpAt _ _ _ (stack >>= fun q => _) _ _ _
  refine wpAt_bind (wpAt_stack fun _ _ => wpAt_of_wpAny ?_)
  wp_walk
  refine wpAt_of_wpAny ?_
  rw [Fb.owner]
  repeat (first | (with_reducible refine wpAny_madeHere_exc Fb.canon oC ?_) | (with_reducible refine wpAny_loadPart_at oC ?_) | (with_reducible refine wpAny_isSubtype_exc oC ?_; first | rw [isB] | rw [isN] | rw [isA]) | wp_step)
  show R _ _
  rw [Heap.size_push]
  exact hq
theorem chk_typeK {vs : List Value} {kw : List (Str × Value)} {Q : Unit → Shared → Prop} (oC : hp.get? C = some (excClassObj cn cq C NN b1 b2 hdc sns sbs abs cl dd j0 j1 j2 j3 j5 nI))
    (hq : Q () ⟨hp, gs, dr, tk, osS⟩) : wpAny Mo Ar (checkBuiltinCall "type.__call__" ⟨.ref C :: vs, kw⟩) Q Er ⟨hp, gs, dr, tk, osS⟩ := by
  have sub := tc_sub
  have ty : (⟨hp, gs, dr, tk, osS⟩ : Shared).TypeIs (.ref C) "type" := ⟨_, oC, rfl⟩
  unfold checkBuiltinCall
  simp only [tc_split, tc_kind]
  repeat (any_goals (first | assumption | (with_reducible refine wpAny_map ?_) | (with_reducible refine wpAny_onRaise ?_) | (with_reducible refine wpAny_loadPart_at oC ?_) | wp_step))
theorem go_typeK (Fb : ExcBaseFacts B nI iI bB) (same : ∀ Y : String, b2.contains (.type Y) = bB.contains (.type Y)) {vs : List Value} {kw : List (Str × Value)} {fI : Addr} {Q : Fin → Shared → Prop}
    (oC : hp.get? C = some (excClassObj cn cq C NN b1 b2 hdc sns sbs abs cl dd j0 j1 j2 j3 j5 nI)) (lI : W.Looks (model P W0) hp (typeLookup (.ref C) "__init__") (some (.ref fI))) (bI : ∀ x, W.Looks (model P W0) hp (bindSpecial (.ref fI) x) (.ref fI, [x])) (lv : vs.length ≤ sizeLine)
    (hq : codeAny (model P W0) Ar (.call (.ref fI) ⟨.ref (hp.objs.size + 1) :: vs, kw⟩) (fun r s' => match r with | .ok (.ret v) => v = .none ∧ Q (.done (.ret (.ref (hp.objs.size + 1)))) s' | .ok _ => False | .error e => Er e s')
      ⟨(hp.push (W.kdv_tup vs)).push (HandSPX.excO C hp.objs.size), gs, dr, tk, osS⟩) :
    wpAny (model P W0) Ar (Builtin.«type.__call__» ⟨.ref C :: vs, kw⟩) Q Er ⟨hp, gs, dr, tk, osS⟩ := by
  unfold Builtin.«type.__call__»
  repeat (first | (with_reducible refine wpAny_madeBy_exc oC ?_) | (with_reducible refine wpAny_loadPart_at oC ?_) | wp_step)
  refine codeAny_call_builtin_code (Code.quiet_builtin _ Fb.quiet) (chk_newK Fb same oC ?_)
  refine run_newK Fb same oC ?_ lv
  show wpAny _ _ _ _ _ _
  have kp : ∀ b o, hp.get? b = some o → ((hp.push (W.kdv_tup vs)).push (HandSPX.excO C hp.objs.size)).get? b = some o := fun b o z => Heap.get?_push_of_some _ (Heap.get?_push_of_some _ z)
  have oC2 := kp _ _ oC
  have at1 : ((hp.push (W.kdv_tup vs)).push (HandSPX.excO C hp.objs.size)).get? (hp.objs.size + 1) = some (HandSPX.excO C hp.objs.size) := by heap_get
  have inC : (Value.ref C :: b2).contains (.ref C) = true := by simp
  have lI2 := lI.keeps kp
  have bI2 := (bI (.ref (hp.objs.size + 1))).keeps kp
  unfold isInstance
  repeat (first | (with_reducible refine wpAny_loadPart_at at1 ?_) | (with_reducible refine wpAny_isSubtype_exc oC2 ?_; rw [inC]) | wp_step)
  show wpAny _ _ (typeLookup (.ref C) _) _ _ _
  refine lI2.at ?_
  refine wpAny_holding (wpAny_bind (bI2.at ?_))
  refine wpAny_bind (wpAny_call (codeAny_mono hq fun r s' z => ?_))
  cases r with
  | error er => exact z
  | ok fl =>
    cases fl with
    | ret u =>
      have z1 : u = .none ∧ Q (.done (.ret (.ref (hp.objs.size + 1)))) s' := z
      obtain ⟨rfl, z2⟩ := z1
      first
        | exact wpAny_pure (wpAny_pure z2)
        | (wp_walk; exact z2)
    | next => exact False.elim z
    | brk => exact False.elim z
    | cont => exact False.elim z
theorem call_clsK (Fb : ExcBaseFacts B nI iI bB) (same : ∀ Y : String, b2.contains (.type Y) = bB.contains (.type Y)) {vs : List Value} {kw : List (Str × Value)} {fI : Addr}
    (oC : hp.get? C = some (excClassObj cn cq C NN b1 b2 hdc sns sbs abs cl dd j0 j1 j2 j3 j5 nI)) (lI : W.Looks (model P W0) hp (typeLookup (.ref C) "__init__") (some (.ref fI))) (bI : ∀ x, W.Looks (model P W0) hp (bindSpecial (.ref fI) x) (.ref fI, [x])) (lv : vs.length ≤ sizeLine)
    (hq : codeAny (model P W0) (Ar.under (.builtin "type.__call__" ⟨.ref C :: vs, kw⟩)) (.call (.ref fI) ⟨.ref (hp.objs.size + 1) :: vs, kw⟩) (W.InitBack (hp.objs.size + 1) R) ⟨(hp.push (W.kdv_tup vs)).push (HandSPX.excO C hp.objs.size), gs, dr, tk, osS⟩) :
    codeAny (model P W0) Ar (.call (.ref C) ⟨vs, kw⟩) R ⟨hp, gs, dr, tk, osS⟩ := by
  have lk := tc_lookup
  have bd := tc_bind (.ref C)
  have ty : (⟨hp, gs, dr, tk, osS⟩ : Shared).TypeIs (.ref C) "type" := ⟨_, oC, rfl⟩
  refine codeAny_of_tree ?_
  show wpAny _ _ (callAny (.ref C) ⟨vs, kw⟩) _ _ _
  repeat (any_goals (first | assumption | (with_reducible refine wpAny_loadPart_at oC ?_) | wp_step))
  refine ⟨rfl, ?_⟩
  refine codeAny_call_builtin_at (Code.quiet_builtin _ (by decide +kernel)) entry_typeCall (chk_typeK oC (go_typeK Fb same oC lI bI lv ?_))
  refine codeAny_mono hq fun r s' z => ?_
  cases r with
  | error er => exact z
  | ok fl => cases fl <;> exact z
end
section
open PySem.Spec PyProof.Rows L2
variable {X : Cx} {CX : CXT} {k n : Nat} {C fI : Addr} {fd : FuncData} {ps ks : List Str} {sp : Sp} {x : Str} {p pos : Pos} {e : Expr} {es : List Expr} {kws : List Keyword} {ta tz : TA} {g : List Value → List Value → List Value} {gV : List V → List V → List V}
/-! ### an own error as a value: C(e, .., f = v, ..) -/
def tMkV (C : Addr) (n m : Nat) (sp : Sp) (gV : List V → List V → List V) (ta tz : TA) : TE := fun σ H Q => ta σ H fun vs H1 => tz σ H1 fun zs H2 => vs.length = n ∧ zs.length = m ∧ ∀ a, H2 a = none → sp (gV (.ref a :: vs) zs) (upd H2 a (exo a C none)) (fun v H3 => v = .non ∧ Q (.ref a) H3) (fun _ _ _ => False)
theorem run_mkV {pins : List (Addr × Obj)} {σ : L2.St} {H : Hp} {s : Shared} {Q : VK} {us ws : List Value} {vs zs : List V} (T : OexC X.K C) (iC : PySem.W.findIn X.K (.ref C) "__init__" = some (some (.ref fI))) (tI : PySem.W.typeIn X.K (.ref fI) = some (.type "function"))
    (F1 : FnOk X.prog X.w X.K X.mg X.base CX k fI fd ps sp) (hr : Room (k + 1) X.A) (hb : KBn X.K fd ps (n + 1) ks g gV) (hn : n ≤ 1000) (hx : Passes CX X (fun _ _ _ => False)) (I : Inv X pins σ H s) (r : Vals vs us) (rz : Vals zs ws) (l1 : vs.length = n) (l2 : zs.length = ks.length)
    (h : ∀ a, H a = none → sp (gV (.ref a :: vs) zs) (upd H a (exo a C none)) (fun v H3 => v = .non ∧ Q (.ref a) H3) (fun _ _ _ => False)) :
    wpAny (model X.prog X.w) X.A (call (.ref C) us (ks.zip ws)) (EP X pins σ Q) X.xe s := by
  obtain ⟨cn, cq, NS, b1, b2, sns, sbs, abs, cl, dd, j0, j1, j2, j3, j5, oC, hbm⟩ := T.cls
  obtain ⟨hp, gs, dr, tk, osS⟩ := s
  have hsz : hp.objs.size ≤ hp.objs.size + 1 := Nat.le_succ _
  have hq := h (hp.objs.size + 1) (I.hok.fresh hsz)
  have kp : ∀ b o, hp.get? b = some o → ((hp.push (PySem.W.kdv_tup us)).push (PySem.HandSPX.excO C hp.objs.size)).get? b = some o := fun b o z => Heap.get?_push_of_some _ (Heap.get?_push_of_some _ z)
  have at1 : ((hp.push (PySem.W.kdv_tup us)).push (PySem.HandSPX.excO C hp.objs.size)).get? (hp.objs.size + 1) = some (PySem.HandSPX.excO C hp.objs.size) := by heap_get
  have I2 : Inv X pins σ (upd H (hp.objs.size + 1) (exo (hp.objs.size + 1) C none)) ⟨(hp.push (PySem.W.kdv_tup us)).push (PySem.HandSPX.excO C hp.objs.size), gs, dr, tk, osS⟩ :=
    I.laid (t' := tk) (a := hp.objs.size + 1) (o := exo (hp.objs.size + 1) C none) (h' := (hp.push (PySem.W.kdv_tup us)).push (PySem.HandSPX.excO C hp.objs.size)) kp hsz (exo_ok at1)
  have r1 : Vals (V.ref (hp.objs.size + 1) :: vs) (Value.ref (hp.objs.size + 1) :: us) := .cons rfl r
  have r2 := hb.rel r1 rz
  have lu : us.length = n := r.length.symm.trans l1
  have hus : us.length ≤ sizeLine := by
    rw [lu, sizeLine_eq]
    omega
  refine wpAny_call (call_clsK F.excBase_ValueError (fun Y => PySem.HandSPX.refsVE_contains Y b2 hbm) (I.kIn _ _ oC) (PySem.W.looks_findIn I.kIn iC) (fun z => PySem.W.bind_fn I.kIn z tI) hus
    (codeAny_mono (F1.run _ X.stack _ _ ⟨Value.ref (hp.objs.size + 1) :: us, ks.zip ws⟩ (g (Value.ref (hp.objs.size + 1) :: us) ws) _ _ (fun _ _ _ => False) (hr.make C us (ks.zip ws)) (I2.env0.make C us (ks.zip ws))
      (hb.to _ (Value.ref (hp.objs.size + 1) :: us) ws I2.kIn (congrArg Nat.succ lu) (rz.length.symm.trans l2)) r2 hq) fun r s' hq' => ?_))
  cases r with
  | error er => exact hx pins σ _ _ er s' I2 hq'
  | ok fl =>
    cases fl with
    | ret u =>
      obtain ⟨v, H', I3, rv, ev, q3⟩ := I2.after hq'
      subst ev
      exact ⟨rv, ⟨V.ref (hp.objs.size + 1), H', I3, rfl, q3⟩⟩
    | next => exact False.elim hq'
    | brk => exact False.elim hq'
    | cont => exact False.elim hq'
theorem pe_mkV (T : OexC X.K C) (iC : PySem.W.findIn X.K (.ref C) "__init__" = some (some (.ref fI))) (tI : PySem.W.typeIn X.K (.ref fI) = some (.type "function")) (F1 : FnOk X.prog X.w X.K X.mg X.base CX k fI fd ps sp) (hr : Room (k + 1) X.A) (hg : Gl X x) (hm : X.mg x = some (.ref C))
    (hb : KBn X.K fd ps (n + 1) ks g gV) (hn : n ≤ 1000) (hx : Passes CX X (fun _ _ _ => False)) (ha : PA X (e :: es) ta) (hz : PK X kws tz) (hall : (backToKw pos (keywordEach kws X.env)).all (·.1.isSome) = true := by rfl) (hks : (backToKw pos (keywordEach kws X.env)).filterMap (·.1) = ks := by rfl)
    (hdb : (x == ("__debug__" : Str)) = false := by decide) (he : starEach (e :: es) X.env = (false, eval e X.env) :: starEach es X.env := by rfl) (hpl : ((backTo pos (starEach (e :: es) X.env)).any (·.1) || (backToKw pos (keywordEach kws X.env)).any (·.1.isNone)) = false := by rfl) :
    PE X (.Call (.Name x p) (e :: es) kws pos) (tMkV C n ks.length sp gV ta tz) := by
  refine ⟨fun pins s σ H Q I h => ?_⟩
  refine wpAny_Call_Name_kw (ld_glob I hg hm ?_ hdb)
  refine PySem.W.callWith_KW (h₀ := X.base) I.ok.mod.kin T.kC hall (thn (ha.run pos pins s σ H _ I h) fun us s1 ⟨vs, H1, I1, r, q⟩ => ?_) hpl he
  refine thn (hz.run pos pins s1 σ H1 _ I1 q) fun ws s2 ⟨zs, H2, I2, rz, l1, l2, q2⟩ => ⟨I2.kIn, ?_⟩
  rw [hks]
  exact run_mkV T iC tI F1 hr hb hn hx I2 r rz l1 l2 q2
theorem pe_mkV0 (T : OexC X.K C) (iC : PySem.W.findIn X.K (.ref C) "__init__" = some (some (.ref fI))) (tI : PySem.W.typeIn X.K (.ref fI) = some (.type "function")) (F1 : FnOk X.prog X.w X.K X.mg X.base CX k fI fd ps sp) (hr : Room (k + 1) X.A) (hg : Gl X x) (hm : X.mg x = some (.ref C))
    (hb : KBn X.K fd ps 1 ks g gV) (hx : Passes CX X (fun _ _ _ => False)) (hz : PK X kws tz) (hall : (backToKw pos (keywordEach kws X.env)).all (·.1.isSome) = true := by rfl) (hks : (backToKw pos (keywordEach kws X.env)).filterMap (·.1) = ks := by rfl)
    (hdb : (x == ("__debug__" : Str)) = false := by decide) (hpl : ((backTo pos (starEach [] X.env)).any (·.1) || (backToKw pos (keywordEach kws X.env)).any (·.1.isNone)) = false := by rfl) :
    PE X (.Call (.Name x p) [] kws pos) (tMkV C 0 ks.length sp gV tNil tz) := by
  refine ⟨fun pins s σ H Q I h => ?_⟩
  refine wpAny_Call_Name_kw (ld_glob I hg hm ?_ hdb)
  refine PySem.W.callWith_KW0 (h₀ := X.base) I.ok.mod.kin T.kC hall ?_ hpl
  refine thn (hz.run pos pins s σ H _ I h) fun ws s2 ⟨zs, H2, I2, rz, l1, l2, q2⟩ => ⟨I2.kIn, ?_⟩
  rw [hks]
  exact run_mkV (us := []) (vs := []) T iC tI F1 hr hb (Nat.zero_le _) hx I2 .nil rz rfl l2 q2
/-- C(), no `__init__` of its own -/
theorem pe_mkV00 (hB : x0B X.K C = true) (gC : X.mg x = some (.ref C)) (hg : Gl X x) (hdb : (x == ("__debug__" : Str)) = false := by decide) : PE X (.Call (.Name x p) [] [] pos) (fun σ H Q => ∀ a, H a = none → Q (.ref a) (upd H a (exo a C none))) := by
  unfold x0B at hB
  simp only [Bool.and_eq_true, beq_iff_eq] at hB
  obtain ⟨q, kC, b1, b2⟩ := hB
  refine ⟨fun pins s σ H Q I h => ?_⟩
  refine wpAny_Call_Name_kw (ld_glob I hg gC ?_ hdb)
  refine PySem.W.callWith_K0 I.kIn kC ?_
  obtain ⟨_, N, _, _, _, _, _, _, _, _, _, _, _, _, _, _, mN, oC, oN, nI, tl⟩ := exc_obj I.kIn q
  refine wpAny_call_exc_subT PySem.F.excBase_ValueError tl oC oN nI (fun h' a hm => ?_) (by show 0 ≤ sizeLine; rw [sizeLine_eq]; omega)
  have hn : H a = none := I.hok.gone hm.new
  obtain ⟨t, ht, _, _⟩ := hm.there
  exact ⟨.ref a, upd H a (exo a C none), I.laidN hm.keeps hm.new hn (exo_ok ht), rfl, h a hn⟩
/-! ### raise C(f = v, ..) -/
def tMkOK (C : Addr) (m : Nat) (sp : Sp) (gV : List V → List V → List V) (tz : TA) : L2.St → Hp → XK → Prop := fun σ H Q => tz σ H fun zs H1 => zs.length = m ∧ ∀ a, H1 a = none → sp (gV [.ref a] zs) (upd H1 a (exo a C none))
  (fun v H2 => v = .non ∧ ∃ (d : Addr) (fs : List (Str × V)), H2 a = some (exo a C (some d)) ∧ H2 d = some (exd d fs) ∧ H1 d = none ∧ Q (.ref C) (some d) (upd (del H2 a) d (.xd fs))) (fun _ _ _ => False)
theorem pmk_oexK (T : OexC X.K C) (iC : PySem.W.findIn X.K (.ref C) "__init__" = some (some (.ref fI))) (tI : PySem.W.typeIn X.K (.ref fI) = some (.type "function")) (F1 : FnOk X.prog X.w X.K X.mg X.base CX k fI fd ps sp) (hr : Room (k + 1) X.A) (hg : Gl X x) (hm : X.mg x = some (.ref C))
    (hb : KBn X.K fd ps 1 ks g gV) (hx : Passes CX X (fun _ _ _ => False)) (hz : PK X kws tz) (hall : (backToKw pos (keywordEach kws X.env)).all (·.1.isSome) = true := by rfl) (hks : (backToKw pos (keywordEach kws X.env)).filterMap (·.1) = ks := by rfl)
    (hdb : (x == ("__debug__" : Str)) = false := by decide) (hpl : ((backTo pos (starEach [] X.env)).any (·.1) || (backToKw pos (keywordEach kws X.env)).any (·.1.isNone)) = false := by rfl) :
    PMk X (.Call (.Name x p) [] kws pos) (tMkOK C ks.length sp gV tz) := by
  intro pins s σ H Q I h
  obtain ⟨cn, cq, NS, b1, b2, sns, sbs, abs, cl, dd, j0, j1, j2, j3, j5, oC, hbm⟩ := T.cls
  refine wpAny_Call_Name_kw (ld_glob I hg hm ?_ hdb)
  refine PySem.W.callWith_KW0 (h₀ := X.base) I.ok.mod.kin T.kC hall ?_ hpl
  refine thn (hz.run pos pins s σ H _ I h) fun ws s1 ⟨zs, H1, I1, rz, l2, q1⟩ => ⟨I1.kIn, ?_⟩
  rw [hks]
  obtain ⟨hp, gs, dr, tk, osS⟩ := s1
  have hsz : hp.objs.size ≤ hp.objs.size + 1 := Nat.le_succ _
  have hq := q1 (hp.objs.size + 1) (I1.hok.fresh hsz)
  have kp : ∀ b o, hp.get? b = some o → ((hp.push (PySem.W.kdv_tup [])).push (PySem.HandSPX.excO C hp.objs.size)).get? b = some o := fun b o z => Heap.get?_push_of_some _ (Heap.get?_push_of_some _ z)
  have at1 : ((hp.push (PySem.W.kdv_tup [])).push (PySem.HandSPX.excO C hp.objs.size)).get? (hp.objs.size + 1) = some (PySem.HandSPX.excO C hp.objs.size) := by heap_get
  have I2 : Inv X pins σ (upd H1 (hp.objs.size + 1) (exo (hp.objs.size + 1) C none)) ⟨(hp.push (PySem.W.kdv_tup [])).push (PySem.HandSPX.excO C hp.objs.size), gs, dr, tk, osS⟩ :=
    I1.laid (t' := tk) (a := hp.objs.size + 1) (o := exo (hp.objs.size + 1) C none) (h' := (hp.push (PySem.W.kdv_tup [])).push (PySem.HandSPX.excO C hp.objs.size)) kp hsz (exo_ok at1)
  have r1 : Vals [V.ref (hp.objs.size + 1)] [Value.ref (hp.objs.size + 1)] := .cons rfl .nil
  have r2 := hb.rel r1 rz
  show wpAny _ _ (call (.ref C) [] (ks.zip ws)) _ _ _
  refine wpAny_call (call_clsK F.excBase_ValueError (fun Y => PySem.HandSPX.refsVE_contains Y b2 hbm) (I1.kIn _ _ oC) (PySem.W.looks_findIn I1.kIn iC) (fun z => PySem.W.bind_fn I1.kIn z tI) (Nat.zero_le _)
    (codeAny_mono (F1.run _ X.stack _ _ ⟨[Value.ref (hp.objs.size + 1)], ks.zip ws⟩ (g [Value.ref (hp.objs.size + 1)] ws) _ _ (fun _ _ _ => False) (hr.make C [] (ks.zip ws)) (I2.env0.make C [] (ks.zip ws))
      (hb.to _ [Value.ref (hp.objs.size + 1)] ws I2.kIn rfl (rz.length.symm.trans l2)) r2 hq) fun r s' hq' => ?_))
  cases r with
  | error er => exact hx pins σ _ _ er s' I2 hq'
  | ok fl =>
    cases fl with
    | ret u =>
      obtain ⟨v, H2, os2, bare2, un2, hok2, rv, ev, d, fs, ea, ed, hd1, q2⟩ := hq'
      subst ev
      obtain ⟨h2, g2, d2, t2, os'⟩ := s'
      exact ⟨rv, mk_end (raises_own T.exC T.tyC) I1 hsz kp un2 hok2 os2 bare2 ea ed hd1 q2⟩
    | next => exact False.elim hq'
    | brk => exact False.elim hq'
    | cont => exact False.elim hq'
/-! ### e.f of such a value -/
def tXfV (K : PySem.W.Frag) (f : Str) (te : TE) : TE := fun σ H Q => te σ H fun x H1 => ∃ (a C dx : Addr) (fs : List (Str × V)) (v : V), x = .ref a ∧ XfC K C ∧ PySem.W.findIn K (.ref C) f = some none ∧ H1 a = some (exo a C (some dx)) ∧ H1 dx = some (exd dx fs) ∧ fs.lookup f = some v ∧ Q v H1
theorem inst_exo {H : Hp} {s : Shared} {a dx : Addr} {fs : List (Str × V)} (hok : HOk X.prog X.w H s.heap) (ea : H a = some (exo a C (some dx))) (ed : H dx = some (exd dx fs)) :
    ∃ (ob od : Obj) (m : Str → Option Value), PySem.W.InstAt s.heap a ob C (some od) ∧ (∀ f, PySem.W.lookIn f od = some (m f)) ∧ ∀ f, RelO (fs.lookup f) (m f) := by
  obtain ⟨t1, ho⟩ := exo_at hok ea
  obtain ⟨mA, hns, hr⟩ := exd_at hok ed
  obtain ⟨od, hod, hl⟩ := lookIn_ns hns
  exact ⟨_, od, mA, ⟨ho, rfl, rfl, hod⟩, hl, hr⟩
theorem pe_xfV {te : TE} {f : Str} (he : PE X e te) (hb : attributeBase e f X.env (eval e X.env) = eval e X.env := by rfl) : PE X (.Attribute e f pos) (tXfV X.K f te) := by
  refine ⟨fun pins s σ H Q I h => ?_⟩
  refine attr_of hb (thn (he.run pins s σ H _ I h) fun u s1 hh => ?_)
  obtain ⟨x, H1, I1, rx, a, C, dx, fs, v, ex, T, hno, ea, ed, l, q⟩ := hh
  subst ex
  obtain rfl : u = Value.ref a := rx
  obtain ⟨ob, od, m, J, hl, hr⟩ := inst_exo I1.hok ea ed
  obtain ⟨u, hu, ru⟩ := RelO.some_of (v := v) (o := m f) (by rw [← l]; exact hr f)
  exact HandSPX.exc_get I1.kIn J T.ga T.gg T.exC (PySem.W.findObj_own T.hdC hno rfl (by rw [hl, hu])) (handed_of ru) ⟨v, H1, I1.tok _, ru, q⟩
/-! ### isinstance of such a value -/
def ErrV (H : Hp) (a C : Addr) : Prop := H a = some (exo a C none) ∨ ∃ (dx : Addr) (fs : List (Str × V)), H a = some (exo a C (some dx)) ∧ H dx = some (exd dx fs)
theorem kit_err {H : Hp} {s : Shared} {a : Addr} {pins : List (Addr × Obj)} {σ : L2.St} (T : XiC X.K C) (I : Inv X pins σ H s) (h : ErrV H a C) : ∃ P : Heap → Prop, PySem.W.KitX X.K (.ref a) (.ref C) P ∧ P s.heap := by
  rcases h with ea | ⟨dx, fs, ea, ed⟩
  · obtain ⟨t1, ho⟩ := exo_at I.hok ea
    exact ⟨_, PySem.W.kitx_exc T.cl T.ga T.gg T.exC T.ca T.hn T.tk T.mo, (⟨ho, rfl, rfl, trivial⟩ : PySem.W.InstAt s.heap a _ C none)⟩
  · obtain ⟨ob, od, m, J, _⟩ := inst_exo I.hok ea ed
    exact ⟨_, PySem.W.kitx_exc T.cl T.ga T.gg T.exC T.ca T.hn T.tk T.mo, J⟩
def rIsV (K : PySem.W.Frag) : List V → Hp → VK → Prop := fun xs H Q => ∃ (a C : Addr) (c : V) (u : Value) (b : Bool), xs = [.ref a, c] ∧ ClsV c u ∧ XiC K C ∧ ErrV H a C ∧ PySem.W.kitOne K (.ref C) u = some b ∧ Q (.bl b) H
def rIsVT (K : PySem.W.Frag) : List V → Hp → VK → Prop := fun xs H Q => ∃ (a C tp : Addr) (cs : List V) (us : List Value) (b : Bool), xs = [.ref a, .ref tp] ∧ H tp = some (.tup cs) ∧ Paired ClsV cs us ∧ XiC K C ∧ ErrV H a C ∧ PySem.W.kitAny K (.ref C) us = some b ∧ Q (.bl b) H
theorem call_isV : CallR X (.builtin "isinstance") (rIsV X.K) := by
  intro pins s σ H xs us Q I r h
  obtain ⟨a, C, c, u, b, rfl, k, T, ev, e, q⟩ := h
  obtain ⟨u1, u2, rfl, r1, r2⟩ := vals2 r
  cases (show u1 = Value.ref a from r1)
  cases k.eq r2
  obtain ⟨P, Z, pz⟩ := kit_err T I ev
  exact PySem.W.kia_one Z I.kIn pz e (fun z => nomatch z) fun tk => ⟨.bl b, H, I.tok tk, rfl, q⟩
theorem call_isVT : CallR X (.builtin "isinstance") (rIsVT X.K) := by
  intro pins s σ H xs us Q I r h
  obtain ⟨a, C, tp, cs, ws, b, rfl, hT, k, T, ev, e, q⟩ := h
  obtain ⟨u1, u2, rfl, r1, r2⟩ := vals2 r
  cases (show u1 = Value.ref a from r1)
  cases (show u2 = Value.ref tp from r2)
  obtain ⟨P, Z, pz⟩ := kit_err T I ev
  obtain ⟨_, its, rv, o, h1, h2, n, h3⟩ := (show ObjOk X.prog X.w H s.heap tp (.tup cs) from I.hok tp _ hT)
  cases ClsV.all k rv
  obtain ⟨oc, od, dt, sl⟩ := o
  simp only at h2 h3
  cases h2
  cases h3
  exact PySem.W.kia_tup Z I.kIn pz h1 e (fun z => nomatch z) fun tk => ⟨.bl b, H, I.tok tk, rfl, q⟩
end
section
open PySem.Spec PyProof.Rows L2
/-- an error of an own class, held as a value -/
def errL (ct : String → Option Addr) (c : String) (f : Addr) (w : Wd) : Prop := ∃ C, ct c = some C ∧ ErrV w.F f C
theorem errL_mono (ct : String → Option Addr) (c : String) (f : Addr) (w w' : Wd) (le : w.le w') (h : errL ct c f w) : errL ct c f w' := by
  obtain ⟨C, h1, h2⟩ := h
  refine ⟨C, h1, ?_⟩
  rcases h2 with z | ⟨dx, fs, z1, z2⟩
  · exact .inl (le.f _ _ z)
  · exact .inr ⟨dx, fs, le.f _ _ z1, le.f _ _ z2⟩
theorem ErrV.sub {F H : Hp} {a C : Addr} (h : ErrV F a C) (sub : ∀ b o, F b = some o → H b = some o) : ErrV H a C := by
  rcases h with z | ⟨dx, fs, z1, z2⟩
  · exact .inl (sub _ _ z)
  · exact .inr ⟨dx, fs, sub _ _ z1, sub _ _ z2⟩
/-- what an own `__init__` leaves: the fields fl -/
def SpE (C : Addr) (fl : List Str) (sp : Sp) : Prop := ∀ (a : Addr) (ys : List V) (H : Hp) (Q : VK) (E : XK), ys.length = fl.length → H a = some (exo a C none) → (∀ dx, H dx = none → dx ≠ a → Q .non (upd (upd H dx (exd dx (fl.zip ys).reverse)) a (exo a C (some dx)))) → sp (.ref a :: ys) H Q E
theorem spE1 (C : Addr) (f : Str) : SpE C [f] (spX C f) := fun a ys H Q E hl ha h => by
  match ys, hl with
  | [y], _ => exact ⟨a, y, rfl, ha, h⟩
theorem spE2 (C : Addr) (f g : Str) : SpE C [f, g] (spX2 C f g) := fun a ys H Q E hl ha h => by
  match ys, hl with
  | [y, z], _ => exact ⟨a, y, z, rfl, ha, h⟩
section
variable {G : Gam} {W : WX} {X : Cx} {c : String} {C fI : Addr} {fd : FuncData} {ps ks fl : List Str} {sp : Sp} {n k : Nat} {x : Str} {p pos : Pos} {e : Expr} {es : List Expr} {kws : List Keyword} {fa fz : DA} {g : List Value → List Value → List Value} {gV : List V → List V → List V}
/-- C(..) as a value: its class -/
def eErr (c : String) (n m : Nat) (fa fz : DA) : DE := fun s => (fa s).bind fun ds s1 => (fz s1).bind fun zs s2 => if ds.length = n ∧ zs.length = m then .ok (.lam c) s2 else .stuck
/-- C(..).f: the i-th of the values handed in -/
def eErrF (n m i : Nat) (fa fz : DA) : DE := fun s => (fa s).bind fun ds s1 => (fz s1).bind fun zs s2 => if ds.length = n ∧ zs.length = m then (match (ds ++ zs)[i]? with | some d => .ok d s2 | none => .stuck) else .stuck
theorem Reps.at' {w : Wd} : ∀ {vs : List V} {ds : List D} {i : Nat} {d : D}, Reps G w vs ds → ds[i]? = some d → ∃ v, vs[i]? = some v ∧ Rep G w v d
  | _, _, 0, _, .cons a _, e => by cases e; exact ⟨_, rfl, a⟩
  | _, _, i + 1, _, .cons _ b, e => by
    obtain ⟨v, h1, h2⟩ := Reps.at' b (by simpa using e)
    exact ⟨v, by simpa using h1, h2⟩
theorem Reps.app' {w : Wd} : ∀ {vs : List V} {ds : List D} {us : List V} {es : List D}, Reps G w vs ds → Reps G w us es → Reps G w (vs ++ us) (ds ++ es)
  | _, _, _, _, .nil, b => b
  | _, _, _, _, .cons a r, b => .cons a (Reps.app' r b)
theorem err_ends {κ : Bs} {w : Wd} {s : DS} {σ : L2.St} {H : Hp} {ys : List V} {Q : VK} {E : XK} (hsp : SpE C fl sp) (hl : ys.length = fl.length) (ok : Ok G κ w s σ H)
    (h : ∀ (a dx : Addr) (w' : Wd) (H' : Hp), w.le w' → Ok G κ w' s σ H' → w'.F a = some (exo a C (some dx)) → w'.F dx = some (exd dx (fl.zip ys).reverse) → Q (.ref a) H') (a : Addr) (ha : H a = none) :
    sp (.ref a :: ys) (upd H a (exo a C none)) (fun v H3 => v = .non ∧ Q (.ref a) H3) E := by
  refine hsp a ys _ _ _ hl upd_same fun dx h1 h2 => ⟨rfl, ?_⟩
  rw [upd_ne h2] at h1
  have eH : upd (upd (upd H a (exo a C none)) dx (exd dx (fl.zip ys).reverse)) a (exo a C (some dx)) = upd (upd H dx (exd dx (fl.zip ys).reverse)) a (exo a C (some dx)) := by
    funext b
    by_cases hb : b = a
    · rw [hb, upd_same, upd_same]
    · rw [upd_ne hb, upd_ne hb]
      by_cases hd : b = dx
      · rw [hd, upd_same, upd_same]
      · rw [upd_ne hd, upd_ne hd, upd_ne hb]
  rw [eH]
  obtain ⟨le1, ok1⟩ := ok.alloc h1 (exd dx (fl.zip ys).reverse)
  obtain ⟨le2, ok2⟩ := ok1.alloc (p := a) (by rw [upd_ne (Ne.symm h2)]; exact ha) (exo a C (some dx))
  exact h a dx _ _ (le1.trans le2) ok2 upd_same (le2.f _ _ upd_same)
theorem pd_err (tk : Takes X W) (T : XCls G X.K c C fI) (hL : G.lam = errL G.ct) (F1 : FnOk X.prog X.w X.K X.mg X.base (L2.CX X.prog X.w) k fI fd ps sp) (hsp : SpE C fl sp) (hr : Room (k + 1) X.A) (hg : Gl X x) (hm : X.mg x = some (.ref C)) (hb : KBn X.K fd ps (n + 1) ks g gV) (hn : n ≤ 1000)
    (hy : ∀ (a : Addr) (vs zs : List V), vs.length = n → zs.length = ks.length → ∃ ys, gV (.ref a :: vs) zs = .ref a :: ys ∧ ys.length = fl.length) (ha : PDA G W X (e :: es) fa) (hz : PK X kws (tDA G W fz))
    (hall : (backToKw pos (keywordEach kws X.env)).all (·.1.isSome) = true := by rfl) (hks : (backToKw pos (keywordEach kws X.env)).filterMap (·.1) = ks := by rfl)
    (hdb : (x == ("__debug__" : Str)) = false := by decide) (he : starEach (e :: es) X.env = (false, eval e X.env) :: starEach es X.env := by rfl) (hpl : ((backTo pos (starEach (e :: es) X.env)).any (·.1) || (backToKw pos (keywordEach kws X.env)).any (·.1.isNone)) = false := by rfl) :
    PD G W X (.Call (.Name x p) (e :: es) kws pos) (eErr c n ks.length fa fz) :=
  (pe_mkV T.cls T.ini T.ty F1 hr hg hm hb hn (passes_call tk fun _ _ _ _ z => z.elim) ha hz hall hks hdb he hpl).imp fun σ H Q ⟨κ, w, s, ok, q⟩ => ⟨κ, w, s, ok, (PostG.bind q).imp fun vs H1 ⟨ds, s1, w1, le, ok1, rs, q1⟩ => ⟨κ, w1, s1, ok1, (PostG.bind q1).imp fun zs H2 ⟨es', s2, w2, le2, ok2, rz, q2⟩ => by
    by_cases hl : ds.length = n ∧ es'.length = ks.length
    · rw [if_pos hl] at q2
      have l1 := rs.length.trans hl.1
      have l2 := rz.length.trans hl.2
      refine ⟨l1, l2, fun a ha => ?_⟩
      obtain ⟨ys, e1, e2⟩ := hy a vs zs l1 l2
      rw [e1]
      exact err_ends (G := G) (Q := Q) hsp e2 ok2 (fun a dx w' H' le3 ok3 f1 f2 => q2 w' _ H' le3 ok3 (.lam (by rw [hL]; exact ⟨C, T.ct, .inr ⟨dx, _, f1, f2⟩⟩))) a ha
    · rw [if_neg hl] at q2
      exact q2.elim⟩⟩
theorem pd_errF {f : Str} {pos2 : Pos} {i : Nat} (tk : Takes X W) (T : XCls G X.K c C fI) (hF : XfC X.K C) (hno : PySem.W.findIn X.K (.ref C) f = some none) (F1 : FnOk X.prog X.w X.K X.mg X.base (L2.CX X.prog X.w) k fI fd ps sp) (hsp : SpE C fl sp) (hr : Room (k + 1) X.A) (hg : Gl X x) (hm : X.mg x = some (.ref C)) (hb : KBn X.K fd ps (n + 1) ks g gV) (hn : n ≤ 1000)
    (hy : ∀ (a : Addr) (vs zs : List V), vs.length = n → zs.length = ks.length → ∃ ys, gV (.ref a :: vs) zs = .ref a :: ys ∧ ys.length = fl.length ∧ (fl.zip ys).reverse.lookup f = (vs ++ zs)[i]?) (ha : PDA G W X (e :: es) fa) (hz : PK X kws (tDA G W fz))
    (hall : (backToKw pos (keywordEach kws X.env)).all (·.1.isSome) = true := by rfl) (hks : (backToKw pos (keywordEach kws X.env)).filterMap (·.1) = ks := by rfl)
    (hdb : (x == ("__debug__" : Str)) = false := by decide) (he : starEach (e :: es) X.env = (false, eval e X.env) :: starEach es X.env := by rfl) (hpl : ((backTo pos (starEach (e :: es) X.env)).any (·.1) || (backToKw pos (keywordEach kws X.env)).any (·.1.isNone)) = false := by rfl)
    (hab : attributeBase (.Call (.Name x p) (e :: es) kws pos) f X.env (eval (.Call (.Name x p) (e :: es) kws pos) X.env) = eval (.Call (.Name x p) (e :: es) kws pos) X.env := by rfl) :
    PD G W X (.Attribute (.Call (.Name x p) (e :: es) kws pos) f pos2) (eErrF n ks.length i fa fz) :=
  (pe_xfV (pe_mkV T.cls T.ini T.ty F1 hr hg hm hb hn (passes_call tk fun _ _ _ _ z => z.elim) ha hz hall hks hdb he hpl) hab).imp fun σ H Q ⟨κ, w, s, ok, q⟩ => ⟨κ, w, s, ok, (PostG.bind q).imp fun vs H1 ⟨ds, s1, w1, le, ok1, rs, q1⟩ => ⟨κ, w1, s1, ok1, (PostG.bind q1).imp fun zs H2 ⟨es', s2, w2, le2, ok2, rz, q2⟩ => by
    by_cases hl : ds.length = n ∧ es'.length = ks.length
    · rw [if_pos hl] at q2
      have l1 := rs.length.trans hl.1
      have l2 := rz.length.trans hl.2
      refine ⟨l1, l2, fun a ha => ?_⟩
      obtain ⟨ys, e1, e2, e3⟩ := hy a vs zs l1 l2
      rw [e1]
      cases hd : (ds ++ es')[i]? with
      | none => rw [hd] at q2; exact q2.elim
      | some d =>
        rw [hd] at q2
        obtain ⟨v, hv, rv⟩ := Reps.at' (Reps.app' (rs.mono le2) rz) hd
        refine err_ends (G := G) (Q := fun x H1 => ∃ (a C dx : Addr) (fs : List (Str × V)) (v : V), x = .ref a ∧ XfC X.K C ∧ PySem.W.findIn X.K (.ref C) f = some none ∧ H1 a = some (exo a C (some dx)) ∧ H1 dx = some (exd dx fs) ∧ fs.lookup f = some v ∧ Q v H1) hsp e2 ok2 (fun a dx w' H' le3 ok3 f1 f2 => ?_) a ha
        exact ⟨a, C, dx, _, v, rfl, hF, hno, ok3.fok.sub _ _ f1, ok3.fok.sub _ _ f2, by rw [e3]; exact hv, q2 w' v H' le3 ok3 (rv.mono le3)⟩
    · rw [if_neg hl] at q2
      exact q2.elim⟩⟩
theorem pd_err0 (tk : Takes X W) (T : XCls G X.K c C fI) (hL : G.lam = errL G.ct) (F1 : FnOk X.prog X.w X.K X.mg X.base (L2.CX X.prog X.w) k fI fd ps sp) (hsp : SpE C fl sp) (hr : Room (k + 1) X.A) (hg : Gl X x) (hm : X.mg x = some (.ref C)) (hb : KBn X.K fd ps 1 ks g gV)
    (hy : ∀ (a : Addr) (zs : List V), zs.length = ks.length → ∃ ys, gV [.ref a] zs = .ref a :: ys ∧ ys.length = fl.length) (hz : PK X kws (tDA G W fz))
    (hall : (backToKw pos (keywordEach kws X.env)).all (·.1.isSome) = true := by rfl) (hks : (backToKw pos (keywordEach kws X.env)).filterMap (·.1) = ks := by rfl)
    (hdb : (x == ("__debug__" : Str)) = false := by decide) (hpl : ((backTo pos (starEach [] X.env)).any (·.1) || (backToKw pos (keywordEach kws X.env)).any (·.1.isNone)) = false := by rfl) :
    PD G W X (.Call (.Name x p) [] kws pos) (eErr c 0 ks.length aNil fz) :=
  (pe_mkV0 T.cls T.ini T.ty F1 hr hg hm hb (passes_call tk fun _ _ _ _ z => z.elim) hz hall hks hdb hpl).imp fun σ H Q ⟨κ, w1, s1, ok1, q1⟩ => ⟨κ, w1, s1, ok1, (PostG.bind (rep := Reps G) (show PostG G W (Rep G) κ w1 σ ((fz s1).bind fun zs s2 => if zs.length = ks.length then .ok (.lam c) s2 else .stuck) Q by simpa [eErr, aNil] using q1)).imp fun zs H2 ⟨es', s2, w2, le2, ok2, rz, q2⟩ => by
    by_cases hl : es'.length = ks.length
    · rw [if_pos hl] at q2
      have l2 := rz.length.trans hl
      refine ⟨rfl, l2, fun a ha => ?_⟩
      obtain ⟨ys, e1, e2⟩ := hy a zs l2
      rw [e1]
      exact err_ends (G := G) (Q := Q) hsp e2 ok2 (fun a dx w' H' le3 ok3 f1 f2 => q2 w' _ H' le3 ok3 (.lam (by rw [hL]; exact ⟨C, T.ct, .inr ⟨dx, _, f1, f2⟩⟩))) a ha
    · rw [if_neg hl] at q2
      exact q2.elim⟩
theorem pd_errF0 {f : Str} {pos2 : Pos} {i : Nat} (tk : Takes X W) (T : XCls G X.K c C fI) (hF : XfC X.K C) (hno : PySem.W.findIn X.K (.ref C) f = some none) (F1 : FnOk X.prog X.w X.K X.mg X.base (L2.CX X.prog X.w) k fI fd ps sp) (hsp : SpE C fl sp) (hr : Room (k + 1) X.A) (hg : Gl X x) (hm : X.mg x = some (.ref C)) (hb : KBn X.K fd ps 1 ks g gV)
    (hy : ∀ (a : Addr) (zs : List V), zs.length = ks.length → ∃ ys, gV [.ref a] zs = .ref a :: ys ∧ ys.length = fl.length ∧ (fl.zip ys).reverse.lookup f = zs[i]?) (hz : PK X kws (tDA G W fz))
    (hall : (backToKw pos (keywordEach kws X.env)).all (·.1.isSome) = true := by rfl) (hks : (backToKw pos (keywordEach kws X.env)).filterMap (·.1) = ks := by rfl)
    (hdb : (x == ("__debug__" : Str)) = false := by decide) (hpl : ((backTo pos (starEach [] X.env)).any (·.1) || (backToKw pos (keywordEach kws X.env)).any (·.1.isNone)) = false := by rfl)
    (hab : attributeBase (.Call (.Name x p) [] kws pos) f X.env (eval (.Call (.Name x p) [] kws pos) X.env) = eval (.Call (.Name x p) [] kws pos) X.env := by rfl) :
    PD G W X (.Attribute (.Call (.Name x p) [] kws pos) f pos2) (eErrF 0 ks.length i aNil fz) :=
  (pe_xfV (pe_mkV0 T.cls T.ini T.ty F1 hr hg hm hb (passes_call tk fun _ _ _ _ z => z.elim) hz hall hks hdb hpl) hab).imp fun σ H Q ⟨κ, w1, s1, ok1, q1⟩ => ⟨κ, w1, s1, ok1, (PostG.bind (rep := Reps G) (show PostG G W (Rep G) κ w1 σ ((fz s1).bind fun zs s2 => if zs.length = ks.length then (match zs[i]? with | some d => .ok d s2 | none => .stuck) else .stuck) Q by simpa [eErrF, aNil] using q1)).imp fun zs H2 ⟨es', s2, w2, le2, ok2, rz, q2⟩ => by
    by_cases hl : es'.length = ks.length
    · rw [if_pos hl] at q2
      have l2 := rz.length.trans hl
      refine ⟨rfl, l2, fun a ha => ?_⟩
      obtain ⟨ys, e1, e2, e3⟩ := hy a zs l2
      rw [e1]
      cases hd : es'[i]? with
      | none => rw [hd] at q2; exact q2.elim
      | some d =>
        rw [hd] at q2
        obtain ⟨v, hv, rv⟩ := Reps.at' rz hd
        refine err_ends (G := G) (Q := fun x H1 => ∃ (a C dx : Addr) (fs : List (Str × V)) (v : V), x = .ref a ∧ XfC X.K C ∧ PySem.W.findIn X.K (.ref C) f = some none ∧ H1 a = some (exo a C (some dx)) ∧ H1 dx = some (exd dx fs) ∧ fs.lookup f = some v ∧ Q v H1) hsp e2 ok2 (fun a dx w' H' le3 ok3 f1 f2 => ?_) a ha
        exact ⟨a, C, dx, _, v, rfl, hF, hno, ok3.fok.sub _ _ f1, ok3.fok.sub _ _ f2, by rw [e3]; exact hv, q2 w' v H' le3 ok3 (rv.mono le3)⟩
    · rw [if_neg hl] at q2
      exact q2.elim⟩
/-- C(), no `__init__` of its own -/
theorem pd_errN (hL : G.lam = errL G.ct) (hct : G.ct c = some C) (hB : x0B X.K C = true) (hg : Gl X x) (hm : X.mg x = some (.ref C)) (hdb : (x == ("__debug__" : Str)) = false := by decide) : PD G W X (.Call (.Name x p) [] [] pos) (eC (.lam c)) :=
  (pe_mkV00 hB hm hg hdb).imp fun σ H Q ⟨κ, w, s, ok, q⟩ => fun a ha => by
    obtain ⟨le, ok1⟩ := ok.alloc ha (exo a C none)
    exact q _ _ _ le ok1 (.lam (by rw [hL]; exact ⟨C, hct, .inl upd_same⟩))
/-- raise C(f = v) -/
theorem pds_raiseK {fn : Nm} {f : Str} {pos' : Pos} (hc : X.calm = true) (tk : Takes X W) (T : XCls G X.K c C fI) (F1 : FnOk X.prog X.w X.K X.mg X.base (L2.CX X.prog X.w) 1 fI fd ps (spX C f)) (hf : f = nm fn) (hr : Room 2 X.A) (hg : Gl X x) (hm : X.mg x = some (.ref C)) (hb : KBn X.K fd ps 1 [f] g gV)
    (hy : ∀ (a : Addr) (z : V), gV [.ref a] [z] = [.ref a, z]) (hz : PK X kws (tDA G W fz))
    (hall : (backToKw pos (keywordEach kws X.env)).all (·.1.isSome) = true := by rfl) (hks : (backToKw pos (keywordEach kws X.env)).filterMap (·.1) = [f] := by rfl)
    (hdb : (x == ("__debug__" : Str)) = false := by decide) (hpl : ((backTo pos (starEach [] X.env)).any (·.1) || (backToKw pos (keywordEach kws X.env)).any (·.1.isNone)) = false := by rfl) :
    PDS G W X (.Raise (some (.Call (.Name x p) [] kws pos)) none pos') (sRaise c fn fz) :=
  (ps_raise hc tk (pmk_oexK (CX := L2.CX X.prog X.w) T.cls T.ini T.ty F1 hr hg hm hb (passes_call tk fun _ _ _ _ z => z.elim) hz hall hks hdb hpl)).imp fun N σ H ⟨κ, w, s, ok, q⟩ => ⟨κ, w, s, ok, (PostG.bindS q).imp fun vs H1 ⟨ds, s1, w1, le, ok1, rs, q1⟩ => by
    match ds, q1 with
    | [d], q1 =>
      cases rs with
      | @cons v _ vs' _ r rs =>
      cases rs
      refine ⟨rfl, fun a ha => ?_⟩
      rw [hy]
      refine ⟨a, v, rfl, upd_same, fun dx h1 h2 => ⟨rfl, dx, [(f, v)], ?_, ?_, ?_, ?_⟩⟩
      · exact upd_same
      · rw [upd_ne h2, upd_same]
      · rw [upd_ne h2] at h1; exact h1
      · rw [upd_ne h2] at h1
        have eH : upd (del (upd (upd (upd H1 a (exo a C none)) dx (exd dx [(f, v)])) a (exo a C (some dx))) a) dx (.xd [(f, v)]) = upd H1 dx (.xd [(f, v)]) := by
          funext b
          by_cases hb : b = dx
          · rw [hb, upd_same, upd_same]
          · rw [upd_ne hb, upd_ne hb]
            by_cases hba : b = a
            · rw [hba, del_same, ha]
            · rw [del_ne hba, upd_ne hba, upd_ne hb, upd_ne hba]
        rw [eH]
        obtain ⟨le2, ok2⟩ := ok1.alloc h1 (.xd [(f, v)])
        exact q1 _ σ (.ref C) (some dx) _ le2 ok2 ⟨C, T.ct, rfl, .inr ⟨dx, [(f, v)], rfl, upd_same, by subst hf; exact .cons (r.mono le2) .nil⟩⟩
    | [], q1 => exact q1.elim
    | _ :: _ :: _, q1 => exact q1.elim⟩
end
theorem lk_skip {f g : Str} {y z : V} (h : (f == g) = false) : ([(g, z), (f, y)] : List (Str × V)).lookup f = some y := by simp [List.lookup, h]
/-! ### how they bind -/
theorem kbn_pos {K : PySem.W.Frag} {fd : FuncData} {ps : List Str} {n : Nat} (hb : Binds K fd ps []) (hl : ps.length = n + 1) : KBn K fd ps (n + 1) [] (fun us _ => us) (fun vs _ => vs) :=
  ⟨fun s us ws I h1 h2 => by
    have := hb s us I (by rw [List.append_nil, h1, hl])
    rw [List.append_nil] at this
    exact this, fun r _ => r⟩
theorem kbn_kw {K : PySem.W.Frag} {fd : FuncData} {ps ks : List Str} {n : Nat} (h : ∀ us ws : List Value, us.length = n → ws.length = ks.length → bindArgs fd ⟨us, ks.zip ws⟩ = pure (ps.zip (us ++ ws))) : KBn K fd ps n ks (fun us ws => us ++ ws) (fun vs zs => vs ++ zs) :=
  ⟨fun s us ws _ h1 h2 => BindsTo.of_looks fun M => .of_pure (h us ws h1 h2), fun r1 r2 => r1.append r2⟩
theorem kbn_rev {K : PySem.W.Frag} {fd : FuncData} {ps ks : List Str} {n : Nat} (h : ∀ us ws : List Value, us.length = n → ws.length = ks.length → bindArgs fd ⟨us, ks.zip ws⟩ = pure (ps.zip (us ++ ws.reverse))) : KBn K fd ps n ks (fun us ws => us ++ ws.reverse) (fun vs zs => vs ++ zs.reverse) :=
  ⟨fun s us ws _ h1 h2 => BindsTo.of_looks fun M => .of_pure (h us ws h1 h2), fun r1 r2 => r1.append (vals_rev r2)⟩
/-! ### isinstance -/
def eiB (K : PySem.W.Frag) (l : List (String × Addr)) : Bool := l.all fun p => xiB K p.2 && (PySem.W.kitOne K (.ref p.2) (.type "ValueError") == some true) && l.all fun q => PySem.W.kitOne K (.ref p.2) (.ref q.2) == some (p.1 == q.1 || q.1 == "WalkError")
structure EiOk (G : Gam) (es : List String) : Prop where
  ex : ∃ l : List (String × Addr), l.map (·.1) = es ∧ eiB G.K l = true ∧ ∀ p ∈ l, G.ct p.1 = some p.2
  lam : G.lam = errL G.ct
theorem EiOk.one {G : Gam} {es : List String} (h : EiOk G es) {c : String} {C : Addr} (hc : c ∈ es) (hC : G.ct c = some C) : XiC G.K C ∧ PySem.W.kitOne G.K (.ref C) (.type "ValueError") = some true ∧ ∀ t ∈ es, ∀ C', G.ct t = some C' → PySem.W.kitOne G.K (.ref C) (.ref C') = some (c == t || t == "WalkError") := by
  obtain ⟨l, rfl, hB, hct⟩ := h.ex
  obtain ⟨⟨c1, C1⟩, hp, rfl⟩ := List.mem_map.mp hc
  have e1 := hct _ hp
  rw [hC] at e1
  cases e1
  have q := List.all_eq_true.mp hB _ hp
  simp only [Bool.and_eq_true] at q
  obtain ⟨⟨q1, q2⟩, q3⟩ := q
  refine ⟨xiB_ok q1, by simpa using q2, fun t ht C' hC' => ?_⟩
  obtain ⟨⟨c2, C2⟩, hp2, rfl⟩ := List.mem_map.mp ht
  have e2 := hct _ hp2
  rw [hC'] at e2
  cases e2
  have := List.all_eq_true.mp q3 _ hp2
  simpa using this
def bIsE (es : List String) : List D → Option D
  | [.lam c, .cls t] => if c ∈ es ∧ t ∈ es then some (.bl (c == t || t == "WalkError")) else none
  | [.lam c, .ty t] => if c ∈ es ∧ t = "ValueError" then some (.bl true) else none
  | _ => none
def isAnyE (es : List String) (c : String) : List D → Option Bool
  | [] => some false
  | .cls t :: r => if t ∈ es then (if (c == t || t == "WalkError") = true then some true else isAnyE es c r) else none
  | _ => none
def eIsET (es : List String) (fe : DE) (fa : DA) : DE := fun s => (fe s).bind fun d s1 => (fa s1).bind fun ts s2 => if ts.length ≤ 1000 then (match d with
  | .lam c => if c ∈ es then (match isAnyE es c ts with | some b => if ts.all clsD = true then .ok (.bl b) s2 else .stuck | none => .stuck) else .stuck
  | _ => .stuck) else .stuck
section
variable {G : Gam} {W : WX} {X : Cx}
theorem cd_isE (hK : G.K = X.K) {es : List String} (I : EiOk G es) : CallD G X (.builtin "isinstance") (bIsE es) := ⟨_, call_isV, fun κ w s σ H vs ds d Q ok rs e q => by
  match ds, e with
  | [x, c], e =>
    obtain ⟨v, v', rfl, r, r'⟩ := rs.two
    cases x with
    | lam nm1 =>
      cases r with
      | @lam f k hl =>
        rw [I.lam] at hl
        obtain ⟨C, hC, ev⟩ := hl
        cases c with
        | cls t =>
          have e : (if nm1 ∈ es ∧ t ∈ es then some (D.bl (nm1 == t || t == "WalkError")) else none) = some d := e
          by_cases hh : nm1 ∈ es ∧ t ∈ es
          · rw [if_pos hh] at e
            cases e
            cases r' with
            | @cls C' _ hC' =>
              obtain ⟨a1, a2, a3⟩ := I.one hh.1 hC
              exact ⟨f, C, _, _, _, rfl, .own C', hK ▸ a1, ev.sub ok.fok.sub, hK ▸ a3 t hh.2 C' hC', q w _ H (.refl _) ok (.bl _)⟩
          · rw [if_neg hh] at e
            cases e
        | ty t =>
          have e : (if nm1 ∈ es ∧ t = "ValueError" then some (D.bl true) else none) = some d := e
          by_cases hh : nm1 ∈ es ∧ t = "ValueError"
          · rw [if_pos hh] at e
            cases e
            obtain ⟨h1, rfl⟩ := hh
            cases r' with
            | ty _ =>
              obtain ⟨a1, a2, a3⟩ := I.one h1 hC
              exact ⟨f, C, _, _, _, rfl, .ty _, hK ▸ a1, ev.sub ok.fok.sub, hK ▸ a2, q w _ H (.refl _) ok (.bl _)⟩
          · rw [if_neg hh] at e
            cases e
        | _ => exact nomatch e
    | _ => exact nomatch e
  | [], e => simp [bIsE] at e
  | [_], e => simp [bIsE] at e
  | _ :: _ :: _ :: _, e => simp [bIsE] at e⟩
theorem isAnyE_kit (hK : G.K = X.K) {es : List String} (I : EiOk G es) {w : Wd} {c : String} {C : Addr} (hc : c ∈ es) (hC : G.ct c = some C) : ∀ {vs : List V} {ds : List D} {b : Bool}, Reps G w vs ds → ds.all clsD = true → isAnyE es c ds = some b → ∃ us, Paired ClsV vs us ∧ PySem.W.kitAny X.K (.ref C) us = some b
  | _, _, _, .nil, _, e => by cases e; exact ⟨[], .nil, kitAny_nil⟩
  | _, _, b, .cons (v := v) (d := t) (vs := vs) (ds := ds) r rs, ha, e => by
    rw [List.all_cons, Bool.and_eq_true] at ha
    have rest : ∀ {vs : List V} {ds : List D}, Reps G w vs ds → ds.all clsD = true → ∃ us, Paired ClsV vs us := fun {vs ds} r h => by
      induction ds generalizing vs with
      | nil => cases r; exact ⟨[], .nil⟩
      | cons d ds ih =>
        cases r with
        | cons a b =>
          rw [List.all_cons, Bool.and_eq_true] at h
          obtain ⟨us, hu⟩ := ih b h.2
          cases a with
          | ty n => exact ⟨_, .cons (.ty n) hu⟩
          | @cls C n hC => exact ⟨_, .cons (.own C) hu⟩
          | _ => exact nomatch h.1
    cases r with
    | @cls C' t hC' =>
      have e : (if t ∈ es then (if (c == t || t == "WalkError") = true then some true else isAnyE es c ds) else none) = some b := e
      by_cases ht : t ∈ es
      · rw [if_pos ht] at e
        have k := (I.one hc hC).2.2 t ht C' hC'
        rw [hK] at k
        by_cases hb : (c == t || t == "WalkError") = true
        · rw [if_pos hb] at e
          rw [hb] at k
          cases e
          obtain ⟨us, hu⟩ := rest rs ha.2
          exact ⟨_ :: us, .cons (.own C') hu, kitAny_cons k (fun z => nomatch z) fun _ => rfl⟩
        · rw [if_neg hb] at e
          rw [Bool.eq_false_iff.mpr hb] at k
          obtain ⟨us, hu, hk⟩ := isAnyE_kit hK I hc hC rs ha.2 e
          exact ⟨_ :: us, .cons (.own C') hu, kitAny_cons k (fun _ => hk) fun z => nomatch z⟩
      · rw [if_neg ht] at e
        cases e
    | _ => exact nomatch e
theorem pd_isET (hK : G.K = X.K) {cs : List String} (I : EiOk G cs) {x : Str} {p pos pos2 : Pos} {k : Nat} {e : Expr} {es : List Expr} {fe : DE} {fa : DA} (hg : Gl X x) (hm : X.mg x = none) (hv : bootBuiltins x = some (.builtin "isinstance")) (he : PD G W X e fe) (hes : PDA G W X es fa) (hn : x ≠ "__name__" := by decide)
    (hdb : (x == ("__debug__" : Str)) = false := by decide) (h1 : starEach (e :: [Expr.Tuple es k pos2]) X.env = (false, eval e X.env) :: starEach [Expr.Tuple es k pos2] X.env := by rfl) (h2 : starEach [Expr.Tuple es k pos2] X.env = (false, eval (.Tuple es k pos2) X.env) :: starEach [] X.env := by rfl)
    (hpl : (backTo pos (starEach [Expr.Tuple es k pos2] X.env)).any (·.1) = false := by rfl) : PD G W X (.Call (.Name x p) [e, .Tuple es k pos2] [] pos) (eIsET cs fe fa) :=
  (pe_callB call_isVT hg hm hv (pa_cons he (pa_cons (pe_tup hes) pa_nil h2) h1) hn hdb h1 hpl).imp fun σ H Q ⟨κ, w, s, ok, q⟩ => ⟨κ, w, s, ok, (PostG.bind q).imp fun v H1 ⟨d, s1, w1, le, ok1, r1, q1⟩ =>
    ⟨κ, w1, s1, ok1, (PostG.bind q1).imp fun vs H2 ⟨ts, s2, w2, le2, ok2, r2, q2⟩ => by
      by_cases c : ts.length ≤ 1000
      · rw [if_pos c] at q2
        refine ⟨by rw [r2.length]; exact sz1000 c, fun p hp => ?_⟩
        obtain ⟨le3, ok3⟩ := ok2.alloc hp (.tup vs)
        cases r1 with
        | @lam f n hl =>
          rw [I.lam] at hl
          obtain ⟨C, hC, ev⟩ := hl
          have q2 : PostG G W (Rep G) κ w2 σ (if n ∈ cs then (match isAnyE cs n ts with | some b => if ts.all clsD = true then .ok (.bl b) s2 else .stuck | none => .stuck) else .stuck) Q := q2
          by_cases hc : n ∈ cs
          · rw [if_pos hc] at q2
            cases e1 : isAnyE cs n ts with
            | none => rw [e1] at q2; exact q2.elim
            | some b =>
              rw [e1] at q2
              have q2 : PostG G W (Rep G) κ w2 σ (if ts.all clsD = true then .ok (.bl b) s2 else .stuck) Q := q2
              by_cases hd : ts.all clsD = true
              · rw [if_pos hd] at q2
                obtain ⟨us, hu, hk⟩ := isAnyE_kit hK I hc hC r2 hd e1
                exact ⟨f, C, p, vs, us, b, rfl, upd_same, hu, hK ▸ (I.one hc hC).1, ev.sub fun b o z => ok3.fok.sub _ _ (le3.f _ _ (le2.f _ _ z)), hk, q2 _ _ _ le3 ok3 (.bl b)⟩
              · rw [if_neg hd] at q2
                exact q2.elim
          · rw [if_neg hc] at q2
            exact q2.elim
        | _ => exact q2.elim
      · rw [if_neg c] at q2
        exact q2.elim⟩⟩
end
end
end DL
set_option maxRecDepth 100000
set_option maxHeartbeats 4000000
namespace W_k00
open PySem PySem.Spec PyProof.Rows L2 DL
noncomputable section
def topS (i : Nat) : Stmt := PySem.Challenge.pw_areawalks_k00_errors_made_by_hand.main.body.getD i (.Pass ⟨0, 0, 0, 0⟩)
abbrev errNs : List String := ["BadName", "BadNumber", "BadPlace", "BadText", "BadWord", "Barred", "EndsDiffer", "NoDirection", "NoPromise", "NoWalk", "NotClosed", "NotOnto", "NotWithin", "NothingToUndo", "OneSided", "Still", "Taken", "TooFar", "TooMany", "Uneven", "WalkError"]
theorem s_0 : ("most" : Str) = nm [109, 111, 115, 116] := by decide +kernel
theorem s_1 : ("form" : Str) = nm [102, 111, 114, 109] := by decide +kernel
theorem s_2 : ("first" : Str) = nm [102, 105, 114, 115, 116] := by decide +kernel
theorem s_3 : ("second" : Str) = nm [115, 101, 99, 111, 110, 100] := by decide +kernel
theorem s_4 : ("rest" : Str) = nm [114, 101, 115, 116] := by decide +kernel
theorem s_5 : ("stop" : Str) = nm [115, 116, 111, 112] := by decide +kernel
theorem s_6 : ("cells" : Str) = nm [99, 101, 108, 108, 115] := by decide +kernel
theorem s_7 : ("a" : Str) = nm [97] := by decide +kernel
theorem s_8 : ("x" : Str) = nm [120] := by decide +kernel
theorem s_9 : ("x y" : Str) = nm [120, 32, 121] := by decide +kernel
theorem s_10 : ("" : Str) = nm [] := by decide +kernel
abbrev xst_BadName : Stmt := inClass (topS 17) 0
theorem xsh_BadName : XSh xst_BadName "self" "value" "value" := ⟨_, _, _, _, _, _, _, _, _, _, _, rfl, rfl, rfl, rfl, rfl, rfl, rfl, by decide +kernel, rfl, rfl, rfl, by decide⟩
abbrev xst_BadNumber : Stmt := inClass (topS 2) 0
theorem xsh_BadNumber : XSh xst_BadNumber "self" "value" "value" := ⟨_, _, _, _, _, _, _, _, _, _, _, rfl, rfl, rfl, rfl, rfl, rfl, rfl, by decide +kernel, rfl, rfl, rfl, by decide⟩
abbrev xst_BadPlace : Stmt := inClass (topS 3) 0
theorem xsh_BadPlace : XSh xst_BadPlace "self" "value" "value" := ⟨_, _, _, _, _, _, _, _, _, _, _, rfl, rfl, rfl, rfl, rfl, rfl, rfl, by decide +kernel, rfl, rfl, rfl, by decide⟩
abbrev xst_BadText : Stmt := inClass (topS 15) 0
theorem xsh_BadText : XSh xst_BadText "self" "number" "number" := ⟨_, _, _, _, _, _, _, _, _, _, _, rfl, rfl, rfl, rfl, rfl, rfl, rfl, by decide +kernel, rfl, rfl, rfl, by decide⟩
abbrev xst_BadWord : Stmt := inClass (topS 4) 0
theorem xsh_BadWord : XSh xst_BadWord "self" "value" "value" := ⟨_, _, _, _, _, _, _, _, _, _, _, rfl, rfl, rfl, rfl, rfl, rfl, rfl, by decide +kernel, rfl, rfl, rfl, by decide⟩
abbrev xst_Barred : Stmt := inClass (topS 20) 0
theorem xsh_Barred : XSh xst_Barred "self" "words" "words" := ⟨_, _, _, _, _, _, _, _, _, _, _, rfl, rfl, rfl, rfl, rfl, rfl, rfl, by decide +kernel, rfl, rfl, rfl, by decide⟩
abbrev xst_EndsDiffer : Stmt := inClass (topS 12) 0
theorem xsh_EndsDiffer : XSh xst_EndsDiffer "self" "number" "number" := ⟨_, _, _, _, _, _, _, _, _, _, _, rfl, rfl, rfl, rfl, rfl, rfl, rfl, by decide +kernel, rfl, rfl, rfl, by decide⟩
abbrev xst_NoPromise : Stmt := inClass (topS 19) 0
theorem xsh_NoPromise : XSh xst_NoPromise "self" "name" "name" := ⟨_, _, _, _, _, _, _, _, _, _, _, rfl, rfl, rfl, rfl, rfl, rfl, rfl, by decide +kernel, rfl, rfl, rfl, by decide⟩
abbrev xst_NoWalk : Stmt := inClass (topS 16) 0
theorem xsh_NoWalk : XSh xst_NoWalk "self" "name" "name" := ⟨_, _, _, _, _, _, _, _, _, _, _, rfl, rfl, rfl, rfl, rfl, rfl, rfl, by decide +kernel, rfl, rfl, rfl, by decide⟩
abbrev xst_NotOnto : Stmt := inClass (topS 13) 0
theorem xsh_NotOnto : XSh xst_NotOnto "self" "number" "number" := ⟨_, _, _, _, _, _, _, _, _, _, _, rfl, rfl, rfl, rfl, rfl, rfl, rfl, by decide +kernel, rfl, rfl, rfl, by decide⟩
abbrev xst_OneSided : Stmt := inClass (topS 8) 0
theorem xsh_OneSided : XSh xst_OneSided "self" "form" "form" := ⟨_, _, _, _, _, _, _, _, _, _, _, rfl, rfl, rfl, rfl, rfl, rfl, rfl, by decide +kernel, rfl, rfl, rfl, by decide⟩
abbrev xst_Taken : Stmt := inClass (topS 18) 0
theorem xsh_Taken : XSh xst_Taken "self" "name" "name" := ⟨_, _, _, _, _, _, _, _, _, _, _, rfl, rfl, rfl, rfl, rfl, rfl, rfl, by decide +kernel, rfl, rfl, rfl, by decide⟩
abbrev xst_TooFar : Stmt := inClass (topS 6) 0
theorem xsh_TooFar : XSh xst_TooFar "self" "number" "number" := ⟨_, _, _, _, _, _, _, _, _, _, _, rfl, rfl, rfl, rfl, rfl, rfl, rfl, by decide +kernel, rfl, rfl, rfl, by decide⟩
abbrev xst_TooMany : Stmt := inClass (topS 5) 0
theorem xsh_TooMany : XSh xst_TooMany "self" "most" "most" := ⟨_, _, _, _, _, _, _, _, _, _, _, rfl, rfl, rfl, rfl, rfl, rfl, rfl, by decide +kernel, rfl, rfl, rfl, by decide⟩
abbrev xst_Uneven : Stmt := inClass (topS 11) 0
theorem xsh_Uneven : XSh2 xst_Uneven "self" "first" "first" "second" "second" := ⟨_, _, _, _, _, _, _, _, _, _, _, _, _, _, _, _, rfl, rfl, rfl, rfl, rfl, rfl, rfl, rfl, by decide +kernel, rfl, rfl, rfl, by decide⟩
/-! _law_alone -/
abbrev st__law_alone : Stmt := topS 26
theorem sc__law_alone : FnScope ["_law_mine"] ["_law_mine"] (defScope st__law_alone) := ⟨rfl, rfl, rfl, by decide +kernel, rfl, by decide +kernel, by decide +kernel⟩
/-! _law_kinds -/
abbrev st__law_kinds : Stmt := topS 30
theorem sc__law_kinds : FnScope ["_law_error", "_law_told", "_law_one"] ["_law_error"] (defScope st__law_kinds) := ⟨rfl, rfl, rfl, by decide +kernel, rfl, by decide +kernel, by decide +kernel⟩
/-! _law_apart -/
abbrev st__law_apart : Stmt := topS 31
theorem sc__law_apart : FnScope ["_law_mine", "_law_yours", "_law_made", "_law_k"] ["_law_mine", "_law_yours"] (defScope st__law_apart) := ⟨rfl, rfl, rfl, by decide +kernel, rfl, by decide +kernel, by decide +kernel⟩
/-! _law_raise -/
abbrev st__law_raise : Stmt := topS 28
theorem sc__law_raise : FnScope ["_law_which", "_law_mine"] ["_law_which", "_law_mine"] (defScope st__law_raise) := ⟨rfl, rfl, rfl, by decide +kernel, rfl, by decide +kernel, by decide +kernel⟩
/-! _law_caught -/
abbrev st__law_caught : Stmt := topS 29
theorem sc__law_caught : FnScope ["_law_which", "_law_mine", "e"] ["_law_which", "_law_mine"] (defScope st__law_caught) := ⟨rfl, rfl, rfl, by decide +kernel, rfl, by decide +kernel, by decide +kernel⟩
/-! _law_more -/
abbrev st__law_more : Stmt := topS 27
theorem sc__law_more : FnScope ["_law_mine", "_law_yours", "_law_rows"] ["_law_mine", "_law_yours"] (defScope st__law_more) := ⟨rfl, rfl, rfl, by decide +kernel, rfl, by decide +kernel, by decide +kernel⟩
/-! _law_pen -/
abbrev st__law_pen : Stmt := topS 23
theorem sc__law_pen : FnScope ["_law_script"] ["_law_script"] (defScope st__law_pen) := ⟨rfl, rfl, rfl, by decide +kernel, rfl, by decide +kernel, by decide +kernel⟩
/-! _law_draw -/
abbrev st__law_draw : Stmt := topS 24
theorem sc__law_draw : FnScope ["_law_pen_here", "_law_many", "_law_digit", "_law_stop", "_law_cell", "_law_blend"] ["_law_pen_here", "_law_many"] (defScope st__law_draw) := ⟨rfl, rfl, rfl, by decide +kernel, rfl, by decide +kernel, by decide +kernel⟩
/-! _law_pick -/
abbrev st__law_pick : Stmt := topS 25
theorem sc__law_pick : FnScope ["_law_pen_here", "_law_items"] ["_law_pen_here", "_law_items"] (defScope st__law_pick) := ⟨rfl, rfl, rfl, by decide +kernel, rfl, by decide +kernel, by decide +kernel⟩
/-! law -/
abbrev st_law : Stmt := topS 32
theorem sc_law : FnScope ["_law_script", "_law_pen_here", "_law_values", "_law_lap", "_law_mine", "_law_yours", "_law_kept", "_law_twice", "_law_due", "_law_lots", "_law_error", "_law_found", "_law_told", "_law_which"] ["_law_script"] (defScope st_law) := ⟨rfl, rfl, rfl, by decide +kernel, rfl, by decide +kernel, by decide +kernel⟩
def b__law_alone : DStm := sRet (eFrz (aMax (aCons (eTup (aCons (eErrF 1 0 0 (aCons (eVar 0) (aNil)) (aNil)) (aCons (eErrF 0 1 0 (aNil) (aCons (eVar 0) (aNil))) (aNil)))) (aCons (eTup (aCons (eErrF 1 0 0 (aCons (eVar 0) (aNil)) (aNil)) (aCons (eErrF 0 1 0 (aNil) (aCons (eVar 0) (aNil))) (aNil)))) (aCons (eTup (aCons (eErrF 1 0 0 (aCons (eVar 0) (aNil)) (aNil)) (aCons (eErrF 0 1 0 (aNil) (aCons (eVar 0) (aNil))) (aNil)))) (aCons (eTup (aCons (eErrF 1 0 0 (aCons (eVar 0) (aNil)) (aNil)) (aCons (eErrF 0 1 0 (aNil) (aCons (eVar 0) (aNil))) (aNil)))) (aCons (eTup (aCons (eErrF 1 0 0 (aCons (eVar 0) (aNil)) (aNil)) (aCons (eErrF 0 1 0 (aNil) (aCons (eVar 0) (aNil))) (aNil)))) (aCons (eTup (aCons (eErrF 1 0 0 (aCons (eVar 0) (aNil)) (aNil)) (aCons (eErrF 0 1 0 (aNil) (aCons (eVar 0) (aNil))) (aNil)))) (aCons (eTup (aCons (eErrF 1 0 0 (aCons (eVar 0) (aNil)) (aNil)) (aCons (eErrF 0 1 0 (aNil) (aCons (eVar 0) (aNil))) (aNil)))) (aCons (eTup (aCons (eErrF 1 0 0 (aCons (eVar 0) (aNil)) (aNil)) (aCons (eErrF 0 1 0 (aNil) (aCons (eVar 0) (aNil))) (aNil)))) (aCons (eTup (aCons (eErrF 1 0 0 (aCons (eVar 0) (aNil)) (aNil)) (aCons (eErrF 0 1 0 (aNil) (aCons (eVar 0) (aNil))) (aNil)))) (aCons (eTup (aCons (eErrF 1 0 0 (aCons (eVar 0) (aNil)) (aNil)) (aCons (eErrF 0 1 0 (aNil) (aCons (eVar 0) (aNil))) (aNil)))) (aCons (eTup (aCons (eErrF 1 0 0 (aCons (eVar 0) (aNil)) (aNil)) (aCons (eErrF 0 1 0 (aNil) (aCons (eVar 0) (aNil))) (aNil)))) (aCons (eTup (aCons (eErrF 1 0 0 (aCons (eVar 0) (aNil)) (aNil)) (aCons (eErrF 0 1 0 (aNil) (aCons (eVar 0) (aNil))) (aNil)))) (aCons (eTup (aCons (eErrF 1 0 0 (aCons (eVar 0) (aNil)) (aNil)) (aCons (eErrF 0 1 0 (aNil) (aCons (eVar 0) (aNil))) (aNil)))) (aCons (eTup (aCons (eErrF 1 0 0 (aCons (eVar 0) (aNil)) (aNil)) (aCons (eErrF 0 1 0 (aNil) (aCons (eVar 0) (aNil))) (aNil)))) (aNil)))))))))))))))))
def g__law_alone : DFn := fnD 1 b__law_alone 0
def e__law_kinds_0 : DE := eCB (bInt) (aCons (eVar 2) (aNil))
def b__law_kinds : DStm := sSeq (sSet 1 (eFrz (aMax (aCons (eCB (bIsE errNs) (aCons (eVar 0) (aCons (eC (.cls "BadNumber")) (aNil)))) (aCons (eCB (bIsE errNs) (aCons (eVar 0) (aCons (eC (.cls "BadPlace")) (aNil)))) (aCons (eCB (bIsE errNs) (aCons (eVar 0) (aCons (eC (.cls "BadWord")) (aNil)))) (aNil)))))))
    (sSeq (sSet 1 (eOp2 dAdd (eVar 1) (eFrz (aMax (aCons (eCB (bIsE errNs) (aCons (eVar 0) (aCons (eC (.cls "TooMany")) (aNil)))) (aCons (eCB (bIsE errNs) (aCons (eVar 0) (aCons (eC (.cls "TooFar")) (aNil)))) (aCons (eCB (bIsE errNs) (aCons (eVar 0) (aCons (eC (.cls "NotWithin")) (aNil)))) (aNil))))))))
    (sSeq (sSet 1 (eOp2 dAdd (eVar 1) (eFrz (aMax (aCons (eCB (bIsE errNs) (aCons (eVar 0) (aCons (eC (.cls "OneSided")) (aNil)))) (aCons (eCB (bIsE errNs) (aCons (eVar 0) (aCons (eC (.cls "Still")) (aNil)))) (aCons (eCB (bIsE errNs) (aCons (eVar 0) (aCons (eC (.cls "NoDirection")) (aNil)))) (aNil))))))))
    (sSeq (sSet 1 (eOp2 dAdd (eVar 1) (eFrz (aMax (aCons (eCB (bIsE errNs) (aCons (eVar 0) (aCons (eC (.cls "Uneven")) (aNil)))) (aCons (eCB (bIsE errNs) (aCons (eVar 0) (aCons (eC (.cls "EndsDiffer")) (aNil)))) (aCons (eCB (bIsE errNs) (aCons (eVar 0) (aCons (eC (.cls "NotOnto")) (aNil)))) (aNil))))))))
    (sSeq (sSet 1 (eOp2 dAdd (eVar 1) (eFrz (aMax (aCons (eCB (bIsE errNs) (aCons (eVar 0) (aCons (eC (.cls "NotClosed")) (aNil)))) (aCons (eCB (bIsE errNs) (aCons (eVar 0) (aCons (eC (.cls "BadText")) (aNil)))) (aCons (eCB (bIsE errNs) (aCons (eVar 0) (aCons (eC (.cls "NoWalk")) (aNil)))) (aNil))))))))
    (sSeq (sSet 1 (eOp2 dAdd (eVar 1) (eFrz (aMax (aCons (eCB (bIsE errNs) (aCons (eVar 0) (aCons (eC (.cls "BadName")) (aNil)))) (aCons (eCB (bIsE errNs) (aCons (eVar 0) (aCons (eC (.cls "Taken")) (aNil)))) (aCons (eCB (bIsE errNs) (aCons (eVar 0) (aCons (eC (.cls "NoPromise")) (aNil)))) (aNil))))))))
    (sSeq (sSet 1 (eOp2 dAdd (eVar 1) (eFrz (aMax (aCons (eCB (bIsE errNs) (aCons (eVar 0) (aCons (eC (.cls "Barred")) (aNil)))) (aCons (eCB (bIsE errNs) (aCons (eVar 0) (aCons (eC (.cls "NothingToUndo")) (aNil)))) (aNil)))))))
    (sRet (eFrz (aLc [2] (itSeq (eVar 1)) (gN 2) (bYes) (e__law_kinds_0))))))))))
def g__law_kinds : DFn := fnD 1 b__law_kinds 2
def e__law_apart_0 : DE := eOp2 dEq (eCall 1 g__law_kinds (aCons (eIxO 2 (eVar 3)) (aNil))) (eOp2 dAdd (eOp2 dAdd (eOp2 dMul (eFrz (aMax (aCons (eC (.int 0)) (aNil)))) (eVar 3)) (eFrz (aMax (aCons (eC (.int 1)) (aNil))))) (eOp2 dMul (eFrz (aMax (aCons (eC (.int 0)) (aNil)))) (eOp2 iSub (eC (.int 19)) (eVar 3))))
def b__law_apart : DStm := sSeq (sSetO 2 (aMax (aCons (eErr "BadNumber" 1 0 (aCons (eVar 0) (aNil)) (aNil)) (aCons (eErr "BadPlace" 1 0 (aCons (eVar 0) (aNil)) (aNil)) (aCons (eErr "BadWord" 1 0 (aCons (eVar 0) (aNil)) (aNil)) (aCons (eErr "TooMany" 1 0 (aCons (eVar 0) (aNil)) (aNil)) (aCons (eErr "TooFar" 1 0 (aCons (eVar 0) (aNil)) (aNil)) (aCons (eC (.lam "NotWithin")) (aCons (eErr "OneSided" 1 0 (aCons (eVar 0) (aNil)) (aNil)) (aNil))))))))))
    (sSeq (sSetO 2 (aCat (eVar 2) (eFrz (aMax (aCons (eC (.lam "Still")) (aCons (eC (.lam "NoDirection")) (aCons (eErr "Uneven" 2 0 (aCons (eVar 0) (aCons (eVar 1) (aNil))) (aNil)) (aCons (eErr "EndsDiffer" 1 0 (aCons (eVar 0) (aNil)) (aNil)) (aCons (eErr "NotOnto" 1 0 (aCons (eVar 0) (aNil)) (aNil)) (aCons (eC (.lam "NotClosed")) (aNil)))))))))))
    (sSeq (sSetO 2 (aCat (eVar 2) (eFrz (aMax (aCons (eErr "BadText" 1 0 (aCons (eVar 0) (aNil)) (aNil)) (aCons (eErr "NoWalk" 1 0 (aCons (eVar 0) (aNil)) (aNil)) (aCons (eErr "BadName" 1 0 (aCons (eVar 0) (aNil)) (aNil)) (aCons (eErr "Taken" 1 0 (aCons (eVar 0) (aNil)) (aNil)) (aCons (eErr "NoPromise" 1 0 (aCons (eVar 0) (aNil)) (aNil)) (aCons (eErr "Barred" 1 0 (aCons (eVar 0) (aNil)) (aNil)) (aNil)))))))))))
    (sSeq (sApp 2 (aCons (eC (.lam "NothingToUndo")) (aNil)))
    (sRet (eCB (bAll) (aCons (eFrz (aLc [3] (itR1 (aCons (eC (.int 20)) (aNil))) (gN 3) (bYes) (e__law_apart_0))) (aNil)))))))
def g__law_apart : DFn := fnD 2 b__law_apart 2
def b__law_raise : DStm := sSeq (sIf (eB (eOp2 dEq (eVar 0) (eC (.int 0)))) (sRaise0 "Still") (sPass))
    (sSeq (sIf (eB (eOp2 dEq (eVar 0) (eC (.int 1)))) (sRaise "TooMany" [109, 111, 115, 116] (aCons (eC (.int 3)) (aNil))) (sPass))
    (sSeq (sIf (eB (eOp2 dEq (eVar 0) (eC (.int 2)))) (sRaise "OneSided" [102, 111, 114, 109] (aCons (eVar 1) aNil)) (sPass))
    (sSeq (sIf (eB (eOp2 dEq (eVar 0) (eC (.int 3)))) (sRaise2 "Uneven" [102, 105, 114, 115, 116] [115, 101, 99, 111, 110, 100] (aCons (eVar 1) (aCons (eC (.int 1)) (aNil)))) (sPass))
    (sRaise0 "NothingToUndo"))))
def g__law_raise : DFn := fnD 2 b__law_raise 0
def b__law_caught : DStm := sSeq (sTry (sExpr (eCall 2 g__law_raise (aCons (eVar 0) (aCons (eVar 1) (aNil))))) [⟨.none, some 2, hmT ["BadName", "BadNumber", "BadPlace", "BadText", "BadWord", "Barred", "EndsDiffer", "NoDirection", "NoPromise", "NoWalk", "NotClosed", "NotOnto", "NotWithin", "NothingToUndo", "OneSided", "Still", "Taken", "TooFar", "TooMany", "Uneven", "WalkError"] [], fun x => sRet (eC (.bl true))⟩])
    (sRet (eC (.bl false)))
def g__law_caught : DFn := fnD 2 b__law_caught 1
def b__law_more : DStm := sSeq (sSet 2 (eFrz (aMax (aCons (eTup (aCons (eErrF 2 0 0 (aCons (eVar 0) (aCons (eVar 1) (aNil))) (aNil)) (aCons (eVar 0) (aNil)))) (aCons (eTup (aCons (eErrF 1 1 1 (aCons (eVar 0) (aNil)) (aCons (eVar 1) (aNil))) (aCons (eVar 1) (aNil)))) (aNil))))))
    (sRet (eOp2 dAdd (eVar 2) (eFrz (aMax (aCons (eTup (aCons (eErrF 0 2 0 (aNil) (aCons (eVar 0) (aCons (eVar 1) (aNil)))) (aCons (eVar 0) (aNil)))) (aCons (eTup (aCons (eErrF 0 2 1 (aNil) (aCons (eVar 0) (aCons (eVar 1) (aNil)))) (aCons (eVar 1) (aNil)))) (aNil)))))))
def g__law_more : DFn := fnD 2 b__law_more 1
def b__law_pen : DStm := sRet (eCellD (dDisp [(eC (.str [99, 101, 108, 108, 115]), eFrz (aList (aCons (eSlA (eVar 0) (oNone) (oSome (eC (.int 63)))) (aNil)))), (eC (.str [115, 116, 111, 112]), eC (.int 0)), (eC (.str [114, 101, 115, 116]), eC (.int 0))]))
def g__law_pen : DFn := fnD 1 b__law_pen 0
def b__law_draw : DStm := sSeq (sIf (eB (eOp2 iGe (eDGet (eVar 0) (eC (.str [114, 101, 115, 116]))) (eVar 1))) (sSeq (sSet 2 (eOp2 iMod (eCB (bInt) (aCons (eDGet (eVar 0) (eC (.str [114, 101, 115, 116]))) (aNil))) (eVar 1)))
    (sSeq (sDPutC (eVar 0) (eC (.str [114, 101, 115, 116])) (eOp2 iDiv (eDGet (eVar 0) (eC (.str [114, 101, 115, 116]))) (eVar 1)))
    (sRet (eVar 2)))) (sPass))
    (sSeq (sSet 3 (eDGet (eVar 0) (eC (.str [115, 116, 111, 112]))))
    (sSeq (sDPutC (eVar 0) (eC (.str [115, 116, 111, 112])) (eOp2 dAdd (eVar 3) (eC (.int 1))))
    (sSeq (sSet 4 (eOp2 dAdd (eOp2 dMul (eC (.int 73)) (eVar 3)) (eC (.int 41))))
    (sSeq (sIf (eB (eOp2 dNe (eDGet (eVar 0) (eC (.str [99, 101, 108, 108, 115]))) (eFrz (aMax (aNil))))) (sSet 4 (eIx (eDGet (eVar 0) (eC (.str [99, 101, 108, 108, 115]))) (eOp2 iMod (eCB (bInt) (aCons (eVar 3) (aNil))) (eCB (bLen) (aCons (eDGet (eVar 0) (eC (.str [99, 101, 108, 108, 115]))) (aNil)))))) (sPass))
    (sSeq (sIf (bAnd (eB (eOp2 iLt (eVar 3) (eCB (bLen) (aCons (eDGet (eVar 0) (eC (.str [99, 101, 108, 108, 115]))) (aNil))))) (eB (eOp2 iGe (eVar 4) (eOp2 iPow (eC (.int 10)) (eC (.int 18)))))) (sSeq (sDPutC (eVar 0) (eC (.str [114, 101, 115, 116])) (eOp2 iDiv (eOp2 iSub (eVar 4) (eOp2 iPow (eC (.int 10)) (eC (.int 18)))) (eVar 1)))
    (sRet (eOp2 iMod (eCB (bInt) (aCons (eOp2 iSub (eVar 4) (eOp2 iPow (eC (.int 10)) (eC (.int 18)))) (aNil))) (eVar 1)))) (sPass))
    (sSeq (sSet 5 (eOp2 dMul (eOp2 iMod (eCB (bInt) (aCons (eVar 4) (aNil))) (eC (.int 2147483269))) (eC (.int 40177))))
    (sSeq (sSet 5 (eOp2 iMod (eCB (bInt) (aCons (eOp2 dAdd (eOp2 dAdd (eOp2 dAdd (eVar 5) (eOp2 dMul (eOp2 dMul (eC (.int 52489)) (eVar 3)) (eVar 3))) (eOp2 dMul (eC (.int 103)) (eVar 3))) (eC (.int 37))) (aNil))) (eC (.int 2147483323))))
    (sSeq (sSet 5 (eOp2 iMod (eCB (bInt) (aCons (eOp2 dMul (eVar 5) (eOp2 dAdd (eVar 5) (eC (.int 70019)))) (aNil))) (eC (.int 2147483353))))
    (sRet (eOp2 iMod (eCB (bInt) (aCons (eOp2 iDiv (eOp2 iMod (eCB (bInt) (aCons (eOp2 dAdd (eOp2 dMul (eVar 5) (eVar 5)) (eOp2 dMul (eC (.int 19)) (eVar 5))) (aNil))) (eC (.int 2147483399))) (eC (.int 16))) (aNil))) (eVar 1)))))))))))
def g__law_draw : DFn := fnD 2 b__law_draw 4
def b__law_pick : DStm := sRet (eIx (eVar 1) (eCall 2 g__law_draw (aCons (eVar 0) (aCons (eCB (bLen) (aCons (eVar 1) (aNil))) (aNil)))))
def g__law_pick : DFn := fnD 2 b__law_pick 0
def w_law_0 : DStm := sIf (bOr (eB (eOp2 dNeV (eVar 6) (eVar 4))) (bOr (eB (eOp2 dNeV (eVar 7) (eVar 4))) (eB (eOp2 dNe (eCB (bIsi []) (aCons (eVar 6) (aCons (eC (.ty "bool")) (aNil)))) (eCB (bIsi []) (aCons (eVar 4) (aCons (eC (.ty "bool")) (aNil)))))))) (sRet (eC (.bl false))) (sPass)
def w_law_1 : DStm := sIf (bOr (eB (eOp2 dNeV (eVar 6) (eVar 8))) (eB (eOp2 dNe (eCB (bIsi []) (aCons (eVar 6) (aCons (eC (.ty "bool")) (aNil)))) (eCB (bIsi []) (aCons (eVar 8) (aCons (eC (.ty "bool")) (aNil))))))) (sRet (eC (.bl false))) (sPass)
def w_law_2 : DStm := sIf (bOr (bNot (eTru (eCB (bIsE errNs) (aCons (eVar 10) (aCons (eC (.cls "WalkError")) (aNil)))))) (bNot (eTru (eCB (bIsE errNs) (aCons (eVar 10) (aCons (eC (.ty "ValueError")) (aNil))))))) (sRet (eC (.bl false))) (sPass)
def e_law_3 : DE := eIsET errNs (eVar 10) (aCons (eC (.cls "Still")) (aCons (eC (.cls "NoDirection")) (aCons (eC (.cls "NotClosed")) (aCons (eC (.cls "BadNumber")) (aNil)))))
def e_law_4 : DE := eCB (bInt) (aCons (eVar 12) (aNil))
def e_law_5 : DE := eCall 2 g__law_caught (aCons (eVar 13) (aCons (eVar 4) (aNil)))
def w_law_6 : DStm := sSeq (sAsgT (eTup (aCons (eCall 2 g__law_pick (aCons (eVar 1) (aCons (eVar 2) (aNil)))) (aCons (eCall 2 g__law_pick (aCons (eVar 1) (aCons (eVar 2) (aNil)))) (aNil)))) (gT 2 (gsCons (gN 4) (gsCons (gN 5) (gsNil)))))
    (sSeq (sFor (itSeq (eCall 1 g__law_alone (aCons (eVar 4) (aNil)))) (gT 2 (gsCons (gN 6) (gsCons (gN 7) (gsNil)))) (w_law_0))
    (sSeq (sFor (itSeq (eCall 2 g__law_more (aCons (eVar 4) (aCons (eVar 5) (aNil))))) (gT 2 (gsCons (gN 6) (gsCons (gN 8) (gsNil)))) (w_law_1))
    (sSeq (sIf (bNot (eTru (eCall 2 g__law_apart (aCons (eVar 4) (aCons (eVar 5) (aNil)))))) (sRet (eC (.bl false))) (sPass))
    (sSeq (sSet 9 (eFrz (aMax (aCons (eC (.lam "Still")) (aCons (eC (.lam "NotWithin")) (aCons (eC (.lam "NoDirection")) (aCons (eC (.lam "NotClosed")) (aCons (eC (.lam "NothingToUndo")) (aCons (eErr "BadNumber" 1 0 (aCons (eVar 4) (aNil)) (aNil)) (aCons (eErr "Uneven" 2 0 (aCons (eVar 4) (aCons (eVar 5) (aNil))) (aNil)) (aNil)))))))))))
    (sSeq (sFor (itSeq (eVar 9)) (gN 10) (w_law_2))
    (sSeq (sSetO 11 (aLc [10] (itSeq (eVar 9)) (gN 10) (bYes) (e_law_3)))
    (sIf (bOr (eB (eOp2 dNe (eCB (bSum) (aCons (eFrz (aLc [12] (itSeq (eVar 11)) (gN 12) (bYes) (e_law_4))) (aNil))) (eC (.int 4)))) (bNot (eTru (eCB (bAll) (aCons (eFrz (aLc [13] (itR1 (aCons (eC (.int 5)) (aNil))) (gN 13) (bYes) (e_law_5))) (aNil)))))) (sRet (eC (.bl false))) (sPass))))))))
def b_law : DStm := sSeq (sSet 1 (eCall 1 g__law_pen (aCons (eVar 0) (aNil))))
    (sSeq (sSet 2 (eFrz (aMax (aCons (eC .non) (aCons (eC (.bl true)) (aCons (eC (.int 0)) (aCons (eNeg (eC (.int 3))) (aCons (eC (.str [])) (aCons (eC (.str [120, 32, 121])) (aCons (eTup (aCons (eC (.int 1)) (aCons (eC (.int 2)) (aNil)))) (aCons (eFrz (aMax (aCons (eC (.str [120])) (aNil)))) (aCons (eFrzD (dNil)) (aCons (eOp2 iPow (eC (.int 10)) (eC (.int 9))) (aCons (eC (.str [97])) (aCons (eTup (aCons (eTup (aCons (eC (.int 0)) (aCons (eC (.int 1)) (aNil)))) (aCons (eC (.int 2)) (aNil)))) (aNil))))))))))))))))
    (sSeq (sFor (itR1 (aCons (eOp2 dAdd (eC (.int 2)) (eCB (bMin2) (aCons (eC (.int 4)) (aCons (eCB (bLen) (aCons (eVar 0) (aNil))) (aNil))))) (aNil))) (gN 3) (w_law_6))
    (sRet (eC (.bl true)))))
def g_law : DFn := fnD 1 b_law 13
set_option genInjectivity false in
structure Ev (P : Program) (G : Gam) (mg : Str → Option Value) (base : Heap) where
  C_BadName : Addr
  ct_BadName : G.ct "BadName" = some C_BadName
  m_BadName : mg "BadName" = some (.ref C_BadName)
  fI_BadName : Addr
  xfd_BadName : FuncData
  X_BadName : XFacts P G mg "BadName" C_BadName fI_BadName xfd_BadName "self" "value" "value"
  C_BadNumber : Addr
  ct_BadNumber : G.ct "BadNumber" = some C_BadNumber
  m_BadNumber : mg "BadNumber" = some (.ref C_BadNumber)
  fI_BadNumber : Addr
  xfd_BadNumber : FuncData
  X_BadNumber : XFacts P G mg "BadNumber" C_BadNumber fI_BadNumber xfd_BadNumber "self" "value" "value"
  C_BadPlace : Addr
  ct_BadPlace : G.ct "BadPlace" = some C_BadPlace
  m_BadPlace : mg "BadPlace" = some (.ref C_BadPlace)
  fI_BadPlace : Addr
  xfd_BadPlace : FuncData
  X_BadPlace : XFacts P G mg "BadPlace" C_BadPlace fI_BadPlace xfd_BadPlace "self" "value" "value"
  C_BadText : Addr
  ct_BadText : G.ct "BadText" = some C_BadText
  m_BadText : mg "BadText" = some (.ref C_BadText)
  fI_BadText : Addr
  xfd_BadText : FuncData
  X_BadText : XFacts P G mg "BadText" C_BadText fI_BadText xfd_BadText "self" "number" "number"
  C_BadWord : Addr
  ct_BadWord : G.ct "BadWord" = some C_BadWord
  m_BadWord : mg "BadWord" = some (.ref C_BadWord)
  fI_BadWord : Addr
  xfd_BadWord : FuncData
  X_BadWord : XFacts P G mg "BadWord" C_BadWord fI_BadWord xfd_BadWord "self" "value" "value"
  C_Barred : Addr
  ct_Barred : G.ct "Barred" = some C_Barred
  m_Barred : mg "Barred" = some (.ref C_Barred)
  fI_Barred : Addr
  xfd_Barred : FuncData
  X_Barred : XFacts P G mg "Barred" C_Barred fI_Barred xfd_Barred "self" "words" "words"
  C_EndsDiffer : Addr
  ct_EndsDiffer : G.ct "EndsDiffer" = some C_EndsDiffer
  m_EndsDiffer : mg "EndsDiffer" = some (.ref C_EndsDiffer)
  fI_EndsDiffer : Addr
  xfd_EndsDiffer : FuncData
  X_EndsDiffer : XFacts P G mg "EndsDiffer" C_EndsDiffer fI_EndsDiffer xfd_EndsDiffer "self" "number" "number"
  C_NoDirection : Addr
  ct_NoDirection : G.ct "NoDirection" = some C_NoDirection
  m_NoDirection : mg "NoDirection" = some (.ref C_NoDirection)
  C_NoPromise : Addr
  ct_NoPromise : G.ct "NoPromise" = some C_NoPromise
  m_NoPromise : mg "NoPromise" = some (.ref C_NoPromise)
  fI_NoPromise : Addr
  xfd_NoPromise : FuncData
  X_NoPromise : XFacts P G mg "NoPromise" C_NoPromise fI_NoPromise xfd_NoPromise "self" "name" "name"
  C_NoWalk : Addr
  ct_NoWalk : G.ct "NoWalk" = some C_NoWalk
  m_NoWalk : mg "NoWalk" = some (.ref C_NoWalk)
  fI_NoWalk : Addr
  xfd_NoWalk : FuncData
  X_NoWalk : XFacts P G mg "NoWalk" C_NoWalk fI_NoWalk xfd_NoWalk "self" "name" "name"
  C_NotClosed : Addr
  ct_NotClosed : G.ct "NotClosed" = some C_NotClosed
  m_NotClosed : mg "NotClosed" = some (.ref C_NotClosed)
  C_NotOnto : Addr
  ct_NotOnto : G.ct "NotOnto" = some C_NotOnto
  m_NotOnto : mg "NotOnto" = some (.ref C_NotOnto)
  fI_NotOnto : Addr
  xfd_NotOnto : FuncData
  X_NotOnto : XFacts P G mg "NotOnto" C_NotOnto fI_NotOnto xfd_NotOnto "self" "number" "number"
  C_NotWithin : Addr
  ct_NotWithin : G.ct "NotWithin" = some C_NotWithin
  m_NotWithin : mg "NotWithin" = some (.ref C_NotWithin)
  C_NothingToUndo : Addr
  ct_NothingToUndo : G.ct "NothingToUndo" = some C_NothingToUndo
  m_NothingToUndo : mg "NothingToUndo" = some (.ref C_NothingToUndo)
  C_OneSided : Addr
  ct_OneSided : G.ct "OneSided" = some C_OneSided
  m_OneSided : mg "OneSided" = some (.ref C_OneSided)
  fI_OneSided : Addr
  xfd_OneSided : FuncData
  X_OneSided : XFacts P G mg "OneSided" C_OneSided fI_OneSided xfd_OneSided "self" "form" "form"
  C_Still : Addr
  ct_Still : G.ct "Still" = some C_Still
  m_Still : mg "Still" = some (.ref C_Still)
  C_Taken : Addr
  ct_Taken : G.ct "Taken" = some C_Taken
  m_Taken : mg "Taken" = some (.ref C_Taken)
  fI_Taken : Addr
  xfd_Taken : FuncData
  X_Taken : XFacts P G mg "Taken" C_Taken fI_Taken xfd_Taken "self" "name" "name"
  C_TooFar : Addr
  ct_TooFar : G.ct "TooFar" = some C_TooFar
  m_TooFar : mg "TooFar" = some (.ref C_TooFar)
  fI_TooFar : Addr
  xfd_TooFar : FuncData
  X_TooFar : XFacts P G mg "TooFar" C_TooFar fI_TooFar xfd_TooFar "self" "number" "number"
  C_TooMany : Addr
  ct_TooMany : G.ct "TooMany" = some C_TooMany
  m_TooMany : mg "TooMany" = some (.ref C_TooMany)
  fI_TooMany : Addr
  xfd_TooMany : FuncData
  X_TooMany : XFacts P G mg "TooMany" C_TooMany fI_TooMany xfd_TooMany "self" "most" "most"
  C_Uneven : Addr
  ct_Uneven : G.ct "Uneven" = some C_Uneven
  m_Uneven : mg "Uneven" = some (.ref C_Uneven)
  C_WalkError : Addr
  ct_WalkError : G.ct "WalkError" = some C_WalkError
  m_WalkError : mg "WalkError" = some (.ref C_WalkError)
  fI_Uneven : Addr
  xfd_Uneven : FuncData
  X_Uneven : XFacts2 P G mg "Uneven" C_Uneven fI_Uneven xfd_Uneven "self" "first" "first" "second" "second"
  lamE : G.lam = errL G.ct
  eio : EiOk G errNs
  kb_BadName_0_kw : KBn G.K xfd_BadName ["self", "value"] 1 ["value"] (fun us ws => us ++ ws) (fun vs zs => vs ++ zs)
  kb_BadNumber_0_kw : KBn G.K xfd_BadNumber ["self", "value"] 1 ["value"] (fun us ws => us ++ ws) (fun vs zs => vs ++ zs)
  kb_BadPlace_0_kw : KBn G.K xfd_BadPlace ["self", "value"] 1 ["value"] (fun us ws => us ++ ws) (fun vs zs => vs ++ zs)
  kb_BadText_0_kw : KBn G.K xfd_BadText ["self", "number"] 1 ["number"] (fun us ws => us ++ ws) (fun vs zs => vs ++ zs)
  kb_BadWord_0_kw : KBn G.K xfd_BadWord ["self", "value"] 1 ["value"] (fun us ws => us ++ ws) (fun vs zs => vs ++ zs)
  kb_Barred_0_kw : KBn G.K xfd_Barred ["self", "words"] 1 ["words"] (fun us ws => us ++ ws) (fun vs zs => vs ++ zs)
  kb_EndsDiffer_0_kw : KBn G.K xfd_EndsDiffer ["self", "number"] 1 ["number"] (fun us ws => us ++ ws) (fun vs zs => vs ++ zs)
  kb_NoPromise_0_kw : KBn G.K xfd_NoPromise ["self", "name"] 1 ["name"] (fun us ws => us ++ ws) (fun vs zs => vs ++ zs)
  kb_NoWalk_0_kw : KBn G.K xfd_NoWalk ["self", "name"] 1 ["name"] (fun us ws => us ++ ws) (fun vs zs => vs ++ zs)
  kb_NotOnto_0_kw : KBn G.K xfd_NotOnto ["self", "number"] 1 ["number"] (fun us ws => us ++ ws) (fun vs zs => vs ++ zs)
  kb_OneSided_0_kw : KBn G.K xfd_OneSided ["self", "form"] 1 ["form"] (fun us ws => us ++ ws) (fun vs zs => vs ++ zs)
  kb_Taken_0_kw : KBn G.K xfd_Taken ["self", "name"] 1 ["name"] (fun us ws => us ++ ws) (fun vs zs => vs ++ zs)
  kb_TooFar_0_kw : KBn G.K xfd_TooFar ["self", "number"] 1 ["number"] (fun us ws => us ++ ws) (fun vs zs => vs ++ zs)
  kb_TooMany_0_kw : KBn G.K xfd_TooMany ["self", "most"] 1 ["most"] (fun us ws => us ++ ws) (fun vs zs => vs ++ zs)
  kb_Uneven_0_rev : KBn G.K xfd_Uneven ["self", "first", "second"] 1 ["second", "first"] (fun us ws => us ++ ws.reverse) (fun vs zs => vs ++ zs.reverse)
  kb_Uneven_1_kw : KBn G.K xfd_Uneven ["self", "first", "second"] 2 ["second"] (fun us ws => us ++ ws) (fun vs zs => vs ++ zs)
  x0_NoDirection : x0B G.K C_NoDirection = true
  x0_NotClosed : x0B G.K C_NotClosed = true
  x0_NotWithin : x0B G.K C_NotWithin = true
  x0_NothingToUndo : x0B G.K C_NothingToUndo = true
  x0_Still : x0B G.K C_Still = true
  xm_BadName_WalkError : PySem.W.exmOne G.K (.ref C_BadName) (.ref C_WalkError) = some true
  xm_BadNumber_WalkError : PySem.W.exmOne G.K (.ref C_BadNumber) (.ref C_WalkError) = some true
  xm_BadPlace_WalkError : PySem.W.exmOne G.K (.ref C_BadPlace) (.ref C_WalkError) = some true
  xm_BadText_WalkError : PySem.W.exmOne G.K (.ref C_BadText) (.ref C_WalkError) = some true
  xm_BadWord_WalkError : PySem.W.exmOne G.K (.ref C_BadWord) (.ref C_WalkError) = some true
  xm_Barred_WalkError : PySem.W.exmOne G.K (.ref C_Barred) (.ref C_WalkError) = some true
  xm_EndsDiffer_WalkError : PySem.W.exmOne G.K (.ref C_EndsDiffer) (.ref C_WalkError) = some true
  xm_NoDirection_WalkError : PySem.W.exmOne G.K (.ref C_NoDirection) (.ref C_WalkError) = some true
  xm_NoPromise_WalkError : PySem.W.exmOne G.K (.ref C_NoPromise) (.ref C_WalkError) = some true
  xm_NoWalk_WalkError : PySem.W.exmOne G.K (.ref C_NoWalk) (.ref C_WalkError) = some true
  xm_NotClosed_WalkError : PySem.W.exmOne G.K (.ref C_NotClosed) (.ref C_WalkError) = some true
  xm_NotOnto_WalkError : PySem.W.exmOne G.K (.ref C_NotOnto) (.ref C_WalkError) = some true
  xm_NotWithin_WalkError : PySem.W.exmOne G.K (.ref C_NotWithin) (.ref C_WalkError) = some true
  xm_NothingToUndo_WalkError : PySem.W.exmOne G.K (.ref C_NothingToUndo) (.ref C_WalkError) = some true
  xm_OneSided_WalkError : PySem.W.exmOne G.K (.ref C_OneSided) (.ref C_WalkError) = some true
  xm_Still_WalkError : PySem.W.exmOne G.K (.ref C_Still) (.ref C_WalkError) = some true
  xm_Taken_WalkError : PySem.W.exmOne G.K (.ref C_Taken) (.ref C_WalkError) = some true
  xm_TooFar_WalkError : PySem.W.exmOne G.K (.ref C_TooFar) (.ref C_WalkError) = some true
  xm_TooMany_WalkError : PySem.W.exmOne G.K (.ref C_TooMany) (.ref C_WalkError) = some true
  xm_Uneven_WalkError : PySem.W.exmOne G.K (.ref C_Uneven) (.ref C_WalkError) = some true
  xm_WalkError_WalkError : PySem.W.exmOne G.K (.ref C_WalkError) (.ref C_WalkError) = some true
  a__law_alone : Addr
  fd__law_alone : FuncData
  F__law_alone : Fun G.K "_law_alone" "_law_alone" st__law_alone a__law_alone fd__law_alone
  b__law_alone : L2.Binds G.K fd__law_alone ["_law_mine"] []
  m__law_alone : mg "_law_alone" = some (.ref a__law_alone)
  a__law_kinds : Addr
  fd__law_kinds : FuncData
  F__law_kinds : Fun G.K "_law_kinds" "_law_kinds" st__law_kinds a__law_kinds fd__law_kinds
  b__law_kinds : L2.Binds G.K fd__law_kinds ["_law_error"] []
  m__law_kinds : mg "_law_kinds" = some (.ref a__law_kinds)
  a__law_apart : Addr
  fd__law_apart : FuncData
  F__law_apart : Fun G.K "_law_apart" "_law_apart" st__law_apart a__law_apart fd__law_apart
  b__law_apart : L2.Binds G.K fd__law_apart ["_law_mine", "_law_yours"] []
  m__law_apart : mg "_law_apart" = some (.ref a__law_apart)
  a__law_raise : Addr
  fd__law_raise : FuncData
  F__law_raise : Fun G.K "_law_raise" "_law_raise" st__law_raise a__law_raise fd__law_raise
  b__law_raise : L2.Binds G.K fd__law_raise ["_law_which", "_law_mine"] []
  m__law_raise : mg "_law_raise" = some (.ref a__law_raise)
  a__law_caught : Addr
  fd__law_caught : FuncData
  F__law_caught : Fun G.K "_law_caught" "_law_caught" st__law_caught a__law_caught fd__law_caught
  b__law_caught : L2.Binds G.K fd__law_caught ["_law_which", "_law_mine"] []
  m__law_caught : mg "_law_caught" = some (.ref a__law_caught)
  a__law_more : Addr
  fd__law_more : FuncData
  F__law_more : Fun G.K "_law_more" "_law_more" st__law_more a__law_more fd__law_more
  b__law_more : L2.Binds G.K fd__law_more ["_law_mine", "_law_yours"] []
  m__law_more : mg "_law_more" = some (.ref a__law_more)
  a__law_pen : Addr
  fd__law_pen : FuncData
  F__law_pen : Fun G.K "_law_pen" "_law_pen" st__law_pen a__law_pen fd__law_pen
  b__law_pen : L2.Binds G.K fd__law_pen ["_law_script"] []
  m__law_pen : mg "_law_pen" = some (.ref a__law_pen)
  a__law_draw : Addr
  fd__law_draw : FuncData
  F__law_draw : Fun G.K "_law_draw" "_law_draw" st__law_draw a__law_draw fd__law_draw
  b__law_draw : L2.Binds G.K fd__law_draw ["_law_pen_here", "_law_many"] []
  m__law_draw : mg "_law_draw" = some (.ref a__law_draw)
  a__law_pick : Addr
  fd__law_pick : FuncData
  F__law_pick : Fun G.K "_law_pick" "_law_pick" st__law_pick a__law_pick fd__law_pick
  b__law_pick : L2.Binds G.K fd__law_pick ["_law_pen_here", "_law_items"] []
  m__law_pick : mg "_law_pick" = some (.ref a__law_pick)
  a_law : Addr
  fd_law : FuncData
  F_law : Fun G.K "law" "law" st_law a_law fd_law
  b_law : L2.Binds G.K fd_law ["_law_script"] []
  m_law : mg "law" = some (.ref a_law)
  z_ValueError : mg "ValueError" = none
  z_all : mg "all" = none
  z_bool : mg "bool" = none
  z_int : mg "int" = none
  z_isinstance : mg "isinstance" = none
  z_len : mg "len" = none
  z_list : mg "list" = none
  z_min : mg "min" = none
  z_range : mg "range" = none
  z_sum : mg "sum" = none
  iso : IsOk G []
  tabs : G.tab = tabG []
theorem Ev.kk {P : Program} {G : Gam} {mg : Str → Option Value} {base : Heap} (e : Ev P G mg base) : G.K = G.K := rfl
section
variable {P : Program} {w0 : World} {G : Gam} {mg : Str → Option Value} {base : Heap}
theorem ok__law_alone (e : Ev P G mg base) : FnOk P w0 G.K mg base (L2.CX P w0) 3 e.a__law_alone e.fd__law_alone ["_law_mine"] (spG G 1 g__law_alone) :=
  fn_okD e.F__law_alone sc__law_alone rfl rfl fun cdv A outer s H E hr tk ps => pdss_one (pds_ret (pdo_frz (pdo_lst (pda_cons (pd_tup (pda_cons (pd_errF (i := 0) tk e.X_BadNumber.T e.X_BadNumber.F e.X_BadNumber.I.no (x_ok e.X_BadNumber.I) (spE1 _ _) (hr.mono (by decide)) (by rfl) e.m_BadNumber (kbn_pos e.X_BadNumber.B rfl) (by decide) (fun _ vs zs h1 h2 => match vs, zs, h1, h2 with | [v0], [], _, _ => ⟨[v0], rfl, rfl, by simp [List.lookup]⟩) (pda_cons (pd_var (pv 0)) (pda_nil)) (pkd_nil)) (pda_cons (pd_errF0 (i := 0) tk e.X_BadNumber.T e.X_BadNumber.F e.X_BadNumber.I.no (x_ok e.X_BadNumber.I) (spE1 _ _) (hr.mono (by decide)) (by rfl) e.m_BadNumber (e.kb_BadNumber_0_kw) (fun _ zs h2 => match zs, h2 with | [z0], _ => ⟨[z0], rfl, rfl, by simp [List.lookup]⟩) (pkd_cons (pd_var (pv 0)) (pkd_nil))) (pda_nil)))) (pda_cons (pd_tup (pda_cons (pd_errF (i := 0) tk e.X_BadPlace.T e.X_BadPlace.F e.X_BadPlace.I.no (x_ok e.X_BadPlace.I) (spE1 _ _) (hr.mono (by decide)) (by rfl) e.m_BadPlace (kbn_pos e.X_BadPlace.B rfl) (by decide) (fun _ vs zs h1 h2 => match vs, zs, h1, h2 with | [v0], [], _, _ => ⟨[v0], rfl, rfl, by simp [List.lookup]⟩) (pda_cons (pd_var (pv 0)) (pda_nil)) (pkd_nil)) (pda_cons (pd_errF0 (i := 0) tk e.X_BadPlace.T e.X_BadPlace.F e.X_BadPlace.I.no (x_ok e.X_BadPlace.I) (spE1 _ _) (hr.mono (by decide)) (by rfl) e.m_BadPlace (e.kb_BadPlace_0_kw) (fun _ zs h2 => match zs, h2 with | [z0], _ => ⟨[z0], rfl, rfl, by simp [List.lookup]⟩) (pkd_cons (pd_var (pv 0)) (pkd_nil))) (pda_nil)))) (pda_cons (pd_tup (pda_cons (pd_errF (i := 0) tk e.X_BadWord.T e.X_BadWord.F e.X_BadWord.I.no (x_ok e.X_BadWord.I) (spE1 _ _) (hr.mono (by decide)) (by rfl) e.m_BadWord (kbn_pos e.X_BadWord.B rfl) (by decide) (fun _ vs zs h1 h2 => match vs, zs, h1, h2 with | [v0], [], _, _ => ⟨[v0], rfl, rfl, by simp [List.lookup]⟩) (pda_cons (pd_var (pv 0)) (pda_nil)) (pkd_nil)) (pda_cons (pd_errF0 (i := 0) tk e.X_BadWord.T e.X_BadWord.F e.X_BadWord.I.no (x_ok e.X_BadWord.I) (spE1 _ _) (hr.mono (by decide)) (by rfl) e.m_BadWord (e.kb_BadWord_0_kw) (fun _ zs h2 => match zs, h2 with | [z0], _ => ⟨[z0], rfl, rfl, by simp [List.lookup]⟩) (pkd_cons (pd_var (pv 0)) (pkd_nil))) (pda_nil)))) (pda_cons (pd_tup (pda_cons (pd_errF (i := 0) tk e.X_TooMany.T e.X_TooMany.F e.X_TooMany.I.no (x_ok e.X_TooMany.I) (spE1 _ _) (hr.mono (by decide)) (by rfl) e.m_TooMany (kbn_pos e.X_TooMany.B rfl) (by decide) (fun _ vs zs h1 h2 => match vs, zs, h1, h2 with | [v0], [], _, _ => ⟨[v0], rfl, rfl, by simp [List.lookup]⟩) (pda_cons (pd_var (pv 0)) (pda_nil)) (pkd_nil)) (pda_cons (pd_errF0 (i := 0) tk e.X_TooMany.T e.X_TooMany.F e.X_TooMany.I.no (x_ok e.X_TooMany.I) (spE1 _ _) (hr.mono (by decide)) (by rfl) e.m_TooMany (e.kb_TooMany_0_kw) (fun _ zs h2 => match zs, h2 with | [z0], _ => ⟨[z0], rfl, rfl, by simp [List.lookup]⟩) (pkd_cons (pd_var (pv 0)) (pkd_nil))) (pda_nil)))) (pda_cons (pd_tup (pda_cons (pd_errF (i := 0) tk e.X_TooFar.T e.X_TooFar.F e.X_TooFar.I.no (x_ok e.X_TooFar.I) (spE1 _ _) (hr.mono (by decide)) (by rfl) e.m_TooFar (kbn_pos e.X_TooFar.B rfl) (by decide) (fun _ vs zs h1 h2 => match vs, zs, h1, h2 with | [v0], [], _, _ => ⟨[v0], rfl, rfl, by simp [List.lookup]⟩) (pda_cons (pd_var (pv 0)) (pda_nil)) (pkd_nil)) (pda_cons (pd_errF0 (i := 0) tk e.X_TooFar.T e.X_TooFar.F e.X_TooFar.I.no (x_ok e.X_TooFar.I) (spE1 _ _) (hr.mono (by decide)) (by rfl) e.m_TooFar (e.kb_TooFar_0_kw) (fun _ zs h2 => match zs, h2 with | [z0], _ => ⟨[z0], rfl, rfl, by simp [List.lookup]⟩) (pkd_cons (pd_var (pv 0)) (pkd_nil))) (pda_nil)))) (pda_cons (pd_tup (pda_cons (pd_errF (i := 0) tk e.X_OneSided.T e.X_OneSided.F e.X_OneSided.I.no (x_ok e.X_OneSided.I) (spE1 _ _) (hr.mono (by decide)) (by rfl) e.m_OneSided (kbn_pos e.X_OneSided.B rfl) (by decide) (fun _ vs zs h1 h2 => match vs, zs, h1, h2 with | [v0], [], _, _ => ⟨[v0], rfl, rfl, by simp [List.lookup]⟩) (pda_cons (pd_var (pv 0)) (pda_nil)) (pkd_nil)) (pda_cons (pd_errF0 (i := 0) tk e.X_OneSided.T e.X_OneSided.F e.X_OneSided.I.no (x_ok e.X_OneSided.I) (spE1 _ _) (hr.mono (by decide)) (by rfl) e.m_OneSided (e.kb_OneSided_0_kw) (fun _ zs h2 => match zs, h2 with | [z0], _ => ⟨[z0], rfl, rfl, by simp [List.lookup]⟩) (pkd_cons (pd_var (pv 0)) (pkd_nil))) (pda_nil)))) (pda_cons (pd_tup (pda_cons (pd_errF (i := 0) tk e.X_EndsDiffer.T e.X_EndsDiffer.F e.X_EndsDiffer.I.no (x_ok e.X_EndsDiffer.I) (spE1 _ _) (hr.mono (by decide)) (by rfl) e.m_EndsDiffer (kbn_pos e.X_EndsDiffer.B rfl) (by decide) (fun _ vs zs h1 h2 => match vs, zs, h1, h2 with | [v0], [], _, _ => ⟨[v0], rfl, rfl, by simp [List.lookup]⟩) (pda_cons (pd_var (pv 0)) (pda_nil)) (pkd_nil)) (pda_cons (pd_errF0 (i := 0) tk e.X_EndsDiffer.T e.X_EndsDiffer.F e.X_EndsDiffer.I.no (x_ok e.X_EndsDiffer.I) (spE1 _ _) (hr.mono (by decide)) (by rfl) e.m_EndsDiffer (e.kb_EndsDiffer_0_kw) (fun _ zs h2 => match zs, h2 with | [z0], _ => ⟨[z0], rfl, rfl, by simp [List.lookup]⟩) (pkd_cons (pd_var (pv 0)) (pkd_nil))) (pda_nil)))) (pda_cons (pd_tup (pda_cons (pd_errF (i := 0) tk e.X_NotOnto.T e.X_NotOnto.F e.X_NotOnto.I.no (x_ok e.X_NotOnto.I) (spE1 _ _) (hr.mono (by decide)) (by rfl) e.m_NotOnto (kbn_pos e.X_NotOnto.B rfl) (by decide) (fun _ vs zs h1 h2 => match vs, zs, h1, h2 with | [v0], [], _, _ => ⟨[v0], rfl, rfl, by simp [List.lookup]⟩) (pda_cons (pd_var (pv 0)) (pda_nil)) (pkd_nil)) (pda_cons (pd_errF0 (i := 0) tk e.X_NotOnto.T e.X_NotOnto.F e.X_NotOnto.I.no (x_ok e.X_NotOnto.I) (spE1 _ _) (hr.mono (by decide)) (by rfl) e.m_NotOnto (e.kb_NotOnto_0_kw) (fun _ zs h2 => match zs, h2 with | [z0], _ => ⟨[z0], rfl, rfl, by simp [List.lookup]⟩) (pkd_cons (pd_var (pv 0)) (pkd_nil))) (pda_nil)))) (pda_cons (pd_tup (pda_cons (pd_errF (i := 0) tk e.X_BadText.T e.X_BadText.F e.X_BadText.I.no (x_ok e.X_BadText.I) (spE1 _ _) (hr.mono (by decide)) (by rfl) e.m_BadText (kbn_pos e.X_BadText.B rfl) (by decide) (fun _ vs zs h1 h2 => match vs, zs, h1, h2 with | [v0], [], _, _ => ⟨[v0], rfl, rfl, by simp [List.lookup]⟩) (pda_cons (pd_var (pv 0)) (pda_nil)) (pkd_nil)) (pda_cons (pd_errF0 (i := 0) tk e.X_BadText.T e.X_BadText.F e.X_BadText.I.no (x_ok e.X_BadText.I) (spE1 _ _) (hr.mono (by decide)) (by rfl) e.m_BadText (e.kb_BadText_0_kw) (fun _ zs h2 => match zs, h2 with | [z0], _ => ⟨[z0], rfl, rfl, by simp [List.lookup]⟩) (pkd_cons (pd_var (pv 0)) (pkd_nil))) (pda_nil)))) (pda_cons (pd_tup (pda_cons (pd_errF (i := 0) tk e.X_NoWalk.T e.X_NoWalk.F e.X_NoWalk.I.no (x_ok e.X_NoWalk.I) (spE1 _ _) (hr.mono (by decide)) (by rfl) e.m_NoWalk (kbn_pos e.X_NoWalk.B rfl) (by decide) (fun _ vs zs h1 h2 => match vs, zs, h1, h2 with | [v0], [], _, _ => ⟨[v0], rfl, rfl, by simp [List.lookup]⟩) (pda_cons (pd_var (pv 0)) (pda_nil)) (pkd_nil)) (pda_cons (pd_errF0 (i := 0) tk e.X_NoWalk.T e.X_NoWalk.F e.X_NoWalk.I.no (x_ok e.X_NoWalk.I) (spE1 _ _) (hr.mono (by decide)) (by rfl) e.m_NoWalk (e.kb_NoWalk_0_kw) (fun _ zs h2 => match zs, h2 with | [z0], _ => ⟨[z0], rfl, rfl, by simp [List.lookup]⟩) (pkd_cons (pd_var (pv 0)) (pkd_nil))) (pda_nil)))) (pda_cons (pd_tup (pda_cons (pd_errF (i := 0) tk e.X_BadName.T e.X_BadName.F e.X_BadName.I.no (x_ok e.X_BadName.I) (spE1 _ _) (hr.mono (by decide)) (by rfl) e.m_BadName (kbn_pos e.X_BadName.B rfl) (by decide) (fun _ vs zs h1 h2 => match vs, zs, h1, h2 with | [v0], [], _, _ => ⟨[v0], rfl, rfl, by simp [List.lookup]⟩) (pda_cons (pd_var (pv 0)) (pda_nil)) (pkd_nil)) (pda_cons (pd_errF0 (i := 0) tk e.X_BadName.T e.X_BadName.F e.X_BadName.I.no (x_ok e.X_BadName.I) (spE1 _ _) (hr.mono (by decide)) (by rfl) e.m_BadName (e.kb_BadName_0_kw) (fun _ zs h2 => match zs, h2 with | [z0], _ => ⟨[z0], rfl, rfl, by simp [List.lookup]⟩) (pkd_cons (pd_var (pv 0)) (pkd_nil))) (pda_nil)))) (pda_cons (pd_tup (pda_cons (pd_errF (i := 0) tk e.X_Taken.T e.X_Taken.F e.X_Taken.I.no (x_ok e.X_Taken.I) (spE1 _ _) (hr.mono (by decide)) (by rfl) e.m_Taken (kbn_pos e.X_Taken.B rfl) (by decide) (fun _ vs zs h1 h2 => match vs, zs, h1, h2 with | [v0], [], _, _ => ⟨[v0], rfl, rfl, by simp [List.lookup]⟩) (pda_cons (pd_var (pv 0)) (pda_nil)) (pkd_nil)) (pda_cons (pd_errF0 (i := 0) tk e.X_Taken.T e.X_Taken.F e.X_Taken.I.no (x_ok e.X_Taken.I) (spE1 _ _) (hr.mono (by decide)) (by rfl) e.m_Taken (e.kb_Taken_0_kw) (fun _ zs h2 => match zs, h2 with | [z0], _ => ⟨[z0], rfl, rfl, by simp [List.lookup]⟩) (pkd_cons (pd_var (pv 0)) (pkd_nil))) (pda_nil)))) (pda_cons (pd_tup (pda_cons (pd_errF (i := 0) tk e.X_NoPromise.T e.X_NoPromise.F e.X_NoPromise.I.no (x_ok e.X_NoPromise.I) (spE1 _ _) (hr.mono (by decide)) (by rfl) e.m_NoPromise (kbn_pos e.X_NoPromise.B rfl) (by decide) (fun _ vs zs h1 h2 => match vs, zs, h1, h2 with | [v0], [], _, _ => ⟨[v0], rfl, rfl, by simp [List.lookup]⟩) (pda_cons (pd_var (pv 0)) (pda_nil)) (pkd_nil)) (pda_cons (pd_errF0 (i := 0) tk e.X_NoPromise.T e.X_NoPromise.F e.X_NoPromise.I.no (x_ok e.X_NoPromise.I) (spE1 _ _) (hr.mono (by decide)) (by rfl) e.m_NoPromise (e.kb_NoPromise_0_kw) (fun _ zs h2 => match zs, h2 with | [z0], _ => ⟨[z0], rfl, rfl, by simp [List.lookup]⟩) (pkd_cons (pd_var (pv 0)) (pkd_nil))) (pda_nil)))) (pda_cons (pd_tup (pda_cons (pd_errF (i := 0) tk e.X_Barred.T e.X_Barred.F e.X_Barred.I.no (x_ok e.X_Barred.I) (spE1 _ _) (hr.mono (by decide)) (by rfl) e.m_Barred (kbn_pos e.X_Barred.B rfl) (by decide) (fun _ vs zs h1 h2 => match vs, zs, h1, h2 with | [v0], [], _, _ => ⟨[v0], rfl, rfl, by simp [List.lookup]⟩) (pda_cons (pd_var (pv 0)) (pda_nil)) (pkd_nil)) (pda_cons (pd_errF0 (i := 0) tk e.X_Barred.T e.X_Barred.F e.X_Barred.I.no (x_ok e.X_Barred.I) (spE1 _ _) (hr.mono (by decide)) (by rfl) e.m_Barred (e.kb_Barred_0_kw) (fun _ zs h2 => match zs, h2 with | [z0], _ => ⟨[z0], rfl, rfl, by simp [List.lookup]⟩) (pkd_cons (pd_var (pv 0)) (pkd_nil))) (pda_nil)))) (pda_nil))))))))))))))))))
theorem ok__law_kinds (e : Ev P G mg base) : FnOk P w0 G.K mg base (L2.CX P w0) 1 e.a__law_kinds e.fd__law_kinds ["_law_error"] (spG G 1 g__law_kinds) :=
  fn_okD e.F__law_kinds sc__law_kinds rfl rfl fun cdv A outer s H E hr tk ps => pdss_cons (pds_set (i := 1) sc__law_kinds.nd rfl (.inl rfl) (pdo_frz (pdo_lst (pda_cons (pd_callB (cd_isE rfl e.eio) (by rfl) e.z_isinstance (by decide +kernel) (pda_cons (pd_var (pv 0)) (pda_cons (pd_cls (by rfl) e.m_BadNumber e.ct_BadNumber) (pda_nil)))) (pda_cons (pd_callB (cd_isE rfl e.eio) (by rfl) e.z_isinstance (by decide +kernel) (pda_cons (pd_var (pv 0)) (pda_cons (pd_cls (by rfl) e.m_BadPlace e.ct_BadPlace) (pda_nil)))) (pda_cons (pd_callB (cd_isE rfl e.eio) (by rfl) e.z_isinstance (by decide +kernel) (pda_cons (pd_var (pv 0)) (pda_cons (pd_cls (by rfl) e.m_BadWord e.ct_BadWord) (pda_nil)))) (pda_nil)))))))
    (pdss_cons (pds_set (i := 1) sc__law_kinds.nd rfl (.inl rfl) (pd_op (opd_addA e.kk) (pd_var (pv 1)) (pdo_frz (pdo_lst (pda_cons (pd_callB (cd_isE rfl e.eio) (by rfl) e.z_isinstance (by decide +kernel) (pda_cons (pd_var (pv 0)) (pda_cons (pd_cls (by rfl) e.m_TooMany e.ct_TooMany) (pda_nil)))) (pda_cons (pd_callB (cd_isE rfl e.eio) (by rfl) e.z_isinstance (by decide +kernel) (pda_cons (pd_var (pv 0)) (pda_cons (pd_cls (by rfl) e.m_TooFar e.ct_TooFar) (pda_nil)))) (pda_cons (pd_callB (cd_isE rfl e.eio) (by rfl) e.z_isinstance (by decide +kernel) (pda_cons (pd_var (pv 0)) (pda_cons (pd_cls (by rfl) e.m_NotWithin e.ct_NotWithin) (pda_nil)))) (pda_nil))))))))
    (pdss_cons (pds_set (i := 1) sc__law_kinds.nd rfl (.inl rfl) (pd_op (opd_addA e.kk) (pd_var (pv 1)) (pdo_frz (pdo_lst (pda_cons (pd_callB (cd_isE rfl e.eio) (by rfl) e.z_isinstance (by decide +kernel) (pda_cons (pd_var (pv 0)) (pda_cons (pd_cls (by rfl) e.m_OneSided e.ct_OneSided) (pda_nil)))) (pda_cons (pd_callB (cd_isE rfl e.eio) (by rfl) e.z_isinstance (by decide +kernel) (pda_cons (pd_var (pv 0)) (pda_cons (pd_cls (by rfl) e.m_Still e.ct_Still) (pda_nil)))) (pda_cons (pd_callB (cd_isE rfl e.eio) (by rfl) e.z_isinstance (by decide +kernel) (pda_cons (pd_var (pv 0)) (pda_cons (pd_cls (by rfl) e.m_NoDirection e.ct_NoDirection) (pda_nil)))) (pda_nil))))))))
    (pdss_cons (pds_set (i := 1) sc__law_kinds.nd rfl (.inl rfl) (pd_op (opd_addA e.kk) (pd_var (pv 1)) (pdo_frz (pdo_lst (pda_cons (pd_callB (cd_isE rfl e.eio) (by rfl) e.z_isinstance (by decide +kernel) (pda_cons (pd_var (pv 0)) (pda_cons (pd_cls (by rfl) e.m_Uneven e.ct_Uneven) (pda_nil)))) (pda_cons (pd_callB (cd_isE rfl e.eio) (by rfl) e.z_isinstance (by decide +kernel) (pda_cons (pd_var (pv 0)) (pda_cons (pd_cls (by rfl) e.m_EndsDiffer e.ct_EndsDiffer) (pda_nil)))) (pda_cons (pd_callB (cd_isE rfl e.eio) (by rfl) e.z_isinstance (by decide +kernel) (pda_cons (pd_var (pv 0)) (pda_cons (pd_cls (by rfl) e.m_NotOnto e.ct_NotOnto) (pda_nil)))) (pda_nil))))))))
    (pdss_cons (pds_set (i := 1) sc__law_kinds.nd rfl (.inl rfl) (pd_op (opd_addA e.kk) (pd_var (pv 1)) (pdo_frz (pdo_lst (pda_cons (pd_callB (cd_isE rfl e.eio) (by rfl) e.z_isinstance (by decide +kernel) (pda_cons (pd_var (pv 0)) (pda_cons (pd_cls (by rfl) e.m_NotClosed e.ct_NotClosed) (pda_nil)))) (pda_cons (pd_callB (cd_isE rfl e.eio) (by rfl) e.z_isinstance (by decide +kernel) (pda_cons (pd_var (pv 0)) (pda_cons (pd_cls (by rfl) e.m_BadText e.ct_BadText) (pda_nil)))) (pda_cons (pd_callB (cd_isE rfl e.eio) (by rfl) e.z_isinstance (by decide +kernel) (pda_cons (pd_var (pv 0)) (pda_cons (pd_cls (by rfl) e.m_NoWalk e.ct_NoWalk) (pda_nil)))) (pda_nil))))))))
    (pdss_cons (pds_set (i := 1) sc__law_kinds.nd rfl (.inl rfl) (pd_op (opd_addA e.kk) (pd_var (pv 1)) (pdo_frz (pdo_lst (pda_cons (pd_callB (cd_isE rfl e.eio) (by rfl) e.z_isinstance (by decide +kernel) (pda_cons (pd_var (pv 0)) (pda_cons (pd_cls (by rfl) e.m_BadName e.ct_BadName) (pda_nil)))) (pda_cons (pd_callB (cd_isE rfl e.eio) (by rfl) e.z_isinstance (by decide +kernel) (pda_cons (pd_var (pv 0)) (pda_cons (pd_cls (by rfl) e.m_Taken e.ct_Taken) (pda_nil)))) (pda_cons (pd_callB (cd_isE rfl e.eio) (by rfl) e.z_isinstance (by decide +kernel) (pda_cons (pd_var (pv 0)) (pda_cons (pd_cls (by rfl) e.m_NoPromise e.ct_NoPromise) (pda_nil)))) (pda_nil))))))))
    (pdss_cons (pds_set (i := 1) sc__law_kinds.nd rfl (.inl rfl) (pd_op (opd_addA e.kk) (pd_var (pv 1)) (pdo_frz (pdo_lst (pda_cons (pd_callB (cd_isE rfl e.eio) (by rfl) e.z_isinstance (by decide +kernel) (pda_cons (pd_var (pv 0)) (pda_cons (pd_cls (by rfl) e.m_Barred e.ct_Barred) (pda_nil)))) (pda_cons (pd_callB (cd_isE rfl e.eio) (by rfl) e.z_isinstance (by decide +kernel) (pda_cons (pd_var (pv 0)) (pda_cons (pd_cls (by rfl) e.m_NothingToUndo e.ct_NothingToUndo) (pda_nil)))) (pda_nil)))))))
    (pdss_one (pds_ret (pdo_frz (pdo_lc (own := [("_law_one", 2)]) rfl sc__law_kinds.nd (pdi_seq rfl (pd_var (pv 1))) (by exact blkOk_by (N := ["_law_error", "_law_told", "_law_one"]) (sc := defScope st__law_kinds) (own := [("_law_one", 2)]) (by decide +kernel)) (by decide) (fun _ _ _ _ _ => pdg_name (i := 2) sc__law_kinds.nd rfl (.inl rfl)) (fun _ _ _ _ _ => ptds_nil) (fun _ _ _ _ _ => pd_callTy cd_int (by rfl) e.z_int (by decide +kernel) (pda_cons (pd_var (pv 2)) (pda_nil)))))))))))))
theorem ok__law_apart (e : Ev P G mg base) : FnOk P w0 G.K mg base (L2.CX P w0) 3 e.a__law_apart e.fd__law_apart ["_law_mine", "_law_yours"] (spG G 2 g__law_apart) :=
  fn_okD e.F__law_apart sc__law_apart rfl rfl fun cdv A outer s H E hr tk ps => pdss_cons (pds_setO (i := 2) sc__law_apart.nd rfl (.inr rfl) (pdo_lst (pda_cons (pd_err tk e.X_BadNumber.T e.lamE (x_ok e.X_BadNumber.I) (spE1 _ _) (hr.mono (by decide)) (by rfl) e.m_BadNumber (kbn_pos e.X_BadNumber.B rfl) (by decide) (fun _ vs zs h1 h2 => match vs, zs, h1, h2 with | [v0], [], _, _ => ⟨[v0], rfl, rfl⟩) (pda_cons (pd_var (pv 0)) (pda_nil)) (pkd_nil)) (pda_cons (pd_err tk e.X_BadPlace.T e.lamE (x_ok e.X_BadPlace.I) (spE1 _ _) (hr.mono (by decide)) (by rfl) e.m_BadPlace (kbn_pos e.X_BadPlace.B rfl) (by decide) (fun _ vs zs h1 h2 => match vs, zs, h1, h2 with | [v0], [], _, _ => ⟨[v0], rfl, rfl⟩) (pda_cons (pd_var (pv 0)) (pda_nil)) (pkd_nil)) (pda_cons (pd_err tk e.X_BadWord.T e.lamE (x_ok e.X_BadWord.I) (spE1 _ _) (hr.mono (by decide)) (by rfl) e.m_BadWord (kbn_pos e.X_BadWord.B rfl) (by decide) (fun _ vs zs h1 h2 => match vs, zs, h1, h2 with | [v0], [], _, _ => ⟨[v0], rfl, rfl⟩) (pda_cons (pd_var (pv 0)) (pda_nil)) (pkd_nil)) (pda_cons (pd_err tk e.X_TooMany.T e.lamE (x_ok e.X_TooMany.I) (spE1 _ _) (hr.mono (by decide)) (by rfl) e.m_TooMany (kbn_pos e.X_TooMany.B rfl) (by decide) (fun _ vs zs h1 h2 => match vs, zs, h1, h2 with | [v0], [], _, _ => ⟨[v0], rfl, rfl⟩) (pda_cons (pd_var (pv 0)) (pda_nil)) (pkd_nil)) (pda_cons (pd_err tk e.X_TooFar.T e.lamE (x_ok e.X_TooFar.I) (spE1 _ _) (hr.mono (by decide)) (by rfl) e.m_TooFar (kbn_pos e.X_TooFar.B rfl) (by decide) (fun _ vs zs h1 h2 => match vs, zs, h1, h2 with | [v0], [], _, _ => ⟨[v0], rfl, rfl⟩) (pda_cons (pd_var (pv 0)) (pda_nil)) (pkd_nil)) (pda_cons (pd_errN e.lamE e.ct_NotWithin e.x0_NotWithin (by rfl) e.m_NotWithin) (pda_cons (pd_err tk e.X_OneSided.T e.lamE (x_ok e.X_OneSided.I) (spE1 _ _) (hr.mono (by decide)) (by rfl) e.m_OneSided (kbn_pos e.X_OneSided.B rfl) (by decide) (fun _ vs zs h1 h2 => match vs, zs, h1, h2 with | [v0], [], _, _ => ⟨[v0], rfl, rfl⟩) (pda_cons (pd_var (pv 0)) (pda_nil)) (pkd_nil)) (pda_nil))))))))))
    (pdss_cons (pds_setO (i := 2) sc__law_apart.nd rfl (.inr rfl) (pdo_cat (pd_var (pv 2)) (pdo_frz (pdo_lst (pda_cons (pd_errN e.lamE e.ct_Still e.x0_Still (by rfl) e.m_Still) (pda_cons (pd_errN e.lamE e.ct_NoDirection e.x0_NoDirection (by rfl) e.m_NoDirection) (pda_cons (pd_err tk e.X_Uneven.T e.lamE (x_ok2 e.X_Uneven.I) (spE2 _ _ _) (hr.mono (by decide)) (by rfl) e.m_Uneven (kbn_pos e.X_Uneven.B rfl) (by decide) (fun _ vs zs h1 h2 => match vs, zs, h1, h2 with | [v0, v1], [], _, _ => ⟨[v0, v1], rfl, rfl⟩) (pda_cons (pd_var (pv 0)) (pda_cons (pd_var (pv 1)) (pda_nil))) (pkd_nil)) (pda_cons (pd_err tk e.X_EndsDiffer.T e.lamE (x_ok e.X_EndsDiffer.I) (spE1 _ _) (hr.mono (by decide)) (by rfl) e.m_EndsDiffer (kbn_pos e.X_EndsDiffer.B rfl) (by decide) (fun _ vs zs h1 h2 => match vs, zs, h1, h2 with | [v0], [], _, _ => ⟨[v0], rfl, rfl⟩) (pda_cons (pd_var (pv 0)) (pda_nil)) (pkd_nil)) (pda_cons (pd_err tk e.X_NotOnto.T e.lamE (x_ok e.X_NotOnto.I) (spE1 _ _) (hr.mono (by decide)) (by rfl) e.m_NotOnto (kbn_pos e.X_NotOnto.B rfl) (by decide) (fun _ vs zs h1 h2 => match vs, zs, h1, h2 with | [v0], [], _, _ => ⟨[v0], rfl, rfl⟩) (pda_cons (pd_var (pv 0)) (pda_nil)) (pkd_nil)) (pda_cons (pd_errN e.lamE e.ct_NotClosed e.x0_NotClosed (by rfl) e.m_NotClosed) (pda_nil)))))))))))
    (pdss_cons (pds_setO (i := 2) sc__law_apart.nd rfl (.inr rfl) (pdo_cat (pd_var (pv 2)) (pdo_frz (pdo_lst (pda_cons (pd_err tk e.X_BadText.T e.lamE (x_ok e.X_BadText.I) (spE1 _ _) (hr.mono (by decide)) (by rfl) e.m_BadText (kbn_pos e.X_BadText.B rfl) (by decide) (fun _ vs zs h1 h2 => match vs, zs, h1, h2 with | [v0], [], _, _ => ⟨[v0], rfl, rfl⟩) (pda_cons (pd_var (pv 0)) (pda_nil)) (pkd_nil)) (pda_cons (pd_err tk e.X_NoWalk.T e.lamE (x_ok e.X_NoWalk.I) (spE1 _ _) (hr.mono (by decide)) (by rfl) e.m_NoWalk (kbn_pos e.X_NoWalk.B rfl) (by decide) (fun _ vs zs h1 h2 => match vs, zs, h1, h2 with | [v0], [], _, _ => ⟨[v0], rfl, rfl⟩) (pda_cons (pd_var (pv 0)) (pda_nil)) (pkd_nil)) (pda_cons (pd_err tk e.X_BadName.T e.lamE (x_ok e.X_BadName.I) (spE1 _ _) (hr.mono (by decide)) (by rfl) e.m_BadName (kbn_pos e.X_BadName.B rfl) (by decide) (fun _ vs zs h1 h2 => match vs, zs, h1, h2 with | [v0], [], _, _ => ⟨[v0], rfl, rfl⟩) (pda_cons (pd_var (pv 0)) (pda_nil)) (pkd_nil)) (pda_cons (pd_err tk e.X_Taken.T e.lamE (x_ok e.X_Taken.I) (spE1 _ _) (hr.mono (by decide)) (by rfl) e.m_Taken (kbn_pos e.X_Taken.B rfl) (by decide) (fun _ vs zs h1 h2 => match vs, zs, h1, h2 with | [v0], [], _, _ => ⟨[v0], rfl, rfl⟩) (pda_cons (pd_var (pv 0)) (pda_nil)) (pkd_nil)) (pda_cons (pd_err tk e.X_NoPromise.T e.lamE (x_ok e.X_NoPromise.I) (spE1 _ _) (hr.mono (by decide)) (by rfl) e.m_NoPromise (kbn_pos e.X_NoPromise.B rfl) (by decide) (fun _ vs zs h1 h2 => match vs, zs, h1, h2 with | [v0], [], _, _ => ⟨[v0], rfl, rfl⟩) (pda_cons (pd_var (pv 0)) (pda_nil)) (pkd_nil)) (pda_cons (pd_err tk e.X_Barred.T e.lamE (x_ok e.X_Barred.I) (spE1 _ _) (hr.mono (by decide)) (by rfl) e.m_Barred (kbn_pos e.X_Barred.B rfl) (by decide) (fun _ vs zs h1 h2 => match vs, zs, h1, h2 with | [v0], [], _, _ => ⟨[v0], rfl, rfl⟩) (pda_cons (pd_var (pv 0)) (pda_nil)) (pkd_nil)) (pda_nil)))))))))))
    (pdss_cons (pds_append (pv 2) (pda_cons (pd_errN e.lamE e.ct_NothingToUndo e.x0_NothingToUndo (by rfl) e.m_NothingToUndo) (pda_nil)))
    (pdss_one (pds_ret (pd_callB (cd_all rfl) (by rfl) e.z_all (by decide +kernel) (pda_cons (pdo_frz (pdo_lc (own := [("_law_k", 3)]) rfl sc__law_apart.nd (pdi_range1 (by rfl) e.z_range (pda_cons (pd_int) (pda_nil))) (by exact blkOk_by (N := ["_law_mine", "_law_yours", "_law_made", "_law_k"]) (sc := defScope st__law_apart) (own := [("_law_k", 3)]) (by decide +kernel)) (by decide) (fun _ _ _ _ _ => pdg_name (i := 3) sc__law_apart.nd rfl (.inl rfl)) (fun _ _ _ _ _ => ptds_nil) (fun _ _ _ _ _ => pd_cmp (opd_eq e.kk hr.units) (pd_call (ok__law_kinds e) (hr.mono (by decide)) (by rfl) e.m__law_kinds e.F__law_kinds.kp e.b__law_kinds takes0 (pda_cons (pd_ixO e.kk (pv 2) (pd_var (pv 3)) (fun _ _ => rfl)) (pda_nil))) (pd_op (opd_addA e.kk) (pd_op (opd_addA e.kk) (pd_op (opd_mulA) (pdo_frz (pdo_lst (pda_cons (pd_int) (pda_nil)))) (pd_var (pv 3))) (pdo_frz (pdo_lst (pda_cons (pd_int) (pda_nil))))) (pd_op (opd_mulA) (pdo_frz (pdo_lst (pda_cons (pd_int) (pda_nil)))) (pd_op (opd_sub) (pd_int) (pd_var (pv 3))))) (nomark _)))) (pda_nil))))))))
theorem ok__law_raise (e : Ev P G mg base) : FnOk P w0 G.K mg base (L2.CX P w0) 3 e.a__law_raise e.fd__law_raise ["_law_which", "_law_mine"] (spG G 2 g__law_raise) :=
  fn_okD e.F__law_raise sc__law_raise rfl rfl fun cdv A outer s H E hr tk ps => pdss_cons (pds_if (ptd_cmp (opd_eq e.kk hr.units) (pd_var (pv 0)) (pd_int) (nomark _)) (pdss_one (pds_raise0 rfl tk e.ct_Still e.x0_Still (by rfl) e.m_Still)) (pdss_nil))
    (pdss_cons (pds_if (ptd_cmp (opd_eq e.kk hr.units) (pd_var (pv 0)) (pd_int) (nomark _)) (pdss_one (pds_raise rfl tk e.X_TooMany.T e.X_TooMany.I s_0 e.X_TooMany.B (hr.mono (by decide)) (by rfl) e.m_TooMany (pda_cons (pd_int) (pda_nil)))) (pdss_nil))
    (pdss_cons (pds_if (ptd_cmp (opd_eq e.kk hr.units) (pd_var (pv 0)) (pd_int) (nomark _)) (pdss_one (pds_raiseK rfl tk e.X_OneSided.T (x_ok e.X_OneSided.I) s_1 (hr.mono (by decide)) (by rfl) e.m_OneSided e.kb_OneSided_0_kw (fun _ _ => rfl) (pkd_cons (pd_var (pv 1)) pkd_nil))) (pdss_nil))
    (pdss_cons (pds_if (ptd_cmp (opd_eq e.kk hr.units) (pd_var (pv 0)) (pd_int) (nomark _)) (pdss_one (pds_raise2 rfl tk e.X_Uneven.T e.X_Uneven.I s_2 s_3 e.X_Uneven.B (hr.mono (by decide)) (by rfl) e.m_Uneven (pda_cons (pd_var (pv 1)) (pda_cons (pd_int) (pda_nil))))) (pdss_nil))
    (pdss_one (pds_raise0 rfl tk e.ct_NothingToUndo e.x0_NothingToUndo (by rfl) e.m_NothingToUndo)))))
theorem ok__law_caught (e : Ev P G mg base) : FnOk P w0 G.K mg base (L2.CX P w0) 5 e.a__law_caught e.fd__law_caught ["_law_which", "_law_mine"] (spG G 2 g__law_caught) :=
  fn_okD e.F__law_caught sc__law_caught rfl rfl fun cdv A outer s H E hr tk ps => pdss_cons (pds_tryB (hs := [⟨.ref e.C_WalkError, some 2, hmT ["BadName", "BadNumber", "BadPlace", "BadText", "BadWord", "Barred", "EndsDiffer", "NoDirection", "NoPromise", "NoWalk", "NotClosed", "NotOnto", "NotWithin", "NothingToUndo", "OneSided", "Still", "Taken", "TooFar", "TooMany", "Uneven", "WalkError"] [], fun x => sRet (eC (.bl true))⟩]) rfl rfl sc__law_caught.nd tk (fun Wi pn xe tk ps => pdss_one (pds_expr (pd_call (ok__law_raise e) (hr.mono (by decide)) (by rfl) e.m__law_raise e.F__law_raise.kp e.b__law_raise tk (pda_cons (pd_var (pv 0)) (pda_cons (pd_var (pv 1)) (pda_nil)))))) (fun h hh => by
        simp only [List.mem_cons, List.not_mem_nil, or_false] at hh
        subst hh
        · exact mok_of (fun k hk C hC => by simp only [List.mem_cons, List.not_mem_nil, or_false] at hk; rcases hk with rfl | rfl | rfl | rfl | rfl | rfl | rfl | rfl | rfl | rfl | rfl | rfl | rfl | rfl | rfl | rfl | rfl | rfl | rfl | rfl | rfl <;> (first | (rw [e.ct_BadName] at hC; cases hC; exact e.xm_BadName_WalkError) | (rw [e.ct_BadNumber] at hC; cases hC; exact e.xm_BadNumber_WalkError) | (rw [e.ct_BadPlace] at hC; cases hC; exact e.xm_BadPlace_WalkError) | (rw [e.ct_BadText] at hC; cases hC; exact e.xm_BadText_WalkError) | (rw [e.ct_BadWord] at hC; cases hC; exact e.xm_BadWord_WalkError) | (rw [e.ct_Barred] at hC; cases hC; exact e.xm_Barred_WalkError) | (rw [e.ct_EndsDiffer] at hC; cases hC; exact e.xm_EndsDiffer_WalkError) | (rw [e.ct_NoDirection] at hC; cases hC; exact e.xm_NoDirection_WalkError) | (rw [e.ct_NoPromise] at hC; cases hC; exact e.xm_NoPromise_WalkError) | (rw [e.ct_NoWalk] at hC; cases hC; exact e.xm_NoWalk_WalkError) | (rw [e.ct_NotClosed] at hC; cases hC; exact e.xm_NotClosed_WalkError) | (rw [e.ct_NotOnto] at hC; cases hC; exact e.xm_NotOnto_WalkError) | (rw [e.ct_NotWithin] at hC; cases hC; exact e.xm_NotWithin_WalkError) | (rw [e.ct_NothingToUndo] at hC; cases hC; exact e.xm_NothingToUndo_WalkError) | (rw [e.ct_OneSided] at hC; cases hC; exact e.xm_OneSided_WalkError) | (rw [e.ct_Still] at hC; cases hC; exact e.xm_Still_WalkError) | (rw [e.ct_Taken] at hC; cases hC; exact e.xm_Taken_WalkError) | (rw [e.ct_TooFar] at hC; cases hC; exact e.xm_TooFar_WalkError) | (rw [e.ct_TooMany] at hC; cases hC; exact e.xm_TooMany_WalkError) | (rw [e.ct_Uneven] at hC; cases hC; exact e.xm_Uneven_WalkError) | (rw [e.ct_WalkError] at hC; cases hC; exact e.xm_WalkError_WalkError))) (fun k hk C hC => by cases hk)) (HdA.as_ (i := 2) (⟨by rfl, by decide, .inl e.m_WalkError⟩) rfl rfl (su_one fun a ob cl dd pn x hz hfs => pxs_ret (pxd_lift (pd_bl))) (HdA.nil)))
    (pdss_one (pds_ret (pd_bl)))
theorem ok__law_more (e : Ev P G mg base) : FnOk P w0 G.K mg base (L2.CX P w0) 3 e.a__law_more e.fd__law_more ["_law_mine", "_law_yours"] (spG G 2 g__law_more) :=
  fn_okD e.F__law_more sc__law_more rfl rfl fun cdv A outer s H E hr tk ps => pdss_cons (pds_set (i := 2) sc__law_more.nd rfl (.inl rfl) (pdo_frz (pdo_lst (pda_cons (pd_tup (pda_cons (pd_errF (i := 0) tk e.X_Uneven.T e.X_Uneven.F e.X_Uneven.I.no (x_ok2 e.X_Uneven.I) (spE2 _ _ _) (hr.mono (by decide)) (by rfl) e.m_Uneven (kbn_pos e.X_Uneven.B rfl) (by decide) (fun _ vs zs h1 h2 => match vs, zs, h1, h2 with | [v0, v1], [], _, _ => ⟨[v0, v1], rfl, rfl, lk_skip (by decide)⟩) (pda_cons (pd_var (pv 0)) (pda_cons (pd_var (pv 1)) (pda_nil))) (pkd_nil)) (pda_cons (pd_var (pv 0)) (pda_nil)))) (pda_cons (pd_tup (pda_cons (pd_errF (i := 1) tk e.X_Uneven.T e.X_Uneven.F e.X_Uneven.I.no2 (x_ok2 e.X_Uneven.I) (spE2 _ _ _) (hr.mono (by decide)) (by rfl) e.m_Uneven (e.kb_Uneven_1_kw) (by decide) (fun _ vs zs h1 h2 => match vs, zs, h1, h2 with | [v0], [z0], _, _ => ⟨[v0, z0], rfl, rfl, by simp [List.lookup]⟩) (pda_cons (pd_var (pv 0)) (pda_nil)) (pkd_cons (pd_var (pv 1)) (pkd_nil))) (pda_cons (pd_var (pv 1)) (pda_nil)))) (pda_nil))))))
    (pdss_one (pds_ret (pd_op (opd_addA e.kk) (pd_var (pv 2)) (pdo_frz (pdo_lst (pda_cons (pd_tup (pda_cons (pd_errF0 (i := 0) tk e.X_Uneven.T e.X_Uneven.F e.X_Uneven.I.no2 (x_ok2 e.X_Uneven.I) (spE2 _ _ _) (hr.mono (by decide)) (by rfl) e.m_Uneven (e.kb_Uneven_0_rev) (fun _ zs h2 => match zs, h2 with | [z0, z1], _ => ⟨[z1, z0], rfl, rfl, by simp [List.lookup]⟩) (pkd_cons (pd_var (pv 0)) (pkd_cons (pd_var (pv 1)) (pkd_nil)))) (pda_cons (pd_var (pv 0)) (pda_nil)))) (pda_cons (pd_tup (pda_cons (pd_errF0 (i := 1) tk e.X_Uneven.T e.X_Uneven.F e.X_Uneven.I.no (x_ok2 e.X_Uneven.I) (spE2 _ _ _) (hr.mono (by decide)) (by rfl) e.m_Uneven (e.kb_Uneven_0_rev) (fun _ zs h2 => match zs, h2 with | [z0, z1], _ => ⟨[z1, z0], rfl, rfl, lk_skip (by decide)⟩) (pkd_cons (pd_var (pv 0)) (pkd_cons (pd_var (pv 1)) (pkd_nil)))) (pda_cons (pd_var (pv 1)) (pda_nil)))) (pda_nil))))))))
theorem ok__law_pen (e : Ev P G mg base) : FnOk P w0 G.K mg base (L2.CX P w0) 1 e.a__law_pen e.fd__law_pen ["_law_script"] (spG G 1 g__law_pen) :=
  fn_okD e.F__law_pen sc__law_pen rfl rfl fun cdv A outer s H E hr tk ps => pdss_one (pds_ret (pdod_cell (pdod_disp (fs := [(eC (.str [99, 101, 108, 108, 115]), eFrz (aList (aCons (eSlA (eVar 0) (oNone) (oSome (eC (.int 63)))) (aNil)))), (eC (.str [115, 116, 111, 112]), eC (.int 0)), (eC (.str [114, 101, 115, 116]), eC (.int 0))]) (pps_cons (pd_str s_6) (pdo_frz (pdo_list rfl (by rfl) e.z_list boot_list (pda_cons (pd_slA rfl (pd_var (pv 0)) (pdo_none) (pdo_some (pd_int))) (pda_nil)))) (pps_cons (pd_str s_5) (pd_int) (pps_cons (pd_str s_4) (pd_int) (pps_nil)))) (by rfl) (by rfl) (fun z => by cases z) (by decide))))
theorem ok__law_draw (e : Ev P G mg base) : FnOk P w0 G.K mg base (L2.CX P w0) 1 e.a__law_draw e.fd__law_draw ["_law_pen_here", "_law_many"] (spG G 2 g__law_draw) :=
  fn_okD e.F__law_draw sc__law_draw rfl rfl fun cdv A outer s H E hr tk ps => pdss_cons (pds_if (ptd_cmp (opd_ge) (pd_dget (hu_of hr) (pd_var (pv 0)) (pd_str s_4) (fun _ _ => rfl)) (pd_var (pv 1)) (nomark _)) (pdss_cons (pds_set (i := 2) sc__law_draw.nd rfl (.inl rfl) (pd_op (opd_mod) (pd_callTy cd_int (by rfl) e.z_int (by decide +kernel) (pda_cons (pd_dget (hu_of hr) (pd_var (pv 0)) (pd_str s_4) (fun _ _ => rfl)) (pda_nil))) (pd_var (pv 1))))
    (pdss_cons (pds_dputC (hu_of hr) (pd_var (pv 0)) (pd_str s_4) (pd_op (opd_div) (pd_dget (hu_of hr) (pd_var (pv 0)) (pd_str s_4) (fun _ _ => rfl)) (pd_var (pv 1))))
    (pdss_one (pds_ret (pd_var (pv 2)))))) (pdss_nil))
    (pdss_cons (pds_set (i := 3) sc__law_draw.nd rfl (.inl rfl) (pd_dget (hu_of hr) (pd_var (pv 0)) (pd_str s_5) (fun _ _ => rfl)))
    (pdss_cons (pds_dputC (hu_of hr) (pd_var (pv 0)) (pd_str s_5) (pd_op (opd_addA e.kk) (pd_var (pv 3)) (pd_int)))
    (pdss_cons (pds_set (i := 4) sc__law_draw.nd rfl (.inl rfl) (pd_op (opd_addA e.kk) (pd_op (opd_mulA) (pd_int) (pd_var (pv 3))) (pd_int)))
    (pdss_cons (pds_if (ptd_cmp (opd_ne e.kk hr.units) (pd_dget (hu_of hr) (pd_var (pv 0)) (pd_str s_6) (fun _ _ => rfl)) (pdo_frz (pdo_lst (pda_nil))) (nomark _)) (pdss_one (pds_set (i := 4) sc__law_draw.nd rfl (.inl rfl) (pd_ix e.kk (pd_dget (hu_of hr) (pd_var (pv 0)) (pd_str s_6) (fun _ _ => rfl)) (pd_op (opd_mod) (pd_callTy cd_int (by rfl) e.z_int (by decide +kernel) (pda_cons (pd_var (pv 3)) (pda_nil))) (pd_callB (cd_len rfl) (by rfl) e.z_len (by decide +kernel) (pda_cons (pd_dget (hu_of hr) (pd_var (pv 0)) (pd_str s_6) (fun _ _ => rfl)) (pda_nil)))) (fun _ _ => rfl)))) (pdss_nil))
    (pdss_cons (pds_if ((pwd_and (ptd_cmp (opd_lt) (pd_var (pv 3)) (pd_callB (cd_len rfl) (by rfl) e.z_len (by decide +kernel) (pda_cons (pd_dget (hu_of hr) (pd_var (pv 0)) (pd_str s_6) (fun _ _ => rfl)) (pda_nil))) (nomark _)) (pwd_and1 (ptd_cmp (opd_ge) (pd_var (pv 4)) (pd_op (opd_pow) (pd_int) (pd_int)) (nomark _)))).pt) (pdss_cons (pds_dputC (hu_of hr) (pd_var (pv 0)) (pd_str s_4) (pd_op (opd_div) (pd_op (opd_sub) (pd_var (pv 4)) (pd_op (opd_pow) (pd_int) (pd_int))) (pd_var (pv 1))))
    (pdss_one (pds_ret (pd_op (opd_mod) (pd_callTy cd_int (by rfl) e.z_int (by decide +kernel) (pda_cons (pd_op (opd_sub) (pd_var (pv 4)) (pd_op (opd_pow) (pd_int) (pd_int))) (pda_nil))) (pd_var (pv 1)))))) (pdss_nil))
    (pdss_cons (pds_set (i := 5) sc__law_draw.nd rfl (.inl rfl) (pd_op (opd_mulA) (pd_op (opd_mod) (pd_callTy cd_int (by rfl) e.z_int (by decide +kernel) (pda_cons (pd_var (pv 4)) (pda_nil))) (pd_int)) (pd_int)))
    (pdss_cons (pds_set (i := 5) sc__law_draw.nd rfl (.inl rfl) (pd_op (opd_mod) (pd_callTy cd_int (by rfl) e.z_int (by decide +kernel) (pda_cons (pd_op (opd_addA e.kk) (pd_op (opd_addA e.kk) (pd_op (opd_addA e.kk) (pd_var (pv 5)) (pd_op (opd_mulA) (pd_op (opd_mulA) (pd_int) (pd_var (pv 3))) (pd_var (pv 3)))) (pd_op (opd_mulA) (pd_int) (pd_var (pv 3)))) (pd_int)) (pda_nil))) (pd_int)))
    (pdss_cons (pds_set (i := 5) sc__law_draw.nd rfl (.inl rfl) (pd_op (opd_mod) (pd_callTy cd_int (by rfl) e.z_int (by decide +kernel) (pda_cons (pd_op (opd_mulA) (pd_var (pv 5)) (pd_op (opd_addA e.kk) (pd_var (pv 5)) (pd_int))) (pda_nil))) (pd_int)))
    (pdss_one (pds_ret (pd_op (opd_mod) (pd_callTy cd_int (by rfl) e.z_int (by decide +kernel) (pda_cons (pd_op (opd_div) (pd_op (opd_mod) (pd_callTy cd_int (by rfl) e.z_int (by decide +kernel) (pda_cons (pd_op (opd_addA e.kk) (pd_op (opd_mulA) (pd_var (pv 5)) (pd_var (pv 5))) (pd_op (opd_mulA) (pd_int) (pd_var (pv 5)))) (pda_nil))) (pd_int)) (pd_int)) (pda_nil))) (pd_var (pv 1)))))))))))))
theorem ok__law_pick (e : Ev P G mg base) : FnOk P w0 G.K mg base (L2.CX P w0) 3 e.a__law_pick e.fd__law_pick ["_law_pen_here", "_law_items"] (spG G 2 g__law_pick) :=
  fn_okD e.F__law_pick sc__law_pick rfl rfl fun cdv A outer s H E hr tk ps => pdss_one (pds_ret (pd_ix e.kk (pd_var (pv 1)) (pd_call (ok__law_draw e) (hr.mono (by decide)) (by rfl) e.m__law_draw e.F__law_draw.kp e.b__law_draw tk (pda_cons (pd_var (pv 0)) (pda_cons (pd_callB (cd_len rfl) (by rfl) e.z_len (by decide +kernel) (pda_cons (pd_var (pv 1)) (pda_nil))) (pda_nil)))) (fun _ _ => rfl)))
theorem ok_law (e : Ev P G mg base) : FnOk P w0 G.K mg base (L2.CX P w0) 7 e.a_law e.fd_law ["_law_script"] (spG G 1 g_law) :=
  fn_okD e.F_law sc_law rfl rfl fun cdv A outer s H E hr tk ps => pdss_cons (pds_set (i := 1) sc_law.nd rfl (.inl rfl) (pd_call (ok__law_pen e) (hr.mono (by decide)) (by rfl) e.m__law_pen e.F__law_pen.kp e.b__law_pen tk (pda_cons (pd_var (pv 0)) (pda_nil))))
    (pdss_cons (pds_set (i := 2) sc_law.nd rfl (.inl rfl) (pdo_frz (pdo_lst (pda_cons (pd_non) (pda_cons (pd_bl) (pda_cons (pd_int) (pda_cons (pd_neg (pd_int)) (pda_cons (pd_str s_10) (pda_cons (pd_str s_9) (pda_cons (pd_tup (pda_cons (pd_int) (pda_cons (pd_int) (pda_nil)))) (pda_cons (pdo_frz (pdo_lst (pda_cons (pd_str s_8) (pda_nil)))) (pda_cons (pdod_frz (pdod_nil)) (pda_cons (pd_op (opd_pow) (pd_int) (pd_int)) (pda_cons (pd_str s_7) (pda_cons (pd_tup (pda_cons (pd_tup (pda_cons (pd_int) (pda_cons (pd_int) (pda_nil)))) (pda_cons (pd_int) (pda_nil)))) (pda_nil))))))))))))))))
    (pdss_cons (pds_for ps rfl (pdi_range1 (by rfl) e.z_range (pda_cons (pd_op (opd_addA e.kk) (pd_int) (pd_callB (cd_min2 rfl) (by rfl) e.z_min (by decide +kernel) (pda_cons (pd_int) (pda_cons (pd_callB (cd_len rfl) (by rfl) e.z_len (by decide +kernel) (pda_cons (pd_var (pv 0)) (pda_nil))) (pda_nil))))) (pda_nil))) (pdg_name (i := 3) sc_law.nd rfl (.inl rfl)) (pdss_cons (pds_asg (pd_tup (pda_cons (pd_call (ok__law_pick e) (hr.mono (by decide)) (by rfl) e.m__law_pick e.F__law_pick.kp e.b__law_pick tk (pda_cons (pd_var (pv 1)) (pda_cons (pd_var (pv 2)) (pda_nil)))) (pda_cons (pd_call (ok__law_pick e) (hr.mono (by decide)) (by rfl) e.m__law_pick e.F__law_pick.kp e.b__law_pick tk (pda_cons (pd_var (pv 1)) (pda_cons (pd_var (pv 2)) (pda_nil)))) (pda_nil)))) (pdg_tup rfl rfl (pdgs_cons (pdg_name (i := 4) sc_law.nd rfl (.inr rfl)) (pdgs_cons (pdg_name (i := 5) sc_law.nd rfl (.inl rfl)) (pdgs_nil)))))
    (pdss_cons (pds_for ps rfl (pdi_seq rfl (pd_call (ok__law_alone e) (hr.mono (by decide)) (by rfl) e.m__law_alone e.F__law_alone.kp e.b__law_alone tk (pda_cons (pd_var (pv 4)) (pda_nil)))) (pdg_tup rfl rfl (pdgs_cons (pdg_name (i := 6) sc_law.nd rfl (.inl rfl)) (pdgs_cons (pdg_name (i := 7) sc_law.nd rfl (.inl rfl)) (pdgs_nil)))) (pdss_one (pds_if ((pwd_or (ptd_cmp (opd_neV e.kk (room65 hr)) (pd_var (pv 6)) (pd_var (pv 4)) (nomark _)) (pwd_or (ptd_cmp (opd_neV e.kk (room65 hr)) (pd_var (pv 7)) (pd_var (pv 4)) (nomark _)) (pwd_or1 (ptd_cmp (opd_ne e.kk hr.units) (pd_callB (cd_isi rfl e.iso) (by rfl) e.z_isinstance (by decide +kernel) (pda_cons (pd_var (pv 6)) (pda_cons (pd_bltn (by rfl) e.z_bool boot_bool) (pda_nil)))) (pd_callB (cd_isi rfl e.iso) (by rfl) e.z_isinstance (by decide +kernel) (pda_cons (pd_var (pv 4)) (pda_cons (pd_bltn (by rfl) e.z_bool boot_bool) (pda_nil)))) (nomark _))))).pt) (pdss_one (pds_ret (pd_bl))) (pdss_nil))))
    (pdss_cons (pds_for ps rfl (pdi_seq rfl (pd_call (ok__law_more e) (hr.mono (by decide)) (by rfl) e.m__law_more e.F__law_more.kp e.b__law_more tk (pda_cons (pd_var (pv 4)) (pda_cons (pd_var (pv 5)) (pda_nil))))) (pdg_tup rfl rfl (pdgs_cons (pdg_name (i := 6) sc_law.nd rfl (.inl rfl)) (pdgs_cons (pdg_name (i := 8) sc_law.nd rfl (.inl rfl)) (pdgs_nil)))) (pdss_one (pds_if ((pwd_or (ptd_cmp (opd_neV e.kk (room65 hr)) (pd_var (pv 6)) (pd_var (pv 8)) (nomark _)) (pwd_or1 (ptd_cmp (opd_ne e.kk hr.units) (pd_callB (cd_isi rfl e.iso) (by rfl) e.z_isinstance (by decide +kernel) (pda_cons (pd_var (pv 6)) (pda_cons (pd_bltn (by rfl) e.z_bool boot_bool) (pda_nil)))) (pd_callB (cd_isi rfl e.iso) (by rfl) e.z_isinstance (by decide +kernel) (pda_cons (pd_var (pv 8)) (pda_cons (pd_bltn (by rfl) e.z_bool boot_bool) (pda_nil)))) (nomark _)))).pt) (pdss_one (pds_ret (pd_bl))) (pdss_nil))))
    (pdss_cons (pds_if (ptd_not (ptd_truth e.kk (pd_call (ok__law_apart e) (hr.mono (by decide)) (by rfl) e.m__law_apart e.F__law_apart.kp e.b__law_apart tk (pda_cons (pd_var (pv 4)) (pda_cons (pd_var (pv 5)) (pda_nil)))))) (pdss_one (pds_ret (pd_bl))) (pdss_nil))
    (pdss_cons (pds_set (i := 9) sc_law.nd rfl (.inl rfl) (pdo_frz (pdo_lst (pda_cons (pd_errN e.lamE e.ct_Still e.x0_Still (by rfl) e.m_Still) (pda_cons (pd_errN e.lamE e.ct_NotWithin e.x0_NotWithin (by rfl) e.m_NotWithin) (pda_cons (pd_errN e.lamE e.ct_NoDirection e.x0_NoDirection (by rfl) e.m_NoDirection) (pda_cons (pd_errN e.lamE e.ct_NotClosed e.x0_NotClosed (by rfl) e.m_NotClosed) (pda_cons (pd_errN e.lamE e.ct_NothingToUndo e.x0_NothingToUndo (by rfl) e.m_NothingToUndo) (pda_cons (pd_err tk e.X_BadNumber.T e.lamE (x_ok e.X_BadNumber.I) (spE1 _ _) (hr.mono (by decide)) (by rfl) e.m_BadNumber (kbn_pos e.X_BadNumber.B rfl) (by decide) (fun _ vs zs h1 h2 => match vs, zs, h1, h2 with | [v0], [], _, _ => ⟨[v0], rfl, rfl⟩) (pda_cons (pd_var (pv 4)) (pda_nil)) (pkd_nil)) (pda_cons (pd_err tk e.X_Uneven.T e.lamE (x_ok2 e.X_Uneven.I) (spE2 _ _ _) (hr.mono (by decide)) (by rfl) e.m_Uneven (kbn_pos e.X_Uneven.B rfl) (by decide) (fun _ vs zs h1 h2 => match vs, zs, h1, h2 with | [v0, v1], [], _, _ => ⟨[v0, v1], rfl, rfl⟩) (pda_cons (pd_var (pv 4)) (pda_cons (pd_var (pv 5)) (pda_nil))) (pkd_nil)) (pda_nil)))))))))))
    (pdss_cons (pds_for ps rfl (pdi_seq rfl (pd_var (pv 9))) (pdg_name (i := 10) sc_law.nd rfl (.inl rfl)) (pdss_one (pds_if ((pwd_or (ptd_not (ptd_truth e.kk (pd_callB (cd_isE rfl e.eio) (by rfl) e.z_isinstance (by decide +kernel) (pda_cons (pd_var (pv 10)) (pda_cons (pd_cls (by rfl) e.m_WalkError e.ct_WalkError) (pda_nil)))))) (pwd_or1 (ptd_not (ptd_truth e.kk (pd_callB (cd_isE rfl e.eio) (by rfl) e.z_isinstance (by decide +kernel) (pda_cons (pd_var (pv 10)) (pda_cons (pd_bltn (by rfl) e.z_ValueError Boot.«ValueError») (pda_nil)))))))).pt) (pdss_one (pds_ret (pd_bl))) (pdss_nil))))
    (pdss_cons (pds_setLc (i := 11) (own := [("_law_error", 10)]) rfl sc_law.nd rfl rfl (sw_true rfl rfl rfl (by decide +kernel)) (pdi_seq rfl (pd_var (pv 9))) (by exact blkOk_by (N := ["_law_script", "_law_pen_here", "_law_values", "_law_lap", "_law_mine", "_law_yours", "_law_kept", "_law_twice", "_law_due", "_law_lots", "_law_error", "_law_found", "_law_told", "_law_which"]) (sc := defScope st_law) (own := [("_law_error", 10)]) (by decide +kernel)) (by decide) (fun _ _ _ _ _ => pdg_name (i := 10) sc_law.nd rfl (.inl rfl)) (fun _ _ _ _ _ => ptds_nil) (fun _ _ _ _ _ => pd_isET rfl e.eio (by rfl) e.z_isinstance (by decide +kernel) (pd_var (pv 10)) (pda_cons (pd_cls (by rfl) e.m_Still e.ct_Still) (pda_cons (pd_cls (by rfl) e.m_NoDirection e.ct_NoDirection) (pda_cons (pd_cls (by rfl) e.m_NotClosed e.ct_NotClosed) (pda_cons (pd_cls (by rfl) e.m_BadNumber e.ct_BadNumber) (pda_nil)))))))
    (pdss_one (pds_if ((pwd_or (ptd_cmp (opd_ne e.kk hr.units) (pd_callB (cd_sum rfl) (by rfl) e.z_sum (by decide +kernel) (pda_cons (pdo_frz (pdo_lc (own := [("_law_told", 12)]) rfl sc_law.nd (pdi_seq rfl (pd_var (pv 11))) (by exact blkOk_by (N := ["_law_script", "_law_pen_here", "_law_values", "_law_lap", "_law_mine", "_law_yours", "_law_kept", "_law_twice", "_law_due", "_law_lots", "_law_error", "_law_found", "_law_told", "_law_which"]) (sc := defScope st_law) (own := [("_law_told", 12)]) (by decide +kernel)) (by decide) (fun _ _ _ _ _ => pdg_name (i := 12) sc_law.nd rfl (.inl rfl)) (fun _ _ _ _ _ => ptds_nil) (fun _ _ _ _ _ => pd_callTy cd_int (by rfl) e.z_int (by decide +kernel) (pda_cons (pd_var (pv 12)) (pda_nil))))) (pda_nil))) (pd_int) (nomark _)) (pwd_or1 (ptd_not (ptd_truth e.kk (pd_callB (cd_all rfl) (by rfl) e.z_all (by decide +kernel) (pda_cons (pdo_frz (pdo_lc (own := [("_law_which", 13)]) rfl sc_law.nd (pdi_range1 (by rfl) e.z_range (pda_cons (pd_int) (pda_nil))) (by exact blkOk_by (N := ["_law_script", "_law_pen_here", "_law_values", "_law_lap", "_law_mine", "_law_yours", "_law_kept", "_law_twice", "_law_due", "_law_lots", "_law_error", "_law_found", "_law_told", "_law_which"]) (sc := defScope st_law) (own := [("_law_which", 13)]) (by decide +kernel)) (by decide) (fun _ _ _ _ _ => pdg_name (i := 13) sc_law.nd rfl (.inl rfl)) (fun _ _ _ _ _ => ptds_nil) (fun _ _ _ _ _ => pd_call (ok__law_caught e) (hr.mono (by decide)) (by rfl) e.m__law_caught e.F__law_caught.kp e.b__law_caught takes0 (pda_cons (pd_var (pv 13)) (pda_cons (pd_var (pv 4)) (pda_nil)))))) (pda_nil))))))).pt) (pdss_one (pds_ret (pd_bl))) (pdss_nil)))))))))))
    (pdss_one (pds_ret (pd_bl)))))
end
theorem all_mk {l : PySem.W.OpenLaw} {w : World} {q : Program} {K : PySem.W.Frag} {h : Heap} {mg : Str → Option Value} {fa : Addr} {C_BadName : Addr} {fI_BadName NS_BadName cda_BadName cc_BadName : Addr} {xnm_BadName xq_BadName xfile_BadName : Str} {xbs_BadName xbm_BadName xsub_BadName : List Value} {xsn_BadName : List Str} {xab_BadName : Bool} {xcol_BadName : Option Bool} {xdd_BadName : Option Addr} {xk0_BadName xk1_BadName xk2_BadName xk3_BadName xk5_BadName : Option Value} {xoc_BadName xkV_BadName xdoc_BadName xpm_BadName xct_BadName xccl_BadName xcl_BadName : Value} {xod_BadName xan_BadName xcdd_BadName xcld_BadName : Option Addr} {xosl_BadName xccs_BadName xcsl_BadName : Array (Option Value)} {xvs_BadName : Array Value} {xtf_BadName : Tok} {C_BadNumber : Addr} {fI_BadNumber NS_BadNumber cda_BadNumber cc_BadNumber : Addr} {xnm_BadNumber xq_BadNumber xfile_BadNumber : Str} {xbs_BadNumber xbm_BadNumber xsub_BadNumber : List Value} {xsn_BadNumber : List Str} {xab_BadNumber : Bool} {xcol_BadNumber : Option Bool} {xdd_BadNumber : Option Addr} {xk0_BadNumber xk1_BadNumber xk2_BadNumber xk3_BadNumber xk5_BadNumber : Option Value} {xoc_BadNumber xkV_BadNumber xdoc_BadNumber xpm_BadNumber xct_BadNumber xccl_BadNumber xcl_BadNumber : Value} {xod_BadNumber xan_BadNumber xcdd_BadNumber xcld_BadNumber : Option Addr} {xosl_BadNumber xccs_BadNumber xcsl_BadNumber : Array (Option Value)} {xvs_BadNumber : Array Value} {xtf_BadNumber : Tok} {C_BadPlace : Addr} {fI_BadPlace NS_BadPlace cda_BadPlace cc_BadPlace : Addr} {xnm_BadPlace xq_BadPlace xfile_BadPlace : Str} {xbs_BadPlace xbm_BadPlace xsub_BadPlace : List Value} {xsn_BadPlace : List Str} {xab_BadPlace : Bool} {xcol_BadPlace : Option Bool} {xdd_BadPlace : Option Addr} {xk0_BadPlace xk1_BadPlace xk2_BadPlace xk3_BadPlace xk5_BadPlace : Option Value} {xoc_BadPlace xkV_BadPlace xdoc_BadPlace xpm_BadPlace xct_BadPlace xccl_BadPlace xcl_BadPlace : Value} {xod_BadPlace xan_BadPlace xcdd_BadPlace xcld_BadPlace : Option Addr} {xosl_BadPlace xccs_BadPlace xcsl_BadPlace : Array (Option Value)} {xvs_BadPlace : Array Value} {xtf_BadPlace : Tok} {C_BadText : Addr} {fI_BadText NS_BadText cda_BadText cc_BadText : Addr} {xnm_BadText xq_BadText xfile_BadText : Str} {xbs_BadText xbm_BadText xsub_BadText : List Value} {xsn_BadText : List Str} {xab_BadText : Bool} {xcol_BadText : Option Bool} {xdd_BadText : Option Addr} {xk0_BadText xk1_BadText xk2_BadText xk3_BadText xk5_BadText : Option Value} {xoc_BadText xkV_BadText xdoc_BadText xpm_BadText xct_BadText xccl_BadText xcl_BadText : Value} {xod_BadText xan_BadText xcdd_BadText xcld_BadText : Option Addr} {xosl_BadText xccs_BadText xcsl_BadText : Array (Option Value)} {xvs_BadText : Array Value} {xtf_BadText : Tok} {C_BadWord : Addr} {fI_BadWord NS_BadWord cda_BadWord cc_BadWord : Addr} {xnm_BadWord xq_BadWord xfile_BadWord : Str} {xbs_BadWord xbm_BadWord xsub_BadWord : List Value} {xsn_BadWord : List Str} {xab_BadWord : Bool} {xcol_BadWord : Option Bool} {xdd_BadWord : Option Addr} {xk0_BadWord xk1_BadWord xk2_BadWord xk3_BadWord xk5_BadWord : Option Value} {xoc_BadWord xkV_BadWord xdoc_BadWord xpm_BadWord xct_BadWord xccl_BadWord xcl_BadWord : Value} {xod_BadWord xan_BadWord xcdd_BadWord xcld_BadWord : Option Addr} {xosl_BadWord xccs_BadWord xcsl_BadWord : Array (Option Value)} {xvs_BadWord : Array Value} {xtf_BadWord : Tok} {C_Barred : Addr} {fI_Barred NS_Barred cda_Barred cc_Barred : Addr} {xnm_Barred xq_Barred xfile_Barred : Str} {xbs_Barred xbm_Barred xsub_Barred : List Value} {xsn_Barred : List Str} {xab_Barred : Bool} {xcol_Barred : Option Bool} {xdd_Barred : Option Addr} {xk0_Barred xk1_Barred xk2_Barred xk3_Barred xk5_Barred : Option Value} {xoc_Barred xkV_Barred xdoc_Barred xpm_Barred xct_Barred xccl_Barred xcl_Barred : Value} {xod_Barred xan_Barred xcdd_Barred xcld_Barred : Option Addr} {xosl_Barred xccs_Barred xcsl_Barred : Array (Option Value)} {xvs_Barred : Array Value} {xtf_Barred : Tok} {C_EndsDiffer : Addr} {fI_EndsDiffer NS_EndsDiffer cda_EndsDiffer cc_EndsDiffer : Addr} {xnm_EndsDiffer xq_EndsDiffer xfile_EndsDiffer : Str} {xbs_EndsDiffer xbm_EndsDiffer xsub_EndsDiffer : List Value} {xsn_EndsDiffer : List Str} {xab_EndsDiffer : Bool} {xcol_EndsDiffer : Option Bool} {xdd_EndsDiffer : Option Addr} {xk0_EndsDiffer xk1_EndsDiffer xk2_EndsDiffer xk3_EndsDiffer xk5_EndsDiffer : Option Value} {xoc_EndsDiffer xkV_EndsDiffer xdoc_EndsDiffer xpm_EndsDiffer xct_EndsDiffer xccl_EndsDiffer xcl_EndsDiffer : Value} {xod_EndsDiffer xan_EndsDiffer xcdd_EndsDiffer xcld_EndsDiffer : Option Addr} {xosl_EndsDiffer xccs_EndsDiffer xcsl_EndsDiffer : Array (Option Value)} {xvs_EndsDiffer : Array Value} {xtf_EndsDiffer : Tok} {C_NoDirection : Addr} {C_NoPromise : Addr} {fI_NoPromise NS_NoPromise cda_NoPromise cc_NoPromise : Addr} {xnm_NoPromise xq_NoPromise xfile_NoPromise : Str} {xbs_NoPromise xbm_NoPromise xsub_NoPromise : List Value} {xsn_NoPromise : List Str} {xab_NoPromise : Bool} {xcol_NoPromise : Option Bool} {xdd_NoPromise : Option Addr} {xk0_NoPromise xk1_NoPromise xk2_NoPromise xk3_NoPromise xk5_NoPromise : Option Value} {xoc_NoPromise xkV_NoPromise xdoc_NoPromise xpm_NoPromise xct_NoPromise xccl_NoPromise xcl_NoPromise : Value} {xod_NoPromise xan_NoPromise xcdd_NoPromise xcld_NoPromise : Option Addr} {xosl_NoPromise xccs_NoPromise xcsl_NoPromise : Array (Option Value)} {xvs_NoPromise : Array Value} {xtf_NoPromise : Tok} {C_NoWalk : Addr} {fI_NoWalk NS_NoWalk cda_NoWalk cc_NoWalk : Addr} {xnm_NoWalk xq_NoWalk xfile_NoWalk : Str} {xbs_NoWalk xbm_NoWalk xsub_NoWalk : List Value} {xsn_NoWalk : List Str} {xab_NoWalk : Bool} {xcol_NoWalk : Option Bool} {xdd_NoWalk : Option Addr} {xk0_NoWalk xk1_NoWalk xk2_NoWalk xk3_NoWalk xk5_NoWalk : Option Value} {xoc_NoWalk xkV_NoWalk xdoc_NoWalk xpm_NoWalk xct_NoWalk xccl_NoWalk xcl_NoWalk : Value} {xod_NoWalk xan_NoWalk xcdd_NoWalk xcld_NoWalk : Option Addr} {xosl_NoWalk xccs_NoWalk xcsl_NoWalk : Array (Option Value)} {xvs_NoWalk : Array Value} {xtf_NoWalk : Tok} {C_NotClosed : Addr} {C_NotOnto : Addr} {fI_NotOnto NS_NotOnto cda_NotOnto cc_NotOnto : Addr} {xnm_NotOnto xq_NotOnto xfile_NotOnto : Str} {xbs_NotOnto xbm_NotOnto xsub_NotOnto : List Value} {xsn_NotOnto : List Str} {xab_NotOnto : Bool} {xcol_NotOnto : Option Bool} {xdd_NotOnto : Option Addr} {xk0_NotOnto xk1_NotOnto xk2_NotOnto xk3_NotOnto xk5_NotOnto : Option Value} {xoc_NotOnto xkV_NotOnto xdoc_NotOnto xpm_NotOnto xct_NotOnto xccl_NotOnto xcl_NotOnto : Value} {xod_NotOnto xan_NotOnto xcdd_NotOnto xcld_NotOnto : Option Addr} {xosl_NotOnto xccs_NotOnto xcsl_NotOnto : Array (Option Value)} {xvs_NotOnto : Array Value} {xtf_NotOnto : Tok} {C_NotWithin : Addr} {C_NothingToUndo : Addr} {C_OneSided : Addr} {fI_OneSided NS_OneSided cda_OneSided cc_OneSided : Addr} {xnm_OneSided xq_OneSided xfile_OneSided : Str} {xbs_OneSided xbm_OneSided xsub_OneSided : List Value} {xsn_OneSided : List Str} {xab_OneSided : Bool} {xcol_OneSided : Option Bool} {xdd_OneSided : Option Addr} {xk0_OneSided xk1_OneSided xk2_OneSided xk3_OneSided xk5_OneSided : Option Value} {xoc_OneSided xkV_OneSided xdoc_OneSided xpm_OneSided xct_OneSided xccl_OneSided xcl_OneSided : Value} {xod_OneSided xan_OneSided xcdd_OneSided xcld_OneSided : Option Addr} {xosl_OneSided xccs_OneSided xcsl_OneSided : Array (Option Value)} {xvs_OneSided : Array Value} {xtf_OneSided : Tok} {C_Still : Addr} {C_Taken : Addr} {fI_Taken NS_Taken cda_Taken cc_Taken : Addr} {xnm_Taken xq_Taken xfile_Taken : Str} {xbs_Taken xbm_Taken xsub_Taken : List Value} {xsn_Taken : List Str} {xab_Taken : Bool} {xcol_Taken : Option Bool} {xdd_Taken : Option Addr} {xk0_Taken xk1_Taken xk2_Taken xk3_Taken xk5_Taken : Option Value} {xoc_Taken xkV_Taken xdoc_Taken xpm_Taken xct_Taken xccl_Taken xcl_Taken : Value} {xod_Taken xan_Taken xcdd_Taken xcld_Taken : Option Addr} {xosl_Taken xccs_Taken xcsl_Taken : Array (Option Value)} {xvs_Taken : Array Value} {xtf_Taken : Tok} {C_TooFar : Addr} {fI_TooFar NS_TooFar cda_TooFar cc_TooFar : Addr} {xnm_TooFar xq_TooFar xfile_TooFar : Str} {xbs_TooFar xbm_TooFar xsub_TooFar : List Value} {xsn_TooFar : List Str} {xab_TooFar : Bool} {xcol_TooFar : Option Bool} {xdd_TooFar : Option Addr} {xk0_TooFar xk1_TooFar xk2_TooFar xk3_TooFar xk5_TooFar : Option Value} {xoc_TooFar xkV_TooFar xdoc_TooFar xpm_TooFar xct_TooFar xccl_TooFar xcl_TooFar : Value} {xod_TooFar xan_TooFar xcdd_TooFar xcld_TooFar : Option Addr} {xosl_TooFar xccs_TooFar xcsl_TooFar : Array (Option Value)} {xvs_TooFar : Array Value} {xtf_TooFar : Tok} {C_TooMany : Addr} {fI_TooMany NS_TooMany cda_TooMany cc_TooMany : Addr} {xnm_TooMany xq_TooMany xfile_TooMany : Str} {xbs_TooMany xbm_TooMany xsub_TooMany : List Value} {xsn_TooMany : List Str} {xab_TooMany : Bool} {xcol_TooMany : Option Bool} {xdd_TooMany : Option Addr} {xk0_TooMany xk1_TooMany xk2_TooMany xk3_TooMany xk5_TooMany : Option Value} {xoc_TooMany xkV_TooMany xdoc_TooMany xpm_TooMany xct_TooMany xccl_TooMany xcl_TooMany : Value} {xod_TooMany xan_TooMany xcdd_TooMany xcld_TooMany : Option Addr} {xosl_TooMany xccs_TooMany xcsl_TooMany : Array (Option Value)} {xvs_TooMany : Array Value} {xtf_TooMany : Tok} {C_Uneven : Addr} {fI_Uneven NS_Uneven cda_Uneven cc_Uneven : Addr} {xnm_Uneven xq_Uneven xfile_Uneven : Str} {xbs_Uneven xbm_Uneven xsub_Uneven : List Value} {xsn_Uneven : List Str} {xab_Uneven : Bool} {xcol_Uneven : Option Bool} {xdd_Uneven : Option Addr} {xk0_Uneven xk1_Uneven xk2_Uneven xk3_Uneven xk5_Uneven : Option Value} {xoc_Uneven xkV_Uneven xdoc_Uneven xpm_Uneven xct_Uneven xccl_Uneven xcl_Uneven : Value} {xod_Uneven xan_Uneven xcdd_Uneven xcld_Uneven : Option Addr} {xosl_Uneven xccs_Uneven xcsl_Uneven : Array (Option Value)} {xvs_Uneven : Array Value} {xtf_Uneven : Tok} {C_WalkError : Addr} {a__law_alone : Addr} {od__law_alone an__law_alone : Option Addr} {sl__law_alone : Array (Option Value)} {oc__law_alone kV__law_alone dc__law_alone pm__law_alone cd__law_alone ct__law_alone : Value} {a__law_kinds : Addr} {od__law_kinds an__law_kinds : Option Addr} {sl__law_kinds : Array (Option Value)} {oc__law_kinds kV__law_kinds dc__law_kinds pm__law_kinds cd__law_kinds ct__law_kinds : Value} {a__law_apart : Addr} {od__law_apart an__law_apart : Option Addr} {sl__law_apart : Array (Option Value)} {oc__law_apart kV__law_apart dc__law_apart pm__law_apart cd__law_apart ct__law_apart : Value} {a__law_raise : Addr} {od__law_raise an__law_raise : Option Addr} {sl__law_raise : Array (Option Value)} {oc__law_raise kV__law_raise dc__law_raise pm__law_raise cd__law_raise ct__law_raise : Value} {a__law_caught : Addr} {od__law_caught an__law_caught : Option Addr} {sl__law_caught : Array (Option Value)} {oc__law_caught kV__law_caught dc__law_caught pm__law_caught cd__law_caught ct__law_caught : Value} {a__law_more : Addr} {od__law_more an__law_more : Option Addr} {sl__law_more : Array (Option Value)} {oc__law_more kV__law_more dc__law_more pm__law_more cd__law_more ct__law_more : Value} {a__law_pen : Addr} {od__law_pen an__law_pen : Option Addr} {sl__law_pen : Array (Option Value)} {oc__law_pen kV__law_pen dc__law_pen pm__law_pen cd__law_pen ct__law_pen : Value} {a__law_draw : Addr} {od__law_draw an__law_draw : Option Addr} {sl__law_draw : Array (Option Value)} {oc__law_draw kV__law_draw dc__law_draw pm__law_draw cd__law_draw ct__law_draw : Value} {a__law_pick : Addr} {od__law_pick an__law_pick : Option Addr} {sl__law_pick : Array (Option Value)} {oc__law_pick kV__law_pick dc__law_pick pm__law_pick cd__law_pick ct__law_pick : Value} {a_law : Addr} {od_law an_law : Option Addr} {sl_law : Array (Option Value)} {oc_law kV_law dc_law pm_law cd_law ct_law : Value} (X : K.In h) (G0 : h.Ns mainGlobals mg) (hfa : mg "law" = some (.ref fa)) (TT : TabsT q K h)
    (aC_BadName : PySem.W.nsIn K mainGlobals "BadName" = some (some (.ref C_BadName)))
    (xl_BadName : K.lookup C_BadName = some (excClassObj xnm_BadName xq_BadName C_BadName NS_BadName xbs_BadName xbm_BadName true xsn_BadName xsub_BadName xab_BadName xcol_BadName xdd_BadName xk0_BadName xk1_BadName xk2_BadName xk3_BadName xk5_BadName "ValueError.__new__"))
    (xr_BadName : PySem.HandSPX.refsVE xbm_BadName = true)
    (xi_BadName : PySem.W.findIn K (.ref C_BadName) "__init__" = some (some (.ref fI_BadName)))
    (xf_BadName : K.lookup fI_BadName = some ⟨xoc_BadName, xod_BadName, .func (PySem.W.fnX "__init__" "BadName.__init__" (defArgs xst_BadName) (defBody xst_BadName) (defScope xst_BadName) [("__class__", cc_BadName)] .none xkV_BadName xdoc_BadName xpm_BadName xan_BadName (.ref cda_BadName) xct_BadName), xosl_BadName⟩)
    (xc_BadName : PySem.W.codeIn K (.ref cda_BadName) "BadName.__init__" = true)
    (xd_BadName : K.lookup cda_BadName = some ⟨xccl_BadName, xcdd_BadName, .fields xvs_BadName, xccs_BadName⟩)
    (xv_BadName : xvs_BadName[2]? = some (.str xfile_BadName xtf_BadName))
    (xe_BadName : ((l.prog.main.file : Str) == xfile_BadName) = true)
    (xk_BadName : K.lookup cc_BadName = some ⟨xcl_BadName, xcld_BadName, .cell (some (.ref C_BadName)), xcsl_BadName⟩)
    (xB_BadName : xcB K C_BadName fI_BadName "value" = true)
    (aC_BadNumber : PySem.W.nsIn K mainGlobals "BadNumber" = some (some (.ref C_BadNumber)))
    (xl_BadNumber : K.lookup C_BadNumber = some (excClassObj xnm_BadNumber xq_BadNumber C_BadNumber NS_BadNumber xbs_BadNumber xbm_BadNumber true xsn_BadNumber xsub_BadNumber xab_BadNumber xcol_BadNumber xdd_BadNumber xk0_BadNumber xk1_BadNumber xk2_BadNumber xk3_BadNumber xk5_BadNumber "ValueError.__new__"))
    (xr_BadNumber : PySem.HandSPX.refsVE xbm_BadNumber = true)
    (xi_BadNumber : PySem.W.findIn K (.ref C_BadNumber) "__init__" = some (some (.ref fI_BadNumber)))
    (xf_BadNumber : K.lookup fI_BadNumber = some ⟨xoc_BadNumber, xod_BadNumber, .func (PySem.W.fnX "__init__" "BadNumber.__init__" (defArgs xst_BadNumber) (defBody xst_BadNumber) (defScope xst_BadNumber) [("__class__", cc_BadNumber)] .none xkV_BadNumber xdoc_BadNumber xpm_BadNumber xan_BadNumber (.ref cda_BadNumber) xct_BadNumber), xosl_BadNumber⟩)
    (xc_BadNumber : PySem.W.codeIn K (.ref cda_BadNumber) "BadNumber.__init__" = true)
    (xd_BadNumber : K.lookup cda_BadNumber = some ⟨xccl_BadNumber, xcdd_BadNumber, .fields xvs_BadNumber, xccs_BadNumber⟩)
    (xv_BadNumber : xvs_BadNumber[2]? = some (.str xfile_BadNumber xtf_BadNumber))
    (xe_BadNumber : ((l.prog.main.file : Str) == xfile_BadNumber) = true)
    (xk_BadNumber : K.lookup cc_BadNumber = some ⟨xcl_BadNumber, xcld_BadNumber, .cell (some (.ref C_BadNumber)), xcsl_BadNumber⟩)
    (xB_BadNumber : xcB K C_BadNumber fI_BadNumber "value" = true)
    (aC_BadPlace : PySem.W.nsIn K mainGlobals "BadPlace" = some (some (.ref C_BadPlace)))
    (xl_BadPlace : K.lookup C_BadPlace = some (excClassObj xnm_BadPlace xq_BadPlace C_BadPlace NS_BadPlace xbs_BadPlace xbm_BadPlace true xsn_BadPlace xsub_BadPlace xab_BadPlace xcol_BadPlace xdd_BadPlace xk0_BadPlace xk1_BadPlace xk2_BadPlace xk3_BadPlace xk5_BadPlace "ValueError.__new__"))
    (xr_BadPlace : PySem.HandSPX.refsVE xbm_BadPlace = true)
    (xi_BadPlace : PySem.W.findIn K (.ref C_BadPlace) "__init__" = some (some (.ref fI_BadPlace)))
    (xf_BadPlace : K.lookup fI_BadPlace = some ⟨xoc_BadPlace, xod_BadPlace, .func (PySem.W.fnX "__init__" "BadPlace.__init__" (defArgs xst_BadPlace) (defBody xst_BadPlace) (defScope xst_BadPlace) [("__class__", cc_BadPlace)] .none xkV_BadPlace xdoc_BadPlace xpm_BadPlace xan_BadPlace (.ref cda_BadPlace) xct_BadPlace), xosl_BadPlace⟩)
    (xc_BadPlace : PySem.W.codeIn K (.ref cda_BadPlace) "BadPlace.__init__" = true)
    (xd_BadPlace : K.lookup cda_BadPlace = some ⟨xccl_BadPlace, xcdd_BadPlace, .fields xvs_BadPlace, xccs_BadPlace⟩)
    (xv_BadPlace : xvs_BadPlace[2]? = some (.str xfile_BadPlace xtf_BadPlace))
    (xe_BadPlace : ((l.prog.main.file : Str) == xfile_BadPlace) = true)
    (xk_BadPlace : K.lookup cc_BadPlace = some ⟨xcl_BadPlace, xcld_BadPlace, .cell (some (.ref C_BadPlace)), xcsl_BadPlace⟩)
    (xB_BadPlace : xcB K C_BadPlace fI_BadPlace "value" = true)
    (aC_BadText : PySem.W.nsIn K mainGlobals "BadText" = some (some (.ref C_BadText)))
    (xl_BadText : K.lookup C_BadText = some (excClassObj xnm_BadText xq_BadText C_BadText NS_BadText xbs_BadText xbm_BadText true xsn_BadText xsub_BadText xab_BadText xcol_BadText xdd_BadText xk0_BadText xk1_BadText xk2_BadText xk3_BadText xk5_BadText "ValueError.__new__"))
    (xr_BadText : PySem.HandSPX.refsVE xbm_BadText = true)
    (xi_BadText : PySem.W.findIn K (.ref C_BadText) "__init__" = some (some (.ref fI_BadText)))
    (xf_BadText : K.lookup fI_BadText = some ⟨xoc_BadText, xod_BadText, .func (PySem.W.fnX "__init__" "BadText.__init__" (defArgs xst_BadText) (defBody xst_BadText) (defScope xst_BadText) [("__class__", cc_BadText)] .none xkV_BadText xdoc_BadText xpm_BadText xan_BadText (.ref cda_BadText) xct_BadText), xosl_BadText⟩)
    (xc_BadText : PySem.W.codeIn K (.ref cda_BadText) "BadText.__init__" = true)
    (xd_BadText : K.lookup cda_BadText = some ⟨xccl_BadText, xcdd_BadText, .fields xvs_BadText, xccs_BadText⟩)
    (xv_BadText : xvs_BadText[2]? = some (.str xfile_BadText xtf_BadText))
    (xe_BadText : ((l.prog.main.file : Str) == xfile_BadText) = true)
    (xk_BadText : K.lookup cc_BadText = some ⟨xcl_BadText, xcld_BadText, .cell (some (.ref C_BadText)), xcsl_BadText⟩)
    (xB_BadText : xcB K C_BadText fI_BadText "number" = true)
    (aC_BadWord : PySem.W.nsIn K mainGlobals "BadWord" = some (some (.ref C_BadWord)))
    (xl_BadWord : K.lookup C_BadWord = some (excClassObj xnm_BadWord xq_BadWord C_BadWord NS_BadWord xbs_BadWord xbm_BadWord true xsn_BadWord xsub_BadWord xab_BadWord xcol_BadWord xdd_BadWord xk0_BadWord xk1_BadWord xk2_BadWord xk3_BadWord xk5_BadWord "ValueError.__new__"))
    (xr_BadWord : PySem.HandSPX.refsVE xbm_BadWord = true)
    (xi_BadWord : PySem.W.findIn K (.ref C_BadWord) "__init__" = some (some (.ref fI_BadWord)))
    (xf_BadWord : K.lookup fI_BadWord = some ⟨xoc_BadWord, xod_BadWord, .func (PySem.W.fnX "__init__" "BadWord.__init__" (defArgs xst_BadWord) (defBody xst_BadWord) (defScope xst_BadWord) [("__class__", cc_BadWord)] .none xkV_BadWord xdoc_BadWord xpm_BadWord xan_BadWord (.ref cda_BadWord) xct_BadWord), xosl_BadWord⟩)
    (xc_BadWord : PySem.W.codeIn K (.ref cda_BadWord) "BadWord.__init__" = true)
    (xd_BadWord : K.lookup cda_BadWord = some ⟨xccl_BadWord, xcdd_BadWord, .fields xvs_BadWord, xccs_BadWord⟩)
    (xv_BadWord : xvs_BadWord[2]? = some (.str xfile_BadWord xtf_BadWord))
    (xe_BadWord : ((l.prog.main.file : Str) == xfile_BadWord) = true)
    (xk_BadWord : K.lookup cc_BadWord = some ⟨xcl_BadWord, xcld_BadWord, .cell (some (.ref C_BadWord)), xcsl_BadWord⟩)
    (xB_BadWord : xcB K C_BadWord fI_BadWord "value" = true)
    (aC_Barred : PySem.W.nsIn K mainGlobals "Barred" = some (some (.ref C_Barred)))
    (xl_Barred : K.lookup C_Barred = some (excClassObj xnm_Barred xq_Barred C_Barred NS_Barred xbs_Barred xbm_Barred true xsn_Barred xsub_Barred xab_Barred xcol_Barred xdd_Barred xk0_Barred xk1_Barred xk2_Barred xk3_Barred xk5_Barred "ValueError.__new__"))
    (xr_Barred : PySem.HandSPX.refsVE xbm_Barred = true)
    (xi_Barred : PySem.W.findIn K (.ref C_Barred) "__init__" = some (some (.ref fI_Barred)))
    (xf_Barred : K.lookup fI_Barred = some ⟨xoc_Barred, xod_Barred, .func (PySem.W.fnX "__init__" "Barred.__init__" (defArgs xst_Barred) (defBody xst_Barred) (defScope xst_Barred) [("__class__", cc_Barred)] .none xkV_Barred xdoc_Barred xpm_Barred xan_Barred (.ref cda_Barred) xct_Barred), xosl_Barred⟩)
    (xc_Barred : PySem.W.codeIn K (.ref cda_Barred) "Barred.__init__" = true)
    (xd_Barred : K.lookup cda_Barred = some ⟨xccl_Barred, xcdd_Barred, .fields xvs_Barred, xccs_Barred⟩)
    (xv_Barred : xvs_Barred[2]? = some (.str xfile_Barred xtf_Barred))
    (xe_Barred : ((l.prog.main.file : Str) == xfile_Barred) = true)
    (xk_Barred : K.lookup cc_Barred = some ⟨xcl_Barred, xcld_Barred, .cell (some (.ref C_Barred)), xcsl_Barred⟩)
    (xB_Barred : xcB K C_Barred fI_Barred "words" = true)
    (aC_EndsDiffer : PySem.W.nsIn K mainGlobals "EndsDiffer" = some (some (.ref C_EndsDiffer)))
    (xl_EndsDiffer : K.lookup C_EndsDiffer = some (excClassObj xnm_EndsDiffer xq_EndsDiffer C_EndsDiffer NS_EndsDiffer xbs_EndsDiffer xbm_EndsDiffer true xsn_EndsDiffer xsub_EndsDiffer xab_EndsDiffer xcol_EndsDiffer xdd_EndsDiffer xk0_EndsDiffer xk1_EndsDiffer xk2_EndsDiffer xk3_EndsDiffer xk5_EndsDiffer "ValueError.__new__"))
    (xr_EndsDiffer : PySem.HandSPX.refsVE xbm_EndsDiffer = true)
    (xi_EndsDiffer : PySem.W.findIn K (.ref C_EndsDiffer) "__init__" = some (some (.ref fI_EndsDiffer)))
    (xf_EndsDiffer : K.lookup fI_EndsDiffer = some ⟨xoc_EndsDiffer, xod_EndsDiffer, .func (PySem.W.fnX "__init__" "EndsDiffer.__init__" (defArgs xst_EndsDiffer) (defBody xst_EndsDiffer) (defScope xst_EndsDiffer) [("__class__", cc_EndsDiffer)] .none xkV_EndsDiffer xdoc_EndsDiffer xpm_EndsDiffer xan_EndsDiffer (.ref cda_EndsDiffer) xct_EndsDiffer), xosl_EndsDiffer⟩)
    (xc_EndsDiffer : PySem.W.codeIn K (.ref cda_EndsDiffer) "EndsDiffer.__init__" = true)
    (xd_EndsDiffer : K.lookup cda_EndsDiffer = some ⟨xccl_EndsDiffer, xcdd_EndsDiffer, .fields xvs_EndsDiffer, xccs_EndsDiffer⟩)
    (xv_EndsDiffer : xvs_EndsDiffer[2]? = some (.str xfile_EndsDiffer xtf_EndsDiffer))
    (xe_EndsDiffer : ((l.prog.main.file : Str) == xfile_EndsDiffer) = true)
    (xk_EndsDiffer : K.lookup cc_EndsDiffer = some ⟨xcl_EndsDiffer, xcld_EndsDiffer, .cell (some (.ref C_EndsDiffer)), xcsl_EndsDiffer⟩)
    (xB_EndsDiffer : xcB K C_EndsDiffer fI_EndsDiffer "number" = true)
    (aC_NoDirection : PySem.W.nsIn K mainGlobals "NoDirection" = some (some (.ref C_NoDirection)))
    (aC_NoPromise : PySem.W.nsIn K mainGlobals "NoPromise" = some (some (.ref C_NoPromise)))
    (xl_NoPromise : K.lookup C_NoPromise = some (excClassObj xnm_NoPromise xq_NoPromise C_NoPromise NS_NoPromise xbs_NoPromise xbm_NoPromise true xsn_NoPromise xsub_NoPromise xab_NoPromise xcol_NoPromise xdd_NoPromise xk0_NoPromise xk1_NoPromise xk2_NoPromise xk3_NoPromise xk5_NoPromise "ValueError.__new__"))
    (xr_NoPromise : PySem.HandSPX.refsVE xbm_NoPromise = true)
    (xi_NoPromise : PySem.W.findIn K (.ref C_NoPromise) "__init__" = some (some (.ref fI_NoPromise)))
    (xf_NoPromise : K.lookup fI_NoPromise = some ⟨xoc_NoPromise, xod_NoPromise, .func (PySem.W.fnX "__init__" "NoPromise.__init__" (defArgs xst_NoPromise) (defBody xst_NoPromise) (defScope xst_NoPromise) [("__class__", cc_NoPromise)] .none xkV_NoPromise xdoc_NoPromise xpm_NoPromise xan_NoPromise (.ref cda_NoPromise) xct_NoPromise), xosl_NoPromise⟩)
    (xc_NoPromise : PySem.W.codeIn K (.ref cda_NoPromise) "NoPromise.__init__" = true)
    (xd_NoPromise : K.lookup cda_NoPromise = some ⟨xccl_NoPromise, xcdd_NoPromise, .fields xvs_NoPromise, xccs_NoPromise⟩)
    (xv_NoPromise : xvs_NoPromise[2]? = some (.str xfile_NoPromise xtf_NoPromise))
    (xe_NoPromise : ((l.prog.main.file : Str) == xfile_NoPromise) = true)
    (xk_NoPromise : K.lookup cc_NoPromise = some ⟨xcl_NoPromise, xcld_NoPromise, .cell (some (.ref C_NoPromise)), xcsl_NoPromise⟩)
    (xB_NoPromise : xcB K C_NoPromise fI_NoPromise "name" = true)
    (aC_NoWalk : PySem.W.nsIn K mainGlobals "NoWalk" = some (some (.ref C_NoWalk)))
    (xl_NoWalk : K.lookup C_NoWalk = some (excClassObj xnm_NoWalk xq_NoWalk C_NoWalk NS_NoWalk xbs_NoWalk xbm_NoWalk true xsn_NoWalk xsub_NoWalk xab_NoWalk xcol_NoWalk xdd_NoWalk xk0_NoWalk xk1_NoWalk xk2_NoWalk xk3_NoWalk xk5_NoWalk "ValueError.__new__"))
    (xr_NoWalk : PySem.HandSPX.refsVE xbm_NoWalk = true)
    (xi_NoWalk : PySem.W.findIn K (.ref C_NoWalk) "__init__" = some (some (.ref fI_NoWalk)))
    (xf_NoWalk : K.lookup fI_NoWalk = some ⟨xoc_NoWalk, xod_NoWalk, .func (PySem.W.fnX "__init__" "NoWalk.__init__" (defArgs xst_NoWalk) (defBody xst_NoWalk) (defScope xst_NoWalk) [("__class__", cc_NoWalk)] .none xkV_NoWalk xdoc_NoWalk xpm_NoWalk xan_NoWalk (.ref cda_NoWalk) xct_NoWalk), xosl_NoWalk⟩)
    (xc_NoWalk : PySem.W.codeIn K (.ref cda_NoWalk) "NoWalk.__init__" = true)
    (xd_NoWalk : K.lookup cda_NoWalk = some ⟨xccl_NoWalk, xcdd_NoWalk, .fields xvs_NoWalk, xccs_NoWalk⟩)
    (xv_NoWalk : xvs_NoWalk[2]? = some (.str xfile_NoWalk xtf_NoWalk))
    (xe_NoWalk : ((l.prog.main.file : Str) == xfile_NoWalk) = true)
    (xk_NoWalk : K.lookup cc_NoWalk = some ⟨xcl_NoWalk, xcld_NoWalk, .cell (some (.ref C_NoWalk)), xcsl_NoWalk⟩)
    (xB_NoWalk : xcB K C_NoWalk fI_NoWalk "name" = true)
    (aC_NotClosed : PySem.W.nsIn K mainGlobals "NotClosed" = some (some (.ref C_NotClosed)))
    (aC_NotOnto : PySem.W.nsIn K mainGlobals "NotOnto" = some (some (.ref C_NotOnto)))
    (xl_NotOnto : K.lookup C_NotOnto = some (excClassObj xnm_NotOnto xq_NotOnto C_NotOnto NS_NotOnto xbs_NotOnto xbm_NotOnto true xsn_NotOnto xsub_NotOnto xab_NotOnto xcol_NotOnto xdd_NotOnto xk0_NotOnto xk1_NotOnto xk2_NotOnto xk3_NotOnto xk5_NotOnto "ValueError.__new__"))
    (xr_NotOnto : PySem.HandSPX.refsVE xbm_NotOnto = true)
    (xi_NotOnto : PySem.W.findIn K (.ref C_NotOnto) "__init__" = some (some (.ref fI_NotOnto)))
    (xf_NotOnto : K.lookup fI_NotOnto = some ⟨xoc_NotOnto, xod_NotOnto, .func (PySem.W.fnX "__init__" "NotOnto.__init__" (defArgs xst_NotOnto) (defBody xst_NotOnto) (defScope xst_NotOnto) [("__class__", cc_NotOnto)] .none xkV_NotOnto xdoc_NotOnto xpm_NotOnto xan_NotOnto (.ref cda_NotOnto) xct_NotOnto), xosl_NotOnto⟩)
    (xc_NotOnto : PySem.W.codeIn K (.ref cda_NotOnto) "NotOnto.__init__" = true)
    (xd_NotOnto : K.lookup cda_NotOnto = some ⟨xccl_NotOnto, xcdd_NotOnto, .fields xvs_NotOnto, xccs_NotOnto⟩)
    (xv_NotOnto : xvs_NotOnto[2]? = some (.str xfile_NotOnto xtf_NotOnto))
    (xe_NotOnto : ((l.prog.main.file : Str) == xfile_NotOnto) = true)
    (xk_NotOnto : K.lookup cc_NotOnto = some ⟨xcl_NotOnto, xcld_NotOnto, .cell (some (.ref C_NotOnto)), xcsl_NotOnto⟩)
    (xB_NotOnto : xcB K C_NotOnto fI_NotOnto "number" = true)
    (aC_NotWithin : PySem.W.nsIn K mainGlobals "NotWithin" = some (some (.ref C_NotWithin)))
    (aC_NothingToUndo : PySem.W.nsIn K mainGlobals "NothingToUndo" = some (some (.ref C_NothingToUndo)))
    (aC_OneSided : PySem.W.nsIn K mainGlobals "OneSided" = some (some (.ref C_OneSided)))
    (xl_OneSided : K.lookup C_OneSided = some (excClassObj xnm_OneSided xq_OneSided C_OneSided NS_OneSided xbs_OneSided xbm_OneSided true xsn_OneSided xsub_OneSided xab_OneSided xcol_OneSided xdd_OneSided xk0_OneSided xk1_OneSided xk2_OneSided xk3_OneSided xk5_OneSided "ValueError.__new__"))
    (xr_OneSided : PySem.HandSPX.refsVE xbm_OneSided = true)
    (xi_OneSided : PySem.W.findIn K (.ref C_OneSided) "__init__" = some (some (.ref fI_OneSided)))
    (xf_OneSided : K.lookup fI_OneSided = some ⟨xoc_OneSided, xod_OneSided, .func (PySem.W.fnX "__init__" "OneSided.__init__" (defArgs xst_OneSided) (defBody xst_OneSided) (defScope xst_OneSided) [("__class__", cc_OneSided)] .none xkV_OneSided xdoc_OneSided xpm_OneSided xan_OneSided (.ref cda_OneSided) xct_OneSided), xosl_OneSided⟩)
    (xc_OneSided : PySem.W.codeIn K (.ref cda_OneSided) "OneSided.__init__" = true)
    (xd_OneSided : K.lookup cda_OneSided = some ⟨xccl_OneSided, xcdd_OneSided, .fields xvs_OneSided, xccs_OneSided⟩)
    (xv_OneSided : xvs_OneSided[2]? = some (.str xfile_OneSided xtf_OneSided))
    (xe_OneSided : ((l.prog.main.file : Str) == xfile_OneSided) = true)
    (xk_OneSided : K.lookup cc_OneSided = some ⟨xcl_OneSided, xcld_OneSided, .cell (some (.ref C_OneSided)), xcsl_OneSided⟩)
    (xB_OneSided : xcB K C_OneSided fI_OneSided "form" = true)
    (aC_Still : PySem.W.nsIn K mainGlobals "Still" = some (some (.ref C_Still)))
    (aC_Taken : PySem.W.nsIn K mainGlobals "Taken" = some (some (.ref C_Taken)))
    (xl_Taken : K.lookup C_Taken = some (excClassObj xnm_Taken xq_Taken C_Taken NS_Taken xbs_Taken xbm_Taken true xsn_Taken xsub_Taken xab_Taken xcol_Taken xdd_Taken xk0_Taken xk1_Taken xk2_Taken xk3_Taken xk5_Taken "ValueError.__new__"))
    (xr_Taken : PySem.HandSPX.refsVE xbm_Taken = true)
    (xi_Taken : PySem.W.findIn K (.ref C_Taken) "__init__" = some (some (.ref fI_Taken)))
    (xf_Taken : K.lookup fI_Taken = some ⟨xoc_Taken, xod_Taken, .func (PySem.W.fnX "__init__" "Taken.__init__" (defArgs xst_Taken) (defBody xst_Taken) (defScope xst_Taken) [("__class__", cc_Taken)] .none xkV_Taken xdoc_Taken xpm_Taken xan_Taken (.ref cda_Taken) xct_Taken), xosl_Taken⟩)
    (xc_Taken : PySem.W.codeIn K (.ref cda_Taken) "Taken.__init__" = true)
    (xd_Taken : K.lookup cda_Taken = some ⟨xccl_Taken, xcdd_Taken, .fields xvs_Taken, xccs_Taken⟩)
    (xv_Taken : xvs_Taken[2]? = some (.str xfile_Taken xtf_Taken))
    (xe_Taken : ((l.prog.main.file : Str) == xfile_Taken) = true)
    (xk_Taken : K.lookup cc_Taken = some ⟨xcl_Taken, xcld_Taken, .cell (some (.ref C_Taken)), xcsl_Taken⟩)
    (xB_Taken : xcB K C_Taken fI_Taken "name" = true)
    (aC_TooFar : PySem.W.nsIn K mainGlobals "TooFar" = some (some (.ref C_TooFar)))
    (xl_TooFar : K.lookup C_TooFar = some (excClassObj xnm_TooFar xq_TooFar C_TooFar NS_TooFar xbs_TooFar xbm_TooFar true xsn_TooFar xsub_TooFar xab_TooFar xcol_TooFar xdd_TooFar xk0_TooFar xk1_TooFar xk2_TooFar xk3_TooFar xk5_TooFar "ValueError.__new__"))
    (xr_TooFar : PySem.HandSPX.refsVE xbm_TooFar = true)
    (xi_TooFar : PySem.W.findIn K (.ref C_TooFar) "__init__" = some (some (.ref fI_TooFar)))
    (xf_TooFar : K.lookup fI_TooFar = some ⟨xoc_TooFar, xod_TooFar, .func (PySem.W.fnX "__init__" "TooFar.__init__" (defArgs xst_TooFar) (defBody xst_TooFar) (defScope xst_TooFar) [("__class__", cc_TooFar)] .none xkV_TooFar xdoc_TooFar xpm_TooFar xan_TooFar (.ref cda_TooFar) xct_TooFar), xosl_TooFar⟩)
    (xc_TooFar : PySem.W.codeIn K (.ref cda_TooFar) "TooFar.__init__" = true)
    (xd_TooFar : K.lookup cda_TooFar = some ⟨xccl_TooFar, xcdd_TooFar, .fields xvs_TooFar, xccs_TooFar⟩)
    (xv_TooFar : xvs_TooFar[2]? = some (.str xfile_TooFar xtf_TooFar))
    (xe_TooFar : ((l.prog.main.file : Str) == xfile_TooFar) = true)
    (xk_TooFar : K.lookup cc_TooFar = some ⟨xcl_TooFar, xcld_TooFar, .cell (some (.ref C_TooFar)), xcsl_TooFar⟩)
    (xB_TooFar : xcB K C_TooFar fI_TooFar "number" = true)
    (aC_TooMany : PySem.W.nsIn K mainGlobals "TooMany" = some (some (.ref C_TooMany)))
    (xl_TooMany : K.lookup C_TooMany = some (excClassObj xnm_TooMany xq_TooMany C_TooMany NS_TooMany xbs_TooMany xbm_TooMany true xsn_TooMany xsub_TooMany xab_TooMany xcol_TooMany xdd_TooMany xk0_TooMany xk1_TooMany xk2_TooMany xk3_TooMany xk5_TooMany "ValueError.__new__"))
    (xr_TooMany : PySem.HandSPX.refsVE xbm_TooMany = true)
    (xi_TooMany : PySem.W.findIn K (.ref C_TooMany) "__init__" = some (some (.ref fI_TooMany)))
    (xf_TooMany : K.lookup fI_TooMany = some ⟨xoc_TooMany, xod_TooMany, .func (PySem.W.fnX "__init__" "TooMany.__init__" (defArgs xst_TooMany) (defBody xst_TooMany) (defScope xst_TooMany) [("__class__", cc_TooMany)] .none xkV_TooMany xdoc_TooMany xpm_TooMany xan_TooMany (.ref cda_TooMany) xct_TooMany), xosl_TooMany⟩)
    (xc_TooMany : PySem.W.codeIn K (.ref cda_TooMany) "TooMany.__init__" = true)
    (xd_TooMany : K.lookup cda_TooMany = some ⟨xccl_TooMany, xcdd_TooMany, .fields xvs_TooMany, xccs_TooMany⟩)
    (xv_TooMany : xvs_TooMany[2]? = some (.str xfile_TooMany xtf_TooMany))
    (xe_TooMany : ((l.prog.main.file : Str) == xfile_TooMany) = true)
    (xk_TooMany : K.lookup cc_TooMany = some ⟨xcl_TooMany, xcld_TooMany, .cell (some (.ref C_TooMany)), xcsl_TooMany⟩)
    (xB_TooMany : xcB K C_TooMany fI_TooMany "most" = true)
    (aC_Uneven : PySem.W.nsIn K mainGlobals "Uneven" = some (some (.ref C_Uneven)))
    (xl_Uneven : K.lookup C_Uneven = some (excClassObj xnm_Uneven xq_Uneven C_Uneven NS_Uneven xbs_Uneven xbm_Uneven true xsn_Uneven xsub_Uneven xab_Uneven xcol_Uneven xdd_Uneven xk0_Uneven xk1_Uneven xk2_Uneven xk3_Uneven xk5_Uneven "ValueError.__new__"))
    (xr_Uneven : PySem.HandSPX.refsVE xbm_Uneven = true)
    (xi_Uneven : PySem.W.findIn K (.ref C_Uneven) "__init__" = some (some (.ref fI_Uneven)))
    (xf_Uneven : K.lookup fI_Uneven = some ⟨xoc_Uneven, xod_Uneven, .func (PySem.W.fnX "__init__" "Uneven.__init__" (defArgs xst_Uneven) (defBody xst_Uneven) (defScope xst_Uneven) [("__class__", cc_Uneven)] .none xkV_Uneven xdoc_Uneven xpm_Uneven xan_Uneven (.ref cda_Uneven) xct_Uneven), xosl_Uneven⟩)
    (xc_Uneven : PySem.W.codeIn K (.ref cda_Uneven) "Uneven.__init__" = true)
    (xd_Uneven : K.lookup cda_Uneven = some ⟨xccl_Uneven, xcdd_Uneven, .fields xvs_Uneven, xccs_Uneven⟩)
    (xv_Uneven : xvs_Uneven[2]? = some (.str xfile_Uneven xtf_Uneven))
    (xe_Uneven : ((l.prog.main.file : Str) == xfile_Uneven) = true)
    (xk_Uneven : K.lookup cc_Uneven = some ⟨xcl_Uneven, xcld_Uneven, .cell (some (.ref C_Uneven)), xcsl_Uneven⟩)
    (xB_Uneven : xcB K C_Uneven fI_Uneven "first" = true)
    (xC_Uneven : PySem.W.findIn K (.ref C_Uneven) "second" = some none)
    (aC_WalkError : PySem.W.nsIn K mainGlobals "WalkError" = some (some (.ref C_WalkError)))
    (x0_NoDirection : x0B K C_NoDirection = true)
    (x0_NotClosed : x0B K C_NotClosed = true)
    (x0_NotWithin : x0B K C_NotWithin = true)
    (x0_NothingToUndo : x0B K C_NothingToUndo = true)
    (x0_Still : x0B K C_Still = true)
    (eib : eiB K [("BadName", C_BadName), ("BadNumber", C_BadNumber), ("BadPlace", C_BadPlace), ("BadText", C_BadText), ("BadWord", C_BadWord), ("Barred", C_Barred), ("EndsDiffer", C_EndsDiffer), ("NoDirection", C_NoDirection), ("NoPromise", C_NoPromise), ("NoWalk", C_NoWalk), ("NotClosed", C_NotClosed), ("NotOnto", C_NotOnto), ("NotWithin", C_NotWithin), ("NothingToUndo", C_NothingToUndo), ("OneSided", C_OneSided), ("Still", C_Still), ("Taken", C_Taken), ("TooFar", C_TooFar), ("TooMany", C_TooMany), ("Uneven", C_Uneven), ("WalkError", C_WalkError)] = true)
    (xtop : (l.prog.main.scope.names.lookup ("super" : Str)).isSome = false)
    (xsup : PySem.W.nsIn K mainGlobals "super" = some none)
    (xm_BadName_WalkError : PySem.W.exmOne K (.ref C_BadName) (.ref C_WalkError) = some true)
    (xm_BadNumber_WalkError : PySem.W.exmOne K (.ref C_BadNumber) (.ref C_WalkError) = some true)
    (xm_BadPlace_WalkError : PySem.W.exmOne K (.ref C_BadPlace) (.ref C_WalkError) = some true)
    (xm_BadText_WalkError : PySem.W.exmOne K (.ref C_BadText) (.ref C_WalkError) = some true)
    (xm_BadWord_WalkError : PySem.W.exmOne K (.ref C_BadWord) (.ref C_WalkError) = some true)
    (xm_Barred_WalkError : PySem.W.exmOne K (.ref C_Barred) (.ref C_WalkError) = some true)
    (xm_EndsDiffer_WalkError : PySem.W.exmOne K (.ref C_EndsDiffer) (.ref C_WalkError) = some true)
    (xm_NoDirection_WalkError : PySem.W.exmOne K (.ref C_NoDirection) (.ref C_WalkError) = some true)
    (xm_NoPromise_WalkError : PySem.W.exmOne K (.ref C_NoPromise) (.ref C_WalkError) = some true)
    (xm_NoWalk_WalkError : PySem.W.exmOne K (.ref C_NoWalk) (.ref C_WalkError) = some true)
    (xm_NotClosed_WalkError : PySem.W.exmOne K (.ref C_NotClosed) (.ref C_WalkError) = some true)
    (xm_NotOnto_WalkError : PySem.W.exmOne K (.ref C_NotOnto) (.ref C_WalkError) = some true)
    (xm_NotWithin_WalkError : PySem.W.exmOne K (.ref C_NotWithin) (.ref C_WalkError) = some true)
    (xm_NothingToUndo_WalkError : PySem.W.exmOne K (.ref C_NothingToUndo) (.ref C_WalkError) = some true)
    (xm_OneSided_WalkError : PySem.W.exmOne K (.ref C_OneSided) (.ref C_WalkError) = some true)
    (xm_Still_WalkError : PySem.W.exmOne K (.ref C_Still) (.ref C_WalkError) = some true)
    (xm_Taken_WalkError : PySem.W.exmOne K (.ref C_Taken) (.ref C_WalkError) = some true)
    (xm_TooFar_WalkError : PySem.W.exmOne K (.ref C_TooFar) (.ref C_WalkError) = some true)
    (xm_TooMany_WalkError : PySem.W.exmOne K (.ref C_TooMany) (.ref C_WalkError) = some true)
    (xm_Uneven_WalkError : PySem.W.exmOne K (.ref C_Uneven) (.ref C_WalkError) = some true)
    (xm_WalkError_WalkError : PySem.W.exmOne K (.ref C_WalkError) (.ref C_WalkError) = some true)
    (a1__law_alone : PySem.W.nsIn K mainGlobals "_law_alone" = some (some (.ref a__law_alone)))
    (l1__law_alone : K.lookup a__law_alone = some ⟨oc__law_alone, od__law_alone, .func (PySem.W.fnOf "_law_alone" "_law_alone" (defArgs st__law_alone) (defBody st__law_alone) (defScope st__law_alone) .none kV__law_alone dc__law_alone pm__law_alone an__law_alone cd__law_alone ct__law_alone), sl__law_alone⟩)
    (c1__law_alone : PySem.W.codeIn K cd__law_alone "_law_alone" = true)
    (k1__law_alone : PySem.W.keepIn K (.ref a__law_alone) = true)
    (a1__law_kinds : PySem.W.nsIn K mainGlobals "_law_kinds" = some (some (.ref a__law_kinds)))
    (l1__law_kinds : K.lookup a__law_kinds = some ⟨oc__law_kinds, od__law_kinds, .func (PySem.W.fnOf "_law_kinds" "_law_kinds" (defArgs st__law_kinds) (defBody st__law_kinds) (defScope st__law_kinds) .none kV__law_kinds dc__law_kinds pm__law_kinds an__law_kinds cd__law_kinds ct__law_kinds), sl__law_kinds⟩)
    (c1__law_kinds : PySem.W.codeIn K cd__law_kinds "_law_kinds" = true)
    (k1__law_kinds : PySem.W.keepIn K (.ref a__law_kinds) = true)
    (a1__law_apart : PySem.W.nsIn K mainGlobals "_law_apart" = some (some (.ref a__law_apart)))
    (l1__law_apart : K.lookup a__law_apart = some ⟨oc__law_apart, od__law_apart, .func (PySem.W.fnOf "_law_apart" "_law_apart" (defArgs st__law_apart) (defBody st__law_apart) (defScope st__law_apart) .none kV__law_apart dc__law_apart pm__law_apart an__law_apart cd__law_apart ct__law_apart), sl__law_apart⟩)
    (c1__law_apart : PySem.W.codeIn K cd__law_apart "_law_apart" = true)
    (k1__law_apart : PySem.W.keepIn K (.ref a__law_apart) = true)
    (a1__law_raise : PySem.W.nsIn K mainGlobals "_law_raise" = some (some (.ref a__law_raise)))
    (l1__law_raise : K.lookup a__law_raise = some ⟨oc__law_raise, od__law_raise, .func (PySem.W.fnOf "_law_raise" "_law_raise" (defArgs st__law_raise) (defBody st__law_raise) (defScope st__law_raise) .none kV__law_raise dc__law_raise pm__law_raise an__law_raise cd__law_raise ct__law_raise), sl__law_raise⟩)
    (c1__law_raise : PySem.W.codeIn K cd__law_raise "_law_raise" = true)
    (k1__law_raise : PySem.W.keepIn K (.ref a__law_raise) = true)
    (a1__law_caught : PySem.W.nsIn K mainGlobals "_law_caught" = some (some (.ref a__law_caught)))
    (l1__law_caught : K.lookup a__law_caught = some ⟨oc__law_caught, od__law_caught, .func (PySem.W.fnOf "_law_caught" "_law_caught" (defArgs st__law_caught) (defBody st__law_caught) (defScope st__law_caught) .none kV__law_caught dc__law_caught pm__law_caught an__law_caught cd__law_caught ct__law_caught), sl__law_caught⟩)
    (c1__law_caught : PySem.W.codeIn K cd__law_caught "_law_caught" = true)
    (k1__law_caught : PySem.W.keepIn K (.ref a__law_caught) = true)
    (a1__law_more : PySem.W.nsIn K mainGlobals "_law_more" = some (some (.ref a__law_more)))
    (l1__law_more : K.lookup a__law_more = some ⟨oc__law_more, od__law_more, .func (PySem.W.fnOf "_law_more" "_law_more" (defArgs st__law_more) (defBody st__law_more) (defScope st__law_more) .none kV__law_more dc__law_more pm__law_more an__law_more cd__law_more ct__law_more), sl__law_more⟩)
    (c1__law_more : PySem.W.codeIn K cd__law_more "_law_more" = true)
    (k1__law_more : PySem.W.keepIn K (.ref a__law_more) = true)
    (a1__law_pen : PySem.W.nsIn K mainGlobals "_law_pen" = some (some (.ref a__law_pen)))
    (l1__law_pen : K.lookup a__law_pen = some ⟨oc__law_pen, od__law_pen, .func (PySem.W.fnOf "_law_pen" "_law_pen" (defArgs st__law_pen) (defBody st__law_pen) (defScope st__law_pen) .none kV__law_pen dc__law_pen pm__law_pen an__law_pen cd__law_pen ct__law_pen), sl__law_pen⟩)
    (c1__law_pen : PySem.W.codeIn K cd__law_pen "_law_pen" = true)
    (k1__law_pen : PySem.W.keepIn K (.ref a__law_pen) = true)
    (a1__law_draw : PySem.W.nsIn K mainGlobals "_law_draw" = some (some (.ref a__law_draw)))
    (l1__law_draw : K.lookup a__law_draw = some ⟨oc__law_draw, od__law_draw, .func (PySem.W.fnOf "_law_draw" "_law_draw" (defArgs st__law_draw) (defBody st__law_draw) (defScope st__law_draw) .none kV__law_draw dc__law_draw pm__law_draw an__law_draw cd__law_draw ct__law_draw), sl__law_draw⟩)
    (c1__law_draw : PySem.W.codeIn K cd__law_draw "_law_draw" = true)
    (k1__law_draw : PySem.W.keepIn K (.ref a__law_draw) = true)
    (a1__law_pick : PySem.W.nsIn K mainGlobals "_law_pick" = some (some (.ref a__law_pick)))
    (l1__law_pick : K.lookup a__law_pick = some ⟨oc__law_pick, od__law_pick, .func (PySem.W.fnOf "_law_pick" "_law_pick" (defArgs st__law_pick) (defBody st__law_pick) (defScope st__law_pick) .none kV__law_pick dc__law_pick pm__law_pick an__law_pick cd__law_pick ct__law_pick), sl__law_pick⟩)
    (c1__law_pick : PySem.W.codeIn K cd__law_pick "_law_pick" = true)
    (k1__law_pick : PySem.W.keepIn K (.ref a__law_pick) = true)
    (a1_law : PySem.W.nsIn K mainGlobals "law" = some (some (.ref a_law)))
    (l1_law : K.lookup a_law = some ⟨oc_law, od_law, .func (PySem.W.fnOf "law" "law" (defArgs st_law) (defBody st_law) (defScope st_law) .none kV_law dc_law pm_law an_law cd_law ct_law), sl_law⟩)
    (c1_law : PySem.W.codeIn K cd_law "law" = true)
    (k1_law : PySem.W.keepIn K (.ref a_law) = true)
    (z1_ValueError : PySem.W.nsIn K mainGlobals "ValueError" = some none)
    (z1_all : PySem.W.nsIn K mainGlobals "all" = some none)
    (z1_bool : PySem.W.nsIn K mainGlobals "bool" = some none)
    (z1_int : PySem.W.nsIn K mainGlobals "int" = some none)
    (z1_isinstance : PySem.W.nsIn K mainGlobals "isinstance" = some none)
    (z1_len : PySem.W.nsIn K mainGlobals "len" = some none)
    (z1_list : PySem.W.nsIn K mainGlobals "list" = some none)
    (z1_min : PySem.W.nsIn K mainGlobals "min" = some none)
    (z1_range : PySem.W.nsIn K mainGlobals "range" = some none)
    (z1_sum : PySem.W.nsIn K mainGlobals "sum" = some none)
    (hl : ∀ ns : List Int, ns.length ≤ 63 → (∀ z ∈ ns, Builtin.Int.intBits z ≤ 1048576) → ∃ S, g_law [.scr (ns.map D.int)] [] = .ok (.bl true) S) :
    LamX.LawAtS l w K (L2.CX l.prog w) 7 63 "_law_script" mg fa h := by
  have e := hfa.symm.trans (PySem.W.mg_of X G0 a1_law)
  cases e
  let G : Gam := { K := K, ct := fun c => if c = "BadName" then some C_BadName else if c = "BadNumber" then some C_BadNumber else if c = "BadPlace" then some C_BadPlace else if c = "BadText" then some C_BadText else if c = "BadWord" then some C_BadWord else if c = "Barred" then some C_Barred else if c = "EndsDiffer" then some C_EndsDiffer else if c = "NoDirection" then some C_NoDirection else if c = "NoPromise" then some C_NoPromise else if c = "NoWalk" then some C_NoWalk else if c = "NotClosed" then some C_NotClosed else if c = "NotOnto" then some C_NotOnto else if c = "NotWithin" then some C_NotWithin else if c = "NothingToUndo" then some C_NothingToUndo else if c = "OneSided" then some C_OneSided else if c = "Still" then some C_Still else if c = "Taken" then some C_Taken else if c = "TooFar" then some C_TooFar else if c = "TooMany" then some C_TooMany else if c = "Uneven" then some C_Uneven else if c = "WalkError" then some C_WalkError else none, ft := fun c => none, tab := tabG [], tabM := tabG_mono _, lam := errL (fun c => if c = "BadName" then some C_BadName else if c = "BadNumber" then some C_BadNumber else if c = "BadPlace" then some C_BadPlace else if c = "BadText" then some C_BadText else if c = "BadWord" then some C_BadWord else if c = "Barred" then some C_Barred else if c = "EndsDiffer" then some C_EndsDiffer else if c = "NoDirection" then some C_NoDirection else if c = "NoPromise" then some C_NoPromise else if c = "NoWalk" then some C_NoWalk else if c = "NotClosed" then some C_NotClosed else if c = "NotOnto" then some C_NotOnto else if c = "NotWithin" then some C_NotWithin else if c = "NothingToUndo" then some C_NothingToUndo else if c = "OneSided" then some C_OneSided else if c = "Still" then some C_Still else if c = "Taken" then some C_Taken else if c = "TooFar" then some C_TooFar else if c = "TooMany" then some C_TooMany else if c = "Uneven" then some C_Uneven else if c = "WalkError" then some C_WalkError else none), lamM := errL_mono _ }
  have ct_BadName : G.ct "BadName" = some C_BadName := by simp [G]
  have ct_BadNumber : G.ct "BadNumber" = some C_BadNumber := by simp [G]
  have ct_BadPlace : G.ct "BadPlace" = some C_BadPlace := by simp [G]
  have ct_BadText : G.ct "BadText" = some C_BadText := by simp [G]
  have ct_BadWord : G.ct "BadWord" = some C_BadWord := by simp [G]
  have ct_Barred : G.ct "Barred" = some C_Barred := by simp [G]
  have ct_EndsDiffer : G.ct "EndsDiffer" = some C_EndsDiffer := by simp [G]
  have ct_NoDirection : G.ct "NoDirection" = some C_NoDirection := by simp [G]
  have ct_NoPromise : G.ct "NoPromise" = some C_NoPromise := by simp [G]
  have ct_NoWalk : G.ct "NoWalk" = some C_NoWalk := by simp [G]
  have ct_NotClosed : G.ct "NotClosed" = some C_NotClosed := by simp [G]
  have ct_NotOnto : G.ct "NotOnto" = some C_NotOnto := by simp [G]
  have ct_NotWithin : G.ct "NotWithin" = some C_NotWithin := by simp [G]
  have ct_NothingToUndo : G.ct "NothingToUndo" = some C_NothingToUndo := by simp [G]
  have ct_OneSided : G.ct "OneSided" = some C_OneSided := by simp [G]
  have ct_Still : G.ct "Still" = some C_Still := by simp [G]
  have ct_Taken : G.ct "Taken" = some C_Taken := by simp [G]
  have ct_TooFar : G.ct "TooFar" = some C_TooFar := by simp [G]
  have ct_TooMany : G.ct "TooMany" = some C_TooMany := by simp [G]
  have ct_Uneven : G.ct "Uneven" = some C_Uneven := by simp [G]
  have ct_WalkError : G.ct "WalkError" = some C_WalkError := by simp [G]
  have F__law_alone := fun_mk (st := st__law_alone) l1__law_alone c1__law_alone k1__law_alone
  have F__law_kinds := fun_mk (st := st__law_kinds) l1__law_kinds c1__law_kinds k1__law_kinds
  have F__law_apart := fun_mk (st := st__law_apart) l1__law_apart c1__law_apart k1__law_apart
  have F__law_raise := fun_mk (st := st__law_raise) l1__law_raise c1__law_raise k1__law_raise
  have F__law_caught := fun_mk (st := st__law_caught) l1__law_caught c1__law_caught k1__law_caught
  have F__law_more := fun_mk (st := st__law_more) l1__law_more c1__law_more k1__law_more
  have F__law_pen := fun_mk (st := st__law_pen) l1__law_pen c1__law_pen k1__law_pen
  have F__law_draw := fun_mk (st := st__law_draw) l1__law_draw c1__law_draw k1__law_draw
  have F__law_pick := fun_mk (st := st__law_pick) l1__law_pick c1__law_pick k1__law_pick
  have F_law := fun_mk (st := st_law) l1_law c1_law k1_law
  have mkE : ∀ base : Heap, (∀ m ∈ ([] : List (String × Addr × Addr)), LamX.TabB base mg m.2.1 m.2.2) → ∃ e : Ev l.prog G mg base, e.a_law = fa ∧ e.fd_law = (PySem.W.fnOf "law" "law" (defArgs st_law) (defBody st_law) (defScope st_law) .none kV_law dc_law pm_law an_law cd_law ct_law) := fun base tb => ⟨{
    C_BadName := C_BadName
    ct_BadName := ct_BadName
    m_BadName := PySem.W.mg_of X G0 aC_BadName
    fI_BadName := fI_BadName
    xfd_BadName := _
    X_BadName := xfacts_of (G := G) ct_BadName xl_BadName xr_BadName xi_BadName xf_BadName xc_BadName xd_BadName xv_BadName xe_BadName xk_BadName xB_BadName xtop (PySem.W.mg_none_of X G0 xsup) xsh_BadName (by decide) (by decide) (by decide) (fun us hl => match us, hl with | [_, _], _ => rfl)
    C_BadNumber := C_BadNumber
    ct_BadNumber := ct_BadNumber
    m_BadNumber := PySem.W.mg_of X G0 aC_BadNumber
    fI_BadNumber := fI_BadNumber
    xfd_BadNumber := _
    X_BadNumber := xfacts_of (G := G) ct_BadNumber xl_BadNumber xr_BadNumber xi_BadNumber xf_BadNumber xc_BadNumber xd_BadNumber xv_BadNumber xe_BadNumber xk_BadNumber xB_BadNumber xtop (PySem.W.mg_none_of X G0 xsup) xsh_BadNumber (by decide) (by decide) (by decide) (fun us hl => match us, hl with | [_, _], _ => rfl)
    C_BadPlace := C_BadPlace
    ct_BadPlace := ct_BadPlace
    m_BadPlace := PySem.W.mg_of X G0 aC_BadPlace
    fI_BadPlace := fI_BadPlace
    xfd_BadPlace := _
    X_BadPlace := xfacts_of (G := G) ct_BadPlace xl_BadPlace xr_BadPlace xi_BadPlace xf_BadPlace xc_BadPlace xd_BadPlace xv_BadPlace xe_BadPlace xk_BadPlace xB_BadPlace xtop (PySem.W.mg_none_of X G0 xsup) xsh_BadPlace (by decide) (by decide) (by decide) (fun us hl => match us, hl with | [_, _], _ => rfl)
    C_BadText := C_BadText
    ct_BadText := ct_BadText
    m_BadText := PySem.W.mg_of X G0 aC_BadText
    fI_BadText := fI_BadText
    xfd_BadText := _
    X_BadText := xfacts_of (G := G) ct_BadText xl_BadText xr_BadText xi_BadText xf_BadText xc_BadText xd_BadText xv_BadText xe_BadText xk_BadText xB_BadText xtop (PySem.W.mg_none_of X G0 xsup) xsh_BadText (by decide) (by decide) (by decide) (fun us hl => match us, hl with | [_, _], _ => rfl)
    C_BadWord := C_BadWord
    ct_BadWord := ct_BadWord
    m_BadWord := PySem.W.mg_of X G0 aC_BadWord
    fI_BadWord := fI_BadWord
    xfd_BadWord := _
    X_BadWord := xfacts_of (G := G) ct_BadWord xl_BadWord xr_BadWord xi_BadWord xf_BadWord xc_BadWord xd_BadWord xv_BadWord xe_BadWord xk_BadWord xB_BadWord xtop (PySem.W.mg_none_of X G0 xsup) xsh_BadWord (by decide) (by decide) (by decide) (fun us hl => match us, hl with | [_, _], _ => rfl)
    C_Barred := C_Barred
    ct_Barred := ct_Barred
    m_Barred := PySem.W.mg_of X G0 aC_Barred
    fI_Barred := fI_Barred
    xfd_Barred := _
    X_Barred := xfacts_of (G := G) ct_Barred xl_Barred xr_Barred xi_Barred xf_Barred xc_Barred xd_Barred xv_Barred xe_Barred xk_Barred xB_Barred xtop (PySem.W.mg_none_of X G0 xsup) xsh_Barred (by decide) (by decide) (by decide) (fun us hl => match us, hl with | [_, _], _ => rfl)
    C_EndsDiffer := C_EndsDiffer
    ct_EndsDiffer := ct_EndsDiffer
    m_EndsDiffer := PySem.W.mg_of X G0 aC_EndsDiffer
    fI_EndsDiffer := fI_EndsDiffer
    xfd_EndsDiffer := _
    X_EndsDiffer := xfacts_of (G := G) ct_EndsDiffer xl_EndsDiffer xr_EndsDiffer xi_EndsDiffer xf_EndsDiffer xc_EndsDiffer xd_EndsDiffer xv_EndsDiffer xe_EndsDiffer xk_EndsDiffer xB_EndsDiffer xtop (PySem.W.mg_none_of X G0 xsup) xsh_EndsDiffer (by decide) (by decide) (by decide) (fun us hl => match us, hl with | [_, _], _ => rfl)
    C_NoDirection := C_NoDirection
    ct_NoDirection := ct_NoDirection
    m_NoDirection := PySem.W.mg_of X G0 aC_NoDirection
    C_NoPromise := C_NoPromise
    ct_NoPromise := ct_NoPromise
    m_NoPromise := PySem.W.mg_of X G0 aC_NoPromise
    fI_NoPromise := fI_NoPromise
    xfd_NoPromise := _
    X_NoPromise := xfacts_of (G := G) ct_NoPromise xl_NoPromise xr_NoPromise xi_NoPromise xf_NoPromise xc_NoPromise xd_NoPromise xv_NoPromise xe_NoPromise xk_NoPromise xB_NoPromise xtop (PySem.W.mg_none_of X G0 xsup) xsh_NoPromise (by decide) (by decide) (by decide) (fun us hl => match us, hl with | [_, _], _ => rfl)
    C_NoWalk := C_NoWalk
    ct_NoWalk := ct_NoWalk
    m_NoWalk := PySem.W.mg_of X G0 aC_NoWalk
    fI_NoWalk := fI_NoWalk
    xfd_NoWalk := _
    X_NoWalk := xfacts_of (G := G) ct_NoWalk xl_NoWalk xr_NoWalk xi_NoWalk xf_NoWalk xc_NoWalk xd_NoWalk xv_NoWalk xe_NoWalk xk_NoWalk xB_NoWalk xtop (PySem.W.mg_none_of X G0 xsup) xsh_NoWalk (by decide) (by decide) (by decide) (fun us hl => match us, hl with | [_, _], _ => rfl)
    C_NotClosed := C_NotClosed
    ct_NotClosed := ct_NotClosed
    m_NotClosed := PySem.W.mg_of X G0 aC_NotClosed
    C_NotOnto := C_NotOnto
    ct_NotOnto := ct_NotOnto
    m_NotOnto := PySem.W.mg_of X G0 aC_NotOnto
    fI_NotOnto := fI_NotOnto
    xfd_NotOnto := _
    X_NotOnto := xfacts_of (G := G) ct_NotOnto xl_NotOnto xr_NotOnto xi_NotOnto xf_NotOnto xc_NotOnto xd_NotOnto xv_NotOnto xe_NotOnto xk_NotOnto xB_NotOnto xtop (PySem.W.mg_none_of X G0 xsup) xsh_NotOnto (by decide) (by decide) (by decide) (fun us hl => match us, hl with | [_, _], _ => rfl)
    C_NotWithin := C_NotWithin
    ct_NotWithin := ct_NotWithin
    m_NotWithin := PySem.W.mg_of X G0 aC_NotWithin
    C_NothingToUndo := C_NothingToUndo
    ct_NothingToUndo := ct_NothingToUndo
    m_NothingToUndo := PySem.W.mg_of X G0 aC_NothingToUndo
    C_OneSided := C_OneSided
    ct_OneSided := ct_OneSided
    m_OneSided := PySem.W.mg_of X G0 aC_OneSided
    fI_OneSided := fI_OneSided
    xfd_OneSided := _
    X_OneSided := xfacts_of (G := G) ct_OneSided xl_OneSided xr_OneSided xi_OneSided xf_OneSided xc_OneSided xd_OneSided xv_OneSided xe_OneSided xk_OneSided xB_OneSided xtop (PySem.W.mg_none_of X G0 xsup) xsh_OneSided (by decide) (by decide) (by decide) (fun us hl => match us, hl with | [_, _], _ => rfl)
    C_Still := C_Still
    ct_Still := ct_Still
    m_Still := PySem.W.mg_of X G0 aC_Still
    C_Taken := C_Taken
    ct_Taken := ct_Taken
    m_Taken := PySem.W.mg_of X G0 aC_Taken
    fI_Taken := fI_Taken
    xfd_Taken := _
    X_Taken := xfacts_of (G := G) ct_Taken xl_Taken xr_Taken xi_Taken xf_Taken xc_Taken xd_Taken xv_Taken xe_Taken xk_Taken xB_Taken xtop (PySem.W.mg_none_of X G0 xsup) xsh_Taken (by decide) (by decide) (by decide) (fun us hl => match us, hl with | [_, _], _ => rfl)
    C_TooFar := C_TooFar
    ct_TooFar := ct_TooFar
    m_TooFar := PySem.W.mg_of X G0 aC_TooFar
    fI_TooFar := fI_TooFar
    xfd_TooFar := _
    X_TooFar := xfacts_of (G := G) ct_TooFar xl_TooFar xr_TooFar xi_TooFar xf_TooFar xc_TooFar xd_TooFar xv_TooFar xe_TooFar xk_TooFar xB_TooFar xtop (PySem.W.mg_none_of X G0 xsup) xsh_TooFar (by decide) (by decide) (by decide) (fun us hl => match us, hl with | [_, _], _ => rfl)
    C_TooMany := C_TooMany
    ct_TooMany := ct_TooMany
    m_TooMany := PySem.W.mg_of X G0 aC_TooMany
    fI_TooMany := fI_TooMany
    xfd_TooMany := _
    X_TooMany := xfacts_of (G := G) ct_TooMany xl_TooMany xr_TooMany xi_TooMany xf_TooMany xc_TooMany xd_TooMany xv_TooMany xe_TooMany xk_TooMany xB_TooMany xtop (PySem.W.mg_none_of X G0 xsup) xsh_TooMany (by decide) (by decide) (by decide) (fun us hl => match us, hl with | [_, _], _ => rfl)
    C_Uneven := C_Uneven
    ct_Uneven := ct_Uneven
    m_Uneven := PySem.W.mg_of X G0 aC_Uneven
    C_WalkError := C_WalkError
    ct_WalkError := ct_WalkError
    m_WalkError := PySem.W.mg_of X G0 aC_WalkError
    fI_Uneven := fI_Uneven
    xfd_Uneven := _
    X_Uneven := xfacts2_of (G := G) ct_Uneven xl_Uneven xr_Uneven xi_Uneven xf_Uneven xc_Uneven xd_Uneven xv_Uneven xe_Uneven xk_Uneven xB_Uneven xC_Uneven xtop (PySem.W.mg_none_of X G0 xsup) xsh_Uneven (by decide) (by decide) (by decide) (by decide) (by decide) (by decide) (fun us hl => match us, hl with | [_, _, _], _ => rfl)
    lamE := rfl
    eio := ⟨⟨[("BadName", C_BadName), ("BadNumber", C_BadNumber), ("BadPlace", C_BadPlace), ("BadText", C_BadText), ("BadWord", C_BadWord), ("Barred", C_Barred), ("EndsDiffer", C_EndsDiffer), ("NoDirection", C_NoDirection), ("NoPromise", C_NoPromise), ("NoWalk", C_NoWalk), ("NotClosed", C_NotClosed), ("NotOnto", C_NotOnto), ("NotWithin", C_NotWithin), ("NothingToUndo", C_NothingToUndo), ("OneSided", C_OneSided), ("Still", C_Still), ("Taken", C_Taken), ("TooFar", C_TooFar), ("TooMany", C_TooMany), ("Uneven", C_Uneven), ("WalkError", C_WalkError)], rfl, eib, fun p hp => by
      simp only [List.mem_cons, List.not_mem_nil, or_false] at hp
      rcases hp with rfl | rfl | rfl | rfl | rfl | rfl | rfl | rfl | rfl | rfl | rfl | rfl | rfl | rfl | rfl | rfl | rfl | rfl | rfl | rfl | rfl
      · exact ct_BadName
      · exact ct_BadNumber
      · exact ct_BadPlace
      · exact ct_BadText
      · exact ct_BadWord
      · exact ct_Barred
      · exact ct_EndsDiffer
      · exact ct_NoDirection
      · exact ct_NoPromise
      · exact ct_NoWalk
      · exact ct_NotClosed
      · exact ct_NotOnto
      · exact ct_NotWithin
      · exact ct_NothingToUndo
      · exact ct_OneSided
      · exact ct_Still
      · exact ct_Taken
      · exact ct_TooFar
      · exact ct_TooMany
      · exact ct_Uneven
      · exact ct_WalkError⟩, rfl⟩
    kb_BadName_0_kw := kbn_kw fun us ws h1 h2 => match us, ws, h1, h2 with | [_], [_], _, _ => rfl
    kb_BadNumber_0_kw := kbn_kw fun us ws h1 h2 => match us, ws, h1, h2 with | [_], [_], _, _ => rfl
    kb_BadPlace_0_kw := kbn_kw fun us ws h1 h2 => match us, ws, h1, h2 with | [_], [_], _, _ => rfl
    kb_BadText_0_kw := kbn_kw fun us ws h1 h2 => match us, ws, h1, h2 with | [_], [_], _, _ => rfl
    kb_BadWord_0_kw := kbn_kw fun us ws h1 h2 => match us, ws, h1, h2 with | [_], [_], _, _ => rfl
    kb_Barred_0_kw := kbn_kw fun us ws h1 h2 => match us, ws, h1, h2 with | [_], [_], _, _ => rfl
    kb_EndsDiffer_0_kw := kbn_kw fun us ws h1 h2 => match us, ws, h1, h2 with | [_], [_], _, _ => rfl
    kb_NoPromise_0_kw := kbn_kw fun us ws h1 h2 => match us, ws, h1, h2 with | [_], [_], _, _ => rfl
    kb_NoWalk_0_kw := kbn_kw fun us ws h1 h2 => match us, ws, h1, h2 with | [_], [_], _, _ => rfl
    kb_NotOnto_0_kw := kbn_kw fun us ws h1 h2 => match us, ws, h1, h2 with | [_], [_], _, _ => rfl
    kb_OneSided_0_kw := kbn_kw fun us ws h1 h2 => match us, ws, h1, h2 with | [_], [_], _, _ => rfl
    kb_Taken_0_kw := kbn_kw fun us ws h1 h2 => match us, ws, h1, h2 with | [_], [_], _, _ => rfl
    kb_TooFar_0_kw := kbn_kw fun us ws h1 h2 => match us, ws, h1, h2 with | [_], [_], _, _ => rfl
    kb_TooMany_0_kw := kbn_kw fun us ws h1 h2 => match us, ws, h1, h2 with | [_], [_], _, _ => rfl
    kb_Uneven_0_rev := kbn_rev fun us ws h1 h2 => match us, ws, h1, h2 with | [_], [_, _], _, _ => rfl
    kb_Uneven_1_kw := kbn_kw fun us ws h1 h2 => match us, ws, h1, h2 with | [_, _], [_], _, _ => rfl
    x0_NoDirection := x0_NoDirection
    x0_NotClosed := x0_NotClosed
    x0_NotWithin := x0_NotWithin
    x0_NothingToUndo := x0_NothingToUndo
    x0_Still := x0_Still
    xm_BadName_WalkError := xm_BadName_WalkError
    xm_BadNumber_WalkError := xm_BadNumber_WalkError
    xm_BadPlace_WalkError := xm_BadPlace_WalkError
    xm_BadText_WalkError := xm_BadText_WalkError
    xm_BadWord_WalkError := xm_BadWord_WalkError
    xm_Barred_WalkError := xm_Barred_WalkError
    xm_EndsDiffer_WalkError := xm_EndsDiffer_WalkError
    xm_NoDirection_WalkError := xm_NoDirection_WalkError
    xm_NoPromise_WalkError := xm_NoPromise_WalkError
    xm_NoWalk_WalkError := xm_NoWalk_WalkError
    xm_NotClosed_WalkError := xm_NotClosed_WalkError
    xm_NotOnto_WalkError := xm_NotOnto_WalkError
    xm_NotWithin_WalkError := xm_NotWithin_WalkError
    xm_NothingToUndo_WalkError := xm_NothingToUndo_WalkError
    xm_OneSided_WalkError := xm_OneSided_WalkError
    xm_Still_WalkError := xm_Still_WalkError
    xm_Taken_WalkError := xm_Taken_WalkError
    xm_TooFar_WalkError := xm_TooFar_WalkError
    xm_TooMany_WalkError := xm_TooMany_WalkError
    xm_Uneven_WalkError := xm_Uneven_WalkError
    xm_WalkError_WalkError := xm_WalkError_WalkError
    a__law_alone := a__law_alone
    fd__law_alone := _
    F__law_alone := F__law_alone
    b__law_alone := F__law_alone.binds (ps := ["_law_mine"]) fun _ _ _ _ _ _ us hl => match us, hl with | [_], _ => rfl
    m__law_alone := PySem.W.mg_of X G0 a1__law_alone
    a__law_kinds := a__law_kinds
    fd__law_kinds := _
    F__law_kinds := F__law_kinds
    b__law_kinds := F__law_kinds.binds (ps := ["_law_error"]) fun _ _ _ _ _ _ us hl => match us, hl with | [_], _ => rfl
    m__law_kinds := PySem.W.mg_of X G0 a1__law_kinds
    a__law_apart := a__law_apart
    fd__law_apart := _
    F__law_apart := F__law_apart
    b__law_apart := F__law_apart.binds (ps := ["_law_mine", "_law_yours"]) fun _ _ _ _ _ _ us hl => match us, hl with | [_, _], _ => rfl
    m__law_apart := PySem.W.mg_of X G0 a1__law_apart
    a__law_raise := a__law_raise
    fd__law_raise := _
    F__law_raise := F__law_raise
    b__law_raise := F__law_raise.binds (ps := ["_law_which", "_law_mine"]) fun _ _ _ _ _ _ us hl => match us, hl with | [_, _], _ => rfl
    m__law_raise := PySem.W.mg_of X G0 a1__law_raise
    a__law_caught := a__law_caught
    fd__law_caught := _
    F__law_caught := F__law_caught
    b__law_caught := F__law_caught.binds (ps := ["_law_which", "_law_mine"]) fun _ _ _ _ _ _ us hl => match us, hl with | [_, _], _ => rfl
    m__law_caught := PySem.W.mg_of X G0 a1__law_caught
    a__law_more := a__law_more
    fd__law_more := _
    F__law_more := F__law_more
    b__law_more := F__law_more.binds (ps := ["_law_mine", "_law_yours"]) fun _ _ _ _ _ _ us hl => match us, hl with | [_, _], _ => rfl
    m__law_more := PySem.W.mg_of X G0 a1__law_more
    a__law_pen := a__law_pen
    fd__law_pen := _
    F__law_pen := F__law_pen
    b__law_pen := F__law_pen.binds (ps := ["_law_script"]) fun _ _ _ _ _ _ us hl => match us, hl with | [_], _ => rfl
    m__law_pen := PySem.W.mg_of X G0 a1__law_pen
    a__law_draw := a__law_draw
    fd__law_draw := _
    F__law_draw := F__law_draw
    b__law_draw := F__law_draw.binds (ps := ["_law_pen_here", "_law_many"]) fun _ _ _ _ _ _ us hl => match us, hl with | [_, _], _ => rfl
    m__law_draw := PySem.W.mg_of X G0 a1__law_draw
    a__law_pick := a__law_pick
    fd__law_pick := _
    F__law_pick := F__law_pick
    b__law_pick := F__law_pick.binds (ps := ["_law_pen_here", "_law_items"]) fun _ _ _ _ _ _ us hl => match us, hl with | [_, _], _ => rfl
    m__law_pick := PySem.W.mg_of X G0 a1__law_pick
    a_law := fa
    fd_law := _
    F_law := F_law
    b_law := F_law.binds (ps := ["_law_script"]) fun _ _ _ _ _ _ us hl => match us, hl with | [_], _ => rfl
    m_law := PySem.W.mg_of X G0 a1_law
    z_ValueError := PySem.W.mg_none_of X G0 z1_ValueError
    z_all := PySem.W.mg_none_of X G0 z1_all
    z_bool := PySem.W.mg_none_of X G0 z1_bool
    z_int := PySem.W.mg_none_of X G0 z1_int
    z_isinstance := PySem.W.mg_none_of X G0 z1_isinstance
    z_len := PySem.W.mg_none_of X G0 z1_len
    z_list := PySem.W.mg_none_of X G0 z1_list
    z_min := PySem.W.mg_none_of X G0 z1_min
    z_range := PySem.W.mg_none_of X G0 z1_range
    z_sum := PySem.W.mg_none_of X G0 z1_sum
    iso := isOk_of (fun c hc => absurd hc (by simp)) fun c hc => absurd hc (by simp)
    tabs := rfl }, rfl, rfl⟩
  exact lawAt_of (G := G) (g := g_law) (fd := (PySem.W.fnOf "law" "law" (defArgs st_law) (defBody st_law) (defScope st_law) .none kV_law dc_law pm_law an_law cd_law ct_law)) [] (fun m hm => by simp at hm) (fun m hm => by simp at hm) (List.nodup_nil) (fun s v => .of_eq rfl) (fun base tb => by
    obtain ⟨e, e1, e2⟩ := mkE base tb
    have o := ok_law (w0 := w) e
    rw [e1, e2] at o
    exact o) (fun m hm => by simp at hm) hl
end
end W_k00
set_option maxRecDepth 100000
set_option maxHeartbeats 4000000
namespace W_k00
open DL
instance : Bd (2 : Int) 2 := ⟨by decide⟩
instance : Bd (3 : Int) 2 := ⟨by decide⟩
instance : Bd (4 : Int) 3 := ⟨by decide⟩
instance : Bd (5 : Int) 3 := ⟨by decide⟩
instance : Bd (9 : Int) 4 := ⟨by decide⟩
instance : Bd (10 : Int) 4 := ⟨by decide⟩
instance : Bd (16 : Int) 5 := ⟨by decide⟩
instance : Bd (18 : Int) 5 := ⟨by decide⟩
instance : Bd (19 : Int) 5 := ⟨by decide⟩
instance : Bd (20 : Int) 5 := ⟨by decide⟩
instance : Bd (37 : Int) 6 := ⟨by decide⟩
instance : Bd (41 : Int) 6 := ⟨by decide⟩
instance : Bd (63 : Int) 6 := ⟨by decide⟩
instance : Bd (73 : Int) 7 := ⟨by decide⟩
instance : Bd (103 : Int) 7 := ⟨by decide⟩
instance : Bd (40177 : Int) 16 := ⟨by decide⟩
instance : Bd (52489 : Int) 16 := ⟨by decide⟩
instance : Bd (70019 : Int) 17 := ⟨by decide⟩
instance : Bd (1000000000 : Int) 30 := ⟨by decide⟩
instance : Bd (2147483269 : Int) 31 := ⟨by decide⟩
instance : Bd (2147483323 : Int) 31 := ⟨by decide⟩
instance : Bd (2147483353 : Int) 31 := ⟨by decide⟩
instance : Bd (2147483399 : Int) 31 := ⟨by decide⟩
instance : Bd (1000000000000000000 : Int) 60 := ⟨by decide⟩
abbrev penD (cs : List Int) (c l : Int) : List (DK × D) := [(.s [99, 101, 108, 108, 115], .lst (cs.map D.int)), (.s [115, 116, 111, 112], .int c), (.s [114, 101, 115, 116], .int l)]
def Pen (n : Nat) (S : List Cell) : Prop := ∃ cs c l, S = [.dic (penD cs c l)] ∧ 0 ≤ c ∧ c ≤ n ∧ 0 ≤ l
theorem Pen.mono {n m : Nat} {S : List Cell} (h : Pen n S) (hm : n ≤ m) : Pen m S := by
  obtain ⟨cs, c, l, h1, h2, h3, h4⟩ := h
  exact ⟨cs, c, l, h1, h2, by omega, h4⟩
theorem draw_ok {n : Nat} {S : List Cell} {p : Int} (hS : Pen n S) (hn : n < 2 ^ 20) (hp : 0 < p) (hp2 : p < 2 ^ 60) : ∃ d S', g__law_draw [.cell 0, .int p] S = .ok (.int d) S' ∧ 0 ≤ d ∧ d < p ∧ Pen (n + 1) S' := by
  obtain ⟨cs, c, l, rfl, c0, c1, l0⟩ := hS
  have bp : Bd p 60 := ⟨by omega⟩
  have bc : Bd c 20 := ⟨by omega⟩
  have dp : divOk p = true := divOk_of bp (by omega) (by omega)
  have hp' : p ≠ 0 := by omega
  have m1 := fun x : Int => Int.fmod_nonneg_of_pos x hp
  have m2 := fun x : Int => Int.fmod_lt_of_pos x hp
  have ndk : ∀ (a b c : D), keysNd [(.s [99, 101, 108, 108, 115], a), (.s [115, 116, 111, 112], b), (.s [114, 101, 115, 116], c)] = true := fun a b c => rfl
  have mc (x : Int) : mulOk (x.fmod 2147483269) 40177 = true := by
    have : Bd (x.fmod 2147483269) 31 := .of_range (m := 2147483269) (Int.fmod_nonneg_of_pos _ (by decide)) (Int.fmod_lt_of_pos _ (by decide)) (by decide)
    exact mulOk_bd (by decide)
  have mb (x : Int) : mulOk (x.fmod 2147483323) (x.fmod 2147483323 + 70019) = true := by
    have : Bd (x.fmod 2147483323) 31 := .of_range (m := 2147483323) (Int.fmod_nonneg_of_pos _ (by decide)) (Int.fmod_lt_of_pos _ (by decide)) (by decide)
    exact mulOk_bd (by decide)
  have me (x : Int) : mulOk (x.fmod 2147483353) (x.fmod 2147483353) = true := by
    have : Bd (x.fmod 2147483353) 31 := .of_range (m := 2147483353) (Int.fmod_nonneg_of_pos _ (by decide)) (Int.fmod_lt_of_pos _ (by decide)) (by decide)
    exact mulOk_bd (by decide)
  have mf (x : Int) : mulOk 19 (x.fmod 2147483353) = true := by
    have : Bd (x.fmod 2147483353) 31 := .of_range (m := 2147483353) (Int.fmod_nonneg_of_pos _ (by decide)) (Int.fmod_lt_of_pos _ (by decide)) (by decide)
    exact mulOk_bd (by decide)
  have q0 : mulOk 73 c = true := mulOk_bd (by decide)
  have q1 : mulOk 52489 c = true := mulOk_bd (by decide)
  have q2 : mulOk 103 c = true := mulOk_bd (by decide)
  have qs : mulOk (52489 * c) c = true := mulOk_bd (by decide)
  have qd : divOk 16 = true := by decide
  by_cases a1 : p ≤ l
  · simp [g__law_draw, b__law_draw, fnD, dLook, dPut, dp, hp', ndk, a1]
    exact ⟨_, _, ⟨rfl, rfl⟩, m1 _, m2 _, cs, c, _, rfl, c0, by omega, Int.fdiv_nonneg l0 (by omega)⟩
  · by_cases a2 : cs = []
    · subst a2
      have a3 : ¬ c < 0 := by omega
      simp [g__law_draw, b__law_draw, fnD, dLook, dPut, dp, hp', ndk, a1, q0, q1, q2, qs, qd, mc, mb, me, mf, a3]
      exact ⟨_, _, ⟨rfl, rfl⟩, m1 _, m2 _, [], c + 1, l, rfl, by omega, by omega, l0⟩
    · obtain ⟨x, hx⟩ := ix_mod cs c a2
      by_cases a3 : c < cs.length ∧ 1000000000000000000 ≤ x
      · simp [g__law_draw, b__law_draw, fnD, dLook, dPut, dp, hp', ndk, a1, q0, q1, q2, qs, qd, mc, mb, me, mf, a2, hx, a3]
        exact ⟨_, _, ⟨rfl, rfl⟩, m1 _, m2 _, cs, c + 1, _, rfl, by omega, by omega, Int.fdiv_nonneg (by omega) (by omega)⟩
      · by_cases a4 : c < cs.length
        · have a5 : ¬ 1000000000000000000 ≤ x := fun h => a3 ⟨a4, h⟩
          simp [g__law_draw, b__law_draw, fnD, dLook, dPut, dp, hp', ndk, a1, q0, q1, q2, qs, qd, mc, mb, me, mf, a2, hx, a4, a5]
          exact ⟨_, _, ⟨rfl, rfl⟩, m1 _, m2 _, cs, c + 1, l, rfl, by omega, by omega, l0⟩
        · simp [g__law_draw, b__law_draw, fnD, dLook, dPut, dp, hp', ndk, a1, q0, q1, q2, qs, qd, mc, mb, me, mf, a2, hx, a4]
          exact ⟨_, _, ⟨rfl, rfl⟩, m1 _, m2 _, cs, c + 1, l, rfl, by omega, by omega, l0⟩
theorem begin_ok (ns : List Int) : ∃ S, g__law_pen [.scr (ns.map D.int)] [] = .ok (.cell 0) S ∧ Pen 0 S := by
  have e : cutD (ns.map D.int) none (some 63) = (cutD ns none (some 63)).map D.int := by
    simp [cutD, List.map_drop, List.map_take]
  have k : ∀ a b c : D, keysNd [(.s [99, 101, 108, 108, 115], a), (.s [115, 116, 111, 112], b), (.s [114, 101, 115, 116], c)] = true := fun a b c => rfl
  simp [g__law_pen, b__law_pen, fnD, e, k]
  exact ⟨_, 0, 0, rfl, by decide, by decide, by decide⟩
theorem pick_ok {n : Nat} {S : List Cell} {xs : List D} (hS : Pen n S) (hn : n < 2 ^ 20) (h0 : xs ≠ []) (h1 : xs.length < 1000) : ∃ d S', g__law_pick [.cell 0, .lst xs] S = .ok d S' ∧ d ∈ xs ∧ Pen (n + 1) S' := by
  have hl : (0 : Int) < xs.length := by
    cases xs with
    | nil => exact absurd rfl h0
    | cons a r => simp
  obtain ⟨d, S', e, d0, d1, hP⟩ := draw_ok hS hn hl (by omega)
  obtain ⟨k, rfl⟩ := Int.eq_ofNat_of_zero_le d0
  have hk : k < xs.length := by omega
  have : L2.atI xs (k : Int) = some xs[k] := L2.atI_nat (by simp [hk])
  refine ⟨xs[k], S', ?_, List.getElem_mem _, hP⟩
  simp [g__law_pick, b__law_pick, fnD, e, this]
end W_k00
set_option maxRecDepth 100000
set_option maxHeartbeats 4000000
namespace W_k00
open DL
@[simp] theorem r_eErr (c : String) (n m : Nat) (fa fz : DA) (s : DS) : eErr c n m fa fz s = (fa s).bind fun ds s1 => (fz s1).bind fun zs s2 => if ds.length = n ∧ zs.length = m then .ok (.lam c) s2 else .stuck := rfl
@[simp] theorem r_eErrF (n m i : Nat) (fa fz : DA) (s : DS) : eErrF n m i fa fz s = (fa s).bind fun ds s1 => (fz s1).bind fun zs s2 => if ds.length = n ∧ zs.length = m then (match (ds ++ zs)[i]? with | some d => .ok d s2 | none => .stuck) else .stuck := rfl
def NS : List String := ["BadNumber", "BadPlace", "BadWord", "TooMany", "TooFar", "NotWithin", "OneSided", "Still", "NoDirection", "Uneven", "EndsDiffer", "NotOnto", "NotClosed", "BadText", "NoWalk", "BadName", "Taken", "NoPromise", "Barred", "NothingToUndo"]
theorem ns_err {c : String} (h : c ∈ NS) : c ∈ errNs := by
  simp only [NS, List.mem_cons, List.not_mem_nil, or_false] at h
  rcases h with rfl | rfl | rfl | rfl | rfl | rfl | rfl | rfl | rfl | rfl | rfl | rfl | rfl | rfl | rfl | rfl | rfl | rfl | rfl | rfl <;> decide
theorem isE_e {c t : String} (hc : c ∈ NS) (ht : t ∈ NS) : bIsE errNs [.lam c, .cls t] = some (.bl (c == t)) := by
  have h1 := ns_err hc
  have h2 := ns_err ht
  have h3 : (t == "WalkError") = false := by
    simp only [NS, List.mem_cons, List.not_mem_nil, or_false] at ht
    rcases ht with rfl | rfl | rfl | rfl | rfl | rfl | rfl | rfl | rfl | rfl | rfl | rfl | rfl | rfl | rfl | rfl | rfl | rfl | rfl | rfl <;> decide
  simp only [bIsE, h1, h2, h3, and_self, if_true, Bool.or_false]
theorem alone_ok (m : D) (S : List Cell) : g__law_alone [m] S = .ok (.lst (List.replicate 14 (.tup [m, m]))) S := by
  simp [g__law_alone, b__law_alone, fnD, List.replicate]
theorem more_ok (m y : D) (S : List Cell) : g__law_more [m, y] S = .ok (.lst [.tup [m, m], .tup [y, y], .tup [m, m], .tup [y, y]]) S := by
  simp [g__law_more, b__law_more, fnD, dAdd, sAdd, lAdd]
theorem fn_1 {b : DStm} {n m : Nat} {ds : List D} {S : List Cell} {d : D} {s : DS} (hl : ds.length = n) (e : b ⟨ds.map Sl.val ++ List.replicate m .un, S⟩ = .ok (.rt d) s) : fnD n b m ds S = .ok d s.st := by
  unfold fnD
  rw [if_pos hl, e]
abbrev sK (c : String) (x : Sl) (S : List Cell) : DS := ⟨[.val (.lam c), x, .un], S⟩
section
variable {c : String} {S : List Cell}
theorem is_e (hc : c ∈ NS) {t : String} (ht : t ∈ NS) (x : Sl) : eCB (bIsE errNs) (aCons (eVar 0) (aCons (eC (.cls t)) (aNil))) (sK c x S) = .ok (.bl (c == t)) (sK c x S) := by
  simp [isE_e hc ht]
theorem is3_e (hc : c ∈ NS) {t t2 t3 : String} (h1 : t ∈ NS) (h2 : t2 ∈ NS) (h3 : t3 ∈ NS) (x : Sl) : eFrz (aMax (aCons (eCB (bIsE errNs) (aCons (eVar 0) (aCons (eC (.cls t)) (aNil)))) (aCons (eCB (bIsE errNs) (aCons (eVar 0) (aCons (eC (.cls t2)) (aNil)))) (aCons (eCB (bIsE errNs) (aCons (eVar 0) (aCons (eC (.cls t3)) (aNil)))) (aNil))))) (sK c x S) = .ok (.lst ([t, t2, t3].map fun t => .bl (c == t))) (sK c x S) := by
  rw [r_eFrz, r_aMax, r_aCons, is_e hc h1, Res.bind_ok, r_aCons, is_e hc h2, Res.bind_ok, r_aCons, is_e hc h3]
  rfl
theorem is2_e (hc : c ∈ NS) {t t2 : String} (h1 : t ∈ NS) (h2 : t2 ∈ NS) (x : Sl) : eFrz (aMax (aCons (eCB (bIsE errNs) (aCons (eVar 0) (aCons (eC (.cls t)) (aNil)))) (aCons (eCB (bIsE errNs) (aCons (eVar 0) (aCons (eC (.cls t2)) (aNil)))) (aNil)))) (sK c x S) = .ok (.lst ([t, t2].map fun t => .bl (c == t))) (sK c x S) := by
  rw [r_eFrz, r_aMax, r_aCons, is_e hc h1, Res.bind_ok, r_aCons, is_e hc h2]
  rfl
theorem cat_e {f : DE} {l m : List String} (hl : l.length + m.length ≤ 1000) (h : ∀ x, f (sK c x S) = .ok (.lst (m.map fun t => .bl (c == t))) (sK c x S)) :
    sSet 1 (eOp2 dAdd (eVar 1) f) (sK c (.val (.lst (l.map fun t => .bl (c == t)))) S) = .ok .nx (sK c (.val (.lst ((l ++ m).map fun t => .bl (c == t)))) S) := by
  refine set_e (op_2 (x := .lst (l.map fun t => .bl (c == t))) rfl (h _) ?_)
  show (if _ then _ else _) = _
  rw [if_pos (by rw [List.length_map, List.length_map]; omega), List.map_append]
def rowI (c : String) : List Int := NS.map fun t => if (c == t) = true then 1 else 0
def row (c : String) : List D := (rowI c).map D.int
theorem kinds_ok (hc : c ∈ NS) : g__law_kinds [.lam c] S = .ok (.lst (row c)) S := by
  have e : b__law_kinds (sK c .un S) = .ok (.rt (.lst (row c))) (sK c (.val (.lst (NS.map fun t => .bl (c == t)))) S) := by
    unfold b__law_kinds
    refine (sq_nx (set_e (is3_e hc (by decide) (by decide) (by decide) .un))).trans ?_
    refine (sq_nx (cat_e (l := ["BadNumber", "BadPlace", "BadWord"]) (by decide) fun x => is3_e hc (by decide) (by decide) (by decide) x)).trans ?_
    refine (sq_nx (cat_e (l := ["BadNumber", "BadPlace", "BadWord", "TooMany", "TooFar", "NotWithin"]) (by decide) fun x => is3_e hc (by decide) (by decide) (by decide) x)).trans ?_
    refine (sq_nx (cat_e (l := ["BadNumber", "BadPlace", "BadWord", "TooMany", "TooFar", "NotWithin", "OneSided", "Still", "NoDirection"]) (by decide) fun x => is3_e hc (by decide) (by decide) (by decide) x)).trans ?_
    refine (sq_nx (cat_e (l := ["BadNumber", "BadPlace", "BadWord", "TooMany", "TooFar", "NotWithin", "OneSided", "Still", "NoDirection", "Uneven", "EndsDiffer", "NotOnto"]) (by decide) fun x => is3_e hc (by decide) (by decide) (by decide) x)).trans ?_
    refine (sq_nx (cat_e (l := ["BadNumber", "BadPlace", "BadWord", "TooMany", "TooFar", "NotWithin", "OneSided", "Still", "NoDirection", "Uneven", "EndsDiffer", "NotOnto", "NotClosed", "BadText", "NoWalk"]) (by decide) fun x => is3_e hc (by decide) (by decide) (by decide) x)).trans ?_
    refine (sq_nx (cat_e (l := ["BadNumber", "BadPlace", "BadWord", "TooMany", "TooFar", "NotWithin", "OneSided", "Still", "NoDirection", "Uneven", "EndsDiffer", "NotOnto", "NotClosed", "BadText", "NoWalk", "BadName", "Taken", "NoPromise"]) (by decide) fun x => is2_e hc (by decide) (by decide) x)).trans ?_
    have f := aLc_M1 (s := sK c (.val (.lst (NS.map fun t => .bl (c == t)))) S) (it := itSeq (eVar 1)) (e := e__law_kinds_0) (v := 2) (l := NS) (fun t => D.bl (c == t)) (fun t => .int (if (c == t) = true then 1 else 0)) rfl rfl (fun t _ => by cases h : (c == t) <;> simp [h, e__law_kinds_0]) (by decide)
    refine ret_e (frz_e (f.trans ?_))
    unfold row rowI
    rw [List.map_map]
    rfl
  exact fn_1 (n := 1) (b := b__law_kinds) (ds := [.lam c]) (S := S) (m := 2) rfl e
theorem rows_k : ∀ k, k < 20 → ∃ c, NS[k]? = some c ∧ c ∈ NS ∧ rowI c = List.replicate k 0 ++ [1] ++ List.replicate (19 - k) 0 := by
  intro k hk
  have h : ∀ k, k < 20 → (NS.getD k "") ∈ NS ∧ NS[k]? = some (NS.getD k "") ∧ rowI (NS.getD k "") = List.replicate k 0 ++ [1] ++ List.replicate (19 - k) 0 := by decide
  exact ⟨_, (h k hk).2.1, (h k hk).1, (h k hk).2.2⟩
abbrev sA (m y : D) (x k : Sl) (S : List Cell) : DS := ⟨[.val m, .val y, x, k], S⟩
theorem zeros_e {k : Int} (h0 : 0 ≤ k) (h1 : k < 20) : dMul (.lst [.int 0]) (.int k) = some (.lst ((List.replicate k.toNat (0 : Int)).map D.int)) := by
  show (if -(2 ^ 63) ≤ k ∧ k < 2 ^ 63 ∧ [D.int 0].length * k.toNat ≤ 1000000 then some (D.lst (List.replicate k.toNat [D.int 0]).flatten) else none) = _
  rw [if_pos ⟨by omega, by omega, by simp; omega⟩]
  simp
theorem add_e (a b : List Int) (h : a.length + b.length ≤ 1000) : dAdd (.lst (a.map D.int)) (.lst (b.map D.int)) = some (.lst ((a ++ b).map D.int)) := by
  show (if (a.map D.int).length + (b.map D.int).length ≤ 1000000 then some (D.lst (a.map D.int ++ b.map D.int)) else none) = _
  rw [if_pos (by simp; omega), List.map_append]
theorem apart_el {m y : D} {S : List Cell} {k : Nat} (hk : k < 20) : e__law_apart_0 (sA m y (.ol (NS.map D.lam)) (.val (kD k)) S) = .ok (.bl true) (sA m y (.ol (NS.map D.lam)) (.val (kD k)) S) := by
  obtain ⟨c, h1, h2, h3⟩ := rows_k k hk
  generalize hs : sA m y (.ol (NS.map D.lam)) (.val (kD k)) S = s
  have v3 : eVar 3 s = .ok (.int (k : Int)) s := by subst hs; rfl
  have a1 : eIxO 2 (eVar 3) s = .ok (.lam c) s := by
    subst hs
    show (match L2.atI (NS.map D.lam) (k : Int) with | some d => Res.ok d _ | none => .stuck) = _
    rw [at_map D.lam h1]
  have hst : g__law_kinds [.lam c] s.st = .ok (.lst (row c)) s.st := kinds_ok h2
  have a2 : eCall 1 g__law_kinds (aCons (eIxO 2 (eVar 3)) aNil) s = .ok (.lst (row c)) s := call_c1 a1 hst
  have z0 : eFrz (aMax (aCons (eC (.int 0)) (aNil))) s = .ok (.lst [.int 0]) s := by simp
  have z1 : eFrz (aMax (aCons (eC (.int 1)) (aNil))) s = .ok (.lst ([(1 : Int)].map D.int)) s := by simp
  have b1 := op_2 (o := dMul) z0 v3 (zeros_e (k := k) (by omega) (by omega))
  have b2 := op_2 (o := dAdd) b1 z1 (add_e _ _ (by simp; omega))
  have s1 : eOp2 iSub (eC (.int 19)) (eVar 3) s = .ok (.int (19 - k)) s := op_2 rfl v3 rfl
  have b3 := op_2 (o := dMul) z0 s1 (zeros_e (k := 19 - k) (by omega) (by omega))
  have b4 := op_2 (o := dAdd) b2 b3 (add_e _ _ (by simp; omega))
  refine op_2 a2 b4 ?_
  have e : rowI c = List.replicate ((k : Int).toNat) 0 ++ [1] ++ List.replicate ((19 - (k : Int)).toNat) 0 := by
    rw [h3, show ((19 : Int) - k).toNat = 19 - k by omega]
    rfl
  rw [← e]
  show dEq (.lst ((rowI c).map D.int)) (.lst ((rowI c).map D.int)) = _
  rw [dEq_ll _ _ (plFs_ints _) (plFs_ints _), eqPls_refl _ (plFs_ints _).1]
theorem apart_ok (m y : D) (S : List Cell) : g__law_apart [m, y] S = .ok (.bl true) S := by
  have e : b__law_apart (sA m y .un .un S) = .ok (.rt (.bl true)) (sA m y (.ol (NS.map D.lam)) .un S) := by
    unfold b__law_apart
    refine (sq_nx (s1 := sA m y (.ol ((NS.take 7).map D.lam)) .un S) (by simp [NS])).trans ?_
    refine (sq_nx (s1 := sA m y (.ol ((NS.take 13).map D.lam)) .un S) (by simp [NS, aCat])).trans ?_
    refine (sq_nx (s1 := sA m y (.ol ((NS.take 19).map D.lam)) .un S) (by simp [NS, aCat])).trans ?_
    refine (sq_nx (s1 := sA m y (.ol (NS.map D.lam)) .un S) (by simp [NS])).trans ?_
    have i : itR1 (aCons (eC (.int 20)) (aNil)) (sA m y (.ol (NS.map D.lam)) .un S) = .ok ((List.range 20).map kD) (sA m y (.ol (NS.map D.lam)) .un S) := itR1_n (n := 20) rfl (by decide)
    have f := aLc_M1 (v := 3) (e := e__law_apart_0) kD (fun _ => D.bl true) i rfl (fun k hk => apart_el (by simpa using hk)) (by simp)
    refine ret_e (cb_1 (frz_e f) ?_)
    rw [bAll_map (fun _ : Nat => true)]
    simp
  exact fn_1 (n := 2) (b := b__law_apart) (ds := [m, y]) (S := S) (m := 2) rfl e
theorem caught_ok {k : Nat} (hk : k < 5) (m : D) (S : List Cell) : g__law_caught [kD k, m] S = .ok (.bl true) S := by
  match k, hk with
  | 0, _ => simp [g__law_caught, b__law_caught, g__law_raise, b__law_raise, fnD, kD, sRaise, sRaise2]
  | 1, _ => simp [g__law_caught, b__law_caught, g__law_raise, b__law_raise, fnD, kD, sRaise, sRaise2]
  | 2, _ => simp [g__law_caught, b__law_caught, g__law_raise, b__law_raise, fnD, kD, sRaise, sRaise2]
  | 3, _ => simp [g__law_caught, b__law_caught, g__law_raise, b__law_raise, fnD, kD, sRaise, sRaise2]
  | 4, _ => simp [g__law_caught, b__law_caught, g__law_raise, b__law_raise, fnD, kD, sRaise, sRaise2]
end
end W_k00
set_option maxRecDepth 100000
set_option maxHeartbeats 4000000
namespace W_k00
open DL
def vals : List D := [.non, .bl true, .int 0, .int (-3), .str [], .str [120, 32, 121], .tup [.int 1, .int 2], .lst [.str [120]], .dic [], .int 1000000000, .str [97], .tup [.tup [.int 0, .int 1], .int 2]]
def good (v : D) : Prop := dNeV v v = some (.bl false) ∧ ∃ b, bIsi [] [v, .ty "bool"] = some (.bl b)
theorem good_pl {v : D} (h : plOk v) : dNeV v v = some (.bl false) := by
  unfold dNeV
  rw [dNe_pl v v h h, eqPl_refl v h.1]
  rfl
theorem vals_good : ∀ v ∈ vals, good v := by
  intro v hv
  simp only [vals, List.mem_cons, List.not_mem_nil, or_false] at hv
  rcases hv with rfl | rfl | rfl | rfl | rfl | rfl | rfl | rfl | rfl | rfl | rfl | rfl
  · exact ⟨good_pl pl_non, _, rfl⟩
  · exact ⟨good_pl (pl_bl _), _, rfl⟩
  · exact ⟨good_pl (pl_int _), _, rfl⟩
  · exact ⟨good_pl (pl_int _), _, rfl⟩
  · exact ⟨good_pl (pl_str _ rfl), _, rfl⟩
  · exact ⟨good_pl (pl_str _ rfl), _, rfl⟩
  · exact ⟨good_pl (pl_tup _ (by simp)), _, rfl⟩
  · exact ⟨good_pl (pl_lst _ (by simp)), _, rfl⟩
  · exact ⟨rfl, _, rfl⟩
  · exact ⟨good_pl (pl_int _), _, rfl⟩
  · exact ⟨good_pl (pl_str _ rfl), _, rfl⟩
  · exact ⟨good_pl ⟨by simp [plD, plDs], by simp [dpD, dpDs]⟩, _, rfl⟩
abbrev sL (scr : D) (x3 x4 x5 x6 x7 x8 x9 x10 x11 : Sl) (S : List Cell) : DS := ⟨[.val scr, .val (.cell 0), .val (.lst vals), x3, x4, x5, x6, x7, x8, x9, x10, x11, .un, .un], S⟩
section
variable {scr m y : D} {x3 x4 x5 x6 x7 x8 x9 x10 x11 : Sl} {S : List Cell}
theorem w0_ok (hm : good m) : w_law_0 (sL scr x3 (.val m) x5 (.val m) (.val m) x8 x9 x10 x11 S) = .ok .nx (sL scr x3 (.val m) x5 (.val m) (.val m) x8 x9 x10 x11 S) := by
  obtain ⟨h1, b, h2⟩ := hm
  have h3 : dNe (.bl b) (.bl b) = some (.bl false) := by cases b <;> rfl
  simp [w_law_0, h1, h2, h3]
theorem w1_ok (hm : good m) : w_law_1 (sL scr x3 x4 x5 (.val m) x7 (.val m) x9 x10 x11 S) = .ok .nx (sL scr x3 x4 x5 (.val m) x7 (.val m) x9 x10 x11 S) := by
  obtain ⟨h1, b, h2⟩ := hm
  have h3 : dNe (.bl b) (.bl b) = some (.bl false) := by cases b <;> rfl
  simp [w_law_1, h1, h2, h3]
theorem loop0 (hm : good m) : ∃ y6 y7, sFor (itSeq (eCall 1 g__law_alone (aCons (eVar 4) (aNil)))) (gT 2 (gsCons (gN 6) (gsCons (gN 7) (gsNil)))) (w_law_0) (sL scr x3 (.val m) x5 x6 x7 x8 x9 x10 x11 S) = .ok .nx (sL scr x3 (.val m) x5 y6 y7 x8 x9 x10 x11 S) := by
  obtain ⟨s', e, y6, y7, hs⟩ := for_inv (g := gT 2 (gsCons (gN 6) (gsCons (gN 7) gsNil))) (b := w_law_0) (items := List.replicate 14 (.tup [m, m])) (s := sL scr x3 (.val m) x5 x6 x7 x8 x9 x10 x11 S)
    (fun i s => ∃ y6 y7, s = sL scr x3 (.val m) x5 y6 y7 x8 x9 x10 x11 S) ⟨x6, x7, rfl⟩ (fun i x s hi hp => by
      obtain ⟨y6, y7, rfl⟩ := hp
      obtain rfl : x = .tup [m, m] := List.eq_of_mem_replicate (List.mem_of_getElem? hi)
      exact ⟨_, _, rfl, .inl (w0_ok hm), _, _, rfl⟩)
  subst hs
  exact ⟨y6, y7, for_seq (call_c1 (x := m) rfl (alone_ok m S)) rfl e⟩
theorem loop1 (hm : good m) (hy : good y) : ∃ y6 y8, sFor (itSeq (eCall 2 g__law_more (aCons (eVar 4) (aCons (eVar 5) (aNil))))) (gT 2 (gsCons (gN 6) (gsCons (gN 8) (gsNil)))) (w_law_1) (sL scr x3 (.val m) (.val y) x6 x7 x8 x9 x10 x11 S) = .ok .nx (sL scr x3 (.val m) (.val y) y6 x7 y8 x9 x10 x11 S) := by
  obtain ⟨s', e, y6, y8, hs⟩ := for_inv (g := gT 2 (gsCons (gN 6) (gsCons (gN 8) gsNil))) (b := w_law_1) (items := [.tup [m, m], .tup [y, y], .tup [m, m], .tup [y, y]]) (s := sL scr x3 (.val m) (.val y) x6 x7 x8 x9 x10 x11 S)
    (fun i s => ∃ y6 y8, s = sL scr x3 (.val m) (.val y) y6 x7 y8 x9 x10 x11 S) ⟨x6, x8, rfl⟩ (fun i x s hi hp => by
      obtain ⟨y6, y8, rfl⟩ := hp
      have hx := List.mem_of_getElem? hi
      simp only [List.mem_cons, List.not_mem_nil, or_false] at hx
      rcases hx with rfl | rfl | rfl | rfl
      · exact ⟨_, _, rfl, .inl (w1_ok hm), _, _, rfl⟩
      · exact ⟨_, _, rfl, .inl (w1_ok hy), _, _, rfl⟩
      · exact ⟨_, _, rfl, .inl (w1_ok hm), _, _, rfl⟩
      · exact ⟨_, _, rfl, .inl (w1_ok hy), _, _, rfl⟩)
  subst hs
  exact ⟨y6, y8, for_seq (call_c2 (x := m) (y := y) rfl rfl (more_ok m y S)) rfl e⟩
def lots : List String := ["Still", "NotWithin", "NoDirection", "NotClosed", "NothingToUndo", "BadNumber", "Uneven"]
theorem lots_ns : ∀ c ∈ lots, c ∈ NS := by decide
theorem isW_e {c : String} (hc : c ∈ NS) : bIsE errNs [.lam c, .cls "WalkError"] = some (.bl true) := by
  have h1 := ns_err hc
  have h2 : "WalkError" ∈ errNs := by decide
  simp only [bIsE, h1, h2, and_self, if_true]
  simp
theorem isVE_e {c : String} (hc : c ∈ NS) : bIsE errNs [.lam c, .ty "ValueError"] = some (.bl true) := by
  have h1 := ns_err hc
  simp only [bIsE, h1, and_self, if_true]
theorem w2_ok {c : String} (hc : c ∈ NS) : w_law_2 (sL scr x3 x4 x5 x6 x7 x8 x9 (.val (.lam c)) x11 S) = .ok .nx (sL scr x3 x4 x5 x6 x7 x8 x9 (.val (.lam c)) x11 S) := by
  simp [w_law_2, isW_e hc, isVE_e hc]
theorem loop2 : ∃ y10, sFor (itSeq (eVar 9)) (gN 10) (w_law_2) (sL scr x3 x4 x5 x6 x7 x8 (.val (.lst (lots.map D.lam))) x10 x11 S) = .ok .nx (sL scr x3 x4 x5 x6 x7 x8 (.val (.lst (lots.map D.lam))) y10 x11 S) := by
  obtain ⟨s', e, y10, hs⟩ := for_inv (g := gN 10) (b := w_law_2) (items := lots.map D.lam) (s := sL scr x3 x4 x5 x6 x7 x8 (.val (.lst (lots.map D.lam))) x10 x11 S)
    (fun i s => ∃ y10, s = sL scr x3 x4 x5 x6 x7 x8 (.val (.lst (lots.map D.lam))) y10 x11 S) ⟨x10, rfl⟩ (fun i x s hi hp => by
      obtain ⟨y10, rfl⟩ := hp
      obtain ⟨c, hc, rfl⟩ := List.mem_map.mp (List.mem_of_getElem? hi)
      exact ⟨_, _, rfl, .inl (w2_ok (lots_ns c hc)), _, rfl⟩)
  subst hs
  exact ⟨y10, for_seq rfl rfl e⟩
def fnd : List Bool := [true, false, true, true, false, true, false]
theorem e3_ok {c : String} (hc : c ∈ lots) : e_law_3 (sL scr x3 x4 x5 x6 x7 x8 x9 (.val (.lam c)) x11 S) = .ok (.bl (c ∈ ["Still", "NoDirection", "NotClosed", "BadNumber"])) (sL scr x3 x4 x5 x6 x7 x8 x9 (.val (.lam c)) x11 S) := by
  have h1 := ns_err (lots_ns c hc)
  simp only [lots, List.mem_cons, List.not_mem_nil, or_false] at hc
  rcases hc with rfl | rfl | rfl | rfl | rfl | rfl | rfl <;> simp [e_law_3, eIsET, isAnyE, clsD, h1, errNs]
end
end W_k00
set_option maxRecDepth 100000
set_option maxHeartbeats 4000000
namespace W_k00
open DL
theorem or_f {f g : DT} {s s1 : DS} (h : f s = .ok false s1) : bOr f g s = g s1 := by
  rw [r_bOr, h]
  rfl
theorem b_e {f : DE} {s s1 : DS} {b : Bool} (h : f s = .ok (.bl b) s1) : eB f s = .ok b s1 := by
  rw [r_eB, h]
  rfl
section
variable {scr m y : D} {x3 x4 x5 x6 x7 x8 x9 x10 x11 : Sl} {S : List Cell}
def hit (c : String) : Bool := decide (c ∈ ["Still", "NoDirection", "NotClosed", "BadNumber"])
theorem found_e : ∃ y10, sSetO 11 (aLc [10] (itSeq (eVar 9)) (gN 10) (bYes) (e_law_3)) (sL scr x3 x4 x5 x6 x7 x8 (.val (.lst (lots.map D.lam))) x10 x11 S) = .ok .nx (sL scr x3 x4 x5 x6 x7 x8 (.val (.lst (lots.map D.lam))) y10 (.ol (lots.map fun c => .bl (hit c))) S) := by
  have f := aLc_of (vs := [10]) (g := gN 10) (e := e_law_3) (it := itSeq (eVar 9)) (s := sL scr x3 x4 x5 x6 x7 x8 (.val (.lst (lots.map D.lam))) x10 x11 S) (s0 := sL scr x3 x4 x5 x6 x7 x8 (.val (.lst (lots.map D.lam))) x10 x11 S) (l := lots) D.lam (fun c => .bl (hit c)) rfl
    (fun c hc => ⟨sL scr x3 x4 x5 x6 x7 x8 (.val (.lst (lots.map D.lam))) (.val (.lam c)) x11 S, _, rfl, e3_ok hc, rfl⟩) (by decide)
  exact ⟨_, set_o f⟩
theorem sum_e : eCB (bSum) (aCons (eFrz (aLc [12] (itSeq (eVar 11)) (gN 12) (bYes) (e_law_4))) (aNil)) (sL scr x3 x4 x5 x6 x7 x8 x9 x10 (.ol (lots.map fun c => .bl (hit c))) S) = .ok (.int 4) (sL scr x3 x4 x5 x6 x7 x8 x9 x10 (.val (.lst (lots.map fun c => .bl (hit c)))) S) := by
  have f := aLc_M1 (v := 12) (e := e_law_4) (it := itSeq (eVar 11)) (s := sL scr x3 x4 x5 x6 x7 x8 x9 x10 (.ol (lots.map fun c => .bl (hit c))) S) (s0 := sL scr x3 x4 x5 x6 x7 x8 x9 x10 (.val (.lst (lots.map fun c => .bl (hit c)))) S) (l := lots) (fun c => D.bl (hit c)) (fun c => .int (if hit c = true then 1 else 0)) rfl rfl
    (fun c hc => by cases h : hit c <;> simp [h, e_law_4]) (by decide)
  refine cb_1 (frz_e f) ?_
  have e : lots.map (fun c => D.int (if hit c = true then 1 else 0)) = ([1, 0, 1, 1, 0, 1, 0] : List Int).map D.int := by
    simp only [lots, List.map_cons, List.map_nil]
    rfl
  rw [e]
  rfl
theorem all_e : eCB (bAll) (aCons (eFrz (aLc [13] (itR1 (aCons (eC (.int 5)) (aNil))) (gN 13) (bYes) (e_law_5))) (aNil)) (sL scr x3 (.val m) x5 x6 x7 x8 x9 x10 x11 S) = .ok (.bl true) (sL scr x3 (.val m) x5 x6 x7 x8 x9 x10 x11 S) := by
  have i : itR1 (aCons (eC (.int 5)) (aNil)) (sL scr x3 (.val m) x5 x6 x7 x8 x9 x10 x11 S) = .ok ((List.range 5).map kD) (sL scr x3 (.val m) x5 x6 x7 x8 x9 x10 x11 S) := itR1_n (n := 5) rfl (by decide)
  have f := aLc_M1 (v := 13) (e := e_law_5) kD (fun _ => D.bl true) i rfl (fun k hk => call_c2 (x := kD k) (y := m) rfl rfl (caught_ok (by simpa using hk) m S)) (by decide)
  refine cb_1 (frz_e f) ?_
  rw [bAll_map (fun _ : Nat => true)]
  simp
theorem lots_e : sSet 9 (eFrz (aMax (aCons (eC (.lam "Still")) (aCons (eC (.lam "NotWithin")) (aCons (eC (.lam "NoDirection")) (aCons (eC (.lam "NotClosed")) (aCons (eC (.lam "NothingToUndo")) (aCons (eErr "BadNumber" 1 0 (aCons (eVar 4) (aNil)) (aNil)) (aCons (eErr "Uneven" 2 0 (aCons (eVar 4) (aCons (eVar 5) (aNil))) (aNil)) (aNil)))))))))) (sL scr x3 (.val m) (.val y) x6 x7 x8 x9 x10 x11 S)
    = .ok .nx (sL scr x3 (.val m) (.val y) x6 x7 x8 (.val (.lst (lots.map D.lam))) x10 x11 S) := by
  simp [lots]
theorem lap_ok {n : Nat} (hS : Pen n S) (hn : n + 10 < 2 ^ 20) : ∃ y4 y5 y6 y7 y8 y9 y10 y11 S', w_law_6 (sL scr x3 x4 x5 x6 x7 x8 x9 x10 x11 S) = .ok .nx (sL scr x3 y4 y5 y6 y7 y8 y9 y10 y11 S') ∧ Pen (n + 2) S' := by
  obtain ⟨m, S1, e1, hm, P1⟩ := pick_ok (xs := vals) hS (by omega) (by decide) (by decide)
  obtain ⟨y, S2, e2, hy, P2⟩ := pick_ok (xs := vals) P1 (by omega) (by decide) (by decide)
  have gm := vals_good m hm
  have gy := vals_good y hy
  have a1 : eCall 2 g__law_pick (aCons (eVar 1) (aCons (eVar 2) (aNil))) (sL scr x3 x4 x5 x6 x7 x8 x9 x10 x11 S) = .ok m (sL scr x3 x4 x5 x6 x7 x8 x9 x10 x11 S1) := call_c2 rfl rfl e1
  have a2 : eCall 2 g__law_pick (aCons (eVar 1) (aCons (eVar 2) (aNil))) (sL scr x3 x4 x5 x6 x7 x8 x9 x10 x11 S1) = .ok y (sL scr x3 x4 x5 x6 x7 x8 x9 x10 x11 S2) := call_c2 rfl rfl e2
  have st1 : sAsgT (eTup (aCons (eCall 2 g__law_pick (aCons (eVar 1) (aCons (eVar 2) (aNil)))) (aCons (eCall 2 g__law_pick (aCons (eVar 1) (aCons (eVar 2) (aNil)))) (aNil)))) (gT 2 (gsCons (gN 4) (gsCons (gN 5) (gsNil)))) (sL scr x3 x4 x5 x6 x7 x8 x9 x10 x11 S) = .ok .nx (sL scr x3 (.val m) (.val y) x6 x7 x8 x9 x10 x11 S2) := asg_t (tup_2 a1 a2) rfl
  obtain ⟨y6, y7, st2⟩ := loop0 (scr := scr) (x3 := x3) (x5 := .val y) (x6 := x6) (x7 := x7) (x8 := x8) (x9 := x9) (x10 := x10) (x11 := x11) (S := S2) gm
  obtain ⟨z6, y8, st3⟩ := loop1 (scr := scr) (x3 := x3) (x6 := y6) (x7 := y7) (x8 := x8) (x9 := x9) (x10 := x10) (x11 := x11) (S := S2) gm gy
  have st4 : sIf (bNot (eTru (eCall 2 g__law_apart (aCons (eVar 4) (aCons (eVar 5) (aNil)))))) (sRet (eC (.bl false))) (sPass) (sL scr x3 (.val m) (.val y) z6 y7 y8 x9 x10 x11 S2) = .ok .nx (sL scr x3 (.val m) (.val y) z6 y7 y8 x9 x10 x11 S2) := by
    have c : eCall 2 g__law_apart (aCons (eVar 4) (aCons (eVar 5) (aNil))) (sL scr x3 (.val m) (.val y) z6 y7 y8 x9 x10 x11 S2) = .ok (.bl true) (sL scr x3 (.val m) (.val y) z6 y7 y8 x9 x10 x11 S2) := call_c2 rfl rfl (apart_ok m y S2)
    rw [r_sIf, r_bNot, r_eTru, c]
    rfl
  have st5 := lots_e (scr := scr) (m := m) (y := y) (x3 := x3) (x6 := z6) (x7 := y7) (x8 := y8) (x9 := x9) (x10 := x10) (x11 := x11) (S := S2)
  obtain ⟨y10, st6⟩ := loop2 (scr := scr) (x3 := x3) (x4 := .val m) (x5 := .val y) (x6 := z6) (x7 := y7) (x8 := y8) (x10 := x10) (x11 := x11) (S := S2)
  obtain ⟨z10, st7⟩ := found_e (scr := scr) (x3 := x3) (x4 := .val m) (x5 := .val y) (x6 := z6) (x7 := y7) (x8 := y8) (x10 := y10) (x11 := x11) (S := S2)
  have s1 := sum_e (scr := scr) (x3 := x3) (x4 := .val m) (x5 := .val y) (x6 := z6) (x7 := y7) (x8 := y8) (x9 := .val (.lst (lots.map D.lam))) (x10 := z10) (S := S2)
  have s2 := all_e (scr := scr) (m := m) (x3 := x3) (x5 := .val y) (x6 := z6) (x7 := y7) (x8 := y8) (x9 := .val (.lst (lots.map D.lam))) (x10 := z10) (x11 := .val (.lst (lots.map fun c => .bl (hit c)))) (S := S2)
  refine ⟨.val m, .val y, z6, y7, y8, .val (.lst (lots.map D.lam)), z10, .val (.lst (lots.map fun c => .bl (hit c))), S2, (sq_nx st1).trans ((sq_nx st2).trans ((sq_nx st3).trans ((sq_nx st4).trans ((sq_nx st5).trans ((sq_nx st6).trans ((sq_nx st7).trans ?_)))))), P2⟩
  refine (if_f ?_).trans rfl
  have d4 : dNe (.int 4) (.int 4) = some (.bl false) := by simp
  rw [or_f (b_e (op_2 s1 (r_eC _ _) d4)), r_bNot, r_eTru, s2]
  rfl
end
theorem law_ok (ns : List Int) (h1 : ns.length ≤ 63) (_ : ∀ z ∈ ns, PySem.Builtin.Int.intBits z ≤ 1048576) : ∃ S, g_law [.scr (ns.map D.int)] [] = .ok (.bl true) S := by
  obtain ⟨S, e1, P1⟩ := begin_ok ns
  generalize hscr : (D.scr (ns.map D.int)) = scr at *
  have st1 : sSet 1 (eCall 1 g__law_pen (aCons (eVar 0) (aNil))) ⟨[.val scr, .un, .un, .un, .un, .un, .un, .un, .un, .un, .un, .un, .un, .un], []⟩ = .ok .nx ⟨[.val scr, .val (.cell 0), .un, .un, .un, .un, .un, .un, .un, .un, .un, .un, .un, .un], S⟩ := set_c1 (x := scr) rfl e1
  have len : ∃ L : Nat, L ≤ 6 ∧ ∀ s : DS, s.sl[0]? = some (.val scr) → aCons (eOp2 dAdd (eC (.int 2)) (eCB (bMin2) (aCons (eC (.int 4)) (aCons (eCB (bLen) (aCons (eVar 0) (aNil))) (aNil))))) (aNil) s = .ok [.int (L : Int)] s := by
    refine ⟨2 + min 4 ns.length, by omega, fun s hs => ?_⟩
    obtain ⟨sl, st⟩ := s
    have hs : sl[0]? = some (.val scr) := hs
    subst hscr
    have e : (2 + if (ns.length : Int) < 4 then (ns.length : Int) else 4) = ((2 + min 4 ns.length : Nat) : Int) := by
      split <;> omega
    simp [hs, ← e]
  obtain ⟨L, hL, eL⟩ := len
  have e : ∃ s, b_law ⟨[.val scr, .un, .un, .un, .un, .un, .un, .un, .un, .un, .un, .un, .un, .un], []⟩ = .ok (.rt (.bl true)) s := by
    obtain ⟨s', e, x3, x4, x5, x6, x7, x8, x9, x10, x11, S', hs, _⟩ := for_inv (g := gN 3) (b := w_law_6) (items := (List.range L).map kD) (s := sL scr .un .un .un .un .un .un .un .un .un S)
      (fun i s => ∃ x3 x4 x5 x6 x7 x8 x9 x10 x11 S, s = sL scr x3 x4 x5 x6 x7 x8 x9 x10 x11 S ∧ Pen (2 * i) S) ⟨_, _, _, _, _, _, _, _, _, S, rfl, P1⟩ (fun i x s hi hp => by
        obtain ⟨x3, x4, x5, x6, x7, x8, x9, x10, x11, S, rfl, P⟩ := hp
        have hil : i < L := by
          have := (List.getElem?_eq_some_iff.mp hi).1
          simpa using this
        obtain ⟨y4, y5, y6, y7, y8, y9, y10, y11, S', e, P'⟩ := lap_ok (scr := scr) (x3 := .val x) (x4 := x4) (x5 := x5) (x6 := x6) (x7 := x7) (x8 := x8) (x9 := x9) (x10 := x10) (x11 := x11) P (by omega)
        exact ⟨_, _, rfl, .inl e, _, _, _, _, _, _, _, _, _, S', rfl, P'⟩)
    subst hs
    refine ⟨_, (sq_nx st1).trans ((sq_nx (s1 := sL scr .un .un .un .un .un .un .un .un .un S) ?_).trans ((sq_nx (for_it (itR1_n (eL _ rfl) (by omega)) e)).trans rfl))⟩
    refine (set_e (d := .lst vals) (frz_e (s1 := ⟨[.val scr, .val (.cell 0), .un, .un, .un, .un, .un, .un, .un, .un, .un, .un, .un, .un], S⟩) (xs := vals) ?_)).trans rfl
    simp [vals]
  obtain ⟨s, e⟩ := e
  exact ⟨s.st, fn_1 (n := 1) (b := b_law) (ds := [scr]) (S := []) (m := 13) rfl e⟩
end W_k00
open PySem PySem.W PyProof.Rows
set_option maxRecDepth 100000 in
set_option maxHeartbeats 0 in
theorem PySem.Challenge.cw_areawalks_k00_errors_made_by_hand_holds : PySem.Challenge.rw_areawalks_k00_errors_made_by_hand.Holds := by
  w_on; o_law; k_head; (case hw => w_witness2)
  k_fill
  refine DL.walk_ofD (l := PySem.Challenge.rw_areawalks_k00_errors_made_by_hand) (n := 63) (k := 7) (x := "_law_script") (CX := fun w => L2.CX PySem.Challenge.rw_areawalks_k00_errors_made_by_hand.prog w) rfl (by decide) rfl ⟨rfl, by decide, by decide⟩ (fun w h Y => PySem.W.kIn_of Y) ?F (fun w => DL.noCX)
  case F =>
    intro w mg fa h KX G hmg TT
    refine' W_k00.all_mk KX G hmg TT ?aC_BadName ?xl_BadName ?xr_BadName ?xi_BadName ?xf_BadName ?xc_BadName ?xd_BadName ?xv_BadName ?xe_BadName ?xk_BadName ?xB_BadName ?aC_BadNumber ?xl_BadNumber ?xr_BadNumber ?xi_BadNumber ?xf_BadNumber ?xc_BadNumber ?xd_BadNumber ?xv_BadNumber ?xe_BadNumber ?xk_BadNumber ?xB_BadNumber ?aC_BadPlace ?xl_BadPlace ?xr_BadPlace ?xi_BadPlace ?xf_BadPlace ?xc_BadPlace ?xd_BadPlace ?xv_BadPlace ?xe_BadPlace ?xk_BadPlace ?xB_BadPlace ?aC_BadText ?xl_BadText ?xr_BadText ?xi_BadText ?xf_BadText ?xc_BadText ?xd_BadText ?xv_BadText ?xe_BadText ?xk_BadText ?xB_BadText ?aC_BadWord ?xl_BadWord ?xr_BadWord ?xi_BadWord ?xf_BadWord ?xc_BadWord ?xd_BadWord ?xv_BadWord ?xe_BadWord ?xk_BadWord ?xB_BadWord ?aC_Barred ?xl_Barred ?xr_Barred ?xi_Barred ?xf_Barred ?xc_Barred ?xd_Barred ?xv_Barred ?xe_Barred ?xk_Barred ?xB_Barred ?aC_EndsDiffer ?xl_EndsDiffer ?xr_EndsDiffer ?xi_EndsDiffer ?xf_EndsDiffer ?xc_EndsDiffer ?xd_EndsDiffer ?xv_EndsDiffer ?xe_EndsDiffer ?xk_EndsDiffer ?xB_EndsDiffer ?aC_NoDirection ?aC_NoPromise ?xl_NoPromise ?xr_NoPromise ?xi_NoPromise ?xf_NoPromise ?xc_NoPromise ?xd_NoPromise ?xv_NoPromise ?xe_NoPromise ?xk_NoPromise ?xB_NoPromise ?aC_NoWalk ?xl_NoWalk ?xr_NoWalk ?xi_NoWalk ?xf_NoWalk ?xc_NoWalk ?xd_NoWalk ?xv_NoWalk ?xe_NoWalk ?xk_NoWalk ?xB_NoWalk ?aC_NotClosed ?aC_NotOnto ?xl_NotOnto ?xr_NotOnto ?xi_NotOnto ?xf_NotOnto ?xc_NotOnto ?xd_NotOnto ?xv_NotOnto ?xe_NotOnto ?xk_NotOnto ?xB_NotOnto ?aC_NotWithin ?aC_NothingToUndo ?aC_OneSided ?xl_OneSided ?xr_OneSided ?xi_OneSided ?xf_OneSided ?xc_OneSided ?xd_OneSided ?xv_OneSided ?xe_OneSided ?xk_OneSided ?xB_OneSided ?aC_Still ?aC_Taken ?xl_Taken ?xr_Taken ?xi_Taken ?xf_Taken ?xc_Taken ?xd_Taken ?xv_Taken ?xe_Taken ?xk_Taken ?xB_Taken ?aC_TooFar ?xl_TooFar ?xr_TooFar ?xi_TooFar ?xf_TooFar ?xc_TooFar ?xd_TooFar ?xv_TooFar ?xe_TooFar ?xk_TooFar ?xB_TooFar ?aC_TooMany ?xl_TooMany ?xr_TooMany ?xi_TooMany ?xf_TooMany ?xc_TooMany ?xd_TooMany ?xv_TooMany ?xe_TooMany ?xk_TooMany ?xB_TooMany ?aC_Uneven ?xl_Uneven ?xr_Uneven ?xi_Uneven ?xf_Uneven ?xc_Uneven ?xd_Uneven ?xv_Uneven ?xe_Uneven ?xk_Uneven ?xB_Uneven ?xC_Uneven ?aC_WalkError ?x0_NoDirection ?x0_NotClosed ?x0_NotWithin ?x0_NothingToUndo ?x0_Still ?eib ?xtop ?xsup ?xm_BadName_WalkError ?xm_BadNumber_WalkError ?xm_BadPlace_WalkError ?xm_BadText_WalkError ?xm_BadWord_WalkError ?xm_Barred_WalkError ?xm_EndsDiffer_WalkError ?xm_NoDirection_WalkError ?xm_NoPromise_WalkError ?xm_NoWalk_WalkError ?xm_NotClosed_WalkError ?xm_NotOnto_WalkError ?xm_NotWithin_WalkError ?xm_NothingToUndo_WalkError ?xm_OneSided_WalkError ?xm_Still_WalkError ?xm_Taken_WalkError ?xm_TooFar_WalkError ?xm_TooMany_WalkError ?xm_Uneven_WalkError ?xm_WalkError_WalkError ?a1__law_alone ?l1__law_alone ?c1__law_alone ?k1__law_alone ?a1__law_kinds ?l1__law_kinds ?c1__law_kinds ?k1__law_kinds ?a1__law_apart ?l1__law_apart ?c1__law_apart ?k1__law_apart ?a1__law_raise ?l1__law_raise ?c1__law_raise ?k1__law_raise ?a1__law_caught ?l1__law_caught ?c1__law_caught ?k1__law_caught ?a1__law_more ?l1__law_more ?c1__law_more ?k1__law_more ?a1__law_pen ?l1__law_pen ?c1__law_pen ?k1__law_pen ?a1__law_draw ?l1__law_draw ?c1__law_draw ?k1__law_draw ?a1__law_pick ?l1__law_pick ?c1__law_pick ?k1__law_pick ?a1_law ?l1_law ?c1_law ?k1_law ?z1_ValueError ?z1_all ?z1_bool ?z1_int ?z1_isinstance ?z1_len ?z1_list ?z1_min ?z1_range ?z1_sum W_k00.law_ok
    (case aC_BadName => k_is)
    (case xl_BadName => k_is)
    (case xr_BadName => kernel_rfl)
    (case xi_BadName => k_is)
    (case xf_BadName => k_is)
    (case xc_BadName => k_is)
    (case xd_BadName => k_is)
    (case xv_BadName => rfl)
    (case xe_BadName => kernel_rfl)
    (case xk_BadName => k_is)
    (case xB_BadName => kernel_rfl)
    (case aC_BadNumber => k_is)
    (case xl_BadNumber => k_is)
    (case xr_BadNumber => kernel_rfl)
    (case xi_BadNumber => k_is)
    (case xf_BadNumber => k_is)
    (case xc_BadNumber => k_is)
    (case xd_BadNumber => k_is)
    (case xv_BadNumber => rfl)
    (case xe_BadNumber => kernel_rfl)
    (case xk_BadNumber => k_is)
    (case xB_BadNumber => kernel_rfl)
    (case aC_BadPlace => k_is)
    (case xl_BadPlace => k_is)
    (case xr_BadPlace => kernel_rfl)
    (case xi_BadPlace => k_is)
    (case xf_BadPlace => k_is)
    (case xc_BadPlace => k_is)
    (case xd_BadPlace => k_is)
    (case xv_BadPlace => rfl)
    (case xe_BadPlace => kernel_rfl)
    (case xk_BadPlace => k_is)
    (case xB_BadPlace => kernel_rfl)
    (case aC_BadText => k_is)
    (case xl_BadText => k_is)
    (case xr_BadText => kernel_rfl)
    (case xi_BadText => k_is)
    (case xf_BadText => k_is)
    (case xc_BadText => k_is)
    (case xd_BadText => k_is)
    (case xv_BadText => rfl)
    (case xe_BadText => kernel_rfl)
    (case xk_BadText => k_is)
    (case xB_BadText => kernel_rfl)
    (case aC_BadWord => k_is)
    (case xl_BadWord => k_is)
    (case xr_BadWord => kernel_rfl)
    (case xi_BadWord => k_is)
    (case xf_BadWord => k_is)
    (case xc_BadWord => k_is)
    (case xd_BadWord => k_is)
    (case xv_BadWord => rfl)
    (case xe_BadWord => kernel_rfl)
    (case xk_BadWord => k_is)
    (case xB_BadWord => kernel_rfl)
    (case aC_Barred => k_is)
    (case xl_Barred => k_is)
    (case xr_Barred => kernel_rfl)
    (case xi_Barred => k_is)
    (case xf_Barred => k_is)
    (case xc_Barred => k_is)
    (case xd_Barred => k_is)
    (case xv_Barred => rfl)
    (case xe_Barred => kernel_rfl)
    (case xk_Barred => k_is)
    (case xB_Barred => kernel_rfl)
    (case aC_EndsDiffer => k_is)
    (case xl_EndsDiffer => k_is)
    (case xr_EndsDiffer => kernel_rfl)
    (case xi_EndsDiffer => k_is)
    (case xf_EndsDiffer => k_is)
    (case xc_EndsDiffer => k_is)
    (case xd_EndsDiffer => k_is)
    (case xv_EndsDiffer => rfl)
    (case xe_EndsDiffer => kernel_rfl)
    (case xk_EndsDiffer => k_is)
    (case xB_EndsDiffer => kernel_rfl)
    (case aC_NoDirection => k_is)
    (case aC_NoPromise => k_is)
    (case xl_NoPromise => k_is)
    (case xr_NoPromise => kernel_rfl)
    (case xi_NoPromise => k_is)
    (case xf_NoPromise => k_is)
    (case xc_NoPromise => k_is)
    (case xd_NoPromise => k_is)
    (case xv_NoPromise => rfl)
    (case xe_NoPromise => kernel_rfl)
    (case xk_NoPromise => k_is)
    (case xB_NoPromise => kernel_rfl)
    (case aC_NoWalk => k_is)
    (case xl_NoWalk => k_is)
    (case xr_NoWalk => kernel_rfl)
    (case xi_NoWalk => k_is)
    (case xf_NoWalk => k_is)
    (case xc_NoWalk => k_is)
    (case xd_NoWalk => k_is)
    (case xv_NoWalk => rfl)
    (case xe_NoWalk => kernel_rfl)
    (case xk_NoWalk => k_is)
    (case xB_NoWalk => kernel_rfl)
    (case aC_NotClosed => k_is)
    (case aC_NotOnto => k_is)
    (case xl_NotOnto => k_is)
    (case xr_NotOnto => kernel_rfl)
    (case xi_NotOnto => k_is)
    (case xf_NotOnto => k_is)
    (case xc_NotOnto => k_is)
    (case xd_NotOnto => k_is)
    (case xv_NotOnto => rfl)
    (case xe_NotOnto => kernel_rfl)
    (case xk_NotOnto => k_is)
    (case xB_NotOnto => kernel_rfl)
    (case aC_NotWithin => k_is)
    (case aC_NothingToUndo => k_is)
    (case aC_OneSided => k_is)
    (case xl_OneSided => k_is)
    (case xr_OneSided => kernel_rfl)
    (case xi_OneSided => k_is)
    (case xf_OneSided => k_is)
    (case xc_OneSided => k_is)
    (case xd_OneSided => k_is)
    (case xv_OneSided => rfl)
    (case xe_OneSided => kernel_rfl)
    (case xk_OneSided => k_is)
    (case xB_OneSided => kernel_rfl)
    (case aC_Still => k_is)
    (case aC_Taken => k_is)
    (case xl_Taken => k_is)
    (case xr_Taken => kernel_rfl)
    (case xi_Taken => k_is)
    (case xf_Taken => k_is)
    (case xc_Taken => k_is)
    (case xd_Taken => k_is)
    (case xv_Taken => rfl)
    (case xe_Taken => kernel_rfl)
    (case xk_Taken => k_is)
    (case xB_Taken => kernel_rfl)
    (case aC_TooFar => k_is)
    (case xl_TooFar => k_is)
    (case xr_TooFar => kernel_rfl)
    (case xi_TooFar => k_is)
    (case xf_TooFar => k_is)
    (case xc_TooFar => k_is)
    (case xd_TooFar => k_is)
    (case xv_TooFar => rfl)
    (case xe_TooFar => kernel_rfl)
    (case xk_TooFar => k_is)
    (case xB_TooFar => kernel_rfl)
    (case aC_TooMany => k_is)
    (case xl_TooMany => k_is)
    (case xr_TooMany => kernel_rfl)
    (case xi_TooMany => k_is)
    (case xf_TooMany => k_is)
    (case xc_TooMany => k_is)
    (case xd_TooMany => k_is)
    (case xv_TooMany => rfl)
    (case xe_TooMany => kernel_rfl)
    (case xk_TooMany => k_is)
    (case xB_TooMany => kernel_rfl)
    (case aC_Uneven => k_is)
    (case xl_Uneven => k_is)
    (case xr_Uneven => kernel_rfl)
    (case xi_Uneven => k_is)
    (case xf_Uneven => k_is)
    (case xc_Uneven => k_is)
    (case xd_Uneven => k_is)
    (case xv_Uneven => rfl)
    (case xe_Uneven => kernel_rfl)
    (case xk_Uneven => k_is)
    (case xB_Uneven => kernel_rfl)
    (case xC_Uneven => kernel_rfl)
    (case aC_WalkError => k_is)
    (case x0_NoDirection => kernel_rfl)
    (case x0_NotClosed => kernel_rfl)
    (case x0_NotWithin => kernel_rfl)
    (case x0_NothingToUndo => kernel_rfl)
    (case x0_Still => kernel_rfl)
    (case eib => kernel_rfl)
    (case xtop => kernel_rfl)
    (case xsup => k_is)
    (case xm_BadName_WalkError => kernel_rfl)
    (case xm_BadNumber_WalkError => kernel_rfl)
    (case xm_BadPlace_WalkError => kernel_rfl)
    (case xm_BadText_WalkError => kernel_rfl)
    (case xm_BadWord_WalkError => kernel_rfl)
    (case xm_Barred_WalkError => kernel_rfl)
    (case xm_EndsDiffer_WalkError => kernel_rfl)
    (case xm_NoDirection_WalkError => kernel_rfl)
    (case xm_NoPromise_WalkError => kernel_rfl)
    (case xm_NoWalk_WalkError => kernel_rfl)
    (case xm_NotClosed_WalkError => kernel_rfl)
    (case xm_NotOnto_WalkError => kernel_rfl)
    (case xm_NotWithin_WalkError => kernel_rfl)
    (case xm_NothingToUndo_WalkError => kernel_rfl)
    (case xm_OneSided_WalkError => kernel_rfl)
    (case xm_Still_WalkError => kernel_rfl)
    (case xm_Taken_WalkError => kernel_rfl)
    (case xm_TooFar_WalkError => kernel_rfl)
    (case xm_TooMany_WalkError => kernel_rfl)
    (case xm_Uneven_WalkError => kernel_rfl)
    (case xm_WalkError_WalkError => kernel_rfl)
    (case a1__law_alone => k_is)
    (case l1__law_alone => k_is)
    (case c1__law_alone => k_is)
    (case k1__law_alone => k_is)
    (case a1__law_kinds => k_is)
    (case l1__law_kinds => k_is)
    (case c1__law_kinds => k_is)
    (case k1__law_kinds => k_is)
    (case a1__law_apart => k_is)
    (case l1__law_apart => k_is)
    (case c1__law_apart => k_is)
    (case k1__law_apart => k_is)
    (case a1__law_raise => k_is)
    (case l1__law_raise => k_is)
    (case c1__law_raise => k_is)
    (case k1__law_raise => k_is)
    (case a1__law_caught => k_is)
    (case l1__law_caught => k_is)
    (case c1__law_caught => k_is)
    (case k1__law_caught => k_is)
    (case a1__law_more => k_is)
    (case l1__law_more => k_is)
    (case c1__law_more => k_is)
    (case k1__law_more => k_is)
    (case a1__law_pen => k_is)
    (case l1__law_pen => k_is)
    (case c1__law_pen => k_is)
    (case k1__law_pen => k_is)
    (case a1__law_draw => k_is)
    (case l1__law_draw => k_is)
    (case c1__law_draw => k_is)
    (case k1__law_draw => k_is)
    (case a1__law_pick => k_is)
    (case l1__law_pick => k_is)
    (case c1__law_pick => k_is)
    (case k1__law_pick => k_is)
    (case a1_law => k_is)
    (case l1_law => k_is)
    (case c1_law => k_is)
    (case k1_law => k_is)
    (case z1_ValueError => k_is)
    (case z1_all => k_is)
    (case z1_bool => k_is)
    (case z1_int => k_is)
    (case z1_isinstance => k_is)
    (case z1_len => k_is)
    (case z1_list => k_is)
    (case z1_min => k_is)
    (case z1_range => k_is)
    (case z1_sum => k_is)
