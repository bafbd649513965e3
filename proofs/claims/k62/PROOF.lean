import PyProof.Rows.All
import Wide.All
import OpenK.AllK
import Wide.FinOn
import HandS.Base
import HandS.Call
import HandS.List
import HandS.Comp
import HandS.Exc
import HandS.Lambda
import HandS.ForMost
import HandS.ForExc
import HandS.Wide
import HandS.Flow
import HandS.IsInst
import HandS.TupAny
import HandS.Deep
import PyProof.ReprRoads
import HandS.Walk
import HandS.Style
import HandS.Zip
import HandS.Small
import HandS.ExcIs
import HandS.EndTab
import HandS.Defaults
import HandS.Head0
import HandS.Head1
import HandS.Head2
import HandS.HeadEnd
import HandS.HeadHook1
import HandS.HeadHook2
import HandS.HeadHook3
import HandS.HeadHook4
import KE.KeyNested
import HandS.TupSets
import HandS.SetBool
import HandS.TupLen
import HandS.More
import KE.KDictCopyH
import KE.KDictZip
import HandS.Conv
import HandS.FStr
import HandS.Text
import PyProof.Rows.ListStrD
import PyProof.StrBlock2
import HandS.Replace
import HandS.ReplaceLit
import HandS.ExcInit
import HandS.ExcField
import HandS.Codes
import PyProof.StrLawsRepr
import PyProof.ReprLen
import KE.KStateDown
import Lean
import PySem.Challenge.RW_creasehall_k62_whole_texts_of_numbers_wo
set_option Elab.async false
set_option linter.all false
set_option maxRecDepth 100000
/-! VLBase: values as data (D), the heap that stands still (F), the mutable cells (S), what a piece of the text makes of data (M), and what a reading says of it (Snd). -/
namespace VL
open PySem PySem.Spec PyProof.Rows L2

/-- data -/
inductive D where
  | non | bl (b : Bool) | int (i : Int) | str (s : Str)
  | tup (xs : List D) | lst (xs : List D)
  | emp | cell (n : Nat) | adr (a : Addr) | scr (ns : List Int)
instance : Inhabited D := ⟨.non⟩
abbrev Sx := List (List D)
/-- an exception: the name of its class, its fields -/
structure Exc where
  cls : Str
  fs : List (Str × D)
inductive R (α : Type) where
  | ok (a : α) (S : Sx) | er (x : Exc) (S : Sx) | no
def M (α : Type) := Sx → R α
instance : Monad M where
  pure a := fun S => .ok a S
  bind m k := fun S => match m S with
    | .ok a S' => k a S'
    | .er x S' => .er x S'
    | .no => .no
instance : LawfulMonad M := LawfulMonad.mk' M
  (id_map := fun x => by funext S; show (match x S with | .ok a S' => _ | .er x S' => _ | .no => _) = x S; cases x S <;> rfl)
  (pure_bind := fun a f => rfl)
  (bind_assoc := fun x f g => by
    funext S
    show (match (match x S with | .ok a S' => f a S' | .er x S' => .er x S' | .no => .no) with | .ok a S' => g a S' | .er x S' => .er x S' | .no => .no) = (match x S with | .ok a S' => (match f a S' with | .ok a S' => g a S' | .er x S' => .er x S' | .no => .no) | .er x S' => .er x S' | .no => .no)
    cases x S <;> rfl)
/-- no claim -/
def no {α : Type} : M α := fun _ => .no
def err {α : Type} (x : Exc) : M α := fun S => .er x S
theorem bind_ok {α β : Type} {m : M α} {k : α → M β} {S S' : Sx} {a : α} (h : m S = .ok a S') : (m >>= k) S = k a S' := by
  show (match m S with | .ok a S' => k a S' | .er x S' => .er x S' | .no => .no) = _
  rw [h]
theorem bind_er {α β : Type} {m : M α} {k : α → M β} {S S' : Sx} {x : Exc} (h : m S = .er x S') : (m >>= k) S = .er x S' := by
  show (match m S with | .ok a S' => k a S' | .er x S' => .er x S' | .no => .no) = _
  rw [h]
theorem bind_no {α β : Type} {m : M α} {k : α → M β} {S : Sx} (h : m S = .no) : (m >>= k) S = .no := by
  show (match m S with | .ok a S' => k a S' | .er x S' => .er x S' | .no => .no) = _
  rw [h]
@[simp] theorem no_bind {α β : Type} {k : α → M β} : (no >>= k) = no := rfl
@[simp] theorem err_bind {α β : Type} {x : Exc} {k : α → M β} : (err x >>= k) = err x := rfl

mutual
/-- a value shows data, over what stands still -/
inductive Rep (K : PySem.W.Frag) (F : Hp) (as : List Addr) : V → D → Prop
  | non : Rep K F as .non .non
  | bl (b : Bool) : Rep K F as (.bl b) (.bl b)
  | int (i : Int) : Rep K F as (.int i) (.int i)
  | str (x : Str) : Rep K F as (.str x) (.str x)
  | tup {a : Addr} {vs : List V} {ds : List D} : SqT K F a vs → Reps K F as vs ds → Rep K F as (.ref a) (.tup ds)
  | lst {a : Addr} {vs : List V} {ds : List D} : F a = some (.lst vs) → Reps K F as vs ds → Rep K F as (.ref a) (.lst ds)
  | scr {a : Addr} {ns : List Int} : SqL K F a (ns.map V.int) → Rep K F as (.ref a) (.scr ns)
  | emp {a : Addr} {kvs : List (Key × V)} : F a = some (.dK kvs) → Rep K F as (.ref a) .emp
  | cell {a : Addr} {n : Nat} : as[n]? = some a → Rep K F as (.ref a) (.cell n)
  | adr (a : Addr) : Rep K F as (.ref a) (.adr a)
inductive Reps (K : PySem.W.Frag) (F : Hp) (as : List Addr) : List V → List D → Prop
  | nil : Reps K F as [] []
  | cons {v : V} {vs : List V} {d : D} {ds : List D} : Rep K F as v d → Reps K F as vs ds → Reps K F as (v :: vs) (d :: ds)
end
section
variable {K : PySem.W.Frag} {F F' : Hp} {as as' : List Addr}
theorem SqT.mono {a : Addr} {vs : List V} (h : SqT K F a vs) (f : ∀ a o, F a = some o → F' a = some o) : SqT K F' a vs := by
  rcases h with (h | ⟨o, h⟩) | h
  · exact .inl (.inl (f _ _ h))
  · exact .inl (.inr ⟨o, f _ _ h⟩)
  · exact .inr h
theorem SqL.mono {a : Addr} {vs : List V} (h : SqL K F a vs) (f : ∀ a o, F a = some o → F' a = some o) : SqL K F' a vs := by
  rcases h with (h | ⟨o, h⟩) | h
  · exact .inl (.inl (f _ _ h))
  · exact .inl (.inr ⟨o, f _ _ h⟩)
  · exact .inr h
mutual
theorem Rep.mono (f : ∀ a o, F a = some o → F' a = some o) (g : ∀ (n : Nat) (a : Addr), as[n]? = some a → as'[n]? = some a) : ∀ {v : V} {d : D}, Rep K F as v d → Rep K F' as' v d
  | _, _, .non => .non
  | _, _, .bl b => .bl b
  | _, _, .int i => .int i
  | _, _, .str x => .str x
  | _, _, .tup h r => .tup (SqT.mono h f) (Reps.mono f g r)
  | _, _, .lst h r => .lst (f _ _ h) (Reps.mono f g r)
  | _, _, .scr h => .scr (SqL.mono h f)
  | _, _, .emp h => .emp (f _ _ h)
  | _, _, .cell h => .cell (g _ _ h)
  | _, _, .adr a => .adr a
theorem Reps.mono (f : ∀ a o, F a = some o → F' a = some o) (g : ∀ (n : Nat) (a : Addr), as[n]? = some a → as'[n]? = some a) : ∀ {vs : List V} {ds : List D}, Reps K F as vs ds → Reps K F' as' vs ds
  | _, _, .nil => .nil
  | _, _, .cons h r => .cons (Rep.mono f g h) (Reps.mono f g r)
end
theorem Reps.length : ∀ {vs : List V} {ds : List D}, Reps K F as vs ds → vs.length = ds.length
  | _, _, .nil => rfl
  | _, _, .cons _ r => by rw [List.length_cons, List.length_cons, Reps.length r]
theorem Reps.get : ∀ {vs : List V} {ds : List D} {i : Nat} {v : V}, Reps K F as vs ds → vs[i]? = some v → ∃ d, ds[i]? = some d ∧ Rep K F as v d
  | _, _, _, _, .nil, h => by simp at h
  | _, _, 0, _, .cons r _, h => by simp at h; subst h; exact ⟨_, rfl, r⟩
  | _, _, i + 1, _, .cons _ r, h => by
    obtain ⟨d, h1, h2⟩ := Reps.get (i := i) r (by simpa using h)
    exact ⟨d, by simpa using h1, h2⟩
theorem Reps.get' : ∀ {vs : List V} {ds : List D} {i : Nat} {d : D}, Reps K F as vs ds → ds[i]? = some d → ∃ v, vs[i]? = some v ∧ Rep K F as v d
  | _, _, _, _, .nil, h => by simp at h
  | _, _, 0, _, .cons r _, h => by simp at h; subst h; exact ⟨_, rfl, r⟩
  | _, _, i + 1, _, .cons _ r, h => by
    obtain ⟨d, h1, h2⟩ := Reps.get' (i := i) r (by simpa using h)
    exact ⟨d, by simpa using h1, h2⟩
theorem Reps.append : ∀ {vs ws : List V} {ds es : List D}, Reps K F as vs ds → Reps K F as ws es → Reps K F as (vs ++ ws) (ds ++ es)
  | _, _, _, _, .nil, q => q
  | _, _, _, _, .cons h r, q => .cons h (Reps.append r q)
theorem Reps.take : ∀ {vs : List V} {ds : List D} (n : Nat), Reps K F as vs ds → Reps K F as (vs.take n) (ds.take n)
  | _, _, 0, _ => .nil
  | _, _, _ + 1, .nil => .nil
  | _, _, n + 1, .cons h r => .cons h (Reps.take n r)
theorem Reps.drop : ∀ {vs : List V} {ds : List D} (n : Nat), Reps K F as vs ds → Reps K F as (vs.drop n) (ds.drop n)
  | _, _, 0, r => r
  | _, _, _ + 1, .nil => .nil
  | _, _, n + 1, .cons _ r => Reps.drop n r
theorem Reps.set {v : V} {d : D} (q : Rep K F as v d) : ∀ {vs : List V} {ds : List D} (n : Nat), Reps K F as vs ds → Reps K F as (vs.set n v) (ds.set n d)
  | _, _, _, .nil => .nil
  | _, _, 0, .cons _ r => .cons q r
  | _, _, n + 1, .cons h r => .cons h (Reps.set q n r)
theorem Reps.ints : ∀ (ns : List Int), Reps K F as (ns.map V.int) (ns.map D.int)
  | [] => .nil
  | n :: ns => .cons (.int n) (Reps.ints ns)
end

/-- the state: what stands still is tracked, the tables stand, each cell has its list -/
structure Stt (K : PySem.W.Frag) (T : List (Addr × Str)) (F H : Hp) (as : List Addr) (S : Sx) : Prop where
  fz : ∀ a o, F a = some o → H a = some o
  nt : ∀ a ps, F a ≠ some (.tbl ps)
  tabs : LamX.Tabs T H
  len : as.length = S.length
  nod : as.Nodup
  cel : ∀ (n : Nat) (a : Addr), as[n]? = some a → F a = none ∧ ∃ vs ds, S[n]? = some ds ∧ H a = some (.lst vs) ∧ Reps K F as vs ds
/-- nothing is tracked there, or a table -/
def Lo (H : Hp) (a : Addr) : Prop := ∀ o, H a = some o → ∃ ps, o = .tbl ps
theorem Lo.none {H : Hp} {a : Addr} (h : H a = none) : Lo H a := fun o e => by rw [h] at e; cases e
theorem Lo.not {H : Hp} {a : Addr} {o : HO} (h : Lo H a) (e : H a = some o) (n : ∀ ps, o ≠ .tbl ps) : False := let ⟨ps, q⟩ := h o e; n ps q
/-- from one state to a later one -/
structure Ext (F H : Hp) (as : List Addr) (F' H' : Hp) (as' : List Addr) : Prop where
  f : ∀ a o, F a = some o → F' a = some o
  g : ∀ (n : Nat) (a : Addr), as[n]? = some a → as'[n]? = some a
  k : ∀ a o, H a = some o → a ∉ as → (∀ ps, o ≠ .tbl ps) → H' a = some o
  fn : ∀ a, F' a ≠ none → F a ≠ none ∨ Lo H a
  an : ∀ a, a ∈ as' → a ∈ as ∨ Lo H a
  m : ∀ a, Lo H' a → Lo H a
section
variable {F H F1 H1 F2 H2 : Hp} {as as1 as2 : List Addr}
theorem Ext.refl : Ext F H as F H as := ⟨fun _ _ h => h, fun _ _ h => h, fun _ _ h _ _ => h, fun _ h => .inl h, fun _ h => .inl h, fun _ h => h⟩
theorem Ext.trans (e : Ext F H as F1 H1 as1) (q : Ext F1 H1 as1 F2 H2 as2) : Ext F H as F2 H2 as2 where
  f := fun a o h => q.f a o (e.f a o h)
  g := fun n a h => q.g n a (e.g n a h)
  k := fun a o h n t => q.k a o (e.k a o h n t) (fun z => (e.an a z).elim n fun z => z.not h t) t
  fn := fun a h => (q.fn a h).elim (e.fn a) fun z => .inr (e.m a z)
  an := fun a h => (q.an a h).elim (e.an a) fun z => .inr (e.m a z)
  m := fun a h => e.m a (q.m a h)
theorem Ext.rep {K : PySem.W.Frag} {v : V} {d : D} (e : Ext F H as F1 H1 as1) (r : Rep K F as v d) : Rep K F1 as1 v d := r.mono e.f e.g
theorem Ext.reps {K : PySem.W.Frag} {vs : List V} {ds : List D} (e : Ext F H as F1 H1 as1) (r : Reps K F as vs ds) : Reps K F1 as1 vs ds := r.mono e.f e.g
end

/-- a thing of one's own, other than a list: what its object is, over what stands still -/
structure OwnT where
  R : PySem.W.Frag → Hp → List Addr → Addr → HO → Prop
  mono : ∀ {K : PySem.W.Frag} {F F' : Hp} {as as' : List Addr} {p : Addr} {o : HO}, (∀ a o, F a = some o → F' a = some o) → (∀ (n : Nat) (a : Addr), as[n]? = some a → as'[n]? = some a) → R K F as p o → R K F' as' p o
  nt : ∀ {K : PySem.W.Frag} {F : Hp} {as : List Addr} {p : Addr} {o : HO}, R K F as p o → ∀ ps, o ≠ .tbl ps
  nc : ∀ {K : PySem.W.Frag} {F : Hp} {as : List Addr} {p : Addr} {o : HO}, R K F as p o → ∀ q, o ≠ LamX.CodeO p q
/-- a slot: not known, data that stands still, a list of one's own, another thing of one's own -/
inductive SL where
  | no | fz (d : D) | ow (ds : List D) | od (t : OwnT)
def SL.isOw : SL → Bool
  | .ow _ => true
  | .od _ => true
  | _ => false
/-- B: the heap at the def's entry -/
def SlOk (K : PySem.W.Frag) (B F H : Hp) (as : List Addr) : SL → Option V → Prop
  | .no, _ => True
  | .fz d, o => ∃ v, o = some v ∧ Rep K F as v d
  | .ow ds, o => ∃ p vs, o = some (.ref p) ∧ Lo B p ∧ F p = none ∧ p ∉ as ∧ H p = some (.lst vs) ∧ Reps K F as vs ds
  | .od t, o => ∃ p u, o = some (.ref p) ∧ Lo B p ∧ F p = none ∧ p ∉ as ∧ H p = some u ∧ t.R K F as p u
structure Slots (K : PySem.W.Frag) (B F H : Hp) (as : List Addr) (ρ : List SL) (σ : L2.St) : Prop where
  len : ρ.length = σ.length
  ok : ∀ (i : Nat) (s : SL) (o : Option V), ρ[i]? = some s → σ[i]? = some o → SlOk K B F H as s o
  dis : ∀ (i j : Nat) (s t : SL), i ≠ j → ρ[i]? = some s → ρ[j]? = some t → s.isOw = true → t.isOw = true → σ[i]? ≠ σ[j]?
section
variable {K : PySem.W.Frag} {B F H F1 H1 : Hp} {as as1 : List Addr} {ρ : List SL} {σ : L2.St}
theorem SlOk.ext {s : SL} {o : Option V} (h : SlOk K B F H as s o) (e : Ext F H as F1 H1 as1) : SlOk K B F1 H1 as1 s o := by
  cases s with
  | no => trivial
  | fz d =>
    obtain ⟨v, h1, h2⟩ := h
    exact ⟨v, h1, e.rep h2⟩
  | ow ds =>
    obtain ⟨p, vs, h1, h2, h3, h4, h5, h6⟩ := h
    refine ⟨p, vs, h1, h2, ?_, (fun z => (e.an p z).elim h4 fun z => z.not h5 (fun _ => by simp)), e.k p _ h5 h4 (fun ps => by simp), e.reps h6⟩
    cases z : F1 p with
    | none => rfl
    | some o =>
      rcases e.fn p (by rw [z]; simp) with q | q
      · exact absurd h3 q
      · exact (q.not h5 (fun _ => by simp)).elim
  | od t =>
    obtain ⟨p, u, h1, h2, h3, h4, h5, h6⟩ := h
    refine ⟨p, u, h1, h2, ?_, (fun z => (e.an p z).elim h4 fun z => z.not h5 (t.nt h6)), e.k p _ h5 h4 (t.nt h6), t.mono e.f e.g h6⟩
    cases z : F1 p with
    | none => rfl
    | some o =>
      rcases e.fn p (by rw [z]; simp) with q | q
      · exact absurd h3 q
      · exact (q.not h5 (t.nt h6)).elim
theorem Slots.ext (h : Slots K B F H as ρ σ) (e : Ext F H as F1 H1 as1) : Slots K B F1 H1 as1 ρ σ := ⟨h.len, fun i s o a b => (h.ok i s o a b).ext e, h.dis⟩
theorem Slots.get {i : Nat} {d : D} (h : Slots K B F H as ρ σ) (q : ρ[i]? = some (.fz d)) : ∃ v, σ[i]? = some (some v) ∧ Rep K F as v d := by
  have hi : i < σ.length := by rw [← h.len]; exact (List.getElem?_eq_some_iff.mp q).1
  obtain ⟨v, h1, h2⟩ := h.ok i _ _ q (List.getElem?_eq_getElem hi)
  exact ⟨v, by rw [List.getElem?_eq_getElem hi, h1], h2⟩
theorem Slots.getOw {i : Nat} {ds : List D} (h : Slots K B F H as ρ σ) (q : ρ[i]? = some (.ow ds)) :
    ∃ p vs, σ[i]? = some (some (.ref p)) ∧ Lo B p ∧ F p = none ∧ p ∉ as ∧ H p = some (.lst vs) ∧ Reps K F as vs ds := by
  have hi : i < σ.length := by rw [← h.len]; exact (List.getElem?_eq_some_iff.mp q).1
  obtain ⟨p, vs, h1, h2⟩ := h.ok i _ _ q (List.getElem?_eq_getElem hi)
  exact ⟨p, vs, by rw [List.getElem?_eq_getElem hi, h1], h2⟩
theorem Slots.getOd {i : Nat} {t : OwnT} (h : Slots K B F H as ρ σ) (q : ρ[i]? = some (.od t)) :
    ∃ p u, σ[i]? = some (some (.ref p)) ∧ Lo B p ∧ F p = none ∧ p ∉ as ∧ H p = some u ∧ t.R K F as p u := by
  have hi : i < σ.length := by rw [← h.len]; exact (List.getElem?_eq_some_iff.mp q).1
  obtain ⟨p, u, h1, h2⟩ := h.ok i _ _ q (List.getElem?_eq_getElem hi)
  exact ⟨p, u, by rw [List.getElem?_eq_getElem hi, h1], h2⟩
/-- a slot takes data -/
theorem Slots.set {i : Nat} {v : V} {d : D} (h : Slots K B F H as ρ σ) (r : Rep K F as v d) : Slots K B F H as (ρ.set i (.fz d)) (σ.set i (some v)) := by
  refine ⟨by simp [h.len], fun j s o a b => ?_, fun j k s t n a b ha hb => ?_⟩
  · by_cases e : i = j
    · subst e
      have l1 : i < ρ.length := by
        have := (List.getElem?_eq_some_iff.mp a).1
        simpa using this
      rw [List.getElem?_set_self l1] at a
      rw [List.getElem?_set_self (by rw [← h.len]; exact l1)] at b
      cases a; cases b
      exact ⟨v, rfl, r⟩
    · rw [List.getElem?_set_ne e] at a b
      exact h.ok j s o a b
  · have nj : i ≠ j := fun e => by
      subst e
      by_cases l1 : i < ρ.length
      · rw [List.getElem?_set_self l1] at a; cases a; cases ha
      · rw [List.getElem?_eq_none (by simp; omega)] at a; cases a
    have nk : i ≠ k := fun e => by
      subst e
      by_cases l1 : i < ρ.length
      · rw [List.getElem?_set_self l1] at b; cases b; cases hb
      · rw [List.getElem?_eq_none (by simp; omega)] at b; cases b
    rw [List.getElem?_set_ne nj] at a ⊢
    rw [List.getElem?_set_ne nk] at b ⊢
    exact h.dis j k s t n a b ha hb
/-- what is forgotten -/
def SL.le : SL → SL → Prop
  | .no, _ => True
  | a, b => a = b
def SLe (ρ' ρ : List SL) : Prop := ρ'.length = ρ.length ∧ ∀ (i : Nat) s t, ρ'[i]? = some s → ρ[i]? = some t → s.le t
theorem SL.le_refl (s : SL) : s.le s := by cases s <;> first | trivial | rfl
theorem Slots.weak {ρ' : List SL} (h : Slots K B F H as ρ σ) (w : SLe ρ' ρ) : Slots K B F H as ρ' σ := by
  have wk : ∀ (i : Nat) s, ρ'[i]? = some s → s ≠ .no → ρ[i]? = some s := fun i s a n => by
    have l : i < ρ.length := by rw [← w.1]; exact (List.getElem?_eq_some_iff.mp a).1
    have q := w.2 i s _ a (List.getElem?_eq_getElem l)
    rw [List.getElem?_eq_getElem l]
    cases s with
    | no => exact absurd rfl n
    | fz d => exact congrArg some (show SL.fz d = _ from q).symm
    | ow ds => exact congrArg some (show SL.ow ds = _ from q).symm
    | od t => exact congrArg some (show SL.od t = _ from q).symm
  refine ⟨w.1.trans h.len, fun i s o a b => ?_, fun i j s t n a b ha hb => h.dis i j s t n (wk i _ a (fun e => by subst e; cases ha)) (wk j _ b (fun e => by subst e; cases hb)) ha hb⟩
  by_cases e : s = .no
  · subst e; trivial
  · exact h.ok i s o (wk i s a e) b
end

/-- an exception in the air shows x -/
def XRep (mg : Str → Option Value) (K : PySem.W.Frag) (F : Hp) (as : List Addr) (cls : Value) (dd : Option Addr) (x : Exc) : Prop :=
  mg x.cls = some cls ∧ (x.fs = [] → dd = none) ∧ (x.fs ≠ [] → ∃ a vs, dd = some a ∧ F a = some (.xd (x.fs.map (·.1) |>.zip vs)) ∧ vs.length = x.fs.length ∧ Reps K F as vs (x.fs.map (·.2)))
theorem XRep.ext {mg : Str → Option Value} {K : PySem.W.Frag} {F H F1 H1 : Hp} {as as1 : List Addr} {cls : Value} {dd : Option Addr} {x : Exc} (h : XRep mg K F as cls dd x) (e : Ext F H as F1 H1 as1) : XRep mg K F1 as1 cls dd x :=
  ⟨h.1, h.2.1, fun n => let ⟨a, vs, h1, h2, h3, h4⟩ := h.2.2 n; ⟨a, vs, h1, e.f _ _ h2, h3, e.reps h4⟩⟩

/-- what is wanted behind a piece that makes a thing of type α; Rl: how a value of the walk shows it -/
def Post {α β : Type} (K : PySem.W.Frag) (mg : Str → Option Value) (T : List (Addr × Str)) (F H : Hp) (as : List Addr) (Rl : Hp → List Addr → β → α → Prop) (Q : β → Hp → Prop) (E : Value → Option Addr → Hp → Prop) : R α → Prop
  | .ok a S' => ∀ v F' H' as', Ext F H as F' H' as' → Stt K T F' H' as' S' → Rl F' as' v a → Q v H'
  | .er x S' => ∀ cls dd F' H' as', Ext F H as F' H' as' → Stt K T F' H' as' S' → XRep mg K F' as' cls dd x → E cls dd H'
  | .no => False
section
variable {α β γ δ : Type} {K : PySem.W.Frag} {mg : Str → Option Value} {T : List (Addr × Str)} {F H : Hp} {as : List Addr} {Rl : Hp → List Addr → β → α → Prop} {Rm : Hp → List Addr → δ → γ → Prop} {Q : β → Hp → Prop} {Q' : δ → Hp → Prop} {E : Value → Option Addr → Hp → Prop}
/-- behind a bind -/
theorem Post.bind {S : Sx} {m : M γ} {k : γ → M α} (p : Post K mg T F H as Rl Q E ((m >>= k) S))
    (h : ∀ c v S' F' H' as', m S = .ok c S' → Ext F H as F' H' as' → Stt K T F' H' as' S' → Rm F' as' v c → Post K mg T F' H' as' Rl Q E (k c S') → Q' v H') : Post K mg T F H as Rm Q' E (m S) := by
  cases e : m S with
  | ok c S' =>
    rw [bind_ok e] at p
    intro v F' H' as' x st r
    refine h c v S' F' H' as' e x st r ?_
    cases e2 : k c S' with
    | ok a S2 =>
      rw [e2] at p
      exact fun v F2 H2 as2 x2 => p v F2 H2 as2 (x.trans x2)
    | er y S2 =>
      rw [e2] at p
      exact fun cls dd F2 H2 as2 x2 => p cls dd F2 H2 as2 (x.trans x2)
    | no => rw [e2] at p; exact p
  | er y S' =>
    rw [bind_er e] at p
    exact p
  | no =>
    rw [bind_no e] at p
    exact p
end

/-- e makes m of the slots ρ -/
def RepV (K : PySem.W.Frag) : Hp → List Addr → V → D → Prop := fun F as v d => Rep K F as v d
def RepB : Hp → List Addr → Bool → Bool → Prop := fun _ _ b c => b = c
def RepL (K : PySem.W.Frag) : Hp → List Addr → List V → List D → Prop := fun F as v d => Reps K F as v d
/-- the readings: of an expression, a test, arguments -/
def Snd {α β : Type} (Rl : Hp → List Addr → β → α → Prop) (K : PySem.W.Frag) (mg : Str → Option Value) (T : List (Addr × Str)) (W : WX) (B : Hp) (ρ : List SL) (t : L2.St → Hp → (β → Hp → Prop) → Prop) (m : M α) : Prop :=
  ∀ (σ : L2.St) (F H : Hp) (as : List Addr) (S : Sx) (Q : β → Hp → Prop), Stt K T F H as S → Slots K B F H as ρ σ → Post K mg T F H as Rl Q (fun cls dd H' => W cls dd σ H') (m S) → t σ H Q
/-- the greatest reading -/
def rd {α β : Type} (Rl : Hp → List Addr → β → α → Prop) (K : PySem.W.Frag) (mg : Str → Option Value) (T : List (Addr × Str)) (W : WX) (B : Hp) (ρ : List SL) (m : M α) : L2.St → Hp → (β → Hp → Prop) → Prop := fun σ H Q =>
  ∃ (F : Hp) (as : List Addr) (S : Sx), Stt K T F H as S ∧ Slots K B F H as ρ σ ∧ Post K mg T F H as Rl Q (fun cls dd H' => W cls dd σ H') (m S)
theorem snd_rd {α β : Type} {Rl : Hp → List Addr → β → α → Prop} {K : PySem.W.Frag} {mg : Str → Option Value} {T : List (Addr × Str)} {W : WX} {B : Hp} {ρ : List SL} {m : M α} : Snd Rl K mg T W B ρ (rd Rl K mg T W B ρ m) m := fun σ F H as S Q st sl p => ⟨F, as, S, st, sl, p⟩
structure VE (X : Cx) (T : List (Addr × Str)) (W : WX) (B : Hp) (ρ : List SL) (e : Expr) (m : M D) : Prop where
  t : ∃ t, PE X e t ∧ Snd (RepV X.K) X.K X.mg T W B ρ t m
structure VT (X : Cx) (T : List (Addr × Str)) (W : WX) (B : Hp) (ρ : List SL) (e : Expr) (m : M Bool) : Prop where
  t : ∃ t, PT X e t ∧ Snd RepB X.K X.mg T W B ρ t m
structure VA (X : Cx) (T : List (Addr × Str)) (W : WX) (B : Hp) (ρ : List SL) (es : List Expr) (m : M (List D)) : Prop where
  t : ∃ t, PA X es t ∧ Snd (RepL X.K) X.K X.mg T W B ρ t m
theorem VE.pe {X : Cx} {T : List (Addr × Str)} {W : WX} {B : Hp} {ρ : List SL} {e : Expr} {m : M D} (h : VE X T W B ρ e m) : PE X e (rd (RepV X.K) X.K X.mg T W B ρ m) := let ⟨_, p, s⟩ := h.t; ⟨fun pins st σ H Q I ⟨F, as, S, a, b, c⟩ => p.run pins st σ H Q I (s σ F H as S Q a b c)⟩
theorem VT.pt {X : Cx} {T : List (Addr × Str)} {W : WX} {B : Hp} {ρ : List SL} {e : Expr} {m : M Bool} (h : VT X T W B ρ e m) : PT X e (rd RepB X.K X.mg T W B ρ m) := let ⟨_, p, s⟩ := h.t; ⟨fun pins st σ H Q I ⟨F, as, S, a, b, c⟩ => p.run pins st σ H Q I (s σ F H as S Q a b c)⟩
theorem VA.pa {X : Cx} {T : List (Addr × Str)} {W : WX} {B : Hp} {ρ : List SL} {es : List Expr} {m : M (List D)} (h : VA X T W B ρ es m) : PA X es (rd (RepL X.K) X.K X.mg T W B ρ m) := let ⟨_, p, s⟩ := h.t; ⟨fun pos pins st σ H Q I ⟨F, as, S, a, b, c⟩ => p.run pos pins st σ H Q I (s σ F H as S Q a b c)⟩
theorem VE.of {X : Cx} {T : List (Addr × Str)} {W : WX} {B : Hp} {ρ : List SL} {e : Expr} {m : M D} (h : PE X e (rd (RepV X.K) X.K X.mg T W B ρ m)) : VE X T W B ρ e m := ⟨_, h, snd_rd⟩
end VL

/-! VLExpr: operators, comparisons, displays, subscripts, calls of built-ins, and or not, of data. -/
namespace VL
open PySem PySem.Spec PyProof.Rows L2

/-! ### new objects -/
section
variable {K : PySem.W.Frag} {T : List (Addr × Str)} {F H : Hp} {as : List Addr} {S : Sx} {p : Addr} {o : HO}
theorem Ext.new (hp : H p = none) (st : Stt K T F H as S) : Ext F H as (upd F p o) (upd H p o) as := by
  have fp : F p = none := by
    cases z : F p with
    | none => rfl
    | some u => rw [st.fz p u z] at hp; cases hp
  refine ⟨fun a u h => by rw [upd_ne (ne_of_none h fp)]; exact h, fun _ _ h => h, fun a u h _ _ => by rw [upd_ne (ne_of_none h hp)]; exact h, fun a h => ?_, fun _ h => .inl h, fun a h => ?_⟩
  · by_cases e : a = p
    · exact .inr (.none (e ▸ hp))
    · rw [upd_ne e] at h; exact .inl h
  · by_cases e : a = p
    · exact .none (e ▸ hp)
    · intro u hu; exact h u (by rw [upd_ne e]; exact hu)
theorem Stt.new (hp : H p = none) (st : Stt K T F H as S) (ho : ∀ ps, o ≠ .tbl ps) : Stt K T (upd F p o) (upd H p o) as S := by
  have e := Ext.new (o := o) hp st
  refine ⟨fun a u h => ?_, fun a ps h => ?_, st.tabs.ext fun b u h => by rw [upd_ne (ne_of_none h hp)]; exact h, st.len, st.nod, fun n a h => ?_⟩
  · by_cases q : a = p
    · rw [q, upd_same] at h; rw [q, upd_same]; exact h
    · rw [upd_ne q] at h; rw [upd_ne q]; exact st.fz a u h
  · by_cases q : a = p
    · rw [q, upd_same] at h; exact ho ps (Option.some.inj h)
    · rw [upd_ne q] at h; exact st.nt a ps h
  · obtain ⟨h1, vs, ds, h2, h3, h4⟩ := st.cel n a h
    have q : a ≠ p := ne_of_none h3 hp
    exact ⟨by rw [upd_ne q]; exact h1, vs, ds, h2, by rw [upd_ne q]; exact h3, e.reps h4⟩
end

/-! ### operators by values -/
/-- op tells what the rule r gives -/
def OpD (K : PySem.W.Frag) (mg : Str → Option Value) (T : List (Addr × Str)) (r : R2) (op : D → D → M D) : Prop :=
  ∀ {F H : Hp} {as : List Addr} {S : Sx} {x y : V} {dx dy : D} {Q : VK} {E : Value → Option Addr → Hp → Prop}, Stt K T F H as S → Rep K F as x dx → Rep K F as y dy → Post K mg T F H as (RepV K) Q E (op dx dy S) → r x y H Q
def UnD (K : PySem.W.Frag) (mg : Str → Option Value) (T : List (Addr × Str)) (r : V → Hp → VK → Prop) (op : D → M D) : Prop :=
  ∀ {F H : Hp} {as : List Addr} {S : Sx} {x : V} {dx : D} {Q : VK} {E : Value → Option Addr → Hp → Prop}, Stt K T F H as S → Rep K F as x dx → Post K mg T F H as (RepV K) Q E (op dx S) → r x H Q
/-- a call of a built-in by values -/
def CaD (K : PySem.W.Frag) (mg : Str → Option Value) (T : List (Addr × Str)) (r : List V → Hp → VK → Prop) (op : List D → M D) : Prop :=
  ∀ {F H : Hp} {as : List Addr} {S : Sx} {xs : List V} {ds : List D} {Q : VK} {E : Value → Option Addr → Hp → Prop}, Stt K T F H as S → Reps K F as xs ds → Post K mg T F H as (RepV K) Q E (op ds S) → r xs H Q

/-- m answers d, the state as it is -/
theorem pu_ok {K : PySem.W.Frag} {mg : Str → Option Value} {T : List (Addr × Str)} {F H : Hp} {as : List Addr} {S : Sx} {Q : VK} {E : Value → Option Addr → Hp → Prop} {d : D} {v : V} (st : Stt K T F H as S) (r : Rep K F as v d)
    (p : Post K mg T F H as (RepV K) Q E ((pure d : M D) S)) : Q v H := p v F H as Ext.refl st r
theorem new_ok {K : PySem.W.Frag} {mg : Str → Option Value} {T : List (Addr × Str)} {F H : Hp} {as : List Addr} {S : Sx} {Q : VK} {E : Value → Option Addr → Hp → Prop} {d : D} {p : Addr} {o : HO} (st : Stt K T F H as S) (hp : H p = none) (ho : ∀ ps, o ≠ .tbl ps)
    (r : Rep K (upd F p o) as (.ref p) d) (q : Post K mg T F H as (RepV K) Q E ((pure d : M D) S)) : Q (.ref p) (upd H p o) := q (.ref p) _ _ as (Ext.new hp st) (st.new hp ho) r
theorem new_tup {K : PySem.W.Frag} {mg : Str → Option Value} {T : List (Addr × Str)} {F H : Hp} {as : List Addr} {S : Sx} {Q : VK} {E : Value → Option Addr → Hp → Prop} {ds : List D} {vs : List V} {p : Addr} (st : Stt K T F H as S) (hp : H p = none) (r : Reps K F as vs ds)
    (q : Post K mg T F H as (RepV K) Q E ((pure (.tup ds) : M D) S)) : Q (.ref p) (upd H p (.tup vs)) :=
  new_ok st hp (fun _ => by simp) (.tup (SqT.of upd_same) ((Ext.new hp st).reps r)) q
theorem new_lst {K : PySem.W.Frag} {mg : Str → Option Value} {T : List (Addr × Str)} {F H : Hp} {as : List Addr} {S : Sx} {Q : VK} {E : Value → Option Addr → Hp → Prop} {ds : List D} {vs : List V} {p : Addr} (st : Stt K T F H as S) (hp : H p = none) (r : Reps K F as vs ds)
    (q : Post K mg T F H as (RepV K) Q E ((pure (.lst ds) : M D) S)) : Q (.ref p) (upd H p (.lst vs)) :=
  new_ok st hp (fun _ => by simp) (.lst upd_same ((Ext.new hp st).reps r)) q

section
variable {X : Cx} {T : List (Addr × Str)} {W : WX} {B : Hp} {ρ : List SL} {a b c : Expr} {ma mb mc : M D} {pos : Pos}
theorem snd_op {r : R2} {op : D → D → M D} {ta tb : TE} (h : OpD X.K X.mg T r op) (ha : Snd (RepV X.K) X.K X.mg T W B ρ ta ma) (hb : Snd (RepV X.K) X.K X.mg T W B ρ tb mb) :
    Snd (RepV X.K) X.K X.mg T W B ρ (tOp r ta tb) (ma >>= fun x => mb >>= fun y => op x y) := fun σ F H as S Q st sl p =>
  ha σ F H as S _ st sl (p.bind fun d1 v1 S1 F1 H1 as1 _ e1 st1 r1 p1 =>
    hb σ F1 H1 as1 S1 _ st1 (sl.ext e1) (p1.bind fun d2 v2 S2 F2 H2 as2 _ e2 st2 r2 p2 => h st2 (e2.rep r1) r2 p2))
theorem ve_op {o : Operator} {r : R2} {op : D → D → M D} (ho : OpR X (binaryOp o) r) (h : OpD X.K X.mg T r op) (ha : VE X T W B ρ a ma) (hb : VE X T W B ρ b mb) :
    VE X T W B ρ (.BinOp a o b pos) (ma >>= fun x => mb >>= fun y => op x y) :=
  let ⟨ta, pa, sa⟩ := ha.t; let ⟨tb, pb, sb⟩ := hb.t; ⟨_, pe_op ho pa pb, snd_op h sa sb⟩
theorem ve_un {o : UnaryOp} {r : V → Hp → VK → Prop} {op : D → M D} (ho : UnR X (unaryOp o) r) (h : UnD X.K X.mg T r op) (ha : VE X T W B ρ a ma) : VE X T W B ρ (.UnaryOp o a pos) (ma >>= op) :=
  let ⟨ta, pa, sa⟩ := ha.t
  ⟨_, pe_un ho pa, fun σ F H as S Q st sl p => sa σ F H as S _ st sl (p.bind fun d1 v1 S1 F1 H1 as1 _ e1 st1 r1 p1 => h st1 r1 p1)⟩
theorem ve_cmp {o : CmpOp} {r : R2} {op : D → D → M D} (ho : OpR X (compareOp o) r) (h : OpD X.K X.mg T r op) (ha : VE X T W B ρ a ma) (hb : VE X T W B ρ b mb) (hm : behindInMarks o b = false := by first | exact nomark _ | rfl) :
    VE X T W B ρ (.Compare a [o] [b] pos) (ma >>= fun x => mb >>= fun y => op x y) :=
  let ⟨ta, pa, sa⟩ := ha.t; let ⟨tb, pb, sb⟩ := hb.t; ⟨_, pe_cmpR ho pa pb hm, snd_op h sa sb⟩
end

/-! ### ints -/
def addI : D → D → M D
  | .int i, .int j => pure (.int (i + j))
  | _, _ => no
def subD : D → D → M D
  | .int i, .int j => pure (.int (i - j))
  | _, _ => no
def MulOk (i j : Int) : Prop := i.natAbs < 2 ^ 64 ∨ j.natAbs < 2 ^ 64 ∨ i.natAbs.log2 + j.natAbs.log2 < 1000000
instance (i j : Int) : Decidable (MulOk i j) := by unfold MulOk; infer_instance
def mulI : D → D → M D
  | .int i, .int j => if MulOk i j then pure (.int (i * j)) else no
  | _, _ => no
def DivOk (j : Int) : Prop := j ≠ 0 ∧ j.natAbs.log2 < 9000
instance (j : Int) : Decidable (DivOk j) := by unfold DivOk; infer_instance
def fdivD : D → D → M D
  | .int i, .int j => if DivOk j then pure (.int (i.fdiv j)) else no
  | _, _ => no
def modD : D → D → M D
  | .int i, .int j => if j = 0 then no else pure (.int (i.fmod j))
  | _, _ => no
def powD : D → D → M D
  | .int i, .int j => if 0 ≤ j ∧ j ≤ 1000000 ∧ i.natAbs < 2 ^ 64 then pure (.int (i ^ j.toNat)) else no
  | _, _ => no
def negD : D → M D
  | .int i => pure (.int (-i))
  | _ => no
def asI : D → M Int
  | .int i => pure i
  | _ => no
def ltD : D → D → M D
  | .int i, .int j => pure (.bl (decide (i < j)))
  | _, _ => no
def leD : D → D → M D
  | .int i, .int j => pure (.bl (decide (i ≤ j)))
  | _, _ => no
def gtD : D → D → M D
  | .int i, .int j => pure (.bl (decide (j < i)))
  | _, _ => no
def geD : D → D → M D
  | .int i, .int j => pure (.bl (decide (j ≤ i)))
  | _, _ => no
section
variable {X : Cx} {K : PySem.W.Frag} {mg : Str → Option Value} {T : List (Addr × Str)}
theorem MulOk.ok {i j : Int} (h : MulOk i j) : IntMulOk i j := by
  rcases h with h | h | h
  · exact CMul.ok (.inl ⟨by omega, by omega⟩)
  · exact CMul.ok (.inr ⟨by omega, by omega⟩)
  · exact CMulW.ok h
theorem op_mulV : OpR X (binaryOp .Mult) (rI MulOk fun i j => .int (i * j)) := opI fun _ _ _ _ _ _ _ hc q => mul_int q hc.ok
theorem op_fdivV : OpR X (binaryOp .FloorDiv) (rI (fun _ j => DivOk j) fun i j => .int (i.fdiv j)) := opI fun i j _ _ _ _ _ hc q => floordiv_int hc.1 q (.inl (PyProof.noPylong_of_log2 hc.2))
/-- of two ints -/
theorem opd_I {g : Int → Int → D} {gv : Int → Int → V} {C : Int → Int → Prop} [∀ i j, Decidable (C i j)] {op : D → D → M D} (h1 : ∀ i j, op (.int i) (.int j) = if C i j then pure (g i j) else no) (h2 : ∀ x y, (∀ i j, ¬ (x = .int i ∧ y = .int j)) → op x y = no)
    (hg : ∀ {F : Hp} {as : List Addr} i j, Rep K F as (gv i j) (g i j)) : OpD K mg T (rI C gv) op := by
  intro F H as S x y dx dy Q E st rx ry p
  by_cases e : ∃ i j, dx = .int i ∧ dy = .int j
  · obtain ⟨i, j, rfl, rfl⟩ := e
    cases rx; cases ry
    rw [h1] at p
    by_cases c : C i j
    · rw [if_pos c] at p
      exact ⟨i, j, rfl, rfl, c, pu_ok st (hg i j) p⟩
    · rw [if_neg c] at p
      exact False.elim p
  · rw [h2 dx dy fun i j q => e ⟨i, j, q⟩] at p
    exact False.elim p
theorem opd_I0 {g : Int → Int → D} {gv : Int → Int → V} {op : D → D → M D} (h1 : ∀ i j, op (.int i) (.int j) = pure (g i j)) (h2 : ∀ x y, (∀ i j, ¬ (x = .int i ∧ y = .int j)) → op x y = no)
    (hg : ∀ {F : Hp} {as : List Addr} i j, Rep K F as (gv i j) (g i j)) : OpD K mg T (rI0 gv) op := by
  intro F H as S x y dx dy Q E st rx ry p
  by_cases e : ∃ i j, dx = .int i ∧ dy = .int j
  · obtain ⟨i, j, rfl, rfl⟩ := e
    cases rx; cases ry
    rw [h1] at p
    exact ⟨i, j, rfl, rfl, pu_ok st (hg i j) p⟩
  · rw [h2 dx dy fun i j q => e ⟨i, j, q⟩] at p
    exact False.elim p
theorem d_sub : OpD K mg T (rI0 fun i j => .int (i - j)) subD := opd_I0 (g := fun i j => .int (i - j)) (fun _ _ => rfl) (fun x y h => by cases x <;> cases y <;> first | rfl | exact absurd ⟨rfl, rfl⟩ (h _ _)) (fun _ _ => .int _)
theorem d_mul : OpD K mg T (rI MulOk fun i j => .int (i * j)) mulI := opd_I (g := fun i j => .int (i * j)) (fun _ _ => rfl) (fun x y h => by cases x <;> cases y <;> first | rfl | exact absurd ⟨rfl, rfl⟩ (h _ _)) (fun _ _ => .int _)
theorem d_fdiv : OpD K mg T (rI (fun _ j => DivOk j) fun i j => .int (i.fdiv j)) fdivD := opd_I (g := fun i j => .int (i.fdiv j)) (fun _ _ => rfl) (fun x y h => by cases x <;> cases y <;> first | rfl | exact absurd ⟨rfl, rfl⟩ (h _ _)) (fun _ _ => .int _)
theorem d_mod : OpD K mg T (rI (fun _ j => j ≠ 0) fun i j => .int (i.fmod j)) modD := opd_I (g := fun i j => .int (i.fmod j)) (fun i j => by show (if j = 0 then no else _) = _; by_cases e : j = 0 <;> simp [e]) (fun x y h => by cases x <;> cases y <;> first | rfl | exact absurd ⟨rfl, rfl⟩ (h _ _)) (fun _ _ => .int _)
theorem d_pow : OpD K mg T (rI CPow fun i j => .int (i ^ j.toNat)) powD := by
  intro F H as S x y dx dy Q E st rx ry p
  cases dx with
  | int i =>
    cases dy with
    | int j =>
      cases rx; cases ry
      by_cases c : 0 ≤ j ∧ j ≤ 1000000 ∧ i.natAbs < 2 ^ 64
      · rw [show powD (.int i) (.int j) = pure (.int (i ^ j.toNat)) from if_pos c] at p
        exact ⟨i, j, rfl, rfl, c, pu_ok st (.int _) p⟩
      · rw [show powD (.int i) (.int j) = no from if_neg c] at p
        exact False.elim p
    | _ => exact False.elim p
  | _ => exact False.elim p
theorem d_lt : OpD K mg T (rI0 fun i j => .bl (decide (i < j))) ltD := opd_I0 (g := fun i j => .bl (decide (i < j))) (fun _ _ => rfl) (fun x y h => by cases x <;> cases y <;> first | rfl | exact absurd ⟨rfl, rfl⟩ (h _ _)) (fun _ _ => .bl _)
theorem d_le : OpD K mg T (rI0 fun i j => .bl (decide (i ≤ j))) leD := opd_I0 (g := fun i j => .bl (decide (i ≤ j))) (fun _ _ => rfl) (fun x y h => by cases x <;> cases y <;> first | rfl | exact absurd ⟨rfl, rfl⟩ (h _ _)) (fun _ _ => .bl _)
theorem d_gt : OpD K mg T (rI0 fun i j => .bl (decide (j < i))) gtD := opd_I0 (g := fun i j => .bl (decide (j < i))) (fun _ _ => rfl) (fun x y h => by cases x <;> cases y <;> first | rfl | exact absurd ⟨rfl, rfl⟩ (h _ _)) (fun _ _ => .bl _)
theorem d_ge : OpD K mg T (rI0 fun i j => .bl (decide (j ≤ i))) geD := opd_I0 (g := fun i j => .bl (decide (j ≤ i))) (fun _ _ => rfl) (fun x y h => by cases x <;> cases y <;> first | rfl | exact absurd ⟨rfl, rfl⟩ (h _ _)) (fun _ _ => .bl _)
theorem d_neg : UnD K mg T (rU fun i => .int (-i)) negD := by
  intro F H as S x dx Q E st rx p
  cases dx with
  | int i => cases rx; exact ⟨i, rfl, pu_ok st (.int _) p⟩
  | _ => exact False.elim p
end

/-! ### + of ints, texts, tuples, lists -/
def lim : Nat := 1000000
theorem lim_line {n : Nat} (h : n ≤ lim) : n ≤ sizeLine := by
  have e : sizeLine = 16777216 := sizeLine_eq
  unfold lim at h
  omega
def addD : D → D → M D
  | .int i, .int j => pure (.int (i + j))
  | .str a, .str b => if a.length + b.length ≤ lim then pure (.str (a ++ b)) else no
  | .tup xs, .tup ys => if xs.length + ys.length ≤ lim then pure (.tup (xs ++ ys)) else no
  | .lst xs, .lst ys => if xs.length + ys.length ≤ lim then pure (.lst (xs ++ ys)) else no
  | _, _ => no
section
variable {X : Cx} {K : PySem.W.Frag} {mg : Str → Option Value} {T : List (Addr × Str)}
def rAddD (K : PySem.W.Frag) : R2 := fun x y H Q => (∃ i j, x = .int i ∧ y = .int j ∧ Q (.int (i + j)) H) ∨ (∃ i j, x = .str i ∧ y = .str j ∧ i.length + j.length ≤ sizeLine ∧ Q (.str (i ++ j)) H) ∨ rCatA K x y H Q ∨ rCat x y H Q
theorem op_addD : OpR X (binaryOp .Add) (rAddD X.K) := OpR.or op_add (OpR.or op_add_str (OpR.or op_catA op_cat))
theorem Rep.lstAt {F : Hp} {as : List Addr} {v : V} {ds : List D} (r : Rep K F as v (.lst ds)) : ∃ a vs, v = .ref a ∧ F a = some (.lst vs) ∧ Reps K F as vs ds := by
  cases r with
  | lst h q => exact ⟨_, _, rfl, h, q⟩
theorem Rep.tupAt {F : Hp} {as : List Addr} {v : V} {ds : List D} (r : Rep K F as v (.tup ds)) : ∃ a vs, v = .ref a ∧ SqT K F a vs ∧ Reps K F as vs ds := by
  cases r with
  | tup h q => exact ⟨_, _, rfl, h, q⟩
theorem Rep.scrAt {F : Hp} {as : List Addr} {v : V} {ns : List Int} (r : Rep K F as v (.scr ns)) : ∃ a, v = .ref a ∧ SqL K F a (ns.map V.int) := by
  cases r with
  | scr h => exact ⟨_, rfl, h⟩
theorem d_add : OpD K mg T (rAddD K) addD := by
  intro F H as S x y dx dy Q E st rx ry p
  cases dx with
  | int i =>
    cases dy with
    | int j =>
      cases rx; cases ry
      exact .inl ⟨i, j, rfl, rfl, pu_ok st (.int _) p⟩
    | _ => exact False.elim p
  | str i =>
    cases dy with
    | str j =>
      cases rx; cases ry
      by_cases c : i.length + j.length ≤ lim
      · rw [show addD (.str i) (.str j) = pure (.str (i ++ j)) from if_pos c] at p
        exact .inr (.inl ⟨i, j, rfl, rfl, lim_line c, pu_ok st (.str _) p⟩)
      · rw [show addD (.str i) (.str j) = no from if_neg c] at p
        exact False.elim p
    | _ => exact False.elim p
  | tup xs =>
    cases dy with
    | tup ys =>
      obtain ⟨a, vs, rfl, h1, r1⟩ := rx.tupAt
      obtain ⟨b, us, rfl, h2, r2⟩ := ry.tupAt
      by_cases c : xs.length + ys.length ≤ lim
      · rw [show addD (.tup xs) (.tup ys) = pure (.tup (xs ++ ys)) from if_pos c] at p
        refine .inr (.inr (.inl ⟨a, b, vs, us, rfl, rfl, SqT.mono h1 st.fz, SqT.mono h2 st.fz, by rw [r1.length, r2.length]; exact lim_line c, fun e => ?_, fun _ e => ?_, fun _ _ q hq => new_tup st hq (r1.append r2) p⟩))
        · subst e
          have e2 : xs = [] := List.length_eq_zero_iff.mp (by rw [← r1.length]; rfl)
          rw [e2] at p
          exact pu_ok st ry p
        · subst e
          have e2 : ys = [] := List.length_eq_zero_iff.mp (by rw [← r2.length]; rfl)
          rw [e2, List.append_nil] at p
          exact pu_ok st rx p
      · rw [show addD (.tup xs) (.tup ys) = no from if_neg c] at p
        exact False.elim p
    | _ => exact False.elim p
  | lst xs =>
    cases dy with
    | lst ys =>
      obtain ⟨a, vs, rfl, h1, r1⟩ := rx.lstAt
      obtain ⟨b, us, rfl, h2, r2⟩ := ry.lstAt
      by_cases c : xs.length + ys.length ≤ lim
      · rw [show addD (.lst xs) (.lst ys) = pure (.lst (xs ++ ys)) from if_pos c] at p
        exact .inr (.inr (.inr ⟨a, b, vs, us, rfl, rfl, st.fz _ _ h1, st.fz _ _ h2, by rw [r1.length, r2.length]; exact lim_line c, fun q hq => new_lst st hq (r1.append r2) p⟩))
      · rw [show addD (.lst xs) (.lst ys) = no from if_neg c] at p
        exact False.elim p
    | _ => exact False.elim p
  | _ => exact False.elim p
end

/-! ### names, constants, displays -/
section
variable {X : Cx} {T : List (Addr × Str)} {W : WX} {B : Hp} {ρ : List SL} {a b c e : Expr} {es : List Expr} {ma mb mc m : M D} {ms : M (List D)} {pos : Pos}
theorem snd_pure {d : D} {v : V} (h : ∀ F as, Rep X.K F as v d) : Snd (RepV X.K) X.K X.mg T W B ρ (tC v) (pure d) := fun σ F H as S Q st sl p => pu_ok st (h F as) p
theorem ve_var {x : Str} {d : D} (i : Nat) (hd : ρ[i]? = some (.fz d) := by rfl) (hN : X.N[i]? = some x := by rfl) (hv : Vis X.env.scope x := by first | exact .inl rfl | exact .inr (.inl rfl) | exact .inr (.inr rfl)) (h1 : (x == ("__debug__" : Str)) = false := by decide) (h2 : (x == ("__classdict__" : Str)) = false := by decide) :
    VE X T W B ρ (.Name x pos) (pure d) := ⟨_, pe_var (i := i) hN hv h1 h2, fun σ F H as S Q st sl p => let ⟨v, e, r⟩ := sl.get hd; ⟨v, e, pu_ok st r p⟩⟩
theorem ve_int {i : Int} {j : Nat} : VE X T W B ρ (.Constant (.int i) j pos) (pure (.int i)) := ⟨_, pe_int, snd_pure fun _ _ => .int i⟩
theorem ve_bl {b : Bool} {j : Nat} : VE X T W B ρ (.Constant (.bool b) j pos) (pure (.bl b)) := ⟨_, pe_bl, snd_pure fun _ _ => .bl b⟩
theorem ve_non {j : Nat} : VE X T W B ρ (.Constant .none j pos) (pure .non) := ⟨_, pe_non, snd_pure fun _ _ => .non⟩
theorem ve_str {x : Str} {j : Nat} : VE X T W B ρ (.Constant (.str x) j pos) (pure (.str x)) := ⟨_, pe_str, snd_pure fun _ _ => .str x⟩
/-- a name of the module: a constant, a class, a def -/
theorem ve_glob {x : Str} {v : V} {u : Value} {d : D} (hg : Gl X x) (hm : X.mg x = some u) (r : RelV v u) (h : ∀ F as, Rep X.K F as v d) (hd : (x == ("__debug__" : Str)) = false := by decide) : VE X T W B ρ (.Name x pos) (pure d) := ⟨_, pe_glob hg hm r hd, snd_pure h⟩
theorem va_nil : VA X T W B ρ [] (pure []) := ⟨_, pa_nil, fun σ F H as S Q st sl p => p [] F H as Ext.refl st .nil⟩
theorem va_cons (he : VE X T W B ρ e m) (hr : VA X T W B ρ es ms) (hs : starEach (e :: es) X.env = (false, eval e X.env) :: starEach es X.env := by rfl) : VA X T W B ρ (e :: es) (m >>= fun d => ms >>= fun ds => pure (d :: ds)) :=
  let ⟨te, pe, se⟩ := he.t; let ⟨tr, pr, sr⟩ := hr.t
  ⟨_, pa_cons pe pr hs, fun σ F H as S Q st sl p => se σ F H as S _ st sl (p.bind fun d1 v1 S1 F1 H1 as1 _ e1 st1 r1 p1 =>
    sr σ F1 H1 as1 S1 _ st1 (sl.ext e1) (p1.bind fun d2 v2 S2 F2 H2 as2 _ e2 st2 r2 p2 => p2 _ F2 H2 as2 Ext.refl st2 (.cons (e2.rep r1) r2)))⟩
def tupD (ds : List D) : M D := if ds.length ≤ lim then pure (.tup ds) else no
def lstD (ds : List D) : M D := if ds.length ≤ lim then pure (.lst ds) else no
theorem ve_tup {k : Nat} (h : VA X T W B ρ es ms) : VE X T W B ρ (.Tuple es k pos) (ms >>= tupD) :=
  let ⟨t, pa, s⟩ := h.t
  ⟨_, pe_tup pa, fun σ F H as S Q st sl p => s σ F H as S _ st sl (p.bind fun ds vs S1 F1 H1 as1 _ e1 st1 r1 p1 => by
    unfold tupD at p1
    by_cases c : ds.length ≤ lim
    · rw [if_pos c] at p1
      exact ⟨by rw [Reps.length r1]; exact lim_line c, fun q hq => new_tup st1 hq r1 p1⟩
    · rw [if_neg c] at p1
      exact False.elim p1)⟩
theorem ve_lst (h : VA X T W B ρ es ms) : VE X T W B ρ (.List es pos) (ms >>= lstD) :=
  let ⟨t, pa, s⟩ := h.t
  ⟨_, pe_lst pa, fun σ F H as S Q st sl p => s σ F H as S _ st sl (p.bind fun ds vs S1 F1 H1 as1 _ e1 st1 r1 p1 => by
    unfold lstD at p1
    by_cases c : ds.length ≤ lim
    · rw [if_pos c] at p1
      exact ⟨by rw [Reps.length r1]; exact lim_line c, fun q hq => new_lst st1 hq r1 p1⟩
    · rw [if_neg c] at p1
      exact False.elim p1)⟩
theorem ve_emp : VE X T W B ρ (.Dict [] [] pos) (pure .emp) :=
  ⟨_, pe_dnewK, fun σ F H as S Q st sl p => fun q hq => new_ok st hq (fun _ => by simp) (.emp upd_same) p⟩
end
end VL

/-! VLMore: subscripts, truth, comparisons of data, tests, built-ins. -/
namespace VL
open PySem PySem.Spec PyProof.Rows L2

/-! ### data as the library's data -/
mutual
def D.py : D → PyData
  | .non => .none
  | .bl b => .bool b
  | .int i => .int i
  | .str x => .str x
  | .tup xs => .tuple (D.pys xs)
  | .lst xs => .list (D.pys xs)
  | .scr ns => .list (ns.map .int)
  | .emp => .none
  | .cell _ => .none
  | .adr _ => .none
def D.pys : List D → List PyData
  | [] => []
  | d :: ds => d.py :: D.pys ds
end
mutual
/-- nothing but data within -/
def D.plain : D → Bool
  | .non => true
  | .bl _ => true
  | .int _ => true
  | .str _ => true
  | .tup xs => D.plains xs
  | .lst xs => D.plains xs
  | .scr _ => false
  | .emp => false
  | .cell _ => false
  | .adr _ => false
def D.plains : List D → Bool
  | [] => true
  | d :: ds => d.plain && D.plains ds
end
section
variable {K : PySem.W.Frag} {F H : Hp} {as : List Addr}
mutual
theorem Rep.dp (fz : ∀ a o, F a = some o → H a = some o) : ∀ {d : D} {v : V}, Rep K F as v d → d.plain = true → Dp K H v d.py
  | .non, _, h, _ => by cases h; exact .non
  | .bl b, _, h, _ => by cases h; exact .bl b
  | .int i, _, h, _ => by cases h; exact .int i
  | .str x, _, h, _ => by cases h; exact .str x
  | .tup xs, _, h, p => by
    cases h with
    | tup h1 h2 => exact .tup (SqT.mono h1 fz) (Reps.dp fz h2 (by simpa [D.plain] using p))
  | .lst xs, _, h, p => by
    cases h with
    | lst h1 h2 => exact .lst (SqL.of (fz _ _ h1)) (Reps.dp fz h2 (by simpa [D.plain] using p))
  | .scr _, _, _, p => by simp [D.plain] at p
  | .emp, _, _, p => by simp [D.plain] at p
  | .cell _, _, _, p => by simp [D.plain] at p
  | .adr _, _, _, p => by simp [D.plain] at p
theorem Reps.dp (fz : ∀ a o, F a = some o → H a = some o) : ∀ {ds : List D} {vs : List V}, Reps K F as vs ds → D.plains ds = true → DpAll K H vs (D.pys ds)
  | [], _, h, _ => by cases h; exact .nil
  | d :: ds, _, h, p => by
    cases h with
    | cons h1 h2 =>
      have q : d.plain = true ∧ D.plains ds = true := by simpa [D.plains, Bool.and_eq_true] using p
      exact .cons (Rep.dp fz h1 q.1) (Reps.dp fz h2 q.2)
end
end

/-! ### == and != -/
/-- may be compared -/
def D.cmp (d : D) : Bool := d.plain && SeqAt.shaped d.py
def eqB (x y : D) : M Bool := if x.cmp = true ∧ y.cmp = true then pure (PyData.eqv x.py y.py) else no
def eqD (x y : D) : M D := eqB x y >>= fun b => pure (.bl b)
def neD (x y : D) : M D := eqB x y >>= fun b => pure (.bl (!b))
section
variable {X : Cx} {K : PySem.W.Frag} {mg : Str → Option Value} {T : List (Addr × Str)}
theorem d_eq : OpD K mg T (rEqD K) eqD := by
  intro F H as S x y dx dy Q E st rx ry p
  unfold eqD eqB at p
  by_cases c : dx.cmp = true ∧ dy.cmp = true
  · rw [if_pos c] at p
    have c1 := Bool.and_eq_true_iff.mp c.1
    have c2 := Bool.and_eq_true_iff.mp c.2
    exact ⟨dx.py, dy.py, rx.dp st.fz c1.1, ry.dp st.fz c2.1, c1.2, c2.2, pu_ok st (.bl _) p⟩
  · rw [if_neg c] at p
    exact False.elim p
theorem d_ne : OpD K mg T (rNeD K) neD := by
  intro F H as S x y dx dy Q E st rx ry p
  unfold neD eqB at p
  by_cases c : dx.cmp = true ∧ dy.cmp = true
  · rw [if_pos c] at p
    have c1 := Bool.and_eq_true_iff.mp c.1
    have c2 := Bool.and_eq_true_iff.mp c.2
    exact ⟨dx.py, dy.py, rx.dp st.fz c1.1, ry.dp st.fz c2.1, c1.2, c2.2, pu_ok st (.bl _) p⟩
  · rw [if_neg c] at p
    exact False.elim p
/-- is None -/
def isN (x : D) : Bool := match x with
  | .non => true
  | _ => false
def isD (x y : D) : M D := match y with
  | .non => pure (.bl (isN x))
  | _ => no
def isntD (x y : D) : M D := match y with
  | .non => pure (.bl (!isN x))
  | _ => no
theorem isN_of {F : Hp} {as : List Addr} {x : V} {d : D} (r : Rep K F as x d) : decide (x = .non) = isN d := by
  cases r <;> rfl
theorem d_is : OpD K mg T (fun x y H Q => y = .non ∧ Q (.bl (decide (x = .non))) H) isD := by
  intro F H as S x y dx dy Q E st rx ry p
  cases dy with
  | non =>
    cases ry
    exact ⟨rfl, pu_ok st (by rw [isN_of rx]; exact .bl _) p⟩
  | _ => exact False.elim p
theorem d_isnt : OpD K mg T (fun x y H Q => y = .non ∧ Q (.bl (!decide (x = .non))) H) isntD := by
  intro F H as S x y dx dy Q E st rx ry p
  cases dy with
  | non =>
    cases ry
    exact ⟨rfl, pu_ok st (by rw [isN_of rx]; exact .bl _) p⟩
  | _ => exact False.elim p
end

/-! ### truth -/
def truB : D → M Bool
  | .non => pure false
  | .bl b => pure b
  | .int i => pure (i != 0)
  | .str x => if x.length ≤ lim then pure ((x.length : Int) != 0) else no
  | .tup xs => pure (!xs.isEmpty)
  | .lst xs => pure (!xs.isEmpty)
  | _ => no
section
variable {X : Cx} {K : PySem.W.Frag} {mg : Str → Option Value} {T : List (Addr × Str)} {W : WX} {B : Hp} {ρ : List SL} {a b c e : Expr} {rest : List Expr} {ma mb mc m : M D} {mt mu : M Bool} {pos : Pos}
theorem Reps.isEmpty {F : Hp} {as : List Addr} {vs : List V} {ds : List D} (r : Reps K F as vs ds) : vs.isEmpty = ds.isEmpty := by cases r <;> rfl
theorem tru_of {F H : Hp} {as : List Addr} {S S' : Sx} {x : V} {d : D} {k : Bool} (st : Stt K T F H as S) (r : Rep K F as x d) (h : truB d S = .ok k S') : TruV K x H k ∧ S' = S := by
  cases r with
  | non => cases h; exact ⟨rfl, rfl⟩
  | bl b => cases h; exact ⟨rfl, rfl⟩
  | int i => cases h; exact ⟨rfl, rfl⟩
  | str x =>
    by_cases c : x.length ≤ lim
    · rw [show truB (.str x) = _ from if_pos c] at h
      cases h
      exact ⟨⟨lim_line c, rfl⟩, rfl⟩
    · rw [show truB (.str x) = _ from if_neg c] at h
      cases h
  | tup h1 h2 => cases h; exact ⟨.inr (.inl ⟨_, SqT.mono h1 st.fz, by rw [h2.isEmpty]⟩), rfl⟩
  | lst h1 h2 => cases h; exact ⟨.inl ⟨_, SqL.of (st.fz _ _ h1), by rw [h2.isEmpty]⟩, rfl⟩
  | emp h1 => cases h
  | scr _ => cases h
  | cell _ => cases h
  | adr _ => cases h
/-- a truth asked of a value at hand -/
theorem tru_post {α β : Type} {F H : Hp} {as : List Addr} {S : Sx} {x : V} {d : D} {Rl : Hp → List Addr → β → α → Prop} {Q : β → Hp → Prop} {E : Value → Option Addr → Hp → Prop} {k : Bool → M α} (st : Stt K T F H as S) (r : Rep K F as x d)
    (p : Post K mg T F H as Rl Q E ((truB d >>= k) S)) : ∃ c, TruV K x H c ∧ Post K mg T F H as Rl Q E (k c S) := by
  cases h : truB d S with
  | ok c S' =>
    obtain ⟨h1, rfl⟩ := tru_of st r h
    rw [bind_ok h] at p
    exact ⟨c, h1, p⟩
  | er x S' =>
    cases d <;> first | (cases h; done) | skip
    rename_i z
    by_cases c : z.length ≤ lim
    · rw [show truB (.str z) = _ from if_pos c] at h; cases h
    · rw [show truB (.str z) = _ from if_neg c] at h; cases h
  | no =>
    rw [bind_no h] at p
    exact False.elim p
theorem vt_tru (ha : VE X T W B ρ a ma) (he : ∀ whole, isTrue a X.env whole = (do let v ← whole; standAt a.pos; holding [v] (truthy v)) := by intro _; rfl) : VT X T W B ρ a (ma >>= truB) :=
  let ⟨t, pa, s⟩ := ha.t
  ⟨_, pt_truth pa he, fun σ F H as S Q st sl p => s σ F H as S _ st sl (p.bind fun d1 v1 S1 F1 H1 as1 _ e1 st1 r1 p1 => by
    obtain ⟨k, hk, q⟩ := tru_post (k := pure) st1 r1 (by rw [bind_pure]; exact p1)
    exact ⟨k, hk, q k F1 H1 as1 Ext.refl st1 rfl⟩)⟩
def asB : D → M Bool
  | .bl b => pure b
  | _ => no
theorem vt_cmp {o : CmpOp} {r : R2} {op : D → D → M D} (ho : OpR X (compareOp o) r) (h : OpD X.K X.mg T r op) (ha : VE X T W B ρ a ma) (hb : VE X T W B ρ b mb) (hm : behindInMarks o b = false := by first | exact nomark _ | rfl) :
    VT X T W B ρ (.Compare a [o] [b] pos) (ma >>= fun x => mb >>= fun y => op x y >>= asB) :=
  let ⟨ta, pa, sa⟩ := ha.t; let ⟨tb, pb, sb⟩ := hb.t
  ⟨_, pt_cmpR ho pa pb hm, fun σ F H as S Q st sl p =>
    sa σ F H as S _ st sl (p.bind fun d1 v1 S1 F1 H1 as1 _ e1 st1 r1 p1 =>
      sb σ F1 H1 as1 S1 _ st1 (sl.ext e1) (p1.bind fun d2 v2 S2 F2 H2 as2 _ e2 st2 r2 p2 => h st2 (e2.rep r1) r2 (p2.bind fun d3 v3 S3 F3 H3 as3 _ e3 st3 r3 p3 => by
        cases d3 with
        | bl k =>
          cases r3
          exact ⟨k, rfl, p3 k F3 H3 as3 Ext.refl st3 rfl⟩
        | _ => exact False.elim p3)))⟩
/-! ### and, or, not: tests -/
structure VW (X : Cx) (T : List (Addr × Str)) (W : WX) (B : Hp) (ρ : List SL) (e : Expr) (m : M Bool) : Prop where
  t : ∃ t, PW X e t ∧ Snd RepB X.K X.mg T W B ρ t m
theorem VW.vt (h : VW X T W B ρ e mt) : VT X T W B ρ e mt := let ⟨_, p, s⟩ := h.t; ⟨_, p.pt, s⟩
theorem vw_and1 (ha : VT X T W B ρ a mt) : VW X T W B ρ (.BoolOp .And [a] pos) mt := let ⟨_, p, s⟩ := ha.t; ⟨_, pw_and1 p, s⟩
theorem vw_or1 (ha : VT X T W B ρ a mt) : VW X T W B ρ (.BoolOp .Or [a] pos) mt := let ⟨_, p, s⟩ := ha.t; ⟨_, pw_or1 p, s⟩
theorem vw_and (ha : VT X T W B ρ a mt) (hb : VW X T W B ρ (.BoolOp .And (b :: rest) pos) mu) : VW X T W B ρ (.BoolOp .And (a :: b :: rest) pos) (mt >>= fun k => if k = true then mu else pure false) :=
  let ⟨_, pa, sa⟩ := ha.t; let ⟨_, pb, sb⟩ := hb.t
  ⟨_, pw_and pa pb, fun σ F H as S Q st sl p => sa σ F H as S _ st sl (p.bind fun d1 v1 S1 F1 H1 as1 _ e1 st1 r1 p1 => by
    obtain rfl : v1 = d1 := r1
    cases v1 with
    | true => exact (if_pos rfl).mpr (sb σ F1 H1 as1 S1 _ st1 (sl.ext e1) p1)
    | false => exact p1 false F1 H1 as1 Ext.refl st1 rfl)⟩
theorem vw_or (ha : VT X T W B ρ a mt) (hb : VW X T W B ρ (.BoolOp .Or (b :: rest) pos) mu) : VW X T W B ρ (.BoolOp .Or (a :: b :: rest) pos) (mt >>= fun k => if k = true then pure true else mu) :=
  let ⟨_, pa, sa⟩ := ha.t; let ⟨_, pb, sb⟩ := hb.t
  ⟨_, pw_or pa pb, fun σ F H as S Q st sl p => sa σ F H as S _ st sl (p.bind fun d1 v1 S1 F1 H1 as1 _ e1 st1 r1 p1 => by
    obtain rfl : v1 = d1 := r1
    cases v1 with
    | true => exact p1 true F1 H1 as1 Ext.refl st1 rfl
    | false => exact (if_neg (by simp)).mpr (sb σ F1 H1 as1 S1 _ st1 (sl.ext e1) p1))⟩
theorem vt_not (ha : VT X T W B ρ a mt) : VT X T W B ρ (.UnaryOp .Not a pos) (mt >>= fun k => pure (!k)) :=
  let ⟨_, pa, sa⟩ := ha.t
  ⟨_, pt_not pa, fun σ F H as S Q st sl p => sa σ F H as S _ st sl (p.bind fun d1 v1 S1 F1 H1 as1 _ e1 st1 r1 p1 => by
    obtain rfl : v1 = d1 := r1
    exact p1 _ F1 H1 as1 Ext.refl st1 rfl)⟩
/-! ### .. as values -/
theorem ve_one {op : BoolOp} (h : VE X T W B ρ a ma) : VE X T W B ρ (.BoolOp op [a] pos) ma := let ⟨_, p, s⟩ := h.t; ⟨_, pe_one p, s⟩
theorem ve_and (ha : VE X T W B ρ a ma) (hb : VE X T W B ρ (.BoolOp .And (b :: rest) pos) mb) : VE X T W B ρ (.BoolOp .And (a :: b :: rest) pos) (ma >>= fun x => truB x >>= fun k => if k = true then mb else pure x) :=
  let ⟨_, pa, sa⟩ := ha.t; let ⟨_, pb, sb⟩ := hb.t
  ⟨_, pe_andT pa pb, fun σ F H as S Q st sl p => sa σ F H as S _ st sl (p.bind fun d1 v1 S1 F1 H1 as1 _ e1 st1 r1 p1 => by
    obtain ⟨k, hk, q⟩ := tru_post st1 r1 p1
    refine ⟨k, hk, ?_⟩
    cases k with
    | true => exact (if_pos rfl).mpr (sb σ F1 H1 as1 S1 _ st1 (sl.ext e1) q)
    | false => exact (if_neg (by simp)).mpr (q _ F1 H1 as1 Ext.refl st1 r1))⟩
theorem ve_or (ha : VE X T W B ρ a ma) (hb : VE X T W B ρ (.BoolOp .Or (b :: rest) pos) mb) : VE X T W B ρ (.BoolOp .Or (a :: b :: rest) pos) (ma >>= fun x => truB x >>= fun k => if k = true then pure x else mb) :=
  let ⟨_, pa, sa⟩ := ha.t; let ⟨_, pb, sb⟩ := hb.t
  ⟨_, pe_orT pa pb, fun σ F H as S Q st sl p => sa σ F H as S _ st sl (p.bind fun d1 v1 S1 F1 H1 as1 _ e1 st1 r1 p1 => by
    obtain ⟨k, hk, q⟩ := tru_post st1 r1 p1
    refine ⟨k, hk, ?_⟩
    cases k with
    | true => exact (if_pos rfl).mpr (q _ F1 H1 as1 Ext.refl st1 r1)
    | false => exact (if_neg (by simp)).mpr (sb σ F1 H1 as1 S1 _ st1 (sl.ext e1) q))⟩
theorem ve_not (ha : VE X T W B ρ a ma) : VE X T W B ρ (.UnaryOp .Not a pos) (ma >>= fun x => truB x >>= fun k => pure (.bl (!k))) :=
  let ⟨_, pa, sa⟩ := ha.t
  ⟨_, pe_notT pa, fun σ F H as S Q st sl p => sa σ F H as S _ st sl (p.bind fun d1 v1 S1 F1 H1 as1 _ e1 st1 r1 p1 => by
    obtain ⟨k, hk, q⟩ := tru_post st1 r1 p1
    exact ⟨k, hk, pu_ok st1 (.bl _) q⟩)⟩
theorem ve_if {t : Expr} (hc : VT X T W B ρ t mt) (ha : VE X T W B ρ a ma) (hb : VE X T W B ρ b mb) : VE X T W B ρ (.IfExp t a b pos) (mt >>= fun k => if k = true then ma else mb) :=
  let ⟨_, pc, sc⟩ := hc.t; let ⟨_, pa, sa⟩ := ha.t; let ⟨_, pb, sb⟩ := hb.t
  ⟨_, pe_ifExp pc pa pb, fun σ F H as S Q st sl p => sc σ F H as S _ st sl (p.bind fun d1 v1 S1 F1 H1 as1 _ e1 st1 r1 p1 => by
    obtain rfl : v1 = d1 := r1
    cases v1 with
    | true => exact (if_pos rfl).mpr (sa σ F1 H1 as1 S1 _ st1 (sl.ext e1) p1)
    | false => exact (if_neg (by simp)).mpr (sb σ F1 H1 as1 S1 _ st1 (sl.ext e1) p1))⟩
/-- a < b < c -/
theorem vt_chain {o o' : CmpOp} {r r' : R2} {op op' : D → D → M D} (ho : OpR X (compareOp o) r) (ho' : OpR X (compareOp o') r') (h : OpD X.K X.mg T r op) (h' : OpD X.K X.mg T r' op') (ha : VE X T W B ρ a ma) (hb : VE X T W B ρ b mb) (hc : VE X T W B ρ c mc) (hl : lastMarks [o, o'] [b, c] = false := by rfl) :
    VT X T W B ρ (.Compare a [o, o'] [b, c] pos) (ma >>= fun x => mb >>= fun y => op x y >>= asB >>= fun k => if k = true then (mc >>= fun z => op' y z >>= asB) else pure false) :=
  let ⟨ta, pa, sa⟩ := ha.t; let ⟨tb, pb, sb⟩ := hb.t; let ⟨tc, pc, sc⟩ := hc.t
  ⟨_, pt_chain ho ho' pa pb pc hl, fun σ F H as S Q st sl p =>
    sa σ F H as S _ st sl (p.bind fun d1 v1 S1 F1 H1 as1 _ e1 st1 r1 p1 =>
      sb σ F1 H1 as1 S1 _ st1 (sl.ext e1) (p1.bind fun d2 v2 S2 F2 H2 as2 _ e2 st2 r2 p2 => h st2 (e2.rep r1) r2 ((by rw [bind_assoc] at p2; exact p2 : Post _ _ _ _ _ _ _ _ _ ((op d1 d2 >>= fun z => asB z >>= fun k => if k = true then (mc >>= fun z => op' d2 z >>= asB) else pure false) S2)).bind fun d3 v3 S3 F3 H3 as3 _ e3 st3 r3 p3 => by
        cases d3 with
        | bl k =>
          cases r3
          refine ⟨k, rfl, ?_⟩
          cases k with
          | true =>
            refine (if_pos rfl).mpr (sc σ F3 H3 as3 S3 _ st3 (((sl.ext e1).ext e2).ext e3) (Post.bind (show Post _ _ _ _ _ _ _ _ _ ((mc >>= fun z => op' d2 z >>= asB) S3) from p3) fun d4 v4 S4 F4 H4 as4 _ e4 st4 r4 p4 => h' st4 (e4.rep (e3.rep r2)) r4 (p4.bind fun d5 v5 S5 F5 H5 as5 _ e5 st5 r5 p5 => ?_)))
            cases d5 with
            | bl k =>
              cases r5
              exact ⟨k, rfl, p5 k F5 H5 as5 Ext.refl st5 rfl⟩
            | _ => exact False.elim p5
          | false => exact (if_neg (by simp)).mpr ⟨false, rfl, p3 false F3 H3 as3 Ext.refl st3 rfl⟩
        | _ => exact False.elim p3)))⟩
end
end VL

/-! VLSub: subscripts, slices, built-ins. -/
namespace VL
open PySem PySem.Spec PyProof.Rows L2

/-! ### items -/
def ofO {α : Type} : Option α → M α
  | some a => pure a
  | none => no
def cellAt (n : Nat) : M (List D) := fun S => match S[n]? with
  | some ds => .ok ds S
  | none => .no
def itemD (x y : D) : M D := match x, y with
  | .tup xs, .int i => ofO (atI xs i)
  | .lst xs, .int i => ofO (atI xs i)
  | .scr ns, .int i => ofO ((atI ns i).map D.int)
  | .str z, .int i => if z.length ≤ lim then ofO ((atI z.cps.toList i).map fun c => D.str ⟨#[c]⟩) else no
  | .cell n, .int i => cellAt n >>= fun ds => ofO (atI ds i)
  | _, _ => no
section
variable {X : Cx} {K : PySem.W.Frag} {mg : Str → Option Value} {T : List (Addr × Str)} {W : WX} {B : Hp} {ρ : List SL} {a b c e : Expr} {es rest : List Expr} {ma mb mc m : M D} {ms : M (List D)} {pos : Pos}
theorem Reps.atI {F : Hp} {as : List Addr} {vs : List V} {ds : List D} {i : Int} {d : D} (r : Reps K F as vs ds) (h : L2.atI ds i = some d) : ∃ v, L2.atI vs i = some v ∧ Rep K F as v d := by
  unfold L2.atI at h ⊢
  rw [r.length]
  cases e : ixN ds.length i with
  | none => rw [e] at h; cases h
  | some j =>
    rw [e] at h
    exact r.get' h
theorem Stt.cellAt {F H : Hp} {as : List Addr} {S : Sx} {n : Nat} {v : V} (st : Stt K T F H as S) (r : Rep K F as v (.cell n)) : ∃ a vs ds, v = .ref a ∧ as[n]? = some a ∧ S[n]? = some ds ∧ H a = some (.lst vs) ∧ Reps K F as vs ds := by
  cases r with
  | cell h =>
    obtain ⟨_, vs, ds, h2, h3, h4⟩ := st.cel n _ h
    exact ⟨_, vs, ds, rfl, h, h2, h3, h4⟩
theorem atI_map {α β : Type} (f : α → β) (xs : List α) (i : Int) : L2.atI (xs.map f) i = (L2.atI xs i).map f := by
  unfold L2.atI
  rw [List.length_map]
  cases ixN xs.length i with
  | none => rfl
  | some j => simp
theorem d_item : OpD K mg T (rIx K) itemD := by
  intro F H as S x y dx dy Q E st rx ry p
  cases dy with
  | int i =>
    cases ry
    cases dx with
    | tup xs =>
      obtain ⟨a, vs, rfl, h1, r1⟩ := rx.tupAt
      cases e : L2.atI xs i with
      | none => rw [show itemD (.tup xs) (.int i) = ofO (L2.atI xs i) from rfl, e] at p; exact False.elim p
      | some d =>
        rw [show itemD (.tup xs) (.int i) = ofO (L2.atI xs i) from rfl, e] at p
        obtain ⟨v, h2, r2⟩ := r1.atI e
        exact .inr (.inl ⟨a, vs, i, v, rfl, rfl, SqT.mono h1 st.fz, h2, pu_ok st r2 p⟩)
    | lst xs =>
      obtain ⟨a, vs, rfl, h1, r1⟩ := rx.lstAt
      cases e : L2.atI xs i with
      | none => rw [show itemD (.lst xs) (.int i) = ofO (L2.atI xs i) from rfl, e] at p; exact False.elim p
      | some d =>
        rw [show itemD (.lst xs) (.int i) = ofO (L2.atI xs i) from rfl, e] at p
        obtain ⟨v, h2, r2⟩ := r1.atI e
        exact .inl ⟨a, vs, i, v, rfl, rfl, SqL.of (st.fz _ _ h1), h2, pu_ok st r2 p⟩
    | scr ns =>
      obtain ⟨a, rfl, h1⟩ := rx.scrAt
      cases e : L2.atI ns i with
      | none => rw [show itemD (.scr ns) (.int i) = ofO ((L2.atI ns i).map D.int) from rfl, e] at p; exact False.elim p
      | some d =>
        rw [show itemD (.scr ns) (.int i) = ofO ((L2.atI ns i).map D.int) from rfl, e] at p
        exact .inl ⟨a, _, i, .int d, rfl, rfl, SqL.mono h1 st.fz, by rw [atI_map, e]; rfl, pu_ok st (.int d) p⟩
    | str z =>
      cases rx
      by_cases c : z.length ≤ lim
      · rw [show itemD (.str z) (.int i) = _ from if_pos c] at p
        cases e : L2.atI z.cps.toList i with
        | none => rw [e] at p; exact False.elim p
        | some c2 =>
          rw [e] at p
          exact .inr (.inr ⟨z, i, c2, rfl, rfl, lim_line c, e, pu_ok st (.str _) p⟩)
      · rw [show itemD (.str z) (.int i) = _ from if_neg c] at p
        exact False.elim p
    | cell n =>
      obtain ⟨a, vs, ds, rfl, h1, h2, h3, r1⟩ := st.cellAt rx
      have e0 : cellAt n S = .ok ds S := by unfold VL.cellAt; rw [h2]
      rw [show itemD (.cell n) (.int i) = cellAt n >>= fun ds => ofO (L2.atI ds i) from rfl, bind_ok e0] at p
      cases e : L2.atI ds i with
      | none => rw [e] at p; exact False.elim p
      | some d =>
        rw [e] at p
        obtain ⟨v, h4, r2⟩ := r1.atI e
        exact .inl ⟨a, vs, i, v, rfl, rfl, SqL.of h3, h4, pu_ok st r2 p⟩
    | _ => exact False.elim p
  | _ => cases dx <;> exact False.elim p
theorem ve_item (ha : VE X T W B ρ a ma) (hb : VE X T W B ρ b mb) (hp : PlainIx b := by exact fun _ _ => rfl) : VE X T W B ρ (.Subscript a b pos) (ma >>= fun x => mb >>= fun y => itemD x y) :=
  let ⟨ta, pa, sa⟩ := ha.t; let ⟨tb, pb, sb⟩ := hb.t; ⟨_, pe_ix ix_seq pa pb hp, snd_op d_item sa sb⟩

/-! ### slices -/
def cutA {α : Type} (xs : List α) (lo hi : Option Int) : List α := (xs.drop (HT.sIx xs.length 0 lo)).take (HT.sIx xs.length xs.length hi - HT.sIx xs.length 0 lo)
def sliceD (x : D) (lo hi : Option Int) : M D := match x with
  | .tup xs => pure (.tup (cutA xs lo hi))
  | .lst xs => pure (.lst (cutA xs lo hi))
  | .scr ns => pure (.lst ((cutA ns lo hi).map D.int))
  | .str z => if z.length ≤ lim then pure (.str (cutS z lo hi)) else no
  | _ => no
theorem Reps.cut {F : Hp} {as : List Addr} {vs : List V} {ds : List D} (lo hi : Option Int) (r : Reps K F as vs ds) : Reps K F as (cutV vs lo hi) (cutA ds lo hi) := by
  unfold cutV cutA
  rw [r.length]
  exact (r.drop _).take _
theorem SlR.or {r r' : V → Option Int → Option Int → Hp → VK → Prop} (h : SlR X r) (h' : SlR X r') : SlR X (fun x lo hi H Q => r x lo hi H Q ∨ r' x lo hi H Q) := by
  intro pins s σ H x v vl vu lo hi sl Q I rx hs pl pu q
  rcases q with q | q
  · exact h pins s σ H x v vl vu lo hi sl Q I rx hs pl pu q
  · exact h' pins s σ H x v vl vu lo hi sl Q I rx hs pl pu q
def rSlD (K : PySem.W.Frag) : V → Option Int → Option Int → Hp → VK → Prop := fun x lo hi H Q => rSlL K x lo hi H Q ∨ rSlA K x lo hi H Q ∨ rSlS x lo hi H Q
theorem sl_D : SlR X (rSlD X.K) := SlR.or sl_list (SlR.or sl_tupA sl_str)
theorem cut_whole {α : Type} {xs : List α} {lo hi : Option Int} (h : HT.sIx xs.length 0 lo = 0 ∧ HT.sIx xs.length xs.length hi = xs.length) : cutA xs lo hi = xs := by
  unfold cutA
  rw [h.1, h.2]
  simp
theorem d_slice {F H : Hp} {as : List Addr} {S : Sx} {x : V} {d : D} {lo hi : Option Int} {Q : VK} {E : Value → Option Addr → Hp → Prop} (st : Stt K T F H as S) (rx : Rep K F as x d) (p : Post K mg T F H as (RepV K) Q E (sliceD d lo hi S)) : rSlD K x lo hi H Q := by
  cases d with
  | tup xs =>
    obtain ⟨a, vs, rfl, h1, r1⟩ := rx.tupAt
    refine .inr (.inl ⟨a, vs, rfl, SqT.mono h1 st.fz, fun hw => ?_, fun _ q hq => new_tup st hq (r1.cut lo hi) p⟩)
    rw [r1.length] at hw
    rw [show sliceD (.tup xs) lo hi = pure (.tup (cutA xs lo hi)) from rfl, cut_whole hw] at p
    exact pu_ok st rx p
  | lst xs =>
    obtain ⟨a, vs, rfl, h1, r1⟩ := rx.lstAt
    exact .inl ⟨a, vs, rfl, SqL.of (st.fz _ _ h1), fun q hq => new_lst st hq (r1.cut lo hi) p⟩
  | scr ns =>
    obtain ⟨a, rfl, h1⟩ := rx.scrAt
    refine .inl ⟨a, _, rfl, SqL.mono h1 st.fz, fun q hq => new_lst (ds := (cutA ns lo hi).map D.int) st hq ?_ p⟩
    have e : cutV (ns.map V.int) lo hi = (cutA ns lo hi).map V.int := by unfold cutV cutA; simp
    rw [e]
    exact Reps.ints _
  | str z =>
    cases rx
    by_cases c : z.length ≤ lim
    · rw [show sliceD (.str z) lo hi = _ from if_pos c] at p
      exact .inr (.inr ⟨z, rfl, lim_line c, pu_ok st (.str _) p⟩)
    · rw [show sliceD (.str z) lo hi = _ from if_neg c] at p
      exact False.elim p
  | _ => exact False.elim p
/-- a part of a slice -/
structure VO (X : Cx) (T : List (Addr × Str)) (W : WX) (B : Hp) (ρ : List SL) (e : Option Expr) (m : M (Option Int)) : Prop where
  t : ∃ t, PO X e t ∧ Snd (fun _ _ u o => u = o) X.K X.mg T W B ρ t m
theorem vo_none : VO X T W B ρ none (pure none) := ⟨_, po_none, fun σ F H as S Q st sl p => p none F H as Ext.refl st rfl⟩
theorem vo_some (he : VE X T W B ρ e m) : VO X T W B ρ (some e) (m >>= fun d => asI d >>= fun i => pure (some i)) :=
  let ⟨t, pa, s⟩ := he.t
  ⟨_, po_some pa, fun σ F H as S Q st sl p => s σ F H as S _ st sl (p.bind fun d1 v1 S1 F1 H1 as1 _ e1 st1 r1 p1 => by
    cases d1 with
    | int i =>
      cases r1
      exact ⟨i, rfl, p1 (some i) F1 H1 as1 Ext.refl st1 rfl⟩
    | _ => exact False.elim p1)⟩
theorem ve_slice {lo hi : Option Expr} {ml mh : M (Option Int)} {p2 : Pos} (ha : VE X T W B ρ a ma) (hl : VO X T W B ρ lo ml) (hh : VO X T W B ρ hi mh) : VE X T W B ρ (.Subscript a (.Slice lo hi none p2) pos) (ma >>= fun x => ml >>= fun l => mh >>= fun h => sliceD x l h) :=
  let ⟨_, pa, sa⟩ := ha.t; let ⟨_, pl, sl'⟩ := hl.t; let ⟨_, ph, sh⟩ := hh.t
  ⟨_, pe_slice sl_D pa pl ph, fun σ F H as S Q st sl p =>
    sa σ F H as S _ st sl (p.bind fun d1 v1 S1 F1 H1 as1 _ e1 st1 r1 p1 =>
      sl' σ F1 H1 as1 S1 _ st1 (sl.ext e1) (p1.bind fun d2 v2 S2 F2 H2 as2 _ e2 st2 r2 p2 => by
        obtain rfl : v2 = d2 := r2
        exact sh σ F2 H2 as2 S2 _ st2 ((sl.ext e1).ext e2) (p2.bind fun d3 v3 S3 F3 H3 as3 _ e3 st3 r3 p3 => by
          obtain rfl : v3 = d3 := r3
          exact d_slice st3 (e3.rep (e2.rep r1)) p3)))⟩

/-! ### built-ins by name -/
theorem snd_call {r : List V → Hp → VK → Prop} {op : List D → M D} {t : TA} (h : CaD X.K X.mg T r op) (s : Snd (RepL X.K) X.K X.mg T W B ρ t ms) : Snd (RepV X.K) X.K X.mg T W B ρ (tCB r t) (ms >>= op) :=
  fun σ F H as S Q st sl p => s σ F H as S _ st sl (p.bind fun d1 v1 S1 F1 H1 as1 _ e1 st1 r1 p1 => h st1 r1 p1)
theorem ve_callB {x : Str} {id : String} {r : List V → Hp → VK → Prop} {op : List D → M D} {p : Pos} (hr : CallR X (.builtin id) r) (h : CaD X.K X.mg T r op) (hm : X.mg x = none) (hv : bootBuiltins x = some (.builtin id)) (ha : VA X T W B ρ (e :: es) ms) (hg : Gl X x := by rfl) (hn : x ≠ "__name__" := by decide)
    (hdb : (x == ("__debug__" : Str)) = false := by decide) (he : starEach (e :: es) X.env = (false, eval e X.env) :: starEach es X.env := by rfl) (hpl : (backTo pos (starEach es X.env)).any (·.1) = false := by rfl) : VE X T W B ρ (.Call (.Name x p) (e :: es) [] pos) (ms >>= op) :=
  let ⟨_, pa, s⟩ := ha.t; ⟨_, pe_callB hr hg hm hv pa hn hdb he hpl, snd_call h s⟩
theorem ve_callTy {x : Str} {id : String} {r : List V → Hp → VK → Prop} {op : List D → M D} {p : Pos} (hr : CallR X (.type id) r) (h : CaD X.K X.mg T r op) (hm : X.mg x = none) (hv : bootBuiltins x = some (.type id)) (ha : VA X T W B ρ (e :: es) ms) (hg : Gl X x := by rfl) (hn : x ≠ "__name__" := by decide)
    (hdb : (x == ("__debug__" : Str)) = false := by decide) (he : starEach (e :: es) X.env = (false, eval e X.env) :: starEach es X.env := by rfl) (hpl : (backTo pos (starEach es X.env)).any (·.1) = false := by rfl) : VE X T W B ρ (.Call (.Name x p) (e :: es) [] pos) (ms >>= op) :=
  let ⟨_, pa, s⟩ := ha.t; ⟨_, pe_callTy hr hg hm hv pa hn hdb he hpl, snd_call h s⟩
def on1 (f : D → M D) : List D → M D
  | [d] => f d
  | _ => no
def on2 (f : D → D → M D) : List D → M D
  | [d, e] => f d e
  | _ => no
def abs1 : D → M D
  | .int i => pure (.int (if i < 0 then -i else i))
  | _ => no
def int1 : D → M D
  | .int i => pure (.int i)
  | .bl b => pure (.int (if b then 1 else 0))
  | _ => no
def len1 : D → M D
  | .tup xs => pure (.int xs.length)
  | .lst xs => pure (.int xs.length)
  | .scr ns => pure (.int ns.length)
  | .str z => if z.length ≤ lim then pure (.int z.length) else no
  | .cell n => cellAt n >>= fun ds => pure (.int ds.length)
  | _ => no
def tuple1 : D → M D
  | .tup xs => pure (.tup xs)
  | .lst xs => pure (.tup xs)
  | _ => no
def list1 : D → M D
  | .tup xs => pure (.lst xs)
  | .lst xs => pure (.lst xs)
  | .scr ns => pure (.lst (ns.map .int))
  | _ => no
theorem reps1 {F : Hp} {as : List Addr} {xs : List V} {d : D} (r : Reps K F as xs [d]) : ∃ x, xs = [x] ∧ Rep K F as x d := by
  cases r with
  | cons h q => cases q; exact ⟨_, rfl, h⟩
theorem reps2 {F : Hp} {as : List Addr} {xs : List V} {d e : D} (r : Reps K F as xs [d, e]) : ∃ x y, xs = [x, y] ∧ Rep K F as x d ∧ Rep K F as y e := by
  cases r with
  | cons h q => obtain ⟨y, rfl, h2⟩ := reps1 q; exact ⟨_, _, rfl, h, h2⟩
theorem cad1 {r : List V → Hp → VK → Prop} {f : D → M D}
    (h : ∀ {F H : Hp} {as : List Addr} {S : Sx} {x : V} {d : D} {Q : VK} {E : Value → Option Addr → Hp → Prop}, Stt K T F H as S → Rep K F as x d → Post K mg T F H as (RepV K) Q E (f d S) → r [x] H Q) : CaD K mg T r (on1 f) := by
  intro F H as S xs ds Q E st rr p
  cases ds with
  | nil => exact False.elim p
  | cons d ds =>
    cases ds with
    | nil =>
      obtain ⟨x, rfl, hx⟩ := reps1 rr
      exact h st hx p
    | cons _ _ => exact False.elim p
theorem cad2 {r : List V → Hp → VK → Prop} {f : D → D → M D}
    (h : ∀ {F H : Hp} {as : List Addr} {S : Sx} {x y : V} {d e : D} {Q : VK} {E : Value → Option Addr → Hp → Prop}, Stt K T F H as S → Rep K F as x d → Rep K F as y e → Post K mg T F H as (RepV K) Q E (f d e S) → r [x, y] H Q) : CaD K mg T r (on2 f) := by
  intro F H as S xs ds Q E st rr p
  cases ds with
  | nil => exact False.elim p
  | cons d ds =>
    cases ds with
    | nil => exact False.elim p
    | cons e ds =>
      cases ds with
      | nil =>
        obtain ⟨x, y, rfl, hx, hy⟩ := reps2 rr
        exact h st hx hy p
      | cons _ _ => exact False.elim p
theorem d_abs : CaD K mg T (fun xs H Q => ∃ i, xs = [.int i] ∧ Q (.int (if i < 0 then -i else i)) H) (on1 abs1) := by
  refine @cad1 K mg T _ _ ?_
  intro F H as S x d Q E st r p
  cases d with
  | int i => cases r; exact ⟨i, rfl, pu_ok st (.int _) p⟩
  | _ => exact False.elim p
theorem d_int : CaD K mg T (fun xs H Q => (∃ i, xs = [.int i] ∧ Q (.int i) H) ∨ ∃ k, xs = [.bl k] ∧ Q (.int (if k then 1 else 0)) H) (on1 int1) := by
  refine @cad1 K mg T _ _ ?_
  intro F H as S x d Q E st r p
  cases d with
  | int i => cases r; exact .inl ⟨i, rfl, pu_ok st (.int _) p⟩
  | bl b => cases r; exact .inr ⟨b, rfl, pu_ok st (.int _) p⟩
  | _ => exact False.elim p
theorem d_len : CaD K mg T (fun xs H Q => ∃ x n, xs = [x] ∧ LenV K x H n ∧ Q (.int n) H) (on1 len1) := by
  refine @cad1 K mg T _ _ ?_
  intro F H as S x d Q E st r p
  cases d with
  | tup xs =>
    obtain ⟨a, vs, rfl, h1, r1⟩ := r.tupAt
    exact ⟨_, _, rfl, .inr ⟨vs, SqT.mono h1 st.fz, r1.length.symm⟩, pu_ok st (.int _) p⟩
  | lst xs =>
    obtain ⟨a, vs, rfl, h1, r1⟩ := r.lstAt
    exact ⟨_, _, rfl, .inl ⟨vs, SqL.of (st.fz _ _ h1), r1.length.symm⟩, pu_ok st (.int _) p⟩
  | scr ns =>
    obtain ⟨a, rfl, h1⟩ := r.scrAt
    exact ⟨_, _, rfl, .inl ⟨_, SqL.mono h1 st.fz, by rw [List.length_map]⟩, pu_ok st (.int _) p⟩
  | str z =>
    cases r
    by_cases c : z.length ≤ lim
    · rw [show len1 (.str z) = _ from if_pos c] at p
      exact ⟨_, _, rfl, ⟨lim_line c, rfl⟩, pu_ok st (.int _) p⟩
    · rw [show len1 (.str z) = _ from if_neg c] at p
      exact False.elim p
  | cell n =>
    obtain ⟨a, vs, ds, rfl, h1, h2, h3, r1⟩ := st.cellAt r
    have e0 : cellAt n S = .ok ds S := by unfold VL.cellAt; rw [h2]
    rw [show len1 (.cell n) = cellAt n >>= fun ds => pure (.int ds.length) from rfl, bind_ok e0] at p
    exact ⟨_, _, rfl, .inl ⟨vs, SqL.of h3, r1.length.symm⟩, pu_ok st (.int _) p⟩
  | _ => exact False.elim p
theorem d_tuple : CaD K mg T (fun xs H Q => ∃ p ys, xs = [V.ref p] ∧ ((SqL K H p ys ∧ ∀ (l : Addr), H l = none → Q (V.ref l) (upd H l (HO.tup ys))) ∨ SqT K H p ys ∧ Q (V.ref p) H)) (on1 tuple1) := by
  refine @cad1 K mg T _ _ ?_
  intro F H as S x d Q E st r p
  cases d with
  | tup xs =>
    have r0 := r
    obtain ⟨a, vs, rfl, h1, r1⟩ := r.tupAt
    exact ⟨a, vs, rfl, .inr ⟨SqT.mono h1 st.fz, pu_ok st r0 p⟩⟩
  | lst xs =>
    obtain ⟨a, vs, rfl, h1, r1⟩ := r.lstAt
    exact ⟨a, vs, rfl, .inl ⟨SqL.of (st.fz _ _ h1), fun l hl => new_tup st hl r1 p⟩⟩
  | _ => exact False.elim p
theorem d_list : CaD K mg T (fun xs H Q => ∃ p ys, xs = [V.ref p] ∧ (SqL K H p ys ∨ SqT K H p ys) ∧ ∀ (l : Addr), H l = none → Q (V.ref l) (upd H l (HO.lst ys))) (on1 list1) := by
  refine @cad1 K mg T _ _ ?_
  intro F H as S x d Q E st r p
  cases d with
  | tup xs =>
    obtain ⟨a, vs, rfl, h1, r1⟩ := r.tupAt
    exact ⟨a, vs, rfl, .inr (SqT.mono h1 st.fz), fun l hl => new_lst st hl r1 p⟩
  | lst xs =>
    obtain ⟨a, vs, rfl, h1, r1⟩ := r.lstAt
    exact ⟨a, vs, rfl, .inl (SqL.of (st.fz _ _ h1)), fun l hl => new_lst st hl r1 p⟩
  | scr ns =>
    obtain ⟨a, rfl, h1⟩ := r.scrAt
    exact ⟨a, _, rfl, .inl (SqL.mono h1 st.fz), fun l hl => new_lst st hl (Reps.ints ns) p⟩
  | _ => exact False.elim p

/-! ### isinstance -/
inductive Ty where
  | non | bool | int | str | tuple | list | dict
  deriving DecidableEq
def Ty.name : Ty → String
  | .non => "NoneType"
  | .bool => "bool"
  | .int => "int"
  | .str => "str"
  | .tuple => "tuple"
  | .list => "list"
  | .dict => "dict"
def D.ty : D → Option Ty
  | .non => some .non
  | .bl _ => some .bool
  | .int _ => some .int
  | .str _ => some .str
  | .tup _ => some .tuple
  | .lst _ => some .list
  | .scr _ => none
  | .emp => some .dict
  | .cell _ => some .list
  | .adr _ => none
def Ty.sub (a b : Ty) : Bool := decide (a = b) || (decide (a = .bool) && decide (b = .int))
theorem Ty.kit (a b : Ty) : PySem.W.kitOne K (.type a.name) (.type b.name) = some (a.sub b) := by
  refine kit_ty ?_
  cases a <;> cases b <;> decide +kernel
def isaD (ts : List Ty) (d : D) : M D := match d.ty with
  | some t => pure (.bl (ts.any t.sub))
  | none => no
theorem ty_of {F H : Hp} {as : List Addr} {S : Sx} {x : V} {d : D} {t : Ty} (st : Stt K T F H as S) (r : Rep K F as x d) (h : d.ty = some t) : TyX K H x (.type t.name) := by
  cases r with
  | non => cases h; exact .base .non
  | bl _ => cases h; exact .base (.bl _)
  | int _ => cases h; exact .base (.int _)
  | str _ => cases h; exact .base (.str _)
  | tup h1 _ =>
    cases h
    rcases h1 with (h1 | ⟨o, h1⟩) | ⟨o, its, n, h1, h2, _⟩
    · exact .base (.tup (st.fz _ _ h1))
    · exact .fTuple (st.fz _ _ h1)
    · exact .kTuple h1 h2
  | lst h1 _ => cases h; exact .base (.lst (st.fz _ _ h1))
  | emp h1 => cases h; exact .base (.dK (st.fz _ _ h1))
  | cell h1 =>
    cases h
    obtain ⟨_, vs, ds, _, h3, _⟩ := st.cel _ _ h1
    exact .base (.lst h3)
  | scr _ => cases h
  | adr _ => cases h
/-- the name of a built-in class, not made anew in the module -/
structure TyNm (X : Cx) (x : Str) (t : Ty) : Prop where
  g : Gl X x
  m : X.mg x = none
  b : bootBuiltins x = some (.type t.name)
  n : x ≠ "__name__"
  d : (x == ("__debug__" : Str)) = false
theorem TyNm.pe {x : Str} {t : Ty} (h : TyNm X x t) : PE X (.Name x pos) (tC (.ty t.name)) := pe_bltn h.g h.m h.b rfl h.n h.d
/-- isinstance(e, T) -/
theorem ve_isa {x : Str} {t : Ty} {p p1 : Pos} (hm : X.mg "isinstance" = none) (hx : TyNm X x t) (ha : VE X T W B ρ e m) (hg : Gl X "isinstance" := by rfl)
    (he : starEach (e :: [.Name x p1]) X.env = (false, eval e X.env) :: starEach [.Name x p1] X.env := by rfl) (he2 : starEach [.Name x p1] X.env = (false, eval (.Name x p1) X.env) :: starEach [] X.env := by rfl) (hpl : (backTo pos (starEach [.Name x p1] X.env)).any (·.1) = false := by rfl) :
    VE X T W B ρ (.Call (.Name "isinstance" p) [e, .Name x p1] [] pos) (m >>= isaD [t]) :=
  let ⟨_, pa, s⟩ := ha.t
  ⟨_, pe_callB call_isi hg hm (by decide +kernel) (pa_cons pa (pa_cons hx.pe pa_nil he2) he) (by decide) (by decide) he hpl, fun σ F H as S Q st sl p => s σ F H as S _ st sl (p.bind fun d1 v1 S1 F1 H1 as1 _ e1 st1 r1 p1 => by
    unfold isaD at p1
    cases h : d1.ty with
    | none => rw [h] at p1; exact False.elim p1
    | some u =>
      rw [h] at p1
      have p1 : Post X.K X.mg T F1 H1 as1 (RepV X.K) Q (fun cls dd H' => W cls dd σ H') ((pure (.bl (u.sub t || false)) : M D) S1) := p1
      rw [Bool.or_false] at p1
      exact ⟨v1, .ty t.name, _, _, _, rfl, .ty _, ty_of st1 r1 h, Ty.kit u t, pu_ok st1 (.bl _) p1⟩)⟩
/-- isinstance(e, (T1, T2)) -/
theorem ve_isa2 {x y : Str} {t t2 : Ty} {p p1 p2 p3 : Pos} {k : Nat} (hm : X.mg "isinstance" = none) (hx : TyNm X x t) (hy : TyNm X y t2) (ha : VE X T W B ρ e m) (hg : Gl X "isinstance" := by rfl)
    (he : starEach (e :: [.Tuple [.Name x p1, .Name y p2] k p3]) X.env = (false, eval e X.env) :: starEach [.Tuple [.Name x p1, .Name y p2] k p3] X.env := by rfl)
    (he2 : starEach [.Tuple [.Name x p1, .Name y p2] k p3] X.env = (false, eval (.Tuple [.Name x p1, .Name y p2] k p3) X.env) :: starEach [] X.env := by rfl) (hpl : (backTo pos (starEach [.Tuple [.Name x p1, .Name y p2] k p3] X.env)).any (·.1) = false := by rfl)
    (he3 : starEach [.Name x p1, .Name y p2] X.env = (false, eval (.Name x p1) X.env) :: starEach [.Name y p2] X.env := by rfl) (he4 : starEach [.Name y p2] X.env = (false, eval (.Name y p2) X.env) :: starEach [] X.env := by rfl) :
    VE X T W B ρ (.Call (.Name "isinstance" p) [e, .Tuple [.Name x p1, .Name y p2] k p3] [] pos) (m >>= isaD [t, t2]) :=
  let ⟨_, pa, s⟩ := ha.t
  ⟨_, pe_callB call_isiT hg hm (by decide +kernel) (pa_cons pa (pa_cons (pe_tup (pa_cons hx.pe (pa_cons hy.pe pa_nil he4) he3)) pa_nil he2) he) (by decide) (by decide) he hpl, fun σ F H as S Q st sl p => s σ F H as S _ st sl (p.bind fun d1 v1 S1 F1 H1 as1 _ e1 st1 r1 p1 => by
    unfold isaD at p1
    refine ⟨by show 2 ≤ sizeLine; decide, fun q hq => ?_⟩
    cases h : d1.ty with
    | none => rw [h] at p1; exact False.elim p1
    | some u =>
      rw [h] at p1
      have p1 : Post X.K X.mg T F1 H1 as1 (RepV X.K) Q (fun cls dd H' => W cls dd σ H') ((pure (.bl (u.sub t || (u.sub t2 || false))) : M D) S1) := p1
      have e2 := Ext.new (o := .tup [.ty t.name, .ty t2.name]) hq st1
      have st2 := st1.new (o := .tup [.ty t.name, .ty t2.name]) hq (fun _ => by simp)
      refine ⟨v1, q, [.ty t.name, .ty t2.name], _, [.type t.name, .type t2.name], u.sub t || u.sub t2, rfl, upd_same, .cons (.ty _) (.cons (.ty _) .nil), ty_of st2 (e2.rep r1) h, ?_, ?_⟩
      · refine kitAny_cons (Ty.kit u t) (fun e => ?_) (fun e => by rw [e]; rfl)
        rw [e, Bool.false_or]
        exact kitAny_cons (Ty.kit u t2) (fun e => by rw [e]; exact kitAny_nil) (fun e => e)
      · rw [Bool.or_false] at p1
        exact p1 _ _ _ _ e2 st2 (.bl _))⟩

/-! ### repr -/
/-- how long a text may get -/
def repr1 (d : D) : M D := if d.plain = true ∧ d.py.showable = true ∧ d.py.hasDict = false ∧ d.py.depth ≤ 60 ∧ d.py.shown.length ≤ lim then pure (.str d.py.shown) else no
def rRepr (K : PySem.W.Frag) : List V → Hp → VK → Prop := fun xs H Q => ∃ x d, xs = [x] ∧ Dp K H x d ∧ d.showable = true ∧ d.hasDict = false ∧ d.depth ≤ 60 ∧ d.shown.length ≤ sizeLine ∧ Q (.str d.shown) H
theorem call_reprV (hg : X.A.guards = some []) (hu : X.A.units + 100 < cLine) : CallR X (.builtin "repr") (rRepr X.K) := by
  intro pins s σ H xs us Q I r h
  obtain ⟨x, d, rfl, hd, hs, hn, hp, hz, q⟩ := h
  obtain ⟨u, rfl, rx⟩ := vals1 r
  cases hd with
  | non => cases rx; exact PySem.P.repr_of_none ⟨.str _, H, I.tok _, ⟨_, rfl⟩, q⟩
  | bl b =>
    cases rx
    exact PySem.P.repr_of_bool ⟨.str _, H, I.tok _, ⟨_, rfl⟩, q⟩
  | int i =>
    obtain ⟨t, rfl⟩ := rx
    exact PySem.P.repr_of_int (by simpa [PyData.showable] using hs) ⟨.str _, H, I.tok _, ⟨_, rfl⟩, q⟩
  | str z =>
    obtain ⟨t, rfl⟩ := rx
    exact PySem.P.repr_of_str ⟨.str _, H, I.tok _, ⟨_, rfl⟩, q⟩ (by simpa [PyData.shown] using hz)
  | lst h1 h2 =>
    obtain ⟨as, hr⟩ := Dp.reads I _ _ u (.lst h1 h2) rx
    cases rx
    exact repr_of_reads' hr hs (PyData.noDict_hsm hn) hg (by omega) (fun _ _ e => e) (fun h' u tk hk => ⟨.str _, H, I.kept hk, ⟨_, rfl⟩, q⟩) hz
  | tup h1 h2 =>
    obtain ⟨as, hr⟩ := Dp.reads I _ _ u (.tup h1 h2) rx
    cases rx
    exact repr_of_reads' hr hs (PyData.noDict_hsm hn) hg (by omega) (fun _ _ e => e) (fun h' u tk hk => ⟨.str _, H, I.kept hk, ⟨_, rfl⟩, q⟩) hz
theorem d_repr : CaD K mg T (rRepr K) (on1 repr1) := by
  refine @cad1 K mg T _ _ ?_
  intro F H as S x d Q E st r p
  unfold repr1 at p
  by_cases c : d.plain = true ∧ d.py.showable = true ∧ d.py.hasDict = false ∧ d.py.depth ≤ 60 ∧ d.py.shown.length ≤ lim
  · rw [if_pos c] at p
    exact ⟨x, d.py, rfl, r.dp st.fz c.1, c.2.1, c.2.2.1, c.2.2.2.1, lim_line c.2.2.2.2, pu_ok st (.str _) p⟩
  · rw [if_neg c] at p
    exact False.elim p
end
end VL

/-! VLStmt: statements and blocks: what they make of the slots. -/
namespace VL
open PySem PySem.Spec PyProof.Rows L2

/-- a block's end: on, with the slots that a shows; a return; out of the loop, to the loop's next turn, with the loop's slots -/
inductive Fl (γ α : Type) where
  | nx (a : α) | rt (d : D) | bk (c : γ) | ct (c : γ)
/-- one behind the other -/
def seqF {γ α β : Type} (m : M (Fl γ α)) (k : α → M (Fl γ β)) : M (Fl γ β) := m >>= fun f => match f with
  | .nx a => k a
  | .rt d => pure (.rt d)
  | .bk c => pure (.bk c)
  | .ct c => pure (.ct c)
theorem seqF_nx {γ α β δ : Type} (m : M δ) (f : δ → α) (k : α → M (Fl γ β)) : seqF (m >>= fun d => pure (.nx (f d))) k = m >>= fun d => k (f d) := by
  unfold seqF
  rw [bind_assoc]
  rfl
/-- what is wanted behind a block; F0, B, as0: at the def's entry -/
def PostS {γ α : Type} (K : PySem.W.Frag) (mg : Str → Option Value) (T : List (Addr × Str)) (W : WX) (B F0 : Hp) (as0 : List Addr) (embL : γ → List SL) (emb : α → List SL) (D : Ends) : R (Fl γ α) → Prop
  | .ok (.nx a) S' => ∀ σ' F' H' as', Ext F0 B as0 F' H' as' → Stt K T F' H' as' S' → Slots K B F' H' as' (emb a) σ' → D.nx σ' H'
  | .ok (.rt d) S' => ∀ v F' H' as', Ext F0 B as0 F' H' as' → Stt K T F' H' as' S' → Rep K F' as' v d → D.rt v H'
  | .ok (.bk c) S' => ∀ σ' F' H' as', Ext F0 B as0 F' H' as' → Stt K T F' H' as' S' → Slots K B F' H' as' (embL c) σ' → D.bk σ' H'
  | .ok (.ct c) S' => ∀ σ' F' H' as', Ext F0 B as0 F' H' as' → Stt K T F' H' as' S' → Slots K B F' H' as' (embL c) σ' → D.ct σ' H'
  | .er x S' => ∀ cls dd σ' F' H' as', Ext F0 B as0 F' H' as' → Stt K T F' H' as' S' → XRep mg K F' as' cls dd x → W cls dd σ' H'
  | .no => False
def rdS {γ α : Type} (K : PySem.W.Frag) (mg : Str → Option Value) (T : List (Addr × Str)) (W : WX) (B : Hp) (ρ : List SL) (embL : γ → List SL) (emb : α → List SL) (m : M (Fl γ α)) : TS := fun D σ H =>
  ∃ (F0 : Hp) (as0 : List Addr) (F : Hp) (as : List Addr) (S : Sx), Ext F0 B as0 F H as ∧ Stt K T F H as S ∧ Slots K B F H as ρ σ ∧ PostS K mg T W B F0 as0 embL emb D (m S)
structure VS {γ α : Type} (X : Cx) (T : List (Addr × Str)) (W : WX) (B : Hp) (ρ : List SL) (st : Stmt) (embL : γ → List SL) (emb : α → List SL) (m : M (Fl γ α)) : Prop where
  p : PS X st (rdS X.K X.mg T W B ρ embL emb m)
structure VB {γ α : Type} (X : Cx) (T : List (Addr × Str)) (W : WX) (B : Hp) (ρ : List SL) (sts : List Stmt) (embL : γ → List SL) (emb : α → List SL) (m : M (Fl γ α)) : Prop where
  p : PSs X sts (rdS X.K X.mg T W B ρ embL emb m)
theorem PSs_ex {X : Cx} {ι : Type} {sts : List Stmt} {u : ι → TS} (h : ∀ i, PSs X sts (u i)) : PSs X sts (fun D σ H => ∃ i, u i D σ H) := ⟨fun pins s σ H D I ⟨i, q⟩ => (h i).run pins s σ H D I q⟩
theorem _root_.L2.PSs.imp {X : Cx} {sts : List Stmt} {t u : TS} (h : PSs X sts t) (q : ∀ D σ H, u D σ H → t D σ H) : PSs X sts u := ⟨fun pins s σ H D I w => h.run pins s σ H D I (q D σ H w)⟩
theorem _root_.L2.PS.imp {X : Cx} {st : Stmt} {t u : TS} (h : PS X st t) (q : ∀ D σ H, u D σ H → t D σ H) : PS X st u := ⟨fun pins s σ H D I w => h.run pins s σ H D I (q D σ H w)⟩
section
variable {K : PySem.W.Frag} {mg : Str → Option Value} {T : List (Addr × Str)} {W : WX} {B F0 : Hp} {as0 : List Addr} {D : Ends}
/-- an expression at a statement's head -/
theorem PostS.bind {γ α β δ : Type} {embL : γ → List SL} {emb : α → List SL} {Rl : Hp → List Addr → β → δ → Prop} {F H : Hp} {as : List Addr} {S : Sx} {σ : L2.St} {m : M δ} {k : δ → M (Fl γ α)} {Q : β → Hp → Prop} (x0 : Ext F0 B as0 F H as) (p : PostS K mg T W B F0 as0 embL emb D ((m >>= k) S))
    (h : ∀ c v S' F' H' as', m S = .ok c S' → Ext F H as F' H' as' → Ext F0 B as0 F' H' as' → Stt K T F' H' as' S' → Rl F' as' v c → PostS K mg T W B F0 as0 embL emb D (k c S') → Q v H') : Post K mg T F H as Rl Q (fun cls dd H' => W cls dd σ H') (m S) := by
  cases e : m S with
  | ok c S' =>
    rw [bind_ok e] at p
    exact fun v F' H' as' x st r => h c v S' F' H' as' e x (x0.trans x) st r p
  | er y S' =>
    rw [bind_er e] at p
    exact fun cls dd F' H' as' x st r => p cls dd σ F' H' as' (x0.trans x) st r
  | no =>
    rw [bind_no e] at p
    exact p
/-- a statement, then the rest -/
theorem PostS.seq {γ α β : Type} {embL : γ → List SL} {emb : α → List SL} {emb1 : β → List SL} {S : Sx} {m : M (Fl γ β)} {k : β → M (Fl γ α)} {N : L2.St → Hp → Prop} (p : PostS K mg T W B F0 as0 embL emb D (seqF m k S))
    (h : ∀ a S' σ' F' H' as', m S = .ok (.nx a) S' → Ext F0 B as0 F' H' as' → Stt K T F' H' as' S' → Slots K B F' H' as' (emb1 a) σ' → PostS K mg T W B F0 as0 embL emb D (k a S') → N σ' H') : PostS K mg T W B F0 as0 embL emb1 { D with nx := N } (m S) := by
  unfold seqF at p
  cases e : m S with
  | ok f S' =>
    rw [bind_ok e] at p
    cases f with
    | nx a => exact fun σ' F' H' as' x st sl => h a S' σ' F' H' as' e x st sl p
    | rt d => exact p
    | bk c => exact p
    | ct c => exact p
  | er y S' =>
    rw [bind_er e] at p
    exact p
  | no =>
    rw [bind_no e] at p
    exact p
end
section
variable {γ α β δ : Type} {X : Cx} {T : List (Addr × Str)} {W : WX} {B : Hp} {ρ : List SL} {embL : γ → List SL} {emb : α → List SL} {emb1 : β → List SL} {st : Stmt} {rest sts : List Stmt} {e : Expr} {m : M D} {pos : Pos}
theorem vb_cons {m1 : M (Fl γ β)} {k : β → M (Fl γ α)} (h : VS X T W B ρ st embL emb1 m1) (hr : ∀ a, VB X T W B (emb1 a) rest embL emb (k a)) : VB X T W B ρ (st :: rest) embL emb (seqF m1 k) :=
  ⟨(pss_cons h.p (PSs_ex fun a => (hr a).p)).imp fun D σ H ⟨F0, as0, F, as, S, x0, stt, sl, p⟩ =>
    ⟨F0, as0, F, as, S, x0, stt, sl, p.seq fun a S' σ' F' H' as' _ x st sl q => ⟨a, F0, as0, F', as', S', x, st, sl, q⟩⟩⟩
theorem vb_one {m1 : M (Fl γ α)} (h : VS X T W B ρ st embL emb m1) : VB X T W B ρ [st] embL emb m1 := ⟨pss_one h.p⟩
theorem vb_nil (a : α) (h : SLe (emb a) ρ) : VB X T W B ρ [] embL emb (pure (.nx a)) :=
  ⟨pss_nil.imp fun D σ H ⟨F0, as0, F, as, S, x0, stt, sl, p⟩ => p σ F H as x0 stt (sl.weak h)⟩
theorem vb_weak {ρ' : List SL} {mm : M (Fl γ α)} (h : VB X T W B ρ' sts embL emb mm) (w : SLe ρ' ρ) : VB X T W B ρ sts embL emb mm :=
  ⟨h.p.imp fun D σ H ⟨F0, as0, F, as, S, x0, stt, sl, p⟩ => ⟨F0, as0, F, as, S, x0, stt, sl.weak w, p⟩⟩
/-- a statement made of an expression: its reading t wants the expression's, then goes on -/
theorem vs_of {t : TS} {k : D → M (Fl γ α)} (ht : PS X st t) (h : ∀ (D' : Ends) σ H, rd (RepV X.K) X.K X.mg T W B ρ m σ H (fun v H' => ∃ F0 as0 F as S d, Ext F0 B as0 F H' as ∧ Stt X.K T F H' as S ∧ Slots X.K B F H' as ρ σ ∧ Rep X.K F as v d ∧ PostS X.K X.mg T W B F0 as0 embL emb D' (k d S)) → t D' σ H) :
    VS X T W B ρ st embL emb (m >>= k) :=
  ⟨ht.imp fun D' σ H ⟨F0, as0, F, as, S, x0, stt, sl, p⟩ => h D' σ H ⟨F, as, S, stt, sl, p.bind x0 fun d v S' F' H' as' _ x x' st r q => ⟨F0, as0, F', as', S', d, x', st, sl.ext x, r, q⟩⟩⟩
/-- name = e -/
theorem vs_set {x : Str} {pos' : Pos} (i : Nat) (he : VE X T W B ρ e m) (hN : X.N.Nodup) (hi : X.N[i]? = some x := by rfl) (hx : Loc X.env.scope x := by first | exact .inl rfl | exact .inr rfl) (hs : swapsWith e (some (.Name x pos')) pos.line X.env = pure false := by rfl)
    (hf : X.fn x = true ∨ X.env.scope.names.lookup x = some .local := by first | exact .inl rfl | exact .inr rfl | assumption) :
    VS X T W B ρ (.Assign [.Name x pos'] e pos) embL (fun d => ρ.set i (.fz d)) (m >>= fun d => pure (.nx d)) :=
  vs_of (ps_set (i := i) hN hi hx he.pe hs hf) fun D' σ H q => by
    obtain ⟨F, as, S, a, b, c⟩ := q
    refine ⟨F, as, S, a, b, ?_⟩
    cases e : m S with
    | ok d S' =>
      rw [e] at c
      intro v F' H' as' x st r
      obtain ⟨F0, as0, F2, as2, S2, d2, x0, st2, sl2, r2, p⟩ := c v F' H' as' x st r
      exact p _ F2 H' as2 x0 st2 (sl2.set r2)
    | er y S' => rw [e] at c; exact c
    | no => rw [e] at c; exact c
theorem vs_ret (he : VE X T W B ρ e m) : VS X T W B ρ (.Return (some e) pos) embL emb (m >>= fun d => pure (.rt d)) :=
  vs_of (ps_ret he.pe) fun D' σ H q => by
    obtain ⟨F, as, S, a, b, c⟩ := q
    refine ⟨F, as, S, a, b, ?_⟩
    cases e : m S with
    | ok d S' =>
      rw [e] at c
      intro v F' H' as' x st r
      obtain ⟨F0, as0, F2, as2, S2, d2, x0, st2, sl2, r2, p⟩ := c v F' H' as' x st r
      exact p v F2 H' as2 x0 st2 r2
    | er y S' => rw [e] at c; exact c
    | no => rw [e] at c; exact c
theorem vs_retN : VS X T W B ρ (.Return none pos) embL emb (pure (.rt .non)) :=
  ⟨ps_retN.imp fun D σ H ⟨F0, as0, F, as, S, x0, stt, sl, p⟩ => p .non F H as x0 stt .non⟩
theorem vs_expr (he : VE X T W B ρ e m) (hs : swapsWith e none pos.line X.env = pure false := by rfl) : VS X T W B ρ (.Expr e pos) embL (fun _ : Unit => ρ) (m >>= fun _ => pure (.nx ())) :=
  vs_of (ps_expr he.pe hs) fun D' σ H q => by
    obtain ⟨F, as, S, a, b, c⟩ := q
    refine ⟨F, as, S, a, b, ?_⟩
    cases e : m S with
    | ok d S' =>
      rw [e] at c
      intro v F' H' as' x st r
      obtain ⟨F0, as0, F2, as2, S2, d2, x0, st2, sl2, r2, p⟩ := c v F' H' as' x st r
      exact p σ F2 H' as2 x0 st2 sl2
    | er y S' => rw [e] at c; exact c
    | no => rw [e] at c; exact c
theorem vs_pass : VS X T W B ρ (.Pass pos) embL (fun _ : Unit => ρ) (pure (.nx ())) :=
  ⟨ps_pass.imp fun D σ H ⟨F0, as0, F, as, S, x0, stt, sl, p⟩ => p σ F H as x0 stt sl⟩
theorem vs_break (c : γ) (h : SLe (embL c) ρ) : VS X T W B ρ (.Break pos) embL emb (pure (.bk c)) :=
  ⟨ps_break.imp fun D σ H ⟨F0, as0, F, as, S, x0, stt, sl, p⟩ => p σ F H as x0 stt (sl.weak h)⟩
theorem vs_cont (c : γ) (h : SLe (embL c) ρ) : VS X T W B ρ (.Continue pos) embL emb (pure (.ct c)) :=
  ⟨ps_continue.imp fun D σ H ⟨F0, as0, F, as, S, x0, stt, sl, p⟩ => p σ F H as x0 stt (sl.weak h)⟩
theorem vs_if {c : Expr} {p q : List Stmt} {mt : M Bool} {ma mb : M (Fl γ α)} (hc : VT X T W B ρ c mt) (ha : VB X T W B ρ p embL emb ma) (hb : VB X T W B ρ q embL emb mb) : VS X T W B ρ (.If c p q pos) embL emb (mt >>= fun k => if k = true then ma else mb) :=
  ⟨(ps_if hc.pt ha.p hb.p).imp fun D σ H ⟨F0, as0, F, as, S, x0, stt, sl, p⟩ => ⟨F, as, S, stt, sl, p.bind x0 fun d v S' F' H' as' _ x x' st r q => by
    obtain rfl : v = d := r
    cases v with
    | true => exact (if_pos rfl).mpr ⟨F0, as0, F', as', S', x', st, sl.ext x, q⟩
    | false => exact (if_neg (by simp)).mpr ⟨F0, as0, F', as', S', x', st, sl.ext x, q⟩⟩⟩
/-- a list of one's own comes to stand still -/
theorem vb_freeze {ds : List D} {mm : M (Fl γ α)} (i : Nat) (hd : ρ[i]? = some (.ow ds)) (h : VB X T W B (ρ.set i (.fz (.lst ds))) sts embL emb mm) : VB X T W B ρ sts embL emb mm :=
  ⟨h.p.imp fun D σ H ⟨F0, as0, F, as, S, x0, stt, sl, p⟩ => by
    obtain ⟨q, vs, h1, h2, h3, h4, h5, h6⟩ := sl.getOw hd
    have hi : i < ρ.length := (List.getElem?_eq_some_iff.mp hd).1
    have up : ∀ a o, F a = some o → upd F q (.lst vs) a = some o := fun a o h => by rw [upd_ne (ne_of_none h h3)]; exact h
    refine ⟨F0, as0, upd F q (.lst vs), as, S, ⟨fun a o h => up a o (x0.f a o h), x0.g, x0.k, fun a h => ?_, x0.an, x0.m⟩, ⟨fun a o h => ?_, fun a ps h => ?_, stt.tabs, stt.len, stt.nod, fun n a h => ?_⟩, ⟨by simp [sl.len], fun j s o a b => ?_, fun j k ds' es n a b oa ob => ?_⟩, p⟩
    · by_cases e : a = q
      · exact .inr (e ▸ h2)
      · rw [upd_ne e] at h; exact x0.fn a h
    · by_cases e : a = q
      · rw [e, upd_same] at h; rw [e, ← h]; exact h5
      · rw [upd_ne e] at h; exact stt.fz a o h
    · by_cases e : a = q
      · rw [e, upd_same] at h; cases h
      · rw [upd_ne e] at h; exact stt.nt a ps h
    · obtain ⟨g1, us, es, g2, g3, g4⟩ := stt.cel n a h
      have e : a ≠ q := fun e => h4 (e ▸ List.mem_of_getElem? h)
      exact ⟨by rw [upd_ne e]; exact g1, us, es, g2, g3, g4.mono up fun _ _ z => z⟩
    · by_cases e : i = j
      · subst e
        rw [List.getElem?_set_self hi] at a
        cases a
        rw [h1] at b
        cases b
        exact ⟨_, rfl, .lst upd_same (h6.mono up fun _ _ z => z)⟩
      · rw [List.getElem?_set_ne e] at a
        have g := sl.ok j s o a b
        cases s with
        | no => trivial
        | fz d => obtain ⟨v, g1, g2⟩ := g; exact ⟨v, g1, g2.mono up fun _ _ z => z⟩
        | ow es =>
          obtain ⟨q', us, g1, g2, g3, g4, g5, g6⟩ := g
          have e2 : q' ≠ q := fun e2 => sl.dis i j _ _ e hd a rfl rfl (by rw [h1, b, g1, e2])
          exact ⟨q', us, g1, g2, by rw [upd_ne e2]; exact g3, g4, g5, g6.mono up fun _ _ z => z⟩
        | od t =>
          obtain ⟨q', us, g1, g2, g3, g4, g5, g6⟩ := g
          have e2 : q' ≠ q := fun e2 => sl.dis i j _ _ e hd a rfl rfl (by rw [h1, b, g1, e2])
          exact ⟨q', us, g1, g2, by rw [upd_ne e2]; exact g3, g4, g5, t.mono up (fun _ _ z => z) g6⟩
    · have nj : i ≠ j := fun e => by subst e; rw [List.getElem?_set_self hi] at a; cases a; cases oa
      have nk : i ≠ k := fun e => by subst e; rw [List.getElem?_set_self hi] at b; cases b; cases ob
      rw [List.getElem?_set_ne nj] at a
      rw [List.getElem?_set_ne nk] at b
      exact sl.dis j k ds' es n a b oa ob⟩
theorem ve_eq {m' : M D} (h : VE X T W B ρ e m) (q : m = m') : VE X T W B ρ e m' := q ▸ h
theorem vt_eq {mt mt' : M Bool} (h : VT X T W B ρ e mt) (q : mt = mt') : VT X T W B ρ e mt' := q ▸ h
theorem vs_eq {m1 m2 : M (Fl γ α)} (h : VS X T W B ρ st embL emb m1) (q : m1 = m2) : VS X T W B ρ st embL emb m2 := q ▸ h
theorem vb_eq {m1 m2 : M (Fl γ α)} (h : VB X T W B ρ sts embL emb m1) (q : m1 = m2) : VB X T W B ρ sts embL emb m2 := q ▸ h
end
end VL

/-! VLLoop: while, for, targets, lists of one's own, cells, raise. -/
namespace VL
open PySem PySem.Spec PyProof.Rows L2

/-! ### from another entry -/
section
variable {F0 B F H F1 H1 : Hp} {as0 as as1 : List Addr}
theorem Ext.rebase (x : Ext F0 B as0 F H as) : Ext F B as F H as := ⟨fun _ _ h => h, fun _ _ h => h, fun a o h n t => x.k a o h (fun z => n (let ⟨i, q⟩ := List.getElem?_of_mem z; List.mem_of_getElem? (x.g i a q))) t, fun _ h => .inl h, fun _ h => .inl h, x.m⟩
theorem Ext.glue (x : Ext F0 B as0 F H as) (y : Ext F B as F1 H1 as1) : Ext F0 B as0 F1 H1 as1 where
  f := fun a o h => y.f a o (x.f a o h)
  g := fun n a h => y.g n a (x.g n a h)
  k := fun a o h n t => y.k a o h (fun z => (x.an a z).elim n fun z => z.not h t) t
  fn := fun a h => (y.fn a h).elim (x.fn a) .inr
  an := fun a h => (y.an a h).elim (x.an a) .inr
  m := y.m
end

/-! ### while -/
/-- at most n turns -/
def whileM {γ δ : Type} : Nat → (γ → M Bool) → (γ → M (Fl γ γ)) → γ → M (Fl δ γ)
  | 0, _, _, _ => no
  | n + 1, c, b, s => c s >>= fun k => if k = true then (b s >>= fun f => match f with
    | .nx s' => whileM n c b s'
    | .ct s' => whileM n c b s'
    | .bk s' => pure (.nx s')
    | .rt d => pure (.rt d)) else pure (.nx s)
section
variable {γ δ α β : Type} {X : Cx} {T : List (Addr × Str)} {W : WX} {B : Hp} {ρ : List SL} {embL : δ → List SL} {embW : γ → List SL} {emb : α → List SL} {c e : Expr} {body rest : List Stmt} {m : M D} {pos : Pos}
theorem PSs_ex' {ι : Type} {sts : List Stmt} {u : ι → TS} (h : ∀ i, PSs X sts (u i)) : PSs X sts (fun D σ H => ∃ i, u i D σ H) := PSs_ex h
theorem PT_ex {ι : Type} {u : ι → TT} (h : ∀ i, PT X c (u i)) : PT X c (fun σ H Q => ∃ i, u i σ H Q) := ⟨fun pins s σ H Q I ⟨i, q⟩ => (h i).run pins s σ H Q I q⟩
theorem vs_while {mc : γ → M Bool} {mb : γ → M (Fl γ γ)} (n : Nat) (s0 : γ) (h0 : SLe (embW s0) ρ) (hp : PassesOwn (model X.prog X.w) X.A X.env X.xe) (hc : ∀ s, VT X T W B (embW s) c (mc s)) (hb : ∀ s, VB X T W B (embW s) body embW embW (mb s)) :
    VS X T W B ρ (.While c body [] pos) embL embW (whileM n mc mb s0) := by
  refine ⟨(ps_while hp (PT_ex fun s => (hc s).pt) (PSs_ex fun s => (hb s).p)).imp ?_⟩
  rintro D σ H ⟨F0, as0, F, as, S, x0, st, sl, p⟩
  refine ⟨fun m σ H => ∃ (F : Hp) (as : List Addr) (S : Sx) (s : γ), Ext F0 B as0 F H as ∧ Stt X.K T F H as S ∧ Slots X.K B F H as (embW s) σ ∧ PostS X.K X.mg T W B F0 as0 embL embW D (whileM m mc mb s S), ⟨n, F, as, S, s0, x0, st, sl.weak h0, p⟩, ?_⟩
  rintro m σ H ⟨F, as, S, s, x0, st, sl, p⟩
  cases m with
  | zero => exact False.elim p
  | succ m =>
    have p1 : PostS X.K X.mg T W B F0 as0 embL embW D (((mc s) >>= fun k => if k = true then (mb s >>= fun f => match f with
      | .nx s' => whileM m mc mb s'
      | .ct s' => whileM m mc mb s'
      | .bk s' => pure (.nx s')
      | .rt d => pure (.rt d)) else pure (.nx s)) S) := p
    refine ⟨s, F, as, S, st, sl, p1.bind x0 fun k v S1 F1 H1 as1 _ x x1 st1 r q => ?_⟩
    obtain rfl : v = k := r
    cases v with
    | false => exact (if_neg (by simp)).mpr (q σ F1 H1 as1 x1 st1 (sl.ext x))
    | true =>
      refine (if_pos rfl).mpr ⟨_, fun σ' H' h => ⟨m, Nat.lt_succ_self m, h⟩, s, F0, as0, F1, as1, S1, x1, st1, sl.ext x, ?_⟩
      have q : PostS X.K X.mg T W B F0 as0 embL embW D ((mb s >>= fun f => match f with
        | .nx s' => whileM m mc mb s'
        | .ct s' => whileM m mc mb s'
        | .bk s' => pure (.nx s')
        | .rt d => pure (.rt d)) S1) := q
      cases e : mb s S1 with
      | ok f S2 =>
        rw [bind_ok e] at q
        cases f with
        | nx s' => exact fun σ' F' H' as' x' st' sl' => ⟨F', as', S2, s', x', st', sl', q⟩
        | ct s' => exact fun σ' F' H' as' x' st' sl' => ⟨F', as', S2, s', x', st', sl', q⟩
        | bk s' => exact q
        | rt d => exact q
      | er y S2 =>
        rw [bind_er e] at q
        exact q
      | no =>
        rw [bind_no e] at q
        exact q

/-! ### targets -/
/-- σ' is σ but at js -/
def Upd (js : List Nat) (σ σ' : L2.St) : Prop := σ'.length = σ.length ∧ ∀ i, i ∉ js → σ'[i]? = σ[i]?
theorem Upd.set {js : List Nat} {σ σ' : L2.St} {i : Nat} {o : Option V} (h : Upd js σ σ') (hi : i ∈ js) : Upd js σ (σ'.set i o) := ⟨by simp [h.1], fun j hj => by rw [List.getElem?_set_ne (show i ≠ j from fun e => by subst e; exact hj hi)]; exact h.2 j hj⟩
theorem Upd.refl {js : List Nat} {σ : L2.St} : Upd js σ σ := ⟨rfl, fun _ _ => rfl⟩
/-- what a store of d makes of the slots -/
structure VG (X : Cx) (T : List (Addr × Str)) (B : Hp) (ρ : List SL) (tg : Expr) (js : List Nat) (bT : D → M β) (embT : β → List SL) : Prop where
  t : ∃ t, PG X tg t ∧ ∀ (v : V) (d : D) (σ : L2.St) (F H : Hp) (as : List Addr) (S : Sx) (Q : L2.St → Hp → Prop), Stt X.K T F H as S → Slots X.K B F H as ρ σ → Rep X.K F as v d →
    (match bT d S with
      | .ok b S' => ∀ σ', Upd js σ σ' → Slots X.K B F H as (embT b) σ' → Q σ' H
      | _ => False) → t v σ H Q
  st : ∀ d S b S', bT d S = .ok b S' → S' = S
  ne : ∀ d S x S', bT d S ≠ .er x S'
theorem vg_name {x : Str} (i : Nat) (hN : X.N.Nodup) (hi : X.N[i]? = some x := by rfl) (hx : Loc X.env.scope x := by first | exact .inl rfl | exact .inr rfl) (hf : X.fn x = true ∨ X.env.scope.names.lookup x = some .local := by first | exact .inl rfl | exact .inr rfl | assumption) :
    VG X T B ρ (.Name x pos) [i] (fun d => pure d) (fun d => ρ.set i (.fz d)) := ⟨⟨_, pg_name (i := i) hN hi hx hf, fun v d σ F H as S Q st sl r p => p _ (Upd.refl.set (by simp)) (sl.set r)⟩, fun d S b S' h => by cases h; rfl, fun d S x S' h => by cases h⟩
def un2 : D → M (D × D)
  | .tup [a, b] => pure (a, b)
  | _ => no
def un3 : D → M (D × D × D)
  | .tup [a, b, c] => pure (a, b, c)
  | _ => no
def un4 : D → M (D × D × D × D)
  | .tup [a, b, c, d] => pure (a, b, c, d)
  | _ => no
theorem un2_st (d : D) (S : Sx) (b : D × D) (S' : Sx) (h : un2 d S = .ok b S') : S' = S := by
  unfold un2 at h
  split at h <;> cases h
  rfl
theorem un2_ne (d : D) (S : Sx) (x : Exc) (S' : Sx) : un2 d S ≠ .er x S' := by
  intro h
  unfold un2 at h
  split at h <;> cases h
theorem un3_st (d : D) (S : Sx) (b : D × D × D) (S' : Sx) (h : un3 d S = .ok b S') : S' = S := by
  unfold un3 at h
  split at h <;> cases h
  rfl
theorem un3_ne (d : D) (S : Sx) (x : Exc) (S' : Sx) : un3 d S ≠ .er x S' := by
  intro h
  unfold un3 at h
  split at h <;> cases h
theorem un4_st (d : D) (S : Sx) (b : D × D × D × D) (S' : Sx) (h : un4 d S = .ok b S') : S' = S := by
  unfold un4 at h
  split at h <;> cases h
  rfl
theorem un4_ne (d : D) (S : Sx) (x : Exc) (S' : Sx) : un4 d S ≠ .er x S' := by
  intro h
  unfold un4 at h
  split at h <;> cases h
theorem vg_tup2 {x y : Str} {px py : Pos} {k : Nat} (i j : Nat) (hc : X.calm = true) (hN : X.N.Nodup) (hi : X.N[i]? = some x := by rfl) (hx : Loc X.env.scope x := by first | exact .inl rfl | exact .inr rfl) (hj : X.N[j]? = some y := by rfl) (hy : Loc X.env.scope y := by first | exact .inl rfl | exact .inr rfl)
    (hf : X.fn x = true ∨ X.env.scope.names.lookup x = some .local := by first | exact .inl rfl | exact .inr rfl | assumption) (hf2 : X.fn y = true ∨ X.env.scope.names.lookup y = some .local := by first | exact .inl rfl | exact .inr rfl | assumption) :
    VG X T B ρ (.Tuple [.Name x px, .Name y py] k pos) [i, j] un2 (fun b => (ρ.set i (.fz b.1)).set j (.fz b.2)) :=
  ⟨⟨_, pg_tup hc (pgs_cons (pg_name (i := i) hN hi hx hf) (pgs_cons (pg_name (i := j) hN hj hy hf2) pgs_nil)), fun v d σ F H as S Q st sl r p => by
    cases d with
    | tup xs =>
      obtain ⟨a, vs, rfl, h1, r1⟩ := r.tupAt
      match xs, r1, p with
      | [a1, a2], r1, p =>
        obtain ⟨v1, v2, rfl, q1, q2⟩ := reps2 r1
        exact ⟨a, _, rfl, SqT.mono h1 st.fz, rfl, v1, _, rfl, v2, _, rfl, rfl, p _ ((Upd.refl.set (by simp)).set (by simp)) ((sl.set q1).set q2)⟩
      | [], _, p => exact p.elim
      | [_], _, p => exact p.elim
      | _ :: _ :: _ :: _, _, p => exact p.elim
    | _ => exact p.elim⟩, un2_st, un2_ne⟩
theorem vg_tup3 {x y z : Str} {px py pz : Pos} {k : Nat} (i j l : Nat) (hc : X.calm = true) (hN : X.N.Nodup) (hi : X.N[i]? = some x := by rfl) (hx : Loc X.env.scope x := by first | exact .inl rfl | exact .inr rfl) (hj : X.N[j]? = some y := by rfl) (hy : Loc X.env.scope y := by first | exact .inl rfl | exact .inr rfl) (hl : X.N[l]? = some z := by rfl) (hz : Loc X.env.scope z := by first | exact .inl rfl | exact .inr rfl)
    (hf : X.fn x = true ∨ X.env.scope.names.lookup x = some .local := by first | exact .inl rfl | exact .inr rfl | assumption) (hf2 : X.fn y = true ∨ X.env.scope.names.lookup y = some .local := by first | exact .inl rfl | exact .inr rfl | assumption) (hf3 : X.fn z = true ∨ X.env.scope.names.lookup z = some .local := by first | exact .inl rfl | exact .inr rfl | assumption) :
    VG X T B ρ (.Tuple [.Name x px, .Name y py, .Name z pz] k pos) [i, j, l] un3 (fun b => ((ρ.set i (.fz b.1)).set j (.fz b.2.1)).set l (.fz b.2.2)) :=
  ⟨⟨_, pg_tup hc (pgs_cons (pg_name (i := i) hN hi hx hf) (pgs_cons (pg_name (i := j) hN hj hy hf2) (pgs_cons (pg_name (i := l) hN hl hz hf3) pgs_nil))), fun v d σ F H as S Q st sl r p => by
    cases d with
    | tup xs =>
      obtain ⟨a, vs, rfl, h1, r1⟩ := r.tupAt
      match xs, r1, p with
      | [a1, a2, a3], r1, p =>
        cases r1 with
        | cons q1 r2 =>
          obtain ⟨v2, v3, rfl, q2, q3⟩ := reps2 r2
          exact ⟨a, _, rfl, SqT.mono h1 st.fz, rfl, _, _, rfl, v2, _, rfl, v3, _, rfl, rfl, p _ (((Upd.refl.set (by simp)).set (by simp)).set (by simp)) (((sl.set q1).set q2).set q3)⟩
      | [], _, p => exact p.elim
      | [_], _, p => exact p.elim
      | [_, _], _, p => exact p.elim
      | _ :: _ :: _ :: _ :: _, _, p => exact p.elim
    | _ => exact p.elim⟩, un3_st, un3_ne⟩
theorem vg_tup4 {x y z w : Str} {px py pz pw : Pos} {k : Nat} (i j l n : Nat) (hc : X.calm = true) (hN : X.N.Nodup) (hi : X.N[i]? = some x := by rfl) (hx : Loc X.env.scope x := by first | exact .inl rfl | exact .inr rfl) (hj : X.N[j]? = some y := by rfl) (hy : Loc X.env.scope y := by first | exact .inl rfl | exact .inr rfl) (hl : X.N[l]? = some z := by rfl) (hz : Loc X.env.scope z := by first | exact .inl rfl | exact .inr rfl) (hn : X.N[n]? = some w := by rfl) (hw : Loc X.env.scope w := by first | exact .inl rfl | exact .inr rfl)
    (hf : X.fn x = true ∨ X.env.scope.names.lookup x = some .local := by first | exact .inl rfl | exact .inr rfl | assumption) (hf2 : X.fn y = true ∨ X.env.scope.names.lookup y = some .local := by first | exact .inl rfl | exact .inr rfl | assumption) (hf3 : X.fn z = true ∨ X.env.scope.names.lookup z = some .local := by first | exact .inl rfl | exact .inr rfl | assumption) (hf4 : X.fn w = true ∨ X.env.scope.names.lookup w = some .local := by first | exact .inl rfl | exact .inr rfl | assumption) :
    VG X T B ρ (.Tuple [.Name x px, .Name y py, .Name z pz, .Name w pw] k pos) [i, j, l, n] un4 (fun b => (((ρ.set i (.fz b.1)).set j (.fz b.2.1)).set l (.fz b.2.2.1)).set n (.fz b.2.2.2)) :=
  ⟨⟨_, pg_tup hc (pgs_cons (pg_name (i := i) hN hi hx hf) (pgs_cons (pg_name (i := j) hN hj hy hf2) (pgs_cons (pg_name (i := l) hN hl hz hf3) (pgs_cons (pg_name (i := n) hN hn hw hf4) pgs_nil)))), fun v d σ F H as S Q st sl r p => by
    cases d with
    | tup xs =>
      obtain ⟨a, vs, rfl, h1, r1⟩ := r.tupAt
      match xs, r1, p with
      | [a1, a2, a3, a4], r1, p =>
        cases r1 with
        | cons q1 r2 =>
          cases r2 with
          | cons q2 r3 =>
            obtain ⟨v3, v4, rfl, q3, q4⟩ := reps2 r3
            exact ⟨a, _, rfl, SqT.mono h1 st.fz, rfl, _, _, rfl, _, _, rfl, v3, _, rfl, v4, _, rfl, rfl, p _ ((((Upd.refl.set (by simp)).set (by simp)).set (by simp)).set (by simp)) ((((sl.set q1).set q2).set q3).set q4)⟩
      | [], _, p => exact p.elim
      | [_], _, p => exact p.elim
      | [_, _], _, p => exact p.elim
      | [_, _, _], _, p => exact p.elim
      | _ :: _ :: _ :: _ :: _ :: _, _, p => exact p.elim
    | _ => exact p.elim⟩, un4_st, un4_ne⟩
/-- target = e -/
theorem vs_asg {tg : Expr} {js : List Nat} {bT : D → M β} {embT : β → List SL} (he : VE X T W B ρ e m) (hg : VG X T B ρ tg js bT embT) (hs : swapsWithSole [tg] e pos.line X.env = pure false := by rfl) (hw : swappedStores [tg] e X.env = pure none := by rfl) (h1 : (assignEach [tg] X.env).map (·.2) = [assign tg X.env] := by rfl) :
    VS X T W B ρ (.Assign [tg] e pos) embL embT (m >>= fun d => bT d >>= fun b => pure (.nx b)) :=
  let ⟨t, pg, ht⟩ := hg.t
  vs_of (ps_asg he.pe pg hs hw h1) fun D' σ H q => by
    obtain ⟨F, as, S, a, b, c⟩ := q
    refine ⟨F, as, S, a, b, ?_⟩
    cases e : m S with
    | ok d S' =>
      rw [e] at c
      intro v F' H' as' x st r
      obtain ⟨F0, as0, F2, as2, S2, d2, x0, st2, sl2, r2, p⟩ := c v F' H' as' x st r
      refine ht v d2 σ F2 H' as2 S2 _ st2 sl2 r2 ?_
      cases e2 : bT d2 S2 with
      | ok b2 S3 =>
        rw [bind_ok e2] at p
        obtain rfl := hg.st _ _ _ _ e2
        exact fun σ' _ sl' => p σ' F2 H' as2 x0 st2 sl'
      | er y S3 => exact absurd e2 (hg.ne _ _ _ _)
      | no => rw [bind_no e2] at p; exact p
    | er y S' => rw [e] at c; exact c
    | no => rw [e] at c; exact c
/-- a, b = e1, e2, both names local -/
theorem vs_par2 {x y : Str} {a b : Expr} {px py pt : Pos} {kt k2 : Nat} {pt2 : Pos} {ms : M (List D)} (i j : Nat) (ha : VA X T W B ρ [a, b] ms) (hc : X.calm = true) (hN : X.N.Nodup) (hi : X.N[i]? = some x := by rfl) (hj : X.N[j]? = some y := by rfl) (hij : i ≠ j := by decide)
    (hx : X.env.scope.names.lookup x = some .local := by rfl) (hy : X.env.scope.names.lookup y = some .local := by rfl) (hw : swappedStores [.Tuple [.Name x px, .Name y py] kt pt] (.Tuple [a, b] k2 pt2) X.env = pure (some [x, y]) := by rfl)
    (hs : swapsWithSole [.Tuple [.Name x px, .Name y py] kt pt] (.Tuple [a, b] k2 pt2) pos.line X.env = pure false := by rfl) :
    VS X T W B ρ (.Assign [.Tuple [.Name x px, .Name y py] kt pt] (.Tuple [a, b] k2 pt2) pos) embL (fun b : D × D => (ρ.set i (.fz b.1)).set j (.fz b.2)) (ms >>= fun ds => un2 (.tup ds) >>= fun b => pure (.nx b)) :=
  ⟨(ps_par (i := i) (j := j) hc hN hi hj hij hx hy ha.pa hw hs).imp fun D σ H ⟨F0, as0, F, as, S, x0, stt, sl, p⟩ => ⟨F, as, S, stt, sl, p.bind x0 fun ds vs S' F' H' as' _ x x' st r q => by
    match ds, r, q with
    | [a1, a2], r, q =>
      obtain ⟨v1, v2, rfl, q1, q2⟩ := reps2 r
      exact ⟨v1, v2, rfl, q _ F' H' as' x' st (((sl.ext x).set q1).set q2)⟩
    | [], _, q => exact False.elim q
    | [_], _, q => exact False.elim q
    | _ :: _ :: _ :: _, _, q => exact False.elim q⟩⟩
theorem vs_par3 {x y z : Str} {a b c : Expr} {px py pz pt : Pos} {kt k2 : Nat} {pt2 : Pos} {ms : M (List D)} (i j l : Nat) (ha : VA X T W B ρ [a, b, c] ms) (hc : X.calm = true) (hN : X.N.Nodup) (hi : X.N[i]? = some x := by rfl) (hj : X.N[j]? = some y := by rfl) (hl : X.N[l]? = some z := by rfl) (hij : i ≠ j := by decide) (hil : i ≠ l := by decide) (hjl : j ≠ l := by decide)
    (hx : X.env.scope.names.lookup x = some .local := by rfl) (hy : X.env.scope.names.lookup y = some .local := by rfl) (hz : X.env.scope.names.lookup z = some .local := by rfl) (hw : swappedStores [.Tuple [.Name x px, .Name y py, .Name z pz] kt pt] (.Tuple [a, b, c] k2 pt2) X.env = pure (some [x, y, z]) := by rfl)
    (hs : swapsWithSole [.Tuple [.Name x px, .Name y py, .Name z pz] kt pt] (.Tuple [a, b, c] k2 pt2) pos.line X.env = pure false := by rfl) :
    VS X T W B ρ (.Assign [.Tuple [.Name x px, .Name y py, .Name z pz] kt pt] (.Tuple [a, b, c] k2 pt2) pos) embL (fun b : D × D × D => ((ρ.set i (.fz b.1)).set j (.fz b.2.1)).set l (.fz b.2.2)) (ms >>= fun ds => un3 (.tup ds) >>= fun b => pure (.nx b)) :=
  ⟨(ps_par3 (i := i) (j := j) (l := l) hc hN hi hj hl hij hil hjl hx hy hz ha.pa hw hs).imp fun D σ H ⟨F0, as0, F, as, S, x0, stt, sl, p⟩ => ⟨F, as, S, stt, sl, p.bind x0 fun ds vs S' F' H' as' _ x x' st r q => by
    match ds, r, q with
    | [a1, a2, a3], r, q =>
      cases r with
      | cons q1 r2 =>
        obtain ⟨v2, v3, rfl, q2, q3⟩ := reps2 r2
        exact ⟨_, v2, v3, rfl, q _ F' H' as' x' st ((((sl.ext x).set q1).set q2).set q3)⟩
    | [], _, q => exact False.elim q
    | [_], _, q => exact False.elim q
    | [_, _], _, q => exact False.elim q
    | _ :: _ :: _ :: _ :: _, _, q => exact False.elim q⟩⟩
end

/-! ### what is walked -/
/-- J gives out ds, over any later state -/
def IterOk (K : PySem.W.Frag) (T : List (Addr × Str)) (F1 : Hp) (as1 : List Addr) (J : It) (ds : List D) : Prop :=
  ∃ (G : Hp → Prop) (Y : Nat → Hp → V → Hp → Prop), Walk J ds.length G Y ∧ (∀ F H as S, Stt K T F H as S → (∀ a o, F1 a = some o → F a = some o) → (∀ (n : Nat) (a : Addr), as1[n]? = some a → as[n]? = some a) → G H) ∧
    ∀ (i : Nat) d F H as S x H', ds[i]? = some d → Stt K T F H as S → (∀ a o, F1 a = some o → F a = some o) → (∀ (n : Nat) (a : Addr), as1[n]? = some a → as[n]? = some a) → Y i H x H' → ∃ F', Ext F H as F' H' as ∧ Stt K T F' H' as S ∧ Rep K F' as x d
structure VI (X : Cx) (T : List (Addr × Str)) (W : WX) (B : Hp) (ρ : List SL) (tg iter : Expr) (m : M (List D)) : Prop where
  t : ∃ wi : TI, PI X tg iter wi ∧ ∀ (σ : L2.St) (F H : Hp) (as : List Addr) (S : Sx) (R : It → Hp → Prop), Stt X.K T F H as S → Slots X.K B F H as ρ σ → Post X.K X.mg T F H as (fun F' as' J ds => IterOk X.K T F' as' J ds) R (fun cls dd H' => W cls dd σ H') (m S) → wi σ H R
section
variable {K : PySem.W.Frag} {T : List (Addr × Str)} {F1 : Hp} {as1 : List Addr}
theorem iter_list {a : Addr} {vs : List V} {ds : List D} (h : SqL K F1 a vs) (r : Reps K F1 as1 vs ds) : IterOk K T F1 as1 (Itl K a) ds :=
  ⟨_, _, by rw [← r.length]; exact walk_list (xs := vs), fun F H as S st f g => SqL.mono (SqL.mono h f) st.fz, fun i d F H as S x H' hd st f g y => by
    obtain ⟨rfl, hx⟩ := y
    obtain ⟨d', h1, h2⟩ := r.get hx
    rw [hd] at h1; cases h1
    exact ⟨F, Ext.refl, st, h2.mono f g⟩⟩
theorem iter_tup {a : Addr} {vs : List V} {ds : List D} (h : SqT K F1 a vs) (r : Reps K F1 as1 vs ds) : IterOk K T F1 as1 (Itt K a) ds :=
  ⟨_, _, by rw [← r.length]; exact walk_tup (xs := vs), fun F H as S st f g => SqT.mono (SqT.mono h f) st.fz, fun i d F H as S x H' hd st f g y => by
    obtain ⟨rfl, hx⟩ := y
    obtain ⟨d', h1, h2⟩ := r.get hx
    rw [hd] at h1; cases h1
    exact ⟨F, Ext.refl, st, h2.mono f g⟩⟩
/-- lo, lo + 1, .. -/
def rangeL (lo : Int) (n : Nat) : List D := (List.range n).map fun (i : Nat) => .int (lo + (i : Int))
theorem iter_range {lo : Int} {n : Nat} : IterOk K T F1 as1 (Itr lo n) (rangeL lo n) :=
  ⟨_, _, by unfold rangeL; rw [List.length_map, List.length_range]; exact walk_range, fun _ _ _ _ _ _ _ => trivial, fun i d F H as S x H' hd st f g y => by
    obtain ⟨rfl, rfl⟩ := y
    unfold rangeL at hd
    rw [List.getElem?_map] at hd
    by_cases hi : i < n
    · rw [List.getElem?_range hi] at hd
      cases hd
      exact ⟨F, Ext.refl, st, .int _⟩
    · rw [List.getElem?_eq_none (by simpa using hi)] at hd
      cases hd⟩
/-- new pairs -/
theorem iter_pair {J : It} {G : Hp → Prop} {f g : Nat → Option V} {ds : List (D × D)} (w : Walk J ds.length G (YPair f g)) (hG : ∀ F H as S, Stt K T F H as S → (∀ a o, F1 a = some o → F a = some o) → (∀ (n : Nat) (a : Addr), as1[n]? = some a → as[n]? = some a) → G H)
    (hr : ∀ (i : Nat) (d : D × D) x y, ds[i]? = some d → f i = some x → g i = some y → Rep K F1 as1 x d.1 ∧ Rep K F1 as1 y d.2) : IterOk K T F1 as1 J (ds.map fun d => .tup [d.1, d.2]) :=
  ⟨G, _, by rw [List.length_map]; exact w, hG, fun i d F H as S x H' hd st f' g' y => by
    obtain ⟨t, x1, y1, rfl, h1, rfl, h2, h3⟩ := y
    rw [List.getElem?_map] at hd
    cases e : ds[i]? with
    | none => rw [e] at hd; cases hd
    | some p =>
      rw [e] at hd
      cases hd
      obtain ⟨r1, r2⟩ := hr i p x1 y1 e h2 h3
      have e1 := Ext.new (o := .tup [x1, y1]) h1 st
      exact ⟨_, e1, st.new h1 (fun _ => by simp), .tup (SqT.of upd_same) (.cons (e1.rep (r1.mono f' g')) (.cons (e1.rep (r2.mono f' g')) .nil))⟩⟩
end
section
variable {γ δ α β : Type} {X : Cx} {T : List (Addr × Str)} {W : WX} {B : Hp} {ρ : List SL} {embL : δ → List SL} {embW : γ → List SL} {emb : α → List SL} {tg c e e2 : Expr} {body rest : List Stmt} {m : M D} {ms : M (List D)} {pos : Pos}
theorem PI_or {wi wj : TI} {iter : Expr} (h : PI X tg iter wi) (h' : PI X tg iter wj) : PI X tg iter (fun σ H R => wi σ H R ∨ wj σ H R) := ⟨fun pins s σ H R I q => q.elim (h.run pins s σ H R I) (h'.run pins s σ H R I)⟩
/-- the items of a row -/
def rowD : D → M (List D)
  | .tup xs => pure xs
  | .lst xs => pure xs
  | .scr ns => pure (ns.map .int)
  | _ => no
theorem vi_row (he : VE X T W B ρ e m) : VI X T W B ρ tg e (m >>= rowD) :=
  ⟨_, PI_or (pi_list he.pe) (pi_tup he.pe), fun σ F H as S R st sl p => by
    cases e1 : m S with
    | ok d S1 =>
      have p1 := p.bind (Rm := RepV X.K) (Q' := fun v H1 => ∃ F1 as1, Stt X.K T F1 H1 as1 S1 ∧ Rep X.K F1 as1 v d ∧ Post X.K X.mg T F1 H1 as1 (fun F' as' J ds => IterOk X.K T F' as' J ds) R (fun cls dd H' => W cls dd σ H') (rowD d S1)) fun d2 v S2 F1 H1 as1 e2 x1 st1 r q => by
        rw [e1] at e2
        cases e2
        exact ⟨F1, as1, st1, r, q⟩
      cases d with
      | tup xs =>
        refine .inr ⟨F, as, S, st, sl, ?_⟩
        rw [e1] at p1 ⊢
        intro v F' H' as' x st' r'
        obtain ⟨F1, as1, st1, r, q⟩ := p1 v F' H' as' x st' r'
        obtain ⟨a, vs, rfl, h1, r1⟩ := r.tupAt
        exact ⟨a, rfl, ⟨vs, SqT.mono h1 st1.fz⟩, q _ F1 H' as1 Ext.refl st1 (iter_tup h1 r1)⟩
      | lst xs =>
        refine .inl ⟨F, as, S, st, sl, ?_⟩
        rw [e1] at p1 ⊢
        intro v F' H' as' x st' r'
        obtain ⟨F1, as1, st1, r, q⟩ := p1 v F' H' as' x st' r'
        obtain ⟨a, vs, rfl, h1, r1⟩ := r.lstAt
        exact ⟨a, rfl, ⟨vs, SqL.of (st1.fz _ _ h1)⟩, q _ F1 H' as1 Ext.refl st1 (iter_list (SqL.of h1) r1)⟩
      | scr ns =>
        refine .inl ⟨F, as, S, st, sl, ?_⟩
        rw [e1] at p1 ⊢
        intro v F' H' as' x st' r'
        obtain ⟨F1, as1, st1, r, q⟩ := p1 v F' H' as' x st' r'
        obtain ⟨a, rfl, h1⟩ := r.scrAt
        exact ⟨a, rfl, ⟨_, SqL.mono h1 st1.fz⟩, q _ F1 H' as1 Ext.refl st1 (iter_list h1 (Reps.ints ns))⟩
      | _ =>
        rw [bind_ok e1] at p
        exact False.elim p
    | er y S1 =>
      rw [bind_er e1] at p
      refine .inl ⟨F, as, S, st, sl, ?_⟩
      rw [e1]
      exact p
    | no =>
      rw [bind_no e1] at p
      exact False.elim p⟩
def rngOk (j : Int) : Prop := -(2 ^ 62) ≤ j ∧ j < 2 ^ 62
instance (j : Int) : Decidable (rngOk j) := by unfold rngOk; infer_instance
def range1 : List D → M (List D)
  | [.int j] => if rngOk j then pure (rangeL 0 j.toNat) else no
  | _ => no
def range2 : List D → M (List D)
  | [.int i, .int j] => if rngOk i ∧ rngOk j then pure (rangeL i (j - i).toNat) else no
  | _ => no
theorem vi_range1 {a : Expr} {p : Pos} (ha : VA X T W B ρ [a] ms) (hm : X.mg "range" = none) (hg : Gl X "range" := by rfl) (hs : starEach [a] X.env = [(false, eval a X.env)] := by rfl) : VI X T W B ρ tg (.Call (.Name "range" p) [a] [] pos) (ms >>= range1) :=
  ⟨_, pi_range1 hg hm ha.pa hs, fun σ F H as S R st sl p => ⟨F, as, S, st, sl, p.bind fun ds vs S1 F1 H1 as1 _ x1 st1 r p1 => by
    cases ds with
    | nil => exact False.elim p1
    | cons d ds =>
      cases ds with
      | cons _ _ => cases d <;> exact False.elim p1
      | nil =>
        obtain ⟨v, rfl, hv⟩ := reps1 r
        cases d with
        | int j =>
          cases hv
          by_cases c : rngOk j
          · rw [show range1 [.int j] = _ from if_pos c] at p1
            exact ⟨j, rfl, c.1, c.2, p1 _ F1 H1 as1 Ext.refl st1 iter_range⟩
          · rw [show range1 [.int j] = _ from if_neg c] at p1
            exact False.elim p1
        | _ => exact False.elim p1⟩⟩
theorem vi_range2 {a b : Expr} {p : Pos} (ha : VA X T W B ρ [a, b] ms) (hm : X.mg "range" = none) (hg : Gl X "range" := by rfl) (hs : starEach [a, b] X.env = [(false, eval a X.env), (false, eval b X.env)] := by rfl) (hs2 : starEach [b] X.env = [(false, eval b X.env)] := by rfl) : VI X T W B ρ tg (.Call (.Name "range" p) [a, b] [] pos) (ms >>= range2) :=
  ⟨_, pi_range2 hg hm ha.pa hs hs2, fun σ F H as S R st sl p => ⟨F, as, S, st, sl, p.bind fun ds vs S1 F1 H1 as1 _ x1 st1 r p1 => by
    match ds, r, p1 with
    | [.int i, .int j], r, p1 =>
      obtain ⟨v1, v2, rfl, q1, q2⟩ := reps2 r
      cases q1; cases q2
      by_cases c : rngOk i ∧ rngOk j
      · rw [show range2 [.int i, .int j] = _ from if_pos c] at p1
        exact ⟨i, j, rfl, ⟨c.1.1, c.1.2, c.2.1, c.2.2⟩, p1 _ F1 H1 as1 Ext.refl st1 iter_range⟩
      · rw [show range2 [.int i, .int j] = _ from if_neg c] at p1
        exact False.elim p1
    | [], _, p1 => exact False.elim p1
    | [d], _, p1 => cases d <;> exact False.elim p1
    | d :: e :: _ :: _, _, p1 => cases d <;> first | exact False.elim p1 | (cases e <;> exact False.elim p1)
    | [.non, _], _, p1 | [.bl _, _], _, p1 | [.str _, _], _, p1 | [.tup _, _], _, p1 | [.lst _, _], _, p1 | [.emp, _], _, p1 | [.cell _, _], _, p1 | [.adr _, _], _, p1 | [.scr _, _], _, p1 => exact False.elim p1
    | [.int _, .non], _, p1 | [.int _, .bl _], _, p1 | [.int _, .str _], _, p1 | [.int _, .tup _], _, p1 | [.int _, .lst _], _, p1 | [.int _, .emp], _, p1 | [.int _, .cell _], _, p1 | [.int _, .adr _], _, p1 | [.int _, .scr _], _, p1 => exact False.elim p1⟩⟩

/-! ### for -/
def forM {γ δ : Type} (b : D → γ → M (Fl γ γ)) : List D → γ → M (Fl δ γ)
  | [], s => pure (.nx s)
  | x :: xs, s => b x s >>= fun f => match f with
    | .nx s' => forM b xs s'
    | .ct s' => forM b xs s'
    | .bk s' => pure (.nx s')
    | .rt d => pure (.rt d)
theorem PG_ex {ι : Type} {u : ι → TG} (h : ∀ i, PG X tg (u i)) : PG X tg (fun v σ H Q => ∃ i, u i v σ H Q) := ⟨fun pins s σ H v u Q I r ⟨i, q⟩ => (h i).run pins s σ H v u Q I r q⟩
theorem vs_for {iter : Expr} {js : List Nat} {mi : M (List D)} {bT : D → M β} {embT : γ → β → List SL} {mb : γ → β → M (Fl γ γ)} (s0 : γ) (h0 : SLe (embW s0) ρ) (hp : PassesOwn (model X.prog X.w) X.A X.env X.xe) (hc : X.calm = true) (hi : VI X T W B ρ tg iter mi) (hg : ∀ s, VG X T B (embW s) tg js bT (embT s))
    (hb : ∀ s t, VB X T W B (embT s t) body embW embW (mb s t)) (hf : ∀ x, foldedSetIterable iter X.env x = pure x := by intro _; rfl) :
    VS X T W B ρ (.For tg iter body [] pos) embL embW (mi >>= fun ds => forM (fun d s => bT d >>= fun t => mb s t) ds s0) := by
  obtain ⟨wi, pi, hi⟩ := hi.t
  have hg' : ∀ s, ∃ t, PG X tg t ∧ _ := fun s => (hg s).t
  refine ⟨(ps_for (g := fun v σ H Q => ∃ s, Classical.choose (hg' s) v σ H Q) hp hc pi (PG_ex fun s => (Classical.choose_spec (hg' s)).1) (PSs_ex fun st : γ × β => (hb st.1 st.2).p) hf).imp ?_⟩
  rintro D σ H ⟨F0, as0, F, as, S, x0, st, sl, p⟩
  refine hi σ F H as S _ st sl (p.bind x0 fun ds J S1 F1 H1 as1 _ x1 x01 st1 hJ p1 => ?_)
  obtain ⟨G, Y, w, hG, hY⟩ := hJ
  refine for_it w (g := fun v σ H Q => ∃ s, Classical.choose (hg' s) v σ H Q) (tb := fun D σ H => ∃ st : γ × β, rdS X.K X.mg T W B (embT st.1 st.2) embW embW (mb st.1 st.2) D σ H) (D := D) (fun i σ H => ∃ (F : Hp) (as : List Addr) (S : Sx) (s : γ), Ext F1 B as1 F H as ∧ Stt X.K T F H as S ∧ Slots X.K B F H as (embW s) σ ∧ PostS X.K X.mg T W B F0 as0 embL embW D (forM (fun d s => bT d >>= fun t => mb s t) (ds.drop i) s S)) ⟨F1, as1, S1, s0, x01.rebase, st1, (sl.ext x1).weak h0, by rw [List.drop_zero]; exact p1⟩ ?_ ?_ ?_
  · rintro i σ H hi ⟨F, as, S, s, x, st, sl, p⟩
    exact hG F H as S st x.f x.g
  · rintro i x σ H H' hi ⟨F, as, S, s, xx, st, sl, p⟩ y
    have hd : ds[i]? = some ds[i] := by simp [hi]
    obtain ⟨F2, x2, st2, r2⟩ := hY i _ F H as S x H' hd st xx.f xx.g y
    have ed : ds.drop i = ds[i] :: ds.drop (i + 1) := by rw [List.drop_eq_getElem_cons hi]
    rw [ed] at p
    have p2 : PostS X.K X.mg T W B F0 as0 embL embW D (((bT ds[i] >>= fun t => mb s t) >>= fun f => match f with
      | .nx s' => forM (fun d s => bT d >>= fun t => mb s t) (ds.drop (i + 1)) s'
      | .ct s' => forM (fun d s => bT d >>= fun t => mb s t) (ds.drop (i + 1)) s'
      | .bk s' => pure (.nx s')
      | .rt d => pure (.rt d)) S) := p
    rw [bind_assoc] at p2
    refine ⟨s, (Classical.choose_spec (hg' s)).2 x ds[i] σ F2 H' as S _ st2 (sl.ext x2) r2 ?_⟩
    have xb : Ext F1 B as1 F2 H' as := ⟨fun a o h => x2.f a o (xx.f a o h), xx.g, fun a o h n t => x2.k a o (xx.k a o h n t) (fun z => (xx.an a z).elim n fun z => z.not h t) t, fun a h => (x2.fn a h).elim (xx.fn a) fun z => .inr (xx.m a z), xx.an, fun a h => xx.m a (x2.m a h)⟩
    cases e : bT ds[i] S with
    | ok b S' =>
      obtain rfl := (hg s).st _ _ _ _ e
      rw [bind_ok e] at p2
      intro σ' _ sl'
      refine ⟨(s, b), F1, as1, F2, as, S', xb, st2, sl', ?_⟩
      show PostS _ _ _ _ _ _ _ _ _ _ (mb s b S')
      cases e2 : mb s b S' with
      | ok f S3 =>
        rw [bind_ok e2] at p2
        cases f with
        | nx s' => exact fun σ3 F3 H3 as3 x3 st3 sl3 => ⟨F3, as3, S3, s', x3, st3, sl3, p2⟩
        | ct s' => exact fun σ3 F3 H3 as3 x3 st3 sl3 => ⟨F3, as3, S3, s', x3, st3, sl3, p2⟩
        | bk s' => exact fun σ3 F3 H3 as3 x3 st3 sl3 => p2 σ3 F3 H3 as3 (x01.glue x3) st3 sl3
        | rt d => exact fun v F3 H3 as3 x3 st3 r3 => p2 v F3 H3 as3 (x01.glue x3) st3 r3
      | er y S3 =>
        rw [bind_er e2] at p2
        exact fun cls dd σ3 F3 H3 as3 x3 st3 r3 => p2 cls dd σ3 F3 H3 as3 (x01.glue x3) st3 r3
      | no =>
        rw [bind_no e2] at p2
        exact p2
    | er y S' => exact absurd e ((hg s).ne _ _ _ _)
    | no =>
      rw [bind_no e] at p2
      exact p2
  · rintro σ H ⟨F, as, S, s, xx, st, sl, p⟩
    rw [List.drop_length] at p
    exact p σ F H as (x01.glue xx) st sl
end
end VL

/-! VLCall: calls of defs, raise, lists of one's own, comprehensions, cells. -/
namespace VL
open PySem PySem.Spec PyProof.Rows L2

/-! ### the call of a def -/
/-- the def at f makes g of its arguments; γ: it wants to know that no repr runs around it -/
structure VFn (γ : Bool) (P : Program) (w : World) (K : PySem.W.Frag) (mg : Str → Option Value) (base : Heap) (T : List (Addr × Str)) (k : Nat) (f : Addr) (fd : FuncData) (ps : List Str) (g : List D → M D) : Prop where
  run : ∀ (A : Around) (outer : List Env) (s : Shared) (H : Hp) (args : Args) (us : List Value) (vs : List V) (Q : VK) (E : XK) (F : Hp) (as : List Addr) (S : Sx) (ds : List D), Room k A → (γ = true → A.guards = some []) → Env0 P w K mg base A outer s H → BindsTo s fd args (ps.zip us) → Vals vs us →
    Stt K T F H as S → Reps K F as vs ds → ds.length = ps.length → Post K mg T F H as (RepV K) Q (fun cls dd H' => E cls dd H') (g ds S) → codeAny (model P w) A (.call (.ref f) args) (CR (L2.CX P w) outer P w H s Q E) s
theorem VFn.mono {γ : Bool} {P : Program} {w : World} {K : PySem.W.Frag} {mg : Str → Option Value} {base : Heap} {T : List (Addr × Str)} {j k : Nat} {f : Addr} {fd : FuncData} {ps : List Str} {g : List D → M D} (F : VFn γ P w K mg base T j f fd ps g) (h : j ≤ k) : VFn γ P w K mg base T k f fd ps g :=
  ⟨fun A outer s H args us vs Q E F' as S ds hr => F.run A outer s H args us vs Q E F' as S ds (hr.mono h)⟩
/-- its arguments' number is asked -/
def onN (n : Nat) (g : List D → M D) : List D → M D := fun ds => if ds.length = n then g ds else no
section
variable {γ' : Bool} {γ δ α β : Type} {X : Cx} {T : List (Addr × Str)} {W : WX} {B : Hp} {ρ : List SL} {embL : δ → List SL} {embW : γ → List SL} {emb : α → List SL} {tg c e e2 : Expr} {es : List Expr} {body rest : List Stmt} {m : M D} {ms : M (List D)} {pos : Pos}
theorem run_v {k : Nat} {f : Addr} {fd : FuncData} {ps : List Str} {g : List D → M D} (G : VFn γ' X.prog X.w X.K X.mg X.base T k f fd ps g) (hr : Room k X.A) (hγ : γ' = true → X.A.guards = some []) (hb : Binds X.K fd ps []) (tk : Takes X W) {pins : List (Addr × Obj)} {σ : L2.St} {H : Hp} {s : Shared} {Q : VK} {us : List Value} {vs : List V}
    (I : Inv X pins σ H s) (r : Vals vs us) {F : Hp} {as : List Addr} {S : Sx} {ds : List D} (st : Stt X.K T F H as S) (rr : Reps X.K F as vs ds) (hl : ds.length = ps.length) (p : Post X.K X.mg T F H as (RepV X.K) Q (fun cls dd H' => W cls dd σ H') (g ds S)) : wpAny (model X.prog X.w) X.A (call (.ref f) us) (EP X pins σ Q) X.xe s := by
  have hl2 : (us ++ []).length = ps.length := by rw [List.append_nil, ← r.length, rr.length, hl]
  have hb' := hb s us I.kIn hl2
  rw [List.append_nil] at hb'
  refine wpAny_call (codeAny_mono (G.run X.A X.stack s H ⟨us, []⟩ us vs Q (fun cls dd H' => W cls dd σ H') F as S ds hr hγ I.env0 hb' r st rr hl p) fun r s' hq => ?_)
  cases r with
  | error e => exact tk e s' (XE.of_call I (fun _ _ _ h => h) hq)
  | ok fl =>
    cases fl with
    | ret u => exact I.after hq
    | next => exact False.elim hq
    | brk => exact False.elim hq
    | cont => exact False.elim hq
theorem ve_call {x : Str} {p : Pos} {k : Nat} {f : Addr} {fd : FuncData} {ps : List Str} {g : List D → M D} (G : VFn γ' X.prog X.w X.K X.mg X.base T k f fd ps g) (hr : Room k X.A) (hγ : γ' = true → X.A.guards = some []) (hm : X.mg x = some (.ref f)) (hk : PySem.W.keepIn X.K (.ref f) = true) (hb : Binds X.K fd ps []) (tk : Takes X W) (ha : VA X T W B ρ (e :: es) ms)
    (hg : Gl X x := by rfl) (hdb : (x == ("__debug__" : Str)) = false := by decide) (he : starEach (e :: es) X.env = (false, eval e X.env) :: starEach es X.env := by rfl) (hpl : (backTo pos (starEach es X.env)).any (·.1) = false := by rfl) :
    VE X T W B ρ (.Call (.Name x p) (e :: es) [] pos) (ms >>= onN ps.length g) := by
  refine .of ⟨fun pins s σ H Q I h => ?_⟩
  obtain ⟨F, as, S, st, sl, q⟩ := h
  refine wpAny_Call_Name_kw (ld_glob I hg hm ?_ hdb)
  refine PySem.W.callWith_K (h₀ := X.base) I.ok.mod.kin hk (thn (ha.pa.run pos pins s σ H _ I ⟨F, as, S, st, sl, q.bind (Q' := fun vs H1 => ∃ F1 as1 S1 ds, Stt X.K T F1 H1 as1 S1 ∧ Reps X.K F1 as1 vs ds ∧ Post X.K X.mg T F1 H1 as1 (RepV X.K) Q (fun cls dd H' => W cls dd σ H') (onN ps.length g ds S1)) fun ds vs S1 F1 H1 as1 _ e1 st1 r1 p1 => ⟨F1, as1, S1, ds, st1, r1, p1⟩⟩) fun us s1 ⟨vs, H1, I1, r, F1, as1, S1, ds, st1, r1, p1⟩ => ⟨I1.kIn, ?_⟩) he hpl
  unfold onN at p1
  by_cases hl : ds.length = ps.length
  · rw [if_pos hl] at p1
    exact run_v G hr hγ hb tk I1 r st1 r1 hl p1
  · rw [if_neg hl] at p1
    exact False.elim p1
theorem ve_call0 {x : Str} {p : Pos} {k : Nat} {f : Addr} {fd : FuncData} {g : List D → M D} (G : VFn γ' X.prog X.w X.K X.mg X.base T k f fd [] g) (hr : Room k X.A) (hγ : γ' = true → X.A.guards = some []) (hm : X.mg x = some (.ref f)) (hk : PySem.W.keepIn X.K (.ref f) = true) (hb : Binds X.K fd [] []) (tk : Takes X W)
    (hg : Gl X x := by rfl) (hdb : (x == ("__debug__" : Str)) = false := by decide) :
    VE X T W B ρ (.Call (.Name x p) [] [] pos) (g []) := by
  refine .of ⟨fun pins s σ H Q I h => ?_⟩
  obtain ⟨F, as, S, st, sl, q⟩ := h
  refine wpAny_Call_Name_kw (ld_glob I hg hm ?_ hdb)
  exact PySem.W.callWith_K0 I.kIn hk (run_v (us := []) G hr hγ hb tk I .nil st .nil rfl q)

/-! ### raise X(), X an own class without own __init__ -/
/-- what the written part says of the class at C -/
structure XCls (K : PySem.W.Frag) (C : Addr) : Prop where
  ex : PySem.W.excIn K C [.type "ValueError", .type "Exception", .type "BaseException", .type "object"] "ValueError.__new__" = true
  kp : PySem.W.keepIn K (.ref C) = true
  sb : PySem.W.subIn K (.ref C) (.type "BaseException") = some true
  ty : PySem.W.typeIn K (.ref C) = some (.type "type")
theorem pmk_own0 {C : Addr} {x : Str} {p : Pos} (q : XCls X.K C) (gC : X.mg x = some (.ref C)) (hg : Gl X x) (hdb : (x == ("__debug__" : Str)) = false := by decide) : PMk X (.Call (.Name x p) [] [] pos) (fun _ H Q => Q (.ref C) none H) := by
  intro pins s σ H Q I h
  refine wpAny_Call_Name_kw (ld_glob I hg gC ?_ hdb)
  refine PySem.W.callWith_K0 I.kIn q.kp ?_
  show wpAny _ _ (call (.ref C) []) _ _ _
  obtain ⟨bm, N, nm, qn, bs, hdct, sn, sub, ab, col, dd, k0, k1, k2, k3, k5, mN, hC, hN, hni, T⟩ := exc_obj I.kIn q.ex
  refine wpAny_call_exc_subT PySem.F.excBase_ValueError T hC hN hni (fun h' e hm => ?_) (Nat.zero_le _)
  exact mk_of I hm (raises_own q.sb q.ty) h (I.hok.gone hm.new)
theorem vs_raise0 {C : Addr} {x : Str} {p p2 : Pos} (q : XCls X.K C) (gC : X.mg x = some (.ref C)) (tk : Takes X W) (hc : X.calm = true) (hg : Gl X x := by rfl) (hdb : (x == ("__debug__" : Str)) = false := by decide) :
    VS X T W B ρ (.Raise (some (.Call (.Name x p) [] [] p2)) none pos) embL emb (err ⟨x, []⟩) :=
  ⟨(ps_raise hc tk (pmk_own0 q gC hg hdb)).imp fun D σ H ⟨F0, as0, F, as, S, x0, st, sl, p⟩ => p (.ref C) none σ F H as x0 st ⟨gC, fun _ => rfl, fun n => absurd rfl n⟩⟩

/-! ### a def, by its body -/
/-- what a def's body makes: a return, or its end -/
def bodyM (m : M (Fl Unit Unit)) : M D := m >>= fun f => match f with
  | .rt d => pure d
  | .nx _ => pure .non
  | _ => no
/-- the context of a def's body -/
abbrev bCx (P : Program) (w : World) (K : PySem.W.Frag) (mg : Str → Option Value) (base : Heap) (N : List Str) (qual : Str) (st : Stmt) (f : Addr) (cdv : Value) (A : Around) (outer : List Env) (s : Shared) (H : Hp) (E : XK) : Cx := cxOf (L2.CX P w) P w K mg base N qual (defScope st) f cdv A outer s H E
def ρ0 (n : Nat) (ds : List D) : List SL := ds.map SL.fz ++ List.replicate (n - ds.length) .no
theorem slots0 {K : PySem.W.Frag} {F H : Hp} {as : List Addr} {N : List Str} {vs : List V} {ds : List D} (r : Reps K F as vs ds) : Slots K H F H as (ρ0 N.length ds) (L2.start N vs) := by
  refine ⟨by unfold ρ0 L2.start; simp [r.length], fun i s o a b => ?_, fun i j ds' es n a _ oa _ => ?_⟩
  · unfold ρ0 at a
    unfold L2.start at b
    by_cases h : i < ds.length
    · rw [List.getElem?_append_left (by simpa using h)] at a
      rw [List.getElem?_append_left (by simpa [r.length] using h)] at b
      rw [List.getElem?_map] at a b
      cases e : ds[i]? with
      | none => rw [e] at a; cases a
      | some d =>
        rw [e] at a; cases a
        obtain ⟨v, h1, h2⟩ := r.get' e
        rw [h1] at b; cases b
        exact ⟨v, rfl, h2⟩
    · rw [List.getElem?_append_right (by simpa using h)] at a
      rw [List.getElem?_replicate] at a
      split at a <;> cases a
      trivial
  · unfold ρ0 at a
    by_cases h : i < ds.length
    · rw [List.getElem?_append_left (by simpa using h), List.getElem?_map] at a
      cases e : ds[i]? with
      | none => rw [e] at a; cases a
      | some d => rw [e] at a; cases a; cases oa
    · rw [List.getElem?_append_right (by simpa using h)] at a
      rw [List.getElem?_replicate] at a
      split at a <;> cases a
      cases oa
theorem sle_nil : SLe [] [] := ⟨rfl, fun i s t h => by simp at h⟩
theorem sle_no {s : SL} {a b : List SL} (h : SLe a b) : SLe (.no :: a) (s :: b) := ⟨by simp [h.1], fun i x y p q => by
  cases i with
  | zero => simp at p; subst p; trivial
  | succ i => exact h.2 i x y (by simpa using p) (by simpa using q)⟩
theorem sle_eq {s : SL} {a b : List SL} (h : SLe a b) : SLe (s :: a) (s :: b) := ⟨by simp [h.1], fun i x y p q => by
  cases i with
  | zero => simp at p q; subst p; subst q; exact SL.le_refl _
  | succ i => exact h.2 i x y (by simpa using p) (by simpa using q)⟩
theorem sle_refl : ∀ (a : List SL), SLe a a
  | [] => sle_nil
  | _ :: a => sle_eq (sle_refl a)
def nos (n : Nat) : List SL := List.replicate n .no
theorem sle_nos {n : Nat} {ρ : List SL} (h : ρ.length = n) : SLe (nos n) ρ := ⟨by unfold nos; simp [h], fun i s t p q => by
  unfold nos at p
  rw [List.getElem?_replicate] at p
  split at p <;> cases p
  trivial⟩
theorem vb_end {n : Nat} (h : ρ.length = n := by rfl) : VB X T W B ρ [] embL (fun _ : Unit => nos n) (pure (.nx ())) := vb_nil () (sle_nos h)
end
theorem vfn_of {γ : Bool} {P : Program} {w : World} {K : PySem.W.Frag} {mg : Str → Option Value} {base : Heap} {T : List (Addr × Str)} {x qual : Str} {st : Stmt} {f : Addr} {fd : FuncData} {N ps : List Str} {k : Nat} {m : List D → M (Fl Unit Unit)} (F : Fun K x qual st f fd) (S : FnScope N ps (defScope st))
    (hbody : ∀ (cdv : Value) (A : Around) (outer : List Env) (s : Shared) (H : Hp) (E : XK) (ds : List D), Room k (A.deeper (envOfC qual (defScope st) s.heap.objs.size f cdv)) → (γ = true → A.guards = some []) → ds.length = ps.length →
      VB (bCx P w K mg base N qual st f cdv A outer s H E) T (fun cls dd _ H' => E cls dd H') H (ρ0 N.length ds) (defBody st) (fun _ : Unit => nos N.length) (fun _ : Unit => nos N.length) (m ds)) :
    VFn γ P w K mg base T (k + 1) f fd ps (fun ds => bodyM (m ds)) := by
  refine ⟨fun A outer s H args us vs Q E F' as S' ds hr hγ e0 hb rv stt rr hl p => ?_⟩
  obtain ⟨oc, od, kV, doc, pm, an, cdv, ct, osl, rfl, lk, hcd⟩ := F.ex
  refine LamX.run_ofS lk hcd S hr e0 hb rv (by rw [rr.length, hl]) fun hr' => ?_
  refine ⟨_, (hbody cdv A outer s H E ds hr' hγ hl).p, F', as, F', as, S', Ext.refl, stt, slots0 rr, ?_⟩
  unfold bodyM at p
  cases e : m ds S' with
  | ok fl S2 =>
    rw [bind_ok e] at p
    cases fl with
    | nx a => exact fun σ' F2 H2 as2 x st2 sl2 => p .non F2 H2 as2 x st2 .non
    | rt d => exact fun v F2 H2 as2 x st2 r2 => p v F2 H2 as2 x st2 r2
    | bk c => exact False.elim p
    | ct c => exact False.elim p
  | er y S2 =>
    rw [bind_er e] at p
    exact fun cls dd σ' F2 H2 as2 x st2 r2 => p cls dd F2 H2 as2 x st2 r2
  | no =>
    rw [bind_no e] at p
    exact p
theorem takesB {P : Program} {w : World} {K : PySem.W.Frag} {mg : Str → Option Value} {base : Heap} {N : List Str} {qual : Str} {st : Stmt} {f : Addr} {cdv : Value} {A : Around} {outer : List Env} {s : Shared} {H : Hp} {E : XK} : Takes (bCx P w K mg base N qual st f cdv A outer s H E) (fun cls dd _ H' => E cls dd H') := takes_of rfl rfl rfl rfl
theorem passB {P : Program} {w : World} {K : PySem.W.Frag} {mg : Str → Option Value} {base : Heap} {N : List Str} {qual : Str} {st : Stmt} {f : Addr} {cdv : Value} {A : Around} {outer : List Env} {s : Shared} {H : Hp} {E : XK} : PassesOwn (model (bCx P w K mg base N qual st f cdv A outer s H E).prog (bCx P w K mg base N qual st f cdv A outer s H E).w) (bCx P w K mg base N qual st f cdv A outer s H E).A (bCx P w K mg base N qual st f cdv A outer s H E).env (bCx P w K mg base N qual st f cdv A outer s H E).xe := passes_of rfl
end VL

/-! VLOwn: new lists, lists of one's own, cells, comprehensions. -/
namespace VL
open PySem PySem.Spec PyProof.Rows L2

section
variable {K : PySem.W.Frag} {T : List (Addr × Str)} {B F0 F H : Hp} {as0 as : List Addr} {S : Sx} {ρ : List SL} {σ : L2.St}
theorem Ext.sub (x : Ext F0 B as0 F H as) {a : Addr} {o : HO} (h : B a = some o) (n : ∀ ps, o ≠ .tbl ps) (na : a ∉ as0) : H a = some o := x.k a o h na n
/-- a slot takes a list of its own -/
theorem Slots.setOw {i : Nat} {p : Addr} {vs : List V} {ds : List D} (h : Slots K B F H as ρ σ) (hb : Lo B p) (hf : F p = none) (ha : p ∉ as) (hp : H p = some (.lst vs)) (r : Reps K F as vs ds) (hn : ∀ (j : Nat) (s : SL), i ≠ j → ρ[j]? = some s → s.isOw = true → σ[j]? ≠ some (some (.ref p))) :
    Slots K B F H as (ρ.set i (.ow ds)) (σ.set i (some (.ref p))) := by
  refine ⟨by simp [h.len], fun j s o a b => ?_, fun j k es fs n a b oa ob => ?_⟩
  · by_cases e : i = j
    · subst e
      have l1 : i < ρ.length := by
        have := (List.getElem?_eq_some_iff.mp a).1
        simpa using this
      rw [List.getElem?_set_self l1] at a
      rw [List.getElem?_set_self (by rw [← h.len]; exact l1)] at b
      cases a; cases b
      exact ⟨p, vs, rfl, hb, hf, ha, hp, r⟩
    · rw [List.getElem?_set_ne e] at a b
      exact h.ok j s o a b
  · by_cases ej : i = j
    · subst ej
      have l1 : i < ρ.length := by
        have := (List.getElem?_eq_some_iff.mp a).1
        simpa using this
      rw [List.getElem?_set_ne n] at b
      rw [List.getElem?_set_self (by rw [← h.len]; exact l1), List.getElem?_set_ne n]
      exact fun z => hn k fs n b ob z.symm
    · by_cases ek : i = k
      · subst ek
        have l1 : i < ρ.length := by
          have := (List.getElem?_eq_some_iff.mp b).1
          simpa using this
        rw [List.getElem?_set_ne ej] at a
        rw [List.getElem?_set_ne ej, List.getElem?_set_self (by rw [← h.len]; exact l1)]
        exact hn j es ej a oa
      · rw [List.getElem?_set_ne ej] at a
        rw [List.getElem?_set_ne ek] at b
        rw [List.getElem?_set_ne ej, List.getElem?_set_ne ek]
        exact h.dis j k es fs n a b oa ob
/-- what is one's own stands nowhere new -/
theorem Slots.notLo {j : Nat} {s : SL} {p : Addr} (sl : Slots K B F H as ρ σ) (a : ρ[j]? = some s) (oa : s.isOw = true) (lo : Lo H p) (b : σ[j]? = some (some (.ref p))) : False := by
  cases s with
  | no => cases oa
  | fz d => cases oa
  | ow ds =>
    obtain ⟨q', us, h1, h2, h3, h4, h5, h6⟩ := sl.getOw a
    rw [h1] at b
    cases b
    exact lo.not h5 (fun _ => by simp)
  | od t =>
    obtain ⟨q', us, h1, h2, h3, h4, h5, h6⟩ := sl.getOd a
    rw [h1] at b
    cases b
    exact lo.not h5 (t.nt h6)
/-- the list at p, no one else's, is written -/
theorem Stt.upd {p : Addr} {vs ws : List V} (st : Stt K T F H as S) (hf : F p = none) (ha : p ∉ as) (hp : H p = some (.lst vs)) : Stt K T F (upd H p (.lst ws)) as S := by
  refine ⟨fun a o h => by rw [upd_ne (ne_of_none h hf)]; exact st.fz a o h, st.nt, fun q hq => ?_, st.len, st.nod, fun n a h => ?_⟩
  · obtain ⟨ps, h1, h2, h3⟩ := st.tabs q hq
    refine ⟨ps, by rw [upd_ne (ne_of h1 hp (by intro z; cases z))]; exact h1, h2, fun pos cv hc => ?_⟩
    obtain ⟨c, e1, e2⟩ := h3 pos cv hc
    exact ⟨c, e1, by rw [upd_ne (ne_of e2 hp (by intro z; cases z))]; exact e2⟩
  · obtain ⟨g1, us, ds, g2, g3, g4⟩ := st.cel n a h
    exact ⟨g1, us, ds, g2, by rw [upd_ne (show a ≠ p from fun e => by subst e; exact ha (List.mem_of_getElem? h))]; exact g3, g4⟩
theorem Ext.upd {p : Addr} {vs ws : List V} (x : Ext F0 B as0 F H as) (hb : Lo B p) (hp : H p = some (.lst vs)) : Ext F0 B as0 F (upd H p (.lst ws)) as :=
  ⟨x.f, x.g, fun a o h n t => by rw [upd_ne (show a ≠ p from fun e => by subst e; exact hb.not h t)]; exact x.k a o h n t, x.fn, x.an, fun a h => by
    by_cases e : a = p
    · exact e ▸ hb
    · exact x.m a fun o q => h o (by rw [upd_ne e]; exact q)⟩
end
/-- what is wanted behind a piece that makes a new list -/
def PostN (K : PySem.W.Frag) (mg : Str → Option Value) (T : List (Addr × Str)) (F H : Hp) (as : List Addr) (Q : VK) (E : Value → Option Addr → Hp → Prop) : R (List D) → Prop
  | .ok ds S' => ∀ p vs F' H' as', Ext F H as F' H' as' → Stt K T F' H' as' S' → Lo H p → F' p = none → p ∉ as' → H' p = some (.lst vs) → Reps K F' as' vs ds → Q (.ref p) H'
  | .er x S' => ∀ cls dd F' H' as', Ext F H as F' H' as' → Stt K T F' H' as' S' → XRep mg K F' as' cls dd x → E cls dd H'
  | .no => False
structure VN (X : Cx) (T : List (Addr × Str)) (W : WX) (B : Hp) (ρ : List SL) (e : Expr) (m : M (List D)) : Prop where
  t : ∃ t, PE X e t ∧ ∀ (σ : L2.St) (F H : Hp) (as : List Addr) (S : Sx) (Q : VK), Stt X.K T F H as S → Slots X.K B F H as ρ σ → PostN X.K X.mg T F H as Q (fun cls dd H' => W cls dd σ H') (m S) → t σ H Q
def limL (ds : List D) : M (List D) := if ds.length ≤ lim then pure ds else no
/-- a new cell -/
def newCell (ds : List D) : M D := fun S => .ok (.cell S.length) (S ++ [ds])
section
variable {γ δ α β : Type} {X : Cx} {T : List (Addr × Str)} {W : WX} {B : Hp} {ρ : List SL} {embL : δ → List SL} {embW : γ → List SL} {emb : α → List SL} {tg c e e2 : Expr} {es : List Expr} {body rest sts : List Stmt} {m : M D} {ms : M (List D)} {pos : Pos}
theorem vn_lst (h : VA X T W B ρ es ms) : VN X T W B ρ (.List es pos) (ms >>= limL) :=
  ⟨_, pe_lst h.pa, fun σ F H as S Q st sl p => ⟨F, as, S, st, sl, by
    cases e : ms S with
    | ok ds S1 =>
      rw [bind_ok e] at p
      intro vs F1 H1 as1 x1 st1 r1
      unfold limL at p
      by_cases c : ds.length ≤ lim
      · rw [if_pos c] at p
        have r1 : Reps X.K F1 as1 vs ds := r1
        refine ⟨by rw [r1.length]; exact lim_line c, fun q hq => ?_⟩
        have e1 := Ext.new (o := .lst vs) hq st1
        have fq : F1 q = none := by
          cases z : F1 q with
          | none => rfl
          | some u => rw [st1.fz q u z] at hq; cases hq
        have nq : q ∉ as1 := fun z => by
          obtain ⟨n, hn⟩ := List.getElem?_of_mem z
          obtain ⟨_, _, _, _, h3, _⟩ := st1.cel n q hn
          rw [hq] at h3; cases h3
        refine p q vs F1 (upd H1 q (.lst vs)) as1 ⟨x1.f, x1.g, fun a o h n t => by rw [upd_ne (ne_of_none (x1.k a o h n t) hq)]; exact x1.k a o h n t, x1.fn, x1.an, fun a h => ?_⟩ ⟨fun a o h => by rw [upd_ne (ne_of_none (st1.fz a o h) hq)]; exact st1.fz a o h, st1.nt, st1.tabs.ext fun b u h => by rw [upd_ne (ne_of_none h hq)]; exact h, st1.len, st1.nod, fun n a h => ?_⟩ (x1.m q (.none hq)) fq nq upd_same r1
        · refine x1.m a fun o z => ?_
          by_cases e : a = q
          · rw [e, hq] at z; cases z
          · exact h o (by rw [upd_ne e]; exact z)
        · obtain ⟨g1, us, es, g2, g3, g4⟩ := st1.cel n a h
          exact ⟨g1, us, es, g2, by rw [upd_ne (ne_of_none g3 hq)]; exact g3, g4⟩
      · rw [if_neg c] at p
        exact False.elim p
    | er y S1 => rw [bind_er e] at p; exact p
    | no => rw [bind_no e] at p; exact p⟩⟩
/-- it comes to stand still -/
theorem VN.ve (h : VN X T W B ρ e ms) : VE X T W B ρ e (ms >>= fun ds => pure (.lst ds)) :=
  let ⟨t, pe, s⟩ := h.t
  ⟨t, pe, fun σ F H as S Q st sl p => s σ F H as S Q st sl (by
    cases e : ms S with
    | ok ds S1 =>
      rw [bind_ok e] at p
      intro q vs F1 H1 as1 x1 st1 lo fq nq hq r1
      have up : ∀ a o, F1 a = some o → upd F1 q (.lst vs) a = some o := fun a o h => by rw [upd_ne (ne_of_none h fq)]; exact h
      refine p (.ref q) (upd F1 q (.lst vs)) H1 as1 ⟨fun a o h => up a o (x1.f a o h), x1.g, x1.k, fun a h => ?_, x1.an, x1.m⟩ ⟨fun a o h => ?_, fun a ps h => ?_, st1.tabs, st1.len, st1.nod, fun n a h => ?_⟩ (.lst upd_same (r1.mono up fun _ _ z => z))
      · by_cases e : a = q
        · exact .inr (e ▸ lo)
        · rw [upd_ne e] at h; exact x1.fn a h
      · by_cases e : a = q
        · rw [e, upd_same] at h; rw [e, ← h]; exact hq
        · rw [upd_ne e] at h; exact st1.fz a o h
      · by_cases e : a = q
        · rw [e, upd_same] at h; cases h
        · rw [upd_ne e] at h; exact st1.nt a ps h
      · obtain ⟨g1, us, es, g2, g3, g4⟩ := st1.cel n a h
        exact ⟨by rw [upd_ne (show a ≠ q from fun e => by subst e; exact nq (List.mem_of_getElem? h))]; exact g1, us, es, g2, g3, g4.mono up fun _ _ z => z⟩
    | er y S1 => rw [bind_er e] at p; exact p
    | no => rw [bind_no e] at p; exact p)⟩
/-- it becomes a cell -/
theorem VN.cell (h : VN X T W B ρ e ms) : VE X T W B ρ e (ms >>= newCell) :=
  let ⟨t, pe, s⟩ := h.t
  ⟨t, pe, fun σ F H as S Q st sl p => s σ F H as S Q st sl (by
    cases e : ms S with
    | ok ds S1 =>
      rw [bind_ok e] at p
      intro q vs F1 H1 as1 x1 st1 lo fq nq hq r1
      have g' : ∀ (n : Nat) (a : Addr), as1[n]? = some a → (as1 ++ [q])[n]? = some a := fun n a h => by
        rw [List.getElem?_append_left (List.getElem?_eq_some_iff.mp h).1]; exact h
      refine p (.ref q) F1 H1 (as1 ++ [q]) ⟨x1.f, fun n a h => g' n a (x1.g n a h), x1.k, x1.fn, fun a h => ?_, x1.m⟩ ⟨st1.fz, st1.nt, st1.tabs, by simp [st1.len], ?_, fun n a h => ?_⟩ (.cell (by rw [← st1.len]; simp))
      · rcases List.mem_append.mp h with z | z
        · exact x1.an a z
        · rw [List.mem_singleton.mp z]; exact .inr lo
      · rw [List.nodup_append]
        exact ⟨st1.nod, by simp, fun a ha b hb e => nq (by rw [List.mem_singleton] at hb; rw [← hb, ← e]; exact ha)⟩
      · by_cases hn : n < as1.length
        · rw [List.getElem?_append_left hn] at h
          obtain ⟨g1, us, es, g2, g3, g4⟩ := st1.cel n a h
          exact ⟨g1, us, es, by rw [List.getElem?_append_left (by rw [← st1.len]; exact hn)]; exact g2, g3, g4.mono (fun _ _ z => z) g'⟩
        · rw [List.getElem?_append_right (by omega)] at h
          have hn2 : n = as1.length := by
            have := (List.getElem?_eq_some_iff.mp h).1
            simp at this
            omega
          subst hn2
          simp at h
          subst h
          exact ⟨fq, vs, ds, by rw [st1.len]; simp, hq, r1.mono (fun _ _ z => z) g'⟩
    | er y S1 => rw [bind_er e] at p; exact p
    | no => rw [bind_no e] at p; exact p)⟩
/-- name = a new list -/
theorem vs_new {x : Str} {pos' : Pos} (i : Nat) (he : VN X T W B ρ e ms) (hN : X.N.Nodup) (hi : X.N[i]? = some x := by rfl) (hx : Loc X.env.scope x := by first | exact .inl rfl | exact .inr rfl) (hs : swapsWith e (some (.Name x pos')) pos.line X.env = pure false := by rfl)
    (hf : X.fn x = true ∨ X.env.scope.names.lookup x = some .local := by first | exact .inl rfl | exact .inr rfl | assumption) :
    VS X T W B ρ (.Assign [.Name x pos'] e pos) embL (fun ds => ρ.set i (.ow ds)) (ms >>= fun ds => pure (.nx ds)) :=
  let ⟨t, pe, s⟩ := he.t
  ⟨(ps_set (i := i) hN hi hx pe hs hf).imp fun D σ H ⟨F0, as0, F, as, S, x0, st, sl, p⟩ => s σ F H as S _ st sl (by
    cases e : ms S with
    | ok ds S1 =>
      rw [bind_ok e] at p
      intro q vs F1 H1 as1 x1 st1 lo fq nq hq r1
      refine p _ F1 H1 as1 (x0.trans x1) st1 ((sl.ext x1).setOw (x0.m q lo) fq nq hq r1 fun j s n a oa b => sl.notLo a oa lo b)
    | er y S1 =>
      rw [bind_er e] at p
      exact fun cls dd F' H' as' x st r => p cls dd σ F' H' as' (x0.trans x) st r
    | no => rw [bind_no e] at p; exact p)⟩
def snoc (ds : List D) (d : D) : M (List D) := if ds.length < lim then pure (ds ++ [d]) else no
/-- x.append(e), x a list of one's own -/
theorem vs_append {x : Str} {ds : List D} {p1 p2 p3 : Pos} (i : Nat) (hd : ρ[i]? = some (.ow ds) := by rfl) (he : VE X T W B ρ e m) (hN : X.N[i]? = some x := by rfl) (hv : Vis X.env.scope x := by first | exact .inl rfl | exact .inr (.inl rfl) | exact .inr (.inr rfl)) (h1 : (x == ("__debug__" : Str)) = false := by decide) (h2 : (x == ("__classdict__" : Str)) = false := by decide)
    (hb : attributeBase (.Name x p1) "append" X.env (eval (.Name x p1) X.env) = eval (.Name x p1) X.env := by rfl)
    (hq : (((backTo p3 (starEach (e :: []) X.env)).all (!·.1) && (backToKw p3 (keywordEach [] X.env)).all (·.1.isSome)) && decide ((e :: []).length + ([] : List Keyword).length + (if ([] : List Keyword).isEmpty then 0 else 1) < 30)) = true := by rfl) (hl : (p2.endLine == p3.line) = true := by rfl)
    (hst : starEach (e :: []) X.env = (false, eval e X.env) :: starEach [] X.env := by rfl) (hpl : (backTo p3 (starEach [] X.env)).any (·.1) = false := by rfl) (hs : swapsWith (.Call (.Attribute (.Name x p1) "append" p2) [e] [] p3) none pos.line X.env = pure false := by rfl) :
    VS X T W B ρ (.Expr (.Call (.Attribute (.Name x p1) "append" p2) [e] [] p3) pos) embL (fun es => ρ.set i (.ow es)) (m >>= fun d => snoc ds d >>= fun es => pure (.nx es)) :=
  ⟨(ps_expr (pe_bm PySem.F.plainAttrs_list PySem.F.slot_list_append PySem.F.type_list_append mt_append (pe_var (i := i) hN hv h1 h2) (pa_cons he.pe pa_nil hst) hb hq hl hst hpl) hs).imp fun D σ H ⟨F0, as0, F, as, S, x0, st, sl, p⟩ => by
    obtain ⟨q, vs, g1, g2, g3, g4, g5, g6⟩ := sl.getOw hd
    refine ⟨.ref q, g1, .inl ⟨rfl, vs, SqL.of g5⟩, F, as, S, st, sl, p.bind x0 fun d v S1 F1 H1 as1 _ x1 x01 st1 r p1 => ?_⟩
    have sl1 := sl.ext x1
    obtain ⟨q', vs', h1, h2, h3, h4, h5, h6⟩ := sl1.getOw hd
    rw [g1] at h1
    cases h1
    unfold snoc at p1
    by_cases c : ds.length < lim
    · rw [if_pos c] at p1
      refine ⟨q, vs', v, rfl, rfl, h5, ?_, ?_⟩
      · rw [h6.length]
        have e : sizeLine = 16777216 := sizeLine_eq
        unfold lim at c
        omega
      · refine p1 σ F1 (upd H1 q (.lst (vs' ++ [v]))) as1 (x01.upd h2 h5) (st1.upd h3 h4 h5) ?_
        have hi : i < ρ.length := (List.getElem?_eq_some_iff.mp hd).1
        refine ⟨by simp [sl1.len], fun j s o a b => ?_, fun j k es fs n a b oa ob => ?_⟩
        · by_cases e : i = j
          · subst e
            rw [List.getElem?_set_self hi] at a
            cases a
            rw [g1] at b
            cases b
            exact ⟨q, _, rfl, h2, h3, h4, upd_same, h6.append (.cons r .nil)⟩
          · rw [List.getElem?_set_ne e] at a
            have g := sl1.ok j s o a b
            cases s with
            | no => trivial
            | fz d => exact g
            | ow es =>
              obtain ⟨q', us, k1, k2, k3, k4, k5, k6⟩ := g
              have e2 : q' ≠ q := fun e2 => sl1.dis i j _ _ e hd a rfl rfl (by rw [g1, b, k1, e2])
              exact ⟨q', us, k1, k2, k3, k4, by rw [upd_ne e2]; exact k5, k6⟩
            | od t =>
              obtain ⟨q', us, k1, k2, k3, k4, k5, k6⟩ := g
              have e2 : q' ≠ q := fun e2 => sl1.dis i j _ _ e hd a rfl rfl (by rw [g1, b, k1, e2])
              exact ⟨q', us, k1, k2, k3, k4, by rw [upd_ne e2]; exact k5, k6⟩
        · have da : ∀ (j : Nat) s, (ρ.set i (.ow (ds ++ [d])))[j]? = some s → s.isOw = true → ∃ s', ρ[j]? = some s' ∧ s'.isOw = true := fun j s h o => by
            by_cases e : i = j
            · subst e; exact ⟨_, hd, rfl⟩
            · rw [List.getElem?_set_ne e] at h; exact ⟨s, h, o⟩
          obtain ⟨e1, a1, o1⟩ := da j es a oa
          obtain ⟨e2, b1, o2⟩ := da k fs b ob
          exact sl1.dis j k e1 e2 n a1 b1 o1 o2
    · rw [if_neg c] at p1
      exact False.elim p1⟩
/-! ### cells -/
def setCell : D → D → D → M Unit
  | .cell n, .int i, v => fun S => match S[n]? with
    | some ds => (match ixN ds.length i with
      | some j => .ok () (S.set n (ds.set j v))
      | none => .no)
    | none => .no
  | _, _, _ => no
theorem vs_cell {o ix : Expr} {mo mi : M D} {p1 : Pos} (he : VE X T W B ρ e m) (ho : VE X T W B ρ o mo) (hi : VE X T W B ρ ix mi)
    (ha : ∀ v, assign (.Subscript o ix p1) X.env v = (do
      let ov ← holding [v] (eval o X.env)
      let iv ← holding [v, ov] (eval ix X.env)
      standAt p1
      holding [v, ov, iv] (setItem ov iv v)
      release [v, ov, iv] []) := by intro _; rfl)
    (hs : swapsWithSole [.Subscript o ix p1] e pos.line X.env = pure false := by rfl) (hw : swappedStores [.Subscript o ix p1] e X.env = pure none := by rfl) (h1 : (assignEach [.Subscript o ix p1] X.env).map (·.2) = [assign (.Subscript o ix p1) X.env] := by rfl) :
    VS X T W B ρ (.Assign [.Subscript o ix p1] e pos) embL (fun _ : Unit => ρ) (m >>= fun v => mo >>= fun a => mi >>= fun i => setCell a i v >>= fun _ => pure (.nx ())) :=
  ⟨(ps_asg he.pe (pg_sub ho.pe hi.pe set_list ha) hs hw h1).imp fun D σ H ⟨F0, as0, F, as, S, x0, st, sl, p⟩ => ⟨F, as, S, st, sl, p.bind x0 fun d v S1 F1 H1 as1 _ x1 x01 st1 r p1 =>
    ⟨F1, as1, S1, st1, sl.ext x1, p1.bind x01 fun d2 v2 S2 F2 H2 as2 _ x2 x02 st2 r2 p2 =>
      ⟨F2, as2, S2, st2, (sl.ext x1).ext x2, p2.bind x02 fun d3 v3 S3 F3 H3 as3 _ x3 x03 st3 r3 p3 => by
        cases d2 with
        | cell n =>
          cases d3 with
          | int i =>
            cases r3
            obtain ⟨a, vs, ds, rfl, h1, h2, h3, h4⟩ := st3.cellAt (x3.rep r2)
            have e0 : setCell (.cell n) (.int i) d S3 = (match ixN ds.length i with | some j => R.ok () (S3.set n (ds.set j d)) | none => R.no) := by
              show (match S3[n]? with | some ds => _ | none => _) = _
              rw [h2]
            cases e : ixN ds.length i with
            | none =>
              rw [e] at e0
              rw [bind_no e0] at p3
              exact False.elim p3
            | some j =>
              rw [e] at e0
              rw [bind_ok e0] at p3
              have rv : Rep X.K F3 as3 v d := x3.rep (x2.rep r)
              have hm : a ∈ as3 := List.mem_of_getElem? h1
              obtain ⟨hF, _⟩ := st3.cel n a h1
              refine ⟨a, vs, i, j, rfl, rfl, h3, by rw [h4.length]; exact e, ?_⟩
              have xb : Ext F3 H3 as3 F3 (upd H3 a (.lst (vs.set j v))) as3 := ⟨fun _ _ h => h, fun _ _ h => h, fun b o h nb _ => by rw [upd_ne (show b ≠ a from fun e => by subst e; exact nb hm)]; exact h, fun _ h => .inl h, fun _ h => .inl h, fun b h => by
                by_cases e : b = a
                · subst e
                  exact (h.not upd_same (fun _ => by simp)).elim
                · exact fun o q => h o (by rw [upd_ne e]; exact q)⟩
              refine p3 σ F3 _ as3 (x03.trans xb) ⟨fun b o h => by rw [upd_ne (ne_of_none h hF)]; exact st3.fz b o h, st3.nt, fun q hq => ?_, by simp [st3.len], st3.nod, fun k b hk => ?_⟩ ((((sl.ext x1).ext x2).ext x3).ext xb)
              · obtain ⟨ps, g1, g2, g3⟩ := st3.tabs q hq
                refine ⟨ps, by rw [upd_ne (ne_of g1 h3 (by intro z; cases z))]; exact g1, g2, fun pos cv hc => ?_⟩
                obtain ⟨c, e1, e2⟩ := g3 pos cv hc
                exact ⟨c, e1, by rw [upd_ne (ne_of e2 h3 (by intro z; cases z))]; exact e2⟩
              · obtain ⟨k1, us, es, k2, k3, k4⟩ := st3.cel k b hk
                by_cases e2 : k = n
                · subst e2
                  rw [h1] at hk
                  cases hk
                  exact ⟨k1, _, _, List.getElem?_set_self (List.getElem?_eq_some_iff.mp h2).1, upd_same, h4.set rv j⟩
                · have ne : b ≠ a := fun e3 => by
                    subst e3
                    have l1 := (List.getElem?_eq_some_iff.mp hk).1
                    have l2 := (List.getElem?_eq_some_iff.mp h1).1
                    have q1 := (List.getElem?_eq_some_iff.mp hk).2
                    have q2 := (List.getElem?_eq_some_iff.mp h1).2
                    exact e2 ((List.getElem_inj st3.nod).mp (q1.trans q2.symm))
                  exact ⟨k1, us, es, by rw [List.getElem?_set_ne (Ne.symm e2)]; exact k2, by rw [upd_ne ne]; exact k3, k4⟩
          | _ => exact False.elim p3
        | _ => exact False.elim p3⟩⟩⟩⟩
end
end VL

/-! VLComp: list comprehensions. -/
namespace VL
open PySem PySem.Spec PyProof.Rows L2
theorem wipe_get (σ : L2.St) (i : Nat) : ∀ vs : List Nat, (wipe σ vs)[i]? = if i ∈ vs then (if i < σ.length then some none else none) else σ[i]?
  | [] => by simp [wipe]
  | v :: vs => by
    unfold wipe
    by_cases e : v = i
    · subst e
      rw [if_pos (by simp)]
      by_cases h : v < σ.length
      · rw [List.getElem?_set_self (by rw [wipe_length]; exact h), if_pos h]
      · rw [if_neg h, List.getElem?_eq_none (by simp [wipe_length]; omega)]
    · rw [List.getElem?_set_ne e, wipe_get σ i vs]
      by_cases h : i ∈ vs
      · rw [if_pos h, if_pos (List.mem_cons_of_mem _ h)]
      · rw [if_neg h, if_neg (by simp [h]; exact fun z => e z.symm)]
theorem wipe_upd {js vs : List Nat} {σ σ' : L2.St} (h : Upd js σ σ') (s : ∀ j ∈ js, j ∈ vs) : wipe σ' vs = wipe σ vs := by
  apply List.ext_getElem?
  intro i
  rw [wipe_get, wipe_get, h.1]
  by_cases hi : i ∈ vs
  · rw [if_pos hi, if_pos hi]
  · rw [if_neg hi, if_neg hi, h.2 i (fun z => hi (s i z))]
theorem wipe_wipe (σ : L2.St) (vs : List Nat) : wipe (wipe σ vs) vs = wipe σ vs := by
  apply List.ext_getElem?
  intro i
  rw [wipe_get, wipe_get, wipe_length]
  by_cases hi : i ∈ vs
  · rw [if_pos hi, if_pos hi]
  · rw [if_neg hi, if_neg hi]
theorem Slots.wipe0 {K : PySem.W.Frag} {B F H : Hp} {as : List Addr} {ρ : List SL} {σ : L2.St} {vs : List Nat} (h : Slots K B F H as ρ σ) (hv : ∀ v ∈ vs, ρ[v]? = some .no) : Slots K B F H as ρ (L2.wipe σ vs) := by
  refine ⟨by rw [wipe_length]; exact h.len, fun i s o a b => ?_, fun i j ds es n a b oa ob => ?_⟩
  · rw [wipe_get] at b
    by_cases e : i ∈ vs
    · rw [hv i e] at a; cases a; trivial
    · rw [if_neg e] at b; exact h.ok i s o a b
  · rw [wipe_get, wipe_get, if_neg (fun e => by rw [hv i e] at a; cases a; cases oa), if_neg (fun e => by rw [hv j e] at b; cases b; cases ob)]
    exact h.dis i j ds es n a b oa ob
theorem Slots.wipe {K : PySem.W.Frag} {B F H : Hp} {as : List Addr} {ρ ρw : List SL} {σ : L2.St} {vs : List Nat} (h : Slots K B F H as ρ σ) (w : SLe ρw ρ) (hv : ∀ v ∈ vs, ρw[v]? = some .no) : Slots K B F H as ρw (L2.wipe σ vs) := (h.weak w).wipe0 hv
/-- J gives out ds, over any later state that leaves alone what is one's own -/
def IterOkC (K : PySem.W.Frag) (T : List (Addr × Str)) (F1 H1 : Hp) (as1 : List Addr) (J : It) (ds : List D) : Prop :=
  ∃ (G : Hp → Prop) (Y : Nat → Hp → V → Hp → Prop), Walk J ds.length G Y ∧ (∀ F H as S, Stt K T F H as S → (∀ a o, F1 a = some o → F a = some o) → (∀ (n : Nat) (a : Addr), as1[n]? = some a → as[n]? = some a) → (∀ a o, H1 a = some o → a ∉ as1 → (∀ ps, o ≠ .tbl ps) → H a = some o) → G H) ∧
    ∀ (i : Nat) d F H as S x H', ds[i]? = some d → Stt K T F H as S → (∀ a o, F1 a = some o → F a = some o) → (∀ (n : Nat) (a : Addr), as1[n]? = some a → as[n]? = some a) → (∀ a o, H1 a = some o → a ∉ as1 → (∀ ps, o ≠ .tbl ps) → H a = some o) → Y i H x H' → ∃ F', Ext F H as F' H' as ∧ Stt K T F' H' as S ∧ Rep K F' as x d
theorem IterOk.c {K : PySem.W.Frag} {T : List (Addr × Str)} {F1 H1 : Hp} {as1 : List Addr} {J : It} {ds : List D} (h : IterOk K T F1 as1 J ds) : IterOkC K T F1 H1 as1 J ds :=
  let ⟨G, Y, w, a, b⟩ := h; ⟨G, Y, w, fun F H as S st f g _ => a F H as S st f g, fun i d F H as S x H' hd st f g _ y => b i d F H as S x H' hd st f g y⟩
def PostI (K : PySem.W.Frag) (mg : Str → Option Value) (T : List (Addr × Str)) (F H : Hp) (as : List Addr) (Rf : It → Hp → Prop) (E : Value → Option Addr → Hp → Prop) : R (List D) → Prop
  | .ok ds S' => ∀ J F' H' as', Ext F H as F' H' as' → Stt K T F' H' as' S' → IterOkC K T F' H' as' J ds → Rf J H'
  | .er x S' => ∀ cls dd F' H' as', Ext F H as F' H' as' → Stt K T F' H' as' S' → XRep mg K F' as' cls dd x → E cls dd H'
  | .no => False
/-- what a comprehension goes over -/
structure VIC (X : Cx) (T : List (Addr × Str)) (W : WX) (B : Hp) (ρ : List SL) (tg iter : Expr) (m : M (List D)) : Prop where
  t : ∃ wi : TI, PI X tg iter wi ∧ ∀ (σ : L2.St) (F H : Hp) (as : List Addr) (S : Sx) (R : It → Hp → Prop), Stt X.K T F H as S → Slots X.K B F H as ρ σ → PostI X.K X.mg T F H as R (fun cls dd H' => W cls dd σ H') (m S) → wi σ H R
theorem VI.c {X : Cx} {T : List (Addr × Str)} {W : WX} {B : Hp} {ρ : List SL} {tg iter : Expr} {m : M (List D)} (h : VI X T W B ρ tg iter m) : VIC X T W B ρ tg iter m :=
  let ⟨wi, pi, hi⟩ := h.t
  ⟨wi, pi, fun σ F H as S R st sl p => hi σ F H as S R st sl (by
    cases e : m S with
    | ok ds S' =>
      rw [e] at p
      exact fun J F' H' as' x st' io => p J F' H' as' x st' io.c
    | er y S' => rw [e] at p; exact p
    | no => rw [e] at p; exact p)⟩
/-- a list of one's own -/
theorem vic_ow {X : Cx} {T : List (Addr × Str)} {W : WX} {B : Hp} {ρ : List SL} {tg : Expr} {x : Str} {p1 : Pos} {ds : List D} (i : Nat) (hd : ρ[i]? = some (.ow ds) := by rfl) (hN : X.N[i]? = some x := by rfl) (hv : Vis X.env.scope x := by first | exact .inl rfl | exact .inr (.inl rfl) | exact .inr (.inr rfl)) (h1 : (x == ("__debug__" : Str)) = false := by decide) (h2 : (x == ("__classdict__" : Str)) = false := by decide) :
    VIC X T W B ρ tg (.Name x p1) (pure ds) :=
  ⟨_, pi_list (pe_var (i := i) hN hv h1 h2), fun σ F H as S R st sl p => by
    obtain ⟨q, vs, g1, g2, g3, g4, g5, g6⟩ := sl.getOw hd
    refine ⟨.ref q, g1, q, rfl, ⟨vs, SqL.of g5⟩, p _ F H as Ext.refl st ⟨_, _, by rw [← g6.length]; exact walk_list (xs := vs), fun F2 H2 as2 S2 st2 f g k => SqL.of (k q _ g5 g4 (fun _ => by simp)), fun i d F2 H2 as2 S2 y H' hd2 st2 f g k yy => ?_⟩⟩
    obtain ⟨rfl, hx⟩ := yy
    obtain ⟨d', h1, h2⟩ := g6.get hx
    rw [hd2] at h1
    cases h1
    exact ⟨F2, Ext.refl, st2, h2.mono f g⟩⟩
/-- no exception may leave it -/
def noX {α : Type} (m : M α) : M α := fun S => match m S with
  | .ok a S' => .ok a S'
  | _ => .no
@[simp] theorem noX_pure {α : Type} (a : α) : noX (pure a : M α) = pure a := rfl
/-- what the turns of a comprehension make -/
def lcM (b : D → M (Option D)) : List D → M (List D)
  | [] => pure []
  | d :: ds => b d >>= fun o => lcM b ds >>= fun r => pure (o.toList ++ r)
def lcL (b : D → M (Option D)) (ds : List D) : M (List D) := if ds.length ≤ lim then lcM b ds else no
abbrev Wf : WX := fun _ _ _ _ => False
theorem takesF {X : Cx} : Takes X Wf := LamX.takes0
section
variable {γ δ α β : Type} {X : Cx} {T : List (Addr × Str)} {W : WX} {B : Hp} {ρ : List SL} {embL : δ → List SL} {embW : γ → List SL} {emb : α → List SL} {tg iter elt c e e2 : Expr} {es : List Expr} {body rest sts : List Stmt} {m : M D} {ms mi : M (List D)} {pos : Pos}
/-- the turn's own part -/
def lcT (bT : D → M β) (mc : β → M Bool) (me : β → M D) (d : D) : M (Option D) := noX (bT d >>= fun t => mc t >>= fun k => if k = true then (me t >>= fun y => pure (some y)) else pure none)
theorem snd_lc {ρw : List SL} {wi : TI} {g : TG} {vs js : List Nat} {bT : D → M β} {embT : β → List SL} {mc : β → M Bool} {me : β → M D} {K : PySem.W.Frag} {mg : Str → Option Value}
    (hi : ∀ (σ : L2.St) (F H : Hp) (as : List Addr) (S : Sx) (R : It → Hp → Prop), Stt K T F H as S → Slots K B F H as ρ σ → PostI K mg T F H as R (fun cls dd H' => W cls dd σ H') (mi S) → wi σ H R)
    (hg : ∀ (v : V) (d : D) (σ : L2.St) (F H : Hp) (as : List Addr) (S : Sx) (Q : L2.St → Hp → Prop), Stt K T F H as S → Slots K B F H as ρw σ → Rep K F as v d → (match bT d S with | .ok b S' => ∀ σ', Upd js σ σ' → Slots K B F H as (embT b) σ' → Q σ' H | _ => False) → g v σ H Q)
    (hst : ∀ d S b S', bT d S = .ok b S' → S' = S) (hj : ∀ j ∈ js, j ∈ vs) (hw : SLe ρw ρ) (hv : ∀ v ∈ vs, ρw[v]? = some .no)
    {σ : L2.St} {F H : Hp} {as : List Addr} {S : Sx} {Q : VK} (st : Stt K T F H as S) (sl : Slots K B F H as ρ σ) (p : PostN K mg T F H as Q (fun cls dd H' => W cls dd σ H') ((mi >>= lcL (lcT bT mc me)) S)) :
    tLc wi g (fun σ H Q => ∃ t, rd RepB K mg T Wf B (embT t) (mc t) σ H Q) (fun σ H Q => ∃ t, rd (RepV K) K mg T Wf B (embT t) (me t) σ H Q) vs σ H Q := by
  refine hi σ F H as S _ st sl ?_
  cases em : mi S with
  | er y S1 => rw [bind_er em] at p; exact p
  | no => rw [bind_no em] at p; exact p
  | ok ds S1 =>
    rw [bind_ok em] at p
    unfold lcL at p
    by_cases c : ds.length ≤ lim
    · rw [if_pos c] at p
      intro J F1 H1 as1 x1 st1 hJ L hL
      obtain ⟨G, Y, w, hG, hY⟩ := hJ
      have fq : F1 L = none := by
        cases z : F1 L with
        | none => rfl
        | some u => rw [st1.fz L u z] at hL; cases hL
      have nq : L ∉ as1 := fun z => by
        obtain ⟨n, hn⟩ := List.getElem?_of_mem z
        obtain ⟨_, _, _, _, h3, _⟩ := st1.cel n L hn
        rw [hL] at h3; cases h3
      have loL : Lo H1 L := .none hL
      -- the turns: the list at L is one's own
      refine lc_it w (g := g) (tt := fun σ H Q => ∃ t, rd RepB K mg T Wf B (embT t) (mc t) σ H Q) (te := fun σ H Q => ∃ t, rd (RepV K) K mg T Wf B (embT t) (me t) σ H Q) (vs := vs) (σ := σ) (Qd := fun H => Q (.ref L) H) (fun i Hi => ∃ (Fi : Hp) (asi : List Addr) (Si : Sx) (accv : List V) (acc : List D), Ext F1 H1 as1 Fi Hi asi ∧ Stt K T Fi Hi asi Si ∧ Fi L = none ∧ L ∉ asi ∧ Hi L = some (.lst accv) ∧ Reps K Fi asi accv acc ∧ acc.length ≤ i ∧
        PostN K mg T F H as Q (fun cls dd H' => W cls dd σ H') ((lcM (lcT bT mc me) (ds.drop i) >>= fun r => pure (acc ++ r)) Si)) ⟨F1, as1, S1, [], [], ⟨fun _ _ h => h, fun _ _ h => h, fun a o h _ _ => by rw [upd_ne (ne_of_none h hL)]; exact h, fun _ h => .inl h, fun _ h => .inl h, fun a h => ?_⟩, ⟨fun a o h => by rw [upd_ne (ne_of_none (st1.fz a o h) hL)]; exact st1.fz a o h, st1.nt, st1.tabs.ext fun b u h => by rw [upd_ne (ne_of_none h hL)]; exact h, st1.len, st1.nod, fun n a h => ?_⟩, fq, nq, upd_same, .nil, Nat.le_refl _, ?_⟩ ?_ ?_ ?_
      · by_cases e : a = L
        · exact e ▸ loL
        · exact fun o q => h o (by rw [upd_ne e]; exact q)
      · obtain ⟨g1, us, es, g2, g3, g4⟩ := st1.cel n a h
        exact ⟨g1, us, es, g2, by rw [upd_ne (ne_of_none g3 hL)]; exact g3, g4⟩
      · rw [List.drop_zero]
        simp only [List.nil_append]
        rw [bind_pure]
        exact p
      · rintro i Hi hin ⟨Fi, asi, Si, accv, acc, x, sti, f1, f2, f3, r, ha, pp⟩
        exact hG Fi Hi asi Si sti x.f x.g x.k
      · rintro i x Hi H' hin ⟨Fi, asi, Si, accv, acc, xi, sti, f1, f2, f3, r, ha, pp⟩ y
        have hd : ds[i]? = some ds[i] := by simp [hin]
        obtain ⟨F2, x2, st2, r2⟩ := hY i _ Fi Hi asi Si x H' hd sti xi.f xi.g xi.k y
        have ed : ds.drop i = ds[i] :: ds.drop (i + 1) := by rw [List.drop_eq_getElem_cons hin]
        rw [ed] at pp
        have pp : PostN K mg T F H as Q (fun cls dd H' => W cls dd σ H') (((lcT bT mc me ds[i] >>= fun o => lcM (lcT bT mc me) (ds.drop (i + 1)) >>= fun r => pure (o.toList ++ r)) >>= fun r => pure (acc ++ r)) Si) := pp
        rw [bind_assoc] at pp
        have slw : Slots K B F2 H' asi ρw (L2.wipe σ vs) := (((sl.ext x1).ext xi).ext x2).wipe hw hv
        refine hg x ds[i] (L2.wipe σ vs) F2 H' asi Si _ st2 slw r2 ?_
        cases e : bT ds[i] Si with
        | er y S' =>
          have e0 : lcT bT mc me ds[i] Si = .no := by unfold lcT noX; rw [bind_er e]
          rw [bind_no e0] at pp
          exact False.elim pp
        | no =>
          have e0 : lcT bT mc me ds[i] Si = .no := by unfold lcT noX; rw [bind_no e]
          rw [bind_no e0] at pp
          exact False.elim pp
        | ok t S' =>
          obtain rfl := hst _ _ _ _ e
          intro σ2 ud sl2
          refine ⟨by rw [wipe_upd ud hj, wipe_wipe], t, F2, asi, S', st2, sl2, ?_⟩
          -- what stays of L from a later state on
          have keep : ∀ {F3 H3 as3}, Ext F2 H' asi F3 H3 as3 → F3 L = none ∧ L ∉ as3 ∧ H3 L = some (.lst accv) := fun {F3 H3 as3} x3 => by
            have hL2 : H' L = some (.lst accv) := x2.k L _ f3 f2 (fun _ => by simp)
            have fL2 : F2 L = none := by
              cases z : F2 L with
              | none => rfl
              | some u => exact ((x2.fn L (by rw [z]; simp)).elim (fun q => absurd f1 q) fun q => (q.not f3 (fun _ => by simp)).elim)
            refine ⟨?_, fun z => (x3.an L z).elim f2 fun q => q.not hL2 (fun _ => by simp), x3.k L _ hL2 f2 (fun _ => by simp)⟩
            cases z : F3 L with
            | none => rfl
            | some u => exact ((x3.fn L (by rw [z]; simp)).elim (fun q => absurd fL2 q) fun q => (q.not hL2 (fun _ => by simp)).elim)
          cases ec : mc t S' with
          | er y S'' =>
            have e0 : lcT bT mc me ds[i] S' = .no := by unfold lcT noX; rw [bind_ok e, bind_er ec]
            rw [bind_no e0] at pp
            exact False.elim pp
          | no =>
            have e0 : lcT bT mc me ds[i] S' = .no := by unfold lcT noX; rw [bind_ok e, bind_no ec]
            rw [bind_no e0] at pp
            exact False.elim pp
          | ok k S'' =>
            intro b F3 H3 as3 x3 st3 rb
            obtain rfl : b = k := rb
            cases b with
            | false =>
              refine (if_neg (by simp)).mpr ?_
              have e0 : lcT bT mc me ds[i] S' = .ok none S'' := by
                unfold lcT noX
                rw [bind_ok e, bind_ok ec]
                rfl
              rw [bind_ok e0] at pp
              obtain ⟨k1, k2, k3⟩ := keep x3
              refine ⟨F3, as3, S'', accv, acc, (xi.trans x2).trans x3, st3, k1, k2, k3, x3.reps (x2.reps r), by omega, ?_⟩
              rw [bind_assoc] at pp
              exact pp
            | true =>
              refine (if_pos rfl).mpr ⟨t, F3, as3, S'', st3, sl2.ext x3, ?_⟩
              cases ee : me t S'' with
              | er y S3 =>
                have e0 : lcT bT mc me ds[i] S' = .no := by
                  unfold lcT noX
                  rw [bind_ok e, bind_ok ec, if_pos rfl, bind_er ee]
                rw [bind_no e0] at pp
                exact False.elim pp
              | no =>
                have e0 : lcT bT mc me ds[i] S' = .no := by
                  unfold lcT noX
                  rw [bind_ok e, bind_ok ec, if_pos rfl, bind_no ee]
                rw [bind_no e0] at pp
                exact False.elim pp
              | ok yd S3 =>
                intro yv F4 H4 as4 x4 st4 ry
                have e0 : lcT bT mc me ds[i] S' = .ok (some yd) S3 := by
                  unfold lcT noX
                  rw [bind_ok e, bind_ok ec, if_pos rfl, bind_ok ee]
                  rfl
                rw [bind_ok e0] at pp
                obtain ⟨k1, k2, k3⟩ := keep (x3.trans x4)
                have r4 : Reps K F4 as4 accv acc := x4.reps (x3.reps (x2.reps r))
                refine ⟨accv, k3, ?_, F4, as4, S3, accv ++ [yv], acc ++ [yd], Ext.upd (((xi.trans x2).trans x3).trans x4) loL k3, st4.upd k1 k2 k3, k1, k2, upd_same, r4.append (.cons ry .nil), by simp; omega, ?_⟩
                · rw [r4.length]
                  have e : sizeLine = 16777216 := sizeLine_eq
                  unfold lim at c
                  omega
                · rw [bind_assoc] at pp
                  have e5 : (fun r => pure (acc ++ ((some yd).toList ++ r)) : List D → M (List D)) = fun r => pure (acc ++ [yd] ++ r) := by
                    funext r
                    simp
                  have pp : PostN K mg T F H as Q (fun cls dd H' => W cls dd σ H') ((lcM (lcT bT mc me) (ds.drop (i + 1)) >>= fun r => (pure (acc ++ ((some yd).toList ++ r)) : M (List D))) S3) := pp
                  rw [e5] at pp
                  exact pp
      · rintro Hi ⟨Fi, asi, Si, accv, acc, xi, sti, f1, f2, f3, r, ha, pp⟩
        rw [List.drop_length] at pp
        have pp : PostN K mg T F H as Q (fun cls dd H' => W cls dd σ H') ((pure (acc ++ []) : M (List D)) Si) := pp
        rw [List.append_nil] at pp
        exact pp L accv Fi Hi asi (x1.trans xi) sti (x1.m L loL) f1 f2 f3 r
    · rw [if_neg c] at p
      exact False.elim p
theorem PTs_ex {ι : Type} {X : Cx} {cs : List Expr} {u : ι → TT} (h : ∀ i, PTs X cs (u i)) : PTs X cs (fun σ H Q => ∃ i, u i σ H Q) := ⟨fun pins s σ H Q I ⟨i, q⟩ => (h i).run pins s σ H Q I q⟩
theorem PE_ex {ι : Type} {X : Cx} {e : Expr} {u : ι → TE} (h : ∀ i, PE X e (u i)) : PE X e (fun σ H Q => ∃ i, u i σ H Q) := ⟨fun pins s σ H Q I ⟨i, q⟩ => (h i).run pins s σ H Q I q⟩
theorem PTs_imp {X : Cx} {cs : List Expr} {t u : TT} (h : PTs X cs t) (q : ∀ σ H Q, u σ H Q → t σ H Q) : PTs X cs u := ⟨fun pins s σ H Q I w => h.run pins s σ H Q I (q σ H Q w)⟩
/-- the tests of a comprehension: none, or one -/
structure VC (X : Cx) (T : List (Addr × Str)) (B : Hp) (ρ : List SL) (cs : List Expr) (m : M Bool) : Prop where
  p : PTs X cs (rd RepB X.K X.mg T Wf B ρ m)
theorem vc_nil : VC X T B ρ [] (pure true) := ⟨PTs_imp pts_nil fun σ H Q ⟨F, as, S, st, sl, p⟩ => p true F H as Ext.refl st rfl⟩
theorem vc_one {mt : M Bool} (h : VT X T Wf B ρ c mt) : VC X T B ρ [c] mt := ⟨pts_one h.pt⟩
theorem vn_lc {scope : Scope} {ifs : List Expr} {js : List Nat} {bT : D → M β} {embT : β → List SL} {mc : β → M Bool} {me : β → M D} (own : List (Str × Nat)) (ρw : List SL) (hc : X.calm = true) (hN : X.N.Nodup) (hi : VIC X T W B ρ tg iter mi) (ok : blkC X.N X.env.scope scope own = true)
    (hg : ∀ (s : Shared) (H : Hp) (C : Addr) (cl : List (Str × Addr)) (fp : List Addr), VG (X.blk s H scope (compEnvC scope cl C X.env) fp) T B ρw tg js bT embT)
    (ht : ∀ (s : Shared) (H : Hp) (C : Addr) (cl : List (Str × Addr)) (fp : List Addr) t, VC (X.blk s H scope (compEnvC scope cl C X.env) fp) T B (embT t) ifs (mc t))
    (he : ∀ (s : Shared) (H : Hp) (C : Addr) (cl : List (Str × Addr)) (fp : List Addr) t, VE (X.blk s H scope (compEnvC scope cl C X.env) fp) T Wf B (embT t) elt (me t))
    (hj : ∀ j ∈ js, j ∈ own.map (·.2)) (hw : SLe ρw ρ) (hv : ∀ v ∈ own.map (·.2), ρw[v]? = some .no) (hst : ∀ d S b S', bT d S = .ok b S' → S' = S) (hs : ∀ x, foldedSetIterable iter X.env x = pure x := by intro _; rfl) :
    VN X T W B ρ (.ListComp elt [⟨tg, iter, ifs, 0⟩] scope pos) (mi >>= lcL (lcT bT mc me)) := by
  obtain ⟨wi, pi, hi⟩ := hi.t
  -- the target's reading: the greatest
  have pg : ∀ (s : Shared) (H : Hp) (C : Addr) (cl : List (Str × Addr)) (fp : List Addr), PG (X.blk s H scope (compEnvC scope cl C X.env) fp) tg (fun v σ H Q => ∃ (d : D) (F : Hp) (as : List Addr) (S : Sx), Stt X.K T F H as S ∧ Slots X.K B F H as ρw σ ∧ Rep X.K F as v d ∧ (match bT d S with | .ok b S' => ∀ σ', Upd js σ σ' → Slots X.K B F H as (embT b) σ' → Q σ' H | _ => False)) := fun s H C cl fp => by
    obtain ⟨t, h1, h2⟩ := (hg s H C cl fp).t
    exact ⟨fun pins s' σ H' v u Q I r ⟨d, F, as, S, a, b, c, q⟩ => h1.run pins s' σ H' v u Q I r (h2 v d σ F H' as S Q a b c q)⟩
  exact ⟨_, pe_lc hc hN pi (blkOk_by ok) pg (fun s H C cl fp => PTs_ex fun t => (ht s H C cl fp t).p) (fun s H C cl fp => PE_ex fun t => (he s H C cl fp t).pe) hs,
    fun σ F H as S Q st sl p => snd_lc hi (fun v d σ F H as S Q a b c q => ⟨d, F, as, S, a, b, c, q⟩) hst hj hw hv st sl p⟩
end
end VL

/-! VLLam: lambdas handed to defs that try them. -/
namespace VL
open PySem PySem.Spec PyProof.Rows L2
/-- an error's class that is looked for: its name, where it stands, the answer -/
abbrev ETab := List (Str × Addr × Bool)
/-- try the thing: b0 behind it, the table's answer for an error -/
def catchM (tb : List (Str × Bool)) (b0 : Bool) (m : M D) : M D := fun S => match m S with
  | .ok _ S' => .ok (.bl b0) S'
  | .er x S' => (match tb.lookup x.cls, x.fs with
    | some b, [] => .ok (.bl b) S'
    | _, _ => .no)
  | .no => .no
/-- what the written part says of the classes of the table: CF the class of the clause, CN that of isinstance -/
structure EOk (K : PySem.W.Frag) (mg : Str → Option Value) (CF CN : Addr) (tb : ETab) : Prop where
  ok : ∀ e ∈ tb, mg e.1 = some (.ref e.2.1) ∧ ExcC K e.2.1 ∧ PySem.W.exmOne K (.ref e.2.1) (.ref CF) = some true ∧ PySem.W.kitOne K (.ref e.2.1) (.ref CN) = some e.2.2
/-- what the def makes of the lambda's reading -/
def TTisn (tb : ETab) (b0 : Bool) : (XK → Hp → VK → Prop) → Hp → VK → Prop := fun tl H Q =>
  tl (fun cls d H' => d = none ∧ ∃ e ∈ tb, cls = .ref e.2.1 ∧ Q (.bl e.2.2) H') H (fun _ H' => Q (.bl b0) H')
section
variable {X : Cx}
theorem PS_ex {ι : Type} {st : Stmt} {u : ι → TS} (h : ∀ i, PS X st (u i)) : PS X st (fun D σ H => ∃ i, u i D σ H) := ⟨fun pins s σ H D I ⟨i, q⟩ => (h i).run pins s σ H D I q⟩
theorem takes_len {W : WX} {n : Nat} (tk : Takes X W) (hn : X.N.length = n := by rfl) : Takes X (fun cls d σ H => σ.length = n → W cls d σ H) := fun u s' ⟨a, B, sI, pins, σ, H, cls, d, e, I, nb, up, sky, na, os, ag, w⟩ =>
  tk u s' ⟨a, B, sI, pins, σ, H, cls, d, e, I, nb, up, sky, na, os, ag, w (by rw [I.len, hn])⟩
theorem isn_gives {Ng : List Str} {x a er ef en q : Str} {sg : Scope} {g CF CN : Addr} {cdg : Value} {j : Nat} {b0 : Bool} {tb : ETab} {p1 p2 p3 p4 p5 p6 p7 p8 p9 pa pb pc pd pe : Pos} (ok : EOk X.K X.mg CF CN tb) (hef : X.mg ef = some (.ref CF)) (hen : X.mg en = some (.ref CN)) (hisn : X.mg "isinstance" = none)
    (gef : sg.names.lookup ef = some .globalImplicit) (gen : sg.names.lookup en = some .globalImplicit) (gi : sg.names.lookup ("isinstance" : Str) = some .globalImplicit) (d1 : (ef == ("__debug__" : Str)) = false) (d2 : (en == ("__debug__" : Str)) = false) (d3 : (er == ("__debug__" : Str)) = false) (d4 : (er == ("__classdict__" : Str)) = false)
    (hN : Ng = [a, er]) (nd : Ng.Nodup) (ler : sg.names.lookup er = some .local) (h0 : ∀ f : Addr, L2.start Ng [V.ref f] = [some (V.ref f), none]) :
    LamX.GivesTo X Ng x sg g cdg [.Try [.Expr (.Call (.Name a p1) [] [] p2) p3] [.ExceptHandler (some (.Name ef p4)) (some er) [.Return (some (.Call (.Name "isinstance" p5) [.Name er p6, .Name en p7] [] p8)) p9] pa] [] [] pb, .Return (some (.Constant (.bool b0) j pc)) pd] a q (TTisn tb b0) := by
  subst hN
  intro f c' s H Q tl act hc h
  have hgl : Gl (cxOf C8.CX0 X.prog X.w X.K X.mg X.base [a, er] x sg g cdg X.A X.stack s H C8.E0).nox ef := gef
  let XX := (cxOf C8.CX0 X.prog X.w X.K X.mg X.base [a, er] x sg g cdg X.A X.stack s H C8.E0).nox
  refine ⟨_, pss_cons (ps_try_as (X := XX) (i := 1) (c := .ref CF)
      (tb := fun W D σ H => ∃ Ech : XK, (∀ cls d σ' H', σ'.length = 2 → Ech cls d H' → W cls d σ' H') ∧ σ[0]? = some (some (.ref f)) ∧ H c' = some (LamX.CodeO c' q) ∧ tl Ech H (fun _ H' => D.nx σ H'))
      (ts := fun av cls d D σ H => ∃ e : { e // e ∈ tb }, cls = .ref e.1.2.1 ∧ d = none ∧ σ[1]? = some (some (.ref av)) ∧ D.rt (.bl e.1.2.2) H)
      rfl rfl nd rfl ler ⟨hgl, d1, .inl hef⟩ LamX.takes0 (fun W pn xe tk _ => ?_) (fun av oe cls d pn hz hf => ?_)) (pss_one (ps_ret pe_bl)), ?_⟩
  · refine ⟨fun pins s' σ H' D I h' => ?_⟩
    obtain ⟨Ech, hW, h1, h2, h3⟩ := h'
    have hp := act (fun cls d σ H => σ.length = 2 → W cls d σ H) pn xe Ech p1 p2 (takes_len tk) (fun cls d σ' H' h n => hW cls d σ' H' n h)
    have hq := pss_one (ps_expr (pos := p3) hp (by rfl))
    exact hq.run pins s' σ H' D I ⟨h1, h2, h3⟩
  · refine PSs_ex fun e => ?_
    by_cases hcd : cls = .ref e.1.2.1 ∧ d = none
    · obtain ⟨rfl, rfl⟩ := hcd
      obtain ⟨_, ec, _, ek⟩ := ok.ok e.1 e.2
      have gi' : Gl (XX.suite av ((av, oe) :: pn)) "isinstance" := gi
      have gen' : Gl (XX.suite av ((av, oe) :: pn)) en := gen
      have ve : PE (XX.suite av ((av, oe) :: pn)) (.Name er p6) (tVar 1) := pe_var (i := 1) rfl (.inl ler) d3 d4
      have vn : PE (XX.suite av ((av, oe) :: pn)) (.Name en p7) (tC (.ref CN)) := pe_glob gen' hen rfl d2
      refine (pss_one (ps_ret (pe_callB (call_isE (X := XX) ec hz hf) gi' hisn (by decide +kernel) (pa_cons ve (pa_cons vn pa_nil (by rfl)) (by rfl)) (by decide) (by decide) (by rfl) (by rfl)))).imp ?_
      rintro D σ H ⟨_, _, h2, h3⟩
      exact ⟨.ref av, h2, .ref CN, .ref CN, e.1.2.2, rfl, fun u hu => hu, ek, h3⟩
    · exact pss_never.imp fun D σ H ⟨h1, h2, _⟩ => hcd ⟨h1, h2⟩
  · rw [h0]
    refine ⟨fun cls d H' => d = none ∧ ∃ e ∈ tb, cls = .ref e.2.1 ∧ Q (.bl e.2.2) H', ?_, rfl, hc, h⟩
    rintro cls d σ' H' hl ⟨rfl, e, he, rfl, hq⟩
    obtain ⟨_, _, e3, _⟩ := ok.ok e he
    exact ⟨true, e3, fun _ av _ => ⟨⟨e, he⟩, rfl, rfl, by rw [List.getElem?_set_self (by omega)], hq⟩, fun z => nomatch z⟩
/-- the state behind the lambda's making -/
theorem ext_n {K : PySem.W.Frag} {T : List (Addr × Str)} {F H H1 : Hp} {as : List Addr} {S : Sx} (st : Stt K T F H as S) (x : LamX.ExtN H H1) (t : LamX.Tabs T H1) : Ext F H as F H1 as ∧ Stt K T F H1 as S :=
  ⟨⟨fun _ _ h => h, fun _ _ h => h, fun a o h _ n => x a o h n, fun _ h => .inl h, fun _ h => .inl h, fun a h o q => by
    refine Classical.byContradiction fun n => h.not (x a o q fun ps e => n ⟨ps, e⟩) fun ps e => n ⟨ps, e⟩⟩,
   ⟨fun a o h => x a o (st.fz a o h) fun ps e => st.nt a ps (e ▸ h), st.nt, t, st.len, st.nod, fun n a h => let ⟨g1, vs, ds, g2, g3, g4⟩ := st.cel n a h; ⟨g1, vs, ds, g2, x a _ g3 (fun _ => by simp), g4⟩⟩⟩
theorem ve_lamcall {T : List (Addr × Str)} {W : WX} {B : Hp} {ρ : List SL} {m : M D} {b0 : Bool} {tb : ETab} {x a : Str} {g c P CF CN : Addr} {k : Nat} {pg : Arguments} {bg : List Stmt} {sg : Scope} {dV kV doc pm cdv ct oc : Value} {an od : Option Addr} {osl : Array (Option Value)} {Ng : List Str}
    {params : Arguments} {body : Expr} {scope : Scope} {p lpos pos : Pos} (ok : EOk X.K X.mg CF CN tb)
    (lk : X.K.lookup g = some ⟨oc, od, .func (PySem.W.fnOf x x pg bg sg dV kV doc pm an cdv ct), osl⟩) (hcg : PySem.W.codeIn X.K cdv x = true) (hb : L2.Binds X.K (PySem.W.fnOf x x pg bg sg dV kV doc pm an cdv ct) [a] []) (Sg : FnScope Ng [a] sg) (hG : LamX.GivesTo X Ng x sg g cdv bg a (X.env.qual ++ "<lambda>") (TTisn tb b0))
    (hm : X.mg x = some (.ref g)) (hk : PySem.W.keepIn X.K (.ref g) = true) (TB : LamX.TabB X.base X.mg c P) (hcode : X.env.code = .ref c) (hmT : (P, X.env.qual ++ "<lambda>") ∈ T) (hu : ∀ p ∈ T, p.1 = P → p.2 = X.env.qual ++ "<lambda>") (hr : Room (k + 2) X.A)
    (hbody : ∀ (A : Around) (outer : List Env) (s : Shared) (H : Hp) (E : XK) (f c' : Addr), Room k (A.deeper (LamX.lamEnv X scope s.heap.objs.size f c')) → VE (LamX.lamCx X A outer s H E scope f c') T (fun cls d _ H' => E cls d H') B ρ body m)
    (L : LamX.lamSB X.env.scope scope = true := by decide +kernel) (hdef : defaultsOf params X.env = ([], []) := by rfl)
    (hbind : ∀ (q : Str) (cl : List (Str × Addr)) (pm cv ctv : Value), bindArgs (PySem.W.kla_fn "<lambda>" q params body scope cl pm cv ctv) ⟨[], []⟩ = pure [] := by intros; rfl)
    (hg : Gl X x := by rfl) (hNg : Ng[0]? = some a := by rfl) (hva : Vis sg a := by exact .inl rfl) (hdb : (x == ("__debug__" : Str)) = false := by decide) (hd : (a == ("__debug__" : Str)) = false := by decide) (hcd : (a == ("__classdict__" : Str)) = false := by decide) :
    VE X T W B ρ (.Call (.Name x p) [.Lambda params body scope lpos] [] pos) (catchM (tb.map fun e => (e.1, e.2.2)) b0 m) := by
  have h := LamX.pe_lamcall (T := T) (t := fun E => rd (RepV X.K) X.K X.mg T (fun cls d _ H' => E cls d H') B ρ m) (pos := pos) (p := p) (lpos := lpos) hg hm hk lk hcg hb Sg hNg hva hG TB hcode hmT hu hr (LamX.lamS_by L) hdef hbind (fun A outer s H E f c' hr' => (hbody A outer s H E f c' hr').pe) hdb hd hcd
  refine .of ⟨fun pins s σ H Q I q => h.run pins s σ H Q I ?_⟩
  obtain ⟨F, as, S, st, sl, pp⟩ := q
  refine ⟨st.tabs, fun H1 x1 t1 => ?_⟩
  obtain ⟨e1, st1⟩ := ext_n st x1 t1
  refine ⟨F, as, S, st1, sl.ext e1, ?_⟩
  unfold catchM at pp
  cases em : m S with
  | ok d S' =>
    simp only [em] at pp
    exact fun v F' H' as' x st' r => pp (.bl b0) F' H' as' (e1.trans x) st' (.bl _)
  | no =>
    simp only [em] at pp
    exact pp
  | er y S' =>
    simp only [em] at pp
    intro cls dd F' H' as' x st' r
    obtain ⟨r1, r2, _⟩ := r
    cases el : List.lookup y.cls (tb.map fun e => (e.1, e.2.2)) with
    | none => simp only [el] at pp; exact False.elim pp
    | some b =>
      cases ef : y.fs with
      | cons _ _ => simp only [el, ef] at pp; exact False.elim pp
      | nil =>
        simp only [el, ef] at pp
        refine ⟨r2 ef, ?_⟩
        have hmem : (y.cls, b) ∈ tb.map fun e => (e.1, e.2.2) := PySem.mem_of_lookup el
        obtain ⟨e, he, hq⟩ := List.mem_map.mp hmem
        have q1 : e.1 = y.cls := congrArg Prod.fst hq
        have q2 : e.2.2 = b := congrArg Prod.snd hq
        obtain ⟨m1, _, _, _⟩ := ok.ok e he
        rw [q1, r1] at m1
        refine ⟨e, he, Option.some.inj m1, ?_⟩
        rw [q2]
        exact pp (.bl b) F' H' as' (e1.trans x) st' (.bl _)
end
end VL

set_option maxHeartbeats 2000000
/-! VLEnd: the end of a law: from what its def makes of the script to the row's walk. -/
namespace VL
open PySem PySem.Spec PyProof.Rows L2 LamX
section
variable {γ : Bool} {P : Program} {w : World} {K : PySem.W.Frag} {mg mb : Str → Option Value} {k : Nat} {fa a : Addr} {cs : List (Addr × Addr)} {T : List (Addr × Str)} {fd : FuncData} {x : Str} {g : List D → M D} {s₁ : Shared} {vs : List Value} {ns : List Int}
/-- the abstract heap at the law's call: the tables, and the script where the written part does not know it -/
def H1 (cs : List (Addr × Addr)) (a : Addr) (o : Option HO) : Hp := fun b => if b = a then o else if b ∈ cs.map (·.2) then some (.tbl #[]) else none
/-- what of it stands still -/
def F1 (a : Addr) (o : Option HO) : Hp := fun b => if b = a then o else none
theorem law_end (KX : K.In s₁.heap) (hns : s₁.heap.Ns mainGlobals mg) (hb : s₁.heap.Ns builtinsNs mb) (hbb : ∀ x : Str, x ≠ "__name__" → mb x = bootBuiltins x) (hlim : s₁.heap.NoLimit) (hg : s₁.gens = #[])
    (hT : ∀ p ∈ cs, s₁.heap.get? p.2 = some { cls := .none, data := .fields #[] }) (nT : ∀ p ∈ cs, K.lookup p.2 = none) (C : ∀ p ∈ cs, PySem.W.CodeHd s₁.heap p.1 p.2)
    (hbm : ∃ (bm : Addr) (ob : Obj), mg "__builtins__" = some (.ref bm) ∧ bm ≠ builtinsNs ∧ s₁.heap.get? bm = some ob ∧ ob.cls = .type "module" ∧ ob.dict = some builtinsNs ∧ ob.data = .plain)
    (ha : s₁.heap.get? a = some { cls := .type "list", data := .seq vs.toArray }) (hi : IntsAre vs ns) (hl : ns.length ≤ sizeLine) (hr : Room k callerA) (hTc : ∀ p ∈ T, ∃ c ∈ cs, c.2 = p.1)
    (G : ∀ base : Heap, K.In base → base.Ns mainGlobals mg → (∀ p ∈ cs, TabB base mg p.1 p.2) → VFn γ P w K mg base T k fa fd [x] g) (hbind : ∀ (s : Shared) (u : Value), BindsTo s fd ⟨[u], []⟩ [(x, u)])
    (hgo : ∃ S', g [.scr ns] [] = .ok (.bl true) S') :
    codeAny (model P w) callerA (.call (.ref fa) ⟨[.ref a], []⟩) (fun r s' => r = .ok (.ret (.bool true)) ∧ OldK s₁.heap s'.heap ∧ s'.os = s₁.os ∧ AllBare s'.gens) s₁ := by
  have rv : Vals (ns.map V.int) vs := vals_ints hi
  have tabAt : ∀ b : Addr, b ∈ cs.map (·.2) → s₁.heap.get? b = some { cls := .none, data := .fields #[] } := fun b hb => by
    obtain ⟨p, hp, rfl⟩ := List.mem_map.mp hb
    exact hT p hp
  have aT : a ∉ cs.map (·.2) := fun z => by
    have q := tabAt a z
    rw [ha] at q
    injection q with q
    injection q with _ _ q
    cases q
  have memT : ∀ p ∈ cs, p.2 ∈ cs.map (·.2) := fun p hp => List.mem_map_of_mem hp
  obtain ⟨S', hgo⟩ := hgo
  -- o: how the script is tracked
  have main : ∀ o : Option HO, (∀ u, o = some u → (∃ ob xs, u = .frz ob (.lst xs)) ∧ ObjOk P w (H1 cs a o) s₁.heap a u ∧ K.lookup a = none) → SqL K (F1 a o) a (ns.map V.int) → codeAny (model P w) callerA (.call (.ref fa) ⟨[.ref a], []⟩) (fun r s' => r = .ok (.ret (.bool true)) ∧ OldK s₁.heap s'.heap ∧ s'.os = s₁.os ∧ AllBare s'.gens) s₁ := by
    intro o ho hS
    have Ha : H1 cs a o a = o := if_pos rfl
    have Ht : ∀ b, b ∈ cs.map (·.2) → H1 cs a o b = some (.tbl #[]) := fun b hb => (if_neg (show b ≠ a from fun e => aT (e ▸ hb))).trans (if_pos hb)
    have Hn : ∀ b, b ≠ a → b ∉ cs.map (·.2) → H1 cs a o b = none := fun b h1 h2 => (if_neg h1).trans (if_neg h2)
    have hok : HOk P w (H1 cs a o) s₁.heap := fun b u e => by
      by_cases h1 : b = a
      · subst h1
        rw [Ha] at e
        exact (ho u e).2.1
      · by_cases h2 : b ∈ cs.map (·.2)
        · rw [Ht b h2] at e
          cases e
          exact tabAt b h2
        · rw [Hn b h1 h2] at e
          cases e
    -- an object that is neither a list nor an empty table is not tracked
    have free : ∀ {b : Addr} {ob : Obj}, s₁.heap.get? b = some ob → (∀ vs n, ob.data ≠ .seq vs n) → ob.data ≠ .fields #[] → H1 cs a o b = none := fun {b ob} e h1 h2 => by
      refine Hn b (fun z => ?_) fun z => ?_
      · rw [z, ha] at e; cases e; exact h1 _ _ rfl
      · rw [tabAt b z] at e; cases e; exact h2 rfl
    have kb : ∀ {b : Addr} {ob : Obj}, s₁.heap.get? b = some ob → H1 cs a o b = none → (hidT s₁.heap (H1 cs a o)).get? b = some ob := fun e n => hidT_get e n
    have nsB : ∀ {b : Addr} {m : Str → Option Value}, s₁.heap.Ns b m → (hidT s₁.heap (H1 cs a o)).Ns b m := fun {b m} ⟨ob, es, ep, e, d, r⟩ =>
      ⟨ob, es, ep, kb e (free e (fun _ _ z => by rw [d] at z; cases z) fun z => by rw [d] at z; cases z), d, r⟩
    have KB : K.In (hidT s₁.heap (H1 cs a o)) := fun b ob e => kb (KX b ob e) (by
      by_cases h1 : b = a
      · subst h1
        cases q : o with
        | none => subst q; exact Ha
        | some u => rw [(ho u q).2.2] at e; cases e
      · by_cases h2 : b ∈ cs.map (·.2)
        · obtain ⟨p, hp, rfl⟩ := List.mem_map.mp h2
          rw [nT p hp] at e; cases e
        · exact Hn b h1 h2)
    have md : L2.Mod K mg (hidT s₁.heap (H1 cs a o)) := ⟨KB, nsB hns, ⟨mb, nsB hb, hbb⟩, let ⟨mc, h1, h2⟩ := hlim; ⟨mc, nsB h1, h2⟩⟩
    have TB : ∀ p ∈ cs, TabB (hidT s₁.heap (H1 cs a o)) mg p.1 p.2 := fun p hp => by
      refine ⟨?_, ?_, fun z => ?_⟩
      · obtain ⟨oc, us, file, tf, flags, tg, inF, text, tt, e1, r1, r2, r3, r⟩ := C p hp
        refine ⟨oc, us, file, tf, flags, tg, inF, text, tt, kb e1 (free e1 (fun vs n z => ?_) fun z => ?_), r1, r2, r3, r⟩
        · rw [r2] at z; cases z
        · rw [r2] at z
          cases z
          simp at r3
      · obtain ⟨bm, ob, b1, b2, b3, b4, b5, b6⟩ := hbm
        refine ⟨bm, ob, b1, b2, fun q => ?_, fun q => ?_, kb b3 (free b3 (fun vs n z => ?_) fun z => ?_), b4, b5, b6⟩
        · obtain ⟨om, es, ep, e, hd, _⟩ := hns
          rw [q, e] at b3; cases b3; rw [hd] at b6; cases b6
        · rw [q, hT p hp] at b3; cases b3; cases b6
        · rw [b6] at z; cases z
        · rw [b6] at z; cases z
      · obtain ⟨om, es, ep, e, hd, _⟩ := hns
        rw [z, hT p hp] at e; cases e; cases hd
    have e0 : Env0 P w K mg (hidT s₁.heap (H1 cs a o)) callerA [] s₁ (H1 cs a o) := ⟨rfl, md, fun b ob e => of_hidT e, Nat.le_of_eq (hidT_size _ _), trivial, (fun b hb => absurd (show b ∈ ([] : List Addr) from hb) (by simp)), hok, AllBare.of_eq hg⟩
    have stt : Stt K T (F1 a o) (H1 cs a o) [] [] := by
      refine ⟨fun b u h => ?_, fun b ps h => ?_, fun p hp => ?_, rfl, List.nodup_nil, fun n b h => by simp at h⟩
      · unfold F1 at h
        split at h
        · rename_i e; rw [e, Ha]; exact h
        · cases h
      · unfold F1 at h
        split at h
        · obtain ⟨ob, xs, e⟩ := (ho _ h).1
          cases e
        · cases h
      · obtain ⟨c, hc, e⟩ := hTc p hp
        exact TabS.nil (Ht p.1 (e ▸ memT c hc))
    refine codeAny_mono ((G _ KB (nsB hns) TB).run callerA [] s₁ (H1 cs a o) ⟨[.ref a], []⟩ [.ref a] [.ref a] (fun v _ => v = .bl true) (fun _ _ _ => False) (F1 a o) [] [] [.scr ns] hr (fun _ => rfl) e0 (hbind s₁ (.ref a)) (.cons rfl .nil) stt (.cons (.scr hS) .nil) rfl (by
      rw [hgo]
      intro v F' H' as' x st' r
      cases r
      rfl)) fun r s' h => ?_
    match r, h with
    | .error e, h =>
      obtain ⟨_, _, _, _, _, _, _, _, _, _, _, _, z⟩ := h
      exact z.elim
    | .ok .next, h => exact False.elim h
    | .ok .brk, h => exact False.elim h
    | .ok .cont, h => exact False.elim h
    | .ok (.ret u), h =>
      obtain ⟨v, H', os, bare, un, hok', r', rfl⟩ := h
      obtain rfl : u = Value.bool true := r'
      have old : ∀ b ob, b ∉ cs.map (·.2) → s₁.heap.get? b = some ob → s'.heap.get? b = some ob := fun b ob nb e => by
        by_cases h1 : b = a
        · subst h1
          cases q : o with
          | none => exact un.keep b ob e (Ha.trans q) (fun z => absurd (show b ∈ ([] : List Addr) from z) (by simp)) (by simp)
          | some u =>
            obtain ⟨⟨ob', xs, rfl⟩, _, _⟩ := ho u q
            have z1 : H1 cs b o b = some (.frz ob' (.lst xs)) := Ha.trans q
            obtain ⟨e1, _⟩ := hok b _ z1
            obtain ⟨e2, _⟩ := hok' b _ (un.frzs b ob' _ z1)
            rw [e] at e1; cases e1
            exact e2
        · exact un.keep b ob e (Hn b h1 nb) (fun z => absurd (show b ∈ ([] : List Addr) from z) (by simp)) (by simp)
      have grown : ∀ p ∈ cs, ∃ more : Array Value, s'.heap.get? p.2 = some { cls := .none, data := .fields more } := fun p hp => by
        obtain ⟨more, z⟩ := un.tbls p.2 #[] (Ht p.2 (memT p hp))
        exact ⟨_, hok' p.2 _ z⟩
      refine ⟨rfl, ⟨fun b ob e => ?_, fun b ob e => ?_⟩, os, bare⟩
      · by_cases hb : b ∈ cs.map (·.2)
        · obtain ⟨p, hp, rfl⟩ := List.mem_map.mp hb
          obtain ⟨more, hm⟩ := grown p hp
          rw [hT p hp] at e
          cases e
          exact .inr (.inl ⟨((C p hp).tab (hT p hp)).isCodeTable, rfl, #[], more, rfl, by rw [Array.empty_append]; exact hm⟩)
        · exact .inl (old b ob hb e)
      · by_cases hb : b ∈ cs.map (·.2)
        · obtain ⟨p, hp, rfl⟩ := List.mem_map.mp hb
          obtain ⟨more, hm⟩ := grown p hp
          exact ⟨_, hm⟩
        · exact ⟨ob, old b ob hb e⟩
  cases hk : K.lookup a with
  | some ob =>
    have e := KX a ob hk
    rw [ha] at e
    cases e
    exact main none (fun u z => nomatch z) (.inr ⟨_, vs.toArray, _, hk, rfl, rfl, rfl, by rw [List.size_toArray, hi.length]; exact hl, by simpa using rv⟩)
  | none =>
    refine main (some (.frz { cls := .type "list", data := .seq vs.toArray } (.lst (ns.map V.int)))) (fun u z => ?_) (.inl (.inr ⟨_, if_pos rfl⟩))
    cases z
    exact ⟨⟨_, _, rfl⟩, ⟨ha, by rw [List.length_map]; exact hl, vs, _, rv, ha⟩, hk⟩
end
/-- what is known of the law at the head's heap h -/
def LawAtV (l : PySem.W.OpenLaw) (w : World) (K : PySem.W.Frag) (k n : Nat) (x : Str) (mg : Str → Option Value) (fa : Addr) (h : Heap) : Prop :=
  ∃ (γ : Bool) (fd : FuncData) (cs : List (Addr × Addr)) (T : List (Addr × Str)) (g : List D → M D), (∀ p ∈ cs, h.get? p.2 = some { cls := .none, data := .fields #[] }) ∧ (∀ p ∈ cs, K.lookup p.2 = none) ∧ (∀ p ∈ cs, PySem.W.CodeHd h p.1 p.2) ∧ (∀ (s : Shared) (u : Value), BindsTo s fd ⟨[u], []⟩ [(x, u)]) ∧
    (∀ p ∈ T, ∃ c ∈ cs, c.2 = p.1) ∧ (∀ ns : List Int, ns.length ≤ n → (∀ z ∈ ns, Builtin.Int.intBits z ≤ 1048576) → ∃ S', g [.scr ns] [] = .ok (.bl true) S') ∧
    ∀ base : Heap, K.In base → base.Ns mainGlobals mg → (∀ p ∈ cs, TabB base mg p.1 p.2) → VFn γ l.prog w K mg base T k fa fd [x] g
theorem walk_ofV {l : PySem.W.OpenLaw} {n k : Nat} {q : Program} {loose : List Str} {XP : (Str → Option Value) → Heap → Prop} {YP : World → Heap → Prop} {d : DefRec} {K : Params → PySem.W.Frag} {x : Str}
    (hn : l.most = some n) (hn2 : n ≤ sizeLine) (hdf : d.params.defaults = []) (hr : Room k callerA) (hY : ∀ (w : World) (h : Heap), YP w h → (K w.params).In h)
    (F : ∀ (w : World) (mg : Str → Option Value) (fa : Addr) (h : Heap), YP w h → (K w.params).In h → h.Ns mainGlobals mg → mg d.name = some (.ref fa) → LawAtV l w (K w.params) k n x mg fa h) :
    PySem.W.WalkO q loose XP YP l.row.toRowW d [] (fun f vs => PySem.call f vs) := by
  refine Att.attach_callB hn hdf fun w s₀ s₁ mg mb fa o pm cd doc a vs ns G Y ho hd hcd hmg hobj hints hlen hbits hg => ?_
  obtain ⟨γ, fd, cs, T, g, hT, nT, C, hb, hTc, hgo, hF⟩ := F w mg fa _ Y (hY w _ Y) G.T.g hmg
  exact law_end (hY w _ Y) G.T.g G.T.b G.T.builtins G.T.nolimit hg hT nT C G.T.bmain hobj hints (Nat.le_trans hlen hn2) hr hTc hF hb (hgo ns hlen hbits)
end VL

set_option maxHeartbeats 2000000
/-! VLTop: the defs of a top by the head's facts. -/
namespace VL
open PySem PySem.Spec PyProof.Rows L2 LamX
/-- a def that may be called by its name: it makes g -/
structure DOk (γ : Bool) (P : Program) (w : World) (K : PySem.W.Frag) (mg : Str → Option Value) (base : Heap) (T : List (Addr × Str)) (k : Nat) (x : Str) (ps : List Str) (g : List D → M D) : Prop where
  ex : ∃ (f : Addr) (fd : FuncData), VFn γ P w K mg base T k f fd ps g ∧ mg x = some (.ref f) ∧ PySem.W.keepIn K (.ref f) = true ∧ Binds K fd ps []
abbrev FnP (K : PySem.W.Frag) (x : Str) (st : Stmt) (f : Addr) (fd : FuncData) : Prop := FunD K x x (defArgs st) (defBody st) (defScope st) [] [] f fd
section
variable {γ γ' : Bool} {P : Program} {w : World} {K : PySem.W.Frag} {mg : Str → Option Value} {base : Heap} {T : List (Addr × Str)} {x : Str} {st : Stmt} {f : Addr} {fd : FuncData} {N ps : List Str} {k : Nat}
theorem vfn_ofD {m : List D → M (Fl Unit Unit)} (F : FnP K x st f fd) (S : FnScope N ps (defScope st))
    (hbody : ∀ (cdv : Value) (A : Around) (outer : List Env) (s : Shared) (H : Hp) (E : XK) (ds : List D), (∃ oc od osl, K.lookup f = some ⟨oc, od, .func fd, osl⟩) → fd.code = cdv → PySem.W.codeIn K cdv x = true → Room k (A.deeper (envOfC x (defScope st) s.heap.objs.size f cdv)) → (γ = true → A.guards = some []) → ds.length = ps.length →
      VB (bCx P w K mg base N x st f cdv A outer s H E) T (fun cls dd _ H' => E cls dd H') H (ρ0 N.length ds) (defBody st) (fun _ : Unit => nos N.length) (fun _ : Unit => nos N.length) (m ds)) :
    VFn γ P w K mg base T (k + 1) f fd ps (fun ds => bodyM (m ds)) := by
  refine ⟨fun A outer s H args us vs Q E F' as S' ds hr hγ e0 hb rv stt rr hl p => ?_⟩
  obtain ⟨oc, od, dV, kV, doc, pm, an, cdv, ct, osl, rfl, lk, hcd, _, _⟩ := F.ex
  refine LamX.run_ofS lk hcd S hr e0 hb rv (by rw [rr.length, hl]) fun hr' => ?_
  refine ⟨_, (hbody cdv A outer s H E ds ⟨_, _, _, lk⟩ rfl hcd hr' hγ hl).p, F', as, F', as, S', Ext.refl, stt, slots0 rr, ?_⟩
  unfold bodyM at p
  cases e : m ds S' with
  | ok fl S2 =>
    rw [bind_ok e] at p
    cases fl with
    | nx a => exact fun σ' F2 H2 as2 x st2 sl2 => p .non F2 H2 as2 x st2 .non
    | rt d => exact fun v F2 H2 as2 x st2 r2 => p v F2 H2 as2 x st2 r2
    | bk c => exact False.elim p
    | ct c => exact False.elim p
  | er y S2 =>
    rw [bind_er e] at p
    exact fun cls dd σ' F2 H2 as2 x st2 r2 => p cls dd F2 H2 as2 x st2 r2
  | no =>
    rw [bind_no e] at p
    exact p
theorem dok_of {g : List D → M D} (F : FnP K x st f fd) (hm : mg x = some (.ref f)) (v : VFn γ P w K mg base T k f fd ps g)
    (hb : ∀ (kV doc pm : Value) (an : Option Addr) (cdv ct : Value) (us : List Value), us.length = ps.length → bindArgs (PySem.W.fnOf x x (defArgs st) (defBody st) (defScope st) .none kV doc pm an cdv ct) ⟨us, []⟩ = pure (ps.zip us)) : DOk γ P w K mg base T k x ps g :=
  ⟨f, fd, v, hm, F.kp, F.bindsN hb⟩
end
section
variable {γ' : Bool} {X : Cx} {T : List (Addr × Str)} {W : WX} {B : Hp} {ρ : List SL} {e : Expr} {es : List Expr} {ms : M (List D)} {pos : Pos}
theorem ve_dcall {x : Str} {p : Pos} {k : Nat} {ps : List Str} {g : List D → M D} (G : DOk γ' X.prog X.w X.K X.mg X.base T k x ps g) (hr : Room k X.A) (hγ : γ' = true → X.A.guards = some []) (tk : Takes X W) (ha : VA X T W B ρ (e :: es) ms)
    (hg : Gl X x := by rfl) (hdb : (x == ("__debug__" : Str)) = false := by decide) (he : starEach (e :: es) X.env = (false, eval e X.env) :: starEach es X.env := by rfl) (hpl : (backTo pos (starEach es X.env)).any (·.1) = false := by rfl) :
    VE X T W B ρ (.Call (.Name x p) (e :: es) [] pos) (ms >>= onN ps.length g) :=
  let ⟨_, _, v, hm, hk, hb⟩ := G.ex
  ve_call v hr hγ hm hk hb tk ha hg hdb he hpl
theorem ve_dcall0 {x : Str} {p : Pos} {k : Nat} {g : List D → M D} (G : DOk γ' X.prog X.w X.K X.mg X.base T k x [] g) (hr : Room k X.A) (hγ : γ' = true → X.A.guards = some []) (tk : Takes X W)
    (hg : Gl X x := by rfl) (hdb : (x == ("__debug__" : Str)) = false := by decide) : VE X T W B ρ (.Call (.Name x p) [] [] pos) (g []) :=
  let ⟨_, _, v, hm, hk, hb⟩ := G.ex
  ve_call0 v hr hγ hm hk hb tk hg hdb
end
/-! ### the facts of a top -/
/-- the names of the tables of the lambdas' makers -/
def tabsOf (K : PySem.W.Frag) (tf : List Str) : List (Addr × Str) := tf.map fun x => ((He.cT K (x, none)).2, x ++ ".<locals>." ++ "<lambda>")
/-- what the head says -/
structure Tx (fa : List He.Fa) (fn : List He.DefD) (tf : List Str) (ex : PySem.W.Frag → Bool) (K : PySem.W.Frag) (mg : Str → Option Value) : Prop where
  c : He.SaysD fa fn K
  h : ∃ h : Heap, K.In h ∧ h.Ns mainGlobals mg
  more : ex K = true
  ap : (tf.map fun x => (He.cT K (x, none)).2).Nodup
structure Bx (tf : List Str) (K : PySem.W.Frag) (mg : Str → Option Value) (base : Heap) (T : List (Addr × Str)) : Prop where
  t : T = tabsOf K tf
  b : ∀ x ∈ tf, TabB base mg (He.cT K (x, none)).1 (He.cT K (x, none)).2
section
variable {fa : List He.Fa} {fn : List He.DefD} {tf : List Str} {ex : PySem.W.Frag → Bool} {K : PySem.W.Frag} {mg : Str → Option Value} {base : Heap} {T : List (Addr × Str)}
theorem Tx.glo (t : Tx fa fn tf ex K mg) {x : Str} (i : Nat) (h : fa[i]? = some (.glo x) := by rfl) : mg x = some (.ref (He.ga K x)) := let ⟨_, a, b⟩ := t.h; He.glo_ok a b (t.c.fact i h)
theorem Tx.free (t : Tx fa fn tf ex K mg) {x : Str} (i : Nat) (h : fa[i]? = some (.free x) := by rfl) : mg x = none := let ⟨_, a, b⟩ := t.h; He.free_ok a b (t.c.fact i h)
theorem Tx.xcls (t : Tx fa fn tf ex K mg) {x : Str} (i : Nat) (h : fa[i]? = some (.exc x) := by rfl) : XCls K (He.ga K x) := let ⟨a, b, c, d⟩ := He.exc_ok (t.c.fact i h); ⟨a, b, c, d⟩
theorem Tx.dfn (t : Tx fa fn tf ex K mg) {x : Str} {st : Stmt} (i : Nat) (h : fn[i]? = some ⟨(x, none), x, x, defArgs st, defBody st, defScope st, [], []⟩ := by rfl) : ∃ fd, FnP K x st (He.ga K x) fd := t.c.def_ i h
/-- the table of a lambda's maker -/
theorem Bx.tab (b : Bx tf K mg base T) (t : Tx fa fn tf ex K mg) {x : Str} (hx : x ∈ tf) : ((He.cT K (x, none)).2, x ++ ".<locals>." ++ "<lambda>") ∈ T ∧ ∀ p ∈ T, p.1 = (He.cT K (x, none)).2 → p.2 = x ++ ".<locals>." ++ "<lambda>" := by
  rw [b.t]
  refine ⟨List.mem_map.mpr ⟨x, hx, rfl⟩, fun p hp e => ?_⟩
  obtain ⟨y, hy, rfl⟩ := List.mem_map.mp hp
  obtain ⟨i, hi, rfl⟩ := List.mem_iff_getElem.mp hx
  obtain ⟨j, hj, rfl⟩ := List.mem_iff_getElem.mp hy
  have e : (He.cT K (tf[j], none)).2 = (He.cT K (tf[i], none)).2 := e
  have q : j = i := by
    have n := t.ap
    rw [List.nodup_iff_pairwise_ne, List.pairwise_iff_getElem] at n
    rcases Nat.lt_trichotomy j i with h | h | h
    · exact absurd (by rw [List.getElem_map, List.getElem_map]; exact e) (n j i (by simpa using hj) (by simpa using hi) h)
    · exact h
    · exact absurd (by rw [List.getElem_map, List.getElem_map]; exact e.symm) (n i j (by simpa using hi) (by simpa using hj) h)
  subst q
  rfl
/-- the code object of a def -/
theorem codeAt {x : Str} {fd : FuncData} {cdv : Value} (lk : ∃ oc od osl, K.lookup (He.ga K x) = some ⟨oc, od, .func fd, osl⟩) (hc : fd.code = cdv) (hcd : PySem.W.codeIn K cdv x = true) : cdv = .ref (He.cT K (x, none)).1 := by
  obtain ⟨c, rfl⟩ := He.codeIn_ref hcd
  obtain ⟨oc, od, osl, lk⟩ := lk
  rw [show (He.cT K (x, none)).1 = He.codeOf K (x, none) from rfl, He.codeOf_eq (p := (x, none)) lk hc]
end
theorem walk_ofVE {l : PySem.W.OpenLaw} {n k : Nat} {q : Program} {loose : List Str} {XP : (Str → Option Value) → Heap → Prop} {YP : World → Heap → Prop} {d : DefRec} {x : Str}
    (hn : l.most = some n) (hn2 : n ≤ sizeLine) (hdf : d.params.defaults = []) (hr : Room k callerA)
    (F : ∀ (w : World) (mg : Str → Option Value) (fa : Addr) (h : Heap), YP w h → h.Ns mainGlobals mg → mg d.name = some (.ref fa) → ∃ K : PySem.W.Frag, K.In h ∧ LawAtV l w K k n x mg fa h) :
    PySem.W.WalkO q loose XP YP l.row.toRowW d [] (fun f vs => PySem.call f vs) := by
  refine Att.attach_callB hn hdf fun w s₀ s₁ mg mb fa o pm cd doc a vs ns G Y ho hd hcd hmg hobj hints hlen hbits hg => ?_
  obtain ⟨K, KX, γ, fd, cs, T, g, hT, nT, C, hb, hTc, hgo, hF⟩ := F w mg fa _ Y G.T.g hmg
  exact law_end KX G.T.g G.T.b G.T.builtins G.T.nolimit hg hT nT C G.T.bmain hobj hints (Nat.le_trans hlen hn2) hr hTc hF hb (hgo ns hlen hbits)
/-- the law, by the facts -/
theorem lawAt {l : PySem.W.OpenLaw} {w : World} {K : PySem.W.Frag} {mg : Str → Option Value} {fa : Addr} {h : Heap} {fas : List He.Fa} {fn : List He.DefD} {ts : List He.Tab} {tf : List Str} {ex : PySem.W.Frag → Bool} {k n : Nat} {γ : Bool} {x nm : Str} {g : List D → M D} {st : Stmt}
    (KX : K.In h) (G : h.Ns mainGlobals mg) (c : He.SaysX fas fn ts (tf.map fun x => (x, none)) (fun K => ex K && decide ((tf.map fun x => (He.cT K (x, none)).2).Nodup)) w h K) (hfa : mg nm = some (.ref fa)) (i : Nat) (hi : fn[i]? = some ⟨(nm, none), nm, nm, defArgs st, defBody st, defScope st, [], []⟩) (hglo : ∃ j : Nat, fas[j]? = some (He.Fa.glo nm))
    (hgo : ∀ ns : List Int, ns.length ≤ n → (∀ z ∈ ns, Builtin.Int.intBits z ≤ 1048576) → ∃ S', g [.scr ns] [] = .ok (.bl true) S')
    (hbd : ∀ (kV doc pm : Value) (an : Option Addr) (cdv ct : Value) (us : List Value), us.length = 1 → bindArgs (PySem.W.fnOf nm nm (defArgs st) (defBody st) (defScope st) .none kV doc pm an cdv ct) ⟨us, []⟩ = pure ([x].zip us))
    (hF : ∀ (base : Heap) (T : List (Addr × Str)), Tx fas fn tf ex K mg → Bx tf K mg base T → ∃ fd, VFn γ l.prog w K mg base T k (He.ga K nm) fd [x] g ∧ FnP K nm st (He.ga K nm) fd) : LawAtV l w K k n x mg fa h := by
  have hmore := Bool.and_eq_true_iff.mp c.more
  have hc : He.SaysD fas fn K := He.SaysT.d c.t
  have tx : Tx fas fn tf ex K mg := ⟨hc, ⟨h, KX, G⟩, hmore.1, of_decide_eq_true hmore.2⟩
  obtain ⟨j, hj⟩ := hglo
  have e : fa = He.ga K nm := by
    have e1 := He.glo_ok KX G (hc.fact (f := He.Fa.glo nm) j hj)
    rw [hfa] at e1
    exact Value.ref.inj (Option.some.inj e1)
  subst e
  obtain ⟨fd, F⟩ := hc.def_ i hi
  have mem : ∀ y ∈ tf, ((y, none) : He.Defn) ∈ tf.map fun x => ((x, none) : He.Defn) := fun y hy => List.mem_map.mpr ⟨y, hy, rfl⟩
  refine ⟨γ, fd, tf.map fun y => He.cT K (y, none), tabsOf K tf, g, fun p hp => ?_, fun p hp => ?_, fun p hp => ?_, fun s u => ?_, fun p hp => ?_, hgo, fun base hK hN hTB => ?_⟩
  · obtain ⟨y, hy, rfl⟩ := List.mem_map.mp hp
    exact c.empty _ (mem y hy)
  · obtain ⟨y, hy, rfl⟩ := List.mem_map.mp hp
    exact c.out _ (mem y hy)
  · obtain ⟨y, hy, rfl⟩ := List.mem_map.mp hp
    exact PySem.W.codeHd_of_K KX (c.hd _ (mem y hy))
  · have := FunD.bindsA (ps := [x]) F hbd s [u] rfl
    exact this
  · obtain ⟨y, hy, rfl⟩ := List.mem_map.mp hp
    exact ⟨_, List.mem_map.mpr ⟨y, hy, rfl⟩, rfl⟩
  · obtain ⟨fd2, v, F2⟩ := hF base (tabsOf K tf) tx ⟨rfl, fun y hy => hTB _ (List.mem_map.mpr ⟨y, hy, rfl⟩)⟩
    obtain ⟨oc, od, dV, kV, doc, pm, an, cdv, ct, osl, e1, lk, _⟩ := F.ex
    obtain ⟨oc2, od2, dV2, kV2, doc2, pm2, an2, cdv2, ct2, osl2, e2, lk2, _⟩ := F2.ex
    have lk2 : K.lookup (He.fAd K (nm, none)) = _ := lk2
    rw [show K.lookup (He.fAd K (nm, none)) = _ from lk] at lk2
    have e3 : fd = fd2 := by
      have := Option.some.inj lk2
      injection this with _ _ q
      injection q
    rw [e3]
    exact v
end VL

set_option maxHeartbeats 2000000
/-! VLTop2: what the printed walk takes. -/
namespace VL
open PySem PySem.Spec PyProof.Rows L2 LamX
theorem _root_.L2.Room.reprV {k : Nat} {A : Around} (r : Room k A) : A.units + 100 < cLine := by have := r.un; omega
theorem DOk.mono {γ : Bool} {P : Program} {w : World} {K : PySem.W.Frag} {mg : Str → Option Value} {base : Heap} {T : List (Addr × Str)} {j k : Nat} {x : Str} {ps : List Str} {g : List D → M D} (G : DOk γ P w K mg base T j x ps g) (h : j ≤ k) : DOk γ P w K mg base T k x ps g :=
  let ⟨f, fd, v, a, b, c⟩ := G.ex
  ⟨f, fd, v.mono h, a, b, c⟩
/-- a constant of the top -/
structure ConstG (K : PySem.W.Frag) (mg : Str → Option Value) (x : Str) (d : D) : Prop where
  ex : ∃ (u : Value) (v : V), mg x = some u ∧ RelV v u ∧ ∀ F as, Rep K F as v d
theorem ve_const {X : Cx} {T : List (Addr × Str)} {W : WX} {B : Hp} {ρ : List SL} {pos : Pos} {x : Str} {d : D} (h : ConstG X.K X.mg x d) (hg : Gl X x := by rfl) (hd : (x == ("__debug__" : Str)) = false := by decide) : VE X T W B ρ (.Name x pos) (pure d) :=
  let ⟨_, _, a, b, c⟩ := h.ex
  ve_glob hg a b c hd
/-- the tables of a def whose lambdas are made -/
structure LamTab (K : PySem.W.Frag) (mg : Str → Option Value) (base : Heap) (T : List (Addr × Str)) (x : Str) : Prop where
  tb : TabB base mg (He.cT K (x, none)).1 (He.cT K (x, none)).2
  mem : ((He.cT K (x, none)).2, x ++ ".<locals>." ++ "<lambda>") ∈ T
  un : ∀ p ∈ T, p.1 = (He.cT K (x, none)).2 → p.2 = x ++ ".<locals>." ++ "<lambda>"
/-- a def that looks for an error by its class -/
structure IsnOk (K : PySem.W.Frag) (mg : Str → Option Value) (tb : ETab) (b0 : Bool) (x a : Str) (Ng : List Str) (sg : Scope) (bg : List Stmt) (pg : Arguments) : Prop where
  ex : ∃ (g CF CN : Addr) (fd : FuncData), EOk K mg CF CN tb ∧ FunD K x x pg bg sg [] [] g fd ∧ mg x = some (.ref g) ∧ L2.Binds K fd [a] [] ∧ FnScope Ng [a] sg ∧ Ng[0]? = some a ∧ Vis sg a ∧
    ∀ (X : Cx) (cdg : Value) (q : Str), X.K = K → X.mg = mg → LamX.GivesTo X Ng x sg g cdg bg a q (TTisn tb b0)
section
variable {X : Cx} {T : List (Addr × Str)} {W : WX} {B : Hp} {ρ : List SL} {m : M D} {b0 : Bool} {tb : ETab} {x a : Str} {Ng : List Str} {sg : Scope} {bg : List Stmt} {pg : Arguments} {q : Str} {k : Nat} {params : Arguments} {body : Expr} {scope : Scope} {p lpos pos : Pos}
theorem ve_isn (I : IsnOk X.K X.mg tb b0 x a Ng sg bg pg) (HT : LamTab X.K X.mg X.base T q) (hq : X.env.qual = q ++ ".<locals>.") (hcode : X.env.code = .ref (He.cT X.K (q, none)).1) (hr : Room (k + 2) X.A)
    (hbody : ∀ (A : Around) (outer : List Env) (s : Shared) (H : Hp) (E : XK) (f c' : Addr), Room k (A.deeper (LamX.lamEnv X scope s.heap.objs.size f c')) → VE (LamX.lamCx X A outer s H E scope f c') T (fun cls d _ H' => E cls d H') B ρ body m)
    (L : LamX.lamSB X.env.scope scope = true := by rfl) (hdef : defaultsOf params X.env = ([], []) := by rfl)
    (hbind : ∀ (q : Str) (cl : List (Str × Addr)) (pm cv ctv : Value), bindArgs (PySem.W.kla_fn "<lambda>" q params body scope cl pm cv ctv) ⟨[], []⟩ = pure [] := by intros; rfl)
    (hg : Gl X x := by rfl) (hdb : (x == ("__debug__" : Str)) = false := by decide) (hd : (a == ("__debug__" : Str)) = false := by decide) (hcd : (a == ("__classdict__" : Str)) = false := by decide) :
    VE X T W B ρ (.Call (.Name x p) [.Lambda params body scope lpos] [] pos) (catchM (tb.map fun e => (e.1, e.2.2)) b0 m) := by
  obtain ⟨g, CF, CN, fd, ok, F, hm, hb, Sg, hN0, hva, hG⟩ := I.ex
  obtain ⟨oc, od, dV, kV, doc, pm, an, cdv, ct, osl, rfl, lk, hcg, _, _⟩ := F.ex
  exact ve_lamcall ok lk hcg hb Sg (hG X cdv _ rfl rfl) hm F.kp HT.tb hcode (by rw [hq]; exact HT.mem) (by rw [hq]; exact HT.un) hr hbody L hdef hbind hg hN0 hva hdb hd hcd
end
theorem takesL {X : Cx} {A : Around} {outer : List Env} {s : Shared} {H : Hp} {E : XK} {scope : Scope} {f c' : Addr} : Takes (LamX.lamCx X A outer s H E scope f c') (fun cls d _ H' => E cls d H') := takes_of rfl rfl rfl rfl
end VL

set_option maxHeartbeats 2000000
/-! VLTop3: errors' classes by decidable facts; the law at its end. -/
namespace VL
open PySem PySem.Spec PyProof.Rows L2 LamX
def excCB (K : PySem.W.Frag) (D : Addr) : Bool :=
  He.eqO (PySem.W.findIn K (.ref D) "__getattribute__") (some (some (.builtin "BaseException.__getattribute__"))) && (He.eqO (PySem.W.findIn K (.ref D) "__getattr__") (some none) && (decide (PySem.W.subIn K (.ref D) (.type "BaseException") = some true) && (PySem.W.hasDictIn K D && (He.eqO (PySem.W.findIn K (.ref D) "__class__") (some (some (.builtin "object.__class__"))) && (He.eqO (PySem.W.specialIn K (.builtin "object.__class__") "__get__") (some (some (.builtin "getset_descriptor.__get__"))) && (decide (PySem.W.takesIn K (.builtin "object.__class__") = some true) && decide (PySem.W.mroIn K D (.type "object") = some true)))))))
theorem excCB_ok {K : PySem.W.Frag} {D : Addr} (h : excCB K D = true) : ExcC K D := by
  obtain ⟨h1, h⟩ := He.ba h
  obtain ⟨h2, h⟩ := He.ba h
  obtain ⟨h3, h⟩ := He.ba h
  obtain ⟨h4, h⟩ := He.ba h
  obtain ⟨h5, h⟩ := He.ba h
  obtain ⟨h6, h⟩ := He.ba h
  obtain ⟨h7, h8⟩ := He.ba h
  exact ⟨He.eqO_ok h1, He.eqO_ok h2, of_decide_eq_true h3, h4, He.eqO_ok h5, He.eqO_ok h6, of_decide_eq_true h7, of_decide_eq_true h8⟩
/-- the errors of the table by the class of the clause, the class of isinstance -/
def isnB (ef en : Str) (tb : List (Str × Bool)) (K : PySem.W.Frag) : Bool :=
  tb.all fun e => excCB K (He.ga K e.1) && (decide (PySem.W.exmOne K (.ref (He.ga K e.1)) (.ref (He.ga K ef)) = some true) && decide (PySem.W.kitOne K (.ref (He.ga K e.1)) (.ref (He.ga K en)) = some e.2))
theorem eok_of {K : PySem.W.Frag} {mg : Str → Option Value} {ef en : Str} {tb : List (Str × Bool)} (h : isnB ef en tb K = true) (hm : ∀ e ∈ tb, mg e.1 = some (.ref (He.ga K e.1))) : EOk K mg (He.ga K ef) (He.ga K en) (tb.map fun e => (e.1, He.ga K e.1, e.2)) := by
  refine ⟨fun e he => ?_⟩
  obtain ⟨q, hq, rfl⟩ := List.mem_map.mp he
  obtain ⟨h1, h2⟩ := He.ba (List.all_eq_true.mp h q hq)
  obtain ⟨h3, h4⟩ := He.ba h2
  exact ⟨hm q hq, excCB_ok h1, of_decide_eq_true h3, of_decide_eq_true h4⟩
/-- constants of the top that are tuples of ints -/
def tupIB (x : Str) (is : List Int) (K : PySem.W.Frag) : Bool := He.tupB K x (is.map He.Dv.int)
section
variable {fa : List He.Fa} {fn : List He.DefD} {tf : List Str} {ex : PySem.W.Frag → Bool} {K : PySem.W.Frag} {mg : Str → Option Value} {base : Heap} {T : List (Addr × Str)}
theorem Bx.lam (b : Bx tf K mg base T) (t : Tx fa fn tf ex K mg) {x : Str} (hx : x ∈ tf) : LamTab K mg base T x := ⟨b.b x hx, (b.tab t hx).1, (b.tab t hx).2⟩
theorem reps_ints {F : Hp} {as : List Addr} : ∀ is : List Int, Reps K F as (is.map fun i => V.int i) (is.map D.int)
  | [] => .nil
  | i :: r => .cons (.int i) (reps_ints r)
theorem Tx.tupI (t : Tx fa fn tf ex K mg) {x : Str} {is : List Int} (h : tupIB x is K = true) (i : Nat) (hi : fa[i]? = some (He.Fa.glo x) := by rfl) : ConstG K mg x (.tup (is.map D.int)) :=
  ⟨⟨_, .ref (He.ga K x), t.glo i hi, rfl, fun F as => .tup (by
    have := He.tupB_ok h F
    have e : (is.map He.Dv.int).map (He.Dv.v K) = is.map fun i => V.int i := by rw [List.map_map]; rfl
    rw [e] at this
    exact this) (reps_ints is)⟩⟩
theorem Tx.intC (t : Tx fa fn tf ex K mg) {x : Str} {i : Int} (k : Nat) (h : fa[k]? = some (.int x i) := by rfl) : ConstG K mg x (.int i) :=
  let ⟨_, a, b⟩ := t.h; let ⟨tk, e⟩ := He.int_ok a b (t.c.fact k h); ⟨⟨_, .int i, e, ⟨tk, rfl⟩, fun F as => .int i⟩⟩
theorem Tx.strC (t : Tx fa fn tf ex K mg) {x z : Str} (k : Nat) (h : fa[k]? = some (.str x z) := by rfl) : ConstG K mg x (.str z) :=
  let ⟨_, a, b⟩ := t.h; let ⟨tk, e⟩ := He.str_ok a b (t.c.fact k h); ⟨⟨_, .str z, e, ⟨tk, rfl⟩, fun F as => .str z⟩⟩
end
end VL

set_option maxHeartbeats 2000000
/-! VLKey: what a set asks of a key that is a tuple of tuples of ints. -/
namespace VL
open PySem PySem.Spec PyProof.Rows L2
mutual
/-- nothing but ints and tuples -/
def numK : NestedKey → Bool
  | .num _ => true
  | .tup ks => numKs ks
  | _ => false
def numKs : List NestedKey → Bool
  | [] => true
  | k :: ks => numK k && numKs ks
end
/-- m at s answers b, whatever is asked -/
def Says (P : Program) (w : World) (s : Shared) (m : Sem Bool) (b : Bool) : Prop := ∀ (A : Around) (E : Value → Shared → Prop) (Q : Bool → Shared → Prop), Q b s → wpAny (model P w) A m Q E s
section
variable {P : Program} {w : World}
theorem stm_tup {s : Shared} {a : Addr} {o : Obj} {vs : Array Value} {m n : Nat} (ho : s.heap.get? a = some o) (hc : o.cls = .type "tuple") (hd : o.data = .seq vs m) (hall : ∀ v ∈ vs.toList, Says P w s (ofAClassStatement n v) false) : Says P w s (ofAClassStatement (n + 1) (.ref a)) false := fun A E Q h => by
  have hT : s.TypeIs (.ref a) "tuple" := ⟨o, ho, hc⟩
  unfold ofAClassStatement
  refine wpAny_bind (wpAny_typeOf hT ?_)
  dsimp only
  rw [if_pos (show (("tuple" : String) == "tuple") = true by decide)]
  refine wpAny_bind (wpAny_pure ?_)
  rw [if_neg (by decide)]
  try refine wpAny_bind (wpAny_pure ?_)
  refine wpAny_bind (wpAny_seqItems ho hd ?_)
  dsimp only
  refine wpAny_bind ?_
  show wpAny _ _ (forIn vs _ _) _ _ s
  rw [← Array.forIn_toList]
  refine wpAny_forIn_list _ (fun rest r s' => r.1 = none ∧ s' = s ∧ ∀ v ∈ rest, Says P w s (ofAClassStatement n v) false) _ ?_ ?_ _ _ ⟨rfl, rfl, hall⟩
  · rintro v rest r s' ⟨hr, rfl, ha⟩
    refine wpAny_bind (ha v List.mem_cons_self _ _ _ ?_)
    simp only [Bool.false_eq_true, if_false]
    exact wpAny_pure ⟨rfl, rfl, fun u hu => ha u (List.mem_cons_of_mem _ hu)⟩
  · rintro ⟨r1, r2⟩ s' ⟨hr, rfl, _⟩
    simp only at hr
    subst hr
    exact wpAny_pure h
theorem hbv_tup {s : Shared} {a : Addr} {o : Obj} {vs : Array Value} {m n : Nat} (ho : s.heap.get? a = some o) (hc : o.cls = .type "tuple") (hd : o.data = .seq vs m) (hall : ∀ v ∈ vs.toList, Says P w s (hashByValue n v) true) : Says P w s (hashByValue (n + 1) (.ref a)) true := fun A E Q h => by
  have hT : s.TypeIs (.ref a) "tuple" := ⟨o, ho, hc⟩
  unfold hashByValue
  refine wpAny_bind (wpAny_specialOf hT PySem.F.slot_tuple_hash.lookup ?_)
  show wpAny _ _ (seqItems? (.ref a) >>= _) _ _ s
  refine wpAny_bind (wpAny_seqItems ho hd ?_)
  refine wpAny_bind ?_
  show wpAny _ _ (forIn vs _ _) _ _ s
  rw [← Array.forIn_toList]
  refine wpAny_forIn_list _ (fun rest r s' => r.1 = none ∧ s' = s ∧ ∀ v ∈ rest, Says P w s (hashByValue n v) true) _ ?_ ?_ _ _ ⟨rfl, rfl, hall⟩
  · rintro v rest r s' ⟨hr, rfl, ha⟩
    refine wpAny_bind (ha v List.mem_cons_self _ _ _ ?_)
    simp only [Bool.not_true, Bool.false_eq_true, if_false]
    exact wpAny_pure ⟨rfl, rfl, fun u hu => ha u (List.mem_cons_of_mem _ hu)⟩
  · rintro ⟨r1, r2⟩ s' ⟨hr, rfl, _⟩
    simp only at hr
    subst hr
    exact wpAny_pure h
theorem says_pure {s : Shared} {b : Bool} {m : Sem Bool} (h : m = pure b) : Says P w s m b := fun A E Q q => by
  rw [h]
  exact wpAny_pure q
mutual
theorem stm_key : ∀ (k : NestedKey) (v : Value) (n : Nat) (s : Shared), NestedIs s.heap k v → k.depth ≤ n → Says P w s (ofAClassStatement n v) false
  | .none, _, n, s, x, _ => by cases x; cases n <;> exact says_pure rfl
  | .num i, _, n, s, x, _ => by cases x <;> cases n <;> exact says_pure rfl
  | .text y, _, n, s, x, _ => by cases x; cases n <;> exact says_pure rfl
  | .tup ks, _, n, s, x, hn => by
    cases x with
    | tup hg hc hd hk =>
      simp only [NestedKey.depth] at hn
      cases n with
      | zero => omega
      | succ n => exact stm_tup hg hc hd (stm_keys ks _ n s hk (by omega))
theorem stm_keys : ∀ (ks : List NestedKey) (vs : List Value) (n : Nat) (s : Shared), NestedAll s.heap ks vs → NestedKey.depthAll ks ≤ n → ∀ v ∈ vs, Says P w s (ofAClassStatement n v) false
  | [], _, n, s, x, _ => by cases x; intro v hv; cases hv
  | k :: ks, _, n, s, x, hn => by
    cases x with
    | cons h hs =>
      simp only [NestedKey.depthAll] at hn
      intro v hv
      rcases List.mem_cons.mp hv with rfl | hv
      · exact stm_key k _ n s h (by omega)
      · exact stm_keys ks _ n s hs (by omega) v hv
end
mutual
theorem hbv_key : ∀ (k : NestedKey) (v : Value) (n : Nat) (s : Shared), NestedIs s.heap k v → k.depth ≤ n → numK k = true → Says P w s (hashByValue n v) true
  | .none, _, n, s, x, _, h => by simp [numK] at h
  | .num i, _, n, s, x, _, _ => by cases x <;> cases n <;> exact says_pure rfl
  | .text y, _, n, s, x, _, h => by simp [numK] at h
  | .tup ks, _, n, s, x, hn, h => by
    cases x with
    | tup hg hc hd hk =>
      simp only [NestedKey.depth] at hn
      cases n with
      | zero => omega
      | succ n => exact hbv_tup hg hc hd (hbv_keys ks _ n s hk (by omega) (by simpa [numK] using h))
theorem hbv_keys : ∀ (ks : List NestedKey) (vs : List Value) (n : Nat) (s : Shared), NestedAll s.heap ks vs → NestedKey.depthAll ks ≤ n → numKs ks = true → ∀ v ∈ vs, Says P w s (hashByValue n v) true
  | [], _, n, s, x, _, _ => by cases x; intro v hv; cases hv
  | k :: ks, _, n, s, x, hn, h => by
    cases x with
    | cons h1 hs =>
      simp only [NestedKey.depthAll] at hn
      simp only [numKs, Bool.and_eq_true] at h
      intro v hv
      rcases List.mem_cons.mp hv with rfl | hv
      · exact hbv_key k _ n s h1 (by omega) h.1
      · exact hbv_keys ks _ n s hs (by omega) h.2 v hv
end
end
end VL

set_option maxHeartbeats 2000000
/-! VLSet: sets whose elements are tuples of tuples of ints: the search and the adding. -/
namespace VL
open PySem PySem.Spec PyProof.Rows L2
/-- at b stands the tuple k -/
structure KeyAt (h : Heap) (k : NestedKey) (b : Addr) : Prop where
  is : NestedIs h k (.ref b)
  low : k.depth ≤ 8
  num : numK k = true
section
variable {P : Program} {w : World} {A : Around} {E : Value → Shared → Prop} {s : Shared}
theorem KeyAt.eqb {x y : NestedKey} {a b : Addr} {Q : Bool → Shared → Prop} (hx : KeyAt s.heap x a) (hy : KeyAt s.heap y b) (hu : A.units + 8 < cLine) (h : Q (decide (x = y)) s) : wpAny (model P w) A (eqBool (.ref a) (.ref b)) Q E s :=
  (nestedKind P w).eqBool hu ⟨hx.is, hx.low⟩ ⟨hy.is, hy.low⟩ h
theorem KeyAt.quiet {x : NestedKey} {a : Addr} {Q : Bool → Shared → Prop} (hx : KeyAt s.heap x a) (h : Q true s) : wpAny (model P w) A (eqIsQuiet 8 (.ref a)) Q E s :=
  (nestedKind P w).quiet ⟨hx.is, hx.low⟩ h
theorem KeyAt.stm {x : NestedKey} {a : Addr} {Q : Bool → Shared → Prop} (hx : KeyAt s.heap x a) (h : Q false s) : wpAny (model P w) A (ofAClassStatement 8 (.ref a)) Q E s :=
  stm_key x _ 8 s hx.is hx.low A E Q h
theorem KeyAt.hbv {x : NestedKey} {a : Addr} {Q : Bool → Shared → Prop} (hx : KeyAt s.heap x a) (h : Q true s) : wpAny (model P w) A (hashByValue 8 (.ref a)) Q E s :=
  hbv_key x _ 8 s hx.is hx.low hx.num A E Q h
theorem KeyAt.at {h h' : Heap} {k : NestedKey} {b : Addr} (x : KeyAt h k b) (hk : ∀ a o vs n, h.get? a = some o → o.data = .seq vs n → h'.get? a = some o) : KeyAt h' k b := ⟨NestedIs.at hk k _ x.is, x.low, x.num⟩
/-- what changes a set alone lets the keys stand -/
theorem KeyAt.other {h h' : Heap} {k : NestedKey} {a b : Addr} {o : Obj} {es : Array (Int × Value)} {ep : Nat} {t : SetTable} (x : KeyAt h k b) (ho : h.get? a = some o) (hd : o.data = .set es ep t) (hs : Heap.SameBut a h h') : KeyAt h' k b :=
  x.at fun c oc vs n hc hcd => (hs.2 c (by rintro rfl; rw [ho] at hc; cases hc; rw [hd] at hcd; cases hcd)).trans hc
/-- the search among such keys is not seen -/
theorem unseen {k : NestedKey} {b : Addr} (hk : KeyAt s.heap k b) : ∀ ys : List Value, (∀ y ∈ ys, ∃ k' c, y = Value.ref c ∧ KeyAt s.heap k' c) → Says P w s (searchCouldBeSeen (.ref b) ys) false := fun ys hy A E Q h => by
  unfold searchCouldBeSeen
  refine wpAny_bind (wpAny_forIn_list _ (fun rest r s' => r.1 = none ∧ s' = s ∧ ∀ y ∈ rest, ∃ k' c, y = Value.ref c ∧ KeyAt s.heap k' c) _ ?_ ?_ _ _ ⟨rfl, rfl, hy⟩)
  · rintro v rest r s' ⟨hr, rfl, hall⟩
    have tl : ∀ y ∈ rest, ∃ k' c, y = Value.ref c ∧ KeyAt s'.heap k' c := fun u hu' => hall u (List.mem_cons_of_mem _ hu')
    obtain ⟨k', c, rfl, hc⟩ := hall v List.mem_cons_self
    dsimp only
    by_cases hv : (b == c || (carriedByValue (.ref b) && carriedByValue (.ref c))) = true
    · exact wp_if_pos hv (wpAny_pure ⟨rfl, rfl, tl⟩)
    · refine wp_if_neg hv (wpAny_bind (hk.quiet ?_))
      simp only [Bool.not_true, Bool.false_eq_true, if_false]
      refine wpAny_bind (hc.quiet ?_)
      simp only [Bool.not_true, Bool.false_eq_true, if_false]
      refine wpAny_bind (hk.stm ?_)
      simp only [Bool.false_eq_true, if_false]
      refine wpAny_bind (hc.stm ?_)
      simp only [Bool.false_eq_true, if_false]
      exact wpAny_pure ⟨rfl, rfl, tl⟩
  · rintro ⟨r1, r2⟩ s' ⟨hr, rfl, _⟩
    cases hr
    exact wpAny_pure h
end
/-- a row of the table -/
def rowK (w : World) (p : Addr × NestedKey) : Int × Value := (p.2.hash w, Value.ref p.1)
/-- at a stands the set of the keys L, its table in order -/
structure KSet (w : World) (h : Heap) (a : Addr) (L : List (Addr × NestedKey)) (es : Array (Int × Value)) (ep : Nat) (t : SetTable) : Prop where
  here : ∃ o, h.get? a = some o ∧ o.ExactSet ∧ o.data = .set es ep t
  rows : es.toList = L.map (rowK w)
  tab : TabOk t (L.map fun p => p.2.hash w)
  once : (L.map (·.2)).Nodup
  keys : ∀ p ∈ L, KeyAt h p.2 p.1
  plain : t.plain = true
  led : w.params.followText "set-order" = true ∨ t.led = true
  room : L.length * 5 < t.mask * 3
  few : L.length < 64
section
variable {P : Program} {w : World} {A : Around} {E : Value → Shared → Prop} {s : Shared} {a : Addr} {L : List (Addr × NestedKey)} {es : Array (Int × Value)} {ep : Nat} {t : SetTable}
theorem KSet.size {h : Heap} (R : KSet w h a L es ep t) : es.size = L.length := by
  rw [← Array.length_toList, R.rows, List.length_map]
theorem KSet.psize {h : Heap} (R : KSet w h a L es ep t) : t.place.size = L.length := by
  rw [R.tab.sz, List.length_map]
theorem KSet.fits {h : Heap} (R : KSet w h a L es ep t) : t.fits es.size = true := by
  have h1 := R.psize
  have h2 := R.size
  have h3 := R.room
  simp only [SetTable.fits, SetTable.fill, R.tab.dm, Bool.and_eq_true, beq_iff_eq, decide_eq_true_eq, h1, h2]
  refine ⟨trivial, ?_⟩
  show L.length + 0 ≤ t.mask
  omega
theorem KSet.entry {h : Heap} (R : KSet w h a L es ep t) {i : Nat} {p : Addr × NestedKey} (hp : L[i]? = some p) : es[i]? = some (rowK w p) := by
  rw [← Array.getElem?_toList, R.rows, List.getElem?_map, hp]; rfl
theorem KSet.gw {h : Heap} (R : KSet w h a L es ep t) : ¬ t.gaveWay = true := by
  unfold SetTable.gaveWay
  rw [mask_odd R.tab.mok]
  decide
theorem nodummy (m : Nat) : ∀ (n : Nat) (p : SetTable.Probe), p.dummy = none → (nth m p n).dummy = none
  | 0, _, h => h
  | n + 1, p, h => nodummy m n (adv m p) (by unfold adv; split <;> exact h)
/-- from the c-th step on: x's way to its place K, when no step before c held the key -/
theorem kseek (R : KSet w s.heap a L es ep t) {x : Addr} {k : NestedKey} (hx : KeyAt s.heap k x) (hu : A.units + 8 < cLine) {K : Nat} (hKf : K < 10 * SetTable.turns t.mask)
    (hK : way t.mask (k.hash w) K ∉ t.place.toList) (hKb : ∀ c, c < K → way t.mask (k.hash w) c ∈ t.place.toList) {Q : SetFound → Shared → Prop}
    (hin : k ∈ L.map (·.2) → Q (.there none) s) (hout : k ∉ L.map (·.2) → Q (.free (way t.mask (k.hash w) K) false) s) :
    ∀ (f c : Nat) (stand : Option SetTable.Probe), stand.getD (t.probeStart (k.hash w)) = nth t.mask (runAt t.mask (SetTable.bits (k.hash w) % (t.mask + 1)) (SetTable.bits (k.hash w))) c → c ≤ K → K - c < f →
      (∀ (i : Nat) p, L[i]? = some p → p.2 = k → ∃ c', c ≤ c' ∧ c' < K ∧ t.place.toList[i]? = some (way t.mask (k.hash w) c')) →
      wpAny (model P w) A (setSearchFrom a (.ref x) (k.hash w) true f stand) Q E s
  | 0, c, stand, _, _, hf, _ => absurd hf (Nat.not_lt_zero _)
  | f + 1, c, stand, hst, hc, hf, hre => by
    obtain ⟨o, ho, hex, hd⟩ := R.here
    have hw : ∀ q, (nth t.mask (nth t.mask (runAt t.mask (SetTable.bits (k.hash w) % (t.mask + 1)) (SetTable.bits (k.hash w))) c) q).j = way t.mask (k.hash w) (c + q) := fun q => congrArg SetTable.Probe.j (nth_add t.mask c _ q).symm
    have hnx : ∀ q, nth t.mask (nth t.mask (runAt t.mask (SetTable.bits (k.hash w) % (t.mask + 1)) (SetTable.bits (k.hash w))) c) q = nth t.mask (runAt t.mask (SetTable.bits (k.hash w) % (t.mask + 1)) (SetTable.bits (k.hash w))) (c + q) := fun q => (nth_add t.mask c _ q).symm
    have hca : ∀ z, c + (z - c) = z ∨ z < c := fun z => by omega
    have spec := go_spec t R.tab.ris R.tab.dm (fun i => (es[i]?.map (·.1)).getD 0) (k.hash w) (10 * SetTable.turns t.mask) (K - c) _ (nodummy _ c _ rfl) (by omega)
      (fun q hq => by rw [hw]; exact hKb (c + q) (by omega)) (by rw [hw, show c + (K - c) = K by omega]; exact hK)
    have hat : ∀ (i : Nat) p, L[i]? = some p → p.2 = k → (fun i => (es[i]?.map (·.1)).getD 0) i = k.hash w := fun i p hp e => by
      show (es[i]?.map (·.1)).getD 0 = _
      rw [R.entry hp, ← e]; rfl
    rw [setSearchFrom_succ]
    refine wpAny_bind (wpAny_setState_of ho hd R.fits ?_)
    dsimp only
    refine wp_if_neg R.gw ?_
    try refine wpAny_bind (wpAny_pure ?_)
    rcases spec with ⟨q, i, hq, hi, hh, hno, hpr⟩ | ⟨hno, hpr⟩
    · rw [hw] at hi
      have hil : i < L.length := by
        have h1 : i < t.place.toList.length := (List.getElem?_eq_some_iff.mp hi).1
        rw [Array.length_toList, R.psize] at h1
        exact h1
      obtain ⟨p, hp⟩ : ∃ p, L[i]? = some p := ⟨_, List.getElem?_eq_getElem hil⟩
      have hm : p ∈ L := List.mem_of_getElem? hp
      have hpk := R.keys p hm
      rw [hst, show t.probe (fun i => (es[i]?.map (·.1)).getD 0) (k.hash w) (nth t.mask (runAt t.mask (SetTable.bits (k.hash w) % (t.mask + 1)) (SetTable.bits (k.hash w))) c) = _ from hpr]
      dsimp only
      rw [hw, hnx]
      have go : wpAny (model P w) A (searchRest a (.ref x) (k.hash w) true f es t (way t.mask (k.hash w) (c + q)) i (nth t.mask (runAt t.mask (SetTable.bits (k.hash w) % (t.mask + 1)) (SetTable.bits (k.hash w))) (c + (q + 1)))) Q E s := by
        unfold searchRest
        rw [R.entry hp]
        dsimp only [rowK]
        refine wpAny_bind (wpAny_holding (hpk.eqb hx hu ?_))
        refine wpAny_bind (wpAny_setState_of ho hd R.fits ?_)
        dsimp only
        by_cases hkk : p.2 = k
        · exact wp_if_pos (by simp [hkk]) (wpAny_pure (hin (List.mem_map.mpr ⟨p, hm, hkk⟩)))
        · refine wp_if_neg (by simp [hkk]) ?_
          try refine wpAny_bind (wpAny_pure ?_)
          rw [sameMem]
          dsimp only
          have hsl : t.slot (way t.mask (k.hash w) (c + q)) = .live i := slot_live R.tab.ris hi
          simp only [if_true, hsl, R.entry hp, rowK]
          refine wpAny_bind (wpAny_isSame_ref_self (wpAny_bind (wpAny_pure ?_)))
          simp only [if_true]
          refine wp_if_neg (by simp [hkk]) ?_
          refine kseek R hx hu hKf hK hKb hin hout f (c + (q + 1)) _ rfl (by omega) (by omega) fun i0 p0 h0 hk0 => ?_
          obtain ⟨c', a1, a2, a3⟩ := hre i0 p0 h0 hk0
          refine ⟨c', ?_, a2, a3⟩
          rcases Nat.lt_trichotomy c' (c + q) with z | z | z
          · exact absurd (hat i0 p0 h0 hk0) (hno (c' - c) i0 (by omega) (by rw [hw, show c + (c' - c) = c' by omega]; exact a3))
          · subst z
            have s0 := slot_live R.tab.ris a3
            rw [hsl] at s0
            injection s0 with s0
            rw [← s0, hp] at h0
            exact absurd ((congrArg Prod.snd (Option.some.inj h0)).trans hk0) hkk
          · omega
      by_cases hl : t.led = true
      · refine wp_if_neg (by simp [hl]) ?_
        try refine wpAny_bind (wpAny_pure ?_)
        exact go
      · refine wp_if_pos (by simp [hl]) ?_
        refine wpAny_bind (unseen hx _ (fun y hy => ?_) _ _ _ ?_)
        · obtain ⟨e, he, rfl⟩ := List.mem_map.mp hy
          have he1 : e ∈ es ∧ e.1 = k.hash w := by simpa using he
          have he2 : e ∈ es.toList := by simpa using he1.1
          rw [R.rows] at he2
          obtain ⟨p2, hp2, rfl⟩ := List.mem_map.mp he2
          exact ⟨p2.2, p2.1, rfl, R.keys p2 hp2⟩
        · refine wp_if_neg (by decide) ?_
          try refine wpAny_bind (wpAny_pure ?_)
          exact go
    · rw [hst, show t.probe (fun i => (es[i]?.map (·.1)).getD 0) (k.hash w) (nth t.mask (runAt t.mask (SetTable.bits (k.hash w) % (t.mask + 1)) (SetTable.bits (k.hash w))) c) = _ from hpr]
      dsimp only
      rw [hw, show c + (K - c) = K by omega]
      refine wpAny_pure (hout fun hm => ?_)
      obtain ⟨p0, h0, hk0⟩ := List.mem_map.mp hm
      obtain ⟨i0, h00⟩ := List.mem_iff_getElem?.mp h0
      obtain ⟨c', a1, a2, a3⟩ := hre i0 p0 h00 hk0
      exact absurd (hat i0 p0 h00 hk0) (hno (c' - c) i0 (by omega) (by rw [hw, show c + (c' - c) = c' by omega]; exact a3))
/-- the search that goes before adding -/
theorem kfind (R : KSet w s.heap a L es ep t) {x : Addr} {k : NestedKey} (hx : KeyAt s.heap k x) (hu : A.units + 8 < cLine) {Q : SetFound → Shared → Prop}
    (hin : k ∈ L.map (·.2) → Q (.there none) s)
    (hout : ∀ K, k ∉ L.map (·.2) → way t.mask (k.hash w) K ∉ t.place.toList → (∀ c, c < K → way t.mask (k.hash w) c ∈ t.place.toList) → Q (.free (way t.mask (k.hash w) K) false) s) :
    wpAny (model P w) A (setSearch a (.ref x) (k.hash w) true) Q E s := by
  have hroom := R.room
  obtain ⟨K, hKf, hK, hKb⟩ := R.tab.first (by rw [List.length_map]; omega) (k.hash w)
  have big : K < 100000 := by
    have h1 : SetTable.turns t.mask ≤ 142 := by
      unfold SetTable.turns
      rcases R.tab.mok with e | e | e <;> omega
    omega
  unfold setSearch
  refine kseek R hx hu hKf hK hKb hin (fun hn => hout K hn hK hKb) 100000 0 none rfl (Nat.zero_le _) (by omega) fun i p hp hk => ?_
  have hi : (L.map fun p => p.2.hash w)[i]? = some (k.hash w) := by rw [List.getElem?_map, hp, ← hk]; rfl
  have hil : i < t.place.toList.length := by
    rw [Array.length_toList, R.psize]
    exact (List.getElem?_eq_some_iff.mp hp).1
  have hj := List.getElem?_eq_getElem hil
  obtain ⟨c, hc, e⟩ := R.tab.before hK hi hj
  exact ⟨c, Nat.zero_le _, hc, by rw [hj, e]⟩
end
end VL

set_option maxHeartbeats 2000000
/-! VLSet2: adding a tuple of tuples of ints to a set. -/
namespace VL
open PySem PySem.Spec PyProof.Rows L2
section
variable {P : Program} {w : World} {A : Around} {E : Value → Shared → Prop} {s : Shared} {a : Addr} {L : List (Addr × NestedKey)} {es : Array (Int × Value)} {ep : Nat} {t : SetTable}
theorem pick_map {α β : Type} (f : α → β) (l : List α) : ∀ o : List Nat, o.filterMap (fun i => (l.map f)[i]?) = (o.filterMap fun i => l[i]?).map f
  | [] => rfl
  | i :: o => by
    have ih := pick_map f l o
    cases h : l[i]? with
    | none => rw [List.filterMap_cons_none (by rw [List.getElem?_map, h]; rfl), List.filterMap_cons_none h, ih]
    | some x => rw [List.filterMap_cons_some (by rw [List.getElem?_map, h]; rfl), List.filterMap_cons_some h, ih, List.map_cons]
theorem pick_all {α : Type} (l : List α) : (List.range l.length).filterMap (fun i => l[i]?) = l := by
  have key : ∀ n, n ≤ l.length → (List.range n).filterMap (fun i => l[i]?) = l.take n := by
    intro n
    induction n with
    | zero => intro _; rfl
    | succ n ih =>
      intro hn
      rw [List.range_succ, List.filterMap_append, ih (by omega), List.take_succ, List.getElem?_eq_getElem (show n < l.length by omega), List.filterMap_cons_some (List.getElem?_eq_getElem (show n < l.length by omega))]
      rfl
  rw [key _ (Nat.le_refl _), List.take_length]
theorem pick_in {α : Type} (l : List α) (d : α) : ∀ o : List Nat, (∀ i ∈ o, i < l.length) → (o.filterMap fun i => l[i]?) = o.map fun i => l.getD i d
  | [], _ => rfl
  | i :: o, h => by
    have hi := h i List.mem_cons_self
    rw [List.filterMap_cons_some (List.getElem?_eq_getElem hi), pick_in l d o (fun j hj => h j (List.mem_cons_of_mem _ hj)), List.map_cons]
    simp [List.getD, List.getElem?_eq_getElem hi]
/-- the table laid anew -/
theorem klay {o : Obj} (ho : s.heap.get? a = some o) (hex : o.ExactSet) (hd : o.data = .set es ep t) (hrows : es.toList = L.map (rowK w)) (hsz : t.place.size = es.size) (hdm : t.dummies = #[]) (hfl : es.size ≤ t.mask)
    (nd : (L.map (·.2)).Nodup) (ks : ∀ p ∈ L, KeyAt s.heap p.2 p.1) (pl : t.plain = true) (ld : w.params.followText "set-order" = true ∨ t.led = true) (few : L.length < 64) {wanted M : Nat}
    (hw : SetTable.sizeAbove wanted - 1 = M) (hM : MaskOk M) (hw2 : SetTable.sizeAbove wanted ≤ 128) (hn : L.length * 5 < M * 3) {Q : Unit → Shared → Prop}
    (hQ : ∀ h' L' es' ep' t', Heap.SameBut a s.heap h' → KSet w h' a L' es' ep' t' → L'.Perm L → Q () { s with heap := h' }) : wpAny (model P w) A (setRelay a wanted) Q E s := by
  have hsl : es.size = L.length := by rw [← Array.length_toList, hrows, List.length_map]
  have hfits : t.fits es.size = true := by
    simp only [SetTable.fits, SetTable.fill, hdm, Bool.and_eq_true, beq_iff_eq, decide_eq_true_eq, hsz]
    exact ⟨trivial, hfl⟩
  obtain ⟨t', order, e, hp, T, em, el, ep', ed⟩ := relaid_ok t (hs := es.map (·.1)) (wanted := wanted) hw hM (by rw [Array.size_map, hsl]; omega)
  rw [Array.size_map, hsl] at hp
  have hin : ∀ i ∈ order.toList, i < L.length := fun i hi => List.mem_range.mp (hp.mem_iff.mp hi)
  have hes : es = (L.map (rowK w)).toArray := by rw [← hrows]
  have r1 : (order.filterMap (es[·]?)).toList = (order.toList.filterMap fun i => L[i]?).map (rowK w) := by
    have e1 : (order.filterMap (es[·]?)).toList = order.toList.filterMap fun i => es[i]? := by simp
    have e2 : (fun i : Nat => es[i]?) = fun i => (L.map (rowK w))[i]? := by
      funext i
      rw [← Array.getElem?_toList, hrows]
    rw [e1, e2, pick_map]
  have r2 : (order.toList.filterMap fun i => L[i]?).Perm L := by
    have h := hp.filterMap fun i => L[i]?
    rw [pick_all] at h
    exact h
  have r3 : (order.toList.filterMap fun i => L[i]?).map (fun p => p.2.hash w) = order.toList.map fun i => (es.map (·.1)).getD i 0 := by
    rw [← pick_map (fun p : Addr × NestedKey => p.2.hash w), pick_in _ 0 _ (by rw [List.length_map]; exact hin)]
    refine List.map_congr_left fun i hi => ?_
    have h1 := hin i hi
    rw [hes]
    simp [Array.getD_eq_getD_getElem?, List.getD, rowK, List.getElem?_eq_getElem h1]
  generalize (order.toList.filterMap fun i => L[i]?) = L2 at r1 r2 r3
  rw [← r3] at T
  have hs2 : (order.filterMap (es[·]?)).size = es.size := by
    rw [← Array.length_toList, r1, List.length_map, r2.length_eq, hsl]
  rw [setRelay_eq]
  refine wpAny_bind (wpAny_setState_of ho hd hfits ?_)
  dsimp only
  refine wp_if_neg (by rw [sizeLine_eq]; omega) ?_
  try refine wpAny_bind (wpAny_pure ?_)
  rw [e]
  dsimp only
  refine wpAny_bind (wp_if_neg (by rw [hs2]; simp) ?_)
  try refine wpAny_bind (wpAny_pure ?_)
  refine wpAny_pure ?_
  dsimp only
  refine wpAny_storeSet_of ho hd ?_ (by rw [hs2, hsl, sizeLine_eq]; omega)
  have sb : Heap.SameBut a s.heap (s.heap.update a (Obj.putSet (order.filterMap (es[·]?)) t')) := Heap.SameBut.update ..
  refine hQ _ L2 (order.filterMap (es[·]?)) (ep + 1) t' sb ⟨⟨_, store_at ho hd, ⟨hex.1, hex.2.1, hex.2.2⟩, rfl⟩, r1, T, (r2.map (·.2)).nodup_iff.mpr nd, fun p hpm => (ks p (r2.mem_iff.mp hpm)).other ho hd sb, by rw [ep']; exact pl, by rw [el]; exact ld, ?_, by rw [r2.length_eq]; exact few⟩ r2
  rw [r2.length_eq, em]
  exact hn
/-- adding the key at x to the set at a -/
theorem kadd (R : KSet w s.heap a L es ep t) {x : Addr} {k : NestedKey} (hx : KeyAt s.heap k x) (hu : A.units + 8 < cLine) (hfew : L.length + 1 < 64) {Q : Bool → Shared → Prop}
    (hQ : ∀ b h' L' es' ep' t', Heap.SameBut a s.heap h' → KSet w h' a L' es' ep' t' → (k ∈ L.map (·.2) → L' = L) → (k ∉ L.map (·.2) → L'.Perm ((x, k) :: L)) → Q b { s with heap := h' }) :
    wpAny (model P w) A (setAddHashed a (.ref x) (k.hash w)) Q E s := by
  obtain ⟨o, ho, hex, hd⟩ := R.here
  have hsl := R.size
  have hroom := R.room
  unfold setAddHashed
  refine wpAny_holding ?_
  rw [show (100000 : Nat) = 99999 + 1 from rfl, setAddHashedIn_succ]
  refine wpAny_bind (wpAny_setState_of ho hd R.fits ?_)
  dsimp only
  refine wp_if_neg (by simp [byScan, Value.scannable]) ?_
  try refine wpAny_bind (wpAny_pure ?_)
  refine wpAny_bind (kfind R hx hu (fun hm => ?_) fun K hm hK hb => ?_)
  · dsimp only
    exact wpAny_pure (hQ false s.heap L es ep t (Heap.SameBut.refl a s.heap) R (fun _ => rfl) fun z => absurd hm z)
  · dsimp only
    refine wpAny_bind (wpAny_setState_of ho hd R.fits ?_)
    dsimp only
    obtain ⟨q1, q2, q3, q4, q5, q6, q7, q8, q9⟩ := R.tab.put hK hb
    have hp1 : (t.put (way t.mask (k.hash w) K)).1.plain = true := by rw [q6]; exact R.plain
    generalize hpt : t.put (way t.mask (k.hash w) K) = pt at q1 q3 q4 q5 q6 q7 q8 q9 hp1 ⊢
    obtain ⟨t1, p⟩ := pt
    dsimp only at q1 q3 q4 q5 q6 q7 q8 q9 hp1 ⊢
    subst q1
    first
      | (refine wpAny_bind ?_; refine wp_if_pos hp1 ?_; refine hx.hbv ?_)
      | refine wp_if_pos hp1 (wpAny_bind (hx.hbv ?_))
    simp only [if_true]
    have hin : (SetTable.insertAt es (SetTable.below t.place (way t.mask (k.hash w) K)) (k.hash w, Value.ref x)).toList = (L.take (SetTable.below t.place (way t.mask (k.hash w) K)) ++ (x, k) :: L.drop (SetTable.below t.place (way t.mask (k.hash w) K))).map (rowK w) := by
      rw [SetTable.toList_insertAt, R.rows, List.map_append, List.map_cons, List.map_take, List.map_drop]; rfl
    generalize hpp : SetTable.below t.place (way t.mask (k.hash w) K) = p at q2 q3 hin ⊢
    have pm := put_perm L p (x, k)
    have hlen : (L.take p ++ (x, k) :: L.drop p).length = L.length + 1 := pm.length_eq
    have hhs : (L.take p ++ (x, k) :: L.drop p).map (fun p => p.2.hash w) = (L.map fun p => p.2.hash w).take p ++ k.hash w :: (L.map fun p => p.2.hash w).drop p := by
      rw [List.map_append, List.map_cons, List.map_take, List.map_drop]
    rw [← hhs] at q3
    have nd1 : ((L.take p ++ (x, k) :: L.drop p).map (·.2)).Nodup := by
      refine (pm.map (·.2)).nodup_iff.mpr ?_
      rw [List.map_cons]
      exact List.nodup_cons.mpr ⟨hm, R.once⟩
    have hes : (SetTable.insertAt es p (k.hash w, Value.ref x)).size = L.length + 1 := by
      rw [← Array.length_toList, hin, List.length_map, hlen]
    generalize SetTable.insertAt es p (k.hash w, Value.ref x) = es1 at hin hes ⊢
    generalize L.take p ++ (x, k) :: L.drop p = L1 at pm hlen q3 nd1 hin
    refine wpAny_bind (wpAny_storeSet_of ho hd ?_ (by rw [hes, sizeLine_eq]; omega))
    have sb : Heap.SameBut a s.heap (s.heap.update a (Obj.putSet es1 t1)) := Heap.SameBut.update ..
    have ho1 := store_at (es' := es1) (t' := t1) ho hd
    generalize s.heap.update a (Obj.putSet es1 t1) = h1 at sb ho1 ⊢
    have ks1 : ∀ p ∈ L1, KeyAt h1 p.2 p.1 := fun p hp => by
      rcases List.mem_cons.mp (pm.mem_iff.mp hp) with e | hp
      · rw [e]; exact hx.other ho hd sb
      · exact (R.keys p hp).other ho hd sb
    have ld1 : w.params.followText "set-order" = true ∨ t1.led = true := by rw [q5]; exact R.led
    by_cases hf : t1.tooFull = true
    · first
        | (refine wpAny_bind ?_; refine wp_if_pos (by simp [hf]) ?_)
        | (refine wp_if_pos (by simp [hf]) ?_; refine wpAny_bind ?_)
      have hfull : (L.length + 1) * 5 ≥ t1.mask * 3 := by
        have h := hf
        unfold SetTable.tooFull at h
        rw [decide_eq_true_eq, q9, List.length_map] at h
        exact h
      rw [hsl]
      have hsz1 : t1.place.size = es1.size := by rw [q3.sz, List.length_map, hlen, hes]
      have two : (t.mask = 7 ∧ L.length = 4) ∨ (t.mask = 31 ∧ L.length = 18) := by
        rcases R.tab.mok with e | e | e
        · left; rw [q4, e] at hfull; rw [e] at hroom; exact ⟨e, by omega⟩
        · right; rw [q4, e] at hfull; rw [e] at hroom; exact ⟨e, by omega⟩
        · exfalso; rw [q4, e] at hfull; omega
      have go : ∀ M, SetTable.sizeAbove (SetTable.grown (L.length + 1)) - 1 = M → MaskOk M → SetTable.sizeAbove (SetTable.grown (L.length + 1)) ≤ 128 → (L.length + 1) * 5 < M * 3 →
          wpAny (model P w) A (setRelay a (SetTable.grown (L.length + 1))) (fun _ s' => wpAny (model P w) A (pure true) Q E s') E { s with heap := h1 } := fun M h1' h2' h3' h4' => by
        refine klay (s := { s with heap := h1 }) ho1 ⟨hex.1, hex.2.1, hex.2.2⟩ rfl hin hsz1 q3.dm (by rw [hes, q4]; rcases two with ⟨e, e2⟩ | ⟨e, e2⟩ <;> omega) nd1 ks1 hp1 ld1 (by rw [hlen]; exact hfew) h1' h2' h3' (by rw [hlen]; exact h4') ?_
        intro h2 L2 es2 ep2 t2 sb2 R2 pm2
        exact wpAny_pure (hQ true h2 L2 es2 ep2 t2 (sb.trans sb2) R2 (fun z => absurd z hm) fun _ => pm2.trans pm)
      rcases two with ⟨_, e2⟩ | ⟨_, e2⟩
      · exact go 31 (by rw [e2, size_20]) (.inr (.inl rfl)) (by rw [e2, size_20]; decide) (by omega)
      · exact go 127 (by rw [e2, size_76]) (.inr (.inr rfl)) (by rw [e2, size_76]; decide) (by omega)
    · first
        | refine wp_if_neg (by simp [hf]) ?_
        | (refine wpAny_bind ?_; refine wp_if_neg (by simp [hf]) ?_; refine wpAny_pure ?_)
      refine wpAny_pure (hQ true h1 L1 es1 (ep + 1) t1 sb ⟨⟨_, ho1, ⟨hex.1, hex.2.1, hex.2.2⟩, rfl⟩, hin, q3, nd1, ks1, hp1, ld1, ?_, by rw [hlen]; exact hfew⟩ (fun z => absurd z hm) fun _ => pm)
      have h := hf
      unfold SetTable.tooFull at h
      rw [decide_eq_true_eq, q9, List.length_map] at h
      rw [hlen]
      omega
end
end VL

set_option maxHeartbeats 2000000
/-! VLSet3: the set of nested keys as a tracked thing; set.add of such a key. -/
namespace VL
open PySem PySem.Spec PyProof.Rows L2
mutual
/-- data as a key -/
def keyD : D → NestedKey
  | .int i => .num i
  | .tup ds => .tup (keyDs ds)
  | _ => .none
def keyDs : List D → List NestedKey
  | [] => []
  | d :: ds => keyD d :: keyDs ds
end
mutual
/-- data that can be such a key -/
def kOk : D → Bool
  | .int _ => true
  | .tup ds => kOks ds
  | _ => false
def kOks : List D → Bool
  | [] => true
  | d :: ds => kOk d && kOks ds
end
mutual
theorem num_keyD : ∀ d : D, kOk d = true → numK (keyD d) = true
  | .int _, _ => rfl
  | .tup ds, h => num_keyDs ds (by simpa [kOk] using h)
  | .non, h | .bl _, h | .str _, h | .lst _, h | .emp, h | .cell _, h | .adr _, h | .scr _, h => by simp [kOk] at h
theorem num_keyDs : ∀ ds : List D, kOks ds = true → numKs (keyDs ds) = true
  | [], _ => rfl
  | d :: ds, h => by
    simp only [kOks, Bool.and_eq_true] at h
    simp only [keyDs, numKs, Bool.and_eq_true]
    exact ⟨num_keyD d h.1, num_keyDs ds h.2⟩
end
mutual
theorem keyD_inj : ∀ d e : D, kOk d = true → kOk e = true → keyD d = keyD e → d = e
  | .int i, .int j, _, _, h => by simp only [keyD, NestedKey.num.injEq] at h; rw [h]
  | .tup ds, .tup es, a, b, h => by
    simp only [keyD, NestedKey.tup.injEq] at h
    rw [keyDs_inj ds es (by simpa [kOk] using a) (by simpa [kOk] using b) h]
  | .int _, .tup _, _, _, h => by simp [keyD] at h
  | .tup _, .int _, _, _, h => by simp [keyD] at h
  | .non, _, h, _, _ | .bl _, _, h, _, _ | .str _, _, h, _, _ | .lst _, _, h, _, _ | .emp, _, h, _, _ | .cell _, _, h, _, _ | .adr _, _, h, _, _ | .scr _, _, h, _, _ => by simp [kOk] at h
  | .int _, .non, _, h, _ | .int _, .bl _, _, h, _ | .int _, .str _, _, h, _ | .int _, .lst _, _, h, _ | .int _, .emp, _, h, _ | .int _, .cell _, _, h, _ | .int _, .adr _, _, h, _ | .int _, .scr _, _, h, _ => by simp [kOk] at h
  | .tup _, .non, _, h, _ | .tup _, .bl _, _, h, _ | .tup _, .str _, _, h, _ | .tup _, .lst _, _, h, _ | .tup _, .emp, _, h, _ | .tup _, .cell _, _, h, _ | .tup _, .adr _, _, h, _ | .tup _, .scr _, _, h, _ => by simp [kOk] at h
theorem keyDs_inj : ∀ ds es : List D, kOks ds = true → kOks es = true → keyDs ds = keyDs es → ds = es
  | [], [], _, _, _ => rfl
  | d :: ds, e :: es, a, b, h => by
    simp only [kOks, Bool.and_eq_true] at a b
    simp only [keyDs, List.cons.injEq] at h
    rw [keyD_inj d e a.1 b.1 h.1, keyDs_inj ds es a.2 b.2 h.2]
  | [], _ :: _, _, _, h => by simp [keyDs] at h
  | _ :: _, [], _, _, h => by simp [keyDs] at h
end
section
variable {X : Cx} {pins : List (Addr × Obj)} {σ : L2.St} {H : Hp} {s : Shared} {as : List Addr}
mutual
theorem rep_key (I : Inv X pins σ H s) : ∀ (d : D) (v : V) (u : Value), kOk d = true → Rep X.K H as v d → RelV v u → NestedIs s.heap (keyD d) u
  | .int i, _, u, _, r, q => by
    cases r
    obtain ⟨t, rfl⟩ := q
    exact .int i t
  | .tup ds, _, u, k, r, q => by
    cases r with
    | tup h rs =>
      cases q
      obtain ⟨its, r2, ⟨o, ho, hc, n, hd⟩, _⟩ := I.tuple h
      exact .tup ho hc hd (by simpa using reps_key I ds _ _ (by simpa [kOk] using k) rs r2)
  | .non, _, _, h, _, _ | .bl _, _, _, h, _, _ | .str _, _, _, h, _, _ | .lst _, _, _, h, _, _ | .emp, _, _, h, _, _ | .cell _, _, _, h, _, _ | .adr _, _, _, h, _, _ | .scr _, _, _, h, _, _ => by simp [kOk] at h
theorem reps_key (I : Inv X pins σ H s) : ∀ (ds : List D) (vs : List V) (us : List Value), kOks ds = true → Reps X.K H as vs ds → Vals vs us → NestedAll s.heap (keyDs ds) us
  | [], _, _, _, r, q => by
    cases r
    cases q
    exact .nil
  | d :: ds, _, _, k, r, q => by
    simp only [kOks, Bool.and_eq_true] at k
    cases r with
    | cons r rs =>
      cases q with
      | cons q qs => exact .cons (rep_key I d _ _ k.1 r q) (reps_key I ds _ _ k.2 rs qs)
end
end
section
variable {w : World} {h : Heap} {a : Addr} {L : List (Addr × NestedKey)}
/-- the set at a, without the keys' own objects -/
def KS0 (w : World) (h : Heap) (a : Addr) (L : List (Addr × NestedKey)) : Prop := ∃ (es : Array (Int × Value)) (ep : Nat) (t : SetTable), (∃ o, h.get? a = some o ∧ o.ExactSet ∧ o.data = .set es ep t) ∧ es.toList = L.map (rowK w) ∧ TabOk t (L.map fun p => p.2.hash w) ∧ (L.map (·.2)).Nodup ∧ t.plain = true ∧
    (w.params.followText "set-order" = true ∨ t.led = true) ∧ L.length * 5 < t.mask * 3 ∧ L.length < 64
theorem KSet.ks0 {es : Array (Int × Value)} {ep : Nat} {t : SetTable} (R : KSet w h a L es ep t) : KS0 w h a L := ⟨es, ep, t, R.here, R.rows, R.tab, R.once, R.plain, R.led, R.room, R.few⟩
theorem KS0.full (R : KS0 w h a L) (hk : ∀ p ∈ L, KeyAt h p.2 p.1) : ∃ es ep t, KSet w h a L es ep t := by
  obtain ⟨es, ep, t, h1, h2, h3, h4, h5, h6, h7, h8⟩ := R
  exact ⟨es, ep, t, h1, h2, h3, h4, hk, h5, h6, h7, h8⟩
def KSO (w : World) (a : Addr) (L : List (Addr × NestedKey)) : HO := .ext fun h => KS0 w h a L
theorem kso_new {P : Program} {H : Hp} (R : KS0 w h a L) : ObjOk P w H h a (KSO w a L) := by
  have ⟨es, ep, t, ⟨o, ho, r⟩, q⟩ := R
  refine ⟨R, ⟨o, ho⟩, fun h1 h2 p k => ?_⟩
  have ⟨es', ep', t', ⟨o', ho', r'⟩, q'⟩ := p
  exact ⟨es', ep', t', ⟨o', k o' ho', r'⟩, q'⟩
/-- the new set -/
theorem ks_new (w : World) (h : Heap) : KS0 w (h.push { cls := .type "set", dict := none, data := .set #[] 0 (.fresh 0 0 (!w.params.followText "set-order")) }) h.objs.size [] :=
  ⟨#[], 0, _, ⟨_, Heap.get?_push_size _ rfl, ⟨rfl, rfl, rfl⟩, rfl⟩, rfl, ⟨List.Pairwise.nil, rfl, rfl, .inl rfl, fun x hx => (by cases hx), fun i h j hi => (by simp at hi)⟩, List.nodup_nil, rfl, by
    show _ ∨ (!w.params.followText "set-order") = true
    cases w.params.followText "set-order"
    · exact .inr rfl
    · exact .inl rfl, by show 0 * 5 < 7 * 3; decide, by show 0 < 64; decide⟩
end
section
variable {X : Cx} {pins : List (Addr × Obj)} {σ : L2.St} {H : Hp} {s : Shared} {as : List Addr}
/-- an address that shows such data is a key -/
theorem key_at (I : Inv X pins σ H s) {d : D} {b : Addr} (k : kOk d = true) (low : (keyD d).depth ≤ 8) (r : Rep X.K H as (.ref b) d) : KeyAt s.heap (keyD d) b :=
  ⟨rep_key I d _ _ k r rfl, low, num_keyD d k⟩
/-- set.add of a key -/
theorem addK_ok {E : Value → Shared → Prop} {a x : Addr} {L : List (Addr × NestedKey)} {k : NestedKey} {Q : Value → Shared → Prop} (I : Inv X pins σ H s) (hu : X.A.in1.units + 8 < cLine) (ha : H a = some (KSO X.w a L)) (hL : ∀ p ∈ L, KeyAt s.heap p.2 p.1) (hx : KeyAt s.heap k x) (few : L.length + 1 < 64)
    (h : ∀ s' L', Inv X pins σ (upd H a (KSO X.w a L')) s' → (k ∈ L.map (·.2) → L' = L) → (k ∉ L.map (·.2) → L'.Perm ((x, k) :: L)) → Q .none s') : wpAny (model X.prog X.w) X.A (call (.builtin "set.add") [.ref a, .ref x]) Q E s := by
  have R0 : KS0 X.w s.heap a L := (I.hok a _ ha).1
  obtain ⟨es, ep, t, R⟩ := R0.full hL
  have hT : s.TypeIs (.ref a) "set" := by
    obtain ⟨o, ho, hex, _⟩ := R.here
    exact ⟨o, ho, hex.1⟩
  refine wpAny_call_entry PySem.F.slot_set_add hT PySem.F.entry_set_add ?_ (PySem.F.args_set_add_2 _ _)
  unfold Builtin.«set.add» Builtin.Frozenset.oneOther
  simp only [List.isEmpty_nil, bind_assoc]
  unfold Builtin.Frozenset.addrOf setAdd
  refine wpAny_bind (wpAny_pure ?_)
  try dsimp only
  refine wpAny_bind (wpAny_pure ?_)
  try dsimp only
  refine wpAny_bind ?_
  refine wpAny_holding ?_
  refine wpAny_bind (pyHash_key k _ _ _ _ hx.is (by have := hx.low; omega) ?_)
  have R' : KSet X.w ({ s with toks := s.toks + k.draws } : Shared).heap a L es ep t := R
  refine kadd R' (show KeyAt ({ s with toks := s.toks + k.draws } : Shared).heap k x from hx) hu few fun b h' L' es' ep' t' sb R2 z1 z2 => ?_
  show wpAny _ _ (ret Value.none) _ _ _
  refine wpAny_pure ⟨_, rfl, ?_⟩
  have he : ∃ u, h'.get? a = some u := by
    obtain ⟨o, ho, _⟩ := R2.here
    exact ⟨o, ho⟩
  exact h _ L' (I.write (e := a) (t' := s.toks + k.draws) (by rw [ha]; trivial) (.inl rfl) (fun b u hb hu => (sb.2 b hb).trans hu) he (kso_new R2.ks0)) z1 z2
end
end VL

set_option maxHeartbeats 2000000
/-! VLSet4: the comprehension {elt for target in iter} where elt is a nested key. -/
namespace VL
open PySem PySem.Spec PyProof.Rows L2
/-- in the tracked heap the value v is the key k -/
def KeyV (K : PySem.W.Frag) (H : Hp) (v : V) (k : NestedKey) : Prop := ∃ (d : D) (as : List Addr), kOk d = true ∧ (keyD d).depth ≤ 8 ∧ Rep K H as v d ∧ keyD d = k
theorem KeyV.at {X : Cx} {pins : List (Addr × Obj)} {σ : L2.St} {H : Hp} {s : Shared} {b : Addr} {k : NestedKey} (h : KeyV X.K H (.ref b) k) (I : Inv X pins σ H s) : KeyAt s.heap k b := by
  obtain ⟨d, as, h1, h2, h3, rfl⟩ := h
  exact key_at I h1 h2 h3
/-- one turn's end: y goes into the set at D -/
def kIn (K : PySem.W.Frag) (w : World) (D : Addr) (Nx : Hp → Prop) (y : V) (H : Hp) : Prop := ∃ (b : Addr) (k : NestedKey) (L : List (Addr × NestedKey)), y = .ref b ∧ H D = some (KSO w D L) ∧ L.length + 1 < 64 ∧ KeyV K H y k ∧ (∀ p ∈ L, KeyV K H (.ref p.1) p.2) ∧
  ∀ L', (k ∈ L.map (·.2) → L' = L) → (k ∉ L.map (·.2) → L'.Perm ((b, k) :: L)) → Nx (upd H D (KSO w D L'))
/-- what the turns have to keep -/
def kTurns (K : PySem.W.Frag) (w : World) (g : TG) (te : TE) (vs : List Nat) (σ : L2.St) (J : It) (D : Addr) (H1 : Hp) (Qd : Hp → Prop) : Prop := ∃ W : Nat → Nat → Hp → Prop, (∃ m, W 0 m (upd H1 D (KSO w D []))) ∧ ∀ i m H, W i m H →
  (J.stop i H ∧ Qd H) ∨ (J.go i H ∧ ∃ Nx : Hp → Prop, (∀ H', Nx H' → ∃ m', m' < m ∧ W (i + 1) m' H') ∧ ∀ x H', J.yld i H x H' → g x (wipe σ vs) H' fun σ2 H2 => wipe σ2 vs = wipe σ vs ∧ te σ2 H2 (kIn K w D Nx))
def tKc (K : PySem.W.Frag) (w : World) (wi : TI) (g : TG) (te : TE) (vs : List Nat) : TE := fun σ H Q => wi σ H fun J H1 => ∀ D, H1 D = none → kTurns K w g te vs σ J D H1 fun H => Q (.ref D) H
section
variable {X : Cx}
theorem kc_core {pins : List (Addr × Obj)} {s : Shared} {σ : L2.St} {H : Hp} {Q : VK} {elt tg iter : Expr} {scope : Scope} {own : List (PySem.Str × Nat)} {pos pos' : Pos} {wi : TI} {g : TG} {te : TE} {use : Option (Value → Sem Unit)} {Qf : Value → Shared → Prop}
    (hc : X.calm = true) (hu : X.A.in1.units + 8 < cLine) (hN : X.N.Nodup) (I : Inv X pins σ H s) (hi : PI X tg iter wi) (ok : BlkOk X.N X.env.scope scope own)
    (hg : ∀ (s : Shared) (H : Hp) (C : Addr) (cl : List (PySem.Str × Addr)) (fp : List Addr), PG (X.blk s H scope (compEnvC scope cl C X.env) fp) tg g)
    (he : ∀ (s : Shared) (H : Hp) (C : Addr) (cl : List (PySem.Str × Addr)) (fp : List Addr), PE (X.blk s H scope (compEnvC scope cl C X.env) fp) elt te) (hs : ∀ x, foldedSetIterable iter X.env x = pure x)
    (h : tKc X.K X.w wi g te (own.map (·.2)) σ H Q)
    (hRR : ∀ D C s' m H', Inv X pins σ H' s' → Q (.ref D) H' → s'.heap.Ns C m → FpOk X pins H' C → compPost (model X.prog X.w) X.A X.xe use Qf (.ref D) C (.ok .next) s') :
    wpAny (model X.prog X.w) X.A (comprehension (.SetComp elt [⟨tg, iter, [], 0⟩] scope pos) scope X.env pos' (newSet (.type "set")) false (eval iter X.env) use) Qf X.xe s := by
  have hfree : ∀ y ∈ scope.names, y.2 = .free → ∃ c, X.env.cells.lookup y.1 = some c := fun y hy e => (ok.free y hy e).elim (fun k => I.ok.has _ (.inl k)) fun k => I.ok.has _ (.inr k)
  refine wpAny_comprehension_free (use := use) rfl hs (closure_ok hfree) ok.kind (fun y hy e => by rw [ok.uniq y hy, e])
    (thn (hi.run pins s σ H _ I h) fun xv s1 hx => thn hx fun itv s2 h2 => ?_)
  obtain ⟨it, fp, tn, J, H2, rfl, I2, T, st2, f2, q⟩ := h2
  refine PpSet.newSet_ok (newEnv_comp ?_)
  generalize hD : s2.heap.objs.size = D
  obtain ⟨W, ⟨m0, w0⟩, turn⟩ := q D (I2.hok.fresh (Nat.le_of_eq hD))
  -- behind the making of the set
  generalize hs3 : ({ s2 with heap := s2.heap.push { cls := .type "set", dict := none, data := .set #[] 0 (.fresh 0 0 (!X.w.params.followText "set-order")) } } : Shared) = s3
  have h3 : s3.heap = s2.heap.push { cls := .type "set", dict := none, data := .set #[] 0 (.fresh 0 0 (!X.w.params.followText "set-order")) } := by rw [← hs3]
  have I3 : Inv X pins σ (upd H2 D (KSO X.w D [])) s3 := by
    rw [← hs3]
    refine I2.laid (t' := s2.toks) (fun b o e => Heap.get?_push_of_some _ e) (Nat.le_of_eq hD) ?_
    rw [← hD]
    exact kso_new (ks_new X.w s2.heap)
  have f3 : ∀ b ∈ fp, FpOk X pins (upd H2 D (KSO X.w D [])) b ∧ b < s3.heap.objs.size := fun b hb => by
    obtain ⟨o, e, _⟩ := T.obj _ _ st2 b hb
    have hlt := Heap.lt_size e
    refine ⟨⟨?_, (f2 b hb).2⟩, by rw [h3, Heap.size_push]; exact Nat.lt_succ_of_lt hlt⟩
    rw [upd_ne (by rw [← hD]; exact Nat.ne_of_lt hlt)]
    exact (f2 b hb).1
  have st3 : tn 0 s3.heap := T.keep _ _ _ st2 fun b _ o e => by rw [h3]; exact Heap.get?_push_of_some _ e
  have I4 := block_start I3 ok hN f3
  have pg := hg s3 (upd H2 D (KSO X.w D [])) s3.heap.objs.size (cellsFrom (s3.heap.objs.size + 1) scope.names (cloFrom X.env.cells scope.names [])) fp
  have pe := he s3 (upd H2 D (KSO X.w D [])) s3.heap.objs.size (cellsFrom (s3.heap.objs.size + 1) scope.names (cloFrom X.env.cells scope.names [])) fp
  show codeAny _ _ (.compStart (.SetComp elt [⟨tg, iter, [], 0⟩] scope pos) 0 (.ref it) (.ref D) (compEnvC scope (cellsFrom (s3.heap.objs.size + 1) scope.names (cloFrom X.env.cells scope.names [])) s3.heap.objs.size X.env)) (compPost (model X.prog X.w) X.A X.xe use Qf (.ref D) s3.heap.objs.size) { s3 with heap := pushCells (s3.heap.push { cls := .type "dict", data := .dict #[] }) scope.names }
  have nfp : ∀ b ∈ fp, (upd H2 D (KSO X.w D [])) b = none := fun b hb => (f3 b hb).1.1
  generalize hce : compEnvC scope (cellsFrom (s3.heap.objs.size + 1) scope.names (cloFrom X.env.cells scope.names [])) s3.heap.objs.size X.env = ce at I4 pg pe ⊢
  have cL : ce.locals = s3.heap.objs.size := by subst hce; rfl
  generalize hH3 : upd H2 D (KSO X.w D []) = H3 at I3 I4 pg pe w0 nfp f3
  generalize hs4 : ({ s3 with heap := pushCells (s3.heap.push { cls := .type "dict", data := .dict #[] }) scope.names } : Shared) = s4 at I4 ⊢
  have st4 : tn 0 s4.heap := T.keep _ _ _ st3 fun b _ o e => by rw [← hs4]; exact pushCells_keeps _ _ _ _ (Heap.get?_push_of_some _ e)
  have stat : ∀ {σ' : L2.St} {H' : Hp} {s' : Shared}, Inv (X.blk s3 H3 scope ce fp) [] σ' H' s' → (∀ b ∈ fp, H' b = none) → ∀ b ∈ fp, FpOk (X.blk s3 H3 scope ce fp) [] H' b := fun {σ' H' s'} I' hn b hb =>
    ⟨hn b hb, (I'.ok.exf b hb).1, I'.ok.exfs b hb, .inl hb, fun x c e => (I'.ok.exf b hb).2 x c e, fun p hp => absurd (show p ∈ ([] : List (Addr × Obj)) ++ [] from hp) (by simp)⟩
  have loop : codeAny (model X.prog X.w) X.A (.compLoop (.SetComp elt [⟨tg, iter, [], 0⟩] scope pos) 0 (.ref it) (.ref D) ce) (compPost (model X.prog X.w) X.A X.xe use Qf (.ref D) s3.heap.objs.size) s4 := by
    refine PpSet.compLoopS_any (fun n s' => ∃ i H', Inv (X.blk s3 H3 scope ce fp) [] (wipe σ (own.map (·.2))) H' s' ∧ tn i s'.heap ∧ (∀ b ∈ fp, H' b = none) ∧ W i n H') ?_ m0 ⟨0, H3, I4, st4, nfp, w0⟩
    rintro n s5 ⟨i, H5, I5, st5, n5, w5⟩
    rcases turn i n H5 w5 with ⟨stop, qq⟩ | ⟨go, Nx, hNx, step⟩
    · refine thnF (T.done (X.blk s3 H3 scope ce fp) rfl rfl rfl hc i [] s5 _ H5 (fun _ _ => False) I5 (stat I5 n5) st5 stop) fun r s6 ⟨hr, I6⟩ => ?_
      subst hr
      have I7 : Inv X pins σ H5 s6 := I3.call' (ch := fp) I6.os I6.base I6.hok I6.bare fun b hb => ⟨(f3 b hb).1.2.2.2.1, (f3 b hb).1.2.1, (f3 b hb).1.2.2.2.2.1, (f3 b hb).1.2.2.2.2.2⟩
      have nC : H5 s3.heap.objs.size = none := by
        have z : H5 ce.locals = none := I6.free
        rw [cL] at z
        exact z
      obtain ⟨m, hn, _⟩ := I6.loc
      have hn : s6.heap.Ns ce.locals m := hn
      rw [cL] at hn
      exact hRR D s3.heap.objs.size s6 m H5 I7 qq hn (I3.fpOk (Nat.le_refl _) nC)
    · refine thnF (T.item (X.blk s3 H3 scope ce fp) rfl rfl rfl hc i [] s5 _ H5 (fun _ _ => False) I5 (stat I5 n5) st5 go) fun r s6 ⟨u, hr, h6⟩ => ?_
      subst hr
      refine thnF h6 fun _ s7 ⟨x, H7, I7, r7, y7, st7, n7⟩ => ?_
      have I7' := I7.pinned (stat I7 n7) (T.obj _ _ st7)
      refine thnF (pg.run _ s7 _ H7 x u _ I7' r7 (step x H7 y7)) fun _ s8 ⟨σ8, H8, I8, hw8, q8⟩ => ?_
      refine wpAny_pure ?_
      rw [if_pos rfl]
      refine thnF (pe.run _ s8 σ8 H8 _ I8 q8) fun z s10 ⟨yv, H10, I10, r10, b, k, L, ey, hD10, few, kv, kl, nx⟩ => ?_
      subst ey
      cases (show z = Value.ref b from r10)
      refine addK_ok (X := X.blk s3 H3 scope ce fp) I10 hu hD10 (fun p hp => (kl p hp).at (X := X.blk s3 H3 scope ce fp) I10) (kv.at (X := X.blk s3 H3 scope ce fp) I10) few fun s11 L' I11 z1 z2 => ?_
      obtain ⟨m', hm, w'⟩ := hNx _ (nx L' z1 z2)
      have pin' : ∀ b ∈ fp, ∀ o, s7.heap.get? b = some o → s11.heap.get? b = some o ∧ (upd H10 D (KSO X.w D L')) b = none := fun b hb o e =>
        let z := I11.pin (b, o) (List.mem_append_right _ (List.mem_append_right _ (mem_pinsAt hb e)))
        ⟨z.1, z.2.1⟩
      refine ⟨m', hm, i + 1, _, (I11.unpinned (pins := [])).weak (by rw [← hw8, wipe_length]) (fun j v e => ?_), T.keep _ _ _ st7 fun b hb o e => (pin' b hb o e).1, fun b hb => ?_, w'⟩
      · rw [← hw8] at e
        exact (wipe_some e).1
      · obtain ⟨o, e, _⟩ := T.obj _ _ st7 b hb
        exact (pin' b hb o e).2
  exact PpSet.codeAny_compStart_set loop (T.self X.A 0 _ _ _ st4 loop)
/-- as a value -/
theorem pe_kc {elt tg iter : Expr} {scope : Scope} {own : List (PySem.Str × Nat)} {pos : Pos} {wi : TI} {g : TG} {te : TE} (hc : X.calm = true) (hu : X.A.in1.units + 8 < cLine) (hN : X.N.Nodup) (hi : PI X tg iter wi) (ok : BlkOk X.N X.env.scope scope own)
    (hg : ∀ (s : Shared) (H : Hp) (C : Addr) (cl : List (PySem.Str × Addr)) (fp : List Addr), PG (X.blk s H scope (compEnvC scope cl C X.env) fp) tg g)
    (he : ∀ (s : Shared) (H : Hp) (C : Addr) (cl : List (PySem.Str × Addr)) (fp : List Addr), PE (X.blk s H scope (compEnvC scope cl C X.env) fp) elt te) (hs : ∀ x, foldedSetIterable iter X.env x = pure x := by intro _; rfl) :
    PE X (.SetComp elt [⟨tg, iter, [], 0⟩] scope pos) (tKc X.K X.w wi g te (own.map (·.2))) := by
  refine ⟨fun pins s σ H Q I h => ?_⟩
  rw [PpSet.eval_SetComp]
  refine kc_core hc hu hN I hi ok hg he hs h fun D C s' m H' I' q hn f => ⟨m, hn, fun h'' sb => ?_⟩
  obtain ⟨f0, f1, f2, f3, f4, f5⟩ := f
  exact ⟨.ref D, H', I'.turned (t' := s'.toks) (fun b o hb e => (sb.2 b hb).trans e) f0 f1 f3 f4 f5, rfl, q⟩
end
end VL

set_option maxHeartbeats 2000000
/-! VLSet5: len({elt for target in iter}), elt a nested key. -/
namespace VL
open PySem PySem.Spec PyProof.Rows L2
def tLenK (K : PySem.W.Frag) (w : World) (wi : TI) (g : TG) (te : TE) (vs : List Nat) : TE := fun σ H Q => tKc K w wi g te vs σ H fun v H1 => ∃ a L, v = V.ref a ∧ H1 a = some (KSO w a L) ∧ Q (.int L.length) H1
theorem ks_fits {es : Array (Int × Value)} {t : SetTable} {w : World} {L : List (Addr × NestedKey)} (h2 : es.toList = L.map (rowK w)) (h3 : TabOk t (L.map fun p => p.2.hash w)) (h7 : L.length * 5 < t.mask * 3) : es.size = L.length ∧ t.fits es.size = true := by
  have e : es.size = L.length := by rw [← Array.length_toList, h2, List.length_map]
  have e2 : t.place.size = L.length := by rw [h3.sz, List.length_map]
  refine ⟨e, ?_⟩
  simp only [SetTable.fits, SetTable.fill, h3.dm, Bool.and_eq_true, beq_iff_eq, decide_eq_true_eq, e, e2]
  refine ⟨trivial, ?_⟩
  show L.length + 0 ≤ t.mask
  omega
section
variable {X : Cx}
theorem pe_lenK {elt tg iter : Expr} {scope : Scope} {own : List (PySem.Str × Nat)} {p p2 pos : Pos} {wi : TI} {g : TG} {te : TE} (hc : X.calm = true) (hu : X.A.in1.units + 8 < cLine) (hN : X.N.Nodup) (hG : Gl X "len") (hm : X.mg "len" = none) (hi : PI X tg iter wi) (ok : BlkOk X.N X.env.scope scope own)
    (hg : ∀ (s : Shared) (H : Hp) (C : Addr) (cl : List (PySem.Str × Addr)) (fp : List Addr), PG (X.blk s H scope (compEnvC scope cl C X.env) fp) tg g)
    (he : ∀ (s : Shared) (H : Hp) (C : Addr) (cl : List (PySem.Str × Addr)) (fp : List Addr), PE (X.blk s H scope (compEnvC scope cl C X.env) fp) elt te) (hs : ∀ x, foldedSetIterable iter X.env x = pure x := by intro _; rfl)
    (na : starEach [Expr.SetComp elt [⟨tg, iter, [], 0⟩] scope p2] X.env = (false, eval (.SetComp elt [⟨tg, iter, [], 0⟩] scope p2) X.env) :: starEach [] X.env := by rfl) :
    PE X (.Call (.Name "len" p) [.SetComp elt [⟨tg, iter, [], 0⟩] scope p2] [] pos) (tLenK X.K X.w wi g te (own.map (·.2))) := by
  refine ⟨fun pins s σ H Q I h => ?_⟩
  refine Call_ (ld_blt I hG hm PySem.boot_len ?_)
  refine PyProof.Rows.callWith_builtin1 (PyProof.Rows.args_cons (thn ((pe_kc hc hu hN hi ok hg he hs).run pins s σ H _ I h) fun v s1 ⟨x, H1, I1, r1, q1⟩ => PyProof.Rows.args_nil ?_) na) rfl rfl
  obtain ⟨a, L, rfl, ha, q1⟩ := q1
  cases r1
  have R0 : KS0 X.w s1.heap a L := (I1.hok a _ ha).1
  obtain ⟨es, ep, t, ⟨o, ho, hex, hd⟩, h2, h3, h4, h5, h6, h7, h8⟩ := R0
  obtain ⟨e1, e2⟩ := ks_fits h2 h3 h7
  refine call_len_set ho hex hd e2 (by rw [e1]; omega) ⟨.int L.length, H1, I1.tok _, ⟨_, by rw [e1]⟩, q1⟩
end
end VL

set_option maxHeartbeats 2000000
/-! VLSet6: len({elt for target in iter}) makes the number of unlike keys. -/
namespace VL
open PySem PySem.Spec PyProof.Rows L2
/-- each key once -/
def nubK : List NestedKey → List NestedKey
  | [] => []
  | k :: ks => if k ∈ ks then nubK ks else k :: nubK ks
theorem mem_nubK {x : NestedKey} : ∀ ks : List NestedKey, x ∈ nubK ks ↔ x ∈ ks
  | [] => Iff.rfl
  | k :: ks => by
    unfold nubK
    split
    · rw [mem_nubK ks, List.mem_cons]
      exact ⟨.inr, fun h => h.elim (fun e => by rw [e]; assumption) id⟩
    · rw [List.mem_cons, List.mem_cons, mem_nubK ks]
theorem nodup_nubK : ∀ ks : List NestedKey, (nubK ks).Nodup
  | [] => List.nodup_nil
  | k :: ks => by
    unfold nubK
    split
    · exact nodup_nubK ks
    · rename_i h
      exact List.nodup_cons.mpr ⟨fun z => h ((mem_nubK ks).mp z), nodup_nubK ks⟩
theorem nodup_le : ∀ (l E : List NestedKey), l.Nodup → (∀ x ∈ l, x ∈ E) → l.length ≤ E.length
  | [], _, _, _ => Nat.zero_le _
  | x :: l, E, h, hm => by
    obtain ⟨h1, h2⟩ := List.nodup_cons.mp h
    have hx := hm x List.mem_cons_self
    have ih := nodup_le l (E.erase x) h2 fun y hy => (List.mem_erase_of_ne (by rintro rfl; exact h1 hy)).mpr (hm y (List.mem_cons_of_mem _ hy))
    have e := List.length_erase_of_mem hx
    have pos : 0 < E.length := List.length_pos_of_mem hx
    rw [List.length_cons]
    omega
theorem nodup_eq {l E : List NestedKey} (h1 : l.Nodup) (h2 : E.Nodup) (h : ∀ x, x ∈ l ↔ x ∈ E) : l.length = E.length :=
  Nat.le_antisymm (nodup_le l E h1 fun x hx => (h x).mp hx) (nodup_le E l h2 fun x hx => (h x).mpr hx)
def isTup : D → Bool
  | .tup _ => true
  | _ => false
/-- can be a key -/
def goodK (d : D) : Bool := isTup d && (kOk d && decide ((keyD d).depth ≤ 8))
section
variable {γ δ α β : Type} {X : Cx} {T : List (Addr × Str)} {W : WX} {B : Hp} {ρ : List SL} {tg iter elt : Expr} {mi : M (List D)} {pos : Pos}
def kT (bT : D → M β) (me : β → M D) (d : D) : M D := noX (bT d >>= me) >>= fun y => if goodK y = true then pure y else no
def kM (b : D → M D) : List D → M (List D)
  | [] => pure []
  | d :: ds => b d >>= fun y => kM b ds >>= fun r => pure (y :: r)
def kL (b : D → M D) (ds : List D) : M D := if ds.length ≤ 62 then kM b ds >>= fun r => pure (.int (nubK (r.map keyD)).length) else no
/-- a set isn't an object with fields -/
theorem not_fields {w : World} {c : Addr} {L : List (Addr × NestedKey)} {x : Str} (z : KSO w c L = HO.ext fun h => ∃ oc vs t, h.get? c = some oc ∧ oc.data = .fields vs ∧ vs[1]? = some (Value.str x t)) : False := by
  unfold KSO at z
  injection z with z
  have hs : ({ objs := Array.replicate c { cls := .type "x", data := .fields #[] } } : Heap).objs.size = c := by simp
  generalize ({ objs := Array.replicate c { cls := .type "x", data := .fields #[] } } : Heap) = h0 at hs
  have hg := Heap.get?_push_size h0 (o := { cls := .type "x", data := .fields #[.none, .str x default] }) rfl
  rw [hs] at hg
  generalize h0.push { cls := .type "x", data := .fields #[.none, .str x default] } = h1 at hg
  have q := congrFun z h1
  have r : KS0 w h1 c L := by
    rw [q]
    exact ⟨_, _, default, hg, rfl, rfl⟩
  obtain ⟨es, ep, t, ⟨o, ho, _, hd⟩, _⟩ := r
  rw [hg] at ho
  cases ho
  cases hd
theorem st_updK {K : PySem.W.Frag} {F H : Hp} {as : List Addr} {S : Sx} {w : World} {p : Addr} {L L' : List (Addr × NestedKey)} (st : Stt K T F H as S) (hf : F p = none) (ha : p ∉ as) (hp : H p = some (KSO w p L)) : Stt K T F (upd H p (KSO w p L')) as S := by
  refine ⟨fun a o h => by rw [upd_ne (ne_of_none h hf)]; exact st.fz a o h, st.nt, fun q hq => ?_, st.len, st.nod, fun n a h => ?_⟩
  · obtain ⟨ps, h1, h2, h3⟩ := st.tabs q hq
    refine ⟨ps, by rw [upd_ne (ne_of h1 hp (by intro z; cases z))]; exact h1, h2, fun pos cv hc => ?_⟩
    obtain ⟨c, e1, e2⟩ := h3 pos cv hc
    exact ⟨c, e1, by rw [upd_ne (show c ≠ p from fun z => by subst z; rw [e2] at hp; exact not_fields (Option.some.inj hp).symm)]; exact e2⟩
  · obtain ⟨g1, us, ds, g2, g3, g4⟩ := st.cel n a h
    exact ⟨g1, us, ds, g2, by rw [upd_ne (show a ≠ p from fun e => by subst e; exact ha (List.mem_of_getElem? h))]; exact g3, g4⟩
theorem ext_updK {F0 H0 F H : Hp} {as0 as : List Addr} {w : World} {p : Addr} {L' : List (Addr × NestedKey)} (x : Ext F0 H0 as0 F H as) (hb : Lo H0 p) : Ext F0 H0 as0 F (upd H p (KSO w p L')) as :=
  ⟨x.f, x.g, fun a o h n t => by rw [upd_ne (show a ≠ p from fun e => by subst e; exact hb.not h t)]; exact x.k a o h n t, x.fn, x.an, fun a h => by
    by_cases e : a = p
    · exact e ▸ hb
    · exact x.m a fun o q => h o (by rw [upd_ne e]; exact q)⟩
theorem snd_kc {ρw : List SL} {wi : TI} {g : TG} {vs js : List Nat} {bT : D → M β} {embT : β → List SL} {me : β → M D} {K : PySem.W.Frag} {w : World} {mg : Str → Option Value}
    (hi : ∀ (σ : L2.St) (F H : Hp) (as : List Addr) (S : Sx) (R : It → Hp → Prop), Stt K T F H as S → Slots K B F H as ρ σ → Post K mg T F H as (fun F' as' J ds => IterOk K T F' as' J ds) R (fun cls dd H' => W cls dd σ H') (mi S) → wi σ H R)
    (hg : ∀ (v : V) (d : D) (σ : L2.St) (F H : Hp) (as : List Addr) (S : Sx) (Q : L2.St → Hp → Prop), Stt K T F H as S → Slots K B F H as ρw σ → Rep K F as v d → (match bT d S with | .ok b S' => ∀ σ', Upd js σ σ' → Slots K B F H as (embT b) σ' → Q σ' H | _ => False) → g v σ H Q)
    (hst : ∀ d S b S', bT d S = .ok b S' → S' = S) (hj : ∀ j ∈ js, j ∈ vs) (hw : SLe ρw ρ) (hv : ∀ v ∈ vs, ρw[v]? = some .no)
    {σ : L2.St} {F H : Hp} {as : List Addr} {S : Sx} {Q : VK} (st : Stt K T F H as S) (sl : Slots K B F H as ρ σ) (p : Post K mg T F H as (RepV K) Q (fun cls dd H' => W cls dd σ H') ((mi >>= kL (kT bT me)) S)) :
    tLenK K w wi g (fun σ H Q => ∃ t, rd (RepV K) K mg T Wf B (embT t) (me t) σ H Q) vs σ H Q := by
  refine hi σ F H as S _ st sl ?_
  cases em : mi S with
  | er y S1 => rw [bind_er em] at p; exact p
  | no => rw [bind_no em] at p; exact p
  | ok ds S1 =>
    rw [bind_ok em] at p
    unfold kL at p
    by_cases c : ds.length ≤ 62
    · rw [if_pos c] at p
      intro J F1 H1 as1 x1 st1 hJ L0 hL
      obtain ⟨G, Y, wk, hG, hY⟩ := hJ
      have fq : F1 L0 = none := by
        cases z : F1 L0 with
        | none => rfl
        | some u => rw [st1.fz L0 u z] at hL; cases hL
      have nq : L0 ∉ as1 := fun z => by
        obtain ⟨n, hn⟩ := List.getElem?_of_mem z
        obtain ⟨_, _, _, _, h3, _⟩ := st1.cel n L0 hn
        rw [hL] at h3; cases h3
      have loL : Lo H1 L0 := .none hL
      have nt : ∀ L ps, KSO w L0 L ≠ .tbl ps := fun L ps z => by cases z
      -- the turns
      refine ⟨fun i m Hi => m = ds.length - i ∧ i ≤ ds.length ∧ ∃ (Fi : Hp) (asi : List Addr) (Si : Sx) (L : List (Addr × NestedKey)) (done : List NestedKey), Ext F1 H1 as1 Fi Hi asi ∧ Stt K T Fi Hi asi Si ∧ Fi L0 = none ∧ L0 ∉ asi ∧ Hi L0 = some (KSO w L0 L) ∧ (∀ p ∈ L, ∃ d, kOk d = true ∧ (keyD d).depth ≤ 8 ∧ Rep K Fi asi (.ref p.1) d ∧ keyD d = p.2) ∧ (L.map (·.2)).Nodup ∧ (∀ k, k ∈ L.map (·.2) ↔ k ∈ done) ∧ L.length ≤ i ∧
        Post K mg T F H as (RepV K) Q (fun cls dd H' => W cls dd σ H') ((kM (kT bT me) (ds.drop i) >>= fun r => pure (.int (nubK (done ++ r.map keyD)).length)) Si), ⟨_, rfl, Nat.zero_le _, F1, as1, S1, [], [], ⟨fun _ _ h => h, fun _ _ h => h, fun a o h _ _ => by rw [upd_ne (ne_of_none h hL)]; exact h, fun _ h => .inl h, fun _ h => .inl h, fun a h => ?_⟩, ⟨fun a o h => by rw [upd_ne (ne_of_none (st1.fz a o h) hL)]; exact st1.fz a o h, st1.nt, st1.tabs.ext fun b u h => by rw [upd_ne (ne_of_none h hL)]; exact h, st1.len, st1.nod, fun n a h => ?_⟩, fq, nq, upd_same, fun p h => (by cases h), List.nodup_nil, fun k => Iff.rfl, Nat.le_refl _, ?_⟩, ?_⟩
      · by_cases e : a = L0
        · exact e ▸ loL
        · exact fun o q => h o (by rw [upd_ne e]; exact q)
      · obtain ⟨g1, us, es, g2, g3, g4⟩ := st1.cel n a h
        exact ⟨g1, us, es, g2, by rw [upd_ne (ne_of_none g3 hL)]; exact g3, g4⟩
      · simp only [List.drop_zero, List.nil_append]
        exact p
      · rintro i m Hi ⟨rfl, hi2, Fi, asi, Si, L, done, xi, sti, f1, f2, f3, hk, nd, hd, hl, pp⟩
        have gi := hG Fi Hi asi Si sti xi.f xi.g
        by_cases hin : i < ds.length
        · refine .inr ⟨wk.goes i Hi hin gi, _, fun H' p' => ⟨ds.length - (i + 1), by omega, rfl, hin, p'⟩, fun x H' y => ?_⟩
          have y := wk.yields i Hi x H' hin gi y
          have hdi : ds[i]? = some ds[i] := by simp [hin]
          obtain ⟨F2, x2, st2, r2⟩ := hY i _ Fi Hi asi Si x H' hdi sti xi.f xi.g y
          rw [List.drop_eq_getElem_cons hin] at pp
          have pp : Post K mg T F H as (RepV K) Q (fun cls dd H' => W cls dd σ H') (((kT bT me ds[i] >>= fun y => kM (kT bT me) (ds.drop (i + 1)) >>= fun r => pure (y :: r)) >>= fun r => pure (.int (nubK (done ++ r.map keyD)).length)) Si) := pp
          rw [bind_assoc] at pp
          have slw : Slots K B F2 H' asi ρw (L2.wipe σ vs) := (((sl.ext x1).ext xi).ext x2).wipe hw hv
          refine hg x ds[i] (L2.wipe σ vs) F2 H' asi Si _ st2 slw r2 ?_
          cases e : bT ds[i] Si with
          | er y S' =>
            have e0 : kT bT me ds[i] Si = .no := by
              unfold kT
              exact bind_no (by unfold noX; rw [bind_er e])
            rw [bind_no e0] at pp
            exact False.elim pp
          | no =>
            have e0 : kT bT me ds[i] Si = .no := by
              unfold kT
              exact bind_no (by unfold noX; rw [bind_no e])
            rw [bind_no e0] at pp
            exact False.elim pp
          | ok t S' =>
            obtain rfl := hst _ _ _ _ e
            intro σ2 ud sl2
            refine ⟨by rw [wipe_upd ud hj, wipe_wipe], t, F2, asi, S', st2, sl2, ?_⟩
            have keep : ∀ {F3 H3 as3}, Ext F2 H' asi F3 H3 as3 → F3 L0 = none ∧ L0 ∉ as3 ∧ H3 L0 = some (KSO w L0 L) := fun {F3 H3 as3} x3 => by
              have hL2 : H' L0 = some (KSO w L0 L) := x2.k L0 _ f3 f2 (nt L)
              have fL2 : F2 L0 = none := by
                cases z : F2 L0 with
                | none => rfl
                | some u => exact ((x2.fn L0 (by rw [z]; simp)).elim (fun q => absurd f1 q) fun q => (q.not f3 (nt L)).elim)
              refine ⟨?_, fun z => (x3.an L0 z).elim f2 fun q => q.not hL2 (nt L), x3.k L0 _ hL2 f2 (nt L)⟩
              cases z : F3 L0 with
              | none => rfl
              | some u => exact ((x3.fn L0 (by rw [z]; simp)).elim (fun q => absurd fL2 q) fun q => (q.not hL2 (nt L)).elim)
            cases ee : me t S' with
            | er y S3 =>
              have e0 : kT bT me ds[i] S' = .no := by
                unfold kT
                exact bind_no (by unfold noX; rw [bind_ok e, ee])
              rw [bind_no e0] at pp
              exact False.elim pp
            | no =>
              have e0 : kT bT me ds[i] S' = .no := by
                unfold kT
                exact bind_no (by unfold noX; rw [bind_ok e, ee])
              rw [bind_no e0] at pp
              exact False.elim pp
            | ok yd S3 =>
              have e1 : noX (bT ds[i] >>= me) S' = .ok yd S3 := by unfold noX; rw [bind_ok e, ee]
              by_cases gk : goodK yd = true
              · have e0 : kT bT me ds[i] S' = .ok yd S3 := by
                  unfold kT
                  rw [bind_ok e1, if_pos gk]; rfl
                rw [bind_ok e0, bind_assoc] at pp
                intro yv F4 H4 as4 x4 st4 ry
                obtain ⟨k1, k2, k3⟩ := keep x4
                unfold goodK at gk
                simp only [Bool.and_eq_true, decide_eq_true_eq] at gk
                obtain ⟨g1, g2, g3⟩ := gk
                have up : ∀ {v d}, Rep K F4 as4 v d → Rep K H4 as4 v d := fun r => r.mono st4.fz fun _ _ h => h
                have old : ∀ p ∈ L, ∃ d, kOk d = true ∧ (keyD d).depth ≤ 8 ∧ Rep K F4 as4 (.ref p.1) d ∧ keyD d = p.2 := fun p hp => by
                  obtain ⟨d, a1, a2, a3, a4⟩ := hk p hp
                  exact ⟨d, a1, a2, x4.rep (x2.rep a3), a4⟩
                obtain ⟨b, rfl⟩ : ∃ b, yv = .ref b := by
                  cases yd <;> first | (simp [isTup] at g1; done) | (cases ry; exact ⟨_, rfl⟩)
                refine ⟨b, keyD yd, L, rfl, k3, by omega, ⟨yd, as4, g2, g3, up ry, rfl⟩, fun p hp => ?_, fun L' z1 z2 => ?_⟩
                · obtain ⟨d, a1, a2, a3, a4⟩ := old p hp
                  exact ⟨d, as4, a1, a2, up a3, a4⟩
                · have facts : (∀ p ∈ L', ∃ d, kOk d = true ∧ (keyD d).depth ≤ 8 ∧ Rep K F4 as4 (.ref p.1) d ∧ keyD d = p.2) ∧ (L'.map (·.2)).Nodup ∧ (∀ k, k ∈ L'.map (·.2) ↔ k ∈ done ++ [keyD yd]) ∧ L'.length ≤ i + 1 := by
                    by_cases hm : keyD yd ∈ L.map (·.2)
                    · obtain rfl := z1 hm
                      refine ⟨old, nd, fun k => ?_, by omega⟩
                      rw [hd k, List.mem_append, List.mem_singleton]
                      exact ⟨.inl, fun h => h.elim id fun e => e ▸ (hd _).mp hm⟩
                    · have pm := z2 hm
                      have pm2 : (L'.map (·.2)).Perm (keyD yd :: L.map (·.2)) := pm.map (·.2)
                      refine ⟨fun p hp => ?_, pm2.nodup_iff.mpr (List.nodup_cons.mpr ⟨hm, nd⟩), fun k => ?_, by rw [pm.length_eq, List.length_cons]; omega⟩
                      · rcases List.mem_cons.mp (pm.mem_iff.mp hp) with e | hp
                        · rw [e]; exact ⟨yd, g2, g3, ry, rfl⟩
                        · exact old p hp
                      · rw [pm2.mem_iff, List.mem_cons, hd k, List.mem_append, List.mem_singleton]
                        exact Or.comm
                  obtain ⟨b1, b2, b3, b4⟩ := facts
                  refine ⟨F4, as4, S3, L', done ++ [keyD yd], ext_updK ((xi.trans x2).trans x4) loL, st_updK st4 k1 k2 k3, k1, k2, upd_same, b1, b2, b3, b4, ?_⟩
                  have e5 : (fun r => pure (.int (nubK (done ++ (yd :: r).map keyD)).length) : List D → M D) = fun r => pure (.int (nubK ((done ++ [keyD yd]) ++ r.map keyD)).length) := by
                    funext r
                    simp
                  have pp : Post K mg T F H as (RepV K) Q (fun cls dd H' => W cls dd σ H') ((kM (kT bT me) (ds.drop (i + 1)) >>= fun r => (pure (.int (nubK (done ++ (yd :: r).map keyD)).length) : M D)) S3) := pp
                  rw [e5] at pp
                  exact pp
              · have e0 : kT bT me ds[i] S' = .no := by
                  unfold kT
                  rw [bind_ok e1, if_neg gk]; rfl
                rw [bind_no e0] at pp
                exact False.elim pp
        · have e : i = ds.length := by omega
          subst e
          refine .inl ⟨wk.stops Hi gi, L0, L, rfl, f3, ?_⟩
          rw [List.drop_length] at pp
          have pp : Post K mg T F H as (RepV K) Q (fun cls dd H' => W cls dd σ H') ((pure (.int (nubK (done ++ [])).length) : M D) Si) := pp
          have e2 : L.length = (nubK (done ++ [])).length := by
            rw [List.append_nil, ← List.length_map (f := fun p : Addr × NestedKey => p.2) (as := L)]
            exact nodup_eq nd (nodup_nubK _) fun k => (hd k).trans (mem_nubK done).symm
          rw [e2]
          exact pp _ Fi Hi asi (x1.trans xi) sti (.int _)
    · rw [if_neg c] at p
      exact False.elim p
end
end VL

set_option maxHeartbeats 2000000
/-! VLSet7: the rule for len({elt for target in iter}); its mirror in plain terms. -/
namespace VL
open PySem PySem.Spec PyProof.Rows L2
section
variable {β : Type} {X : Cx} {T : List (Addr × Str)} {W : WX} {B : Hp} {ρ : List SL} {tg iter elt : Expr} {mi : M (List D)} {p p2 pos : Pos}
theorem ve_lenK {scope : Scope} {js : List Nat} {bT : D → M β} {embT : β → List SL} {me : β → M D} (own : List (Str × Nat)) (ρw : List SL) (hc : X.calm = true) (hu : X.A.in1.units + 8 < cLine) (hN : X.N.Nodup) (hG : Gl X "len") (hm : X.mg "len" = none) (hi : VI X T W B ρ tg iter mi) (ok : blkC X.N X.env.scope scope own = true)
    (hg : ∀ (s : Shared) (H : Hp) (C : Addr) (cl : List (Str × Addr)) (fp : List Addr), VG (X.blk s H scope (compEnvC scope cl C X.env) fp) T B ρw tg js bT embT)
    (he : ∀ (s : Shared) (H : Hp) (C : Addr) (cl : List (Str × Addr)) (fp : List Addr) t, VE (X.blk s H scope (compEnvC scope cl C X.env) fp) T Wf B (embT t) elt (me t))
    (hj : ∀ j ∈ js, j ∈ own.map (·.2)) (hw : SLe ρw ρ) (hv : ∀ v ∈ own.map (·.2), ρw[v]? = some .no) (hst : ∀ d S b S', bT d S = .ok b S' → S' = S) (hs : ∀ x, foldedSetIterable iter X.env x = pure x := by intro _; rfl)
    (na : starEach [Expr.SetComp elt [⟨tg, iter, [], 0⟩] scope p2] X.env = (false, eval (.SetComp elt [⟨tg, iter, [], 0⟩] scope p2) X.env) :: starEach [] X.env := by rfl) :
    VE X T W B ρ (.Call (.Name "len" p) [.SetComp elt [⟨tg, iter, [], 0⟩] scope p2] [] pos) (mi >>= kL (kT bT me)) := by
  obtain ⟨wi, pi, hi⟩ := hi.t
  have pg : ∀ (s : Shared) (H : Hp) (C : Addr) (cl : List (Str × Addr)) (fp : List Addr), PG (X.blk s H scope (compEnvC scope cl C X.env) fp) tg (fun v σ H Q => ∃ (d : D) (F : Hp) (as : List Addr) (S : Sx), Stt X.K T F H as S ∧ Slots X.K B F H as ρw σ ∧ Rep X.K F as v d ∧ (match bT d S with | .ok b S' => ∀ σ', Upd js σ σ' → Slots X.K B F H as (embT b) σ' → Q σ' H | _ => False)) := fun s H C cl fp => by
    obtain ⟨t, h1, h2⟩ := (hg s H C cl fp).t
    exact ⟨fun pins s' σ H' v u Q I r ⟨d, F, as, S, a, b, c, q⟩ => h1.run pins s' σ H' v u Q I r (h2 v d σ F H' as S Q a b c q)⟩
  exact ⟨_, pe_lenK hc hu hN hG hm pi (blkOk_by ok) pg (fun s H C cl fp => PE_ex fun t => (he s H C cl fp t).pe) hs na,
    fun σ F H as S Q st sl p => snd_kc (w := X.w) hi (fun v d σ F H as S Q a b c q => ⟨d, F, as, S, a, b, c, q⟩) hst hj hw hv st sl p⟩
end
theorem room_in1 {k : Nat} {A : Around} (r : Room k A) : A.in1.units + 8 < cLine := by
  have := r.un
  simp only [Around.in1_units]
  omega
/-! ### in plain terms -/
theorem kT_pure {d : D} (h : goodK d = true) : kT (fun d => (pure d : M D)) (fun d => pure d) d = pure d := by
  unfold kT
  show (noX (pure d : M D) >>= _) = _
  rw [noX_pure, pure_bind, if_pos h]
theorem kM_pure : ∀ {ds : List D}, (∀ d ∈ ds, goodK d = true) → kM (kT (fun d => (pure d : M D)) (fun d => pure d)) ds = pure ds
  | [], _ => rfl
  | d :: ds, h => by
    unfold kM
    rw [kT_pure (h d List.mem_cons_self), kM_pure fun e he => h e (List.mem_cons_of_mem _ he)]
    rfl
/-- how many unlike ones -/
theorem kL_pure {ds : List D} (hl : ds.length ≤ 62) (h : ∀ d ∈ ds, goodK d = true) : kL (kT (fun d => (pure d : M D)) (fun d => pure d)) ds = pure (.int (nubK (ds.map keyD)).length) := by
  unfold kL
  rw [if_pos hl, kM_pure h]
  rfl
theorem nubK_le : ∀ ks : List NestedKey, (nubK ks).length ≤ ks.length
  | [] => Nat.le_refl _
  | k :: ks => by
    unfold nubK
    have ih := nubK_le ks
    split <;> simp only [List.length_cons] <;> omega
/-- all are counted just when no two are alike -/
theorem nubK_all : ∀ ks : List NestedKey, (nubK ks).length = ks.length ↔ ks.Nodup
  | [] => by simp [nubK]
  | k :: ks => by
    have ih := nubK_all ks
    have le := nubK_le ks
    unfold nubK
    rw [List.nodup_cons]
    split
    · rename_i h
      refine ⟨fun e => ?_, fun e => absurd h e.1⟩
      rw [List.length_cons] at e
      omega
    · rename_i h
      rw [List.length_cons, List.length_cons]
      exact ⟨fun e => ⟨h, ih.mp (by omega)⟩, fun e => by rw [ih.mpr e.2]⟩
theorem nodup_keyD {ds : List D} (h : ∀ d ∈ ds, goodK d = true) : (ds.map keyD).Nodup ↔ ds.Nodup := by
  induction ds with
  | nil => simp
  | cons d ds ih =>
    have hd := h d List.mem_cons_self
    have ht : ∀ e ∈ ds, goodK e = true := fun e he => h e (List.mem_cons_of_mem _ he)
    rw [List.map_cons, List.nodup_cons, List.nodup_cons, ih ht]
    refine and_congr_left fun _ => not_congr ⟨fun hm => ?_, fun hm => List.mem_map.mpr ⟨d, hm, rfl⟩⟩
    obtain ⟨e, he, q⟩ := List.mem_map.mp hm
    have he2 := ht e he
    unfold goodK at hd he2
    simp only [Bool.and_eq_true] at hd he2
    rw [← keyD_inj e d he2.2.1 hd.2.1 q]
    exact he
end VL

set_option maxHeartbeats 2000000
/-! VLDk: a dict of one's own, its keys tuples (of tuples) of ints: {}, d[k] = v, len(d), list(d). -/
namespace VL
open PySem PySem.Spec PyProof.Rows L2
abbrev KL := List (NestedKey × Addr × Value)
section
variable {P : Program} {w : World} {h : Heap} {a : Addr} {L : KL}
def KD0 (w : World) (h : Heap) (a : Addr) (L : KL) : Prop := (a == sysModules) = false ∧ L.length ≤ sizeLine ∧ ∃ o es ep, h.get? a = some o ∧ o.ExactDict ∧ o.data = .dict es ep ∧ es.toList = L.map (fun x => (⟨x.1.hash w, .ref x.2.1, x.2.2⟩ : DictEntry)) ∧ (L.map (·.1)).Nodup
theorem KD0.full (R : KD0 w h a L) (hk : ∀ x ∈ L, KeyAt h x.1 x.2.1) : h.DictOfH (nestedKind P w) a L := by
  obtain ⟨_, _, o, es, ep, h1, h2, h3, h4, h5⟩ := R
  exact ⟨o, es, ep, h1, h2, h3, h4, fun x hx => ⟨(hk x hx).is, (hk x hx).low⟩, h5⟩
theorem KD0.of (hd : (a == sysModules) = false) (hl : L.length ≤ sizeLine) (R : h.DictOfH (nestedKind P w) a L) : KD0 w h a L := by
  obtain ⟨o, es, ep, h1, h2, h3, h4, h5, h6⟩ := R
  exact ⟨hd, hl, o, es, ep, h1, h2, h3, h4, h6⟩
def KDO (w : World) (a : Addr) (L : KL) : HO := .ext fun h => KD0 w h a L
theorem kdo_new {H : Hp} (R : KD0 w h a L) : ObjOk P w H h a (KDO w a L) := by
  have ⟨z, l, o, es, ep, ho, r⟩ := R
  refine ⟨R, ⟨o, ho⟩, fun h1 h2 p k => ?_⟩
  have ⟨z', l', o', es', ep', ho', r'⟩ := p
  exact ⟨z', l', o', es', ep', k o' ho', r'⟩
theorem kd_new (w : World) (h : Heap) (hb : sysModules < h.objs.size) : KD0 w (h.push { cls := .type "dict", data := .dict #[] }) h.objs.size [] :=
  ⟨beq_eq_false_iff_ne.mpr (Ne.symm (Nat.ne_of_lt hb)), Nat.zero_le _, _, #[], 0, Heap.get?_push_size _ rfl, ⟨rfl, rfl, rfl⟩, rfl, rfl, List.nodup_nil⟩
end
/-- its rows show these pairs -/
inductive DkR (K : PySem.W.Frag) (F : Hp) (as : List Addr) : KL → List (D × D) → Prop
  | nil : DkR K F as [] []
  | cons {k : NestedKey} {b : Addr} {u : Value} {v : V} {kd vd : D} {L : KL} {kvs : List (D × D)} : Rep K F as (.ref b) kd → goodK kd = true → k = keyD kd → RelV v u → Rep K F as v vd → DkR K F as L kvs → DkR K F as ((k, b, u) :: L) ((kd, vd) :: kvs)
section
variable {K : PySem.W.Frag} {F F' : Hp} {as as' : List Addr}
theorem DkR.mono (f : ∀ a o, F a = some o → F' a = some o) (g : ∀ (n : Nat) (a : Addr), as[n]? = some a → as'[n]? = some a) : ∀ {L : KL} {kvs : List (D × D)}, DkR K F as L kvs → DkR K F' as' L kvs
  | _, _, .nil => .nil
  | _, _, .cons r1 h1 h2 h3 r2 t => .cons (r1.mono f g) h1 h2 h3 (r2.mono f g) (DkR.mono f g t)
theorem DkR.length : ∀ {L : KL} {kvs : List (D × D)}, DkR K F as L kvs → L.length = kvs.length
  | _, _, .nil => rfl
  | _, _, .cons _ _ _ _ _ t => by rw [List.length_cons, List.length_cons, DkR.length t]
theorem DkR.reps : ∀ {L : KL} {kvs : List (D × D)}, DkR K F as L kvs → Reps K F as (L.map fun x => V.ref x.2.1) (kvs.map (·.1))
  | _, _, .nil => .nil
  | _, _, .cons r1 _ _ _ _ t => .cons r1 (DkR.reps t)
theorem DkR.snoc {k : NestedKey} {b : Addr} {u : Value} {v : V} {kd vd : D} (r1 : Rep K F as (.ref b) kd) (h1 : goodK kd = true) (h2 : k = keyD kd) (h3 : RelV v u) (r2 : Rep K F as v vd) : ∀ {L : KL} {kvs : List (D × D)}, DkR K F as L kvs → DkR K F as (L ++ [(k, b, u)]) (kvs ++ [(kd, vd)])
  | _, _, .nil => .cons r1 h1 h2 h3 r2 .nil
  | _, _, .cons a b c d e t => .cons a b c d e (DkR.snoc r1 h1 h2 h3 r2 t)
theorem DkR.at {k : NestedKey} : ∀ {L : KL} {kvs : List (D × D)}, DkR K F as L kvs → (atKey L k).isSome = kvs.any fun p => decide (keyD p.1 = k)
  | _, _, .nil => rfl
  | _, _, .cons (k := k') _ _ e _ _ t => by
    subst e
    rw [List.any_cons, ← DkR.at t]
    unfold atKey
    rw [List.find?_cons]
    split <;> rename_i q <;> simp_all
theorem DkR.put {k : NestedKey} {u : Value} {v : V} {vd : D} (h3 : RelV v u) (r2 : Rep K F as v vd) : ∀ {L : KL} {kvs : List (D × D)}, DkR K F as L kvs → DkR K F as (L.map (putAt k u)) (kvs.map fun p => if keyD p.1 = k then (p.1, vd) else p)
  | _, _, .nil => .nil
  | _, _, .cons a b c d e t => by
    subst c
    rw [List.map_cons, List.map_cons]
    have ih := DkR.put (k := k) h3 r2 t
    unfold putAt at ih ⊢
    rename_i kd _ _ _
    by_cases q : keyD kd = k
    · simp only [if_pos q]
      exact .cons a b rfl h3 r2 ih
    · simp only [if_neg q]
      exact .cons a b rfl d e ih
theorem goodK_ok {d : D} (h : goodK d = true) : kOk d = true ∧ (keyD d).depth ≤ 8 := by
  unfold goodK at h
  simp only [Bool.and_eq_true, decide_eq_true_eq] at h
  exact ⟨h.2.1, h.2.2⟩
theorem DkR.keys {X : Cx} {pins : List (Addr × Obj)} {σ : L2.St} {H : Hp} {s : Shared} (I : Inv X pins σ H s) (f : ∀ a o, F a = some o → H a = some o) : ∀ {L : KL} {kvs : List (D × D)}, DkR X.K F as L kvs → ∀ x ∈ L, KeyAt s.heap x.1 x.2.1
  | _, _, .nil, x, hx => by cases hx
  | _, _, .cons r1 h1 h2 _ _ t, x, hx => by
    rcases List.mem_cons.mp hx with rfl | hx
    · subst h2
      obtain ⟨g1, g2⟩ := goodK_ok h1
      exact key_at I g1 g2 (r1.mono f fun _ _ z => z)
    · exact DkR.keys I f t x hx
end
def putL (kvs : List (D × D)) (k v : D) : List (D × D) := if (kvs.any fun p => decide (keyD p.1 = keyD k)) = true then kvs.map (fun p => if keyD p.1 = keyD k then (p.1, v) else p) else kvs ++ [(k, v)]
theorem DkR.stored {K : PySem.W.Frag} {F : Hp} {as : List Addr} {b : Addr} {u : Value} {v : V} {kd vd : D} {L : KL} {kvs : List (D × D)} (t : DkR K F as L kvs) (r1 : Rep K F as (.ref b) kd) (h1 : goodK kd = true) (h3 : RelV v u) (r2 : Rep K F as v vd) : DkR K F as (storedH L (keyD kd) b u) (putL kvs kd vd) := by
  unfold storedH putL
  rw [t.at]
  split
  · exact t.put h3 r2
  · exact t.snoc r1 h1 rfl h3 r2
theorem putL_len (kvs : List (D × D)) (k v : D) : (putL kvs k v).length ≤ kvs.length + 1 := by
  unfold putL
  split <;> simp
theorem kd_notCode {w : World} {c : Addr} {L : KL} {x : Str} (z : KDO w c L = LamX.CodeO c x) : False := by
  unfold KDO LamX.CodeO at z
  injection z with z
  have hs : ({ objs := Array.replicate c { cls := .type "x", data := .fields #[] } } : Heap).objs.size = c := by simp
  generalize ({ objs := Array.replicate c { cls := .type "x", data := .fields #[] } } : Heap) = h0 at hs
  have hg := Heap.get?_push_size h0 (o := { cls := .type "x", data := .fields #[.none, .str x default] }) rfl
  rw [hs] at hg
  generalize h0.push { cls := .type "x", data := .fields #[.none, .str x default] } = h1 at hg
  have q := congrFun z h1
  have r : KD0 w h1 c L := by
    rw [q]
    exact ⟨_, _, default, hg, rfl, rfl⟩
  obtain ⟨_, _, o, es, ep, ho, _, hd, _⟩ := r
  rw [hg] at ho
  cases ho
  cases hd
def dkT (w : World) (kvs : List (D × D)) : OwnT where
  R := fun K F as p o => ∃ L, o = KDO w p L ∧ DkR K F as L kvs
  mono := fun f g ⟨L, e, r⟩ => ⟨L, e, r.mono f g⟩
  nt := fun ⟨L, e, _⟩ ps z => by rw [e] at z; cases z
  nc := fun ⟨L, e, _⟩ q z => by rw [e] at z; exact kd_notCode z
section
variable {X : Cx} {pins : List (Addr × Obj)} {σ : L2.St} {H : Hp} {s : Shared} {A : Around} {E : Value → Shared → Prop} {a b : Addr} {L : KL} {pos : Pos}
def tDNewN (w : World) : TE := fun _ H Q => ∀ p, H p = none → Q (.ref p) (upd H p (KDO w p []))
theorem pe_dnewN : PE X (.Dict [] [] pos) (tDNewN X.w) := ⟨fun pins s σ H Q I h =>
  wpAny_Dict_empty ⟨.ref s.heap.objs.size, _, I.laid (a := s.heap.objs.size) (o := KDO X.w s.heap.objs.size []) (t' := s.toks) (fun _ _ q => Heap.get?_push_of_some _ q) (Nat.le_refl _) (kdo_new (kd_new X.w s.heap I.big)), rfl, h _ (I.hok.fresh (Nat.le_refl _))⟩⟩
/-- d[k] = u -/
theorem d_setN {k : NestedKey} {u : Value} {Q : Unit → Shared → Prop} (hu : A.in1.units + 8 < cLine) (I : Inv X pins σ H s) (ha : H a = some (KDO X.w a L)) (hL : ∀ x ∈ L, KeyAt s.heap x.1 x.2.1) (hx : KeyAt s.heap k b) (few : L.length < 1000000)
    (h : ∀ s', Inv X pins σ (upd H a (KDO X.w a (storedH L k b u))) s' → Q () s') : wpAny (model X.prog X.w) A (setItem (.ref a) (.ref b) u) Q E s := by
  have R0 : KD0 X.w s.heap a L := (I.hok a _ ha).1
  have hz : sizeLine = 16777216 := sizeLine_eq
  have hle : (storedH L k b u).length ≤ L.length + 1 := by
    unfold storedH
    split <;> simp
  refine wpAny_setItem_heap (knd := nestedKind X.prog X.w) hu ⟨hx.is, hx.low⟩ (R0.full hL) (fun h' dd hs => h _ ?_) (by omega)
  refine d_write (t' := s.toks + (nestedKind X.prog X.w).draws k) I (by rw [ha]; trivial) hs ?_ (kdo_new (KD0.of R0.1 (by omega) dd))
  obtain ⟨o, _, _, ho, _⟩ := dd
  exact ⟨o, ho⟩
/-- len(d) -/
def rLenN (w : World) (K : PySem.W.Frag) : List V → Hp → VK → Prop := fun xs H Q => ∃ p L kvs F as, xs = [.ref p] ∧ H p = some (KDO w p L) ∧ (∀ a o, F a = some o → H a = some o) ∧ DkR K F as L kvs ∧ Q (.int (kvs.length : Nat)) H
theorem call_lenN : CallR X (.builtin "len") (rLenN X.w X.K) := by
  intro pins s σ H xs us Q I r h
  obtain ⟨p, L, kvs, F, as, rfl, hp, f, dk, q⟩ := h
  obtain ⟨u, rfl, rx⟩ := vals1 r
  obtain rfl : u = .ref p := rx
  have R0 : KD0 X.w s.heap p L := (I.hok p _ hp).1
  have hz : sizeLine = 16777216 := sizeLine_eq
  have l1 := R0.2.1
  refine call_len_dictH R0.1 (R0.full (P := X.prog) (dk.keys I f)) (by omega) ?_
  rw [dk.length]
  exact ⟨.int (kvs.length : Nat), H, I.tok _, ⟨_, rfl⟩, q⟩
/-- list(d) -/
def rListN (w : World) : List V → Hp → VK → Prop := fun xs H Q => ∃ p L, xs = [.ref p] ∧ H p = some (KDO w p L) ∧ ∀ q, H q = none → Q (.ref q) (upd H q (.lst (L.map fun x => V.ref x.2.1)))
theorem vals_refs : ∀ (bs : List Addr), Vals (bs.map V.ref) (bs.map Value.ref)
  | [] => .nil
  | _ :: bs => .cons rfl (vals_refs bs)
theorem call_listN (hcalm : X.calm = true) : CallR X (.type "list") (rListN X.w) := by
  intro pins s σ H xs us Q I r h
  obtain ⟨p, L, rfl, hp, q⟩ := h
  obtain ⟨u, rfl, rx⟩ := vals1 r
  obtain rfl : u = .ref p := rx
  have R0 : KD0 X.w s.heap p L := (I.hok p _ hp).1
  obtain ⟨lo, hl, o, es, ep, h1, h2, h3, h4, h5⟩ := R0
  have raw : s.heap.DictRaw p es ep := ⟨o, h1, h2, h3⟩
  have hsz : es.size = L.length := by rw [← Array.length_toList, h4, List.length_map]
  refine PySem.W.kdl_call (KdlSrc.rawDict lo) (I.ok.hd hcalm) raw (by omega) fun h' tk acc c' hk hD hacc => ?_
  have ea : acc.toList = (L.map fun x => x.2.1).map Value.ref := by
    apply List.ext_getElem?
    intro j
    by_cases hj : j < es.size
    · have hj2 : j < acc.toList.length := by rw [Array.length_toList, hacc.1]; exact hj
      obtain ⟨_, e⟩ := hacc.2 j _ (by rw [← Array.getElem?_toList]; exact List.getElem?_eq_getElem hj2)
      rw [List.getElem?_eq_getElem hj2, e]
      have e2 : es.toList[j]? = some es[j] := by rw [Array.getElem?_toList]; exact Array.getElem?_eq_getElem hj
      rw [h4, List.getElem?_map] at e2
      rw [List.getElem?_map, List.getElem?_map]
      cases z : L[j]? with
      | none => rw [z] at e2; cases e2
      | some x =>
        rw [z] at e2
        have e3 := Option.some.inj e2
        rw [← e3]
        rfl
    · rw [List.getElem?_eq_none (by rw [Array.length_toList, hacc.1]; omega), List.getElem?_eq_none (by simp; omega)]
  have hv : Vals (L.map fun x => V.ref x.2.1) acc.toList := by
    rw [ea]
    have := vals_refs (L.map fun x => x.2.1)
    rw [List.map_map] at this
    exact this
  exact ⟨.ref s.heap.objs.size, upd H s.heap.objs.size (.lst (L.map fun x => V.ref x.2.1)), I.laid (t' := tk) hk (Nat.le_refl _)
    (show ObjOk X.prog X.w _ _ _ (.lst (L.map fun x => V.ref x.2.1)) from ⟨by rw [List.length_map]; exact hl, acc.toList, c', hv, by rw [Array.toArray_toList]; exact hD⟩), rfl, q _ (I.hok.fresh (Nat.le_refl _))⟩
end
/-! ### the state -/
section
variable {K : PySem.W.Frag} {T : List (Addr × Str)} {B F0 F H : Hp} {as0 as : List Addr} {S : Sx} {ρ : List SL} {σ : L2.St}
/-- a new thing of one's own -/
theorem Ext.own {q : Addr} {o : HO} (x : Ext F0 B as0 F H as) (hq : H q = none) : Ext F0 B as0 F (L2.upd H q o) as :=
  ⟨x.f, x.g, fun a u h n t => by rw [upd_ne (ne_of_none (x.k a u h n t) hq)]; exact x.k a u h n t, x.fn, x.an, fun a h => x.m a fun u z => by
    by_cases e : a = q
    · rw [e, hq] at z; cases z
    · exact h u (by rw [upd_ne e]; exact z)⟩
theorem Stt.own {q : Addr} {o : HO} (st : Stt K T F H as S) (hq : H q = none) : Stt K T F (L2.upd H q o) as S :=
  ⟨fun a u h => by rw [upd_ne (ne_of_none (st.fz a u h) hq)]; exact st.fz a u h, st.nt, st.tabs.ext fun b u h => by rw [upd_ne (ne_of_none h hq)]; exact h, st.len, st.nod, fun n a h => by
    obtain ⟨g1, us, es, g2, g3, g4⟩ := st.cel n a h
    exact ⟨g1, us, es, g2, by rw [upd_ne (ne_of_none g3 hq)]; exact g3, g4⟩⟩
theorem Stt.fresh {q : Addr} (st : Stt K T F H as S) (hq : H q = none) : F q = none ∧ q ∉ as := by
  refine ⟨?_, fun z => ?_⟩
  · cases z : F q with
    | none => rfl
    | some u => rw [st.fz q u z] at hq; cases hq
  · obtain ⟨n, hn⟩ := List.getElem?_of_mem z
    obtain ⟨_, _, _, _, h3, _⟩ := st.cel n q hn
    rw [hq] at h3; cases h3
/-- the thing at p, no one else's, is written -/
theorem Stt.updO {p : Addr} {u u' : HO} (st : Stt K T F H as S) (hf : F p = none) (ha : p ∉ as) (hp : H p = some u) (nt : ∀ ps, u ≠ .tbl ps) (nc : ∀ q, u ≠ LamX.CodeO p q) : Stt K T F (L2.upd H p u') as S := by
  refine ⟨fun a o h => by rw [upd_ne (ne_of_none h hf)]; exact st.fz a o h, st.nt, fun q hq => ?_, st.len, st.nod, fun n a h => ?_⟩
  · obtain ⟨ps, h1, h2, h3⟩ := st.tabs q hq
    refine ⟨ps, by rw [upd_ne (ne_of h1 hp (fun z => nt _ z.symm))]; exact h1, h2, fun pos cv hc => ?_⟩
    obtain ⟨c, e1, e2⟩ := h3 pos cv hc
    exact ⟨c, e1, by rw [upd_ne (show c ≠ p from fun z => by subst z; rw [e2] at hp; exact nc _ (Option.some.inj hp).symm)]; exact e2⟩
  · obtain ⟨g1, us, ds, g2, g3, g4⟩ := st.cel n a h
    exact ⟨g1, us, ds, g2, by rw [upd_ne (show a ≠ p from fun e => by subst e; exact ha (List.mem_of_getElem? h))]; exact g3, g4⟩
theorem Ext.updO {p : Addr} {u u' : HO} (x : Ext F0 B as0 F H as) (hb : Lo B p) (hp : H p = some u) (nt : ∀ ps, u ≠ .tbl ps) : Ext F0 B as0 F (L2.upd H p u') as :=
  ⟨x.f, x.g, fun a o h n t => by rw [upd_ne (show a ≠ p from fun e => by subst e; exact hb.not h t)]; exact x.k a o h n t, x.fn, x.an, fun a h => by
    by_cases e : a = p
    · exact e ▸ hb
    · exact x.m a fun o q => h o (by rw [upd_ne e]; exact q)⟩
theorem Slots.setOd {i : Nat} {p : Addr} {u : HO} {t : OwnT} (h : Slots K B F H as ρ σ) (hb : Lo B p) (hf : F p = none) (ha : p ∉ as) (hp : H p = some u) (r : t.R K F as p u) (hn : ∀ (j : Nat) (s : SL), i ≠ j → ρ[j]? = some s → s.isOw = true → σ[j]? ≠ some (some (.ref p))) :
    Slots K B F H as (ρ.set i (.od t)) (σ.set i (some (.ref p))) := by
  refine ⟨by simp [h.len], fun j s o a b => ?_, fun j k es fs n a b oa ob => ?_⟩
  · by_cases e : i = j
    · subst e
      have l1 : i < ρ.length := by
        have := (List.getElem?_eq_some_iff.mp a).1
        simpa using this
      rw [List.getElem?_set_self l1] at a
      rw [List.getElem?_set_self (by rw [← h.len]; exact l1)] at b
      cases a; cases b
      exact ⟨p, u, rfl, hb, hf, ha, hp, r⟩
    · rw [List.getElem?_set_ne e] at a b
      exact h.ok j s o a b
  · by_cases ej : i = j
    · subst ej
      have l1 : i < ρ.length := by
        have := (List.getElem?_eq_some_iff.mp a).1
        simpa using this
      rw [List.getElem?_set_ne n] at b
      rw [List.getElem?_set_self (by rw [← h.len]; exact l1), List.getElem?_set_ne n]
      exact fun z => hn k fs n b ob z.symm
    · by_cases ek : i = k
      · subst ek
        have l1 : i < ρ.length := by
          have := (List.getElem?_eq_some_iff.mp b).1
          simpa using this
        rw [List.getElem?_set_ne ej] at a
        rw [List.getElem?_set_ne ej, List.getElem?_set_self (by rw [← h.len]; exact l1)]
        exact hn j es ej a oa
      · rw [List.getElem?_set_ne ej] at a
        rw [List.getElem?_set_ne ek] at b
        rw [List.getElem?_set_ne ej, List.getElem?_set_ne ek]
        exact h.dis j k es fs n a b oa ob
/-- a thing of one's own is changed -/
theorem Slots.updS {i : Nat} {p : Addr} {u' : HO} {s0 s1 : SL} (sl : Slots K B F H as ρ σ) (hd : ρ[i]? = some s0) (ho : s0.isOw = true) (g1 : σ[i]? = some (some (.ref p))) (hs : SlOk K B F (L2.upd H p u') as s1 (some (.ref p))) :
    Slots K B F (L2.upd H p u') as (ρ.set i s1) σ := by
  have hi : i < ρ.length := (List.getElem?_eq_some_iff.mp hd).1
  refine ⟨by simp [sl.len], fun j s o a b => ?_, fun j k es fs n a b oa ob => ?_⟩
  · by_cases e : i = j
    · subst e
      rw [List.getElem?_set_self hi] at a
      cases a
      rw [g1] at b
      cases b
      exact hs
    · rw [List.getElem?_set_ne e] at a
      have g := sl.ok j s o a b
      cases s with
      | no => trivial
      | fz d => exact g
      | ow es =>
        obtain ⟨q', us, k1, k2, k3, k4, k5, k6⟩ := g
        have e2 : q' ≠ p := fun e2 => sl.dis i j _ _ e hd a ho rfl (by rw [g1, b, k1, e2])
        exact ⟨q', us, k1, k2, k3, k4, by rw [upd_ne e2]; exact k5, k6⟩
      | od t =>
        obtain ⟨q', us, k1, k2, k3, k4, k5, k6⟩ := g
        have e2 : q' ≠ p := fun e2 => sl.dis i j _ _ e hd a ho rfl (by rw [g1, b, k1, e2])
        exact ⟨q', us, k1, k2, k3, k4, by rw [upd_ne e2]; exact k5, k6⟩
  · have da : ∀ (j : Nat) s, (ρ.set i s1)[j]? = some s → s.isOw = true → ∃ s', ρ[j]? = some s' ∧ s'.isOw = true := fun j s h o => by
      by_cases e : i = j
      · subst e; exact ⟨_, hd, ho⟩
      · rw [List.getElem?_set_ne e] at h; exact ⟨s, h, o⟩
    obtain ⟨e1, a1, o1⟩ := da j es a oa
    obtain ⟨e2, b1, o2⟩ := da k fs b ob
    exact sl.dis j k e1 e2 n a1 b1 o1 o2
end
/-! ### rules -/
def putN (kvs : List (D × D)) (k v : D) : M (List (D × D)) := if goodK k = true ∧ kvs.length < 100000 then pure (putL kvs k v) else no
section
variable {γ δ α β : Type} {X : Cx} {T : List (Addr × Str)} {W : WX} {B : Hp} {ρ : List SL} {embL : δ → List SL} {e ke : Expr} {m mk : M D} {pos : Pos}
theorem vs_dnew {x : Str} {p1 pos' : Pos} (i : Nat) (hN : X.N.Nodup) (hi : X.N[i]? = some x := by rfl) (hx : Loc X.env.scope x := by first | exact .inl rfl | exact .inr rfl) (hs : swapsWith (.Dict [] [] p1) (some (.Name x pos')) pos.line X.env = pure false := by rfl)
    (hf : X.fn x = true ∨ X.env.scope.names.lookup x = some .local := by first | exact .inl rfl | exact .inr rfl | assumption) :
    VS X T W B ρ (.Assign [.Name x pos'] (.Dict [] [] p1) pos) embL (fun kvs => ρ.set i (.od (dkT X.w kvs))) (pure (.nx ([] : List (D × D)))) :=
  ⟨(ps_set (i := i) hN hi hx pe_dnewN hs hf).imp fun D σ H ⟨F0, as0, F, as, S, x0, st, sl, p⟩ => fun q hq => by
    obtain ⟨f1, f2⟩ := st.fresh hq
    refine p _ F _ as (x0.own hq) (st.own hq) ?_
    have sl' : Slots X.K B F (upd H q (KDO X.w q [])) as ρ σ := sl.ext (Ext.refl.own hq)
    exact sl'.setOd (t := dkT X.w []) (x0.m q (.none hq)) f1 f2 upd_same ⟨[], rfl, .nil⟩ fun j s n a oa b => sl.notLo a oa (.none hq) b⟩
theorem ve_dlen {x : Str} {kvs : List (D × D)} {p p1 : Pos} (i : Nat) (hm : X.mg "len" = none) (hd : ρ[i]? = some (.od (dkT X.w kvs)) := by rfl) (hN : X.N[i]? = some x := by rfl) (hv : Vis X.env.scope x := by first | exact .inl rfl | exact .inr (.inl rfl) | exact .inr (.inr rfl)) (h1 : (x == ("__debug__" : Str)) = false := by decide) (h2 : (x == ("__classdict__" : Str)) = false := by decide)
    (hg : Gl X "len" := by rfl) (he : starEach [Expr.Name x p1] X.env = (false, eval (.Name x p1) X.env) :: starEach [] X.env := by rfl) (hpl : (backTo pos (starEach [] X.env)).any (·.1) = false := by rfl) :
    VE X T W B ρ (.Call (.Name "len" p) [.Name x p1] [] pos) (pure (.int (kvs.length : Nat))) :=
  ⟨_, pe_callB call_lenN hg hm (by decide +kernel) (pa_cons (pe_var (i := i) hN hv h1 h2) pa_nil he) (by decide) (by decide) he hpl, fun σ F H as S Q st sl p => by
    obtain ⟨q, u, e1, lo, f1, n1, g1, L, e2, r⟩ := sl.getOd hd
    exact ⟨.ref q, e1, q, L, kvs, F, as, rfl, by rw [g1, e2], st.fz, r, pu_ok st (.int _) p⟩⟩
theorem ve_dlist {x : Str} {kvs : List (D × D)} {p p1 : Pos} (i : Nat) (hc : X.calm = true) (hm : X.mg "list" = none) (hd : ρ[i]? = some (.od (dkT X.w kvs)) := by rfl) (hN : X.N[i]? = some x := by rfl) (hv : Vis X.env.scope x := by first | exact .inl rfl | exact .inr (.inl rfl) | exact .inr (.inr rfl)) (h1 : (x == ("__debug__" : Str)) = false := by decide) (h2 : (x == ("__classdict__" : Str)) = false := by decide)
    (hg : Gl X "list" := by rfl) (he : starEach [Expr.Name x p1] X.env = (false, eval (.Name x p1) X.env) :: starEach [] X.env := by rfl) (hpl : (backTo pos (starEach [] X.env)).any (·.1) = false := by rfl) :
    VE X T W B ρ (.Call (.Name "list" p) [.Name x p1] [] pos) (pure (.lst (kvs.map (·.1)))) :=
  ⟨_, pe_callTy (call_listN hc) hg hm (by decide +kernel) (pa_cons (pe_var (i := i) hN hv h1 h2) pa_nil he) (by decide) (by decide) he hpl, fun σ F H as S Q st sl p => by
    obtain ⟨q, u, e1, lo, f1, n1, g1, L, e2, r⟩ := sl.getOd hd
    exact ⟨.ref q, e1, q, L, rfl, by rw [g1, e2], fun q hq => new_lst st hq r.reps p⟩⟩
/-- x[k] = e -/
def sDPutN (w : World) (K : PySem.W.Frag) (td ty tv : TE) : TS := fun D σ H => tv σ H fun v H1 => td σ H1 fun x H2 => ty σ H2 fun y H3 => ∃ a b L kvs F as kd vd, x = .ref a ∧ y = .ref b ∧ H3 a = some (KDO w a L) ∧ (∀ a o, F a = some o → H3 a = some o) ∧ DkR K F as L kvs ∧ goodK kd = true ∧ Rep K F as (.ref b) kd ∧ Rep K F as v vd ∧ kvs.length < 100000 ∧
  ∀ L', DkR K F as L' (putL kvs kd vd) → D.nx σ (upd H3 a (KDO w a L'))
theorem ps_dputN {o i value : Expr} {td ty tv : TE} {pos' : Pos} (hu : X.A.in1.units + 8 < cLine) (ho : PE X o td) (hi : PE X i ty) (hv : PE X value tv) (hs : swapsWith value (some (.Subscript o i pos')) pos.line X.env = pure false) :
    PS X (.Assign [.Subscript o i pos'] value pos) (sDPutN X.w X.K td ty tv) := by
  refine ⟨fun pins s σ H D I h => ?_⟩
  refine wpAny_Assign_Subscript (thn (hv.run pins s σ H _ I h) fun r s1 ⟨v, H1, I1, rv, q1⟩ => thn (ho.run pins s1 σ H1 _ I1 q1) fun u s2 ⟨x, H2, I2, rx, q2⟩ => thn (hi.run pins s2 σ H2 _ I2 q2) fun iv s3 ⟨y, H3, I3, ry, a, b, L, kvs, F, as, kd, vd, ex, ey, g, f, dk, gk, r1, r2, few, q3⟩ => ?_) hs
  subst ex ey
  obtain rfl : u = Value.ref a := rx
  obtain rfl : iv = Value.ref b := ry
  obtain ⟨g1, g2⟩ := goodK_ok gk
  exact d_setN hu I3 g (dk.keys I3 f) (key_at I3 g1 g2 (r1.mono f fun _ _ z => z)) (by rw [dk.length]; omega) fun s4 I4 => ⟨σ, _, I4, q3 _ (dk.stored r1 gk rv r2)⟩
theorem vs_dput {x : Str} {kvs : List (D × D)} {p1 p2 : Pos} (i : Nat) (hu : X.A.in1.units + 8 < cLine) (hv : VE X T W B ρ e m) (hk : VE X T W B ρ ke mk) (hd : ρ[i]? = some (.od (dkT X.w kvs)) := by rfl) (hN : X.N[i]? = some x := by rfl) (hvs : Vis X.env.scope x := by first | exact .inl rfl | exact .inr (.inl rfl) | exact .inr (.inr rfl)) (h1 : (x == ("__debug__" : Str)) = false := by decide) (h2 : (x == ("__classdict__" : Str)) = false := by decide)
    (hs : swapsWith e (some (.Subscript (.Name x p1) ke p2)) pos.line X.env = pure false := by rfl) :
    VS X T W B ρ (.Assign [.Subscript (.Name x p1) ke p2] e pos) embL (fun kvs' => ρ.set i (.od (dkT X.w kvs'))) (m >>= fun v => mk >>= fun k => putN kvs k v >>= fun kvs' => pure (.nx kvs')) := by
  refine ⟨(ps_dputN hu (pe_var (i := i) hN hvs h1 h2) hk.pe hv.pe hs).imp fun D σ H ⟨F0, as0, F, as, S, x0, st, sl, p⟩ => ?_⟩
  refine ⟨F, as, S, st, sl, p.bind x0 fun vd v S1 F1 H1 as1 _ x1 x01 st1 r1 p1 => ?_⟩
  obtain ⟨q, u, e1, lo, f1, n1, g1, L, e2, r⟩ := (sl.ext x1).getOd hd
  refine ⟨.ref q, e1, F1, as1, S1, st1, sl.ext x1, p1.bind x01 fun kd y S2 F2 H2 as2 _ x2 x02 st2 r2 p2 => ?_⟩
  have sl2 := (sl.ext x1).ext x2
  obtain ⟨q', u', e1', lo', f1', n1', g1', L', e2', r'⟩ := sl2.getOd hd
  rw [e1] at e1'
  cases e1'
  unfold putN at p2
  by_cases c : goodK kd = true ∧ kvs.length < 100000
  · rw [if_pos c] at p2
    have hb : ∃ b, y = V.ref b := by
      have g := c.1
      unfold goodK at g
      cases r2 <;> first | exact ⟨_, rfl⟩ | simp [isTup] at g
    obtain ⟨b, rfl⟩ := hb
    refine ⟨q, b, L', kvs, F2, as2, kd, vd, rfl, rfl, by rw [g1', e2'], st2.fz, r', c.1, r2, x2.rep r1, c.2, fun L2 d2 => ?_⟩
    have nt : ∀ ps, u' ≠ .tbl ps := fun ps z => by rw [e2'] at z; cases z
    exact p2 σ F2 _ as2 (x02.updO lo' g1' nt) (st2.updO f1' n1' g1' nt fun x z => by rw [e2'] at z; exact kd_notCode z) (sl2.updS hd rfl e1 (s1 := .od (dkT X.w (putL kvs kd vd))) ⟨q, _, rfl, lo', f1', n1', upd_same, L2, rfl, d2⟩)
  · rw [if_neg c] at p2
    exact False.elim p2
end
end VL

set_option maxHeartbeats 2000000
/-! VLOps: slices with a step, * of lists, insert, dict(enumerate(xs)). -/
namespace VL
open PySem PySem.Spec PyProof.Rows L2
/-! ### a[lo:hi:step], a list -/
def pickA {α : Type} (xs : List α) (lo hi st : Option Int) : List α := (sliceRange (sliceBounds lo hi st xs.length).1 (sliceBounds lo hi st xs.length).2.1 (sliceBounds lo hi st xs.length).2.2).filterMap (xs[·]?)
theorem slicePick_toList (its : List Value) (lo hi st : Option Int) : (slicePick its.toArray lo hi st).toList = pickA its lo hi st := by
  unfold slicePick pickA
  simp
theorem vals_pick {xs : List V} {its : List Value} (r : Vals xs its) (lo hi st : Option Int) : Vals (pickA xs lo hi st) (pickA its lo hi st) := by
  unfold pickA
  rw [r.length]
  generalize sliceRange _ _ _ = is
  induction is with
  | nil => exact .nil
  | cons i is ih =>
    rw [List.filterMap_cons, List.filterMap_cons]
    cases e : xs[i]? with
    | none => rw [r.none_of e]; exact ih
    | some x =>
      obtain ⟨u, h1, h2⟩ := r.get e
      rw [h1]
      exact .cons h2 ih
theorem reps_pick {K : PySem.W.Frag} {F : Hp} {as : List Addr} {xs : List V} {ds : List D} (r : Reps K F as xs ds) (lo hi st : Option Int) : Reps K F as (pickA xs lo hi st) (pickA ds lo hi st) := by
  unfold pickA
  rw [r.length]
  generalize sliceRange _ _ _ = is
  induction is with
  | nil => exact .nil
  | cons i is ih =>
    rw [List.filterMap_cons, List.filterMap_cons]
    cases e : xs[i]? with
    | none =>
      have : ds[i]? = none := by
        rw [List.getElem?_eq_none_iff] at e ⊢
        rw [← r.length]; exact e
      rw [this]; exact ih
    | some x =>
      obtain ⟨d, h1, h2⟩ := r.get e
      rw [h1]
      exact .cons h2 ih
section
variable {X : Cx} {T : List (Addr × Str)} {W : WX} {B : Hp} {ρ : List SL} {a b e ste : Expr} {lo hi : Option Expr} {te : TE} {tl th ts : TO} {ma mb m : M D} {p2 pos : Pos}
def tSl3 (K : PySem.W.Frag) (te : TE) (tl th ts : TO) : TE := fun σ H Q => te σ H fun x H1 => tl σ H1 fun l H2 => th σ H2 fun u H3 => ts σ H3 fun k H4 => ∃ a xs, x = .ref a ∧ SqL K H4 a xs ∧ k ≠ some 0 ∧ ∀ p, H4 p = none → Q (.ref p) (upd H4 p (.lst (pickA xs l u k)))
theorem pe_slice3 (he : PE X e te) (hl : PO X lo tl) (hu : PO X hi th) (hk : PO X (some ste) ts) : PE X (.Subscript e (.Slice lo hi (some ste) p2) pos) (tSl3 X.K te tl th ts) := by
  refine ⟨fun pins s σ H Q I h => ?_⟩
  refine Subscript_ (thn (he.run pins s σ H _ I h) fun v s1 ⟨x, H1, I1, r1, q1⟩ => ?_)
  refine wpAny_Slice (thn (hl.run pins s1 σ H1 _ I1 q1) fun vl s2 ⟨l, H2, I2, pl, q2⟩ => thn (hu.run pins s2 σ H2 _ I2 q2) fun vu s3 ⟨u, H3, I3, pu, q3⟩ => thn (hk.run pins s3 σ H3 _ I3 q3) fun vs s4 ⟨k, H4, I4, ps, a, xs, ex, hx, h0, q⟩ => ?_)
  subst ex
  cases r1
  have I5 : Inv X pins σ H4 { s4 with heap := s4.heap.push { cls := .type "slice", data := .fields #[vl, vu, vs] } } := I4.kept (t' := s4.toks) fun b ob q => Heap.get?_push_of_some _ q
  obtain ⟨its, r, ht, hz⟩ := I5.list hx
  have hlen := r.length
  show wpAny (model X.prog X.w) X.A (subscriptTail e (.Slice lo hi (some ste) p2) (.ref a) (.ref s4.heap.objs.size)) (EP X pins σ Q) X.xe { s4 with heap := s4.heap.push { cls := .type "slice", data := .fields #[vl, vu, vs] } }
  refine tail_any (ops := [.ref a, .ref s4.heap.objs.size]) ht.isList.typeIs (PySem.slot_list_getitem.lookup) ?_ (by with_unfolding_all rfl)
  refine wpAny_getItem_list_slice ht.isList (Heap.IsSliceOf.new _ vl vu vs) pl pu ps h0 ?_ (by rw [List.size_toArray]; omega)
  refine ⟨.ref _, _, I5.laid (t' := s4.toks) (o := .lst (pickA xs l u k)) (fun b ob q => Heap.get?_push_of_some _ q) (Nat.le_refl _) ?_, rfl, q _ (I5.hok.fresh (Nat.le_refl _))⟩
  have hv := vals_pick r l u k
  rw [← slicePick_toList] at hv
  refine ⟨?_, _, 0, hv, by rw [Array.toArray_toList]; exact Heap.get?_push_size _ rfl⟩
  have h9 := slicePick_size_le its.toArray l u k
  have h8 := hv.length
  have h7 : (slicePick its.toArray l u k).toList.length = (slicePick its.toArray l u k).size := Array.length_toList
  have h6 : its.toArray.size = its.length := List.size_toArray ..
  omega
def slice3D (x : D) (lo hi st : Option Int) : M D := if st = some 0 then no else match x with
  | .lst xs => pure (.lst (pickA xs lo hi st))
  | _ => no
theorem ve_slice3 {ml mh mk : M (Option Int)} (ha : VE X T W B ρ a ma) (hl : VO X T W B ρ lo ml) (hh : VO X T W B ρ hi mh) (hk : VO X T W B ρ (some ste) mk) : VE X T W B ρ (.Subscript a (.Slice lo hi (some ste) p2) pos) (ma >>= fun x => ml >>= fun l => mh >>= fun h => mk >>= fun k => slice3D x l h k) :=
  let ⟨_, pa, sa⟩ := ha.t; let ⟨_, pl, sl'⟩ := hl.t; let ⟨_, ph, sh⟩ := hh.t; let ⟨_, pk, sk⟩ := hk.t
  ⟨_, pe_slice3 pa pl ph pk, fun σ F H as S Q st sl p =>
    sa σ F H as S _ st sl (p.bind fun d1 v1 S1 F1 H1 as1 _ e1 st1 r1 p1 =>
      sl' σ F1 H1 as1 S1 _ st1 (sl.ext e1) (p1.bind fun d2 v2 S2 F2 H2 as2 _ e2 st2 r2 p2 => by
        obtain rfl : v2 = d2 := r2
        exact sh σ F2 H2 as2 S2 _ st2 ((sl.ext e1).ext e2) (p2.bind fun d3 v3 S3 F3 H3 as3 _ e3 st3 r3 p3 => by
          obtain rfl : v3 = d3 := r3
          exact sk σ F3 H3 as3 S3 _ st3 (((sl.ext e1).ext e2).ext e3) (p3.bind fun d4 v4 S4 F4 H4 as4 _ e4 st4 r4 p4 => by
            obtain rfl : v4 = d4 := r4
            unfold slice3D at p4
            by_cases c : v4 = some 0
            · rw [if_pos c] at p4; exact False.elim p4
            · rw [if_neg c] at p4
              cases d1 with
              | lst xs =>
                obtain ⟨a, vs, rfl, h1, r⟩ := (e4.rep (e3.rep (e2.rep r1))).lstAt
                exact ⟨a, vs, rfl, SqL.of (st4.fz _ _ h1), c, fun q hq => new_lst st4 hq (reps_pick r _ _ _) p4⟩
              | _ => exact False.elim p4))))⟩
end
/-! ### a list times an int -/
def mulD : D → D → M D
  | .lst xs, .int k => if -(2 ^ 63) ≤ k ∧ k < 2 ^ 63 ∧ xs.length * k.toNat ≤ lim then pure (.lst (List.replicate k.toNat xs).flatten) else no
  | x, y => mulI x y
theorem reps_rep {K : PySem.W.Frag} {F : Hp} {as : List Addr} {xs : List V} {ds : List D} (r : Reps K F as xs ds) : ∀ n : Nat, Reps K F as (List.replicate n xs).flatten (List.replicate n ds).flatten
  | 0 => .nil
  | n + 1 => by
    rw [List.replicate_succ, List.replicate_succ, List.flatten_cons, List.flatten_cons]
    exact r.append (reps_rep r n)
section
variable {X : Cx} {K : PySem.W.Frag} {mg : Str → Option Value} {T : List (Addr × Str)}
def rMulD : R2 := fun x y H Q => rI MulOk (fun i j => .int (i * j)) x y H Q ∨ rRep x y H Q
theorem op_mulD : OpR X (binaryOp .Mult) rMulD := OpR.or op_mulV op_rep
theorem d_mulD : OpD K mg T rMulD mulD := by
  intro F H as S x y dx dy Q E st rx ry p
  by_cases c : ∃ xs k, dx = .lst xs ∧ dy = .int k
  · obtain ⟨xs, k, rfl, rfl⟩ := c
    obtain ⟨a, vs, rfl, h1, r⟩ := rx.lstAt
    cases ry
    by_cases c : -(2 ^ 63) ≤ k ∧ k < 2 ^ 63 ∧ xs.length * k.toNat ≤ lim
    · rw [show mulD (.lst xs) (.int k) = _ from if_pos c] at p
      refine .inr ⟨a, k, vs, rfl, rfl, st.fz _ _ h1, c.1, c.2.1, ?_, fun q hq => new_lst st hq (reps_rep r _) p⟩
      rw [r.length]
      exact lim_line c.2.2
    · rw [show mulD (.lst xs) (.int k) = _ from if_neg c] at p
      exact False.elim p
  · have e : mulD dx dy = mulI dx dy := by
      cases dx <;> first | rfl | (cases dy <;> first | rfl | exact absurd ⟨_, _, rfl, rfl⟩ c)
    rw [e] at p
    exact .inl (d_mul st rx ry p)
end
/-! ### is, is not of flags -/
def isBD : D → D → M D
  | .bl a, .bl b => pure (.bl (decide (a = b)))
  | _, _ => no
def isntBD : D → D → M D
  | .bl a, .bl b => pure (.bl (!decide (a = b)))
  | _, _ => no
section
variable {X : Cx} {K : PySem.W.Frag} {mg : Str → Option Value} {T : List (Addr × Str)}
theorem d_isB : OpD K mg T rIsB isBD := by
  intro F H as S x y dx dy Q E st rx ry p
  cases dx with
  | bl a =>
    cases dy with
    | bl b => cases rx; cases ry; exact ⟨a, b, rfl, rfl, pu_ok st (.bl _) p⟩
    | _ => exact False.elim p
  | _ => exact False.elim p
theorem d_isntB : OpD K mg T rNotB isntBD := by
  intro F H as S x y dx dy Q E st rx ry p
  cases dx with
  | bl a =>
    cases dy with
    | bl b => cases rx; cases ry; exact ⟨a, b, rfl, rfl, pu_ok st (.bl _) p⟩
    | _ => exact False.elim p
  | _ => exact False.elim p
end
/-! ### x.insert(i, e), x a list of one's own, i an int from 0 on -/
def insL (ds : List D) (i d : D) : M (List D) := match i with
  | .int k => if 0 ≤ k ∧ k < 2 ^ 63 ∧ ds.length < lim then pure (ds.take k.toNat ++ [d] ++ ds.drop k.toNat) else no
  | _ => no
section
variable {γ δ α β : Type} {X : Cx} {T : List (Addr × Str)} {W : WX} {B : Hp} {ρ : List SL} {embL : δ → List SL} {e ie : Expr} {m mi : M D} {pos : Pos}
theorem vs_insert {x : Str} {ds : List D} {p1 p2 p3 : Pos} (i : Nat) (hi : VE X T W B ρ ie mi) (he : VE X T W B ρ e m) (hd : ρ[i]? = some (.ow ds) := by rfl) (hN : X.N[i]? = some x := by rfl) (hv : Vis X.env.scope x := by first | exact .inl rfl | exact .inr (.inl rfl) | exact .inr (.inr rfl)) (h1 : (x == ("__debug__" : Str)) = false := by decide) (h2 : (x == ("__classdict__" : Str)) = false := by decide)
    (hb : attributeBase (.Name x p1) "insert" X.env (eval (.Name x p1) X.env) = eval (.Name x p1) X.env := by rfl)
    (hq : (((backTo p3 (starEach (ie :: [e]) X.env)).all (!·.1) && (backToKw p3 (keywordEach [] X.env)).all (·.1.isSome)) && decide ((ie :: [e]).length + ([] : List Keyword).length + (if ([] : List Keyword).isEmpty then 0 else 1) < 30)) = true := by rfl) (hl : (p2.endLine == p3.line) = true := by rfl)
    (hst : starEach (ie :: [e]) X.env = (false, eval ie X.env) :: starEach [e] X.env := by rfl) (hst2 : starEach [e] X.env = (false, eval e X.env) :: starEach [] X.env := by rfl) (hpl : (backTo p3 (starEach [e] X.env)).any (·.1) = false := by rfl) (hs : swapsWith (.Call (.Attribute (.Name x p1) "insert" p2) [ie, e] [] p3) none pos.line X.env = pure false := by rfl) :
    VS X T W B ρ (.Expr (.Call (.Attribute (.Name x p1) "insert" p2) [ie, e] [] p3) pos) embL (fun es => ρ.set i (.ow es)) (mi >>= fun k => m >>= fun d => insL ds k d >>= fun es => pure (.nx es)) :=
  ⟨(ps_expr (pe_bm PySem.F.plainAttrs_list PySem.F.slot_list_insert PySem.F.type_list_insert mt_insert (pe_var (i := i) hN hv h1 h2) (pa_cons hi.pe (pa_cons he.pe pa_nil hst2) hst) hb hq hl hst hpl) hs).imp fun D σ H ⟨F0, as0, F, as, S, x0, st, sl, p⟩ => by
    obtain ⟨q, vs, g1, g2, g3, g4, g5, g6⟩ := sl.getOw hd
    refine ⟨.ref q, g1, .inl ⟨rfl, vs, SqL.of g5⟩, F, as, S, st, sl, p.bind x0 fun k kv S1 F1 H1 as1 _ x1 x01 st1 rk p1 => ?_⟩
    refine ⟨F1, as1, S1, st1, sl.ext x1, p1.bind x01 fun d v S2 F2 H2 as2 _ x2 x02 st2 r p2 => ?_⟩
    have sl2 := (sl.ext x1).ext x2
    obtain ⟨q', vs', h1, h2, h3, h4, h5, h6⟩ := sl2.getOw hd
    rw [g1] at h1
    cases h1
    unfold insL at p2
    cases k with
    | int k =>
      cases rk
      by_cases c : 0 ≤ k ∧ k < 2 ^ 63 ∧ ds.length < lim
      · simp only [if_pos c] at p2
        refine ⟨q, vs', k, v, rfl, rfl, h5, ?_, c.1, c.2.1, ?_⟩
        · rw [h6.length]
          have e : sizeLine = 16777216 := sizeLine_eq
          unfold lim at c
          omega
        · have nt : ∀ ps, HO.lst vs' ≠ .tbl ps := fun ps z => by cases z
          exact p2 σ F2 _ as2 (x02.updO h2 h5 nt) (st2.updO h3 h4 h5 nt fun x z => by cases z) (sl2.updS hd rfl g1 (s1 := .ow (ds.take k.toNat ++ [d] ++ ds.drop k.toNat)) ⟨q, _, rfl, h2, h3, h4, upd_same, ((h6.take _).append (.cons r .nil)).append (h6.drop _)⟩)
      · simp only [if_neg c] at p2
        exact False.elim p2
    | _ => exact False.elim p2⟩
end
/-- len of a list of one's own -/
theorem ve_lenOw {X : Cx} {T : List (Addr × Str)} {W : WX} {B : Hp} {ρ : List SL} {x : Str} {ds : List D} {p p1 pos : Pos} (i : Nat) (hm : X.mg "len" = none) (hd : ρ[i]? = some (.ow ds) := by rfl) (hN : X.N[i]? = some x := by rfl) (hv : Vis X.env.scope x := by first | exact .inl rfl | exact .inr (.inl rfl) | exact .inr (.inr rfl)) (h1 : (x == ("__debug__" : Str)) = false := by decide) (h2 : (x == ("__classdict__" : Str)) = false := by decide)
    (hg : Gl X "len" := by rfl) (he : starEach [Expr.Name x p1] X.env = (false, eval (.Name x p1) X.env) :: starEach [] X.env := by rfl) (hpl : (backTo pos (starEach [] X.env)).any (·.1) = false := by rfl) :
    VE X T W B ρ (.Call (.Name "len" p) [.Name x p1] [] pos) (pure (.int (ds.length : Nat))) :=
  ⟨_, pe_callB call_len hg hm (by decide +kernel) (pa_cons (pe_var (i := i) hN hv h1 h2) pa_nil he) (by decide) (by decide) he hpl, fun σ F H as S Q st sl p => by
    obtain ⟨q, vs, g1, g2, g3, g4, g5, g6⟩ := sl.getOw hd
    exact ⟨.ref q, g1, _, _, rfl, .inl ⟨vs, SqL.of g5, g6.length.symm⟩, pu_ok st (.int _) p⟩⟩
/-! ### dict(enumerate(xs)) -/
section
variable {X : Cx} {T : List (Addr × Str)} {W : WX} {B : Hp} {ρ : List SL} {e : Expr} {te : TE} {m : M D} {p p2 pos pos2 : Pos}
def tDictE (K : PySem.W.Frag) (te : TE) : TE := fun σ H Q => te σ H fun x H1 => ∃ a xs, x = .ref a ∧ SqL K H1 a xs ∧ ∀ kvs q, H1 q = none → Q (.ref q) (upd H1 q (.dK kvs))
theorem kv_enum : ∀ {xs : List V} {its : List Value} (n : Nat), Vals xs its → KV ((xs.zipIdx n).map fun p => ((Sum.inl (p.2 : Int) : Key), p.1)) ((its.zipIdx n).map fun p => ((Sum.inl (p.2 : Int) : Key), p.1))
  | _, _, _, .nil => .nil
  | _, _, n, .cons r t => .cons ⟨rfl, r⟩ (kv_enum (n + 1) t)
theorem pe_dictE (hc : X.calm = true) (hg : Gl X "dict") (hm : X.mg "dict" = none) (hg2 : Gl X "enumerate") (hm2 : X.mg "enumerate" = none) (he : PE X e te) (na : starEach [e] X.env = (false, eval e X.env) :: starEach [] X.env := by rfl)
    (nb : starEach [Expr.Call (.Name "enumerate" p2) [e] [] pos2] X.env = (false, eval (.Call (.Name "enumerate" p2) [e] [] pos2) X.env) :: starEach [] X.env := by rfl) : PE X (.Call (.Name "dict" p) [.Call (.Name "enumerate" p2) [e] [] pos2] [] pos) (tDictE X.K te) := by
  refine ⟨fun pins s σ H Q I h => ?_⟩
  refine Call_ (ld_blt I hg hm boot_dict (PyProof.Rows.callWith_type1 (args_cons ?_ nb) nb))
  refine Call_ (ld_blt I hg2 hm2 boot_enumerate (PyProof.Rows.callWith_type1 (args_cons (thn (he.run pins s σ H _ I h) fun u s1 ⟨x, H1, I1, r1, a, xs, ex, hx, q⟩ => args_nil ?_) na) na))
  subst ex
  cases r1
  obtain ⟨its, rv, p', hz⟩ := I1.list hx
  refine call_enumerate_list p'.isList fun h' he' hit hsz hk => args_nil ?_
  have I2 : Inv X pins σ H1 { s1 with heap := h' } := I1.kept (t' := s1.toks) hk
  have la : a < s1.heap.objs.size := by
    obtain ⟨o, ho, _⟩ := p'.isList
    exact Heap.lt_size ho
  have hlen := rv.length
  have hks : (its.zipIdx.map fun p => ((Sum.inl (p.2 : Int) : Key), p.1)).length = its.toArray.size := by simp
  refine call_dict_pairs (knd := mixKind X.prog X.w) (kvs := its.zipIdx.map fun p => ((Sum.inl (p.2 : Int) : Key), p.1)) (PairArg.enumerate (s1.heap.objs.size + 1) s1.heap.objs.size a (Nat.succ_ne_self _) (Nat.ne_of_lt (Nat.lt_succ_of_lt la)) (Nat.ne_of_lt la) its.toArray) (I2.ok.hd hc)
    ⟨⟨_, he'⟩, hit, p'.isList.at fun o e => hk _ o e⟩ ⟨hks, fun i key v ⟨⟨t, ek⟩, hv⟩ => ⟨.inl (i : Int), ?_, ?_⟩⟩ (by rw [List.size_toArray]; omega) fun h'' tk hd' hk' => ?_
  · rw [List.getElem?_map, List.getElem?_zipIdx]
    rw [List.getElem?_toArray] at hv
    rw [hv]
    simp
  · subst ek
    exact kV_is (k := .inl (i : Int)) ⟨t, rfl⟩
  · have I3 : ∀ b o, s1.heap.get? b = some o → h''.get? b = some o := fun b o e => hk' b o (fun z => by
      have l := Heap.lt_size e
      have z : b = s1.heap.objs.size + 1 ∨ b = s1.heap.objs.size := by simpa using z
      rcases z with z | z
      · rw [z] at l; exact Nat.lt_irrefl _ (Nat.lt_of_succ_lt l)
      · rw [z] at l; exact Nat.lt_irrefl _ l) (hk b o e)
    have hm' : (h'.objs.size == sysModules) = false := beq_eq_false_iff_ne.mpr (Nat.ne_of_gt I2.big)
    have hkv := KV.merge (kv_enum 0 rv) (.nil : KV ([] : List (Key × V)) [])
    have I4 : Inv X pins σ (upd H1 h'.objs.size (.dK (mergeK [] (xs.zipIdx.map fun p => ((Sum.inl (p.2 : Int) : Key), p.1))))) { s1 with heap := h'', toks := tk } := by
      refine I1.laid (t' := tk) I3 (by rw [hsz]; omega) (show ObjOk X.prog X.w _ _ _ (.dK _) from ⟨?_, hm', _, hkv, hd'⟩)
      refine Nat.le_trans (length_mergeK _ _) ?_
      simp
      omega
    exact ⟨.ref h'.objs.size, _, I4, rfl, q _ _ (I2.hok.fresh (Nat.le_refl _))⟩
def dictE : D → M D
  | .lst _ => pure .emp
  | _ => no
theorem ve_dictE (hc : X.calm = true) (he : VE X T W B ρ e m) (hm : X.mg "dict" = none) (hm2 : X.mg "enumerate" = none) (hg : Gl X "dict" := by rfl) (hg2 : Gl X "enumerate" := by rfl) (na : starEach [e] X.env = (false, eval e X.env) :: starEach [] X.env := by rfl)
    (nb : starEach [Expr.Call (.Name "enumerate" p2) [e] [] pos2] X.env = (false, eval (.Call (.Name "enumerate" p2) [e] [] pos2) X.env) :: starEach [] X.env := by rfl) : VE X T W B ρ (.Call (.Name "dict" p) [.Call (.Name "enumerate" p2) [e] [] pos2] [] pos) (m >>= dictE) := by
  obtain ⟨t, pe, sn⟩ := he.t
  refine ⟨_, pe_dictE hc hg hm hg2 hm2 pe na nb, fun σ F H as S Q st sl p => sn σ F H as S _ st sl (p.bind fun d v S1 F1 H1 as1 _ x1 st1 r p1 => ?_)⟩
  cases d with
  | lst xs =>
    obtain ⟨a, vs, rfl, h1, r1⟩ := r.lstAt
    exact ⟨a, vs, rfl, SqL.of (st1.fz _ _ h1), fun kvs q hq => new_ok st1 hq (fun _ => by simp) (.emp upd_same) p1⟩
  | _ => exact False.elim p1
end
end VL

/-! VLRg: list(range(e)), tuple(range(e)). -/
namespace VL
open PySem PySem.Spec PyProof.Rows L2
section
variable {X : Cx} {T : List (Addr × Str)} {W : WX} {B : Hp} {ρ : List SL} {e : Expr} {m : M D} {p p2 pos pos2 : Pos}
/-- list(range(j)) -/
def listRg : D → M D
  | .int j => if -1000000 ≤ j ∧ j ≤ 1000000 then pure (.lst (rangeL 0 j.toNat)) else no
  | _ => no
theorem reps_rg {K : PySem.W.Frag} {F : Hp} {as : List Addr} {j : Int} : Reps K F as (rgV 0 j) (rangeL 0 j.toNat) := by
  unfold rgV rangeL
  rw [Int.sub_zero]
  generalize List.range j.toNat = l
  induction l with
  | nil => exact .nil
  | cons i l ih => exact .cons (.int _) ih
theorem ve_listRg (hc : X.calm = true) (he : VE X T W B ρ e m) (hm : X.mg "list" = none) (hm2 : X.mg "range" = none) (hg : Gl X "list" := by rfl) (hg2 : Gl X "range" := by rfl) (na : starEach [e] X.env = (false, eval e X.env) :: starEach [] X.env := by rfl)
    (nb : starEach [Expr.Call (.Name "range" p2) [e] [] pos2] X.env = (false, eval (.Call (.Name "range" p2) [e] [] pos2) X.env) :: starEach [] X.env := by rfl) : VE X T W B ρ (.Call (.Name "list" p) [.Call (.Name "range" p2) [e] [] pos2] [] pos) (m >>= listRg) := by
  obtain ⟨t, pe, sn⟩ := he.t
  refine ⟨_, pe_listRg hc hg hm (prg_1 hg2 hm2 pe na) nb, fun σ F H as S Q st sl p => sn σ F H as S _ st sl (p.bind fun d v S1 F1 H1 as1 _ x1 st1 r p1 => ?_)⟩
  cases d with
  | int j =>
    cases r
    unfold listRg at p1
    by_cases c : -1000000 ≤ j ∧ j ≤ 1000000
    · simp only [if_pos c] at p1
      refine ⟨j, rfl, ?_⟩
      refine ⟨⟨by omega, by omega, by omega, by omega, by omega⟩, fun q hq => new_lst st1 hq reps_rg p1⟩
    · simp only [if_neg c] at p1
      exact False.elim p1
  | _ => exact False.elim p1
end
end VL

set_option maxHeartbeats 2000000
/-! VLIn: in, not in; zip, enumerate. -/
namespace VL
open PySem PySem.Spec PyProof.Rows L2
section
variable {X : Cx} {K : PySem.W.Frag} {mg : Str → Option Value} {T : List (Addr × Str)}
def rInX (K : PySem.W.Frag) (neg : Bool) : R2 := fun x y H Q => ∃ d ds, Dp K H x d ∧ SeqAt.shaped d = true ∧ ((Dp K H y (.list ds) ∧ SeqAt.shaped (.list ds) = true) ∨ (Dp K H y (.tuple ds) ∧ SeqAt.shaped (.tuple ds) = true)) ∧ Q (.bl (neg != ds.any fun z => PyData.eqv z d)) H
theorem op_inX (hu : X.A.units + 65 < cLine) : OpR X (compareOp .In) (rInX X.K false) := by
  intro pins s σ H x y v u Q I rx ry h
  obtain ⟨d, ds, hd, sd, he, q⟩ := h
  obtain ⟨as, r1⟩ := Dp.reads I d x v hd rx
  rcases he with ⟨he, se⟩ | ⟨he, se⟩
  · obtain ⟨bs, r2⟩ := Dp.reads I (.list ds) y u he ry
    exact SeqAt.in_list_reads r2 r1 (SeqAt.canLay_of_shaped se) (SeqAt.canLay_of_shaped sd) (room_in_shaped sd hu) ⟨.bl _, H, I, rfl, by simpa using q⟩
  · obtain ⟨bs, r2⟩ := Dp.reads I (.tuple ds) y u he ry
    exact SeqAt.in_tuple_reads r2 r1 (SeqAt.canLay_of_shaped se) (SeqAt.canLay_of_shaped sd) (room_in_shaped sd hu) ⟨.bl _, H, I, rfl, by simpa using q⟩
theorem op_ninX (hu : X.A.units + 65 < cLine) : OpR X (compareOp .NotIn) (rInX X.K true) := by
  intro pins s σ H x y v u Q I rx ry h
  obtain ⟨d, ds, hd, sd, he, q⟩ := h
  obtain ⟨as, r1⟩ := Dp.reads I d x v hd rx
  rcases he with ⟨he, se⟩ | ⟨he, se⟩
  · obtain ⟨bs, r2⟩ := Dp.reads I (.list ds) y u he ry
    exact SeqAt.notIn_list_reads r2 r1 (SeqAt.canLay_of_shaped se) (SeqAt.canLay_of_shaped sd) (room_in_shaped sd hu) ⟨.bl _, H, I, rfl, by simpa using q⟩
  · obtain ⟨bs, r2⟩ := Dp.reads I (.tuple ds) y u he ry
    exact SeqAt.notIn_tuple_reads r2 r1 (SeqAt.canLay_of_shaped se) (SeqAt.canLay_of_shaped sd) (room_in_shaped sd hu) ⟨.bl _, H, I, rfl, by simpa using q⟩
def inB (neg : Bool) (x y : D) : M D := match y with
  | .tup ys => if x.cmp = true ∧ (D.tup ys).cmp = true then pure (.bl (neg != (D.pys ys).any fun z => PyData.eqv z x.py)) else no
  | .lst ys => if x.cmp = true ∧ (D.lst ys).cmp = true then pure (.bl (neg != (D.pys ys).any fun z => PyData.eqv z x.py)) else no
  | _ => no
def inD (x y : D) : M D := inB false x y
def ninD (x y : D) : M D := inB true x y
theorem d_inB (neg : Bool) : OpD K mg T (rInX K neg) (inB neg) := by
  intro F H as S x y dx dy Q E st rx ry p
  unfold inB at p
  cases dy with
  | tup ys =>
    simp only at p
    by_cases c : dx.cmp = true ∧ (D.tup ys).cmp = true
    · rw [if_pos c] at p
      have c1 := Bool.and_eq_true_iff.mp c.1
      have c2 := Bool.and_eq_true_iff.mp c.2
      exact ⟨dx.py, D.pys ys, rx.dp st.fz c1.1, c1.2, .inr ⟨ry.dp st.fz c2.1, c2.2⟩, pu_ok st (.bl _) p⟩
    · rw [if_neg c] at p
      exact False.elim p
  | lst ys =>
    simp only at p
    by_cases c : dx.cmp = true ∧ (D.lst ys).cmp = true
    · rw [if_pos c] at p
      have c1 := Bool.and_eq_true_iff.mp c.1
      have c2 := Bool.and_eq_true_iff.mp c.2
      exact ⟨dx.py, D.pys ys, rx.dp st.fz c1.1, c1.2, .inl ⟨ry.dp st.fz c2.1, c2.2⟩, pu_ok st (.bl _) p⟩
    · rw [if_neg c] at p
      exact False.elim p
  | _ => exact False.elim p
theorem d_in : OpD K mg T (rInX K false) inD := d_inB false
theorem d_nin : OpD K mg T (rInX K true) ninD := d_inB true
theorem _root_.L2.Room.u65 {k : Nat} {A : Around} (r : Room k A) : A.units + 65 < cLine := by have := r.un; omega
end
/-! ### zip, enumerate -/
section
variable {K : PySem.W.Frag} {a b : Addr} {xs ys : List V}
theorem walk_zipT {n : Nat} (hn : n = min xs.length ys.length) : Walk (RZ.ItzT K a b) n (fun H => SqT K H a xs ∧ SqT K H b ys) (YPair (fun i => xs[i]?) (fun i => ys[i]?)) := by
  subst hn
  refine ⟨fun i _ hi q => ?_, fun _ q => ⟨xs, ys, q.1, q.2, by omega⟩, fun i H v H' _ q y => ?_⟩
  · have h1 : i < xs.length := by omega
    have h2 : i < ys.length := by omega
    exact ⟨xs, ys, xs[i], ys[i], q.1, q.2, by simp [h1], by simp [h2]⟩
  · obtain ⟨T, x, z, h1, h2, h3, h4, h5⟩ := y
    exact ⟨T, x, z, h1, h2, h3, h4 xs q.1, h5 ys q.2⟩
end
def zipD (xs ys : List D) : List D := (xs.zip ys).map fun d => .tup [d.1, d.2]
def zip2 : List D → M (List D)
  | [.lst xs, .lst ys] => pure (zipD xs ys)
  | [.tup xs, .tup ys] => pure (zipD xs ys)
  | _ => no
def enumL (xs : List D) : List D := zipD ((List.range xs.length).map fun (i : Nat) => .int i) xs
def enum1 : List D → M (List D)
  | [.lst xs] => pure (enumL xs)
  | _ => no
section
variable {X : Cx} {T : List (Addr × Str)} {W : WX} {B : Hp} {ρ : List SL} {e e2 : Expr} {ms : M (List D)} {pos : Pos}
theorem reps_pair {K : PySem.W.Frag} {F : Hp} {as : List Addr} {vs us : List V} {ds es : List D} (r : Reps K F as vs ds) (q : Reps K F as us es) {i : Nat} {d : D × D} {x y : V} (h : (ds.zip es)[i]? = some d) (hx : vs[i]? = some x) (hy : us[i]? = some y) : Rep K F as x d.1 ∧ Rep K F as y d.2 := by
  rw [List.getElem?_zip_eq_some] at h
  obtain ⟨d1, e1, r1⟩ := r.get hx
  obtain ⟨d2, e2, r2⟩ := q.get hy
  rw [h.1] at e1
  rw [h.2] at e2
  cases e1
  cases e2
  exact ⟨r1, r2⟩
theorem vi_zip {p tpos : Pos} {elts : List Expr} {kk : Nat} (ha : VA X T W B ρ [e, e2] ms) (hm : X.mg "zip" = none) (hg : Gl X "zip" := by rfl)
    (hs : starEach [e, e2] X.env = (false, eval e X.env) :: starEach [e2] X.env := by rfl) (hpl : (backTo pos (starEach [e2] X.env)).any (·.1) = false := by rfl) :
    VI X T W B ρ (.Tuple elts kk tpos) (.Call (.Name "zip" p) [e, e2] [] pos) (ms >>= zip2) :=
  ⟨_, RZ.pi_zipA hg hm ha.pa hs hpl, fun σ F H as S R st sl p => ⟨F, as, S, st, sl, p.bind fun ds vs S1 F1 H1 as1 _ x1 st1 r p1 => by
    match ds, r, p1 with
    | [.lst xs, .lst ys], r, p1 =>
      obtain ⟨v1, v2, rfl, q1, q2⟩ := reps2 r
      obtain ⟨a, us, rfl, h1, r1⟩ := q1.lstAt
      obtain ⟨b, ws, rfl, h2, r2⟩ := q2.lstAt
      refine ⟨a, b, us, ws, rfl, .inl ⟨SqL.of (st1.fz _ _ h1), SqL.of (st1.fz _ _ h2), p1 _ F1 H1 as1 Ext.refl st1 ?_⟩⟩
      exact iter_pair (ds := xs.zip ys) (walk_zip (by rw [List.length_zip, r1.length, r2.length])) (fun F H as S st f g => ⟨SqL.of (st.fz _ _ (f _ _ h1)), SqL.of (st.fz _ _ (f _ _ h2))⟩) fun i d x y hd hx hy => reps_pair r1 r2 hd hx hy
    | [.tup xs, .tup ys], r, p1 =>
      obtain ⟨v1, v2, rfl, q1, q2⟩ := reps2 r
      obtain ⟨a, us, rfl, h1, r1⟩ := q1.tupAt
      obtain ⟨b, ws, rfl, h2, r2⟩ := q2.tupAt
      refine ⟨a, b, us, ws, rfl, .inr ⟨SqT.mono h1 st1.fz, SqT.mono h2 st1.fz, p1 _ F1 H1 as1 Ext.refl st1 ?_⟩⟩
      exact iter_pair (ds := xs.zip ys) (walk_zipT (by rw [List.length_zip, r1.length, r2.length])) (fun F H as S st f g => ⟨SqT.mono h1 fun a o h => st.fz _ _ (f _ _ h), SqT.mono h2 fun a o h => st.fz _ _ (f _ _ h)⟩) fun i d x y hd hx hy => reps_pair r1 r2 hd hx hy
    | [], _, p1 => exact False.elim p1
    | [d], _, p1 => cases d <;> exact False.elim p1
    | d :: e :: _ :: _, _, p1 => cases d <;> first | exact False.elim p1 | (cases e <;> exact False.elim p1)
    | [.non, _], _, p1 | [.bl _, _], _, p1 | [.str _, _], _, p1 | [.int _, _], _, p1 | [.emp, _], _, p1 | [.cell _, _], _, p1 | [.adr _, _], _, p1 | [.scr _, _], _, p1 => exact False.elim p1
    | [.lst _, .non], _, p1 | [.lst _, .bl _], _, p1 | [.lst _, .str _], _, p1 | [.lst _, .tup _], _, p1 | [.lst _, .int _], _, p1 | [.lst _, .emp], _, p1 | [.lst _, .cell _], _, p1 | [.lst _, .adr _], _, p1 | [.lst _, .scr _], _, p1 => exact False.elim p1
    | [.tup _, .non], _, p1 | [.tup _, .bl _], _, p1 | [.tup _, .str _], _, p1 | [.tup _, .lst _], _, p1 | [.tup _, .int _], _, p1 | [.tup _, .emp], _, p1 | [.tup _, .cell _], _, p1 | [.tup _, .adr _], _, p1 | [.tup _, .scr _], _, p1 => exact False.elim p1⟩⟩
theorem vi_enum {p tpos : Pos} {elts : List Expr} {kk : Nat} (ha : VA X T W B ρ [e] ms) (hm : X.mg "enumerate" = none) (hg : Gl X "enumerate" := by rfl) (hs : starEach [e] X.env = [(false, eval e X.env)] := by rfl) :
    VI X T W B ρ (.Tuple elts kk tpos) (.Call (.Name "enumerate" p) [e] [] pos) (ms >>= enum1) :=
  ⟨_, pi_enum hg hm ha.pa hs, fun σ F H as S R st sl p => ⟨F, as, S, st, sl, p.bind fun ds vs S1 F1 H1 as1 _ x1 st1 r p1 => by
    match ds, r, p1 with
    | [.lst xs], r, p1 =>
      obtain ⟨v1, rfl, q1⟩ := reps1 r
      obtain ⟨a, us, rfl, h1, r1⟩ := q1.lstAt
      refine ⟨a, us, rfl, SqL.of (st1.fz _ _ h1), p1 _ F1 H1 as1 Ext.refl st1 ?_⟩
      refine iter_pair (ds := ((List.range xs.length).map fun (i : Nat) => D.int i).zip xs) (f := fun i => some (.int (i : Nat))) (g := fun i => us[i]?) ?_ (G := fun H => SqL X.K H a us) (fun F H as S st f g => SqL.of (st.fz _ _ (f _ _ h1))) fun i d x y hd hx hy => ?_
      · have e : (((List.range xs.length).map fun (i : Nat) => D.int i).zip xs).length = us.length := by
          rw [List.length_zip, List.length_map, List.length_range, r1.length]
          omega
        rw [e]
        exact walk_enum
      · rw [List.getElem?_zip_eq_some] at hd
        obtain ⟨d2, e2, r2⟩ := r1.get hy
        rw [hd.2] at e2
        cases e2
        refine ⟨?_, r2⟩
        have e1 := hd.1
        rw [List.getElem?_map] at e1
        cases z : (List.range xs.length)[i]? with
        | none => rw [z] at e1; cases e1
        | some j =>
          rw [z] at e1
          have hj : j = i := by
            rw [List.getElem?_eq_some_iff] at z
            obtain ⟨_, z⟩ := z
            simpa using z.symm
          subst hj
          cases hx
          rw [← Option.some.inj e1]
          exact .int _
    | [], _, p1 => exact False.elim p1
    | d :: _ :: _, _, p1 => cases d <;> exact False.elim p1
    | [.non], _, p1 | [.bl _], _, p1 | [.str _], _, p1 | [.int _], _, p1 | [.tup _], _, p1 | [.emp], _, p1 | [.cell _], _, p1 | [.adr _], _, p1 | [.scr _], _, p1 => exact False.elim p1⟩⟩
end
end VL

set_option maxHeartbeats 2000000
/-! VLStr: texts: str, int of a text, any, all, sign in text, signs of a text, split, join, f-strings. -/
namespace VL
open PySem PySem.Spec PyProof.Rows L2
section
variable {X : Cx} {K : PySem.W.Frag} {mg : Str → Option Value} {T : List (Addr × Str)}
/-! ### any, all -/
def asBs : List D → Option (List Bool)
  | [] => some []
  | .bl b :: ds => (asBs ds).map (b :: ·)
  | _ => none
theorem reps_bs {F : Hp} {as : List Addr} : ∀ {vs : List V} {ds : List D} {bs : List Bool}, Reps K F as vs ds → asBs ds = some bs → vs = bs.map V.bl
  | _, _, _, .nil, h => by cases h; rfl
  | _, _, bs, .cons (d := d) (ds := ds) r rs, h => by
    cases d with
    | bl b =>
      have h : (asBs ds).map (b :: ·) = some bs := h
      cases e : asBs ds with
      | none => rw [e] at h; cases h
      | some cs =>
        rw [e] at h
        cases h
        cases r
        rw [reps_bs rs e]
        rfl
    | _ => cases h
def anyB (f : List Bool → Bool) : D → M D
  | .lst ds => (match asBs ds with
    | some bs => pure (.bl (f bs))
    | none => no)
  | _ => no
def any1 : D → M D := anyB fun bs => bs.any id
def all1 : D → M D := anyB fun bs => bs.all id
theorem d_anyB (f : List Bool → Bool) : CaD K mg T (fun vs H Q => ∃ (a : Addr) (bs : List Bool), vs = [V.ref a] ∧ SqL K H a (bs.map V.bl) ∧ Q (.bl (f bs)) H) (on1 (anyB f)) := by
  refine @cad1 K mg T _ _ ?_
  intro F H as S x d Q E st r p
  cases d with
  | lst ds =>
    obtain ⟨a, vs, rfl, h1, r1⟩ := r.lstAt
    unfold anyB at p
    cases e : asBs ds with
    | none => simp only [e] at p; exact False.elim p
    | some bs =>
      simp only [e] at p
      have ev := reps_bs r1 e
      subst ev
      exact ⟨a, bs, rfl, SqL.of (st.fz _ _ h1), pu_ok st (.bl _) p⟩
  | _ => exact False.elim p
theorem d_any : CaD K mg T (rAny K) (on1 any1) := d_anyB _
theorem d_all : CaD K mg T (rAll K) (on1 all1) := d_anyB _
/-! ### str, int -/
def str1 : D → M D
  | .int i => if i.natAbs.log2 < 1920 then pure (.str (toString i)) else no
  | _ => no
theorem d_str : CaD K mg T (fun xs H Q => ∃ i, xs = [.int i] ∧ i.natAbs.log2 < 1920 ∧ Q (.str (toString i)) H) (on1 str1) := by
  refine @cad1 K mg T _ _ ?_
  intro F H as S x d Q E st r p
  cases d with
  | int i =>
    cases r
    by_cases c : i.natAbs.log2 < 1920
    · rw [show str1 (.int i) = _ from if_pos c] at p
      exact ⟨i, rfl, c, pu_ok st (.str _) p⟩
    · rw [show str1 (.int i) = _ from if_neg c] at p
      exact False.elim p
  | _ => exact False.elim p
def intX : D → M D
  | .int i => pure (.int i)
  | .bl b => pure (.int (if b then 1 else 0))
  | .str z => (match PySem.intText? z with
    | some n => if z.length ≤ 640 then pure (.int n) else no
    | none => no)
  | _ => no
theorem call_intX : CallR X (.type "int") (fun xs H Q => ((∃ i, xs = [.int i] ∧ Q (.int i) H) ∨ ∃ k, xs = [.bl k] ∧ Q (.int (if k then 1 else 0)) H) ∨ ∃ a n, xs = [.str a] ∧ PySem.intText? a = some n ∧ a.length ≤ 640 ∧ Q (.int n) H) := CallR.or call_int1 call_int_str
theorem d_intX : CaD K mg T (fun xs H Q => ((∃ i, xs = [.int i] ∧ Q (.int i) H) ∨ ∃ k, xs = [.bl k] ∧ Q (.int (if k then 1 else 0)) H) ∨ ∃ a n, xs = [.str a] ∧ PySem.intText? a = some n ∧ a.length ≤ 640 ∧ Q (.int n) H) (on1 intX) := by
  refine @cad1 K mg T _ _ ?_
  intro F H as S x d Q E st r p
  cases d with
  | int i => cases r; exact .inl (.inl ⟨i, rfl, pu_ok st (.int _) p⟩)
  | bl b => cases r; exact .inl (.inr ⟨b, rfl, pu_ok st (.int _) p⟩)
  | str z =>
    cases r
    unfold intX at p
    simp only at p
    cases e : PySem.intText? z with
    | none => rw [e] at p; exact False.elim p
    | some n =>
      rw [e] at p
      by_cases c : z.length ≤ 640
      · simp only [if_pos c] at p
        exact .inr ⟨z, n, rfl, e, c, pu_ok st (.int _) p⟩
      · simp only [if_neg c] at p
        exact False.elim p
  | _ => exact False.elim p
/-! ### a sign in a text -/
def sgnB (neg : Bool) (x y : D) : M D := match x, y with
  | .str s, .str z => (match s.cps.toList with
    | [c] => pure (.bl (neg != decide (c ∈ z.cps.toList)))
    | _ => no)
  | _, _ => no
def insD (x y : D) : M D := sgnB false x y
def ninsD (x y : D) : M D := sgnB true x y
theorem one_sign {s : Str} {c : Nat} (h : s.cps.toList = [c]) : s = ⟨#[c]⟩ := by
  obtain ⟨⟨l⟩⟩ := s
  simp only at h
  subst h
  rfl
theorem d_ins : OpD K mg T (fun x y H Q => ∃ (c : Nat) (z : Str), x = .str ⟨#[c]⟩ ∧ y = .str z ∧ Q (.bl (decide (c ∈ z.cps.toList))) H) insD := by
  intro F H as S x y dx dy Q E st rx ry p
  unfold insD sgnB at p
  cases dx with
  | str s =>
    cases dy with
    | str z =>
      simp only at p
      cases e : s.cps.toList with
      | nil => rw [e] at p; exact False.elim p
      | cons c r =>
        cases r with
        | nil =>
          rw [e] at p
          cases rx; cases ry
          exact ⟨c, z, by rw [one_sign e], rfl, pu_ok st (.bl _) (by simpa using p)⟩
        | cons _ _ => rw [e] at p; exact False.elim p
    | _ => exact False.elim p
  | _ => exact False.elim p
theorem d_nins : OpD K mg T (fun x y H Q => ∃ (c : Nat) (z : Str), x = .str ⟨#[c]⟩ ∧ y = .str z ∧ Q (.bl (!decide (c ∈ z.cps.toList))) H) ninsD := by
  intro F H as S x y dx dy Q E st rx ry p
  unfold ninsD sgnB at p
  cases dx with
  | str s =>
    cases dy with
    | str z =>
      simp only at p
      cases e : s.cps.toList with
      | nil => rw [e] at p; exact False.elim p
      | cons c r =>
        cases r with
        | nil =>
          rw [e] at p
          cases rx; cases ry
          exact ⟨c, z, by rw [one_sign e], rfl, pu_ok st (.bl _) (by simpa using p)⟩
        | cons _ _ => rw [e] at p; exact False.elim p
    | _ => exact False.elim p
  | _ => exact False.elim p
end
/-! ### the signs of a text, one by one -/
section
variable {X : Cx} {T : List (Addr × Str)} {W : WX} {B : Hp} {ρ : List SL} {tg e : Expr} {m : M D} {ms : M (List D)} {pos : Pos}
def signL (z : Str) : List D := z.cps.toList.map fun c => .str ⟨#[c]⟩
def signD : D → M (List D)
  | .str z => pure (signL z)
  | _ => no
theorem vi_str (he : VE X T W B ρ e m) : VI X T W B ρ tg e (m >>= signD) :=
  ⟨_, pi_str he.pe, fun σ F H as S R st sl p => ⟨F, as, S, st, sl, p.bind fun d v S1 F1 H1 as1 _ x1 st1 r p1 => by
    cases d with
    | str z =>
      cases r
      refine ⟨z, rfl, p1 _ F1 H1 as1 Ext.refl st1 ?_⟩
      refine ⟨fun _ => True, (fun i H v H' => H' = H ∧ ∃ c, z.cps[i]? = some c ∧ v = .str ⟨#[c]⟩), ?_, fun _ _ _ _ _ _ _ => trivial, ?_⟩
      · have e : (signL z).length = z.cps.size := by unfold signL; simp
        rw [e]
        exact walk_str
      · rintro i d F H as S x H' hd st' _ _ ⟨rfl, c, hc, rfl⟩
        unfold signL at hd
        rw [List.getElem?_map] at hd
        have hc2 : z.cps.toList[i]? = some c := by simpa using hc
        rw [hc2] at hd
        cases hd
        exact ⟨F, Ext.refl, st', .str _⟩
    | _ => exact False.elim p1⟩⟩
end
end VL

set_option maxHeartbeats 2000000
/-! VLLc: name = [..], the name a local on the comprehension's line. -/
namespace VL
open PySem PySem.Spec PyProof.Rows L2
section
variable {γ δ α β : Type} {X : Cx} {T : List (Addr × Str)} {W : WX} {B : Hp} {ρ : List SL} {embL : δ → List SL} {tg iter elt : Expr} {mi : M (List D)} {pos spos : Pos}
theorem vs_newLc {y : Str} {py : Pos} (i : Nat) {scope : Scope} {ifs : List Expr} {js : List Nat} {bT : D → M β} {embT : β → List SL} {mc : β → M Bool} {me : β → M D} (own : List (Str × Nat)) (ρw : List SL) (hc : X.calm = true) (hN : X.N.Nodup) (hi : VIC X T W B ρ tg iter mi) (ok : blkC X.N X.env.scope scope own = true)
    (hg : ∀ (s : Shared) (H : Hp) (C : Addr) (cl : List (Str × Addr)) (fp : List Addr), VG (X.blk s H scope (compEnvC scope cl C X.env) fp) T B ρw tg js bT embT)
    (ht : ∀ (s : Shared) (H : Hp) (C : Addr) (cl : List (Str × Addr)) (fp : List Addr) t, VC (X.blk s H scope (compEnvC scope cl C X.env) fp) T B (embT t) ifs (mc t))
    (he : ∀ (s : Shared) (H : Hp) (C : Addr) (cl : List (Str × Addr)) (fp : List Addr) t, VE (X.blk s H scope (compEnvC scope cl C X.env) fp) T Wf B (embT t) elt (me t))
    (hj : ∀ j ∈ js, j ∈ own.map (·.2)) (hw : SLe ρw ρ) (hv : ∀ v ∈ own.map (·.2), ρw[v]? = some .no) (hst : ∀ d S b S', bT d S = .ok b S' → S' = S)
    (hy : X.N[i]? = some y := by rfl) (hyl : X.env.scope.names.lookup y = some .local := by rfl) (hk : X.env.scope.kind = .function := by rfl) (hl : (py.line == pos.line) = true := by rfl)
    (ha : (scope.names.any fun (n, k) => n == y && (k == .local || k == .cell)) = false := by rfl) (hs : ∀ x, foldedSetIterable iter X.env x = pure x := by intro _; rfl) :
    VS X T W B ρ (.Assign [.Name y py] (.ListComp elt [⟨tg, iter, ifs, 0⟩] scope pos) spos) embL (fun ds => ρ.set i (.ow ds)) ((mi >>= lcL (lcT bT mc me)) >>= fun ds => pure (.nx ds)) := by
  obtain ⟨wi, pi, hi⟩ := hi.t
  have pg : ∀ (s : Shared) (H : Hp) (C : Addr) (cl : List (Str × Addr)) (fp : List Addr), PG (X.blk s H scope (compEnvC scope cl C X.env) fp) tg (fun v σ H Q => ∃ (d : D) (F : Hp) (as : List Addr) (S : Sx), Stt X.K T F H as S ∧ Slots X.K B F H as ρw σ ∧ Rep X.K F as v d ∧ (match bT d S with | .ok b S' => ∀ σ', Upd js σ σ' → Slots X.K B F H as (embT b) σ' → Q σ' H | _ => False)) := fun s H C cl fp => by
    obtain ⟨t, h1, h2⟩ := (hg s H C cl fp).t
    exact ⟨fun pins s' σ H' v u Q I r ⟨d, F, as, S, a, b, c, q⟩ => h1.run pins s' σ H' v u Q I r (h2 v d σ F H' as S Q a b c q)⟩
  refine ⟨(ps_setLc (i := i) hc hN hy hyl (sw_true hk hyl hl ha) pi (blkOk_by ok) pg (fun s H C cl fp => PTs_ex fun t => (ht s H C cl fp t).p) (fun s H C cl fp => PE_ex fun t => (he s H C cl fp t).pe) hs).imp fun D σ H ⟨F0, as0, F, as, S, x0, st, sl, p⟩ => snd_lc hi (fun v d σ F H as S Q a b c q => ⟨d, F, as, S, a, b, c, q⟩) hst hj hw hv st sl ?_⟩
  cases e : (mi >>= lcL (lcT bT mc me)) S with
  | ok ds S1 =>
    rw [bind_ok e] at p
    intro q vs F1 H1 as1 x1 st1 lo fq nq hq r1
    refine p _ F1 H1 as1 (x0.trans x1) st1 ((sl.ext x1).setOw (x0.m q lo) fq nq hq r1 fun j s n a oa b => sl.notLo a oa lo b)
  | er y S1 =>
    rw [bind_er e] at p
    exact fun cls dd F' H' as' x st r => p cls dd σ F' H' as' (x0.trans x) st r
  | no => rw [bind_no e] at p; exact p
end
end VL

set_option maxHeartbeats 2000000
/-! VLLocal: a def as a value; the call of a local name that holds one. -/
namespace VL
open PySem PySem.Spec PyProof.Rows L2 LamX
/-- the def that d names -/
def defL (tb : List (Addr × (List D → M D))) (d : D) : M (List D → M D) := match d with
  | .adr a => (match tb.lookup a with
    | some g => pure g
    | none => no)
  | _ => no
/-- the defs that a local may hold, of n arguments each -/
def HeldV (γ : Bool) (P : Program) (w : World) (K : PySem.W.Frag) (mg : Str → Option Value) (base : Heap) (T : List (Addr × Str)) (k n : Nat) (tb : List (Addr × (List D → M D))) : Prop :=
  ∀ p ∈ tb, ∃ (fd : FuncData) (ps : List Str), VFn γ P w K mg base T k p.1 fd ps p.2 ∧ ps.length = n ∧ PySem.W.keepIn K (.ref p.1) = true ∧ Binds K fd ps []
theorem lookup_memA {α : Type} {a : Addr} {o : α} : ∀ {l : List (Addr × α)}, l.lookup a = some o → (a, o) ∈ l
  | [], h => by cases h
  | (b, u) :: r, h => by
    have h2 : (match a == b with | true => some u | false => r.lookup a) = some o := h
    cases q : (a == b) with
    | true =>
      rw [q] at h2
      have e : u = o := Option.some.inj h2
      rw [beq_iff_eq.mp q, e]
      exact List.mem_cons_self
    | false =>
      rw [q] at h2
      exact List.mem_cons_of_mem _ (lookup_memA h2)
section
variable {γ' : Bool} {X : Cx} {T : List (Addr × Str)} {W : WX} {B : Hp} {ρ : List SL} {e : Expr} {es : List Expr} {ms : M (List D)} {pos : Pos}
theorem ve_fnv {x : Str} {p : Pos} {a : Addr} (hm : X.mg x = some (.ref a)) (hg : Gl X x := by rfl) (hd : (x == ("__debug__" : Str)) = false := by decide) : VE X T W B ρ (.Name x p) (pure (.adr a)) :=
  ve_glob (v := .ref a) hg hm rfl (fun F as => .adr a) hd
theorem ve_callL {x : Str} {p : Pos} {k n : Nat} {d : D} {tb : List (Addr × (List D → M D))} (i : Nat) (hT : HeldV γ' X.prog X.w X.K X.mg X.base T k n tb) (hr : Room k X.A) (hγ : γ' = true → X.A.guards = some []) (tk : Takes X W) (ha : VA X T W B ρ (e :: es) ms)
    (hd : ρ[i]? = some (.fz d) := by rfl) (hN : X.N[i]? = some x := by rfl) (hv : Vis X.env.scope x := by first | exact .inl rfl | exact .inr (.inl rfl) | exact .inr (.inr rfl)) (hdb : (x == ("__debug__" : Str)) = false := by decide) (hcd : (x == ("__classdict__" : Str)) = false := by decide)
    (he : starEach (e :: es) X.env = (false, eval e X.env) :: starEach es X.env := by rfl) (hpl : (backTo pos (starEach es X.env)).any (·.1) = false := by rfl) :
    VE X T W B ρ (.Call (.Name x p) (e :: es) [] pos) (defL tb d >>= fun g => ms >>= onN n g) := by
  refine .of ⟨fun pins s σ H Q I h => ?_⟩
  obtain ⟨F, as, S, st, sl, q⟩ := h
  obtain ⟨v, hs, rv⟩ := sl.get hd
  unfold defL at q
  cases d with
  | adr a =>
    cases rv with
    | adr a =>
      cases el : tb.lookup a with
      | none =>
        simp only [el] at q
        exact False.elim q
      | some g =>
        simp only [el, pure_bind] at q
        obtain ⟨fd, ps, G, hn, hk, hb⟩ := hT (a, g) (lookup_memA el)
        subst hn
        refine wpAny_Call_Name_kw (thn ((pe_var (pos := p) hN hv hdb hcd).run pins s σ H (fun v H1 => v = .ref a ∧ H1 = H) I ⟨.ref a, hs, rfl, rfl⟩) fun u s1 ⟨v, H1, I1, r1, q1⟩ => ?_)
        obtain ⟨rfl, rfl⟩ := q1
        cases r1
        refine PySem.W.callWith_K (h₀ := X.base) I.ok.mod.kin hk (thn (ha.pa.run pos pins s1 σ _ _ I1 ⟨F, as, S, st, sl, q.bind (Q' := fun vs H1 => ∃ F1 as1 S1 ds, Stt X.K T F1 H1 as1 S1 ∧ Reps X.K F1 as1 vs ds ∧ Post X.K X.mg T F1 H1 as1 (RepV X.K) Q (fun cls dd H' => W cls dd σ H') (onN ps.length g ds S1)) fun ds vs S1 F1 H1 as1 _ e1 st1 r1 p1 => ⟨F1, as1, S1, ds, st1, r1, p1⟩⟩) fun us s1 ⟨vs, H1, I1, r, F1, as1, S1, ds, st1, r1, p1⟩ => ⟨I1.kIn, ?_⟩) he hpl
        unfold onN at p1
        by_cases hl : ds.length = ps.length
        · rw [if_pos hl] at p1
          exact run_v G hr hγ hb tk I1 r st1 r1 hl p1
        · rw [if_neg hl] at p1
          exact False.elim p1
  | _ => exact False.elim q
end
/-- by the defs' names -/
theorem heldV_cons {γ : Bool} {P : Program} {w : World} {K : PySem.W.Frag} {mg : Str → Option Value} {base : Heap} {T : List (Addr × Str)} {j k n : Nat} {x : Str} {ps : List Str} {g : List D → M D} {tb : List (Addr × (List D → M D))} (G : DOk γ P w K mg base T j x ps g) (hm : mg x = some (.ref (He.ga K x))) (hj : j ≤ k) (hn : ps.length = n) (r : HeldV γ P w K mg base T k n tb) :
    HeldV γ P w K mg base T k n ((He.ga K x, g) :: tb) := by
  intro p hp
  rcases List.mem_cons.mp hp with rfl | hp
  · obtain ⟨f, fd, v, m, kp, b⟩ := G.ex
    rw [hm] at m
    cases m
    exact ⟨fd, ps, v.mono hj, hn, kp, b⟩
  · exact r p hp
theorem heldV_nil {γ : Bool} {P : Program} {w : World} {K : PySem.W.Frag} {mg : Str → Option Value} {base : Heap} {T : List (Addr × Str)} {k n : Nat} : HeldV γ P w K mg base T k n [] := fun p hp => absurd hp List.not_mem_nil
end VL

/-! VLib: the mirrors of the functions that many texts have. Printed by gen.py from lib_src.py. -/
namespace VLib
open PySem PySem.Spec VL
def c_ZERO : D := .tup [.int 0, .int 1]
def c_LEAST_CORNERS : D := .int 3
def c_MOST_CORNERS : D := .int 8
/-- is_integer -/
def is_integer_b (thing_ : D) : M (Fl Unit Unit) :=
    ((((pure thing_) >>= isaD [.int]) >>= fun x3 => truB x3 >>= fun k4 => if k4 = true then (((pure thing_) >>= isaD [.bool]) >>= fun x1 => truB x1 >>= fun k2 => pure (D.bl (!k2))) else pure x3) >>= fun x5 => pure (Fl.rt x5))
def is_integer_d : List D → M (Fl Unit Unit)
  | [thing_] => is_integer_b thing_
  | _ => no
def is_integer_m (ds : List D) : M D := bodyM (is_integer_d ds)

/-- common_part -/
def common_part_b (one_ other_ : D) : M (Fl Unit Unit) :=
    seqF (γ := Unit) (α := D) ((((pure one_) >>= fun x2 => (pure []) >>= fun r3 => pure (x2 :: r3)) >>= on1 abs1) >>= fun x4 => pure (Fl.nx x4)) fun one_ =>
    seqF (γ := Unit) (α := D) ((((pure other_) >>= fun x6 => (pure []) >>= fun r7 => pure (x6 :: r7)) >>= on1 abs1) >>= fun x8 => pure (Fl.nx x8)) fun other_ =>
    seqF (γ := Unit) (α := D × D) (whileM (2 ^ 9000) (fun s10 : D × D => ((pure s10.2) >>= fun x11 => (pure (D.int 0)) >>= fun x12 => gtD x11 x12 >>= asB)) (fun s10 : D × D => seqF (γ := D × D) (α := D × D) (((pure s10.2) >>= fun x18 => (((pure s10.1) >>= fun x14 => (pure s10.2) >>= fun x15 => modD x14 x15) >>= fun x16 => (pure []) >>= fun r17 => pure (x16 :: r17)) >>= fun r19 => pure (x18 :: r19)) >>= fun ds20 => un2 (D.tup ds20) >>= fun b21 => pure (Fl.nx b21)) fun b21 =>
        pure (Fl.nx (b21.1, b21.2))) (one_, other_)) fun s9 =>
    ((pure s9.1) >>= fun x22 => pure (Fl.rt x22))
def common_part_d : List D → M (Fl Unit Unit)
  | [one_, other_] => common_part_b one_ other_
  | _ => no
def common_part_m (ds : List D) : M D := bodyM (common_part_d ds)

/-- lowest -/
def lowest_b (top_ bottom_ : D) : M (Fl Unit Unit) :=
    seqF (γ := Unit) (α := D) ((((pure top_) >>= fun x4 => ((pure bottom_) >>= fun x2 => (pure []) >>= fun r3 => pure (x2 :: r3)) >>= fun r5 => pure (x4 :: r5)) >>= onN 2 common_part_m) >>= fun x6 => pure (Fl.nx x6)) fun part_ =>
    seqF (γ := Unit) (α := D) (((pure bottom_) >>= fun x8 => (pure (D.int 0)) >>= fun x9 => ltD x8 x9 >>= asB) >>= fun k12 => if k12 = true then (seqF (γ := Unit) (α := D) (((pure part_) >>= negD) >>= fun x11 => pure (Fl.nx x11)) fun part_ =>
        pure (Fl.nx part_)) else (pure (Fl.nx part_))) fun s7 =>
    (((((pure top_) >>= fun x17 => (pure s7) >>= fun x18 => fdivD x17 x18) >>= fun x19 => (((pure bottom_) >>= fun x13 => (pure s7) >>= fun x14 => fdivD x13 x14) >>= fun x15 => (pure []) >>= fun r16 => pure (x15 :: r16)) >>= fun r20 => pure (x19 :: r20)) >>= tupD) >>= fun x21 => pure (Fl.rt x21))
def lowest_d : List D → M (Fl Unit Unit)
  | [top_, bottom_] => lowest_b top_ bottom_
  | _ => no
def lowest_m (ds : List D) : M D := bodyM (lowest_d ds)

/-- is_fraction -/
def is_fraction_b (thing_ : D) : M (Fl Unit Unit) :=
    seqF (γ := Unit) (α := Unit) ((((((pure thing_) >>= isaD [.tuple]) >>= truB) >>= fun k6 => pure (!k6)) >>= fun k7 => if k7 = true then pure true else ((((pure thing_) >>= fun x2 => (pure []) >>= fun r3 => pure (x2 :: r3)) >>= on1 len1) >>= fun x4 => (pure (D.int 2)) >>= fun x5 => neD x4 x5 >>= asB)) >>= fun k9 => if k9 = true then (((pure (D.bl false)) >>= fun x8 => pure (Fl.rt x8))) else (pure (Fl.nx ()))) fun s1 =>
    seqF (γ := Unit) (α := Unit) ((((((((pure thing_) >>= fun x21 => (pure (D.int 0)) >>= fun x22 => itemD x21 x22) >>= fun x23 => (pure []) >>= fun r24 => pure (x23 :: r24)) >>= onN 1 is_integer_m) >>= truB) >>= fun k25 => pure (!k25)) >>= fun k26 => if k26 = true then pure true else (((((((pure thing_) >>= fun x15 => (pure (D.int 1)) >>= fun x16 => itemD x15 x16) >>= fun x17 => (pure []) >>= fun r18 => pure (x17 :: r18)) >>= onN 1 is_integer_m) >>= truB) >>= fun k19 => pure (!k19)) >>= fun k20 => if k20 = true then pure true else (((pure thing_) >>= fun x11 => (pure (D.int 1)) >>= fun x12 => itemD x11 x12) >>= fun x13 => (pure (D.int 1)) >>= fun x14 => ltD x13 x14 >>= asB))) >>= fun k28 => if k28 = true then (((pure (D.bl false)) >>= fun x27 => pure (Fl.rt x27))) else (pure (Fl.nx ()))) fun s10 =>
    ((((((pure thing_) >>= fun x33 => (pure (D.int 0)) >>= fun x34 => itemD x33 x34) >>= fun x35 => (((pure thing_) >>= fun x29 => (pure (D.int 1)) >>= fun x30 => itemD x29 x30) >>= fun x31 => (pure []) >>= fun r32 => pure (x31 :: r32)) >>= fun r36 => pure (x35 :: r36)) >>= onN 2 common_part_m) >>= fun x37 => (pure (D.int 1)) >>= fun x38 => eqD x37 x38) >>= fun x39 => pure (Fl.rt x39))
def is_fraction_d : List D → M (Fl Unit Unit)
  | [thing_] => is_fraction_b thing_
  | _ => no
def is_fraction_m (ds : List D) : M D := bodyM (is_fraction_d ds)

/-- plus -/
def plus_b (one_ other_ : D) : M (Fl Unit Unit) :=
    seqF (γ := Unit) (α := Unit) (((((pure one_) >>= fun x6 => (pure (D.int 1)) >>= fun x7 => itemD x6 x7) >>= fun x8 => (pure (D.int 1)) >>= fun x9 => eqD x8 x9 >>= asB) >>= fun k10 => if k10 = true then (((pure other_) >>= fun x2 => (pure (D.int 1)) >>= fun x3 => itemD x2 x3) >>= fun x4 => (pure (D.int 1)) >>= fun x5 => eqD x4 x5 >>= asB) else pure false) >>= fun k22 => if k22 = true then (((((((pure one_) >>= fun x13 => (pure (D.int 0)) >>= fun x14 => itemD x13 x14) >>= fun x17 => ((pure other_) >>= fun x15 => (pure (D.int 0)) >>= fun x16 => itemD x15 x16) >>= fun x18 => addD x17 x18) >>= fun x19 => ((pure (D.int 1)) >>= fun x11 => (pure []) >>= fun r12 => pure (x11 :: r12)) >>= fun r20 => pure (x19 :: r20)) >>= tupD) >>= fun x21 => pure (Fl.rt x21))) else (pure (Fl.nx ()))) fun s1 =>
    (((((((pure one_) >>= fun x31 => (pure (D.int 0)) >>= fun x32 => itemD x31 x32) >>= fun x35 => ((pure other_) >>= fun x33 => (pure (D.int 1)) >>= fun x34 => itemD x33 x34) >>= fun x36 => mulI x35 x36) >>= fun x43 => (((pure other_) >>= fun x37 => (pure (D.int 0)) >>= fun x38 => itemD x37 x38) >>= fun x41 => ((pure one_) >>= fun x39 => (pure (D.int 1)) >>= fun x40 => itemD x39 x40) >>= fun x42 => mulI x41 x42) >>= fun x44 => addD x43 x44) >>= fun x45 => ((((pure one_) >>= fun x23 => (pure (D.int 1)) >>= fun x24 => itemD x23 x24) >>= fun x27 => ((pure other_) >>= fun x25 => (pure (D.int 1)) >>= fun x26 => itemD x25 x26) >>= fun x28 => mulI x27 x28) >>= fun x29 => (pure []) >>= fun r30 => pure (x29 :: r30)) >>= fun r46 => pure (x45 :: r46)) >>= onN 2 lowest_m) >>= fun x47 => pure (Fl.rt x47))
def plus_d : List D → M (Fl Unit Unit)
  | [one_, other_] => plus_b one_ other_
  | _ => no
def plus_m (ds : List D) : M D := bodyM (plus_d ds)

/-- minus -/
def minus_b (one_ other_ : D) : M (Fl Unit Unit) :=
    ((((pure one_) >>= fun x11 => ((((((pure other_) >>= fun x5 => (pure (D.int 0)) >>= fun x6 => itemD x5 x6) >>= negD) >>= fun x7 => (((pure other_) >>= fun x1 => (pure (D.int 1)) >>= fun x2 => itemD x1 x2) >>= fun x3 => (pure []) >>= fun r4 => pure (x3 :: r4)) >>= fun r8 => pure (x7 :: r8)) >>= tupD) >>= fun x9 => (pure []) >>= fun r10 => pure (x9 :: r10)) >>= fun r12 => pure (x11 :: r12)) >>= onN 2 plus_m) >>= fun x13 => pure (Fl.rt x13))
def minus_d : List D → M (Fl Unit Unit)
  | [one_, other_] => minus_b one_ other_
  | _ => no
def minus_m (ds : List D) : M D := bodyM (minus_d ds)

/-- product -/
def product_b (one_ other_ : D) : M (Fl Unit Unit) :=
    seqF (γ := Unit) (α := Unit) (((((pure one_) >>= fun x6 => (pure (D.int 0)) >>= fun x7 => itemD x6 x7) >>= fun x8 => (pure (D.int 0)) >>= fun x9 => eqD x8 x9 >>= asB) >>= fun k10 => if k10 = true then pure true else (((pure other_) >>= fun x2 => (pure (D.int 0)) >>= fun x3 => itemD x2 x3) >>= fun x4 => (pure (D.int 0)) >>= fun x5 => eqD x4 x5 >>= asB)) >>= fun k12 => if k12 = true then (((pure c_ZERO) >>= fun x11 => pure (Fl.rt x11))) else (pure (Fl.nx ()))) fun s1 =>
    ((((((pure one_) >>= fun x21 => (pure (D.int 0)) >>= fun x22 => itemD x21 x22) >>= fun x25 => ((pure other_) >>= fun x23 => (pure (D.int 0)) >>= fun x24 => itemD x23 x24) >>= fun x26 => mulI x25 x26) >>= fun x27 => ((((pure one_) >>= fun x13 => (pure (D.int 1)) >>= fun x14 => itemD x13 x14) >>= fun x17 => ((pure other_) >>= fun x15 => (pure (D.int 1)) >>= fun x16 => itemD x15 x16) >>= fun x18 => mulI x17 x18) >>= fun x19 => (pure []) >>= fun r20 => pure (x19 :: r20)) >>= fun r28 => pure (x27 :: r28)) >>= onN 2 lowest_m) >>= fun x29 => pure (Fl.rt x29))
def product_d : List D → M (Fl Unit Unit)
  | [one_, other_] => product_b one_ other_
  | _ => no
def product_m (ds : List D) : M D := bodyM (product_d ds)

/-- divided -/
def divided_b (one_ other_ : D) : M (Fl Unit Unit) :=
    ((((((pure one_) >>= fun x9 => (pure (D.int 0)) >>= fun x10 => itemD x9 x10) >>= fun x13 => ((pure other_) >>= fun x11 => (pure (D.int 1)) >>= fun x12 => itemD x11 x12) >>= fun x14 => mulI x13 x14) >>= fun x15 => ((((pure one_) >>= fun x1 => (pure (D.int 1)) >>= fun x2 => itemD x1 x2) >>= fun x5 => ((pure other_) >>= fun x3 => (pure (D.int 0)) >>= fun x4 => itemD x3 x4) >>= fun x6 => mulI x5 x6) >>= fun x7 => (pure []) >>= fun r8 => pure (x7 :: r8)) >>= fun r16 => pure (x15 :: r16)) >>= onN 2 lowest_m) >>= fun x17 => pure (Fl.rt x17))
def divided_d : List D → M (Fl Unit Unit)
  | [one_, other_] => divided_b one_ other_
  | _ => no
def divided_m (ds : List D) : M D := bodyM (divided_d ds)

/-- order_of -/
def order_of_b (one_ other_ : D) : M (Fl Unit Unit) :=
    seqF (γ := Unit) (α := D) ((((pure one_) >>= fun x2 => (pure (D.int 0)) >>= fun x3 => itemD x2 x3) >>= fun x6 => ((pure other_) >>= fun x4 => (pure (D.int 1)) >>= fun x5 => itemD x4 x5) >>= fun x7 => mulI x6 x7) >>= fun x8 => pure (Fl.nx x8)) fun left_ =>
    seqF (γ := Unit) (α := D) ((((pure other_) >>= fun x10 => (pure (D.int 0)) >>= fun x11 => itemD x10 x11) >>= fun x14 => ((pure one_) >>= fun x12 => (pure (D.int 1)) >>= fun x13 => itemD x12 x13) >>= fun x15 => mulI x14 x15) >>= fun x16 => pure (Fl.nx x16)) fun right_ =>
    ((((((pure left_) >>= fun x17 => (pure right_) >>= fun x18 => gtD x17 x18) >>= fun x19 => (pure []) >>= fun r20 => pure (x19 :: r20)) >>= on1 int1) >>= fun x25 => ((((pure left_) >>= fun x21 => (pure right_) >>= fun x22 => ltD x21 x22) >>= fun x23 => (pure []) >>= fun r24 => pure (x23 :: r24)) >>= on1 int1) >>= fun x26 => subD x25 x26) >>= fun x27 => pure (Fl.rt x27))
def order_of_d : List D → M (Fl Unit Unit)
  | [one_, other_] => order_of_b one_ other_
  | _ => no
def order_of_m (ds : List D) : M D := bodyM (order_of_d ds)

/-- check_fractions -/
def check_fractions_b (one_ other_ : D) : M (Fl Unit Unit) :=
    seqF (γ := Unit) (α := Unit) (((((((pure one_) >>= fun x5 => (pure []) >>= fun r6 => pure (x5 :: r6)) >>= onN 1 is_fraction_m) >>= truB) >>= fun k7 => pure (!k7)) >>= fun k8 => if k8 = true then pure true else (((((pure other_) >>= fun x2 => (pure []) >>= fun r3 => pure (x2 :: r3)) >>= onN 1 is_fraction_m) >>= truB) >>= fun k4 => pure (!k4))) >>= fun k9 => if k9 = true then (err ⟨"NoFraction", []⟩) else (pure (Fl.nx ()))) fun s1 =>
    pure (Fl.nx ())
def check_fractions_d : List D → M (Fl Unit Unit)
  | [one_, other_] => check_fractions_b one_ other_
  | _ => no
def check_fractions_m (ds : List D) : M D := bodyM (check_fractions_d ds)

/-- frac_of -/
def frac_of_b (top_ bottom_ : D) : M (Fl Unit Unit) :=
    seqF (γ := Unit) (α := Unit) (((((((pure top_) >>= fun x8 => (pure []) >>= fun r9 => pure (x8 :: r9)) >>= onN 1 is_integer_m) >>= truB) >>= fun k10 => pure (!k10)) >>= fun k11 => if k11 = true then pure true else ((((((pure bottom_) >>= fun x4 => (pure []) >>= fun r5 => pure (x4 :: r5)) >>= onN 1 is_integer_m) >>= truB) >>= fun k6 => pure (!k6)) >>= fun k7 => if k7 = true then pure true else ((pure bottom_) >>= fun x2 => (pure (D.int 0)) >>= fun x3 => eqD x2 x3 >>= asB))) >>= fun k12 => if k12 = true then (err ⟨"NoFraction", []⟩) else (pure (Fl.nx ()))) fun s1 =>
    ((((pure top_) >>= fun x15 => ((pure bottom_) >>= fun x13 => (pure []) >>= fun r14 => pure (x13 :: r14)) >>= fun r16 => pure (x15 :: r16)) >>= onN 2 lowest_m) >>= fun x17 => pure (Fl.rt x17))
def frac_of_d : List D → M (Fl Unit Unit)
  | [top_, bottom_] => frac_of_b top_ bottom_
  | _ => no
def frac_of_m (ds : List D) : M D := bodyM (frac_of_d ds)

/-- frac_sign -/
def frac_sign_b (one_ other_ : D) : M (Fl Unit Unit) :=
    seqF (γ := Unit) (α := Unit) ((((pure one_) >>= fun x4 => ((pure other_) >>= fun x2 => (pure []) >>= fun r3 => pure (x2 :: r3)) >>= fun r5 => pure (x4 :: r5)) >>= onN 2 check_fractions_m) >>= fun _ => pure (Fl.nx ())) fun _ =>
    ((((pure one_) >>= fun x8 => ((pure other_) >>= fun x6 => (pure []) >>= fun r7 => pure (x6 :: r7)) >>= fun r9 => pure (x8 :: r9)) >>= onN 2 order_of_m) >>= fun x10 => pure (Fl.rt x10))
def frac_sign_d : List D → M (Fl Unit Unit)
  | [one_, other_] => frac_sign_b one_ other_
  | _ => no
def frac_sign_m (ds : List D) : M D := bodyM (frac_sign_d ds)

/-- frac_add -/
def frac_add_b (one_ other_ : D) : M (Fl Unit Unit) :=
    seqF (γ := Unit) (α := Unit) ((((pure one_) >>= fun x4 => ((pure other_) >>= fun x2 => (pure []) >>= fun r3 => pure (x2 :: r3)) >>= fun r5 => pure (x4 :: r5)) >>= onN 2 check_fractions_m) >>= fun _ => pure (Fl.nx ())) fun _ =>
    ((((pure one_) >>= fun x8 => ((pure other_) >>= fun x6 => (pure []) >>= fun r7 => pure (x6 :: r7)) >>= fun r9 => pure (x8 :: r9)) >>= onN 2 plus_m) >>= fun x10 => pure (Fl.rt x10))
def frac_add_d : List D → M (Fl Unit Unit)
  | [one_, other_] => frac_add_b one_ other_
  | _ => no
def frac_add_m (ds : List D) : M D := bodyM (frac_add_d ds)

/-- frac_sub -/
def frac_sub_b (one_ other_ : D) : M (Fl Unit Unit) :=
    seqF (γ := Unit) (α := Unit) ((((pure one_) >>= fun x4 => ((pure other_) >>= fun x2 => (pure []) >>= fun r3 => pure (x2 :: r3)) >>= fun r5 => pure (x4 :: r5)) >>= onN 2 check_fractions_m) >>= fun _ => pure (Fl.nx ())) fun _ =>
    ((((pure one_) >>= fun x8 => ((pure other_) >>= fun x6 => (pure []) >>= fun r7 => pure (x6 :: r7)) >>= fun r9 => pure (x8 :: r9)) >>= onN 2 minus_m) >>= fun x10 => pure (Fl.rt x10))
def frac_sub_d : List D → M (Fl Unit Unit)
  | [one_, other_] => frac_sub_b one_ other_
  | _ => no
def frac_sub_m (ds : List D) : M D := bodyM (frac_sub_d ds)

/-- frac_mul -/
def frac_mul_b (one_ other_ : D) : M (Fl Unit Unit) :=
    seqF (γ := Unit) (α := Unit) ((((pure one_) >>= fun x4 => ((pure other_) >>= fun x2 => (pure []) >>= fun r3 => pure (x2 :: r3)) >>= fun r5 => pure (x4 :: r5)) >>= onN 2 check_fractions_m) >>= fun _ => pure (Fl.nx ())) fun _ =>
    ((((pure one_) >>= fun x8 => ((pure other_) >>= fun x6 => (pure []) >>= fun r7 => pure (x6 :: r7)) >>= fun r9 => pure (x8 :: r9)) >>= onN 2 product_m) >>= fun x10 => pure (Fl.rt x10))
def frac_mul_d : List D → M (Fl Unit Unit)
  | [one_, other_] => frac_mul_b one_ other_
  | _ => no
def frac_mul_m (ds : List D) : M D := bodyM (frac_mul_d ds)

/-- frac_div -/
def frac_div_b (one_ other_ : D) : M (Fl Unit Unit) :=
    seqF (γ := Unit) (α := Unit) ((((pure one_) >>= fun x4 => ((pure other_) >>= fun x2 => (pure []) >>= fun r3 => pure (x2 :: r3)) >>= fun r5 => pure (x4 :: r5)) >>= onN 2 check_fractions_m) >>= fun _ => pure (Fl.nx ())) fun _ =>
    seqF (γ := Unit) (α := Unit) ((((pure other_) >>= fun x7 => (pure (D.int 0)) >>= fun x8 => itemD x7 x8) >>= fun x9 => (pure (D.int 0)) >>= fun x10 => eqD x9 x10 >>= asB) >>= fun k11 => if k11 = true then (err ⟨"NoFraction", []⟩) else (pure (Fl.nx ()))) fun s6 =>
    ((((pure one_) >>= fun x14 => ((pure other_) >>= fun x12 => (pure []) >>= fun r13 => pure (x12 :: r13)) >>= fun r15 => pure (x14 :: r15)) >>= onN 2 divided_m) >>= fun x16 => pure (Fl.rt x16))
def frac_div_d : List D → M (Fl Unit Unit)
  | [one_, other_] => frac_div_b one_ other_
  | _ => no
def frac_div_m (ds : List D) : M D := bodyM (frac_div_d ds)

/-- whole_root -/
def whole_root_b (number_ : D) : M (Fl Unit Unit) :=
    seqF (γ := Unit) (α := D) ((pure (D.int 0)) >>= fun x2 => pure (Fl.nx x2)) fun low_ =>
    seqF (γ := Unit) (α := D) ((pure (D.int 1)) >>= fun x4 => pure (Fl.nx x4)) fun high_ =>
    seqF (γ := Unit) (α := D) (whileM (2 ^ 9000) (fun s6 : D => (((pure s6) >>= fun x7 => (pure s6) >>= fun x8 => mulI x7 x8) >>= fun x9 => (pure number_) >>= fun x10 => leD x9 x10 >>= asB)) (fun s6 : D => seqF (γ := D) (α := D) (((pure (D.int 2)) >>= fun x12 => (pure s6) >>= fun x13 => mulI x12 x13) >>= fun x14 => pure (Fl.nx x14)) fun high_ =>
        pure (Fl.nx high_)) high_) fun s5 =>
    seqF (γ := Unit) (α := D × D) (whileM (2 ^ 9000) (fun s16 : D × D => (((pure s16.2) >>= fun x17 => (pure s16.1) >>= fun x18 => subD x17 x18) >>= fun x19 => (pure (D.int 1)) >>= fun x20 => gtD x19 x20 >>= asB)) (fun s16 : D × D => seqF (γ := D × D) (α := D) ((((pure s16.1) >>= fun x22 => (pure s16.2) >>= fun x23 => addD x22 x23) >>= fun x24 => (pure (D.int 2)) >>= fun x25 => fdivD x24 x25) >>= fun x26 => pure (Fl.nx x26)) fun middle_ =>
        seqF (γ := D × D) (α := D × D) ((((pure middle_) >>= fun x28 => (pure middle_) >>= fun x29 => mulI x28 x29) >>= fun x30 => (pure number_) >>= fun x31 => leD x30 x31 >>= asB) >>= fun k36 => if k36 = true then (seqF (γ := D × D) (α := D) ((pure middle_) >>= fun x33 => pure (Fl.nx x33)) fun low_ =>
            pure (Fl.nx (low_, s16.2))) else (seqF (γ := D × D) (α := D) ((pure middle_) >>= fun x35 => pure (Fl.nx x35)) fun high_ =>
            pure (Fl.nx (s16.1, high_)))) fun s27 =>
        pure (Fl.nx (s27.1, s27.2))) (low_, s5)) fun s15 =>
    (((((pure s15.1) >>= fun x37 => (pure s15.1) >>= fun x38 => mulI x37 x38) >>= fun x39 => (pure number_) >>= fun x40 => eqD x39 x40 >>= asB) >>= fun k41 => if k41 = true then (pure s15.1) else (pure D.non)) >>= fun x42 => pure (Fl.rt x42))
def whole_root_d : List D → M (Fl Unit Unit)
  | [number_] => whole_root_b number_
  | _ => no
def whole_root_m (ds : List D) : M D := bodyM (whole_root_d ds)

/-- root_of -/
def root_of_b (one_ : D) : M (Fl Unit Unit) :=
    seqF (γ := Unit) (α := Unit) ((((pure one_) >>= fun x2 => (pure (D.int 0)) >>= fun x3 => itemD x2 x3) >>= fun x4 => (pure (D.int 0)) >>= fun x5 => ltD x4 x5 >>= asB) >>= fun k7 => if k7 = true then (((pure D.non) >>= fun x6 => pure (Fl.rt x6))) else (pure (Fl.nx ()))) fun s1 =>
    seqF (γ := Unit) (α := D) (((((pure one_) >>= fun x9 => (pure (D.int 0)) >>= fun x10 => itemD x9 x10) >>= fun x11 => (pure []) >>= fun r12 => pure (x11 :: r12)) >>= onN 1 whole_root_m) >>= fun x13 => pure (Fl.nx x13)) fun top_ =>
    seqF (γ := Unit) (α := D) (((((pure one_) >>= fun x15 => (pure (D.int 1)) >>= fun x16 => itemD x15 x16) >>= fun x17 => (pure []) >>= fun r18 => pure (x17 :: r18)) >>= onN 1 whole_root_m) >>= fun x19 => pure (Fl.nx x19)) fun bottom_ =>
    seqF (γ := Unit) (α := Unit) ((((pure top_) >>= fun x23 => (pure D.non) >>= fun x24 => isD x23 x24 >>= asB) >>= fun k25 => if k25 = true then pure true else ((pure bottom_) >>= fun x21 => (pure D.non) >>= fun x22 => isD x21 x22 >>= asB)) >>= fun k27 => if k27 = true then (((pure D.non) >>= fun x26 => pure (Fl.rt x26))) else (pure (Fl.nx ()))) fun s20 =>
    ((((pure top_) >>= fun x30 => ((pure bottom_) >>= fun x28 => (pure []) >>= fun r29 => pure (x28 :: r29)) >>= fun r31 => pure (x30 :: r31)) >>= tupD) >>= fun x32 => pure (Fl.rt x32))
def root_of_d : List D → M (Fl Unit Unit)
  | [one_] => root_of_b one_
  | _ => no
def root_of_m (ds : List D) : M D := bodyM (root_of_d ds)

/-- frac_root -/
def frac_root_b (one_ : D) : M (Fl Unit Unit) :=
    seqF (γ := Unit) (α := Unit) ((((((pure one_) >>= fun x2 => (pure []) >>= fun r3 => pure (x2 :: r3)) >>= onN 1 is_fraction_m) >>= truB) >>= fun k4 => pure (!k4)) >>= fun k5 => if k5 = true then (err ⟨"NoFraction", []⟩) else (pure (Fl.nx ()))) fun s1 =>
    ((((pure one_) >>= fun x6 => (pure []) >>= fun r7 => pure (x6 :: r7)) >>= onN 1 root_of_m) >>= fun x8 => pure (Fl.rt x8))
def frac_root_d : List D → M (Fl Unit Unit)
  | [one_] => frac_root_b one_
  | _ => no
def frac_root_m (ds : List D) : M D := bodyM (frac_root_d ds)

/-- _law_hand -/
def law_hand_b (q : Int) (script_ : D) : M (Fl Unit Unit) :=
    seqF (γ := Unit) (α := List D) (((((pure script_) >>= fun x2 => (pure none) >>= fun l5 => ((pure (D.int 63)) >>= fun x3 => asI x3 >>= fun i4 => pure (some i4)) >>= fun h6 => sliceD x2 l5 h6) >>= rowD) >>= lcL (lcT (β := D) (fun d => pure d) (fun cell_ => (pure true)) (fun cell_ => (((((pure cell_) >>= fun x7 => (pure []) >>= fun r8 => pure (x7 :: r8)) >>= on1 int1) >>= fun x9 => (pure []) >>= fun r10 => pure (x9 :: r10)) >>= on1 abs1)))) >>= fun ds11 => pure (Fl.nx ds11)) fun cells_ =>
    (((((pure (D.lst cells_)) >>= fun x26 => ((pure (D.int 0)) >>= fun x24 => ((pure (D.int 0)) >>= fun x22 => (((pure (D.int q)) >>= fun x18 => ((pure (D.int 19)) >>= fun x16 => (((pure (D.lst cells_)) >>= fun x14 => (pure []) >>= fun r15 => pure (x14 :: r15)) >>= on1 len1) >>= fun x17 => mulI x16 x17) >>= fun x19 => addD x18 x19) >>= fun x20 => ((pure (D.int 0)) >>= fun x12 => (pure []) >>= fun r13 => pure (x12 :: r13)) >>= fun r21 => pure (x20 :: r21)) >>= fun r23 => pure (x22 :: r23)) >>= fun r25 => pure (x24 :: r25)) >>= fun r27 => pure (x26 :: r27)) >>= limL) >>= newCell) >>= fun x28 => pure (Fl.rt x28))
def law_hand_d (q : Int) : List D → M (Fl Unit Unit)
  | [script_] => law_hand_b q script_
  | _ => no
def law_hand_m (q : Int) (ds : List D) : M D := bodyM (law_hand_d q ds)

/-- _law_draw -/
def law_draw_b (q : Int) (hand_ many_ : D) : M (Fl Unit Unit) :=
    seqF (γ := Unit) (α := Unit) (((((pure hand_) >>= fun x10 => (pure (D.int 2)) >>= fun x11 => itemD x10 x11) >>= fun x12 => (pure (D.int 0)) >>= fun x13 => eqD x12 x13 >>= asB) >>= fun k14 => if k14 = true then (((pure hand_) >>= fun x2 => (pure (D.int 1)) >>= fun x3 => itemD x2 x3) >>= fun x8 => ((((pure hand_) >>= fun x4 => (pure (D.int 0)) >>= fun x5 => itemD x4 x5) >>= fun x6 => (pure []) >>= fun r7 => pure (x6 :: r7)) >>= on1 len1) >>= fun x9 => ltD x8 x9 >>= asB) else pure false) >>= fun k59 => if k59 = true then (seqF (γ := Unit) (α := D) ((((pure hand_) >>= fun x16 => (pure (D.int 0)) >>= fun x17 => itemD x16 x17) >>= fun x18 => ((pure hand_) >>= fun x19 => (pure (D.int 1)) >>= fun x20 => itemD x19 x20) >>= fun x21 => itemD x18 x21) >>= fun x22 => pure (Fl.nx x22)) fun cell_ =>
        seqF (γ := Unit) (α := Unit) ((((pure hand_) >>= fun x24 => (pure (D.int 1)) >>= fun x25 => itemD x24 x25) >>= fun x26 => (pure (D.int 1)) >>= fun x27 => addD x26 x27) >>= fun x28 => (pure hand_) >>= fun o29 => (pure (D.int 1)) >>= fun i30 => setCell o29 i30 x28 >>= fun _ => pure (Fl.nx ())) fun _ =>
        seqF (γ := Unit) (α := Unit) (((((((((pure hand_) >>= fun x32 => (pure (D.int 3)) >>= fun x33 => itemD x32 x33) >>= fun x34 => (pure (D.int 69621)) >>= fun x35 => mulI x34 x35) >>= fun x38 => ((pure cell_) >>= fun x36 => (pure (D.int 40692)) >>= fun x37 => mulI x36 x37) >>= fun x39 => addD x38 x39) >>= fun x40 => (pure (D.int q)) >>= fun x41 => addD x40 x41) >>= fun x42 => (pure []) >>= fun r43 => pure (x42 :: r43)) >>= on1 int1) >>= fun x44 => (pure (D.int 2147483629)) >>= fun x45 => modD x44 x45) >>= fun x46 => (pure hand_) >>= fun o47 => (pure (D.int 3)) >>= fun i48 => setCell o47 i48 x46 >>= fun _ => pure (Fl.nx ())) fun _ =>
        seqF (γ := Unit) (α := Unit) (((pure cell_) >>= fun x52 => ((pure (D.int 10)) >>= fun x50 => (pure (D.int 18)) >>= fun x51 => powD x50 x51) >>= fun x53 => geD x52 x53 >>= asB) >>= fun k58 => if k58 = true then (seqF (γ := Unit) (α := Unit) ((pure cell_) >>= fun x55 => (pure hand_) >>= fun o56 => (pure (D.int 2)) >>= fun i57 => setCell o56 i57 x55 >>= fun _ => pure (Fl.nx ())) fun _ =>
            pure (Fl.nx ())) else (pure (Fl.nx ()))) fun s49 =>
        pure (Fl.nx ())) else (pure (Fl.nx ()))) fun s1 =>
    seqF (γ := Unit) (α := Unit) ((((pure hand_) >>= fun x61 => (pure (D.int 2)) >>= fun x62 => itemD x61 x62) >>= fun x63 => (pure (D.int 0)) >>= fun x64 => gtD x63 x64 >>= asB) >>= fun k82 => if k82 = true then (seqF (γ := Unit) (α := D) ((((((pure hand_) >>= fun x66 => (pure (D.int 2)) >>= fun x67 => itemD x66 x67) >>= fun x68 => (pure []) >>= fun r69 => pure (x68 :: r69)) >>= on1 int1) >>= fun x70 => (pure many_) >>= fun x71 => modD x70 x71) >>= fun x72 => pure (Fl.nx x72)) fun digit_ =>
        seqF (γ := Unit) (α := Unit) ((((pure hand_) >>= fun x74 => (pure (D.int 2)) >>= fun x75 => itemD x74 x75) >>= fun x76 => (pure many_) >>= fun x77 => fdivD x76 x77) >>= fun x78 => (pure hand_) >>= fun o79 => (pure (D.int 2)) >>= fun i80 => setCell o79 i80 x78 >>= fun _ => pure (Fl.nx ())) fun _ =>
        ((pure digit_) >>= fun x81 => pure (Fl.rt x81))) else (pure (Fl.nx ()))) fun s60 =>
    seqF (γ := Unit) (α := Unit) ((((pure hand_) >>= fun x84 => (pure (D.int 4)) >>= fun x85 => itemD x84 x85) >>= fun x86 => (pure (D.int 1)) >>= fun x87 => addD x86 x87) >>= fun x88 => (pure hand_) >>= fun o89 => (pure (D.int 4)) >>= fun i90 => setCell o89 i90 x88 >>= fun _ => pure (Fl.nx ())) fun _ =>
    seqF (γ := Unit) (α := D) ((((((((((pure hand_) >>= fun x92 => (pure (D.int 3)) >>= fun x93 => itemD x92 x93) >>= fun x98 => ((pure (D.int 7919)) >>= fun x96 => ((pure hand_) >>= fun x94 => (pure (D.int 4)) >>= fun x95 => itemD x94 x95) >>= fun x97 => mulI x96 x97) >>= fun x99 => addD x98 x99) >>= fun x100 => (pure []) >>= fun r101 => pure (x100 :: r101)) >>= on1 int1) >>= fun x102 => (pure (D.int 48271)) >>= fun x103 => mulI x102 x103) >>= fun x104 => (pure []) >>= fun r105 => pure (x104 :: r105)) >>= on1 int1) >>= fun x106 => (pure (D.int 2147483647)) >>= fun x107 => modD x106 x107) >>= fun x108 => pure (Fl.nx x108)) fun number_ =>
    seqF (γ := Unit) (α := D) ((((((pure number_) >>= fun x114 => (((pure number_) >>= fun x110 => (pure (D.int 1009)) >>= fun x111 => fdivD x110 x111) >>= fun x112 => (pure (D.int 69621)) >>= fun x113 => addD x112 x113) >>= fun x115 => mulI x114 x115) >>= fun x116 => (pure []) >>= fun r117 => pure (x116 :: r117)) >>= on1 int1) >>= fun x118 => (pure (D.int 2147483647)) >>= fun x119 => modD x118 x119) >>= fun x120 => pure (Fl.nx x120)) fun number_ =>
    seqF (γ := Unit) (α := D) ((((((pure number_) >>= fun x126 => (((pure number_) >>= fun x122 => (pure (D.int 2003)) >>= fun x123 => fdivD x122 x123) >>= fun x124 => (pure (D.int 40692)) >>= fun x125 => addD x124 x125) >>= fun x127 => mulI x126 x127) >>= fun x128 => (pure []) >>= fun r129 => pure (x128 :: r129)) >>= on1 int1) >>= fun x130 => (pure (D.int 2147483399)) >>= fun x131 => modD x130 x131) >>= fun x132 => pure (Fl.nx x132)) fun number_ =>
    ((((((pure number_) >>= fun x133 => (pure (D.int 16)) >>= fun x134 => fdivD x133 x134) >>= fun x135 => (pure []) >>= fun r136 => pure (x135 :: r136)) >>= on1 int1) >>= fun x137 => (pure many_) >>= fun x138 => modD x137 x138) >>= fun x139 => pure (Fl.rt x139))
def law_draw_d (q : Int) : List D → M (Fl Unit Unit)
  | [hand_, many_] => law_draw_b q hand_ many_
  | _ => no
def law_draw_m (q : Int) (ds : List D) : M D := bodyM (law_draw_d q ds)

/-- _law_some -/
def law_some_b (q : Int) (hand_ items_ : D) : M (Fl Unit Unit) :=
    (((pure items_) >>= fun x1 => (((pure hand_) >>= fun x6 => ((((pure items_) >>= fun x2 => (pure []) >>= fun r3 => pure (x2 :: r3)) >>= on1 len1) >>= fun x4 => (pure []) >>= fun r5 => pure (x4 :: r5)) >>= fun r7 => pure (x6 :: r7)) >>= onN 2 (law_draw_m q)) >>= fun x8 => itemD x1 x8) >>= fun x9 => pure (Fl.rt x9))
def law_some_d (q : Int) : List D → M (Fl Unit Unit)
  | [hand_, items_] => law_some_b q hand_ items_
  | _ => no
def law_some_m (q : Int) (ds : List D) : M D := bodyM (law_some_d q ds)

/-- _law_number -/
def law_number_b (q : Int) (hand_ : D) : M (Fl Unit Unit) :=
    seqF (γ := Unit) (α := D) ((((pure hand_) >>= fun x4 => ((pure (D.int 6)) >>= fun x2 => (pure []) >>= fun r3 => pure (x2 :: r3)) >>= fun r5 => pure (x4 :: r5)) >>= onN 2 (law_draw_m q)) >>= fun x6 => pure (Fl.nx x6)) fun kind_ =>
    seqF (γ := Unit) (α := Unit) (((pure kind_) >>= fun x8 => (pure (D.int 2)) >>= fun x9 => ltD x8 x9 >>= asB) >>= fun k17 => if k17 = true then ((((((pure hand_) >>= fun x12 => ((pure (D.int 25)) >>= fun x10 => (pure []) >>= fun r11 => pure (x10 :: r11)) >>= fun r13 => pure (x12 :: r13)) >>= onN 2 (law_draw_m q)) >>= fun x14 => (pure (D.int 12)) >>= fun x15 => subD x14 x15) >>= fun x16 => pure (Fl.rt x16))) else (pure (Fl.nx ()))) fun s7 =>
    seqF (γ := Unit) (α := Unit) (((pure kind_) >>= fun x19 => (pure (D.int 2)) >>= fun x20 => eqD x19 x20 >>= asB) >>= fun k54 => if k54 = true then (((((pure hand_) >>= fun x51 => ((((pure (D.int 0)) >>= fun x47 => ((pure (D.int 1)) >>= fun x45 => (((pure (D.int 1)) >>= negD) >>= fun x43 => (((pure (D.int 10)) >>= fun x39 => (pure (D.int 39)) >>= fun x40 => powD x39 x40) >>= fun x41 => (((pure (D.int 1)) >>= fun x35 => ((pure (D.int 10)) >>= fun x33 => (pure (D.int 40)) >>= fun x34 => powD x33 x34) >>= fun x36 => subD x35 x36) >>= fun x37 => ((((pure (D.int 2)) >>= fun x27 => (pure (D.int 53)) >>= fun x28 => powD x27 x28) >>= fun x29 => (pure (D.int 1)) >>= fun x30 => addD x29 x30) >>= fun x31 => ((((pure (D.int 10)) >>= fun x21 => (pure (D.int 17)) >>= fun x22 => powD x21 x22) >>= fun x23 => (pure (D.int 1)) >>= fun x24 => addD x23 x24) >>= fun x25 => (pure []) >>= fun r26 => pure (x25 :: r26)) >>= fun r32 => pure (x31 :: r32)) >>= fun r38 => pure (x37 :: r38)) >>= fun r42 => pure (x41 :: r42)) >>= fun r44 => pure (x43 :: r44)) >>= fun r46 => pure (x45 :: r46)) >>= fun r48 => pure (x47 :: r48)) >>= lstD) >>= fun x49 => (pure []) >>= fun r50 => pure (x49 :: r50)) >>= fun r52 => pure (x51 :: r52)) >>= onN 2 (law_some_m q)) >>= fun x53 => pure (Fl.rt x53))) else (pure (Fl.nx ()))) fun s18 =>
    seqF (γ := Unit) (α := D) (((((pure (D.int 1000)) >>= fun x68 => (((pure (D.int 10)) >>= fun x64 => (pure (D.int 9)) >>= fun x65 => powD x64 x65) >>= fun x66 => (((pure (D.int 10)) >>= fun x60 => (pure (D.int 20)) >>= fun x61 => powD x60 x61) >>= fun x62 => (((pure (D.int 10)) >>= fun x56 => (pure (D.int 39)) >>= fun x57 => powD x56 x57) >>= fun x58 => (pure []) >>= fun r59 => pure (x58 :: r59)) >>= fun r63 => pure (x62 :: r63)) >>= fun r67 => pure (x66 :: r67)) >>= fun r69 => pure (x68 :: r69)) >>= lstD) >>= fun x70 => (((pure hand_) >>= fun x73 => ((pure (D.int 4)) >>= fun x71 => (pure []) >>= fun r72 => pure (x71 :: r72)) >>= fun r74 => pure (x73 :: r74)) >>= onN 2 (law_draw_m q)) >>= fun x75 => itemD x70 x75) >>= fun x76 => pure (Fl.nx x76)) fun most_ =>
    (((((pure hand_) >>= fun x83 => ((((pure (D.int 1)) >>= fun x79 => (((pure (D.int 1)) >>= negD) >>= fun x77 => (pure []) >>= fun r78 => pure (x77 :: r78)) >>= fun r80 => pure (x79 :: r80)) >>= lstD) >>= fun x81 => (pure []) >>= fun r82 => pure (x81 :: r82)) >>= fun r84 => pure (x83 :: r84)) >>= onN 2 (law_some_m q)) >>= fun x101 => ((pure most_) >>= fun x99 => ((((pure hand_) >>= fun x89 => (((pure (D.int 10)) >>= fun x85 => (pure (D.int 6)) >>= fun x86 => powD x85 x86) >>= fun x87 => (pure []) >>= fun r88 => pure (x87 :: r88)) >>= fun r90 => pure (x89 :: r90)) >>= onN 2 (law_draw_m q)) >>= fun x97 => (((pure hand_) >>= fun x95 => (((pure (D.int 10)) >>= fun x91 => (pure (D.int 6)) >>= fun x92 => powD x91 x92) >>= fun x93 => (pure []) >>= fun r94 => pure (x93 :: r94)) >>= fun r96 => pure (x95 :: r96)) >>= onN 2 (law_draw_m q)) >>= fun x98 => mulI x97 x98) >>= fun x100 => subD x99 x100) >>= fun x102 => mulI x101 x102) >>= fun x103 => pure (Fl.rt x103))
def law_number_d (q : Int) : List D → M (Fl Unit Unit)
  | [hand_] => law_number_b q hand_
  | _ => no
def law_number_m (q : Int) (ds : List D) : M D := bodyM (law_number_d q ds)

/-- _law_low -/
def law_low_b (top_ bottom_ : D) : M (Fl Unit Unit) :=
    seqF (γ := Unit) (α := D × D) (((((pure top_) >>= fun x6 => (pure []) >>= fun r7 => pure (x6 :: r7)) >>= on1 abs1) >>= fun x8 => ((((pure bottom_) >>= fun x2 => (pure []) >>= fun r3 => pure (x2 :: r3)) >>= on1 abs1) >>= fun x4 => (pure []) >>= fun r5 => pure (x4 :: r5)) >>= fun r9 => pure (x8 :: r9)) >>= fun ds10 => un2 (D.tup ds10) >>= fun b11 => pure (Fl.nx b11)) fun b11 =>
    seqF (γ := Unit) (α := D × D) (whileM (2 ^ 9000) (fun s13 : D × D => ((pure s13.2) >>= fun x14 => (pure (D.int 0)) >>= fun x15 => gtD x14 x15 >>= asB)) (fun s13 : D × D => seqF (γ := D × D) (α := D × D) (((pure s13.2) >>= fun x23 => (((((pure s13.1) >>= fun x17 => (pure []) >>= fun r18 => pure (x17 :: r18)) >>= on1 int1) >>= fun x19 => (pure s13.2) >>= fun x20 => modD x19 x20) >>= fun x21 => (pure []) >>= fun r22 => pure (x21 :: r22)) >>= fun r24 => pure (x23 :: r24)) >>= fun ds25 => un2 (D.tup ds25) >>= fun b26 => pure (Fl.nx b26)) fun b26 =>
        pure (Fl.nx (b26.1, b26.2))) (b11.1, b11.2)) fun s12 =>
    seqF (γ := Unit) (α := D) ((((pure bottom_) >>= fun x28 => (pure (D.int 0)) >>= fun x29 => gtD x28 x29 >>= asB) >>= fun k32 => if k32 = true then (pure s12.1) else ((pure (D.int 0)) >>= fun x30 => (pure s12.1) >>= fun x31 => subD x30 x31)) >>= fun x33 => pure (Fl.nx x33)) fun one_ =>
    (((((pure top_) >>= fun x38 => (pure one_) >>= fun x39 => fdivD x38 x39) >>= fun x40 => (((pure bottom_) >>= fun x34 => (pure one_) >>= fun x35 => fdivD x34 x35) >>= fun x36 => (pure []) >>= fun r37 => pure (x36 :: r37)) >>= fun r41 => pure (x40 :: r41)) >>= tupD) >>= fun x42 => pure (Fl.rt x42))
def law_low_d : List D → M (Fl Unit Unit)
  | [top_, bottom_] => law_low_b top_ bottom_
  | _ => no
def law_low_m (ds : List D) : M D := bodyM (law_low_d ds)

/-- _law_frac -/
def law_frac_b (q : Int) (hand_ : D) : M (Fl Unit Unit) :=
    seqF (γ := Unit) (α := D) ((((pure hand_) >>= fun x16 => ((((pure (D.int 1)) >>= fun x12 => ((pure (D.int 1)) >>= fun x10 => ((pure (D.int 2)) >>= fun x8 => ((pure (D.int 12)) >>= fun x6 => ((((pure hand_) >>= fun x2 => (pure []) >>= fun r3 => pure (x2 :: r3)) >>= onN 1 (law_number_m q)) >>= fun x4 => (pure []) >>= fun r5 => pure (x4 :: r5)) >>= fun r7 => pure (x6 :: r7)) >>= fun r9 => pure (x8 :: r9)) >>= fun r11 => pure (x10 :: r11)) >>= fun r13 => pure (x12 :: r13)) >>= lstD) >>= fun x14 => (pure []) >>= fun r15 => pure (x14 :: r15)) >>= fun r17 => pure (x16 :: r17)) >>= onN 2 (law_some_m q)) >>= fun x18 => pure (Fl.nx x18)) fun bottom_ =>
    ((((((pure hand_) >>= fun x24 => (pure []) >>= fun r25 => pure (x24 :: r25)) >>= onN 1 (law_number_m q)) >>= fun x26 => ((((pure bottom_) >>= fun x19 => (pure (D.int 0)) >>= fun x20 => neD x19 x20 >>= asB) >>= fun k21 => if k21 = true then (pure bottom_) else (pure (D.int 7))) >>= fun x22 => (pure []) >>= fun r23 => pure (x22 :: r23)) >>= fun r27 => pure (x26 :: r27)) >>= onN 2 law_low_m) >>= fun x28 => pure (Fl.rt x28))
def law_frac_d (q : Int) : List D → M (Fl Unit Unit)
  | [hand_] => law_frac_b q hand_
  | _ => no
def law_frac_m (q : Int) (ds : List D) : M D := bodyM (law_frac_d q ds)

/-- _law_odd -/
def law_odd_b (q : Int) (hand_ : D) : M (Fl Unit Unit) :=
    seqF (γ := Unit) (α := D) ((((pure D.non) >>= fun x60 => ((((pure (D.int 1)) >>= fun x56 => (pure []) >>= fun r57 => pure (x56 :: r57)) >>= tupD) >>= fun x58 => ((((pure (D.int 1)) >>= fun x52 => ((pure (D.int 2)) >>= fun x50 => (pure []) >>= fun r51 => pure (x50 :: r51)) >>= fun r53 => pure (x52 :: r53)) >>= lstD) >>= fun x54 => ((((pure (D.int 2)) >>= fun x46 => ((pure (D.int 4)) >>= fun x44 => (pure []) >>= fun r45 => pure (x44 :: r45)) >>= fun r47 => pure (x46 :: r47)) >>= tupD) >>= fun x48 => ((((pure (D.int 1)) >>= fun x40 => ((pure (D.int 0)) >>= fun x38 => (pure []) >>= fun r39 => pure (x38 :: r39)) >>= fun r41 => pure (x40 :: r41)) >>= tupD) >>= fun x42 => ((((pure (D.int 1)) >>= fun x34 => (((pure (D.int 2)) >>= negD) >>= fun x32 => (pure []) >>= fun r33 => pure (x32 :: r33)) >>= fun r35 => pure (x34 :: r35)) >>= tupD) >>= fun x36 => ((((pure (D.int 0)) >>= fun x28 => ((pure (D.int 2)) >>= fun x26 => (pure []) >>= fun r27 => pure (x26 :: r27)) >>= fun r29 => pure (x28 :: r29)) >>= tupD) >>= fun x30 => ((((pure (D.bl true)) >>= fun x22 => ((pure (D.int 2)) >>= fun x20 => (pure []) >>= fun r21 => pure (x20 :: r21)) >>= fun r23 => pure (x22 :: r23)) >>= tupD) >>= fun x24 => ((((pure (D.int 1)) >>= fun x16 => ((pure (D.bl true)) >>= fun x14 => (pure []) >>= fun r15 => pure (x14 :: r15)) >>= fun r17 => pure (x16 :: r17)) >>= tupD) >>= fun x18 => ((((pure (D.int 1)) >>= fun x10 => ((pure (D.int 2)) >>= fun x8 => ((pure (D.int 3)) >>= fun x6 => (pure []) >>= fun r7 => pure (x6 :: r7)) >>= fun r9 => pure (x8 :: r9)) >>= fun r11 => pure (x10 :: r11)) >>= tupD) >>= fun x12 => ((pure (D.str "1/2")) >>= fun x4 => ((pure (D.int 3)) >>= fun x2 => (pure []) >>= fun r3 => pure (x2 :: r3)) >>= fun r5 => pure (x4 :: r5)) >>= fun r13 => pure (x12 :: r13)) >>= fun r19 => pure (x18 :: r19)) >>= fun r25 => pure (x24 :: r25)) >>= fun r31 => pure (x30 :: r31)) >>= fun r37 => pure (x36 :: r37)) >>= fun r43 => pure (x42 :: r43)) >>= fun r49 => pure (x48 :: r49)) >>= fun r55 => pure (x54 :: r55)) >>= fun r59 => pure (x58 :: r59)) >>= fun r61 => pure (x60 :: r61)) >>= lstD) >>= fun x62 => pure (Fl.nx x62)) fun some_ =>
    ((((pure hand_) >>= fun x105 => (((pure some_) >>= fun x101 => ((((((pure (D.int 3)) >>= negD) >>= fun x97 => ((pure (D.int 3)) >>= fun x95 => (pure []) >>= fun r96 => pure (x95 :: r96)) >>= fun r98 => pure (x97 :: r98)) >>= tupD) >>= fun x99 => ((((pure (D.int 0)) >>= fun x91 => (((pure (D.int 1)) >>= negD) >>= fun x89 => (pure []) >>= fun r90 => pure (x89 :: r90)) >>= fun r92 => pure (x91 :: r92)) >>= tupD) >>= fun x93 => ((pure (D.bl false)) >>= fun x87 => ((((pure D.non) >>= fun x83 => ((pure (D.int 1)) >>= fun x81 => (pure []) >>= fun r82 => pure (x81 :: r82)) >>= fun r84 => pure (x83 :: r84)) >>= tupD) >>= fun x85 => ((((pure (D.str "1")) >>= fun x77 => ((pure (D.int 2)) >>= fun x75 => (pure []) >>= fun r76 => pure (x75 :: r76)) >>= fun r78 => pure (x77 :: r78)) >>= tupD) >>= fun x79 => ((pure D.emp) >>= fun x73 => ((((((pure (D.int 1)) >>= fun x67 => ((pure (D.int 2)) >>= fun x65 => (pure []) >>= fun r66 => pure (x65 :: r66)) >>= fun r68 => pure (x67 :: r68)) >>= tupD) >>= fun x69 => ((pure (D.int 1)) >>= fun x63 => (pure []) >>= fun r64 => pure (x63 :: r64)) >>= fun r70 => pure (x69 :: r70)) >>= tupD) >>= fun x71 => (pure []) >>= fun r72 => pure (x71 :: r72)) >>= fun r74 => pure (x73 :: r74)) >>= fun r80 => pure (x79 :: r80)) >>= fun r86 => pure (x85 :: r86)) >>= fun r88 => pure (x87 :: r88)) >>= fun r94 => pure (x93 :: r94)) >>= fun r100 => pure (x99 :: r100)) >>= lstD) >>= fun x102 => addD x101 x102) >>= fun x103 => (pure []) >>= fun r104 => pure (x103 :: r104)) >>= fun r106 => pure (x105 :: r106)) >>= onN 2 (law_some_m q)) >>= fun x107 => pure (Fl.rt x107))
def law_odd_d (q : Int) : List D → M (Fl Unit Unit)
  | [hand_] => law_odd_b q hand_
  | _ => no
def law_odd_m (q : Int) (ds : List D) : M D := bodyM (law_odd_d q ds)

/-- is_point -/
def is_point_b (thing_ : D) : M (Fl Unit Unit) :=
    ((((pure thing_) >>= isaD [.tuple]) >>= fun x17 => truB x17 >>= fun k18 => if k18 = true then (((((pure thing_) >>= fun x11 => (pure []) >>= fun r12 => pure (x11 :: r12)) >>= on1 len1) >>= fun x13 => (pure (D.int 2)) >>= fun x14 => eqD x13 x14) >>= fun x15 => truB x15 >>= fun k16 => if k16 = true then (((((pure thing_) >>= fun x5 => (pure (D.int 0)) >>= fun x6 => itemD x5 x6) >>= fun x7 => (pure []) >>= fun r8 => pure (x7 :: r8)) >>= onN 1 is_fraction_m) >>= fun x9 => truB x9 >>= fun k10 => if k10 = true then ((((pure thing_) >>= fun x1 => (pure (D.int 1)) >>= fun x2 => itemD x1 x2) >>= fun x3 => (pure []) >>= fun r4 => pure (x3 :: r4)) >>= onN 1 is_fraction_m) else pure x9) else pure x15) else pure x17) >>= fun x19 => pure (Fl.rt x19))
def is_point_d : List D → M (Fl Unit Unit)
  | [thing_] => is_point_b thing_
  | _ => no
def is_point_m (ds : List D) : M D := bodyM (is_point_d ds)

/-- step_of -/
def step_of_b (one_ other_ : D) : M (Fl Unit Unit) :=
    (((((((pure other_) >>= fun x15 => (pure (D.int 0)) >>= fun x16 => itemD x15 x16) >>= fun x17 => (((pure one_) >>= fun x11 => (pure (D.int 0)) >>= fun x12 => itemD x11 x12) >>= fun x13 => (pure []) >>= fun r14 => pure (x13 :: r14)) >>= fun r18 => pure (x17 :: r18)) >>= onN 2 minus_m) >>= fun x19 => (((((pure other_) >>= fun x5 => (pure (D.int 1)) >>= fun x6 => itemD x5 x6) >>= fun x7 => (((pure one_) >>= fun x1 => (pure (D.int 1)) >>= fun x2 => itemD x1 x2) >>= fun x3 => (pure []) >>= fun r4 => pure (x3 :: r4)) >>= fun r8 => pure (x7 :: r8)) >>= onN 2 minus_m) >>= fun x9 => (pure []) >>= fun r10 => pure (x9 :: r10)) >>= fun r20 => pure (x19 :: r20)) >>= tupD) >>= fun x21 => pure (Fl.rt x21))
def step_of_d : List D → M (Fl Unit Unit)
  | [one_, other_] => step_of_b one_ other_
  | _ => no
def step_of_m (ds : List D) : M D := bodyM (step_of_d ds)

/-- inner_of -/
def inner_of_b (one_ other_ : D) : M (Fl Unit Unit) :=
    (((((((pure one_) >>= fun x15 => (pure (D.int 0)) >>= fun x16 => itemD x15 x16) >>= fun x17 => (((pure other_) >>= fun x11 => (pure (D.int 0)) >>= fun x12 => itemD x11 x12) >>= fun x13 => (pure []) >>= fun r14 => pure (x13 :: r14)) >>= fun r18 => pure (x17 :: r18)) >>= onN 2 product_m) >>= fun x19 => (((((pure one_) >>= fun x5 => (pure (D.int 1)) >>= fun x6 => itemD x5 x6) >>= fun x7 => (((pure other_) >>= fun x1 => (pure (D.int 1)) >>= fun x2 => itemD x1 x2) >>= fun x3 => (pure []) >>= fun r4 => pure (x3 :: r4)) >>= fun r8 => pure (x7 :: r8)) >>= onN 2 product_m) >>= fun x9 => (pure []) >>= fun r10 => pure (x9 :: r10)) >>= fun r20 => pure (x19 :: r20)) >>= onN 2 plus_m) >>= fun x21 => pure (Fl.rt x21))
def inner_of_d : List D → M (Fl Unit Unit)
  | [one_, other_] => inner_of_b one_ other_
  | _ => no
def inner_of_m (ds : List D) : M D := bodyM (inner_of_d ds)

/-- size_of -/
def size_of_b (step_ : D) : M (Fl Unit Unit) :=
    ((((((pure step_) >>= fun x3 => ((pure step_) >>= fun x1 => (pure []) >>= fun r2 => pure (x1 :: r2)) >>= fun r4 => pure (x3 :: r4)) >>= onN 2 inner_of_m) >>= fun x5 => (pure []) >>= fun r6 => pure (x5 :: r6)) >>= onN 1 root_of_m) >>= fun x7 => pure (Fl.rt x7))
def size_of_d : List D → M (Fl Unit Unit)
  | [step_] => size_of_b step_
  | _ => no
def size_of_m (ds : List D) : M D := bodyM (size_of_d ds)

/-- whole_triple -/
def whole_triple_b (point_ : D) : M (Fl Unit Unit) :=
    seqF (γ := Unit) (α := D × D) ((pure point_) >>= fun x3 => un2 x3 >>= fun b2 => pure (Fl.nx b2)) fun b2 =>
    ((((((pure b2.1) >>= fun x20 => (pure (D.int 0)) >>= fun x21 => itemD x20 x21) >>= fun x24 => ((pure b2.2) >>= fun x22 => (pure (D.int 1)) >>= fun x23 => itemD x22 x23) >>= fun x25 => mulI x24 x25) >>= fun x26 => ((((pure b2.2) >>= fun x12 => (pure (D.int 0)) >>= fun x13 => itemD x12 x13) >>= fun x16 => ((pure b2.1) >>= fun x14 => (pure (D.int 1)) >>= fun x15 => itemD x14 x15) >>= fun x17 => mulI x16 x17) >>= fun x18 => ((((pure b2.1) >>= fun x4 => (pure (D.int 1)) >>= fun x5 => itemD x4 x5) >>= fun x8 => ((pure b2.2) >>= fun x6 => (pure (D.int 1)) >>= fun x7 => itemD x6 x7) >>= fun x9 => mulI x8 x9) >>= fun x10 => (pure []) >>= fun r11 => pure (x10 :: r11)) >>= fun r19 => pure (x18 :: r19)) >>= fun r27 => pure (x26 :: r27)) >>= tupD) >>= fun x28 => pure (Fl.rt x28))
def whole_triple_d : List D → M (Fl Unit Unit)
  | [point_] => whole_triple_b point_
  | _ => no
def whole_triple_m (ds : List D) : M D := bodyM (whole_triple_d ds)

/-- side_sign -/
def side_sign_b (one_ other_ third_ : D) : M (Fl Unit Unit) :=
    seqF (γ := Unit) (α := D × D × D) ((((pure one_) >>= fun x2 => (pure []) >>= fun r3 => pure (x2 :: r3)) >>= onN 1 whole_triple_m) >>= fun x5 => un3 x5 >>= fun b4 => pure (Fl.nx b4)) fun b4 =>
    seqF (γ := Unit) (α := D × D × D) ((((pure other_) >>= fun x7 => (pure []) >>= fun r8 => pure (x7 :: r8)) >>= onN 1 whole_triple_m) >>= fun x10 => un3 x10 >>= fun b9 => pure (Fl.nx b9)) fun b9 =>
    seqF (γ := Unit) (α := D × D × D) ((((pure third_) >>= fun x12 => (pure []) >>= fun r13 => pure (x12 :: r13)) >>= onN 1 whole_triple_m) >>= fun x15 => un3 x15 >>= fun b14 => pure (Fl.nx b14)) fun b14 =>
    seqF (γ := Unit) (α := D) (((((pure b4.1) >>= fun x23 => (((pure b9.2.1) >>= fun x17 => (pure b14.2.2) >>= fun x18 => mulI x17 x18) >>= fun x21 => ((pure b14.2.1) >>= fun x19 => (pure b9.2.2) >>= fun x20 => mulI x19 x20) >>= fun x22 => subD x21 x22) >>= fun x24 => mulI x23 x24) >>= fun x33 => ((pure b4.2.1) >>= fun x31 => (((pure b9.1) >>= fun x25 => (pure b14.2.2) >>= fun x26 => mulI x25 x26) >>= fun x29 => ((pure b14.1) >>= fun x27 => (pure b9.2.2) >>= fun x28 => mulI x27 x28) >>= fun x30 => subD x29 x30) >>= fun x32 => mulI x31 x32) >>= fun x34 => subD x33 x34) >>= fun x43 => ((pure b4.2.2) >>= fun x41 => (((pure b9.1) >>= fun x35 => (pure b14.2.1) >>= fun x36 => mulI x35 x36) >>= fun x39 => ((pure b14.1) >>= fun x37 => (pure b9.2.1) >>= fun x38 => mulI x37 x38) >>= fun x40 => subD x39 x40) >>= fun x42 => mulI x41 x42) >>= fun x44 => addD x43 x44) >>= fun x45 => pure (Fl.nx x45)) fun total_ =>
    ((((((pure total_) >>= fun x46 => (pure (D.int 0)) >>= fun x47 => gtD x46 x47) >>= fun x48 => (pure []) >>= fun r49 => pure (x48 :: r49)) >>= on1 int1) >>= fun x54 => ((((pure total_) >>= fun x50 => (pure (D.int 0)) >>= fun x51 => ltD x50 x51) >>= fun x52 => (pure []) >>= fun r53 => pure (x52 :: r53)) >>= on1 int1) >>= fun x55 => subD x54 x55) >>= fun x56 => pure (Fl.rt x56))
def side_sign_d : List D → M (Fl Unit Unit)
  | [one_, other_, third_] => side_sign_b one_ other_ third_
  | _ => no
def side_sign_m (ds : List D) : M D := bodyM (side_sign_d ds)

/-- _law_plus -/
def law_plus_b (one_ other_ : D) : M (Fl Unit Unit) :=
    (((((((pure one_) >>= fun x9 => (pure (D.int 0)) >>= fun x10 => itemD x9 x10) >>= fun x13 => ((pure other_) >>= fun x11 => (pure (D.int 1)) >>= fun x12 => itemD x11 x12) >>= fun x14 => mulI x13 x14) >>= fun x21 => (((pure other_) >>= fun x15 => (pure (D.int 0)) >>= fun x16 => itemD x15 x16) >>= fun x19 => ((pure one_) >>= fun x17 => (pure (D.int 1)) >>= fun x18 => itemD x17 x18) >>= fun x20 => mulI x19 x20) >>= fun x22 => addD x21 x22) >>= fun x23 => ((((pure one_) >>= fun x1 => (pure (D.int 1)) >>= fun x2 => itemD x1 x2) >>= fun x5 => ((pure other_) >>= fun x3 => (pure (D.int 1)) >>= fun x4 => itemD x3 x4) >>= fun x6 => mulI x5 x6) >>= fun x7 => (pure []) >>= fun r8 => pure (x7 :: r8)) >>= fun r24 => pure (x23 :: r24)) >>= onN 2 law_low_m) >>= fun x25 => pure (Fl.rt x25))
def law_plus_d : List D → M (Fl Unit Unit)
  | [one_, other_] => law_plus_b one_ other_
  | _ => no
def law_plus_m (ds : List D) : M D := bodyM (law_plus_d ds)

/-- _law_times -/
def law_times_b (one_ other_ : D) : M (Fl Unit Unit) :=
    ((((((pure one_) >>= fun x9 => (pure (D.int 0)) >>= fun x10 => itemD x9 x10) >>= fun x13 => ((pure other_) >>= fun x11 => (pure (D.int 0)) >>= fun x12 => itemD x11 x12) >>= fun x14 => mulI x13 x14) >>= fun x15 => ((((pure one_) >>= fun x1 => (pure (D.int 1)) >>= fun x2 => itemD x1 x2) >>= fun x5 => ((pure other_) >>= fun x3 => (pure (D.int 1)) >>= fun x4 => itemD x3 x4) >>= fun x6 => mulI x5 x6) >>= fun x7 => (pure []) >>= fun r8 => pure (x7 :: r8)) >>= fun r16 => pure (x15 :: r16)) >>= onN 2 law_low_m) >>= fun x17 => pure (Fl.rt x17))
def law_times_d : List D → M (Fl Unit Unit)
  | [one_, other_] => law_times_b one_ other_
  | _ => no
def law_times_m (ds : List D) : M D := bodyM (law_times_d ds)

/-- _law_minus -/
def law_minus_b (one_ other_ : D) : M (Fl Unit Unit) :=
    ((((pure one_) >>= fun x13 => (((((pure (D.int 0)) >>= fun x7 => ((pure other_) >>= fun x5 => (pure (D.int 0)) >>= fun x6 => itemD x5 x6) >>= fun x8 => subD x7 x8) >>= fun x9 => (((pure other_) >>= fun x1 => (pure (D.int 1)) >>= fun x2 => itemD x1 x2) >>= fun x3 => (pure []) >>= fun r4 => pure (x3 :: r4)) >>= fun r10 => pure (x9 :: r10)) >>= tupD) >>= fun x11 => (pure []) >>= fun r12 => pure (x11 :: r12)) >>= fun r14 => pure (x13 :: r14)) >>= onN 2 law_plus_m) >>= fun x15 => pure (Fl.rt x15))
def law_minus_d : List D → M (Fl Unit Unit)
  | [one_, other_] => law_minus_b one_ other_
  | _ => no
def law_minus_m (ds : List D) : M D := bodyM (law_minus_d ds)

/-- _law_ray -/
def law_ray_b (q : Int) (hand_ : D) : M (Fl Unit Unit) :=
    seqF (γ := Unit) (α := D × D) ((((pure (D.int 1)) >>= fun x12 => (((pure hand_) >>= fun x10 => ((pure (D.int 6)) >>= fun x8 => (pure []) >>= fun r9 => pure (x8 :: r9)) >>= fun r11 => pure (x10 :: r11)) >>= onN 2 (law_draw_m q)) >>= fun x13 => addD x12 x13) >>= fun x14 => ((((pure hand_) >>= fun x4 => ((pure (D.int 7)) >>= fun x2 => (pure []) >>= fun r3 => pure (x2 :: r3)) >>= fun r5 => pure (x4 :: r5)) >>= onN 2 (law_draw_m q)) >>= fun x6 => (pure []) >>= fun r7 => pure (x6 :: r7)) >>= fun r15 => pure (x14 :: r15)) >>= fun ds16 => un2 (D.tup ds16) >>= fun b17 => pure (Fl.nx b17)) fun b17 =>
    seqF (γ := Unit) (α := D) ((((pure b17.1) >>= fun x19 => (pure b17.1) >>= fun x20 => mulI x19 x20) >>= fun x23 => ((pure b17.2) >>= fun x21 => (pure b17.2) >>= fun x22 => mulI x21 x22) >>= fun x24 => addD x23 x24) >>= fun x25 => pure (Fl.nx x25)) fun whole_ =>
    seqF (γ := Unit) (α := D × D) (((((((pure b17.1) >>= fun x39 => (pure b17.1) >>= fun x40 => mulI x39 x40) >>= fun x43 => ((pure b17.2) >>= fun x41 => (pure b17.2) >>= fun x42 => mulI x41 x42) >>= fun x44 => subD x43 x44) >>= fun x45 => ((pure whole_) >>= fun x37 => (pure []) >>= fun r38 => pure (x37 :: r38)) >>= fun r46 => pure (x45 :: r46)) >>= onN 2 law_low_m) >>= fun x47 => ((((((pure (D.int 2)) >>= fun x29 => (pure b17.1) >>= fun x30 => mulI x29 x30) >>= fun x31 => (pure b17.2) >>= fun x32 => mulI x31 x32) >>= fun x33 => ((pure whole_) >>= fun x27 => (pure []) >>= fun r28 => pure (x27 :: r28)) >>= fun r34 => pure (x33 :: r34)) >>= onN 2 law_low_m) >>= fun x35 => (pure []) >>= fun r36 => pure (x35 :: r36)) >>= fun r48 => pure (x47 :: r48)) >>= fun ds49 => un2 (D.tup ds49) >>= fun b50 => pure (Fl.nx b50)) fun b50 =>
    seqF (γ := Unit) (α := D × D) ((((((pure hand_) >>= fun x55 => ((pure (D.int 4)) >>= fun x53 => (pure []) >>= fun r54 => pure (x53 :: r54)) >>= fun r56 => pure (x55 :: r56)) >>= onN 2 (law_draw_m q)) >>= fun x57 => (pure []) >>= fun r58 => pure (x57 :: r58)) >>= range1) >>= fun ds76 => forM (fun d77 (s52 : D × D) => (fun d => pure d) d77 >>= fun turn_ => seqF (γ := D × D) (α := D × D) ((((((pure (D.int 0)) >>= fun x68 => ((pure s52.2) >>= fun x66 => (pure (D.int 0)) >>= fun x67 => itemD x66 x67) >>= fun x69 => subD x68 x69) >>= fun x70 => (((pure s52.2) >>= fun x62 => (pure (D.int 1)) >>= fun x63 => itemD x62 x63) >>= fun x64 => (pure []) >>= fun r65 => pure (x64 :: r65)) >>= fun r71 => pure (x70 :: r71)) >>= tupD) >>= fun x72 => ((pure s52.1) >>= fun x60 => (pure []) >>= fun r61 => pure (x60 :: r61)) >>= fun r73 => pure (x72 :: r73)) >>= fun ds74 => un2 (D.tup ds74) >>= fun b75 => pure (Fl.nx b75)) fun b75 =>
        pure (Fl.nx (b75.1, b75.2))) ds76 (b50.1, b50.2)) fun s51 =>
    ((((pure s51.1) >>= fun x80 => ((pure s51.2) >>= fun x78 => (pure []) >>= fun r79 => pure (x78 :: r79)) >>= fun r81 => pure (x80 :: r81)) >>= tupD) >>= fun x82 => pure (Fl.rt x82))
def law_ray_d (q : Int) : List D → M (Fl Unit Unit)
  | [hand_] => law_ray_b q hand_
  | _ => no
def law_ray_m (q : Int) (ds : List D) : M D := bodyM (law_ray_d q ds)

/-- _law_led -/
def law_led_b (point_ ray_ far_ shift_ : D) : M (Fl Unit Unit) :=
    seqF (γ := Unit) (α := D) (((((((pure point_) >>= fun x16 => (pure (D.int 0)) >>= fun x17 => itemD x16 x17) >>= fun x18 => (((pure ray_) >>= fun x12 => (pure (D.int 0)) >>= fun x13 => itemD x12 x13) >>= fun x14 => (pure []) >>= fun r15 => pure (x14 :: r15)) >>= fun r19 => pure (x18 :: r19)) >>= onN 2 law_times_m) >>= fun x20 => (((((pure point_) >>= fun x6 => (pure (D.int 1)) >>= fun x7 => itemD x6 x7) >>= fun x8 => (((pure ray_) >>= fun x2 => (pure (D.int 1)) >>= fun x3 => itemD x2 x3) >>= fun x4 => (pure []) >>= fun r5 => pure (x4 :: r5)) >>= fun r9 => pure (x8 :: r9)) >>= onN 2 law_times_m) >>= fun x10 => (pure []) >>= fun r11 => pure (x10 :: r11)) >>= fun r21 => pure (x20 :: r21)) >>= onN 2 law_minus_m) >>= fun x22 => pure (Fl.nx x22)) fun x_ =>
    seqF (γ := Unit) (α := D) (((((((pure point_) >>= fun x38 => (pure (D.int 0)) >>= fun x39 => itemD x38 x39) >>= fun x40 => (((pure ray_) >>= fun x34 => (pure (D.int 1)) >>= fun x35 => itemD x34 x35) >>= fun x36 => (pure []) >>= fun r37 => pure (x36 :: r37)) >>= fun r41 => pure (x40 :: r41)) >>= onN 2 law_times_m) >>= fun x42 => (((((pure point_) >>= fun x28 => (pure (D.int 1)) >>= fun x29 => itemD x28 x29) >>= fun x30 => (((pure ray_) >>= fun x24 => (pure (D.int 0)) >>= fun x25 => itemD x24 x25) >>= fun x26 => (pure []) >>= fun r27 => pure (x26 :: r27)) >>= fun r31 => pure (x30 :: r31)) >>= onN 2 law_times_m) >>= fun x32 => (pure []) >>= fun r33 => pure (x32 :: r33)) >>= fun r43 => pure (x42 :: r43)) >>= onN 2 law_plus_m) >>= fun x44 => pure (Fl.nx x44)) fun y_ =>
    ((((((((pure x_) >>= fun x63 => ((pure far_) >>= fun x61 => (pure []) >>= fun r62 => pure (x61 :: r62)) >>= fun r64 => pure (x63 :: r64)) >>= onN 2 law_times_m) >>= fun x65 => (((pure shift_) >>= fun x57 => (pure (D.int 0)) >>= fun x58 => itemD x57 x58) >>= fun x59 => (pure []) >>= fun r60 => pure (x59 :: r60)) >>= fun r66 => pure (x65 :: r66)) >>= onN 2 law_plus_m) >>= fun x67 => ((((((pure y_) >>= fun x51 => ((pure far_) >>= fun x49 => (pure []) >>= fun r50 => pure (x49 :: r50)) >>= fun r52 => pure (x51 :: r52)) >>= onN 2 law_times_m) >>= fun x53 => (((pure shift_) >>= fun x45 => (pure (D.int 1)) >>= fun x46 => itemD x45 x46) >>= fun x47 => (pure []) >>= fun r48 => pure (x47 :: r48)) >>= fun r54 => pure (x53 :: r54)) >>= onN 2 law_plus_m) >>= fun x55 => (pure []) >>= fun r56 => pure (x55 :: r56)) >>= fun r68 => pure (x67 :: r68)) >>= tupD) >>= fun x69 => pure (Fl.rt x69))
def law_led_d : List D → M (Fl Unit Unit)
  | [point_, ray_, far_, shift_] => law_led_b point_ ray_ far_ shift_
  | _ => no
def law_led_m (ds : List D) : M D := bodyM (law_led_d ds)

/-- _law_cross -/
def law_cross_b (a_ b_ c_ : D) : M (Fl Unit Unit) :=
    seqF (γ := Unit) (α := D) (((((((pure b_) >>= fun x16 => (pure (D.int 0)) >>= fun x17 => itemD x16 x17) >>= fun x18 => (((pure a_) >>= fun x12 => (pure (D.int 0)) >>= fun x13 => itemD x12 x13) >>= fun x14 => (pure []) >>= fun r15 => pure (x14 :: r15)) >>= fun r19 => pure (x18 :: r19)) >>= onN 2 law_minus_m) >>= fun x20 => (((((pure c_) >>= fun x6 => (pure (D.int 1)) >>= fun x7 => itemD x6 x7) >>= fun x8 => (((pure a_) >>= fun x2 => (pure (D.int 1)) >>= fun x3 => itemD x2 x3) >>= fun x4 => (pure []) >>= fun r5 => pure (x4 :: r5)) >>= fun r9 => pure (x8 :: r9)) >>= onN 2 law_minus_m) >>= fun x10 => (pure []) >>= fun r11 => pure (x10 :: r11)) >>= fun r21 => pure (x20 :: r21)) >>= onN 2 law_times_m) >>= fun x22 => pure (Fl.nx x22)) fun one_ =>
    ((((pure one_) >>= fun x45 => (((((((pure b_) >>= fun x37 => (pure (D.int 1)) >>= fun x38 => itemD x37 x38) >>= fun x39 => (((pure a_) >>= fun x33 => (pure (D.int 1)) >>= fun x34 => itemD x33 x34) >>= fun x35 => (pure []) >>= fun r36 => pure (x35 :: r36)) >>= fun r40 => pure (x39 :: r40)) >>= onN 2 law_minus_m) >>= fun x41 => (((((pure c_) >>= fun x27 => (pure (D.int 0)) >>= fun x28 => itemD x27 x28) >>= fun x29 => (((pure a_) >>= fun x23 => (pure (D.int 0)) >>= fun x24 => itemD x23 x24) >>= fun x25 => (pure []) >>= fun r26 => pure (x25 :: r26)) >>= fun r30 => pure (x29 :: r30)) >>= onN 2 law_minus_m) >>= fun x31 => (pure []) >>= fun r32 => pure (x31 :: r32)) >>= fun r42 => pure (x41 :: r42)) >>= onN 2 law_times_m) >>= fun x43 => (pure []) >>= fun r44 => pure (x43 :: r44)) >>= fun r46 => pure (x45 :: r46)) >>= onN 2 law_minus_m) >>= fun x47 => pure (Fl.rt x47))
def law_cross_d : List D → M (Fl Unit Unit)
  | [a_, b_, c_] => law_cross_b a_ b_ c_
  | _ => no
def law_cross_m (ds : List D) : M D := bodyM (law_cross_d ds)

/-- _law_whole_root -/
def law_whole_root_b (number_ : D) : M (Fl Unit Unit) :=
    seqF (γ := Unit) (α := D × D) ((((pure (D.int 0)) >>= fun x4 => ((pure (D.int 1)) >>= fun x2 => (pure []) >>= fun r3 => pure (x2 :: r3)) >>= fun r5 => pure (x4 :: r5)) >>= tupD) >>= fun x7 => un2 x7 >>= fun b6 => pure (Fl.nx b6)) fun b6 =>
    seqF (γ := Unit) (α := D) (whileM (2 ^ 9000) (fun s9 : D => (((pure s9) >>= fun x10 => (pure s9) >>= fun x11 => mulI x10 x11) >>= fun x12 => (pure number_) >>= fun x13 => leD x12 x13 >>= asB)) (fun s9 : D => seqF (γ := D) (α := D) (((pure (D.int 2)) >>= fun x15 => (pure s9) >>= fun x16 => mulI x15 x16) >>= fun x17 => pure (Fl.nx x17)) fun high_ =>
        pure (Fl.nx high_)) b6.2) fun s8 =>
    seqF (γ := Unit) (α := D × D) (whileM (2 ^ 9000) (fun s19 : D × D => (((pure s19.2) >>= fun x20 => (pure s19.1) >>= fun x21 => subD x20 x21) >>= fun x22 => (pure (D.int 1)) >>= fun x23 => gtD x22 x23 >>= asB)) (fun s19 : D × D => seqF (γ := D × D) (α := D) ((((pure s19.1) >>= fun x25 => (pure s19.2) >>= fun x26 => addD x25 x26) >>= fun x27 => (pure (D.int 2)) >>= fun x28 => fdivD x27 x28) >>= fun x29 => pure (Fl.nx x29)) fun middle_ =>
        seqF (γ := D × D) (α := D × D) (((((pure middle_) >>= fun x31 => (pure middle_) >>= fun x32 => mulI x31 x32) >>= fun x33 => (pure number_) >>= fun x34 => leD x33 x34 >>= asB) >>= fun k43 => if k43 = true then (((pure middle_) >>= fun x37 => ((pure s19.2) >>= fun x35 => (pure []) >>= fun r36 => pure (x35 :: r36)) >>= fun r38 => pure (x37 :: r38)) >>= tupD) else (((pure s19.1) >>= fun x41 => ((pure middle_) >>= fun x39 => (pure []) >>= fun r40 => pure (x39 :: r40)) >>= fun r42 => pure (x41 :: r42)) >>= tupD)) >>= fun x45 => un2 x45 >>= fun b44 => pure (Fl.nx b44)) fun b44 =>
        pure (Fl.nx (b44.1, b44.2))) (b6.1, s8)) fun s18 =>
    (((((pure s18.1) >>= fun x46 => (pure s18.1) >>= fun x47 => mulI x46 x47) >>= fun x48 => (pure number_) >>= fun x49 => eqD x48 x49 >>= asB) >>= fun k50 => if k50 = true then (pure s18.1) else (pure D.non)) >>= fun x51 => pure (Fl.rt x51))
def law_whole_root_d : List D → M (Fl Unit Unit)
  | [number_] => law_whole_root_b number_
  | _ => no
def law_whole_root_m (ds : List D) : M D := bodyM (law_whole_root_d ds)

/-- is_row -/
def is_row_b (thing_ : D) : M (Fl Unit Unit) :=
    (((pure thing_) >>= isaD [.list, .tuple]) >>= fun x1 => pure (Fl.rt x1))
def is_row_d : List D → M (Fl Unit Unit)
  | [thing_] => is_row_b thing_
  | _ => no
def is_row_m (ds : List D) : M D := bodyM (is_row_d ds)

/-- length_of -/
def length_of_b (one_ other_ : D) : M (Fl Unit Unit) :=
    seqF (γ := Unit) (α := Unit) (((((((pure one_) >>= fun x5 => (pure []) >>= fun r6 => pure (x5 :: r6)) >>= onN 1 is_point_m) >>= truB) >>= fun k7 => pure (!k7)) >>= fun k8 => if k8 = true then pure true else (((((pure other_) >>= fun x2 => (pure []) >>= fun r3 => pure (x2 :: r3)) >>= onN 1 is_point_m) >>= truB) >>= fun k4 => pure (!k4))) >>= fun k9 => if k9 = true then (err ⟨"NoPoint", []⟩) else (pure (Fl.nx ()))) fun s1 =>
    ((((((pure one_) >>= fun x12 => ((pure other_) >>= fun x10 => (pure []) >>= fun r11 => pure (x10 :: r11)) >>= fun r13 => pure (x12 :: r13)) >>= onN 2 step_of_m) >>= fun x14 => (pure []) >>= fun r15 => pure (x14 :: r15)) >>= onN 1 size_of_m) >>= fun x16 => pure (Fl.rt x16))
def length_of_d : List D → M (Fl Unit Unit)
  | [one_, other_] => length_of_b one_ other_
  | _ => no
def length_of_m (ds : List D) : M D := bodyM (length_of_d ds)

/-- turn_of -/
def turn_of_b (one_ other_ third_ : D) : M (Fl Unit Unit) :=
    seqF (γ := Unit) (α := Unit) (((((((pure one_) >>= fun x9 => (pure []) >>= fun r10 => pure (x9 :: r10)) >>= onN 1 is_point_m) >>= truB) >>= fun k11 => pure (!k11)) >>= fun k12 => if k12 = true then pure true else ((((((pure other_) >>= fun x5 => (pure []) >>= fun r6 => pure (x5 :: r6)) >>= onN 1 is_point_m) >>= truB) >>= fun k7 => pure (!k7)) >>= fun k8 => if k8 = true then pure true else (((((pure third_) >>= fun x2 => (pure []) >>= fun r3 => pure (x2 :: r3)) >>= onN 1 is_point_m) >>= truB) >>= fun k4 => pure (!k4)))) >>= fun k13 => if k13 = true then (err ⟨"NoPoint", []⟩) else (pure (Fl.nx ()))) fun s1 =>
    ((((pure one_) >>= fun x18 => ((pure other_) >>= fun x16 => ((pure third_) >>= fun x14 => (pure []) >>= fun r15 => pure (x14 :: r15)) >>= fun r17 => pure (x16 :: r17)) >>= fun r19 => pure (x18 :: r19)) >>= onN 3 side_sign_m) >>= fun x20 => pure (Fl.rt x20))
def turn_of_d : List D → M (Fl Unit Unit)
  | [one_, other_, third_] => turn_of_b one_ other_ third_
  | _ => no
def turn_of_m (ds : List D) : M D := bodyM (turn_of_d ds)

/-- sides_round -/
def sides_round_b (items_ : D) : M (Fl Unit Unit) :=
    (((((((pure (D.int 1)) >>= fun x5 => ((((pure items_) >>= fun x1 => (pure []) >>= fun r2 => pure (x1 :: r2)) >>= on1 len1) >>= fun x3 => (pure []) >>= fun r4 => pure (x3 :: r4)) >>= fun r6 => pure (x5 :: r6)) >>= range2) >>= lcL (lcT (β := D) (fun d => pure d) (fun at_ => (pure true)) (fun at_ => ((((pure items_) >>= fun x11 => ((pure at_) >>= fun x12 => (pure (D.int 1)) >>= fun x13 => subD x12 x13) >>= fun x14 => itemD x11 x14) >>= fun x15 => (((pure items_) >>= fun x7 => (pure at_) >>= fun x8 => itemD x7 x8) >>= fun x9 => (pure []) >>= fun r10 => pure (x9 :: r10)) >>= fun r16 => pure (x15 :: r16)) >>= tupD)))) >>= fun ds17 => pure (D.lst ds17)) >>= fun x28 => ((((((pure items_) >>= fun x22 => ((pure (D.int 1)) >>= negD) >>= fun x23 => itemD x22 x23) >>= fun x24 => (((pure items_) >>= fun x18 => (pure (D.int 0)) >>= fun x19 => itemD x18 x19) >>= fun x20 => (pure []) >>= fun r21 => pure (x20 :: r21)) >>= fun r25 => pure (x24 :: r25)) >>= tupD) >>= fun x26 => (pure []) >>= fun r27 => pure (x26 :: r27)) >>= lstD) >>= fun x29 => addD x28 x29) >>= fun x30 => pure (Fl.rt x30))
def sides_round_d : List D → M (Fl Unit Unit)
  | [items_] => sides_round_b items_
  | _ => no
def sides_round_m (ds : List D) : M D := bodyM (sides_round_d ds)

/-- is_convex -/
def is_convex_b (points_ : D) : M (Fl Unit Unit) :=
    seqF (γ := Unit) (α := Unit) (((((pure points_) >>= fun x3 => (pure []) >>= fun r4 => pure (x3 :: r4)) >>= onN 1 sides_round_m) >>= rowD) >>= fun ds27 => forM (fun d28 (s2 : Unit) => un2 d28 >>= fun b5 => seqF (γ := Unit) (α := Unit) (((pure points_) >>= rowD) >>= fun ds25 => forM (fun d26 (s7 : Unit) => (fun d => pure d) d26 >>= fun point_ => seqF (γ := Unit) (α := Unit) ((((pure point_) >>= fun x20 => (pure b5.1) >>= fun x21 => neD x20 x21 >>= asB) >>= fun k22 => if k22 = true then (((pure point_) >>= fun x17 => (pure b5.2) >>= fun x18 => neD x17 x18 >>= asB) >>= fun k19 => if k19 = true then ((((pure b5.1) >>= fun x13 => ((pure b5.2) >>= fun x11 => ((pure point_) >>= fun x9 => (pure []) >>= fun r10 => pure (x9 :: r10)) >>= fun r12 => pure (x11 :: r12)) >>= fun r14 => pure (x13 :: r14)) >>= onN 3 side_sign_m) >>= fun x15 => (pure (D.int 1)) >>= fun x16 => neD x15 x16 >>= asB) else pure false) else pure false) >>= fun k24 => if k24 = true then (((pure (D.bl false)) >>= fun x23 => pure (Fl.rt x23))) else (pure (Fl.nx ()))) fun s8 =>
            pure (Fl.nx ())) ds25 ()) fun s6 =>
        pure (Fl.nx ())) ds27 ()) fun s1 =>
    ((pure (D.bl true)) >>= fun x29 => pure (Fl.rt x29))
def is_convex_d : List D → M (Fl Unit Unit)
  | [points_] => is_convex_b points_
  | _ => no
def is_convex_m (ds : List D) : M D := bodyM (is_convex_d ds)

/-- is_plate -/
def is_plate_b (thing_ : D) : M (Fl Unit Unit) :=
    seqF (γ := Unit) (α := Unit) (((((((pure thing_) >>= fun x9 => (pure []) >>= fun r10 => pure (x9 :: r10)) >>= onN 1 is_row_m) >>= truB) >>= fun k11 => pure (!k11)) >>= fun k12 => if k12 = true then pure true else (((pure c_LEAST_CORNERS) >>= fun x4 => (((pure thing_) >>= fun x2 => (pure []) >>= fun r3 => pure (x2 :: r3)) >>= on1 len1) >>= fun x5 => leD x4 x5 >>= asB >>= fun k7 => if k7 = true then ((pure c_MOST_CORNERS) >>= fun x6 => leD x5 x6 >>= asB) else pure false) >>= fun k8 => pure (!k8))) >>= fun k14 => if k14 = true then (((pure (D.bl false)) >>= fun x13 => pure (Fl.rt x13))) else (pure (Fl.nx ()))) fun s1 =>
    seqF (γ := Unit) (α := Unit) (((((((((pure thing_) >>= rowD) >>= lcL (lcT (β := D) (fun d => pure d) (fun point_ => (pure true)) (fun point_ => (((pure point_) >>= fun x16 => (pure []) >>= fun r17 => pure (x16 :: r17)) >>= onN 1 is_point_m)))) >>= fun ds18 => pure (D.lst ds18)) >>= fun x19 => (pure []) >>= fun r20 => pure (x19 :: r20)) >>= on1 all1) >>= truB) >>= fun k21 => pure (!k21)) >>= fun k23 => if k23 = true then (((pure (D.bl false)) >>= fun x22 => pure (Fl.rt x22))) else (pure (Fl.nx ()))) fun s15 =>
    seqF (γ := Unit) (α := Unit) (((((pure thing_) >>= rowD) >>= kL (kT (β := D) (fun d => pure d) (fun point_ => (pure point_)))) >>= fun x27 => (((pure thing_) >>= fun x25 => (pure []) >>= fun r26 => pure (x25 :: r26)) >>= on1 len1) >>= fun x28 => ltD x27 x28 >>= asB) >>= fun k30 => if k30 = true then (((pure (D.bl false)) >>= fun x29 => pure (Fl.rt x29))) else (pure (Fl.nx ()))) fun s24 =>
    seqF (γ := Unit) (α := Unit) ((((((pure thing_) >>= fun x32 => (pure []) >>= fun r33 => pure (x32 :: r33)) >>= onN 1 is_convex_m) >>= truB) >>= fun k34 => pure (!k34)) >>= fun k36 => if k36 = true then (((pure (D.bl false)) >>= fun x35 => pure (Fl.rt x35))) else (pure (Fl.nx ()))) fun s31 =>
    (((((((((pure thing_) >>= fun x37 => (pure []) >>= fun r38 => pure (x37 :: r38)) >>= onN 1 sides_round_m) >>= rowD) >>= lcL (lcT (β := (D × D)) un2 (fun b39 => (pure true)) (fun b39 => ((((((pure b39.1) >>= fun x42 => ((pure b39.2) >>= fun x40 => (pure []) >>= fun r41 => pure (x40 :: r41)) >>= fun r43 => pure (x42 :: r43)) >>= onN 2 step_of_m) >>= fun x44 => (pure []) >>= fun r45 => pure (x44 :: r45)) >>= onN 1 size_of_m) >>= fun x46 => (pure D.non) >>= fun x47 => isntD x46 x47)))) >>= fun ds48 => pure (D.lst ds48)) >>= fun x49 => (pure []) >>= fun r50 => pure (x49 :: r50)) >>= on1 all1) >>= fun x51 => pure (Fl.rt x51))
def is_plate_d : List D → M (Fl Unit Unit)
  | [thing_] => is_plate_b thing_
  | _ => no
def is_plate_m (ds : List D) : M D := bodyM (is_plate_d ds)

/-- has_none_left -/
def has_none_left_b (begin_ end_ points_ : D) : M (Fl Unit Unit) :=
    seqF (γ := Unit) (α := Unit) (((pure points_) >>= rowD) >>= fun ds14 => forM (fun d15 (s2 : Unit) => (fun d => pure d) d15 >>= fun point_ => seqF (γ := Unit) (α := Unit) (((((pure begin_) >>= fun x8 => ((pure end_) >>= fun x6 => ((pure point_) >>= fun x4 => (pure []) >>= fun r5 => pure (x4 :: r5)) >>= fun r7 => pure (x6 :: r7)) >>= fun r9 => pure (x8 :: r9)) >>= onN 3 side_sign_m) >>= fun x10 => (pure (D.int 0)) >>= fun x11 => gtD x10 x11 >>= asB) >>= fun k13 => if k13 = true then (((pure (D.bl false)) >>= fun x12 => pure (Fl.rt x12))) else (pure (Fl.nx ()))) fun s3 =>
        pure (Fl.nx ())) ds14 ()) fun s1 =>
    ((pure (D.bl true)) >>= fun x16 => pure (Fl.rt x16))
def has_none_left_d : List D → M (Fl Unit Unit)
  | [begin_, end_, points_] => has_none_left_b begin_ end_ points_
  | _ => no
def has_none_left_m (ds : List D) : M D := bodyM (has_none_left_d ds)

/-- parts_them -/
def parts_them_b (one_ other_ : D) : M (Fl Unit Unit) :=
    seqF (γ := Unit) (α := Unit) (((((pure one_) >>= fun x3 => (pure []) >>= fun r4 => pure (x3 :: r4)) >>= onN 1 sides_round_m) >>= rowD) >>= fun ds15 => forM (fun d16 (s2 : Unit) => un2 d16 >>= fun b5 => seqF (γ := Unit) (α := Unit) (((((pure b5.1) >>= fun x11 => ((pure b5.2) >>= fun x9 => ((pure other_) >>= fun x7 => (pure []) >>= fun r8 => pure (x7 :: r8)) >>= fun r10 => pure (x9 :: r10)) >>= fun r12 => pure (x11 :: r12)) >>= onN 3 has_none_left_m) >>= truB) >>= fun k14 => if k14 = true then (((pure (D.bl true)) >>= fun x13 => pure (Fl.rt x13))) else (pure (Fl.nx ()))) fun s6 =>
        pure (Fl.nx ())) ds15 ()) fun s1 =>
    ((pure (D.bl false)) >>= fun x17 => pure (Fl.rt x17))
def parts_them_d : List D → M (Fl Unit Unit)
  | [one_, other_] => parts_them_b one_ other_
  | _ => no
def parts_them_m (ds : List D) : M D := bodyM (parts_them_d ds)

/-- overlap -/
def overlap_b (one_ other_ : D) : M (Fl Unit Unit) :=
    ((((((pure one_) >>= fun x9 => ((pure other_) >>= fun x7 => (pure []) >>= fun r8 => pure (x7 :: r8)) >>= fun r10 => pure (x9 :: r10)) >>= onN 2 parts_them_m) >>= fun x11 => truB x11 >>= fun k12 => pure (D.bl (!k12))) >>= fun x13 => truB x13 >>= fun k14 => if k14 = true then ((((pure other_) >>= fun x3 => ((pure one_) >>= fun x1 => (pure []) >>= fun r2 => pure (x1 :: r2)) >>= fun r4 => pure (x3 :: r4)) >>= onN 2 parts_them_m) >>= fun x5 => truB x5 >>= fun k6 => pure (D.bl (!k6))) else pure x13) >>= fun x15 => pure (Fl.rt x15))
def overlap_d : List D → M (Fl Unit Unit)
  | [one_, other_] => overlap_b one_ other_
  | _ => no
def overlap_m (ds : List D) : M D := bodyM (overlap_d ds)

/-- lie_over -/
def lie_over_b (one_ other_ : D) : M (Fl Unit Unit) :=
    seqF (γ := Unit) (α := Unit) (((((((pure one_) >>= fun x5 => (pure []) >>= fun r6 => pure (x5 :: r6)) >>= onN 1 is_plate_m) >>= truB) >>= fun k7 => pure (!k7)) >>= fun k8 => if k8 = true then pure true else (((((pure other_) >>= fun x2 => (pure []) >>= fun r3 => pure (x2 :: r3)) >>= onN 1 is_plate_m) >>= truB) >>= fun k4 => pure (!k4))) >>= fun k9 => if k9 = true then (err ⟨"NoPlate", []⟩) else (pure (Fl.nx ()))) fun s1 =>
    ((((pure one_) >>= fun x12 => ((pure other_) >>= fun x10 => (pure []) >>= fun r11 => pure (x10 :: r11)) >>= fun r13 => pure (x12 :: r13)) >>= onN 2 overlap_m) >>= fun x14 => pure (Fl.rt x14))
def lie_over_d : List D → M (Fl Unit Unit)
  | [one_, other_] => lie_over_b one_ other_
  | _ => no
def lie_over_m (ds : List D) : M D := bodyM (lie_over_d ds)

/-- _law_in_order -/
def law_in_order_b (points_ : D) : M (Fl Unit Unit) :=
    seqF (γ := Unit) (α := D) (((((pure points_) >>= rowD) >>= lcL (lcT (β := D) (fun d => pure d) (fun point_ => (((((pure point_) >>= fun x15 => (pure (D.int 1)) >>= fun x16 => itemD x15 x16) >>= fun x17 => (pure (D.int 0)) >>= fun x18 => itemD x17 x18) >>= fun x19 => (pure (D.int 0)) >>= fun x20 => gtD x19 x20 >>= asB) >>= fun k21 => if k21 = true then pure true else (((((pure point_) >>= fun x8 => (pure (D.int 1)) >>= fun x9 => itemD x8 x9) >>= fun x10 => (pure (D.int 0)) >>= fun x11 => itemD x10 x11) >>= fun x12 => (pure (D.int 0)) >>= fun x13 => eqD x12 x13 >>= asB) >>= fun k14 => if k14 = true then ((((pure point_) >>= fun x2 => (pure (D.int 0)) >>= fun x3 => itemD x2 x3) >>= fun x4 => (pure (D.int 0)) >>= fun x5 => itemD x4 x5) >>= fun x6 => (pure (D.int 0)) >>= fun x7 => gtD x6 x7 >>= asB) else pure false))) (fun point_ => (pure point_)))) >>= fun ds22 => pure (D.lst ds22)) >>= fun x23 => pure (Fl.nx x23)) fun upper_ =>
    seqF (γ := Unit) (α := List D) ((((pure points_) >>= rowD) >>= lcL (lcT (β := D) (fun d => pure d) (fun point_ => ((pure point_) >>= fun x25 => (pure upper_) >>= fun x26 => ninD x25 x26 >>= asB)) (fun point_ => (pure point_)))) >>= fun ds27 => pure (Fl.nx ds27)) fun rest_ =>
    seqF (γ := Unit) (α := D) (((pure []) >>= lstD) >>= fun x29 => pure (Fl.nx x29)) fun found_ =>
    seqF (γ := Unit) (α := D) (((((pure upper_) >>= fun x34 => ((pure (D.lst rest_)) >>= fun x32 => (pure []) >>= fun r33 => pure (x32 :: r33)) >>= fun r35 => pure (x34 :: r35)) >>= tupD) >>= rowD) >>= fun ds76 => forM (fun d77 (s31 : D) => (fun d => pure d) d77 >>= fun half_ => seqF (γ := D) (α := List D) (((pure []) >>= limL) >>= fun ds37 => pure (Fl.nx ds37)) fun here_ =>
        seqF (γ := D) (α := List D) (((pure half_) >>= rowD) >>= fun ds70 => forM (fun d71 (s39 : List D) => (fun d => pure d) d71 >>= fun point_ => seqF (γ := List D) (α := D) ((((((pure s39) >>= lcL (lcT (β := D) (fun d => pure d) (fun other_ => (((((((((pure (D.int 0)) >>= fun x53 => ((pure (D.int 1)) >>= fun x51 => (pure []) >>= fun r52 => pure (x51 :: r52)) >>= fun r54 => pure (x53 :: r54)) >>= tupD) >>= fun x55 => ((((pure (D.int 0)) >>= fun x47 => ((pure (D.int 1)) >>= fun x45 => (pure []) >>= fun r46 => pure (x45 :: r46)) >>= fun r48 => pure (x47 :: r48)) >>= tupD) >>= fun x49 => (pure []) >>= fun r50 => pure (x49 :: r50)) >>= fun r56 => pure (x55 :: r56)) >>= tupD) >>= fun x57 => ((pure other_) >>= fun x43 => ((pure point_) >>= fun x41 => (pure []) >>= fun r42 => pure (x41 :: r42)) >>= fun r44 => pure (x43 :: r44)) >>= fun r58 => pure (x57 :: r58)) >>= onN 3 law_cross_m) >>= fun x59 => (pure (D.int 0)) >>= fun x60 => itemD x59 x60) >>= fun x61 => (pure (D.int 0)) >>= fun x62 => gtD x61 x62 >>= asB)) (fun other_ => (pure other_)))) >>= fun ds63 => pure (D.lst ds63)) >>= fun x64 => (pure []) >>= fun r65 => pure (x64 :: r65)) >>= on1 len1) >>= fun x66 => pure (Fl.nx x66)) fun at_ =>
            seqF (γ := List D) (α := List D) ((pure at_) >>= fun i68 => (pure point_) >>= fun x69 => insL s39 i68 x69 >>= fun here_ => pure (Fl.nx here_)) fun here_ =>
            pure (Fl.nx here_)) ds70 here_) fun s38 =>
        seqF (γ := D) (α := D) (((pure s31) >>= fun x73 => (pure (D.lst s38)) >>= fun x74 => addD x73 x74) >>= fun x75 => pure (Fl.nx x75)) fun found_ =>
        pure (Fl.nx found_)) ds76 found_) fun s30 =>
    ((pure s30) >>= fun x78 => pure (Fl.rt x78))
def law_in_order_d : List D → M (Fl Unit Unit)
  | [points_] => law_in_order_b points_
  | _ => no
def law_in_order_m (ds : List D) : M D := bodyM (law_in_order_d ds)

/-- _law_polygon -/
def law_polygon_b (q : Int) (hand_ many_ : D) : M (Fl Unit Unit) :=
    seqF (γ := Unit) (α := List (D × D)) (pure (Fl.nx ([] : List (D × D)))) fun found_ =>
    seqF (γ := Unit) (α := List (D × D)) ((((pure (D.int 60)) >>= fun x4 => (pure []) >>= fun r5 => pure (x4 :: r5)) >>= range1) >>= fun ds109 => forM (fun d110 (s3 : List (D × D)) => (fun d => pure d) d110 >>= fun turn_ => seqF (γ := List (D × D)) (α := List (D × D)) (((pure (D.int (s3.length : Nat))) >>= fun x7 => (pure many_) >>= fun x8 => ltD x7 x8 >>= asB) >>= fun k108 => if k108 = true then (seqF (γ := List (D × D)) (α := D × D) ((((pure (D.int 1)) >>= fun x20 => (((pure hand_) >>= fun x18 => ((pure (D.int 9)) >>= fun x16 => (pure []) >>= fun r17 => pure (x16 :: r17)) >>= fun r19 => pure (x18 :: r19)) >>= onN 2 (law_draw_m q)) >>= fun x21 => addD x20 x21) >>= fun x22 => ((((pure hand_) >>= fun x12 => ((pure (D.int 10)) >>= fun x10 => (pure []) >>= fun r11 => pure (x10 :: r11)) >>= fun r13 => pure (x12 :: r13)) >>= onN 2 (law_draw_m q)) >>= fun x14 => (pure []) >>= fun r15 => pure (x14 :: r15)) >>= fun r23 => pure (x22 :: r23)) >>= fun ds24 => un2 (D.tup ds24) >>= fun b25 => pure (Fl.nx b25)) fun b25 =>
            seqF (γ := List (D × D)) (α := D) ((((pure b25.1) >>= fun x27 => (pure b25.1) >>= fun x28 => mulI x27 x28) >>= fun x31 => ((pure b25.2) >>= fun x29 => (pure b25.2) >>= fun x30 => mulI x29 x30) >>= fun x32 => addD x31 x32) >>= fun x33 => pure (Fl.nx x33)) fun whole_ =>
            seqF (γ := List (D × D)) (α := D × D) (((((pure b25.1) >>= fun x41 => (pure b25.1) >>= fun x42 => mulI x41 x42) >>= fun x45 => ((pure b25.2) >>= fun x43 => (pure b25.2) >>= fun x44 => mulI x43 x44) >>= fun x46 => subD x45 x46) >>= fun x47 => ((((pure (D.int 2)) >>= fun x35 => (pure b25.1) >>= fun x36 => mulI x35 x36) >>= fun x37 => (pure b25.2) >>= fun x38 => mulI x37 x38) >>= fun x39 => (pure []) >>= fun r40 => pure (x39 :: r40)) >>= fun r48 => pure (x47 :: r48)) >>= fun ds49 => un2 (D.tup ds49) >>= fun b50 => pure (Fl.nx b50)) fun b50 =>
            seqF (γ := List (D × D)) (α := D × D) (((((pure b50.1) >>= fun x58 => (pure b50.1) >>= fun x59 => mulI x58 x59) >>= fun x62 => ((pure b50.2) >>= fun x60 => (pure b50.2) >>= fun x61 => mulI x60 x61) >>= fun x63 => subD x62 x63) >>= fun x64 => ((((pure (D.int 2)) >>= fun x52 => (pure b50.1) >>= fun x53 => mulI x52 x53) >>= fun x54 => (pure b50.2) >>= fun x55 => mulI x54 x55) >>= fun x56 => (pure []) >>= fun r57 => pure (x56 :: r57)) >>= fun r65 => pure (x64 :: r65)) >>= fun ds66 => un2 (D.tup ds66) >>= fun b67 => pure (Fl.nx b67)) fun b67 =>
            seqF (γ := List (D × D)) (α := D × D) (((((pure (D.int 2)) >>= fun x74 => (((pure hand_) >>= fun x72 => ((pure (D.int 2)) >>= fun x70 => (pure []) >>= fun r71 => pure (x70 :: r71)) >>= fun r73 => pure (x72 :: r73)) >>= onN 2 (law_draw_m q)) >>= fun x75 => mulI x74 x75) >>= fun x76 => (pure []) >>= fun r77 => pure (x76 :: r77)) >>= range1) >>= fun ds87 => forM (fun d88 (s69 : D × D) => (fun d => pure d) d88 >>= fun quarter_ => seqF (γ := D × D) (α := D × D) ((((pure (D.int 0)) >>= fun x81 => (pure s69.2) >>= fun x82 => subD x81 x82) >>= fun x83 => ((pure s69.1) >>= fun x79 => (pure []) >>= fun r80 => pure (x79 :: r80)) >>= fun r84 => pure (x83 :: r84)) >>= fun ds85 => un2 (D.tup ds85) >>= fun b86 => pure (Fl.nx b86)) fun b86 =>
                pure (Fl.nx (b86.1, b86.2))) ds87 (b67.1, b67.2)) fun s68 =>
            seqF (γ := List (D × D)) (α := List (D × D)) ((pure (D.bl true)) >>= fun x106 => (((((pure s68.1) >>= fun x102 => (((pure whole_) >>= fun x98 => (pure whole_) >>= fun x99 => mulI x98 x99) >>= fun x100 => (pure []) >>= fun r101 => pure (x100 :: r101)) >>= fun r103 => pure (x102 :: r103)) >>= onN 2 law_low_m) >>= fun x104 => ((((pure s68.2) >>= fun x94 => (((pure whole_) >>= fun x90 => (pure whole_) >>= fun x91 => mulI x90 x91) >>= fun x92 => (pure []) >>= fun r93 => pure (x92 :: r93)) >>= fun r95 => pure (x94 :: r95)) >>= onN 2 law_low_m) >>= fun x96 => (pure []) >>= fun r97 => pure (x96 :: r97)) >>= fun r105 => pure (x104 :: r105)) >>= tupD) >>= fun i107 => putN s3 i107 x106 >>= fun found_ => pure (Fl.nx found_)) fun found_ =>
            pure (Fl.nx found_)) else (pure (Fl.nx s3))) fun s6 =>
        pure (Fl.nx s6)) ds109 found_) fun s2 =>
    ((((pure (D.lst (s2.map (·.1)))) >>= fun x111 => (pure []) >>= fun r112 => pure (x111 :: r112)) >>= onN 1 law_in_order_m) >>= fun x113 => pure (Fl.rt x113))
def law_polygon_d (q : Int) : List D → M (Fl Unit Unit)
  | [hand_, many_] => law_polygon_b q hand_ many_
  | _ => no
def law_polygon_m (q : Int) (ds : List D) : M D := bodyM (law_polygon_d q ds)
end VLib

set_option maxHeartbeats 2000000
/-! VLStr2: split, join; f-strings. -/
namespace VL
open PySem PySem.Spec PyProof.Rows L2
def strD : D → M Str
  | .str z => pure z
  | _ => no
/-- a reading of a method of texts, what it makes -/
def MtD (K : PySem.W.Frag) (mg : Str → Option Value) (T : List (Addr × Str)) (r : V → List V → Hp → VK → Prop) (op : Str → List D → M D) : Prop :=
  ∀ {F H : Hp} {as : List Addr} {S : Sx} {z : Str} {xs : List V} {ds : List D} {Q : VK} {E : Value → Option Addr → Hp → Prop}, Stt K T F H as S → Reps K F as xs ds → Post K mg T F H as (RepV K) Q E (op z ds S) → r (.str z) xs H Q
section
variable {X : Cx} {T : List (Addr × Str)} {W : WX} {B : Hp} {ρ : List SL} {o e : Expr} {es : List Expr} {mo : M D} {ms : M (List D)} {name : Str} {apos cpos : Pos} {id : String} {r : V → List V → Hp → VK → Prop} {op : Str → List D → M D}
theorem ve_smeth (pa : PlainAttrs "str") (slot : Slot "str" name id) (hty : typeOf (.builtin id) = pure (.type "method_descriptor")) (hm : MtR X id r) (h : MtD X.K X.mg T r op) (ho : VE X T W B ρ o mo) (ha : VA X T W B ρ (e :: es) ms)
    (hbase : attributeBase o name X.env (eval o X.env) = eval o X.env := by rfl)
    (hfew : ((backTo cpos (starEach (e :: es) X.env)).all (fun x => !x.1) && (backToKw cpos (keywordEach [] X.env)).all (fun x => x.1.isSome)
      && decide ((e :: es).length + ([] : List Keyword).length + (if ([] : List Keyword).isEmpty then 0 else 1) < 30)) = true := by rfl)
    (hline : (apos.endLine == cpos.line) = true := by rfl) (hs : starEach (e :: es) X.env = (false, eval e X.env) :: starEach es X.env := by rfl) (hplain : (backTo cpos (starEach es X.env)).any (·.1) = false := by rfl) :
    VE X T W B ρ (.Call (.Attribute o name apos) (e :: es) [] cpos) (mo >>= fun x => strD x >>= fun z => ms >>= fun ys => op z ys) :=
  let ⟨_, po, so⟩ := ho.t
  let ⟨_, pA, sa⟩ := ha.t
  ⟨_, pe_bm pa slot hty hm po pA hbase hfew hline hs hplain, fun σ F H as S Q st sl p => so σ F H as S _ st sl (p.bind fun d v S1 F1 H1 as1 _ x1 st1 r1 p1 => by
    cases d with
    | str z =>
      cases r1
      have p1 : Post X.K X.mg T F1 H1 as1 (RepV X.K) Q (fun cls dd H' => W cls dd σ H') ((ms >>= fun ys => op z ys) S1) := p1
      exact ⟨rfl, sa σ F1 H1 as1 S1 _ st1 (sl.ext x1) (p1.bind fun ds vs S2 F2 H2 as2 _ x2 st2 r2 p2 => h st2 r2 p2)⟩
    | _ => exact False.elim p1)⟩
end
/-! ### split, join -/
section
variable {K : PySem.W.Frag} {mg : Str → Option Value} {T : List (Addr × Str)}
def splitS (z : Str) : List D → M D
  | [.str b] => if (b.length == 0) = false ∧ z.length ≤ lim then pure (.lst ((Txt.split z b).map D.str)) else no
  | _ => no
theorem reps_strs {F : Hp} {as : List Addr} : ∀ ys : List Str, Reps K F as (ys.map V.str) (ys.map D.str)
  | [] => .nil
  | y :: ys => .cons (.str y) (reps_strs ys)
theorem d_split : MtD K mg T (fun x xs H Q => ∃ a b, x = .str a ∧ xs = [.str b] ∧ (b.length == 0) = false ∧ a.length + 2 ≤ sizeLine ∧ rNewStrs (Txt.split a b) H Q) splitS := by
  intro F H as S z xs ds Q E st r p
  match ds, r, p with
  | [.str b], r, p =>
    obtain ⟨x, rfl, rx⟩ := reps1 r
    cases rx
    by_cases c : (b.length == 0) = false ∧ z.length ≤ lim
    · rw [show splitS z [.str b] = _ from if_pos c] at p
      refine ⟨z, b, rfl, rfl, c.1, ?_, fun q hq => ?_⟩
      · have e : sizeLine = 16777216 := sizeLine_eq
        have := c.2
        unfold lim at this
        omega
      · exact new_lst st hq (reps_strs _) p
    · rw [show splitS z [.str b] = _ from if_neg c] at p
      exact False.elim p
  | [], _, p => exact False.elim p
  | d :: _ :: _, _, p => cases d <;> exact False.elim p
  | [.non], _, p | [.bl _], _, p | [.int _], _, p | [.tup _], _, p | [.lst _], _, p | [.emp], _, p | [.cell _], _, p | [.adr _], _, p | [.scr _], _, p => exact False.elim p
def asStrs : List D → Option (List Str)
  | [] => some []
  | .str b :: ds => (asStrs ds).map (b :: ·)
  | _ => none
theorem reps_ss {F : Hp} {as : List Addr} : ∀ {vs : List V} {ds : List D} {bs : List Str}, Reps K F as vs ds → asStrs ds = some bs → vs = bs.map V.str
  | _, _, _, .nil, h => by cases h; rfl
  | _, _, bs, .cons (d := d) (ds := ds) r rs, h => by
    cases d with
    | str b =>
      have h : (asStrs ds).map (b :: ·) = some bs := h
      cases e : asStrs ds with
      | none => rw [e] at h; cases h
      | some cs =>
        rw [e] at h
        cases h
        cases r
        rw [reps_ss rs e]
        rfl
    | _ => cases h
def joinS (z : Str) : List D → M D
  | [.lst ds] => (match asStrs ds with
    | some ys => if (ys.map (·.length)).sum + ys.length * z.length ≤ lim then pure (.str (Txt.join z ys)) else no
    | none => no)
  | [.tup ds] => (match asStrs ds with
    | some ys => if (ys.map (·.length)).sum + ys.length * z.length ≤ lim then pure (.str (Txt.join z ys)) else no
    | none => no)
  | _ => no
theorem d_join : MtD K mg T (fun x xs H Q => ∃ a p, ∃ ys : List Str, x = .str a ∧ xs = [.ref p] ∧ (SqL K H p (ys.map V.str) ∨ SqT K H p (ys.map V.str)) ∧ (ys.map (·.length)).sum + ys.length * a.length ≤ 16777216 ∧ Q (.str (Txt.join a ys)) H) joinS := by
  intro F H as S z xs ds Q E st r p
  have lm : ∀ n, n ≤ lim → n ≤ 16777216 := fun n h => by unfold lim at h; omega
  match ds, r, p with
  | [.lst ds], r, p =>
    obtain ⟨x, rfl, rx⟩ := reps1 r
    obtain ⟨a, vs, rfl, h1, r1⟩ := rx.lstAt
    unfold joinS at p
    cases e : asStrs ds with
    | none => simp only [e] at p; exact False.elim p
    | some ys =>
      simp only [e] at p
      have ev := reps_ss r1 e
      subst ev
      by_cases c : (ys.map (·.length)).sum + ys.length * z.length ≤ lim
      · rw [if_pos c] at p
        exact ⟨z, a, ys, rfl, rfl, .inl (SqL.of (st.fz _ _ h1)), lm _ c, pu_ok st (.str _) p⟩
      · rw [if_neg c] at p
        exact False.elim p
  | [.tup ds], r, p =>
    obtain ⟨x, rfl, rx⟩ := reps1 r
    obtain ⟨a, vs, rfl, h1, r1⟩ := rx.tupAt
    unfold joinS at p
    cases e : asStrs ds with
    | none => simp only [e] at p; exact False.elim p
    | some ys =>
      simp only [e] at p
      have ev := reps_ss r1 e
      subst ev
      by_cases c : (ys.map (·.length)).sum + ys.length * z.length ≤ lim
      · rw [if_pos c] at p
        exact ⟨z, a, ys, rfl, rfl, .inr (SqT.mono h1 st.fz), lm _ c, pu_ok st (.str _) p⟩
      · rw [if_neg c] at p
        exact False.elim p
  | [], _, p => exact False.elim p
  | d :: _ :: _, _, p => cases d <;> exact False.elim p
  | [.non], _, p | [.bl _], _, p | [.int _], _, p | [.str _], _, p | [.emp], _, p | [.cell _], _, p | [.adr _], _, p | [.scr _], _, p => exact False.elim p
end
end VL

set_option maxHeartbeats 2000000
/-! VLTxt: text * int, list(text), f-strings, what is read of an own list. -/
namespace VL
open PySem PySem.Spec PyProof.Rows L2
/-! ### text * int -/
def mulS : D → D → M D
  | .str z, .int n => if 0 ≤ n ∧ n < 2 ^ 40 ∧ z.length ≤ 2 ^ 20 ∧ z.length * n.toNat ≤ lim then pure (.str (Txt.mul z n)) else no
  | _, _ => no
theorem mulOk_of {z : Str} {n : Int} (c : 0 ≤ n ∧ n < 2 ^ 40 ∧ z.length ≤ 2 ^ 20 ∧ z.length * n.toNat ≤ lim) : PySem.MulOk z n := by
  obtain ⟨h0, h1, h2, h3⟩ := c
  refine ⟨?_, fun k _ => ?_, fun _ _ => ?_⟩
  · rw [Bool.or_eq_false_iff]
    exact ⟨decide_eq_false (by omega), decide_eq_false (by omega)⟩
  · have hn : (0 : Int) < n := by omega
    have e : (z.length : Int) * n = ((z.length * n.toNat : Nat) : Int) := by
      rw [Int.natCast_mul, Int.toNat_of_nonneg h0]
    have : (z.length : Int) ≤ (2 ^ 63 - 1) / n := by
      refine Int.le_ediv_of_mul_le hn ?_
      rw [e]
      unfold lim at h3
      omega
    omega
  · unfold PySem.Builtin.Str.tooLong
    rw [decide_eq_false_iff_not, sizeLine_eq]
    unfold lim at h3
    omega
section
variable {X : Cx} {K : PySem.W.Frag} {mg : Str → Option Value} {T : List (Addr × Str)}
theorem op_mulS : OpR X (binaryOp .Mult) (fun x y H Q => ∃ (z : Str) (n : Int), x = .str z ∧ y = .int n ∧ PySem.MulOk z n ∧ Q (.str (Txt.mul z n)) H) := by
  intro pins s σ H x y v u Q I rx ry h
  obtain ⟨z, n, rfl, rfl, ok, q⟩ := h
  obtain ⟨t, rfl⟩ := rx
  obtain ⟨t2, rfl⟩ := ry
  exact SB.mul ok fun t' k => ⟨.str _, H, I.tok k, ⟨t', rfl⟩, q⟩
theorem d_mulS : OpD K mg T (fun x y H Q => ∃ (z : Str) (n : Int), x = .str z ∧ y = .int n ∧ PySem.MulOk z n ∧ Q (.str (Txt.mul z n)) H) mulS := by
  intro F H as S x y dx dy Q E st rx ry p
  cases dx with
  | str z =>
    cases dy with
    | int n =>
      by_cases c : 0 ≤ n ∧ n < 2 ^ 40 ∧ z.length ≤ 2 ^ 20 ∧ z.length * n.toNat ≤ lim
      · rw [show mulS (.str z) (.int n) = _ from if_pos c] at p
        cases rx; cases ry
        exact ⟨z, n, rfl, rfl, mulOk_of c, pu_ok st (.str _) p⟩
      · rw [show mulS (.str z) (.int n) = _ from if_neg c] at p
        exact False.elim p
    | _ => exact False.elim p
  | _ => exact False.elim p
/-! ### list(text) -/
def listS : D → M D
  | .str z => if z.length ≤ lim then pure (.lst (signL z)) else no
  | _ => no
theorem call_listS (hc : X.calm = true) : CallR X (.type "list") (fun xs H Q => ∃ z, xs = [.str z] ∧ z.length ≤ sizeLine ∧ ∀ l, H l = none → Q (.ref l) (upd H l (.lst (z.cps.toList.map fun c => V.str ⟨#[c]⟩)))) := by
  intro pins s σ H xs us Q I r h
  obtain ⟨z, rfl, hz, q⟩ := h
  obtain ⟨u, rfl, t, rfl⟩ := vals1 r
  refine PySem.call_list_str (I.ok.hd hc) z t (hn := hz) fun h' tk acc' c' hk hS' hacc => ?_
  refine ⟨.ref s.heap.objs.size, _, I.laid (t' := tk) hk (Nat.le_refl _) (show ObjOk X.prog X.w _ h' _ (.lst (z.cps.toList.map fun c => V.str ⟨#[c]⟩)) from ⟨by simpa [Str.length] using hz, acc'.toList, c', ?_, by simpa using hS'⟩), rfl, q _ (I.hok.fresh (Nat.le_refl _))⟩
  have hs : acc'.toList.length = z.cps.toList.length := by simpa using hacc.1
  have ha : ∀ (j : Nat) (v : Value), acc'.toList[j]? = some v → ∃ c u, z.cps.toList[j]? = some c ∧ v = .str ⟨#[c]⟩ u := fun j v h => by
    obtain ⟨c, u, h1, h2⟩ := hacc.2 j v (by simpa using h)
    exact ⟨c, u, by simpa using h1, h2⟩
  generalize z.cps.toList = cs at hs ha
  generalize acc'.toList = vs at hs ha
  induction cs generalizing vs with
  | nil =>
    cases vs with
    | nil => exact .nil
    | cons _ _ => simp at hs
  | cons c cs ih =>
    cases vs with
    | nil => simp at hs
    | cons v vs =>
      obtain ⟨c', u, h1, h2⟩ := ha 0 v rfl
      simp only [List.getElem?_cons_zero, Option.some.injEq] at h1
      subst h1
      exact .cons ⟨u, h2⟩ (ih vs (by simpa using hs) fun j w h => by simpa using ha (j + 1) w (by simpa using h))
theorem d_listS : CaD K mg T (fun xs H Q => ∃ z, xs = [.str z] ∧ z.length ≤ sizeLine ∧ ∀ l, H l = none → Q (.ref l) (upd H l (.lst (z.cps.toList.map fun c => V.str ⟨#[c]⟩)))) (on1 listS) := by
  refine @cad1 K mg T _ _ ?_
  intro F H as S x d Q E st r p
  cases d with
  | str z =>
    cases r
    by_cases c : z.length ≤ lim
    · rw [show listS (.str z) = _ from if_pos c] at p
      refine ⟨z, rfl, lim_line c, fun l hl => new_lst st hl ?_ p⟩
      unfold signL
      generalize z.cps.toList = cs
      induction cs with
      | nil => exact .nil
      | cons c cs ih => exact .cons (.str _) ih
    · rw [show listS (.str z) = _ from if_neg c] at p
      exact False.elim p
  | _ => exact False.elim p
end
/-! ### f-strings -/
def fmtD : D → M Str
  | .str y => if y.length ≤ lim then pure y else no
  | .int i => if i.natAbs.log2 < 1920 then pure (toString i) else no
  | _ => no
def jnM : List (M Str) → Str → M Str
  | [], acc => pure acc
  | m :: ms, acc => m >>= fun y => if (acc ++ y).length ≤ lim then jnM ms (acc ++ y) else no
section
variable {X : Cx} {T : List (Addr × Str)} {W : WX} {B : Hp} {ρ : List SL} {e : Expr} {m : M D} {pos : Pos}
inductive VJ (X : Cx) (T : List (Addr × Str)) (W : WX) (B : Hp) (ρ : List SL) : List Expr → List (M Str) → Prop
  | nil : VJ X T W B ρ [] []
  | fmt {e : Expr} {m : M D} {es : List Expr} {ms : List (M Str)} {pos : Pos} : VE X T W B ρ e m → VJ X T W B ρ es ms → VJ X T W B ρ (.FormattedValue e (-1) none pos :: es) ((m >>= fmtD) :: ms)
  | txt {x : Str} {j : Nat} {pos : Pos} {es : List Expr} {ms : List (M Str)} : VJ X T W B ρ es ms → VJ X T W B ρ (.Constant (.str x) j pos :: es) (pure x :: ms)
theorem VJ.pj {es : List Expr} {ms : List (M Str)} (h : VJ X T W B ρ es ms) : ∃ ts, PJ X es ts ∧ ∀ (acc : Str) (σ : L2.St) (F H : Hp) (as : List Addr) (S : Sx) (Q : Str → Hp → Prop), Stt X.K T F H as S → Slots X.K B F H as ρ σ →
    Post X.K X.mg T F H as (fun _ _ (s : Str) (d : Str) => s = d) Q (fun cls dd H' => W cls dd σ H') (jnM ms acc S) → tJs ts acc σ H Q := by
  induction h with
  | nil => exact ⟨[], .nil, fun acc σ F H as S Q st sl p => p acc F H as Ext.refl st rfl⟩
  | @fmt e m es ms pos he hr ih =>
    obtain ⟨ts, j, hj⟩ := ih
    obtain ⟨te, pe, se⟩ := he.t
    refine ⟨_, .cons (pe_fmt pe) j, fun acc σ F H as S Q st sl p => ?_⟩
    have p : Post X.K X.mg T F H as (fun _ _ (s : Str) (d : Str) => s = d) Q (fun cls dd H' => W cls dd σ H') ((m >>= fun d => fmtD d >>= fun y => if (acc ++ y).length ≤ lim then jnM ms (acc ++ y) else no) S) := by
      have : jnM ((m >>= fmtD) :: ms) acc = (m >>= fun d => fmtD d >>= fun y => if (acc ++ y).length ≤ lim then jnM ms (acc ++ y) else no) := bind_assoc ..
      rw [← this]; exact p
    refine se σ F H as S _ st sl (p.bind fun d v S1 F1 H1 as1 _ x1 st1 r1 p1 => ?_)
    have go : ∀ y : Str, Post X.K X.mg T F1 H1 as1 (fun _ _ (s : Str) (d : Str) => s = d) Q (fun cls dd H' => W cls dd σ H') ((if (acc ++ y).length ≤ lim then jnM ms (acc ++ y) else no : M Str) S1) → ∃ y' : Str, V.str y = .str y' ∧ (acc ++ y').length ≤ sizeLine ∧ tJs ts (acc ++ y') σ H1 Q := fun y q => by
      by_cases c : (acc ++ y).length ≤ lim
      · rw [if_pos c] at q
        exact ⟨y, rfl, lim_line c, hj _ σ F1 H1 as1 S1 Q st1 (sl.ext x1) q⟩
      · rw [if_neg c] at q
        exact False.elim q
    cases d with
    | str y =>
      cases r1
      by_cases c : y.length ≤ lim
      · rw [show fmtD (.str y) = _ from if_pos c] at p1
        exact .inl ⟨y, rfl, lim_line c, go y p1⟩
      · rw [show fmtD (.str y) = _ from if_neg c] at p1
        exact False.elim p1
    | int i =>
      cases r1
      by_cases c : i.natAbs.log2 < 1920
      · rw [show fmtD (.int i) = _ from if_pos c] at p1
        exact .inr ⟨i, rfl, c, go _ p1⟩
      · rw [show fmtD (.int i) = _ from if_neg c] at p1
        exact False.elim p1
    | _ => exact False.elim p1
  | @txt x j pos es ms hr ih =>
    obtain ⟨ts, jj, hj⟩ := ih
    refine ⟨_, .cons pe_str jj, fun acc σ F H as S Q st sl p => ?_⟩
    have p : Post X.K X.mg T F H as (fun _ _ (s : Str) (d : Str) => s = d) Q (fun cls dd H' => W cls dd σ H') ((if (acc ++ x).length ≤ lim then jnM ms (acc ++ x) else no : M Str) S) := p
    by_cases c : (acc ++ x).length ≤ lim
    · rw [if_pos c] at p
      exact ⟨x, rfl, lim_line c, hj _ σ F H as S Q st sl p⟩
    · rw [if_neg c] at p
      exact False.elim p
theorem ve_fstr {e1 e2 : Expr} {es : List Expr} {ms : List (M Str)} (h : VJ X T W B ρ (e1 :: e2 :: es) ms) : VE X T W B ρ (.JoinedStr (e1 :: e2 :: es) pos) (jnM ms Str.empty >>= fun z => pure (.str z)) :=
  let ⟨_, j, hj⟩ := h.pj
  ⟨_, pe_joined j, fun σ F H as S Q st sl p => hj _ σ F H as S _ st sl (p.bind fun z v S1 F1 H1 as1 _ x1 st1 r1 p1 => by
    obtain rfl : v = z := r1
    exact p1 (.str v) F1 H1 as1 Ext.refl st1 (.str _))⟩
end
/-! ### what is read of an own list -/
section
variable {X : Cx} {T : List (Addr × Str)} {W : WX} {B : Hp} {ρ : List SL} {x : Str} {ds : List D} {p p1 p2 pos : Pos} {j : Nat}
theorem ve_itemOw (i : Nat) (k : Int) (hd : ρ[i]? = some (.ow ds) := by rfl) (hN : X.N[i]? = some x := by rfl) (hv : Vis X.env.scope x := by first | exact .inl rfl | exact .inr (.inl rfl) | exact .inr (.inr rfl)) (h1 : (x == ("__debug__" : Str)) = false := by decide) (h2 : (x == ("__classdict__" : Str)) = false := by decide) (hp : PlainIx (.Constant (.int k) j p2) := by exact fun _ _ => rfl) :
    VE X T W B ρ (.Subscript (.Name x p1) (.Constant (.int k) j p2) pos) (itemD (.lst ds) (.int k)) :=
  ⟨_, pe_ix ix_seq (pe_var (i := i) hN hv h1 h2) pe_int hp, fun σ F H as S Q st sl p => by
    obtain ⟨q, vs, g1, g2, g3, g4, g5, g6⟩ := sl.getOw hd
    refine ⟨.ref q, g1, ?_⟩
    cases e : L2.atI ds k with
    | none => rw [show itemD (.lst ds) (.int k) = ofO (L2.atI ds k) from rfl, e] at p; exact False.elim p
    | some d =>
      rw [show itemD (.lst ds) (.int k) = ofO (L2.atI ds k) from rfl, e] at p
      obtain ⟨v, h2, r2⟩ := g6.atI e
      exact .inl ⟨q, vs, k, v, rfl, rfl, SqL.of g5, h2, pu_ok st r2 p⟩⟩
theorem ve_noneInOw (i : Nat) (hu : X.A.units + 65 < cLine) (hd : ρ[i]? = some (.ow ds) := by rfl) (hN : X.N[i]? = some x := by rfl) (hv : Vis X.env.scope x := by first | exact .inl rfl | exact .inr (.inl rfl) | exact .inr (.inr rfl)) (h1 : (x == ("__debug__" : Str)) = false := by decide) (h2 : (x == ("__classdict__" : Str)) = false := by decide) :
    VE X T W B ρ (.Compare (.Constant .none j p2) [.In] [.Name x p1] pos) (inD .non (.lst ds)) :=
  ⟨_, pe_cmpR (op_inX hu) pe_non (pe_var (i := i) hN hv h1 h2) (by first | exact nomark _ | rfl), fun σ F H as S Q st sl p => by
    obtain ⟨q, vs, g1, g2, g3, g4, g5, g6⟩ := sl.getOw hd
    refine ⟨.ref q, g1, ?_⟩
    unfold inD inB at p
    simp only at p
    by_cases c : D.non.cmp = true ∧ (D.lst ds).cmp = true
    · rw [if_pos c] at p
      have c1 := Bool.and_eq_true_iff.mp c.1
      have c2 := Bool.and_eq_true_iff.mp c.2
      have r : Rep X.K (upd F q (.lst vs)) as (.ref q) (.lst ds) := .lst upd_same (g6.mono (fun a o e => by rw [upd_ne (fun z => by rw [z, g3] at e; cases e)]; exact e) (fun _ _ e => e))
      have fz : ∀ a o, upd F q (.lst vs) a = some o → H a = some o := fun a o e => by
        by_cases z : a = q
        · subst z; rw [upd_same] at e; cases e; exact g5
        · rw [upd_ne z] at e; exact st.fz a o e
      exact ⟨D.non.py, D.pys ds, (Rep.non : Rep X.K F as .non .non).dp st.fz c1.1, c1.2, .inl ⟨r.dp fz c2.1, c2.2⟩, pu_ok st (.bl _) p⟩
    · rw [if_neg c] at p
      exact False.elim p⟩
theorem vt_noneInOw (i : Nat) (hu : X.A.units + 65 < cLine) (hd : ρ[i]? = some (.ow ds) := by rfl) (hN : X.N[i]? = some x := by rfl) (hv : Vis X.env.scope x := by first | exact .inl rfl | exact .inr (.inl rfl) | exact .inr (.inr rfl)) (h1 : (x == ("__debug__" : Str)) = false := by decide) (h2 : (x == ("__classdict__" : Str)) = false := by decide) :
    VT X T W B ρ (.Compare (.Constant .none j p2) [.In] [.Name x p1] pos) (inD .non (.lst ds) >>= asB) :=
  ⟨_, pt_cmpR (op_inX hu) pe_non (pe_var (i := i) hN hv h1 h2) (by first | exact nomark _ | rfl), fun σ F H as S Q st sl p => by
    obtain ⟨q, vs, g1, g2, g3, g4, g5, g6⟩ := sl.getOw hd
    refine ⟨.ref q, g1, ?_⟩
    unfold inD inB at p
    simp only at p
    by_cases c : D.non.cmp = true ∧ (D.lst ds).cmp = true
    · rw [if_pos c] at p
      have c1 := Bool.and_eq_true_iff.mp c.1
      have c2 := Bool.and_eq_true_iff.mp c.2
      have r : Rep X.K (upd F q (.lst vs)) as (.ref q) (.lst ds) := .lst upd_same (g6.mono (fun a o e => by rw [upd_ne (fun z => by rw [z, g3] at e; cases e)]; exact e) (fun _ _ e => e))
      have fz : ∀ a o, upd F q (.lst vs) a = some o → H a = some o := fun a o e => by
        by_cases z : a = q
        · subst z; rw [upd_same] at e; cases e; exact g5
        · rw [upd_ne z] at e; exact st.fz a o e
      exact ⟨D.non.py, D.pys ds, (Rep.non : Rep X.K F as .non .non).dp st.fz c1.1, c1.2, .inl ⟨r.dp fz c2.1, c2.2⟩, _, rfl, p _ F H as Ext.refl st rfl⟩
    · rw [if_neg c] at p
      exact False.elim p⟩
theorem ve_tupOw (i : Nat) (hm : X.mg "tuple" = none) (hd : ρ[i]? = some (.ow ds) := by rfl) (hN : X.N[i]? = some x := by rfl) (hv : Vis X.env.scope x := by first | exact .inl rfl | exact .inr (.inl rfl) | exact .inr (.inr rfl)) (h1 : (x == ("__debug__" : Str)) = false := by decide) (h2 : (x == ("__classdict__" : Str)) = false := by decide)
    (hg : Gl X "tuple" := by rfl) (he : starEach [Expr.Name x p1] X.env = (false, eval (.Name x p1) X.env) :: starEach [] X.env := by rfl) (hpl : (backTo pos (starEach [] X.env)).any (·.1) = false := by rfl) :
    VE X T W B ρ (.Call (.Name "tuple" p) [.Name x p1] [] pos) (pure (.tup ds)) :=
  ⟨_, pe_callTy call_tuple_of hg hm (by decide +kernel) (pa_cons (pe_var (i := i) hN hv h1 h2) pa_nil he) (by decide) (by decide) he hpl, fun σ F H as S Q st sl p => by
    obtain ⟨q, vs, g1, g2, g3, g4, g5, g6⟩ := sl.getOw hd
    exact ⟨.ref q, g1, q, vs, rfl, .inl ⟨SqL.of g5, fun l hl => new_ok st hl (fun _ => by simp) (.tup (.inl (.inl upd_same)) ((Ext.new hl st).reps g6)) p⟩⟩⟩
end
end VL

set_option maxHeartbeats 2000000
/-! VLRepl: [text.replace("/", one) for one in ("..", ..)] : the tokens are carried. -/
namespace VL
open PySem PySem.Spec PyProof.Rows L2
section
variable {X : Cx} {pins : List (Addr × Obj)} {σ : L2.St} {H : Hp} {s : Shared}
theorem store_raw {M : Model} {A : Around} {E : Value → Shared → Prop} {i : Nat} {x : Str} {v : V} {u : Value} {Q : Unit → Shared → Prop} (I : Inv X pins σ H s) (hN : X.N.Nodup) (hi : X.N[i]? = some x) (hk : X.env.scope.names.lookup x = some .local) (r : RelV v u)
    (h : ∀ s', Inv X pins (σ.set i (some v)) H s' → (∃ m, s'.heap.Ns X.env.locals m ∧ m x = some u) → s.toks ≤ s'.toks → Q () s') : wpAny M A (storeName X.env x u) Q E s := by
  obtain ⟨m, hn, hl⟩ := id I.loc
  have hcls : (X.env.scope.kind == .class || (X.env.scope.kind == .module && X.env.locals != X.env.globals)) = false := by rw [I.ok.kind]; rfl
  have hiσ : i < σ.length := by rw [I.len]; exact (List.getElem?_eq_some_iff.mp hi).1
  have cne := I.cne
  have tracked : ∀ {a : Addr} {h' : Heap}, (∃ o, s.heap.get? a = some o ∧ H a = none) → Heap.SameBut a s.heap h' → HOk X.prog X.w H h' := fun {a h'} ha hs b ob e => by
    obtain ⟨_, _, hfree⟩ := ha
    refine (I.hok b ob e).stay (fun c w' hc q => (hs.2 c ?_).trans q) (fun _ q => q) fun _ _ q => q
    rintro rfl
    rcases hc with rfl | hc
    · rw [hfree] at e; cases e
    · rw [hfree] at hc; cases hc
  refine wpAny_storeName_local hk hn (fun h' hn' hs => ?_) hcls
  obtain ⟨oL, _, _, hoL, _⟩ := id hn
  refine h _ ⟨I.ok, I.os, I.bare, ⟨fun b o e n hb hx => ?_, fun b o e n hb hx => ?_, I.base.free, fun b o e hx => ?_, I.base.tups, I.base.frzs, I.base.tbls⟩, ⟨_, hn', fun j y v' e1 e2 e3 => ?_⟩, fun y c e => ?_, I.free, I.freeC, fun p hp => ?_, tracked ⟨oL, hoL, I.free⟩ hs, by simpa using I.len⟩ ⟨_, hn', by simp⟩ (Nat.le_succ _)
  · exact (hs.2 b (Nat.ne_of_lt (Nat.lt_of_lt_of_le (Heap.lt_size e) I.ok.above))).trans (I.base.keep b o e n hb hx)
  · obtain ⟨sl, e1⟩ := I.base.slot b o e n hb hx
    exact ⟨sl, (hs.2 b (Nat.ne_of_lt (Nat.lt_of_lt_of_le (Heap.lt_size e) I.ok.above))).trans e1⟩
  · obtain ⟨o', e1⟩ := I.base.there b o e hx
    exact ⟨o', (hs.2 b (Nat.ne_of_lt (Nat.lt_of_lt_of_le (Heap.lt_size e) I.ok.above))).trans e1⟩
  · by_cases hj : j = i
    · subst hj
      rw [hi] at e1; cases e1
      rw [List.getElem?_set_self hiσ] at e2
      cases e2
      exact ⟨u, r, .inl ⟨hk, by simp⟩⟩
    · rw [List.getElem?_set_ne (Ne.symm hj)] at e2
      obtain ⟨u', r', q⟩ := hl j y v' e1 e2 e3
      refine ⟨u', r', ?_⟩
      rcases q with ⟨k, e⟩ | ⟨k, c, e, z⟩
      · refine .inl ⟨k, ?_⟩
        have : y ≠ x := fun e => hj (nodup_ix hN e1 (e ▸ hi))
        simp [this, e]
      · exact .inr ⟨k, c, e, z.sameBut hs (cne y c e)⟩
  · obtain ⟨w', z⟩ := I.cell y c e
    exact ⟨w', z.sameBut hs (cne y c e)⟩
  · obtain ⟨e, n, ne, nf, d⟩ := I.pin p hp
    exact ⟨(hs.2 p.1 ne).trans e, n, ne, nf, d⟩
/-- items with tokens from lo on, below hi -/
def RelTok (lo hi : Nat) (xs : List Str) (its : List Value) : Prop := its.length = xs.length ∧ ∀ (i : Nat) (y : Str), xs[i]? = some y → ∃ t, its[i]? = some (Value.str y t) ∧ lo ≤ t ∧ t < hi
theorem relTok_cons {lo hi t : Nat} {x : Str} {xs : List Str} {its : List Value} (h : RelTok (t + 1) hi xs its) (h1 : lo ≤ t) (h2 : t < hi) : RelTok lo hi (x :: xs) (Value.str x t :: its) := by
  refine ⟨by simp [h.1], fun (i : Nat) (y : Str) e => ?_⟩
  cases i with
  | zero =>
    simp only [List.getElem?_cons_zero, Option.some.injEq] at e
    subst e
    exact ⟨t, rfl, h1, h2⟩
  | succ i =>
    obtain ⟨t', q1, q2, q3⟩ := h.2 i y (by simpa using e)
    exact ⟨t', by simpa using q1, by omega, q3⟩
def TupLits (X : Cx) (iter : Expr) (xs : List Str) : Prop := ∀ (s : Shared) (E : Value → Shared → Prop) (Q : Value → Shared → Prop), (∀ (its : List Value) (tk : Nat), RelTok s.toks tk xs its → s.toks ≤ tk → Q (.ref s.heap.objs.size) { s with toks := tk, heap := s.heap.push { cls := .type "tuple", data := .seq its.toArray } }) →
  wpAny (model X.prog X.w) X.A (eval iter X.env) Q E s
theorem tupLits4 {a b c d : Str} {j1 j2 j3 j4 k : Nat} {p1 p2 p3 p4 pos : Pos} : TupLits X (.Tuple [.Constant (.str a) j1 p1, .Constant (.str b) j2 p2, .Constant (.str c) j3 p3, .Constant (.str d) j4 p4] k pos) [a, b, c, d] := by
  intro s E Q h
  refine wpAny_Tuple_spliced ?_
  show wpAny _ _ (spliced ((false, eval (.Constant (.str a) j1 p1) X.env) :: backTo pos (starEach [.Constant (.str b) j2 p2, .Constant (.str c) j3 p3, .Constant (.str d) j4 p4] X.env))) _ _ s
  refine Calls.spliced_cons (Calls.Constant_str ?_)
  show wpAny _ _ (spliced ((false, eval (.Constant (.str b) j2 p2) X.env) :: backTo pos (starEach [.Constant (.str c) j3 p3, .Constant (.str d) j4 p4] X.env))) _ _ _
  refine Calls.spliced_cons (Calls.Constant_str ?_)
  show wpAny _ _ (spliced ((false, eval (.Constant (.str c) j3 p3) X.env) :: backTo pos (starEach [.Constant (.str d) j4 p4] X.env))) _ _ _
  refine Calls.spliced_cons (Calls.Constant_str ?_)
  show wpAny _ _ (spliced ((false, eval (.Constant (.str d) j4 p4) X.env) :: backTo pos (starEach [] X.env))) _ _ _
  refine Calls.spliced_cons (Calls.Constant_str (Calls.spliced_nil ?_))
  have r : RelTok s.toks (s.toks + 1 + 1 + 1 + 1) [a, b, c, d] [Value.str a s.toks, Value.str b (s.toks + 1), Value.str c (s.toks + 1 + 1), Value.str d (s.toks + 1 + 1 + 1)] :=
    relTok_cons (relTok_cons (relTok_cons (relTok_cons ⟨rfl, fun (i : Nat) (y : Str) e => by simp at e⟩ (Nat.le_refl _) (by omega)) (by omega) (by omega)) (by omega) (by omega)) (by omega) (by omega)
  exact ⟨by show 4 ≤ sizeLine; decide, h _ (s.toks + 1 + 1 + 1 + 1) r (by omega)⟩
/-- what it makes -/
def tRepL (ix : Nat) (c : Str) (xs : List Str) : TE := fun σ H Q => ∃ z : Str, σ[ix]? = some (some (.str z)) ∧ (∀ y ∈ xs, z.length + (z.length + 1) * y.length ≤ 16777216) ∧ xs.length ≤ 1000 ∧ ∀ D, H D = none → Q (.ref D) (upd H D (.lst (xs.map fun y => V.str (Txt.replace z c y))))
theorem relTok_vals {lo hi : Nat} {xs : List Str} {its : List Value} (h : RelTok lo hi xs its) {i : Nat} {y : Str} (e : xs[i]? = some y) : ∃ t, its.toArray[i]? = some (Value.str y t) ∧ lo ≤ t ∧ t < hi := by
  obtain ⟨t, q, r⟩ := h.2 i y e
  exact ⟨t, by simpa using q, r⟩
theorem pet_lcRep {iter : Expr} {scope : Scope} {tx o c : Str} {xs : List Str} {j : Nat} {p1 p2 p3 c0 apos cpos pos : Pos} (own : List (Str × Nat)) (ix io : Nat) (hc : X.calm = true) (hN : X.N.Nodup) (hl : TupLits X iter xs) (ok : BlkOk X.N X.env.scope scope own)
    (hNx : X.N[ix]? = some tx) (hv : ∀ (cl : List (Str × Addr)) (C : Addr), Vis (compEnvC scope cl C X.env).scope tx) (hdx : (tx == ("__debug__" : Str)) = false) (hcx : (tx == ("__classdict__" : Str)) = false)
    (hne : ∀ y ∈ xs, (c == y) = false) (hio : X.N[io]? = some o) (hix : ix ∉ own.map (·.2)) (hin : io ∈ own.map (·.2))
    (hko : ∀ (cl : List (Str × Addr)) (C : Addr), (compEnvC scope cl C X.env).scope.names.lookup o = some .local)
    (hst : ∀ env, starEach [.Constant (.str c) j c0, .Name o p2] env = [(false, eval (.Constant (.str c) j c0) env), (false, eval (.Name o p2) env)])
    (hbase : ∀ env, attributeBase (.Name tx p1) "replace" env (eval (.Name tx p1) env) = eval (.Name tx p1) env) (hline : (apos.endLine == cpos.line) = true) (hdo : (o == ("__debug__" : Str)) = false)
    (hs : ∀ x, foldedSetIterable iter X.env x = pure x) :
    PET X (.ListComp (.Call (.Attribute (.Name tx p1) "replace" apos) [.Constant (.str c) j c0, .Name o p2] [] cpos) [⟨.Name o p3, iter, [], 0⟩] scope pos) (tRepL ix c xs) := by
  intro pins s σ H Q h0 I h
  obtain ⟨z, hz, hb, hlen, q⟩ := h
  rw [eval_ListComp]
  have hfree : ∀ y ∈ scope.names, y.2 = .free → ∃ c, X.env.cells.lookup y.1 = some c := fun y hy e => by
    rcases ok.free y hy e with k | k
    · exact I.ok.has _ (.inl k)
    · exact I.ok.has _ (.inr k)
  refine wpAny_comprehension_free (use := none) rfl hs (closure_ok hfree) ok.kind (fun y hy e => by rw [ok.uniq y hy, e]) (hl s _ _ fun its tk hr htk => ?_)
  -- the tuple, its iterator
  have hitup : ({ s with toks := tk, heap := s.heap.push { cls := .type "tuple", data := .seq its.toArray } } : Shared).heap.IsTuple s.heap.objs.size its.toArray := ⟨_, Heap.get?_push_size _ rfl, rfl, _, rfl⟩
  refine wpAny_pyIter_tuple hitup ?_
  generalize hh1 : s.heap.push { cls := .type "tuple", data := .seq its.toArray } = h1 at hitup ⊢
  have k1 : ∀ b o, s.heap.get? b = some o → h1.get? b = some o := fun b o e => by rw [← hh1]; exact Heap.get?_push_of_some _ e
  have z1 : s.heap.objs.size < h1.objs.size := by rw [← hh1, Heap.size_push]; exact Nat.lt_succ_self _
  have hit0 : (h1.push { cls := .type "tuple_iterator", data := .fields #[.ref s.heap.objs.size, .int 0 0] }).IsTupleIter h1.objs.size s.heap.objs.size 0 := ⟨_, Heap.get?_push_size _ rfl, rfl, rfl⟩
  generalize hh2 : h1.push { cls := .type "tuple_iterator", data := .fields #[.ref s.heap.objs.size, .int 0 0] } = h2 at hit0
  have k2 : ∀ b o, h1.get? b = some o → h2.get? b = some o := fun b o e => by rw [← hh2]; exact Heap.get?_push_of_some _ e
  have z2 : h1.objs.size < h2.objs.size := by rw [← hh2, Heap.size_push]; exact Nat.lt_succ_self _
  obtain ⟨to, hto1, hto2, hto3, hto4⟩ := hitup
  have I2 : Inv X pins σ H { s with toks := tk, heap := h2 } := I.kept (t' := tk) fun b o e => k2 _ _ (k1 _ _ e)
  generalize hTA : s.heap.objs.size = TA at hit0 hto1 z1
  generalize hit : h1.objs.size = it at hit0 z2
  have f2 : ∀ b ∈ [it, TA], FpOk X pins H b ∧ b < h2.objs.size := fun b hb => by
    have : s.heap.objs.size ≤ b ∧ b < h2.objs.size := by
      simp only [List.mem_cons, List.not_mem_nil, or_false] at hb
      rcases hb with rfl | rfl <;> omega
    exact ⟨I.fpOk this.1 (I.hok.fresh this.1), this.2⟩
  show wpAny _ _ (newList []) _ _ { s with toks := tk, heap := h2 }
  generalize hs2 : ({ s with toks := tk, heap := h2 } : Shared) = s2 at I2
  have e2h : s2.heap = h2 := by rw [← hs2]
  have e2t : s2.toks = tk := by rw [← hs2]
  refine wpAny_newObj_type (newEnv_comp ?_) (by show 0 ≤ sizeLine; decide)
  generalize hD : s2.heap.objs.size = D
  have hDn : H D = none := I2.hok.fresh (Nat.le_of_eq hD)
  generalize hs3 : ({ s2 with heap := s2.heap.push { cls := .type "list", data := .seq ([] : List Value).toArray } } : Shared) = s3
  have I3 : Inv X pins σ (upd H D (.lst [])) s3 := by
    rw [← hs3]
    refine I2.laid (t' := s2.toks) (fun b o e => Heap.get?_push_of_some _ e) (Nat.le_of_eq hD) ⟨Nat.zero_le _, [], 0, .nil, ?_⟩
    rw [← hD]
    exact Heap.get?_push_size _ rfl
  have h3 : s3.heap = s2.heap.push { cls := .type "list", data := .seq ([] : List Value).toArray } := by rw [← hs3]
  have t3 : s3.toks = tk := by rw [← hs3]; exact e2t
  have f3 : ∀ b ∈ [it, TA], FpOk X pins (upd H D (.lst [])) b ∧ b < s3.heap.objs.size := fun b hb => by
    have hlt := (f2 b hb).2
    rw [← e2h] at hlt
    refine ⟨⟨?_, ((f2 b hb).1).2⟩, by rw [h3, Heap.size_push]; exact Nat.lt_succ_of_lt hlt⟩
    rw [upd_ne (by rw [← hD]; exact Nat.ne_of_lt hlt)]
    exact (f2 b hb).1.1
  let tn : Nat → Heap → Prop := fun i h => h.IsTupleIter it TA i ∧ h.get? TA = some to
  have tkeep : ∀ i h h', tn i h → (∀ b ∈ [it, TA], ∀ o, h.get? b = some o → h'.get? b = some o) → tn i h' := fun i h h' st k => ⟨st.1.at fun o e => k it (by simp) o e, k TA (by simp) _ st.2⟩
  have tobj : ∀ i h, tn i h → ∀ b ∈ [it, TA], ∃ o, h.get? b = some o ∧ ∀ v, o.data ≠ .cell v := fun i h st b hb => by
    simp only [List.mem_cons, List.not_mem_nil, or_false] at hb
    rcases hb with rfl | rfl
    · obtain ⟨o, e, c, d⟩ := st.1
      exact ⟨o, e, fun v z => by rw [d] at z; cases z⟩
    · exact ⟨to, st.2, fun v z => by rw [hto4] at z; cases z⟩
  have st3 : tn 0 s3.heap := by
    refine tkeep _ h2 _ ⟨hit0, k2 _ _ hto1⟩ fun b _ o e => ?_
    rw [h3, e2h]
    exact Heap.get?_push_of_some _ e
  have I4 := block_start I3 ok hN f3
  have po := hv (cellsFrom (s3.heap.objs.size + 1) scope.names (cloFrom X.env.cells scope.names [])) s3.heap.objs.size
  have hk0 := hko (cellsFrom (s3.heap.objs.size + 1) scope.names (cloFrom X.env.cells scope.names [])) s3.heap.objs.size
  show codeAny _ _ (.compStart _ 0 (.ref it) (.ref D) (compEnvC scope (cellsFrom (s3.heap.objs.size + 1) scope.names (cloFrom X.env.cells scope.names [])) s3.heap.objs.size X.env)) (compPost (model X.prog X.w) X.A X.xe none _ (.ref D) s3.heap.objs.size) { s3 with heap := pushCells (s3.heap.push { cls := .type "dict", data := .dict #[] }) scope.names }
  have nfp : ∀ b ∈ [it, TA], (upd H D (.lst [])) b = none := fun b hb => (f3 b hb).1.1
  generalize hce : compEnvC scope (cellsFrom (s3.heap.objs.size + 1) scope.names (cloFrom X.env.cells scope.names [])) s3.heap.objs.size X.env = ce at I4 po hk0 ⊢
  have cL : ce.locals = s3.heap.objs.size := by subst hce; rfl
  generalize hH3 : upd H D (.lst []) = H3 at I3 I4 nfp f3
  generalize hs4 : ({ s3 with heap := pushCells (s3.heap.push { cls := .type "dict", data := .dict #[] }) scope.names } : Shared) = s4 at I4 ⊢
  have st4 : tn 0 s4.heap := tkeep _ _ _ st3 fun b _ o e => by rw [← hs4]; exact pushCells_keeps _ _ _ _ (Heap.get?_push_of_some _ e)
  have t4 : tk ≤ s4.toks := by rw [← hs4]; exact Nat.le_of_eq t3.symm
  have stat : ∀ {σ' : L2.St} {H' : Hp} {s' : Shared}, Inv (X.blk s3 H3 scope ce [it, TA]) [] σ' H' s' → (∀ b ∈ [it, TA], H' b = none) → ∀ b ∈ [it, TA], FpOk (X.blk s3 H3 scope ce [it, TA]) [] H' b := fun {σ' H' s'} I' hn b hb =>
    ⟨hn b hb, (I'.ok.exf b hb).1, I'.ok.exfs b hb, .inl hb, fun x c e => (I'.ok.exf b hb).2 x c e, fun p hp => absurd (show p ∈ ([] : List (Addr × Obj)) ++ [] from hp) (by simp)⟩
  let f : Str → V := fun y => V.str (Txt.replace z c y)
  have neD : ∀ b ∈ [it, TA], b ≠ D := fun b hb e => by
    have := (f2 b hb).2
    rw [← e2h] at this
    omega
  have loop : codeAny (model X.prog X.w) X.A (.compLoop (.ListComp (.Call (.Attribute (.Name tx p1) "replace" apos) [.Constant (.str c) j c0, .Name o p2] [] cpos) [⟨.Name o p3, iter, [], 0⟩] scope pos) 0 (.ref it) (.ref D) ce) (compPost (model X.prog X.w) X.A X.xe none (EP X pins σ Q) (.ref D) s3.heap.objs.size) s4 := by
    refine compLoop_any (fun n s' => ∃ i, i ≤ xs.length ∧ n = xs.length - i ∧ Inv (X.blk s3 H3 scope ce [it, TA]) [] (wipe σ (own.map (·.2))) (upd H D (.lst ((xs.take i).map f))) s' ∧ tn i s'.heap ∧ tk ≤ s'.toks) ?_ xs.length ⟨0, Nat.zero_le _, rfl, by show Inv _ _ _ (upd H D (.lst [])) _; rw [hH3]; exact I4, st4, t4⟩
    rintro n s5 ⟨i, hi, rfl, I5, st5, t5⟩
    have n5 : ∀ b ∈ [it, TA], (upd H D (.lst ((xs.take i).map f))) b = none := fun b hb => by rw [upd_ne (neD b hb)]; exact (f2 b hb).1.1
    have ht5 : s5.heap.IsTuple TA its.toArray := ⟨to, st5.2, hto2, hto3, hto4⟩
    obtain ⟨g0, g1, g2, g3, g4, g5⟩ := stat I5 n5 it (by simp)
    have neT : TA ≠ it := fun e => by omega
    by_cases hlt : i < xs.length
    · obtain ⟨y, hy⟩ : ∃ y, xs[i]? = some y := ⟨xs[i], List.getElem?_eq_getElem hlt⟩
      obtain ⟨t, hu, tl, th⟩ := relTok_vals hr hy
      refine wpAny_pyNext_tuple_item st5.1 ht5 hu fun h' st' sb => ?_
      have I6 : Inv (X.blk s3 H3 scope ce [it, TA]) [] (wipe σ (own.map (·.2))) (upd H D (.lst ((xs.take i).map f))) { s5 with heap := h' } := I5.turned (t' := s5.toks) (fun b o hb e => (sb.2 b hb).trans e) g0 g1 g3 g4 g5
      obtain ⟨oi, e, c', d⟩ := id st'
      refine go_of (s := { s5 with heap := h' }) e c' d (by decide) ?_
      have st6 : tn (i + 1) h' := ⟨st', (sb.2 TA neT).trans st5.2⟩
      have I6' := I6.pinned (stat I6 n5) (tobj _ _ st6)
      refine wpAny_assign_Name (store_raw (v := V.str y) I6' hN hio hk0 ⟨t, rfl⟩ fun s7 I7 hm7 t7 => ?_)
      refine wpAny_tests_nil ?_
      simp only [if_true]
      have hyx : y ∈ xs := List.mem_of_getElem? hy
      have hixio : io ≠ ix := fun e => hix (e ▸ hin)
      have hσ : ((wipe σ (own.map (·.2))).set io (some (V.str y)))[ix]? = some (some (.str z)) := by
        rw [List.getElem?_set_ne hixio, wipe_get, if_neg hix, hz]
      refine PySem.Call_method2 (hbase ce) (hst ce) hline (raw_name (X := X.blk s3 H3 scope ce [it, TA]) hNx po I7 hσ (fun v r => ?_) hdx hcx)
      obtain ⟨tz, rfl⟩ := r
      refine ⟨"str", _, PySem.F.plainAttrs_str, PySem.F.slot_str_replace, PySem.F.type_str_replace, typeIs_str _ _ _, (fun _ e => nomatch e), Calls.callWith_builtin rfl (Calls.evalArgs_plain (Calls.spliced_cons ?_))⟩
      refine Calls.Constant_str (Calls.spliced_cons ?_)
      obtain ⟨m, hn, hm⟩ := hm7
      refine wpAny_Name (wpAny_loadName_local I7.ok.kind hk0 hn hm (Calls.spliced_nil ?_)) hdo
      have t7' : s5.toks ≤ s7.toks := t7
      have t7'' : tk ≤ s7.toks := Nat.le_trans t5 t7'
      have a1 : s7.toks ≠ 0 := by omega
      have a2 : t ≠ 0 := Nat.ne_of_gt (Nat.lt_of_lt_of_le h0 tl)
      have a3 : s7.toks ≠ t := Nat.ne_of_gt (Nat.lt_of_lt_of_le th t7'')
      have hl5 : ((xs.take i).map f).length < sizeLine := by
        rw [List.length_map, List.length_take, sizeLine_eq]
        omega
      refine PySem.wpAny_with_toks (n := tk) (show tk ≤ s7.toks + 1 by omega) (PySem.SC.replace a1 a2 a3 (hne y hyx) (hb y hyx) fun t' k hk => ?_)
      refine PySem.wpAny_with_toks (n := tk) hk (app_ok (X := X.blk s3 H3 scope ce [it, TA]) (y := f y) (D := D) (I7.tok k) upd_same hl5 ⟨t', rfl⟩ fun s11 I11 hk11 => ?_)
      have pin' : ∀ b ∈ [it, TA], ∀ o, h'.get? b = some o → s11.heap.get? b = some o := fun b hb o e =>
        (I11.pin (b, o) (List.mem_append_right _ (List.mem_append_right _ (mem_pinsAt hb e)))).1
      have eH : upd (upd H D (.lst ((xs.take i).map f))) D (.lst ((xs.take i).map f ++ [f y])) = upd H D (.lst ((xs.take (i + 1)).map f)) := by
        funext b
        by_cases hbD : b = D
        · subst hbD
          rw [upd_same, upd_same, List.take_succ, hy, List.map_append]
          rfl
        · rw [upd_ne hbD, upd_ne hbD, upd_ne hbD]
      have I12 := (I11.unpinned (pins := [])).weak (σ' := wipe σ (own.map (·.2))) (by simp) (fun j v e => by
        have : j ≠ io := fun z => by
          rw [z, wipe_get, if_pos hin] at e
          split at e <;> cases e
        rw [List.getElem?_set_ne (Ne.symm this)]
        exact e)
      rw [eH] at I12
      exact ⟨xs.length - (i + 1), by omega, i + 1, by omega, rfl, I12, tkeep _ _ _ st6 pin', hk11⟩
    · have hi' : i = xs.length := by omega
      refine wpAny_pyNext_tuple_end (I5.ok.hd hc) st5.1 ht5 (by have := hr.1; simp; omega) fun h' eb => ?_
      have I6 : Inv (X.blk s3 H3 scope ce [it, TA]) [] (wipe σ (own.map (·.2))) (upd H D (.lst ((xs.take i).map f))) { s5 with heap := h' } := I5.turned (t' := s5.toks) (fun b o hb e => eb b o hb e) g0 g1 g3 g4 g5
      have I7 : Inv X pins σ (upd H D (.lst ((xs.take i).map f))) { s5 with heap := h' } := I3.call' (ch := [it, TA]) I6.os I6.base I6.hok I6.bare fun b hb => ⟨(f3 b hb).1.2.2.2.1, (f3 b hb).1.2.1, (f3 b hb).1.2.2.2.2.1, (f3 b hb).1.2.2.2.2.2⟩
      have nC : (upd H D (.lst ((xs.take i).map f))) s3.heap.objs.size = none := by
        have z : (upd H D (.lst ((xs.take i).map f))) ce.locals = none := I6.free
        rw [cL] at z
        exact z
      obtain ⟨m, hn, _⟩ := I6.loc
      have hn : h'.Ns ce.locals m := hn
      rw [cL] at hn
      obtain ⟨q0, q1, q2, q3, q4, q5⟩ := I3.fpOk (Nat.le_refl _) nC
      refine ⟨m, hn, fun h'' sb => ⟨.ref D, _, I7.turned (t' := s5.toks) (fun b o hb e => (sb.2 b hb).trans e) q0 q1 q3 q4 q5, rfl, ?_⟩⟩
      have := q D hDn
      rw [hi', List.take_length]
      exact this
  exact codeAny_compStart_list loop (wpAny_pyIter_tupleiter st4.1 loop)
end
/-! ### statements behind which a token is out -/
section
variable {X : Cx}
theorem thnK {α : Type} {t : Sem α} {Q Q' : α → Shared → Prop} {M : Model} {A : Around} {E : Value → Shared → Prop} {s : Shared} {n : Nat} (hn : n ≤ s.toks) (h : wpAny M A t Q E s) (hQ : ∀ a s', n ≤ s'.toks → Q a s' → Q' a s') : wpAny M A t Q' E s := wpAny_mono (PySem.wpAny_toks_of hn h) (fun a s' x => hQ a s' x.1 x.2) fun _ _ x => x.2
/-- e gives out a token -/
def PEp (X : Cx) (e : Expr) (t : TE) : Prop := ∀ (pins : List (Addr × Obj)) (s : Shared) (σ : L2.St) (H : Hp) (Q : VK), Inv X pins σ H s → t σ H Q → wpAny (model X.prog X.w) X.A (eval e X.env) (fun v s1 => s.toks + 1 ≤ s1.toks ∧ EP X pins σ Q v s1) X.xe s
def PAp (X : Cx) (es : List Expr) (t : TA) : Prop := ∀ (pos : Pos) (pins : List (Addr × Obj)) (s : Shared) (σ : L2.St) (H : Hp) (Q : List V → Hp → Prop), Inv X pins σ H s → t σ H Q → wpAny (model X.prog X.w) X.A (spliced (backTo pos (starEach es X.env))) (fun vs s1 => s.toks + 1 ≤ s1.toks ∧ AP X pins σ Q vs s1) X.xe s
def PSp (X : Cx) (st : Stmt) (t : TS) : Prop := ∀ (pins : List (Addr × Obj)) (s : Shared) (σ : L2.St) (H : Hp) (D : Ends), Inv X pins σ H s → t D σ H → wpAny (model X.prog X.w) X.A (exec st X.env) (fun f s1 => s.toks + 1 ≤ s1.toks ∧ SP X pins D f s1) X.xe s
theorem pep_str {x : Str} {j : Nat} {pos : Pos} : PEp X (.Constant (.str x) j pos) (tC (.str x)) := fun _ _ _ H _ I h => Calls.Constant_str ⟨Nat.le_refl _, .str x, H, I.tok _, ⟨_, rfl⟩, h⟩
theorem pep_op {o : Operator} {r : R2} {a b : Expr} {ta tb : TE} {pos : Pos} (ho : OpR X (binaryOp o) r) (ha : PEp X a ta) (hb : PE X b tb) : PEp X (.BinOp a o b pos) (tOp r ta tb) := by
  intro pins s σ H Q I h
  refine wpAny_BinOp (thn (ha pins s σ H _ I h) fun v s1 q => ?_)
  obtain ⟨hk, x, H1, I1, r1, q1⟩ := q
  refine thnK hk (hb.run pins s1 σ H1 _ I1 q1) fun u s2 hk2 ⟨y, H2, I2, r2, q2⟩ => ?_
  exact thnK hk2 (ho pins s2 σ H2 x y v u Q I2 r1 r2 q2) fun w s3 hk3 q3 => ⟨hk3, q3⟩
theorem pap_cons {e : Expr} {es : List Expr} {te : TE} {ta : TA} (ha : PEp X e te) (hr : PA X es ta) (hs : starEach (e :: es) X.env = (false, eval e X.env) :: starEach es X.env := by rfl) : PAp X (e :: es) (tCons te ta) := by
  intro pos pins s σ H Q I h
  rw [hs]
  show wpAny _ _ (spliced ((false, eval e X.env) :: backTo pos (starEach es X.env))) _ _ s
  refine Calls.spliced_cons (thn (ha pins s σ H _ I h) fun v s1 q => ?_)
  obtain ⟨hk, x, H1, I1, r1, q1⟩ := q
  exact thnK hk (hr.run pos pins s1 σ H1 _ I1 q1) fun us s2 hk2 ⟨xs, H2, I2, r2, q2⟩ => ⟨hk2, x :: xs, H2, I2, .cons r1 r2, q2⟩
theorem pep_lst {es : List Expr} {ta : TA} {pos : Pos} (h : PAp X es ta) : PEp X (.List es pos) (tLst ta) := by
  intro pins s σ H Q I hq
  refine wpAny_List_spliced (thn (h pos pins s σ H _ I hq) fun us s1 ⟨hk, xs, H1, I1, r, z, q⟩ => ⟨by rw [← r.length]; exact z, ?_⟩)
  have hf : H1 s1.heap.objs.size = none := I1.hok.fresh (Nat.le_refl _)
  refine ⟨hk, .ref s1.heap.objs.size, upd H1 s1.heap.objs.size (.lst xs), I1.laid (t' := s1.toks) (fun b u e => Heap.get?_push_of_some _ e) (Nat.le_refl _) ?_, rfl, q _ hf⟩
  exact ⟨z, us, 0, r, Heap.get?_push_size _ rfl⟩
theorem psp_set {i : Nat} {x : Str} {e : Expr} {te : TE} {pos' pos : Pos} (hN : X.N.Nodup) (hi : X.N[i]? = some x) (hx : Loc X.env.scope x) (he : PEp X e te) (hs : swapsWith e (some (.Name x pos')) pos.line X.env = pure false := by rfl) (hf : X.fn x = true ∨ X.env.scope.names.lookup x = some .local := by first | exact .inl rfl | exact .inr rfl | assumption) :
    PSp X (.Assign [.Name x pos'] e pos) (tAsg te (gName i)) := by
  intro pins s σ H D I h
  refine wpAny_Assign_Name (thn (he pins s σ H _ I h) fun v s1 ⟨hk, y, H1, I1, r1, q1⟩ => ?_) hs
  exact PySem.wpAny_with_toks hk (store_ok I1 hN hi hx r1 (fun s2 I2 hk2 => ⟨hk2, _, H1, I2, q1⟩) hf)
theorem pst_set {i : Nat} {x : Str} {e : Expr} {te : TE} {pos' pos : Pos} (hN : X.N.Nodup) (hi : X.N[i]? = some x) (hx : Loc X.env.scope x) (he : PET X e te) (hs : swapsWith e (some (.Name x pos')) pos.line X.env = pure false := by rfl) (hf : X.fn x = true ∨ X.env.scope.names.lookup x = some .local := by first | exact .inl rfl | exact .inr rfl | assumption) :
    PST X (.Assign [.Name x pos'] e pos) (tAsg te (gName i)) := by
  intro pins s σ H D h0 I h
  refine wpAny_Assign_Name (thn (he pins s σ H _ h0 I h) fun v s1 ⟨y, H1, I1, r1, q1⟩ => ?_) hs
  exact store_ok I1 hN hi hx r1 (fun s2 I2 => ⟨_, H1, I2, q1⟩) hf
theorem pss_consP {st : Stmt} {rest : List Stmt} {t u : TS} (h1 : PSp X st t) (h2 : PSsT X rest u) : PSs X (st :: rest) (tSeq t u) := by
  refine ⟨fun pins s σ H D I h => ?_⟩
  refine wpAny_execs_cons (thn (h1 pins s σ H { D with nx := u D } I h) fun f s1 ⟨hk, q⟩ => ?_)
  cases f with
  | next =>
    obtain ⟨σ', H', I', q⟩ := q
    exact h2 pins s1 σ' H' D (by omega) I' q
  | ret v => exact q
  | brk => exact q
  | cont => exact q
end
section
variable {γ δ α β : Type} {X : Cx} {T : List (Addr × Str)} {W : WX} {B : Hp} {ρ : List SL} {embL : γ → List SL} {emb : α → List SL} {emb1 : β → List SL} {a b e : Expr} {es : List Expr} {ma mb m : M D} {ms : M (List D)} {st : Stmt} {rest : List Stmt} {pos : Pos}
structure VEp (X : Cx) (T : List (Addr × Str)) (W : WX) (B : Hp) (ρ : List SL) (e : Expr) (m : M D) : Prop where
  t : ∃ t, PEp X e t ∧ Snd (RepV X.K) X.K X.mg T W B ρ t m
structure VAp (X : Cx) (T : List (Addr × Str)) (W : WX) (B : Hp) (ρ : List SL) (es : List Expr) (m : M (List D)) : Prop where
  t : ∃ t, PAp X es t ∧ Snd (RepL X.K) X.K X.mg T W B ρ t m
structure VET (X : Cx) (T : List (Addr × Str)) (W : WX) (B : Hp) (ρ : List SL) (e : Expr) (m : M D) : Prop where
  t : ∃ t, PET X e t ∧ Snd (RepV X.K) X.K X.mg T W B ρ t m
structure VSp {γ α : Type} (X : Cx) (T : List (Addr × Str)) (W : WX) (B : Hp) (ρ : List SL) (st : Stmt) (embL : γ → List SL) (emb : α → List SL) (m : M (Fl γ α)) : Prop where
  p : PSp X st (rdS X.K X.mg T W B ρ embL emb m)
structure VST {γ α : Type} (X : Cx) (T : List (Addr × Str)) (W : WX) (B : Hp) (ρ : List SL) (st : Stmt) (embL : γ → List SL) (emb : α → List SL) (m : M (Fl γ α)) : Prop where
  p : PST X st (rdS X.K X.mg T W B ρ embL emb m)
structure VBT {γ α : Type} (X : Cx) (T : List (Addr × Str)) (W : WX) (B : Hp) (ρ : List SL) (sts : List Stmt) (embL : γ → List SL) (emb : α → List SL) (m : M (Fl γ α)) : Prop where
  p : PSsT X sts (rdS X.K X.mg T W B ρ embL emb m)
theorem vep_str {x : Str} {j : Nat} : VEp X T W B ρ (.Constant (.str x) j pos) (pure (.str x)) := ⟨_, pep_str, snd_pure fun _ _ => .str x⟩
theorem vep_op {o : Operator} {r : R2} {op : D → D → M D} (ho : OpR X (binaryOp o) r) (h : OpD X.K X.mg T r op) (ha : VEp X T W B ρ a ma) (hb : VE X T W B ρ b mb) : VEp X T W B ρ (.BinOp a o b pos) (ma >>= fun x => mb >>= fun y => op x y) :=
  let ⟨ta, pa, sa⟩ := ha.t; let ⟨tb, pb, sb⟩ := hb.t; ⟨_, pep_op ho pa pb, snd_op h sa sb⟩
theorem vap_cons (he : VEp X T W B ρ e m) (hr : VA X T W B ρ es ms) (hs : starEach (e :: es) X.env = (false, eval e X.env) :: starEach es X.env := by rfl) : VAp X T W B ρ (e :: es) (m >>= fun d => ms >>= fun ds => pure (d :: ds)) :=
  let ⟨te, pe, se⟩ := he.t; let ⟨tr, pr, sr⟩ := hr.t
  ⟨_, pap_cons pe pr hs, fun σ F H as S Q st sl p => se σ F H as S _ st sl (p.bind fun d1 v1 S1 F1 H1 as1 _ e1 st1 r1 p1 =>
    sr σ F1 H1 as1 S1 _ st1 (sl.ext e1) (p1.bind fun d2 v2 S2 F2 H2 as2 _ e2 st2 r2 p2 => p2 _ F2 H2 as2 Ext.refl st2 (.cons (e2.rep r1) r2)))⟩
theorem vep_lst (h : VAp X T W B ρ es ms) : VEp X T W B ρ (.List es pos) (ms >>= lstD) :=
  let ⟨t, pa, s⟩ := h.t
  ⟨_, pep_lst pa, fun σ F H as S Q st sl p => s σ F H as S _ st sl (p.bind fun ds vs S1 F1 H1 as1 _ e1 st1 r1 p1 => by
    unfold lstD at p1
    by_cases c : ds.length ≤ lim
    · rw [if_pos c] at p1
      exact ⟨by rw [Reps.length r1]; exact lim_line c, fun q hq => new_lst st1 hq r1 p1⟩
    · rw [if_neg c] at p1
      exact False.elim p1)⟩
theorem vet_op {o : Operator} {r : R2} {op : D → D → M D} (ho : OpR X (binaryOp o) r) (h : OpD X.K X.mg T r op) (ha : VE X T W B ρ a ma) (hb : VET X T W B ρ b mb) : VET X T W B ρ (.BinOp a o b pos) (ma >>= fun x => mb >>= fun y => op x y) :=
  let ⟨ta, pa, sa⟩ := ha.t; let ⟨tb, pb, sb⟩ := hb.t; ⟨_, CwR.pet_op ho (CwR.PET.of pa) pb, snd_op h sa sb⟩
/-- name = e, its reading -/
theorem set_rd {t : TE} (i : Nat) (h : Snd (RepV X.K) X.K X.mg T W B ρ t m) : ∀ (D : Ends) (σ : L2.St) (H : Hp), rdS X.K X.mg T W B ρ embL (fun d => ρ.set i (.fz d)) (m >>= fun d => pure (.nx d)) D σ H → tAsg t (gName i) D σ H := fun D σ H ⟨F0, as0, F, as, S, x0, stt, sl, p⟩ => by
  refine h σ F H as S _ stt sl ?_
  exact p.bind x0 fun d v S' F' H' as' _ x x' st r q => q _ F' H' as' x' st ((sl.ext x).set r)
theorem vsp_set {x : Str} {pos' : Pos} (i : Nat) (he : VEp X T W B ρ e m) (hN : X.N.Nodup) (hi : X.N[i]? = some x := by rfl) (hx : Loc X.env.scope x := by first | exact .inl rfl | exact .inr rfl) (hs : swapsWith e (some (.Name x pos')) pos.line X.env = pure false := by rfl)
    (hf : X.fn x = true ∨ X.env.scope.names.lookup x = some .local := by first | exact .inl rfl | exact .inr rfl | assumption) :
    VSp X T W B ρ (.Assign [.Name x pos'] e pos) embL (fun d => ρ.set i (.fz d)) (m >>= fun d => pure (.nx d)) :=
  let ⟨t, pa, s⟩ := he.t
  ⟨fun pins st σ H D I q => psp_set (i := i) hN hi hx pa hs hf pins st σ H D I (set_rd i s D σ H q)⟩
theorem vst_set {x : Str} {pos' : Pos} (i : Nat) (he : VET X T W B ρ e m) (hN : X.N.Nodup) (hi : X.N[i]? = some x := by rfl) (hx : Loc X.env.scope x := by first | exact .inl rfl | exact .inr rfl) (hs : swapsWith e (some (.Name x pos')) pos.line X.env = pure false := by rfl)
    (hf : X.fn x = true ∨ X.env.scope.names.lookup x = some .local := by first | exact .inl rfl | exact .inr rfl | assumption) :
    VST X T W B ρ (.Assign [.Name x pos'] e pos) embL (fun d => ρ.set i (.fz d)) (m >>= fun d => pure (.nx d)) :=
  let ⟨t, pa, s⟩ := he.t
  ⟨fun pins st σ H D h0 I q => pst_set (i := i) hN hi hx pa hs hf pins st σ H D h0 I (set_rd i s D σ H q)⟩
theorem VBT.of {sts : List Stmt} {mm : M (Fl γ α)} (h : VB X T W B ρ sts embL emb mm) : VBT X T W B ρ sts embL emb mm := ⟨PSsT.of h.p⟩
theorem VST.of {mm : M (Fl γ α)} (h : VS X T W B ρ st embL emb mm) : VST X T W B ρ st embL emb mm := ⟨PST.of h.p⟩
theorem vbt_cons {m1 : M (Fl γ β)} {k : β → M (Fl γ α)} (h : VST X T W B ρ st embL emb1 m1) (hr : ∀ a, VBT X T W B (emb1 a) rest embL emb (k a)) : VBT X T W B ρ (st :: rest) embL emb (seqF m1 k) :=
  ⟨fun pins s σ H D h0 I q => psst_cons (u := fun D σ H => ∃ a, rdS X.K X.mg T W B (emb1 a) embL emb (k a) D σ H) h.p (fun pins s σ H D h0 I ⟨a, q⟩ => (hr a).p pins s σ H D h0 I q) pins s σ H D h0 I (by
    obtain ⟨F0, as0, F, as, S, x0, stt, sl, p⟩ := q
    exact ⟨F0, as0, F, as, S, x0, stt, sl, p.seq fun a S' σ' F' H' as' _ x st sl q => ⟨a, F0, as0, F', as', S', x, st, sl, q⟩⟩)⟩
theorem vb_consP {m1 : M (Fl γ β)} {k : β → M (Fl γ α)} (h : VSp X T W B ρ st embL emb1 m1) (hr : ∀ a, VBT X T W B (emb1 a) rest embL emb (k a)) : VB X T W B ρ (st :: rest) embL emb (seqF m1 k) :=
  ⟨(pss_consP (u := fun D σ H => ∃ a, rdS X.K X.mg T W B (emb1 a) embL emb (k a) D σ H) h.p (fun pins s σ H D h0 I ⟨a, q⟩ => (hr a).p pins s σ H D h0 I q)).imp fun D σ H ⟨F0, as0, F, as, S, x0, stt, sl, p⟩ =>
    ⟨F0, as0, F, as, S, x0, stt, sl, p.seq fun a S' σ' F' H' as' _ x st sl q => ⟨a, F0, as0, F', as', S', x, st, sl, q⟩⟩⟩
/-! ### [text.replace(c, one) for one in (..)] -/
def replL (c : Str) (xs : List Str) : D → M D
  | .str z => if (∀ y ∈ xs, z.length + (z.length + 1) * y.length ≤ 16777216) ∧ xs.length ≤ 1000 then pure (.lst (xs.map fun y => .str (Txt.replace z c y))) else no
  | _ => no
theorem reps_repl {K : PySem.W.Frag} {F : Hp} {as : List Addr} {z c : Str} : ∀ xs : List Str, Reps K F as (xs.map fun y => V.str (Txt.replace z c y)) (xs.map fun y => D.str (Txt.replace z c y))
  | [] => .nil
  | x :: xs => .cons (.str _) (reps_repl xs)
theorem vet_lcRep {iter : Expr} {scope : Scope} {tx o c : Str} {d : D} {xs : List Str} {j : Nat} {p1 p2 p3 c0 apos cpos : Pos} (own : List (Str × Nat)) (ix io : Nat) (hc : X.calm = true) (hN : X.N.Nodup) (hl : TupLits X iter xs) (ok : blkC X.N X.env.scope scope own = true)
    (hd : ρ[ix]? = some (.fz d) := by rfl) (hNx : X.N[ix]? = some tx := by rfl)
    (hv : ∀ (cl : List (Str × Addr)) (C : Addr), Vis (compEnvC scope cl C X.env).scope tx := by intros; first | exact .inl rfl | exact .inr (.inl rfl) | exact .inr (.inr rfl)) (hdx : (tx == ("__debug__" : Str)) = false := by decide) (hcx : (tx == ("__classdict__" : Str)) = false := by decide)
    (hne : ∀ y ∈ xs, (c == y) = false := by decide) (hio : X.N[io]? = some o := by rfl) (hix : ix ∉ own.map (·.2) := by decide) (hin : io ∈ own.map (·.2) := by decide)
    (hko : ∀ (cl : List (Str × Addr)) (C : Addr), (compEnvC scope cl C X.env).scope.names.lookup o = some .local := by intros; rfl)
    (hst : ∀ env, starEach [.Constant (.str c) j c0, .Name o p2] env = [(false, eval (.Constant (.str c) j c0) env), (false, eval (.Name o p2) env)] := by intros; rfl)
    (hbase : ∀ env, attributeBase (.Name tx p1) "replace" env (eval (.Name tx p1) env) = eval (.Name tx p1) env := by intros; rfl) (hline : (apos.endLine == cpos.line) = true := by rfl) (hdo : (o == ("__debug__" : Str)) = false := by decide)
    (hs : ∀ x, foldedSetIterable iter X.env x = pure x := by intros; rfl) :
    VET X T W B ρ (.ListComp (.Call (.Attribute (.Name tx p1) "replace" apos) [.Constant (.str c) j c0, .Name o p2] [] cpos) [⟨.Name o p3, iter, [], 0⟩] scope pos) (replL c xs d) :=
  ⟨_, pet_lcRep own ix io hc hN hl (blkOk_by ok) hNx hv hdx hcx hne hio hix hin hko hst hbase hline hdo hs, fun σ F H as S Q st sl p => by
    obtain ⟨v, g1, g2⟩ := sl.get hd
    cases d with
    | str z =>
      cases g2
      by_cases q : (∀ y ∈ xs, z.length + (z.length + 1) * y.length ≤ 16777216) ∧ xs.length ≤ 1000
      · rw [show replL c xs (.str z) = _ from if_pos q] at p
        exact ⟨z, g1, q.1, q.2, fun D hD => new_lst st hD (reps_repl xs) p⟩
      · rw [show replL c xs (.str z) = _ from if_neg q] at p
        exact False.elim p
    | _ => exact False.elim p⟩
end
end VL

/-! VLib2: the mirrors of what the texts of k60 to k68 share. Printed by gen.py from lib2_src.py. -/
namespace VLib2
open PySem PySem.Spec VL VLib
def c_DIGITS : D := .str "0123456789"
/-- _law_hand -/
def law_hand_b (q r : Int) (script_ : D) : M (Fl Unit Unit) :=
    seqF (γ := Unit) (α := List D) (((((pure script_) >>= fun x2 => (pure none) >>= fun l5 => ((pure (D.int 63)) >>= fun x3 => asI x3 >>= fun i4 => pure (some i4)) >>= fun h6 => sliceD x2 l5 h6) >>= rowD) >>= lcL (lcT (β := D) (fun d => pure d) (fun cell_ => (pure true)) (fun cell_ => ((((((((pure cell_) >>= fun x7 => (pure []) >>= fun r8 => pure (x7 :: r8)) >>= on1 int1) >>= fun x9 => (pure []) >>= fun r10 => pure (x9 :: r10)) >>= on1 abs1) >>= fun x11 => (pure []) >>= fun r12 => pure (x11 :: r12)) >>= on1 int1) >>= fun x15 => ((pure (D.int 10)) >>= fun x13 => (pure (D.int 40)) >>= fun x14 => powD x13 x14) >>= fun x16 => modD x15 x16)))) >>= fun ds17 => pure (Fl.nx ds17)) fun cells_ =>
    (((((pure (D.lst cells_)) >>= fun x32 => ((pure (D.int 0)) >>= fun x30 => ((pure (D.int 0)) >>= fun x28 => (((pure (D.int q)) >>= fun x24 => ((pure (D.int r)) >>= fun x22 => (((pure (D.lst cells_)) >>= fun x20 => (pure []) >>= fun r21 => pure (x20 :: r21)) >>= on1 len1) >>= fun x23 => mulI x22 x23) >>= fun x25 => addD x24 x25) >>= fun x26 => ((pure (D.int 0)) >>= fun x18 => (pure []) >>= fun r19 => pure (x18 :: r19)) >>= fun r27 => pure (x26 :: r27)) >>= fun r29 => pure (x28 :: r29)) >>= fun r31 => pure (x30 :: r31)) >>= fun r33 => pure (x32 :: r33)) >>= limL) >>= newCell) >>= fun x34 => pure (Fl.rt x34))
def law_hand_d (q r : Int) : List D → M (Fl Unit Unit)
  | [script_] => law_hand_b q r script_
  | _ => no
def law_hand_m (q r : Int) (ds : List D) : M D := bodyM (law_hand_d q r ds)

/-- _law_any -/
def law_any_b (q : Int) (hand_ things_ : D) : M (Fl Unit Unit) :=
    (((pure things_) >>= fun x1 => (((pure hand_) >>= fun x6 => ((((pure things_) >>= fun x2 => (pure []) >>= fun r3 => pure (x2 :: r3)) >>= on1 len1) >>= fun x4 => (pure []) >>= fun r5 => pure (x4 :: r5)) >>= fun r7 => pure (x6 :: r7)) >>= onN 2 (law_draw_m q)) >>= fun x8 => itemD x1 x8) >>= fun x9 => pure (Fl.rt x9))
def law_any_d (q : Int) : List D → M (Fl Unit Unit)
  | [hand_, things_] => law_any_b q hand_ things_
  | _ => no
def law_any_m (q : Int) (ds : List D) : M D := bodyM (law_any_d q ds)

/-- _law_low -/
def law_low_b (top_ bottom_ : D) : M (Fl Unit Unit) :=
    seqF (γ := Unit) (α := D) ((((pure top_) >>= fun x2 => (pure []) >>= fun r3 => pure (x2 :: r3)) >>= on1 abs1) >>= fun x4 => pure (Fl.nx x4)) fun one_ =>
    seqF (γ := Unit) (α := D) ((((pure bottom_) >>= fun x6 => (pure []) >>= fun r7 => pure (x6 :: r7)) >>= on1 abs1) >>= fun x8 => pure (Fl.nx x8)) fun other_ =>
    seqF (γ := Unit) (α := D × D) (whileM (2 ^ 9000) (fun s10 : D × D => ((pure s10.2) >>= fun x11 => (pure (D.int 0)) >>= fun x12 => gtD x11 x12 >>= asB)) (fun s10 : D × D => seqF (γ := D × D) (α := D × D) (((pure s10.2) >>= fun x20 => (((((pure s10.1) >>= fun x14 => (pure []) >>= fun r15 => pure (x14 :: r15)) >>= on1 int1) >>= fun x16 => (pure s10.2) >>= fun x17 => modD x16 x17) >>= fun x18 => (pure []) >>= fun r19 => pure (x18 :: r19)) >>= fun r21 => pure (x20 :: r21)) >>= fun ds22 => un2 (D.tup ds22) >>= fun b23 => pure (Fl.nx b23)) fun b23 =>
        pure (Fl.nx (b23.1, b23.2))) (one_, other_)) fun s9 =>
    seqF (γ := Unit) (α := D) (((pure bottom_) >>= fun x25 => (pure (D.int 0)) >>= fun x26 => ltD x25 x26 >>= asB) >>= fun k29 => if k29 = true then (seqF (γ := Unit) (α := D) (((pure s9.1) >>= negD) >>= fun x28 => pure (Fl.nx x28)) fun one_ =>
        pure (Fl.nx one_)) else (pure (Fl.nx s9.1))) fun s24 =>
    (((((pure top_) >>= fun x34 => (pure s24) >>= fun x35 => fdivD x34 x35) >>= fun x36 => (((pure bottom_) >>= fun x30 => (pure s24) >>= fun x31 => fdivD x30 x31) >>= fun x32 => (pure []) >>= fun r33 => pure (x32 :: r33)) >>= fun r37 => pure (x36 :: r37)) >>= tupD) >>= fun x38 => pure (Fl.rt x38))
def law_low_d : List D → M (Fl Unit Unit)
  | [top_, bottom_] => law_low_b top_ bottom_
  | _ => no
def law_low_m (ds : List D) : M D := bodyM (law_low_d ds)

/-- _law_digits -/
def law_digits_b (q : Int) (hand_ most_ : D) : M (Fl Unit Unit) :=
    seqF (γ := Unit) (α := D) (((pure (D.int 1)) >>= fun x6 => (((pure hand_) >>= fun x4 => ((pure most_) >>= fun x2 => (pure []) >>= fun r3 => pure (x2 :: r3)) >>= fun r5 => pure (x4 :: r5)) >>= onN 2 (law_draw_m q)) >>= fun x7 => addD x6 x7) >>= fun x8 => pure (Fl.nx x8)) fun many_ =>
    ((((pure hand_) >>= fun x17 => (((((pure (D.str "1")) >>= fun x11 => ((pure (D.str "0")) >>= fun x9 => (pure many_) >>= fun x10 => mulS x9 x10) >>= fun x12 => addD x11 x12) >>= fun x13 => (pure []) >>= fun r14 => pure (x13 :: r14)) >>= on1 intX) >>= fun x15 => (pure []) >>= fun r16 => pure (x15 :: r16)) >>= fun r18 => pure (x17 :: r18)) >>= onN 2 (law_draw_m q)) >>= fun x19 => pure (Fl.rt x19))
def law_digits_d (q : Int) : List D → M (Fl Unit Unit)
  | [hand_, most_] => law_digits_b q hand_ most_
  | _ => no
def law_digits_m (q : Int) (ds : List D) : M D := bodyM (law_digits_d q ds)

/-- _law_drawn_fraction -/
def law_drawn_fraction_b (q : Int) (hand_ : D) : M (Fl Unit Unit) :=
    seqF (γ := Unit) (α := D) ((((pure hand_) >>= fun x14 => ((((pure (D.int 1)) >>= fun x10 => ((pure (D.int 1)) >>= fun x8 => ((pure (D.int 2)) >>= fun x6 => ((pure (D.int 6)) >>= fun x4 => ((pure (D.int 39)) >>= fun x2 => (pure []) >>= fun r3 => pure (x2 :: r3)) >>= fun r5 => pure (x4 :: r5)) >>= fun r7 => pure (x6 :: r7)) >>= fun r9 => pure (x8 :: r9)) >>= fun r11 => pure (x10 :: r11)) >>= lstD) >>= fun x12 => (pure []) >>= fun r13 => pure (x12 :: r13)) >>= fun r15 => pure (x14 :: r15)) >>= onN 2 (law_any_m q)) >>= fun x16 => pure (Fl.nx x16)) fun size_ =>
    seqF (γ := Unit) (α := D) (((((pure hand_) >>= fun x20 => ((pure size_) >>= fun x18 => (pure []) >>= fun r19 => pure (x18 :: r19)) >>= fun r21 => pure (x20 :: r21)) >>= onN 2 (law_digits_m q)) >>= fun x34 => (((pure hand_) >>= fun x32 => ((((pure (D.int 1)) >>= fun x28 => ((pure (D.int 1)) >>= fun x26 => (((pure (D.int 0)) >>= fun x22 => (pure (D.int 1)) >>= fun x23 => subD x22 x23) >>= fun x24 => (pure []) >>= fun r25 => pure (x24 :: r25)) >>= fun r27 => pure (x26 :: r27)) >>= fun r29 => pure (x28 :: r29)) >>= lstD) >>= fun x30 => (pure []) >>= fun r31 => pure (x30 :: r31)) >>= fun r33 => pure (x32 :: r33)) >>= onN 2 (law_any_m q)) >>= fun x35 => mulI x34 x35) >>= fun x36 => pure (Fl.nx x36)) fun top_ =>
    ((((pure top_) >>= fun x51 => (((pure (D.int 1)) >>= fun x47 => ((((pure hand_) >>= fun x39 => ((pure size_) >>= fun x37 => (pure []) >>= fun r38 => pure (x37 :: r38)) >>= fun r40 => pure (x39 :: r40)) >>= onN 2 (law_digits_m q)) >>= fun x45 => (((pure hand_) >>= fun x43 => ((pure (D.int 2)) >>= fun x41 => (pure []) >>= fun r42 => pure (x41 :: r42)) >>= fun r44 => pure (x43 :: r44)) >>= onN 2 (law_draw_m q)) >>= fun x46 => mulI x45 x46) >>= fun x48 => addD x47 x48) >>= fun x49 => (pure []) >>= fun r50 => pure (x49 :: r50)) >>= fun r52 => pure (x51 :: r52)) >>= onN 2 law_low_m) >>= fun x53 => pure (Fl.rt x53))
def law_drawn_fraction_d (q : Int) : List D → M (Fl Unit Unit)
  | [hand_] => law_drawn_fraction_b q hand_
  | _ => no
def law_drawn_fraction_m (q : Int) (ds : List D) : M D := bodyM (law_drawn_fraction_d q ds)

/-- _law_like -/
def law_like_b (told_ due_ : D) : M (Fl Unit Unit) :=
    (((((pure told_) >>= fun x1 => (pure []) >>= fun r2 => pure (x1 :: r2)) >>= on1 repr1) >>= fun x5 => (((pure due_) >>= fun x3 => (pure []) >>= fun r4 => pure (x3 :: r4)) >>= on1 repr1) >>= fun x6 => eqD x5 x6) >>= fun x7 => pure (Fl.rt x7))
def law_like_d : List D → M (Fl Unit Unit)
  | [told_, due_] => law_like_b told_ due_
  | _ => no
def law_like_m (ds : List D) : M D := bodyM (law_like_d ds)

/-- _law_fraction_text -/
def law_fraction_text_b (one_ : D) : M (Fl Unit Unit) :=
    ((((((pure one_) >>= fun x1 => (pure (D.int 0)) >>= fun x2 => itemD x1 x2) >>= fun x3 => (pure []) >>= fun r4 => pure (x3 :: r4)) >>= on1 str1) >>= fun x16 => ((((pure one_) >>= fun x5 => (pure (D.int 1)) >>= fun x6 => itemD x5 x6) >>= fun x7 => (pure (D.int 1)) >>= fun x8 => eqD x7 x8 >>= asB) >>= fun k15 => if k15 = true then (pure (D.str "")) else ((pure (D.str "/")) >>= fun x13 => ((((pure one_) >>= fun x9 => (pure (D.int 1)) >>= fun x10 => itemD x9 x10) >>= fun x11 => (pure []) >>= fun r12 => pure (x11 :: r12)) >>= on1 str1) >>= fun x14 => addD x13 x14)) >>= fun x17 => addD x16 x17) >>= fun x18 => pure (Fl.rt x18))
def law_fraction_text_d : List D → M (Fl Unit Unit)
  | [one_] => law_fraction_text_b one_
  | _ => no
def law_fraction_text_m (ds : List D) : M D := bodyM (law_fraction_text_d ds)

/-- frac_word -/
def frac_word_b (one_ : D) : M (Fl Unit Unit) :=
    (((((pure one_) >>= fun x1 => (pure (D.int 1)) >>= fun x2 => itemD x1 x2) >>= fun x3 => (pure (D.int 1)) >>= fun x4 => eqD x3 x4 >>= asB) >>= fun k14 => if k14 = true then ((((pure one_) >>= fun x5 => (pure (D.int 0)) >>= fun x6 => itemD x5 x6) >>= fun x7 => (pure []) >>= fun r8 => pure (x7 :: r8)) >>= on1 str1) else (jnM [(((pure one_) >>= fun x11 => (pure (D.int 0)) >>= fun x12 => itemD x11 x12) >>= fmtD), (pure "/"), (((pure one_) >>= fun x9 => (pure (D.int 1)) >>= fun x10 => itemD x9 x10) >>= fmtD)] Str.empty >>= fun x13 => pure (D.str x13))) >>= fun x15 => pure (Fl.rt x15))
def frac_word_d : List D → M (Fl Unit Unit)
  | [one_] => frac_word_b one_
  | _ => no
def frac_word_m (ds : List D) : M D := bodyM (frac_word_d ds)

/-- is_whole_text -/
def is_whole_text_b (text_ : D) : M (Fl Unit Unit) :=
    seqF (γ := Unit) (α := Unit) ((((pure text_) >>= fun x7 => (pure (D.str "")) >>= fun x8 => eqD x7 x8 >>= asB) >>= fun k9 => if k9 = true then pure true else (((((((pure text_) >>= signD) >>= lcL (lcT (β := D) (fun d => pure d) (fun sign_ => (pure true)) (fun sign_ => ((pure sign_) >>= fun x2 => (pure c_DIGITS) >>= fun x3 => ninsD x2 x3)))) >>= fun ds4 => pure (D.lst ds4)) >>= fun x5 => (pure []) >>= fun r6 => pure (x5 :: r6)) >>= on1 any1) >>= truB)) >>= fun k11 => if k11 = true then (((pure (D.bl false)) >>= fun x10 => pure (Fl.rt x10))) else (pure (Fl.nx ()))) fun s1 =>
    ((((pure text_) >>= fun x16 => (pure (D.str "0")) >>= fun x17 => eqD x16 x17) >>= fun x18 => truB x18 >>= fun k19 => if k19 = true then pure x18 else (((pure text_) >>= fun x12 => (pure (D.int 0)) >>= fun x13 => itemD x12 x13) >>= fun x14 => (pure (D.str "0")) >>= fun x15 => neD x14 x15)) >>= fun x20 => pure (Fl.rt x20))
def is_whole_text_d : List D → M (Fl Unit Unit)
  | [text_] => is_whole_text_b text_
  | _ => no
def is_whole_text_m (ds : List D) : M D := bodyM (is_whole_text_d ds)

/-- is_signed_text -/
def is_signed_text_b (text_ : D) : M (Fl Unit Unit) :=
    seqF (γ := Unit) (α := Unit) ((((pure text_) >>= fun x2 => (pure none) >>= fun l5 => ((pure (D.int 1)) >>= fun x3 => asI x3 >>= fun i4 => pure (some i4)) >>= fun h6 => sliceD x2 l5 h6) >>= fun x7 => (pure (D.str "-")) >>= fun x8 => eqD x7 x8 >>= asB) >>= fun k21 => if k21 = true then (((((((pure text_) >>= fun x11 => ((pure (D.int 1)) >>= fun x12 => asI x12 >>= fun i13 => pure (some i13)) >>= fun l14 => (pure none) >>= fun h15 => sliceD x11 l14 h15) >>= fun x16 => (pure []) >>= fun r17 => pure (x16 :: r17)) >>= onN 1 is_whole_text_m) >>= fun x18 => truB x18 >>= fun k19 => if k19 = true then ((pure text_) >>= fun x9 => (pure (D.str "-0")) >>= fun x10 => neD x9 x10) else pure x18) >>= fun x20 => pure (Fl.rt x20))) else (pure (Fl.nx ()))) fun s1 =>
    ((((pure text_) >>= fun x22 => (pure []) >>= fun r23 => pure (x22 :: r23)) >>= onN 1 is_whole_text_m) >>= fun x24 => pure (Fl.rt x24))
def is_signed_text_d : List D → M (Fl Unit Unit)
  | [text_] => is_signed_text_b text_
  | _ => no
def is_signed_text_m (ds : List D) : M D := bodyM (is_signed_text_d ds)

/-- word_frac -/
def word_frac_b (text_ : D) : M (Fl Unit Unit) :=
    seqF (γ := Unit) (α := D) (((pure text_) >>= fun x4 => strD x4 >>= fun z5 => ((pure (D.str "/")) >>= fun x2 => (pure []) >>= fun r3 => pure (x2 :: r3)) >>= fun ys6 => splitS z5 ys6) >>= fun x7 => pure (Fl.nx x7)) fun parts_ =>
    seqF (γ := Unit) (α := Unit) ((((((pure parts_) >>= fun x14 => (pure []) >>= fun r15 => pure (x14 :: r15)) >>= on1 len1) >>= fun x16 => (pure (D.int 2)) >>= fun x17 => gtD x16 x17 >>= asB) >>= fun k18 => if k18 = true then pure true else ((((((pure parts_) >>= fun x9 => (pure (D.int 0)) >>= fun x10 => itemD x9 x10) >>= fun x11 => (pure []) >>= fun r12 => pure (x11 :: r12)) >>= onN 1 is_signed_text_m) >>= truB) >>= fun k13 => pure (!k13))) >>= fun k20 => if k20 = true then (((pure D.non) >>= fun x19 => pure (Fl.rt x19))) else (pure (Fl.nx ()))) fun s8 =>
    seqF (γ := Unit) (α := Unit) (((((pure parts_) >>= fun x22 => (pure []) >>= fun r23 => pure (x22 :: r23)) >>= on1 len1) >>= fun x24 => (pure (D.int 1)) >>= fun x25 => eqD x24 x25 >>= asB) >>= fun k35 => if k35 = true then ((((((((pure parts_) >>= fun x28 => (pure (D.int 0)) >>= fun x29 => itemD x28 x29) >>= fun x30 => (pure []) >>= fun r31 => pure (x30 :: r31)) >>= on1 intX) >>= fun x32 => ((pure (D.int 1)) >>= fun x26 => (pure []) >>= fun r27 => pure (x26 :: r27)) >>= fun r33 => pure (x32 :: r33)) >>= tupD) >>= fun x34 => pure (Fl.rt x34))) else (pure (Fl.nx ()))) fun s21 =>
    seqF (γ := Unit) (α := Unit) ((((((((pure parts_) >>= fun x43 => (pure (D.int 1)) >>= fun x44 => itemD x43 x44) >>= fun x45 => (pure []) >>= fun r46 => pure (x45 :: r46)) >>= onN 1 is_whole_text_m) >>= truB) >>= fun k47 => pure (!k47)) >>= fun k48 => if k48 = true then pure true else (((((pure parts_) >>= fun x37 => (pure (D.int 1)) >>= fun x38 => itemD x37 x38) >>= fun x39 => (pure []) >>= fun r40 => pure (x39 :: r40)) >>= on1 intX) >>= fun x41 => (pure (D.int 2)) >>= fun x42 => ltD x41 x42 >>= asB)) >>= fun k50 => if k50 = true then (((pure D.non) >>= fun x49 => pure (Fl.rt x49))) else (pure (Fl.nx ()))) fun s36 =>
    seqF (γ := Unit) (α := D) (((((((pure parts_) >>= fun x58 => (pure (D.int 0)) >>= fun x59 => itemD x58 x59) >>= fun x60 => (pure []) >>= fun r61 => pure (x60 :: r61)) >>= on1 intX) >>= fun x62 => (((((pure parts_) >>= fun x52 => (pure (D.int 1)) >>= fun x53 => itemD x52 x53) >>= fun x54 => (pure []) >>= fun r55 => pure (x54 :: r55)) >>= on1 intX) >>= fun x56 => (pure []) >>= fun r57 => pure (x56 :: r57)) >>= fun r63 => pure (x62 :: r63)) >>= tupD) >>= fun x64 => pure (Fl.nx x64)) fun found_ =>
    (((((((pure found_) >>= fun x69 => (pure (D.int 0)) >>= fun x70 => itemD x69 x70) >>= fun x71 => (((pure found_) >>= fun x65 => (pure (D.int 1)) >>= fun x66 => itemD x65 x66) >>= fun x67 => (pure []) >>= fun r68 => pure (x67 :: r68)) >>= fun r72 => pure (x71 :: r72)) >>= onN 2 common_part_m) >>= fun x73 => (pure (D.int 1)) >>= fun x74 => eqD x73 x74 >>= asB) >>= fun k75 => if k75 = true then (pure found_) else (pure D.non)) >>= fun x76 => pure (Fl.rt x76))
def word_frac_d : List D → M (Fl Unit Unit)
  | [text_] => word_frac_b text_
  | _ => no
def word_frac_m (ds : List D) : M D := bodyM (word_frac_d ds)

/-- _law_integer_of -/
def law_integer_of_b (word_ : D) : M (Fl Unit Unit) :=
    seqF (γ := Unit) (α := Unit) ((((pure word_) >>= fun x17 => (pure (D.str "")) >>= fun x18 => eqD x17 x18 >>= asB) >>= fun k19 => if k19 = true then pure true else ((((((((pure word_) >>= signD) >>= lcL (lcT (β := D) (fun d => pure d) (fun sign_ => (pure true)) (fun sign_ => ((pure sign_) >>= fun x11 => (pure (D.str "0123456789")) >>= fun x12 => ninsD x11 x12)))) >>= fun ds13 => pure (D.lst ds13)) >>= fun x14 => (pure []) >>= fun r15 => pure (x14 :: r15)) >>= on1 any1) >>= truB) >>= fun k16 => if k16 = true then pure true else (((((pure word_) >>= fun x6 => (pure []) >>= fun r7 => pure (x6 :: r7)) >>= on1 len1) >>= fun x8 => (pure (D.int 1)) >>= fun x9 => gtD x8 x9 >>= asB) >>= fun k10 => if k10 = true then (((pure word_) >>= fun x2 => (pure (D.int 0)) >>= fun x3 => itemD x2 x3) >>= fun x4 => (pure (D.str "0")) >>= fun x5 => eqD x4 x5 >>= asB) else pure false))) >>= fun k21 => if k21 = true then (((pure D.non) >>= fun x20 => pure (Fl.rt x20))) else (pure (Fl.nx ()))) fun s1 =>
    ((((pure word_) >>= fun x22 => (pure []) >>= fun r23 => pure (x22 :: r23)) >>= on1 intX) >>= fun x24 => pure (Fl.rt x24))
def law_integer_of_d : List D → M (Fl Unit Unit)
  | [word_] => law_integer_of_b word_
  | _ => no
def law_integer_of_m (ds : List D) : M D := bodyM (law_integer_of_d ds)

/-- _law_fraction_of -/
def law_fraction_of_b (word_ : D) : M (Fl Unit Unit) :=
    seqF (γ := Unit) (α := D) ((((pure word_) >>= fun x2 => (pure none) >>= fun l5 => ((pure (D.int 1)) >>= fun x3 => asI x3 >>= fun i4 => pure (some i4)) >>= fun h6 => sliceD x2 l5 h6) >>= fun x7 => (pure (D.str "-")) >>= fun x8 => eqD x7 x8) >>= fun x9 => pure (Fl.nx x9)) fun is_below_ =>
    seqF (γ := Unit) (α := D) (((((pure is_below_) >>= truB) >>= fun k16 => if k16 = true then ((pure word_) >>= fun x11 => ((pure (D.int 1)) >>= fun x12 => asI x12 >>= fun i13 => pure (some i13)) >>= fun l14 => (pure none) >>= fun h15 => sliceD x11 l14 h15) else (pure word_)) >>= fun x19 => strD x19 >>= fun z20 => ((pure (D.str "/")) >>= fun x17 => (pure []) >>= fun r18 => pure (x17 :: r18)) >>= fun ys21 => splitS z20 ys21) >>= fun x22 => pure (Fl.nx x22)) fun parts_ =>
    seqF (γ := Unit) (α := List D) ((((pure parts_) >>= rowD) >>= lcL (lcT (β := D) (fun d => pure d) (fun part_ => (pure true)) (fun part_ => (((pure part_) >>= fun x24 => (pure []) >>= fun r25 => pure (x24 :: r25)) >>= onN 1 law_integer_of_m)))) >>= fun ds26 => pure (Fl.nx ds26)) fun numbers_ =>
    seqF (γ := Unit) (α := Unit) ((((((pure parts_) >>= fun x32 => (pure []) >>= fun r33 => pure (x32 :: r33)) >>= on1 len1) >>= fun x34 => (pure (D.int 2)) >>= fun x35 => gtD x34 x35 >>= asB) >>= fun k36 => if k36 = true then pure true else (((inD D.non (D.lst numbers_)) >>= asB) >>= fun k31 => if k31 = true then pure true else (((pure is_below_) >>= truB) >>= fun k30 => if k30 = true then ((itemD (D.lst numbers_) (D.int 0)) >>= fun x28 => (pure (D.int 0)) >>= fun x29 => eqD x28 x29 >>= asB) else pure false))) >>= fun k38 => if k38 = true then (((pure D.non) >>= fun x37 => pure (Fl.rt x37))) else (pure (Fl.nx ()))) fun s27 =>
    seqF (γ := Unit) (α := List D) (((((pure parts_) >>= fun x40 => (pure []) >>= fun r41 => pure (x40 :: r41)) >>= on1 len1) >>= fun x42 => (pure (D.int 1)) >>= fun x43 => eqD x42 x43 >>= asB) >>= fun k58 => if k58 = true then (seqF (γ := Unit) (α := List D) ((pure (D.int 1)) >>= fun x45 => snoc numbers_ x45 >>= fun numbers_ => pure (Fl.nx numbers_)) fun numbers_ =>
        pure (Fl.nx numbers_)) else (seqF (γ := Unit) (α := Unit) ((((itemD (D.lst numbers_) (D.int 1)) >>= fun x53 => (pure (D.int 2)) >>= fun x54 => ltD x53 x54 >>= asB) >>= fun k55 => if k55 = true then pure true else ((((itemD (D.lst numbers_) (D.int 0)) >>= fun x49 => ((itemD (D.lst numbers_) (D.int 1)) >>= fun x47 => (pure []) >>= fun r48 => pure (x47 :: r48)) >>= fun r50 => pure (x49 :: r50)) >>= onN 2 law_low_m) >>= fun x51 => (pure (D.tup numbers_)) >>= fun x52 => neD x51 x52 >>= asB)) >>= fun k57 => if k57 = true then (((pure D.non) >>= fun x56 => pure (Fl.rt x56))) else (pure (Fl.nx ()))) fun s46 =>
        pure (Fl.nx numbers_))) fun s39 =>
    ((((((pure is_below_) >>= truB) >>= fun k63 => if k63 = true then ((pure (D.int 0)) >>= fun x61 => (itemD (D.lst s39) (D.int 0)) >>= fun x62 => subD x61 x62) else (itemD (D.lst s39) (D.int 0))) >>= fun x64 => ((itemD (D.lst s39) (D.int 1)) >>= fun x59 => (pure []) >>= fun r60 => pure (x59 :: r60)) >>= fun r65 => pure (x64 :: r65)) >>= tupD) >>= fun x66 => pure (Fl.rt x66))
def law_fraction_of_d : List D → M (Fl Unit Unit)
  | [word_] => law_fraction_of_b word_
  | _ => no
def law_fraction_of_m (ds : List D) : M D := bodyM (law_fraction_of_d ds)
end VLib2

set_option maxHeartbeats 2000000
/-! VLRep1: text.replace(c, d, 1), written texts, within a list display. -/
namespace PySem
open Builtin Builtin.Str
/-- the first one replaced -/
def Txt.replace1 (x y z : Str) : Str := if ((occurrences x y 0 x.length 1).isEmpty || (y.length == 0 && z.length == 0)) = true then x else glued z (partsBetween x (occurrences x y 0 x.length 1) y.length)
theorem gives_rep1 (x y z : Str) (t u v k : Tok)
    (hf : ((occurrences x y 0 x.length 1).isEmpty || (y.length == 0 && z.length == 0)) = false →
      (u == 0 || v == 0) = false ∧ (u == v) = false ∧ (y == z) = false ∧ tooLong (x.length + (occurrences x y 0 x.length 1).length * z.length) = false) :
    Gives («str.replace» ⟨[.str x t, .str y u, .str z v, .int 1 k], []⟩) (if ((occurrences x y 0 x.length 1).isEmpty || (y.length == 0 && z.length == 0)) = true then .val (.str x t) else .str (glued z (partsBetween x (occurrences x y 0 x.length 1) y.length))) := by
  show Gives (if ((occurrences x y 0 x.length 1).isEmpty || (y.length == 0 && z.length == 0)) = true then (do rule "str.replace.nothing"; ret (.str x t)) else
          (do let same ← isSame (.str y u) (.str z v)
              if same = true then (do rule "str.replace.old-is-new"; ret (.str x t)) else
              if tooLong (x.length + (occurrences x y 0 x.length 1).length * z.length) = true then unsupported "str.replace:memory" else
              retStr (glued z (partsBetween x (occurrences x y 0 x.length 1) y.length)))) _
  cases hc : ((occurrences x y 0 x.length 1).isEmpty || (y.length == 0 && z.length == 0))
  · obtain ⟨h0, huv, hyz, hl⟩ := hf hc
    rw [isSame_str_other y z u v h0 huv hyz, hl]
    exact .of_eq rfl
  · exact .rule (.of_eq rfl)
theorem rep1_len (x y z : Str) : (glued z (partsBetween x (occurrences x y 0 x.length 1) y.length)).length ≤ x.length + z.length := by
  have h1 := StrLaws.occ_length_le x y 0 x.length 1
  have hy : (glued y (partsBetween x (occurrences x y 0 x.length 1) y.length)).length = x.length := by rw [StrLaws.glued_between_self]
  rw [size_glued, length_partsBetween, Nat.add_sub_cancel] at hy
  rw [size_glued, length_partsBetween, Nat.add_sub_cancel]
  have h2 : (occurrences x y 0 x.length 1).length * z.length ≤ 1 * z.length := Nat.mul_le_mul_right _ h1
  omega
theorem Txt.replace1_len (x y z : Str) : (Txt.replace1 x y z).length ≤ x.length + z.length := by
  unfold Txt.replace1
  split
  · omega
  · exact rep1_len x y z
theorem SC.replace1 {prog : Program} {w : World} {A : Around} {E : Value → Shared → Prop} {s : Shared} {x y z : Str} {t u v k : Tok} {Q : Value → Shared → Prop} (hu : u ≠ 0) (hv : v ≠ 0) (huv : u ≠ v) (hyz : (y == z) = false) (hb : x.length + z.length ≤ 16777216)
    (hq : ∀ t' k', Q (.str (Txt.replace1 x y z) t') { s with toks := k' }) : wpAny (model prog w) A (call (.builtin "str.replace") [.str x t, .str y u, .str z v, .int 1 k]) Q E s := by
  have hl : tooLong (x.length + (occurrences x y 0 x.length 1).length * z.length) = false := by
    have h1 := StrLaws.occ_length_le x y 0 x.length 1
    have h2 : (occurrences x y 0 x.length 1).length * z.length ≤ 1 * z.length := Nat.mul_le_mul_right _ h1
    have e := sizeLine_eq
    unfold tooLong
    exact decide_eq_false (by omega)
  refine call_gives F.slot_str_replace (typeIs_str _ _ _) F.entry_str_replace (F.args_str_replace_4 _ _ _ _)
    (gives_rep1 x y z t u v k fun _ => ⟨by simp [hu, hv], by simp [huv], hyz, hl⟩) ?_
  have hq' := hq
  unfold Txt.replace1 at hq'
  cases hc : ((occurrences x y 0 x.length 1).isEmpty || (y.length == 0 && z.length == 0))
  · rw [hc] at hq'
    simp only [Bool.false_eq_true, if_false] at hq' ⊢
    exact ⟨Nat.le_trans (rep1_len x y z) (by have e := sizeLine_eq; omega), hq' _ _⟩
  · rw [hc] at hq'
    simp only [if_true] at hq' ⊢
    exact hq' t s.toks
end PySem
namespace VL
open PySem PySem.Spec PyProof.Rows L2
def tRep1 (to : TE) (y z : Str) : TE := fun σ H Q => to σ H fun v H1 => ∃ x, v = .str x ∧ x.length + z.length ≤ 16777216 ∧ Q (.str (Txt.replace1 x y z)) H1
section
variable {X : Cx} {T : List (Addr × Str)} {W : WX} {B : Hp} {ρ : List SL} {o e : Expr} {es : List Expr} {to : TE} {y z : Str} {j k l : Nat} {c0 c1 c2 apos pos : Pos} {m mo : M D} {ms : M (List D)}
theorem pet_rep1 (ho : PE X o to) (hyz : (y == z) = false := by decide)
    (hst : starEach [.Constant (.str y) j c0, .Constant (.str z) k c1, .Constant (.int 1) l c2] X.env = [(false, eval (.Constant (.str y) j c0) X.env), (false, eval (.Constant (.str z) k c1) X.env), (false, eval (.Constant (.int 1) l c2) X.env)] := by rfl)
    (hbase : attributeBase o "replace" X.env (eval o X.env) = eval o X.env := by rfl) (hline : (apos.endLine == pos.line) = true := by rfl) :
    PET X (.Call (.Attribute o "replace" apos) [.Constant (.str y) j c0, .Constant (.str z) k c1, .Constant (.int 1) l c2] [] pos) (tRep1 to y z) := by
  intro pins s σ H Q h0 I h
  refine wpAny_Call_method_lateS hbase (by rw [hst]; rfl) hline ?_
  rw [hst]
  refine wpAny_mono (PySem.wpAny_toks (ho.run pins s σ H _ I h)) (fun v s1 q => ?_) fun _ _ z => z.2
  obtain ⟨hk, v', H1, I1, r1, x, e1, hb, q⟩ := q
  subst e1
  obtain ⟨tx, e2⟩ := r1
  subst e2
  refine ⟨"str", _, PySem.F.plainAttrs_str, PySem.F.slot_str_replace, PySem.F.type_str_replace, typeIs_str _ _ _, (fun _ e => nomatch e), Calls.callWith_builtin rfl (Calls.evalArgs_plain (Calls.spliced_cons ?_))⟩
  show wpAny (model X.prog X.w) X.A (eval (.Constant (.str y) j c0) X.env) _ X.xe s1
  refine Calls.Constant_str ?_
  refine Calls.spliced_cons ?_
  show wpAny (model X.prog X.w) X.A (eval (.Constant (.str z) k c1) X.env) _ X.xe _
  refine Calls.Constant_str ?_
  refine Calls.spliced_cons ?_
  show wpAny (model X.prog X.w) X.A (eval (.Constant (.int 1) l c2) X.env) _ X.xe _
  refine wpAny_Constant_int ?_
  refine Calls.spliced_nil ?_
  exact PySem.SC.replace1 (by show s1.toks ≠ 0; omega) (by show s1.toks + 1 ≠ 0; omega) (by show s1.toks ≠ s1.toks + 1; omega) hyz hb fun t' k' => ⟨.str (Txt.replace1 x y z), H1, I1.tok k', ⟨t', rfl⟩, q⟩
/-- the first one replaced -/
def rep1D (c e : Str) : D → M D
  | .str x => if x.length + e.length ≤ lim then pure (.str (Txt.replace1 x c e)) else no
  | _ => no
structure VAT (X : Cx) (T : List (Addr × Str)) (W : WX) (B : Hp) (ρ : List SL) (es : List Expr) (m : M (List D)) : Prop where
  t : ∃ t, PAT X es t ∧ Snd (RepL X.K) X.K X.mg T W B ρ t m
theorem vet_rep1 (ho : VE X T W B ρ o mo) (hyz : (y == z) = false := by decide)
    (hst : starEach [.Constant (.str y) j c0, .Constant (.str z) k c1, .Constant (.int 1) l c2] X.env = [(false, eval (.Constant (.str y) j c0) X.env), (false, eval (.Constant (.str z) k c1) X.env), (false, eval (.Constant (.int 1) l c2) X.env)] := by rfl)
    (hbase : attributeBase o "replace" X.env (eval o X.env) = eval o X.env := by rfl) (hline : (apos.endLine == pos.line) = true := by rfl) :
    VET X T W B ρ (.Call (.Attribute o "replace" apos) [.Constant (.str y) j c0, .Constant (.str z) k c1, .Constant (.int 1) l c2] [] pos) (mo >>= rep1D y z) :=
  let ⟨_, po, so⟩ := ho.t
  ⟨_, pet_rep1 po hyz hst hbase hline, fun σ F H as S Q st sl p => so σ F H as S _ st sl (p.bind fun d v S1 F1 H1 as1 _ x1 st1 r1 p1 => by
    cases d with
    | str x =>
      cases r1
      by_cases c : x.length + z.length ≤ lim
      · rw [show rep1D y z (.str x) = _ from if_pos c] at p1
        exact ⟨x, rfl, by have := c; unfold lim at this; omega, pu_ok st1 (.str _) p1⟩
      · rw [show rep1D y z (.str x) = _ from if_neg c] at p1
        exact False.elim p1
    | _ => exact False.elim p1)⟩
theorem VET.of (h : VE X T W B ρ e m) : VET X T W B ρ e m := let ⟨_, p, s⟩ := h.t; ⟨_, CwR.PET.of p, s⟩
theorem vat_nil : VAT X T W B ρ [] (pure []) := ⟨_, pat_nil, fun σ F H as S Q st sl p => p [] F H as Ext.refl st .nil⟩
theorem vat_cons (he : VET X T W B ρ e m) (hr : VAT X T W B ρ es ms) (hs : starEach (e :: es) X.env = (false, eval e X.env) :: starEach es X.env := by rfl) : VAT X T W B ρ (e :: es) (m >>= fun d => ms >>= fun ds => pure (d :: ds)) :=
  let ⟨te, pe, se⟩ := he.t; let ⟨tr, pr, sr⟩ := hr.t
  ⟨_, pat_cons pe pr hs, fun σ F H as S Q st sl p => se σ F H as S _ st sl (p.bind fun d1 v1 S1 F1 H1 as1 _ e1 st1 r1 p1 =>
    sr σ F1 H1 as1 S1 _ st1 (sl.ext e1) (p1.bind fun d2 v2 S2 F2 H2 as2 _ e2 st2 r2 p2 => p2 _ F2 H2 as2 Ext.refl st2 (.cons (e2.rep r1) r2)))⟩
theorem vet_lst (h : VAT X T W B ρ es ms) : VET X T W B ρ (.List es pos) (ms >>= lstD) :=
  let ⟨t, pa, s⟩ := h.t
  ⟨_, pet_lst pa, fun σ F H as S Q st sl p => s σ F H as S _ st sl (p.bind fun ds vs S1 F1 H1 as1 _ e1 st1 r1 p1 => by
    unfold lstD at p1
    by_cases c : ds.length ≤ lim
    · rw [if_pos c] at p1
      exact ⟨by rw [Reps.length r1]; exact lim_line c, fun q hq => new_lst st1 hq r1 p1⟩
    · rw [if_neg c] at p1
      exact False.elim p1)⟩
end
end VL
namespace VL
open PySem PySem.Spec PyProof.Rows L2
section
variable {X : Cx} {T : List (Addr × Str)} {W : WX} {B : Hp} {ρ : List SL} {i a b : Int} {j k l m : Nat} {c0 c1 c2 c3 pos : Pos}
/-- {i: (a, b)} -/
theorem ve_dict1 : VE X T W B ρ (.Dict [some (.Constant (.int i) j c0)] [.Tuple [.Constant (.int a) k c1, .Constant (.int b) l c2] m c3] pos) (pure .emp) :=
  ⟨_, pe_disp (pps_cons pe_int (pe_tup (pa_cons pe_int (pa_cons pe_int pa_nil (by rfl)) (by rfl))) pps_nil) rfl rfl (by simp) (by simp), fun σ F H as S Q st sl p => fun d hd => ⟨by show 2 ≤ sizeLine; decide, fun q hq => by
    have hqd : q ≠ d := fun e => by rw [e, upd_same] at hq; cases hq
    have hq0 : H q = none := by rw [upd_ne hqd] at hq; exact hq
    refine ⟨by rw [upd_ne (Ne.symm hqd), upd_same], [(Sum.inl i, .ref q)], rfl, (show 1 ≤ 15 by decide), ?_⟩
    have e : upd (upd (upd H d (.dK [])) q (.tup [.int a, .int b])) d (.dK (mergeK [] [(Sum.inl i, V.ref q)])) = upd (upd H q (.tup [.int a, .int b])) d (.dK (mergeK [] [(Sum.inl i, V.ref q)])) := by
      funext z
      by_cases z1 : z = d
      · subst z1; rw [upd_same, upd_same]
      · rw [upd_ne z1, upd_ne z1]
        by_cases z2 : z = q
        · subst z2; rw [upd_same, upd_same]
        · rw [upd_ne z2, upd_ne z2, upd_ne z1]
    rw [e]
    have x1 := Ext.new (o := .tup [.int a, .int b]) hq0 st
    have st1 := st.new (o := .tup [.int a, .int b]) hq0 (fun _ => by simp)
    exact new_ok (mg := X.mg) (E := fun cls dd H' => W cls dd σ H') (d := .emp) st1 (by rw [upd_ne (Ne.symm hqd)]; exact hd) (fun _ => (by simp)) (.emp upd_same) (fun v F' H' as' x st' r => p v F' H' as' (x1.trans x) st' r)⟩⟩
end
end VL
namespace VL
open PySem PySem.Spec PyProof.Rows L2
section
variable {γ α : Type} {X : Cx} {T : List (Addr × Str)} {W : WX} {B : Hp} {ρ : List SL} {embL : γ → List SL} {emb : α → List SL} {sts : List Stmt}
theorem freeze_rd {ds : List D} {mm : M (Fl γ α)} (i : Nat) (hd : ρ[i]? = some (.ow ds)) : ∀ (D : Ends) (σ : L2.St) (H : Hp), rdS X.K X.mg T W B ρ embL emb mm D σ H → rdS X.K X.mg T W B (ρ.set i (.fz (.lst ds))) embL emb mm D σ H := fun D σ H ⟨F0, as0, F, as, S, x0, stt, sl, p⟩ => by
    obtain ⟨q, vs, h1, h2, h3, h4, h5, h6⟩ := sl.getOw hd
    have hi : i < ρ.length := (List.getElem?_eq_some_iff.mp hd).1
    have up : ∀ a o, F a = some o → upd F q (.lst vs) a = some o := fun a o h => by rw [upd_ne (ne_of_none h h3)]; exact h
    refine ⟨F0, as0, upd F q (.lst vs), as, S, ⟨fun a o h => up a o (x0.f a o h), x0.g, x0.k, fun a h => ?_, x0.an, x0.m⟩, ⟨fun a o h => ?_, fun a ps h => ?_, stt.tabs, stt.len, stt.nod, fun n a h => ?_⟩, ⟨by simp [sl.len], fun j s o a b => ?_, fun j k ds' es n a b oa ob => ?_⟩, p⟩
    · by_cases e : a = q
      · exact .inr (e ▸ h2)
      · rw [upd_ne e] at h; exact x0.fn a h
    · by_cases e : a = q
      · rw [e, upd_same] at h; rw [e, ← h]; exact h5
      · rw [upd_ne e] at h; exact stt.fz a o h
    · by_cases e : a = q
      · rw [e, upd_same] at h; cases h
      · rw [upd_ne e] at h; exact stt.nt a ps h
    · obtain ⟨g1, us, es, g2, g3, g4⟩ := stt.cel n a h
      have e : a ≠ q := fun e => h4 (e ▸ List.mem_of_getElem? h)
      exact ⟨by rw [upd_ne e]; exact g1, us, es, g2, g3, g4.mono up fun _ _ z => z⟩
    · by_cases e : i = j
      · subst e
        rw [List.getElem?_set_self hi] at a
        cases a
        rw [h1] at b
        cases b
        exact ⟨_, rfl, .lst upd_same (h6.mono up fun _ _ z => z)⟩
      · rw [List.getElem?_set_ne e] at a
        have g := sl.ok j s o a b
        cases s with
        | no => trivial
        | fz d => obtain ⟨v, g1, g2⟩ := g; exact ⟨v, g1, g2.mono up fun _ _ z => z⟩
        | ow es =>
          obtain ⟨q', us, g1, g2, g3, g4, g5, g6⟩ := g
          have e2 : q' ≠ q := fun e2 => sl.dis i j _ _ e hd a rfl rfl (by rw [h1, b, g1, e2])
          exact ⟨q', us, g1, g2, by rw [upd_ne e2]; exact g3, g4, g5, g6.mono up fun _ _ z => z⟩
        | od t =>
          obtain ⟨q', us, g1, g2, g3, g4, g5, g6⟩ := g
          have e2 : q' ≠ q := fun e2 => sl.dis i j _ _ e hd a rfl rfl (by rw [h1, b, g1, e2])
          exact ⟨q', us, g1, g2, by rw [upd_ne e2]; exact g3, g4, g5, t.mono up (fun _ _ z => z) g6⟩
    · have nj : i ≠ j := fun e => by subst e; rw [List.getElem?_set_self hi] at a; cases a; cases oa
      have nk : i ≠ k := fun e => by subst e; rw [List.getElem?_set_self hi] at b; cases b; cases ob
      rw [List.getElem?_set_ne nj] at a
      rw [List.getElem?_set_ne nk] at b
      exact sl.dis j k ds' es n a b oa ob
theorem vbt_freeze {ds : List D} {mm : M (Fl γ α)} (i : Nat) (hd : ρ[i]? = some (.ow ds)) (h : VBT X T W B (ρ.set i (.fz (.lst ds))) sts embL emb mm) : VBT X T W B ρ sts embL emb mm :=
  ⟨fun pins s σ H D h0 I q => h.p pins s σ H D h0 I (freeze_rd i hd D σ H q)⟩
end
end VL

set_option maxHeartbeats 2000000
/-! VLExc: raise X(e), X an own class that keeps e in a field. -/
namespace VL
open PySem PySem.Spec PyProof.Rows L2
/-- def __init__(self, f): self.f = f -/
def spIni (K : PySem.W.Frag) (C : Addr) (f : Str) : Sp := fun vs H Q _ => ∃ (a : Addr) (v : V), vs = [.ref a, v] ∧ H a = some (exo a C none) ∧ ∀ dx, H dx = none → dx ≠ a → Q .non (upd (upd H dx (exd dx [(f, v)])) a (exo a C (some dx)))
/-- what the written part says of the class X at C whose __init__ keeps its one argument as f -/
structure XFld (P : Program) (w : World) (K : PySem.W.Frag) (mg : Str → Option Value) (base : Heap) (C : Addr) (f : Str) : Prop where
  o : OexC K C
  ini : ∃ (fI : Addr) (fd : FuncData) (ps : List Str), PySem.W.findIn K (.ref C) "__init__" = some (some (.ref fI)) ∧ PySem.W.typeIn K (.ref fI) = some (.type "function") ∧ FnOk P w K mg base CX0 1 fI fd ps (spIni K C f) ∧ Binds K fd ps []
section
variable {γ α : Type} {X : Cx} {T : List (Addr × Str)} {W : WX} {B : Hp} {ρ : List SL} {embL : γ → List SL} {emb : α → List SL} {e : Expr} {m : M D} {pos : Pos}
theorem vs_raise1 {C : Addr} {x f : Str} {p p2 : Pos} {k : Nat} (q : XFld X.prog X.w X.K X.mg X.base C f) (gC : X.mg x = some (.ref C)) (hr : Room (k + 2) X.A) (tk : Takes X W) (hc : X.calm = true) (he : VE X T W B ρ e m) (hg : Gl X x := by rfl) (hdb : (x == ("__debug__" : Str)) = false := by decide)
    (hs : starEach (e :: []) X.env = (false, eval e X.env) :: starEach [] X.env := by rfl) (hpl : (backTo pos (starEach [] X.env)).any (·.1) = false := by rfl) :
    VS X T W B ρ (.Raise (some (.Call (.Name x p) [e] [] pos)) none p2) embL emb (m >>= fun d => err ⟨x, [(f, d)]⟩) := by
  obtain ⟨fI, fd, ps, i1, i2, F, hb⟩ := q.ini
  refine ⟨(ps_raise hc tk (pmk_oex q.o i1 i2 F (hr.mono (by omega)) hb .nil (fun _ _ _ _ _ _ _ z => z.elim) hg gC (va_cons he va_nil hs).pa hdb hs hpl)).imp fun D σ H ⟨F0, as0, F, as, S, x0, st, sl, pp⟩ => ⟨F, as, S, st, sl, ?_⟩⟩
  cases em : m S with
  | er y S1 =>
    rw [bind_er em] at pp
    have e2 : (m >>= fun d => pure [] >>= fun ds => pure (d :: ds)) S = .er y S1 := bind_er em
    rw [e2]
    exact fun cls dd F' H' as' x st r => pp cls dd σ F' H' as' (x0.trans x) st r
  | no =>
    rw [bind_no em] at pp
    exact False.elim pp
  | ok d S1 =>
    rw [bind_ok em] at pp
    have e2 : (m >>= fun d => pure [] >>= fun ds => pure (d :: ds)) S = .ok [d] S1 := bind_ok em
    rw [e2]
    intro vs F1 H1 as1 x1 st1 rv
    obtain ⟨v, rfl, r1⟩ := reps1 rv
    refine ⟨by simp, fun a ha => ⟨a, v, rfl, upd_same, fun dx hdx hne => ⟨rfl, dx, [(f, v)], upd_same, ?_, ?_, ?_⟩⟩⟩
    · rw [upd_ne hne, upd_same]
    · rw [upd_ne hne] at hdx
      exact hdx
    · have hd1 : H1 dx = none := by
        rw [upd_ne hne] at hdx
        exact hdx
      have eH : upd (del (upd (upd (upd H1 a (exo a C none)) dx (exd dx [(f, v)])) a (exo a C (some dx))) a) dx (.xd [(f, v)]) = upd H1 dx (.xd [(f, v)]) := by
        funext b
        by_cases h1 : b = dx
        · subst h1
          rw [upd_same, upd_same]
        · rw [upd_ne h1, upd_ne h1]
          by_cases h2 : b = a
          · subst h2
            rw [del_same, ha]
          · rw [del_ne h2, upd_ne h2, upd_ne h1, upd_ne h2]
      rw [eH]
      have e1 := Ext.new (o := .xd [(f, v)]) hd1 st1
      exact pp (.ref C) (some dx) σ _ _ as1 (x0.trans (x1.trans e1)) (st1.new hd1 (fun _ => by simp)) ⟨gC, (fun z => by cases z), fun _ => ⟨dx, [v], rfl, upd_same, rfl, .cons (e1.rep r1) .nil⟩⟩
end
end VL

set_option maxHeartbeats 2000000
/-! VLExc2: such a class by decidable facts. -/
namespace VL
open PySem PySem.Spec PyProof.Rows L2
def oexB (K : PySem.W.Frag) (C : Addr) : Bool := match K.lookup C with
  | some ⟨.type "type", _, .cls cd, sl⟩ => (match cd.mro, sl.toList with
    | .ref C' :: bm, [_, _, _, _, some (.builtin n), _] => C' == C && (n == "ValueError.__new__" && (!cd.hasDel && (cd.hasDict && PySem.HandSPX.refsVE bm)))
    | _, _ => false)
  | _ => false
theorem oexB_ok {K : PySem.W.Frag} {C : Addr} (q : oexB K C = true) : ∃ nm q N bs bm sn sub ab col dd k0 k1 k2 k3 k5, K.lookup C = some (excClassObj nm q C N bs bm true sn sub ab col dd k0 k1 k2 k3 k5 "ValueError.__new__") ∧ PySem.HandSPX.refsVE bm = true := by
  unfold oexB at q
  split at q
  · rename_i dd cd sl ho
    split at q
    · rename_i C' bm k0 k1 k2 k3 n k5 hm hs
      simp only [Bool.and_eq_true, beq_iff_eq, Bool.not_eq_true'] at q
      obtain ⟨rfl, rfl, hdel, hdict, hr⟩ := q
      obtain ⟨nm, bs, mro, ns, qn, hd, sn, sub, ab, col, del⟩ := cd
      dsimp only at hm hdel hdict
      subst hm hdel hdict
      obtain ⟨l⟩ := sl
      simp only at hs
      subst hs
      exact ⟨nm, qn, ns, bs, bm, sn, sub, ab, col, dd, k0, k1, k2, k3, k5, ho, hr⟩
    · cases q
  · cases q
/-- all that is asked of the class at C, its field f -/
def xfldB (x f : Str) (K : PySem.W.Frag) : Bool :=
  oexB K (He.ga K x) && (He.eqO (PySem.W.findIn K (.ref (He.ga K x)) "__setattr__") (some (some (.builtin "object.__setattr__"))) && (decide (PySem.W.subIn K (.ref (He.ga K x)) (.type "BaseException") = some true) && (decide (PySem.W.typeIn K (.ref (He.ga K x)) = some (.type "type")) && (PySem.W.keepIn K (.ref (He.ga K x)) &&
  (He.eqO (PySem.W.findIn K (.ref (He.ga K x)) "__init__") (some (some (.ref (He.ma K (He.ga K x) "__init__")))) && (decide (PySem.W.typeIn K (.ref (He.ma K (He.ga K x) "__init__")) = some (.type "function")) && (He.eqO (PySem.W.findIn K (.ref (He.ga K x)) f) (some none) && xfB K (He.ga K x))))))))
structure XFacts (x f : Str) (K : PySem.W.Frag) : Prop where
  o : OexC K (He.ga K x)
  ini : PySem.W.findIn K (.ref (He.ga K x)) "__init__" = some (some (.ref (He.ma K (He.ga K x) "__init__")))
  fn : PySem.W.typeIn K (.ref (He.ma K (He.ga K x) "__init__")) = some (.type "function")
  fld : PySem.W.findIn K (.ref (He.ga K x)) f = some none
  xf : XfC K (He.ga K x)
theorem xfldB_ok {x f : Str} {K : PySem.W.Frag} (h : xfldB x f K = true) : XFacts x f K := by
  obtain ⟨h1, h⟩ := He.ba h
  obtain ⟨h2, h⟩ := He.ba h
  obtain ⟨h3, h⟩ := He.ba h
  obtain ⟨h4, h⟩ := He.ba h
  obtain ⟨h5, h⟩ := He.ba h
  obtain ⟨h6, h⟩ := He.ba h
  obtain ⟨h7, h⟩ := He.ba h
  obtain ⟨h8, h9⟩ := He.ba h
  exact ⟨⟨oexB_ok h1, He.eqO_ok h2, of_decide_eq_true h3, of_decide_eq_true h4, h5⟩, He.eqO_ok h6, of_decide_eq_true h7, He.eqO_ok h8, xfB_ok h9⟩
/-- the class's own __init__: def __init__(self, f): self.f = f -/
theorem xfld_of {P : Program} {w : World} {K : PySem.W.Frag} {mg : Str → Option Value} {base : Heap} {x f qual : Str} {params : Arguments} {scope : Scope} {fd : FuncData} {p1 p2 p3 p4 : Pos} (X : XFacts x f K)
    (F : FunD K "__init__" qual params [.Assign [.Attribute (.Name "self" p1) f p2] (.Name f p3) p4] scope [] [] (He.ma K (He.ga K x) "__init__") fd) (S : FnScope ["self", f] ["self", f] scope)
    (hb : ∀ (kV doc pm : Value) (an : Option Addr) (cdv ct : Value) (us : List Value), us.length = 2 → bindArgs (PySem.W.fnOf "__init__" qual params [.Assign [.Attribute (.Name "self" p1) f p2] (.Name f p3) p4] scope .none kV doc pm an cdv ct) ⟨us, []⟩ = pure ((["self", f] : List Str).zip us))
    (v0 : Vis scope "self") (v1 : Vis scope f) (d1 : (f == ("__debug__" : Str)) = false) (d2 : (f == ("__classdict__" : Str)) = false)
    (hs : ∀ X : Cx, swapsWith (.Name f p3) (some (.Attribute (.Name "self" p1) f p2)) p4.line X.env = pure false) : XFld P w K mg base (He.ga K x) f := by
  refine ⟨X.o, _, fd, ["self", f], X.ini, X.fn, ?_, F.bindsN hb⟩
  refine F.ok S (fun vs H Q E h => ?_) (fun cdv A outer s H vs Q E hr h => ?_)
  · obtain ⟨a, v, rfl, _⟩ := h
    rfl
  · refine ⟨_, PSs.nox (pss_one (ps_ost (pe_var (i := 0) rfl v0 (by decide) (by decide)) (pe_var (i := 1) rfl v1 d1 d2) (hs _))), ?_⟩
    obtain ⟨a, v, rfl, ha, hq⟩ := h
    exact ⟨v, rfl, .ref a, rfl, a, _, rfl, X.o, X.fld, .inl ⟨ha, fun dx h1 h2 => hq dx h1 h2⟩⟩
end VL

set_option maxHeartbeats 2000000
/-! VLExc3: isinstance of a caught error that has a field; its field told. -/
namespace VL
open PySem PySem.Spec PySem.Calls PyProof.Rows L2
section
open PySem.W
variable {prog : Program} {w : World} {A : Around} {E : Value → Shared → Prop} {s : Shared} {K : PySem.W.Frag} {x D : Addr} {ox : Obj} {od : Option Obj}
theorem findObj_dataO {C : Addr} {name : Str} {a g : Value} (hc : (clsIn K C).isSome = true) (ha : findIn K (.ref C) name = some (some a)) (hg : specialIn K a "__get__" = some (some g)) (ht : takesIn K a = some true) : findObj K C od name = some (.bind g a) := by
  obtain ⟨cd, hc⟩ := Option.isSome_iff_exists.mp hc
  unfold findObj
  rw [hc, Option.bind_some, ha, Option.bind_some]
  simp [hg, ht]
theorem kin_classO {Q : Option Value → Shared → Prop} (c : ExcC K D) (X : K.In s.heap) (I : InstAt s.heap x ox D od) (h : Q (some (.ref D)) { s with toks := s.toks + 1 }) : wpAny (model prog w) A (getAttr? (.ref x) "__class__") Q E s := by
  have hf : findObj K D od "__class__" = some (.bind (.builtin "getset_descriptor.__get__") (.builtin "object.__class__")) := findObj_dataO (by obtain ⟨cd, hc, _⟩ := any_some c.hd; rw [hc]; rfl) c.ha c.hn c.ht
  obtain ⟨hp, g, d, t, os⟩ := s
  have L0 := I.type (M := model prog w)
  have L1 := looks_findIn (M := model prog w) X c.hg
  have L2 := looks_findIn (M := model prog w) X c.hk
  have L3 := looks_find (M := model prog w) X I hf
  have sub : Looks (model prog w) hp (isInstance (.ref x) (.type "BaseException")) true := L0.andThen (looks_subIn X c.hs)
  have k0 : (false && onTheHeap (Value.builtin "BaseException.__getattribute__")) = false := rfl
  have k1 : (onTheHeap (Value.ref D) && Value.builtin "BaseException.__getattribute__" == Value.builtin "object.__getattribute__") = false := by
    rw [show (Value.builtin "BaseException.__getattribute__" == Value.builtin "object.__getattribute__") = false by decide +kernel]
    rfl
  unfold getAttr? getAttrBy? getAttrBy
  refine wpAny_bind (wpAny_mkText (wpAny_bind (wpAny_attempt (wpAny_holding (wpAny_bind (L0.at (wpAny_bind (L1.at ?_))))))))
  show wpAny _ _ (if (onTheHeap (Value.ref D) && Value.builtin "BaseException.__getattribute__" == Value.builtin "object.__getattribute__") = true then _ else _) _ _ _
  rw [k1, if_neg Bool.false_ne_true]
  unfold getAttrByItsOwn hookBefore
  refine wpAny_bind ?_
  rw [if_pos (show onTheHeap (Value.ref D) = true from rfl)]
  refine L2.at ?_
  refine wpAny_bind (wpAny_attempt (wpAny_holding ?_))
  unfold callGetattribute
  rw [k0, if_neg Bool.false_ne_true]
  unfold boundAndCalled
  rw [PySem.F.excAttr_ValueError.ga.bind (.ref x)]
  refine wpAny_bind (wpAny_pure ?_)
  show wpAny _ _ (call (.builtin "BaseException.__getattribute__") [.ref x, .str "__class__" t]) _ _ _
  refine wpAny_call (codeAny_call_builtin PySem.F.excAttr_ValueError.ga.plain PySem.F.entry_bexc_ga ?_)
  refine @check_slot (model prog w) _ _ ⟨hp, g, d, t + 1, os⟩ "BaseException.__getattribute__" "BaseException" "__getattribute__" (.ref x) [.str "__class__" t] [] _ (by decide +kernel) (by decide +kernel) sub (PySem.F.args_bexc_ga (.ref x) (.str "__class__" t)) ?_
  unfold Builtin.«object.__getattribute__»
  refine wpAny_bind (wpAny_of_eq (a := ((Value.ref x : Value), [Value.str "__class__" t])) (by first | rfl | (simp only [slotArgs]; rfl)) ?_)
  refine wpAny_bind (wpAny_pure (wpAny_bind (L0.at (wpAny_bind (L3.at ?_)))))
  show wpAny _ _ (holding [Value.builtin "object.__class__"] (call (.builtin "getset_descriptor.__get__") [.builtin "object.__class__", .ref x, .ref D]) >>= ret) _ _ _
  refine wpAny_bind (wpAny_holding (wpAny_call (class_get (s := ⟨hp, g, d, t + 1, os⟩) (ox := ox) (od := od) X I c.hm ?_)))
  refine wpAny_pure ?_
  show wpAny _ _ (handedOut (.ref D)) _ _ _
  rw [handedOut_of (v := .ref D) rfl]
  first
    | exact wpAny_pure (wpAny_pure h)
    | exact wpAny_pure h
    | exact wpAny_pure (wpAny_bind (wpAny_pure (wpAny_pure h)))
theorem kitx_excO (c : ExcC K D) : KitX K (.ref x) (.ref D) (fun h => InstAt h x ox D od) where
  ty := fun _ _ _ I => I.type
  it := fun _ _ X _ => by
    obtain ⟨cdD, hcD, _⟩ := any_some c.hd
    unfold clsIn at hcD
    split at hcD
    · rename_i c' d' cd' sl' ho
      intro A' Q' E' s' k q
      unfold isType loadHead
      exact wpAny_bind (wpAny_loadPart (k _ _ (X _ _ ho)) (wpAny_pure q))
    · cases hcD
  ne := fun h tp dd its n sl X htp => by
    obtain ⟨cdD, hcD, _⟩ := any_some c.hd
    refine Bool.eq_false_iff.mpr fun q => ?_
    have e : D = tp := Value.ref.inj (beq_iff_eq.mp q)
    subst e
    unfold clsIn at hcD
    split at hcD
    · rename_i c' d' cd' sl' ho
      have z := (X _ _ ho).symm.trans htp
      cases z
    · cases hcD
  ca := fun X I k => kin_classO c X I k
end
/-- isinstance(e, c), e the exception that the suite holds, with a dict -/
def rIsO (K : PySem.W.Frag) (D a dd : Addr) : List V → Hp → VK → Prop := fun xs H Q => ∃ (c : V) (cv : Value) (b : Bool) (fs : List (Str × V)), xs = [.ref a, c] ∧ (∀ u, RelV c u → u = cv) ∧ PySem.W.kitOne K (.ref D) cv = some b ∧ H dd = some (.xd fs) ∧ Q (.bl b) H
theorem call_isO {X : Cx} {a D dd : Addr} {oe : Obj} {pn : List (Addr × Obj)} (C : ExcC X.K D) (hz : Zc (.ref D) (some dd) oe) (hf : ∃ vs, oe.data = .fields vs) : CallR (X.suite a ((a, oe) :: pn)) (.builtin "isinstance") (rIsO X.K D a dd) := by
  intro pins s σ H xs us Q I r h
  obtain ⟨c, cv, b, fs, rfl, hcv, e, hdd, q⟩ := h
  cases r with
  | cons rx rr =>
    cases rr with
    | cons rt rr =>
      cases rr
      cases rx
      have ec := hcv _ rt
      subst ec
      obtain ⟨hget, _⟩ := I.pin (a, oe) (List.mem_append.mpr (.inl List.mem_cons_self))
      obtain ⟨vs, hv⟩ := hf
      have hx : ObjOk X.prog X.w H s.heap dd (.xd fs) := I.hok dd _ hdd
      obtain ⟨mA, hns, _⟩ := hx
      obtain ⟨od, ho, _⟩ := lookIn_ns hns
      have J : PySem.W.InstAt s.heap a oe D (some od) := ⟨hget, hz.1, by unfold PySem.W.notCls; rw [hv] <;> rfl, by rw [hz.2]; exact ho⟩
      exact PySem.W.kia_one (kitx_excO C) I.kIn J e (fun z => nomatch z) fun tk => ⟨.bl b, H, I.kept (t' := tk) fun _ _ z => z, rfl, q⟩
end VL

set_option maxHeartbeats 2000000
/-! VLPlace: a def that tells the field of the error that a lambda raises. -/
namespace VL
open PySem PySem.Spec PyProof.Rows L2
/-- try the thing: s0 behind it, the field f of an error of the class x -/
def placeM (x f s0 : Str) (m : M D) : M D := fun S => match m S with
  | .ok _ S' => .ok (.str s0) S'
  | .er y S' => if y.cls = x then (match y.fs.lookup f with
    | some d => .ok d S'
    | none => .no) else .no
  | .no => .no
def TTplc (C : Addr) (f s0 : Str) : (XK → Hp → VK → Prop) → Hp → VK → Prop := fun tl H Q =>
  tl (fun cls d H' => cls = .ref C ∧ ∃ (dd : Addr) (fs : List (Str × V)) (v : V), d = some dd ∧ H' dd = some (.xd fs) ∧ fs.lookup f = some v ∧ Q v H') H (fun _ H' => Q (.str s0) H')
/-- the facts of the class: CF the class of the clause, C the class that has the field -/
structure PlcOk (K : PySem.W.Frag) (mg : Str → Option Value) (CF C : Addr) (x f : Str) : Prop where
  g : mg x = some (.ref C)
  e : ExcC K C
  m : PySem.W.exmOne K (.ref C) (.ref CF) = some true
  t : PySem.W.kitOne K (.ref C) (.ref C) = some true
  xf : XfC K C
  no : PySem.W.findIn K (.ref C) f = some none
section
variable {X : Cx}
theorem plc_gives {Ng : List Str} {x a er ef en q f s0 s1 : Str} {sg : Scope} {g CF CN : Addr} {cdg : Value} {j j2 : Nat} {p1 p2 p3 p4 p5 p6 p7 p8 p9 pa pb pc pd pe pf pg ph pi : Pos} (ok : PlcOk X.K X.mg CF CN en f) (hef : X.mg ef = some (.ref CF)) (hisn : X.mg "isinstance" = none)
    (gef : sg.names.lookup ef = some .globalImplicit) (gen : sg.names.lookup en = some .globalImplicit) (gi : sg.names.lookup ("isinstance" : Str) = some .globalImplicit) (d1 : (ef == ("__debug__" : Str)) = false) (d2 : (en == ("__debug__" : Str)) = false) (d3 : (er == ("__debug__" : Str)) = false) (d4 : (er == ("__classdict__" : Str)) = false)
    (hN : Ng = [a, er]) (nd : Ng.Nodup) (ler : sg.names.lookup er = some .local) (h0 : ∀ f : Addr, L2.start Ng [V.ref f] = [some (V.ref f), none])
    (hb : ∀ env, attributeBase (.Name er pf) f env (eval (.Name er pf) env) = eval (.Name er pf) env) :
    LamX.GivesTo X Ng x sg g cdg [.Try [.Expr (.Call (.Name a p1) [] [] p2) p3] [.ExceptHandler (some (.Name ef p4)) (some er) [.Return (some (.IfExp (.Call (.Name "isinstance" p5) [.Name er p6, .Name en p7] [] p8) (.Attribute (.Name er pf) f pg) (.Constant (.str s1) j2 ph) pi)) p9] pa] [] [] pb, .Return (some (.Constant (.str s0) j pc)) pd] a q (TTplc CN f s0) := by
  subst hN
  intro fl c' s H Q tl act hc h
  have hgl : Gl (cxOf C8.CX0 X.prog X.w X.K X.mg X.base [a, er] x sg g cdg X.A X.stack s H C8.E0).nox ef := gef
  let XX := (cxOf C8.CX0 X.prog X.w X.K X.mg X.base [a, er] x sg g cdg X.A X.stack s H C8.E0).nox
  refine ⟨_, pss_cons (ps_try_as (X := XX) (i := 1) (c := .ref CF)
      (tb := fun W D σ H => ∃ Ech : XK, (∀ cls d σ' H', σ'.length = 2 → Ech cls d H' → W cls d σ' H') ∧ σ[0]? = some (some (.ref fl)) ∧ H c' = some (LamX.CodeO c' q) ∧ tl Ech H (fun _ H' => D.nx σ H'))
      (ts := fun av cls d D σ H => cls = .ref CN ∧ ∃ (dd : Addr) (fs : List (Str × V)) (v : V), d = some dd ∧ H dd = some (.xd fs) ∧ fs.lookup f = some v ∧ σ[1]? = some (some (.ref av)) ∧ D.rt v H)
      rfl rfl nd rfl ler ⟨hgl, d1, .inl hef⟩ LamX.takes0 (fun W pn xe tk _ => ?_) (fun av oe cls d pn hz hf => ?_)) (pss_one (ps_ret pe_str)), ?_⟩
  · refine ⟨fun pins s' σ H' D I h' => ?_⟩
    obtain ⟨Ech, hW, h1, h2, h3⟩ := h'
    have hp := act (fun cls d σ H => σ.length = 2 → W cls d σ H) pn xe Ech p1 p2 (takes_len tk) (fun cls d σ' H' h n => hW cls d σ' H' n h)
    have hq := pss_one (ps_expr (pos := p3) hp (by rfl))
    exact hq.run pins s' σ H' D I ⟨h1, h2, h3⟩
  · by_cases hcd : cls = .ref CN ∧ ∃ dd, d = some dd
    · obtain ⟨rfl, dd, rfl⟩ := hcd
      have gi' : Gl (XX.suite av ((av, oe) :: pn)) "isinstance" := gi
      have gen' : Gl (XX.suite av ((av, oe) :: pn)) en := gen
      have ve : ∀ p, PE (XX.suite av ((av, oe) :: pn)) (.Name er p) (tVar 1) := fun p => pe_var (i := 1) rfl (.inl ler) d3 d4
      have vn : PE (XX.suite av ((av, oe) :: pn)) (.Name en p7) (tC (.ref CN)) := pe_glob gen' ok.g rfl d2
      have it := pe_callB (p := p5) (pos := p8) (call_isO (X := XX) ok.e hz hf) gi' hisn (by decide +kernel) (pa_cons (ve p6) (pa_cons vn pa_nil (by rfl)) (by rfl)) (by decide) (by decide) (by rfl) (by rfl)
      have ff := pe_xf (X := XX) (pos := pg) ok.xf ok.no hz hf (ve pf) (hb _)
      refine (pss_one (ps_ret (pe_ifExp (pos := pi) (pt_truth it (by intro _; rfl)) ff (pe_str (j := j2) (pos := ph))))).imp ?_
      rintro D σ H ⟨_, dd', fs, v, e1, h1, h2, h3, h4⟩
      obtain rfl : dd = dd' := Option.some.inj e1
      exact ⟨.ref av, h3, .ref CN, .ref CN, true, fs, rfl, fun u hu => hu, ok.t, h1, true, rfl, (if_pos rfl).mpr ⟨.ref av, h3, rfl, rfl, dd, fs, v, rfl, h1, h2, h4⟩⟩
    · exact pss_never.imp fun D σ H ⟨h1, dd, _, _, h2, _⟩ => hcd ⟨h1, dd, h2⟩
  · rw [h0]
    refine ⟨fun cls d H' => cls = .ref CN ∧ ∃ (dd : Addr) (fs : List (Str × V)) (v : V), d = some dd ∧ H' dd = some (.xd fs) ∧ fs.lookup f = some v ∧ Q v H', ?_, rfl, hc, h⟩
    rintro cls d σ' H' hl ⟨rfl, dd, fs, v, rfl, h1, h2, h3⟩
    exact ⟨true, ok.m, fun _ av _ => ⟨rfl, dd, fs, v, rfl, h1, h2, by rw [List.getElem?_set_self (by omega)], h3⟩, fun z => nomatch z⟩
end
end VL
namespace VL
open PySem PySem.Spec PyProof.Rows L2
structure PlcI (K : PySem.W.Frag) (mg : Str → Option Value) (cx f s0 : Str) (x a : Str) (Ng : List Str) (sg : Scope) (bg : List Stmt) (pg : Arguments) : Prop where
  ex : ∃ (g CF CN : Addr) (fd : FuncData), PlcOk K mg CF CN cx f ∧ FunD K x x pg bg sg [] [] g fd ∧ mg x = some (.ref g) ∧ L2.Binds K fd [a] [] ∧ FnScope Ng [a] sg ∧ Ng[0]? = some a ∧ Vis sg a ∧
    ∀ (X : Cx) (cdg : Value) (q : Str), X.K = K → X.mg = mg → LamX.GivesTo X Ng x sg g cdg bg a q (TTplc CN f s0)
theorem lookup_zip {f : Str} {vs : List V} : ∀ {fs : List (Str × D)} {vs : List V} {d : D}, vs.length = fs.length → fs.lookup f = some d → ∃ (i : Nat) (v : V), ((fs.map (·.1)).zip vs).lookup f = some v ∧ vs[i]? = some v ∧ (fs.map (·.2))[i]? = some d
  | [], _, _, _, h => by cases h
  | (g, e) :: fs, [], _, hl, _ => by cases hl
  | (g, e) :: fs, v :: vs, d, hl, h => by
    have h2 : (match f == g with | true => some e | false => fs.lookup f) = some d := h
    cases q : (f == g) with
    | true =>
      rw [q] at h2
      cases h2
      refine ⟨0, v, ?_, rfl, rfl⟩
      show (match f == g with | true => some v | false => _) = some v
      rw [q]
    | false =>
      rw [q] at h2
      obtain ⟨i, w, a, b, c⟩ := lookup_zip (fs := fs) (vs := vs) (by simpa using hl) h2
      refine ⟨i + 1, w, ?_, b, c⟩
      show (match f == g with | true => some v | false => ((fs.map (·.1)).zip vs).lookup f) = some w
      rw [q]
      exact a
section
variable {X : Cx} {T : List (Addr × Str)} {W : WX} {B : Hp} {ρ : List SL} {m : M D} {cx f s0 x a : Str} {Ng : List Str} {sg : Scope} {bg : List Stmt} {pg : Arguments} {q : Str} {k : Nat} {params : Arguments} {body : Expr} {scope : Scope} {p lpos pos : Pos}
theorem ve_plc (I : PlcI X.K X.mg cx f s0 x a Ng sg bg pg) (HT : LamTab X.K X.mg X.base T q) (hq : X.env.qual = q ++ ".<locals>.") (hcode : X.env.code = .ref (He.cT X.K (q, none)).1) (hr : Room (k + 2) X.A)
    (hbody : ∀ (A : Around) (outer : List Env) (s : Shared) (H : Hp) (E : XK) (f c' : Addr), Room k (A.deeper (LamX.lamEnv X scope s.heap.objs.size f c')) → VE (LamX.lamCx X A outer s H E scope f c') T (fun cls d _ H' => E cls d H') B ρ body m)
    (L : LamX.lamSB X.env.scope scope = true := by rfl) (hdef : defaultsOf params X.env = ([], []) := by rfl)
    (hbind : ∀ (q : Str) (cl : List (Str × Addr)) (pm cv ctv : Value), bindArgs (PySem.W.kla_fn "<lambda>" q params body scope cl pm cv ctv) ⟨[], []⟩ = pure [] := by intros; rfl)
    (hg : Gl X x := by rfl) (hdb : (x == ("__debug__" : Str)) = false := by decide) (hd : (a == ("__debug__" : Str)) = false := by decide) (hcd : (a == ("__classdict__" : Str)) = false := by decide) :
    VE X T W B ρ (.Call (.Name x p) [.Lambda params body scope lpos] [] pos) (placeM cx f s0 m) := by
  obtain ⟨g, CF, CN, fd, ok, F, hm, hb, Sg, hN0, hva, hG⟩ := I.ex
  obtain ⟨oc, od, dV, kV, doc, pm, an, cdv, ct, osl, rfl, lk, hcg, _, _⟩ := F.ex
  have h := LamX.pe_lamcall (T := T) (t := fun E => rd (RepV X.K) X.K X.mg T (fun cls d _ H' => E cls d H') B ρ m) (pos := pos) (p := p) (lpos := lpos) hg hm F.kp lk hcg hb Sg hN0 hva (hG X cdv _ rfl rfl) HT.tb hcode (by rw [hq]; exact HT.mem) (by rw [hq]; exact HT.un) hr (LamX.lamS_by L) hdef hbind (fun A outer s H E f c' hr' => (hbody A outer s H E f c' hr').pe) hdb hd hcd
  refine .of ⟨fun pins s σ H Q I q => h.run pins s σ H Q I ?_⟩
  obtain ⟨F1, as, S, st, sl, pp⟩ := q
  refine ⟨st.tabs, fun H1 x1 t1 => ?_⟩
  obtain ⟨e1, st1⟩ := ext_n st x1 t1
  refine ⟨F1, as, S, st1, sl.ext e1, ?_⟩
  unfold placeM at pp
  cases em : m S with
  | ok d S' =>
    simp only [em] at pp
    exact fun v F' H' as' x st' r => pp (.str s0) F' H' as' (e1.trans x) st' (.str _)
  | no =>
    simp only [em] at pp
    exact pp
  | er y S' =>
    simp only [em] at pp
    intro cls dd F' H' as' x st' r
    obtain ⟨r1, r2, r3⟩ := r
    by_cases hc : y.cls = cx
    · rw [if_pos hc] at pp
      cases el : y.fs.lookup f with
      | none => simp only [el] at pp; exact False.elim pp
      | some d =>
        simp only [el] at pp
        have nfs : y.fs ≠ [] := fun z => by rw [z] at el; cases el
        obtain ⟨a1, vs, e2, e3, e4, e5⟩ := r3 nfs
        obtain ⟨i, v, l1, l2, l3⟩ := lookup_zip (f := f) (vs := vs) e4 el
        rw [hc, ok.g] at r1
        obtain ⟨v', l4, rv⟩ := e5.get' l3
        rw [l2] at l4
        cases l4
        exact ⟨(Option.some.inj r1).symm, a1, _, v, e2, st'.fz _ _ e3, l1, pp v F' H' as' (e1.trans x) st' rv⟩
    · rw [if_neg hc] at pp
      exact False.elim pp
end
end VL

set_option maxHeartbeats 2000000
/-! VLTry: try an expression, answer an error by its class. -/
namespace VL
open PySem PySem.Spec PyProof.Rows L2
def tryM {γ : Type} (tb : List (Str × Bool)) (m : M D) : M (Fl γ Unit) := fun S => match m S with
  | .ok _ S' => .ok (.nx ()) S'
  | .er y S' => (match tb.lookup y.cls, y.fs with
    | some b, [] => .ok (.rt (.bl b)) S'
    | _, _ => .no)
  | .no => .no
section
variable {γ : Type} {X : Cx} {T : List (Addr × Str)} {W : WX} {B : Hp} {ρ : List SL} {embL : γ → List SL} {e : Expr} {m : M D}
theorem vs_tryisn {er ef en : Str} {CF CN : Addr} {tb : ETab} {p3 p4 p5 p6 p7 p8 p9 pa pb : Pos} (i : Nat) (ok : EOk X.K X.mg CF CN tb) (hef : X.mg ef = some (.ref CF)) (hen : X.mg en = some (.ref CN)) (hisn : X.mg "isinstance" = none)
    (nd : X.N.Nodup) (tk : Takes X W) (hi : X.N[i]? = some er) (hil : i < ρ.length)
    (hb : ∀ (W : WX) (pn : List (Addr × Obj)) (xe : Value → Shared → Prop), Takes (X.tr pn xe) W → VE (X.tr pn xe) T W B ρ e m)
    (hsw : ∀ (pn : List (Addr × Obj)) (xe : Value → Shared → Prop), swapsWith e none p3.line (X.tr pn xe).env = pure false)
    (gef : Gl X ef := by rfl) (gen : X.env.scope.names.lookup en = some .globalImplicit := by rfl) (gi : X.env.scope.names.lookup ("isinstance" : Str) = some .globalImplicit := by rfl) (d1 : (ef == ("__debug__" : Str)) = false := by decide) (d2 : (en == ("__debug__" : Str)) = false := by decide) (d3 : (er == ("__debug__" : Str)) = false := by decide) (d4 : (er == ("__classdict__" : Str)) = false := by decide)
    (hs : X.stack = X.env :: X.outer := by rfl) (hf : X.env.frame = some X.env.locals := by rfl) (ler : X.env.kindOf er = some .local := by rfl) (hN : er ∈ X.N := by decide) :
    VS X T W B ρ (.Try [.Expr e p3] [.ExceptHandler (some (.Name ef p4)) (some er) [.Return (some (.Call (.Name "isinstance" p5) [.Name er p6, .Name en p7] [] p8)) p9] pa] [] [] pb) embL (fun _ : Unit => ρ) (tryM (tb.map fun e => (e.1, e.2.2)) m) := by
  refine ⟨(ps_try_as (X := X) (i := i) (c := .ref CF) (Wout := W)
      (tb := fun W' D σ H => ∃ (F : Hp) (as : List Addr) (S : Sx), Stt X.K T F H as S ∧ Slots X.K B F H as ρ σ ∧ Post X.K X.mg T F H as (RepV X.K) (fun _ H' => D.nx σ H') (fun cls dd H' => W' cls dd σ H') (m S))
      (ts := fun av cls d D σ H => ∃ e : { e // e ∈ tb }, cls = .ref e.1.2.1 ∧ d = none ∧ σ[i]? = some (some (.ref av)) ∧ D.rt (.bl e.1.2.2) H)
      hs hf nd hi ler ⟨gef, d1, .inl hef⟩ tk (fun W' pn xe tk' _ => ?_) (fun av oe cls d pn hz hfl => ?_)).imp ?_⟩
  · obtain ⟨t, pe, sd⟩ := (hb W' pn xe tk').t
    refine ⟨fun pins s' σ H' D I ⟨F, as, S, st, sl, p⟩ => ?_⟩
    exact (pss_one (ps_expr (pos := p3) pe (hsw pn xe))).run pins s' σ H' D I (sd σ F H' as S _ st sl p)
  · refine PSs_ex fun e => ?_
    by_cases hcd : cls = .ref e.1.2.1 ∧ d = none
    · obtain ⟨rfl, rfl⟩ := hcd
      obtain ⟨_, ec, _, ek⟩ := ok.ok e.1 e.2
      have gi' : Gl (X.suite av ((av, oe) :: pn)) "isinstance" := gi
      have gen' : Gl (X.suite av ((av, oe) :: pn)) en := gen
      have ve : PE (X.suite av ((av, oe) :: pn)) (.Name er p6) (tVar i) := pe_var (i := i) hi (.inl ler) d3 d4
      have vn : PE (X.suite av ((av, oe) :: pn)) (.Name en p7) (tC (.ref CN)) := pe_glob gen' hen rfl d2
      refine (pss_one (ps_ret (pe_callB (call_isE (X := X) ec hz hfl) gi' hisn (by decide +kernel) (pa_cons ve (pa_cons vn pa_nil (by rfl)) (by rfl)) (by decide) (by decide) (by rfl) (by rfl)))).imp ?_
      rintro D σ H ⟨_, _, h2, h3⟩
      exact ⟨.ref av, h2, .ref CN, .ref CN, e.1.2.2, rfl, fun u hu => hu, ek, h3⟩
    · exact pss_never.imp fun D σ H ⟨h1, h2, _⟩ => hcd ⟨h1, h2⟩
  · rintro D σ H ⟨F0, as0, F, as, S, x0, st, sl, p⟩
    refine ⟨F, as, S, st, sl, ?_⟩
    unfold tryM at p
    cases em : m S with
    | ok d S' =>
      simp only [em] at p
      exact fun v F' H' as' x st' r => p σ F' H' as' (x0.trans x) st' (sl.ext x)
    | no =>
      simp only [em] at p
      exact p
    | er y S' =>
      simp only [em] at p
      intro cls dd F' H' as' x st' r
      obtain ⟨r1, r2, _⟩ := r
      cases el : List.lookup y.cls (tb.map fun e => (e.1, e.2.2)) with
      | none => simp only [el] at p; exact False.elim p
      | some b =>
        cases ef : y.fs with
        | cons _ _ => simp only [el, ef] at p; exact False.elim p
        | nil =>
          simp only [el, ef] at p
          have hmem : (y.cls, b) ∈ tb.map fun e => (e.1, e.2.2) := PySem.mem_of_lookup el
          obtain ⟨e, he, hq⟩ := List.mem_map.mp hmem
          have q1 : e.1 = y.cls := congrArg Prod.fst hq
          have q2 : e.2.2 = b := congrArg Prod.snd hq
          obtain ⟨m1, _, m3, _⟩ := ok.ok e he
          rw [q1, r1] at m1
          obtain rfl := Option.some.inj m1
          exact ⟨true, m3, fun _ av _ => ⟨⟨e, he⟩, rfl, r2 ef, by rw [List.getElem?_set_self (by have := sl.len; omega)], by rw [q2]; exact p (.bl b) F' H' as' (x0.trans x) st' (.bl _)⟩, fun z => nomatch z⟩
theorem vs_tryisn2 {er ef en : Str} {CF CN : Addr} {tb : ETab} {tbm : List (Str × Bool)} {p3 p4 p5 p6 p7 p8 p9 pa pb : Pos} (i : Nat) (ok : EOk X.K X.mg CF CN tb) (hef : X.mg ef = some (.ref CF)) (hen : X.mg en = some (.ref CN)) (hisn : X.mg "isinstance" = none)
    (nd : X.N.Nodup) (tk : Takes X W) (hi : X.N[i]? = some er) (hil : i < ρ.length)
    (hb : ∀ (W : WX) (pn : List (Addr × Obj)) (xe : Value → Shared → Prop), Takes (X.tr pn xe) W → VE (X.tr pn xe) T W B ρ e m)
    (hsw : ∀ (pn : List (Addr × Obj)) (xe : Value → Shared → Prop), swapsWith e none p3.line (X.tr pn xe).env = pure false) (he : tb.map (fun e => (e.1, e.2.2)) = tbm)
    (gef : Gl X ef) (gen : X.env.scope.names.lookup en = some .globalImplicit) (gi : X.env.scope.names.lookup ("isinstance" : Str) = some .globalImplicit) (d1 : (ef == ("__debug__" : Str)) = false := by decide) (d2 : (en == ("__debug__" : Str)) = false := by decide) (d3 : (er == ("__debug__" : Str)) = false := by decide) (d4 : (er == ("__classdict__" : Str)) = false := by decide)
    (hs : X.stack = X.env :: X.outer) (hf : X.env.frame = some X.env.locals) (ler : X.env.kindOf er = some .local) (hN : er ∈ X.N) :
    VS X T W B ρ (.Try [.Expr e p3] [.ExceptHandler (some (.Name ef p4)) (some er) [.Return (some (.Call (.Name "isinstance" p5) [.Name er p6, .Name en p7] [] p8)) p9] pa] [] [] pb) embL (fun _ : Unit => ρ) (tryM tbm m) := by
  subst he
  exact vs_tryisn i ok hef hen hisn nd tk hi hil hb hsw gef gen gi d1 d2 d3 d4 hs hf ler hN
end
end VL

namespace K62
open PySem PySem.Spec VL VLib
/-- numbers_text -/
def numbers_text_b (numbers_ : D) : M (Fl Unit Unit) :=
    seqF (γ := Unit) (α := Unit) (((((((pure numbers_) >>= fun x8 => (pure []) >>= fun r9 => pure (x8 :: r9)) >>= onN 1 is_row_m) >>= truB) >>= fun k10 => pure (!k10)) >>= fun k11 => if k11 = true then pure true else ((((((((pure numbers_) >>= rowD) >>= lcL (lcT (β := D) (fun d => pure d) (fun item_ => (pure true)) (fun item_ => (((pure item_) >>= fun x2 => (pure []) >>= fun r3 => pure (x2 :: r3)) >>= onN 1 is_fraction_m)))) >>= fun ds4 => pure (D.lst ds4)) >>= fun x5 => (pure []) >>= fun r6 => pure (x5 :: r6)) >>= on1 all1) >>= truB) >>= fun k7 => pure (!k7))) >>= fun k12 => if k12 = true then (err ⟨"NoNumbers", []⟩) else (pure (Fl.nx ()))) fun s1 =>
    (((pure (D.str " ")) >>= fun x18 => strD x18 >>= fun z19 => (((((pure numbers_) >>= rowD) >>= lcL (lcT (β := D) (fun d => pure d) (fun item_ => (pure true)) (fun item_ => (((pure item_) >>= fun x13 => (pure []) >>= fun r14 => pure (x13 :: r14)) >>= onN 1 VLib2.frac_word_m)))) >>= fun ds15 => pure (D.lst ds15)) >>= fun x16 => (pure []) >>= fun r17 => pure (x16 :: r17)) >>= fun ys20 => joinS z19 ys20) >>= fun x21 => pure (Fl.rt x21))
def numbers_text_d : List D → M (Fl Unit Unit)
  | [numbers_] => numbers_text_b numbers_
  | _ => no
def numbers_text_m (ds : List D) : M D := bodyM (numbers_text_d ds)

/-- _law_is_none -/
def law_is_none_b (thing_ : D) : M (Fl Unit Unit) :=
    seqF (γ := Unit) (α := Unit) (tryM [("NoNumbers", true)] (((pure thing_) >>= fun x2 => (pure []) >>= fun r3 => pure (x2 :: r3)) >>= onN 1 numbers_text_m)) fun _ =>
    ((pure (D.bl false)) >>= fun x4 => pure (Fl.rt x4))
def law_is_none_d : List D → M (Fl Unit Unit)
  | [thing_] => law_is_none_b thing_
  | _ => no
def law_is_none_m (ds : List D) : M D := bodyM (law_is_none_d ds)

/-- read_numbers -/
def read_numbers_b (text_ : D) : M (Fl Unit Unit) :=
    seqF (γ := Unit) (α := Unit) (((((pure text_) >>= isaD [.str]) >>= truB) >>= fun k2 => pure (!k2)) >>= fun k4 => if k4 = true then (((pure (D.int 0)) >>= fun x3 => err ⟨"BadText", [("at", x3)]⟩)) else (pure (Fl.nx ()))) fun s1 =>
    seqF (γ := Unit) (α := List D) (((pure []) >>= limL) >>= fun ds6 => pure (Fl.nx ds6)) fun found_ =>
    seqF (γ := Unit) (α := List D) (((pure text_) >>= fun x8 => (pure (D.str "")) >>= fun x9 => neD x8 x9 >>= asB) >>= fun k35 => if k35 = true then (seqF (γ := Unit) (α := List D) (((((pure text_) >>= fun x14 => strD x14 >>= fun z15 => ((pure (D.str " ")) >>= fun x12 => (pure []) >>= fun r13 => pure (x12 :: r13)) >>= fun ys16 => splitS z15 ys16) >>= fun x17 => (pure []) >>= fun r18 => pure (x17 :: r18)) >>= enum1) >>= fun ds33 => forM (fun d34 (s11 : List D) => un2 d34 >>= fun b19 => seqF (γ := List D) (α := D) ((((pure b19.2) >>= fun x21 => (pure []) >>= fun r22 => pure (x21 :: r22)) >>= onN 1 VLib2.word_frac_m) >>= fun x23 => pure (Fl.nx x23)) fun item_ =>
            seqF (γ := List D) (α := Unit) (((pure item_) >>= fun x25 => (pure D.non) >>= fun x26 => isD x25 x26 >>= asB) >>= fun k30 => if k30 = true then ((((pure b19.1) >>= fun x27 => (pure (D.int 1)) >>= fun x28 => addD x27 x28) >>= fun x29 => err ⟨"BadText", [("at", x29)]⟩)) else (pure (Fl.nx ()))) fun s24 =>
            seqF (γ := List D) (α := List D) ((pure item_) >>= fun x32 => snoc s11 x32 >>= fun found_ => pure (Fl.nx found_)) fun found_ =>
            pure (Fl.nx found_)) ds33 found_) fun s10 =>
        pure (Fl.nx s10)) else (pure (Fl.nx found_))) fun s7 =>
    ((pure (D.tup s7)) >>= fun x36 => pure (Fl.rt x36))
def read_numbers_d : List D → M (Fl Unit Unit)
  | [text_] => read_numbers_b text_
  | _ => no
def read_numbers_m (ds : List D) : M D := bodyM (read_numbers_d ds)

/-- _law_told_words -/
def law_told_words_b (text_ : D) : M (Fl Unit Unit) :=
    seqF (γ := Unit) (α := List D) (((pure []) >>= limL) >>= fun ds2 => pure (Fl.nx ds2)) fun found_ =>
    seqF (γ := Unit) (α := List D) ((((((pure text_) >>= fun x5 => (pure (D.str "")) >>= fun x6 => neD x5 x6 >>= asB) >>= fun k12 => if k12 = true then ((pure text_) >>= fun x9 => strD x9 >>= fun z10 => ((pure (D.str " ")) >>= fun x7 => (pure []) >>= fun r8 => pure (x7 :: r8)) >>= fun ys11 => splitS z10 ys11) else ((pure []) >>= lstD)) >>= fun x13 => (pure []) >>= fun r14 => pure (x13 :: r14)) >>= enum1) >>= fun ds29 => forM (fun d30 (s4 : List D) => un2 d30 >>= fun b15 => seqF (γ := List D) (α := D) ((((pure b15.2) >>= fun x17 => (pure []) >>= fun r18 => pure (x17 :: r18)) >>= onN 1 VLib2.law_fraction_of_m) >>= fun x19 => pure (Fl.nx x19)) fun one_ =>
        seqF (γ := List D) (α := Unit) (((pure one_) >>= fun x21 => (pure D.non) >>= fun x22 => isD x21 x22 >>= asB) >>= fun k26 => if k26 = true then ((((pure b15.1) >>= fun x23 => (pure (D.int 1)) >>= fun x24 => addD x23 x24) >>= fun x25 => pure (Fl.rt x25))) else (pure (Fl.nx ()))) fun s20 =>
        seqF (γ := List D) (α := List D) ((pure one_) >>= fun x28 => snoc s4 x28 >>= fun found_ => pure (Fl.nx found_)) fun found_ =>
        pure (Fl.nx found_)) ds29 found_) fun s3 =>
    ((pure (D.tup s3)) >>= fun x31 => pure (Fl.rt x31))
def law_told_words_d : List D → M (Fl Unit Unit)
  | [text_] => law_told_words_b text_
  | _ => no
def law_told_words_m (ds : List D) : M D := bodyM (law_told_words_d ds)

/-- _law_is_read -/
def law_is_read_b (text_ : D) : M (Fl Unit Unit) :=
    seqF (γ := Unit) (α := D) ((((pure text_) >>= fun x2 => (pure []) >>= fun r3 => pure (x2 :: r3)) >>= onN 1 law_told_words_m) >>= fun x4 => pure (Fl.nx x4)) fun due_ =>
    seqF (γ := Unit) (α := Unit) ((((pure due_) >>= isaD [.int]) >>= truB) >>= fun k13 => if k13 = true then (((((placeM "BadText" "at" "read" (((pure text_) >>= fun x8 => (pure []) >>= fun r9 => pure (x8 :: r9)) >>= onN 1 read_numbers_m)) >>= fun x10 => ((pure due_) >>= fun x6 => (pure []) >>= fun r7 => pure (x6 :: r7)) >>= fun r11 => pure (x10 :: r11)) >>= onN 2 VLib2.law_like_m) >>= fun x12 => pure (Fl.rt x12))) else (pure (Fl.nx ()))) fun s5 =>
    ((((((pure text_) >>= fun x16 => (pure []) >>= fun r17 => pure (x16 :: r17)) >>= onN 1 read_numbers_m) >>= fun x18 => ((pure due_) >>= fun x14 => (pure []) >>= fun r15 => pure (x14 :: r15)) >>= fun r19 => pure (x18 :: r19)) >>= onN 2 VLib2.law_like_m) >>= fun x20 => pure (Fl.rt x20))
def law_is_read_d : List D → M (Fl Unit Unit)
  | [text_] => law_is_read_b text_
  | _ => no
def law_is_read_m (ds : List D) : M D := bodyM (law_is_read_d ds)

/-- _law_bent -/
def law_bent_b (hand_ text_ : D) : M (Fl Unit Unit) :=
    seqF (γ := Unit) (α := D) (((pure text_) >>= fun x4 => strD x4 >>= fun z5 => ((pure (D.str " ")) >>= fun x2 => (pure []) >>= fun r3 => pure (x2 :: r3)) >>= fun ys6 => splitS z5 ys6) >>= fun x7 => pure (Fl.nx x7)) fun words_ =>
    seqF (γ := Unit) (α := D × D) ((((((pure hand_) >>= fun x21 => ((((pure words_) >>= fun x17 => (pure []) >>= fun r18 => pure (x17 :: r18)) >>= on1 len1) >>= fun x19 => (pure []) >>= fun r20 => pure (x19 :: r20)) >>= fun r22 => pure (x21 :: r22)) >>= onN 2 (law_draw_m 41)) >>= fun x23 => ((((pure hand_) >>= fun x13 => ((((pure words_) >>= fun x9 => (pure []) >>= fun r10 => pure (x9 :: r10)) >>= on1 len1) >>= fun x11 => (pure []) >>= fun r12 => pure (x11 :: r12)) >>= fun r14 => pure (x13 :: r14)) >>= onN 2 (law_draw_m 41)) >>= fun x15 => (pure []) >>= fun r16 => pure (x15 :: r16)) >>= fun r24 => pure (x23 :: r24)) >>= tupD) >>= fun x26 => un2 x26 >>= fun b25 => pure (Fl.nx b25)) fun b25 =>
    seqF (γ := Unit) (α := D) ((((pure (D.str "")) >>= fun x52 => ((pure (D.str "-0")) >>= fun x50 => ((pure (D.str "0/1")) >>= fun x48 => ((pure (D.str "2/4")) >>= fun x46 => ((pure (D.str "+1")) >>= fun x44 => ((pure (D.str "1/1")) >>= fun x42 => ((pure (D.str "01")) >>= fun x40 => ((pure (D.str "x")) >>= fun x38 => ((pure (D.str "1,")) >>= fun x36 => ((pure (D.str "	1")) >>= fun x34 => ((pure (D.str "1\n")) >>= fun x32 => ((pure (D.str "1/-2")) >>= fun x30 => ((pure (D.str ".")) >>= fun x28 => (pure []) >>= fun r29 => pure (x28 :: r29)) >>= fun r31 => pure (x30 :: r31)) >>= fun r33 => pure (x32 :: r33)) >>= fun r35 => pure (x34 :: r35)) >>= fun r37 => pure (x36 :: r37)) >>= fun r39 => pure (x38 :: r39)) >>= fun r41 => pure (x40 :: r41)) >>= fun r43 => pure (x42 :: r43)) >>= fun r45 => pure (x44 :: r45)) >>= fun r47 => pure (x46 :: r47)) >>= fun r49 => pure (x48 :: r49)) >>= fun r51 => pure (x50 :: r51)) >>= fun r53 => pure (x52 :: r53)) >>= lstD) >>= fun x78 => pure (Fl.nx x78)) fun bad_ =>
    seqF (γ := Unit) (α := D × D) ((((((pure hand_) >>= fun x88 => ((pure bad_) >>= fun x86 => (pure []) >>= fun r87 => pure (x86 :: r87)) >>= fun r89 => pure (x88 :: r89)) >>= onN 2 (VLib2.law_any_m 41)) >>= fun x90 => ((((pure hand_) >>= fun x82 => ((pure bad_) >>= fun x80 => (pure []) >>= fun r81 => pure (x80 :: r81)) >>= fun r83 => pure (x82 :: r83)) >>= onN 2 (VLib2.law_any_m 41)) >>= fun x84 => (pure []) >>= fun r85 => pure (x84 :: r85)) >>= fun r91 => pure (x90 :: r91)) >>= tupD) >>= fun x93 => un2 x93 >>= fun b92 => pure (Fl.nx b92)) fun b92 =>
    seqF (γ := Unit) (α := List D) (((((((pure words_) >>= fun x127 => (pure none) >>= fun l130 => ((pure b25.1) >>= fun x128 => asI x128 >>= fun i129 => pure (some i129)) >>= fun h131 => sliceD x127 l130 h131) >>= fun x134 => (((pure b92.1) >>= fun x132 => (pure []) >>= fun r133 => pure (x132 :: r133)) >>= lstD) >>= fun x135 => addD x134 x135) >>= fun x141 => ((pure words_) >>= fun x136 => ((pure b25.1) >>= fun x137 => asI x137 >>= fun i138 => pure (some i138)) >>= fun l139 => (pure none) >>= fun h140 => sliceD x136 l139 h140) >>= fun x142 => addD x141 x142) >>= fun x143 => (((((pure words_) >>= fun x107 => (pure none) >>= fun l110 => ((pure b25.1) >>= fun x108 => asI x108 >>= fun i109 => pure (some i109)) >>= fun h111 => sliceD x107 l110 h111) >>= fun x114 => (((pure b92.1) >>= fun x112 => (pure []) >>= fun r113 => pure (x112 :: r113)) >>= lstD) >>= fun x115 => addD x114 x115) >>= fun x123 => ((pure words_) >>= fun x116 => (((pure b25.1) >>= fun x117 => (pure (D.int 1)) >>= fun x118 => addD x117 x118) >>= fun x119 => asI x119 >>= fun i120 => pure (some i120)) >>= fun l121 => (pure none) >>= fun h122 => sliceD x116 l121 h122) >>= fun x124 => addD x123 x124) >>= fun x125 => (((((pure (D.str "")) >>= fun x101 => (pure []) >>= fun r102 => pure (x101 :: r102)) >>= lstD) >>= fun x103 => (pure words_) >>= fun x104 => addD x103 x104) >>= fun x105 => (((pure words_) >>= fun x97 => (((pure (D.str "")) >>= fun x95 => (pure []) >>= fun r96 => pure (x95 :: r96)) >>= lstD) >>= fun x98 => addD x97 x98) >>= fun x99 => (pure []) >>= fun r100 => pure (x99 :: r100)) >>= fun r106 => pure (x105 :: r106)) >>= fun r126 => pure (x125 :: r126)) >>= fun r144 => pure (x143 :: r144)) >>= limL) >>= fun ds145 => pure (Fl.nx ds145)) fun some_ =>
    seqF (γ := Unit) (α := List D) ((((((pure words_) >>= fun x147 => (pure []) >>= fun r148 => pure (x147 :: r148)) >>= enum1) >>= lcL (lcT (β := (D × D)) un2 (fun b149 => (pure true)) (fun b149 => (((pure b149.1) >>= fun x150 => (pure b25.1) >>= fun x151 => eqD x150 x151 >>= asB) >>= fun k155 => if k155 = true then (pure b92.1) else (((pure b149.1) >>= fun x152 => (pure b25.2) >>= fun x153 => eqD x152 x153 >>= asB) >>= fun k154 => if k154 = true then (pure b92.2) else (pure b149.2)))))) >>= fun ds156 => pure (D.lst ds156)) >>= fun x157 => snoc some_ x157 >>= fun some_ => pure (Fl.nx some_)) fun some_ =>
    seqF (γ := Unit) (α := D) (((pure (D.lst some_)) >>= fun x195 => ((((pure words_) >>= fun x187 => (pure none) >>= fun l188 => (pure none) >>= fun h189 => (((pure (D.int 1)) >>= negD) >>= fun x190 => asI x190 >>= fun i191 => pure (some i191)) >>= fun k192 => slice3D x187 l188 h189 k192) >>= fun x193 => ((((pure words_) >>= fun x171 => (pure none) >>= fun l174 => ((pure b25.1) >>= fun x172 => asI x172 >>= fun i173 => pure (some i173)) >>= fun h175 => sliceD x171 l174 h175) >>= fun x183 => ((pure words_) >>= fun x176 => (((pure b25.1) >>= fun x177 => (pure (D.int 1)) >>= fun x178 => addD x177 x178) >>= fun x179 => asI x179 >>= fun i180 => pure (some i180)) >>= fun l181 => (pure none) >>= fun h182 => sliceD x176 l181 h182) >>= fun x184 => addD x183 x184) >>= fun x185 => (((pure words_) >>= fun x167 => (((pure b92.1) >>= fun x165 => ((pure b92.2) >>= fun x163 => (pure []) >>= fun r164 => pure (x163 :: r164)) >>= fun r166 => pure (x165 :: r166)) >>= lstD) >>= fun x168 => addD x167 x168) >>= fun x169 => (((((pure text_) >>= rep1D " " "	") >>= fun x159 => (pure []) >>= fun r160 => pure (x159 :: r160)) >>= lstD) >>= fun x161 => (pure []) >>= fun r162 => pure (x161 :: r162)) >>= fun r170 => pure (x169 :: r170)) >>= fun r186 => pure (x185 :: r186)) >>= fun r194 => pure (x193 :: r194)) >>= lstD) >>= fun x196 => addD x195 x196) >>= fun x197 => pure (Fl.nx x197)) fun some_ =>
    (((pure (D.str " ")) >>= fun x204 => strD x204 >>= fun z205 => ((((pure hand_) >>= fun x200 => ((pure some_) >>= fun x198 => (pure []) >>= fun r199 => pure (x198 :: r199)) >>= fun r201 => pure (x200 :: r201)) >>= onN 2 (VLib2.law_any_m 41)) >>= fun x202 => (pure []) >>= fun r203 => pure (x202 :: r203)) >>= fun ys206 => joinS z205 ys206) >>= fun x207 => pure (Fl.rt x207))
def law_bent_d : List D → M (Fl Unit Unit)
  | [hand_, text_] => law_bent_b hand_ text_
  | _ => no
def law_bent_m (ds : List D) : M D := bodyM (law_bent_d ds)

/-- law -/
def law_b (script_ : D) : M (Fl Unit Unit) :=
    seqF (γ := Unit) (α := D) ((((pure script_) >>= fun x2 => (pure []) >>= fun r3 => pure (x2 :: r3)) >>= onN 1 (VLib2.law_hand_m 6203 13)) >>= fun x4 => pure (Fl.nx x4)) fun hand_ =>
    seqF (γ := Unit) (α := Unit) ((((pure (D.int 5)) >>= fun x7 => (pure []) >>= fun r8 => pure (x7 :: r8)) >>= range1) >>= fun ds194 => forM (fun d195 (s6 : Unit) => (fun d => pure d) d195 >>= fun turn_ => seqF (γ := Unit) (α := D) ((((pure hand_) >>= fun x22 => ((((pure (D.int 0)) >>= fun x18 => ((pure (D.int 1)) >>= fun x16 => ((pure (D.int 2)) >>= fun x14 => ((pure (D.int 5)) >>= fun x12 => ((pure (D.int 30)) >>= fun x10 => (pure []) >>= fun r11 => pure (x10 :: r11)) >>= fun r13 => pure (x12 :: r13)) >>= fun r15 => pure (x14 :: r15)) >>= fun r17 => pure (x16 :: r17)) >>= fun r19 => pure (x18 :: r19)) >>= lstD) >>= fun x20 => (pure []) >>= fun r21 => pure (x20 :: r21)) >>= fun r23 => pure (x22 :: r23)) >>= onN 2 (VLib2.law_any_m 41)) >>= fun x24 => pure (Fl.nx x24)) fun many_ =>
        seqF (γ := Unit) (α := List D) (((((pure many_) >>= fun x26 => (pure []) >>= fun r27 => pure (x26 :: r27)) >>= range1) >>= lcL (lcT (β := D) (fun d => pure d) (fun one_ => (pure true)) (fun one_ => (((pure hand_) >>= fun x28 => (pure []) >>= fun r29 => pure (x28 :: r29)) >>= onN 1 (VLib2.law_drawn_fraction_m 41))))) >>= fun ds30 => pure (Fl.nx ds30)) fun row_ =>
        seqF (γ := Unit) (α := D × D) (((((pure (D.str " ")) >>= fun x41 => strD x41 >>= fun z42 => (((((pure (D.lst row_)) >>= rowD) >>= lcL (lcT (β := D) (fun d => pure d) (fun one_ => (pure true)) (fun one_ => (((pure one_) >>= fun x36 => (pure []) >>= fun r37 => pure (x36 :: r37)) >>= onN 1 VLib2.law_fraction_text_m)))) >>= fun ds38 => pure (D.lst ds38)) >>= fun x39 => (pure []) >>= fun r40 => pure (x39 :: r40)) >>= fun ys43 => joinS z42 ys43) >>= fun x44 => ((((pure (D.lst row_)) >>= fun x32 => (pure []) >>= fun r33 => pure (x32 :: r33)) >>= on1 repr1) >>= fun x34 => (pure []) >>= fun r35 => pure (x34 :: r35)) >>= fun r45 => pure (x44 :: r45)) >>= tupD) >>= fun x47 => un2 x47 >>= fun b46 => pure (Fl.nx b46)) fun b46 =>
        seqF (γ := Unit) (α := Unit) ((((((((((pure (D.lst row_)) >>= fun x69 => (pure []) >>= fun r70 => pure (x69 :: r70)) >>= onN 1 numbers_text_m) >>= fun x71 => ((((((pure (D.lst row_)) >>= fun x63 => (pure []) >>= fun r64 => pure (x63 :: r64)) >>= on1 tuple1) >>= fun x65 => (pure []) >>= fun r66 => pure (x65 :: r66)) >>= onN 1 numbers_text_m) >>= fun x67 => ((((pure b46.1) >>= fun x59 => (pure []) >>= fun r60 => pure (x59 :: r60)) >>= onN 1 read_numbers_m) >>= fun x61 => (pure []) >>= fun r62 => pure (x61 :: r62)) >>= fun r68 => pure (x67 :: r68)) >>= fun r72 => pure (x71 :: r72)) >>= lstD) >>= fun x73 => ((((pure b46.1) >>= fun x55 => ((pure b46.1) >>= fun x53 => ((((pure (D.lst row_)) >>= fun x49 => (pure []) >>= fun r50 => pure (x49 :: r50)) >>= on1 tuple1) >>= fun x51 => (pure []) >>= fun r52 => pure (x51 :: r52)) >>= fun r54 => pure (x53 :: r54)) >>= fun r56 => pure (x55 :: r56)) >>= lstD) >>= fun x57 => (pure []) >>= fun r58 => pure (x57 :: r58)) >>= fun r74 => pure (x73 :: r74)) >>= onN 2 VLib2.law_like_m) >>= truB) >>= fun k75 => pure (!k75)) >>= fun k77 => if k77 = true then (((pure (D.bl false)) >>= fun x76 => pure (Fl.rt x76))) else (pure (Fl.nx ()))) fun s48 =>
        seqF (γ := Unit) (α := Unit) ((((((pure (D.lst row_)) >>= fun x91 => (pure []) >>= fun r92 => pure (x91 :: r92)) >>= on1 repr1) >>= fun x93 => (pure b46.2) >>= fun x94 => neD x93 x94 >>= asB) >>= fun k95 => if k95 = true then pure true else (((((((((pure (D.int 8)) >>= fun x79 => (pure []) >>= fun r80 => pure (x79 :: r80)) >>= range1) >>= lcL (lcT (β := D) (fun d => pure d) (fun lap_ => (pure true)) (fun lap_ => (((((pure hand_) >>= fun x83 => ((pure b46.1) >>= fun x81 => (pure []) >>= fun r82 => pure (x81 :: r82)) >>= fun r84 => pure (x83 :: r84)) >>= onN 2 law_bent_m) >>= fun x85 => (pure []) >>= fun r86 => pure (x85 :: r86)) >>= onN 1 law_is_read_m)))) >>= fun ds87 => pure (D.lst ds87)) >>= fun x88 => (pure []) >>= fun r89 => pure (x88 :: r89)) >>= on1 all1) >>= truB) >>= fun k90 => pure (!k90))) >>= fun k97 => if k97 = true then (((pure (D.bl false)) >>= fun x96 => pure (Fl.rt x96))) else (pure (Fl.nx ()))) fun s78 =>
        seqF (γ := Unit) (α := D) ((((pure D.non) >>= fun x137 => ((pure (D.int 1)) >>= fun x135 => ((pure (D.bl true)) >>= fun x133 => ((((pure (D.int 2)) >>= fun x129 => ((pure (D.int 4)) >>= fun x127 => (pure []) >>= fun r128 => pure (x127 :: r128)) >>= fun r130 => pure (x129 :: r130)) >>= tupD) >>= fun x131 => ((((pure (D.int 1)) >>= fun x123 => ((pure (D.int 0)) >>= fun x121 => (pure []) >>= fun r122 => pure (x121 :: r122)) >>= fun r124 => pure (x123 :: r124)) >>= tupD) >>= fun x125 => ((((pure (D.int 1)) >>= fun x117 => ((pure (D.int 2)) >>= fun x115 => (pure []) >>= fun r116 => pure (x115 :: r116)) >>= fun r118 => pure (x117 :: r118)) >>= lstD) >>= fun x119 => ((pure (D.str "1/2")) >>= fun x113 => ((((pure (D.int 1)) >>= fun x109 => ((pure (D.int 2)) >>= fun x107 => ((pure (D.int 3)) >>= fun x105 => (pure []) >>= fun r106 => pure (x105 :: r106)) >>= fun r108 => pure (x107 :: r108)) >>= fun r110 => pure (x109 :: r110)) >>= tupD) >>= fun x111 => ((((pure (D.bl true)) >>= fun x101 => ((pure (D.int 2)) >>= fun x99 => (pure []) >>= fun r100 => pure (x99 :: r100)) >>= fun r102 => pure (x101 :: r102)) >>= tupD) >>= fun x103 => (pure []) >>= fun r104 => pure (x103 :: r104)) >>= fun r112 => pure (x111 :: r112)) >>= fun r114 => pure (x113 :: r114)) >>= fun r120 => pure (x119 :: r120)) >>= fun r126 => pure (x125 :: r126)) >>= fun r132 => pure (x131 :: r132)) >>= fun r134 => pure (x133 :: r134)) >>= fun r136 => pure (x135 :: r136)) >>= fun r138 => pure (x137 :: r138)) >>= lstD) >>= fun x139 => pure (Fl.nx x139)) fun bad_ =>
        seqF (γ := Unit) (α := D × D) (((((pure hand_) >>= fun x151 => (((pure many_) >>= fun x147 => (pure (D.int 1)) >>= fun x148 => addD x147 x148) >>= fun x149 => (pure []) >>= fun r150 => pure (x149 :: r150)) >>= fun r152 => pure (x151 :: r152)) >>= onN 2 (law_draw_m 41)) >>= fun x153 => ((((pure hand_) >>= fun x143 => ((pure bad_) >>= fun x141 => (pure []) >>= fun r142 => pure (x141 :: r142)) >>= fun r144 => pure (x143 :: r144)) >>= onN 2 (VLib2.law_any_m 41)) >>= fun x145 => (pure []) >>= fun r146 => pure (x145 :: r146)) >>= fun r154 => pure (x153 :: r154)) >>= fun ds155 => un2 (D.tup ds155) >>= fun b156 => pure (Fl.nx b156)) fun b156 =>
        seqF (γ := Unit) (α := Unit) ((((((((((pure (D.lst row_)) >>= fun x172 => (pure none) >>= fun l175 => ((pure b156.1) >>= fun x173 => asI x173 >>= fun i174 => pure (some i174)) >>= fun h176 => sliceD x172 l175 h176) >>= fun x179 => (((pure b156.2) >>= fun x177 => (pure []) >>= fun r178 => pure (x177 :: r178)) >>= lstD) >>= fun x180 => addD x179 x180) >>= fun x186 => ((pure (D.lst row_)) >>= fun x181 => ((pure b156.1) >>= fun x182 => asI x182 >>= fun i183 => pure (some i183)) >>= fun l184 => (pure none) >>= fun h185 => sliceD x181 l184 h185) >>= fun x187 => addD x186 x187) >>= fun x188 => (pure []) >>= fun r189 => pure (x188 :: r189)) >>= onN 1 law_is_none_m) >>= truB) >>= fun k190 => pure (!k190)) >>= fun k191 => if k191 = true then pure true else (((((((((pure (D.lst row_)) >>= fun x158 => (pure none) >>= fun l161 => ((pure b156.1) >>= fun x159 => asI x159 >>= fun i160 => pure (some i160)) >>= fun h162 => sliceD x158 l161 h162) >>= fun x163 => (pure []) >>= fun r164 => pure (x163 :: r164)) >>= on1 tuple1) >>= fun x167 => (((pure b156.2) >>= fun x165 => (pure []) >>= fun r166 => pure (x165 :: r166)) >>= tupD) >>= fun x168 => addD x167 x168) >>= fun x169 => (pure []) >>= fun r170 => pure (x169 :: r170)) >>= onN 1 law_is_none_m) >>= truB) >>= fun k171 => pure (!k171))) >>= fun k193 => if k193 = true then (((pure (D.bl false)) >>= fun x192 => pure (Fl.rt x192))) else (pure (Fl.nx ()))) fun s157 =>
        pure (Fl.nx ())) ds194 ()) fun s5 =>
    seqF (γ := Unit) (α := D) ((((pure hand_) >>= fun x213 => ((((pure D.non) >>= fun x209 => ((pure (D.int 3)) >>= fun x207 => ((pure (D.bl true)) >>= fun x205 => ((((pure (D.str "1")) >>= fun x201 => (pure []) >>= fun r202 => pure (x201 :: r202)) >>= lstD) >>= fun x203 => (((pure []) >>= tupD) >>= fun x199 => ((pure D.emp) >>= fun x197 => (pure []) >>= fun r198 => pure (x197 :: r198)) >>= fun r200 => pure (x199 :: r200)) >>= fun r204 => pure (x203 :: r204)) >>= fun r206 => pure (x205 :: r206)) >>= fun r208 => pure (x207 :: r208)) >>= fun r210 => pure (x209 :: r210)) >>= lstD) >>= fun x211 => (pure []) >>= fun r212 => pure (x211 :: r212)) >>= fun r214 => pure (x213 :: r214)) >>= onN 2 (VLib2.law_any_m 41)) >>= fun x215 => pure (Fl.nx x215)) fun odd_ =>
    seqF (γ := Unit) (α := Unit) ((((((((pure hand_) >>= fun x231 => ((((pure D.non) >>= fun x227 => ((pure (D.int 3)) >>= fun x225 => ((pure (D.bl true)) >>= fun x223 => ((pure (D.str "1/2 3")) >>= fun x221 => ((pure D.emp) >>= fun x219 => ((pure D.emp) >>= fun x217 => (pure []) >>= fun r218 => pure (x217 :: r218)) >>= fun r220 => pure (x219 :: r220)) >>= fun r222 => pure (x221 :: r222)) >>= fun r224 => pure (x223 :: r224)) >>= fun r226 => pure (x225 :: r226)) >>= fun r228 => pure (x227 :: r228)) >>= lstD) >>= fun x229 => (pure []) >>= fun r230 => pure (x229 :: r230)) >>= fun r232 => pure (x231 :: r232)) >>= onN 2 (VLib2.law_any_m 41)) >>= fun x233 => (pure []) >>= fun r234 => pure (x233 :: r234)) >>= onN 1 law_is_none_m) >>= truB) >>= fun k235 => pure (!k235)) >>= fun k237 => if k237 = true then (((pure (D.bl false)) >>= fun x236 => pure (Fl.rt x236))) else (pure (Fl.nx ()))) fun s216 =>
    ((((placeM "BadText" "at" "read" (((pure odd_) >>= fun x240 => (pure []) >>= fun r241 => pure (x240 :: r241)) >>= onN 1 read_numbers_m)) >>= fun x242 => ((pure (D.int 0)) >>= fun x238 => (pure []) >>= fun r239 => pure (x238 :: r239)) >>= fun r243 => pure (x242 :: r243)) >>= onN 2 VLib2.law_like_m) >>= fun x244 => pure (Fl.rt x244))
def law_d : List D → M (Fl Unit Unit)
  | [script_] => law_b script_
  | _ => no
def law_m (ds : List D) : M D := bodyM (law_d ds)
end K62

set_option maxHeartbeats 2000000
namespace K62
open PySem PySem.Spec PyProof.Rows L2 VL VLib
def top (i : Nat) : Stmt := PySem.Challenge.pw_creasehall_k62_whole_texts_of_numbers_wo.main.body.getD i (.Pass ⟨0, 0, 0, 0⟩)
section
variable {P : Program} {w : World} {K : PySem.W.Frag} {mg : Str → Option Value} {base : Heap} {T : List (Addr × Str)}
abbrev slaw_hand_ : Stmt := top 18
theorem sc_law_hand_ : FnScope ["script", "cells", "cell"] ["script"] (defScope slaw_hand_) := ⟨rfl, rfl, rfl, by decide +kernel, rfl, by decide +kernel, by decide +kernel⟩
theorem ok_law_hand_ {f : Addr} {fd : FuncData} (F : FnP K "_law_hand" slaw_hand_ f fd) (z_int : mg "int" = none) (z_abs : mg "abs" = none) (z_len : mg "len" = none) : VFn false P w K mg base T 1 f fd ["script"] (VLib2.law_hand_m 6203 13) := by
  refine vfn_ofD F sc_law_hand_ fun cdv A outer s H E ds lkf hcd hci hr hγ hl => ?_
  have nd := sc_law_hand_.nd
  match ds, hl with
  | [script_], _ =>
    show VB _ _ _ _ [.fz script_, .no, .no] _ _ _ ((VLib2.law_hand_b 6203 13) script_)
    unfold VLib2.law_hand_b
    refine vb_cons (emb1 := (fun cells_ : List D => [.fz script_, .ow cells_, .no])) ?_ fun cells_ => ?_
    · exact vs_newLc 1 [("cell", 2)] [.fz script_, .no, .no] rfl nd (VI.c (vi_row (ve_slice (ve_var 0) vo_none (vo_some ve_int)))) (by rfl) (fun s H C cl fp => (vg_name 2 nd)) (fun s H C cl fp cell_ => vc_nil) (fun s H C cl fp cell_ => (ve_op op_modN d_mod (ve_callTy call_int1 d_int z_int (by decide +kernel) (va_cons (ve_callB call_abs d_abs z_abs (by decide +kernel) (va_cons (ve_callTy call_int1 d_int z_int (by decide +kernel) (va_cons (ve_var 2) va_nil)) va_nil)) va_nil)) (ve_op op_pow d_pow ve_int ve_int))) (by decide) (sle_eq (sle_eq (sle_eq sle_nil))) (by simp) (fun d S b S' h => by first | exact un2_st d S b S' h | exact un3_st d S b S' h | exact un4_st d S b S' h | (cases h; rfl))
    refine vb_freeze 1 rfl ?_
    show VB _ _ _ _ [.fz script_, .fz (D.lst cells_), .no] _ _ _ _
    exact vb_one (vs_ret (VN.cell (vn_lst (va_cons (ve_var 1) (va_cons ve_int (va_cons ve_int (va_cons (ve_op op_addD d_add ve_int (ve_op op_mulV d_mul ve_int (ve_callB call_len d_len z_len (by decide +kernel) (va_cons (ve_var 1) va_nil)))) (va_cons ve_int va_nil))))))))
abbrev slaw_draw_ : Stmt := top 19
theorem sc_law_draw_ : FnScope ["hand", "many", "cell", "digit", "number"] ["hand", "many"] (defScope slaw_draw_) := ⟨rfl, rfl, rfl, by decide +kernel, rfl, by decide +kernel, by decide +kernel⟩
theorem ok_law_draw_ {f : Addr} {fd : FuncData} (F : FnP K "_law_draw" slaw_draw_ f fd) (z_len : mg "len" = none) (z_int : mg "int" = none) : VFn false P w K mg base T 1 f fd ["hand", "many"] (law_draw_m 41) := by
  refine vfn_ofD F sc_law_draw_ fun cdv A outer s H E ds lkf hcd hci hr hγ hl => ?_
  have nd := sc_law_draw_.nd
  match ds, hl with
  | [hand_, many_], _ =>
    show VB _ _ _ _ [.fz hand_, .fz many_, .no, .no, .no] _ _ _ ((law_draw_b 41) hand_ many_)
    unfold law_draw_b
    refine vb_cons (emb1 := (fun s1 : Unit => [.fz hand_, .fz many_, .no, .no, .no])) ?_ fun s1 => ?_
    · refine vs_if (VW.vt (vw_and (vt_cmp (op_eqD hr.units) d_eq (ve_item (ve_var 0) ve_int) ve_int) (vw_and1 (vt_cmp op_lt d_lt (ve_item (ve_var 0) ve_int) (ve_callB call_len d_len z_len (by decide +kernel) (va_cons (ve_item (ve_var 0) ve_int) va_nil)))))) ?_ ?_
      · refine vb_cons (emb1 := (fun cell_ : D => [.fz hand_, .fz many_, .fz cell_, .no, .no])) ?_ fun cell_ => ?_
        · exact vs_set 2 (ve_item (ve_item (ve_var 0) ve_int) (ve_item (ve_var 0) ve_int)) nd
        refine vb_cons (emb1 := (fun _ : Unit => [.fz hand_, .fz many_, .fz cell_, .no, .no])) ?_ fun _ => ?_
        · exact vs_cell (ve_op op_addD d_add (ve_item (ve_var 0) ve_int) ve_int) (ve_var 0) ve_int
        refine vb_cons (emb1 := (fun _ : Unit => [.fz hand_, .fz many_, .fz cell_, .no, .no])) ?_ fun _ => ?_
        · exact vs_cell (ve_op op_modN d_mod (ve_callTy call_int1 d_int z_int (by decide +kernel) (va_cons (ve_op op_addD d_add (ve_op op_addD d_add (ve_op op_mulV d_mul (ve_item (ve_var 0) ve_int) ve_int) (ve_op op_mulV d_mul (ve_var 2) ve_int)) ve_int) va_nil)) ve_int) (ve_var 0) ve_int
        refine vb_cons (emb1 := (fun s49 : Unit => [.fz hand_, .fz many_, .fz cell_, .no, .no])) ?_ fun s49 => ?_
        · refine vs_if (vt_cmp op_ge d_ge (ve_var 2) (ve_op op_pow d_pow ve_int ve_int)) ?_ ?_
          · refine vb_cons (emb1 := (fun _ : Unit => [.fz hand_, .fz many_, .fz cell_, .no, .no])) ?_ fun _ => ?_
            · exact vs_cell (ve_var 2) (ve_var 0) ve_int
            exact vb_nil () (sle_eq (sle_eq (sle_eq (sle_no (sle_no sle_nil)))))
          · exact vb_nil () (sle_eq (sle_eq (sle_eq (sle_no (sle_no sle_nil)))))
        exact vb_nil () (sle_eq (sle_eq (sle_no (sle_no (sle_no sle_nil)))))
      · exact vb_nil () (sle_eq (sle_eq (sle_no (sle_no (sle_no sle_nil)))))
    refine vb_cons (emb1 := (fun s60 : Unit => [.fz hand_, .fz many_, .no, .no, .no])) ?_ fun s60 => ?_
    · refine vs_if (vt_cmp op_gt d_gt (ve_item (ve_var 0) ve_int) ve_int) ?_ ?_
      · refine vb_cons (emb1 := (fun digit_ : D => [.fz hand_, .fz many_, .no, .fz digit_, .no])) ?_ fun digit_ => ?_
        · exact vs_set 3 (ve_op op_modN d_mod (ve_callTy call_int1 d_int z_int (by decide +kernel) (va_cons (ve_item (ve_var 0) ve_int) va_nil)) (ve_var 1)) nd
        refine vb_cons (emb1 := (fun _ : Unit => [.fz hand_, .fz many_, .no, .fz digit_, .no])) ?_ fun _ => ?_
        · exact vs_cell (ve_op op_fdivV d_fdiv (ve_item (ve_var 0) ve_int) (ve_var 1)) (ve_var 0) ve_int
        exact vb_one (vs_ret (ve_var 3))
      · exact vb_nil () (sle_eq (sle_eq (sle_no (sle_no (sle_no sle_nil)))))
    refine vb_cons (emb1 := (fun _ : Unit => [.fz hand_, .fz many_, .no, .no, .no])) ?_ fun _ => ?_
    · exact vs_cell (ve_op op_addD d_add (ve_item (ve_var 0) ve_int) ve_int) (ve_var 0) ve_int
    refine vb_cons (emb1 := (fun number_ : D => [.fz hand_, .fz many_, .no, .no, .fz number_])) ?_ fun number_ => ?_
    · exact vs_set 4 (ve_op op_modN d_mod (ve_callTy call_int1 d_int z_int (by decide +kernel) (va_cons (ve_op op_mulV d_mul (ve_callTy call_int1 d_int z_int (by decide +kernel) (va_cons (ve_op op_addD d_add (ve_item (ve_var 0) ve_int) (ve_op op_mulV d_mul ve_int (ve_item (ve_var 0) ve_int))) va_nil)) ve_int) va_nil)) ve_int) nd
    refine vb_cons (emb1 := (fun number_ : D => [.fz hand_, .fz many_, .no, .no, .fz number_])) ?_ fun number_ => ?_
    · exact vs_set 4 (ve_op op_modN d_mod (ve_callTy call_int1 d_int z_int (by decide +kernel) (va_cons (ve_op op_mulV d_mul (ve_var 4) (ve_op op_addD d_add (ve_op op_fdivV d_fdiv (ve_var 4) ve_int) ve_int)) va_nil)) ve_int) nd
    refine vb_cons (emb1 := (fun number_ : D => [.fz hand_, .fz many_, .no, .no, .fz number_])) ?_ fun number_ => ?_
    · exact vs_set 4 (ve_op op_modN d_mod (ve_callTy call_int1 d_int z_int (by decide +kernel) (va_cons (ve_op op_mulV d_mul (ve_var 4) (ve_op op_addD d_add (ve_op op_fdivV d_fdiv (ve_var 4) ve_int) ve_int)) va_nil)) ve_int) nd
    exact vb_one (vs_ret (ve_op op_modN d_mod (ve_callTy call_int1 d_int z_int (by decide +kernel) (va_cons (ve_op op_fdivV d_fdiv (ve_var 4) ve_int) va_nil)) (ve_var 1)))
abbrev slaw_any_ : Stmt := top 20
theorem sc_law_any_ : FnScope ["hand", "things"] ["hand", "things"] (defScope slaw_any_) := ⟨rfl, rfl, rfl, by decide +kernel, rfl, by decide +kernel, by decide +kernel⟩
theorem ok_law_any_ {f : Addr} {fd : FuncData} (F : FnP K "_law_any" slaw_any_ f fd) (z_len : mg "len" = none) (G_law_draw_ : DOk false P w K mg base T 1 "_law_draw" ["hand", "many"] (law_draw_m 41)) : VFn false P w K mg base T 2 f fd ["hand", "things"] (VLib2.law_any_m 41) := by
  refine vfn_ofD F sc_law_any_ fun cdv A outer s H E ds lkf hcd hci hr hγ hl => ?_
  have nd := sc_law_any_.nd
  match ds, hl with
  | [hand_, things_], _ =>
    show VB _ _ _ _ [.fz hand_, .fz things_] _ _ _ ((VLib2.law_any_b 41) hand_ things_)
    unfold VLib2.law_any_b
    exact vb_one (vs_ret (ve_item (ve_var 1) (ve_dcall G_law_draw_ (hr.mono (by decide)) (by intro h; cases h) takesB (va_cons (ve_var 0) (va_cons (ve_callB call_len d_len z_len (by decide +kernel) (va_cons (ve_var 1) va_nil)) va_nil)))))
abbrev slaw_like_ : Stmt := top 21
theorem sc_law_like_ : FnScope ["told", "due"] ["told", "due"] (defScope slaw_like_) := ⟨rfl, rfl, rfl, by decide +kernel, rfl, by decide +kernel, by decide +kernel⟩
theorem ok_law_like_ {f : Addr} {fd : FuncData} (F : FnP K "_law_like" slaw_like_ f fd) (z_repr : mg "repr" = none) : VFn true P w K mg base T 1 f fd ["told", "due"] VLib2.law_like_m := by
  refine vfn_ofD F sc_law_like_ fun cdv A outer s H E ds lkf hcd hci hr hγ hl => ?_
  have nd := sc_law_like_.nd
  have hru := hr.reprV
  match ds, hl with
  | [told_, due_], _ =>
    show VB _ _ _ _ [.fz told_, .fz due_] _ _ _ (VLib2.law_like_b told_ due_)
    unfold VLib2.law_like_b
    exact vb_one (vs_ret (ve_cmp (op_eqD hr.units) d_eq (ve_callB (call_reprV (hγ rfl) hru) d_repr z_repr (by decide +kernel) (va_cons (ve_var 0) va_nil)) (ve_callB (call_reprV (hγ rfl) hru) d_repr z_repr (by decide +kernel) (va_cons (ve_var 1) va_nil))))
abbrev sis_row_ : Stmt := top 6
theorem sc_is_row_ : FnScope ["thing"] ["thing"] (defScope sis_row_) := ⟨rfl, rfl, rfl, by decide +kernel, rfl, by decide +kernel, by decide +kernel⟩
theorem ok_is_row_ {f : Addr} {fd : FuncData} (F : FnP K "is_row" sis_row_ f fd) (z_isinstance : mg "isinstance" = none) (z_list : mg "list" = none) (z_tuple : mg "tuple" = none) : VFn false P w K mg base T 1 f fd ["thing"] is_row_m := by
  refine vfn_ofD F sc_is_row_ fun cdv A outer s H E ds lkf hcd hci hr hγ hl => ?_
  have nd := sc_is_row_.nd
  match ds, hl with
  | [thing_], _ =>
    show VB _ _ _ _ [.fz thing_] _ _ _ (is_row_b thing_)
    unfold is_row_b
    exact vb_one (vs_ret (ve_isa2 z_isinstance ⟨rfl, z_list, by decide +kernel, by decide, by decide⟩ ⟨rfl, z_tuple, by decide +kernel, by decide, by decide⟩ (ve_var 0)))
abbrev sfrac_word_ : Stmt := top 13
theorem sc_frac_word_ : FnScope ["one"] ["one"] (defScope sfrac_word_) := ⟨rfl, rfl, rfl, by decide +kernel, rfl, by decide +kernel, by decide +kernel⟩
theorem ok_frac_word_ {f : Addr} {fd : FuncData} (F : FnP K "frac_word" sfrac_word_ f fd) (z_str : mg "str" = none) : VFn false P w K mg base T 1 f fd ["one"] VLib2.frac_word_m := by
  refine vfn_ofD F sc_frac_word_ fun cdv A outer s H E ds lkf hcd hci hr hγ hl => ?_
  have nd := sc_frac_word_.nd
  match ds, hl with
  | [one_], _ =>
    show VB _ _ _ _ [.fz one_] _ _ _ (VLib2.frac_word_b one_)
    unfold VLib2.frac_word_b
    exact vb_one (vs_ret (ve_if (vt_cmp (op_eqD hr.units) d_eq (ve_item (ve_var 0) ve_int) ve_int) (ve_callTy call_str_int d_str z_str (by decide +kernel) (va_cons (ve_item (ve_var 0) ve_int) va_nil)) (ve_fstr (VJ.fmt (ve_item (ve_var 0) ve_int) (VJ.txt (VJ.fmt (ve_item (ve_var 0) ve_int) VJ.nil))))))
abbrev scommon_part_ : Stmt := top 7
theorem sc_common_part_ : FnScope ["one", "other"] ["one", "other"] (defScope scommon_part_) := ⟨rfl, rfl, rfl, by decide +kernel, rfl, by decide +kernel, by decide +kernel⟩
theorem ok_common_part_ {f : Addr} {fd : FuncData} (F : FnP K "common_part" scommon_part_ f fd) (z_abs : mg "abs" = none) : VFn false P w K mg base T 1 f fd ["one", "other"] common_part_m := by
  refine vfn_ofD F sc_common_part_ fun cdv A outer s H E ds lkf hcd hci hr hγ hl => ?_
  have nd := sc_common_part_.nd
  match ds, hl with
  | [one_, other_], _ =>
    show VB _ _ _ _ [.fz one_, .fz other_] _ _ _ (common_part_b one_ other_)
    unfold common_part_b
    refine vb_cons (emb1 := (fun one_ : D => [.fz one_, .fz other_])) ?_ fun one_ => ?_
    · exact vs_set 0 (ve_callB call_abs d_abs z_abs (by decide +kernel) (va_cons (ve_var 0) va_nil)) nd
    refine vb_cons (emb1 := (fun other_ : D => [.fz one_, .fz other_])) ?_ fun other_ => ?_
    · exact vs_set 1 (ve_callB call_abs d_abs z_abs (by decide +kernel) (va_cons (ve_var 1) va_nil)) nd
    refine vb_cons (emb1 := (fun s9 : D × D => [.fz s9.1, .fz s9.2])) ?_ fun s9 => ?_
    · refine vs_while (embW := (fun s10 : D × D => [.fz s10.1, .fz s10.2])) (2 ^ 9000) (one_, other_) (sle_eq (sle_eq sle_nil)) passB (fun s10 => ?_) (fun s10 => ?_)
      · exact (vt_cmp op_gt d_gt (ve_var 1) ve_int)
      · refine vb_cons (emb1 := (fun b21 : D × D => [.fz b21.1, .fz b21.2])) ?_ fun b21 => ?_
        · exact vs_par2 0 1 (va_cons (ve_var 1) (va_cons (ve_op op_modN d_mod (ve_var 0) (ve_var 1)) va_nil)) rfl nd
        exact vb_nil (b21.1, b21.2) (sle_eq (sle_eq sle_nil))
    exact vb_one (vs_ret (ve_var 0))
abbrev sis_integer_ : Stmt := top 5
theorem sc_is_integer_ : FnScope ["thing"] ["thing"] (defScope sis_integer_) := ⟨rfl, rfl, rfl, by decide +kernel, rfl, by decide +kernel, by decide +kernel⟩
theorem ok_is_integer_ {f : Addr} {fd : FuncData} (F : FnP K "is_integer" sis_integer_ f fd) (z_isinstance : mg "isinstance" = none) (z_bool : mg "bool" = none) (z_int : mg "int" = none) : VFn false P w K mg base T 1 f fd ["thing"] is_integer_m := by
  refine vfn_ofD F sc_is_integer_ fun cdv A outer s H E ds lkf hcd hci hr hγ hl => ?_
  have nd := sc_is_integer_.nd
  match ds, hl with
  | [thing_], _ =>
    show VB _ _ _ _ [.fz thing_] _ _ _ (is_integer_b thing_)
    unfold is_integer_b
    exact vb_one (vs_ret (ve_and (ve_isa z_isinstance ⟨rfl, z_int, by decide +kernel, by decide, by decide⟩ (ve_var 0)) (ve_one (ve_not (ve_isa z_isinstance ⟨rfl, z_bool, by decide +kernel, by decide, by decide⟩ (ve_var 0))))))
abbrev sis_fraction_ : Stmt := top 8
theorem sc_is_fraction_ : FnScope ["thing"] ["thing"] (defScope sis_fraction_) := ⟨rfl, rfl, rfl, by decide +kernel, rfl, by decide +kernel, by decide +kernel⟩
theorem ok_is_fraction_ {f : Addr} {fd : FuncData} (F : FnP K "is_fraction" sis_fraction_ f fd) (z_len : mg "len" = none) (z_isinstance : mg "isinstance" = none) (z_tuple : mg "tuple" = none) (G_is_integer_ : DOk false P w K mg base T 1 "is_integer" ["thing"] is_integer_m) (G_common_part_ : DOk false P w K mg base T 1 "common_part" ["one", "other"] common_part_m) : VFn false P w K mg base T 2 f fd ["thing"] is_fraction_m := by
  refine vfn_ofD F sc_is_fraction_ fun cdv A outer s H E ds lkf hcd hci hr hγ hl => ?_
  have nd := sc_is_fraction_.nd
  match ds, hl with
  | [thing_], _ =>
    show VB _ _ _ _ [.fz thing_] _ _ _ (is_fraction_b thing_)
    unfold is_fraction_b
    refine vb_cons (emb1 := (fun s1 : Unit => [.fz thing_])) ?_ fun s1 => ?_
    · refine vs_if (VW.vt (vw_or (vt_not (vt_tru (ve_isa z_isinstance ⟨rfl, z_tuple, by decide +kernel, by decide, by decide⟩ (ve_var 0)))) (vw_or1 (vt_cmp (op_neD hr.units) d_ne (ve_callB call_len d_len z_len (by decide +kernel) (va_cons (ve_var 0) va_nil)) ve_int)))) ?_ ?_
      · exact vb_one (vs_ret ve_bl)
      · exact vb_nil () (sle_eq sle_nil)
    refine vb_cons (emb1 := (fun s10 : Unit => [.fz thing_])) ?_ fun s10 => ?_
    · refine vs_if (VW.vt (vw_or (vt_not (vt_tru (ve_dcall G_is_integer_ (hr.mono (by decide)) (by intro h; cases h) takesB (va_cons (ve_item (ve_var 0) ve_int) va_nil)))) (vw_or (vt_not (vt_tru (ve_dcall G_is_integer_ (hr.mono (by decide)) (by intro h; cases h) takesB (va_cons (ve_item (ve_var 0) ve_int) va_nil)))) (vw_or1 (vt_cmp op_lt d_lt (ve_item (ve_var 0) ve_int) ve_int))))) ?_ ?_
      · exact vb_one (vs_ret ve_bl)
      · exact vb_nil () (sle_eq sle_nil)
    exact vb_one (vs_ret (ve_cmp (op_eqD hr.units) d_eq (ve_dcall G_common_part_ (hr.mono (by decide)) (by intro h; cases h) takesB (va_cons (ve_item (ve_var 0) ve_int) (va_cons (ve_item (ve_var 0) ve_int) va_nil))) ve_int))
abbrev snumbers_text_ : Stmt := top 15
theorem sc_numbers_text_ : FnScope ["numbers", "item"] ["numbers"] (defScope snumbers_text_) := ⟨rfl, rfl, rfl, by decide +kernel, rfl, by decide +kernel, by decide +kernel⟩
theorem ok_numbers_text_ {f : Addr} {fd : FuncData} (F : FnP K "numbers_text" snumbers_text_ f fd) (z_all : mg "all" = none) (x_NoNumbers : XCls K (He.ga K "NoNumbers")) (g_NoNumbers : mg "NoNumbers" = some (.ref (He.ga K "NoNumbers"))) (G_is_fraction_ : DOk false P w K mg base T 2 "is_fraction" ["thing"] is_fraction_m) (G_is_row_ : DOk false P w K mg base T 1 "is_row" ["thing"] is_row_m) (G_frac_word_ : DOk false P w K mg base T 1 "frac_word" ["one"] VLib2.frac_word_m) : VFn false P w K mg base T 3 f fd ["numbers"] numbers_text_m := by
  refine vfn_ofD F sc_numbers_text_ fun cdv A outer s H E ds lkf hcd hci hr hγ hl => ?_
  have nd := sc_numbers_text_.nd
  match ds, hl with
  | [numbers_], _ =>
    show VB _ _ _ _ [.fz numbers_, .no] _ _ _ (numbers_text_b numbers_)
    unfold numbers_text_b
    refine vb_cons (emb1 := (fun s1 : Unit => [.fz numbers_, .no])) ?_ fun s1 => ?_
    · refine vs_if (VW.vt (vw_or (vt_not (vt_tru (ve_dcall G_is_row_ (hr.mono (by decide)) (by intro h; cases h) takesB (va_cons (ve_var 0) va_nil)))) (vw_or1 (vt_not (vt_tru (ve_callB (cr_all rfl) d_all z_all (by decide +kernel) (va_cons (VN.ve (vn_lc [("item", 1)] [.fz numbers_, .no] rfl nd (VI.c (vi_row (ve_var 0))) (by rfl) (fun s H C cl fp => (vg_name 1 nd)) (fun s H C cl fp item_ => vc_nil) (fun s H C cl fp item_ => (ve_dcall (ps := ["thing"]) G_is_fraction_ (hr.mono (by decide)) (by intro h; cases h) takesF (va_cons (ve_var 1) va_nil))) (by decide) (sle_eq (sle_eq sle_nil)) (by simp) (fun d S b S' h => by first | exact un2_st d S b S' h | exact un3_st d S b S' h | exact un4_st d S b S' h | (cases h; rfl)))) va_nil))))))) ?_ ?_
      · exact vb_one (vs_raise0 x_NoNumbers g_NoNumbers takesB rfl)
      · exact vb_nil () (sle_eq (sle_no sle_nil))
    exact vb_one (vs_ret (ve_smeth PySem.F.plainAttrs_str PySem.F.slot_str_join PySem.F.type_str_join mt_join d_join ve_str (va_cons (VN.ve (vn_lc [("item", 1)] [.fz numbers_, .no] rfl nd (VI.c (vi_row (ve_var 0))) (by rfl) (fun s H C cl fp => (vg_name 1 nd)) (fun s H C cl fp item_ => vc_nil) (fun s H C cl fp item_ => (ve_dcall (ps := ["one"]) G_frac_word_ (hr.mono (by decide)) (by intro h; cases h) takesF (va_cons (ve_var 1) va_nil))) (by decide) (sle_eq (sle_eq sle_nil)) (by simp) (fun d S b S' h => by first | exact un2_st d S b S' h | exact un3_st d S b S' h | exact un4_st d S b S' h | (cases h; rfl)))) va_nil)))
abbrev slaw_is_none_ : Stmt := top 32
theorem sc_law_is_none_ : FnScope ["thing", "error"] ["thing"] (defScope slaw_is_none_) := ⟨rfl, rfl, rfl, by decide +kernel, rfl, by decide +kernel, by decide +kernel⟩
theorem ok_law_is_none_ {f : Addr} {fd : FuncData} (F : FnP K "_law_is_none" slaw_is_none_ f fd) (z_isinstance : mg "isinstance" = none) (t_NoNumbers : EOk K mg (He.ga K "FoldError") (He.ga K "NoNumbers") [("NoNumbers", He.ga K "NoNumbers", true)]) (g_FoldError : mg "FoldError" = some (.ref (He.ga K "FoldError"))) (g_NoNumbers : mg "NoNumbers" = some (.ref (He.ga K "NoNumbers"))) (G_numbers_text_ : DOk false P w K mg base T 3 "numbers_text" ["numbers"] numbers_text_m) : VFn false P w K mg base T 4 f fd ["thing"] law_is_none_m := by
  refine vfn_ofD F sc_law_is_none_ fun cdv A outer s H E ds lkf hcd hci hr hγ hl => ?_
  have nd := sc_law_is_none_.nd
  match ds, hl with
  | [thing_], _ =>
    show VB _ _ _ _ [.fz thing_, .no] _ _ _ (law_is_none_b thing_)
    unfold law_is_none_b
    refine vb_cons (emb1 := (fun _ : Unit => [.fz thing_, .no])) ?_ fun _ => ?_
    · refine vs_tryisn2 1 t_NoNumbers g_FoldError g_NoNumbers z_isinstance nd takesB ?_ ?_ (fun W pn xe tk => ?_) (fun _ _ => ?_) ?_ ?_ ?_ ?_ (by decide) (by decide) (by decide) (by decide) ?_ ?_ ?_ ?_
      · rfl
      · show 1 < 2
        decide
      · exact (ve_dcall (ps := ["numbers"]) G_numbers_text_ (hr.mono (by decide)) (by intro h; cases h) tk (va_cons (ve_var 0) va_nil))
      · rfl
      · rfl
      · rfl
      · rfl
      · rfl
      · rfl
      · rfl
      · rfl
      · show ("error" : Str) ∈ (["thing", "error"] : List Str)
        decide
    exact vb_one (vs_ret ve_bl)
abbrev slaw_place_ : Stmt := top 28
theorem sc_law_place_ : FnScope ["call", "error"] ["call"] (defScope slaw_place_) := ⟨rfl, rfl, rfl, by decide +kernel, rfl, by decide +kernel, by decide +kernel⟩
abbrev Ilaw_place_ (K : PySem.W.Frag) (mg : Str → Option Value) : Prop := PlcI K mg "BadText" "at" "read" "_law_place" "call" ["call", "error"] (defScope slaw_place_) (defBody slaw_place_) (defArgs slaw_place_)
abbrev slaw_low_ : Stmt := top 22
theorem sc_law_low_ : FnScope ["top", "bottom", "one", "other"] ["top", "bottom"] (defScope slaw_low_) := ⟨rfl, rfl, rfl, by decide +kernel, rfl, by decide +kernel, by decide +kernel⟩
theorem ok_law_low_ {f : Addr} {fd : FuncData} (F : FnP K "_law_low" slaw_low_ f fd) (z_abs : mg "abs" = none) (z_int : mg "int" = none) : VFn false P w K mg base T 1 f fd ["top", "bottom"] VLib2.law_low_m := by
  refine vfn_ofD F sc_law_low_ fun cdv A outer s H E ds lkf hcd hci hr hγ hl => ?_
  have nd := sc_law_low_.nd
  match ds, hl with
  | [top_, bottom_], _ =>
    show VB _ _ _ _ [.fz top_, .fz bottom_, .no, .no] _ _ _ (VLib2.law_low_b top_ bottom_)
    unfold VLib2.law_low_b
    refine vb_cons (emb1 := (fun one_ : D => [.fz top_, .fz bottom_, .fz one_, .no])) ?_ fun one_ => ?_
    · exact vs_set 2 (ve_callB call_abs d_abs z_abs (by decide +kernel) (va_cons (ve_var 0) va_nil)) nd
    refine vb_cons (emb1 := (fun other_ : D => [.fz top_, .fz bottom_, .fz one_, .fz other_])) ?_ fun other_ => ?_
    · exact vs_set 3 (ve_callB call_abs d_abs z_abs (by decide +kernel) (va_cons (ve_var 1) va_nil)) nd
    refine vb_cons (emb1 := (fun s9 : D × D => [.fz top_, .fz bottom_, .fz s9.1, .fz s9.2])) ?_ fun s9 => ?_
    · refine vs_while (embW := (fun s10 : D × D => [.fz top_, .fz bottom_, .fz s10.1, .fz s10.2])) (2 ^ 9000) (one_, other_) (sle_eq (sle_eq (sle_eq (sle_eq sle_nil)))) passB (fun s10 => ?_) (fun s10 => ?_)
      · exact (vt_cmp op_gt d_gt (ve_var 3) ve_int)
      · refine vb_cons (emb1 := (fun b23 : D × D => [.fz top_, .fz bottom_, .fz b23.1, .fz b23.2])) ?_ fun b23 => ?_
        · exact vs_par2 2 3 (va_cons (ve_var 3) (va_cons (ve_op op_modN d_mod (ve_callTy call_int1 d_int z_int (by decide +kernel) (va_cons (ve_var 2) va_nil)) (ve_var 3)) va_nil)) rfl nd
        exact vb_nil (b23.1, b23.2) (sle_eq (sle_eq (sle_eq (sle_eq sle_nil))))
    refine vb_cons (emb1 := (fun s24 : D => [.fz top_, .fz bottom_, .fz s24, .fz s9.2])) ?_ fun s24 => ?_
    · refine vs_if (vt_cmp op_lt d_lt (ve_var 1) ve_int) ?_ ?_
      · refine vb_cons (emb1 := (fun one_ : D => [.fz top_, .fz bottom_, .fz one_, .fz s9.2])) ?_ fun one_ => ?_
        · exact vs_set 2 (ve_un un_neg d_neg (ve_var 2)) nd
        exact vb_nil one_ (sle_eq (sle_eq (sle_eq (sle_eq sle_nil))))
      · exact vb_nil s9.1 (sle_eq (sle_eq (sle_eq (sle_eq sle_nil))))
    exact vb_one (vs_ret (ve_tup (va_cons (ve_op op_fdivV d_fdiv (ve_var 0) (ve_var 2)) (va_cons (ve_op op_fdivV d_fdiv (ve_var 1) (ve_var 2)) va_nil))))
abbrev slaw_digits_ : Stmt := top 23
theorem sc_law_digits_ : FnScope ["hand", "most", "many"] ["hand", "most"] (defScope slaw_digits_) := ⟨rfl, rfl, rfl, by decide +kernel, rfl, by decide +kernel, by decide +kernel⟩
theorem ok_law_digits_ {f : Addr} {fd : FuncData} (F : FnP K "_law_digits" slaw_digits_ f fd) (z_int : mg "int" = none) (G_law_draw_ : DOk false P w K mg base T 1 "_law_draw" ["hand", "many"] (law_draw_m 41)) : VFn false P w K mg base T 2 f fd ["hand", "most"] (VLib2.law_digits_m 41) := by
  refine vfn_ofD F sc_law_digits_ fun cdv A outer s H E ds lkf hcd hci hr hγ hl => ?_
  have nd := sc_law_digits_.nd
  match ds, hl with
  | [hand_, most_], _ =>
    show VB _ _ _ _ [.fz hand_, .fz most_, .no] _ _ _ ((VLib2.law_digits_b 41) hand_ most_)
    unfold VLib2.law_digits_b
    refine vb_cons (emb1 := (fun many_ : D => [.fz hand_, .fz most_, .fz many_])) ?_ fun many_ => ?_
    · exact vs_set 2 (ve_op op_addD d_add ve_int (ve_dcall G_law_draw_ (hr.mono (by decide)) (by intro h; cases h) takesB (va_cons (ve_var 0) (va_cons (ve_var 1) va_nil)))) nd
    exact vb_one (vs_ret (ve_dcall G_law_draw_ (hr.mono (by decide)) (by intro h; cases h) takesB (va_cons (ve_var 0) (va_cons (ve_callTy call_intX d_intX z_int (by decide +kernel) (va_cons (ve_op op_addD d_add ve_str (ve_op op_mulS d_mulS ve_str (ve_var 2))) va_nil)) va_nil))))
abbrev slaw_drawn_fraction_ : Stmt := top 24
theorem sc_law_drawn_fraction_ : FnScope ["hand", "size", "top"] ["hand"] (defScope slaw_drawn_fraction_) := ⟨rfl, rfl, rfl, by decide +kernel, rfl, by decide +kernel, by decide +kernel⟩
theorem ok_law_drawn_fraction_ {f : Addr} {fd : FuncData} (F : FnP K "_law_drawn_fraction" slaw_drawn_fraction_ f fd) (G_law_any_ : DOk false P w K mg base T 2 "_law_any" ["hand", "things"] (VLib2.law_any_m 41)) (G_law_digits_ : DOk false P w K mg base T 2 "_law_digits" ["hand", "most"] (VLib2.law_digits_m 41)) (G_law_low_ : DOk false P w K mg base T 1 "_law_low" ["top", "bottom"] VLib2.law_low_m) (G_law_draw_ : DOk false P w K mg base T 1 "_law_draw" ["hand", "many"] (law_draw_m 41)) : VFn false P w K mg base T 3 f fd ["hand"] (VLib2.law_drawn_fraction_m 41) := by
  refine vfn_ofD F sc_law_drawn_fraction_ fun cdv A outer s H E ds lkf hcd hci hr hγ hl => ?_
  have nd := sc_law_drawn_fraction_.nd
  match ds, hl with
  | [hand_], _ =>
    show VB _ _ _ _ [.fz hand_, .no, .no] _ _ _ ((VLib2.law_drawn_fraction_b 41) hand_)
    unfold VLib2.law_drawn_fraction_b
    refine vb_cons (emb1 := (fun size_ : D => [.fz hand_, .fz size_, .no])) ?_ fun size_ => ?_
    · exact vs_set 1 (ve_dcall G_law_any_ (hr.mono (by decide)) (by intro h; cases h) takesB (va_cons (ve_var 0) (va_cons (ve_lst (va_cons ve_int (va_cons ve_int (va_cons ve_int (va_cons ve_int (va_cons ve_int va_nil)))))) va_nil))) nd
    refine vb_cons (emb1 := (fun top_ : D => [.fz hand_, .fz size_, .fz top_])) ?_ fun top_ => ?_
    · exact vs_set 2 (ve_op op_mulV d_mul (ve_dcall G_law_digits_ (hr.mono (by decide)) (by intro h; cases h) takesB (va_cons (ve_var 0) (va_cons (ve_var 1) va_nil))) (ve_dcall G_law_any_ (hr.mono (by decide)) (by intro h; cases h) takesB (va_cons (ve_var 0) (va_cons (ve_lst (va_cons ve_int (va_cons ve_int (va_cons (ve_op op_sub d_sub ve_int ve_int) va_nil)))) va_nil)))) nd
    exact vb_one (vs_ret (ve_dcall G_law_low_ (hr.mono (by decide)) (by intro h; cases h) takesB (va_cons (ve_var 2) (va_cons (ve_op op_addD d_add ve_int (ve_op op_mulV d_mul (ve_dcall G_law_digits_ (hr.mono (by decide)) (by intro h; cases h) takesB (va_cons (ve_var 0) (va_cons (ve_var 1) va_nil))) (ve_dcall G_law_draw_ (hr.mono (by decide)) (by intro h; cases h) takesB (va_cons (ve_var 0) (va_cons ve_int va_nil))))) va_nil))))
abbrev sis_whole_text_ : Stmt := top 11
theorem sc_is_whole_text_ : FnScope ["text", "sign"] ["text"] (defScope sis_whole_text_) := ⟨rfl, rfl, rfl, by decide +kernel, rfl, by decide +kernel, by decide +kernel⟩
theorem ok_is_whole_text_ {f : Addr} {fd : FuncData} (F : FnP K "is_whole_text" sis_whole_text_ f fd) (z_any : mg "any" = none) (h_DIGITS : ConstG K mg "DIGITS" VLib2.c_DIGITS) : VFn false P w K mg base T 1 f fd ["text"] VLib2.is_whole_text_m := by
  refine vfn_ofD F sc_is_whole_text_ fun cdv A outer s H E ds lkf hcd hci hr hγ hl => ?_
  have nd := sc_is_whole_text_.nd
  match ds, hl with
  | [text_], _ =>
    show VB _ _ _ _ [.fz text_, .no] _ _ _ (VLib2.is_whole_text_b text_)
    unfold VLib2.is_whole_text_b
    refine vb_cons (emb1 := (fun s1 : Unit => [.fz text_, .no])) ?_ fun s1 => ?_
    · refine vs_if (VW.vt (vw_or (vt_cmp (op_eqD hr.units) d_eq (ve_var 0) ve_str) (vw_or1 (vt_tru (ve_callB (cr_any rfl) d_any z_any (by decide +kernel) (va_cons (VN.ve (vn_lc [("sign", 1)] [.fz text_, .no] rfl nd (VI.c (vi_str (ve_var 0))) (by rfl) (fun s H C cl fp => (vg_name 1 nd)) (fun s H C cl fp sign_ => vc_nil) (fun s H C cl fp sign_ => (ve_cmp op_notIn_sign d_nins (ve_var 1) (ve_const h_DIGITS))) (by decide) (sle_eq (sle_eq sle_nil)) (by simp) (fun d S b S' h => by first | exact un2_st d S b S' h | exact un3_st d S b S' h | exact un4_st d S b S' h | (cases h; rfl)))) va_nil)))))) ?_ ?_
      · exact vb_one (vs_ret ve_bl)
      · exact vb_nil () (sle_eq (sle_no sle_nil))
    exact vb_one (vs_ret (ve_or (ve_cmp (op_eqD hr.units) d_eq (ve_var 0) ve_str) (ve_one (ve_cmp (op_neD hr.units) d_ne (ve_item (ve_var 0) ve_int) ve_str))))
abbrev sis_signed_text_ : Stmt := top 12
theorem sc_is_signed_text_ : FnScope ["text"] ["text"] (defScope sis_signed_text_) := ⟨rfl, rfl, rfl, by decide +kernel, rfl, by decide +kernel, by decide +kernel⟩
theorem ok_is_signed_text_ {f : Addr} {fd : FuncData} (F : FnP K "is_signed_text" sis_signed_text_ f fd) (G_is_whole_text_ : DOk false P w K mg base T 1 "is_whole_text" ["text"] VLib2.is_whole_text_m) : VFn false P w K mg base T 2 f fd ["text"] VLib2.is_signed_text_m := by
  refine vfn_ofD F sc_is_signed_text_ fun cdv A outer s H E ds lkf hcd hci hr hγ hl => ?_
  have nd := sc_is_signed_text_.nd
  match ds, hl with
  | [text_], _ =>
    show VB _ _ _ _ [.fz text_] _ _ _ (VLib2.is_signed_text_b text_)
    unfold VLib2.is_signed_text_b
    refine vb_cons (emb1 := (fun s1 : Unit => [.fz text_])) ?_ fun s1 => ?_
    · refine vs_if (vt_cmp (op_eqD hr.units) d_eq (ve_slice (ve_var 0) vo_none (vo_some ve_int)) ve_str) ?_ ?_
      · exact vb_one (vs_ret (ve_and (ve_dcall G_is_whole_text_ (hr.mono (by decide)) (by intro h; cases h) takesB (va_cons (ve_slice (ve_var 0) (vo_some ve_int) vo_none) va_nil)) (ve_one (ve_cmp (op_neD hr.units) d_ne (ve_var 0) ve_str))))
      · exact vb_nil () (sle_eq sle_nil)
    exact vb_one (vs_ret (ve_dcall G_is_whole_text_ (hr.mono (by decide)) (by intro h; cases h) takesB (va_cons (ve_var 0) va_nil)))
abbrev sword_frac_ : Stmt := top 14
theorem sc_word_frac_ : FnScope ["text", "parts", "found"] ["text"] (defScope sword_frac_) := ⟨rfl, rfl, rfl, by decide +kernel, rfl, by decide +kernel, by decide +kernel⟩
theorem ok_word_frac_ {f : Addr} {fd : FuncData} (F : FnP K "word_frac" sword_frac_ f fd) (z_len : mg "len" = none) (z_int : mg "int" = none) (G_is_signed_text_ : DOk false P w K mg base T 2 "is_signed_text" ["text"] VLib2.is_signed_text_m) (G_is_whole_text_ : DOk false P w K mg base T 1 "is_whole_text" ["text"] VLib2.is_whole_text_m) (G_common_part_ : DOk false P w K mg base T 1 "common_part" ["one", "other"] common_part_m) : VFn false P w K mg base T 3 f fd ["text"] VLib2.word_frac_m := by
  refine vfn_ofD F sc_word_frac_ fun cdv A outer s H E ds lkf hcd hci hr hγ hl => ?_
  have nd := sc_word_frac_.nd
  match ds, hl with
  | [text_], _ =>
    show VB _ _ _ _ [.fz text_, .no, .no] _ _ _ (VLib2.word_frac_b text_)
    unfold VLib2.word_frac_b
    refine vb_cons (emb1 := (fun parts_ : D => [.fz text_, .fz parts_, .no])) ?_ fun parts_ => ?_
    · exact vs_set 1 (ve_smeth PySem.F.plainAttrs_str PySem.F.slot_str_split PySem.F.type_str_split mt_split d_split (ve_var 0) (va_cons ve_str va_nil)) nd
    refine vb_cons (emb1 := (fun s8 : Unit => [.fz text_, .fz parts_, .no])) ?_ fun s8 => ?_
    · refine vs_if (VW.vt (vw_or (vt_cmp op_gt d_gt (ve_callB call_len d_len z_len (by decide +kernel) (va_cons (ve_var 1) va_nil)) ve_int) (vw_or1 (vt_not (vt_tru (ve_dcall G_is_signed_text_ (hr.mono (by decide)) (by intro h; cases h) takesB (va_cons (ve_item (ve_var 1) ve_int) va_nil))))))) ?_ ?_
      · exact vb_one (vs_ret ve_non)
      · exact vb_nil () (sle_eq (sle_eq (sle_no sle_nil)))
    refine vb_cons (emb1 := (fun s21 : Unit => [.fz text_, .fz parts_, .no])) ?_ fun s21 => ?_
    · refine vs_if (vt_cmp (op_eqD hr.units) d_eq (ve_callB call_len d_len z_len (by decide +kernel) (va_cons (ve_var 1) va_nil)) ve_int) ?_ ?_
      · exact vb_one (vs_ret (ve_tup (va_cons (ve_callTy call_intX d_intX z_int (by decide +kernel) (va_cons (ve_item (ve_var 1) ve_int) va_nil)) (va_cons ve_int va_nil))))
      · exact vb_nil () (sle_eq (sle_eq (sle_no sle_nil)))
    refine vb_cons (emb1 := (fun s36 : Unit => [.fz text_, .fz parts_, .no])) ?_ fun s36 => ?_
    · refine vs_if (VW.vt (vw_or (vt_not (vt_tru (ve_dcall G_is_whole_text_ (hr.mono (by decide)) (by intro h; cases h) takesB (va_cons (ve_item (ve_var 1) ve_int) va_nil)))) (vw_or1 (vt_cmp op_lt d_lt (ve_callTy call_intX d_intX z_int (by decide +kernel) (va_cons (ve_item (ve_var 1) ve_int) va_nil)) ve_int)))) ?_ ?_
      · exact vb_one (vs_ret ve_non)
      · exact vb_nil () (sle_eq (sle_eq (sle_no sle_nil)))
    refine vb_cons (emb1 := (fun found_ : D => [.fz text_, .fz parts_, .fz found_])) ?_ fun found_ => ?_
    · exact vs_set 2 (ve_tup (va_cons (ve_callTy call_intX d_intX z_int (by decide +kernel) (va_cons (ve_item (ve_var 1) ve_int) va_nil)) (va_cons (ve_callTy call_intX d_intX z_int (by decide +kernel) (va_cons (ve_item (ve_var 1) ve_int) va_nil)) va_nil))) nd
    exact vb_one (vs_ret (ve_if (vt_cmp (op_eqD hr.units) d_eq (ve_dcall G_common_part_ (hr.mono (by decide)) (by intro h; cases h) takesB (va_cons (ve_item (ve_var 2) ve_int) (va_cons (ve_item (ve_var 2) ve_int) va_nil))) ve_int) (ve_var 2) ve_non))
abbrev sread_numbers_ : Stmt := top 16
theorem sc_read_numbers_ : FnScope ["text", "found", "at", "word", "item"] ["text"] (defScope sread_numbers_) := ⟨rfl, rfl, rfl, by decide +kernel, rfl, by decide +kernel, by decide +kernel⟩
theorem ok_read_numbers_ {f : Addr} {fd : FuncData} (F : FnP K "read_numbers" sread_numbers_ f fd) (z_isinstance : mg "isinstance" = none) (z_str : mg "str" = none) (z_enumerate : mg "enumerate" = none) (z_tuple : mg "tuple" = none) (r_BadText : XFld P w K mg base (He.ga K "BadText") "at") (g_BadText : mg "BadText" = some (.ref (He.ga K "BadText"))) (G_word_frac_ : DOk false P w K mg base T 3 "word_frac" ["text"] VLib2.word_frac_m) : VFn false P w K mg base T 4 f fd ["text"] read_numbers_m := by
  refine vfn_ofD F sc_read_numbers_ fun cdv A outer s H E ds lkf hcd hci hr hγ hl => ?_
  have nd := sc_read_numbers_.nd
  match ds, hl with
  | [text_], _ =>
    show VB _ _ _ _ [.fz text_, .no, .no, .no, .no] _ _ _ (read_numbers_b text_)
    unfold read_numbers_b
    refine vb_cons (emb1 := (fun s1 : Unit => [.fz text_, .no, .no, .no, .no])) ?_ fun s1 => ?_
    · refine vs_if (vt_not (vt_tru (ve_isa z_isinstance ⟨rfl, z_str, by decide +kernel, by decide, by decide⟩ (ve_var 0)))) ?_ ?_
      · exact vb_one (vs_raise1 (k := 0) r_BadText g_BadText (hr.mono (by decide)) takesB rfl ve_int)
      · exact vb_nil () (sle_eq (sle_no (sle_no (sle_no (sle_no sle_nil)))))
    refine vb_cons (emb1 := (fun found_ : List D => [.fz text_, .ow found_, .no, .no, .no])) ?_ fun found_ => ?_
    · exact vs_new 1 (vn_lst va_nil) nd
    refine vb_cons (emb1 := (fun s7 : List D => [.fz text_, .ow s7, .no, .no, .no])) ?_ fun s7 => ?_
    · refine vs_if (vt_cmp (op_neD hr.units) d_ne (ve_var 0) ve_str) ?_ ?_
      · refine vb_cons (emb1 := (fun s10 : List D => [.fz text_, .ow s10, .no, .no, .no])) ?_ fun s10 => ?_
        · refine vs_for (embW := (fun s11 : List D => [.fz text_, .ow s11, .no, .no, .no])) (embT := fun s11 => (fun b19 => [.fz text_, .ow s11, .fz b19.1, .fz b19.2, .no])) found_ (sle_eq (sle_eq (sle_no (sle_no (sle_no sle_nil))))) passB rfl (vi_enum (va_cons (ve_smeth PySem.F.plainAttrs_str PySem.F.slot_str_split PySem.F.type_str_split mt_split d_split (ve_var 0) (va_cons ve_str va_nil)) va_nil) z_enumerate) (fun s11 => (vg_tup2 2 3 rfl nd)) (fun s11 b19 => ?_)
          · refine vb_cons (emb1 := (fun item_ : D => [.fz text_, .ow s11, .fz b19.1, .fz b19.2, .fz item_])) ?_ fun item_ => ?_
            · exact vs_set 4 (ve_dcall G_word_frac_ (hr.mono (by decide)) (by intro h; cases h) takesB (va_cons (ve_var 3) va_nil)) nd
            refine vb_cons (emb1 := (fun s24 : Unit => [.fz text_, .ow s11, .fz b19.1, .fz b19.2, .fz item_])) ?_ fun s24 => ?_
            · refine vs_if (vt_cmp op_isN d_is (ve_var 4) ve_non) ?_ ?_
              · exact vb_one (vs_raise1 (k := 0) r_BadText g_BadText (hr.mono (by decide)) takesB rfl (ve_op op_addD d_add (ve_var 2) ve_int))
              · exact vb_nil () (sle_eq (sle_eq (sle_eq (sle_eq (sle_eq sle_nil)))))
            refine vb_cons (emb1 := (fun found_ : List D => [.fz text_, .ow found_, .fz b19.1, .fz b19.2, .fz item_])) ?_ fun found_ => ?_
            · exact vs_append 1 rfl (ve_var 4)
            exact vb_nil found_ (sle_eq (sle_eq (sle_no (sle_no (sle_no sle_nil)))))
        exact vb_nil s10 (sle_eq (sle_eq (sle_no (sle_no (sle_no sle_nil)))))
      · exact vb_nil found_ (sle_eq (sle_eq (sle_no (sle_no (sle_no sle_nil)))))
    exact vb_one (vs_ret (ve_tupOw 1 z_tuple))
abbrev slaw_fraction_text_ : Stmt := top 25
theorem sc_law_fraction_text_ : FnScope ["one"] ["one"] (defScope slaw_fraction_text_) := ⟨rfl, rfl, rfl, by decide +kernel, rfl, by decide +kernel, by decide +kernel⟩
theorem ok_law_fraction_text_ {f : Addr} {fd : FuncData} (F : FnP K "_law_fraction_text" slaw_fraction_text_ f fd) (z_str : mg "str" = none) : VFn false P w K mg base T 1 f fd ["one"] VLib2.law_fraction_text_m := by
  refine vfn_ofD F sc_law_fraction_text_ fun cdv A outer s H E ds lkf hcd hci hr hγ hl => ?_
  have nd := sc_law_fraction_text_.nd
  match ds, hl with
  | [one_], _ =>
    show VB _ _ _ _ [.fz one_] _ _ _ (VLib2.law_fraction_text_b one_)
    unfold VLib2.law_fraction_text_b
    exact vb_one (vs_ret (ve_op op_addD d_add (ve_callTy call_str_int d_str z_str (by decide +kernel) (va_cons (ve_item (ve_var 0) ve_int) va_nil)) (ve_if (vt_cmp (op_eqD hr.units) d_eq (ve_item (ve_var 0) ve_int) ve_int) ve_str (ve_op op_addD d_add ve_str (ve_callTy call_str_int d_str z_str (by decide +kernel) (va_cons (ve_item (ve_var 0) ve_int) va_nil))))))
abbrev slaw_integer_of_ : Stmt := top 26
theorem sc_law_integer_of_ : FnScope ["word", "sign"] ["word"] (defScope slaw_integer_of_) := ⟨rfl, rfl, rfl, by decide +kernel, rfl, by decide +kernel, by decide +kernel⟩
theorem ok_law_integer_of_ {f : Addr} {fd : FuncData} (F : FnP K "_law_integer_of" slaw_integer_of_ f fd) (z_len : mg "len" = none) (z_any : mg "any" = none) (z_int : mg "int" = none) : VFn false P w K mg base T 1 f fd ["word"] VLib2.law_integer_of_m := by
  refine vfn_ofD F sc_law_integer_of_ fun cdv A outer s H E ds lkf hcd hci hr hγ hl => ?_
  have nd := sc_law_integer_of_.nd
  match ds, hl with
  | [word_], _ =>
    show VB _ _ _ _ [.fz word_, .no] _ _ _ (VLib2.law_integer_of_b word_)
    unfold VLib2.law_integer_of_b
    refine vb_cons (emb1 := (fun s1 : Unit => [.fz word_, .no])) ?_ fun s1 => ?_
    · refine vs_if (VW.vt (vw_or (vt_cmp (op_eqD hr.units) d_eq (ve_var 0) ve_str) (vw_or (vt_tru (ve_callB (cr_any rfl) d_any z_any (by decide +kernel) (va_cons (VN.ve (vn_lc [("sign", 1)] [.fz word_, .no] rfl nd (VI.c (vi_str (ve_var 0))) (by rfl) (fun s H C cl fp => (vg_name 1 nd)) (fun s H C cl fp sign_ => vc_nil) (fun s H C cl fp sign_ => (ve_cmp op_notIn_sign d_nins (ve_var 1) ve_str)) (by decide) (sle_eq (sle_eq sle_nil)) (by simp) (fun d S b S' h => by first | exact un2_st d S b S' h | exact un3_st d S b S' h | exact un4_st d S b S' h | (cases h; rfl)))) va_nil))) (vw_or1 (VW.vt (vw_and (vt_cmp op_gt d_gt (ve_callB call_len d_len z_len (by decide +kernel) (va_cons (ve_var 0) va_nil)) ve_int) (vw_and1 (vt_cmp (op_eqD hr.units) d_eq (ve_item (ve_var 0) ve_int) ve_str)))))))) ?_ ?_
      · exact vb_one (vs_ret ve_non)
      · exact vb_nil () (sle_eq (sle_no sle_nil))
    exact vb_one (vs_ret (ve_callTy call_intX d_intX z_int (by decide +kernel) (va_cons (ve_var 0) va_nil)))
abbrev slaw_fraction_of_ : Stmt := top 27
theorem sc_law_fraction_of_ : FnScope ["word", "is_below", "parts", "numbers", "part"] ["word"] (defScope slaw_fraction_of_) := ⟨rfl, rfl, rfl, by decide +kernel, rfl, by decide +kernel, by decide +kernel⟩
theorem ok_law_fraction_of_ {f : Addr} {fd : FuncData} (F : FnP K "_law_fraction_of" slaw_fraction_of_ f fd) (z_len : mg "len" = none) (z_tuple : mg "tuple" = none) (G_law_integer_of_ : DOk false P w K mg base T 1 "_law_integer_of" ["word"] VLib2.law_integer_of_m) (G_law_low_ : DOk false P w K mg base T 1 "_law_low" ["top", "bottom"] VLib2.law_low_m) : VFn false P w K mg base T 2 f fd ["word"] VLib2.law_fraction_of_m := by
  refine vfn_ofD F sc_law_fraction_of_ fun cdv A outer s H E ds lkf hcd hci hr hγ hl => ?_
  have nd := sc_law_fraction_of_.nd
  match ds, hl with
  | [word_], _ =>
    show VB _ _ _ _ [.fz word_, .no, .no, .no, .no] _ _ _ (VLib2.law_fraction_of_b word_)
    unfold VLib2.law_fraction_of_b
    refine vb_cons (emb1 := (fun is_below_ : D => [.fz word_, .fz is_below_, .no, .no, .no])) ?_ fun is_below_ => ?_
    · exact vs_set 1 (ve_cmp (op_eqD hr.units) d_eq (ve_slice (ve_var 0) vo_none (vo_some ve_int)) ve_str) nd
    refine vb_cons (emb1 := (fun parts_ : D => [.fz word_, .fz is_below_, .fz parts_, .no, .no])) ?_ fun parts_ => ?_
    · exact vs_set 2 (ve_smeth PySem.F.plainAttrs_str PySem.F.slot_str_split PySem.F.type_str_split mt_split d_split (ve_if (vt_tru (ve_var 1)) (ve_slice (ve_var 0) (vo_some ve_int) vo_none) (ve_var 0)) (va_cons ve_str va_nil)) nd
    refine vb_cons (emb1 := (fun numbers_ : List D => [.fz word_, .fz is_below_, .fz parts_, .ow numbers_, .no])) ?_ fun numbers_ => ?_
    · exact vs_newLc 3 [("part", 4)] [.fz word_, .fz is_below_, .fz parts_, .no, .no] rfl nd (VI.c (vi_row (ve_var 2))) (by rfl) (fun s H C cl fp => (vg_name 4 nd)) (fun s H C cl fp part_ => vc_nil) (fun s H C cl fp part_ => (ve_dcall (ps := ["word"]) G_law_integer_of_ (hr.mono (by decide)) (by intro h; cases h) takesF (va_cons (ve_var 4) va_nil))) (by decide) (sle_eq (sle_eq (sle_eq (sle_eq (sle_eq sle_nil))))) (by simp) (fun d S b S' h => by first | exact un2_st d S b S' h | exact un3_st d S b S' h | exact un4_st d S b S' h | (cases h; rfl))
    refine vb_cons (emb1 := (fun s27 : Unit => [.fz word_, .fz is_below_, .fz parts_, .ow numbers_, .no])) ?_ fun s27 => ?_
    · refine vs_if (VW.vt (vw_or (vt_cmp op_gt d_gt (ve_callB call_len d_len z_len (by decide +kernel) (va_cons (ve_var 2) va_nil)) ve_int) (vw_or (vt_noneInOw 3 hr.u65) (vw_or1 (VW.vt (vw_and (vt_tru (ve_var 1)) (vw_and1 (vt_cmp (op_eqD hr.units) d_eq (ve_itemOw 3 0) ve_int)))))))) ?_ ?_
      · exact vb_one (vs_ret ve_non)
      · exact vb_nil () (sle_eq (sle_eq (sle_eq (sle_eq (sle_no sle_nil)))))
    refine vb_cons (emb1 := (fun s39 : List D => [.fz word_, .fz is_below_, .fz parts_, .ow s39, .no])) ?_ fun s39 => ?_
    · refine vs_if (vt_cmp (op_eqD hr.units) d_eq (ve_callB call_len d_len z_len (by decide +kernel) (va_cons (ve_var 2) va_nil)) ve_int) ?_ ?_
      · refine vb_cons (emb1 := (fun numbers_ : List D => [.fz word_, .fz is_below_, .fz parts_, .ow numbers_, .no])) ?_ fun numbers_ => ?_
        · exact vs_append 3 rfl ve_int
        exact vb_nil numbers_ (sle_eq (sle_eq (sle_eq (sle_eq (sle_no sle_nil)))))
      · refine vb_cons (emb1 := (fun s46 : Unit => [.fz word_, .fz is_below_, .fz parts_, .ow numbers_, .no])) ?_ fun s46 => ?_
        · refine vs_if (VW.vt (vw_or (vt_cmp op_lt d_lt (ve_itemOw 3 1) ve_int) (vw_or1 (vt_cmp (op_neD hr.units) d_ne (ve_dcall G_law_low_ (hr.mono (by decide)) (by intro h; cases h) takesB (va_cons (ve_itemOw 3 0) (va_cons (ve_itemOw 3 1) va_nil))) (ve_tupOw 3 z_tuple))))) ?_ ?_
          · exact vb_one (vs_ret ve_non)
          · exact vb_nil () (sle_eq (sle_eq (sle_eq (sle_eq (sle_no sle_nil)))))
        exact vb_nil numbers_ (sle_eq (sle_eq (sle_eq (sle_eq (sle_no sle_nil)))))
    exact vb_one (vs_ret (ve_tup (va_cons (ve_if (vt_tru (ve_var 1)) (ve_op op_sub d_sub ve_int (ve_itemOw 3 0)) (ve_itemOw 3 0)) (va_cons (ve_itemOw 3 1) va_nil))))
abbrev slaw_told_words_ : Stmt := top 29
theorem sc_law_told_words_ : FnScope ["text", "found", "number", "word", "one"] ["text"] (defScope slaw_told_words_) := ⟨rfl, rfl, rfl, by decide +kernel, rfl, by decide +kernel, by decide +kernel⟩
theorem ok_law_told_words_ {f : Addr} {fd : FuncData} (F : FnP K "_law_told_words" slaw_told_words_ f fd) (z_enumerate : mg "enumerate" = none) (z_tuple : mg "tuple" = none) (G_law_fraction_of_ : DOk false P w K mg base T 2 "_law_fraction_of" ["word"] VLib2.law_fraction_of_m) : VFn false P w K mg base T 3 f fd ["text"] law_told_words_m := by
  refine vfn_ofD F sc_law_told_words_ fun cdv A outer s H E ds lkf hcd hci hr hγ hl => ?_
  have nd := sc_law_told_words_.nd
  match ds, hl with
  | [text_], _ =>
    show VB _ _ _ _ [.fz text_, .no, .no, .no, .no] _ _ _ (law_told_words_b text_)
    unfold law_told_words_b
    refine vb_cons (emb1 := (fun found_ : List D => [.fz text_, .ow found_, .no, .no, .no])) ?_ fun found_ => ?_
    · exact vs_new 1 (vn_lst va_nil) nd
    refine vb_cons (emb1 := (fun s3 : List D => [.fz text_, .ow s3, .no, .no, .no])) ?_ fun s3 => ?_
    · refine vs_for (embW := (fun s4 : List D => [.fz text_, .ow s4, .no, .no, .no])) (embT := fun s4 => (fun b15 => [.fz text_, .ow s4, .fz b15.1, .fz b15.2, .no])) found_ (sle_eq (sle_eq (sle_no (sle_no (sle_no sle_nil))))) passB rfl (vi_enum (va_cons (ve_if (vt_cmp (op_neD hr.units) d_ne (ve_var 0) ve_str) (ve_smeth PySem.F.plainAttrs_str PySem.F.slot_str_split PySem.F.type_str_split mt_split d_split (ve_var 0) (va_cons ve_str va_nil)) (ve_lst va_nil)) va_nil) z_enumerate) (fun s4 => (vg_tup2 2 3 rfl nd)) (fun s4 b15 => ?_)
      · refine vb_cons (emb1 := (fun one_ : D => [.fz text_, .ow s4, .fz b15.1, .fz b15.2, .fz one_])) ?_ fun one_ => ?_
        · exact vs_set 4 (ve_dcall G_law_fraction_of_ (hr.mono (by decide)) (by intro h; cases h) takesB (va_cons (ve_var 3) va_nil)) nd
        refine vb_cons (emb1 := (fun s20 : Unit => [.fz text_, .ow s4, .fz b15.1, .fz b15.2, .fz one_])) ?_ fun s20 => ?_
        · refine vs_if (vt_cmp op_isN d_is (ve_var 4) ve_non) ?_ ?_
          · exact vb_one (vs_ret (ve_op op_addD d_add (ve_var 2) ve_int))
          · exact vb_nil () (sle_eq (sle_eq (sle_eq (sle_eq (sle_eq sle_nil)))))
        refine vb_cons (emb1 := (fun found_ : List D => [.fz text_, .ow found_, .fz b15.1, .fz b15.2, .fz one_])) ?_ fun found_ => ?_
        · exact vs_append 1 rfl (ve_var 4)
        exact vb_nil found_ (sle_eq (sle_eq (sle_no (sle_no (sle_no sle_nil)))))
    exact vb_one (vs_ret (ve_tupOw 1 z_tuple))
abbrev slaw_is_read_ : Stmt := top 31
theorem sc_law_is_read_ : FnScope ["text", "due"] ["text"] (defScope slaw_is_read_) := ⟨rfl, rfl, rfl, by decide +kernel, rfl, by decide +kernel, by decide +kernel⟩
theorem ok_law_is_read_ {fd : FuncData} (F : FnP K "_law_is_read" slaw_is_read_ (He.ga K "_law_is_read") fd) (z_isinstance : mg "isinstance" = none) (z_int : mg "int" = none) (G_law_told_words_ : DOk false P w K mg base T 3 "_law_told_words" ["text"] law_told_words_m) (G_law_like_ : DOk true P w K mg base T 1 "_law_like" ["told", "due"] VLib2.law_like_m) (G_read_numbers_ : DOk false P w K mg base T 4 "read_numbers" ["text"] read_numbers_m) (I_law_place_ : Ilaw_place_ K mg) (HT : LamTab K mg base T "_law_is_read") : VFn true P w K mg base T 7 (He.ga K "_law_is_read") fd ["text"] law_is_read_m := by
  refine vfn_ofD F sc_law_is_read_ fun cdv A outer s H E ds lkf hcd hci hr hγ hl => ?_
  have nd := sc_law_is_read_.nd
  have hru := hr.reprV
  have hcd2 := codeAt lkf hcd hci
  match ds, hl with
  | [text_], _ =>
    show VB _ _ _ _ [.fz text_, .no] _ _ _ (law_is_read_b text_)
    unfold law_is_read_b
    refine vb_cons (emb1 := (fun due_ : D => [.fz text_, .fz due_])) ?_ fun due_ => ?_
    · exact vs_set 1 (ve_dcall G_law_told_words_ (hr.mono (by decide)) (by intro h; cases h) takesB (va_cons (ve_var 0) va_nil)) nd
    refine vb_cons (emb1 := (fun s5 : Unit => [.fz text_, .fz due_])) ?_ fun s5 => ?_
    · refine vs_if (vt_tru (ve_isa z_isinstance ⟨rfl, z_int, by decide +kernel, by decide, by decide⟩ (ve_var 1))) ?_ ?_
      · exact vb_one (vs_ret (ve_dcall G_law_like_ (hr.mono (by decide)) (fun _ => hγ rfl) takesB (va_cons (ve_plc (k := 4) (m := (((pure text_) >>= fun x8 => (pure []) >>= fun r9 => pure (x8 :: r9)) >>= onN 1 read_numbers_m)) I_law_place_ HT rfl hcd2 hr (fun A outer s H E f c hr => (ve_dcall G_read_numbers_ (hr.mono (by decide)) (by intro h; cases h) takesL (va_cons (ve_var 0) va_nil)))) (va_cons (ve_var 1) va_nil))))
      · exact vb_nil () (sle_eq (sle_eq sle_nil))
    exact vb_one (vs_ret (ve_dcall G_law_like_ (hr.mono (by decide)) (fun _ => hγ rfl) takesB (va_cons (ve_dcall G_read_numbers_ (hr.mono (by decide)) (by intro h; cases h) takesB (va_cons (ve_var 0) va_nil)) (va_cons (ve_var 1) va_nil))))
abbrev slaw_bent_ : Stmt := top 30
theorem sc_law_bent_ : FnScope ["hand", "text", "words", "at", "to", "bad", "one", "other", "some", "number", "word"] ["hand", "text"] (defScope slaw_bent_) := ⟨rfl, rfl, rfl, by decide +kernel, rfl, by decide +kernel, by decide +kernel⟩
theorem ok_law_bent_ {f : Addr} {fd : FuncData} (F : FnP K "_law_bent" slaw_bent_ f fd) (z_len : mg "len" = none) (z_enumerate : mg "enumerate" = none) (G_law_draw_ : DOk false P w K mg base T 1 "_law_draw" ["hand", "many"] (law_draw_m 41)) (G_law_any_ : DOk false P w K mg base T 2 "_law_any" ["hand", "things"] (VLib2.law_any_m 41)) : VFn false P w K mg base T 3 f fd ["hand", "text"] law_bent_m := by
  refine vfn_ofD F sc_law_bent_ fun cdv A outer s H E ds lkf hcd hci hr hγ hl => ?_
  have nd := sc_law_bent_.nd
  match ds, hl with
  | [hand_, text_], _ =>
    show VB _ _ _ _ [.fz hand_, .fz text_, .no, .no, .no, .no, .no, .no, .no, .no, .no] _ _ _ (law_bent_b hand_ text_)
    unfold law_bent_b
    refine vb_cons (emb1 := (fun words_ : D => [.fz hand_, .fz text_, .fz words_, .no, .no, .no, .no, .no, .no, .no, .no])) ?_ fun words_ => ?_
    · exact vs_set 2 (ve_smeth PySem.F.plainAttrs_str PySem.F.slot_str_split PySem.F.type_str_split mt_split d_split (ve_var 1) (va_cons ve_str va_nil)) nd
    refine vb_cons (emb1 := (fun b25 : D × D => [.fz hand_, .fz text_, .fz words_, .fz b25.1, .fz b25.2, .no, .no, .no, .no, .no, .no])) ?_ fun b25 => ?_
    · exact vs_asg (ve_tup (va_cons (ve_dcall G_law_draw_ (hr.mono (by decide)) (by intro h; cases h) takesB (va_cons (ve_var 0) (va_cons (ve_callB call_len d_len z_len (by decide +kernel) (va_cons (ve_var 2) va_nil)) va_nil))) (va_cons (ve_dcall G_law_draw_ (hr.mono (by decide)) (by intro h; cases h) takesB (va_cons (ve_var 0) (va_cons (ve_callB call_len d_len z_len (by decide +kernel) (va_cons (ve_var 2) va_nil)) va_nil))) va_nil))) (vg_tup2 3 4 rfl nd)
    refine vb_consP (emb1 := (fun bad_ : D => [.fz hand_, .fz text_, .fz words_, .fz b25.1, .fz b25.2, .fz bad_, .no, .no, .no, .no, .no])) ?_ fun bad_ => ?_
    · exact vsp_set 5 (vep_lst (vap_cons vep_str (va_cons ve_str (va_cons ve_str (va_cons ve_str (va_cons ve_str (va_cons ve_str (va_cons ve_str (va_cons ve_str (va_cons ve_str (va_cons ve_str (va_cons ve_str (va_cons ve_str (va_cons ve_str va_nil)))))))))))))) nd
    refine vbt_cons (emb1 := (fun b92 : D × D => [.fz hand_, .fz text_, .fz words_, .fz b25.1, .fz b25.2, .fz bad_, .fz b92.1, .fz b92.2, .no, .no, .no])) ?_ fun b92 => ?_
    · exact VST.of (vs_asg (ve_tup (va_cons (ve_dcall G_law_any_ (hr.mono (by decide)) (by intro h; cases h) takesB (va_cons (ve_var 0) (va_cons (ve_var 5) va_nil))) (va_cons (ve_dcall G_law_any_ (hr.mono (by decide)) (by intro h; cases h) takesB (va_cons (ve_var 0) (va_cons (ve_var 5) va_nil))) va_nil))) (vg_tup2 6 7 rfl nd))
    refine vbt_cons (emb1 := (fun some_ : List D => [.fz hand_, .fz text_, .fz words_, .fz b25.1, .fz b25.2, .fz bad_, .fz b92.1, .fz b92.2, .ow some_, .no, .no])) ?_ fun some_ => ?_
    · exact VST.of (vs_new 8 (vn_lst (va_cons (ve_op op_addD d_add (ve_op op_addD d_add (ve_slice (ve_var 2) vo_none (vo_some (ve_var 3))) (ve_lst (va_cons (ve_var 6) va_nil))) (ve_slice (ve_var 2) (vo_some (ve_var 3)) vo_none)) (va_cons (ve_op op_addD d_add (ve_op op_addD d_add (ve_slice (ve_var 2) vo_none (vo_some (ve_var 3))) (ve_lst (va_cons (ve_var 6) va_nil))) (ve_slice (ve_var 2) (vo_some (ve_op op_addD d_add (ve_var 3) ve_int)) vo_none)) (va_cons (ve_op op_addD d_add (ve_lst (va_cons ve_str va_nil)) (ve_var 2)) (va_cons (ve_op op_addD d_add (ve_var 2) (ve_lst (va_cons ve_str va_nil))) va_nil))))) nd)
    refine vbt_cons (emb1 := (fun some_ : List D => [.fz hand_, .fz text_, .fz words_, .fz b25.1, .fz b25.2, .fz bad_, .fz b92.1, .fz b92.2, .ow some_, .no, .no])) ?_ fun some_ => ?_
    · exact VST.of (vs_append 8 rfl (VN.ve (vn_lc [("number", 9), ("word", 10)] [.fz hand_, .fz text_, .fz words_, .fz b25.1, .fz b25.2, .fz bad_, .fz b92.1, .fz b92.2, .ow some_, .no, .no] rfl nd (VI.c (vi_enum (va_cons (ve_var 2) va_nil) z_enumerate)) (by rfl) (fun s H C cl fp => (vg_tup2 9 10 rfl nd)) (fun s H C cl fp b149 => vc_nil) (fun s H C cl fp b149 => (ve_if (vt_cmp (op_eqD hr.units) d_eq (ve_var 9) (ve_var 3)) (ve_var 6) (ve_if (vt_cmp (op_eqD hr.units) d_eq (ve_var 9) (ve_var 4)) (ve_var 7) (ve_var 10)))) (by decide) (sle_eq (sle_eq (sle_eq (sle_eq (sle_eq (sle_eq (sle_eq (sle_eq (sle_eq (sle_eq (sle_eq sle_nil))))))))))) (by simp) (fun d S b S' h => by first | exact un2_st d S b S' h | exact un3_st d S b S' h | exact un4_st d S b S' h | (cases h; rfl)))))
    refine vbt_freeze 8 rfl ?_
    show VBT _ _ _ _ [.fz hand_, .fz text_, .fz words_, .fz b25.1, .fz b25.2, .fz bad_, .fz b92.1, .fz b92.2, .fz (D.lst some_), .no, .no] _ _ _ _
    refine vbt_cons (emb1 := (fun some_ : D => [.fz hand_, .fz text_, .fz words_, .fz b25.1, .fz b25.2, .fz bad_, .fz b92.1, .fz b92.2, .fz some_, .no, .no])) ?_ fun some_ => .of ?_
    · exact vst_set 8 (vet_op op_addD d_add (ve_var 8) (vet_lst (vat_cons (VET.of (ve_slice3 (ve_var 2) vo_none vo_none (vo_some (ve_un un_neg d_neg ve_int)))) (vat_cons (VET.of (ve_op op_addD d_add (ve_slice (ve_var 2) vo_none (vo_some (ve_var 3))) (ve_slice (ve_var 2) (vo_some (ve_op op_addD d_add (ve_var 3) ve_int)) vo_none))) (vat_cons (VET.of (ve_op op_addD d_add (ve_var 2) (ve_lst (va_cons (ve_var 6) (va_cons (ve_var 7) va_nil))))) (vat_cons (vet_lst (vat_cons (vet_rep1 (ve_var 1)) vat_nil)) vat_nil)))))) nd
    exact vb_one (vs_ret (ve_smeth PySem.F.plainAttrs_str PySem.F.slot_str_join PySem.F.type_str_join mt_join d_join ve_str (va_cons (ve_dcall G_law_any_ (hr.mono (by decide)) (by intro h; cases h) takesB (va_cons (ve_var 0) (va_cons (ve_var 8) va_nil))) va_nil)))
abbrev slaw_ : Stmt := top 33
theorem sc_law_ : FnScope ["script", "hand", "turn", "many", "row", "text", "shown", "bad", "at", "none", "odd", "one", "lap"] ["script"] (defScope slaw_) := ⟨rfl, rfl, rfl, by decide +kernel, rfl, by decide +kernel, by decide +kernel⟩
theorem ok_law_ {fd : FuncData} (F : FnP K "law" slaw_ (He.ga K "law") fd) (z_range : mg "range" = none) (z_repr : mg "repr" = none) (z_tuple : mg "tuple" = none) (z_all : mg "all" = none) (G_law_hand_ : DOk false P w K mg base T 1 "_law_hand" ["script"] (VLib2.law_hand_m 6203 13)) (G_law_any_ : DOk false P w K mg base T 2 "_law_any" ["hand", "things"] (VLib2.law_any_m 41)) (G_law_drawn_fraction_ : DOk false P w K mg base T 3 "_law_drawn_fraction" ["hand"] (VLib2.law_drawn_fraction_m 41)) (G_law_fraction_text_ : DOk false P w K mg base T 1 "_law_fraction_text" ["one"] VLib2.law_fraction_text_m) (G_law_like_ : DOk true P w K mg base T 1 "_law_like" ["told", "due"] VLib2.law_like_m) (G_read_numbers_ : DOk false P w K mg base T 4 "read_numbers" ["text"] read_numbers_m) (G_numbers_text_ : DOk false P w K mg base T 3 "numbers_text" ["numbers"] numbers_text_m) (G_law_is_read_ : DOk true P w K mg base T 7 "_law_is_read" ["text"] law_is_read_m) (G_law_bent_ : DOk false P w K mg base T 3 "_law_bent" ["hand", "text"] law_bent_m) (G_law_draw_ : DOk false P w K mg base T 1 "_law_draw" ["hand", "many"] (law_draw_m 41)) (G_law_is_none_ : DOk false P w K mg base T 4 "_law_is_none" ["thing"] law_is_none_m) (I_law_place_ : Ilaw_place_ K mg) (HT : LamTab K mg base T "law") : VFn true P w K mg base T 10 (He.ga K "law") fd ["script"] law_m := by
  refine vfn_ofD F sc_law_ fun cdv A outer s H E ds lkf hcd hci hr hγ hl => ?_
  have nd := sc_law_.nd
  have hru := hr.reprV
  have hcd2 := codeAt lkf hcd hci
  match ds, hl with
  | [script_], _ =>
    show VB _ _ _ _ [.fz script_, .no, .no, .no, .no, .no, .no, .no, .no, .no, .no, .no, .no] _ _ _ (law_b script_)
    unfold law_b
    refine vb_cons (emb1 := (fun hand_ : D => [.fz script_, .fz hand_, .no, .no, .no, .no, .no, .no, .no, .no, .no, .no, .no])) ?_ fun hand_ => ?_
    · exact vs_set 1 (ve_dcall G_law_hand_ (hr.mono (by decide)) (by intro h; cases h) takesB (va_cons (ve_var 0) va_nil)) nd
    refine vb_cons (emb1 := (fun s5 : Unit => [.fz script_, .fz hand_, .no, .no, .no, .no, .no, .no, .no, .no, .no, .no, .no])) ?_ fun s5 => ?_
    · refine vs_for (embW := (fun s6 : Unit => [.fz script_, .fz hand_, .no, .no, .no, .no, .no, .no, .no, .no, .no, .no, .no])) (embT := fun s6 => (fun turn_ => [.fz script_, .fz hand_, .fz turn_, .no, .no, .no, .no, .no, .no, .no, .no, .no, .no])) () (sle_eq (sle_eq (sle_no (sle_no (sle_no (sle_no (sle_no (sle_no (sle_no (sle_no (sle_no (sle_no (sle_no sle_nil))))))))))))) passB rfl (vi_range1 (va_cons ve_int va_nil) z_range) (fun s6 => (vg_name 2 nd)) (fun s6 turn_ => ?_)
      · refine vb_cons (emb1 := (fun many_ : D => [.fz script_, .fz hand_, .fz turn_, .fz many_, .no, .no, .no, .no, .no, .no, .no, .no, .no])) ?_ fun many_ => ?_
        · exact vs_set 3 (ve_dcall G_law_any_ (hr.mono (by decide)) (by intro h; cases h) takesB (va_cons (ve_var 1) (va_cons (ve_lst (va_cons ve_int (va_cons ve_int (va_cons ve_int (va_cons ve_int (va_cons ve_int va_nil)))))) va_nil))) nd
        refine vb_cons (emb1 := (fun row_ : List D => [.fz script_, .fz hand_, .fz turn_, .fz many_, .ow row_, .no, .no, .no, .no, .no, .no, .no, .no])) ?_ fun row_ => ?_
        · exact vs_newLc 4 [("one", 11)] [.fz script_, .fz hand_, .fz turn_, .fz many_, .no, .no, .no, .no, .no, .no, .no, .no, .no] rfl nd (VI.c (vi_range1 (va_cons (ve_var 3) va_nil) z_range)) (by rfl) (fun s H C cl fp => (vg_name 11 nd)) (fun s H C cl fp one_ => vc_nil) (fun s H C cl fp one_ => (ve_dcall (ps := ["hand"]) G_law_drawn_fraction_ (hr.mono (by decide)) (by intro h; cases h) takesF (va_cons (ve_var 1) va_nil))) (by decide) (sle_eq (sle_eq (sle_eq (sle_eq (sle_eq (sle_eq (sle_eq (sle_eq (sle_eq (sle_eq (sle_eq (sle_eq (sle_eq sle_nil))))))))))))) (by simp) (fun d S b S' h => by first | exact un2_st d S b S' h | exact un3_st d S b S' h | exact un4_st d S b S' h | (cases h; rfl))
        refine vb_freeze 4 rfl ?_
        show VB _ _ _ _ [.fz script_, .fz hand_, .fz turn_, .fz many_, .fz (D.lst row_), .no, .no, .no, .no, .no, .no, .no, .no] _ _ _ _
        refine vb_cons (emb1 := (fun b46 : D × D => [.fz script_, .fz hand_, .fz turn_, .fz many_, .fz (D.lst row_), .fz b46.1, .fz b46.2, .no, .no, .no, .no, .no, .no])) ?_ fun b46 => ?_
        · exact vs_asg (ve_tup (va_cons (ve_smeth PySem.F.plainAttrs_str PySem.F.slot_str_join PySem.F.type_str_join mt_join d_join ve_str (va_cons (VN.ve (vn_lc [("one", 11)] [.fz script_, .fz hand_, .fz turn_, .fz many_, .fz (D.lst row_), .no, .no, .no, .no, .no, .no, .no, .no] rfl nd (VI.c (vi_row (ve_var 4))) (by rfl) (fun s H C cl fp => (vg_name 11 nd)) (fun s H C cl fp one_ => vc_nil) (fun s H C cl fp one_ => (ve_dcall (ps := ["one"]) G_law_fraction_text_ (hr.mono (by decide)) (by intro h; cases h) takesF (va_cons (ve_var 11) va_nil))) (by decide) (sle_eq (sle_eq (sle_eq (sle_eq (sle_eq (sle_eq (sle_eq (sle_eq (sle_eq (sle_eq (sle_eq (sle_eq (sle_eq sle_nil))))))))))))) (by simp) (fun d S b S' h => by first | exact un2_st d S b S' h | exact un3_st d S b S' h | exact un4_st d S b S' h | (cases h; rfl)))) va_nil)) (va_cons (ve_callB (call_reprV (hγ rfl) hru) d_repr z_repr (by decide +kernel) (va_cons (ve_var 4) va_nil)) va_nil))) (vg_tup2 5 6 rfl nd)
        refine vb_cons (emb1 := (fun s48 : Unit => [.fz script_, .fz hand_, .fz turn_, .fz many_, .fz (D.lst row_), .fz b46.1, .fz b46.2, .no, .no, .no, .no, .no, .no])) ?_ fun s48 => ?_
        · refine vs_if (vt_not (vt_tru (ve_dcall G_law_like_ (hr.mono (by decide)) (fun _ => hγ rfl) takesB (va_cons (ve_lst (va_cons (ve_dcall G_numbers_text_ (hr.mono (by decide)) (by intro h; cases h) takesB (va_cons (ve_var 4) va_nil)) (va_cons (ve_dcall G_numbers_text_ (hr.mono (by decide)) (by intro h; cases h) takesB (va_cons (ve_callTy call_tuple_of d_tuple z_tuple (by decide +kernel) (va_cons (ve_var 4) va_nil)) va_nil)) (va_cons (ve_dcall G_read_numbers_ (hr.mono (by decide)) (by intro h; cases h) takesB (va_cons (ve_var 5) va_nil)) va_nil)))) (va_cons (ve_lst (va_cons (ve_var 5) (va_cons (ve_var 5) (va_cons (ve_callTy call_tuple_of d_tuple z_tuple (by decide +kernel) (va_cons (ve_var 4) va_nil)) va_nil)))) va_nil))))) ?_ ?_
          · exact vb_one (vs_ret ve_bl)
          · exact vb_nil () (sle_eq (sle_eq (sle_eq (sle_eq (sle_eq (sle_eq (sle_eq (sle_no (sle_no (sle_no (sle_no (sle_no (sle_no sle_nil)))))))))))))
        refine vb_cons (emb1 := (fun s78 : Unit => [.fz script_, .fz hand_, .fz turn_, .fz many_, .fz (D.lst row_), .fz b46.1, .fz b46.2, .no, .no, .no, .no, .no, .no])) ?_ fun s78 => ?_
        · refine vs_if (VW.vt (vw_or (vt_cmp (op_neD hr.units) d_ne (ve_callB (call_reprV (hγ rfl) hru) d_repr z_repr (by decide +kernel) (va_cons (ve_var 4) va_nil)) (ve_var 6)) (vw_or1 (vt_not (vt_tru (ve_callB (cr_all rfl) d_all z_all (by decide +kernel) (va_cons (VN.ve (vn_lc [("lap", 12)] [.fz script_, .fz hand_, .fz turn_, .fz many_, .fz (D.lst row_), .fz b46.1, .fz b46.2, .no, .no, .no, .no, .no, .no] rfl nd (VI.c (vi_range1 (va_cons ve_int va_nil) z_range)) (by rfl) (fun s H C cl fp => (vg_name 12 nd)) (fun s H C cl fp lap_ => vc_nil) (fun s H C cl fp lap_ => (ve_dcall (ps := ["text"]) G_law_is_read_ (hr.mono (by decide)) (fun _ => hγ rfl) takesF (va_cons (ve_dcall (ps := ["hand", "text"]) G_law_bent_ (hr.mono (by decide)) (by intro h; cases h) takesF (va_cons (ve_var 1) (va_cons (ve_var 5) va_nil))) va_nil))) (by decide) (sle_eq (sle_eq (sle_eq (sle_eq (sle_eq (sle_eq (sle_eq (sle_eq (sle_eq (sle_eq (sle_eq (sle_eq (sle_eq sle_nil))))))))))))) (by simp) (fun d S b S' h => by first | exact un2_st d S b S' h | exact un3_st d S b S' h | exact un4_st d S b S' h | (cases h; rfl)))) va_nil))))))) ?_ ?_
          · exact vb_one (vs_ret ve_bl)
          · exact vb_nil () (sle_eq (sle_eq (sle_eq (sle_eq (sle_eq (sle_eq (sle_eq (sle_no (sle_no (sle_no (sle_no (sle_no (sle_no sle_nil)))))))))))))
        refine vb_cons (emb1 := (fun bad_ : D => [.fz script_, .fz hand_, .fz turn_, .fz many_, .fz (D.lst row_), .fz b46.1, .fz b46.2, .fz bad_, .no, .no, .no, .no, .no])) ?_ fun bad_ => ?_
        · exact vs_set 7 (ve_lst (va_cons ve_non (va_cons ve_int (va_cons ve_bl (va_cons (ve_tup (va_cons ve_int (va_cons ve_int va_nil))) (va_cons (ve_tup (va_cons ve_int (va_cons ve_int va_nil))) (va_cons (ve_lst (va_cons ve_int (va_cons ve_int va_nil))) (va_cons ve_str (va_cons (ve_tup (va_cons ve_int (va_cons ve_int (va_cons ve_int va_nil)))) (va_cons (ve_tup (va_cons ve_bl (va_cons ve_int va_nil))) va_nil)))))))))) nd
        refine vb_cons (emb1 := (fun b156 : D × D => [.fz script_, .fz hand_, .fz turn_, .fz many_, .fz (D.lst row_), .fz b46.1, .fz b46.2, .fz bad_, .fz b156.1, .fz b156.2, .no, .no, .no])) ?_ fun b156 => ?_
        · exact vs_par2 8 9 (va_cons (ve_dcall G_law_draw_ (hr.mono (by decide)) (by intro h; cases h) takesB (va_cons (ve_var 1) (va_cons (ve_op op_addD d_add (ve_var 3) ve_int) va_nil))) (va_cons (ve_dcall G_law_any_ (hr.mono (by decide)) (by intro h; cases h) takesB (va_cons (ve_var 1) (va_cons (ve_var 7) va_nil))) va_nil)) rfl nd
        refine vb_cons (emb1 := (fun s157 : Unit => [.fz script_, .fz hand_, .fz turn_, .fz many_, .fz (D.lst row_), .fz b46.1, .fz b46.2, .fz bad_, .fz b156.1, .fz b156.2, .no, .no, .no])) ?_ fun s157 => ?_
        · refine vs_if (VW.vt (vw_or (vt_not (vt_tru (ve_dcall G_law_is_none_ (hr.mono (by decide)) (by intro h; cases h) takesB (va_cons (ve_op op_addD d_add (ve_op op_addD d_add (ve_slice (ve_var 4) vo_none (vo_some (ve_var 8))) (ve_lst (va_cons (ve_var 9) va_nil))) (ve_slice (ve_var 4) (vo_some (ve_var 8)) vo_none)) va_nil)))) (vw_or1 (vt_not (vt_tru (ve_dcall G_law_is_none_ (hr.mono (by decide)) (by intro h; cases h) takesB (va_cons (ve_op op_addD d_add (ve_callTy call_tuple_of d_tuple z_tuple (by decide +kernel) (va_cons (ve_slice (ve_var 4) vo_none (vo_some (ve_var 8))) va_nil)) (ve_tup (va_cons (ve_var 9) va_nil))) va_nil))))))) ?_ ?_
          · exact vb_one (vs_ret ve_bl)
          · exact vb_nil () (sle_eq (sle_eq (sle_eq (sle_eq (sle_eq (sle_eq (sle_eq (sle_eq (sle_eq (sle_eq (sle_no (sle_no (sle_no sle_nil)))))))))))))
        exact vb_nil () (sle_eq (sle_eq (sle_no (sle_no (sle_no (sle_no (sle_no (sle_no (sle_no (sle_no (sle_no (sle_no (sle_no sle_nil)))))))))))))
    refine vb_cons (emb1 := (fun odd_ : D => [.fz script_, .fz hand_, .no, .no, .no, .no, .no, .no, .no, .no, .fz odd_, .no, .no])) ?_ fun odd_ => ?_
    · exact vs_set 10 (ve_dcall G_law_any_ (hr.mono (by decide)) (by intro h; cases h) takesB (va_cons (ve_var 1) (va_cons (ve_lst (va_cons ve_non (va_cons ve_int (va_cons ve_bl (va_cons (ve_lst (va_cons ve_str va_nil)) (va_cons (ve_tup va_nil) (va_cons ve_emp va_nil))))))) va_nil))) nd
    refine vb_cons (emb1 := (fun s216 : Unit => [.fz script_, .fz hand_, .no, .no, .no, .no, .no, .no, .no, .no, .fz odd_, .no, .no])) ?_ fun s216 => ?_
    · refine vs_if (vt_not (vt_tru (ve_dcall G_law_is_none_ (hr.mono (by decide)) (by intro h; cases h) takesB (va_cons (ve_dcall G_law_any_ (hr.mono (by decide)) (by intro h; cases h) takesB (va_cons (ve_var 1) (va_cons (ve_lst (va_cons ve_non (va_cons ve_int (va_cons ve_bl (va_cons ve_str (va_cons ve_emp (va_cons ve_dict1 va_nil))))))) va_nil))) va_nil)))) ?_ ?_
      · exact vb_one (vs_ret ve_bl)
      · exact vb_nil () (sle_eq (sle_eq (sle_no (sle_no (sle_no (sle_no (sle_no (sle_no (sle_no (sle_no (sle_eq (sle_no (sle_no sle_nil)))))))))))))
    exact vb_one (vs_ret (ve_dcall G_law_like_ (hr.mono (by decide)) (fun _ => hγ rfl) takesB (va_cons (ve_plc (k := 7) (m := (((pure odd_) >>= fun x240 => (pure []) >>= fun r241 => pure (x240 :: r241)) >>= onN 1 read_numbers_m)) I_law_place_ HT rfl hcd2 hr (fun A outer s H E f c hr => (ve_dcall G_read_numbers_ (hr.mono (by decide)) (by intro h; cases h) takesL (va_cons (ve_var 10) va_nil)))) (va_cons ve_int va_nil))))
end
end K62

/-! VLTa: texts of whole numbers and fractions, as lists of code points. -/
namespace VLT
open PySem PySem.NumText TL
def dgs (a : List Nat) : Bool := a.all fun c => decide (48 ≤ c) && decide (c ≤ 57)
/-- a whole number's text -/
def wholeT (a : List Nat) : Bool := !a.isEmpty && dgs a && (a.length == 1 || a.head? != some 48)
def signT : List Nat → Bool
  | 45 :: r => wholeT r && r != [48]
  | a => wholeT a
def sval : List Nat → Int
  | 45 :: r => -((digitsVal r : Nat) : Int)
  | a => ((digitsVal a : Nat) : Int)
theorem dgs_iff {a : List Nat} : dgs a = true ↔ AllDigits a := by
  unfold dgs AllDigits
  rw [List.all_eq_true]
  constructor
  · intro h c hc
    have := h c hc
    simpa using this
  · intro h c hc
    simpa using h c hc
theorem digitsVal_snoc (a : List Nat) (c : Nat) : digitsVal (a ++ [c]) = digitsVal a * 10 + (c - 48) := by
  unfold digitsVal
  rw [List.foldl_append]
  rfl
theorem whole_iff {a : List Nat} : wholeT a = true ↔ a ≠ [] ∧ AllDigits a ∧ (a.length = 1 ∨ a.head? ≠ some 48) := by
  unfold wholeT
  rw [Bool.and_eq_true, Bool.and_eq_true, dgs_iff]
  simp only [Bool.not_eq_true', List.isEmpty_eq_false_iff, Bool.or_eq_true, beq_iff_eq, bne_iff_ne, ne_eq]
  exact ⟨fun ⟨⟨a, b⟩, c⟩ => ⟨a, b, c⟩, fun ⟨a, b, c⟩ => ⟨⟨a, b⟩, c⟩⟩
/-- a text tells its number's text -/
theorem numL_of : ∀ (n : Nat) {a : List Nat}, a.length = n → wholeT a = true → numL (digitsVal a) = a
  | 0, a, hn, h => by
    obtain ⟨h1, _⟩ := whole_iff.mp h
    exact absurd (List.length_eq_zero_iff.mp hn) h1
  | n + 1, a, hn, h => by
    obtain ⟨h1, h2, h3⟩ := whole_iff.mp h
    obtain ⟨b, c, rfl⟩ : ∃ b c, a = b ++ [c] := ⟨a.dropLast, a.getLast h1, (List.dropLast_concat_getLast h1).symm⟩
    have hc : 48 ≤ c ∧ c ≤ 57 := h2 c (by simp)
    rw [digitsVal_snoc]
    cases b with
    | nil =>
      have e : digitsVal [] * 10 + (c - 48) = c - 48 := by simp [digitsVal]
      rw [e, numL_lt (by omega)]
      congr 1
      omega
    | cons d b =>
      have hl : (d :: b).length = n := by simp only [List.length_append, List.length_singleton] at hn; omega
      have h48 : d ≠ 48 := by
        rcases h3 with h3 | h3
        · simp at h3
        · intro e
          rw [e] at h3
          exact h3 rfl
      have hb : AllDigits (d :: b) := fun x hx => h2 x (List.mem_append_left _ hx)
      have hw : wholeT (d :: b) = true := whole_iff.mpr ⟨by simp, hb, .inr (by simpa using h48)⟩
      have ih := numL_of n hl hw
      have pos : 1 ≤ digitsVal (d :: b) := by
        cases hz : digitsVal (d :: b) with
        | zero =>
          rw [hz] at ih
          have : numL 0 = [48] := numL_lt (by decide)
          rw [this] at ih
          injection ih with ih
          exact absurd ih.symm h48
        | succ m => omega
      have hm : (digitsVal (d :: b) * 10 + (c - 48)) / 10 = digitsVal (d :: b) := by omega
      have hr : (digitsVal (d :: b) * 10 + (c - 48)) % 10 = c - 48 := by omega
      rw [numL_step (by omega), hm, hr, ih]
      congr 2
      omega
theorem whole_num (n : Nat) : wholeT (numL n) = true := by
  refine whole_iff.mpr ⟨numL_ne n, numL_digits n, ?_⟩
  induction n using Nat.strongRecOn with
  | _ n ih =>
    by_cases h : n < 10
    · rw [numL_lt h]
      exact .inl rfl
    · right
      rw [numL_step (by omega)]
      have hne := numL_ne (n / 10)
      cases hq : numL (n / 10) with
      | nil => exact absurd hq hne
      | cons d b =>
        show some d ≠ some 48
        rcases ih (n / 10) (by omega) with q | q
        · rw [hq] at q
          have hb : b = [] := by simpa using q
          subst hb
          intro e
          injection e with e
          subst e
          have : n / 10 = 0 := numL_inj (hq.trans (numL_lt (n := 0) (by decide)).symm)
          omega
        · rw [hq] at q
          exact q
theorem val_zero {a : List Nat} (h : wholeT a = true) : digitsVal a = 0 ↔ a = [48] := by
  constructor
  · intro e
    have := numL_of _ rfl h
    rw [e] at this
    rw [← this]
    exact numL_lt (by decide)
  · rintro rfl
    decide
/-! ### what a text tells -/
theorem spl_acc : ∀ (l acc : List Nat), ∃ p r, spl [47] 0 [] l = p :: r ∧ spl [47] 0 acc l = (acc ++ p) :: r
  | [], acc => ⟨[], [], rfl, by rw [List.append_nil]; rfl⟩
  | c :: l, acc => by
    cases h : pre [47] (c :: l) with
    | true =>
      rw [spl_hit h, spl_hit h]
      exact ⟨[], _, rfl, by rw [List.append_nil]⟩
    | false =>
      rw [spl_miss h, spl_miss h]
      obtain ⟨p, r, e1, e2⟩ := spl_acc l [c]
      obtain ⟨p', r', e3, e4⟩ := spl_acc l (acc ++ [c])
      rw [e1] at e3
      injection e3 with e3 e5
      subst e3 e5
      exact ⟨[c] ++ p, r, by rw [List.nil_append]; exact e2, by rw [e4, List.append_assoc]⟩
theorem spl_cons {c : Nat} {l p : List Nat} {r : List (List Nat)} (h : c ≠ 47) (e : spl [47] 0 [] l = p :: r) : spl [47] 0 [] (c :: l) = (c :: p) :: r := by
  rw [spl_miss (pre_of_head [] l h)]
  obtain ⟨p', r', e1, e2⟩ := spl_acc l ([] ++ [c])
  rw [e] at e1
  injection e1 with e1 e3
  subst e1 e3
  exact e2
/-- the first part's head is the text's head -/
theorem spl_head {l p : List Nat} {r : List (List Nat)} (e : spl [47] 0 [] l = p :: r) (h : l.head? ≠ some 45) : p.head? ≠ some 45 := by
  cases l with
  | nil =>
    injection e with e _
    subst e
    simp
  | cons c l =>
    by_cases hc : c = 47
    · subst hc
      rw [spl_hit (by rfl)] at e
      injection e with e _
      subst e
      simp
    · obtain ⟨p', r', e1, _⟩ := spl_acc l []
      rw [spl_cons hc e1] at e
      injection e with e _
      subst e
      simpa using h
theorem signT_no {a : List Nat} (h : a.head? ≠ some 45) : signT a = wholeT a ∧ sval a = ((digitsVal a : Nat) : Int) := by
  unfold signT sval
  cases a with
  | nil => exact ⟨rfl, rfl⟩
  | cons c r =>
    have : c ≠ 45 := by simpa using h
    constructor <;> split <;> simp_all
/-- top, bottom -/
def frT : List (List Nat) → Option (Int × Int)
  | [p] => if signT p = true then some (sval p, 1) else none
  | [p, q] => if signT p = true ∧ wholeT q = true ∧ 2 ≤ digitsVal q ∧ Int.gcd (sval p) (digitsVal q) = 1 then some (sval p, ((digitsVal q : Nat) : Int)) else none
  | _ => none
def tell (a : List Nat) : Option (Int × Int) := frT (spl [47] 0 [] a)
def sgnL (p : Int) : List Nat := if p < 0 then 45 :: numL p.natAbs else numL p.natAbs
def frL (p q : Int) : List Nat := sgnL p ++ (if q = 1 then [] else 47 :: numL q.natAbs)
theorem numL_47 (n : Nat) : 47 ∉ numL n := numL_free (.inl (by decide))
theorem numL_head (n : Nat) : (numL n).head? ≠ some 45 := by
  cases h : numL n with
  | nil => simp
  | cons c r =>
    have := numL_digits n c (by rw [h]; simp)
    intro e
    injection e with e
    omega
theorem sgnL_47 (p : Int) : 47 ∉ sgnL p := by
  unfold sgnL
  split
  · intro h
    rcases List.mem_cons.mp h with h | h
    · omega
    · exact numL_47 _ h
  · exact numL_47 _
theorem numL_48 {n : Nat} : numL n = [48] ↔ n = 0 := ⟨fun h => numL_inj (h.trans (numL_lt (n := 0) (by decide)).symm), fun h => by rw [h]; exact numL_lt (by decide)⟩
theorem sgnL_tell (p : Int) : signT (sgnL p) = true ∧ sval (sgnL p) = p := by
  unfold sgnL
  by_cases h : p < 0
  · rw [if_pos h]
    constructor
    · show (wholeT (numL p.natAbs) && numL p.natAbs != [48]) = true
      rw [whole_num, Bool.true_and, bne_iff_ne]
      intro e
      have := numL_48.mp e
      omega
    · show -((digitsVal (numL p.natAbs) : Nat) : Int) = p
      rw [numL_val]
      omega
  · rw [if_neg h]
    obtain ⟨e1, e2⟩ := signT_no (numL_head p.natAbs)
    rw [e1, e2, whole_num, numL_val]
    exact ⟨rfl, by omega⟩
theorem sgnL_of {a : List Nat} (h : signT a = true) : sgnL (sval a) = a := by
  cases a with
  | nil => cases h
  | cons c r =>
    by_cases hc : c = 45
    · subst hc
      have h : (wholeT r && r != [48]) = true := h
      rw [Bool.and_eq_true, bne_iff_ne] at h
      show sgnL (-((digitsVal r : Nat) : Int)) = _
      have : digitsVal r ≠ 0 := fun e => h.2 ((val_zero h.1).mp e)
      unfold sgnL
      rw [if_pos (by omega), Int.natAbs_neg, Int.natAbs_natCast, numL_of _ rfl h.1]
    · have hh : (c :: r).head? ≠ some 45 := by simpa using hc
      obtain ⟨e1, e2⟩ := signT_no hh
      rw [e2]
      rw [e1] at h
      unfold sgnL
      rw [if_neg (by omega), Int.natAbs_natCast, numL_of _ rfl h]
theorem tell_fr {p q : Int} (h : 0 < q) (g : Int.gcd p q = 1) : tell (frL p q) = some (p, q) := by
  obtain ⟨e1, e2⟩ := sgnL_tell p
  unfold tell frL
  by_cases hq : q = 1
  · subst hq
    rw [if_pos rfl, List.append_nil, spl_last1 (sgnL_47 p), List.nil_append]
    show (if signT (sgnL p) = true then some (sval (sgnL p), (1 : Int)) else none) = _
    rw [if_pos e1, e2]
  · rw [if_neg hq]
    have : sgnL p ++ 47 :: numL q.natAbs = sgnL p ++ ([47] ++ numL q.natAbs) := rfl
    rw [this, spl_part1 (sgnL_47 p), spl_last1 (numL_47 _), List.nil_append, List.nil_append]
    show (if signT (sgnL p) = true ∧ wholeT (numL q.natAbs) = true ∧ 2 ≤ digitsVal (numL q.natAbs) ∧ Int.gcd (sval (sgnL p)) (digitsVal (numL q.natAbs)) = 1 then some (sval (sgnL p), ((digitsVal (numL q.natAbs) : Nat) : Int)) else none) = _
    rw [e2, numL_val, Int.natAbs_of_nonneg (by omega)]
    rw [if_pos ⟨e1, whole_num _, by omega, g⟩]
theorem joinL2 (p q : List Nat) : joinL [47] [p, q] = p ++ 47 :: q := rfl
theorem spl_back : ∀ (n : Nat) (l : List Nat), l.length ≤ n → joinL [47] (spl [47] 0 [] l) = l
  | _, [], _ => rfl
  | 0, c :: l, h => by simp at h
  | n + 1, c :: l, h => by
    have hl : l.length ≤ n := by simpa using h
    have ih := spl_back n l hl
    by_cases hc : c = 47
    · subst hc
      rw [spl_hit (by rfl)]
      show joinL [47] ([] :: spl [47] 0 [] l) = _
      obtain ⟨p, r, e, _⟩ := spl_acc l []
      rw [e] at ih ⊢
      show [] ++ ([47] ++ joinL [47] (p :: r)) = _
      rw [ih]
      rfl
    · obtain ⟨p, r, e, _⟩ := spl_acc l []
      rw [spl_cons hc e]
      rw [e] at ih
      cases r with
      | nil =>
        show c :: p = _
        have : p = l := ih
        rw [this]
      | cons q r =>
        show (c :: p) ++ ([47] ++ joinL [47] (q :: r)) = _
        have : p ++ ([47] ++ joinL [47] (q :: r)) = l := ih
        rw [List.cons_append, this]
theorem fr_tell {a : List Nat} {p q : Int} (h : tell a = some (p, q)) : frL p q = a ∧ 0 < q ∧ Int.gcd p q = 1 := by
  have b := spl_back _ a (Nat.le_refl _)
  unfold tell at h
  generalize spl [47] 0 [] a = ps at h b
  match ps, h, b with
  | [], h, _ => cases h
  | [x], h, b =>
    have h : (if signT x = true then some (sval x, (1 : Int)) else none) = some (p, q) := h
    by_cases c : signT x = true
    · rw [if_pos c] at h
      injection h with h
      injection h with h1 h2
      subst h1 h2
      have b : x = a := b
      refine ⟨?_, by decide, by simp⟩
      unfold frL
      rw [if_pos rfl, List.append_nil, sgnL_of c, b]
    · rw [if_neg c] at h
      cases h
  | [x, y], h, b =>
    have h : (if signT x = true ∧ wholeT y = true ∧ 2 ≤ digitsVal y ∧ Int.gcd (sval x) (digitsVal y) = 1 then some (sval x, ((digitsVal y : Nat) : Int)) else none) = some (p, q) := h
    by_cases c : signT x = true ∧ wholeT y = true ∧ 2 ≤ digitsVal y ∧ Int.gcd (sval x) (digitsVal y) = 1
    · rw [if_pos c] at h
      injection h with h
      injection h with h1 h2
      subst h1 h2
      refine ⟨?_, by omega, c.2.2.2⟩
      unfold frL
      rw [if_neg (by omega), sgnL_of c.1, Int.natAbs_natCast, numL_of _ rfl c.2.1]
      exact b
    · rw [if_neg c] at h
      cases h
  | _ :: _ :: _ :: _, h, _ => cases h
/-! ### the law's own reader -/
def ownT (below : Bool) : List (List Nat) → Option (Int × Int)
  | [p] => if wholeT p = true ∧ ¬ (below = true ∧ digitsVal p = 0) then some (if below then 0 - ((digitsVal p : Nat) : Int) else ((digitsVal p : Nat) : Int), 1) else none
  | [p, q] => if (wholeT p = true ∧ wholeT q = true ∧ ¬ (below = true ∧ digitsVal p = 0)) ∧ 2 ≤ digitsVal q ∧ Int.gcd ((digitsVal p : Nat) : Int) (digitsVal q) = 1 then some (if below then 0 - ((digitsVal p : Nat) : Int) else ((digitsVal p : Nat) : Int), ((digitsVal q : Nat) : Int)) else none
  | _ => none
def own (a : List Nat) : Option (Int × Int) := if a.head? = some 45 then ownT true (spl [47] 0 [] (a.drop 1)) else ownT false (spl [47] 0 [] a)
theorem own_tell (a : List Nat) : own a = tell a := by
  unfold own tell
  by_cases h : a.head? = some 45
  · rw [if_pos h]
    cases a with
    | nil => cases h
    | cons c l =>
      have : c = 45 := by simpa using h
      subst this
      show ownT true (spl [47] 0 [] l) = _
      obtain ⟨p, r, e, _⟩ := spl_acc l []
      rw [spl_cons (by decide) e, e]
      have sg : signT (45 :: p) = true ↔ wholeT p = true ∧ ¬ digitsVal p = 0 := by
        show (wholeT p && p != [48]) = true ↔ _
        rw [Bool.and_eq_true, bne_iff_ne]
        constructor
        · exact fun ⟨x, y⟩ => ⟨x, fun z => y ((val_zero x).mp z)⟩
        · exact fun ⟨x, y⟩ => ⟨x, fun z => y ((val_zero x).mpr z)⟩
      have sv : sval (45 :: p) = -((digitsVal p : Nat) : Int) := rfl
      cases r with
      | nil =>
        show (if wholeT p = true ∧ ¬ (true = true ∧ digitsVal p = 0) then _ else none) = if signT (45 :: p) = true then _ else none
        rw [sv]
        by_cases c : wholeT p = true ∧ ¬ digitsVal p = 0
        · rw [if_pos (sg.mpr c), if_pos ⟨c.1, fun z => c.2 z.2⟩]
          simp
        · rw [if_neg fun z => c (sg.mp z), if_neg fun z => c ⟨z.1, fun y => z.2 ⟨rfl, y⟩⟩]
      | cons q r =>
        cases r with
        | nil =>
          show (if (wholeT p = true ∧ wholeT q = true ∧ ¬ (true = true ∧ digitsVal p = 0)) ∧ 2 ≤ digitsVal q ∧ Int.gcd ((digitsVal p : Nat) : Int) (digitsVal q) = 1 then _ else none) = if signT (45 :: p) = true ∧ wholeT q = true ∧ 2 ≤ digitsVal q ∧ Int.gcd (sval (45 :: p)) (digitsVal q) = 1 then _ else none
          rw [sv, Int.neg_gcd]
          by_cases c : (wholeT p = true ∧ ¬ digitsVal p = 0) ∧ wholeT q = true ∧ 2 ≤ digitsVal q ∧ Int.gcd ((digitsVal p : Nat) : Int) (digitsVal q) = 1
          · have hA : signT (45 :: p) = true ∧ wholeT q = true ∧ 2 ≤ digitsVal q ∧ Int.gcd ((digitsVal p : Nat) : Int) (digitsVal q) = 1 := ⟨sg.mpr c.1, c.2⟩
            rw [if_pos ⟨⟨c.1.1, c.2.1, fun z => c.1.2 z.2⟩, c.2.2⟩, if_pos hA]
            simp
          · rw [if_neg fun z => c ⟨⟨z.1.1, fun y => z.1.2.2 ⟨rfl, y⟩⟩, z.1.2.1, z.2⟩, if_neg fun z => c ⟨sg.mp z.1, z.2⟩]
        | cons _ _ => rfl
  · rw [if_neg h]
    obtain ⟨p, r, e, _⟩ := spl_acc a []
    obtain ⟨e1, e2⟩ := signT_no (spl_head e h)
    rw [e]
    cases r with
    | nil =>
      show (if wholeT p = true ∧ ¬ (false = true ∧ digitsVal p = 0) then _ else none) = if signT p = true then _ else none
      rw [e1, e2]
      by_cases c : wholeT p = true
      · rw [if_pos c, if_pos ⟨c, fun z => absurd z.1 (by decide)⟩]
        rfl
      · rw [if_neg c, if_neg fun z => c z.1]
    | cons q r =>
      cases r with
      | nil =>
        show (if (wholeT p = true ∧ wholeT q = true ∧ ¬ (false = true ∧ digitsVal p = 0)) ∧ 2 ≤ digitsVal q ∧ Int.gcd ((digitsVal p : Nat) : Int) (digitsVal q) = 1 then _ else none) = if signT p = true ∧ wholeT q = true ∧ 2 ≤ digitsVal q ∧ Int.gcd (sval p) (digitsVal q) = 1 then _ else none
        rw [e1, e2]
        by_cases c : wholeT p = true ∧ wholeT q = true ∧ 2 ≤ digitsVal q ∧ Int.gcd ((digitsVal p : Nat) : Int) (digitsVal q) = 1
        · rw [if_pos c, if_pos ⟨⟨c.1, c.2.1, fun z => absurd z.1 (by decide)⟩, c.2.2⟩]
          rfl
        · rw [if_neg c, if_neg fun z => c ⟨z.1.1, z.1.2.1, z.2⟩]
      | cons _ _ => rfl
end VLT

/-! VLPl: what a mirror makes, in plain terms. -/
namespace VLib
open PySem PySem.Spec VL
/-- m at S gives an answer, φ holds of it -/
def Wp {α : Type} (m : M α) (S : Sx) (φ : α → Sx → Prop) : Prop := match m S with
  | .ok a S' => φ a S'
  | _ => False
section
variable {α β γ δ : Type} {S : Sx} {φ ψ : α → Sx → Prop}
theorem wp_pure {a : α} : Wp (pure a) S φ ↔ φ a S := Iff.rfl
theorem wp_bind {m : M β} {k : β → M α} : Wp (m >>= k) S φ ↔ Wp m S fun a S' => Wp (k a) S' φ := by
  unfold Wp
  cases e : m S with
  | ok a S' => rw [bind_ok e]
  | er x S' => rw [bind_er e]
  | no => rw [bind_no e]
theorem wp_ite {c : Prop} [Decidable c] {m n : M α} : Wp (if c then m else n) S φ ↔ if c then Wp m S φ else Wp n S φ := by
  by_cases h : c <;> simp [h]
theorem Wp.mono {m : M α} (h : Wp m S φ) (q : ∀ a S', φ a S' → ψ a S') : Wp m S ψ := by
  unfold Wp at *
  cases e : m S with
  | ok a S' => rw [e] at h; exact q _ _ h
  | er x S' => rw [e] at h; exact h
  | no => rw [e] at h; exact h
theorem Wp.bind {m : M β} {k : β → M α} {χ : β → Sx → Prop} (h : Wp m S χ) (q : ∀ a S', χ a S' → Wp (k a) S' φ) : Wp (m >>= k) S φ := wp_bind.mpr (h.mono q)
theorem Wp.run {m : M α} (h : Wp m S φ) : ∃ a S', m S = .ok a S' ∧ φ a S' := by
  unfold Wp at h
  cases e : m S with
  | ok a S' => rw [e] at h; exact ⟨a, S', rfl, h⟩
  | er x S' => rw [e] at h; exact h.elim
  | no => rw [e] at h; exact h.elim
/-! ### the mirror's shape -/
theorem seqF_pnx {a : α} {k : α → M (Fl γ β)} : seqF (pure (.nx a)) k = k a := rfl
theorem seqF_prt {d : D} {k : α → M (Fl γ β)} : seqF (pure (.rt d)) k = pure (.rt d) := rfl
theorem seqF_pbk {c : γ} {k : α → M (Fl γ β)} : seqF (pure (.bk c)) k = pure (.bk c) := rfl
theorem seqF_pct {c : γ} {k : α → M (Fl γ β)} : seqF (pure (.ct c)) k = pure (.ct c) := rfl
theorem seqF_bind {m : M δ} {f : δ → M (Fl γ α)} {k : α → M (Fl γ β)} : seqF (m >>= f) k = m >>= fun d => seqF (f d) k := by
  unfold seqF
  rw [bind_assoc]
theorem seqF_ite {c : Prop} [Decidable c] {m n : M (Fl γ α)} {k : α → M (Fl γ β)} : seqF (if c then m else n) k = if c then seqF m k else seqF n k := by
  by_cases h : c <;> simp [h]
theorem seqF_err {x : Exc} {k : α → M (Fl γ β)} : seqF (err x) k = err x := rfl
theorem err_bind {x : Exc} {k : α → M β} : (err x >>= k) = err x := rfl
theorem bodyM_prt {d : D} : bodyM (pure (.rt d)) = pure d := rfl
theorem bodyM_pnx : bodyM (pure (.nx ())) = pure .non := rfl
theorem bodyM_err {x : Exc} : bodyM (err x) = err x := rfl
theorem bodyM_bind {m : M δ} {f : δ → M (Fl Unit Unit)} : bodyM (m >>= f) = m >>= fun d => bodyM (f d) := by
  unfold bodyM
  rw [bind_assoc]
theorem bodyM_ite {c : Prop} [Decidable c] {m n : M (Fl Unit Unit)} : bodyM (if c then m else n) = if c then bodyM m else bodyM n := by
  by_cases h : c <;> simp [h]
theorem ite_bind {c : Prop} [Decidable c] {m n : M α} {k : α → M β} : ((if c then m else n) >>= k) = if c then m >>= k else n >>= k := by
  by_cases h : c <;> simp [h]
end
/-! ### the operations on ints -/
section
variable {a b : Int} {S : Sx}
theorem addD_i : addD (.int a) (.int b) = pure (.int (a + b)) := rfl
theorem subD_i : subD (.int a) (.int b) = pure (.int (a - b)) := rfl
theorem mulI_ok (h : MulOk a b) : mulI (.int a) (.int b) = pure (.int (a * b)) := by show (if MulOk a b then _ else _) = _; rw [if_pos h]
theorem mulI_r (h : b.natAbs < 2 ^ 64) : mulI (.int a) (.int b) = pure (.int (a * b)) := mulI_ok (.inr (.inl h))
theorem mulI_l (h : a.natAbs < 2 ^ 64) : mulI (.int a) (.int b) = pure (.int (a * b)) := mulI_ok (.inl h)
theorem fdivD_ok (h : DivOk b) : fdivD (.int a) (.int b) = pure (.int (a.fdiv b)) := by show (if DivOk b then _ else _) = _; rw [if_pos h]
theorem modD_ok (h : b ≠ 0) : modD (.int a) (.int b) = pure (.int (a.fmod b)) := by show (if b = 0 then _ else _) = _; rw [if_neg h]
theorem powD_ok (h : 0 ≤ b ∧ b ≤ 1000000 ∧ a.natAbs < 2 ^ 64) : powD (.int a) (.int b) = pure (.int (a ^ b.toNat)) := by show (if _ then _ else _) = _; rw [if_pos h]
theorem negD_i : negD (.int a) = pure (.int (-a)) := rfl
theorem ltD_i : ltD (.int a) (.int b) = pure (.bl (decide (a < b))) := rfl
theorem leD_i : leD (.int a) (.int b) = pure (.bl (decide (a ≤ b))) := rfl
theorem gtD_i : gtD (.int a) (.int b) = pure (.bl (decide (b < a))) := rfl
theorem geD_i : geD (.int a) (.int b) = pure (.bl (decide (b ≤ a))) := rfl
theorem eqD_ok {x y : D} (hx : x.cmp = true) (hy : y.cmp = true) : eqD x y = pure (.bl (PyData.eqv x.py y.py)) := by
  unfold eqD eqB
  rw [if_pos ⟨hx, hy⟩]
  rfl
theorem neD_ok {x y : D} (hx : x.cmp = true) (hy : y.cmp = true) : neD x y = pure (.bl (!PyData.eqv x.py y.py)) := by
  unfold neD eqB
  rw [if_pos ⟨hx, hy⟩]
  rfl
theorem cmp_i : (D.int a).cmp = true := by simp [D.cmp, D.plain, D.py, SeqAt.shaped, PyData.canLay0, PyData.depth]
theorem eqv_i : PyData.eqv (.int a) (.int b) = decide (a = b) := by simp [PyData.eqv, Bool.beq_eq_decide_eq]
theorem eqD_i : eqD (.int a) (.int b) = pure (.bl (decide (a = b))) := by rw [eqD_ok cmp_i cmp_i]; show pure (D.bl (PyData.eqv (.int a) (.int b))) = _; rw [eqv_i]
theorem neD_i : neD (.int a) (.int b) = pure (.bl (!decide (a = b))) := by rw [neD_ok cmp_i cmp_i]; show pure (D.bl (!PyData.eqv (.int a) (.int b))) = _; rw [eqv_i]
theorem asB_b {k : Bool} : asB (.bl k) = pure k := rfl
theorem truB_b {k : Bool} : truB (.bl k) = pure k := rfl
theorem on1_c {f : D → M D} {d : D} : on1 f [d] = f d := rfl
theorem on2_c {f : D → D → M D} {d e : D} : on2 f [d, e] = f d e := rfl
theorem onN_c {n : Nat} {g : List D → M D} {ds : List D} (h : ds.length = n) : onN n g ds = g ds := if_pos h
theorem abs1_i : abs1 (.int a) = pure (.int (if a < 0 then -a else a)) := rfl
theorem int1_i : int1 (.int a) = pure (.int a) := rfl
theorem int1_b {k : Bool} : int1 (.bl k) = pure (.int (if k then 1 else 0)) := rfl
theorem tupD_ok {ds : List D} (h : ds.length ≤ lim) : tupD ds = pure (.tup ds) := if_pos h
theorem lstD_ok {ds : List D} (h : ds.length ≤ lim) : lstD ds = pure (.lst ds) := if_pos h
theorem limL_ok {ds : List D} (h : ds.length ≤ lim) : limL ds = pure ds := if_pos h
theorem un2_t {x y : D} : un2 (.tup [x, y]) = pure (x, y) := rfl
theorem un3_t {x y z : D} : un3 (.tup [x, y, z]) = pure (x, y, z) := rfl
theorem len_t {xs : List D} : len1 (.tup xs) = pure (.int xs.length) := rfl
theorem len_l {xs : List D} : len1 (.lst xs) = pure (.int xs.length) := rfl
theorem item_t {xs : List D} {i : Int} : itemD (.tup xs) (.int i) = ofO (L2.atI xs i) := rfl
theorem item_l {xs : List D} {i : Int} : itemD (.lst xs) (.int i) = ofO (L2.atI xs i) := rfl
theorem ofO_s {α : Type} {x : α} : ofO (some x) = pure x := rfl
theorem atI_at {α : Type} {xs : List α} {i : Int} {j : Nat} (h : i = j) {x : α} (hx : xs[j]? = some x) : L2.atI xs i = some x := by
  subst h
  unfold L2.atI L2.ixN
  have h1 : j < xs.length := by
    rcases Nat.lt_or_ge j xs.length with h | h
    · exact h
    · rw [List.getElem?_eq_none h] at hx; cases hx
  rw [if_pos (by omega), if_pos (by omega)]
  exact hx
theorem catch_pure {tb : List (Str × Bool)} {b0 : Bool} {d : D} : catchM tb b0 (pure d) = pure (.bl b0) := rfl
end
end VLib

set_option exponentiation.threshold 20000
/-! VLPf: the mirrors of the fractions' functions, in plain terms. -/
namespace VLib
open PySem PySem.Spec VL
section
variable {x y z : D}
theorem at2_0 : L2.atI [x, y] 0 = some x := rfl
theorem at2_1 : L2.atI [x, y] 1 = some y := rfl
theorem at3_0 : L2.atI [x, y, z] 0 = some x := rfl
theorem at3_1 : L2.atI [x, y, z] 1 = some y := rfl
theorem at3_2 : L2.atI [x, y, z] 2 = some z := rfl
end
theorem tup1 {x : D} : tupD [x] = pure (.tup [x]) := tupD_ok (by show 1 ≤ 1000000; decide)
theorem tup2 {x y : D} : tupD [x, y] = pure (.tup [x, y]) := tupD_ok (by show 2 ≤ 1000000; decide)
theorem tup3 {x y z : D} : tupD [x, y, z] = pure (.tup [x, y, z]) := tupD_ok (by show 3 ≤ 1000000; decide)
theorem onN0 {g : List D → M D} : onN 0 g [] = g [] := rfl
theorem onN1 {g : List D → M D} {x : D} : onN 1 g [x] = g [x] := rfl
theorem onN2 {g : List D → M D} {x y : D} : onN 2 g [x, y] = g [x, y] := rfl
theorem onN3 {g : List D → M D} {x y z : D} : onN 3 g [x, y, z] = g [x, y, z] := rfl
theorem onN4 {g : List D → M D} {x y z w : D} : onN 4 g [x, y, z, w] = g [x, y, z, w] := rfl
/-- small enough for a divisor -/
def Sm (i : Int) : Prop := i.natAbs < 2 ^ 9000
theorem Sm.div {i : Int} (h : Sm i) (h0 : i ≠ 0) : DivOk i := ⟨h0, (Nat.log2_lt (by omega)).mpr h⟩
theorem Sm.le {i j : Int} (h : Sm i) (q : j.natAbs ≤ i.natAbs) : Sm j := Nat.lt_of_le_of_lt q h
theorem pure_nx {γ α : Type} {a : α} : (pure (Fl.nx a) : M (Fl γ α)) = pure (Fl.nx a) := rfl
theorem fmod_pos {x y : Int} (hx : 0 ≤ x) (hy : 0 < y) : x.fmod y = x % y := Int.fmod_eq_emod_of_nonneg x (Int.le_of_lt hy)
theorem gcd_step {x y : Int} (hx : 0 ≤ x) : Int.gcd y (x % y) = Int.gcd x y := by
  show Nat.gcd y.natAbs (x % y).natAbs = Nat.gcd x.natAbs y.natAbs
  rw [Int.natAbs_emod_of_nonneg hx, Nat.gcd_comm y.natAbs, ← Nat.gcd_rec, Nat.gcd_comm]
/-- Euclid's loop -/
theorem gcd_loop {γ : Type} {mc : D × D → M Bool} {mb : D × D → M (Fl (D × D) (D × D))} (hc : ∀ x y : Int, mc (.int x, .int y) = pure (decide (0 < y))) (hb : ∀ x y : Int, 0 ≤ x → 0 < y → mb (.int x, .int y) = pure (.nx (.int y, .int (x % y)))) :
    ∀ (n : Nat) (x y : Int), 0 ≤ x → 0 ≤ y → y.toNat < n → whileM n mc mb (.int x, .int y) = (pure (.nx (.int (Int.gcd x y), .int 0)) : M (Fl γ (D × D)))
  | 0, x, y, _, _, h => absurd h (Nat.not_lt_zero _)
  | n + 1, x, y, hx, hy, h => by
    show (mc (.int x, .int y) >>= fun k => _) = _
    rw [hc, pure_bind]
    by_cases q : 0 < y
    · rw [if_pos (by simp [q]), hb x y hx q, pure_bind]
      have h1 : 0 ≤ x % y := Int.emod_nonneg _ (by omega)
      have h2 : x % y < y := Int.emod_lt_of_pos _ q
      refine (gcd_loop hc hb n y (x % y) hy h1 (by omega)).trans ?_
      rw [gcd_step hx]
    · have e : y = 0 := by omega
      subst e
      rw [if_neg (by simp)]
      simp only [Int.gcd_zero_right, Int.natAbs_of_nonneg hx]
theorem is_integer_i {i : Int} : is_integer_m [.int i] = pure (.bl true) := rfl
theorem common_part_eq {a b : Int} (hb : Sm b) : common_part_m [.int a, .int b] = pure (.int (Int.gcd a b)) := by
  show bodyM (common_part_b (.int a) (.int b)) = _
  unfold common_part_b
  simp only [pure_bind, on1_c, abs1_i, seqF_pnx]
  rw [gcd_loop (fun x y => by simp only [pure_bind, gtD_i, asB_b]) (fun x y hx hy => by
    simp only [pure_bind, modD_ok (show y ≠ 0 by omega), un2_t, seqF_pnx, fmod_pos hx hy]) _ _ _ (by split <;> omega) (by split <;> omega) (by unfold Sm at hb; split <;> omega)]
  simp only [pure_bind, seqF_pnx, bodyM_prt]
  congr 2
  congr 1
  split <;> split <;> simp
/-! ### lowest terms -/
def rg (t b : Int) : Int := if b < 0 then -(Int.gcd t b : Int) else Int.gcd t b
def rt (t b : Int) : Int := t.fdiv (rg t b)
def rb (t b : Int) : Int := b.fdiv (rg t b)
def redD (t b : Int) : D := .tup [.int (rt t b), .int (rb t b)]
def frD (t b : Int) : D := .tup [.int t, .int b]
theorem gcd_pos {t b : Int} (h : b ≠ 0) : 0 < (Int.gcd t b : Int) := by
  have : Int.gcd t b ≠ 0 := fun e => h (Int.gcd_eq_zero_iff.mp e).2
  omega
theorem rg_ne {t b : Int} (h : b ≠ 0) : rg t b ≠ 0 := by
  have := gcd_pos (t := t) h
  unfold rg
  split <;> omega
theorem rg_abs {t b : Int} : (rg t b).natAbs = Int.gcd t b := by
  unfold rg
  split <;> omega
theorem rg_dt {t b : Int} : rg t b ∣ t := by
  rw [← Int.natAbs_dvd, rg_abs]
  exact Int.gcd_dvd_left ..
theorem rg_db {t b : Int} : rg t b ∣ b := by
  rw [← Int.natAbs_dvd, rg_abs]
  exact Int.gcd_dvd_right ..
theorem rt_mul {t b : Int} (h : b ≠ 0) : rg t b * rt t b = t := by
  obtain ⟨c, e⟩ := rg_dt (t := t) (b := b)
  have e2 : rt t b = c := by
    unfold rt
    conv => lhs; arg 1; rw [e]
    exact Int.mul_fdiv_cancel_left _ (rg_ne h)
  rw [e2, ← e]
theorem rb_mul {t b : Int} (h : b ≠ 0) : rg t b * rb t b = b := by
  obtain ⟨c, e⟩ := rg_db (t := t) (b := b)
  have e2 : rb t b = c := by
    unfold rb
    conv => lhs; arg 1; rw [e]
    exact Int.mul_fdiv_cancel_left _ (rg_ne h)
  rw [e2, ← e]
theorem rb_pos {t b : Int} (h : b ≠ 0) : 0 < rb t b := by
  have e := rb_mul (t := t) h
  have g := gcd_pos (t := t) h
  rcases Int.lt_trichotomy (rb t b) 0 with q | q | q
  · exfalso
    unfold rg at e
    split at e
    · have := Int.mul_pos_of_neg_of_neg (show -(Int.gcd t b : Int) < 0 by omega) q; omega
    · have := Int.mul_neg_of_pos_of_neg g q; omega
  · rw [q, Int.mul_zero] at e; exact absurd e.symm h
  · exact q
theorem red_cop {t b : Int} (h : b ≠ 0) : Int.gcd (rt t b) (rb t b) = 1 := by
  have e1 := rt_mul (t := t) h
  have e2 := rb_mul (t := t) h
  have q : Int.gcd (rg t b * rt t b) (rg t b * rb t b) = (rg t b).natAbs * Int.gcd (rt t b) (rb t b) := Int.gcd_mul_left ..
  rw [e1, e2, rg_abs] at q
  have g := gcd_pos (t := t) h
  exact Nat.eq_of_mul_eq_mul_left (show 0 < Int.gcd t b by omega) (by rw [← q, Nat.mul_one])
theorem rt_le {t b : Int} (h : b ≠ 0) : (rt t b).natAbs ≤ t.natAbs := by
  have e := congrArg Int.natAbs (rt_mul (t := t) h)
  rw [Int.natAbs_mul, rg_abs] at e
  have g := gcd_pos (t := t) h
  rw [← e]
  exact Nat.le_mul_of_pos_left _ (by omega)
theorem rb_le {t b : Int} (h : b ≠ 0) : (rb t b).natAbs ≤ b.natAbs := by
  have e := congrArg Int.natAbs (rb_mul (t := t) h)
  rw [Int.natAbs_mul, rg_abs] at e
  have g := gcd_pos (t := t) h
  rw [← e]
  exact Nat.le_mul_of_pos_left _ (by omega)
/-- one pair in lowest terms, the other a multiple of it -/
theorem red_of {t b x y k : Int} (hy : 0 < y) (hc : Int.gcd x y = 1) (hk : k ≠ 0) (ht : t = k * x) (hb : b = k * y) : rt t b = x ∧ rb t b = y := by
  have e : rg t b = k := by
    have g : Int.gcd t b = k.natAbs := by rw [ht, hb, Int.gcd_mul_left, hc, Nat.mul_one]
    unfold rg
    rw [g]
    split
    · next q =>
      have : k < 0 := by
        rcases Int.lt_trichotomy k 0 with z | z | z
        · exact z
        · exact absurd z hk
        · have := Int.mul_pos z hy; omega
      omega
    · next q =>
      have : 0 < k := by
        rcases Int.lt_trichotomy k 0 with z | z | z
        · have := Int.mul_neg_of_neg_of_pos z hy; omega
        · exact absurd z hk
        · exact z
      omega
  unfold rt rb
  rw [e, ht, hb]
  exact ⟨Int.mul_fdiv_cancel_left _ hk, Int.mul_fdiv_cancel_left _ hk⟩
theorem red_id {x y : Int} (hy : 0 < y) (hc : Int.gcd x y = 1) : rt x y = x ∧ rb x y = y := red_of hy hc (k := 1) (by decide) (by omega) (by omega)
theorem red_mul {t b k : Int} (h : b ≠ 0) (hk : k ≠ 0) : redD (t * k) (b * k) = redD t b := by
  have e1 := rt_mul (t := t) h
  have e2 := rb_mul (t := t) h
  obtain ⟨q1, q2⟩ := red_of (t := t * k) (b := b * k) (x := rt t b) (y := rb t b) (k := rg t b * k) (rb_pos h) (red_cop h) (Int.mul_ne_zero (rg_ne h) hk) (by grind) (by grind)
  unfold redD
  rw [q1, q2]
/-- equal quotients, equal terms -/
theorem red_eq {t b t' b' : Int} (h : b ≠ 0) (h' : b' ≠ 0) (e : t * b' = t' * b) : redD t b = redD t' b' := by
  have q1 := red_mul (t := t) (k := b') h h'
  have q2 := red_mul (t := t') (k := b) h' h
  rw [← q1, ← q2, e, Int.mul_comm b b']
theorem rg_sm {t b : Int} (h0 : b ≠ 0) (h : Sm b) : Sm (rg t b) := by
  refine h.le ?_
  rw [rg_abs]
  exact Nat.le_of_dvd (by omega) (Int.natAbs_dvd_natAbs.mpr (Int.gcd_dvd_right ..) |> fun q => by simpa using q)
theorem lowest_eq {t b : Int} (h0 : b ≠ 0) (h : Sm b) : lowest_m [.int t, .int b] = pure (redD t b) := by
  show bodyM (lowest_b (.int t) (.int b)) = _
  unfold lowest_b
  have hd : DivOk (rg t b) := (rg_sm h0 h).div (rg_ne h0)
  have e : rg t b = if b < 0 then -(Int.gcd t b : Int) else Int.gcd t b := rfl
  simp only [pure_bind, onN_c (show [D.int t, D.int b].length = 2 from rfl), common_part_eq h, seqF_pnx, ltD_i, asB_b, seqF_ite, negD_i, decide_eq_true_eq, seqF_bind]
  split <;> (next q => simp only [q, if_true, if_false] at e; simp only [pure_bind, ← e, fdivD_ok hd, tup2, bodyM_prt]; rfl)
theorem law_low_eq {t b : Int} (h0 : b ≠ 0) (h : Sm b) : law_low_m [.int t, .int b] = pure (redD t b) := by
  show bodyM (law_low_b (.int t) (.int b)) = _
  unfold law_low_b
  have hd : DivOk (rg t b) := (rg_sm h0 h).div (rg_ne h0)
  have e : rg t b = if b < 0 then -(Int.gcd t b : Int) else Int.gcd t b := rfl
  simp only [pure_bind, on1_c, abs1_i, seqF_pnx, un2_t]
  rw [gcd_loop (fun x y => by simp only [pure_bind, gtD_i, asB_b]) (fun x y hx hy => by
    simp only [pure_bind, on1_c, int1_i, modD_ok (show y ≠ 0 by omega), un2_t, seqF_pnx, fmod_pos hx hy]) _ _ _ (by split <;> omega) (by split <;> omega) (by unfold Sm at h; split <;> omega)]
  have g : (Int.gcd (if t < 0 then -t else t) (if b < 0 then -b else b) : Int) = Int.gcd t b := by
    congr 1
    split <;> split <;> simp
  rw [g]
  simp only [pure_bind, seqF_pnx, gtD_i, asB_b, decide_eq_true_eq, subD_i, ite_bind, seqF_ite, Int.zero_sub]
  have e2 : (if 0 < b then (Int.gcd t b : Int) else -(Int.gcd t b : Int)) = rg t b := by rw [e]; split <;> split <;> omega
  split <;> (next q => simp only [q, if_true, if_false] at e2; simp only [e2, pure_bind, fdivD_ok hd, tup2, bodyM_prt]; rfl)
/-! ### the checks -/
theorem isaD_ok {d : D} {t : Ty} {ts : List Ty} (h : d.ty = some t) : isaD ts d = pure (.bl (ts.any t.sub)) := by
  unfold isaD
  rw [h]
theorem len_t2 {x y : D} : len1 (.tup [x, y]) = pure (.int 2) := rfl
theorem is_integer_n {d : D} {t : Ty} (h : d.ty = some t) (h2 : t ≠ .int) : is_integer_m [d] = pure (.bl false) := by
  show bodyM (is_integer_b d) = _
  unfold is_integer_b
  simp only [pure_bind, isaD_ok h]
  cases t <;> first | rfl | exact absurd rfl h2
theorem is_fraction_fr {a b : Int} (h : Sm b) : is_fraction_m [.tup [.int a, .int b]] = pure (.bl (decide (1 ≤ b ∧ Int.gcd a b = 1))) := by
  show bodyM (is_fraction_b (.tup [.int a, .int b])) = _
  unfold is_fraction_b
  have i1 : isaD [.tuple] (.tup [.int a, .int b]) = pure (.bl true) := rfl
  simp only [pure_bind, i1, truB_b, on1_c, len_t2, neD_i, asB_b, item_t, at2_0, at2_1, ofO_s, onN1, onN2, seqF_pnx, is_integer_i, ltD_i, common_part_eq h, eqD_i, Bool.not_true, Bool.false_eq_true, if_false, decide_true]
  by_cases q : b < 1
  · rw [show decide (b < 1) = true from decide_eq_true q]
    simp only [if_true]
    rw [show decide (1 ≤ b ∧ Int.gcd a b = 1) = false from decide_eq_false (by omega)]
    rfl
  · rw [show decide (b < 1) = false from decide_eq_false q]
    simp only [Bool.false_eq_true, if_false]
    have e : decide ((Int.gcd a b : Int) = 1) = decide (1 ≤ b ∧ Int.gcd a b = 1) := by
      congr 1
      apply propext
      omega
    rw [← e]
    rfl
/-- a fraction -/
def Fr (t b : Int) : Prop := 1 ≤ b ∧ Int.gcd t b = 1
theorem is_fraction_t {a b : Int} (h : Sm b) (f : Fr a b) : is_fraction_m [frD a b] = pure (.bl true) := by
  show is_fraction_m [.tup [.int a, .int b]] = _
  rw [is_fraction_fr h, show decide (1 ≤ b ∧ Int.gcd a b = 1) = true from decide_eq_true f]
theorem red_fr {t b : Int} (h : b ≠ 0) : Fr (rt t b) (rb t b) := ⟨by have := rb_pos (t := t) h; omega, red_cop h⟩
end VLib

set_option exponentiation.threshold 20000
/-! VLPg: the program's fractions, in plain terms. -/
namespace VLib
open PySem PySem.Spec VL
/-- sizes -/
def Bd (k : Nat) (i : Int) : Prop := i.natAbs < 2 ^ k
theorem Bd.mono {j k : Nat} {i : Int} (h : Bd j i) (q : j ≤ k) : Bd k i := Nat.lt_of_lt_of_le h (Nat.pow_le_pow_right (by decide) q)
theorem Bd.le {k : Nat} {i j : Int} (h : Bd k i) (q : j.natAbs ≤ i.natAbs) : Bd k j := Nat.lt_of_le_of_lt q h
theorem Bd.mul {j k : Nat} {a b : Int} (h : Bd j a) (q : Bd k b) : Bd (j + k) (a * b) := by
  unfold Bd at *
  rw [Int.natAbs_mul, Nat.pow_add]
  exact Nat.mul_lt_mul'' h q
theorem Bd.add {k : Nat} {a b : Int} (h : Bd k a) (q : Bd k b) : Bd (k + 1) (a + b) := by
  unfold Bd at *
  rw [Nat.pow_succ]
  omega
theorem Bd.sub {k : Nat} {a b : Int} (h : Bd k a) (q : Bd k b) : Bd (k + 1) (a - b) := by
  unfold Bd at *
  rw [Nat.pow_succ]
  omega
theorem Bd.neg {k : Nat} {a : Int} (h : Bd k a) : Bd k (-a) := by
  unfold Bd at *
  rw [Int.natAbs_neg]
  exact h
theorem Bd.sm {k : Nat} {a : Int} (h : Bd k a) (q : k ≤ 9000 := by decide) : Sm a := h.mono q
theorem Bd.log {k : Nat} {a : Int} (h : Bd k a) : a.natAbs.log2 ≤ k := by
  by_cases e : a.natAbs = 0
  · rw [e]
    exact Nat.zero_le _
  · exact Nat.le_of_lt ((Nat.log2_lt e).mpr h)
theorem Bd.ok {j k : Nat} {a b : Int} (h : Bd j a) (q : Bd k b) (z : j + k < 1000000 := by decide) : MulOk a b := .inr (.inr (by have := h.log; have := q.log; omega))
theorem Bd.rt {k : Nat} {t b : Int} (h : b ≠ 0) (q : Bd k t) : Bd k (rt t b) := q.le (rt_le h)
theorem Bd.rb {k : Nat} {t b : Int} (h : b ≠ 0) (q : Bd k b) : Bd k (rb t b) := q.le (rb_le h)
/-- a fraction of that size -/
structure FrB (k : Nat) (t b : Int) : Prop where
  fr : Fr t b
  t : Bd k t
  b : Bd k b
theorem FrB.mono {j k : Nat} {t b : Int} (h : FrB j t b) (q : j ≤ k) : FrB k t b := ⟨h.fr, h.t.mono q, h.b.mono q⟩
theorem FrB.pos {k : Nat} {t b : Int} (h : FrB k t b) : 0 < b := by have := h.fr.1; omega
theorem FrB.ne {k : Nat} {t b : Int} (h : FrB k t b) : b ≠ 0 := by have := h.fr.1; omega
theorem FrB.red {k : Nat} {t b : Int} (h : FrB k t b) : redD t b = frD t b := by
  obtain ⟨e1, e2⟩ := red_id h.pos h.fr.2
  unfold redD frD
  rw [e1, e2]
theorem frB_red {k : Nat} {t b : Int} (h : b ≠ 0) (ht : Bd k t) (hb : Bd k b) : FrB k (rt t b) (rb t b) := ⟨red_fr h, ht.rt h, hb.rb h⟩
theorem redD_fr {t b : Int} : redD t b = frD (rt t b) (rb t b) := rfl
section
variable {a b c d : Int} {k : Nat}
theorem item_f0 : itemD (frD a b) (.int 0) = pure (.int a) := rfl
theorem item_f1 : itemD (frD a b) (.int 1) = pure (.int b) := rfl
theorem plus_eq (h : FrB 4000 a b) (q : FrB 4000 c d) : plus_m [frD a b, frD c d] = pure (redD (a * d + c * b) (b * d)) := by
  show bodyM (plus_b (frD a b) (frD c d)) = _
  unfold plus_b
  have hs : Sm (b * d) := (h.b.mul q.b).sm
  have h0 : b * d ≠ 0 := Int.mul_ne_zero h.ne q.ne
  simp only [pure_bind, item_f0, item_f1, eqD_i, asB_b, addD_i, mulI_ok (h.t.ok q.b), mulI_ok (q.t.ok h.b), mulI_ok (h.b.ok q.b), onN2, lowest_eq h0 hs, tup2]
  by_cases e : b = 1
  · subst e
    by_cases e2 : d = 1
    · subst e2
      simp only [decide_true, if_true]
      show (pure (frD (a + c) 1) : M D) = _
      have z : FrB 4001 (a + c) 1 := ⟨⟨by decide, by simp⟩, h.t.add q.t, h.b.mono (by decide)⟩
      simp only [Int.mul_one]
      rw [z.red]
    · rw [show decide (d = 1) = false from decide_eq_false e2]
      rfl
  · rw [show decide (b = 1) = false from decide_eq_false e]
    rfl
theorem Fr.neg (h : Fr a b) : Fr (-a) b := ⟨h.1, by rw [Int.neg_gcd]; exact h.2⟩
theorem FrB.neg (h : FrB k a b) : FrB k (-a) b := ⟨h.fr.neg, h.t.neg, h.b⟩
theorem minus_eq (h : FrB 4000 a b) (q : FrB 4000 c d) : minus_m [frD a b, frD c d] = pure (redD (a * d - c * b) (b * d)) := by
  show bodyM (minus_b (frD a b) (frD c d)) = _
  unfold minus_b
  simp only [pure_bind, item_f0, item_f1, negD_i, tup2, onN2]
  rw [show D.tup [.int (-c), .int d] = frD (-c) d from rfl, plus_eq h q.neg, show a * d + -c * b = a * d - c * b by rw [Int.neg_mul]; rfl]
  rfl
theorem product_eq (h : FrB 4000 a b) (q : FrB 4000 c d) : product_m [frD a b, frD c d] = pure (redD (a * c) (b * d)) := by
  show bodyM (product_b (frD a b) (frD c d)) = _
  unfold product_b
  have hs : Sm (b * d) := (h.b.mul q.b).sm
  have h0 : b * d ≠ 0 := Int.mul_ne_zero h.ne q.ne
  have z : ∀ x y : Int, x * y ≠ 0 → redD 0 (x * y) = frD 0 1 := fun x y hh => by
    have w := red_mul (t := 0) (b := 1) (k := x * y) (by decide) hh
    rw [Int.zero_mul, Int.one_mul] at w
    rw [w]
    exact FrB.red (k := 1) ⟨⟨by decide, by decide⟩, (show (0 : Int).natAbs < 2 ^ 1 by decide), (show (1 : Int).natAbs < 2 ^ 1 by decide)⟩
  simp only [pure_bind, item_f0, item_f1, eqD_i, asB_b, mulI_ok (h.t.ok q.t), mulI_ok (h.b.ok q.b), onN2, lowest_eq h0 hs]
  by_cases e : a = 0
  · subst e
    rw [Int.zero_mul, z _ _ h0]
    rfl
  · rw [show decide (a = 0) = false from decide_eq_false e]
    by_cases e2 : c = 0
    · subst e2
      rw [Int.mul_zero, z _ _ h0]
      rfl
    · rw [show decide (c = 0) = false from decide_eq_false e2]
      rfl
theorem divided_eq (h : FrB 4000 a b) (q : FrB 4000 c d) (hc : c ≠ 0) : divided_m [frD a b, frD c d] = pure (redD (a * d) (b * c)) := by
  show bodyM (divided_b (frD a b) (frD c d)) = _
  unfold divided_b
  have hs : Sm (b * c) := (h.b.mul q.t).sm
  simp only [pure_bind, item_f0, item_f1, mulI_ok (h.t.ok q.b), mulI_ok (h.b.ok q.t), onN2, lowest_eq (Int.mul_ne_zero h.ne hc) hs, bodyM_prt]
/-- -1, 0, 1 -/
def sgn2 (x y : Int) : Int := (if y < x then 1 else 0) - (if x < y then 1 else 0)
theorem order_of_eq (h : FrB 4000 a b) (q : FrB 4000 c d) : order_of_m [frD a b, frD c d] = pure (.int (sgn2 (a * d) (c * b))) := by
  show bodyM (order_of_b (frD a b) (frD c d)) = _
  unfold order_of_b
  simp only [pure_bind, item_f0, item_f1, mulI_ok (h.t.ok q.b), mulI_ok (q.t.ok h.b), seqF_pnx, gtD_i, ltD_i, on1_c, int1_b, subD_i, bodyM_prt, decide_eq_true_eq]
  rfl
theorem FrB.is (h : FrB k a b) (z : k ≤ 9000 := by decide) : is_fraction_m [frD a b] = pure (.bl true) := is_fraction_t (h.b.sm z) h.fr
theorem check_eq (h : FrB 4000 a b) (q : FrB 4000 c d) : check_fractions_m [frD a b, frD c d] = pure .non := by
  show bodyM (check_fractions_b (frD a b) (frD c d)) = _
  unfold check_fractions_b
  simp only [pure_bind, onN1, h.is, q.is, truB_b]
  rfl
theorem check_no1 {x y : D} (h : is_fraction_m [x] = pure (.bl false)) : check_fractions_m [x, y] = err ⟨"NoFraction", []⟩ := by
  show bodyM (check_fractions_b x y) = _
  unfold check_fractions_b
  simp only [pure_bind, onN1, h, truB_b]
  rfl
theorem check_no2 {x y : D} (h0 : is_fraction_m [x] = pure (.bl true)) (h : is_fraction_m [y] = pure (.bl false)) : check_fractions_m [x, y] = err ⟨"NoFraction", []⟩ := by
  show bodyM (check_fractions_b x y) = _
  unfold check_fractions_b
  simp only [pure_bind, onN1, h0, h, truB_b]
  rfl
theorem frac_of_eq {t u : Int} (h0 : u ≠ 0) (h : Sm u) : frac_of_m [.int t, .int u] = pure (redD t u) := by
  show bodyM (frac_of_b (.int t) (.int u)) = _
  unfold frac_of_b
  simp only [pure_bind, onN1, onN2, is_integer_i, truB_b, eqD_i, asB_b, lowest_eq h0 h, show decide (u = 0) = false from decide_eq_false h0]
  rfl
theorem frac_of_0 {t : Int} : frac_of_m [.int t, .int 0] = err ⟨"NoFraction", []⟩ := by
  show bodyM (frac_of_b (.int t) (.int 0)) = _
  unfold frac_of_b
  simp only [pure_bind, onN1, onN2, is_integer_i, truB_b, eqD_i, asB_b]
  rfl
theorem frac_of_n1 {x y : D} {t : Ty} (h : x.ty = some t) (h2 : t ≠ .int) : frac_of_m [x, y] = err ⟨"NoFraction", []⟩ := by
  show bodyM (frac_of_b x y) = _
  unfold frac_of_b
  simp only [pure_bind, onN1, is_integer_n h h2, truB_b]
  rfl
theorem frac_of_n2 {x : Int} {y : D} {t : Ty} (h : y.ty = some t) (h2 : t ≠ .int) : frac_of_m [.int x, y] = err ⟨"NoFraction", []⟩ := by
  show bodyM (frac_of_b (.int x) y) = _
  unfold frac_of_b
  simp only [pure_bind, onN1, is_integer_i, is_integer_n h h2, truB_b]
  rfl
theorem frac_sign_eq (h : FrB 4000 a b) (q : FrB 4000 c d) : frac_sign_m [frD a b, frD c d] = pure (.int (sgn2 (a * d) (c * b))) := by
  show bodyM (frac_sign_b (frD a b) (frD c d)) = _
  unfold frac_sign_b
  simp only [pure_bind, onN2, check_eq h q, seqF_pnx, order_of_eq h q, bodyM_prt]
theorem frac_add_eq (h : FrB 4000 a b) (q : FrB 4000 c d) : frac_add_m [frD a b, frD c d] = pure (redD (a * d + c * b) (b * d)) := by
  show bodyM (frac_add_b (frD a b) (frD c d)) = _
  unfold frac_add_b
  simp only [pure_bind, onN2, check_eq h q, seqF_pnx, plus_eq h q, bodyM_prt]
theorem frac_sub_eq (h : FrB 4000 a b) (q : FrB 4000 c d) : frac_sub_m [frD a b, frD c d] = pure (redD (a * d - c * b) (b * d)) := by
  show bodyM (frac_sub_b (frD a b) (frD c d)) = _
  unfold frac_sub_b
  simp only [pure_bind, onN2, check_eq h q, seqF_pnx, minus_eq h q, bodyM_prt]
theorem frac_mul_eq (h : FrB 4000 a b) (q : FrB 4000 c d) : frac_mul_m [frD a b, frD c d] = pure (redD (a * c) (b * d)) := by
  show bodyM (frac_mul_b (frD a b) (frD c d)) = _
  unfold frac_mul_b
  simp only [pure_bind, onN2, check_eq h q, seqF_pnx, product_eq h q, bodyM_prt]
theorem frac_div_eq (h : FrB 4000 a b) (q : FrB 4000 c d) (hc : c ≠ 0) : frac_div_m [frD a b, frD c d] = pure (redD (a * d) (b * c)) := by
  show bodyM (frac_div_b (frD a b) (frD c d)) = _
  unfold frac_div_b
  simp only [pure_bind, onN2, check_eq h q, seqF_pnx, item_f0, eqD_i, asB_b, divided_eq h q hc, bodyM_prt, show decide (c = 0) = false from decide_eq_false hc, Bool.false_eq_true, if_false]
theorem frac_div_0 (h : FrB 4000 a b) (q : FrB 4000 0 d) : frac_div_m [frD a b, frD 0 d] = err ⟨"NoFraction", []⟩ := by
  show bodyM (frac_div_b (frD a b) (frD 0 d)) = _
  unfold frac_div_b
  simp only [pure_bind, onN2, check_eq h q, seqF_pnx, item_f0, eqD_i, asB_b]
  rfl
theorem ck_sign {x y : D} (h : check_fractions_m [x, y] = err ⟨"NoFraction", []⟩) : frac_sign_m [x, y] = err ⟨"NoFraction", []⟩ := by
  show bodyM (frac_sign_b x y) = _
  unfold frac_sign_b
  simp only [pure_bind, onN2, h]
  rfl
theorem ck_add {x y : D} (h : check_fractions_m [x, y] = err ⟨"NoFraction", []⟩) : frac_add_m [x, y] = err ⟨"NoFraction", []⟩ := by
  show bodyM (frac_add_b x y) = _
  unfold frac_add_b
  simp only [pure_bind, onN2, h]
  rfl
theorem ck_sub {x y : D} (h : check_fractions_m [x, y] = err ⟨"NoFraction", []⟩) : frac_sub_m [x, y] = err ⟨"NoFraction", []⟩ := by
  show bodyM (frac_sub_b x y) = _
  unfold frac_sub_b
  simp only [pure_bind, onN2, h]
  rfl
theorem ck_mul {x y : D} (h : check_fractions_m [x, y] = err ⟨"NoFraction", []⟩) : frac_mul_m [x, y] = err ⟨"NoFraction", []⟩ := by
  show bodyM (frac_mul_b x y) = _
  unfold frac_mul_b
  simp only [pure_bind, onN2, h]
  rfl
theorem ck_div {x y : D} (h : check_fractions_m [x, y] = err ⟨"NoFraction", []⟩) : frac_div_m [x, y] = err ⟨"NoFraction", []⟩ := by
  show bodyM (frac_div_b x y) = _
  unfold frac_div_b
  simp only [pure_bind, onN2, h]
  rfl
end
end VLib

set_option exponentiation.threshold 20000
/-! VLPh: the draws, in plain terms. -/
namespace VLib
open PySem PySem.Spec VL
section
variable {α β γ : Type} {S : Sx} {φ : α → Sx → Prop}
theorem Wp.seq {m : M (Fl γ β)} {k : β → M (Fl γ α)} {φ : Fl γ α → Sx → Prop} (h : Wp m S fun f S' => match f with | .nx b => Wp (k b) S' φ | .rt d => φ (.rt d) S' | .bk c => φ (.bk c) S' | .ct c => φ (.ct c) S') : Wp (seqF m k) S φ := by
  unfold seqF
  refine h.bind fun f S' q => ?_
  cases f <;> exact q
theorem Wp.body {m : M (Fl Unit Unit)} {φ : D → Sx → Prop} (h : Wp m S fun f S' => match f with | .rt d => φ d S' | .nx _ => φ .non S' | _ => False) : Wp (bodyM m) S φ := by
  unfold bodyM
  refine h.bind fun f S' q => ?_
  cases f with
  | rt d => exact q
  | nx a => exact q
  | bk c => exact q.elim
  | ct c => exact q.elim
end
/-- the hand -/
def hS (cs : List Int) (p r h s : Int) : Sx := [[.lst (cs.map D.int), .int p, .int r, .int h, .int s]]
def HandS (S : Sx) : Prop := ∃ cs p r h s, S = hS cs p r h s ∧ (∀ c ∈ cs, 0 ≤ c) ∧ cs.length ≤ 63 ∧ 0 ≤ p ∧ 0 ≤ r ∧ 0 ≤ h ∧ 0 ≤ s
section
variable {α : Type} {cs : List Int} {p r h s x : Int} {φ : α → Sx → Prop} {k : D → M α} {ku : Unit → M α}
theorem hd0 : Wp (itemD (.cell 0) (.int 0) >>= k) (hS cs p r h s) φ ↔ Wp (k (.lst (cs.map D.int))) (hS cs p r h s) φ := Iff.rfl
theorem hd1 : Wp (itemD (.cell 0) (.int 1) >>= k) (hS cs p r h s) φ ↔ Wp (k (.int p)) (hS cs p r h s) φ := Iff.rfl
theorem hd2 : Wp (itemD (.cell 0) (.int 2) >>= k) (hS cs p r h s) φ ↔ Wp (k (.int r)) (hS cs p r h s) φ := Iff.rfl
theorem hd3 : Wp (itemD (.cell 0) (.int 3) >>= k) (hS cs p r h s) φ ↔ Wp (k (.int h)) (hS cs p r h s) φ := Iff.rfl
theorem hd4 : Wp (itemD (.cell 0) (.int 4) >>= k) (hS cs p r h s) φ ↔ Wp (k (.int s)) (hS cs p r h s) φ := Iff.rfl
theorem st1 : Wp (setCell (.cell 0) (.int 1) (.int x) >>= ku) (hS cs p r h s) φ ↔ Wp (ku ()) (hS cs x r h s) φ := Iff.rfl
theorem st2 : Wp (setCell (.cell 0) (.int 2) (.int x) >>= ku) (hS cs p r h s) φ ↔ Wp (ku ()) (hS cs p x h s) φ := Iff.rfl
theorem st3 : Wp (setCell (.cell 0) (.int 3) (.int x) >>= ku) (hS cs p r h s) φ ↔ Wp (ku ()) (hS cs p r x s) φ := Iff.rfl
theorem st4 : Wp (setCell (.cell 0) (.int 4) (.int x) >>= ku) (hS cs p r h s) φ ↔ Wp (ku ()) (hS cs p r h x) φ := Iff.rfl
end
theorem draw_spec {q n : Int} (h0 : 0 < n) (hn : Sm n) {S : Sx} (H : HandS S) {φ : D → Sx → Prop} (hφ : ∀ i S', 0 ≤ i → i < n → HandS S' → φ (.int i) S') : Wp (law_draw_m q [.cell 0, .int n]) S φ := by
  show Wp (bodyM (law_draw_b q (.cell 0) (.int n))) S φ
  unfold law_draw_b
  have hn0 : n ≠ 0 := by omega
  refine Wp.body (Wp.seq (Wp.mono (φ := fun f S' => f = .nx () ∧ HandS S') ?_ ?_))
  · obtain ⟨cs, p, r, h, s, rfl, hc, hl, hp, hr, hh, hs⟩ := H
    have len : len1 (.lst (cs.map D.int)) = pure (.int cs.length) := by rw [len_l, List.length_map]
    simp only [pure_bind, bind_assoc, ite_bind, hd0, hd1, hd2, wp_ite, eqD_i, asB_b, on1_c, len, ltD_i, decide_eq_true_eq]
    by_cases c1 : r = 0
    · simp only [c1, if_true]
      by_cases c2 : p < cs.length
      · simp only [c2, if_true]
        obtain ⟨j, rfl⟩ := Int.eq_ofNat_of_zero_le hp
        have hj : j < cs.length := by omega
        have e : itemD (.lst (cs.map D.int)) (.int (j : Int)) = pure (.int cs[j]) := by
          rw [item_l, atI_at (j := j) rfl (x := .int cs[j]) (by rw [List.getElem?_map, List.getElem?_eq_getElem hj]; rfl)]
          rfl
        have hcj : 0 ≤ cs[j] := hc _ (List.getElem_mem hj)
        simp only [seqF_bind, hd0, hd1, pure_bind, e, seqF_pnx, addD_i, st1, hd3, mulI_r (show (69621 : Int).natAbs < 2 ^ 64 by decide), mulI_r (show (40692 : Int).natAbs < 2 ^ 64 by decide), bind_assoc, on1_c, int1_i, modD_ok (show (2147483629 : Int) ≠ 0 by decide), st3, seqF_ite, powD_ok (show (0 : Int) ≤ 18 ∧ (18 : Int) ≤ 1000000 ∧ (10 : Int).natAbs < 2 ^ 64 by decide), geD_i, asB_b, wp_ite, decide_eq_true_eq]
        have m1 : 0 ≤ (h * 69621 + cs[j] * 40692 + q).fmod 2147483629 := Int.fmod_nonneg_of_pos _ (by decide)
        split
        · simp only [st2]
          exact ⟨rfl, cs, _, _, _, _, rfl, hc, hl, by omega, hcj, m1, hs⟩
        · exact ⟨rfl, cs, _, _, _, _, rfl, hc, hl, by omega, by omega, m1, hs⟩
      · simp only [c2, if_false]
        exact ⟨rfl, cs, p, 0, h, s, rfl, hc, hl, hp, by decide, hh, hs⟩
    · simp only [c1, if_false]
      exact ⟨rfl, cs, p, r, h, s, rfl, hc, hl, hp, hr, hh, hs⟩
  rintro f S' ⟨rfl, cs, p, r, h, s, rfl, hc, hl, hp, hr, hh, hs⟩
  refine Wp.seq ?_
  simp only [pure_bind, bind_assoc, hd2, gtD_i, asB_b, wp_ite, decide_eq_true_eq]
  by_cases c3 : 0 < r
  · simp only [c3, if_true, seqF_bind, pure_bind, bind_assoc, hd2, on1_c, int1_i, modD_ok hn0, seqF_pnx, fdivD_ok (hn.div hn0), st2]
    exact hφ _ _ (Int.fmod_nonneg_of_pos _ h0) (Int.fmod_lt_of_pos _ h0) ⟨cs, p, _, h, s, rfl, hc, hl, hp, Int.fdiv_nonneg hr (by omega), hh, hs⟩
  · simp only [c3, if_false]
    show Wp (seqF _ _) _ _
    simp only [seqF_bind, pure_bind, bind_assoc, hd4, hd3, addD_i, st4, seqF_pnx, mulI_l (show (7919 : Int).natAbs < 2 ^ 64 by decide), mulI_r (show (48271 : Int).natAbs < 2 ^ 64 by decide), on1_c, int1_i, modD_ok (show (2147483647 : Int) ≠ 0 by decide)]
    generalize hx : (((h + 7919 * (s + 1)) * 48271).fmod 2147483647) = x1
    have b1 : 0 ≤ x1 := by rw [← hx]; exact Int.fmod_nonneg_of_pos _ (by decide)
    have b2 : x1 < 2147483647 := by rw [← hx]; exact Int.fmod_lt_of_pos _ (by decide)
    simp only [fdivD_ok (show DivOk 1009 by decide), pure_bind, addD_i, mulI_l (show x1.natAbs < 2 ^ 64 by omega), modD_ok (show (2147483647 : Int) ≠ 0 by decide), bind_assoc, on1_c, int1_i, seqF_pnx, seqF_bind]
    generalize hy : ((x1 * (x1.fdiv 1009 + 69621)).fmod 2147483647) = x2
    have b3 : 0 ≤ x2 := by rw [← hy]; exact Int.fmod_nonneg_of_pos _ (by decide)
    have b4 : x2 < 2147483647 := by rw [← hy]; exact Int.fmod_lt_of_pos _ (by decide)
    simp only [fdivD_ok (show DivOk 2003 by decide), pure_bind, addD_i, mulI_l (show x2.natAbs < 2 ^ 64 by omega), modD_ok (show (2147483399 : Int) ≠ 0 by decide), bind_assoc, on1_c, int1_i, seqF_pnx, seqF_bind, fdivD_ok (show DivOk 16 by decide), modD_ok hn0]
    exact hφ _ _ (Int.fmod_nonneg_of_pos _ h0) (Int.fmod_lt_of_pos _ h0) ⟨cs, p, r, h, _, rfl, hc, hl, hp, hr, hh, by omega⟩
end VLib

set_option exponentiation.threshold 20000
/-! VLPi: the draws' users, in plain terms. -/
namespace VLib
open PySem PySem.Spec VL
/-- the rules that always go -/
theorem vlR :
    (∀ {α : Type} (m : M α), (m >>= fun a => pure a) = m) ∧ (∀ {α β : Type} (a : α) (k : α → M β), (pure a >>= k) = k a) ∧ (∀ {α β γ : Type} (m : M α) (f : α → M β) (g : β → M γ), (m >>= f) >>= g = m >>= fun a => f a >>= g) ∧
    (∀ {α β γ : Type} (a : α) (k : α → M (Fl γ β)), seqF (pure (.nx a)) k = k a) ∧ (∀ {α β γ : Type} (d : D) (k : α → M (Fl γ β)), seqF (pure (.rt d)) k = pure (.rt d)) ∧
    (∀ {α β γ δ : Type} (m : M δ) (f : δ → M (Fl γ α)) (k : α → M (Fl γ β)), seqF (m >>= f) k = m >>= fun d => seqF (f d) k) ∧
    (∀ d : D, bodyM (pure (.rt d)) = pure d) ∧ (bodyM (pure (.nx ())) = pure .non) ∧ (∀ x : Exc, bodyM (err x) = err x) ∧ (∀ {δ : Type} (m : M δ) (f : δ → M (Fl Unit Unit)), bodyM (m >>= f) = m >>= fun d => bodyM (f d)) ∧
    (∀ a b : Int, addD (.int a) (.int b) = pure (.int (a + b))) ∧ (∀ a b : Int, subD (.int a) (.int b) = pure (.int (a - b))) ∧ (∀ a : Int, negD (.int a) = pure (.int (-a))) ∧
    (∀ a b : Int, ltD (.int a) (.int b) = pure (.bl (decide (a < b)))) ∧ (∀ a b : Int, leD (.int a) (.int b) = pure (.bl (decide (a ≤ b)))) ∧ (∀ a b : Int, gtD (.int a) (.int b) = pure (.bl (decide (b < a)))) ∧ (∀ a b : Int, geD (.int a) (.int b) = pure (.bl (decide (b ≤ a)))) ∧
    (∀ a b : Int, eqD (.int a) (.int b) = pure (.bl (decide (a = b)))) ∧ (∀ a b : Int, neD (.int a) (.int b) = pure (.bl (!decide (a = b)))) ∧
    (∀ k : Bool, asB (.bl k) = pure k) ∧ (∀ k : Bool, truB (.bl k) = pure k) ∧ (∀ (f : D → M D) (d : D), on1 f [d] = f d) ∧ (∀ a : Int, abs1 (.int a) = pure (.int (if a < 0 then -a else a))) ∧ (∀ a : Int, int1 (.int a) = pure (.int a)) ∧ (∀ k : Bool, int1 (.bl k) = pure (.int (if k then 1 else 0))) ∧
    (∀ x y : D, un2 (.tup [x, y]) = pure (x, y)) ∧ (∀ x y z : D, un3 (.tup [x, y, z]) = pure (x, y, z)) ∧ (∀ xs : List D, len1 (.lst xs) = pure (.int xs.length)) ∧ (∀ xs : List D, len1 (.tup xs) = pure (.int xs.length)) ∧
    (∀ x : D, tupD [x] = pure (.tup [x])) ∧ (∀ x y : D, tupD [x, y] = pure (.tup [x, y])) ∧ (∀ x y z : D, tupD [x, y, z] = pure (.tup [x, y, z])) ∧
    (∀ g : List D → M D, onN 0 g [] = g []) ∧ (∀ (g : List D → M D) (x : D), onN 1 g [x] = g [x]) ∧ (∀ (g : List D → M D) (x y : D), onN 2 g [x, y] = g [x, y]) ∧ (∀ (g : List D → M D) (x y z : D), onN 3 g [x, y, z] = g [x, y, z]) ∧ (∀ (g : List D → M D) (x y z w : D), onN 4 g [x, y, z, w] = g [x, y, z, w]) ∧
    (∀ t b : Int, itemD (frD t b) (.int 0) = pure (.int t)) ∧ (∀ t b : Int, itemD (frD t b) (.int 1) = pure (.int b)) ∧ (∀ t b : Int, D.tup [.int t, .int b] = frD t b) :=
  ⟨fun _ => bind_pure _, fun _ _ => pure_bind .., fun _ _ _ => bind_assoc .., fun _ _ => rfl, fun _ _ => rfl, fun _ _ _ => seqF_bind, fun _ => rfl, rfl, fun _ => rfl, fun _ _ => bodyM_bind, fun _ _ => rfl, fun _ _ => rfl, fun _ => rfl,
   fun _ _ => rfl, fun _ _ => rfl, fun _ _ => rfl, fun _ _ => rfl, fun _ _ => eqD_i, fun _ _ => neD_i, fun _ => rfl, fun _ => rfl, fun _ _ => rfl, fun _ => rfl, fun _ => rfl, fun _ => rfl, fun _ _ => rfl, fun _ _ _ => rfl, fun _ => rfl, fun _ => rfl,
   fun _ => tup1, fun _ _ => tup2, fun _ _ _ => tup3, fun _ => rfl, fun _ _ => rfl, fun _ _ _ => rfl, fun _ _ _ _ => rfl, fun _ _ _ _ _ => rfl, fun _ _ => rfl, fun _ _ => rfl, fun _ _ => rfl⟩
theorem lim5 {a b c d e : D} : limL [a, b, c, d, e] = pure [a, b, c, d, e] := limL_ok (by show 5 ≤ 1000000; decide)
theorem p10_6 : powD (.int 10) (.int 6) = pure (.int (10 ^ 6)) := powD_ok (by decide)
theorem p10_9 : powD (.int 10) (.int 9) = pure (.int (10 ^ 9)) := powD_ok (by decide)
theorem p10_17 : powD (.int 10) (.int 17) = pure (.int (10 ^ 17)) := powD_ok (by decide)
theorem p10_20 : powD (.int 10) (.int 20) = pure (.int (10 ^ 20)) := powD_ok (by decide)
theorem p10_39 : powD (.int 10) (.int 39) = pure (.int (10 ^ 39)) := powD_ok (by decide)
theorem p10_40 : powD (.int 10) (.int 40) = pure (.int (10 ^ 40)) := powD_ok (by decide)
theorem p2_53 : powD (.int 2) (.int 53) = pure (.int (2 ^ 53)) := powD_ok (by decide)
/-- of a comprehension that only maps -/
theorem lcM_map {b : D → M (Option D)} {f : D → D} : ∀ {ds : List D}, (∀ d ∈ ds, b d = pure (some (f d))) → lcM b ds = pure (ds.map f)
  | [], _ => rfl
  | d :: ds, h => by
    show (b d >>= fun o => lcM b ds >>= fun r => pure (o.toList ++ r)) = _
    rw [h d List.mem_cons_self, lcM_map fun e he => h e (List.mem_cons_of_mem _ he)]
    rfl
theorem hand_spec {q : Int} {ns : List Int} (h : ns.length ≤ 63) (hq : 0 ≤ q) : ∃ S', law_hand_m q [.scr ns] [] = .ok (.cell 0) S' ∧ HandS S' := by
  have e1 : sliceD (.scr ns) none (some 63) = pure (.lst (ns.map D.int)) := by
    show pure (D.lst ((cutA ns none (some 63)).map D.int)) = _
    rw [cut_whole ⟨rfl, by show min 63 ns.length = _; omega⟩]
  have e2 : ∀ f g : D → M D, ∀ xs, lcL (lcT (β := D) (fun d => pure d) (fun _ => pure true) fun c => f c >>= g) xs = lcL (lcT (β := D) (fun d => pure d) (fun _ => pure true) fun c => f c >>= g) xs := fun _ _ _ => rfl
  have e3 : lcL (lcT (β := D) (fun d => pure d) (fun _ => pure true) fun c => int1 c >>= abs1) (ns.map D.int) = pure ((ns.map fun z => if z < 0 then -z else z).map D.int) := by
    unfold lcL
    rw [if_pos (by rw [List.length_map]; unfold lim; omega), lcM_map (f := fun d => match d with | .int z => .int (if z < 0 then -z else z) | d => d)]
    · rw [List.map_map, List.map_map]
      rfl
    · intro d hd
      obtain ⟨z, _, rfl⟩ := List.mem_map.mp hd
      unfold lcT
      simp only [vlR, if_true]
      rfl
  have e4 : law_hand_m q [.scr ns] = (newCell [.lst ((ns.map fun z => if z < 0 then -z else z).map D.int), .int 0, .int 0, .int (q + 19 * (ns.length : Int)), .int 0]) := by
    show bodyM (law_hand_b q (.scr ns)) = _
    unfold law_hand_b
    simp only [vlR, asI, e1, rowD, e3]
    rw [mulI_l (by decide)]
    simp only [vlR, lim5, bind_pure, List.length_map]
  rw [e4]
  exact ⟨_, rfl, ns.map fun z => if z < 0 then -z else z, 0, 0, q + 19 * (ns.length : Int), 0, rfl, fun c hc => by
    obtain ⟨z, _, rfl⟩ := List.mem_map.mp hc
    split <;> omega, by rw [List.length_map]; exact h, by decide, by decide, by omega, by decide⟩
theorem some_spec {q : Int} {xs : List D} (h0 : 0 < xs.length) (h1 : xs.length ≤ 1000) {S : Sx} (H : HandS S) {φ : D → Sx → Prop} (hφ : ∀ d ∈ xs, ∀ S', HandS S' → φ d S') : Wp (law_some_m q [.cell 0, .lst xs]) S φ := by
  show Wp (bodyM (law_some_b q (.cell 0) (.lst xs))) S φ
  unfold law_some_b
  simp only [vlR]
  refine (draw_spec (by omega) (by unfold Sm; exact Nat.lt_of_le_of_lt (show _ ≤ 1000 by omega) (by decide +kernel)) H (φ := fun d S' => ∃ i, d = .int i ∧ 0 ≤ i ∧ i < xs.length ∧ HandS S') fun i S' a b c => ⟨i, rfl, a, b, c⟩).bind ?_
  rintro _ S' ⟨i, rfl, a, b, c⟩
  obtain ⟨j, rfl⟩ := Int.eq_ofNat_of_zero_le a
  have hj : j < xs.length := by omega
  rw [item_l, atI_at (j := j) rfl (x := xs[j]) (List.getElem?_eq_getElem hj)]
  simp only [ofO_s, vlR]
  exact hφ _ (List.getElem_mem hj) S' c
theorem draw_bind {α : Type} {q n : Int} {S : Sx} {k : D → M α} {φ : α → Sx → Prop} (H : HandS S) (h0 : 0 < n := by decide) (hn : n ≤ 10 ^ 40 := by decide) (hφ : ∀ i S', 0 ≤ i → i < n → HandS S' → Wp (k (.int i)) S' φ) : Wp (law_draw_m q [.cell 0, .int n] >>= k) S φ :=
  wp_bind.mpr (draw_spec h0 (by unfold Sm; exact Nat.lt_of_le_of_lt (show _ ≤ 10 ^ 40 by omega) (by decide +kernel)) H hφ)
theorem some_bind {α : Type} {q : Int} {xs : List D} {S : Sx} {k : D → M α} {φ : α → Sx → Prop} (H : HandS S) (hφ : ∀ d ∈ xs, ∀ S', HandS S' → Wp (k d) S' φ) (h0 : 0 < xs.length := by simp) (h1 : xs.length ≤ 1000 := by simp) : Wp (law_some_m q [.cell 0, .lst xs] >>= k) S φ :=
  wp_bind.mpr (some_spec h0 h1 H hφ)
theorem lst2 {a b : D} : lstD [a, b] = pure (.lst [a, b]) := lstD_ok (by show 2 ≤ 1000000; decide)
theorem lst3 {a b c : D} : lstD [a, b, c] = pure (.lst [a, b, c]) := lstD_ok (by show 3 ≤ 1000000; decide)
theorem lst4 {a b c d : D} : lstD [a, b, c, d] = pure (.lst [a, b, c, d]) := lstD_ok (by show 4 ≤ 1000000; decide)
theorem lst5 {a b c d e : D} : lstD [a, b, c, d, e] = pure (.lst [a, b, c, d, e]) := lstD_ok (by show 5 ≤ 1000000; decide)
theorem lst6 {a b c d e f : D} : lstD [a, b, c, d, e, f] = pure (.lst [a, b, c, d, e, f]) := lstD_ok (by show 6 ≤ 1000000; decide)
theorem lst7 {a b c d e f g : D} : lstD [a, b, c, d, e, f, g] = pure (.lst [a, b, c, d, e, f, g]) := lstD_ok (by show 7 ≤ 1000000; decide)
theorem lst8 {a b c d e f g h : D} : lstD [a, b, c, d, e, f, g, h] = pure (.lst [a, b, c, d, e, f, g, h]) := lstD_ok (by show 8 ≤ 1000000; decide)
theorem lst12 {a b c d e f g h i j k l : D} : lstD [a, b, c, d, e, f, g, h, i, j, k, l] = pure (.lst [a, b, c, d, e, f, g, h, i, j, k, l]) := lstD_ok (by show 12 ≤ 1000000; decide)
theorem addL {xs ys : List D} (h : xs.length + ys.length ≤ lim) : addD (.lst xs) (.lst ys) = pure (.lst (xs ++ ys)) := if_pos h
theorem number_spec {q : Int} {S : Sx} (H : HandS S) {φ : D → Sx → Prop} (hφ : ∀ (n : Int) S', n.natAbs < 10 ^ 40 → HandS S' → φ (.int n) S') : Wp (law_number_m q [.cell 0]) S φ := by
  show Wp (bodyM (law_number_b q (.cell 0))) S φ
  unfold law_number_b
  simp only [vlR, seqF_ite, bodyM_ite, p10_6, p10_9, p10_17, p10_20, p10_39, p10_40, p2_53, lst7, lst4, lst2]
  refine draw_bind H (hφ := fun i S1 a b H1 => ?_)
  simp only [vlR, seqF_ite, bodyM_ite, wp_ite, decide_eq_true_eq]
  split
  · refine draw_bind H1 (hφ := fun j S2 a b H2 => ?_)
    exact hφ _ _ (by omega) H2
  split
  · refine some_spec (by simp) (by simp) H1 fun d hd S2 H2 => ?_
    simp only [List.mem_cons, List.not_mem_nil, or_false] at hd
    rcases hd with rfl | rfl | rfl | rfl | rfl | rfl | rfl <;> exact hφ _ _ (by decide) H2
  refine draw_bind H1 (hφ := fun j S2 a b H2 => ?_)
  have key : ∀ most : Int, 0 ≤ most → most ≤ 10 ^ 39 → itemD (.lst [.int 1000, .int (10 ^ 9), .int (10 ^ 20), .int (10 ^ 39)]) (.int j) = pure (.int most) → Wp (itemD (.lst [.int 1000, .int (10 ^ 9), .int (10 ^ 20), .int (10 ^ 39)]) (.int j) >>= fun most_ => law_some_m q [.cell 0, .lst [.int 1, .int (-1)]] >>= fun x101 => law_draw_m q [.cell 0, .int (10 ^ 6)] >>= fun x97 => law_draw_m q [.cell 0, .int (10 ^ 6)] >>= fun x98 => mulI x97 x98 >>= fun x100 => subD most_ x100 >>= fun x102 => mulI x101 x102) S2 φ := by
    intro most m0 m1 e
    rw [e, pure_bind]
    refine some_bind H2 fun d hd S3 H3 => ?_
    refine draw_bind H3 (hφ := fun u S4 ua ub H4 => ?_)
    refine draw_bind H4 (hφ := fun v S5 va vb H5 => ?_)
    rw [mulI_r (by omega)]
    have p0 : 0 ≤ u * v := Int.mul_nonneg ua va
    have p1 : u * v ≤ 10 ^ 6 * 10 ^ 6 := Int.mul_le_mul (by omega) (by omega) va (by decide)
    simp only [List.mem_cons, List.not_mem_nil, or_false] at hd
    rcases hd with rfl | rfl
    · simp only [vlR, mulI_l (show (1 : Int).natAbs < 2 ^ 64 by decide)]
      exact hφ _ _ (by omega) H5
    · simp only [vlR, mulI_l (show (-1 : Int).natAbs < 2 ^ 64 by decide)]
      exact hφ _ _ (by omega) H5
  have hj : j = 0 ∨ j = 1 ∨ j = 2 ∨ j = 3 := by omega
  rcases hj with rfl | rfl | rfl | rfl
  · exact key 1000 (by decide) (by decide) rfl
  · exact key (10 ^ 9) (by decide) (by decide) rfl
  · exact key (10 ^ 20) (by decide) (by decide) rfl
  · exact key (10 ^ 39) (by decide) (by decide) rfl
theorem number_bind {α : Type} {q : Int} {S : Sx} {k : D → M α} {φ : α → Sx → Prop} (H : HandS S) (hφ : ∀ (n : Int) S', n.natAbs < 10 ^ 40 → HandS S' → Wp (k (.int n)) S' φ) : Wp (law_number_m q [.cell 0] >>= k) S φ :=
  wp_bind.mpr (number_spec H hφ)
/-- below 10 ^ 40 -/
theorem bd40 {n : Int} (h : n.natAbs < 10 ^ 40) : Bd 133 n := Nat.lt_trans h (by decide)
theorem sm40 {n : Int} (h : n.natAbs < 10 ^ 40) : Sm n := (bd40 h).sm
/-- a fraction below 10 ^ 40 -/
structure Fr40 (t b : Int) : Prop where
  fr : Fr t b
  t : t.natAbs < 10 ^ 40
  b : b.natAbs < 10 ^ 40
theorem Fr40.b' {t b : Int} (h : Fr40 t b) : FrB 133 t b := ⟨h.fr, bd40 h.t, bd40 h.b⟩
theorem frac_spec {q : Int} {S : Sx} (H : HandS S) {φ : D → Sx → Prop} (hφ : ∀ (t b : Int) S', Fr40 t b → HandS S' → φ (frD t b) S') : Wp (law_frac_m q [.cell 0]) S φ := by
  show Wp (bodyM (law_frac_b q (.cell 0))) S φ
  unfold law_frac_b
  simp only [vlR]
  refine number_bind H fun n S1 hn H1 => ?_
  simp only [vlR, lst5]
  refine some_bind H1 fun d hd S2 H2 => ?_
  refine number_bind H2 fun m S3 hm H3 => ?_
  have go : ∀ b : Int, b ≠ 0 → b.natAbs < 10 ^ 40 → Wp (law_low_m [.int m, .int b]) S3 φ := fun b h0 hb => by
    rw [law_low_eq h0 (sm40 hb), redD_fr]
    exact hφ _ _ _ ⟨red_fr h0, Nat.lt_of_le_of_lt (rt_le h0) hm, Nat.lt_of_le_of_lt (rb_le h0) hb⟩ H3
  have z : ∃ b : Int, d = .int b ∧ b.natAbs < 10 ^ 40 := by
    simp only [List.mem_cons, List.not_mem_nil, or_false] at hd
    rcases hd with rfl | rfl | rfl | rfl | rfl
    · exact ⟨_, rfl, by decide⟩
    · exact ⟨_, rfl, by decide⟩
    · exact ⟨_, rfl, by decide⟩
    · exact ⟨_, rfl, by decide⟩
    · exact ⟨_, rfl, hn⟩
  obtain ⟨b, rfl, hb⟩ := z
  by_cases h0 : b = 0
  · subst h0
    simp only [vlR, decide_true, Bool.not_true, Bool.false_eq_true, if_false]
    exact go 7 (by decide) (by decide)
  · simp only [vlR, decide_eq_false h0, Bool.not_false, if_true]
    exact go b h0 hb
theorem frac_bind {α : Type} {q : Int} {S : Sx} {k : D → M α} {φ : α → Sx → Prop} (H : HandS S) (hφ : ∀ (t b : Int) S', Fr40 t b → HandS S' → Wp (k (frD t b)) S' φ) : Wp (law_frac_m q [.cell 0] >>= k) S φ :=
  wp_bind.mpr (frac_spec H hφ)
/-! ### the odd things -/
theorem nofrac_ty {d : D} {t : Ty} (h : d.ty = some t) (h2 : t ≠ .tuple) : is_fraction_m [d] = pure (.bl false) := by
  show bodyM (is_fraction_b d) = _
  unfold is_fraction_b
  simp only [pure_bind, isaD_ok h]
  cases t <;> first | rfl | exact absurd rfl h2
theorem nofrac_len {xs : List D} (h : xs.length ≠ 2) : is_fraction_m [.tup xs] = pure (.bl false) := by
  show bodyM (is_fraction_b (.tup xs)) = _
  unfold is_fraction_b
  simp only [vlR, isaD_ok (show (D.tup xs).ty = some .tuple from rfl), show ((xs.length : Int) = 2) = False from eq_false (by omega)]
  rfl
theorem nofrac_1 {x y : D} {t : Ty} (h : x.ty = some t) (h2 : t ≠ .int) : is_fraction_m [.tup [x, y]] = pure (.bl false) := by
  show bodyM (is_fraction_b (.tup [x, y])) = _
  unfold is_fraction_b
  simp only [pure_bind, isaD_ok (show (D.tup [x, y]).ty = some .tuple from rfl), on1_c, len_t2, neD_i, asB_b, item_t, at2_0, ofO_s, onN1, is_integer_n h h2, truB_b]
  rfl
theorem nofrac_2 {x : Int} {y : D} {t : Ty} (h : y.ty = some t) (h2 : t ≠ .int) : is_fraction_m [.tup [.int x, y]] = pure (.bl false) := by
  show bodyM (is_fraction_b (.tup [.int x, y])) = _
  unfold is_fraction_b
  simp only [pure_bind, isaD_ok (show (D.tup [.int x, y]).ty = some .tuple from rfl), on1_c, len_t2, neD_i, asB_b, item_t, at2_0, at2_1, ofO_s, onN1, is_integer_i, is_integer_n h h2, truB_b]
  rfl
theorem nofrac_i {x y : Int} (hy : Sm y) (h : ¬ (1 ≤ y ∧ Int.gcd x y = 1)) : is_fraction_m [.tup [.int x, .int y]] = pure (.bl false) := by
  rw [is_fraction_fr hy, decide_eq_false h]
theorem odd_spec {q : Int} {S : Sx} (H : HandS S) {φ : D → Sx → Prop} (hφ : ∀ d S', is_fraction_m [d] = pure (.bl false) → HandS S' → φ d S') : Wp (law_odd_m q [.cell 0]) S φ := by
  show Wp (bodyM (law_odd_b q (.cell 0))) S φ
  unfold law_odd_b
  simp only [vlR, lst2, lst7, lst12]
  rw [addL (by show 19 ≤ 1000000; decide), pure_bind]
  refine some_spec (by simp) (by simp) H fun d hd S2 H2 => ?_
  simp only [List.mem_cons, List.not_mem_nil, or_false, List.cons_append, List.nil_append] at hd
  have s : ∀ i : Int, i.natAbs < 10 ^ 40 → Sm i := fun i h => sm40 h
  rcases hd with rfl | rfl | rfl | rfl | rfl | rfl | rfl | rfl | rfl | rfl | rfl | rfl | rfl | rfl | rfl | rfl | rfl | rfl | rfl <;> refine hφ _ _ ?_ H2
  · exact nofrac_ty (t := .non) rfl (by decide)
  · exact nofrac_len (by decide)
  · exact nofrac_ty (t := .list) rfl (by decide)
  · exact nofrac_i (s _ (by decide)) (by decide)
  · exact nofrac_i (s _ (by decide)) (by decide)
  · exact nofrac_i (s _ (by decide)) (by decide)
  · exact nofrac_i (s _ (by decide)) (by decide)
  · exact nofrac_1 (t := .bool) rfl (by decide)
  · exact nofrac_2 (t := .bool) rfl (by decide)
  · exact nofrac_len (by decide)
  · exact nofrac_ty (t := .str) rfl (by decide)
  · exact nofrac_ty (t := .int) rfl (by decide)
  · exact nofrac_i (s _ (by decide)) (by decide)
  · exact nofrac_i (s _ (by decide)) (by decide)
  · exact nofrac_ty (t := .bool) rfl (by decide)
  · exact nofrac_1 (t := .non) rfl (by decide)
  · exact nofrac_1 (t := .str) rfl (by decide)
  · exact nofrac_ty (t := .dict) rfl (by decide)
  · exact nofrac_1 (t := .tuple) rfl (by decide)
theorem odd_bind {α : Type} {q : Int} {S : Sx} {k : D → M α} {φ : α → Sx → Prop} (H : HandS S) (hφ : ∀ d S', is_fraction_m [d] = pure (.bl false) → HandS S' → Wp (k d) S' φ) : Wp (law_odd_m q [.cell 0] >>= k) S φ :=
  wp_bind.mpr (odd_spec H hφ)
end VLib

set_option exponentiation.threshold 20000
/-! VLPr: repr, in plain terms. -/
namespace VLib
open PySem PySem.Spec VL
theorem strOk_of (s : String) : PyData.strOk (Str.ofString s) = true := by
  unfold PyData.strOk
  rw [Str.ofString_eq_toList]
  simp only [List.all_toArray, List.all_map]
  refine List.all_eq_true.mpr fun c _ => decide_eq_true ?_
  have h := c.valid
  simp only [UInt32.isValidChar, Nat.isValidChar] at h
  show c.val.toNat < 1114112
  omega
theorem strOk_app {a b : Str} (ha : PyData.strOk a = true) (hb : PyData.strOk b = true) : PyData.strOk (a ++ b) = true := by
  unfold PyData.strOk at *
  show (a.cps ++ b.cps).all _ = true
  rw [Array.all_append, ha, hb]
  rfl
theorem cmp_str {x : Str} (h : PyData.strOk x = true) : (D.str x).cmp = true := by
  simp [D.cmp, D.plain, D.py, SeqAt.shaped, PyData.canLay0, PyData.depth, h]
theorem eqv_str {x y : Str} : PyData.eqv (.str x) (.str y) = decide (x = y) := by simp [PyData.eqv, Bool.beq_eq_decide_eq]
theorem eqD_s {x y : Str} (hx : PyData.strOk x = true) (hy : PyData.strOk y = true) : eqD (.str x) (.str y) = pure (.bl (decide (x = y))) := by
  rw [eqD_ok (cmp_str hx) (cmp_str hy)]
  show pure (D.bl (PyData.eqv (.str x) (.str y))) = _
  rw [eqv_str]
theorem neD_s {x y : Str} (hx : PyData.strOk x = true) (hy : PyData.strOk y = true) : neD (.str x) (.str y) = pure (.bl (!decide (x = y))) := by
  rw [neD_ok (cmp_str hx) (cmp_str hy)]
  show pure (D.bl (!PyData.eqv (.str x) (.str y))) = _
  rw [eqv_str]
/-- the text of an int, a fraction -/
def shI (i : Int) : Str := PyData.shown (.int i)
def shF (t b : Int) : Str := PyData.shown (.tuple [.int t, .int b])
theorem ok_shI (i : Int) : PyData.strOk (shI i) = true := strOk_of _
theorem ok_shF (t b : Int) : PyData.strOk (shF t b) = true := by
  show PyData.strOk (tupleText [shI t, shI b]) = true
  unfold tupleText
  refine strOk_app (strOk_app (strOk_of _) ?_) ?_
  · show PyData.strOk (shI t ++ Str.ofString ", " ++ shI b) = true
    exact strOk_app (strOk_app (ok_shI t) (strOk_of _)) (ok_shI b)
  · exact strOk_of _
theorem lenI {i : Int} (h : Bd 1900 i) : (shI i).length ≤ 601 := by
  have e : (toString i).length ≤ 600 + 1 := int_text_length_le10 (k := 600) (by decide) (Nat.lt_trans h (by decide +kernel))
  show (Str.ofString (toString i)).length ≤ 601
  rw [ofString_length]
  exact e
theorem shw_ok {i : Int} (h : Bd 1900 i) : i.natAbs.log2 < 1920 := by have := h.log; omega
theorem repr_i {i : Int} (h : Bd 1900 i) : repr1 (.int i) = pure (.str (shI i)) := by
  unfold repr1
  rw [if_pos ⟨rfl, decide_eq_true (shw_ok h), rfl, by simp [D.py, PyData.depth], by
    have := lenI h
    show (shI i).length ≤ 1000000
    omega⟩]
  rfl
theorem repr_f {t b : Int} (h : Bd 1900 t) (q : Bd 1900 b) : repr1 (frD t b) = pure (.str (shF t b)) := by
  unfold repr1
  rw [if_pos ⟨by simp [frD, D.plain, D.plains], by simp [frD, D.py, D.pys, PyData.showable, PyData.showableAll, shw_ok h, shw_ok q], by simp [frD, D.py, D.pys, PyData.hasDict, PyData.hasDictAll], by simp [frD, D.py, D.pys, PyData.depth, PyData.depthAll], by
    have e := tupleText_len_le [shI t, shI b]
    have l1 := lenI h
    have l2 := lenI q
    simp only [List.map_cons, List.map_nil, List.sum_cons, List.sum_nil, List.length_cons, List.length_nil] at e
    show (tupleText [shI t, shI b]).length ≤ 1000000
    omega⟩]
  simp only [frD, D.py, D.pys]
  rfl
theorem catch_err {b0 b : Bool} {tb : List (Str × Bool)} {x : Str} (h : tb.lookup x = some b) : catchM tb b0 (err ⟨x, []⟩) = pure (.bl b) := by
  funext S
  show (match tb.lookup x, ([] : List (Str × D)) with | some b, [] => R.ok (D.bl b) S | _, _ => .no) = _
  rw [h]
  rfl
end VLib
namespace VLib
open PySem PySem.Spec VL
theorem ite_pnx {γ α : Type} {c : Prop} [Decidable c] {a b : α} : (if c then (pure (Fl.nx a) : M (Fl γ α)) else pure (Fl.nx b)) = pure (Fl.nx (if c then a else b)) := by by_cases h : c <;> simp [h]
theorem ite_int {c : Prop} [Decidable c] {a b : Int} : (if c then D.int a else D.int b) = D.int (if c then a else b) := by by_cases h : c <;> simp [h]
theorem ite_pb {c : Prop} [Decidable c] {a b : Bool} : (if c then (pure a : M Bool) else pure b) = pure (if c then a else b) := by by_cases h : c <;> simp [h]
theorem Wp.join {α : Type} {S : Sx} {m : M (Fl Unit α)} {k : α → M (Fl Unit Unit)} {φ : D → Sx → Prop} {χ : α → Sx → Prop} (h : Wp m S fun f S' => ∃ a, f = .nx a ∧ χ a S') (q : ∀ a S', χ a S' → Wp (bodyM (k a)) S' φ) : Wp (bodyM (seqF m k)) S φ := by
  unfold seqF
  rw [bodyM_bind]
  refine h.bind fun f S' ⟨a, e, z⟩ => ?_
  subst e
  exact q a S' z
end VLib

/-! VLGa: strictly convex polygons over Rat: no program in sight. -/
namespace VLG
abbrev P := Rat × Rat
def cr (a b c : P) : Rat := (b.1 - a.1) * (c.2 - a.2) - (b.2 - a.2) * (c.1 - a.1)
def d2 (a b : P) : Rat := (b.1 - a.1) * (b.1 - a.1) + (b.2 - a.2) * (b.2 - a.2)
def IsSq (v : Rat) : Prop := ∃ r : Rat, r * r = v
def prv (n i : Nat) : Nat := if i = 0 then n - 1 else i - 1
def at_ (ps : List P) (i : Nat) : P := ps.getD i (0, 0)
/-- strictly convex, counterclockwise, sides of fractions: by places -/
structure Ow (ps : List P) : Prop where
  lo : 3 ≤ ps.length
  hi : ps.length ≤ 8
  sq : ∀ i, i < ps.length → IsSq (d2 (at_ ps (prv ps.length i)) (at_ ps i))
  cv : ∀ i, i < ps.length → ∀ k, k < ps.length → k ≠ i → k ≠ prv ps.length i → 0 < cr (at_ ps (prv ps.length i)) (at_ ps i) (at_ ps k)
theorem cr_rot (a b c : P) : cr a b c = cr b c a := by unfold cr; grind
theorem cr_same (a b : P) : cr a b b = 0 := by unfold cr; grind
theorem prv_lt {n i : Nat} (h : i < n) : prv n i < n := by unfold prv; split <;> omega
/-- no two alike -/
theorem Ow.inj {ps : List P} (h : Ow ps) : ∀ i j, i < j → j < ps.length → at_ ps i ≠ at_ ps j := by
  intro i j hij hj e
  have n3 := h.lo
  by_cases c : i = j - 1
  · have q := h.cv i (by omega) j hj (by omega) (by unfold prv; split <;> omega)
    rw [← e, cr_same] at q
    exact absurd q (by decide)
  · have q := h.cv j hj i (by omega) (by omega) (by unfold prv; split <;> omega)
    rw [e, cr_same] at q
    exact absurd q (by decide)
theorem at_map (T : P → P) (ps : List P) {i : Nat} (h : i < ps.length) : at_ (ps.map T) i = T (at_ ps i) := by
  unfold at_
  rw [List.getD_eq_getElem?_getD, List.getD_eq_getElem?_getD, List.getElem?_map, List.getElem?_eq_getElem h]
  rfl
/-- turned, so many times as great, moved -/
def tr (U V F A B : Rat) (p : P) : P := ((p.1 * U - p.2 * V) * F + A, (p.1 * V + p.2 * U) * F + B)
theorem cr_tr {U V F A B : Rat} (h : U * U + V * V = 1) (a b c : P) : cr (tr U V F A B a) (tr U V F A B b) (tr U V F A B c) = F * F * cr a b c := by
  unfold cr tr
  simp only
  grind
theorem d2_tr {U V F A B : Rat} (h : U * U + V * V = 1) (a b : P) : d2 (tr U V F A B a) (tr U V F A B b) = F * F * d2 a b := by
  unfold d2 tr
  simp only
  grind
theorem IsSq.mul {F v : Rat} (h : IsSq v) : IsSq (F * F * v) := by
  obtain ⟨r, e⟩ := h
  exact ⟨F * r, by grind⟩
theorem pos2 {F v : Rat} (hF : F ≠ 0) (h : 0 < v) : 0 < F * F * v := by
  have q : 0 < F * F := by
    by_cases a : 0 < F
    · exact Rat.mul_pos a a
    · have := Rat.mul_pos (show 0 < -F by grind) (show 0 < -F by grind)
      grind
  exact Rat.mul_pos q h
theorem Ow.tr {ps : List P} {U V F A B : Rat} (h : Ow ps) (u : U * U + V * V = 1) (hF : F ≠ 0) : Ow (ps.map (tr U V F A B)) := by
  refine ⟨by rw [List.length_map]; exact h.lo, by rw [List.length_map]; exact h.hi, fun i hi => ?_, fun i hi k hk n1 n2 => ?_⟩
  · rw [List.length_map] at hi ⊢
    rw [at_map _ _ hi, at_map _ _ (prv_lt hi), d2_tr u]
    exact (h.sq i hi).mul
  · rw [List.length_map] at hi hk n2 ⊢
    rw [at_map _ _ hi, at_map _ _ hk, at_map _ _ (prv_lt hi), cr_tr u]
    exact pos2 hF (h.cv i hi k hk n1 n2)
theorem at_app_l {xs ys : List P} {i : Nat} (h : i < xs.length) : at_ (xs ++ ys) i = at_ xs i := by
  unfold at_
  rw [List.getD_eq_getElem?_getD, List.getD_eq_getElem?_getD, List.getElem?_append_left h]
theorem at_app_r {xs ys : List P} {i : Nat} (h : xs.length ≤ i) : at_ (xs ++ ys) i = at_ ys (i - xs.length) := by
  unfold at_
  rw [List.getD_eq_getElem?_getD, List.getD_eq_getElem?_getD, List.getElem?_append_right h]
theorem at_rot {ps : List P} {a i : Nat} (ha : a < ps.length) (hi : i < ps.length) : at_ (ps.drop a ++ ps.take a) i = at_ ps (if i < ps.length - a then i + a else i - (ps.length - a)) := by
  by_cases c : i < ps.length - a
  · rw [if_pos c, at_app_l (by rw [List.length_drop]; exact c)]
    unfold at_
    rw [List.getD_eq_getElem?_getD, List.getD_eq_getElem?_getD, List.getElem?_drop, Nat.add_comm]
  · rw [if_neg c, at_app_r (by rw [List.length_drop]; omega), List.length_drop]
    unfold at_
    rw [List.getD_eq_getElem?_getD, List.getD_eq_getElem?_getD, List.getElem?_take_of_lt (by omega)]
/-- begun elsewhere -/
theorem Ow.rot {ps : List P} (h : Ow ps) {a : Nat} (ha : a < ps.length) : Ow (ps.drop a ++ ps.take a) := by
  have hl : (ps.drop a ++ ps.take a).length = ps.length := by
    rw [List.length_append, List.length_drop, List.length_take]
    omega
  have n3 := h.lo
  have pr : ∀ i, i < ps.length → (if prv ps.length i < ps.length - a then prv ps.length i + a else prv ps.length i - (ps.length - a)) = prv ps.length (if i < ps.length - a then i + a else i - (ps.length - a)) := fun i hi => by
    unfold prv
    (repeat' split) <;> omega
  refine ⟨by rw [hl]; exact h.lo, by rw [hl]; exact h.hi, fun i hi => ?_, fun i hi k hk n1 n2 => ?_⟩
  · rw [hl] at hi ⊢
    rw [at_rot ha hi, at_rot ha (prv_lt hi), pr i hi]
    exact h.sq _ (by split <;> omega)
  · rw [hl] at hi hk n2 ⊢
    rw [at_rot ha hi, at_rot ha hk, at_rot ha (prv_lt hi), pr i hi]
    have p0 := pr i hi
    refine h.cv _ (by split <;> omega) _ (by split <;> omega) (by (repeat' split) <;> omega) ?_
    rw [← p0]
    have p1 := prv_lt hi
    generalize prv ps.length i = q at n2 p1 ⊢
    (repeat' split) <;> omega
/-! ### a ring: squares of ways of length 1 -/
def cx (a b : P) : Rat := a.1 * b.2 - a.2 * b.1
def sqw (w : P) : P := (w.1 * w.1 - w.2 * w.2, 2 * w.1 * w.2)
structure Wy (w : P) : Prop where
  one : w.1 * w.1 + w.2 * w.2 = 1
  up : 0 < w.2 ∨ (w.2 = 0 ∧ 0 < w.1)
theorem cr_sq {a b c : P} (ha : a.1 * a.1 + a.2 * a.2 = 1) (hb : b.1 * b.1 + b.2 * b.2 = 1) (hc : c.1 * c.1 + c.2 * c.2 = 1) : cr (sqw a) (sqw b) (sqw c) = 4 * (cx a b * cx b c * cx a c) := by
  unfold cr sqw cx
  simp only
  grind
theorem d2_sq {a b : P} (ha : a.1 * a.1 + a.2 * a.2 = 1) (hb : b.1 * b.1 + b.2 * b.2 = 1) : d2 (sqw a) (sqw b) = (2 * cx a b) * (2 * cx a b) := by
  unfold d2 sqw cx
  simp only
  grind
theorem cx_sq {a b : P} : cx (sqw a) (sqw b) = 2 * (cx a b * (a.1 * b.1 + a.2 * b.2)) := by
  unfold sqw cx
  simp only
  grind
theorem sq_nn (u : Rat) : 0 ≤ u * u := by
  by_cases h : 0 ≤ u
  · exact Rat.mul_nonneg h h
  · have := Rat.mul_nonneg (show 0 ≤ -u by grind) (show 0 ≤ -u by grind)
    grind
theorem sq_0 {u : Rat} (h : u * u = 0) : u = 0 := by
  by_cases c : 0 < u
  · have := Rat.mul_pos c c
    grind
  · by_cases d : u < 0
    · have := Rat.mul_pos (show 0 < -u by grind) (show 0 < -u by grind)
      grind
    · grind
theorem pos_of_mul {a b : Rat} (ha : 0 < a) (h : 0 < a * b) : 0 < b := by
  by_cases c : 0 < b
  · exact c
  · have := Rat.mul_nonneg (show 0 ≤ a by grind) (show 0 ≤ -b by grind)
    grind
/-- what lies upward may be normed -/
theorem wy_of {u v : Rat} (h : u * u + v * v = 1) : ∃ w, Wy w ∧ sqw w = (u * u - v * v, 2 * u * v) := by
  by_cases a : 0 < v ∨ (v = 0 ∧ 0 < u)
  · exact ⟨(u, v), ⟨h, a⟩, rfl⟩
  · refine ⟨(-u, -v), ⟨by grind, ?_⟩, by unfold sqw; simp only; grind⟩
    by_cases b : v = 0
    · right
      have : u ≠ 0 := fun e => by rw [e, b] at h; grind
      grind
    · left
      grind
theorem cx_trans {a b c : P} (ha : Wy a) (hb : Wy b) (hc : Wy c) (h1 : 0 < cx a b) (h2 : 0 < cx b c) : 0 < cx a c := by
  have a2 : 0 ≤ a.2 := by rcases ha.up with h | h <;> grind
  have c2 : 0 ≤ c.2 := by rcases hc.up with h | h <;> grind
  rcases hb.up with hb2 | ⟨hb2, hb1⟩
  · have cp : 0 < c.2 := by
      rcases hc.up with h | ⟨e, p⟩
      · exact h
      · have := Rat.mul_pos hb2 p
        unfold cx at h2
        rw [e] at h2
        grind
    have m1 := Rat.mul_pos cp h1
    have m2 := Rat.mul_nonneg a2 (show 0 ≤ cx b c by grind)
    have id : b.2 * cx a c = c.2 * cx a b + a.2 * cx b c := by unfold cx; grind
    exact pos_of_mul hb2 (by grind)
  · have := Rat.mul_nonneg a2 (show 0 ≤ b.1 by grind)
    unfold cx at h1
    rw [hb2] at h1
    grind
theorem cx_anti (a b : P) : cx a b = - cx b a := by unfold cx; grind
theorem cx_eq {a b : P} (ha : Wy a) (hb : Wy b) (h : cx a b = 0) : a = b := by
  have o1 := ha.one
  have o2 := hb.one
  have e1 : (a.1 * b.1 + a.2 * b.2) * (a.1 * b.1 + a.2 * b.2) = 1 := by
    have : (a.1 * b.1 + a.2 * b.2) * (a.1 * b.1 + a.2 * b.2) + cx a b * cx a b = (a.1 * a.1 + a.2 * a.2) * (b.1 * b.1 + b.2 * b.2) := by unfold cx; grind
    rw [h, o1, o2] at this
    grind
  have e2 : (a.1 * b.1 + a.2 * b.2 - 1) * (a.1 * b.1 + a.2 * b.2 + 1) = 0 := by grind
  by_cases d : a.1 * b.1 + a.2 * b.2 - 1 = 0
  · have z : (a.1 - b.1) * (a.1 - b.1) + (a.2 - b.2) * (a.2 - b.2) = 0 := by grind
    have n1 := sq_nn (a.1 - b.1)
    have n2 := sq_nn (a.2 - b.2)
    have q1 := sq_0 (show (a.1 - b.1) * (a.1 - b.1) = 0 by grind)
    have q2 := sq_0 (show (a.2 - b.2) * (a.2 - b.2) = 0 by grind)
    exact Prod.ext (by grind) (by grind)
  · exfalso
    have d' : a.1 * b.1 + a.2 * b.2 + 1 = 0 := (Rat.mul_eq_zero.mp e2).resolve_left d
    have z : (a.1 + b.1) * (a.1 + b.1) + (a.2 + b.2) * (a.2 + b.2) = 0 := by grind
    have n1 := sq_nn (a.1 + b.1)
    have n2 := sq_nn (a.2 + b.2)
    have q1 := sq_0 (show (a.1 + b.1) * (a.1 + b.1) = 0 by grind)
    have q2 := sq_0 (show (a.2 + b.2) * (a.2 + b.2) = 0 by grind)
    have u1 := ha.up
    have u2 := hb.up
    grind
theorem cx_total {a b : P} (ha : Wy a) (hb : Wy b) (n : a ≠ b) : 0 < cx a b ∨ 0 < cx b a := by
  have := cx_anti a b
  by_cases e : cx a b = 0
  · exact absurd (cx_eq ha hb e) n
  · grind
/-- the same half -/
theorem cx_half {a b : P} (ha : Wy a) (hb : Wy b) (h : (0 < a.1 ↔ 0 < b.1)) : 0 < cx (sqw a) (sqw b) ↔ 0 < cx a b := by
  have a2 : 0 ≤ a.2 := by rcases ha.up with h | h <;> grind
  have b2 : 0 ≤ b.2 := by rcases hb.up with h | h <;> grind
  have dot : 0 < a.1 * b.1 + a.2 * b.2 := by
    have m := Rat.mul_nonneg a2 b2
    by_cases c : 0 < a.1
    · have := Rat.mul_pos c (h.mp c)
      grind
    · have c' : ¬ 0 < b.1 := fun z => c (h.mpr z)
      have a3 : 0 < a.2 := by rcases ha.up with h | h <;> grind
      have b3 : 0 < b.2 := by rcases hb.up with h | h <;> grind
      have m2 := Rat.mul_pos a3 b3
      have m3 := Rat.mul_nonneg (show 0 ≤ -a.1 by grind) (show 0 ≤ -b.1 by grind)
      grind
  rw [cx_sq]
  constructor
  · intro q
    have : 0 < (a.1 * b.1 + a.2 * b.2) * cx a b := by grind
    exact pos_of_mul dot this
  · intro q
    have := Rat.mul_pos q dot
    grind
/-- the upper half by the square's own numbers -/
theorem up_iff {a : P} (ha : Wy a) : (0 < (sqw a).2 ∨ ((sqw a).2 = 0 ∧ 0 < (sqw a).1)) ↔ 0 < a.1 := by
  unfold sqw
  simp only
  constructor
  · intro h
    by_cases c : 0 < a.1
    · exact c
    · exfalso
      have a3 : 0 < a.2 := by rcases ha.up with h | h <;> grind
      have m := Rat.mul_nonneg (show 0 ≤ -a.1 by grind) (show 0 ≤ a.2 by grind)
      rcases h with h | ⟨h1, h2⟩
      · grind
      · have z : a.1 = 0 := by
          have : a.1 * a.2 = 0 := by grind
          rcases Rat.mul_eq_zero.mp this with q | q <;> grind
        have := Rat.mul_pos a3 a3
        rw [z] at h2
        grind
  · intro h
    rcases ha.up with u | ⟨u, v⟩
    · left
      have := Rat.mul_pos h u
      grind
    · right
      have := Rat.mul_pos h h
      rw [u]
      grind
theorem cx_cross {a b : P} (ha : Wy a) (hb : Wy b) (h1 : 0 < a.1) (h2 : ¬ 0 < b.1) : 0 < cx a b := by
  have a2 : 0 ≤ a.2 := by rcases ha.up with h | h <;> grind
  have b3 : 0 < b.2 := by rcases hb.up with h | h <;> grind
  have m1 := Rat.mul_pos h1 b3
  have m2 := Rat.mul_nonneg a2 (show 0 ≤ -b.1 by grind)
  unfold cx
  grind
/-- a place by how many stand ahead -/
def ins (l : List P) (w : P) : List P := l.take (l.filter fun o => decide (0 < cx o w)).length ++ [w] ++ l.drop (l.filter fun o => decide (0 < cx o w)).length
theorem ins_split {w : P} (hw : Wy w) : ∀ (l : List P), (∀ x ∈ l, Wy x) → w ∉ l → l.Pairwise (fun a b => 0 < cx a b) →
    (∀ x ∈ l.take (l.filter fun o => decide (0 < cx o w)).length, 0 < cx x w) ∧ (∀ x ∈ l.drop (l.filter fun o => decide (0 < cx o w)).length, 0 < cx w x)
  | [], _, _, _ => ⟨fun x h => by simp at h, fun x h => by simp at h⟩
  | y :: l, hl, hn, hp => by
    have hy := hl y List.mem_cons_self
    have hl' : ∀ x ∈ l, Wy x := fun x h => hl x (List.mem_cons_of_mem _ h)
    rw [List.pairwise_cons] at hp
    by_cases c : 0 < cx y w
    · rw [List.filter_cons, if_pos (by simpa using c), List.length_cons, List.take_succ_cons, List.drop_succ_cons]
      obtain ⟨i1, i2⟩ := ins_split hw l hl' (fun h => hn (List.mem_cons_of_mem _ h)) hp.2
      exact ⟨fun x h => by rcases List.mem_cons.mp h with rfl | h; exact c; exact i1 x h, i2⟩
    · have wy : 0 < cx w y := (cx_total hy hw (fun e => hn (e ▸ List.mem_cons_self))).resolve_left c
      have all : ∀ x ∈ y :: l, 0 < cx w x := fun x h => by
        rcases List.mem_cons.mp h with rfl | h
        · exact wy
        · exact cx_trans hw hy (hl' x h) wy (hp.1 x h)
      have e : (y :: l).filter (fun o => decide (0 < cx o w)) = [] := by
        rw [List.filter_eq_nil_iff]
        intro x h
        have := all x h
        have := cx_anti w x
        simp only [decide_eq_true_eq]
        grind
      rw [e]
      exact ⟨fun x h => by simp at h, fun x h => all x (by simpa using h)⟩
theorem ins_sorted {w : P} (hw : Wy w) {l : List P} (hl : ∀ x ∈ l, Wy x) (hn : w ∉ l) (hp : l.Pairwise (fun a b => 0 < cx a b)) : (ins l w).Pairwise (fun a b => 0 < cx a b) := by
  obtain ⟨h1, h2⟩ := ins_split hw l hl hn hp
  unfold ins
  generalize (l.filter fun o => decide (0 < cx o w)).length = k at *
  have hp' : (l.take k ++ l.drop k).Pairwise (fun a b => 0 < cx a b) := by rw [List.take_append_drop]; exact hp
  rw [List.pairwise_append] at hp'
  rw [List.append_assoc, List.pairwise_append]
  refine ⟨hp'.1, ?_, fun a ha b hb => ?_⟩
  · rw [List.singleton_append, List.pairwise_cons]
    exact ⟨h2, hp'.2.1⟩
  · rw [List.singleton_append] at hb
    rcases List.mem_cons.mp hb with rfl | hb
    · exact h1 a ha
    · exact hp'.2.2 a ha b hb
theorem mem_ins {l : List P} {w x : P} : x ∈ ins l w ↔ x ∈ l ∨ x = w := by
  unfold ins
  generalize (l.filter fun o => decide (0 < cx o w)).length = k
  have e : x ∈ l ↔ x ∈ l.take k ∨ x ∈ l.drop k := by rw [← List.mem_append, List.take_append_drop]
  rw [e]
  simp only [List.mem_append, List.mem_singleton]
  grind
theorem len_ins {l : List P} {w : P} : (ins l w).length = l.length + 1 := by
  unfold ins
  generalize (l.filter fun o => decide (0 < cx o w)).length = k
  simp only [List.length_append, List.length_take, List.length_drop, List.length_singleton]
  omega
theorem pw_get {l : List P} (hp : l.Pairwise (fun a b => 0 < cx a b)) {i j : Nat} (h : i < j) (hj : j < l.length) : 0 < cx (at_ l i) (at_ l j) := by
  have q := List.pairwise_iff_getElem.mp hp i j (by omega) hj h
  unfold at_
  rw [List.getD_eq_getElem?_getD, List.getD_eq_getElem?_getD, List.getElem?_eq_getElem (by omega), List.getElem?_eq_getElem hj]
  exact q
theorem at_mem {l : List P} {i : Nat} (h : i < l.length) : at_ l i ∈ l := by
  unfold at_
  rw [List.getD_eq_getElem?_getD, List.getElem?_eq_getElem h]
  exact List.getElem_mem h
/-- a ring in order is a plate -/
theorem Ow.ring {ws : List P} (hw : ∀ x ∈ ws, Wy x) (hp : ws.Pairwise (fun a b => 0 < cx a b)) (h3 : 3 ≤ ws.length) (h8 : ws.length ≤ 8) : Ow (ws.map sqw) := by
  have on : ∀ i, i < ws.length → (at_ ws i).1 * (at_ ws i).1 + (at_ ws i).2 * (at_ ws i).2 = 1 := fun i h => (hw _ (at_mem h)).one
  have tri : ∀ i j k, i < j → j < k → k < ws.length → 0 < cr (sqw (at_ ws i)) (sqw (at_ ws j)) (sqw (at_ ws k)) := fun i j k h1 h2 h3 => by
    rw [cr_sq (on i (by omega)) (on j (by omega)) (on k h3)]
    have a := pw_get hp h1 (show j < ws.length by omega)
    have b := pw_get hp h2 h3
    have c := pw_get hp (show i < k by omega) h3
    have := Rat.mul_pos (Rat.mul_pos a b) c
    grind
  refine ⟨by rw [List.length_map]; exact h3, by rw [List.length_map]; exact h8, fun i hi => ?_, fun i hi k hk n1 n2 => ?_⟩
  · rw [List.length_map] at hi ⊢
    rw [at_map _ _ hi, at_map _ _ (prv_lt hi), d2_sq (on _ (prv_lt hi)) (on _ hi)]
    exact ⟨_, rfl⟩
  · rw [List.length_map] at hi hk n2 ⊢
    rw [at_map _ _ hi, at_map _ _ hk, at_map _ _ (prv_lt hi)]
    unfold prv at n2 ⊢
    by_cases c : i = 0
    · subst c
      rw [if_pos rfl] at n2 ⊢
      rw [cr_rot]
      exact tri 0 k (ws.length - 1) (by omega) (by omega) (by omega)
    · rw [if_neg c] at n2 ⊢
      by_cases d : i < k
      · exact tri (i - 1) i k (by omega) d hk
      · rw [cr_rot, cr_rot]
        exact tri k (i - 1) i (by omega) (by omega) hi
/-- the triangle -/
theorem Ow.tri : Ow [(0, 0), (4, 0), (0, 3)] := by
  refine ⟨by decide, by decide, fun i hi => ?_, fun i hi k hk n1 n2 => ?_⟩
  · have : i = 0 ∨ i = 1 ∨ i = 2 := by have : i < 3 := hi; omega
    rcases this with rfl | rfl | rfl
    · exact ⟨3, by decide +kernel⟩
    · exact ⟨4, by decide +kernel⟩
    · exact ⟨5, by decide +kernel⟩
  · have h1 : i = 0 ∨ i = 1 ∨ i = 2 := by have : i < 3 := hi; omega
    have h2 : k = 0 ∨ k = 1 ∨ k = 2 := by have : k < 3 := hk; omega
    rcases h1 with rfl | rfl | rfl <;> rcases h2 with rfl | rfl | rfl <;> first | exact absurd rfl n1 | exact absurd rfl n2 | decide +kernel
end VLG

set_option exponentiation.threshold 20000
/-! VLPs: whole roots, in plain terms. -/
namespace VLib
open PySem PySem.Spec VL
theorem while_t {γ δ : Type} {n : Nat} {mc : γ → M Bool} {mb : γ → M (Fl γ γ)} {s s' : γ} (hc : mc s = pure true) (hb : mb s = pure (.nx s')) : whileM (δ := δ) (n + 1) mc mb s = whileM n mc mb s' := by
  show (mc s >>= fun k => _) = _
  rw [hc, pure_bind, if_pos rfl, hb, pure_bind]
theorem while_f {γ δ : Type} {n : Nat} {mc : γ → M Bool} {mb : γ → M (Fl γ γ)} {s : γ} (hc : mc s = pure false) : whileM (δ := δ) (n + 1) mc mb s = pure (.nx s) := by
  show (mc s >>= fun k => _) = _
  rw [hc, pure_bind]
  rfl
theorem up_loop {γ : Type} {N : Int} (hN : 0 ≤ N) {mc : D → M Bool} {mb : D → M (Fl D D)} (hc : ∀ h : Int, 0 < h → h ≤ 2 * N + 1 → mc (.int h) = pure (decide (h * h ≤ N))) (hb : ∀ h : Int, 0 < h → h ≤ N → mb (.int h) = pure (.nx (.int (2 * h)))) :
    ∀ (n : Nat) (h : Int), 0 < h → h ≤ 2 * N + 1 → (N + 1 - h).toNat < n → ∃ h' : Int, whileM n mc mb (.int h) = (pure (.nx (.int h')) : M (Fl γ D)) ∧ 0 < h' ∧ h' ≤ 2 * N + 1 ∧ N < h' * h'
  | 0, _, _, _, q => absurd q (Nat.not_lt_zero _)
  | n + 1, h, h0, h1, q => by
    by_cases z : h * h ≤ N
    · have hh : h ≤ h * h := by
        have := Int.mul_le_mul_of_nonneg_left (show 1 ≤ h by omega) (Int.le_of_lt h0)
        omega
      rw [while_t (s' := .int (2 * h)) (by rw [hc h h0 h1, decide_eq_true z]) (hb h h0 (by omega))]
      exact up_loop hN hc hb n (2 * h) (by omega) (by omega) (by omega)
    · exact ⟨h, while_f (by rw [hc h h0 h1, decide_eq_false z]), h0, h1, by omega⟩
/-- l the whole root of N from below -/
def IsRt (N l : Int) : Prop := 0 ≤ l ∧ l * l ≤ N ∧ N < (l + 1) * (l + 1)
theorem IsRt.le {N l m : Int} (h : IsRt N l) (q : IsRt N m) : l ≤ m := by
  rcases Int.lt_or_le m l with z | z
  · exfalso
    have w := Int.mul_le_mul (show m + 1 ≤ l by omega) (show m + 1 ≤ l by omega) (by have := q.1; omega) h.1
    have := h.2.1
    have := q.2.2
    omega
  · exact z
theorem IsRt.eq {N l m : Int} (h : IsRt N l) (q : IsRt N m) : l = m := Int.le_antisymm (h.le q) (q.le h)
theorem IsRt.sq {s : Int} (h : 0 ≤ s) : IsRt (s * s) s := ⟨h, Int.le_refl _, by
  have := Int.mul_lt_mul' (show s ≤ s + 1 by omega) (show s < s + 1 by omega) h (show 0 < s + 1 by omega)
  omega⟩
theorem down_loop {γ : Type} {N B : Int} {mc : D × D → M Bool} {mb : D × D → M (Fl (D × D) (D × D))} (hc : ∀ l h : Int, mc (.int l, .int h) = pure (decide (1 < h - l)))
    (hb : ∀ l h : Int, 0 ≤ l → l < h → h ≤ B → mb (.int l, .int h) = pure (.nx (if ((l + h).fdiv 2) * ((l + h).fdiv 2) ≤ N then (.int ((l + h).fdiv 2), .int h) else (.int l, .int ((l + h).fdiv 2))))) :
    ∀ (n : Nat) (l h : Int), 0 ≤ l → l < h → h ≤ B → l * l ≤ N → N < h * h → (h - l).toNat < n → ∃ l' : Int, whileM n mc mb (.int l, .int h) = (pure (.nx (.int l', .int (l' + 1))) : M (Fl γ (D × D))) ∧ IsRt N l' ∧ l' + 1 ≤ B
  | 0, _, _, _, _, _, _, _, q => absurd q (Nat.not_lt_zero _)
  | n + 1, l, h, h0, h1, h2, h3, h4, q => by
    by_cases z : 1 < h - l
    · rw [while_t (by rw [hc l h, decide_eq_true z]) (hb l h h0 h1 h2)]
      have hm : (l + h).fdiv 2 = (l + h) / 2 := Int.fdiv_eq_ediv_of_nonneg _ (by decide)
      rw [hm]
      by_cases w : (l + h) / 2 * ((l + h) / 2) ≤ N
      · rw [if_pos w]
        exact down_loop hc hb n _ h (by omega) (by omega) h2 w h4 (by omega)
      · rw [if_neg w]
        exact down_loop hc hb n l _ h0 (by omega) (by omega) h3 (by omega) (by omega)
    · have e : h = l + 1 := by omega
      subst e
      exact ⟨l, while_f (by rw [hc l _, decide_eq_false z]), ⟨h0, h3, h4⟩, h2⟩
/-- the root or None -/
def rootV (N l : Int) : D := if l * l = N then .int l else .non
theorem whole_root_eq {N : Int} (h0 : 0 ≤ N) (hN : Bd 4000 N) : ∃ l, IsRt N l ∧ whole_root_m [.int N] = pure (rootV N l) := by
  have hB : ∀ x : Int, 0 ≤ x → x ≤ 2 * N + 1 → Bd 4002 x := fun x a b => by
    have : N.natAbs < 2 ^ 4000 := hN
    show x.natAbs < 2 ^ 4002
    have e : (2 : Nat) ^ 4002 = 4 * 2 ^ 4000 := by decide +kernel
    rw [e]
    omega
  have hf : (2 * N + 2).toNat < 2 ^ 9000 := Nat.lt_of_lt_of_le (show _ < 2 ^ 4003 by
    have : N.natAbs < 2 ^ 4000 := hN
    have e : (2 : Nat) ^ 4003 = 8 * 2 ^ 4000 := by decide +kernel
    rw [e]
    omega) (Nat.pow_le_pow_right (by decide) (by decide))
  show ∃ l, IsRt N l ∧ bodyM (whole_root_b (.int N)) = _
  unfold whole_root_b
  simp only [vlR]
  obtain ⟨h', e1, p1, p2, p3⟩ := up_loop (γ := Unit) (N := N) h0 (mc := fun s6 : D => (((pure s6) >>= fun x7 => (pure s6) >>= fun x8 => mulI x7 x8) >>= fun x9 => (pure (D.int N)) >>= fun x10 => leD x9 x10 >>= asB)) (mb := fun s6 : D => seqF (γ := D) (α := D) (((pure (D.int 2)) >>= fun x12 => (pure s6) >>= fun x13 => mulI x12 x13) >>= fun x14 => pure (Fl.nx x14)) fun high_ => pure (Fl.nx high_))
    (fun h a b => by simp only [vlR, mulI_ok ((hB h (by omega) b).ok (hB h (by omega) b))]) (fun h a b => by simp only [vlR, mulI_l (show (2 : Int).natAbs < 2 ^ 64 by decide)]) (2 ^ 9000) 1 (by decide) (by omega) (by omega)
  simp only [vlR] at e1
  rw [e1]
  simp only [vlR]
  obtain ⟨l, e2, r, b⟩ := down_loop (γ := Unit) (N := N) (B := 2 * N + 1) (mc := fun s16 : D × D => (((pure s16.2) >>= fun x17 => (pure s16.1) >>= fun x18 => subD x17 x18) >>= fun x19 => (pure (D.int 1)) >>= fun x20 => gtD x19 x20 >>= asB)) (mb := fun s16 : D × D => seqF (γ := D × D) (α := D) ((((pure s16.1) >>= fun x22 => (pure s16.2) >>= fun x23 => addD x22 x23) >>= fun x24 => (pure (D.int 2)) >>= fun x25 => fdivD x24 x25) >>= fun x26 => pure (Fl.nx x26)) fun middle_ =>
        seqF (γ := D × D) (α := D × D) ((((pure middle_) >>= fun x28 => (pure middle_) >>= fun x29 => mulI x28 x29) >>= fun x30 => (pure (D.int N)) >>= fun x31 => leD x30 x31 >>= asB) >>= fun k36 => if k36 = true then (seqF (γ := D × D) (α := D) ((pure middle_) >>= fun x33 => pure (Fl.nx x33)) fun low_ =>
            pure (Fl.nx (low_, s16.2))) else (seqF (γ := D × D) (α := D) ((pure middle_) >>= fun x35 => pure (Fl.nx x35)) fun high_ =>
            pure (Fl.nx (s16.1, high_)))) fun s27 =>
        pure (Fl.nx (s27.1, s27.2)))
    (fun l h => by simp only [vlR]) (fun l h a b c => by
      have m1 : Bd 4002 ((l + h).fdiv 2) := by
        rw [Int.fdiv_eq_ediv_of_nonneg _ (by decide)]
        exact hB _ (by omega) (by omega)
      simp only [vlR, fdivD_ok (show DivOk 2 by decide), mulI_ok (m1.ok m1), decide_eq_true_eq, ite_pnx]) (2 ^ 9000) 0 h' (by decide) p1 p2 h0 p3 (by omega)
  simp only [vlR] at e2
  refine ⟨l, r, ?_⟩
  rw [e2]
  simp only [vlR, mulI_ok ((hB l r.1 (by omega)).ok (hB l r.1 (by omega))), decide_eq_true_eq]
  unfold rootV
  split <;> rfl
theorem un2_f {a b : Int} : un2 (frD a b) = pure (.int a, .int b) := rfl
theorem isD_i {a : Int} : isD (.int a) .non = pure (.bl false) := rfl
theorem isD_n : isD .non .non = pure (.bl true) := rfl
theorem isD_f {a b : Int} : isD (frD a b) .non = pure (.bl false) := rfl
theorem isntD_f {a b : Int} : isntD (frD a b) .non = pure (.bl true) := rfl
theorem isntD_n : isntD .non .non = pure (.bl false) := rfl
def rootF (a b l m : Int) : D := if l * l = a ∧ m * m = b then frD l m else .non
theorem root_of_neg {a b : Int} (h : a < 0) : root_of_m [frD a b] = pure .non := by
  show bodyM (root_of_b (frD a b)) = _
  unfold root_of_b
  simp only [vlR, decide_eq_true h, if_true]
theorem root_of_eq {a b : Int} (h : 0 ≤ a) (ha : Bd 4000 a) (hb : Bd 4000 b) (h1 : 0 ≤ b) : ∃ l m, IsRt a l ∧ IsRt b m ∧ root_of_m [frD a b] = pure (rootF a b l m) := by
  obtain ⟨l, r1, e1⟩ := whole_root_eq h ha
  obtain ⟨m, r2, e2⟩ := whole_root_eq h1 hb
  refine ⟨l, m, r1, r2, ?_⟩
  show bodyM (root_of_b (frD a b)) = _
  unfold root_of_b
  simp only [vlR, decide_eq_false (show ¬ a < 0 by omega), Bool.false_eq_true, if_false, e1, e2]
  unfold rootV rootF
  by_cases z1 : l * l = a
  · by_cases z2 : m * m = b
    · rw [if_pos z1, if_pos z2, if_pos ⟨z1, z2⟩]
      rfl
    · rw [if_pos z1, if_neg z2, if_neg fun q => z2 q.2]
      rfl
  · rw [if_neg z1, if_neg (show ¬ (l * l = a ∧ m * m = b) from fun q => z1 q.1)]
    rfl
theorem frac_root_eq {k : Nat} {a b : Int} (h : FrB k a b) (hk : k ≤ 9000 := by decide) : frac_root_m [frD a b] = root_of_m [frD a b] := by
  show bodyM (frac_root_b (frD a b)) = _
  unfold frac_root_b
  simp only [vlR, h.is hk, Bool.not_true, Bool.false_eq_true, if_false]
theorem frac_root_no {d : D} (h : is_fraction_m [d] = pure (.bl false)) : frac_root_m [d] = err ⟨"NoFraction", []⟩ := by
  show bodyM (frac_root_b d) = _
  unfold frac_root_b
  simp only [vlR, h]
  rfl
theorem Fr.sq {a b : Int} (h : Fr a b) : Fr (a * a) (b * b) := by
  refine ⟨by have := Int.mul_le_mul h.1 h.1 (by decide) (by have := h.1; omega); omega, ?_⟩
  have e : Nat.Coprime a.natAbs b.natAbs := h.2
  show Nat.gcd (a * a).natAbs (b * b).natAbs = 1
  rw [Int.natAbs_mul, Int.natAbs_mul]
  exact (e.mul_left e).mul_right (e.mul_left e)
/-- turns over a list, each of them holds -/
theorem for_turns {δ : Type} {b : D → Unit → M (Fl Unit Unit)} {I : Sx → Prop} : ∀ (ds : List D), (∀ d ∈ ds, ∀ S, I S → Wp (b d ()) S fun f S' => f = .nx () ∧ I S') → ∀ S, I S → Wp (forM (δ := δ) b ds ()) S fun f S' => f = .nx () ∧ I S'
  | [], _, S, h => ⟨rfl, h⟩
  | d :: ds, q, S, h => by
    show Wp (b d () >>= fun f => _) S _
    refine (q d List.mem_cons_self S h).bind ?_
    rintro f S' ⟨rfl, h'⟩
    exact for_turns ds (fun e he => q e (List.mem_cons_of_mem _ he)) S' h'
theorem cmp_f {a b : Int} : (frD a b).cmp = true := by simp [frD, D.cmp, D.plain, D.plains, D.py, D.pys, SeqAt.shaped, PyData.canLay0, PyData.canLayAll0, PyData.depth, PyData.depthAll]
theorem eqv_f {a b c d : Int} : PyData.eqv (frD a b).py (frD c d).py = decide (a = c ∧ b = d) := by
  simp [frD, D.py, D.pys, PyData.eqv, PyData.eqvAll, Bool.beq_eq_decide_eq, Bool.decide_and]
theorem eqD_f {a b c d : Int} : eqD (frD a b) (frD c d) = pure (.bl (decide (a = c ∧ b = d))) := by rw [eqD_ok cmp_f cmp_f, eqv_f]
theorem neD_f {a b c d : Int} : neD (frD a b) (frD c d) = pure (.bl (!decide (a = c ∧ b = d))) := by rw [neD_ok cmp_f cmp_f, eqv_f]
theorem repr_n : repr1 .non = pure (.str (Str.ofString "None")) := by
  unfold repr1
  rw [if_pos ⟨rfl, rfl, rfl, by simp [D.py, PyData.depth], by decide +kernel⟩]
  rfl
/-- the text of a root: told alike -/
theorem repr_rootF {a b l m : Int} (hl : Bd 1900 l) (hm : Bd 1900 m) : ∃ x, PyData.strOk x = true ∧ repr1 (rootF a b l m) = pure (.str x) := by
  unfold rootF
  split
  · exact ⟨_, ok_shF _ _, repr_f hl hm⟩
  · exact ⟨_, strOk_of _, repr_n⟩
theorem IsRt.bd {N l : Int} {k : Nat} (h : IsRt N l) (q : Bd k N) : Bd k l := by
  refine q.le ?_
  have := h.1
  have := h.2.1
  rcases Int.lt_or_le l 1 with z | z
  · omega
  · have w := Int.mul_le_mul_of_nonneg_left z h.1
    omega
end VLib

set_option exponentiation.threshold 20000
/-! VLPq: sums and products of fractions, by cross products. -/
namespace VLib
open PySem PySem.Spec VL
theorem red_get {t b : Int} {k : Nat} (h0 : b ≠ 0) (ht : Bd k t) (hb : Bd k b) : ∃ p q, redD t b = frD p q ∧ FrB k p q ∧ p * b = t * q := by
  refine ⟨_, _, rfl, frB_red h0 ht hb, ?_⟩
  have e1 := rt_mul (t := t) h0
  have e2 := rb_mul (t := t) h0
  grind
theorem fr_eq {j k : Nat} {p q r s : Int} (h : FrB j p q) (g : FrB k r s) (e : p * s = r * q) : frD p q = frD r s := by
  rw [← h.red, ← g.red]
  exact red_eq h.ne g.ne e
section
variable {a b c d : Int} {j k : Nat}
theorem add_bd (h : FrB j a b) (g : FrB k c d) : Bd (j + k + 1) (a * d + c * b) ∧ Bd (j + k + 1) (b * d) :=
  ⟨(h.t.mul g.b).add ((g.t.mul h.b).mono (by omega)), (h.b.mul g.b).mono (by omega)⟩
theorem sub_bd (h : FrB j a b) (g : FrB k c d) : Bd (j + k + 1) (a * d - c * b) :=
  (h.t.mul g.b).sub ((g.t.mul h.b).mono (by omega))
theorem add_get (h : FrB j a b) (g : FrB k c d) (z1 : j ≤ 4000 := by decide) (z2 : k ≤ 4000 := by decide) : ∃ p q, frac_add_m [frD a b, frD c d] = pure (frD p q) ∧ FrB (j + k + 1) p q ∧ p * (b * d) = (a * d + c * b) * q := by
  obtain ⟨b1, b2⟩ := add_bd h g
  obtain ⟨p, q, e, f, x⟩ := red_get (Int.mul_ne_zero h.ne g.ne) b1 b2
  exact ⟨p, q, by rw [frac_add_eq (h.mono z1) (g.mono z2), e], f, x⟩
theorem sub_get (h : FrB j a b) (g : FrB k c d) (z1 : j ≤ 4000 := by decide) (z2 : k ≤ 4000 := by decide) : ∃ p q, frac_sub_m [frD a b, frD c d] = pure (frD p q) ∧ FrB (j + k + 1) p q ∧ p * (b * d) = (a * d - c * b) * q := by
  obtain ⟨p, q, e, f, x⟩ := red_get (Int.mul_ne_zero h.ne g.ne) (sub_bd h g) (add_bd h g).2
  exact ⟨p, q, by rw [frac_sub_eq (h.mono z1) (g.mono z2), e], f, x⟩
theorem mul_get (h : FrB j a b) (g : FrB k c d) (z1 : j ≤ 4000 := by decide) (z2 : k ≤ 4000 := by decide) : ∃ p q, frac_mul_m [frD a b, frD c d] = pure (frD p q) ∧ FrB (j + k) p q ∧ p * (b * d) = (a * c) * q := by
  obtain ⟨p, q, e, f, x⟩ := red_get (Int.mul_ne_zero h.ne g.ne) (h.t.mul g.t) (h.b.mul g.b)
  exact ⟨p, q, by rw [frac_mul_eq (h.mono z1) (g.mono z2), e], f, x⟩
theorem div_get (h : FrB j a b) (g : FrB k c d) (hc : c ≠ 0) (z1 : j ≤ 4000 := by decide) (z2 : k ≤ 4000 := by decide) : ∃ p q, frac_div_m [frD a b, frD c d] = pure (frD p q) ∧ FrB (j + k) p q ∧ p * (b * c) = (a * d) * q := by
  obtain ⟨p, q, e, f, x⟩ := red_get (Int.mul_ne_zero h.ne hc) (h.t.mul g.b) (h.b.mul g.t)
  exact ⟨p, q, by rw [frac_div_eq (h.mono z1) (g.mono z2) hc, e], f, x⟩
end
theorem ck_no1 {x y : D} (h : is_fraction_m [x] = pure (.bl false)) : frac_add_m [x, y] = err ⟨"NoFraction", []⟩ ∧ frac_sub_m [x, y] = err ⟨"NoFraction", []⟩ ∧ frac_mul_m [x, y] = err ⟨"NoFraction", []⟩ ∧ frac_div_m [x, y] = err ⟨"NoFraction", []⟩ :=
  ⟨ck_add (check_no1 h), ck_sub (check_no1 h), ck_mul (check_no1 h), ck_div (check_no1 h)⟩
theorem cmp2 {p q r s X Y : Int} (hY : Y ≠ 0) (h1 : p * Y = X * q) (h2 : r * Y = X * s) : p * s = r * q := Int.eq_of_mul_eq_mul_right hY (by grind)
theorem add_val {p q p1 q1 p3 q3 X1 Y1 X3 Y3 : Int} (n1 : q1 ≠ 0) (n3 : q3 ≠ 0) (h1 : p1 * Y1 = X1 * q1) (h3 : p3 * Y3 = X3 * q3) (h : p * (q1 * q3) = (p1 * q3 + p3 * q1) * q) : p * (Y1 * Y3) = (X1 * Y3 + X3 * Y1) * q :=
  Int.eq_of_mul_eq_mul_right (Int.mul_ne_zero n1 n3) (by grind)
theorem sub_val {p q p1 q1 p3 q3 X1 Y1 X3 Y3 : Int} (n1 : q1 ≠ 0) (n3 : q3 ≠ 0) (h1 : p1 * Y1 = X1 * q1) (h3 : p3 * Y3 = X3 * q3) (h : p * (q1 * q3) = (p1 * q3 - p3 * q1) * q) : p * (Y1 * Y3) = (X1 * Y3 - X3 * Y1) * q :=
  Int.eq_of_mul_eq_mul_right (Int.mul_ne_zero n1 n3) (by grind)
theorem mul_val {p q p1 q1 p3 q3 X1 Y1 X3 Y3 : Int} (n1 : q1 ≠ 0) (n3 : q3 ≠ 0) (h1 : p1 * Y1 = X1 * q1) (h3 : p3 * Y3 = X3 * q3) (h : p * (q1 * q3) = (p1 * p3) * q) : p * (Y1 * Y3) = (X1 * X3) * q :=
  Int.eq_of_mul_eq_mul_right (Int.mul_ne_zero n1 n3) (by grind)
theorem defL_adr {tb : List (PySem.Addr × (List D → M D))} {a : PySem.Addr} {g : List D → M D} (h : tb.lookup a = some g) : defL tb (.adr a) = pure g := by
  show (match tb.lookup a with | some g => pure g | none => no : M (List D → M D)) = _
  rw [h]
end VLib

set_option exponentiation.threshold 20000
/-! VLPv: fractions by their rational values. -/
namespace VLib
open PySem PySem.Spec VL
/-- d is the fraction of value v, in lowest terms, of that size -/
def Fv (k : Nat) (d : D) (v : Rat) : Prop := ∃ p q : Int, d = frD p q ∧ FrB k p q ∧ (p : Rat) / (q : Rat) = v
theorem q_ne {q : Int} (h : q ≠ 0) : (q : Rat) ≠ 0 := by
  intro e
  exact h (Rat.intCast_inj.mp (by rw [e]; rfl))
theorem cross_of {p q r s : Int} (hq : q ≠ 0) (hs : s ≠ 0) (h : (p : Rat) / q = (r : Rat) / s) : p * s = r * q := by
  have h1 := q_ne hq
  have h2 := q_ne hs
  have e : ((p * s : Int) : Rat) = ((r * q : Int) : Rat) := by
    rw [Rat.intCast_mul, Rat.intCast_mul]
    grind
  exact Rat.intCast_inj.mp e
theorem of_cross {p q t b : Int} (hq : q ≠ 0) (hb : b ≠ 0) (h : p * b = t * q) : (p : Rat) / q = (t : Rat) / b := by
  have h1 := q_ne hq
  have h2 := q_ne hb
  have e : ((p * b : Int) : Rat) = ((t * q : Int) : Rat) := by rw [h]
  rw [Rat.intCast_mul, Rat.intCast_mul] at e
  grind
theorem Fv.ext {j k : Nat} {x y : D} {v : Rat} (h : Fv j x v) (g : Fv k y v) : x = y := by
  obtain ⟨p, q, rfl, f1, e1⟩ := h
  obtain ⟨r, s, rfl, f2, e2⟩ := g
  exact fr_eq f1 f2 (cross_of f1.ne f2.ne (by rw [e1, e2]))
theorem Fv.mono {j k : Nat} {x : D} {v : Rat} (h : Fv j x v) (z : j ≤ k) : Fv k x v := let ⟨p, q, e, f, w⟩ := h; ⟨p, q, e, f.mono z, w⟩
theorem Fv.to {k : Nat} {x : D} {v w : Rat} (h : Fv k x v) (e : v = w) : Fv k x w := e ▸ h
theorem Fv.is {k : Nat} {x : D} {v : Rat} (h : Fv k x v) (z : k ≤ 9000 := by decide) : is_fraction_m [x] = pure (.bl true) := let ⟨_, _, e, f, _⟩ := h; e ▸ f.is z
theorem Fv.lit {k : Nat} {p q : Int} (f : FrB k p q) : Fv k (frD p q) ((p : Rat) / q) := ⟨p, q, rfl, f, rfl⟩
theorem Fv.red {k : Nat} {t b : Int} (h0 : b ≠ 0) (ht : Bd k t) (hb : Bd k b) : Fv k (redD t b) ((t : Rat) / b) := by
  obtain ⟨p, q, e, f, x⟩ := red_get h0 ht hb
  exact ⟨p, q, e, f, of_cross f.ne h0 x⟩
section
variable {j k : Nat} {x y : D} {u v : Rat}
theorem Fv.plus (h : Fv j x u) (g : Fv k y v) (z1 : j ≤ 4000 := by decide) (z2 : k ≤ 4000 := by decide) : ∃ d, plus_m [x, y] = pure d ∧ Fv (j + k + 1) d (u + v) := by
  obtain ⟨a, b, rfl, f1, e1⟩ := h
  obtain ⟨c, d, rfl, f2, e2⟩ := g
  obtain ⟨b1, b2⟩ := add_bd f1 f2
  refine ⟨_, plus_eq (f1.mono z1) (f2.mono z2), (Fv.red (Int.mul_ne_zero f1.ne f2.ne) b1 b2).to ?_⟩
  have h1 := q_ne f1.ne
  have h2 := q_ne f2.ne
  rw [← e1, ← e2, Rat.intCast_add, Rat.intCast_mul, Rat.intCast_mul, Rat.intCast_mul]
  grind
theorem Fv.minus (h : Fv j x u) (g : Fv k y v) (z1 : j ≤ 4000 := by decide) (z2 : k ≤ 4000 := by decide) : ∃ d, minus_m [x, y] = pure d ∧ Fv (j + k + 1) d (u - v) := by
  obtain ⟨a, b, rfl, f1, e1⟩ := h
  obtain ⟨c, d, rfl, f2, e2⟩ := g
  obtain ⟨_, b2⟩ := add_bd f1 f2
  refine ⟨_, minus_eq (f1.mono z1) (f2.mono z2), (Fv.red (Int.mul_ne_zero f1.ne f2.ne) (sub_bd f1 f2) b2).to ?_⟩
  have h1 := q_ne f1.ne
  have h2 := q_ne f2.ne
  rw [← e1, ← e2, Rat.intCast_sub, Rat.intCast_mul, Rat.intCast_mul, Rat.intCast_mul]
  grind
theorem Fv.times (h : Fv j x u) (g : Fv k y v) (z1 : j ≤ 4000 := by decide) (z2 : k ≤ 4000 := by decide) : ∃ d, product_m [x, y] = pure d ∧ Fv (j + k) d (u * v) := by
  obtain ⟨a, b, rfl, f1, e1⟩ := h
  obtain ⟨c, d, rfl, f2, e2⟩ := g
  refine ⟨_, product_eq (f1.mono z1) (f2.mono z2), (Fv.red (Int.mul_ne_zero f1.ne f2.ne) (f1.t.mul f2.t) (f1.b.mul f2.b)).to ?_⟩
  have h1 := q_ne f1.ne
  have h2 := q_ne f2.ne
  rw [← e1, ← e2, Rat.intCast_mul, Rat.intCast_mul]
  grind
/-! ### the law's own -/
theorem Fv.lplus (h : Fv j x u) (g : Fv k y v) (z1 : j ≤ 4000 := by decide) (z2 : k ≤ 4000 := by decide) : ∃ d, law_plus_m [x, y] = pure d ∧ Fv (j + k + 1) d (u + v) := by
  obtain ⟨d, e, f⟩ := Fv.plus h g z1 z2
  obtain ⟨a, b, rfl, f1, e1⟩ := h
  obtain ⟨c, d, rfl, f2, e2⟩ := g
  refine ⟨_, ?_, f⟩
  rw [plus_eq (f1.mono z1) (f2.mono z2)] at e
  show bodyM (law_plus_b (frD a b) (frD c d)) = _
  unfold law_plus_b
  simp only [vlR, mulI_ok ((f1.t.mono z1).ok (f2.b.mono z2)), mulI_ok ((f2.t.mono z2).ok (f1.b.mono z1)), mulI_ok ((f1.b.mono z1).ok (f2.b.mono z2)), law_low_eq (Int.mul_ne_zero f1.ne f2.ne) ((f1.b.mono z1).mul (f2.b.mono z2)).sm]
  exact e
theorem Fv.ltimes (h : Fv j x u) (g : Fv k y v) (z1 : j ≤ 4000 := by decide) (z2 : k ≤ 4000 := by decide) : ∃ d, law_times_m [x, y] = pure d ∧ Fv (j + k) d (u * v) := by
  obtain ⟨d, e, f⟩ := Fv.times h g z1 z2
  obtain ⟨a, b, rfl, f1, e1⟩ := h
  obtain ⟨c, d, rfl, f2, e2⟩ := g
  refine ⟨_, ?_, f⟩
  rw [product_eq (f1.mono z1) (f2.mono z2)] at e
  show bodyM (law_times_b (frD a b) (frD c d)) = _
  unfold law_times_b
  simp only [vlR, mulI_ok ((f1.t.mono z1).ok (f2.t.mono z2)), mulI_ok ((f1.b.mono z1).ok (f2.b.mono z2)), law_low_eq (Int.mul_ne_zero f1.ne f2.ne) ((f1.b.mono z1).mul (f2.b.mono z2)).sm]
  exact e
theorem Fv.neg {p q : Int} (h : Fv k (frD p q) u) : Fv k (frD (0 - p) q) (-u) := by
  obtain ⟨a, b, e, f1, e1⟩ := h
  obtain ⟨rfl, rfl⟩ : p = a ∧ q = b := by
    unfold frD at e
    injection e with e
    injection e with e2 e
    injection e2 with e2
    injection e with e
    injection e with e
    exact ⟨e2, e⟩
  refine ⟨_, _, rfl, by rw [Int.zero_sub]; exact f1.neg, ?_⟩
  have h1 := q_ne f1.ne
  rw [← e1, Int.zero_sub, Rat.intCast_neg]
  grind
theorem Fv.lminus (h : Fv j x u) (g : Fv k y v) (z1 : j ≤ 4000 := by decide) (z2 : k ≤ 4000 := by decide) : ∃ d, law_minus_m [x, y] = pure d ∧ Fv (j + k + 1) d (u - v) := by
  obtain ⟨c, d, rfl, f2, e2⟩ := g
  have g' : Fv k (frD (0 - c) d) (-v) := Fv.neg ⟨c, d, rfl, f2, e2⟩
  obtain ⟨w, e, f⟩ := Fv.lplus h g' z1 z2
  refine ⟨w, ?_, f.to (by grind)⟩
  show bodyM (law_minus_b x (frD c d)) = _
  unfold law_minus_b
  simp only [vlR, e]
/-- the sign of a fraction's top -/
theorem Fv.top (h : Fv k x u) : ∃ p q : Int, x = frD p q ∧ (0 < p ↔ 0 < u) ∧ (p < 0 ↔ u < 0) ∧ FrB k p q := by
  obtain ⟨p, q, rfl, f, e⟩ := h
  refine ⟨p, q, rfl, ?_, ?_, f⟩
  · have hq : (0 : Rat) < q := Rat.intCast_lt_intCast.mpr f.pos
    have e2 : (p : Rat) = u * q := by
      have := q_ne f.ne
      grind
    rw [← Rat.intCast_lt_intCast, e2]
    exact Rat.mul_pos_iff_of_pos_right hq
  · have hq : (0 : Rat) < q := Rat.intCast_lt_intCast.mpr f.pos
    have e2 : (p : Rat) = u * q := by
      have := q_ne f.ne
      grind
    rw [← Rat.intCast_lt_intCast, e2]
    have := Rat.mul_lt_mul_right (a := u) (b := 0) hq
    rw [Rat.zero_mul] at this
    exact this
end
end VLib

set_option exponentiation.threshold 20000
/-! VLPw: points by their rational values. -/
namespace VLib
open PySem PySem.Spec VL
def Pv (k : Nat) (d : D) (X Y : Rat) : Prop := ∃ x y, d = .tup [x, y] ∧ Fv k x X ∧ Fv k y Y
theorem Pv.mono {j k : Nat} {d : D} {X Y : Rat} (h : Pv j d X Y) (z : j ≤ k) : Pv k d X Y := let ⟨x, y, e, f, g⟩ := h; ⟨x, y, e, f.mono z, g.mono z⟩
theorem Pv.ext {j k : Nat} {c d : D} {X Y : Rat} (h : Pv j c X Y) (g : Pv k d X Y) : c = d := by
  obtain ⟨x, y, rfl, f1, f2⟩ := h
  obtain ⟨u, v, rfl, g1, g2⟩ := g
  rw [f1.ext g1, f2.ext g2]
theorem it0 {x y : D} : itemD (.tup [x, y]) (.int 0) = pure x := rfl
theorem it1 {x y : D} : itemD (.tup [x, y]) (.int 1) = pure y := rfl
theorem isa_t {xs : List D} : isaD [.tuple] (.tup xs) = pure (.bl true) := rfl
section
variable {i j k : Nat} {a b c d : D} {X Y U V : Rat}
theorem Pv.is (h : Pv k d X Y) (z : k ≤ 9000 := by decide) : is_point_m [d] = pure (.bl true) := by
  obtain ⟨x, y, rfl, f, g⟩ := h
  show bodyM (is_point_b (.tup [x, y])) = _
  unfold is_point_b
  simp only [pure_bind, isa_t, truB_b, on1_c, len_t2, eqD_i, it0, it1, onN1, f.is z, g.is z, if_true, decide_true]
  rfl
theorem Pv.step (h : Pv j a X Y) (g : Pv k b U V) (z1 : j ≤ 4000 := by decide) (z2 : k ≤ 4000 := by decide) : ∃ e, step_of_m [a, b] = pure e ∧ Pv (k + j + 1) e (U - X) (V - Y) := by
  obtain ⟨x, y, rfl, f1, f2⟩ := h
  obtain ⟨u, v, rfl, g1, g2⟩ := g
  obtain ⟨p, e1, w1⟩ := Fv.minus g1 f1 z2 z1
  obtain ⟨q, e2, w2⟩ := Fv.minus g2 f2 z2 z1
  refine ⟨_, ?_, p, q, rfl, w1, w2⟩
  show bodyM (step_of_b (.tup [x, y]) (.tup [u, v])) = _
  unfold step_of_b
  simp only [vlR, it0, it1, e1, e2]
theorem Pv.inner (h : Pv j a X Y) (g : Pv k b U V) (z1 : j ≤ 1500 := by decide) (z2 : k ≤ 1500 := by decide) : ∃ e, inner_of_m [a, b] = pure e ∧ Fv (j + k + (j + k) + 1) e (X * U + Y * V) := by
  obtain ⟨x, y, rfl, f1, f2⟩ := h
  obtain ⟨u, v, rfl, g1, g2⟩ := g
  obtain ⟨p, e1, w1⟩ := Fv.times f1 g1 (by omega) (by omega)
  obtain ⟨q, e2, w2⟩ := Fv.times f2 g2 (by omega) (by omega)
  obtain ⟨r, e3, w3⟩ := Fv.plus w1 w2 (by omega) (by omega)
  refine ⟨r, ?_, w3⟩
  show bodyM (inner_of_b (.tup [x, y]) (.tup [u, v])) = _
  unfold inner_of_b
  simp only [vlR, it0, it1, e1, e2, e3]
theorem size_of_eq (h : inner_of_m [a, a] = pure b) : size_of_m [a] = root_of_m [b] := by
  show bodyM (size_of_b a) = _
  unfold size_of_b
  simp only [vlR, h]
/-! ### signs -/
def sgv (v : Rat) : Int := (if 0 < v then 1 else 0) - (if v < 0 then 1 else 0)
theorem sgv_of {t : Int} {v : Rat} (h1 : 0 < t ↔ 0 < v) (h2 : t < 0 ↔ v < 0) : ((if 0 < t then (1 : Int) else 0) - (if t < 0 then 1 else 0)) = sgv v := by
  unfold sgv
  by_cases c1 : 0 < t
  · rw [if_pos c1, if_pos (h1.mp c1), if_neg (show ¬ t < 0 by omega), if_neg fun q => absurd (h2.mpr q) (by omega)]
  · rw [if_neg c1, if_neg fun q => c1 (h1.mpr q)]
    by_cases c2 : t < 0
    · rw [if_pos c2, if_pos (h2.mp c2)]
    · rw [if_neg c2, if_neg fun q => c2 (h2.mpr q)]
theorem sgv_neg {v : Rat} : sgv (-v) = 0 - sgv v := by
  unfold sgv
  have e1 : (0 < -v) ↔ (v < 0) := by grind
  have e2 : (-v < 0) ↔ (0 < v) := by grind
  simp only [e1, e2]
  split <;> split <;> omega
theorem sgv_0 : sgv 0 = 0 := by unfold sgv; simp
theorem sgv_bd {v : Rat} : Bd 1900 (sgv v) := by
  have h : (sgv v).natAbs ≤ 1 := by unfold sgv; split <;> split <;> omega
  exact Nat.lt_of_le_of_lt h (by decide +kernel)
/-- twice the area of a triangle, signed -/
def crs (X1 Y1 X2 Y2 X3 Y3 : Rat) : Rat := (X2 - X1) * (Y3 - Y1) - (Y2 - Y1) * (X3 - X1)
theorem triple_eq {a b c d : Int} (h : FrB k a b) (g : FrB k c d) (z : k ≤ 4000 := by decide) : whole_triple_m [.tup [frD a b, frD c d]] = pure (.tup [.int (a * d), .int (c * b), .int (b * d)]) := by
  show bodyM (whole_triple_b (.tup [frD a b, frD c d])) = _
  unfold whole_triple_b
  simp only [vlR, mulI_ok ((h.t.mono z).ok (g.b.mono z)), mulI_ok ((g.t.mono z).ok (h.b.mono z)), mulI_ok ((h.b.mono z).ok (g.b.mono z))]
theorem det_rat {a1 b1 c1 d1 a2 b2 c2 d2 a3 b3 c3 d3 : Rat} (n1 : b1 ≠ 0) (m1 : d1 ≠ 0) (n2 : b2 ≠ 0) (m2 : d2 ≠ 0) (n3 : b3 ≠ 0) (m3 : d3 ≠ 0) :
    a1 * d1 * (c2 * b2 * (b3 * d3) - c3 * b3 * (b2 * d2)) - c1 * b1 * (a2 * d2 * (b3 * d3) - a3 * d3 * (b2 * d2)) + b1 * d1 * (a2 * d2 * (c3 * b3) - a3 * d3 * (c2 * b2)) =
      crs (a1 / b1) (c1 / d1) (a2 / b2) (c2 / d2) (a3 / b3) (c3 / d3) * (b1 * d1 * (b2 * d2) * (b3 * d3)) := by
  unfold crs
  have e1 : ∀ x y : Rat, y ≠ 0 → x = x / y * y := fun x y h => by grind
  generalize hA1 : a1 / b1 = A1
  generalize hC1 : c1 / d1 = C1
  generalize hA2 : a2 / b2 = A2
  generalize hC2 : c2 / d2 = C2
  generalize hA3 : a3 / b3 = A3
  generalize hC3 : c3 / d3 = C3
  have f1 : a1 = A1 * b1 := by rw [← hA1]; exact e1 _ _ n1
  have f2 : c1 = C1 * d1 := by rw [← hC1]; exact e1 _ _ m1
  have f3 : a2 = A2 * b2 := by rw [← hA2]; exact e1 _ _ n2
  have f4 : c2 = C2 * d2 := by rw [← hC2]; exact e1 _ _ m2
  have f5 : a3 = A3 * b3 := by rw [← hA3]; exact e1 _ _ n3
  have f6 : c3 = C3 * d3 := by rw [← hC3]; exact e1 _ _ m3
  rw [f1, f2, f3, f4, f5, f6]
  clear f1 f2 f3 f4 f5 f6 hA1 hC1 hA2 hC2 hA3 hC3 n1 m1 n2 m2 n3 m3 e1
  grind
end
theorem side_sign_eq {k : Nat} {p1 p2 p3 : D} {X1 Y1 X2 Y2 X3 Y3 : Rat} (h1 : Pv k p1 X1 Y1) (h2 : Pv k p2 X2 Y2) (h3 : Pv k p3 X3 Y3) (z : k ≤ 1000 := by decide) : side_sign_m [p1, p2, p3] = pure (.int (sgv (crs X1 Y1 X2 Y2 X3 Y3))) := by
  obtain ⟨_, _, rfl, ⟨a1, b1, rfl, f1, e1⟩, ⟨c1, d1, rfl, g1, w1⟩⟩ := h1
  obtain ⟨_, _, rfl, ⟨a2, b2, rfl, f2, e2⟩, ⟨c2, d2, rfl, g2, w2⟩⟩ := h2
  obtain ⟨_, _, rfl, ⟨a3, b3, rfl, f3, e3⟩, ⟨c3, d3, rfl, g3, w3⟩⟩ := h3
  show bodyM (side_sign_b (.tup [frD a1 b1, frD c1 d1]) (.tup [frD a2 b2, frD c2 d2]) (.tup [frD a3 b3, frD c3 d3])) = _
  unfold side_sign_b
  have t1 := triple_eq f1 g1 (by omega)
  have t2 := triple_eq f2 g2 (by omega)
  have t3 := triple_eq f3 g3 (by omega)
  have m : ∀ {u v : Int}, Bd k u → Bd k v → Bd 2000 (u * v) := fun a b => (a.mul b).mono (by omega)
  have A1 := m f1.t g1.b
  have A2 := m g1.t f1.b
  have A3 := m f1.b g1.b
  have B1 := m f2.t g2.b
  have B2 := m g2.t f2.b
  have B3 := m f2.b g2.b
  have C1 := m f3.t g3.b
  have C2 := m g3.t f3.b
  have C3 := m f3.b g3.b
  have s1 := (B2.mul C3).sub (C2.mul B3)
  have s2 := (B1.mul C3).sub (C1.mul B3)
  have s3 := (B1.mul C2).sub (C1.mul B2)
  simp only [vlR, t1, t2, t3, mulI_ok (B2.ok C3), mulI_ok (C2.ok B3), mulI_ok (B1.ok C3), mulI_ok (C1.ok B3), mulI_ok (B1.ok C2), mulI_ok (C1.ok B2), mulI_ok (A1.ok s1), mulI_ok (A2.ok s2), mulI_ok (A3.ok s3), decide_eq_true_eq]
  have hd : ((a1 * d1 * (c2 * b2 * (b3 * d3) - c3 * b3 * (b2 * d2)) - c1 * b1 * (a2 * d2 * (b3 * d3) - a3 * d3 * (b2 * d2)) + b1 * d1 * (a2 * d2 * (c3 * b3) - a3 * d3 * (c2 * b2)) : Int) : Rat) = crs X1 Y1 X2 Y2 X3 Y3 * ((b1 * d1 * (b2 * d2) * (b3 * d3) : Int) : Rat) := by
    rw [← e1, ← w1, ← e2, ← w2, ← e3, ← w3]
    simp only [Rat.intCast_add, Rat.intCast_sub, Rat.intCast_mul]
    exact det_rat (q_ne f1.ne) (q_ne g1.ne) (q_ne f2.ne) (q_ne g2.ne) (q_ne f3.ne) (q_ne g3.ne)
  have hp : (0 : Rat) < ((b1 * d1 * (b2 * d2) * (b3 * d3) : Int) : Rat) := Rat.intCast_lt_intCast.mpr (Int.mul_pos (Int.mul_pos (Int.mul_pos f1.pos g1.pos) (Int.mul_pos f2.pos g2.pos)) (Int.mul_pos f3.pos g3.pos))
  generalize a1 * d1 * (c2 * b2 * (b3 * d3) - c3 * b3 * (b2 * d2)) - c1 * b1 * (a2 * d2 * (b3 * d3) - a3 * d3 * (b2 * d2)) + b1 * d1 * (a2 * d2 * (c3 * b3) - a3 * d3 * (c2 * b2)) = t at hd ⊢
  generalize ((b1 * d1 * (b2 * d2) * (b3 * d3) : Int) : Rat) = W at hd hp
  rw [sgv_of (t := t) (v := crs X1 Y1 X2 Y2 X3 Y3) (by rw [← Rat.intCast_lt_intCast, hd]; exact Rat.mul_pos_iff_of_pos_right hp) (by
    rw [← Rat.intCast_lt_intCast, hd]
    have := Rat.mul_lt_mul_right (a := crs X1 Y1 X2 Y2 X3 Y3) (b := 0) hp
    rw [Rat.zero_mul] at this
    exact this)]
end VLib

set_option exponentiation.threshold 20000
/-! VLPx: the laws' own points, rays, roots. -/
namespace VLib
open PySem PySem.Spec VL
/-- a loop with a state, each turn keeps the invariant -/
theorem for_inv {γ δ : Type} {b : D → γ → M (Fl γ γ)} {I : γ → Sx → Prop} : ∀ (ds : List D), (∀ d ∈ ds, ∀ s S, I s S → Wp (b d s) S fun f S' => ∃ s', f = .nx s' ∧ I s' S') → ∀ s S, I s S → Wp (forM (δ := δ) b ds s) S fun f S' => ∃ s', f = .nx s' ∧ I s' S'
  | [], _, s, S, h => ⟨s, rfl, h⟩
  | d :: ds, q, s, S, h => by
    show Wp (b d s >>= fun f => _) S _
    refine (q d List.mem_cons_self s S h).bind ?_
    rintro f S' ⟨s', rfl, h'⟩
    exact for_inv ds (fun e he => q e (List.mem_cons_of_mem _ he)) s' S' h'
theorem law_whole_root_eq {N : Int} (h0 : 0 ≤ N) (hN : Bd 4000 N) : ∃ l, IsRt N l ∧ law_whole_root_m [.int N] = pure (rootV N l) := by
  have hB : ∀ x : Int, 0 ≤ x → x ≤ 2 * N + 1 → Bd 4002 x := fun x a b => by
    have : N.natAbs < 2 ^ 4000 := hN
    show x.natAbs < 2 ^ 4002
    have e : (2 : Nat) ^ 4002 = 4 * 2 ^ 4000 := by decide +kernel
    rw [e]
    omega
  have hf : (2 * N + 2).toNat < 2 ^ 9000 := Nat.lt_of_lt_of_le (show _ < 2 ^ 4003 by
    have : N.natAbs < 2 ^ 4000 := hN
    have e : (2 : Nat) ^ 4003 = 8 * 2 ^ 4000 := by decide +kernel
    rw [e]
    omega) (Nat.pow_le_pow_right (by decide) (by decide))
  show ∃ l, IsRt N l ∧ bodyM (law_whole_root_b (.int N)) = _
  unfold law_whole_root_b
  simp only [vlR, un2_f]
  obtain ⟨h', e1, p1, p2, p3⟩ := up_loop (γ := Unit) (N := N) h0 (mc := fun s6 : D => (((pure s6) >>= fun x7 => (pure s6) >>= fun x8 => mulI x7 x8) >>= fun x9 => (pure (D.int N)) >>= fun x10 => leD x9 x10 >>= asB)) (mb := fun s6 : D => seqF (γ := D) (α := D) (((pure (D.int 2)) >>= fun x12 => (pure s6) >>= fun x13 => mulI x12 x13) >>= fun x14 => pure (Fl.nx x14)) fun high_ => pure (Fl.nx high_))
    (fun h a b => by simp only [vlR, mulI_ok ((hB h (by omega) b).ok (hB h (by omega) b))]) (fun h a b => by simp only [vlR, mulI_l (show (2 : Int).natAbs < 2 ^ 64 by decide)]) (2 ^ 9000) 1 (by decide) (by omega) (by omega)
  simp only [vlR] at e1
  rw [e1]
  simp only [vlR]
  obtain ⟨l, e2, r, b⟩ := down_loop (γ := Unit) (N := N) (B := 2 * N + 1) (mc := fun s19 : D × D => (((pure s19.2) >>= fun x20 => (pure s19.1) >>= fun x21 => subD x20 x21) >>= fun x22 => (pure (D.int 1)) >>= fun x23 => gtD x22 x23 >>= asB)) (mb := fun s19 : D × D => seqF (γ := D × D) (α := D) ((((pure s19.1) >>= fun x25 => (pure s19.2) >>= fun x26 => addD x25 x26) >>= fun x27 => (pure (D.int 2)) >>= fun x28 => fdivD x27 x28) >>= fun x29 => pure (Fl.nx x29)) fun middle_ =>
        seqF (γ := D × D) (α := D × D) (((((pure middle_) >>= fun x31 => (pure middle_) >>= fun x32 => mulI x31 x32) >>= fun x33 => (pure (D.int N)) >>= fun x34 => leD x33 x34 >>= asB) >>= fun k43 => if k43 = true then (((pure middle_) >>= fun x37 => ((pure s19.2) >>= fun x35 => (pure []) >>= fun r36 => pure (x35 :: r36)) >>= fun r38 => pure (x37 :: r38)) >>= tupD) else (((pure s19.1) >>= fun x41 => ((pure middle_) >>= fun x39 => (pure []) >>= fun r40 => pure (x39 :: r40)) >>= fun r42 => pure (x41 :: r42)) >>= tupD)) >>= fun x45 => un2 x45 >>= fun b44 => pure (Fl.nx b44)) fun b44 =>
        pure (Fl.nx (b44.1, b44.2)))
    (fun l h => by simp only [vlR]) (fun l h a b c => by
      have m1 : Bd 4002 ((l + h).fdiv 2) := by
        rw [Int.fdiv_eq_ediv_of_nonneg _ (by decide)]
        exact hB _ (by omega) (by omega)
      simp only [vlR, fdivD_ok (show DivOk 2 by decide), mulI_ok (m1.ok m1)]
      by_cases w : (l + h).fdiv 2 * (l + h).fdiv 2 ≤ N
      · simp only [w, decide_true, if_true, vlR, un2_f]
      · simp only [w, decide_false, Bool.false_eq_true, if_false, vlR, un2_f]) (2 ^ 9000) 0 h' (by decide) p1 p2 h0 p3 (by omega)
  simp only [vlR] at e2
  refine ⟨l, r, ?_⟩
  rw [e2]
  simp only [vlR, mulI_ok ((hB l r.1 (by omega)).ok (hB l r.1 (by omega))), decide_eq_true_eq]
  unfold rootV
  split <;> rfl
theorem inN_ii {a b : Int} : inD .non (frD a b) = pure (.bl false) := by
  show (if (D.non).cmp = true ∧ (frD a b).cmp = true then pure (D.bl (false != (D.pys [.int a, .int b]).any fun z => PyData.eqv z (D.non).py)) else no) = _
  rw [if_pos ⟨rfl, cmp_f⟩]
  simp [D.pys, D.py, PyData.eqv]
theorem inN_n1 {y : D} (h : (D.tup [.non, y]).cmp = true) : inD .non (.tup [.non, y]) = pure (.bl true) := by
  show (if (D.non).cmp = true ∧ (D.tup [.non, y]).cmp = true then pure (D.bl (false != (D.pys [.non, y]).any fun z => PyData.eqv z (D.non).py)) else no) = _
  rw [if_pos ⟨rfl, h⟩]
  simp [D.pys, D.py, PyData.eqv]
theorem inN_n2 {a : Int} : inD .non (.tup [.int a, .non]) = pure (.bl true) := by
  show (if (D.non).cmp = true ∧ (D.tup [.int a, .non]).cmp = true then pure (D.bl (false != (D.pys [.int a, .non]).any fun z => PyData.eqv z (D.non).py)) else no) = _
  rw [if_pos ⟨rfl, by simp [D.cmp, D.plain, D.plains, D.py, D.pys, SeqAt.shaped, PyData.canLay0, PyData.canLayAll0, PyData.depth, PyData.depthAll]⟩]
  simp [D.pys, D.py, PyData.eqv]
/-- the root of a fraction that is not below 0: the program's, the law's -/
theorem root_both {p q : Int} (f : FrB 1900 p q) (h : 0 ≤ p) : ∃ r s, root_of_m [frD p q] = pure r ∧ PyData.strOk s = true ∧ repr1 r = pure (.str s) ∧
    ∃ u v, law_whole_root_m [.int p] = pure u ∧ law_whole_root_m [.int q] = pure v ∧ ∃ k, inD .non (.tup [u, v]) = pure (.bl k) ∧ (if k = true then D.non else .tup [u, v]) = r := by
  have fb : Bd 4000 q := f.b.mono (by decide)
  have fa : Bd 4000 p := f.t.mono (by decide)
  have hb : 0 ≤ q := by have := f.pos; omega
  obtain ⟨l, q2, e2⟩ := law_whole_root_eq h fa
  obtain ⟨m, q1, e1⟩ := law_whole_root_eq hb fb
  obtain ⟨l', m', r1, r2, e3⟩ := root_of_eq h fa fb hb
  rw [r1.eq q2, r2.eq q1] at e3
  obtain ⟨x, ox, hx⟩ := repr_rootF (a := p) (b := q) (q2.bd f.t) (q1.bd f.b)
  refine ⟨_, x, e3, ox, hx, _, _, e2, e1, ?_⟩
  unfold rootV rootF
  by_cases z1 : l * l = p
  · by_cases z2 : m * m = q
    · rw [if_pos z1, if_pos z2, if_pos ⟨z1, z2⟩]
      exact ⟨_, inN_ii, rfl⟩
    · rw [if_pos z1, if_neg z2, if_neg fun q => z2 q.2]
      exact ⟨_, inN_n2, rfl⟩
  · rw [if_neg z1, if_neg (show ¬ (l * l = p ∧ m * m = q) from fun q => z1 q.1)]
    refine ⟨_, inN_n1 ?_, rfl⟩
    split <;> simp [D.cmp, D.plain, D.plains, D.py, D.pys, SeqAt.shaped, PyData.canLay0, PyData.canLayAll0, PyData.depth, PyData.depthAll]
/-- the root of a square -/
theorem root_sqv {j k : Nat} {x y : D} {v : Rat} (h : Fv k x (v * v)) (g : Fv j y v) (z : 0 ≤ v) (hk : k ≤ 3000 := by decide) (hj : j ≤ 1500 := by decide) : root_of_m [x] = pure y := by
  obtain ⟨p, q, rfl, f, e⟩ := g
  obtain ⟨p', q', e0, t1, t2, f0⟩ := Fv.top ⟨p, q, rfl, f, e⟩
  obtain ⟨rfl, rfl⟩ : p = p' ∧ q = q' := by
    unfold frD at e0
    injection e0 with e0
    injection e0 with e2 e0
    injection e2 with e2
    injection e0 with e0
    injection e0 with e0
    exact ⟨e2, e0⟩
  have hp : 0 ≤ p := by
    rcases Int.lt_or_le p 0 with w | w
    · have := t2.mp w
      grind
    · exact w
  have f2 : FrB (j + j) (p * p) (q * q) := ⟨f.fr.sq, f.t.mul f.t, f.b.mul f.b⟩
  have w : Fv (j + j) (frD (p * p) (q * q)) (v * v) := ⟨_, _, rfl, f2, by
    have := q_ne f.ne
    rw [← e, Rat.intCast_mul, Rat.intCast_mul]
    grind⟩
  rw [h.ext w, ← frac_root_eq (f2.mono (show j + j ≤ 3000 by omega))]
  exact (by
    rw [frac_root_eq (f2.mono (show j + j ≤ 3000 by omega))]
    obtain ⟨l', m', r1, r2, e⟩ := root_of_eq (Int.mul_nonneg hp hp) (f2.t.mono (by omega)) (f2.b.mono (by omega)) (Int.mul_nonneg (Int.le_of_lt f.pos) (Int.le_of_lt f.pos))
    rw [e, r1.eq (IsRt.sq hp), r2.eq (IsRt.sq (Int.le_of_lt f.pos))]
    unfold rootF
    rw [if_pos ⟨rfl, rfl⟩] : frac_root_m [frD (p * p) (q * q)] = pure (frD p q))
section
variable {i j k l : Nat} {a b c d : D} {X Y U V A B F : Rat}
theorem led_eq (h : Pv i a X Y) (g : Pv j b U V) (e : Fv k c F) (s : Pv l d A B) (z1 : i ≤ 500 := by decide) (z2 : j ≤ 500 := by decide) (z3 : k ≤ 500 := by decide) (z4 : l ≤ 500 := by decide) :
    ∃ w, law_led_m [a, b, c, d] = pure w ∧ Pv (i + j + (i + j) + 1 + k + l + 1) w ((X * U - Y * V) * F + A) ((X * V + Y * U) * F + B) := by
  obtain ⟨x, y, rfl, f1, f2⟩ := h
  obtain ⟨u, v, rfl, g1, g2⟩ := g
  obtain ⟨o, p, rfl, s1, s2⟩ := s
  obtain ⟨w1, e1, q1⟩ := Fv.ltimes f1 g1 (by omega) (by omega)
  obtain ⟨w2, e2, q2⟩ := Fv.ltimes f2 g2 (by omega) (by omega)
  obtain ⟨w3, e3, q3⟩ := Fv.lminus q1 q2 (by omega) (by omega)
  obtain ⟨w4, e4, q4⟩ := Fv.ltimes f1 g2 (by omega) (by omega)
  obtain ⟨w5, e5, q5⟩ := Fv.ltimes f2 g1 (by omega) (by omega)
  obtain ⟨w6, e6, q6⟩ := Fv.lplus q4 q5 (by omega) (by omega)
  obtain ⟨w7, e7, q7⟩ := Fv.ltimes q3 e (by omega) (by omega)
  obtain ⟨w8, e8, q8⟩ := Fv.lplus q7 s1 (by omega) (by omega)
  obtain ⟨w9, e9, q9⟩ := Fv.ltimes q6 e (by omega) (by omega)
  obtain ⟨w0, e0, q0⟩ := Fv.lplus q9 s2 (by omega) (by omega)
  refine ⟨_, ?_, w8, w0, rfl, q8, q0⟩
  show bodyM (law_led_b (.tup [x, y]) (.tup [u, v]) c (.tup [o, p])) = _
  unfold law_led_b
  simp only [vlR, it0, it1, e1, e2, e3, e4, e5, e6, e7, e8, e9, e0]
theorem lcross_eq (h : Pv k a X Y) (g : Pv k b U V) (s : Pv k c A B) (z : k ≤ 500 := by decide) : ∃ w, law_cross_m [a, b, c] = pure w ∧ Fv (k + k + 1 + (k + k + 1) + (k + k + 1 + (k + k + 1)) + 1) w (crs X Y U V A B) := by
  obtain ⟨x, y, rfl, f1, f2⟩ := h
  obtain ⟨u, v, rfl, g1, g2⟩ := g
  obtain ⟨o, p, rfl, s1, s2⟩ := s
  obtain ⟨w1, e1, q1⟩ := Fv.lminus g1 f1 (by omega) (by omega)
  obtain ⟨w2, e2, q2⟩ := Fv.lminus s2 f2 (by omega) (by omega)
  obtain ⟨w3, e3, q3⟩ := Fv.ltimes q1 q2 (by omega) (by omega)
  obtain ⟨w4, e4, q4⟩ := Fv.lminus g2 f2 (by omega) (by omega)
  obtain ⟨w5, e5, q5⟩ := Fv.lminus s1 f1 (by omega) (by omega)
  obtain ⟨w6, e6, q6⟩ := Fv.ltimes q4 q5 (by omega) (by omega)
  obtain ⟨w7, e7, q7⟩ := Fv.lminus q3 q6 (by omega) (by omega)
  refine ⟨w7, ?_, q7⟩
  show bodyM (law_cross_b (.tup [x, y]) (.tup [u, v]) (.tup [o, p])) = _
  unfold law_cross_b
  simp only [vlR, it0, it1, e1, e2, e3, e4, e5, e6, e7]
end
theorem fv_int {k : Nat} {n : Int} (h : Bd k n) (z : 1 ≤ k := by decide) : Fv k (frD n 1) n := by
  refine ⟨n, 1, rfl, ⟨⟨by decide, by simp⟩, h, Bd.mono (j := 1) (show (1 : Int).natAbs < 2 ^ 1 by decide) z⟩, ?_⟩
  have : ((1 : Int) : Rat) = 1 := rfl
  grind
/-- a ray: one long, turned by quarters -/
theorem ray_spec {q : Int} {S : Sx} (H : HandS S) {φ : D → Sx → Prop} (hφ : ∀ d X Y S', Pv 10 d X Y → X * X + Y * Y = 1 → HandS S' → φ d S') : Wp (law_ray_m q [.cell 0]) S φ := by
  show Wp (bodyM (law_ray_b q (.cell 0))) S φ
  unfold law_ray_b
  simp only [vlR]
  refine draw_bind H (hφ := fun a S1 a0 a1 H1 => ?_)
  simp only [vlR]
  refine draw_bind H1 (hφ := fun b S2 b0 b1 H2 => ?_)
  generalize ha : 1 + a = A
  have A1 : 1 ≤ A ∧ A ≤ 6 := by omega
  have sm : ∀ x y : Int, 0 ≤ x → x ≤ 6 → 0 ≤ y → y ≤ 6 → 0 ≤ x * y ∧ x * y ≤ 36 := fun x y h1 h2 h3 h4 => ⟨Int.mul_nonneg h1 h3, by
    have := Int.mul_le_mul h2 h4 h3 (by decide)
    omega⟩
  have AA := sm A A (by omega) A1.2 (by omega) A1.2
  have BB := sm b b b0 (by omega) b0 (by omega)
  have AB := sm A b (by omega) A1.2 b0 (by omega)
  have AA1 : 1 ≤ A * A := by
    have := Int.mul_le_mul A1.1 A1.1 (by decide) (by omega)
    omega
  have w0 : A * A + b * b ≠ 0 := by omega
  have ba : ∀ n : Int, n.natAbs ≤ 200 → Bd 10 n := fun n h => Nat.lt_of_le_of_lt h (by decide)
  have AB2 : 2 * A * b = 2 * (A * b) := Int.mul_assoc ..
  simp only [vlR, mulI_l (show A.natAbs < 2 ^ 64 by omega), mulI_l (show b.natAbs < 2 ^ 64 by omega), mulI_l (show (2 : Int).natAbs < 2 ^ 64 by decide), mulI_l (show (2 * A).natAbs < 2 ^ 64 by omega), law_low_eq w0 (ba _ (by omega)).sm]
  have f1 : Fv 10 (redD (A * A - b * b) (A * A + b * b)) _ := Fv.red w0 (ba _ (by omega)) (ba _ (by omega))
  have f2 : Fv 10 (redD (2 * A * b) (A * A + b * b)) _ := Fv.red w0 (ba _ (by omega)) (ba _ (by omega))
  have e1 : ((A * A - b * b : Int) : Rat) / ((A * A + b * b : Int) : Rat) * (((A * A - b * b : Int) : Rat) / ((A * A + b * b : Int) : Rat)) + ((2 * A * b : Int) : Rat) / ((A * A + b * b : Int) : Rat) * (((2 * A * b : Int) : Rat) / ((A * A + b * b : Int) : Rat)) = 1 := by
    have := q_ne w0
    simp only [Rat.intCast_add, Rat.intCast_sub, Rat.intCast_mul] at *
    have h2 : ((2 : Int) : Rat) = 2 := rfl
    grind
  generalize ((A * A - b * b : Int) : Rat) / ((A * A + b * b : Int) : Rat) = X0 at f1 e1
  generalize ((2 * A * b : Int) : Rat) / ((A * A + b * b : Int) : Rat) = Y0 at f2 e1
  generalize redD (A * A - b * b) (A * A + b * b) = x at f1 ⊢
  generalize redD (2 * A * b) (A * A + b * b) = y at f2 ⊢
  refine draw_bind H2 (hφ := fun t S3 t0 t1 H3 => ?_)
  have er : range1 [.int t] = pure (rangeL 0 t.toNat) := by
    show (if rngOk t then pure (rangeL 0 t.toNat) else no : M (List D)) = _
    rw [if_pos (by unfold rngOk; omega)]
  simp only [vlR, er]
  refine Wp.join (χ := fun s S' => ∃ X Y, Fv 10 s.1 X ∧ Fv 10 s.2 Y ∧ X * X + Y * Y = 1 ∧ HandS S') (for_inv _ (fun d _ s S4 hI => ?_) _ _ ⟨X0, Y0, f1, f2, e1, H3⟩) ?_
  · obtain ⟨X, Y, g1, ⟨p, r, e, g2, w⟩, z, H4⟩ := hI
    have e2 : itemD s.2 (.int 0) = pure (.int p) := by rw [e]; rfl
    have e3 : itemD s.2 (.int 1) = pure (.int r) := by rw [e]; rfl
    have g3 : Fv 10 (frD (0 - p) r) (-Y) := Fv.neg ⟨p, r, rfl, g2, w⟩
    simp only [vlR, e2, e3, un2_t]
    exact ⟨_, rfl, _, _, g3, g1, by grind, H4⟩
  · rintro ⟨x1, y1⟩ S4 ⟨X, Y, g1, g2, z, H4⟩
    have t2 : tupD [x1, y1] = pure (.tup [x1, y1]) := tup2
    simp only [vlR, t2]
    exact hφ _ X Y _ ⟨x1, y1, rfl, g1, g2⟩ z H4
theorem ray_bind {α : Type} {q : Int} {S : Sx} {k : D → M α} {φ : α → Sx → Prop} (H : HandS S) (hφ : ∀ d X Y S', Pv 10 d X Y → X * X + Y * Y = 1 → HandS S' → Wp (k d) S' φ) : Wp (law_ray_m q [.cell 0] >>= k) S φ :=
  wp_bind.mpr (ray_spec H hφ)
end VLib

set_option exponentiation.threshold 20000
/-! VLGb: rows of points; sides_round, is_convex, is_plate, in plain terms. -/
namespace VLib
open PySem PySem.Spec VL VLG
def Pt (k : Nat) (d : D) (p : P) : Prop := Pv k d p.1 p.2
theorem Pt.mono {j k : Nat} {d : D} {p : P} (h : Pt j d p) (z : j ≤ k) : Pt k d p := Pv.mono h z
theorem Pt.ext {j k : Nat} {c d : D} {p : P} (h : Pt j c p) (g : Pt k d p) : c = d := Pv.ext h g
theorem Fv.fn {j k : Nat} {x : D} {u v : Rat} (h : Fv j x u) (g : Fv k x v) : u = v := by
  obtain ⟨p, q, e, _, r1⟩ := h
  obtain ⟨p', q', e', _, r2⟩ := g
  rw [e] at e'
  unfold frD at e'
  injection e' with e'
  injection e' with e1 e'
  injection e1 with e1
  injection e' with e2 _
  injection e2 with e2
  rw [← r1, ← r2, e1, e2]
theorem Pt.fn {j k : Nat} {d : D} {p r : P} (h : Pt j d p) (g : Pt k d r) : p = r := by
  obtain ⟨x, y, e, f1, f2⟩ := h
  obtain ⟨x', y', e', g1, g2⟩ := g
  rw [e] at e'
  injection e' with e'
  injection e' with e1 e'
  injection e' with e2 _
  subst e1 e2
  exact Prod.ext (f1.fn g1) (f2.fn g2)
inductive PsR (k : Nat) : List D → List P → Prop
  | nil : PsR k [] []
  | cons {d : D} {p : P} {ds : List D} {ps : List P} : Pt k d p → PsR k ds ps → PsR k (d :: ds) (p :: ps)
theorem PsR.length {k : Nat} : ∀ {ds : List D} {ps : List P}, PsR k ds ps → ds.length = ps.length
  | _, _, .nil => rfl
  | _, _, .cons _ t => by rw [List.length_cons, List.length_cons, t.length]
theorem PsR.mono {j k : Nat} (z : j ≤ k) : ∀ {ds : List D} {ps : List P}, PsR j ds ps → PsR k ds ps
  | _, _, .nil => .nil
  | _, _, .cons h t => .cons (h.mono z) (t.mono z)
theorem PsR.at {k : Nat} : ∀ {ds : List D} {ps : List P} {i : Nat}, PsR k ds ps → i < ds.length → Pt k (ds.getD i .non) (at_ ps i)
  | _, _, _, .nil, h => absurd h (Nat.not_lt_zero _)
  | _, _, 0, .cons h _, _ => h
  | _, _, i + 1, .cons _ t, h => t.at (i := i) (by simpa using h)
theorem PsR.mem {k : Nat} : ∀ {ds : List D} {ps : List P}, PsR k ds ps → ∀ d ∈ ds, ∃ p ∈ ps, Pt k d p
  | _, _, .nil, d, h => by cases h
  | _, _, .cons h t, d, hd => by
    rcases List.mem_cons.mp hd with rfl | hd
    · exact ⟨_, List.mem_cons_self, h⟩
    · obtain ⟨p, hp, q⟩ := t.mem d hd
      exact ⟨p, List.mem_cons_of_mem _ hp, q⟩
theorem PsR.append {k : Nat} : ∀ {ds es : List D} {ps qs : List P}, PsR k ds ps → PsR k es qs → PsR k (ds ++ es) (ps ++ qs)
  | _, _, _, _, .nil, q => q
  | _, _, _, _, .cons h t, q => .cons h (t.append q)
theorem PsR.take {k : Nat} : ∀ {ds : List D} {ps : List P} (n : Nat), PsR k ds ps → PsR k (ds.take n) (ps.take n)
  | _, _, 0, _ => .nil
  | _, _, _ + 1, .nil => .nil
  | _, _, n + 1, .cons h t => .cons h (t.take n)
theorem PsR.drop {k : Nat} : ∀ {ds : List D} {ps : List P} (n : Nat), PsR k ds ps → PsR k (ds.drop n) (ps.drop n)
  | _, _, 0, r => r
  | _, _, _ + 1, .nil => .nil
  | _, _, n + 1, .cons _ t => t.drop n
theorem PsR.map {j k : Nat} {f : D → D} {T : P → P} (h : ∀ d p, Pt j d p → Pt k (f d) (T p)) : ∀ {ds : List D} {ps : List P}, PsR j ds ps → PsR k (ds.map f) (ps.map T)
  | _, _, .nil => .nil
  | _, _, .cons a t => .cons (h _ _ a) (t.map h)
theorem psR_of {k : Nat} : ∀ {ds : List D}, (∀ d ∈ ds, ∃ p, Pt k d p) → ∃ ps, PsR k ds ps
  | [], _ => ⟨[], .nil⟩
  | d :: ds, h => by
    obtain ⟨p, hp⟩ := h d List.mem_cons_self
    obtain ⟨ps, hs⟩ := psR_of fun e he => h e (List.mem_cons_of_mem _ he)
    exact ⟨p :: ps, .cons hp hs⟩
/-! ### == of points -/
section
variable {j k : Nat} {a b : D} {p r : P}
theorem Pt.cmp (h : Pt j a p) : a.cmp = true := by
  obtain ⟨x, y, rfl, ⟨a1, b1, rfl, _⟩, ⟨a2, b2, rfl, _⟩⟩ := h
  simp [frD, D.cmp, D.plain, D.plains, D.py, D.pys, SeqAt.shaped, PyData.canLay0, PyData.canLayAll0, PyData.depth, PyData.depthAll]
theorem Pt.eqv (h : Pt j a p) (g : Pt k b r) : PyData.eqv a.py b.py = decide (p = r) := by
  have iff : (a = b) ↔ p = r := ⟨fun e => by subst e; exact h.fn g, fun e => by subst e; exact h.ext g⟩
  have e1 : PyData.eqv a.py b.py = true ↔ a = b := by
    obtain ⟨x, y, rfl, ⟨a1, b1, rfl, _⟩, ⟨a2, b2, rfl, _⟩⟩ := h
    obtain ⟨x', y', rfl, ⟨a1', b1', rfl, _⟩, ⟨a2', b2', rfl, _⟩⟩ := g
    simp [frD, D.py, D.pys, PyData.eqv, PyData.eqvAll]
  rw [Bool.eq_iff_iff, e1, iff, decide_eq_true_eq]
theorem Pt.ne (h : Pt j a p) (g : Pt k b r) : neD a b = pure (.bl (!decide (p = r))) := by rw [neD_ok h.cmp g.cmp, h.eqv g]
theorem Pt.good (h : Pt j a p) : goodK a = true := by
  obtain ⟨x, y, rfl, ⟨a1, b1, rfl, _⟩, ⟨a2, b2, rfl, _⟩⟩ := h
  unfold goodK
  simp [frD, isTup, kOk, kOks, keyD, keyDs, NestedKey.depth, NestedKey.depthAll]
end
/-! ### items -/
theorem it_l {ds : List D} {j : Nat} (h : j < ds.length) : itemD (.lst ds) (.int (j : Int)) = pure (ds.getD j .non) := by
  rw [item_l, atI_at (j := j) rfl (x := ds.getD j .non) (by rw [List.getD_eq_getElem?_getD, List.getElem?_eq_getElem h]; rfl)]
  rfl
theorem it_t {ds : List D} {j : Nat} (h : j < ds.length) : itemD (.tup ds) (.int (j : Int)) = pure (ds.getD j .non) := by
  rw [item_t, atI_at (j := j) rfl (x := ds.getD j .non) (by rw [List.getD_eq_getElem?_getD, List.getElem?_eq_getElem h]; rfl)]
  rfl
theorem atI_last {ds : List D} (h : 0 < ds.length) : L2.atI ds (-1) = some (ds.getD (ds.length - 1) .non) := by
  unfold L2.atI L2.ixN
  rw [if_neg (by omega), if_pos (by omega)]
  show ds[((-1 : Int) + ds.length).toNat]? = _
  rw [show ((-1 : Int) + ds.length).toNat = ds.length - 1 by omega, List.getD_eq_getElem?_getD, List.getElem?_eq_getElem (by omega)]
  rfl
/-- a row of points, as a list, as a tuple -/
inductive Rw (ds : List D) : D → Prop
  | l : Rw ds (.lst ds)
  | t : Rw ds (.tup ds)
section
variable {ds : List D} {x : D}
theorem Rw.row (h : Rw ds x) : rowD x = pure ds := by cases h <;> rfl
theorem Rw.len (h : Rw ds x) : len1 x = pure (.int ds.length) := by cases h <;> rfl
theorem Rw.it (h : Rw ds x) {j : Nat} (q : j < ds.length) : itemD x (.int (j : Int)) = pure (ds.getD j .non) := by
  cases h
  · exact it_l q
  · exact it_t q
theorem Rw.last (h : Rw ds x) (q : 0 < ds.length) : itemD x (.int (-1)) = pure (ds.getD (ds.length - 1) .non) := by
  cases h
  · rw [item_l, atI_last q]; rfl
  · rw [item_t, atI_last q]; rfl
theorem Rw.prev (h : Rw ds x) {j : Nat} (q : j < ds.length) : itemD x (.int ((j : Int) - 1)) = pure (ds.getD (prv ds.length j) .non) := by
  unfold prv
  by_cases c : j = 0
  · subst c
    exact h.last q
  · rw [if_neg c, show ((j : Int) - 1) = ((j - 1 : Nat) : Int) by omega, h.it (by omega)]
/-- the sides -/
def SD (ds : List D) : List D := (List.range (ds.length - 1)).map (fun j => D.tup [ds.getD j .non, ds.getD (j + 1) .non]) ++ [.tup [ds.getD (ds.length - 1) .non, ds.getD 0 .non]]
theorem SD_len (h : 0 < ds.length) : (SD ds).length = ds.length := by unfold SD; simp; omega
theorem mem_SD (h : 0 < ds.length) {d : D} : d ∈ SD ds ↔ ∃ i, i < ds.length ∧ d = .tup [ds.getD (prv ds.length i) .non, ds.getD i .non] := by
  unfold SD
  rw [List.mem_append, List.mem_map, List.mem_singleton]
  constructor
  · rintro (⟨j, hj, rfl⟩ | rfl)
    · rw [List.mem_range] at hj
      exact ⟨j + 1, by omega, by unfold prv; rw [if_neg (by omega)]; rfl⟩
    · exact ⟨0, h, by unfold prv; rw [if_pos rfl]⟩
  · rintro ⟨i, hi, rfl⟩
    unfold prv
    by_cases c : i = 0
    · subst c
      right
      rw [if_pos rfl]
    · left
      rw [if_neg c]
      exact ⟨i - 1, List.mem_range.mpr (by omega), by rw [show i - 1 + 1 = i by omega]⟩
theorem sides_eq (h : Rw ds x) (h0 : 0 < ds.length) (hl : ds.length ≤ 1000) : sides_round_m [x] = pure (.lst (SD ds)) := by
  show bodyM (sides_round_b x) = _
  unfold sides_round_b
  have er : range2 [.int 1, .int ds.length] = pure (rangeL 1 (ds.length - 1)) := by
    show (if rngOk 1 ∧ rngOk (ds.length : Int) then pure (rangeL 1 ((ds.length : Int) - 1).toNat) else no) = _
    rw [if_pos ⟨by decide, by unfold rngOk; omega⟩, show ((ds.length : Int) - 1).toNat = ds.length - 1 by omega]
  have lst1 : ∀ a : D, lstD [a] = pure (.lst [a]) := fun a => lstD_ok (by show 1 ≤ 1000000; decide)
  have tf : ∀ x y : D, tupD [x, y] = pure (.tup [x, y]) := fun _ _ => tup2
  have lc : ∀ b : D → M (Option D), (∀ j : Nat, j < ds.length - 1 → b (.int (1 + (j : Int))) = pure (some (.tup [ds.getD j .non, ds.getD (j + 1) .non]))) → lcL b (rangeL 1 (ds.length - 1)) = pure ((List.range (ds.length - 1)).map fun j => D.tup [ds.getD j .non, ds.getD (j + 1) .non]) := fun b hb => by
    unfold lcL
    rw [if_pos (by unfold rangeL lim; rw [List.length_map, List.length_range]; omega), lcM_map (f := fun d => match d with | .int i => .tup [ds.getD (i - 1).toNat .non, ds.getD i.toNat .non] | d => d)]
    · unfold rangeL
      rw [List.map_map]
      refine congrArg (fun z : List D => (pure z : M (List D))) (List.map_congr_left fun j hj => ?_)
      show D.tup [ds.getD ((1 : Int) + j - 1).toNat .non, ds.getD ((1 : Int) + j).toNat .non] = _
      rw [show ((1 : Int) + j - 1).toNat = j by omega, show ((1 : Int) + j).toNat = j + 1 by omega]
    · intro d hd
      unfold rangeL at hd
      obtain ⟨j, hj, rfl⟩ := List.mem_map.mp hd
      rw [hb j (List.mem_range.mp hj)]
      show pure (some (D.tup [ds.getD j .non, ds.getD (j + 1) .non])) = pure (some (D.tup [ds.getD ((1 : Int) + j - 1).toNat .non, ds.getD ((1 : Int) + j).toNat .non]))
      rw [show ((1 : Int) + j - 1).toNat = j by omega, show ((1 : Int) + j).toNat = j + 1 by omega]
  simp only [vlR, h.len, er, h.last h0, show itemD x (.int 0) = pure (ds.getD 0 .non) from h.it h0, tf, lst1]
  rw [lc _ fun j hj => ?_]
  · simp only [vlR]
    rw [addL (by simp; unfold lim; omega)]
    rfl
  · unfold lcT
    simp only [vlR, if_true]
    rw [show (1 : Int) + j - 1 = ((j : Nat) : Int) by omega, show (1 : Int) + j = ((j + 1 : Nat) : Int) by omega, h.it (show j < ds.length by omega), h.it (show j + 1 < ds.length by omega)]
    simp only [vlR, tf, noX_pure]
end
noncomputable def tb (p : Prop) : Bool := @decide p (Classical.propDecidable p)
theorem tb_iff {p : Prop} : tb p = true ↔ p := ⟨fun h => @of_decide_eq_true p (Classical.propDecidable p) h, fun h => @decide_eq_true p (Classical.propDecidable p) h⟩
/-! ### loops that look for something -/
/-- for d in ds: if not t d: return r -/
theorem forM_all {δ : Type} {b : D → Unit → M (Fl Unit Unit)} {t : D → Bool} {r : D} : ∀ {ds : List D}, (∀ d ∈ ds, b d () = pure (if t d = true then .nx () else .rt r)) → (forM b ds () : M (Fl δ Unit)) = pure (if ds.all t = true then .nx () else .rt r)
  | [], _ => rfl
  | d :: ds, h => by
    show (b d () >>= fun f => _) = _
    rw [h d List.mem_cons_self, pure_bind, List.all_cons]
    cases c : t d with
    | true =>
      simp only [if_true, Bool.true_and]
      exact forM_all (δ := δ) fun e he => h e (List.mem_cons_of_mem _ he)
    | false => simp
theorem asBs_map {f : D → Bool} : ∀ ds : List D, asBs (ds.map fun d => .bl (f d)) = some (ds.map f)
  | [] => rfl
  | d :: ds => by
    show (asBs (ds.map fun d => .bl (f d))).map (f d :: ·) = _
    rw [asBs_map ds]
    rfl
/-- all([t d for d in ds]) -/
theorem all_lc {b : D → M (Option D)} {t : D → Bool} {ds : List D} (hl : ds.length ≤ lim) (h : ∀ d ∈ ds, b d = pure (some (.bl (t d)))) : (lcL b ds >>= fun es => all1 (.lst es)) = pure (.bl (ds.all t)) := by
  unfold lcL
  rw [if_pos hl, lcM_map (f := fun d => .bl (t d)) h, pure_bind]
  show (match asBs (ds.map fun d => D.bl (t d)) with
    | some bs => pure (D.bl (bs.all id))
    | none => no) = _
  rw [asBs_map]
  show pure (D.bl ((ds.map t).all id)) = _
  rw [List.all_map]
  rfl
/-! ### is_convex -/
section
variable {k : Nat} {ds : List D} {ps : List P} {x : D}
theorem sgv_1 {v : Rat} : sgv v = 1 ↔ 0 < v := by
  unfold sgv
  constructor
  · intro h
    by_cases c : 0 < v
    · exact c
    · rw [if_neg c] at h
      split at h <;> omega
  · intro h
    rw [if_pos h, if_neg (by grind)]
    rfl
theorem convex_eq (h : Rw ds x) (R : PsR k ds ps) (h0 : 0 < ds.length) (hl : ds.length ≤ 1000) (z : k ≤ 1000 := by decide) :
    ∃ b : Bool, is_convex_m [x] = pure (.bl b) ∧ (b = true ↔ ∀ i, i < ds.length → ∀ j, j < ds.length → at_ ps j ≠ at_ ps (prv ds.length i) → at_ ps j ≠ at_ ps i → 0 < cr (at_ ps (prv ds.length i)) (at_ ps i) (at_ ps j)) := by
  show ∃ b : Bool, bodyM (is_convex_b x) = _ ∧ _
  unfold is_convex_b
  simp only [vlR, sides_eq h h0 hl, h.row, show rowD (.lst (SD ds)) = pure (SD ds) from rfl]
  -- what is asked of a side, of a point
  let t1 : D → D → Bool := fun s d => tb (∀ i j, i < ds.length → j < ds.length → s = .tup [ds.getD (prv ds.length i) .non, ds.getD i .non] → d = ds.getD j .non → at_ ps j ≠ at_ ps (prv ds.length i) → at_ ps j ≠ at_ ps i → 0 < cr (at_ ps (prv ds.length i)) (at_ ps i) (at_ ps j))
  let t0 : D → Bool := fun s => ds.all (t1 s)
  have memj : ∀ d ∈ ds, ∃ j, j < ds.length ∧ d = ds.getD j .non := fun d hd => by
    obtain ⟨j, hj, e⟩ := List.mem_iff_getElem.mp hd
    exact ⟨j, hj, by rw [List.getD_eq_getElem?_getD, List.getElem?_eq_getElem hj, e]; rfl⟩
  rw [forM_all (t := t0) (r := .bl false) fun s hs => ?_]
  · refine ⟨(SD ds).all t0, ?_, ?_⟩
    · cases c : (SD ds).all t0
      · rfl
      · rfl
    · rw [List.all_eq_true]
      constructor
      · intro q i hi j hj n1 n2
        have q1 := q _ ((mem_SD h0).mpr ⟨i, hi, rfl⟩)
        have q2 := List.all_eq_true.mp q1 (ds.getD j .non) (by rw [List.getD_eq_getElem?_getD, List.getElem?_eq_getElem hj]; exact List.getElem_mem hj)
        exact tb_iff.mp q2 i j hi hj rfl rfl n1 n2
      · intro q s hs
        refine List.all_eq_true.mpr fun d hd => tb_iff.mpr ?_
        intro i j hi hj _ _ n1 n2
        exact q i hi j hj n1 n2
  · obtain ⟨i, hi, rfl⟩ := (mem_SD h0).mp hs
    have pa := R.at (prv_lt hi)
    have pb := R.at hi
    simp only [un2_t, vlR]
    rw [forM_all (t := t1 (.tup [ds.getD (prv ds.length i) .non, ds.getD i .non])) (r := .bl false) fun d hd => ?_]
    · show seqF (pure (if t0 _ = true then _ else _)) _ = _
      cases c : t0 (.tup [ds.getD (prv ds.length i) .non, ds.getD i .non]) <;> rfl
    · obtain ⟨j, hj, rfl⟩ := memj d hd
      have pc := R.at hj
      simp only [vlR, pc.ne pa, pc.ne pb, side_sign_eq pa pb pc z]
      have key : t1 (.tup [ds.getD (prv ds.length i) .non, ds.getD i .non]) (ds.getD j .non) = (decide (at_ ps j = at_ ps (prv ds.length i)) || (decide (at_ ps j = at_ ps i) || decide (0 < cr (at_ ps (prv ds.length i)) (at_ ps i) (at_ ps j)))) := by
        rw [Bool.eq_iff_iff, Bool.or_eq_true, Bool.or_eq_true, decide_eq_true_eq, decide_eq_true_eq, decide_eq_true_eq]
        constructor
        · intro q
          have q := tb_iff.mp q i j hi hj rfl rfl
          by_cases n1 : at_ ps j = at_ ps (prv ds.length i)
          · exact .inl n1
          · by_cases n2 : at_ ps j = at_ ps i
            · exact .inr (.inl n2)
            · exact .inr (.inr (q n1 n2))
        · intro q
          refine tb_iff.mpr ?_
          intro i' j' hi' hj' e1 e2 n1 n2
          injection e1 with e1
          injection e1 with e3 e1
          injection e1 with e4 _
          have a1 := (R.at (prv_lt hi')).fn (e3 ▸ pa)
          have a2 := (R.at hi').fn (e4 ▸ pb)
          have a3 := (R.at hj').fn (e2 ▸ pc)
          rw [a1, a3] at n1
          rw [a2, a3] at n2
          rw [a1, a2, a3]
          rcases q with q | q | q
          · exact absurd q n1
          · exact absurd q n2
          · exact q
      rw [key]
      have ec : crs (at_ ps (prv ds.length i)).1 (at_ ps (prv ds.length i)).2 (at_ ps i).1 (at_ ps i).2 (at_ ps j).1 (at_ ps j).2 = cr (at_ ps (prv ds.length i)) (at_ ps i) (at_ ps j) := rfl
      rw [ec]
      have sg := sgv_1 (v := cr (at_ ps (prv ds.length i)) (at_ ps i) (at_ ps j))
      by_cases n1 : at_ ps j = at_ ps (prv ds.length i)
      · simp only [n1, decide_true, Bool.not_true, Bool.false_eq_true, if_false, Bool.true_or, if_true]
        rfl
      · by_cases n2 : at_ ps j = at_ ps i
        · simp only [n1, n2, decide_true, decide_false, Bool.not_true, Bool.not_false, Bool.false_eq_true, if_false, Bool.true_or, Bool.or_true, if_true]
          simp
          rfl
        · by_cases n3 : 0 < cr (at_ ps (prv ds.length i)) (at_ ps i) (at_ ps j)
          · simp [n1, n2, n3, sg.mpr n3, neD_i, asB_b]
            rfl
          · have : ¬ sgv (cr (at_ ps (prv ds.length i)) (at_ ps i) (at_ ps j)) = 1 := fun e => n3 (sg.mp e)
            simp [n1, n2, n3, this, neD_i, asB_b]
            rfl
end
end VLib

set_option exponentiation.threshold 20000
/-! VLGc: sides that are fractions; is_plate in plain terms. -/
namespace VLib
open PySem PySem.Spec VL VLG
theorem bd_self (n : Int) : Bd n.natAbs n := Nat.lt_two_pow_self
theorem frB_self {p q : Int} (h : Fr p q) : FrB (p.natAbs + q.natAbs) p q := ⟨h, (bd_self p).mono (by omega), (bd_self q).mono (by omega)⟩
theorem isSq_iff {p q l m : Int} (f : Fr p q) (r1 : IsRt p l) (r2 : IsRt q m) : (l * l = p ∧ m * m = q) ↔ IsSq ((p : Rat) / (q : Rat)) := by
  have q0 : q ≠ 0 := by have := f.1; omega
  constructor
  · rintro ⟨h1, h2⟩
    have m0 : m ≠ 0 := fun e => by rw [e] at h2; omega
    refine ⟨(l : Rat) / (m : Rat), ?_⟩
    have := q_ne m0
    rw [← h1, ← h2, Rat.intCast_mul, Rat.intCast_mul]
    grind
  · rintro ⟨r, e⟩
    have fr : Fr r.num (r.den : Int) := ⟨by have := r.den_pos; omega, by
      have := r.reduced
      show Nat.gcd r.num.natAbs (r.den : Int).natAbs = 1
      rw [Int.natAbs_natCast]
      exact this⟩
    have rv : r = (r.num : Rat) / ((r.den : Int) : Rat) := (Rat.num_divInt_den r).symm.trans (Rat.divInt_eq_div ..)
    have d0 : (r.den : Int) ≠ 0 := by have := r.den_pos; omega
    have e2 : ((r.num * r.num : Int) : Rat) / (((r.den : Int) * (r.den : Int) : Int) : Rat) = (p : Rat) / (q : Rat) := by
      rw [← e]
      have := q_ne d0
      rw [Rat.intCast_mul, Rat.intCast_mul]
      conv => rhs; rw [rv]
      grind
    have e3 := cross_of (Int.mul_ne_zero d0 d0) q0 e2
    have e4 := fr_eq (frB_self fr.sq) (frB_self f) e3
    unfold frD at e4
    injection e4 with e4
    injection e4 with e5 e4
    injection e5 with e5
    injection e4 with e6 _
    injection e6 with e6
    have s1 := IsRt.sq (s := (r.num.natAbs : Int)) (by omega)
    rw [show (r.num.natAbs : Int) * (r.num.natAbs : Int) = r.num * r.num by rw [← Int.natCast_mul, Int.natAbs_mul_self], e5] at s1
    have s2 := IsRt.sq (s := (r.den : Int)) (by omega)
    rw [e6] at s2
    rw [r1.eq s1, r2.eq s2]
    exact ⟨by rw [← Int.natCast_mul, Int.natAbs_mul_self]; exact e5, e6⟩
theorem root_sqf {k : Nat} {x : D} {w : Rat} (h : Fv k x w) (h0 : 0 ≤ w) (z : k ≤ 4000 := by decide) : ∃ r, root_of_m [x] = pure r ∧ isntD r .non = pure (.bl (tb (IsSq w))) ∧ isD r .non = pure (.bl (!tb (IsSq w))) := by
  obtain ⟨p', q', e', _, tn, _⟩ := Fv.top h
  obtain ⟨p, q, rfl, f, e⟩ := h
  have ep : p = p' := by
    unfold frD at e'
    injection e' with e'
    injection e' with e1 _
    injection e1 with e1
  subst ep
  have hp : 0 ≤ p := by
    rcases Int.lt_or_le p 0 with c | c
    · have := tn.mp c
      grind
    · exact c
  obtain ⟨l, m, r1, r2, e3⟩ := root_of_eq hp (f.t.mono z) (f.b.mono z) (Int.le_of_lt f.pos)
  have iff := isSq_iff f.fr r1 r2
  rw [e] at iff
  refine ⟨_, e3, ?_⟩
  unfold rootF
  by_cases c : l * l = p ∧ m * m = q
  · rw [if_pos c, tb_iff.mpr (iff.mp c)]
    exact ⟨rfl, rfl⟩
  · have : tb (IsSq w) = false := by
      cases d : tb (IsSq w)
      · rfl
      · exact absurd (iff.mpr (tb_iff.mp d)) c
    rw [if_neg c, this]
    exact ⟨rfl, rfl⟩
theorem d2_nn (a b : P) : 0 ≤ d2 a b := by
  have h1 := sq_nn (b.1 - a.1)
  have h2 := sq_nn (b.2 - a.2)
  unfold d2
  grind
theorem side_len {k : Nat} {a b : D} {p r : P} (h : Pt k a p) (g : Pt k b r) (z : k ≤ 400 := by decide) : ∃ e x, step_of_m [a, b] = pure e ∧ size_of_m [e] = pure x ∧ isntD x .non = pure (.bl (tb (IsSq (d2 p r)))) ∧ isD x .non = pure (.bl (!tb (IsSq (d2 p r)))) := by
  obtain ⟨e, e1, f1⟩ := Pv.step h g (by omega) (by omega)
  obtain ⟨i, e2, f2⟩ := Pv.inner f1 f1 (by omega) (by omega)
  obtain ⟨x, e3, e4, e5⟩ := root_sqf (k := 3300) (f2.mono (by omega)) (d2_nn p r)
  exact ⟨e, x, e1, by rw [size_of_eq e2, e3], e4, e5⟩
/-! ### is_plate -/
theorem lc_bl {b : D → M (Option D)} {t : D → Bool} {ds : List D} (hl : ds.length ≤ lim) (h : ∀ d ∈ ds, b d = pure (some (.bl (t d)))) : lcL b ds = pure (ds.map fun d => .bl (t d)) := by
  unfold lcL
  rw [if_pos hl, lcM_map (f := fun d => .bl (t d)) h]
theorem all1_map {t : D → Bool} {ds : List D} : all1 (.lst (ds.map fun d => .bl (t d))) = pure (.bl (ds.all t)) := by
  show (match asBs (ds.map fun d => D.bl (t d)) with
    | some bs => pure (D.bl (bs.all id))
    | none => no) = _
  rw [asBs_map]
  show pure (D.bl ((ds.map t).all id)) = _
  rw [List.all_map]
  rfl
theorem nodup_at {k : Nat} {ds : List D} {ps : List P} (R : PsR k ds ps) : ds.Nodup ↔ ∀ i j, i < j → j < ds.length → at_ ps i ≠ at_ ps j := by
  have g : ∀ i (h : i < ds.length), ds.getD i .non = ds[i] := fun i h => by rw [List.getD_eq_getElem?_getD, List.getElem?_eq_getElem h]; rfl
  rw [List.Nodup, List.pairwise_iff_getElem]
  constructor
  · intro q i j hij hj e
    have h1 := R.at (show i < ds.length by omega)
    have h2 := R.at hj
    rw [e] at h1
    have := h1.ext h2
    rw [g i (by omega), g j hj] at this
    exact q i j (by omega) hj hij this
  · intro q i j hi hj hij e
    have h1 := R.at hi
    have h2 := R.at hj
    rw [g i hi, e, ← g j hj] at h1
    exact q i j hij hj (h1.fn h2)
section
variable {k : Nat} {ds : List D} {ps : List P} {x : D}
theorem Rw.isrow (h : Rw ds x) : is_row_m [x] = pure (.bl true) := by cases h <;> rfl
theorem plate_eq (h : Rw ds x) (R : PsR k ds ps) (hl : ds.length ≤ 1000) (z : k ≤ 400 := by decide) : is_plate_m [x] = pure (.bl (tb (Ow ps))) := by
  show bodyM (is_plate_b x) = _
  unfold is_plate_b c_LEAST_CORNERS c_MOST_CORNERS
  have ln := R.length
  by_cases c : 3 ≤ ds.length ∧ ds.length ≤ 8
  · obtain ⟨c1, c2⟩ := c
    have d1 : decide ((3 : Int) ≤ ds.length) = true := decide_eq_true (by omega)
    have d2' : decide ((ds.length : Int) ≤ 8) = true := decide_eq_true (by omega)
    have pts : ∀ d ∈ ds, ∃ p, Pt k d p := fun d hd => let ⟨p, _, q⟩ := R.mem d hd; ⟨p, q⟩
    have lim1 : ds.length ≤ lim := by unfold lim; omega
    -- all are points
    have a1 : ∀ b : D → M (Option D), (∀ d ∈ ds, b d = is_point_m [d] >>= fun y => pure (some y)) → lcL b ds = pure (ds.map fun _ => .bl true) := fun b hb => lc_bl lim1 fun d hd => by
      obtain ⟨p, q⟩ := pts d hd
      rw [hb d hd, Pv.is q (by omega)]
      rfl
    have a2 : all1 (.lst (ds.map fun _ => .bl true)) = pure (.bl true) := (all1_map (t := fun _ => true)).trans (congrArg (fun t => (pure (D.bl t) : M D)) (List.all_eq_true.mpr fun _ _ => rfl))
    -- no two alike
    have gk : ∀ d ∈ ds, goodK d = true := fun d hd => let ⟨p, q⟩ := pts d hd; q.good
    have kk := kL_pure (ds := ds) (by omega) gk
    have nd : decide (((nubK (ds.map keyD)).length : Int) < ds.length) = !tb ds.Nodup := by
      have n1 := nubK_le (ds.map keyD)
      have n2 := nubK_all (ds.map keyD)
      rw [List.length_map] at n1 n2
      have n3 := nodup_keyD gk
      rw [Bool.eq_iff_iff, decide_eq_true_eq, Bool.not_eq_true', ← Bool.not_eq_true, tb_iff, ← n3, ← n2]
      omega
    -- turns
    obtain ⟨b, e1, iff⟩ := convex_eq h R (by omega) hl (by omega)
    -- sides
    have a3 : ∀ bb : D → M (Option D), (∀ u v e y w : D, step_of_m [u, v] = pure e → size_of_m [e] = pure y → isntD y .non = pure w → bb (.tup [u, v]) = pure (some w)) → lcL bb (SD ds) = pure ((SD ds).map fun d => .bl (tb (∀ i, i < ds.length → d = .tup [ds.getD (prv ds.length i) .non, ds.getD i .non] → IsSq (d2 (at_ ps (prv ds.length i)) (at_ ps i))))) := fun bb hb => lc_bl (by rw [SD_len (by omega)]; exact lim1) fun d hd => by
      obtain ⟨i, hi, rfl⟩ := (mem_SD (by omega)).mp hd
      obtain ⟨e, y, q1, q2, q3, _⟩ := side_len (R.at (prv_lt hi)) (R.at hi) z
      rw [hb _ _ _ _ _ q1 q2 q3]
      refine congrArg (fun t => (pure (some (D.bl t)) : M (Option D))) ?_
      rw [Bool.eq_iff_iff, tb_iff, tb_iff]
      constructor
      · intro q j hj e
        injection e with e
        injection e with e3 e
        injection e with e4 _
        rw [(R.at (prv_lt hj)).fn (e3 ▸ R.at (prv_lt hi)), (R.at hj).fn (e4 ▸ R.at hi)]
        exact q
      · exact fun q => q i hi rfl
    simp only [vlR, h.isrow, h.len, d1, d2', h.row, Bool.not_true, Bool.false_eq_true, if_false, if_true, sides_eq h (by omega) hl, show rowD (.lst (SD ds)) = pure (SD ds) from rfl]
    rw [a1 _ fun d hd => by unfold lcT; simp only [vlR, if_true]; obtain ⟨p, q⟩ := pts d hd; rw [Pv.is q (by omega)]; rfl]
    simp only [vlR, a2, Bool.not_true, Bool.false_eq_true, if_false]
    rw [kk]
    simp only [vlR, nd, e1]
    rw [a3 _ fun u v e y w h1 h2 h3 => by
      unfold lcT
      simp only [un2_t, vlR, if_true, h1, h2, h3, noX_pure]]
    simp only [vlR, all1_map]
    by_cases c3 : ds.Nodup
    · rw [tb_iff.mpr c3]
      have c3' := (nodup_at R).mp c3
      cases b with
      | true =>
        simp only [Bool.not_true, Bool.false_eq_true, if_false, vlR]
        refine congrArg (fun t => (pure (D.bl t) : M D)) ?_
        rw [Bool.eq_iff_iff, List.all_eq_true, tb_iff]
        have cv := iff.mp rfl
        constructor
        · intro q
          refine ⟨by omega, by omega, fun i hi => ?_, fun i hi j hj n1 n2 => ?_⟩
          · rw [← ln] at hi ⊢
            exact tb_iff.mp (q _ ((mem_SD (by omega)).mpr ⟨i, hi, rfl⟩)) i hi rfl
          · rw [← ln] at hi hj n2 ⊢
            have ne : ∀ u v, u < ds.length → v < ds.length → u ≠ v → at_ ps u ≠ at_ ps v := fun u v hu hv huv => by
              rcases Nat.lt_or_gt_of_ne huv with g | g
              · exact c3' u v g hv
              · exact (c3' v u g hu).symm
            exact cv i hi j hj (ne j _ hj (prv_lt hi) n2) (ne j i hj hi n1)
        · intro q d hd
          refine tb_iff.mpr fun i hi _ => ?_
          have := q.sq i (by omega)
          rw [← ln] at this
          exact this
      | false =>
        simp only [Bool.not_true, Bool.not_false, Bool.false_eq_true, if_false, if_true, vlR]
        have : tb (Ow ps) = false := by
          cases d : tb (Ow ps)
          · rfl
          · have q := tb_iff.mp d
            have : false = true := iff.mpr fun i hi j hj n1 n2 => by
              have := q.cv i (by omega) j (by omega) (fun e => n2 (by rw [e])) (fun e => n1 (by rw [e, ← ln]))
              rw [← ln] at this
              exact this
            exact absurd this (by decide)
        rw [this]
    · have f1 : tb ds.Nodup = false := by
        cases d : tb ds.Nodup
        · rfl
        · exact absurd (tb_iff.mp d) c3
      have : tb (Ow ps) = false := by
        cases d : tb (Ow ps)
        · rfl
        · exact absurd ((nodup_at R).mpr fun i j hij hj => (tb_iff.mp d).inj i j hij (by omega)) c3
      rw [f1, this]
      simp only [Bool.not_false, if_true, vlR]
  · have f : (decide ((3 : Int) ≤ ds.length) = true → decide ((ds.length : Int) ≤ 8) = false) := fun h => by
      rw [decide_eq_true_eq] at h
      rw [decide_eq_false_iff_not]
      omega
    have : tb (Ow ps) = false := by
      cases d : tb (Ow ps)
      · rfl
      · have q := tb_iff.mp d
        exact absurd ⟨by have := q.lo; omega, by have := q.hi; omega⟩ c
    rw [this]
    simp only [vlR, h.isrow, h.len, Bool.not_true, Bool.false_eq_true, if_false]
    cases d1 : decide ((3 : Int) ≤ ds.length)
    · simp only [Bool.not_false, Bool.false_eq_true, if_false, if_true, vlR]
    · simp only [f d1, if_true, Bool.not_false, vlR]
end
end VLib

set_option exponentiation.threshold 20000
/-! VLTb: what the readers and writers of texts make. -/
namespace VLib2
open PySem PySem.Spec VL VLib VLT PySem.NumText TL SX
abbrev asc (a : List Nat) : Prop := ∀ c ∈ a, c < 128
theorem asc_nil : asc [] := fun _ h => by cases h
theorem asc.app {a b : List Nat} (h : asc a) (g : asc b) : asc (a ++ b) := fun c hc => (List.mem_append.mp hc).elim (h c) (g c)
theorem S_ok {a : List Nat} (h : asc a) : PyData.strOk (S a) = true := by
  show (S a).cps.all (· < 0x110000) = true
  rw [← Array.all_toList, List.all_eq_true]
  intro c hc
  have : c < 128 := h c hc
  exact decide_eq_true (by omega)
theorem S_eq {a b : List Nat} : (S a = S b) = (a = b) := propext ⟨S_inj, fun h => by rw [h]⟩
theorem eqS {a b : List Nat} (h : asc a) (g : asc b) : eqD (.str (S a)) (.str (S b)) = pure (.bl (decide (a = b))) := by
  rw [eqD_s (S_ok h) (S_ok g)]
  simp only [S_eq]
theorem neS {a b : List Nat} (h : asc a) (g : asc b) : neD (.str (S a)) (.str (S b)) = pure (.bl (!decide (a = b))) := by
  rw [neD_s (S_ok h) (S_ok g)]
  simp only [S_eq]
theorem l_ : Str.ofString "" = S [] := rfl
theorem l_0 : Str.ofString "0" = S [48] := rfl
theorem l_m : Str.ofString "-" = S [45] := rfl
theorem l_m0 : Str.ofString "-0" = S [45, 48] := rfl
theorem l_s : Str.ofString "/" = S [47] := rfl
theorem l_1 : Str.ofString "1" = S [49] := rfl
theorem l_dig : Str.ofString "0123456789" = S [48, 49, 50, 51, 52, 53, 54, 55, 56, 57] := rfl
theorem asc_lit {a : List Nat} (h : a.all (fun c => decide (c < 128)) = true) : asc a := fun c hc => of_decide_eq_true (List.all_eq_true.mp h c hc)
theorem addS {a b : List Nat} (h : a.length + b.length ≤ lim) : addD (.str (S a)) (.str (S b)) = pure (.str (S (a ++ b))) := by
  show (if (S a).length + (S b).length ≤ lim then pure (D.str (S a ++ S b)) else no) = _
  rw [S_len, S_len, if_pos h, S_cat]
theorem len1S {a : List Nat} (h : a.length ≤ lim) : len1 (.str (S a)) = pure (.int a.length) := by
  show (if (S a).length ≤ lim then pure (D.int ((S a).length : Nat)) else no) = _
  rw [S_len, if_pos h]
theorem item0S {c : Nat} {a : List Nat} (h : (c :: a).length ≤ lim) : itemD (.str (S (c :: a))) (.int 0) = pure (.str (S [c])) := by
  show (if (S (c :: a)).length ≤ lim then ofO ((L2.atI (S (c :: a)).cps.toList 0).map fun c => D.str ⟨#[c]⟩) else no) = _
  have e : L2.atI (c :: a) 0 = some c := atI_at (j := 0) rfl rfl
  rw [S_len, if_pos h, show (S (c :: a)).cps.toList = c :: a from rfl, e]
  rfl
theorem cutS_S {a : List Nat} {l h : Option Int} : L2.cutS (S a) l h = S (cutA a l h) := by
  unfold L2.cutS cutA
  rw [S_len]
theorem sliceS {a : List Nat} {l h : Option Int} (q : a.length ≤ lim) : sliceD (.str (S a)) l h = pure (.str (S (cutA a l h))) := by
  show (if (S a).length ≤ lim then pure (D.str (L2.cutS (S a) l h)) else no) = _
  rw [S_len, if_pos q, cutS_S]
theorem cut_hd {a : List Nat} : cutA a none (some 1) = a.take 1 := by
  unfold cutA
  rw [show (some (1 : Int)) = some ((1 : Nat) : Int) from rfl, HT.sIx_nat, HT.sIx_none, List.drop_zero, Nat.sub_zero]
  cases a with
  | nil => rfl
  | cons c a => simp
theorem cut_tl {a : List Nat} : cutA a (some 1) none = a.drop 1 := by
  unfold cutA
  rw [show (some (1 : Int)) = some ((1 : Nat) : Int) from rfl, HT.sIx_nat, HT.sIx_none]
  cases a with
  | nil => rfl
  | cons c a => simp
theorem signL_S (a : List Nat) : signL (S a) = a.map fun c => D.str (S [c]) := rfl
theorem any1_map {t : D → Bool} {ds : List D} : any1 (.lst (ds.map fun d => .bl (t d))) = pure (.bl (ds.any t)) := by
  show (match VL.asBs (ds.map fun d => D.bl (t d)) with
    | some bs => pure (D.bl (bs.any id))
    | none => no) = _
  rw [VLib.asBs_map]
  show pure (D.bl ((ds.map t).any id)) = _
  rw [List.any_map]
  rfl
theorem dig_mem {c : Nat} : (c ∈ [48, 49, 50, 51, 52, 53, 54, 55, 56, 57]) = (48 ≤ c ∧ c ≤ 57) := by
  apply propext
  simp only [List.mem_cons, List.not_mem_nil, or_false]
  omega
/-- is a sign none of the digits? -/
theorem no_digit {a : List Nat} (h : a.length ≤ lim) : (lcL (lcT (β := D) (fun d => pure d) (fun _ => pure true) fun sign_ => ninsD sign_ (.str (S [48, 49, 50, 51, 52, 53, 54, 55, 56, 57]))) (signL (S a)) >>= fun ds => any1 (.lst ds)) = pure (.bl (!dgs a)) ∧ ∃ ds, lcL (lcT (β := D) (fun d => pure d) (fun _ => pure true) fun sign_ => ninsD sign_ (.str (S [48, 49, 50, 51, 52, 53, 54, 55, 56, 57]))) (signL (S a)) = pure ds := by
  let t : D → Bool := fun d => match d with | .str s => (match s.cps.toList with | [c] => true != decide (c ∈ [48, 49, 50, 51, 52, 53, 54, 55, 56, 57]) | _ => false) | _ => false
  rw [lc_bl (t := t) (by rw [signL_S, List.length_map]; exact h) fun d hd => ?_]
  · refine ⟨?_, _, rfl⟩
    rw [pure_bind, any1_map, signL_S, List.any_map]
    congr 2
    clear h
    induction a with
    | nil => rfl
    | cons c a ih =>
      rw [List.any_cons, ih]
      unfold dgs
      rw [List.all_cons, Bool.not_and]
      congr 1
      show (true != decide (c ∈ [48, 49, 50, 51, 52, 53, 54, 55, 56, 57])) = _
      have : decide (c ∈ [48, 49, 50, 51, 52, 53, 54, 55, 56, 57]) = (decide (48 ≤ c) && decide (c ≤ 57)) := by rw [Bool.eq_iff_iff, decide_eq_true_eq, dig_mem]; simp
      rw [this]
      simp
  · rw [signL_S] at hd
    obtain ⟨c, _, rfl⟩ := List.mem_map.mp hd
    unfold lcT
    simp only [vlR, if_true]
    have e : ninsD (D.str (S [c])) (D.str (S [48, 49, 50, 51, 52, 53, 54, 55, 56, 57])) = pure (.bl (true != decide (c ∈ [48, 49, 50, 51, 52, 53, 54, 55, 56, 57]))) := rfl
    rw [e, pure_bind, noX_pure]
theorem whole_eq {a : List Nat} (h : asc a) (hl : a.length ≤ 1000) : is_whole_text_m [.str (S a)] = pure (.bl (wholeT a)) := by
  have hl' : a.length ≤ lim := Nat.le_trans hl (by decide)
  show bodyM (is_whole_text_b (.str (S a))) = _
  unfold is_whole_text_b c_DIGITS
  obtain ⟨nd, ds, e1⟩ := no_digit hl'
  rw [e1, pure_bind] at nd
  rw [l_dig]
  simp only [vlR, l_, l_0, eqS h asc_nil, signD, eqS h (asc_lit (a := [48]) rfl), e1, nd]
  cases a with
  | nil => rfl
  | cons c a =>
    have c128 : asc [c] := fun x hx => h x (by rw [List.mem_singleton.mp hx]; exact List.mem_cons_self ..)
    rw [decide_eq_false (by simp)]
    simp only [vlR, Bool.false_eq_true, if_false, item0S hl', neS c128 (asc_lit (a := [48]) rfl)]
    cases hd : dgs (c :: a) with
    | false =>
      simp only [vlR, Bool.not_false, if_true]
      unfold wholeT
      rw [hd, Bool.and_false, Bool.false_and]
    | true =>
      simp only [vlR, Bool.not_true, Bool.false_eq_true, if_false]
      unfold wholeT
      rw [hd]
      by_cases e : c :: a = [48]
      · rw [decide_eq_true e]
        injection e with e1 e2
        subst e1 e2
        rfl
      · rw [decide_eq_false e]
        simp only [vlR, Bool.false_eq_true, if_false]
        congr 2
        rw [Bool.eq_iff_iff]
        simp only [Bool.not_eq_true', decide_eq_false_iff_not, List.isEmpty_cons, Bool.not_false, Bool.true_and, Bool.or_eq_true, beq_iff_eq, bne_iff_ne, List.head?_cons, ne_eq, Option.some.injEq, List.cons.injEq, and_true, List.length_cons, Nat.add_eq_right, List.length_eq_zero_iff]
        constructor
        · exact fun z => .inr z
        · rintro (z | z)
          · intro w
            exact e (by rw [w, z])
          · exact z
theorem signed_eq {a : List Nat} (h : asc a) (hl : a.length ≤ 1000) : is_signed_text_m [.str (S a)] = pure (.bl (signT a)) := by
  have hl' : a.length ≤ lim := Nat.le_trans hl (by decide)
  show bodyM (is_signed_text_b (.str (S a))) = _
  unfold is_signed_text_b
  have ht : asc (a.take 1) := fun c hc => h c (List.mem_of_mem_take hc)
  have hd : asc (a.drop 1) := fun c hc => h c (List.mem_of_mem_drop hc)
  simp only [vlR, asI, sliceS hl', cut_hd, cut_tl, l_m, l_m0, eqS ht (asc_lit (a := [45]) rfl), whole_eq hd (by rw [List.length_drop]; omega), whole_eq h hl]
  by_cases c : a.take 1 = [45]
  · rw [decide_eq_true c]
    simp only [vlR, if_true, neS h (asc_lit (a := [45, 48]) rfl)]
    cases a with
    | nil => cases c
    | cons x a =>
      injection c with c _
      subst c
      have e1 : wholeT (List.drop 1 (45 :: a)) = wholeT a := rfl
      rw [e1]
      show _ = pure (D.bl (wholeT a && a != [48]))
      cases wholeT a with
      | false => rfl
      | true =>
        simp only [if_true, Bool.true_and]
        congr 2
        rw [Bool.eq_iff_iff]
        simp only [Bool.not_eq_true', decide_eq_false_iff_not, bne_iff_ne, ne_eq, List.cons.injEq, true_and]
  · rw [decide_eq_false c]
    simp only [vlR, Bool.false_eq_true, if_false]
    rw [(signT_no (a := a) fun z => c (by cases a with | nil => cases z | cons x a => simp at z; rw [z]; rfl)).1]
theorem intX_S {a : List Nat} (h : signT a = true) (hl : a.length ≤ 640) : intX (.str (S a)) = pure (.int (sval a)) := by
  have e : PySem.intText? (S a) = some (sval a) := by
    cases a with
    | nil => cases h
    | cons c r =>
      by_cases hc : c = 45
      · subst hc
        have h : (wholeT r && r != [48]) = true := h
        rw [Bool.and_eq_true] at h
        obtain ⟨h1, h2, _⟩ := whole_iff.mp h.1
        exact PySem.intText_neg (x := S (45 :: r)) rfl h2 h1 (by rw [S_len]; omega)
      · have hh : (c :: r).head? ≠ some 45 := by simpa using hc
        obtain ⟨e1, e2⟩ := signT_no hh
        rw [e1] at h
        obtain ⟨h1, h2, _⟩ := whole_iff.mp h
        rw [e2]
        exact PySem.intText_digits (x := S (c :: r)) h2 h1 (by rw [S_len]; omega)
  show (match PySem.intText? (S a) with
    | some n => if (S a).length ≤ 640 then pure (D.int n) else no
    | none => no) = _
  rw [e]
  show (if (S a).length ≤ 640 then pure (D.int (sval a)) else no) = _
  rw [S_len, if_pos hl]
theorem intX_W {a : List Nat} (h : wholeT a = true) (hl : a.length ≤ 640) : intX (.str (S a)) = pure (.int ((digitsVal a : Nat) : Int)) := by
  obtain ⟨h1, h2, _⟩ := whole_iff.mp h
  have hh : a.head? ≠ some 45 := by
    cases a with
    | nil => simp
    | cons c r =>
      have := h2 c (List.mem_cons_self ..)
      intro e
      injection e with e
      omega
  obtain ⟨e1, e2⟩ := signT_no hh
  rw [← e2]
  exact intX_S (by rw [e1]; exact h) hl
/-! ### parts -/
theorem split_s {a : List Nat} (h : a.length ≤ lim) : splitS (S a) [.str (S [47])] = pure (.lst ((spl [47] 0 [] a).map fun p => D.str (S p))) := by
  show (if ((S [47]).length == 0) = false ∧ (S a).length ≤ lim then pure (D.lst ((Txt.split (S a) (S [47])).map D.str)) else no) = _
  rw [if_pos ⟨rfl, by rw [S_len]; exact h⟩, split_S (by simp) (by decide), List.map_map]
  rfl
theorem spl_mem : ∀ (n : Nat) (l : List Nat), l.length ≤ n → ∀ p ∈ spl [47] 0 [] l, (∀ c ∈ p, c ∈ l) ∧ p.length ≤ l.length
  | _, [], _, p, hp => by
    have : p = [] := by simpa [spl_nil] using hp
    subst this
    exact ⟨fun _ h => (by cases h), Nat.le_refl _⟩
  | 0, c :: l, h, _, _ => by simp at h
  | n + 1, c :: l, h, p, hp => by
    have hl : l.length ≤ n := by simpa using h
    have ih := spl_mem n l hl
    by_cases hc : c = 47
    · subst hc
      rw [spl_hit (by rfl)] at hp
      rcases List.mem_cons.mp hp with rfl | hp
      · exact ⟨fun _ h => (by cases h), Nat.zero_le _⟩
      · obtain ⟨q1, q2⟩ := ih p hp
        exact ⟨fun x hx => List.mem_cons_of_mem _ (q1 x hx), Nat.le_succ_of_le q2⟩
    · obtain ⟨p0, r, e, _⟩ := spl_acc l []
      rw [spl_cons hc e] at hp
      rw [e] at ih
      rcases List.mem_cons.mp hp with rfl | hp
      · obtain ⟨q1, q2⟩ := ih p0 (List.mem_cons_self ..)
        refine ⟨fun x hx => ?_, by simp only [List.length_cons]; omega⟩
        rcases List.mem_cons.mp hx with rfl | hx
        · exact List.mem_cons_self ..
        · exact List.mem_cons_of_mem _ (q1 x hx)
      · obtain ⟨q1, q2⟩ := ih p (List.mem_cons_of_mem _ hp)
        exact ⟨fun x hx => List.mem_cons_of_mem _ (q1 x hx), Nat.le_succ_of_le q2⟩
theorem spl_len : ∀ (n : Nat) (l : List Nat), l.length ≤ n → (spl [47] 0 [] l).length ≤ l.length + 1
  | _, [], _ => Nat.le_refl _
  | 0, c :: l, h => by simp at h
  | n + 1, c :: l, h => by
    have hl : l.length ≤ n := by simpa using h
    have ih := spl_len n l hl
    by_cases hc : c = 47
    · subst hc
      rw [spl_hit (by rfl)]
      show (spl [47] 0 [] l).length + 1 ≤ _
      simp only [List.length_cons]
      omega
    · obtain ⟨p, r, e, _⟩ := spl_acc l []
      rw [spl_cons hc e]
      rw [e] at ih
      simp only [List.length_cons] at ih ⊢
      omega
/-- the fraction, None -/
def frO : Option (Int × Int) → D
  | some (p, q) => frD p q
  | none => .non
theorem lenL {ds : List D} : len1 (.lst ds) = pure (.int ds.length) := rfl
theorem itL0 {d : D} {ds : List D} : itemD (.lst (d :: ds)) (.int 0) = pure d := by
  show ofO (L2.atI (d :: ds) 0) = _
  rw [show L2.atI (d :: ds) 0 = some d from atI_at (j := 0) rfl rfl]
  rfl
theorem itL1 {d e : D} {ds : List D} : itemD (.lst (d :: e :: ds)) (.int 1) = pure e := by
  show ofO (L2.atI (d :: e :: ds) 1) = _
  rw [show L2.atI (d :: e :: ds) 1 = some e from atI_at (j := 1) rfl rfl]
  rfl
theorem dv_lt' : ∀ (l : List Nat) (acc : Nat), AllDigits l → l.foldl (fun acc c => acc * 10 + (c - 48)) acc < (acc + 1) * 10 ^ l.length
  | [], acc, _ => by simp
  | c :: l, acc, h => by
    have hc := h c (List.mem_cons_self ..)
    have ih := dv_lt' l (acc * 10 + (c - 48)) fun x hx => h x (List.mem_cons_of_mem _ hx)
    rw [List.foldl_cons, List.length_cons, Nat.pow_succ]
    refine Nat.lt_of_lt_of_le ih ?_
    rw [Nat.mul_comm (10 ^ l.length) 10, ← Nat.mul_assoc]
    exact Nat.mul_le_mul_right _ (by omega)
theorem dv_lt {a : List Nat} (h : AllDigits a) : digitsVal a < 10 ^ a.length := by
  have := dv_lt' a 0 h
  unfold digitsVal
  omega
theorem word_frac_eq {a : List Nat} (h : asc a) (hl : a.length ≤ 600) : word_frac_m [.str (S a)] = pure (frO (tell a)) := by
  have hl' : a.length ≤ lim := Nat.le_trans hl (by decide)
  show bodyM (word_frac_b (.str (S a))) = _
  unfold word_frac_b
  have mm := spl_mem _ a (Nat.le_refl _)
  unfold tell
  simp only [vlR, strD, l_s, split_s hl', lenL, List.length_map]
  obtain ⟨p, r, e, _⟩ := spl_acc a []
  rw [e] at mm ⊢
  clear e
  obtain ⟨p1, p2⟩ := mm p (List.mem_cons_self ..)
  have pa : asc p := fun c hc => h c (p1 c hc)
  match r, mm with
  | [], mm =>
    have d1 : decide ((2 : Int) < (([p].length : Nat) : Int)) = false := rfl
    have d2 : decide ((([p].length : Nat) : Int) = 1) = true := rfl
    rw [d1, d2]
    simp only [vlR, List.map_cons, List.map_nil, itL0, signed_eq pa (by omega), Bool.false_eq_true, if_false, if_true]
    show _ = pure (frO (if signT p = true then some (sval p, (1 : Int)) else none))
    cases c : signT p with
    | false =>
      simp only [vlR, Bool.not_false, if_true, Bool.false_eq_true, if_false]
      rfl
    | true =>
      simp only [vlR, Bool.not_true, if_true, Bool.false_eq_true, if_false, intX_S c (by omega)]
      rfl
  | [q], mm =>
    obtain ⟨q1, q2⟩ := mm q (by simp)
    have qa : asc q := fun c hc => h c (q1 c hc)
    have d1 : decide ((2 : Int) < (([p, q].length : Nat) : Int)) = false := rfl
    have d2 : decide ((([p, q].length : Nat) : Int) = 1) = false := rfl
    rw [d1, d2]
    simp only [vlR, List.map_cons, List.map_nil, itL0, itL1, signed_eq pa (by omega), whole_eq qa (by omega), Bool.false_eq_true, if_false, if_true]
    show _ = pure (frO (if signT p = true ∧ wholeT q = true ∧ 2 ≤ digitsVal q ∧ Int.gcd (sval p) (digitsVal q) = 1 then some (sval p, ((digitsVal q : Nat) : Int)) else none))
    cases c : signT p with
    | false =>
      simp only [vlR, Bool.not_false, if_true, Bool.false_eq_true, if_false, false_and]
      rfl
    | true =>
      simp only [vlR, Bool.not_true, if_true, Bool.false_eq_true, if_false, true_and]
      cases c2 : wholeT q with
      | false =>
        simp only [vlR, Bool.not_false, if_true, Bool.false_eq_true, if_false, false_and]
        rfl
      | true =>
        have qsm : Sm ((digitsVal q : Nat) : Int) := by
          have b := dv_lt (whole_iff.mp c2).2.1
          have b2 : 10 ^ q.length ≤ 10 ^ 600 := Nat.pow_le_pow_right (by decide) (by omega)
          have b3 : 10 ^ 600 < 2 ^ 9000 := by decide +kernel
          show ((digitsVal q : Nat) : Int).natAbs < 2 ^ 9000
          rw [Int.natAbs_natCast]
          exact Nat.lt_trans (Nat.lt_of_lt_of_le b b2) b3
        simp only [vlR, Bool.not_true, if_true, Bool.false_eq_true, if_false, true_and, intX_W c2 (by omega), intX_S c (by omega), ltD_i, it0, it1, common_part_eq qsm]
        by_cases c3 : 2 ≤ digitsVal q
        · rw [decide_eq_false (show ¬ ((digitsVal q : Nat) : Int) < 2 by omega)]
          simp only [vlR, Bool.false_eq_true, if_false]
          by_cases c4 : Int.gcd (sval p) (digitsVal q) = 1
          · rw [decide_eq_true (show ((Int.gcd (sval p) (digitsVal q) : Nat) : Int) = 1 by omega), if_pos (show 2 ≤ digitsVal q ∧ Int.gcd (sval p) (digitsVal q) = 1 from ⟨c3, c4⟩)]
            simp only [vlR, if_true]
            rfl
          · rw [decide_eq_false (show ¬ ((Int.gcd (sval p) (digitsVal q) : Nat) : Int) = 1 by omega), if_neg (show ¬ (2 ≤ digitsVal q ∧ Int.gcd (sval p) (digitsVal q) = 1) from fun z => c4 z.2)]
            simp only [vlR, Bool.false_eq_true, if_false]
            rfl
        · rw [decide_eq_true (show ((digitsVal q : Nat) : Int) < 2 by omega), if_neg (show ¬ (2 ≤ digitsVal q ∧ Int.gcd (sval p) (digitsVal q) = 1) from fun z => c3 z.1)]
          simp only [vlR, if_true]
          rfl
  | q :: r :: ps, mm =>
    have d1 : decide ((2 : Int) < (((p :: q :: r :: ps).length : Nat) : Int)) = true := decide_eq_true (by simp only [List.length_cons]; omega)
    rw [d1]
    simp only [vlR, if_true]
    rfl
def numO (a : List Nat) : D := if wholeT a = true then .int ((digitsVal a : Nat) : Int) else .non
theorem integer_of_eq {a : List Nat} (h : asc a) (hl : a.length ≤ 600) : law_integer_of_m [.str (S a)] = pure (numO a) := by
  have hl' : a.length ≤ lim := Nat.le_trans hl (by decide)
  show bodyM (law_integer_of_b (.str (S a))) = _
  unfold law_integer_of_b
  obtain ⟨nd, ds, e1⟩ := no_digit hl'
  rw [e1, pure_bind] at nd
  rw [l_dig]
  simp only [vlR, l_, l_0, eqS h asc_nil, signD, e1, nd, len1S hl']
  cases a with
  | nil => rfl
  | cons c a =>
    have c128 : asc [c] := fun x hx => h x (by rw [List.mem_singleton.mp hx]; exact List.mem_cons_self ..)
    rw [decide_eq_false (show ¬ (c :: a = []) by simp)]
    simp only [vlR, Bool.false_eq_true, if_false, item0S hl', eqS c128 (asc_lit (a := [48]) rfl)]
    unfold numO
    by_cases w : wholeT (c :: a) = true
    · obtain ⟨w1, w2, w3⟩ := whole_iff.mp w
      rw [dgs_iff.mpr w2, if_pos w]
      simp only [vlR, Bool.not_true, Bool.false_eq_true, if_false, intX_W w (by omega)]
      by_cases e : (1 : Int) < (((c :: a).length : Nat) : Int)
      · rw [decide_eq_true e]
        have : c ≠ 48 := by
          rcases w3 with w3 | w3
          · omega
          · simpa using w3
        rw [decide_eq_false (show ¬ ([c] = [48]) by simpa using this)]
        rfl
      · rw [decide_eq_false e]
        rfl
    · rw [if_neg w]
      cases hd : dgs (c :: a) with
      | false => rfl
      | true =>
        have w2 := dgs_iff.mp hd
        have : c = 48 ∧ 1 < (c :: a).length := by
          refine Classical.byContradiction fun z => w (whole_iff.mpr ⟨by simp, w2, ?_⟩)
          by_cases e : c = 48
          · left
            have : ¬ 1 < (c :: a).length := fun y => z ⟨e, y⟩
            simp only [List.length_cons] at this ⊢
            omega
          · right
            simpa using e
        simp only [vlR, Bool.not_true, Bool.false_eq_true, if_false]
        rw [decide_eq_true (show (1 : Int) < (((c :: a).length : Nat) : Int) by omega), decide_eq_true (show [c] = [48] by rw [this.1])]
        rfl
theorem in1i {v : Int} : inD .non (.lst [.int v]) = pure (.bl false) := rfl
theorem in1n : inD .non (.lst [.non]) = pure (.bl true) := rfl
theorem in2i {v w : Int} : inD .non (.lst [.int v, .int w]) = pure (.bl false) := rfl
theorem in2n {d : D} (h : d = .non ∨ ∃ v, d = .int v) : inD .non (.lst [.non, d]) = pure (.bl true) := by
  rcases h with rfl | ⟨v, rfl⟩ <;> rfl
theorem in2m {v : Int} : inD .non (.lst [.int v, .non]) = pure (.bl true) := rfl
theorem low2_eq {t b : Int} (h0 : b ≠ 0) (h : Sm b) : law_low_m [.int t, .int b] = pure (redD t b) := by
  show bodyM (law_low_b (.int t) (.int b)) = _
  unfold law_low_b
  have hd : DivOk (rg t b) := (rg_sm h0 h).div (rg_ne h0)
  have e : rg t b = if b < 0 then -(Int.gcd t b : Int) else Int.gcd t b := rfl
  simp only [pure_bind, on1_c, abs1_i, seqF_pnx, un2_t]
  rw [gcd_loop (fun x y => by simp only [pure_bind, gtD_i, asB_b]) (fun x y hx hy => by
    simp only [pure_bind, on1_c, int1_i, modD_ok (show y ≠ 0 by omega), un2_t, seqF_pnx, fmod_pos hx hy]) _ _ _ (by split <;> omega) (by split <;> omega) (by unfold Sm at h; split <;> omega)]
  have g : (Int.gcd (if t < 0 then -t else t) (if b < 0 then -b else b) : Int) = Int.gcd t b := by
    congr 1
    split <;> split <;> simp
  rw [g]
  simp only [pure_bind, seqF_pnx, ltD_i, asB_b, negD_i, decide_eq_true_eq]
  by_cases hb : b < 0
  · rw [if_pos hb] at e
    simp only [if_pos hb, vlR, ← e, fdivD_ok hd]
    rfl
  · rw [if_neg hb] at e
    simp only [if_neg hb, vlR, ← e, fdivD_ok hd]
    rfl
theorem low2_same {m n : Nat} (h : 2 ≤ n) : (rt (m : Int) (n : Int) = m ∧ rb (m : Int) (n : Int) = n) ↔ Int.gcd (m : Int) (n : Int) = 1 := by
  constructor
  · rintro ⟨e1, e2⟩
    have := red_cop (t := (m : Int)) (b := (n : Int)) (by omega)
    rw [e1, e2] at this
    exact this
  · intro g
    exact red_id (by omega) g
theorem ownT1 {b : Bool} {p : List Nat} (h : wholeT p = true ∧ ¬ (b = true ∧ digitsVal p = 0)) : ownT b [p] = some (if b then 0 - ((digitsVal p : Nat) : Int) else ((digitsVal p : Nat) : Int), 1) := if_pos h
theorem ownT1n {b : Bool} {p : List Nat} (h : ¬ (wholeT p = true ∧ ¬ (b = true ∧ digitsVal p = 0))) : ownT b [p] = none := if_neg h
theorem ownT2 {b : Bool} {p q : List Nat} (h : (wholeT p = true ∧ wholeT q = true ∧ ¬ (b = true ∧ digitsVal p = 0)) ∧ 2 ≤ digitsVal q ∧ Int.gcd ((digitsVal p : Nat) : Int) (digitsVal q) = 1) : ownT b [p, q] = some (if b then 0 - ((digitsVal p : Nat) : Int) else ((digitsVal p : Nat) : Int), ((digitsVal q : Nat) : Int)) := if_pos h
theorem ownT2n {b : Bool} {p q : List Nat} (h : ¬ ((wholeT p = true ∧ wholeT q = true ∧ ¬ (b = true ∧ digitsVal p = 0)) ∧ 2 ≤ digitsVal q ∧ Int.gcd ((digitsVal p : Nat) : Int) (digitsVal q) = 1)) : ownT b [p, q] = none := if_neg h
theorem fraction_of_eq {a : List Nat} (h : asc a) (hl : a.length ≤ 600) : law_fraction_of_m [.str (S a)] = pure (frO (own a)) := by
  have hl' : a.length ≤ lim := Nat.le_trans hl (by decide)
  show bodyM (law_fraction_of_b (.str (S a))) = _
  unfold law_fraction_of_b
  have ht : asc (a.take 1) := fun c hc => h c (List.mem_of_mem_take hc)
  simp only [vlR, asI, sliceS hl', cut_hd, cut_tl, l_m, l_s, eqS ht (asc_lit (a := [45]) rfl)]
  have ho : own a = ownT (decide (a.take 1 = [45])) (spl [47] 0 [] (if decide (a.take 1 = [45]) = true then a.drop 1 else a)) := by
    unfold own
    have hh : a.head? = some 45 ↔ a.take 1 = [45] := by
      cases a with
      | nil => simp
      | cons c a => simp
    by_cases c : a.take 1 = [45]
    · rw [if_pos (hh.mpr c), decide_eq_true c, if_pos rfl]
    · rw [if_neg fun z => c (hh.mp z), decide_eq_false c, if_neg (by decide)]
  rw [ho]
  generalize decide (a.take 1 = [45]) = b
  have e1 : ((if b = true then pure (D.str (S (a.drop 1))) else pure (D.str (S a))) : M D) = pure (.str (S (if b = true then a.drop 1 else a))) := by cases b <;> rfl
  have ha : asc (if b = true then a.drop 1 else a) ∧ (if b = true then a.drop 1 else a).length ≤ 600 := by
    cases b
    · exact ⟨h, hl⟩
    · exact ⟨fun c hc => h c (List.mem_of_mem_drop hc), by show (a.drop 1).length ≤ 600; rw [List.length_drop]; omega⟩
  rw [e1]
  generalize (if b = true then a.drop 1 else a) = t at ha
  obtain ⟨ta, tl⟩ := ha
  have mm := spl_mem _ t (Nat.le_refl _)
  simp only [vlR, strD, split_s (Nat.le_trans tl (by decide)), rowD, lenL, List.length_map]
  have e2 : lcL (lcT (β := D) (fun d => pure d) (fun _ => pure true) fun d => law_integer_of_m [d]) ((spl [47] 0 [] t).map fun p => D.str (S p)) = pure ((spl [47] 0 [] t).map numO) := by
    unfold lcL
    rw [if_pos (by rw [List.length_map]; exact Nat.le_trans (spl_len _ t (Nat.le_refl _)) (Nat.le_trans (Nat.succ_le_succ tl) (by decide))), lcM_map (f := fun d => match d with | .str x => numO x.cps.toList | d => d)]
    · rw [List.map_map]
      rfl
    · intro d hd
      obtain ⟨p, hp, rfl⟩ := List.mem_map.mp hd
      obtain ⟨p1, p2⟩ := mm p hp
      unfold lcT
      simp only [vlR, if_true, integer_of_eq (fun c hc => ta c (p1 c hc)) (Nat.le_trans p2 tl), noX_pure]
  rw [e2]
  simp only [vlR]
  obtain ⟨p, r, e, _⟩ := spl_acc t []
  rw [e] at mm ⊢
  clear e e2
  match r, mm with
  | [], mm =>
    have d1 : decide ((2 : Int) < (([p].length : Nat) : Int)) = false := rfl
    have d2 : decide ((([p].length : Nat) : Int) = 1) = true := rfl
    rw [d1, d2]
    simp only [vlR, List.map_cons, List.map_nil, itL0, Bool.false_eq_true, if_false, if_true]
    unfold numO
    by_cases w : wholeT p = true
    · rw [if_pos w]
      have sn : snoc [D.int ((digitsVal p : Nat) : Int)] (D.int 1) = pure [D.int ((digitsVal p : Nat) : Int), D.int 1] := if_pos (by show 1 < 1000000; decide)
      simp only [vlR, in1i, Bool.false_eq_true, if_false, sn, itL0, itL1]
      cases b with
      | false =>
        rw [ownT1 ⟨w, fun z => absurd z.1 (by decide)⟩]
        simp only [vlR, Bool.false_eq_true, if_false]
        rfl
      | true =>
        simp only [vlR, if_true]
        by_cases z : digitsVal p = 0
        · rw [decide_eq_true (show ((digitsVal p : Nat) : Int) = 0 by omega), ownT1n fun y => y.2 ⟨rfl, z⟩]
          rfl
        · rw [decide_eq_false (show ¬ ((digitsVal p : Nat) : Int) = 0 by omega), ownT1 ⟨w, fun y => z y.2⟩]
          rfl
    · rw [if_neg w, ownT1n fun y => w y.1]
      simp only [vlR, in1n, if_true]
      rfl
  | [q], mm =>
    obtain ⟨q1, q2⟩ := mm q (by simp)
    have d1 : decide ((2 : Int) < (([p, q].length : Nat) : Int)) = false := rfl
    have d2 : decide ((([p, q].length : Nat) : Int) = 1) = false := rfl
    rw [d1, d2]
    simp only [vlR, List.map_cons, List.map_nil, itL0, itL1, Bool.false_eq_true, if_false, if_true]
    by_cases w : wholeT p = true ∧ wholeT q = true
    · have n1 : numO p = .int ((digitsVal p : Nat) : Int) := if_pos w.1
      have n2 : numO q = .int ((digitsVal q : Nat) : Int) := if_pos w.2
      have qsm : Sm ((digitsVal q : Nat) : Int) := by
        have b' := dv_lt (whole_iff.mp w.2).2.1
        have b2 : 10 ^ q.length ≤ 10 ^ 600 := Nat.pow_le_pow_right (by decide) (by omega)
        have b3 : 10 ^ 600 < 2 ^ 9000 := by decide +kernel
        show ((digitsVal q : Nat) : Int).natAbs < 2 ^ 9000
        rw [Int.natAbs_natCast]
        exact Nat.lt_trans (Nat.lt_of_lt_of_le b' b2) b3
      have tf : D.tup [D.int ((digitsVal p : Nat) : Int), D.int ((digitsVal q : Nat) : Int)] = frD (digitsVal p) (digitsVal q) := rfl
      rw [n1, n2]
      simp only [vlR, in2i, Bool.false_eq_true, if_false, itL0, itL1, tf]
      have fin : ∀ z : ¬ (b = true ∧ digitsVal p = 0), ∀ (k : List D → M (Fl Unit Unit)), k [D.int ((digitsVal p : Nat) : Int), D.int ((digitsVal q : Nat) : Int)] = pure (.rt (frD (if b = true then 0 - ((digitsVal p : Nat) : Int) else ((digitsVal p : Nat) : Int)) (digitsVal q))) → ((if decide (((digitsVal q : Nat) : Int) < 2) = true then pure true else law_low_m [D.int ((digitsVal p : Nat) : Int), D.int ((digitsVal q : Nat) : Int)] >>= fun x51 => neD x51 (frD (digitsVal p) (digitsVal q)) >>= asB) >>= fun d => bodyM (seqF (γ := Unit) (seqF (γ := Unit) (if d = true then pure (Fl.rt D.non) else pure (Fl.nx ())) fun (_ : Unit) => pure (Fl.nx [D.int ((digitsVal p : Nat) : Int), D.int ((digitsVal q : Nat) : Int)])) k)) = pure (frO (ownT b [p, q])) := fun z k hk => by
        by_cases c3 : 2 ≤ digitsVal q
        · rw [decide_eq_false (show ¬ ((digitsVal q : Nat) : Int) < 2 by omega)]
          simp only [vlR, Bool.false_eq_true, if_false, low2_eq (show ((digitsVal q : Nat) : Int) ≠ 0 by omega) qsm, redD_fr, neD_f]
          by_cases c4 : Int.gcd ((digitsVal p : Nat) : Int) (digitsVal q) = 1
          · rw [decide_eq_true ((low2_same c3).mpr c4), ownT2 ⟨⟨w.1, w.2, z⟩, c3, c4⟩]
            simp only [vlR, Bool.not_true, Bool.false_eq_true, if_false, hk]
            rfl
          · rw [decide_eq_false fun y => c4 ((low2_same c3).mp y), ownT2n fun y => c4 y.2.2]
            rfl
        · rw [decide_eq_true (show ((digitsVal q : Nat) : Int) < 2 by omega), ownT2n fun y => c3 y.2.1]
          rfl
      cases b with
      | false =>
        simp only [vlR, Bool.false_eq_true, if_false]
        refine fin (fun z => absurd z.1 (by decide)) _ ?_
        simp only [vlR, itL0, itL1, Bool.false_eq_true, if_false]
      | true =>
        simp only [vlR, if_true]
        by_cases z : digitsVal p = 0
        · rw [decide_eq_true (show ((digitsVal p : Nat) : Int) = 0 by omega), ownT2n fun y => y.1.2.2 ⟨rfl, z⟩]
          rfl
        · rw [decide_eq_false (show ¬ ((digitsVal p : Nat) : Int) = 0 by omega)]
          simp only [vlR, Bool.false_eq_true, if_false]
          refine fin (fun y => z y.2) _ ?_
          simp only [vlR, itL0, itL1, if_true]
    · rw [ownT2n fun y => w ⟨y.1.1, y.1.2.1⟩]
      have hn : inD D.non (D.lst [numO p, numO q]) = pure (.bl true) := by
        unfold numO
        by_cases wp : wholeT p = true
        · rw [if_pos wp, if_neg fun z => w ⟨wp, z⟩]
          exact in2m
        · rw [if_neg wp]
          refine in2n ?_
          by_cases wq : wholeT q = true
          · rw [if_pos wq]
            exact .inr ⟨_, rfl⟩
          · rw [if_neg wq]
            exact .inl rfl
      simp only [vlR, hn, if_true]
      rfl
  | q :: r :: ps, mm =>
    have d1 : decide ((2 : Int) < (((p :: q :: r :: ps).length : Nat) : Int)) = true := decide_eq_true (by simp only [List.length_cons]; omega)
    rw [d1]
    simp only [vlR, if_true]
    rfl
end VLib2

set_option exponentiation.threshold 20000
/-! VLTc: the texts shown (repr), told; drawn numbers. -/
namespace VLib2
open PySem PySem.Spec VL VLib VLT PySem.NumText TL SX PyProof.Rows
theorem rc39 : ∀ c, c < 128 → ∀ d ∈ PySem.Builtin.Str.reprChar 39 c, d < 0x110000 := by decide +kernel
theorem rc34 : ∀ c, c < 128 → ∀ d ∈ PySem.Builtin.Str.reprChar 34 c, d < 0x110000 := by decide +kernel
theorem fold_ok (q : Nat) (hq : ∀ c, c < 128 → ∀ d ∈ PySem.Builtin.Str.reprChar q c, d < 0x110000) : ∀ (l : List Nat) (acc : Array Nat), asc l → (∀ d ∈ acc.toList, d < 0x110000) → ∀ d ∈ (l.foldl (fun out c => out ++ (PySem.Builtin.Str.reprChar q c).toArray) acc).toList, d < 0x110000
  | [], acc, _, h => h
  | c :: l, acc, hl, h => by
    rw [List.foldl_cons]
    refine fold_ok q hq l _ (fun x hx => hl x (List.mem_cons_of_mem _ hx)) fun d hd => ?_
    rw [Array.toList_append, List.mem_append] at hd
    rcases hd with hd | hd
    · exact h d hd
    · exact hq c (hl c (List.mem_cons_self ..)) d (by simpa using hd)
theorem reprText_ok {a : List Nat} (h : asc a) : PyData.strOk (reprText (S a)) = true := by
  show (reprText (S a)).cps.all (· < 0x110000) = true
  rw [← Array.all_toList, List.all_eq_true]
  intro d hd
  have hq : reprQuote (S a) = 34 ∨ reprQuote (S a) = 39 := by unfold reprQuote; split <;> simp
  have : d < 0x110000 := by
    unfold reprText at hd
    rw [← Array.foldl_toList] at hd
    simp only [Array.toList_push, List.mem_append, List.mem_singleton] at hd
    rcases hq with q | q
    · rw [q] at hd
      rcases hd with hd | hd
      · exact fold_ok 34 rc34 a _ h (fun d hd => by simp at hd; omega) d hd
      · omega
    · rw [q] at hd
      rcases hd with hd | hd
      · exact fold_ok 39 rc39 a _ h (fun d hd => by simp at hd; omega) d hd
      · omega
  exact decide_eq_true this
theorem reprText_le {a : List Nat} (h : asc a) : (reprText (S a)).length ≤ 10 * a.length + 2 := by
  have := StrLaws.reprText_len (S a) fun c hc => Nat.lt_trans (h c hc) (by decide)
  rw [S_len] at this
  exact this
theorem repr_S {a : List Nat} (h : asc a) (hl : a.length ≤ 1000) : repr1 (.str (S a)) = pure (.str (reprText (S a))) := by
  unfold repr1
  rw [if_pos ⟨rfl, rfl, rfl, by simp [D.py, PyData.depth], by
    have := reprText_le h
    show (reprText (S a)).length ≤ 1000000
    omega⟩]
  rfl
theorem like_of {x : D} {s : Str} (h : repr1 x = pure (.str s)) (g : PyData.strOk s = true) : law_like_m [x, x] = pure (.bl true) := by
  show bodyM (law_like_b x x) = _
  unfold law_like_b
  simp only [vlR, h, eqD_s g g, decide_true]
theorem like_i {i : Int} (h : Bd 1900 i) : law_like_m [.int i, .int i] = pure (.bl true) := like_of (repr_i h) (ok_shI i)
theorem like_S {a : List Nat} (h : asc a) (hl : a.length ≤ 1000) : law_like_m [.str (S a), .str (S a)] = pure (.bl true) := like_of (repr_S h hl) (reprText_ok h)
theorem like_f {t b : Int} (h : Bd 1900 t) (q : Bd 1900 b) : law_like_m [frD t b, frD t b] = pure (.bl true) := like_of (repr_f h q) (ok_shF t b)
theorem ok_list2 {x y : Str} (hx : PyData.strOk x = true) (hy : PyData.strOk y = true) : PyData.strOk (listText [x, y]) = true := by
  show PyData.strOk (((Str.ofString "[" ++ x) ++ Str.ofString ", " ++ y) ++ Str.ofString "]") = true
  exact strOk_app (strOk_app (strOk_app (strOk_app (strOk_of _) hx) (strOk_of _)) hy) (strOk_of _)
theorem like_Sf {a : List Nat} (ha : asc a) (hl : a.length ≤ 1000) {t b : Int} (h : Bd 1900 t) (q : Bd 1900 b) : law_like_m [.lst [.str (S a), frD t b], .lst [.str (S a), frD t b]] = pure (.bl true) := by
  refine like_of (s := listText [reprText (S a), shF t b]) ?_ (ok_list2 (reprText_ok ha) (ok_shF t b))
  unfold repr1
  rw [if_pos ⟨by simp [frD, D.plain, D.plains], by simp [frD, D.py, D.pys, PyData.showable, PyData.showableAll, shw_ok h, shw_ok q], by simp [frD, D.py, D.pys, PyData.hasDict, PyData.hasDictAll], by simp [frD, D.py, D.pys, PyData.depth, PyData.depthAll], by
    have e := listText_len_le [reprText (S a), shF t b]
    have e2 := tupleText_len_le [shI t, shI b]
    have l1 := lenI h
    have l2 := lenI q
    have l3 := reprText_le ha
    have e3 : (shF t b).length = (tupleText [shI t, shI b]).length := rfl
    simp only [List.map_cons, List.map_nil, List.sum_cons, List.sum_nil, List.length_cons, List.length_nil] at e e2
    show (listText [reprText (S a), shF t b]).length ≤ 1000000
    omega⟩]
  rfl
/-! ### the writers -/
theorem ofInt (p : Int) : Str.ofString (toString p) = S (sgnL p) := by
  unfold sgnL
  cases p with
  | ofNat n =>
    rw [if_neg (show ¬ (Int.ofNat n < 0) by simp)]
    exact num_S n
  | negSucc n =>
    rw [if_pos (Int.negSucc_lt_zero n)]
    refine ext_tl ?_
    rw [tl_ofString]
    show _ = 45 :: numL (n + 1)
    show ("-" ++ Nat.repr (n + 1)).toList.map Char.toNat = _
    rw [String.toList_append, Nat.toList_repr]
    rfl
theorem sgnL_asc (p : Int) : asc (sgnL p) := by
  unfold sgnL
  intro c hc
  have num : ∀ n, c ∈ numL n → c < 128 := fun n h => by have := numL_digits n c h; omega
  split at hc
  · rcases List.mem_cons.mp hc with rfl | hc
    · decide
    · exact num _ hc
  · exact num _ hc
theorem frL_asc (p q : Int) : asc (frL p q) := by
  unfold frL
  refine (sgnL_asc p).app ?_
  split
  · exact asc_nil
  · intro c hc
    rcases List.mem_cons.mp hc with rfl | hc
    · decide
    · have := numL_digits _ c hc; omega
theorem sgnL_len {k : Nat} {p : Int} (hk : 0 < k) (h : p.natAbs < 10 ^ k) : (sgnL p).length ≤ k + 1 := by
  have := numL_len hk h
  unfold sgnL
  split
  · simp only [List.length_cons]; omega
  · omega
theorem frL_len {k : Nat} {p q : Int} (hk : 0 < k) (h : p.natAbs < 10 ^ k) (g : q.natAbs < 10 ^ k) : (frL p q).length ≤ 2 * k + 2 := by
  have a := sgnL_len hk h
  have b := numL_len hk g
  unfold frL
  rw [List.length_append]
  split
  · simp only [List.length_nil]; omega
  · simp only [List.length_cons]; omega
theorem fr_item0 {p q : Int} : itemD (frD p q) (.int 0) = pure (.int p) := rfl
theorem fr_item1 {p q : Int} : itemD (frD p q) (.int 1) = pure (.int q) := rfl
theorem str1_i {p : Int} (h : p.natAbs.log2 < 1920) : str1 (.int p) = pure (.str (S (sgnL p))) := by
  show (if p.natAbs.log2 < 1920 then pure (D.str (Str.ofString (toString p))) else no) = _
  rw [if_pos h, ofInt]
theorem fmt_i {p : Int} (h : p.natAbs.log2 < 1920) : fmtD (.int p) = pure (S (sgnL p)) := by
  show (if p.natAbs.log2 < 1920 then pure (Str.ofString (toString p)) else no) = _
  rw [if_pos h, ofInt]
theorem sgnL_pos {q : Int} (h : 0 < q) : sgnL q = numL q.natAbs := by
  unfold sgnL
  rw [if_neg (by omega)]
theorem log_ok {n : Nat} (h : n < 10 ^ 400) : n.log2 < 1920 := by
  by_cases c : n = 0
  · subst c; decide
  · exact (Nat.log2_lt c).mpr (Nat.lt_trans h (by decide +kernel))
section
variable {p q : Int}
theorem frac_word_eq (hp : p.natAbs < 10 ^ 400) (hq : q.natAbs < 10 ^ 400) (h : 0 < q) : frac_word_m [frD p q] = pure (.str (S (frL p q))) := by
  have lp : p.natAbs.log2 < 1920 := log_ok (by assumption)
  have lq : q.natAbs.log2 < 1920 := log_ok (by assumption)
  have len1 := sgnL_len (by decide) hp
  have len2 := numL_len (by decide) hq
  show bodyM (frac_word_b (frD p q)) = _
  unfold frac_word_b jnM jnM jnM jnM
  simp only [vlR, fr_item0, fr_item1, str1_i lp, fmt_i lp, fmt_i lq]
  unfold frL
  by_cases c : q = 1
  · rw [decide_eq_true c, if_pos c, List.append_nil]
    rfl
  · rw [decide_eq_false c, if_neg c, sgnL_pos h]
    have e0 : Str.empty ++ S (sgnL p) = S (sgnL p) := by
      show S [] ++ S (sgnL p) = _
      rw [S_cat, List.nil_append]
    have e1 : S (sgnL p) ++ Str.ofString "/" = S (sgnL p ++ [47]) := by rw [l_s, S_cat]
    have e2 : S (sgnL p ++ [47]) ++ S (numL q.natAbs) = S (sgnL p ++ 47 :: numL q.natAbs) := by rw [S_cat, List.append_assoc]; rfl
    simp only [Bool.false_eq_true, if_false, e0, e1, e2, S_len]
    rw [if_pos (by exact Nat.le_trans len1 (by decide)), if_pos (by rw [List.length_append]; exact Nat.le_trans (Nat.add_le_add_right len1 _) (by decide)), if_pos (by rw [List.length_append, List.length_cons]; exact Nat.le_trans (Nat.add_le_add len1 (Nat.succ_le_succ len2)) (by decide))]
    rfl
theorem fraction_text_eq (hp : p.natAbs < 10 ^ 400) (hq : q.natAbs < 10 ^ 400) (h : 0 < q) : law_fraction_text_m [frD p q] = pure (.str (S (frL p q))) := by
  have lp : p.natAbs.log2 < 1920 := log_ok (by assumption)
  have lq : q.natAbs.log2 < 1920 := log_ok (by assumption)
  have len1 := sgnL_len (by decide) hp
  have len2 := numL_len (by decide) hq
  show bodyM (law_fraction_text_b (frD p q)) = _
  unfold law_fraction_text_b
  simp only [vlR, fr_item0, fr_item1, str1_i lp, str1_i lq, l_, l_s]
  unfold frL
  by_cases c : q = 1
  · rw [decide_eq_true c, if_pos c]
    simp only [vlR, if_true]
    rw [addS (by exact Nat.le_trans len1 (by decide))]
  · rw [decide_eq_false c, if_neg c, sgnL_pos h]
    simp only [vlR, Bool.false_eq_true, if_false]
    rw [addS (by exact Nat.le_trans (Nat.add_le_add_left len2 1) (by decide)), pure_bind, addS (by rw [List.length_append]; exact Nat.le_trans (Nat.add_le_add len1 (Nat.add_le_add_left len2 1)) (by decide))]
    rfl
end
/-! ### what is drawn -/
theorem any_spec {q : Int} {xs : List D} (h0 : 0 < xs.length) (h1 : xs.length ≤ 1000) {S : Sx} (H : HandS S) {φ : D → Sx → Prop} (hφ : ∀ d ∈ xs, ∀ S', HandS S' → φ d S') : Wp (law_any_m q [.cell 0, .lst xs]) S φ := by
  show Wp (bodyM (law_any_b q (.cell 0) (.lst xs))) S φ
  unfold law_any_b
  simp only [vlR]
  refine (draw_spec (by omega) (by unfold Sm; exact Nat.lt_of_le_of_lt (show _ ≤ 1000 by omega) (by decide +kernel)) H (φ := fun d S' => ∃ i, d = .int i ∧ 0 ≤ i ∧ i < xs.length ∧ HandS S') fun i S' a b c => ⟨i, rfl, a, b, c⟩).bind ?_
  rintro _ S' ⟨i, rfl, a, b, c⟩
  obtain ⟨j, rfl⟩ := Int.eq_ofNat_of_zero_le a
  have hj : j < xs.length := by omega
  rw [item_l, atI_at (j := j) rfl (x := xs[j]) (List.getElem?_eq_getElem hj)]
  simp only [ofO_s, vlR]
  exact hφ _ (List.getElem_mem hj) S' c
theorem any_bind {α : Type} {q : Int} {xs : List D} {S : Sx} {k : D → M α} {φ : α → Sx → Prop} (H : HandS S) (hφ : ∀ d ∈ xs, ∀ S', HandS S' → Wp (k d) S' φ) (h0 : 0 < xs.length := by simp) (h1 : xs.length ≤ 1000 := by simp) : Wp (law_any_m q [.cell 0, .lst xs] >>= k) S φ :=
  wp_bind.mpr (any_spec h0 h1 H hφ)
theorem hand2_spec {q r : Int} {ns : List Int} (h : ns.length ≤ 63) (hq : 0 ≤ q) (hr : 0 ≤ r) (hr2 : r ≤ 1000) : ∃ S', law_hand_m q r [.scr ns] [] = .ok (.cell 0) S' ∧ HandS S' := by
  have e1 : sliceD (.scr ns) none (some 63) = pure (.lst (ns.map D.int)) := by
    show pure (D.lst ((cutA ns none (some 63)).map D.int)) = _
    rw [cut_whole ⟨rfl, by show min 63 ns.length = _; omega⟩]
  let f : Int → Int := fun z => (if z < 0 then -z else z).fmod (10 ^ 40)
  have e3 : lcL (lcT (β := D) (fun d => pure d) (fun _ => pure true) fun c => int1 c >>= fun a => abs1 a >>= fun a => int1 a >>= fun x => modD x (.int (10 ^ 40))) (ns.map D.int) = pure ((ns.map f).map D.int) := by
    unfold lcL
    rw [if_pos (by rw [List.length_map]; unfold lim; omega), lcM_map (f := fun d => match d with | .int z => .int (f z) | d => d)]
    · rw [List.map_map, List.map_map]
      rfl
    · intro d hd
      obtain ⟨z, _, rfl⟩ := List.mem_map.mp hd
      unfold lcT
      simp only [vlR, if_true, modD_ok (show (10 : Int) ^ 40 ≠ 0 by decide), noX_pure]
      rfl
  have e4 : law_hand_m q r [.scr ns] = (newCell [.lst ((ns.map f).map D.int), .int 0, .int 0, .int (q + r * (ns.length : Int)), .int 0]) := by
    show bodyM (law_hand_b q r (.scr ns)) = _
    unfold law_hand_b
    simp only [vlR, asI, e1, rowD, p10_40, e3]
    rw [mulI_l (by omega)]
    simp only [vlR, lim5, bind_pure, List.length_map]
  rw [e4]
  exact ⟨_, rfl, ns.map f, 0, 0, q + r * (ns.length : Int), 0, rfl, fun c hc => by
    obtain ⟨z, _, rfl⟩ := List.mem_map.mp hc
    show 0 ≤ (if z < 0 then -z else z).fmod (10 ^ 40)
    rw [Int.fmod_eq_emod_of_nonneg _ (by decide)]
    exact Int.emod_nonneg _ (by decide), by rw [List.length_map]; exact h, by decide, by decide, Int.add_nonneg hq (Int.mul_nonneg hr (by omega)), by decide⟩
theorem repl_val : ∀ (n acc : Nat), (List.replicate n 48).foldl (fun acc c => acc * 10 + (c - 48)) acc = acc * 10 ^ n
  | 0, acc => by simp
  | n + 1, acc => by
    rw [List.replicate_succ, List.foldl_cons, repl_val n, Nat.pow_succ]
    show (acc * 10 + 0) * 10 ^ n = _
    rw [Nat.add_zero, Nat.mul_assoc, Nat.mul_comm 10]
theorem one_noughts (n : Nat) : wholeT (49 :: List.replicate n 48) = true ∧ digitsVal (49 :: List.replicate n 48) = 10 ^ n := by
  refine ⟨whole_iff.mpr ⟨by simp, fun c hc => ?_, .inr (by simp)⟩, ?_⟩
  · rcases List.mem_cons.mp hc with rfl | hc
    · decide
    · rw [(List.mem_replicate.mp hc).2]
      decide
  · show (List.replicate n 48).foldl (fun acc c => acc * 10 + (c - 48)) 1 = _
    rw [repl_val, Nat.one_mul]
theorem mulS_eq {z : Str} {n : Int} : mulS (.str z) (.int n) = if 0 ≤ n ∧ n < 2 ^ 40 ∧ z.length ≤ 2 ^ 20 ∧ z.length * n.toNat ≤ lim then pure (.str (Txt.mul z n)) else no := rfl
theorem fold_rep : ∀ (n : Nat) (acc : Array Nat), ((List.replicate n (#[48] : Array Nat)).foldl (· ++ ·) acc).toList = acc.toList ++ List.replicate n 48
  | 0, acc => by simp
  | n + 1, acc => by
    rw [List.replicate_succ, List.foldl_cons, fold_rep n, Array.toList_append, List.append_assoc]
    rfl
theorem mul_noughts {n : Nat} (h0 : 1 ≤ n) (h : n ≤ 100) : mulS (.str (S [48])) (.int n) = pure (.str (S (List.replicate n 48))) := by
  rw [mulS_eq, if_pos ⟨by omega, by omega, by rw [S_len]; decide, by rw [S_len, Int.toNat_natCast]; exact Nat.le_trans (Nat.mul_le_mul_left _ h) (by decide)⟩]
  congr 2
  unfold Txt.mul
  rw [if_neg (by omega)]
  split
  · rename_i c
    rw [Bool.or_eq_true] at c
    rcases c with c | c
    · have : n = 1 := by have := eq_of_beq c; omega
      subst this
      rfl
    · exact absurd c (by decide)
  · refine ext_tl ?_
    rw [Int.toNat_natCast]
    exact fold_rep n #[]
theorem digits_spec {q n : Int} (h0 : 0 < n) (h1 : n ≤ 39) {S0 : Sx} (H : HandS S0) {φ : D → Sx → Prop} (hφ : ∀ (i : Int) S', 0 ≤ i → i.natAbs < 10 ^ 39 → HandS S' → φ (.int i) S') : Wp (law_digits_m q [.cell 0, .int n]) S0 φ := by
  show Wp (bodyM (law_digits_b q (.cell 0) (.int n))) S0 φ
  unfold law_digits_b
  simp only [vlR]
  refine draw_bind H h0 (Int.le_trans h1 (by decide)) (hφ := fun i S1 i0 i1 H1 => ?_)
  have hi : i = ((i.toNat : Nat) : Int) := (Int.toNat_of_nonneg i0).symm
  rw [hi]
  generalize i.toNat = j at hi
  have hj : j ≤ 38 := by omega
  clear hi
  have e : (1 : Int) + ((j : Nat) : Int) = ((1 + j : Nat) : Int) := by omega
  have w1 := (one_noughts (1 + j)).1
  have w2 := (one_noughts (1 + j)).2
  have e2 : addD (.str (S [49])) (.str (S (List.replicate (1 + j) 48))) = pure (.str (S (49 :: List.replicate (1 + j) 48))) := addS (by rw [List.length_replicate]; exact Nat.le_trans (Nat.add_le_add_left (show 1 + j ≤ 40 by omega) 1) (by decide))
  rw [l_1, l_0]
  simp only [vlR, e]
  rw [mul_noughts (by omega) (by omega), pure_bind, e2, pure_bind, intX_W w1 (by simp only [List.length_cons, List.length_replicate]; omega), pure_bind, w2]
  have p0 : 0 < 10 ^ (1 + j) := Nat.pow_pos (by decide)
  have p1 : 10 ^ (1 + j) ≤ 10 ^ 39 := Nat.pow_le_pow_right (by decide) (by omega)
  have p2 : 10 ^ 39 < 2 ^ 9000 := by decide +kernel
  generalize 10 ^ (1 + j) = N at p0 p1
  refine draw_spec (Int.natCast_pos.mpr p0) (Nat.lt_of_le_of_lt (show ((N : Nat) : Int).natAbs ≤ 10 ^ 39 from p1) p2) H1 fun i S2 i0 i1 H2 => hφ i S2 i0 ?_ H2
  have : i.natAbs < N := by omega
  exact Nat.lt_of_lt_of_le this p1
theorem drawn_fraction_spec {q : Int} {S0 : Sx} (H : HandS S0) {φ : D → Sx → Prop} (hφ : ∀ (t b : Int) S', 0 < b → Int.gcd t b = 1 → t.natAbs < 10 ^ 41 → b.natAbs < 10 ^ 41 → HandS S' → φ (frD t b) S') : Wp (law_drawn_fraction_m q [.cell 0]) S0 φ := by
  show Wp (bodyM (law_drawn_fraction_b q (.cell 0))) S0 φ
  unfold law_drawn_fraction_b
  simp only [vlR, lst5, lst3]
  refine any_bind H fun d hd S1 H1 => ?_
  have : ∃ n : Int, d = .int n ∧ 0 < n ∧ n ≤ 39 := by
    simp only [List.mem_cons, List.not_mem_nil, or_false] at hd
    rcases hd with rfl | rfl | rfl | rfl | rfl <;> exact ⟨_, rfl, by decide, by decide⟩
  have ⟨n, hn, n0, n1⟩ := this
  subst hn
  refine wp_bind.mpr (digits_spec n0 n1 H1 fun i S2 i0 i1 H2 => ?_)
  refine any_bind H2 fun d2 hd2 S3 H3 => ?_
  have : ∃ m : Int, d2 = .int m ∧ m.natAbs = 1 := by
    simp only [List.mem_cons, List.not_mem_nil, or_false] at hd2
    rcases hd2 with rfl | rfl | rfl <;> exact ⟨_, rfl, rfl⟩
  have ⟨m, hm, m1⟩ := this
  subst hm
  rw [mulI_r (show m.natAbs < 2 ^ 64 by omega), pure_bind]
  refine wp_bind.mpr (digits_spec n0 n1 H3 fun k S4 k0 k1 H4 => ?_)
  refine draw_bind H4 (hφ := fun w S5 w0 w1 H5 => ?_)
  rw [mulI_r (show w.natAbs < 2 ^ 64 by omega), pure_bind]
  simp only [vlR]
  have hw : w = 0 ∨ w = 1 := by omega
  have hm2 : m = 1 ∨ m = -1 := by omega
  have b0 : 0 < 1 + k * w ∧ (1 + k * w).natAbs ≤ 10 ^ 39 := by rcases hw with rfl | rfl <;> omega
  have a0 : (i * m).natAbs < 10 ^ 39 := by rcases hm2 with rfl | rfl <;> omega
  generalize 1 + k * w = B at b0
  generalize i * m = A at a0
  have p2 : 10 ^ 39 < 2 ^ 9000 := by decide +kernel
  have p3 : 10 ^ 39 < 10 ^ 41 := by decide
  have bne : B ≠ 0 := by omega
  rw [low2_eq bne (Nat.lt_of_le_of_lt b0.2 p2), redD_fr]
  exact hφ _ _ _ (rb_pos bne) (red_cop bne) (Nat.lt_of_le_of_lt (rt_le bne) (Nat.lt_trans a0 p3)) (Nat.lt_of_le_of_lt (Nat.le_trans (rb_le bne) b0.2) p3) H5
end VLib2

set_option exponentiation.threshold 20000
/-! VLGd: the laws' own polygons: points of a ring in order. -/
namespace VLib
open PySem PySem.Spec VL VLG
inductive RgR (k : Nat) : List D → List P → Prop
  | nil : RgR k [] []
  | cons {d : D} {w : P} {ds : List D} {ws : List P} : Pt k d (sqw w) → Wy w → RgR k ds ws → RgR k (d :: ds) (w :: ws)
section
variable {k : Nat}
theorem RgR.psr : ∀ {ds : List D} {ws : List P}, RgR k ds ws → PsR k ds (ws.map sqw)
  | _, _, .nil => .nil
  | _, _, .cons h _ t => .cons h t.psr
theorem RgR.wy : ∀ {ds : List D} {ws : List P}, RgR k ds ws → ∀ w ∈ ws, Wy w
  | _, _, .nil, w, h => by cases h
  | _, _, .cons _ g t, w, h => by
    rcases List.mem_cons.mp h with rfl | h
    · exact g
    · exact t.wy w h
theorem RgR.length : ∀ {ds : List D} {ws : List P}, RgR k ds ws → ds.length = ws.length
  | _, _, .nil => rfl
  | _, _, .cons _ _ t => by rw [List.length_cons, List.length_cons, t.length]
theorem RgR.filter {t : D → Bool} {T : P → Bool} (h : ∀ d w, Pt k d (sqw w) → Wy w → t d = T w) : ∀ {ds : List D} {ws : List P}, RgR k ds ws → RgR k (ds.filter t) (ws.filter T)
  | _, _, .nil => .nil
  | _, _, .cons a g r => by
    rw [List.filter_cons, List.filter_cons, h _ _ a g]
    split
    · exact .cons a g (r.filter h)
    · exact r.filter h
theorem RgR.append : ∀ {ds es : List D} {ws vs : List P}, RgR k ds ws → RgR k es vs → RgR k (ds ++ es) (ws ++ vs)
  | _, _, _, _, .nil, q => q
  | _, _, _, _, .cons a g t, q => .cons a g (t.append q)
theorem RgR.take : ∀ {ds : List D} {ws : List P} (n : Nat), RgR k ds ws → RgR k (ds.take n) (ws.take n)
  | _, _, 0, _ => .nil
  | _, _, _ + 1, .nil => .nil
  | _, _, n + 1, .cons a g t => .cons a g (t.take n)
theorem RgR.drop : ∀ {ds : List D} {ws : List P} (n : Nat), RgR k ds ws → RgR k (ds.drop n) (ws.drop n)
  | _, _, 0, r => r
  | _, _, _ + 1, .nil => .nil
  | _, _, n + 1, .cons _ _ t => t.drop n
theorem RgR.mem : ∀ {ds : List D} {ws : List P}, RgR k ds ws → ∀ d ∈ ds, ∃ w ∈ ws, Pt k d (sqw w) ∧ Wy w
  | _, _, .nil, d, h => by cases h
  | _, _, .cons a g t, d, hd => by
    rcases List.mem_cons.mp hd with rfl | hd
    · exact ⟨_, List.mem_cons_self, a, g⟩
    · obtain ⟨w, hw, q⟩ := t.mem d hd
      exact ⟨w, List.mem_cons_of_mem _ hw, q⟩
theorem RgR.mem' : ∀ {ds : List D} {ws : List P}, RgR k ds ws → ∀ w ∈ ws, ∃ d ∈ ds, Pt k d (sqw w) ∧ Wy w
  | _, _, .nil, d, h => by cases h
  | _, _, .cons a g t, d, hd => by
    rcases List.mem_cons.mp hd with rfl | hd
    · exact ⟨_, List.mem_cons_self, a, g⟩
    · obtain ⟨w, hw, q⟩ := t.mem' d hd
      exact ⟨w, List.mem_cons_of_mem _ hw, q⟩
end
/-! ### comprehensions that only choose -/
theorem lcM_filter {b : D → M (Option D)} {t : D → Bool} : ∀ {ds : List D}, (∀ d ∈ ds, b d = pure (if t d = true then some d else none)) → lcM b ds = pure (ds.filter t)
  | [], _ => rfl
  | d :: ds, h => by
    show (b d >>= fun o => lcM b ds >>= fun r => pure (o.toList ++ r)) = _
    rw [h d List.mem_cons_self, lcM_filter fun e he => h e (List.mem_cons_of_mem _ he), List.filter_cons]
    cases t d <;> rfl
theorem lc_filter {mc : D → M Bool} {me : D → M D} {t : D → Bool} {ds : List D} (hl : ds.length ≤ lim) (h : ∀ d ∈ ds, mc d = pure (t d)) (he : ∀ d, me d = pure d) : lcL (lcT (fun d => pure d) mc me) ds = pure (ds.filter t) := by
  unfold lcL
  rw [if_pos hl, lcM_filter (t := t) fun d hd => ?_]
  unfold lcT
  rw [pure_bind, h d hd, pure_bind, he, pure_bind]
  cases t d <;> rfl
/-! ### not in a row of points -/
theorem pts_plain {ys : List D} (h : ∀ d ∈ ys, ∃ k p, Pt k d p) : D.plains ys = true ∧ PyData.canLayAll0 (D.pys ys) = true ∧ PyData.depthAll (D.pys ys) ≤ 2 := by
  induction ys with
  | nil => exact ⟨rfl, rfl, Nat.zero_le _⟩
  | cons d ds ih =>
    obtain ⟨i1, i2, i3⟩ := ih fun e he => h e (List.mem_cons_of_mem _ he)
    obtain ⟨k, p, q⟩ := h d List.mem_cons_self
    obtain ⟨x, y, rfl, ⟨a1, b1, rfl, _⟩, ⟨a2, b2, rfl, _⟩⟩ := q
    refine ⟨?_, ?_, ?_⟩
    · show (_ && D.plains ds) = true
      rw [i1]
      simp [frD, D.plain, D.plains]
    · show (_ && PyData.canLayAll0 (D.pys ds)) = true
      rw [i2]
      simp [frD, D.py, D.pys, PyData.canLay0, PyData.canLayAll0]
    · show max _ (PyData.depthAll (D.pys ds)) ≤ 2
      have : PyData.depth (D.py (D.tup [frD a1 b1, frD a2 b2])) ≤ 2 := by simp [frD, D.py, D.pys, PyData.depth, PyData.depthAll]
      omega
theorem pts_cmp {ys : List D} (h : ∀ d ∈ ys, ∃ k p, Pt k d p) : (D.lst ys).cmp = true := by
  obtain ⟨i1, i2, i3⟩ := pts_plain h
  show (D.plains ys && SeqAt.shaped (.list (D.pys ys))) = true
  rw [i1]
  simp only [SeqAt.shaped, PyData.canLay0, PyData.depth, i2, Bool.true_and, Bool.and_eq_true, decide_eq_true_eq]
  first | omega | exact ⟨trivial, by omega⟩ | (simp; omega)
theorem any_pys {x : D} : ∀ (ys : List D), ((D.pys ys).any fun z => PyData.eqv z x.py) = ys.any fun y => PyData.eqv y.py x.py
  | [] => rfl
  | y :: ys => by
    show (_ || (D.pys ys).any _) = _
    rw [any_pys ys]
    rfl
theorem nin_pts {k : Nat} {x : D} {p : P} {ys : List D} (hx : Pt k x p) (h : ∀ d ∈ ys, ∃ k p, Pt k d p) : ninD x (.lst ys) = pure (.bl (!(tb (x ∈ ys)))) := by
  show (if x.cmp = true ∧ (D.lst ys).cmp = true then pure (D.bl (true != (D.pys ys).any fun z => PyData.eqv z x.py)) else no) = _
  rw [if_pos ⟨hx.cmp, pts_cmp h⟩, any_pys]
  have e : (ys.any fun y => PyData.eqv y.py x.py) = tb (x ∈ ys) := by
    rw [Bool.eq_iff_iff, List.any_eq_true, tb_iff]
    constructor
    · rintro ⟨y, hy, q⟩
      obtain ⟨j, r, g⟩ := h y hy
      rw [g.eqv hx, decide_eq_true_eq] at q
      subst q
      rw [← g.ext hx]
      exact hy
    · intro q
      exact ⟨x, q, by rw [hx.eqv hx]; exact decide_eq_true rfl⟩
  rw [e]
  cases tb (x ∈ ys) <;> rfl
/-! ### the order -/
/-- the top's sign -/
theorem fv_sgn {k : Nat} {x : D} {u : Rat} (h : Fv k x u) : ∃ p q : Int, x = frD p q ∧ decide (0 < p) = decide (0 < u) ∧ decide (p = 0) = decide (u = 0) := by
  obtain ⟨p, q, e, t1, t2, _⟩ := Fv.top h
  refine ⟨p, q, e, decide_eq_decide.mpr t1, decide_eq_decide.mpr ?_⟩
  constructor
  · intro z
    subst z
    have a : ¬ 0 < u := fun z => absurd (t1.mpr z) (by decide)
    have b : ¬ u < 0 := fun z => absurd (t2.mpr z) (by decide)
    grind
  · intro z
    subst z
    have a : ¬ 0 < p := fun z => absurd (t1.mp z) (by decide)
    have b : ¬ p < 0 := fun z => absurd (t2.mp z) (by decide)
    omega
section
variable {k : Nat}
/-- into its place -/
theorem order_loop {δ : Type} {b : D → List D → M (Fl (List D) (List D))} {half : Bool}
    (hb : ∀ (d : D) (w : P) (hs : List D) (ks : List P), Pt k d (sqw w) → Wy w → RgR k hs ks → hs.length ≤ 1000 → decide (0 < w.1) = half → (∀ v ∈ ks, decide (0 < v.1) = half) → b d hs = pure (.nx (hs.take (ks.filter fun o => decide (0 < cx o w)).length ++ [d] ++ hs.drop (ks.filter fun o => decide (0 < cx o w)).length))) :
    ∀ (es : List D) (vs : List P) (hs : List D) (ks : List P), RgR k es vs → RgR k hs ks → vs.Nodup → (∀ v ∈ vs, v ∉ ks) → (∀ v ∈ vs, decide (0 < v.1) = half) → (∀ v ∈ ks, decide (0 < v.1) = half) → ks.Pairwise (fun a b => 0 < cx a b) → es.length + hs.length ≤ 1000 →
      ∃ hs' ks', (forM b es hs : M (Fl δ (List D))) = pure (.nx hs') ∧ RgR k hs' ks' ∧ ks'.Pairwise (fun a b => 0 < cx a b) ∧ (∀ v ∈ ks', decide (0 < v.1) = half) ∧ ks'.length = vs.length + ks.length
  | _, _, hs, ks, .nil, R, _, _, _, hk, hp, _ => ⟨hs, ks, rfl, R, hp, hk, by simp⟩
  | _, _, hs, ks, .cons (d := d) (w := w) (ds := es) (ws := vs) a g r, R, hn, hd, hv, hk, hp, hl => by
    rw [List.nodup_cons] at hn
    rw [List.length_cons] at hl
    have hw := hv w List.mem_cons_self
    have hwk := hd w List.mem_cons_self
    have e := hb d w hs ks a g R (by omega) hw hk
    have R' : RgR k (hs.take (ks.filter fun o => decide (0 < cx o w)).length ++ [d] ++ hs.drop (ks.filter fun o => decide (0 < cx o w)).length) (ins ks w) := ((R.take _).append (.cons a g .nil)).append (R.drop _)
    have lh := R'.length
    rw [len_ins, ← R.length] at lh
    obtain ⟨hs', ks', e1, r1, r2, r3, r4⟩ := order_loop (δ := δ) hb es vs _ (ins ks w) r R' hn.2 (fun v hv' z => by
      rcases mem_ins.mp z with z | z
      · exact hd v (List.mem_cons_of_mem _ hv') z
      · exact hn.1 (z ▸ hv')) (fun v hv' => hv v (List.mem_cons_of_mem _ hv')) (fun v hv' => by
      rcases mem_ins.mp hv' with z | z
      · exact hk v z
      · exact z ▸ hw) (ins_sorted g R.wy hwk hp) (by rw [lh]; omega)
    refine ⟨hs', ks', ?_, r1, r2, r3, by rw [r4, len_ins, List.length_cons]; omega⟩
    show (b d hs >>= fun f => _) = _
    rw [e, pure_bind]
    exact e1
theorem origin : Pt 16 (.tup [frD 0 1, frD 0 1]) (0, 0) := by
  have z1 : Fv 16 (frD 0 1) 0 := (fv_int (show Bd 16 0 from (show (0 : Int).natAbs < 2 ^ 16 by decide))).to rfl
  exact ⟨_, _, rfl, z1, z1⟩
theorem cr_0 (a b : P) : cr (0, 0) a b = cx a b := by unfold cr cx; grind
/-- cross of the origin and two points: above 0 -/
theorem cross_0 {a b : D} {p r : P} (h : Pt 16 a p) (g : Pt 16 b r) : ∃ s q : Int, law_cross_m [.tup [frD 0 1, frD 0 1], a, b] = pure (frD s q) ∧ decide (0 < s) = decide (0 < cx p r) := by
  obtain ⟨w, e, f⟩ := lcross_eq origin h g
  obtain ⟨s, q, rfl, e1, _⟩ := fv_sgn f
  refine ⟨s, q, e, ?_⟩
  rw [e1]
  have := cr_0 p r
  unfold cr at this
  unfold crs
  simp only at this ⊢
  rw [this]
theorem insL_ok {hs : List D} {n : Nat} {d : D} (h1 : hs.length ≤ 1000) (h2 : n ≤ 1000) : insL hs (.int (n : Int)) d = pure (hs.take n ++ [d] ++ hs.drop n) := by
  unfold insL
  simp only []
  rw [if_pos ⟨by omega, by omega, Nat.lt_of_le_of_lt h1 (by decide)⟩, Int.toNat_natCast]
/-- the flag of the upper half -/
noncomputable def upT (d : D) : Bool := tb (∃ p, Pt 16 d p ∧ (0 < p.2 ∨ (p.2 = 0 ∧ 0 < p.1)))
theorem upT_eq {d : D} {w : P} (h : Pt 16 d (sqw w)) (g : Wy w) : upT d = decide (0 < w.1) := by
  unfold upT
  rw [Bool.eq_iff_iff, tb_iff, decide_eq_true_eq, ← up_iff g]
  constructor
  · rintro ⟨p, hp, q⟩
    rw [hp.fn h] at q
    exact q
  · exact fun q => ⟨_, h, q⟩
theorem order_eq {ds : List D} {ws : List P} (R : RgR 16 ds ws) (hn : ws.Nodup) (hl : ds.length ≤ 100) :
    ∃ ds' ws', law_in_order_m [.lst ds] = pure (.lst ds') ∧ RgR 16 ds' ws' ∧ ws'.Pairwise (fun a b => 0 < cx a b) ∧ ws'.length = ws.length := by
  show ∃ ds' ws', bodyM (law_in_order_b (.lst ds)) = _ ∧ _
  unfold law_in_order_b
  have lm : ∀ xs : List D, xs.length ≤ 1000 → xs.length ≤ lim := fun xs h => by unfold lim; omega
  -- the upper ones
  have u1 : ∀ mc : D → M Bool, (∀ x1 y1 x2 y2 : Int, mc (.tup [frD x1 y1, frD x2 y2]) = pure (if decide (0 < x2) = true then true else if decide (x2 = 0) = true then decide (0 < x1) else false)) → ∀ d ∈ ds, mc d = pure (upT d) := fun mc hm d hd => by
    obtain ⟨w, _, ⟨x, y, rfl, fx, fy⟩, g⟩ := R.mem d hd
    have q := upT_eq ⟨x, y, rfl, fx, fy⟩ g
    obtain ⟨x1, y1, rfl, a1, a2⟩ := fv_sgn fx
    obtain ⟨x2, y2, rfl, b1, b2⟩ := fv_sgn fy
    rw [hm, a1, b1, b2, q]
    refine congrArg (fun t => (pure t : M Bool)) ?_
    rw [Bool.eq_iff_iff]
    refine Iff.trans ?_ (Iff.trans (up_iff g) decide_eq_true_iff.symm)
    by_cases c1 : 0 < (sqw w).2
    · simp [c1]
    · by_cases c2 : (sqw w).2 = 0
      · simp [c2]
      · simp [c1, c2]
  have hRU := R.filter (t := upT) (T := fun w => decide (0 < w.1)) fun d w a g => upT_eq a g
  have hRL := R.filter (t := fun d => !upT d) (T := fun w => !decide (0 < w.1)) fun d w a g => by rw [upT_eq a g]
  have fU := List.length_filter_le upT ds
  have fL := List.length_filter_le (fun d => !upT d) ds
  have memU : ∀ d ∈ ds.filter upT, ∃ k p, Pt k d p := fun d hd => let ⟨w, _, q, _⟩ := hRU.mem d hd; ⟨_, _, q⟩
  have u2 : ∀ mc : D → M Bool, (∀ d, mc d = ninD d (.lst (ds.filter upT)) >>= asB) → ∀ d ∈ ds, mc d = pure (!upT d) := fun mc hm d hd => by
    obtain ⟨w, _, q, g⟩ := R.mem d hd
    rw [hm, nin_pts q memU, pure_bind]
    refine congrArg (fun t => (pure t : M Bool)) ?_
    congr 1
    rw [Bool.eq_iff_iff, tb_iff, List.mem_filter]
    exact ⟨fun z => z.2, fun z => ⟨hd, z⟩⟩
  simp only [vlR, rowD]
  rw [lc_filter (t := upT) (lm _ (by omega)) (u1 _ fun x1 y1 x2 y2 => by
    simp only [it0, it1, vlR]
    by_cases c1 : decide (0 < x2) = true
    · simp only [c1, if_true]
    · simp only [c1, if_false]
      by_cases c2 : decide (x2 = 0) = true
      · simp only [c2, if_true]
        first | rfl | simp
      · simp only [c2, if_false]
        first | rfl | simp) (fun _ => rfl)]
  simp only [vlR]
  rw [lc_filter (t := fun d => !upT d) (lm _ (by omega)) (u2 _ fun d => by simp only [vlR]) (fun _ => rfl)]
  have l0 : lstD [] = pure (.lst []) := lstD_ok (by show 0 ≤ 1000000; decide)
  have l00 : limL [] = pure [] := limL_ok (by show 0 ≤ 1000000; decide)
  have tf : ∀ x y : D, tupD [x, y] = pure (.tup [x, y]) := fun _ _ => tup2
  simp only [vlR, l0, tf, l00]
  have key : ∀ (half : Bool) (es : List D) (vs : List P), RgR 16 es vs → vs.Nodup → (∀ v ∈ vs, decide (0 < v.1) = half) → es.length ≤ 100 → ∃ hs' ks', (VL.forM (fun d71 s39 => lcL (lcT (fun d => pure d) (fun other_ => law_cross_m [D.tup [frD 0 1, frD 0 1], other_, d71] >>= fun a => itemD a (D.int 0) >>= fun x19 => gtD x19 (D.int 0) >>= asB) fun d => pure d) s39 >>= fun d => insL s39 (D.int ↑d.length) d71 >>= fun here_ => pure (Fl.nx here_)) es [] : M (Fl D (List D))) = pure (.nx hs') ∧ RgR 16 hs' ks' ∧ ks'.Pairwise (fun a b => 0 < cx a b) ∧ (∀ v ∈ ks', decide (0 < v.1) = half) ∧ ks'.length = vs.length + 0 := by
    intro half es vs R1 n1 h1 l1
    refine order_loop (half := half) (fun d w hs ks a g Rh lh hw hk => ?_) es vs [] [] R1 .nil n1 (fun _ _ h => by cases h) h1 (fun _ h => by cases h) List.Pairwise.nil (by simp; omega)
    let T : D → Bool := fun o => tb (∃ p, Pt 16 o p ∧ 0 < cx p (sqw w))
    have tq : ∀ o v, Pt 16 o (sqw v) → T o = decide (0 < cx (sqw v) (sqw w)) := fun o v q => by
      show tb _ = _
      rw [Bool.eq_iff_iff, tb_iff, decide_eq_true_eq]
      constructor
      · rintro ⟨p, hp, z⟩
        rw [hp.fn q] at z
        exact z
      · exact fun z => ⟨_, q, z⟩
    rw [lc_filter (t := T) (lm _ lh) (fun o ho => by
      obtain ⟨v, hv, q, gv⟩ := Rh.mem o ho
      obtain ⟨s, q', e1, e2⟩ := cross_0 q a
      simp only [e1, vlR]
      rw [e2, tq o v q]) (fun _ => rfl), pure_bind]
    have len : (hs.filter T).length = (ks.filter fun o => decide (0 < cx o w)).length := by
      have : ∀ {hs : List D} {ks : List P}, RgR 16 hs ks → (∀ v ∈ ks, decide (0 < v.1) = half) → (hs.filter T).length = (ks.filter fun o => decide (0 < cx o w)).length := by
        intro hs ks r
        induction r with
        | nil => exact fun _ => rfl
        | @cons d' w' ds' ws' q gv r ih =>
          intro hk
          have hh := hk _ List.mem_cons_self
          have e : T d' = decide (0 < cx w' w) := (tq _ _ q).trans (decide_eq_decide.mpr (cx_half gv g (decide_eq_decide.mp (hh.trans hw.symm))))
          rw [List.filter_cons, List.filter_cons, e]
          have ih := ih fun v hv => hk v (List.mem_cons_of_mem _ hv)
          split
          · rw [List.length_cons, List.length_cons, ih]
          · exact ih
      exact this Rh hk
    rw [len]
    rw [insL_ok lh (by have := List.length_filter_le (fun o => decide (0 < cx o w)) ks; have := Rh.length; omega), pure_bind]
  obtain ⟨h1, k1, e1, r1, p1, c1, l1⟩ := key true _ _ hRU (hn.filter _) (fun v hv => (List.mem_filter.mp hv).2) (by omega)
  obtain ⟨h2, k2, e2, r2, p2, c2, l2⟩ := key false _ _ hRL (hn.filter _) (fun v hv => by have := (List.mem_filter.mp hv).2; simpa using this) (by omega)
  have fc : ∀ (b : D → D → M (Fl D D)) (x y s s1 s2 : D), b x s = pure (.nx s1) → b y s1 = pure (.nx s2) → (VL.forM b [x, y] s : M (Fl Unit D)) = pure (.nx s2) := fun b x y s s1 s2 g1 g2 => by
    show (b x s >>= fun f => _) = _
    rw [g1, pure_bind]
    show (b y s1 >>= fun f => _) = _
    rw [g2, pure_bind]
    rfl
  have b1 := r1.length
  have b2 := r2.length
  have b3 := hRU.length
  have b4 := hRL.length
  rw [fc _ _ _ _ (.lst h1) (.lst (h1 ++ h2)) (by
    simp only [e1, vlR]
    rw [addL (by simp; unfold lim; omega)]
    simp only [vlR, List.nil_append]) (by
    simp only [e2, vlR]
    rw [addL (by unfold lim; omega)]
    simp only [vlR])]
  refine ⟨h1 ++ h2, k1 ++ k2, rfl, r1.append r2, ?_, ?_⟩
  · rw [List.pairwise_append]
    refine ⟨p1, p2, fun a ha b hb => ?_⟩
    exact cx_cross (r1.wy a ha) (r2.wy b hb) (of_decide_eq_true (c1 a ha)) (of_decide_eq_false (c2 b hb))
  · rw [List.length_append, l1, l2]
    have : ∀ xs : List P, (xs.filter fun w => decide (0 < w.1)).length + 0 + ((xs.filter fun w => !decide (0 < w.1)).length + 0) = xs.length := by
      intro xs
      induction xs with
      | nil => rfl
      | cons x xs ih =>
        rw [List.filter_cons, List.filter_cons]
        cases decide (0 < x.1) <;> simp only [Bool.not_true, Bool.not_false, Bool.false_eq_true, if_true, if_false, List.length_cons] <;> omega
    exact this ws
end
theorem isq_nn (x : Int) : 0 ≤ x * x := by rw [← Int.natAbs_mul_self]; omega
/-- a ring's point in numbers -/
theorem ring_pt {A b : Int} (h1 : 1 ≤ A) (h2 : A ≤ 9) (h3 : 0 ≤ b) (h4 : b ≤ 9) (s : Int) (hs : s = 1 ∨ s = -1) :
    ∃ w, Wy w ∧ Pt 16 (.tup [redD (s * ((A * A - b * b) * (A * A - b * b) - 2 * A * b * (2 * A * b))) ((A * A + b * b) * (A * A + b * b)), redD (s * (2 * (A * A - b * b) * (2 * A * b))) ((A * A + b * b) * (A * A + b * b))]) (sqw w) := by
  have AA : 1 ≤ A * A ∧ A * A ≤ 81 := ⟨by have := Int.mul_le_mul h1 h1 (by decide) (by omega); omega, by have := Int.mul_le_mul h2 h2 (by omega) (by decide); omega⟩
  have BB : 0 ≤ b * b ∧ b * b ≤ 81 := ⟨Int.mul_nonneg h3 h3, by have := Int.mul_le_mul h4 h4 h3 (by decide); omega⟩
  have AB : 0 ≤ A * b ∧ A * b ≤ 81 := ⟨Int.mul_nonneg (by omega) h3, by have := Int.mul_le_mul h2 h4 h3 (by decide); omega⟩
  have e2 : 2 * A * b = 2 * (A * b) := Int.mul_assoc ..
  generalize hx : A * A - b * b = x
  generalize hy : 2 * A * b = y
  generalize hw : A * A + b * b = W
  have id : x * x + y * y = W * W := by rw [← hx, ← hy, ← hw]; grind
  have W1 : 1 ≤ W ∧ W ≤ 162 := by omega
  have WW : 1 ≤ W * W ∧ W * W ≤ 26244 := ⟨by have := Int.mul_le_mul W1.1 W1.1 (by decide) (by omega); omega, by have := Int.mul_le_mul W1.2 W1.2 (by omega) (by decide); omega⟩
  have xx : 0 ≤ x * x := by have := isq_nn x; exact this
  have yy : 0 ≤ y * y := by have := isq_nn y; exact this
  have b1 : (s * (x * x - y * y)).natAbs ≤ 26244 := by
    rw [Int.natAbs_mul]
    rcases hs with rfl | rfl <;> simp <;> omega
  have xy1 : 2 * x * y ≤ W * W := by have := isq_nn (x - y); grind
  have xy2 : -(W * W) ≤ 2 * x * y := by have := isq_nn (x + y); grind
  have b2 : (s * (2 * x * y)).natAbs ≤ 26244 := by
    rw [Int.natAbs_mul]
    rcases hs with rfl | rfl <;> simp only [Int.natAbs_one, Int.natAbs_neg, Nat.one_mul] <;> omega
  have w0 : W * W ≠ 0 := by omega
  have ba : ∀ n : Int, n.natAbs ≤ 26244 → Bd 16 n := fun n h => Nat.lt_of_le_of_lt h (by decide)
  have f1 : Fv 16 (redD (s * (x * x - y * y)) (W * W)) _ := Fv.red w0 (ba _ b1) (ba _ (by omega))
  have f2 : Fv 16 (redD (s * (2 * x * y)) (W * W)) _ := Fv.red w0 (ba _ b2) (ba _ (by omega))
  have q0 := q_ne (show W ≠ 0 by omega)
  have idr : (x : Rat) * x + (y : Rat) * y = (W : Rat) * W := by
    have := congrArg (fun z : Int => (z : Rat)) id
    simpa only [Rat.intCast_add, Rat.intCast_mul] using this
  have t2 : ((2 : Int) : Rat) = 2 := rfl
  have fin : ∀ u v : Rat, u * u + v * v = 1 → ((s * (x * x - y * y) : Int) : Rat) / ((W * W : Int) : Rat) = u * u - v * v → ((s * (2 * x * y) : Int) : Rat) / ((W * W : Int) : Rat) = 2 * u * v → ∃ w, Wy w ∧ Pt 16 (.tup [redD (s * (x * x - y * y)) (W * W), redD (s * (2 * x * y)) (W * W)]) (sqw w) := fun u v h1 h2 h3 => by
    obtain ⟨w, hw, e⟩ := wy_of h1
    refine ⟨w, hw, ?_⟩
    rw [e]
    exact ⟨_, _, rfl, f1.to h2, f2.to h3⟩
  rcases hs with rfl | rfl
  · refine fin ((x : Rat) / W) ((y : Rat) / W) ?_ ?_ ?_
    · grind
    · simp only [Rat.intCast_sub, Rat.intCast_mul, Int.one_mul]
      grind
    · simp only [Rat.intCast_mul, Int.one_mul, t2]
      grind
  · refine fin (-((y : Rat) / W)) ((x : Rat) / W) ?_ ?_ ?_
    · grind
    · have : ((-1 : Int) : Rat) = -1 := rfl
      simp only [Rat.intCast_sub, Rat.intCast_mul, this]
      grind
    · have : ((-1 : Int) : Rat) = -1 := rfl
      simp only [Rat.intCast_mul, t2, this]
      grind
/-- the dict's keys -/
def Keys (s : List (D × D)) : Prop := ∃ ws, RgR 16 (s.map (·.1)) ws ∧ ws.Nodup
theorem keys_put {s : List (D × D)} {d v : D} {w : P} (K : Keys s) (h : Pt 16 d (sqw w)) (g : Wy w) : Keys (putL s d v) := by
  obtain ⟨ws, R, hn⟩ := K
  unfold putL
  by_cases c : (s.any fun p => decide (keyD p.1 = keyD d)) = true
  · rw [if_pos c]
    refine ⟨ws, ?_, hn⟩
    rw [List.map_map]
    have : ((fun p : D × D => p.1) ∘ fun p : D × D => if keyD p.1 = keyD d then (p.1, v) else p) = fun p => p.1 := by
      funext p
      simp only [Function.comp_apply]
      split <;> rfl
    rw [this]
    exact R
  · rw [if_neg c]
    refine ⟨ws ++ [w], ?_, ?_⟩
    · rw [List.map_append]
      exact R.append (.cons h g .nil)
    · rw [List.nodup_append]
      refine ⟨hn, by simp, fun a ha b hb e => ?_⟩
      rw [List.mem_singleton] at hb
      subst e hb
      obtain ⟨d', hd, q, _⟩ := R.mem' _ ha
      rw [q.ext h] at hd
      obtain ⟨p, hp, e⟩ := List.mem_map.mp hd
      exact c (List.any_eq_true.mpr ⟨p, hp, decide_eq_true (by rw [e])⟩)
theorem polygon_spec {q n : Int} (h3 : 3 ≤ n) (h8 : n ≤ 8) {S : Sx} (H : HandS S) {φ : D → Sx → Prop} (hφ : ∀ ds ws S', RgR 16 ds ws → ws.Pairwise (fun a b => 0 < cx a b) → ws.length ≤ 8 → HandS S' → φ (.lst ds) S') : Wp (law_polygon_m q [.cell 0, .int n]) S φ := by
  show Wp (bodyM (law_polygon_b q (.cell 0) (.int n))) S φ
  unfold law_polygon_b
  have er : range1 [.int 60] = pure (rangeL 0 60) := by show (if rngOk 60 then pure (rangeL 0 (60 : Int).toNat) else no : M (List D)) = _; rw [if_pos (by decide)]; rfl
  simp only [er, vlR]
  refine Wp.join (χ := fun (s : List (D × D)) S' => Keys s ∧ (s.length : Int) ≤ n ∧ HandS S') (for_inv _ (fun d _ s S1 hI => ?_) _ _ ⟨⟨[], .nil, List.nodup_nil⟩, by simp; omega, H⟩) ?_
  · obtain ⟨K, ln, H1⟩ := hI
    by_cases c : (s.length : Int) < n
    · simp only [c, decide_true, if_true, vlR]
      refine draw_bind H1 (hφ := fun a S2 a0 a1 H2 => ?_)
      simp only [vlR]
      refine draw_bind H2 (hφ := fun b S3 b0 b1 H3 => ?_)
      generalize ha : 1 + a = A
      have A1 : 1 ≤ A ∧ A ≤ 9 := by omega
      have sm : ∀ x y : Int, 0 ≤ x → x ≤ 9 → 0 ≤ y → y ≤ 9 → 0 ≤ x * y ∧ x * y ≤ 81 := fun x y h1 h2 h3 h4 => ⟨Int.mul_nonneg h1 h3, by
        have := Int.mul_le_mul h2 h4 h3 (by decide)
        omega⟩
      have AA := sm A A (by omega) A1.2 (by omega) A1.2
      have BB := sm b b b0 (by omega) b0 (by omega)
      have AB := sm A b (by omega) A1.2 b0 (by omega)
      have AA1 : 1 ≤ A * A := by
        have := Int.mul_le_mul A1.1 A1.1 (by decide) (by omega)
        omega
      have AB2 : 2 * A * b = 2 * (A * b) := Int.mul_assoc ..
      have un2p : ∀ x y : D, un2 (.tup [x, y]) = pure (x, y) := fun _ _ => rfl
      have m64 : ∀ n : Int, n.natAbs ≤ 100000 → n.natAbs < 2 ^ 64 := fun n h => Nat.lt_of_le_of_lt h (by decide)
      simp only [vlR, mulI_l (m64 A (by omega)), mulI_l (m64 b (by omega)), mulI_l (m64 2 (by decide)), mulI_l (m64 (2 * A) (by omega)), un2p, un2_f, mulI_l (m64 (A * A - b * b) (by omega)), mulI_l (m64 (2 * A * b) (by omega)), mulI_l (m64 (2 * (A * A - b * b)) (by omega))]
      have w0 : (A * A + b * b) * (A * A + b * b) ≠ 0 := Int.mul_ne_zero (by omega) (by omega)
      have sW : Sm ((A * A + b * b) * (A * A + b * b)) := Bd.sm (k := 16) (by
        have := Int.mul_le_mul (show A * A + b * b ≤ 162 by omega) (show A * A + b * b ≤ 162 by omega) (by omega) (by decide)
        have := isq_nn (A * A + b * b)
        show _ < 2 ^ 16
        omega)
      refine draw_bind H3 (hφ := fun r S4 r0 r1 H4 => ?_)
      have p0 := ring_pt A1.1 A1.2 b0 (show b ≤ 9 by omega) 1 (.inl rfl)
      have p1 := ring_pt A1.1 A1.2 b0 (show b ≤ 9 by omega) (-1) (.inr rfl)
      rw [Int.one_mul, Int.one_mul] at p0
      rw [Int.neg_one_mul, Int.neg_one_mul] at p1
      have fin : ∀ d : D, (∃ w, Wy w ∧ Pt 16 d (sqw w)) → Wp (putN s d (.bl true) >>= fun f => (pure (Fl.nx f) : M (Fl (List (D × D)) (List (D × D))))) S4 fun f S' => ∃ s', f = Fl.nx s' ∧ Keys s' ∧ (s'.length : Int) ≤ n ∧ HandS S' := fun d ⟨w, g, h⟩ => by
        unfold putN
        rw [if_pos ⟨h.good, by omega⟩, pure_bind]
        refine ⟨_, rfl, keys_put K h g, ?_, H4⟩
        have := putL_len s d (.bl true)
        omega
      have hr : r = 0 ∨ r = 1 := by omega
      rcases hr with rfl | rfl
      · have e0 : range1 [.int (2 * 0)] = pure [] := rfl
        simp only [mulI_l (m64 2 (by decide)), vlR, e0, VL.forM, mulI_l (m64 (A * A + b * b) (by omega)), law_low_eq w0 sW]
        exact fin _ p0
      · have e0 : range1 [.int (2 * 1)] = pure [.int 0, .int 1] := rfl
        simp only [mulI_l (m64 2 (by decide)), vlR, e0, VL.forM, mulI_l (m64 (A * A + b * b) (by omega)), law_low_eq w0 sW, Int.zero_sub]
        exact fin _ p1
    · simp only [c, decide_false, Bool.false_eq_true, if_false, vlR]
      exact ⟨s, rfl, K, ln, H1⟩
  · rintro s S1 ⟨⟨ws, R, hn⟩, ln, H1⟩
    have l1 := R.length
    rw [List.length_map] at l1
    obtain ⟨ds', ws', e, R', pw, l2⟩ := order_eq R hn (by rw [List.length_map]; omega)
    simp only [vlR, e]
    exact hφ _ _ _ R' pw (by omega) H1
end VLib

set_option exponentiation.threshold 20000
/-! VLGe: what is no plate; plates that lie over each other. -/
namespace VLib
open PySem PySem.Spec VL VLG
theorem frD_inj {a b c d : Int} (h : frD a b = frD c d) : a = c ∧ b = d := by
  unfold frD at h
  injection h with h
  injection h with h1 h
  injection h1 with h1
  injection h with h2 _
  injection h2 with h2
  exact ⟨h1, h2⟩
/-! ### what is no point -/
theorem nopt_ty {d : D} {t : Ty} (h : d.ty = some t) (h2 : t ≠ .tuple) : is_point_m [d] = pure (.bl false) := by
  show bodyM (is_point_b d) = _
  unfold is_point_b
  simp only [pure_bind, isaD_ok h]
  cases t <;> first | rfl | exact absurd rfl h2
theorem nopt_len {xs : List D} (h : xs.length ≠ 2) : is_point_m [.tup xs] = pure (.bl false) := by
  show bodyM (is_point_b (.tup xs)) = _
  unfold is_point_b
  simp only [vlR, isa_t, show ((xs.length : Int) = 2) = False from eq_false (by omega)]
  rfl
theorem nopt_1 {x y : D} (h : is_fraction_m [x] = pure (.bl false)) : is_point_m [.tup [x, y]] = pure (.bl false) := by
  show bodyM (is_point_b (.tup [x, y])) = _
  unfold is_point_b
  simp only [pure_bind, isa_t, truB_b, on1_c, len_t2, eqD_i, it0, it1, onN1, h]
  rfl
theorem nopt_2 {x y : D} (h0 : is_fraction_m [x] = pure (.bl true)) (h : is_fraction_m [y] = pure (.bl false)) : is_point_m [.tup [x, y]] = pure (.bl false) := by
  show bodyM (is_point_b (.tup [x, y])) = _
  unfold is_point_b
  simp only [pure_bind, isa_t, truB_b, on1_c, len_t2, eqD_i, it0, it1, onN1, h0, h]
  rfl
theorem repr_b {b : Bool} : ∃ s, PyData.strOk s = true ∧ repr1 (.bl b) = pure (.str s) := by
  cases b
  · exact ⟨_, strOk_of _, (by
      unfold repr1
      rw [if_pos ⟨rfl, rfl, rfl, by decide, by decide +kernel⟩]
      rfl : repr1 (.bl false) = pure (.str (Str.ofString "False")))⟩
  · exact ⟨_, strOk_of _, (by
      unfold repr1
      rw [if_pos ⟨rfl, rfl, rfl, by decide, by decide +kernel⟩]
      rfl : repr1 (.bl true) = pure (.str (Str.ofString "True")))⟩
theorem lc_psr {j k : Nat} {g : D → M D} {T : P → P} (hg : ∀ d p, Pt j d p → ∃ w, g d = pure w ∧ Pt k w (T p)) {ds : List D} {ps : List P} (R : PsR j ds ps) (hl : ds.length ≤ lim) : ∃ es, lcL (lcT (fun d => pure d) (fun _ => pure true) g) ds = pure es ∧ PsR k es (ps.map T) := by
  unfold lcL
  rw [if_pos hl]
  clear hl
  induction R with
  | nil => exact ⟨[], rfl, .nil⟩
  | cons h t ih =>
    obtain ⟨w, e, q⟩ := hg _ _ h
    obtain ⟨es, e2, q2⟩ := ih
    refine ⟨w :: es, ?_, .cons q q2⟩
    show (lcT _ _ g _ >>= fun o => lcM _ _ >>= fun r => pure (o.toList ++ r)) = _
    rw [e2]
    unfold lcT
    rw [pure_bind, pure_bind, if_pos rfl, e]
    rfl
theorem cut_from {α : Type} {xs : List α} {j : Nat} (h : j ≤ xs.length) : cutA xs (some (j : Int)) none = xs.drop j := by
  unfold cutA
  rw [HT.sIx_nat, HT.sIx_none, Nat.min_eq_left h]
  exact List.take_of_length_le (by rw [List.length_drop]; exact Nat.le_refl _)
theorem cut_to {α : Type} {xs : List α} {j : Nat} (h : j ≤ xs.length) : cutA xs none (some (j : Int)) = xs.take j := by
  unfold cutA
  rw [HT.sIx_nat, HT.sIx_none, Nat.min_eq_left h]
  rfl
theorem cut_len {α : Type} {xs : List α} {l h : Option Int} : (cutA xs l h).length ≤ xs.length := by
  unfold cutA
  rw [List.length_take, List.length_drop]
  omega
theorem cut_mem {α : Type} {xs : List α} {l h : Option Int} {d : α} (hd : d ∈ cutA xs l h) : d ∈ xs := by
  unfold cutA at hd
  exact List.mem_of_mem_drop (List.mem_of_mem_take hd)
theorem length_eq {k : Nat} {a b : D} {p r : P} (h : Pt k a p) (g : Pt k b r) (z : k ≤ 400 := by decide) : ∃ x, length_of_m [a, b] = pure x ∧ isD x .non = pure (.bl (!tb (IsSq (d2 p r)))) := by
  obtain ⟨e, x, e1, e2, _, e4⟩ := side_len h g (by omega)
  refine ⟨x, ?_, e4⟩
  show bodyM (length_of_b a b) = _
  unfold length_of_b
  simp only [vlR, Pv.is h (show k ≤ 9000 by omega), Pv.is g (show k ≤ 9000 by omega), Bool.not_true, Bool.false_eq_true, if_false, e1, e2]
theorem turn_eq {k : Nat} {a b c : D} {p q r : P} (h1 : Pt k a p) (h2 : Pt k b q) (h3 : Pt k c r) (z : k ≤ 1000 := by decide) : turn_of_m [a, b, c] = pure (.int (sgv (cr p q r))) := by
  show bodyM (turn_of_b a b c) = _
  unfold turn_of_b
  simp only [vlR, Pv.is h1 (show k ≤ 9000 by omega), Pv.is h2 (show k ≤ 9000 by omega), Pv.is h3 (show k ≤ 9000 by omega), side_sign_eq h1 h2 h3 z, Bool.not_true, Bool.false_eq_true, if_false]
  rfl
/-! ### what is no plate -/
theorem noplate_ty {d : D} {t : Ty} (h : d.ty = some t) (h2 : t ≠ .tuple) (h3 : t ≠ .list) : is_plate_m [d] = pure (.bl false) := by
  have e : is_row_m [d] = pure (.bl false) := by
    show bodyM (is_row_b d) = _
    unfold is_row_b
    simp only [pure_bind, isaD_ok h]
    cases t <;> first | rfl | exact absurd rfl h2 | exact absurd rfl h3
  show bodyM (is_plate_b d) = _
  unfold is_plate_b
  simp only [vlR, e, Bool.not_false, if_true]
theorem noplate_bad {ds : List D} {x : D} (h : Rw ds x) (hl : ds.length ≤ 1000) (h1 : ∀ d ∈ ds, ∃ b : Bool, is_point_m [d] = pure (.bl b)) (h2 : ∃ d ∈ ds, is_point_m [d] = pure (.bl false)) : is_plate_m [x] = pure (.bl false) := by
  show bodyM (is_plate_b x) = _
  unfold is_plate_b c_LEAST_CORNERS c_MOST_CORNERS
  let t : D → Bool := fun d => tb (is_point_m [d] = pure (.bl true))
  have ht : ∀ d ∈ ds, is_point_m [d] = pure (.bl (t d)) := fun d hd => by
    obtain ⟨b, e⟩ := h1 d hd
    rw [e]
    cases b with
    | true => rw [show t d = true from tb_iff.mpr e]
    | false =>
      have : t d = false := by
        cases c : t d
        · rfl
        · have q := tb_iff.mp c
          rw [e] at q
          have := congrFun q ([] : Sx)
          injection this with this _
          injection this with this
          exact absurd this (by decide)
      rw [this]
  have af : ds.all t = false := by
    obtain ⟨d, hd, e⟩ := h2
    cases c : ds.all t
    · rfl
    · have := List.all_eq_true.mp c d hd
      have q := ht d hd
      rw [this, e] at q
      have := congrFun q ([] : Sx)
      injection this with this _
      injection this with this
      exact absurd this (by decide)
  have a1 : ∀ b : D → M (Option D), (∀ d, b d = noX (is_point_m [d] >>= fun y => pure (some y))) → lcL b ds = pure (ds.map fun d => .bl (t d)) := fun b hb => lc_bl (Nat.le_trans hl (by decide)) fun d hd => by
    rw [hb d, ht d hd]
    rfl
  simp only [vlR, h.isrow, h.len, h.row, Bool.not_true, Bool.false_eq_true, if_false]
  rw [a1 _ fun d => by unfold lcT; simp only [vlR, if_true]]
  simp only [vlR, all1_map, af, Bool.not_false, if_true]
  cases decide ((3 : Int) ≤ ds.length) <;> cases decide ((ds.length : Int) ≤ 8) <;> rfl
theorem nOw {ps : List P} (h : ps.length < 3) : tb (Ow ps) = false := by
  cases d : tb (Ow ps)
  · rfl
  · have := (tb_iff.mp d).lo
    omega
/-! ### parted -/
/-- some side of ps has all of qs on its right, or on it -/
def Part (ps qs : List P) : Prop := ∃ i, i < ps.length ∧ ∀ j, j < qs.length → ¬ 0 < cr (at_ ps (prv ps.length i)) (at_ ps i) (at_ qs j)
def Over (ps qs : List P) : Prop := ¬ Part ps qs ∧ ¬ Part qs ps
theorem Over.symm {ps qs : List P} (h : Over ps qs) : Over qs ps := ⟨h.2, h.1⟩
theorem Over.self {ps : List P} (h : Ow ps) : Over ps ps := by
  have n3 := h.lo
  have : ¬ Part ps ps := fun ⟨i, hi, q⟩ => by
    have : ∃ k, k < ps.length ∧ k ≠ i ∧ k ≠ prv ps.length i := by
      unfold prv
      by_cases c : i = 0
      · exact ⟨1, by omega, by omega, by rw [if_pos c]; omega⟩
      · by_cases d : i = 1
        · exact ⟨2, by omega, by omega, by rw [if_neg c]; omega⟩
        · exact ⟨0, by omega, by omega, by rw [if_neg c]; omega⟩
    obtain ⟨k, hk, n1, n2⟩ := this
    exact q k hk (h.cv i hi k hk n1 n2)
  exact ⟨this, this⟩
theorem part_tr {ps qs : List P} {U V F A B : Rat} (u : U * U + V * V = 1) (hF : F ≠ 0) : Part (ps.map (tr U V F A B)) (qs.map (tr U V F A B)) ↔ Part ps qs := by
  have sg : ∀ a b c, 0 < cr (tr U V F A B a) (tr U V F A B b) (tr U V F A B c) ↔ 0 < cr a b c := fun a b c => by
    rw [cr_tr u]
    constructor
    · intro h
      have q : 0 < F * F := by
        have := pos2 hF (show (0 : Rat) < 1 by decide)
        grind
      exact pos_of_mul q h
    · exact pos2 hF
  unfold Part
  simp only [List.length_map]
  constructor
  · rintro ⟨i, hi, q⟩
    refine ⟨i, hi, fun j hj z => q j hj ?_⟩
    rw [at_map _ _ hi, at_map _ _ hj, at_map _ _ (prv_lt hi), sg]
    exact z
  · rintro ⟨i, hi, q⟩
    refine ⟨i, hi, fun j hj z => q j hj ?_⟩
    rw [at_map _ _ hi, at_map _ _ hj, at_map _ _ (prv_lt hi), sg] at z
    exact z
theorem rot_len {ps : List P} {a : Nat} (ha : a < ps.length) : (ps.drop a ++ ps.take a).length = ps.length := by
  rw [List.length_append, List.length_drop, List.length_take]
  omega
theorem rot_prv {n a i : Nat} (ha : a < n) (hi : i < n) : (if prv n i < n - a then prv n i + a else prv n i - (n - a)) = prv n (if i < n - a then i + a else i - (n - a)) := by
  unfold prv
  (repeat' split) <;> omega
theorem rot_on {n a j : Nat} (ha : a < n) (hj : j < n) : ∃ i, i < n ∧ (if i < n - a then i + a else i - (n - a)) = j := by
  by_cases c : j < a
  · exact ⟨j + (n - a), by omega, by rw [if_neg (by omega)]; omega⟩
  · exact ⟨j - a, by omega, by rw [if_pos (by omega)]; omega⟩
theorem part_rot_r {ps qs : List P} {a : Nat} (ha : a < qs.length) : Part ps (qs.drop a ++ qs.take a) ↔ Part ps qs := by
  unfold Part
  rw [rot_len ha]
  constructor
  · rintro ⟨i, hi, q⟩
    refine ⟨i, hi, fun j hj z => ?_⟩
    obtain ⟨k, hk, e⟩ := rot_on ha hj
    have := q k hk
    rw [at_rot ha hk, e] at this
    exact this z
  · rintro ⟨i, hi, q⟩
    refine ⟨i, hi, fun j hj => ?_⟩
    rw [at_rot ha hj]
    exact q _ (by split <;> omega)
theorem part_rot_l {ps qs : List P} {a : Nat} (ha : a < ps.length) : Part (ps.drop a ++ ps.take a) qs ↔ Part ps qs := by
  unfold Part
  rw [rot_len ha]
  constructor
  · rintro ⟨i, hi, q⟩
    rw [at_rot ha hi, at_rot ha (prv_lt hi), rot_prv ha hi] at q
    exact ⟨_, by split <;> omega, q⟩
  · rintro ⟨i, hi, q⟩
    obtain ⟨k, hk, e⟩ := rot_on ha hi
    refine ⟨k, hk, ?_⟩
    rw [at_rot ha hk, at_rot ha (prv_lt hk), rot_prv ha hk, e]
    exact q
/-- turned about it is none -/
theorem Ow.nrev {ps : List P} (h : Ow ps) : ¬ Ow ps.reverse := fun g => by
  have n3 := h.lo
  have at_rev : ∀ j, j < ps.length → at_ ps.reverse j = at_ ps (ps.length - 1 - j) := fun j hj => by
    unfold at_
    rw [List.getD_eq_getElem?_getD, List.getD_eq_getElem?_getD, List.getElem?_reverse hj]
  have q1 := h.cv 1 (by omega) 2 (by omega) (by decide) (by unfold prv; rw [if_neg (by decide)]; decide)
  have q2 := g.cv (ps.length - 1) (by rw [List.length_reverse]; omega) (ps.length - 3) (by rw [List.length_reverse]; omega) (by omega) (by unfold prv; rw [if_neg (by omega)]; omega)
  have p1 : prv ps.length 1 = 0 := by unfold prv; rw [if_neg (by decide)]
  have p2 : prv ps.reverse.length (ps.length - 1) = ps.length - 2 := by unfold prv; rw [if_neg (by omega)]; omega
  rw [p1] at q1
  rw [p2, at_rev _ (by omega), at_rev _ (by omega), at_rev _ (by omega), show ps.length - 1 - (ps.length - 2) = 1 by omega, show ps.length - 1 - (ps.length - 1) = 0 by omega, show ps.length - 1 - (ps.length - 3) = 2 by omega] at q2
  have : cr (at_ ps 1) (at_ ps 0) (at_ ps 2) = - cr (at_ ps 0) (at_ ps 1) (at_ ps 2) := by unfold cr; grind
  grind
/-- a rectangle -/
theorem Ow.rect {w h : Rat} (hw : 0 < w) (hh : 0 < h) : Ow [(0, 0), (w, 0), (w, h), (0, h)] := by
  have m := Rat.mul_pos hw hh
  refine ⟨by show 3 ≤ 4; decide, by show 4 ≤ 8; decide, fun i hi => ?_, fun i hi k hk n1 n2 => ?_⟩
  · have : i = 0 ∨ i = 1 ∨ i = 2 ∨ i = 3 := by have : i < 4 := hi; omega
    rcases this with rfl | rfl | rfl | rfl
    · exact ⟨h, by show h * h = (0 - 0) * (0 - 0) + (0 - h) * (0 - h); grind⟩
    · exact ⟨w, by show w * w = (w - 0) * (w - 0) + (0 - 0) * (0 - 0); grind⟩
    · exact ⟨h, by show h * h = (w - w) * (w - w) + (h - 0) * (h - 0); grind⟩
    · exact ⟨w, by show w * w = (0 - w) * (0 - w) + (h - h) * (h - h); grind⟩
  · have h1 : i = 0 ∨ i = 1 ∨ i = 2 ∨ i = 3 := by have : i < 4 := hi; omega
    have h2 : k = 0 ∨ k = 1 ∨ k = 2 ∨ k = 3 := by have : k < 4 := hk; omega
    rcases h1 with rfl | rfl | rfl | rfl <;> rcases h2 with rfl | rfl | rfl | rfl <;> first | exact absurd rfl n1 | exact absurd rfl n2 | (simp [at_, prv, cr]; grind)
section
variable {j k : Nat} {ds es : List D} {ps qs : List P} {x y a b : D} {p r : P}
theorem none_left_eq (ha : Pt k a p) (hb : Pt k b r) (h : Rw es y) (R : PsR k es qs) (z : k ≤ 1000 := by decide) : has_none_left_m [a, b, y] = pure (.bl (tb (∀ j, j < es.length → ¬ 0 < cr p r (at_ qs j)))) := by
  show bodyM (has_none_left_b a b y) = _
  unfold has_none_left_b
  simp only [vlR, h.row]
  let t : D → Bool := fun d => tb (∀ q, Pt k d q → ¬ 0 < cr p r q)
  rw [forM_all (t := t) (r := .bl false) fun d hd => ?_]
  · have e : es.all t = tb (∀ j, j < es.length → ¬ 0 < cr p r (at_ qs j)) := by
      rw [Bool.eq_iff_iff, List.all_eq_true, tb_iff]
      constructor
      · intro q j hj
        exact tb_iff.mp (q (es.getD j .non) (by rw [List.getD_eq_getElem?_getD, List.getElem?_eq_getElem hj]; exact List.getElem_mem hj)) _ (R.at hj)
      · intro q d hd
        obtain ⟨j, hj, e⟩ := List.mem_iff_getElem.mp hd
        have pj := R.at hj
        rw [List.getD_eq_getElem?_getD, List.getElem?_eq_getElem hj] at pj
        have pj : Pt k es[j] (at_ qs j) := pj
        rw [e] at pj
        refine tb_iff.mpr fun q' hq' => ?_
        rw [hq'.fn pj]
        exact q j hj
    rw [e]
    cases tb (∀ j, j < es.length → ¬ 0 < cr p r (at_ qs j)) <;> rfl
  · obtain ⟨q, _, hq⟩ := R.mem d hd
    have sp : (0 < sgv (cr p r q)) ↔ 0 < cr p r q := by
      rw [← sgv_1]
      unfold sgv
      split <;> split <;> omega
    have e : t d = !decide (0 < cr p r q) := by
      rw [Bool.eq_iff_iff, tb_iff]
      simp only [Bool.not_eq_true', decide_eq_false_iff_not]
      constructor
      · exact fun w => w q hq
      · intro w q' hq'
        rw [hq'.fn hq]
        exact w
    have ec : crs p.1 p.2 r.1 r.2 q.1 q.2 = cr p r q := rfl
    simp only [vlR, side_sign_eq ha hb hq z, ec, decide_eq_decide.mpr sp]
    rw [e]
    cases decide (0 < cr p r q) <;> rfl
theorem parts_eq (h : Rw ds x) (R : PsR k ds ps) (g : Rw es y) (Q : PsR k es qs) (h0 : 0 < ds.length) (hl : ds.length ≤ 1000) (z : k ≤ 1000 := by decide) : parts_them_m [x, y] = pure (.bl (tb (Part ps qs))) := by
  show bodyM (parts_them_b x y) = _
  unfold parts_them_b
  simp only [vlR, sides_eq h h0 hl, show rowD (.lst (SD ds)) = pure (SD ds) from rfl]
  have l1 := R.length
  have l2 := Q.length
  let C : Nat → Prop := fun i => ∀ j, j < es.length → ¬ 0 < cr (at_ ps (prv ds.length i)) (at_ ps i) (at_ qs j)
  let t : D → Bool := fun s => tb (∀ i, i < ds.length → s = .tup [ds.getD (prv ds.length i) .non, ds.getD i .non] → ¬ C i)
  rw [forM_all (t := t) (r := .bl true) fun s hs => ?_]
  · have e : (SD ds).all t = !tb (Part ps qs) := by
      rw [Bool.eq_iff_iff, List.all_eq_true, Bool.not_eq_true', ← Bool.not_eq_true, tb_iff]
      constructor
      · rintro q ⟨i, hi, w⟩
        rw [← l1] at hi w
        refine tb_iff.mp (q _ ((mem_SD h0).mpr ⟨i, hi, rfl⟩)) i hi rfl fun j hj => w j (by omega)
      · intro q s hs
        refine tb_iff.mpr fun i hi _ c => q ⟨i, by omega, ?_⟩
        rw [← l1, ← l2]
        exact c
    rw [e]
    cases tb (Part ps qs) <;> rfl
  · obtain ⟨i, hi, rfl⟩ := (mem_SD h0).mp hs
    have pa := R.at (prv_lt hi)
    have pb := R.at hi
    simp only [un2_t, vlR, none_left_eq pa pb g Q z]
    have e : t (.tup [ds.getD (prv ds.length i) .non, ds.getD i .non]) = !tb (C i) := by
      rw [Bool.eq_iff_iff, Bool.not_eq_true', ← Bool.not_eq_true, tb_iff, tb_iff]
      constructor
      · exact fun w => w i hi rfl
      · intro w i' hi' e1
        injection e1 with e1
        injection e1 with e3 e1
        injection e1 with e4 _
        have a1 := (R.at (prv_lt hi')).fn (e3 ▸ pa)
        have a2 := (R.at hi').fn (e4 ▸ pb)
        intro c
        refine w fun j hj => ?_
        have := c j hj
        rw [a1, a2] at this
        exact this
    rw [e]
    show seqF (if tb (C i) = true then _ else _) _ = _
    cases tb (C i) <;> rfl
theorem overlap_eq (h : Rw ds x) (R : PsR k ds ps) (g : Rw es y) (Q : PsR k es qs) (h0 : 0 < ds.length) (g0 : 0 < es.length) (hl : ds.length ≤ 1000) (gl : es.length ≤ 1000) (z : k ≤ 1000 := by decide) : overlap_m [x, y] = pure (.bl (tb (Over ps qs))) := by
  show bodyM (overlap_b x y) = _
  unfold overlap_b
  simp only [vlR, parts_eq h R g Q h0 hl z, parts_eq g Q h R g0 gl z]
  have e : tb (Over ps qs) = (!tb (Part ps qs) && !tb (Part qs ps)) := by
    rw [Bool.eq_iff_iff, tb_iff]
    simp only [Bool.and_eq_true, Bool.not_eq_true', ← Bool.not_eq_true, tb_iff]
    exact Iff.rfl
  rw [e]
  cases tb (Part ps qs) <;> cases tb (Part qs ps) <;> rfl
theorem lie_over_eq (h : Rw ds x) (R : PsR k ds ps) (g : Rw es y) (Q : PsR k es qs) (h1 : Ow ps) (h2 : Ow qs) (z : k ≤ 400 := by decide) : lie_over_m [x, y] = pure (.bl (tb (Over ps qs))) := by
  show bodyM (lie_over_b x y) = _
  unfold lie_over_b
  have l1 := R.length
  have l2 := Q.length
  have a1 := h1.lo
  have a2 := h1.hi
  have b1 := h2.lo
  have b2 := h2.hi
  simp only [vlR, plate_eq h R (by omega) z, plate_eq g Q (by omega) z, tb_iff.mpr h1, tb_iff.mpr h2, Bool.not_true, Bool.false_eq_true, if_false, overlap_eq h R g Q (by omega) (by omega) (by omega) (by omega) (by omega)]
theorem lie_over_no1 (h : is_plate_m [x] = pure (.bl false)) : lie_over_m [x, y] = err ⟨"NoPlate", []⟩ := by
  show bodyM (lie_over_b x y) = _
  unfold lie_over_b
  simp only [vlR, h]
  rfl
theorem lie_over_no2 (h0 : is_plate_m [x] = pure (.bl true)) (h : is_plate_m [y] = pure (.bl false)) : lie_over_m [x, y] = err ⟨"NoPlate", []⟩ := by
  show bodyM (lie_over_b x y) = _
  unfold lie_over_b
  simp only [vlR, h0, h]
  rfl
end
end VLib

set_option exponentiation.threshold 20000
/-! VLTd: small texts; comprehensions that draw. -/
namespace VLib2
open PySem PySem.Spec VL VLib VLT PySem.NumText TL SX PyProof.Rows
def okS (n : Nat) (x : Str) : Prop := x.length ≤ n ∧ asc x.cps.toList
theorem okS.mono {m n : Nat} {x : Str} (h : okS m x) (z : m ≤ n) : okS n x := ⟨Nat.le_trans h.1 z, h.2⟩
theorem okS_S {n : Nat} {a : List Nat} (h : asc a) (z : a.length ≤ n) : okS n (S a) := ⟨by rw [S_len]; exact z, h⟩
theorem okS.app {m n : Nat} {x y : Str} (h : okS m x) (g : okS n y) : okS (m + n) (x ++ y) := ⟨by rw [Str.length_append]; exact Nat.add_le_add h.1 g.1, by
  show asc (tl (x ++ y))
  rw [tl_append]
  exact h.2.app g.2⟩
theorem okS_lit {n : Nat} {x : Str} (h : (decide (x.length ≤ n) && x.cps.toList.all (fun c => decide (c < 128))) = true) : okS n x := by
  rw [Bool.and_eq_true] at h
  exact ⟨of_decide_eq_true h.1, asc_lit h.2⟩
theorem addT {m n : Nat} {x y : Str} (h : okS m x) (g : okS n y) (z : m + n ≤ 10000 := by decide) : addD (.str x) (.str y) = pure (.str (x ++ y)) := by
  show (if x.length + y.length ≤ lim then pure (D.str (x ++ y)) else no) = _
  rw [if_pos (Nat.le_trans (Nat.add_le_add h.1 g.1) (Nat.le_trans z (by decide)))]
theorem okS.cut {n : Nat} {x : Str} {l h : Option Int} (q : okS n x) : okS n (L2.cutS x l h) := by
  have e : L2.cutS x l h = S (cutA x.cps.toList l h) := by
    rw [← cutS_S, S_tl]
  rw [e]
  refine okS_S (fun c hc => q.2 c (cut_mem hc)) (Nat.le_trans cut_len ?_)
  rw [← len_tl]
  exact q.1
theorem sliceT {n : Nat} {x : Str} {l h : Option Int} (q : okS n x) (z : n ≤ 10000 := by decide) : sliceD (.str x) l h = pure (.str (L2.cutS x l h)) := by
  show (if x.length ≤ lim then pure (D.str (L2.cutS x l h)) else no) = _
  rw [if_pos (Nat.le_trans q.1 (Nat.le_trans z (by decide)))]
theorem joinL_mem {s : List Nat} : ∀ {ps : List (List Nat)} {c : Nat}, c ∈ joinL s ps → c ∈ s ∨ ∃ p ∈ ps, c ∈ p
  | [], c, h => by cases h
  | [p], c, h => .inr ⟨p, List.mem_singleton.mpr rfl, h⟩
  | p :: q :: r, c, h => by
    have h : c ∈ p ++ (s ++ joinL s (q :: r)) := h
    rw [List.mem_append, List.mem_append] at h
    rcases h with h | h | h
    · exact .inr ⟨p, List.mem_cons_self .., h⟩
    · exact .inl h
    · rcases joinL_mem h with h | ⟨x, hx, h⟩
      · exact .inl h
      · exact .inr ⟨x, List.mem_cons_of_mem _ hx, h⟩
theorem replace_join {x z : Str} : Txt.replace x (S [47]) z = Txt.join z (Txt.split x (S [47])) := by
  unfold Txt.replace Txt.split
  have hy : ((S [47]).length == 0) = false := rfl
  rw [hy, Bool.false_and, Bool.or_false]
  have hk : ¬ Builtin.Str.strKind x < Builtin.Str.strKind (S [47]) := kind_ok (all256 (by decide))
  rw [decide_eq_false hk, Bool.or_false]
  by_cases c : x.length < (S [47]).length
  · have : x = S [] := by
      have : x.length = 0 := by
        have : (S [47]).length = 1 := rfl
        omega
      rw [← S_tl x]
      rw [len_tl] at this
      rw [show x.cps.toList = [] from List.length_eq_zero_iff.mp this]
    subst this
    have o : (Builtin.Str.occurrences (S []) (S [47]) 0 (S []).length ((S []).length + 1)).isEmpty = true := by decide +kernel
    rw [if_pos o, if_pos (decide_eq_true c)]
    rfl
  · rw [decide_eq_false c]
    simp only [Bool.false_eq_true, if_false]
    split <;> rfl
theorem okS.repl {m n : Nat} {x z : Str} (h : okS m x) (g : okS n z) : okS (m + (m + 1) * n) (Txt.replace x (S [47]) z) := by
  refine ⟨Nat.le_trans (TK.replace_len _ _ _) (Nat.add_le_add h.1 (Nat.mul_le_mul (Nat.succ_le_succ h.1) g.1)), ?_⟩
  rw [replace_join, ← S_tl x, ← S_tl z, split_S (by simp) (by decide), join_S]
  intro c hc
  rcases joinL_mem hc with hc | ⟨p, hp, hc⟩
  · exact g.2 c hc
  · exact h.2 c ((spl_mem _ _ (Nat.le_refl _) p hp).1 c hc)
/-! ### comprehensions that draw -/
theorem noX_wp {α : Type} {m : M α} {S0 : Sx} {φ : α → Sx → Prop} (h : Wp m S0 φ) : Wp (noX m) S0 φ := by
  obtain ⟨a, S', e, z⟩ := h.run
  unfold Wp noX
  rw [e]
  exact z
theorem lcM_wp {b : D → M (Option D)} {P : D → Prop} {I : Sx → Prop} (h : ∀ d S0, I S0 → Wp (b d) S0 fun o S' => ∃ e, o = some e ∧ P e ∧ I S') : ∀ (ds : List D) (S0 : Sx), I S0 → Wp (lcM b ds) S0 fun es S' => es.length = ds.length ∧ (∀ e ∈ es, P e) ∧ I S'
  | [], S0, hI => by
    show Wp (pure []) S0 _
    exact ⟨rfl, fun e he => (by cases he), hI⟩
  | d :: ds, S0, hI => by
    show Wp (b d >>= fun o => lcM b ds >>= fun r => pure (o.toList ++ r)) S0 _
    refine Wp.bind (h d S0 hI) ?_
    rintro _ S1 ⟨e, rfl, he, h1⟩
    refine Wp.bind (lcM_wp h ds S1 h1) ?_
    rintro r S2 ⟨r1, r2, r3⟩
    refine ⟨by show (e :: r).length = _; rw [List.length_cons, List.length_cons, r1], fun x hx => ?_, r3⟩
    rcases List.mem_cons.mp (show x ∈ e :: r from hx) with rfl | hx
    · exact he
    · exact r2 x hx
theorem lcL_wp {me : D → M D} {P : D → Prop} {I : Sx → Prop} (h : ∀ d S0, I S0 → Wp (me d) S0 fun e S' => P e ∧ I S') {ds : List D} (hl : ds.length ≤ 1000) {S0 : Sx} (hI : I S0) : Wp (lcL (lcT (β := D) (fun d => pure d) (fun _ => pure true) me) ds) S0 fun es S' => es.length = ds.length ∧ (∀ e ∈ es, P e) ∧ I S' := by
  unfold lcL
  rw [if_pos (Nat.le_trans hl (by decide))]
  refine lcM_wp (fun d S1 h1 => ?_) ds S0 hI
  unfold lcT
  refine noX_wp ?_
  simp only [vlR, if_true]
  refine Wp.bind (h d S1 h1) ?_
  rintro e S2 ⟨e1, e2⟩
  exact ⟨e, rfl, e1, e2⟩
end VLib2

set_option exponentiation.threshold 20000
namespace K62
open PySem PySem.Spec VL VLib VLT PySem.NumText TL SX PyProof.Rows
open VLib2 (okS asc okS_S okS_lit addT sliceT numO frO word_frac_eq fraction_of_eq frac_word_eq fraction_text_eq like_i like_S like_f like_Sf like_of any_bind any_spec hand2_spec drawn_fraction_spec lcL_wp frL_asc frL_len dv_lt neS asc_nil l_)
/-! ### the words of a text -/
def pr (i : Nat) (w : List Nat) : D := .tup [.int (i : Int), .str (S w)]
def en : Nat → List (List Nat) → List D
  | _, [] => []
  | i, w :: ws => pr i w :: en (i + 1) ws
theorem en_zip : ∀ (ws : List (List Nat)) (i : Nat), zipD ((List.range' i ws.length).map fun (i : Nat) => D.int i) (ws.map fun p => D.str (S p)) = en i ws
  | [], _ => rfl
  | w :: ws, i => by
    have ih := en_zip ws (i + 1)
    unfold zipD at ih ⊢
    rw [List.length_cons, List.range'_succ, List.map_cons, List.map_cons, List.zip_cons_cons, List.map_cons, ih]
    rfl
theorem en_eq (ws : List (List Nat)) : enumL (ws.map fun p => D.str (S p)) = en 0 ws := by
  unfold enumL
  rw [List.length_map, List.range_eq_range', en_zip]
def okw (w : List Nat) : Prop := asc w ∧ w.length ≤ 400
def rd : List (List Nat) → Nat → List D → Nat ⊕ List D
  | [], _, s => .inr s
  | w :: ws, i, s => match tell w with
    | none => .inl (i + 1)
    | some (p, q) => rd ws (i + 1) (s ++ [frD p q])
theorem for_nx {γ δ : Type} {b : D → γ → M (Fl γ γ)} {x : D} {xs : List D} {s s' : γ} (h : b x s = pure (.nx s')) : (forM b (x :: xs) s : M (Fl δ γ)) = forM b xs s' := by
  rw [VL.forM, h, pure_bind]
theorem for_rd {δ : Type} {b : D → List D → M (Fl (List D) (List D))} {e : Nat → M (Fl δ (List D))} (h0 : ∀ i w s xs, okw w → tell w = none → forM b (pr i w :: xs) s = e (i + 1)) (h1 : ∀ i w s p q, okw w → tell w = some (p, q) → s.length < lim → b (pr i w) s = pure (.nx (s ++ [frD p q]))) : ∀ (ws : List (List Nat)) (i : Nat) (s : List D), (∀ w ∈ ws, okw w) → s.length + ws.length ≤ lim → forM b (en i ws) s = (match rd ws i s with | .inl k => e k | .inr l => pure (.nx l))
  | [], i, s, _, _ => rfl
  | w :: ws, i, s, h, hl => by
    have hw := h w (List.mem_cons_self ..)
    rw [List.length_cons] at hl
    unfold en rd
    cases t : tell w with
    | none => exact h0 i w s _ hw t
    | some pq =>
      obtain ⟨p, q⟩ := pq
      rw [for_nx (h1 i w s p q hw t (by omega))]
      exact for_rd h0 h1 ws (i + 1) _ (fun x hx => h x (List.mem_cons_of_mem _ hx)) (by rw [List.length_append]; show s.length + 1 + _ ≤ _; omega)
/-- a text of few small words -/
structure JT (ws : List (List Nat)) : Prop where
  ne : ws ≠ []
  ok : ∀ w ∈ ws, okw w
  fr : ∀ w ∈ ws, 32 ∉ w
  le : ws.length ≤ 100
def wordsOf (ws : List (List Nat)) : List (List Nat) := if joinL [32] ws = [] then [] else ws
theorem join_asc : ∀ {ws : List (List Nat)}, (∀ w ∈ ws, okw w) → asc (joinL [32] ws) := fun h c hc => by
  rcases VLib2.joinL_mem hc with hc | ⟨p, hp, hc⟩
  · rw [List.mem_singleton.mp hc]; decide
  · exact (h p hp).1 c hc
theorem join_len : ∀ {ws : List (List Nat)}, (∀ w ∈ ws, okw w) → (joinL [32] ws).length ≤ 401 * ws.length
  | [], _ => Nat.le_refl _
  | [w], h => by
    have := (h w (List.mem_cons_self ..)).2
    show w.length ≤ 401 * 1
    omega
  | w :: v :: r, h => by
    have h1 := (h w (List.mem_cons_self ..)).2
    have ih := join_len (ws := v :: r) fun x hx => h x (List.mem_cons_of_mem _ hx)
    show (w ++ ([32] ++ joinL [32] (v :: r))).length ≤ _
    rw [List.length_append, List.length_append, List.length_cons (a := w)]
    have : ([32] : List Nat).length = 1 := rfl
    omega
section
variable {ws : List (List Nat)}
theorem JT.asc (h : JT ws) : asc (joinL [32] ws) := join_asc h.ok
theorem JT.len (h : JT ws) : (joinL [32] ws).length ≤ 40100 := by
  have := join_len h.ok
  have := h.le
  omega
theorem JT.split (h : JT ws) : splitS (S (joinL [32] ws)) [.str (S [32])] = pure (.lst (ws.map fun p => D.str (S p))) := by
  show (if ((S [32]).length == 0) = false ∧ (S (joinL [32] ws)).length ≤ lim then pure (D.lst ((Txt.split (S (joinL [32] ws)) (S [32])).map D.str)) else no) = _
  rw [if_pos ⟨rfl, by rw [S_len]; exact Nat.le_trans h.len (by decide)⟩, split_S (by simp) (by decide), TL.spl_join h.ne h.fr, List.map_map]
  rfl
theorem JT.oks (h : JT ws) : ∀ w ∈ wordsOf ws, okw w := by
  unfold wordsOf
  split
  · exact fun w hw => by cases hw
  · exact h.ok
theorem JT.les (h : JT ws) : (wordsOf ws).length ≤ 100 := by
  unfold wordsOf
  split
  · exact Nat.zero_le _
  · exact h.le
def toldD : Nat ⊕ List D → D
  | .inl k => .int (k : Int)
  | .inr l => .tup l
theorem l_b : Str.ofString " " = S [32] := rfl
theorem cast1 (i : Nat) : ((i : Int) + 1) = ((i + 1 : Nat) : Int) := by omega
theorem told_eq (h : JT ws) : law_told_words_m [.str (S (joinL [32] ws))] = pure (toldD (rd (wordsOf ws) 0 [])) := by
  show bodyM (law_told_words_b (.str (S (joinL [32] ws)))) = _
  unfold law_told_words_b
  have ne := neS h.asc asc_nil
  have hs := h.split
  have ho := h.oks
  have hl := h.les
  have lp : lstD [] = pure (D.lst []) := rfl
  have e1 : ∀ (xs : List D), enum1 [.lst xs] = pure (enumL xs) := fun _ => rfl
  have L0 : limL [] = pure [] := rfl
  have key : (if (!decide (joinL [32] ws = [])) = true then splitS (S (joinL [32] ws)) [.str (S [32])] else pure (D.lst [])) = pure (.lst ((wordsOf ws).map fun p => D.str (S p))) := by
    unfold wordsOf
    by_cases c : joinL [32] ws = []
    · rw [decide_eq_true c, if_pos c]; rfl
    · rw [decide_eq_false c, if_neg c]; exact hs
  generalize wordsOf ws = us at *
  rw [l_, l_b]
  simp only [vlR, strD, ne, lp, L0, key, e1, en_eq]
  rw [for_rd (e := fun k => pure (.rt (.int (k : Int)))) ?_ ?_ us 0 [] ho (by show 0 + _ ≤ _; rw [Nat.zero_add]; exact Nat.le_trans hl (by decide))]
  · cases rd us 0 [] with
    | inl k => rfl
    | inr l => rfl
  · intro i w s xs hw t
    have e := fraction_of_eq hw.1 (show w.length ≤ 600 by have := hw.2; omega)
    rw [own_tell, t] at e
    have e : VLib2.law_fraction_of_m [.str (S w)] = pure .non := e
    have n : isD .non .non = pure (.bl true) := rfl
    rw [VL.forM]
    unfold pr
    simp only [un2_t, vlR, e, n, if_true, cast1]
  · intro i w s p q hw t sl
    have e := fraction_of_eq hw.1 (show w.length ≤ 600 by have := hw.2; omega)
    rw [own_tell, t] at e
    have e : VLib2.law_fraction_of_m [.str (S w)] = pure (frD p q) := e
    have n : isD (frD p q) .non = pure (.bl false) := rfl
    have sn : snoc s (frD p q) = pure (s ++ [frD p q]) := if_pos sl
    unfold pr
    simp only [un2_t, vlR, e, n, Bool.false_eq_true, if_false, sn]
theorem read_eq (h : JT ws) : read_numbers_m [.str (S (joinL [32] ws))] = (match rd (wordsOf ws) 0 [] with | .inl k => err ⟨"BadText", [("at", .int (k : Int))]⟩ | .inr l => pure (.tup l)) := by
  show bodyM (read_numbers_b (.str (S (joinL [32] ws)))) = _
  unfold read_numbers_b
  have i1 : isaD [.str] (.str (S (joinL [32] ws))) = pure (.bl true) := rfl
  have ne := neS h.asc asc_nil
  have hs := h.split
  have ho := h.ok
  have hl := h.le
  have e1 : ∀ (xs : List D), enum1 [.lst xs] = pure (enumL xs) := fun _ => rfl
  have L0 : limL [] = pure [] := rfl
  rw [l_, l_b]
  simp only [vlR, i1, Bool.not_true, Bool.false_eq_true, if_false, strD, ne, L0]
  unfold wordsOf
  by_cases c : joinL [32] ws = []
  · rw [decide_eq_true c, if_pos c]
    rfl
  rw [decide_eq_false c, if_neg c]
  simp only [Bool.not_false, if_true, hs, vlR, e1, en_eq]
  rw [for_rd (e := fun k => err ⟨"BadText", [("at", .int (k : Int))]⟩) ?_ ?_ ws 0 [] ho (by show 0 + _ ≤ _; rw [Nat.zero_add]; exact Nat.le_trans hl (by decide))]
  · cases rd ws 0 [] with
    | inl k => rfl
    | inr l => rfl
  · intro i w s xs hw t
    have e := word_frac_eq hw.1 (show w.length ≤ 600 by have := hw.2; omega)
    rw [t] at e
    have e : VLib2.word_frac_m [.str (S w)] = pure .non := e
    have n : isD .non .non = pure (.bl true) := rfl
    rw [VL.forM]
    unfold pr
    simp only [un2_t, vlR, e, n, if_true, cast1]
    rfl
  · intro i w s p q hw t sl
    have e := word_frac_eq hw.1 (show w.length ≤ 600 by have := hw.2; omega)
    rw [t] at e
    have e : VLib2.word_frac_m [.str (S w)] = pure (frD p q) := e
    have n : isD (frD p q) .non = pure (.bl false) := rfl
    have sn : snoc s (frD p q) = pure (s ++ [frD p q]) := if_pos sl
    unfold pr
    simp only [un2_t, vlR, e, n, Bool.false_eq_true, if_false, sn]
end
/-! ### texts of rows -/
structure Sh (k n : Nat) (d : D) : Prop where
  p : d.plain = true
  s : d.py.showable = true
  h : d.py.hasDict = false
  dp : d.py.depth ≤ k
  le : d.py.shown.length ≤ n
  ok : PyData.strOk d.py.shown = true
theorem Sh.repr {k n : Nat} {d : D} (z : Sh k n d) (h1 : k ≤ 60) (h2 : n ≤ 1000000) : repr1 d = pure (.str d.py.shown) := by
  unfold repr1
  rw [if_pos ⟨z.p, z.s, z.h, Nat.le_trans z.dp h1, Nat.le_trans z.le h2⟩]
theorem Sh.like {k n : Nat} {d : D} (z : Sh k n d) (h1 : k ≤ 60) (h2 : n ≤ 1000000) : VLib2.law_like_m [d, d] = pure (.bl true) := like_of (z.repr h1 h2) z.ok
structure Shs (k n : Nat) (ds : List D) : Prop where
  p : D.plains ds = true
  s : PyData.showableAll (D.pys ds) = true
  h : PyData.hasDictAll (D.pys ds) = false
  dp : PyData.depthAll (D.pys ds) ≤ k
  le : ((PyData.shownAll (D.pys ds)).map (·.length)).sum ≤ ds.length * n
  ok : ∀ x ∈ PyData.shownAll (D.pys ds), PyData.strOk x = true
  ln : (PyData.shownAll (D.pys ds)).length = ds.length
theorem shs {k n : Nat} : ∀ {ds : List D}, (∀ d ∈ ds, Sh k n d) → Shs k n ds
  | [], _ => ⟨by simp [D.plains], by simp [D.pys, PyData.showableAll], by simp [D.pys, PyData.hasDictAll], by simp [D.pys, PyData.depthAll], by simp [D.pys, PyData.shownAll], by simp [D.pys, PyData.shownAll], by simp [D.pys, PyData.shownAll]⟩
  | d :: ds, h => by
    have z := h d (List.mem_cons_self ..)
    have ih := shs (ds := ds) fun x hx => h x (List.mem_cons_of_mem _ hx)
    refine ⟨by simp [D.plains, z.p, ih.p], by simp [D.pys, PyData.showableAll, z.s, ih.s], by simp [D.pys, PyData.hasDictAll, z.h, ih.h], ?_, ?_, ?_, ?_⟩
    · have a := z.dp
      have b := ih.dp
      simp only [D.pys, PyData.depthAll]
      omega
    · have a := z.le
      have b := ih.le
      simp only [D.pys, PyData.shownAll, List.map_cons, List.sum_cons, List.length_cons, Nat.add_mul, Nat.one_mul]
      omega
    · simp only [D.pys, PyData.shownAll]
      intro x hx
      rcases List.mem_cons.mp hx with rfl | hx
      · exact z.ok
      · exact ih.ok x hx
    · simp only [D.pys, PyData.shownAll, List.length_cons, ih.ln]
theorem strOk_join : ∀ {ts : List Str}, (∀ x ∈ ts, PyData.strOk x = true) → PyData.strOk (Str.join (Str.ofString ", ") ts) = true
  | [], _ => by decide +kernel
  | [x], h => h x (List.mem_cons_self ..)
  | x :: y :: r, h => by
    show PyData.strOk (x ++ Str.ofString ", " ++ Str.join (Str.ofString ", ") (y :: r)) = true
    exact VLib.strOk_app (VLib.strOk_app (h x (List.mem_cons_self ..)) (VLib.strOk_of _)) (strOk_join fun z hz => h z (List.mem_cons_of_mem _ hz))
theorem sh_tup {k n m : Nat} {ds : List D} (h : ∀ d ∈ ds, Sh k n d) (hl : ds.length ≤ m) : Sh (k + 1) (m * (n + 2) + 3) (.tup ds) := by
  have z := shs h
  have le := tupleText_len_le (PyData.shownAll (D.pys ds))
  rw [z.ln] at le
  have q : ds.length * (n + 2) ≤ m * (n + 2) := Nat.mul_le_mul_right _ hl
  rw [Nat.mul_add] at q
  refine ⟨by simp [D.plain, z.p], by simp [D.py, PyData.showable, z.s], by simp [D.py, PyData.hasDict, z.h], ?_, ?_, ?_⟩
  · have := z.dp
    simp only [D.py, PyData.depth]
    omega
  · have := z.le
    simp only [D.py, PyData.shown]
    omega
  · simp only [D.py, PyData.shown]
    unfold tupleText
    refine VLib.strOk_app (VLib.strOk_app (VLib.strOk_of _) (strOk_join z.ok)) ?_
    split <;> exact VLib.strOk_of _
theorem sh_lst {k n m : Nat} {ds : List D} (h : ∀ d ∈ ds, Sh k n d) (hl : ds.length ≤ m) : Sh (k + 1) (m * (n + 2) + 3) (.lst ds) := by
  have z := shs h
  have le := listText_len_le (PyData.shownAll (D.pys ds))
  rw [z.ln] at le
  have q : ds.length * (n + 2) ≤ m * (n + 2) := Nat.mul_le_mul_right _ hl
  rw [Nat.mul_add] at q
  refine ⟨by simp [D.plain, z.p], by simp [D.py, PyData.showable, z.s], by simp [D.py, PyData.hasDict, z.h], ?_, ?_, ?_⟩
  · have := z.dp
    simp only [D.py, PyData.depth]
    omega
  · have := z.le
    simp only [D.py, PyData.shown]
    omega
  · simp only [D.py, PyData.shown]
    rw [listText_eq_join]
    exact VLib.strOk_app (VLib.strOk_app (VLib.strOk_of _) (strOk_join z.ok)) (VLib.strOk_of _)
theorem sh_i {i : Int} (h : Bd 1900 i) : Sh 1 601 (.int i) := ⟨rfl, decide_eq_true (shw_ok h), rfl, by simp [D.py, PyData.depth], lenI h, ok_shI i⟩
theorem sh_f {p q : Int} (hp : Bd 1900 p) (hq : Bd 1900 q) : Sh 2 1209 (frD p q) := by
  have h : ∀ d ∈ [D.int p, D.int q], Sh 1 601 d := fun d hd => by
    simp only [List.mem_cons, List.not_mem_nil, or_false] at hd
    rcases hd with rfl | rfl
    · exact sh_i hp
    · exact sh_i hq
  exact sh_tup (m := 2) h (Nat.le_refl _)
theorem sh_S {a : List Nat} {n : Nat} (h : asc a) (hl : a.length ≤ n) : Sh 1 (10 * n + 2) (.str (S a)) := ⟨rfl, rfl, rfl, by simp [D.py, PyData.depth], by
  have := VLib2.reprText_le h
  show (reprText (S a)).length ≤ _
  omega, VLib2.reprText_ok h⟩
def AF (ds : List D) : Prop := ∀ d ∈ ds, ∃ p q, d = frD p q ∧ p.natAbs < 10 ^ 400 ∧ q.natAbs < 10 ^ 400 ∧ 0 < q ∧ Int.gcd p q = 1
theorem bd400 {p : Int} (h : p.natAbs < 10 ^ 400) : Bd 1900 p := Nat.lt_trans h (by decide +kernel)
theorem sh_row {ds : List D} (h : AF ds) (hl : ds.length ≤ 100) : Sh 3 121103 (.tup ds) ∧ Sh 3 121103 (.lst ds) := by
  have : ∀ d ∈ ds, Sh 2 1209 d := fun d hd => by
    obtain ⟨p, q, rfl, hp, hq, _⟩ := h d hd
    exact sh_f (bd400 hp) (bd400 hq)
  exact ⟨sh_tup this hl, sh_lst this hl⟩
theorem num_lt (n : Nat) : n < 10 ^ (numL n).length := by
  have := dv_lt (numL_digits n)
  rw [numL_val] at this
  exact this
theorem told_lt {a : List Nat} {p q : Int} (hl : a.length ≤ 400) (t : tell a = some (p, q)) : p.natAbs < 10 ^ 400 ∧ q.natAbs < 10 ^ 400 := by
  obtain ⟨e, h, g⟩ := fr_tell t
  have l1 : (numL p.natAbs).length ≤ (frL p q).length := by
    unfold frL sgnL
    rw [List.length_append]
    split <;> (try simp only [List.length_cons]) <;> omega
  have l2 : (numL q.natAbs).length ≤ (frL p q).length ∨ q = 1 := by
    unfold frL
    by_cases c : q = 1
    · exact .inr c
    · left
      rw [List.length_append, if_neg c, List.length_cons]
      omega
  rw [e] at l1 l2
  refine ⟨Nat.lt_of_lt_of_le (num_lt _) (Nat.pow_le_pow_right (by decide) (by omega)), ?_⟩
  rcases l2 with l2 | rfl
  · exact Nat.lt_of_lt_of_le (num_lt _) (Nat.pow_le_pow_right (by decide) (by omega))
  · decide +kernel
theorem rd_ok : ∀ (ws : List (List Nat)) (i : Nat) (s : List D), (∀ w ∈ ws, okw w) → AF s → (∀ k, rd ws i s = .inl k → k ≤ i + ws.length) ∧ (∀ l, rd ws i s = .inr l → AF l ∧ l.length = s.length + ws.length)
  | [], i, s, _, h => ⟨fun k e => (by cases e), fun l e => (by cases e; exact ⟨h, rfl⟩)⟩
  | w :: ws, i, s, hw, h => by
    have hw1 := hw w (List.mem_cons_self ..)
    have hw2 : ∀ x ∈ ws, okw x := fun x hx => hw x (List.mem_cons_of_mem _ hx)
    unfold rd
    cases t : tell w with
    | none => exact ⟨fun k e => (by cases e; simp only [List.length_cons]; omega), fun l e => (by cases e)⟩
    | some pq =>
      obtain ⟨p, q⟩ := pq
      obtain ⟨lt1, lt2⟩ := told_lt hw1.2 t
      obtain ⟨_, h0, g⟩ := fr_tell t
      have ih := rd_ok ws (i + 1) (s ++ [frD p q]) hw2 fun d hd => by
        rcases List.mem_append.mp hd with hd | hd
        · exact h d hd
        · exact ⟨p, q, List.mem_singleton.mp hd, lt1, lt2, h0, g⟩
      refine ⟨fun k e => (by have := ih.1 k e; simp only [List.length_cons]; omega), fun l e => ?_⟩
      obtain ⟨i1, i2⟩ := ih.2 l e
      refine ⟨i1, ?_⟩
      rw [i2, List.length_append]
      simp only [List.length_cons, List.length_nil]
      omega
theorem place_at {i : Int} : placeM "BadText" "at" "read" (err ⟨"BadText", [("at", .int i)]⟩) = (pure (.int i) : M D) := by
  funext S0
  unfold placeM err
  simp only [if_true]
  rfl
theorem is_read_eq {ws : List (List Nat)} (h : JT ws) : law_is_read_m [.str (S (joinL [32] ws))] = pure (.bl true) := by
  show bodyM (law_is_read_b (.str (S (joinL [32] ws)))) = _
  unfold law_is_read_b
  have e1 := told_eq h
  have e2 := read_eq h
  have ok := rd_ok (wordsOf ws) 0 [] h.oks (fun d hd => by cases hd)
  have le := h.les
  generalize rd (wordsOf ws) 0 [] = r at *
  cases r with
  | inl k =>
    have e1 : law_told_words_m [.str (S (joinL [32] ws))] = pure (.int (k : Int)) := e1
    have e2 : read_numbers_m [.str (S (joinL [32] ws))] = err ⟨"BadText", [("at", .int (k : Int))]⟩ := e2
    have i1 : isaD [.int] (.int (k : Int)) = pure (.bl true) := rfl
    have hk := ok.1 k rfl
    have bd : Bd 1900 (k : Int) := Nat.lt_of_le_of_lt (show k ≤ 100 by omega) (by decide +kernel)
    simp only [vlR, e1, i1, if_true, e2, place_at, like_i bd]
  | inr l =>
    have e1 : law_told_words_m [.str (S (joinL [32] ws))] = pure (.tup l) := e1
    have e2 : read_numbers_m [.str (S (joinL [32] ws))] = pure (.tup l) := e2
    have i1 : isaD [.int] (.tup l) = pure (.bl false) := rfl
    obtain ⟨af, ll⟩ := ok.2 l rfl
    have lk := (sh_row af (by rw [ll]; show 0 + _ ≤ _; omega)).1.like (by decide) (by decide)
    simp only [vlR, e1, i1, Bool.false_eq_true, if_false, e2, lk]
/-! ### the first blank -/
theorem rep1_none {a : List Nat} (h : 32 ∉ a) : Txt.replace1 (S a) (S [32]) (S [9]) = S a := by
  have e := in_one a 32
  rw [decide_eq_false h] at e
  have e : (Builtin.Str.occurrences (S a) (S [32]) 0 (S a).length 1).isEmpty = true := by simpa using e
  unfold Txt.replace1
  rw [if_pos (by rw [e]; rfl)]
theorem rep1_hit {a b : List Nat} (h : 32 ∉ a) : Txt.replace1 (S (a ++ 32 :: b)) (S [32]) (S [9]) = S (a ++ 9 :: b) := by
  have p : Txt.partition (S a ++ S [32] ++ S b) (S [32]) = (S a, S [32], S b) := partition_app (y := S [32]) (s := 32) (S := []) rfl h
  have ex : S a ++ S [32] ++ S b = S (a ++ 32 :: b) := by
    rw [S_cat, S_cat, List.append_assoc]
    rfl
  rw [ex] at p
  have ol := StrLaws.occ_length_le (S (a ++ 32 :: b)) (S [32]) 0 (S (a ++ 32 :: b)).length 1
  unfold Txt.partition at p
  unfold Txt.replace1
  generalize Builtin.Str.occurrences (S (a ++ 32 :: b)) (S [32]) 0 (S (a ++ 32 :: b)).length 1 = o at *
  cases o with
  | nil =>
    have p : (S (a ++ 32 :: b), Str.empty, Str.empty) = (S a, S [32], S b) := p
    injection p with _ p
    injection p with p _
    cases p
  | cons i r =>
    have : r = [] := List.length_eq_zero_iff.mp (by simp only [List.length_cons] at ol; omega)
    subst this
    have p : (Builtin.Str.strSub (S (a ++ 32 :: b)) 0 i, S [32], Builtin.Str.strSub (S (a ++ 32 :: b)) (i + (S [32]).length) (S (a ++ 32 :: b)).length) = (S a, S [32], S b) := p
    injection p with p1 p
    injection p with _ p2
    rw [if_neg (by simp [S_len])]
    rw [StrLaws.glued_eq_join]
    show Str.join (S [9]) [Builtin.Str.strSub (S (a ++ 32 :: b)) 0 i, Builtin.Str.strSub (S (a ++ 32 :: b)) (i + (S [32]).length) (S (a ++ 32 :: b)).length] = _
    rw [p1, p2]
    show S a ++ S [9] ++ S b = _
    rw [S_cat, S_cat, List.append_assoc]
    rfl
/-! ### bent texts -/
theorem pick_rev (xs : List D) : pickA xs none none (some (-1)) = xs.reverse := by
  unfold pickA
  rw [PySem.W.krv_bounds]
  show (sliceRange ((xs.length : Int) - 1) (-1) (-1)).filterMap (xs[·]?) = _
  rw [PySem.W.krv_sliceRange, PySem.W.krv_range, List.filterMap_reverse]
  have h : (List.range xs.toArray.size).filterMap (xs.toArray[·]?) = xs := PySem.W.krv_all xs.toArray
  simp only [List.size_toArray, List.getElem?_toArray] at h
  rw [h]
def GW (d : D) : Prop := ∃ w, d = .str (S w) ∧ okw w ∧ 32 ∉ w
def W (n : Nat) (d : D) : Prop := ∃ ds, d = .lst ds ∧ ds.length ≤ n ∧ ∀ x ∈ ds, GW x
section
variable {m n : Nat} {d e : D} {l h : Option Int}
theorem W.slice (w : W n d) : ∃ e, sliceD d l h = pure e ∧ W n e := by
  obtain ⟨ds, rfl, hl, g⟩ := w
  exact ⟨.lst (cutA ds l h), rfl, _, rfl, Nat.le_trans cut_len hl, fun x hx => g x (cut_mem hx)⟩
theorem W.add (w : W m d) (v : W n e) (z : m + n ≤ 1000 := by decide) : ∃ f, addD d e = pure f ∧ W (m + n) f := by
  obtain ⟨ds, rfl, hl, g⟩ := w
  obtain ⟨es, rfl, hl2, g2⟩ := v
  refine ⟨.lst (ds ++ es), addL (Nat.le_trans (Nat.add_le_add hl hl2) (Nat.le_trans z (by decide))), _, rfl, by rw [List.length_append]; omega, fun x hx => ?_⟩
  rcases List.mem_append.mp hx with hx | hx
  · exact g x hx
  · exact g2 x hx
theorem W.back (w : W n d) : ∃ e, slice3D d none none (some (-1)) = pure e ∧ W n e := by
  obtain ⟨ds, rfl, hl, g⟩ := w
  refine ⟨.lst (pickA ds none none (some (-1))), rfl, _, rfl, ?_, fun x hx => ?_⟩
  · have e : pickA ds none none (some (-1)) = ds.reverse := pick_rev ds
    rw [e, List.length_reverse]
    exact hl
  · unfold pickA at hx
    obtain ⟨i, _, hi⟩ := List.mem_filterMap.mp hx
    exact g x (List.mem_of_getElem? hi)
end
theorem gw_lit {x : Str} {w : List Nat} (e : x = S w) (h : (decide (w.length ≤ 400) && w.all (fun c => decide (c < 128) && c != 32)) = true) : GW (.str x) := by
  rw [Bool.and_eq_true] at h
  have h2 := List.all_eq_true.mp h.2
  refine ⟨w, by rw [e], ⟨fun c hc => ?_, of_decide_eq_true h.1⟩, fun hc => ?_⟩
  · have := h2 c hc
    rw [Bool.and_eq_true] at this
    exact of_decide_eq_true this.1
  · have := h2 32 hc
    simp at this
def E (d : D) : Prop := ∃ us, JT us ∧ joinS (S [32]) [d] = pure (.str (S (joinL [32] us)))
theorem gws : ∀ {ds : List D}, (∀ x ∈ ds, GW x) → ∃ us : List (List Nat), asStrs ds = some (us.map S) ∧ us.length = ds.length ∧ ∀ w ∈ us, okw w ∧ 32 ∉ w
  | [], _ => ⟨[], rfl, rfl, fun w h => by cases h⟩
  | d :: ds, h => by
    obtain ⟨w, rfl, hw⟩ := h d (List.mem_cons_self ..)
    obtain ⟨us, e, l, g⟩ := gws fun x hx => h x (List.mem_cons_of_mem _ hx)
    refine ⟨w :: us, ?_, by simp [l], fun y hy => ?_⟩
    · show (asStrs ds).map (S w :: ·) = _
      rw [e]
      rfl
    · rcases List.mem_cons.mp hy with rfl | hy
      · exact hw
      · exact g y hy
theorem sum_le : ∀ {us : List (List Nat)}, (∀ w ∈ us, w.length ≤ 8000) → ((us.map S).map (·.length)).sum ≤ 8000 * us.length
  | [], _ => Nat.le_refl _
  | w :: us, h => by
    have h1 := h w (List.mem_cons_self ..)
    have ih := sum_le (us := us) fun x hx => h x (List.mem_cons_of_mem _ hx)
    rw [List.map_cons, List.map_cons, List.sum_cons, S_len, List.length_cons]
    omega
theorem join_S1 {us : List (List Nat)} {ds : List D} (e : asStrs ds = some (us.map S)) (h : ∀ w ∈ us, w.length ≤ 8000) (hl : us.length ≤ 100) : joinS (S [32]) [.lst ds] = pure (.str (S (joinL [32] us))) := by
  show (match asStrs ds with
    | some ys => if (ys.map fun s : Str => s.length).sum + ys.length * (S [32]).length ≤ lim then pure (D.str (Txt.join (S [32]) ys)) else no
    | none => no) = _
  rw [e]
  show (if ((us.map S).map (·.length)).sum + (us.map S).length * (S [32]).length ≤ lim then pure (D.str (Txt.join (S [32]) (us.map S))) else no) = _
  have := sum_le h
  have l1 : (S [32]).length = 1 := rfl
  rw [if_pos (by rw [List.length_map, l1]; exact Nat.le_trans (show _ ≤ 800100 by omega) (by decide)), join_S]
theorem W.e {n : Nat} {d : D} (w : W n d) (z : n ≤ 100 := by decide) : E d := by
  obtain ⟨ds, rfl, hl, g⟩ := w
  obtain ⟨us, e, l, h⟩ := gws g
  have j := join_S1 e (fun w hw => Nat.le_trans (h w hw).1.2 (by decide)) (by omega)
  cases us with
  | nil => exact ⟨[[]], ⟨by simp, fun w hw => by rw [List.mem_singleton.mp hw]; exact ⟨asc_nil, Nat.zero_le _⟩, fun w hw => by rw [List.mem_singleton.mp hw]; simp, by decide⟩, j⟩
  | cons w us => exact ⟨w :: us, ⟨by simp, fun x hx => (h x hx).1, fun x hx => (h x hx).2, by omega⟩, j⟩
/-- a text of few short words -/
structure KT (ws : List (List Nat)) : Prop where
  ne : ws ≠ []
  ok : ∀ w ∈ ws, asc w ∧ w.length ≤ 90 ∧ 32 ∉ w
  le : ws.length ≤ 31
theorem KT.j {ws : List (List Nat)} (h : KT ws) : JT ws := ⟨h.ne, fun w hw => ⟨(h.ok w hw).1, Nat.le_trans (h.ok w hw).2.1 (by decide)⟩, fun w hw => (h.ok w hw).2.2, Nat.le_trans h.le (by decide)⟩
theorem KT.short {ws : List (List Nat)} (h : KT ws) : (joinL [32] ws).length ≤ 4000 := by
  have : ∀ us : List (List Nat), (∀ w ∈ us, w.length ≤ 90) → (joinL [32] us).length ≤ 91 * us.length := by
    intro us
    induction us with
    | nil => exact fun _ => Nat.le_refl _
    | cons w us ih =>
      intro h
      have h1 := h w (List.mem_cons_self ..)
      have ih := ih fun x hx => h x (List.mem_cons_of_mem _ hx)
      cases us with
      | nil => show w.length ≤ 91 * 1; omega
      | cons v r =>
        show (w ++ ([32] ++ joinL [32] (v :: r))).length ≤ _
        rw [List.length_append, List.length_append, List.length_cons (a := w)]
        have : ([32] : List Nat).length = 1 := rfl
        omega
  have := this ws fun w hw => (h.ok w hw).2.1
  have := h.le
  omega
theorem KT.tab {ws : List (List Nat)} (h : KT ws) : ∃ x, rep1D (S [32]) (S [9]) (.str (S (joinL [32] ws))) = pure (.str x) ∧ E (.lst [.str x]) := by
  have hl := h.short
  have lim1 : (S (joinL [32] ws)).length + (S [9]).length ≤ lim := by
    rw [S_len, S_len]
    exact Nat.le_trans (Nat.add_le_add_right hl _) (by decide)
  refine ⟨_, if_pos lim1, ?_⟩
  obtain ⟨us, ju, eu⟩ : ∃ us, JT us ∧ Txt.replace1 (S (joinL [32] ws)) (S [32]) (S [9]) = S (joinL [32] us) := by
    have j := h.j
    match ws, h, j with
    | [], h, _ => exact absurd rfl h.ne
    | [w], h, j => exact ⟨[w], j, rep1_none (h.ok w (List.mem_cons_self ..)).2.2⟩
    | [w, v], h, j =>
      have a := h.ok w (by simp)
      have b := h.ok v (by simp)
      refine ⟨[w ++ 9 :: v], ⟨by simp, fun x hx => ?_, fun x hx => ?_, by simp⟩, rep1_hit a.2.2⟩
      · rw [List.mem_singleton.mp hx]
        refine ⟨a.1.app fun c hc => ?_, by rw [List.length_append, List.length_cons]; omega⟩
        rcases List.mem_cons.mp hc with rfl | hc
        · decide
        · exact b.1 c hc
      · rw [List.mem_singleton.mp hx, List.mem_append, List.mem_cons]
        rintro (z | z | z)
        · exact a.2.2 z
        · cases z
        · exact b.2.2 z
    | w :: v :: u :: r, h, j =>
      have a := h.ok w (by simp)
      have b := h.ok v (by simp)
      refine ⟨(w ++ 9 :: v) :: u :: r, ⟨by simp, fun x hx => ?_, fun x hx => ?_, by have := h.le; simp only [List.length_cons] at this ⊢; omega⟩, ?_⟩
      · rcases List.mem_cons.mp hx with rfl | hx
        · refine ⟨a.1.app fun c hc => ?_, by rw [List.length_append, List.length_cons]; omega⟩
          rcases List.mem_cons.mp hc with rfl | hc
          · decide
          · exact b.1 c hc
        · exact j.ok x (List.mem_cons_of_mem _ (List.mem_cons_of_mem _ hx))
      · rcases List.mem_cons.mp hx with rfl | hx
        · rw [List.mem_append, List.mem_cons]
          rintro (z | z | z)
          · exact a.2.2 z
          · cases z
          · exact b.2.2 z
        · exact j.fr x (List.mem_cons_of_mem _ (List.mem_cons_of_mem _ hx))
      · have e := rep1_hit (a := w) (b := joinL [32] (v :: u :: r)) a.2.2
        refine e.trans ?_
        congr 1
        show w ++ 9 :: (v ++ ([32] ++ joinL [32] (u :: r))) = (w ++ 9 :: v) ++ ([32] ++ joinL [32] (u :: r))
        rw [List.append_assoc]
        rfl
  rw [eu]
  refine ⟨us, ju, ?_⟩
  have hj : (joinL [32] us).length ≤ 8000 := by
    rw [← S_len, ← eu]
    have rl : ∀ x y z : Str, (Txt.replace1 x y z).length ≤ x.length + z.length := fun x y z => by
      unfold Txt.replace1
      split
      · omega
      · exact rep1_len x y z
    refine Nat.le_trans (rl _ _ _) ?_
    rw [S_len, S_len]
    exact Nat.le_trans (Nat.add_le_add_right hl _) (by decide)
  exact join_S1 (us := [joinL [32] us]) rfl (fun w hw => by rw [List.mem_singleton.mp hw]; exact hj) (by simp)
theorem lcW_bind {α : Type} {b : D → M (Option D)} {P : D → Prop} {S0 : Sx} {φ : α → Sx → Prop} {k : List D → M α} : ∀ {ds : List D}, (∀ d ∈ ds, ∃ e, b d = pure (some e) ∧ P e) → ds.length ≤ lim → (∀ es, es.length = ds.length → (∀ e ∈ es, P e) → Wp (k es) S0 φ) → Wp (lcL b ds >>= k) S0 φ := by
  intro ds h hl q
  have : ∃ es, lcM b ds = pure es ∧ es.length = ds.length ∧ ∀ e ∈ es, P e := by
    clear hl q
    induction ds with
    | nil => exact ⟨[], rfl, rfl, fun e h => by cases h⟩
    | cons d ds ih =>
      obtain ⟨es, e1, e2, e3⟩ := ih fun x hx => h x (List.mem_cons_of_mem _ hx)
      obtain ⟨e, e4, e5⟩ := h d (List.mem_cons_self ..)
      refine ⟨e :: es, ?_, by simp [e2], fun x hx => ?_⟩
      · show (b d >>= fun o => lcM b ds >>= fun r => pure (o.toList ++ r)) = _
        rw [e4, pure_bind, e1, pure_bind]
        rfl
      · rcases List.mem_cons.mp hx with rfl | hx
        · exact e5
        · exact e3 x hx
  obtain ⟨es, e1, e2, e3⟩ := this
  unfold lcL
  rw [if_pos hl, e1, pure_bind]
  exact q es e2 e3
theorem en_mem : ∀ {ws : List (List Nat)} {i : Nat} {d : D}, d ∈ en i ws → ∃ j w, d = pr j w ∧ w ∈ ws
  | [], _, _, h => by cases h
  | w :: ws, i, d, h => by
    rcases List.mem_cons.mp h with rfl | h
    · exact ⟨i, w, rfl, List.mem_cons_self ..⟩
    · obtain ⟨j, v, e, hv⟩ := en_mem h
      exact ⟨j, v, e, List.mem_cons_of_mem _ hv⟩
theorem en_len : ∀ (ws : List (List Nat)) (i : Nat), (en i ws).length = ws.length
  | [], _ => rfl
  | w :: ws, i => by
    show (en (i + 1) ws).length + 1 = _
    rw [en_len ws]
    rfl
theorem bent_spec {ws : List (List Nat)} (h : KT ws) {S0 : Sx} (H : HandS S0) {φ : D → Sx → Prop} (hφ : ∀ us S', JT us → HandS S' → φ (.str (S (joinL [32] us))) S') : Wp (law_bent_m [.cell 0, .str (S (joinL [32] ws))]) S0 φ := by
  show Wp (bodyM (law_bent_b (.cell 0) (.str (S (joinL [32] ws))))) S0 φ
  unfold law_bent_b
  have hs := h.j.split
  have w0 : W 31 (.lst (ws.map fun p => D.str (S p))) := ⟨_, rfl, by rw [List.length_map]; exact h.le, fun x hx => by
    obtain ⟨w, hw, rfl⟩ := List.mem_map.mp hx
    exact ⟨w, rfl, h.j.ok w hw, h.j.fr w hw⟩⟩
  obtain ⟨tx, et, wt⟩ := h.tab
  have e1 : ∀ (xs : List D), enum1 [.lst xs] = pure (enumL xs) := fun _ => rfl
  have ln : len1 (.lst (ws.map fun p => D.str (S p))) = pure (.int ws.length) := by
    show pure (D.int ((ws.map _).length : Nat)) = _
    rw [List.length_map]
  have n0 : 0 < ws.length := List.length_pos_iff.mpr h.ne
  have n1 := h.le
  have t9 : Str.ofString "\t" = S [9] := rfl
  rw [l_b, t9]
  simp only [vlR, strD, hs, ln]
  refine draw_bind H (by omega) (by omega) (hφ := fun i S1 i0 i1 H1 => ?_)
  refine draw_bind H1 (by omega) (by omega) (hφ := fun j S2 j0 j1 H2 => ?_)
  have l13 : ∀ a b c d e f g h i j k l m : D, lstD [a, b, c, d, e, f, g, h, i, j, k, l, m] = pure (.lst [a, b, c, d, e, f, g, h, i, j, k, l, m]) := fun _ _ _ _ _ _ _ _ _ _ _ _ _ => lstD_ok (by show 13 ≤ 1000000; decide)
  simp only [l13, vlR, un2_t, un2_f]
  have good : ∀ d ∈ [D.str (Str.ofString ""), D.str (Str.ofString "-0"), D.str (Str.ofString "0/1"), D.str (Str.ofString "2/4"), D.str (Str.ofString "+1"), D.str (Str.ofString "1/1"), D.str (Str.ofString "01"), D.str (Str.ofString "x"), D.str (Str.ofString "1,"), D.str (Str.ofString "\t1"), D.str (Str.ofString "1\n"), D.str (Str.ofString "1/-2"), D.str (Str.ofString ".")], GW d := fun d hd => by
    simp only [List.mem_cons, List.not_mem_nil, or_false] at hd
    rcases hd with rfl | rfl | rfl | rfl | rfl | rfl | rfl | rfl | rfl | rfl | rfl | rfl | rfl <;> exact gw_lit rfl (by decide)
  refine any_bind H2 fun b1 hb1 S3 H3 => ?_
  refine any_bind H3 fun b2 hb2 S4 H4 => ?_
  have g1 := good b1 hb1
  have g2 := good b2 hb2
  have lst1 : ∀ a : D, lstD [a] = pure (.lst [a]) := fun a => lstD_ok (by show 1 ≤ 1000000; decide)
  have v1 : W 1 (.lst [b1]) := ⟨_, rfl, Nat.le_refl _, fun x hx => by rw [List.mem_singleton.mp hx]; exact g1⟩
  have v0 : W 1 (.lst [.str (Str.ofString "")]) := ⟨_, rfl, Nat.le_refl _, fun x hx => by rw [List.mem_singleton.mp hx]; exact gw_lit (w := []) rfl (by decide)⟩
  have v2 : W 2 (.lst [b1, b2]) := ⟨_, rfl, Nat.le_refl _, fun x hx => by
    simp only [List.mem_cons, List.not_mem_nil, or_false] at hx
    rcases hx with rfl | rfl
    · exact g1
    · exact g2⟩
  have ec : ∃ ds, ws.map (fun p => D.str (S p)) = ds := ⟨_, rfl⟩
  obtain ⟨xs, hx⟩ := ec
  have ee : enumL xs = en 0 ws := by rw [← hx, en_eq]
  rw [hx] at w0 ⊢
  obtain ⟨p1, q1, r1⟩ := w0.slice (l := none) (h := some i)
  obtain ⟨p2, q2, r2⟩ := w0.slice (l := some i) (h := none)
  obtain ⟨p3, q3, r3⟩ := w0.slice (l := some (i + 1)) (h := none)
  obtain ⟨p4, q4, r4⟩ := r1.add v1
  obtain ⟨p5, q5, r5⟩ := r4.add r2
  obtain ⟨p6, q6, r6⟩ := r4.add r3
  obtain ⟨p7, q7, r7⟩ := v0.add w0
  obtain ⟨p8, q8, r8⟩ := w0.add v0
  obtain ⟨p9, q9, r9⟩ := w0.back
  obtain ⟨pa, qa, ra⟩ := r1.add r3
  obtain ⟨pb, qb, rb⟩ := w0.add v2
  have ng : negD (.int 1) = pure (.int (-1)) := rfl
  have L4 : ∀ a b c d : D, limL [a, b, c, d] = pure [a, b, c, d] := fun _ _ _ _ => if_pos (by show 4 ≤ 1000000; decide)
  simp only [vlR, asI, lst1, lst2, q1, q2, q3, q4, q5, q6, q7, q8, q9, qa, qb, L4, e1, ee, ng, et]
  refine lcW_bind (P := GW) (fun d hd => ?_) (by rw [en_len]; exact Nat.le_trans n1 (by decide)) fun es ln2 ges => ?_
  · obtain ⟨k, w, rfl, hw⟩ := en_mem hd
    have gw : GW (.str (S w)) := ⟨w, rfl, h.j.ok w hw, h.j.fr w hw⟩
    unfold lcT pr
    simp only [un2_t, vlR, if_true]
    split
    · exact ⟨b1, by rw [pure_bind, noX_pure], g1⟩
    · split
      · exact ⟨b2, by rw [pure_bind, noX_pure], g2⟩
      · exact ⟨_, by rw [pure_bind, noX_pure], gw⟩
  · rw [en_len] at ln2
    have we : W 31 (.lst es) := ⟨es, rfl, by omega, ges⟩
    have sn : ∀ a b c d x : D, snoc [a, b, c, d] x = pure [a, b, c, d, x] := fun _ _ _ _ _ => if_pos (by show 4 < 1000000; decide)
    have lst4 : ∀ a b c d : D, lstD [a, b, c, d] = pure (.lst [a, b, c, d]) := fun a b c d => lstD_ok (by show 4 ≤ 1000000; decide)
    have ad : ∀ a b c d e f g h i : D, addD (.lst [a, b, c, d, e]) (.lst [f, g, h, i]) = pure (.lst [a, b, c, d, e, f, g, h, i]) := fun _ _ _ _ _ _ _ _ _ => addL (by show 5 + 4 ≤ 1000000; decide)
    simp only [vlR, sn, lst4, ad]
    refine any_bind H4 fun d hd S5 H5 => ?_
    have he : E d := by
      simp only [List.mem_cons, List.not_mem_nil, or_false] at hd
      rcases hd with rfl | rfl | rfl | rfl | rfl | rfl | rfl | rfl | rfl
      · exact r5.e
      · exact r6.e
      · exact r7.e
      · exact r8.e
      · exact we.e
      · exact r9.e
      · exact ra.e
      · exact rb.e
      · exact wt
    obtain ⟨us, ju, eu⟩ := he
    simp only [vlR, eu]
    exact hφ us S5 ju H5
/-! ### rows -/
abbrev fr (p : Int × Int) : D := frD p.1 p.2
abbrev wd (p : Int × Int) : List Nat := frL p.1 p.2
def FR (p : Int × Int) : Prop := 0 < p.2 ∧ Int.gcd p.1 p.2 = 1 ∧ p.1.natAbs < 10 ^ 41 ∧ p.2.natAbs < 10 ^ 41
theorem of_ds : ∀ {ds : List D}, (∀ d ∈ ds, ∃ p, d = fr p ∧ FR p) → ∃ ps : List (Int × Int), ds = ps.map fr ∧ ∀ p ∈ ps, FR p
  | [], _ => ⟨[], rfl, fun p h => by cases h⟩
  | d :: ds, h => by
    obtain ⟨p, rfl, hp⟩ := h d (List.mem_cons_self ..)
    obtain ⟨ps, rfl, hs⟩ := of_ds fun x hx => h x (List.mem_cons_of_mem _ hx)
    refine ⟨p :: ps, rfl, fun x hx => ?_⟩
    rcases List.mem_cons.mp hx with rfl | hx
    · exact hp
    · exact hs x hx
theorem FR.b {p : Int × Int} (h : FR p) : p.1.natAbs < 10 ^ 400 ∧ p.2.natAbs < 10 ^ 400 :=
  have e : 10 ^ 41 < 10 ^ 400 := by decide +kernel
  ⟨Nat.lt_trans h.2.2.1 e, Nat.lt_trans h.2.2.2 e⟩
theorem is_fr {p : Int × Int} (h : FR p) : is_fraction_m [fr p] = pure (.bl true) :=
  (show FrB 1900 p.1 p.2 from ⟨⟨by have := h.1; omega, h.2.1⟩, bd400 h.b.1, bd400 h.b.2⟩).is (by decide)
theorem lc_of {F : D → M D} {g : Int × Int → D} : ∀ {ps : List (Int × Int)}, (∀ p ∈ ps, F (fr p) = pure (g p)) → ps.length ≤ 1000 → lcL (lcT (β := D) (fun d => pure d) (fun _ => pure true) F) (ps.map fr) = pure (ps.map g) := by
  intro ps h hl
  unfold lcL
  rw [if_pos (by rw [List.length_map]; exact Nat.le_trans hl (by decide))]
  clear hl
  induction ps with
  | nil => rfl
  | cons p ps ih =>
    show (lcT (β := D) (fun d => pure d) (fun _ => pure true) F (fr p) >>= fun o => lcM _ (ps.map fr) >>= fun r => pure (o.toList ++ r)) = _
    rw [ih fun x hx => h x (List.mem_cons_of_mem _ hx)]
    unfold lcT
    simp only [vlR, if_true, h p (List.mem_cons_self ..), noX_pure]
    rfl
theorem strs_of : ∀ (ps : List (Int × Int)), asStrs (ps.map fun p => D.str (S (wd p))) = some ((ps.map wd).map S)
  | [] => rfl
  | p :: ps => by
    show (asStrs (ps.map fun p => D.str (S (wd p)))).map (S (wd p) :: ·) = _
    rw [strs_of ps]
    rfl
theorem all_true {ds : List D} (h : ∀ d ∈ ds, d = .bl true) : all1 (.lst ds) = pure (.bl true) := by
  have e : ds = ds.map fun d => .bl ((fun _ => true) d) := by
    induction ds with
    | nil => rfl
    | cons d ds ih =>
      rw [List.map_cons, ← ih fun x hx => h x (List.mem_cons_of_mem _ hx), h d (List.mem_cons_self ..)]
  rw [e, all1_map]
  congr 2
  rw [List.all_eq_true]
  exact fun _ _ => rfl
def txt (ps : List (Int × Int)) : List Nat := joinL [32] (ps.map wd)
section
variable {ps : List (Int × Int)}
theorem wd_short {p : Int × Int} (h : FR p) : (wd p).length ≤ 84 := frL_len (by decide) h.2.2.1 h.2.2.2
theorem wd_32 (p : Int × Int) : 32 ∉ wd p := by
  have num : ∀ n, 32 ∉ numL n := fun n h => by have := numL_digits n 32 h; omega
  unfold wd frL sgnL
  intro h
  rcases List.mem_append.mp h with h | h
  · split at h
    · rcases List.mem_cons.mp h with h | h
      · cases h
      · exact num _ h
    · exact num _ h
  · split at h
    · cases h
    · rcases List.mem_cons.mp h with h | h
      · cases h
      · exact num _ h
theorem join_row (h : ∀ p ∈ ps, FR p) (hl : ps.length ≤ 31) : joinS (S [32]) [.lst (ps.map fun p => D.str (S (wd p)))] = pure (.str (S (txt ps))) :=
  join_S1 (strs_of ps) (fun w hw => by
    obtain ⟨p, hp, rfl⟩ := List.mem_map.mp hw
    exact Nat.le_trans (wd_short (h p hp)) (by decide)) (by rw [List.length_map]; omega)
theorem kt (h : ∀ p ∈ ps, FR p) (hl : ps.length ≤ 31) : ∃ us, KT us ∧ joinL [32] us = txt ps ∧ rd (wordsOf us) 0 [] = .inr (ps.map fr) := by
  have rdm : ∀ (ps : List (Int × Int)) (i : Nat) (s : List D), (∀ p ∈ ps, FR p) → rd (ps.map wd) i s = .inr (s ++ ps.map fr) := by
    intro ps
    induction ps with
    | nil => intro i s _; show Sum.inr s = _; rw [List.map_nil, List.append_nil]
    | cons p ps ih =>
      intro i s h
      have hp := h p (List.mem_cons_self ..)
      rw [List.map_cons]
      unfold rd
      rw [tell_fr hp.1 hp.2.1]
      show rd (ps.map wd) (i + 1) (s ++ [fr p]) = _
      rw [ih _ _ fun x hx => h x (List.mem_cons_of_mem _ hx), List.append_assoc]
      rfl
  cases ps with
  | nil => exact ⟨[[]], ⟨by simp, fun w hw => by rw [List.mem_singleton.mp hw]; exact ⟨asc_nil, Nat.zero_le _, by simp⟩, by decide⟩, rfl, rfl⟩
  | cons p r =>
    refine ⟨(p :: r).map wd, ⟨by simp, fun w hw => ?_, by rw [List.length_map]; exact hl⟩, rfl, ?_⟩
    · obtain ⟨q, hq, rfl⟩ := List.mem_map.mp hw
      exact ⟨frL_asc _ _, Nat.le_trans (wd_short (h q hq)) (by decide), wd_32 q⟩
    · have hne : joinL [32] ((p :: r).map wd) ≠ [] := by
        have hw : wd p ≠ [] := fun e => by
          have hp := h p (List.mem_cons_self ..)
          have t := tell_fr hp.1 hp.2.1
          rw [show frL p.1 p.2 = [] from e] at t
          cases t
        cases r with
        | nil => exact hw
        | cons q r =>
          show wd p ++ ([32] ++ joinL [32] ((q :: r).map wd)) ≠ []
          intro e
          exact hw (List.append_eq_nil_iff.mp e).1
      unfold wordsOf
      rw [if_neg hne, rdm _ _ _ h]
      rfl
theorem numbers_eq (h : ∀ p ∈ ps, FR p) (hl : ps.length ≤ 31) {x : D} (r : Rw (ps.map fr) x) : numbers_text_m [x] = pure (.str (S (txt ps))) := by
  show bodyM (numbers_text_b x) = _
  unfold numbers_text_b
  have e1 := lc_of (F := fun d => is_fraction_m [d]) (g := fun _ => .bl true) (fun p hp => is_fr (h p hp)) (show ps.length ≤ 1000 by omega)
  have e2 := lc_of (F := fun d => VLib2.frac_word_m [d]) (g := fun p => .str (S (wd p))) (fun p hp => frac_word_eq (h p hp).b.1 (h p hp).b.2 (h p hp).1) (show ps.length ≤ 1000 by omega)
  have e3 : all1 (.lst (ps.map fun _ => D.bl true)) = pure (.bl true) := all_true fun d hd => by
    obtain ⟨_, _, rfl⟩ := List.mem_map.mp hd
    rfl
  rw [l_b]
  simp only [vlR, r.isrow, r.row, Bool.not_true, Bool.false_eq_true, if_false, e1, e3, strD, e2, join_row h hl]
theorem none_row {ds : List D} {x : D} (r : Rw ds x) (hl : ds.length ≤ 100) (h : ∀ d ∈ ds, ∃ t, is_fraction_m [d] = pure (.bl t)) (hb : ∃ d ∈ ds, is_fraction_m [d] = pure (.bl false)) : law_is_none_m [x] = pure (.bl true) := by
  classical
  have e : numbers_text_m [x] = err ⟨"NoNumbers", []⟩ := by
    show bodyM (numbers_text_b x) = _
    unfold numbers_text_b
    let t : D → Bool := fun d => decide (is_fraction_m [d] = pure (.bl true))
    have pb : (pure (D.bl false) : M D) ≠ pure (.bl true) := fun z => by
      have := congrFun z []
      injection this with this
      cases this
    have e1 : lcL (lcT (β := D) (fun d => pure d) (fun _ => pure true) fun d => is_fraction_m [d]) ds = pure (ds.map fun d => .bl (t d)) := lc_bl (t := t) (Nat.le_trans hl (by decide)) fun d hd => by
      obtain ⟨b, hb⟩ := h d hd
      have ht : b = t d := by
        show b = decide (is_fraction_m [d] = pure (.bl true))
        cases b with
        | true => rw [decide_eq_true hb]
        | false => rw [decide_eq_false fun z => pb (hb.symm.trans z)]
      unfold lcT
      simp only [vlR, if_true, hb, noX_pure, ht]
    have e2 : all1 (.lst (ds.map fun d => .bl (t d))) = pure (.bl false) := by
      rw [all1_map]
      congr 2
      rw [List.all_eq_false]
      obtain ⟨d, hd, hf⟩ := hb
      refine ⟨d, hd, ?_⟩
      show ¬ (decide (is_fraction_m [d] = pure (.bl true)) = true)
      rw [decide_eq_false fun z => pb (hf.symm.trans z)]
      decide
    simp only [vlR, r.isrow, r.row, Bool.not_true, Bool.false_eq_true, if_false, e1, e2, Bool.not_false, if_true]
    rfl
  show bodyM (law_is_none_b x) = _
  unfold law_is_none_b
  simp only [vlR, e]
  rfl
theorem none_odd {d : D} (h : is_row_m [d] = pure (.bl false)) : law_is_none_m [d] = pure (.bl true) := by
  have e : numbers_text_m [d] = err ⟨"NoNumbers", []⟩ := by
    show bodyM (numbers_text_b d) = _
    unfold numbers_text_b
    simp only [vlR, h, Bool.not_false, if_true]
    rfl
  show bodyM (law_is_none_b d) = _
  unfold law_is_none_b
  simp only [vlR, e]
  rfl
theorem read_odd {d : D} (i1 : isaD [.str] d = pure (.bl false)) : read_numbers_m [d] = err ⟨"BadText", [("at", .int 0)]⟩ := by
  show bodyM (read_numbers_b d) = _
  unfold read_numbers_b
  simp only [vlR, i1, Bool.not_false, if_true]
  rfl
end
theorem Sh.mono {k n k' n' : Nat} {d : D} (z : Sh k n d) (h : k ≤ k') (g : n ≤ n') : Sh k' n' d := ⟨z.p, z.s, z.h, Nat.le_trans z.dp h, Nat.le_trans z.le g, z.ok⟩
theorem like_three {a : List Nat} {ds : List D} (ha : asc a) (hl : a.length ≤ 4000) (h : AF ds) (hd : ds.length ≤ 100) : VLib2.law_like_m [.lst [.str (S a), .str (S a), .tup ds], .lst [.str (S a), .str (S a), .tup ds]] = pure (.bl true) := by
  have h1 : Sh 3 121103 (.str (S a)) := (sh_S ha hl).mono (by decide) (by decide)
  have h2 := (sh_row h hd).1
  have h3 : ∀ d ∈ [D.str (S a), .str (S a), .tup ds], Sh 3 121103 d := fun d hd => by
    simp only [List.mem_cons, List.not_mem_nil, or_false] at hd
    rcases hd with rfl | rfl | rfl
    · exact h1
    · exact h1
    · exact h2
  exact (sh_lst (m := 3) h3 (Nat.le_refl _)).like (by decide) (by decide)
theorem addTup {xs ys : List D} (h : xs.length + ys.length ≤ lim) : addD (.tup xs) (.tup ys) = pure (.tup (xs ++ ys)) := by
  have e : xs.length + ys.length = (xs ++ ys).length := List.length_append.symm
  first
    | (show (if xs.length + ys.length ≤ lim then pure (D.tup (xs ++ ys)) else no : M D) = _
       rw [if_pos h])
    | (show (if (xs ++ ys).length ≤ lim then pure (D.tup (xs ++ ys)) else no : M D) = _
       rw [if_pos (e ▸ h)])
theorem law_true (ns : List Int) (h : ns.length ≤ 63) (h2 : ∀ z ∈ ns, Builtin.Int.intBits z ≤ 1048576) : ∃ S', law_m [.scr ns] [] = .ok (.bl true) S' := by
  have hs := hand2_spec (q := 6203) (r := 13) h (by decide) (by decide) (by decide)
  obtain ⟨S0, e0, H0⟩ := hs
  have w : Wp (law_m [.scr ns]) [] fun d _ => d = .bl true := by
    show Wp (bodyM (law_b (.scr ns))) [] _
    unfold law_b
    simp only [vlR]
    refine Wp.bind (χ := fun d S' => d = .cell 0 ∧ HandS S') (by unfold Wp; rw [e0]; exact ⟨rfl, H0⟩) ?_
    rintro d Sq ⟨rfl, H⟩
    have er : range1 [.int 5] = pure (rangeL 0 5) := by show (if rngOk 5 then pure (rangeL 0 (5 : Int).toNat) else no : M (List D)) = _; rw [if_pos (by decide)]; rfl
    have er8 : range1 [.int 8] = pure (rangeL 0 8) := by show (if rngOk 8 then pure (rangeL 0 (8 : Int).toNat) else no : M (List D)) = _; rw [if_pos (by decide)]; rfl
    have lst1 : ∀ a : D, lstD [a] = pure (.lst [a]) := fun a => lstD_ok (by show 1 ≤ 1000000; decide)
    simp only [er, vlR]
    refine Wp.join (χ := fun _ S' => HandS S') (Wp.mono (for_turns (I := HandS) _ (fun d _ S1 H1 => ?_) Sq H) ?_) ?_
    · simp only [lst5, vlR]
      refine any_bind H1 fun d hd S2 H2 => ?_
      have hm : ∃ n : Nat, d = .int (n : Int) ∧ n ≤ 30 := by
        simp only [List.mem_cons, List.not_mem_nil, or_false] at hd
        rcases hd with rfl | rfl | rfl | rfl | rfl
        · exact ⟨0, rfl, by decide⟩
        · exact ⟨1, rfl, by decide⟩
        · exact ⟨2, rfl, by decide⟩
        · exact ⟨5, rfl, by decide⟩
        · exact ⟨30, rfl, by decide⟩
      obtain ⟨n, rfl, hn⟩ := hm
      have en : range1 [.int (n : Int)] = pure (rangeL 0 n) := by
        show (if rngOk (n : Int) then pure (rangeL 0 (n : Int).toNat) else no : M (List D)) = _
        rw [if_pos (by unfold rngOk; omega)]
        rfl
      have lr : (rangeL 0 n).length = n := by
        show ((List.range n).map _).length = _
        rw [List.length_map, List.length_range]
      simp only [en, vlR]
      refine Wp.bind (lcL_wp (P := fun d => ∃ p, d = fr p ∧ FR p) (I := HandS) (fun d S3 H3 => ?_) (by omega) H2) ?_
      · refine drawn_fraction_spec H3 fun t b S4 b0 g bt bb H4 => ⟨⟨(t, b), rfl, b0, g, bt, bb⟩, H4⟩
      rintro row S3 ⟨l1, p1, H3⟩
      obtain ⟨ps, rfl, hp⟩ := of_ds p1
      rw [List.length_map, lr] at l1
      have hl : ps.length ≤ 31 := by omega
      obtain ⟨us, ku, eu, ru⟩ := kt hp hl
      have f1 := lc_of (F := fun d => VLib2.law_fraction_text_m [d]) (g := fun p => .str (S (wd p))) (fun p q => fraction_text_eq (hp p q).b.1 (hp p q).b.2 (hp p q).1) (show ps.length ≤ 1000 by omega)
      have jr := join_row hp hl
      have af : AF (ps.map fr) := fun d hd => by
        obtain ⟨p, q, rfl⟩ := List.mem_map.mp hd
        exact ⟨p.1, p.2, rfl, (hp p q).b.1, (hp p q).b.2, (hp p q).1, (hp p q).2.1⟩
      have al : (ps.map fr).length ≤ 100 := by rw [List.length_map]; omega
      have shr := (sh_row af al).2
      have rr := shr.repr (by decide) (by decide)
      have neq := neD_s shr.ok shr.ok
      rw [decide_eq_true rfl] at neq
      have n1 := numbers_eq hp hl (.l : Rw (ps.map fr) (.lst (ps.map fr)))
      have n2 := numbers_eq hp hl (.t : Rw (ps.map fr) (.tup (ps.map fr)))
      have t1 : tuple1 (.lst (ps.map fr)) = pure (.tup (ps.map fr)) := rfl
      have rd := read_eq ku.j
      rw [ru, eu] at rd
      have rd : read_numbers_m [.str (S (txt ps))] = pure (.tup (ps.map fr)) := rd
      have ac : asc (txt ps) := by rw [← eu]; exact ku.j.asc
      have sl : (txt ps).length ≤ 4000 := by rw [← eu]; exact ku.short
      have lk := like_three ac sl af al
      rw [l_b]
      simp only [vlR, strD, rowD, f1, jr, rr, un2_t, n1, t1, n2, rd, lst3, lk, Bool.not_true, Bool.false_eq_true, if_false, neq, er8]
      refine Wp.bind (lcL_wp (P := fun d => d = .bl true) (I := HandS) (fun d S4 H4 => ?_) (by decide) H3) ?_
      · have bs := bent_spec ku H4 (φ := fun d S' => Wp (law_is_read_m [d]) S' fun e S'' => e = .bl true ∧ HandS S'') fun vs S5 jv H5 => by
          rw [is_read_eq jv]
          exact ⟨rfl, H5⟩
        rw [eu] at bs
        exact wp_bind.mpr bs
      rintro es S4 ⟨_, pe, H4⟩
      have l9 : ∀ a b c d e f g h i : D, lstD [a, b, c, d, e, f, g, h, i] = pure (.lst [a, b, c, d, e, f, g, h, i]) := fun _ _ _ _ _ _ _ _ _ => lstD_ok (by show 9 ≤ 1000000; decide)
      simp only [vlR, all_true pe, Bool.not_true, Bool.false_eq_true, if_false, lst2, l9]
      refine draw_bind H4 (by omega) (by omega) (hφ := fun i S5 i0 i1 H5 => ?_)
      refine any_bind H5 fun d hd S6 H6 => ?_
      have hf : is_fraction_m [d] = pure (.bl false) := by
        have sm : ∀ n : Int, n.natAbs ≤ 10 → Sm n := fun n h => Nat.lt_of_le_of_lt h (by decide +kernel)
        simp only [List.mem_cons, List.not_mem_nil, or_false] at hd
        rcases hd with rfl | rfl | rfl | rfl | rfl | rfl | rfl | rfl | rfl
        · exact nofrac_ty (t := .non) rfl (by decide)
        · exact nofrac_ty (t := .int) rfl (by decide)
        · exact nofrac_ty (t := .bool) rfl (by decide)
        · exact nofrac_i (sm 4 (by decide)) (by decide)
        · exact nofrac_i (sm 0 (by decide)) (by decide)
        · exact nofrac_ty (t := .list) rfl (by decide)
        · exact nofrac_ty (t := .str) rfl (by decide)
        · exact nofrac_len (by simp)
        · exact nofrac_1 (t := .bool) rfl (by decide)
      have cl : ∀ l h, (cutA (ps.map fr) l h).length ≤ 31 := fun l h => Nat.le_trans cut_len (by rw [List.length_map]; exact hl)
      have cm : ∀ l h, ∀ x ∈ cutA (ps.map fr) l h, ∃ t, is_fraction_m [x] = pure (.bl t) := fun l h x hx => by
        obtain ⟨p, q, rfl⟩ := List.mem_map.mp (cut_mem hx)
        exact ⟨true, is_fr (hp p q)⟩
      have s1 : ∀ l h, sliceD (.lst (ps.map fr)) l h = pure (.lst (cutA (ps.map fr) l h)) := fun _ _ => rfl
      have a1 := addL (xs := cutA (ps.map fr) none (some i)) (ys := [d]) (by have := cl none (some i); exact Nat.le_trans (show _ ≤ 32 by simp only [List.length_cons, List.length_nil]; omega) (by decide))
      have a2 := addL (xs := cutA (ps.map fr) none (some i) ++ [d]) (ys := cutA (ps.map fr) (some i) none) (by have := cl none (some i); have := cl (some i) none; rw [List.length_append]; exact Nat.le_trans (show _ ≤ 63 by simp only [List.length_cons, List.length_nil]; omega) (by decide))
      have a3 := addTup (xs := cutA (ps.map fr) none (some i)) (ys := [d]) (by have := cl none (some i); exact Nat.le_trans (show _ ≤ 32 by simp only [List.length_cons, List.length_nil]; omega) (by decide))
      have t2 : tuple1 (.lst (cutA (ps.map fr) none (some i))) = pure (.tup (cutA (ps.map fr) none (some i))) := rfl
      have t3 : tupD [d] = pure (.tup [d]) := if_pos (by show 1 ≤ 1000000; decide)
      have o1 := none_row (.l : Rw (cutA (ps.map fr) none (some i) ++ [d] ++ cutA (ps.map fr) (some i) none) _) (by have := cl none (some i); have := cl (some i) none; rw [List.length_append, List.length_append]; simp only [List.length_cons, List.length_nil]; omega) (fun x hx => by
        rcases List.mem_append.mp hx with hx | hx
        · rcases List.mem_append.mp hx with hx | hx
          · exact cm _ _ x hx
          · rw [List.mem_singleton.mp hx]; exact ⟨false, hf⟩
        · exact cm _ _ x hx) ⟨d, by simp, hf⟩
      have o2 := none_row (.t : Rw (cutA (ps.map fr) none (some i) ++ [d]) _) (by have := cl none (some i); rw [List.length_append]; simp only [List.length_cons, List.length_nil]; omega) (fun x hx => by
        rcases List.mem_append.mp hx with hx | hx
        · exact cm _ _ x hx
        · rw [List.mem_singleton.mp hx]; exact ⟨false, hf⟩) ⟨d, by simp, hf⟩
      simp only [vlR, asI, un2_t, s1, lst1, a1, a2, o1, t2, t3, a3, o2, Bool.not_true, Bool.false_eq_true, if_false]
      exact ⟨rfl, H6⟩
    · rintro f S' ⟨rfl, H'⟩
      exact ⟨(), rfl, H'⟩
    · intro _ S' H'
      simp only [vlR, lst1, lst6]
      refine any_bind H' fun d hd S2 H2 => ?_
      refine any_bind H2 fun e he S3 H3 => ?_
      have hr : is_row_m [e] = pure (.bl false) := by
        simp only [List.mem_cons, List.not_mem_nil, or_false] at he
        rcases he with rfl | rfl | rfl | rfl | rfl | rfl <;> rfl
      have ho : isaD [.str] d = pure (.bl false) := by
        simp only [List.mem_cons, List.not_mem_nil, or_false] at hd
        rcases hd with rfl | rfl | rfl | rfl | rfl | rfl <;> rfl
      simp only [vlR, none_odd hr, Bool.not_true, Bool.false_eq_true, if_false, read_odd ho, place_at, like_i (show Bd 1900 0 by unfold Bd; decide +kernel)]
      exact rfl
  obtain ⟨a, S', e, z⟩ := w.run
  exact ⟨S', by rw [e, z]⟩
end K62

set_option maxHeartbeats 0
namespace K62
open PySem PySem.Spec PyProof.Rows L2 VL VLib
def clsBody : Stmt → List Stmt
  | .ClassDef _ _ _ b _ _ _ _ _ _ _ => b
  | _ => []
def dlaw_hand_ : He.DefD := ⟨("_law_hand", none), "_law_hand", "_law_hand", defArgs slaw_hand_, defBody slaw_hand_, defScope slaw_hand_, [], []⟩
def dlaw_draw_ : He.DefD := ⟨("_law_draw", none), "_law_draw", "_law_draw", defArgs slaw_draw_, defBody slaw_draw_, defScope slaw_draw_, [], []⟩
def dlaw_any_ : He.DefD := ⟨("_law_any", none), "_law_any", "_law_any", defArgs slaw_any_, defBody slaw_any_, defScope slaw_any_, [], []⟩
def dlaw_like_ : He.DefD := ⟨("_law_like", none), "_law_like", "_law_like", defArgs slaw_like_, defBody slaw_like_, defScope slaw_like_, [], []⟩
def dis_row_ : He.DefD := ⟨("is_row", none), "is_row", "is_row", defArgs sis_row_, defBody sis_row_, defScope sis_row_, [], []⟩
def dfrac_word_ : He.DefD := ⟨("frac_word", none), "frac_word", "frac_word", defArgs sfrac_word_, defBody sfrac_word_, defScope sfrac_word_, [], []⟩
def dcommon_part_ : He.DefD := ⟨("common_part", none), "common_part", "common_part", defArgs scommon_part_, defBody scommon_part_, defScope scommon_part_, [], []⟩
def dis_integer_ : He.DefD := ⟨("is_integer", none), "is_integer", "is_integer", defArgs sis_integer_, defBody sis_integer_, defScope sis_integer_, [], []⟩
def dis_fraction_ : He.DefD := ⟨("is_fraction", none), "is_fraction", "is_fraction", defArgs sis_fraction_, defBody sis_fraction_, defScope sis_fraction_, [], []⟩
def dnumbers_text_ : He.DefD := ⟨("numbers_text", none), "numbers_text", "numbers_text", defArgs snumbers_text_, defBody snumbers_text_, defScope snumbers_text_, [], []⟩
def dlaw_is_none_ : He.DefD := ⟨("_law_is_none", none), "_law_is_none", "_law_is_none", defArgs slaw_is_none_, defBody slaw_is_none_, defScope slaw_is_none_, [], []⟩
def dlaw_place_ : He.DefD := ⟨("_law_place", none), "_law_place", "_law_place", defArgs slaw_place_, defBody slaw_place_, defScope slaw_place_, [], []⟩
def dlaw_low_ : He.DefD := ⟨("_law_low", none), "_law_low", "_law_low", defArgs slaw_low_, defBody slaw_low_, defScope slaw_low_, [], []⟩
def dlaw_digits_ : He.DefD := ⟨("_law_digits", none), "_law_digits", "_law_digits", defArgs slaw_digits_, defBody slaw_digits_, defScope slaw_digits_, [], []⟩
def dlaw_drawn_fraction_ : He.DefD := ⟨("_law_drawn_fraction", none), "_law_drawn_fraction", "_law_drawn_fraction", defArgs slaw_drawn_fraction_, defBody slaw_drawn_fraction_, defScope slaw_drawn_fraction_, [], []⟩
def dis_whole_text_ : He.DefD := ⟨("is_whole_text", none), "is_whole_text", "is_whole_text", defArgs sis_whole_text_, defBody sis_whole_text_, defScope sis_whole_text_, [], []⟩
def dis_signed_text_ : He.DefD := ⟨("is_signed_text", none), "is_signed_text", "is_signed_text", defArgs sis_signed_text_, defBody sis_signed_text_, defScope sis_signed_text_, [], []⟩
def dword_frac_ : He.DefD := ⟨("word_frac", none), "word_frac", "word_frac", defArgs sword_frac_, defBody sword_frac_, defScope sword_frac_, [], []⟩
def dread_numbers_ : He.DefD := ⟨("read_numbers", none), "read_numbers", "read_numbers", defArgs sread_numbers_, defBody sread_numbers_, defScope sread_numbers_, [], []⟩
def dlaw_fraction_text_ : He.DefD := ⟨("_law_fraction_text", none), "_law_fraction_text", "_law_fraction_text", defArgs slaw_fraction_text_, defBody slaw_fraction_text_, defScope slaw_fraction_text_, [], []⟩
def dlaw_integer_of_ : He.DefD := ⟨("_law_integer_of", none), "_law_integer_of", "_law_integer_of", defArgs slaw_integer_of_, defBody slaw_integer_of_, defScope slaw_integer_of_, [], []⟩
def dlaw_fraction_of_ : He.DefD := ⟨("_law_fraction_of", none), "_law_fraction_of", "_law_fraction_of", defArgs slaw_fraction_of_, defBody slaw_fraction_of_, defScope slaw_fraction_of_, [], []⟩
def dlaw_told_words_ : He.DefD := ⟨("_law_told_words", none), "_law_told_words", "_law_told_words", defArgs slaw_told_words_, defBody slaw_told_words_, defScope slaw_told_words_, [], []⟩
def dlaw_is_read_ : He.DefD := ⟨("_law_is_read", none), "_law_is_read", "_law_is_read", defArgs slaw_is_read_, defBody slaw_is_read_, defScope slaw_is_read_, [], []⟩
def dlaw_bent_ : He.DefD := ⟨("_law_bent", none), "_law_bent", "_law_bent", defArgs slaw_bent_, defBody slaw_bent_, defScope slaw_bent_, [], []⟩
def dlaw_ : He.DefD := ⟨("law", none), "law", "law", defArgs slaw_, defBody slaw_, defScope slaw_, [], []⟩
abbrev si_BadText : Stmt := (clsBody (top 3)).getD 0 (.Pass ⟨0, 0, 0, 0⟩)
def di_BadText : He.DefD := ⟨("BadText", some "__init__"), "__init__", "BadText.__init__", defArgs si_BadText, defBody si_BadText, defScope si_BadText, [], []⟩
def fn : List He.DefD := [dlaw_hand_, dlaw_draw_, dlaw_any_, dlaw_like_, dis_row_, dfrac_word_, dcommon_part_, dis_integer_, dis_fraction_, dnumbers_text_, dlaw_is_none_, dlaw_place_, dlaw_low_, dlaw_digits_, dlaw_drawn_fraction_, dis_whole_text_, dis_signed_text_, dword_frac_, dread_numbers_, dlaw_fraction_text_, dlaw_integer_of_, dlaw_fraction_of_, dlaw_told_words_, dlaw_is_read_, dlaw_bent_, dlaw_, di_BadText]
def fas : List He.Fa := [.glo "_law_hand", .glo "_law_draw", .glo "_law_any", .glo "_law_like", .glo "is_row", .glo "frac_word", .glo "common_part", .glo "is_integer", .glo "is_fraction", .glo "numbers_text", .glo "_law_is_none", .glo "_law_place", .glo "_law_low", .glo "_law_digits", .glo "_law_drawn_fraction", .glo "is_whole_text", .glo "is_signed_text", .glo "word_frac", .glo "read_numbers", .glo "_law_fraction_text", .glo "_law_integer_of", .glo "_law_fraction_of", .glo "_law_told_words", .glo "_law_is_read", .glo "_law_bent", .glo "law", .glo "NoNumbers", .glo "FoldError", .glo "BadText", .str "DIGITS" "0123456789", .free "int", .free "abs", .free "len", .free "repr", .free "isinstance", .free "list", .free "tuple", .free "str", .free "bool", .free "all", .free "any", .free "enumerate", .free "range", .exc "NoNumbers"]
def tf : List Str := ["_law_is_read", "law"]
def ex (K : PySem.W.Frag) : Bool := (isnB "FoldError" "BadText" [("BadText", true)] K && xfldB "BadText" "at" K) && (xfldB "BadText" "at" K && (isnB "FoldError" "NoNumbers" [("NoNumbers", true)] K && (true)))
abbrev R : PySem.W.OpenRow := PySem.W.OpenLaw.row PySem.Challenge.rw_creasehall_k62_whole_texts_of_numbers_wo
abbrev tfs : List He.Defn := tf.map fun x => (x, none)
abbrev exN (K : PySem.W.Frag) : Bool := ex K && decide ((tf.map fun x => (He.cT K (x, none)).2).Nodup)
abbrev hk : PySem.W.Hook := He.hookX 4 fas fn [] tfs exN
def ob (s : PySem.W.SharedT) : He.AlX := He.obsX 4 fas fn [] tfs exN (HandSHeadRun.getT s)
theorem ob_eq (s : PySem.W.SharedT) : ob s = hk.obs s.abs := He.obsX_eq (HandSHeadRun.getT_eq s)
abbrev loose : List Str := (["is_integer", "is_row", "common_part", "is_fraction", "is_whole_text", "is_signed_text", "frac_word", "word_frac", "numbers_text", "read_numbers", "_law_hand", "_law_draw", "_law_any", "_law_like", "_law_low", "_law_digits", "_law_drawn_fraction", "_law_fraction_text", "_law_integer_of", "_law_fraction_of", "_law_place", "_law_told_words", "_law_bent", "_law_is_read", "_law_is_none", "FoldError", "NoNumbers", "BadText", "DIGITS"] : List Str)
theorem run (w : World) : HandSHeadRun.RunEq R (PySem.W.view R.prog [33]) hk ob 4000 loose w := by
  intro os
  kernel_rfl
section
variable {P : Program} {w : World} {K : PySem.W.Frag} {mg : Str → Option Value} {base : Heap} {T : List (Addr × Str)}
theorem e_plc_law_place_ (t : Tx fas fn tf ex K mg) : (isnB "FoldError" "BadText" [("BadText", true)] K && xfldB "BadText" "at" K) = true := (He.ba t.more).1
theorem e_fld_BadText (t : Tx fas fn tf ex K mg) : xfldB "BadText" "at" K = true := (He.ba (He.ba t.more).2).1
theorem e_try_FoldError_NoNumbers (t : Tx fas fn tf ex K mg) : isnB "FoldError" "NoNumbers" [("NoNumbers", true)] K = true := (He.ba (He.ba (He.ba t.more).2).2).1
theorem t_DIGITS (t : Tx fas fn tf ex K mg) : ConstG K mg "DIGITS" VLib2.c_DIGITS := t.strC 29
theorem r_BadText (t : Tx fas fn tf ex K mg) : XFld P w K mg base (He.ga K "BadText") "at" :=
  let ⟨fd, F⟩ := t.c.def_ 26 (d := di_BadText) rfl
  xfld_of (xfldB_ok (e_fld_BadText t)) F ⟨rfl, rfl, rfl, by decide +kernel, rfl, by decide +kernel, by decide +kernel⟩ (fun _ _ _ _ _ _ us hl => match us, hl with | [_, _], _ => rfl) (.inl rfl) (.inl rfl) (by decide) (by decide) (fun X => rfl)
theorem ok_try_FoldError_NoNumbers (t : Tx fas fn tf ex K mg) : EOk K mg (He.ga K "FoldError") (He.ga K "NoNumbers") [("NoNumbers", He.ga K "NoNumbers", true)] :=
  eok_of (e_try_FoldError_NoNumbers t) (by
    intro e he
    simp only [List.mem_cons, List.not_mem_nil, or_false] at he
    rcases he with rfl
    · exact t.glo 26)
theorem g_law_hand_ (t : Tx fas fn tf ex K mg) (b : Bx tf K mg base T) : DOk false P w K mg base T 1 "_law_hand" ["script"] (VLib2.law_hand_m 6203 13) :=
  let ⟨fd, F⟩ := t.dfn (st := slaw_hand_) 0
  dok_of F (t.glo 0) (ok_law_hand_ F (t.free 30) (t.free 31) (t.free 32)) (fun _ _ _ _ _ _ us hl => match us, hl with | [_], _ => rfl)
theorem g_law_draw_ (t : Tx fas fn tf ex K mg) (b : Bx tf K mg base T) : DOk false P w K mg base T 1 "_law_draw" ["hand", "many"] (law_draw_m 41) :=
  let ⟨fd, F⟩ := t.dfn (st := slaw_draw_) 1
  dok_of F (t.glo 1) (ok_law_draw_ F (t.free 32) (t.free 30)) (fun _ _ _ _ _ _ us hl => match us, hl with | [_, _], _ => rfl)
theorem g_law_any_ (t : Tx fas fn tf ex K mg) (b : Bx tf K mg base T) : DOk false P w K mg base T 2 "_law_any" ["hand", "things"] (VLib2.law_any_m 41) :=
  let ⟨fd, F⟩ := t.dfn (st := slaw_any_) 2
  dok_of F (t.glo 2) (ok_law_any_ F (t.free 32) (g_law_draw_ t b)) (fun _ _ _ _ _ _ us hl => match us, hl with | [_, _], _ => rfl)
theorem g_law_like_ (t : Tx fas fn tf ex K mg) (b : Bx tf K mg base T) : DOk true P w K mg base T 1 "_law_like" ["told", "due"] VLib2.law_like_m :=
  let ⟨fd, F⟩ := t.dfn (st := slaw_like_) 3
  dok_of F (t.glo 3) (ok_law_like_ F (t.free 33)) (fun _ _ _ _ _ _ us hl => match us, hl with | [_, _], _ => rfl)
theorem g_is_row_ (t : Tx fas fn tf ex K mg) (b : Bx tf K mg base T) : DOk false P w K mg base T 1 "is_row" ["thing"] is_row_m :=
  let ⟨fd, F⟩ := t.dfn (st := sis_row_) 4
  dok_of F (t.glo 4) (ok_is_row_ F (t.free 34) (t.free 35) (t.free 36)) (fun _ _ _ _ _ _ us hl => match us, hl with | [_], _ => rfl)
theorem g_frac_word_ (t : Tx fas fn tf ex K mg) (b : Bx tf K mg base T) : DOk false P w K mg base T 1 "frac_word" ["one"] VLib2.frac_word_m :=
  let ⟨fd, F⟩ := t.dfn (st := sfrac_word_) 5
  dok_of F (t.glo 5) (ok_frac_word_ F (t.free 37)) (fun _ _ _ _ _ _ us hl => match us, hl with | [_], _ => rfl)
theorem g_common_part_ (t : Tx fas fn tf ex K mg) (b : Bx tf K mg base T) : DOk false P w K mg base T 1 "common_part" ["one", "other"] common_part_m :=
  let ⟨fd, F⟩ := t.dfn (st := scommon_part_) 6
  dok_of F (t.glo 6) (ok_common_part_ F (t.free 31)) (fun _ _ _ _ _ _ us hl => match us, hl with | [_, _], _ => rfl)
theorem g_is_integer_ (t : Tx fas fn tf ex K mg) (b : Bx tf K mg base T) : DOk false P w K mg base T 1 "is_integer" ["thing"] is_integer_m :=
  let ⟨fd, F⟩ := t.dfn (st := sis_integer_) 7
  dok_of F (t.glo 7) (ok_is_integer_ F (t.free 34) (t.free 38) (t.free 30)) (fun _ _ _ _ _ _ us hl => match us, hl with | [_], _ => rfl)
theorem g_is_fraction_ (t : Tx fas fn tf ex K mg) (b : Bx tf K mg base T) : DOk false P w K mg base T 2 "is_fraction" ["thing"] is_fraction_m :=
  let ⟨fd, F⟩ := t.dfn (st := sis_fraction_) 8
  dok_of F (t.glo 8) (ok_is_fraction_ F (t.free 32) (t.free 34) (t.free 36) (g_is_integer_ t b) (g_common_part_ t b)) (fun _ _ _ _ _ _ us hl => match us, hl with | [_], _ => rfl)
theorem g_numbers_text_ (t : Tx fas fn tf ex K mg) (b : Bx tf K mg base T) : DOk false P w K mg base T 3 "numbers_text" ["numbers"] numbers_text_m :=
  let ⟨fd, F⟩ := t.dfn (st := snumbers_text_) 9
  dok_of F (t.glo 9) (ok_numbers_text_ F (t.free 39) (t.xcls 43) (t.glo 26) (g_is_fraction_ t b) (g_is_row_ t b) (g_frac_word_ t b)) (fun _ _ _ _ _ _ us hl => match us, hl with | [_], _ => rfl)
theorem g_law_is_none_ (t : Tx fas fn tf ex K mg) (b : Bx tf K mg base T) : DOk false P w K mg base T 4 "_law_is_none" ["thing"] law_is_none_m :=
  let ⟨fd, F⟩ := t.dfn (st := slaw_is_none_) 10
  dok_of F (t.glo 10) (ok_law_is_none_ F (t.free 34) (ok_try_FoldError_NoNumbers t) (t.glo 27) (t.glo 26) (g_numbers_text_ t b)) (fun _ _ _ _ _ _ us hl => match us, hl with | [_], _ => rfl)
theorem i_law_place_ (t : Tx fas fn tf ex K mg) : Ilaw_place_ K mg := by
  obtain ⟨fd, F⟩ := t.dfn (st := slaw_place_) 11
  obtain ⟨e1, e2⟩ := He.ba (e_plc_law_place_ t)
  have ok0 : EOk K mg (He.ga K "FoldError") (He.ga K "BadText") [("BadText", He.ga K "BadText", true)] := eok_of e1 (by
    intro e he
    simp only [List.mem_cons, List.not_mem_nil, or_false] at he
    rw [he]
    exact t.glo 28)
  have x := xfldB_ok e2
  obtain ⟨o1, o2, o3, o4⟩ := ok0.ok _ (List.mem_cons_self ..)
  have ok : PlcOk K mg (He.ga K "FoldError") (He.ga K "BadText") "BadText" "at" := ⟨o1, o2, o3, o4, x.xf, x.fld⟩
  refine ⟨_, _, _, fd, ok, F, t.glo 11, F.bindsN (fun _ _ _ _ _ _ us hl => match us, hl with | [_], _ => rfl), sc_law_place_, rfl, .inl rfl, fun X cdg q hK hG => ?_⟩
  subst hK hG
  exact plc_gives (pe := ⟨0, 0, 0, 0⟩) ok (t.glo 27) (t.free 34) rfl rfl rfl (by decide) (by decide) (by decide) (by decide) rfl (by decide +kernel) rfl (fun f => rfl) (fun _ => rfl)
theorem g_law_low_ (t : Tx fas fn tf ex K mg) (b : Bx tf K mg base T) : DOk false P w K mg base T 1 "_law_low" ["top", "bottom"] VLib2.law_low_m :=
  let ⟨fd, F⟩ := t.dfn (st := slaw_low_) 12
  dok_of F (t.glo 12) (ok_law_low_ F (t.free 31) (t.free 30)) (fun _ _ _ _ _ _ us hl => match us, hl with | [_, _], _ => rfl)
theorem g_law_digits_ (t : Tx fas fn tf ex K mg) (b : Bx tf K mg base T) : DOk false P w K mg base T 2 "_law_digits" ["hand", "most"] (VLib2.law_digits_m 41) :=
  let ⟨fd, F⟩ := t.dfn (st := slaw_digits_) 13
  dok_of F (t.glo 13) (ok_law_digits_ F (t.free 30) (g_law_draw_ t b)) (fun _ _ _ _ _ _ us hl => match us, hl with | [_, _], _ => rfl)
theorem g_law_drawn_fraction_ (t : Tx fas fn tf ex K mg) (b : Bx tf K mg base T) : DOk false P w K mg base T 3 "_law_drawn_fraction" ["hand"] (VLib2.law_drawn_fraction_m 41) :=
  let ⟨fd, F⟩ := t.dfn (st := slaw_drawn_fraction_) 14
  dok_of F (t.glo 14) (ok_law_drawn_fraction_ F (g_law_any_ t b) (g_law_digits_ t b) (g_law_low_ t b) (g_law_draw_ t b)) (fun _ _ _ _ _ _ us hl => match us, hl with | [_], _ => rfl)
theorem g_is_whole_text_ (t : Tx fas fn tf ex K mg) (b : Bx tf K mg base T) : DOk false P w K mg base T 1 "is_whole_text" ["text"] VLib2.is_whole_text_m :=
  let ⟨fd, F⟩ := t.dfn (st := sis_whole_text_) 15
  dok_of F (t.glo 15) (ok_is_whole_text_ F (t.free 40) (t_DIGITS t)) (fun _ _ _ _ _ _ us hl => match us, hl with | [_], _ => rfl)
theorem g_is_signed_text_ (t : Tx fas fn tf ex K mg) (b : Bx tf K mg base T) : DOk false P w K mg base T 2 "is_signed_text" ["text"] VLib2.is_signed_text_m :=
  let ⟨fd, F⟩ := t.dfn (st := sis_signed_text_) 16
  dok_of F (t.glo 16) (ok_is_signed_text_ F (g_is_whole_text_ t b)) (fun _ _ _ _ _ _ us hl => match us, hl with | [_], _ => rfl)
theorem g_word_frac_ (t : Tx fas fn tf ex K mg) (b : Bx tf K mg base T) : DOk false P w K mg base T 3 "word_frac" ["text"] VLib2.word_frac_m :=
  let ⟨fd, F⟩ := t.dfn (st := sword_frac_) 17
  dok_of F (t.glo 17) (ok_word_frac_ F (t.free 32) (t.free 30) (g_is_signed_text_ t b) (g_is_whole_text_ t b) (g_common_part_ t b)) (fun _ _ _ _ _ _ us hl => match us, hl with | [_], _ => rfl)
theorem g_read_numbers_ (t : Tx fas fn tf ex K mg) (b : Bx tf K mg base T) : DOk false P w K mg base T 4 "read_numbers" ["text"] read_numbers_m :=
  let ⟨fd, F⟩ := t.dfn (st := sread_numbers_) 18
  dok_of F (t.glo 18) (ok_read_numbers_ F (t.free 34) (t.free 37) (t.free 41) (t.free 36) (r_BadText t) (t.glo 28) (g_word_frac_ t b)) (fun _ _ _ _ _ _ us hl => match us, hl with | [_], _ => rfl)
theorem g_law_fraction_text_ (t : Tx fas fn tf ex K mg) (b : Bx tf K mg base T) : DOk false P w K mg base T 1 "_law_fraction_text" ["one"] VLib2.law_fraction_text_m :=
  let ⟨fd, F⟩ := t.dfn (st := slaw_fraction_text_) 19
  dok_of F (t.glo 19) (ok_law_fraction_text_ F (t.free 37)) (fun _ _ _ _ _ _ us hl => match us, hl with | [_], _ => rfl)
theorem g_law_integer_of_ (t : Tx fas fn tf ex K mg) (b : Bx tf K mg base T) : DOk false P w K mg base T 1 "_law_integer_of" ["word"] VLib2.law_integer_of_m :=
  let ⟨fd, F⟩ := t.dfn (st := slaw_integer_of_) 20
  dok_of F (t.glo 20) (ok_law_integer_of_ F (t.free 32) (t.free 40) (t.free 30)) (fun _ _ _ _ _ _ us hl => match us, hl with | [_], _ => rfl)
theorem g_law_fraction_of_ (t : Tx fas fn tf ex K mg) (b : Bx tf K mg base T) : DOk false P w K mg base T 2 "_law_fraction_of" ["word"] VLib2.law_fraction_of_m :=
  let ⟨fd, F⟩ := t.dfn (st := slaw_fraction_of_) 21
  dok_of F (t.glo 21) (ok_law_fraction_of_ F (t.free 32) (t.free 36) (g_law_integer_of_ t b) (g_law_low_ t b)) (fun _ _ _ _ _ _ us hl => match us, hl with | [_], _ => rfl)
theorem g_law_told_words_ (t : Tx fas fn tf ex K mg) (b : Bx tf K mg base T) : DOk false P w K mg base T 3 "_law_told_words" ["text"] law_told_words_m :=
  let ⟨fd, F⟩ := t.dfn (st := slaw_told_words_) 22
  dok_of F (t.glo 22) (ok_law_told_words_ F (t.free 41) (t.free 36) (g_law_fraction_of_ t b)) (fun _ _ _ _ _ _ us hl => match us, hl with | [_], _ => rfl)
theorem g_law_is_read_ (t : Tx fas fn tf ex K mg) (b : Bx tf K mg base T) : DOk true P w K mg base T 7 "_law_is_read" ["text"] law_is_read_m :=
  let ⟨fd, F⟩ := t.dfn (st := slaw_is_read_) 23
  dok_of F (t.glo 23) (ok_law_is_read_ F (t.free 34) (t.free 30) (g_law_told_words_ t b) (g_law_like_ t b) (g_read_numbers_ t b) (i_law_place_ t) (b.lam t (by decide))) (fun _ _ _ _ _ _ us hl => match us, hl with | [_], _ => rfl)
theorem g_law_bent_ (t : Tx fas fn tf ex K mg) (b : Bx tf K mg base T) : DOk false P w K mg base T 3 "_law_bent" ["hand", "text"] law_bent_m :=
  let ⟨fd, F⟩ := t.dfn (st := slaw_bent_) 24
  dok_of F (t.glo 24) (ok_law_bent_ F (t.free 32) (t.free 41) (g_law_draw_ t b) (g_law_any_ t b)) (fun _ _ _ _ _ _ us hl => match us, hl with | [_, _], _ => rfl)
theorem law_F (t : Tx fas fn tf ex K mg) (b : Bx tf K mg base T) : ∃ fd, VFn true P w K mg base T 10 (He.ga K "law") fd ["script"] law_m ∧ FnP K "law" slaw_ (He.ga K "law") fd :=
  let ⟨fd, F⟩ := t.dfn (st := slaw_) 25
  ⟨fd, ok_law_ F (t.free 42) (t.free 33) (t.free 36) (t.free 39) (g_law_hand_ t b) (g_law_any_ t b) (g_law_drawn_fraction_ t b) (g_law_fraction_text_ t b) (g_law_like_ t b) (g_read_numbers_ t b) (g_numbers_text_ t b) (g_law_is_read_ t b) (g_law_bent_ t b) (g_law_draw_ t b) (g_law_is_none_ t b) (i_law_place_ t) (b.lam t (by decide)), F⟩
end
end K62
open PySem PySem.W PySem.Calls PyProof.Rows
theorem PySem.Challenge.cw_creasehall_k62_whole_texts_of_numbers_wo_holds : PySem.Challenge.rw_creasehall_k62_whole_texts_of_numbers_wo.Holds := by
  w_on; o_law
  refine HandSHeadRun.head_any (r := OpenLaw.row PySem.Challenge.rw_creasehall_k62_whole_texts_of_numbers_wo) (q := view (OpenLaw.row PySem.Challenge.rw_creasehall_k62_whole_texts_of_numbers_wo).prog [33]) (H := K62.hk) (ob := K62.ob) (M := 4000) (loose := K62.loose) (d := HandSHeadRun.topDef (OpenLaw.row PySem.Challenge.rw_creasehall_k62_whole_texts_of_numbers_wo).prog 33) (kwd := []) K62.ob_eq
    (by kernel_rfl) (fun s => by kernel_rfl) K62.run (by kernel_rfl) (by kernel_rfl) (by kernel_rfl) (by rfl) (by first | assumption | decide +kernel) (by decide +kernel) ⟨rfl, rfl, rfl, rfl, rfl, by decide +kernel⟩ ?hw ?hc
  case hw => w_witness2
  case hc =>
    refine VL.walk_ofVE (l := PySem.Challenge.rw_creasehall_k62_whole_texts_of_numbers_wo) (n := 63) (k := 10) (x := "script") rfl (by decide) (by kernel_rfl) ⟨rfl, by decide, by decide⟩ ?F
    intro w mg fa h Y G hmg0
    obtain ⟨K, KX, c⟩ := Y
    have hmg : mg ("law" : PySem.Str) = some (.ref fa) := by
      have e : (HandSHeadRun.topDef (OpenLaw.row PySem.Challenge.rw_creasehall_k62_whole_texts_of_numbers_wo).prog 33).name = ("law" : PySem.Str) := by kernel_rfl
      rw [← e]
      exact hmg0
    exact ⟨K, KX, VL.lawAt (st := K62.slaw_) KX G c hmg 25 rfl ⟨25, rfl⟩ K62.law_true (fun _ _ _ _ _ _ us hl => match us, hl with | [_], _ => rfl) fun base T t b => K62.law_F t b⟩

