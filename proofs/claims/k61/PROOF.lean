import PyProof.Rows.All
import Wide.All
import OpenK.AllK
import Wide.FinOn
import HandS.ForMost
import HandS.Exc
import HandS.Defaults
import HandS.IsInst
import HandS.Flow
import HandS.Wide
import HandS.Codes
import HandS.TupAny
import HandS.Style
import HandS.CallSlots
import HandS.HeadHook1
import HandS.HeadHook2
import HandS.Head0
import HandS.Head1
import HandS.Head2
import HandS.HeadEnd
import HandS.More
import KE.KStateDown
import Lean
import PySem.Challenge.RW_foundtwice_k61_powers_as_sets
set_option Elab.async false
set_option linter.all false
set_option maxRecDepth 100000
set_option maxHeartbeats 0
namespace DL
open PySem L2

/-! ### data, objects, slots -/
inductive Dv where
  | non | bl (b : Bool) | int (i : Int) | str (x : Str) | tup (l : List Dv) | lst (l : List Dv) | rol (l : List Dv) | dic (l : List (Key × Dv)) | hdl (k : Nat) | glo (x : Str) | ty (n : String)
inductive Ob where
  | lst (l : List Dv) | dct (l : List (Key × Dv)) | ins (c : Str) (fs : List (Str × Dv))
abbrev Sto := List Ob
inductive Sl where
  | no | va (d : Dv) | ow (l : List Dv) | od (l : List (Key × Dv))
abbrev Env := List Sl

section
variable (K : PySem.W.Frag) (L : Addr → Prop) (io : List Addr) (H : Hp)
mutual
inductive VR : V → Dv → Prop
  | non : VR .non .non
  | bl (b : Bool) : VR (.bl b) (.bl b)
  | int (i : Int) : VR (.int i) (.int i)
  | str (x : Str) : VR (.str x) (.str x)
  | tup {a : Addr} {xs : List V} {ds : List Dv} : ¬ L a → H a = some (.tup xs) → VRs xs ds → VR (.ref a) (.tup ds)
  | tupK {a : Addr} {xs : List V} {ds : List Dv} : (∀ H', SqT K H' a xs) → VRs xs ds → VR (.ref a) (.tup ds)
  | lst {a : Addr} {xs : List V} {ds : List Dv} : ¬ L a → H a = some (.lst xs) → VRs xs ds → VR (.ref a) (.lst ds)
  | rol {a : Addr} {xs : List V} {ds : List Dv} : ¬ L a → Rd H a (.lst xs) → VRs xs ds → VR (.ref a) (.rol ds)
  | rolK {a : Addr} {xs : List V} {ds : List Dv} : (∀ H', SqL K H' a xs) → VRs xs ds → VR (.ref a) (.rol ds)
  | dic {a : Addr} {kvs : List (Key × V)} {l : List (Key × Dv)} : ¬ L a → H a = some (.dK kvs) → VRp kvs l → VR (.ref a) (.dic l)
  | hdl {a : Addr} {k : Nat} : io[k]? = some a → VR (.ref a) (.hdl k)
  | glo (x : Str) : VR (.ref (He.ga K x)) (.glo x)
  | ty (n : String) : VR (.ty n) (.ty n)
inductive VRs : List V → List Dv → Prop
  | nil : VRs [] []
  | cons {v : V} {vs : List V} {d : Dv} {ds : List Dv} : VR v d → VRs vs ds → VRs (v :: vs) (d :: ds)
inductive VRp : List (Key × V) → List (Key × Dv) → Prop
  | nil : VRp [] []
  | cons {k : Key} {v : V} {vs : List (Key × V)} {d : Dv} {ds : List (Key × Dv)} : VR v d → VRp vs ds → VRp ((k, v) :: vs) ((k, d) :: ds)
end
end

/-- from one state to a later one: handles are added, what is new is fresh, what is no handle's stands -/
structure Stp (L : Addr → Prop) (io : List Addr) (H : Hp) (L' : Addr → Prop) (io' : List Addr) (H' : Hp) : Prop where
  pre : ∃ more, io' = io ++ more
  hn : ∀ x ∈ io', x ∈ io ∨ H x = none
  new : ∀ a, L' a → L a ∨ H a = none
  keep : ∀ a o, H a = some o → a ∉ io → H' a = some o
  up : ∀ a, L a → L' a

theorem Stp.refl (L : Addr → Prop) (io : List Addr) (H : Hp) : Stp L io H L io H := ⟨⟨[], by simp⟩, fun _ h => .inl h, fun _ h => .inl h, fun _ _ h _ => h, fun _ h => h⟩
theorem Stp.back {L L1 : Addr → Prop} {io io1 : List Addr} {H H1 : Hp} (a : Stp L io H L1 io1 H1) {x : Addr} (h : H1 x = none) : x ∈ io ∨ H x = none := by
  cases e : H x with
  | none => exact .inr rfl
  | some o =>
    by_cases hx : x ∈ io
    · exact .inl hx
    · rw [a.keep x o e hx] at h
      cases h
theorem Stp.trans {L L1 L2 : Addr → Prop} {io io1 io2 : List Addr} {H H1 H2 : Hp} (a : Stp L io H L1 io1 H1) (b : Stp L1 io1 H1 L2 io2 H2) (sub : ∀ x ∈ io, L x) : Stp L io H L2 io2 H2 where
  pre := by
    obtain ⟨m, rfl⟩ := a.pre
    obtain ⟨m1, rfl⟩ := b.pre
    exact ⟨m ++ m1, by simp⟩
  hn := fun x h => by
    rcases b.hn x h with h1 | h1
    · exact a.hn x h1
    · exact a.back h1
  new := fun x h => by
    rcases b.new x h with h1 | h1
    · exact a.new x h1
    · rcases a.back h1 with z | z
      · exact .inl (sub x z)
      · exact .inr z
  keep := fun x o h hn => by
    refine b.keep x o (a.keep x o h hn) fun hx => ?_
    rcases a.hn x hx with z | z
    · exact hn z
    · rw [z] at h; cases h
  up := fun x h => b.up x (a.up x h)

theorem rd_keep {H H' : Hp} {a : Addr} {u : HO} (r : Rd H a u) (k : ∀ o, H a = some o → H' a = some o) : Rd H' a u := by
  rcases r with r | ⟨o, r⟩
  · exact .inl (k _ r)
  · exact .inr ⟨o, k _ r⟩
theorem rd_some {H : Hp} {a : Addr} {u : HO} (r : Rd H a u) : ∃ o, H a = some o := by
  rcases r with r | ⟨o, r⟩
  · exact ⟨_, r⟩
  · exact ⟨_, r⟩
theorem io_keep {io more : List Addr} {k : Nat} {a : Addr} (h : io[k]? = some a) : (io ++ more)[k]? = some a := by
  have := (List.getElem?_eq_some_iff.mp h).1
  rw [List.getElem?_append_left this]
  exact h
section
variable {K : PySem.W.Frag} {L L' : Addr → Prop} {io io' : List Addr} {H H' : Hp}
/-- the general way on: handles stay, what is not volatile stands and stays not volatile -/
theorem VR.on (hp : ∀ (k : Nat) (a : Addr), io[k]? = some a → io'[k]? = some a) (hl : ∀ a o, H a = some o → ¬ L a → H' a = some o ∧ ¬ L' a) :
    ∀ {v : V} {d : Dv}, VR K L io H v d → VR K L' io' H' v d := by
  intro v d h
  refine VR.rec (motive_1 := fun v d _ => VR K L' io' H' v d) (motive_2 := fun vs ds _ => VRs K L' io' H' vs ds) (motive_3 := fun vs ds _ => VRp K L' io' H' vs ds) ?_ ?_ ?_ ?_ ?_ ?_ ?_ ?_ ?_ ?_ ?_ ?_ ?_ ?_ ?_ ?_ ?_ h
  · exact .non
  · exact fun b => .bl b
  · exact fun i => .int i
  · exact fun x => .str x
  · intro a xs ds nl e _ ih
    exact .tup (hl a _ e nl).2 (hl a _ e nl).1 ih
  · exact fun h _ ih => .tupK h ih
  · intro a xs ds nl e _ ih
    exact .lst (hl a _ e nl).2 (hl a _ e nl).1 ih
  · intro a xs ds nl r _ ih
    obtain ⟨o, e⟩ := rd_some r
    exact .rol (hl a o e nl).2 (rd_keep r fun o e => (hl a o e nl).1) ih
  · exact fun h _ ih => .rolK h ih
  · intro a xs ds nl e _ ih
    exact .dic (hl a _ e nl).2 (hl a _ e nl).1 ih
  · exact fun h => .hdl (hp _ _ h)
  · exact fun x => .glo x
  · exact fun n => .ty n
  · exact .nil
  · exact fun _ _ h1 h2 => .cons h1 h2
  · exact .nil
  · exact fun _ _ h1 h2 => .cons h1 h2
theorem VRs.on (hp : ∀ (k : Nat) (a : Addr), io[k]? = some a → io'[k]? = some a) (hl : ∀ a o, H a = some o → ¬ L a → H' a = some o ∧ ¬ L' a) :
    ∀ {vs : List V} {ds : List Dv}, VRs K L io H vs ds → VRs K L' io' H' vs ds
  | _, _, .nil => .nil
  | _, _, .cons h t => .cons (VR.on hp hl h) (VRs.on hp hl t)
theorem Stp.on (s : Stp L io H L' io' H') (sub : ∀ x ∈ io, L x) : (∀ (k : Nat) (a : Addr), io[k]? = some a → io'[k]? = some a) ∧ (∀ a o, H a = some o → ¬ L a → H' a = some o ∧ ¬ L' a) := by
  refine ⟨fun k a h => ?_, fun a o h nl => ⟨s.keep a o h fun z => nl (sub a z), fun z => ?_⟩⟩
  · obtain ⟨m, rfl⟩ := s.pre
    exact io_keep h
  · rcases s.new a z with q | q
    · exact nl q
    · rw [q] at h; cases h
theorem VR.step {v : V} {d : Dv} (h : VR K L io H v d) (s : Stp L io H L' io' H') (sub : ∀ x ∈ io, L x) : VR K L' io' H' v d := VR.on (s.on sub).1 (s.on sub).2 h
theorem VRs.step {v : List V} {d : List Dv} (h : VRs K L io H v d) (s : Stp L io H L' io' H') (sub : ∀ x ∈ io, L x) : VRs K L' io' H' v d := VRs.on (s.on sub).1 (s.on sub).2 h
theorem VR.less {v : V} {d : Dv} (h : VR K L io H v d) (hl : ∀ a, L' a → L a) : VR K L' io H v d := VR.on (fun _ _ h => h) (fun a o e n => ⟨e, fun z => n (hl a z)⟩) h
theorem VRs.less {v : List V} {d : List Dv} (h : VRs K L io H v d) (hl : ∀ a, L' a → L a) : VRs K L' io H v d := VRs.on (fun _ _ h => h) (fun a o e n => ⟨e, fun z => n (hl a z)⟩) h
/-- a volatile thing is changed -/
theorem VR.mut {v : V} {d : Dv} {p : Addr} {o : HO} (h : VR K L io H v d) (hp : L p) : VR K L io (upd H p o) v d :=
  VR.on (fun _ _ h => h) (fun a u e n => ⟨by rw [upd_ne (fun z => n (by rw [z]; exact hp))]; exact e, n⟩) h
theorem VRs.mut {v : List V} {d : List Dv} {p : Addr} {o : HO} (h : VRs K L io H v d) (hp : L p) : VRs K L io (upd H p o) v d :=
  VRs.on (fun _ _ h => h) (fun a u e n => ⟨by rw [upd_ne (fun z => n (by rw [z]; exact hp))]; exact e, n⟩) h
theorem VRs.mono (m : ∀ v d, VR K L io H v d → VR K L' io' H' v d) : ∀ {vs : List V} {ds : List Dv}, VRs K L io H vs ds → VRs K L' io' H' vs ds
  | _, _, .nil => .nil
  | _, _, .cons h t => .cons (m _ _ h) (VRs.mono m t)
theorem VRs.len : ∀ {vs : List V} {ds : List Dv}, VRs K L io H vs ds → vs.length = ds.length
  | _, _, .nil => rfl
  | _, _, .cons _ t => by rw [List.length_cons, List.length_cons, VRs.len t]
theorem VRs.get : ∀ {vs : List V} {ds : List Dv} {i : Nat} {d : Dv}, VRs K L io H vs ds → ds[i]? = some d → ∃ v, vs[i]? = some v ∧ VR K L io H v d
  | _, _, _, _, .nil, e => by simp at e
  | _, _, 0, _, .cons h _, e => by simp at e; subst e; exact ⟨_, rfl, h⟩
  | _, _, i + 1, _, .cons _ t, e => by
    obtain ⟨v, h1, h2⟩ := VRs.get (i := i) t (by simpa using e)
    exact ⟨v, by simpa using h1, h2⟩
theorem VRs.getV : ∀ {vs : List V} {ds : List Dv} {i : Nat} {v : V}, VRs K L io H vs ds → vs[i]? = some v → ∃ d, ds[i]? = some d ∧ VR K L io H v d
  | _, _, _, _, .nil, e => by simp at e
  | _, _, 0, _, .cons h _, e => by simp at e; subst e; exact ⟨_, rfl, h⟩
  | _, _, i + 1, _, .cons _ t, e => by
    obtain ⟨v, h1, h2⟩ := VRs.getV (i := i) t (by simpa using e)
    exact ⟨v, by simpa using h1, h2⟩
theorem VRs.app : ∀ {vs ws : List V} {ds es : List Dv}, VRs K L io H vs ds → VRs K L io H ws es → VRs K L io H (vs ++ ws) (ds ++ es)
  | _, _, _, _, .nil, h => h
  | _, _, _, _, .cons h t, h2 => .cons h (VRs.app t h2)
theorem VRs.set {v : V} {d : Dv} (h : VR K L io H v d) : ∀ {vs : List V} {ds : List Dv} (i : Nat), VRs K L io H vs ds → VRs K L io H (vs.set i v) (ds.set i d)
  | _, _, _, .nil => .nil
  | _, _, 0, .cons _ t => .cons h t
  | _, _, i + 1, .cons q t => .cons q (VRs.set h i t)
theorem VRs.take : ∀ {vs : List V} {ds : List Dv} (n : Nat), VRs K L io H vs ds → VRs K L io H (vs.take n) (ds.take n)
  | _, _, 0, _ => .nil
  | _, _, _ + 1, .nil => .nil
  | _, _, n + 1, .cons h t => .cons h (VRs.take n t)
theorem VRs.drop : ∀ {vs : List V} {ds : List Dv} (n : Nat), VRs K L io H vs ds → VRs K L io H (vs.drop n) (ds.drop n)
  | _, _, 0, h => h
  | _, _, _ + 1, .nil => .nil
  | _, _, n + 1, .cons _ t => VRs.drop n t
end

/-! ### the store -/
def PairR {α : Type} (R : V → Dv → Prop) : List (α × V) → List (α × Dv) → Prop := Paired fun p q => p.1 = q.1 ∧ R p.2 q.2
def ObR (K : PySem.W.Frag) (L : Addr → Prop) (io : List Addr) (H : Hp) (a : Addr) : Ob → Prop
  | .lst l => ∃ xs, H a = some (.lst xs) ∧ VRs K L io H xs l
  | .dct l => ∃ kvs, H a = some (.dK kvs) ∧ PairR (VR K L io H) kvs l
  | .ins c fs => ∃ dx vs, H a = some (.ins (He.ga K c) dx vs) ∧ PairR (VR K L io H) vs fs
theorem PairR.mono {α : Type} {R R' : V → Dv → Prop} (h : ∀ v d, R v d → R' v d) : ∀ {l : List (α × V)} {m : List (α × Dv)}, PairR R l m → PairR R' l m
  | _, _, .nil => .nil
  | _, _, .cons r t => .cons ⟨r.1, h _ _ r.2⟩ (PairR.mono h t)
structure SR (K : PySem.W.Frag) (L : Addr → Prop) (io : List Addr) (H : Hp) (S : Sto) : Prop where
  len : io.length = S.length
  nd : io.Nodup
  sub : ∀ a ∈ io, L a
  dom : ∀ a, L a → H a ≠ none
  obj : ∀ (k : Nat) (a : Addr) (o : Ob), io[k]? = some a → S[k]? = some o → ObR K L io H a o
/-- the state of a frame: entered at L0, io0, H0 -/
structure FR (K : PySem.W.Frag) (L0 : Addr → Prop) (io0 : List Addr) (H0 : Hp) (L : Addr → Prop) (io : List Addr) (H : Hp) (g : St) (e : Env) (S : Sto) : Prop where
  st : SR K L io H S
  len : g.length = e.length
  va : ∀ (i : Nat) (d : Dv), e[i]? = some (.va d) → ∃ v, g[i]? = some (some v) ∧ VR K L io H v d
  ow : ∀ (i : Nat) (l : List Dv), e[i]? = some (.ow l) → ∃ p xs, g[i]? = some (some (.ref p)) ∧ L p ∧ p ∉ io ∧ H0 p = none ∧ H p = some (.lst xs) ∧ VRs K L io H xs l
  od : ∀ (i : Nat) (l : List (Key × Dv)), e[i]? = some (.od l) → ∃ p kvs, g[i]? = some (some (.ref p)) ∧ L p ∧ p ∉ io ∧ H0 p = none ∧ H p = some (.dK kvs) ∧ PairR (VR K L io H) kvs l
  inj : ∀ (i j : Nat) (p : Addr), i ≠ j → (∀ d, e[i]? ≠ some (.va d)) → (∀ d, e[j]? ≠ some (.va d)) → e[i]? ≠ some .no → e[j]? ≠ some .no → g[i]? = some (some (.ref p)) → g[j]? ≠ some (some (.ref p))
  en : Stp L0 io0 H0 L io H
  sub0 : ∀ a ∈ io0, L0 a
  dom0 : ∀ a, L0 a → H0 a ≠ none
section
variable {K : PySem.W.Frag} {L0 L L' : Addr → Prop} {io0 io io' : List Addr} {H0 H H' : Hp} {g : St} {e : Env} {S S' : Sto}
theorem ObR.mono {a : Addr} {o : Ob} (h : ObR K L io H a o) (k : ∀ u, H a = some u → H' a = some u) (m : ∀ v d, VR K L io H v d → VR K L' io' H' v d) : ObR K L' io' H' a o := by
  cases o with
  | lst l =>
    obtain ⟨xs, e, r⟩ := h
    exact ⟨xs, k _ e, r.mono m⟩
  | dct l =>
    obtain ⟨xs, e, r⟩ := h
    exact ⟨xs, k _ e, r.mono m⟩
  | ins c fs =>
    obtain ⟨dx, xs, e, r⟩ := h
    exact ⟨dx, xs, k _ e, r.mono m⟩
/-- an expression was worked out: the frame stands -/
theorem FR.step (f : FR K L0 io0 H0 L io H g e S) (s : Stp L io H L' io' H') (st : SR K L' io' H' S') : FR K L0 io0 H0 L' io' H' g e S' where
  st := st
  len := f.len
  va := fun i d h => by
    obtain ⟨v, h1, h2⟩ := f.va i d h
    exact ⟨v, h1, h2.step s f.st.sub⟩
  ow := fun i l h => by
    obtain ⟨p, xs, h1, h2, h3, h4, h5, h6⟩ := f.ow i l h
    refine ⟨p, xs, h1, s.up p h2, fun z => ?_, h4, s.keep p _ h5 h3, h6.step s f.st.sub⟩
    rcases s.hn p z with q | q
    · exact h3 q
    · rw [q] at h5; cases h5
  od := fun i l h => by
    obtain ⟨p, xs, h1, h2, h3, h4, h5, h6⟩ := f.od i l h
    refine ⟨p, xs, h1, s.up p h2, fun z => ?_, h4, s.keep p _ h5 h3, h6.mono fun v d r => r.step s f.st.sub⟩
    rcases s.hn p z with q | q
    · exact h3 q
    · rw [q] at h5; cases h5
  inj := f.inj
  en := f.en.trans s f.sub0
  sub0 := f.sub0
  dom0 := f.dom0
end
end DL

namespace DL
open PySem L2

/-- what comes of a piece: a value, an exception of an own class with its fields, or nothing that is known -/
inductive Res (α : Type) where
  | ok (a : α) (S : Sto) | ex (c : Str) (fs : List (Str × Dv)) (S : Sto) | no
abbrev DE := Env → Sto → Res Dv
abbrev DT := Env → Sto → Res Bool
abbrev DA := Env → Sto → Res (List Dv)
def ExR (K : PySem.W.Frag) (L : Addr → Prop) (io : List Addr) (H : Hp) (x : Option Addr) (fs : List (Str × Dv)) : Prop := ∃ a vs, x = some a ∧ ¬ L a ∧ H a = some (.xd vs) ∧ PairR (VR K L io H) vs fs

/-- the end of a piece -/
def Fin {α β : Type} (K : PySem.W.Frag) (W : WX) (R : (Addr → Prop) → List Addr → Hp → β → α → Prop) (g : St) (L : Addr → Prop) (io : List Addr) (H : Hp) (Q : β → Hp → Prop) : Res α → Prop
  | .ok d S' => ∀ (v : β) (H' : Hp) (L' : Addr → Prop) (io' : List Addr), Stp L io H L' io' H' → SR K L' io' H' S' → R L' io' H' v d → Q v H'
  | .ex c fs S' => ∀ (x : Option Addr) (H' : Hp) (L' : Addr → Prop) (io' : List Addr), Stp L io H L' io' H' → SR K L' io' H' S' → ExR K L' io' H' x fs → W (.ref (He.ga K c)) x g H'
  | .no => False
/-- the reading of a piece that works out f -/
def Rdg {α β : Type} (K : PySem.W.Frag) (W : WX) (R : (Addr → Prop) → List Addr → Hp → β → α → Prop) (f : Env → Sto → Res α) : St → Hp → (β → Hp → Prop) → Prop := fun g H Q =>
  ∃ (L0 : Addr → Prop) (io0 : List Addr) (H0 : Hp) (L : Addr → Prop) (io : List Addr) (e : Env) (S : Sto), FR K L0 io0 H0 L io H g e S ∧ Fin K W R g L io H Q (f e S)
def rd (K : PySem.W.Frag) (W : WX) (f : DE) : TE := Rdg K W (VR K) f
def rdt (K : PySem.W.Frag) (W : WX) (f : DT) : TT := Rdg K W (fun _ _ _ (v : Bool) d => v = d) f
def rda (K : PySem.W.Frag) (W : WX) (f : DA) : TA := Rdg K W (VRs K) f
abbrev QE (X : Cx) (W : WX) (e : Expr) (f : DE) : Prop := PE X e (rd X.K W f)
abbrev QT (X : Cx) (W : WX) (e : Expr) (f : DT) : Prop := PT X e (rdt X.K W f)
abbrev QA (X : Cx) (W : WX) (es : List Expr) (f : DA) : Prop := PA X es (rda X.K W f)

theorem pe_imp {X : Cx} {e : Expr} {t t' : TE} (h : PE X e t) (i : ∀ g H Q, t' g H Q → t g H Q) : PE X e t' := ⟨fun pins s g H Q I q => h.run pins s g H Q I (i g H Q q)⟩
theorem pt_imp {X : Cx} {e : Expr} {t t' : TT} (h : PT X e t) (i : ∀ g H Q, t' g H Q → t g H Q) : PT X e t' := ⟨fun pins s g H Q I q => h.run pins s g H Q I (i g H Q q)⟩
theorem pw_imp {X : Cx} {e : Expr} {t t' : TT} (h : PW X e t) (i : ∀ g H Q, t' g H Q → t g H Q) : PW X e t' := ⟨fun w pins s g H Q I q => h.run w pins s g H Q I (i g H Q q)⟩
theorem pa_imp {X : Cx} {e : List Expr} {t t' : TA} (h : PA X e t) (i : ∀ g H Q, t' g H Q → t g H Q) : PA X e t' := ⟨fun p pins s g H Q I q => h.run p pins s g H Q I (i g H Q q)⟩
theorem ps_imp {X : Cx} {e : Stmt} {t t' : TS} (h : PS X e t) (i : ∀ D g H, t' D g H → t D g H) : PS X e t' := ⟨fun pins s g H D I q => h.run pins s g H D I (i D g H q)⟩
theorem pss_imp {X : Cx} {e : List Stmt} {t t' : TS} (h : PSs X e t) (i : ∀ D g H, t' D g H → t D g H) : PSs X e t' := ⟨fun pins s g H D I q => h.run pins s g H D I (i D g H q)⟩

/-! ### allocation -/
section
variable {K : PySem.W.Frag} {L L' : Addr → Prop} {io io' : List Addr} {H H' : Hp} {S S' : Sto} {p : Addr} {o : HO}
theorem SR.fresh (s : SR K L io H S) (hp : H p = none) : ¬ L p := fun z => s.dom p z hp
theorem Stp.alloc (hp : H p = none) : Stp L io H L io (upd H p o) := ⟨⟨[], by simp⟩, fun _ h => .inl h, fun _ h => .inl h, fun a u e _ => by rw [upd_ne (ne_of_none e hp)]; exact e, fun _ h => h⟩
theorem SR.alloc (s : SR K L io H S) (hp : H p = none) : SR K L io (upd H p o) S where
  len := s.len
  nd := s.nd
  sub := s.sub
  dom := fun a ha => by
    by_cases e : a = p
    · rw [e, upd_same]; exact fun z => nomatch z
    · rw [upd_ne e]; exact s.dom a ha
  obj := fun k a ob h1 h2 => (s.obj k a ob h1 h2).mono (fun u e => by rw [upd_ne (ne_of_none e hp)]; exact e) fun v d r => r.step (Stp.alloc hp) s.sub
theorem VR.newT {xs : List V} {ds : List Dv} (s : SR K L io H S) (hp : H p = none) (r : VRs K L io H xs ds) : VR K L io (upd H p (.tup xs)) (.ref p) (.tup ds) :=
  .tup (s.fresh hp) upd_same (r.step (Stp.alloc hp) s.sub)
theorem VR.newL {xs : List V} {ds : List Dv} (s : SR K L io H S) (hp : H p = none) (r : VRs K L io H xs ds) : VR K L io (upd H p (.lst xs)) (.ref p) (.lst ds) :=
  .lst (s.fresh hp) upd_same (r.step (Stp.alloc hp) s.sub)
end

/-! ### lists and tuples, read -/
def asL (S : Sto) : Dv → Option (List Dv)
  | .lst l => some l
  | .rol l => some l
  | .hdl k => match S[k]? with
    | some (.lst l) => some l
    | _ => none
  | _ => none
def asT : Dv → Option (List Dv)
  | .tup l => some l
  | _ => none
section
variable {K : PySem.W.Frag} {L : Addr → Prop} {io : List Addr} {H : Hp} {S : Sto} {v : V} {d : Dv} {l : List Dv}
theorem asL_ok (s : SR K L io H S) (r : VR K L io H v d) (h : asL S d = some l) : ∃ a xs, v = .ref a ∧ SqL K H a xs ∧ VRs K L io H xs l := by
  cases r with
  | lst nl e t => cases h; exact ⟨_, _, rfl, SqL.of e, t⟩
  | rol nl e t => cases h; exact ⟨_, _, rfl, .inl e, t⟩
  | rolK e t => cases h; exact ⟨_, _, rfl, e H, t⟩
  | hdl hk =>
    rename_i a k
    cases q : S[k]? with
    | none => simp [asL, q] at h
    | some o =>
      cases o with
      | lst l' =>
        simp [asL, q] at h
        subst h
        obtain ⟨xs, e, t⟩ := s.obj k a _ hk q
        exact ⟨a, xs, rfl, SqL.of e, t⟩
      | _ => simp [asL, q] at h
  | _ => cases h
theorem asT_ok (r : VR K L io H v d) (h : asT d = some l) : ∃ a xs, v = .ref a ∧ SqT K H a xs ∧ VRs K L io H xs l := by
  cases r with
  | tup nl e t => cases h; exact ⟨_, _, rfl, SqT.of e, t⟩
  | tupK e t => cases h; exact ⟨_, _, rfl, e H, t⟩
  | _ => cases h
end

/-! ### names, constants -/
def ofO {α : Type} : Option (α × Sto) → Res α
  | some (a, S) => .ok a S
  | none => .no
def bnd {α β : Type} (x : Res α) (k : α → Sto → Res β) : Res β := match x with
  | .ok a S => k a S
  | .ex c fs S => .ex c fs S
  | .no => .no
@[simp] theorem bnd_ok {α β : Type} (a : α) (S : Sto) (k : α → Sto → Res β) : bnd (.ok a S) k = k a S := rfl
@[simp] theorem ofO_some {α : Type} (a : α) (S : Sto) : ofO (some (a, S)) = .ok a S := rfl
section
variable {X : Cx} {W : WX} {pos : Pos}
def eVar (i : Nat) : DE := fun e S => match e[i]? with
  | some (.va d) => .ok d S
  | _ => .no
def eC (d : Dv) : DE := fun _ S => .ok d S
theorem rd_var {K : PySem.W.Frag} {i : Nat} {g : St} {H : Hp} {Q : VK} (h : rd K W (eVar i) g H Q) : tVar i g H Q := by
  obtain ⟨L0, io0, H0, L, io, e, S, fr, h⟩ := h
  cases q : e[i]? with
  | none => simp only [eVar, q] at h; exact h.elim
  | some sl =>
    cases sl with
    | va d' =>
      simp only [eVar, q] at h
      obtain ⟨v, h1, h2⟩ := fr.va i _ q
      exact ⟨v, h1, h v H L io (Stp.refl ..) fr.st h2⟩
    | _ => simp only [eVar, q] at h; exact h.elim
theorem qe_var (i : Nat) {x : Str} (hN : X.N[i]? = some x := by rfl) (hv : Vis X.env.scope x := by first | exact Or.inl rfl | exact Or.inr (Or.inl rfl) | exact Or.inr (Or.inr rfl)) (hd : (x == ("__debug__" : Str)) = false := by decide)
    (hcd : (x == ("__classdict__" : Str)) = false := by decide) : QE X W (.Name x pos) (eVar i) := pe_imp (pe_var hN hv hd hcd) fun _ _ _ h => rd_var h
theorem rd_C {K : PySem.W.Frag} {d : Dv} {v : V} {g : St} {H : Hp} {Q : VK} (r : ∀ L io, VR K L io H v d) (h : rd K W (eC d) g H Q) : tC v g H Q := by
  obtain ⟨L0, io0, H0, L, io, e, S, fr, h⟩ := h
  exact h v H L io (Stp.refl ..) fr.st (r _ _)
theorem qe_int {i : Int} {j} : QE X W (.Constant (.int i) j pos) (eC (.int i)) := pe_imp pe_int fun _ _ _ h => rd_C (fun _ _ => .int i) h
theorem qe_bl {b : Bool} {j} : QE X W (.Constant (.bool b) j pos) (eC (.bl b)) := pe_imp pe_bl fun _ _ _ h => rd_C (fun _ _ => .bl b) h
theorem qe_non {j} : QE X W (.Constant .none j pos) (eC .non) := pe_imp pe_non fun _ _ _ h => rd_C (fun _ _ => .non) h
theorem qe_str {x : Str} {j} : QE X W (.Constant (.str x) j pos) (eC (.str x)) := pe_imp pe_str fun _ _ _ h => rd_C (fun _ _ => .str x) h
/-- a module's name: a constant, a def, a class -/
theorem qe_glob {x : Str} {v : V} {d : Dv} {u : Value} (hm : X.mg x = some u) (r : RelV v u) (hr : ∀ L io H, VR X.K L io H v d) (hg : Gl X x := by rfl) (hd : (x == ("__debug__" : Str)) = false := by decide) : QE X W (.Name x pos) (eC d) :=
  pe_imp (pe_glob hg hm r hd) fun _ _ _ h => rd_C (fun _ _ => hr _ _ _) h
/-- a built-in class as a value -/
theorem qe_ty {x : Str} {n : String} (hm : X.mg x = none) (hv : bootBuiltins x = some (.type n)) (hg : Gl X x := by rfl) (hn : x ≠ "__name__" := by decide) (hd : (x == ("__debug__" : Str)) = false := by decide) : QE X W (.Name x pos) (eC (.ty n)) :=
  pe_imp (pe_bltn (v := .ty n) hg hm hv rfl hn hd) fun _ _ _ h => rd_C (fun _ _ => .ty n) h
end

/-! ### two parts, one after the other -/
section
variable {K : PySem.W.Frag} {W : WX} {α α' β β' γ : Type} {R : (Addr → Prop) → List Addr → Hp → β → α → Prop} {R' : (Addr → Prop) → List Addr → Hp → β' → α' → Prop}
theorem Fin.later {g : St} {L L1 : Addr → Prop} {io io1 : List Addr} {H H1 : Hp} {Q : β' → Hp → Prop} {r : Res α'} (h : Fin K W R' g L io H Q r) (s : Stp L io H L1 io1 H1) (sub : ∀ x ∈ io, L x) : Fin K W R' g L1 io1 H1 Q r := by
  cases r with
  | ok d S' => exact fun v H' L' io' s2 sr r2 => h v H' L' io' (s.trans s2 sub) sr r2
  | ex c fs S' => exact fun v H' L' io' s2 sr r2 => h v H' L' io' (s.trans s2 sub) sr r2
  | no => exact h
/-- the next part of a piece is worked out; the rest goes on -/
theorem Fin.bind {f : Env → Sto → Res α} {k : α → Sto → Res α'} {g : St} {L0 L : Addr → Prop} {io0 io : List Addr} {H0 H : Hp} {e : Env} {S : Sto} {Q : β' → Hp → Prop} {P : β → Hp → Prop}
    (fr : FR K L0 io0 H0 L io H g e S) (h : Fin K W R' g L io H Q (bnd (f e S) k))
    (n : ∀ (L1 : Addr → Prop) (io1 : List Addr) (H1 : Hp) (S1 : Sto) (a : α) (v : β), Stp L io H L1 io1 H1 → FR K L0 io0 H0 L1 io1 H1 g e S1 → R L1 io1 H1 v a → Fin K W R' g L1 io1 H1 Q (k a S1) → P v H1) : Rdg K W R f g H P := by
  refine ⟨L0, io0, H0, L, io, e, S, fr, ?_⟩
  cases hf : f e S with
  | ok a S1 =>
    rw [hf] at h
    intro v H1 L1 io1 s1 sr1 r1
    exact n L1 io1 H1 S1 a v s1 (fr.step s1 sr1) r1 (Fin.later (L := L) (io := io) (H := H) h s1 fr.st.sub)
  | ex c fs S1 =>
    rw [hf] at h
    exact h
  | no =>
    rw [hf] at h
    exact h
/-- the first part of a piece -/
theorem Rdg.bind {f : Env → Sto → Res α} {k : Env → α → Sto → Res α'} {g : St} {H : Hp} {Q : β' → Hp → Prop} {P : β → Hp → Prop}
    (h : Rdg K W R' (fun e S => bnd (f e S) (k e)) g H Q)
    (n : ∀ (L0 : Addr → Prop) (io0 : List Addr) (H0 : Hp) (L : Addr → Prop) (io : List Addr) (H1 : Hp) (e : Env) (S : Sto) (a : α) (v : β), FR K L0 io0 H0 L io H1 g e S → R L io H1 v a → Fin K W R' g L io H1 Q (k e a S) → P v H1) : Rdg K W R f g H P := by
  obtain ⟨L0, io0, H0, L, io, e, S, fr, h⟩ := h
  exact Fin.bind (k := k e) fr h fun L1 io1 H1 S1 a v _ fr1 r1 q => n L0 io0 H0 L1 io1 H1 e S1 a v fr1 r1 q
theorem Fin.ok1 {g : St} {L : Addr → Prop} {io : List Addr} {H : Hp} {Q : β' → Hp → Prop} {d : α'} {S : Sto} (h : Fin K W R' g L io H Q (.ok d S)) (sr : SR K L io H S) {v : β'} (r : R' L io H v d) : Q v H := h v H L io (Stp.refl ..) sr r
theorem Fin.rdg {f : Env → Sto → Res α'} {g : St} {L0 L : Addr → Prop} {io0 io : List Addr} {H0 H : Hp} {Q : β' → Hp → Prop} {e : Env} {S : Sto} (fr : FR K L0 io0 H0 L io H g e S) (h : Fin K W R' g L io H Q (f e S)) : Rdg K W R' f g H Q :=
  ⟨L0, io0, H0, L, io, e, S, fr, h⟩
end

/-! ### operators -/
/-- r serves what h gives -/
def OpS (K : PySem.W.Frag) (r : R2) (h : Sto → Dv → Dv → Option (Dv × Sto)) : Prop :=
  ∀ (L : Addr → Prop) (io : List Addr) (H : Hp) (S : Sto) (x y : V) (a b d : Dv) (S' : Sto) (Q : VK), SR K L io H S → VR K L io H x a → VR K L io H y b → h S a b = some (d, S') →
    (∀ (v : V) (H' : Hp) (L' : Addr → Prop) (io' : List Addr), Stp L io H L' io' H' → SR K L' io' H' S' → VR K L' io' H' v d → Q v H') → r x y H Q
theorem Fin.opt {α' β' : Type} {K : PySem.W.Frag} {W : WX} {R' : (Addr → Prop) → List Addr → Hp → β' → α' → Prop} {g : St} {L : Addr → Prop} {io : List Addr} {H : Hp} {Q : β' → Hp → Prop} {o : Option (α' × Sto)} (h : Fin K W R' g L io H Q (ofO o)) :
    ∃ d S', o = some (d, S') ∧ ∀ (v : β') (H' : Hp) (L' : Addr → Prop) (io' : List Addr), Stp L io H L' io' H' → SR K L' io' H' S' → R' L' io' H' v d → Q v H' := by
  cases o with
  | none => exact h.elim
  | some p => exact ⟨p.1, p.2, rfl, h⟩
def eBin (h : Sto → Dv → Dv → Option (Dv × Sto)) (f1 f2 : DE) : DE := fun e S => bnd (f1 e S) fun a S1 => bnd (f2 e S1) fun b S2 => ofO (h S2 a b)
theorem rd_bin {K : PySem.W.Frag} {W : WX} {r : R2} {h : Sto → Dv → Dv → Option (Dv × Sto)} {f1 f2 : DE} (ho : OpS K r h) {g : St} {H : Hp} {Q : VK} (q : rd K W (eBin h f1 f2) g H Q) : tOp r (rd K W f1) (rd K W f2) g H Q := by
  refine Rdg.bind (k := fun e a S1 => bnd (f2 e S1) fun b S2 => ofO (h S2 a b)) q fun L0 io0 H0 L io H1 e S a v fr ra q => ?_
  refine Fin.bind (k := fun b S2 => ofO (h S2 a b)) fr q fun L2 io2 H2 S2 b w s2 fr2 rb q => ?_
  obtain ⟨d, S3, h1, h2⟩ := q.opt
  exact ho L2 io2 H2 S2 v w a b d S3 Q fr2.st (ra.step s2 fr.st.sub) rb h1 h2
section
variable {X : Cx} {W : WX} {pos : Pos} {a b : Expr} {f1 f2 : DE} {r : R2} {h : Sto → Dv → Dv → Option (Dv × Sto)}
theorem qe_op {op : Operator} (ho : OpR X (binaryOp op) r) (hs : OpS X.K r h) (ha : QE X W a f1) (hb : QE X W b f2) : QE X W (.BinOp a op b pos) (eBin h f1 f2) := pe_imp (pe_op ho ha hb) fun _ _ _ q => rd_bin hs q
theorem qe_cmp {op : CmpOp} (ho : OpR X (compareOp op) r) (hs : OpS X.K r h) (ha : QE X W a f1) (hb : QE X W b f2) (hm : behindInMarks op b = false := by first | exact nomark _ | rfl) : QE X W (.Compare a [op] [b] pos) (eBin h f1 f2) := pe_imp (pe_cmpR ho ha hb hm) fun _ _ _ q => rd_bin hs q
/-- an expression whose value is a truth, as a test -/
def blD : Dv → Sto → Res Bool
  | .bl b, S => .ok b S
  | _, _ => .no
def tVal (f : DE) : DT := fun e S => bnd (f e S) blD
theorem rd_tval {K : PySem.W.Frag} {f : DE} {g : St} {H : Hp} {Q : Bool → Hp → Prop} (q : rdt K W (tVal f) g H Q) : tTest (rd K W f) g H Q := by
  refine Rdg.bind (R := VR K) (k := fun _ => blD) q fun L0 io0 H0 L io H1 e S a v fr ra q => ?_
  cases ra with
  | bl b => exact ⟨_, rfl, q.ok1 fr.st rfl⟩
  | _ => exact q.elim
theorem qt_cmp {op : CmpOp} (ho : OpR X (compareOp op) r) (hs : OpS X.K r h) (ha : QE X W a f1) (hb : QE X W b f2) (hm : behindInMarks op b = false := by first | exact nomark _ | rfl) : QT X W (.Compare a [op] [b] pos) (tVal (eBin h f1 f2)) :=
  pt_imp (pt_cmpR ho ha hb hm) fun g H Q q => by
    have z := rd_tval q
    exact (show tTest (tOp r (rd X.K W f1) (rd X.K W f2)) g H Q from rd_bin hs z)
end
end DL

namespace DL
open PySem L2

/-! ### arithmetic -/
def pu2 (h : Dv → Dv → Option Dv) : Sto → Dv → Dv → Option (Dv × Sto) := fun S a b => (h a b).map fun d => (d, S)
theorem pu2_ok {h : Dv → Dv → Option Dv} {S S' : Sto} {a b d : Dv} (e : pu2 h S a b = some (d, S')) : h a b = some d ∧ S' = S := by
  unfold pu2 at e
  cases q : h a b with
  | none => rw [q] at e; cases e
  | some z => rw [q] at e; cases e; exact ⟨rfl, rfl⟩
def iop (g : Int → Int → Option Dv) : Dv → Dv → Option Dv
  | .int i, .int j => g i j
  | _, _ => none
/-- an operator of two ints -/
theorem ops_int {K : PySem.W.Frag} {C : Int → Int → Prop} {gv : Int → Int → V} {g : Int → Int → Option Dv} (hg : ∀ i j d, g i j = some d → C i j ∧ ∀ L io H, VR K L io H (gv i j) d) : OpS K (rI C gv) (pu2 (iop g)) := by
  intro L io H S x y a b d S' Q sr ra rb e0 q
  obtain ⟨e, rfl⟩ := pu2_ok e0
  clear e0
  cases ra with
  | int i =>
    cases rb with
    | int j =>
      obtain ⟨hc, r⟩ := hg i j d e
      exact ⟨i, j, rfl, rfl, hc, q _ H L io (Stp.refl ..) sr (r _ _ _)⟩
    | _ => cases e
  | _ => cases e
theorem ops_int0 {K : PySem.W.Frag} {gv : Int → Int → V} {g : Int → Int → Dv} (hg : ∀ i j L io H, VR K L io H (gv i j) (g i j)) : OpS K (rI0 gv) (pu2 (iop fun i j => some (g i j))) := by
  intro L io H S x y a b d S' Q sr ra rb e0 q
  obtain ⟨e, rfl⟩ := pu2_ok e0
  clear e0
  cases ra with
  | int i =>
    cases rb with
    | int j =>
      cases e
      exact ⟨i, j, rfl, rfl, q _ H L io (Stp.refl ..) sr (hg _ _ _ _ _)⟩
    | _ => cases e
  | _ => cases e
def subD : Dv → Dv → Option Dv := iop fun i j => some (.int (i - j))
def mulD : Dv → Dv → Option Dv := iop fun i j => if (-(2 ^ 64) < i ∧ i < 2 ^ 64) ∨ (-(2 ^ 64) < j ∧ j < 2 ^ 64) then some (.int (i * j)) else none
def modD : Dv → Dv → Option Dv := iop fun i j => if 0 < j then some (.int (i % j)) else none
def fdivD : Dv → Dv → Option Dv := iop fun i j => if 0 < j ∧ j < 1073741824 then some (.int (i / j)) else none
def ltD : Dv → Dv → Option Dv := iop fun i j => some (.bl (decide (i < j)))
def leD : Dv → Dv → Option Dv := iop fun i j => some (.bl (decide (i ≤ j)))
def gtD : Dv → Dv → Option Dv := iop fun i j => some (.bl (decide (j < i)))
def geD : Dv → Dv → Option Dv := iop fun i j => some (.bl (decide (j ≤ i)))
section
variable {X : Cx} {W : WX} {pos : Pos} {a b : Expr} {f1 f2 : DE}
theorem qe_sub (ha : QE X W a f1) (hb : QE X W b f2) : QE X W (.BinOp a .Sub b pos) (eBin (pu2 subD) f1 f2) := qe_op op_sub (ops_int0 fun _ _ _ _ _ => .int _) ha hb
theorem qe_mul (ha : QE X W a f1) (hb : QE X W b f2) : QE X W (.BinOp a .Mult b pos) (eBin (pu2 mulD) f1 f2) := qe_op op_mul (ops_int fun i j d e => by
  split at e
  · rename_i h; cases e; exact ⟨h, fun _ _ _ => .int _⟩
  · cases e) ha hb
theorem qe_mod (ha : QE X W a f1) (hb : QE X W b f2) : QE X W (.BinOp a .Mod b pos) (eBin (pu2 modD) f1 f2) := qe_op op_mod (ops_int fun i j d e => by
  split at e
  · rename_i h; cases e; exact ⟨h, fun _ _ _ => .int _⟩
  · cases e) ha hb
theorem qe_fdiv (ha : QE X W a f1) (hb : QE X W b f2) : QE X W (.BinOp a .FloorDiv b pos) (eBin (pu2 fdivD) f1 f2) := qe_op op_fdiv (ops_int fun i j d e => by
  split at e
  · rename_i h; cases e; exact ⟨h, fun _ _ _ => .int _⟩
  · cases e) ha hb
theorem qe_lt (ha : QE X W a f1) (hb : QE X W b f2) : QE X W (.Compare a [.Lt] [b] pos) (eBin (pu2 ltD) f1 f2) := qe_cmp op_lt (ops_int0 fun _ _ _ _ _ => .bl _) ha hb
theorem qe_le (ha : QE X W a f1) (hb : QE X W b f2) : QE X W (.Compare a [.LtE] [b] pos) (eBin (pu2 leD) f1 f2) := qe_cmp op_le (ops_int0 fun _ _ _ _ _ => .bl _) ha hb
theorem qe_gt (ha : QE X W a f1) (hb : QE X W b f2) : QE X W (.Compare a [.Gt] [b] pos) (eBin (pu2 gtD) f1 f2) := qe_cmp op_gt (ops_int0 fun _ _ _ _ _ => .bl _) ha hb
theorem qe_ge (ha : QE X W a f1) (hb : QE X W b f2) : QE X W (.Compare a [.GtE] [b] pos) (eBin (pu2 geD) f1 f2) := qe_cmp op_ge (ops_int0 fun _ _ _ _ _ => .bl _) ha hb
theorem qt_lt (ha : QE X W a f1) (hb : QE X W b f2) : QT X W (.Compare a [.Lt] [b] pos) (tVal (eBin (pu2 ltD) f1 f2)) := qt_cmp op_lt (ops_int0 fun _ _ _ _ _ => .bl _) ha hb
theorem qt_le (ha : QE X W a f1) (hb : QE X W b f2) : QT X W (.Compare a [.LtE] [b] pos) (tVal (eBin (pu2 leD) f1 f2)) := qt_cmp op_le (ops_int0 fun _ _ _ _ _ => .bl _) ha hb
theorem qt_gt (ha : QE X W a f1) (hb : QE X W b f2) : QT X W (.Compare a [.Gt] [b] pos) (tVal (eBin (pu2 gtD) f1 f2)) := qt_cmp op_gt (ops_int0 fun _ _ _ _ _ => .bl _) ha hb
theorem qt_ge (ha : QE X W a f1) (hb : QE X W b f2) : QT X W (.Compare a [.GtE] [b] pos) (tVal (eBin (pu2 geD) f1 f2)) := qt_cmp op_ge (ops_int0 fun _ _ _ _ _ => .bl _) ha hb
end

/-! ### + -/
def rAddA (K : PySem.W.Frag) : R2 := fun x y H Q => rI0 (fun i j => .int (i + j)) x y H Q ∨ (∃ i j, x = .str i ∧ y = .str j ∧ i.length + j.length ≤ sizeLine ∧ Q (.str (i ++ j)) H) ∨ rCatA K x y H Q ∨ rCat x y H Q
theorem op_addA {X : Cx} : OpR X (binaryOp .Add) (rAddA X.K) := op_add.or (op_add_str.or (op_catA.or op_cat))
def addD : Sto → Dv → Dv → Option (Dv × Sto)
  | S, .int i, .int j => some (.int (i + j), S)
  | S, .str x, .str y => if x.length + y.length ≤ sizeLine then some (.str (x ++ y), S) else none
  | S, .tup l, .tup m => if l.length + m.length ≤ sizeLine then some (.tup (l ++ m), S) else none
  | S, .lst l, .lst m => if l.length + m.length ≤ sizeLine then some (.lst (l ++ m), S) else none
  | _, _, _ => none
theorem VR.tupS {K : PySem.W.Frag} {L : Addr → Prop} {io : List Addr} {H : Hp} {v : V} {l : List Dv} (r : VR K L io H v (.tup l)) : ∃ a xs, v = .ref a ∧ SqT K H a xs ∧ VRs K L io H xs l := asT_ok r rfl
theorem VRs.nil_iff {K : PySem.W.Frag} {L : Addr → Prop} {io : List Addr} {H : Hp} {vs : List V} {l : List Dv} (r : VRs K L io H vs l) : vs = [] ↔ l = [] := by
  cases r <;> simp
theorem ops_add {K : PySem.W.Frag} : OpS K (rAddA K) addD := by
  intro L io H S x y a b d S' Q sr ra rb e q
  cases a with
  | int i =>
    cases b with
    | int j =>
      cases e; cases ra; cases rb
      exact .inl ⟨i, j, rfl, rfl, q _ H L io (Stp.refl ..) sr (.int _)⟩
    | _ => cases e
  | str i =>
    cases b with
    | str j =>
      simp only [addD] at e
      split at e
      · rename_i h
        cases e; cases ra; cases rb
        exact .inr (.inl ⟨i, j, rfl, rfl, h, q _ H L io (Stp.refl ..) sr (.str _)⟩)
      · cases e
    | _ => cases e
  | tup l =>
    cases b with
    | tup m =>
      simp only [addD] at e
      split at e
      · rename_i h
        cases e
        obtain ⟨p1, xs, rfl, s1, r1⟩ := ra.tupS
        obtain ⟨p2, ys, rfl, s2, r2⟩ := rb.tupS
        refine .inr (.inr (.inl ⟨p1, p2, xs, ys, rfl, rfl, s1, s2, by rw [r1.len, r2.len]; exact h, fun h0 => ?_, fun h0 h1 => ?_, fun _ _ p hp => ?_⟩))
        · have : l = [] := r1.nil_iff.mp h0
          subst this
          exact q _ H L io (Stp.refl ..) sr rb
        · have : m = [] := r2.nil_iff.mp h1
          subst this
          rw [List.append_nil] at q
          exact q _ H L io (Stp.refl ..) sr ra
        · exact q _ _ L io (Stp.alloc hp) (sr.alloc hp) (VR.newT sr hp (r1.app r2))
      · cases e
    | _ => cases e
  | lst l =>
    cases b with
    | lst m =>
      simp only [addD] at e
      split at e
      · rename_i h
        cases e
        cases ra with
        | lst n1 e1 r1 =>
          cases rb with
          | lst n2 e2 r2 =>
            exact .inr (.inr (.inr ⟨_, _, _, _, rfl, rfl, e1, e2, by rw [r1.len, r2.len]; exact h, fun p hp => q _ _ L io (Stp.alloc hp) (sr.alloc hp) (VR.newL sr hp (r1.app r2))⟩))
      · cases e
    | _ => cases e
  | _ => cases e
theorem qe_add {X : Cx} {W : WX} {pos : Pos} {a b : Expr} {f1 f2 : DE} (ha : QE X W a f1) (hb : QE X W b f2) : QE X W (.BinOp a .Add b pos) (eBin addD f1 f2) := qe_op op_addA ops_add ha hb

/-! ### == -/
mutual
def toP : Dv → Option PyData
  | .non => some .none
  | .bl b => some (.bool b)
  | .int i => some (.int i)
  | .str x => some (.str x)
  | .tup l => (toPs l).map .tuple
  | .lst l => (toPs l).map .list
  | .rol l => (toPs l).map .list
  | .dic _ => none
  | .hdl _ => none
  | .glo _ => none
  | .ty _ => none
def toPs : List Dv → Option (List PyData)
  | [] => some []
  | d :: l => (toP d).bind fun p => (toPs l).map fun ps => p :: ps
end
/-- a handle's list as it stands -/
def res (S : Sto) : Dv → Dv
  | .hdl k => match S[k]? with
    | some (.lst l) => .rol l
    | _ => .hdl k
  | d => d
section
variable {K : PySem.W.Frag} {L : Addr → Prop} {io : List Addr} {H : Hp} {S : Sto}
mutual
theorem toP_ok : ∀ (d : Dv) (v : V) (p : PyData), VR K L io H v d → toP d = some p → Dp K H v p
  | .non, v, p, r, e => by cases r; cases e; exact .non
  | .bl b, v, p, r, e => by cases r; cases e; exact .bl b
  | .int b, v, p, r, e => by cases r; cases e; exact .int b
  | .str b, v, p, r, e => by cases r; cases e; exact .str b
  | .tup l, v, p, r, e => by
    obtain ⟨a, xs, rfl, s, t⟩ := r.tupS
    simp only [toP] at e
    cases q : toPs l with
    | none => rw [q] at e; cases e
    | some ps => rw [q] at e; cases e; exact .tup s (toPs_ok l xs ps t q)
  | .lst l, v, p, r, e => by
    simp only [toP] at e
    cases q : toPs l with
    | none => rw [q] at e; cases e
    | some ps =>
      rw [q] at e; cases e
      cases r with
      | lst n h t => exact .lst (SqL.of h) (toPs_ok l _ ps t q)
  | .rol l, v, p, r, e => by
    simp only [toP] at e
    cases q : toPs l with
    | none => rw [q] at e; cases e
    | some ps =>
      rw [q] at e; cases e
      cases r with
      | rol n h t => exact .lst (.inl h) (toPs_ok l _ ps t q)
      | rolK h t => exact .lst (h H) (toPs_ok l _ ps t q)
  | .dic k, v, p, r, e => by simp [toP] at e
  | .hdl k, v, p, r, e => by simp [toP] at e
  | .glo k, v, p, r, e => by simp [toP] at e
  | .ty k, v, p, r, e => by simp [toP] at e
theorem toPs_ok : ∀ (l : List Dv) (vs : List V) (ps : List PyData), VRs K L io H vs l → toPs l = some ps → DpAll K H vs ps
  | [], vs, ps, r, e => by cases r; simp [toPs] at e; subst e; exact .nil
  | d :: l, vs, ps, r, e => by
    cases r with
    | cons h t =>
      simp only [toPs] at e
      cases q : toP d with
      | none => rw [q] at e; cases e
      | some p =>
        rw [q] at e
        cases q2 : toPs l with
        | none => rw [q2] at e; cases e
        | some ps' =>
          rw [q2] at e
          cases e
          exact .cons (toP_ok d _ p h q) (toPs_ok l _ ps' t q2)
end
/-- .. a handle read as a list -/
theorem res_dp (sr : SR K L io H S) {v : V} {d : Dv} {p : PyData} (r : VR K L io H v d) (e : toP (res S d) = some p) : Dp K H v p := by
  cases d with
  | hdl k =>
    cases q : S[k]? with
    | none => simp [res, q, toP] at e
    | some o =>
      cases o with
      | lst l =>
        simp only [res, q, toP] at e
        cases q2 : toPs l with
        | none => rw [q2] at e; cases e
        | some ps =>
          rw [q2] at e; cases e
          cases r with
          | hdl hk =>
            obtain ⟨xs, h, t⟩ := sr.obj k _ _ hk q
            exact .lst (SqL.of h) (toPs_ok l _ ps t q2)
      | _ => simp [res, q, toP] at e
  | _ => exact toP_ok _ v p r e
end
def eqD (S : Sto) : Dv → Dv → Option Bool
  | .str x, .str y => some (decide (x = y))
  | .int x, .int y => some (decide (x = y))
  | .bl x, .bl y => some (decide (x = y))
  | .non, .non => some true
  | .non, .int _ => some false
  | .non, .bl _ => some false
  | .non, .str _ => some false
  | .int _, .non => some false
  | .int _, .str _ => some false
  | .bl _, .non => some false
  | .bl _, .str _ => some false
  | .str _, .non => some false
  | .str _, .int _ => some false
  | .str _, .bl _ => some false
  | a, b => (toP (res S a)).bind fun p => (toP (res S b)).bind fun q => if SeqAt.shaped p && SeqAt.shaped q then some (PyData.eqv p q) else none
def eqE : Sto → Dv → Dv → Option (Dv × Sto) := fun S a b => (eqD S a b).map fun c => (.bl c, S)
def neE : Sto → Dv → Dv → Option (Dv × Sto) := fun S a b => (eqD S a b).map fun c => (.bl (!c), S)
def rEqA (K : PySem.W.Frag) : R2 := fun x y H Q => rEq x y H Q ∨ rEqD K x y H Q
def rNeA (K : PySem.W.Frag) : R2 := fun x y H Q => rNe x y H Q ∨ rNeD K x y H Q
theorem eqD_deep {S : Sto} {a b : Dv} {c : Bool} (e : eqD S a b = some c) : (∃ x y : V, scal x y = true ∧ c = decide (x = y) ∧ ∀ (K : PySem.W.Frag) L io H v w, VR K L io H v a → VR K L io H w b → v = x ∧ w = y) ∨ ∃ p q, toP (res S a) = some p ∧ toP (res S b) = some q ∧ SeqAt.shaped p = true ∧ SeqAt.shaped q = true ∧ c = PyData.eqv p q := by
  have deep : ((toP (res S a)).bind fun p => (toP (res S b)).bind fun q => if SeqAt.shaped p && SeqAt.shaped q then some (PyData.eqv p q) else none) = some c → ∃ p q, toP (res S a) = some p ∧ toP (res S b) = some q ∧ SeqAt.shaped p = true ∧ SeqAt.shaped q = true ∧ c = PyData.eqv p q := by
    intro e
    cases h1 : toP (res S a) with
    | none => rw [h1] at e; cases e
    | some p =>
      cases h2 : toP (res S b) with
      | none => rw [h1, h2] at e; cases e
      | some q =>
        rw [h1, h2] at e
        simp only [Option.bind_some] at e
        split at e
        · rename_i hs
          simp only [Bool.and_eq_true] at hs
          cases e
          exact ⟨p, q, rfl, rfl, hs.1, hs.2, rfl⟩
        · cases e
  cases a <;> cases b <;> first
    | exact .inr (deep e)
    | (refine .inl ⟨_, _, ?_, ?_, fun K L io H v w r1 r2 => by cases r1; cases r2; exact ⟨rfl, rfl⟩⟩
       · rfl
       · cases e; first
          | rfl
          | (simp))
theorem ops_eq {K : PySem.W.Frag} : OpS K (rEqA K) eqE := by
  intro L io H S x y a b d S' Q sr ra rb e q
  unfold eqE at e
  cases h : eqD S a b with
  | none => rw [h] at e; cases e
  | some c =>
    rw [h] at e; cases e
    have fin := q (.bl c) H L io (Stp.refl ..) sr (.bl c)
    rcases eqD_deep h with ⟨x', y', h1, rfl, h3⟩ | ⟨p, p', h1, h2, h3, h4, rfl⟩
    · obtain ⟨rfl, rfl⟩ := h3 K L io H x y ra rb
      exact .inl ⟨h1, fin⟩
    · exact .inr ⟨p, p', res_dp sr ra h1, res_dp sr rb h2, h3, h4, fin⟩
theorem ops_ne {K : PySem.W.Frag} : OpS K (rNeA K) neE := by
  intro L io H S x y a b d S' Q sr ra rb e q
  unfold neE at e
  cases h : eqD S a b with
  | none => rw [h] at e; cases e
  | some c =>
    rw [h] at e; cases e
    have fin := q (.bl (!c)) H L io (Stp.refl ..) sr (.bl _)
    rcases eqD_deep h with ⟨x', y', h1, rfl, h3⟩ | ⟨p, p', h1, h2, h3, h4, rfl⟩
    · obtain ⟨rfl, rfl⟩ := h3 K L io H x y ra rb
      exact .inl ⟨h1, fin⟩
    · exact .inr ⟨p, p', res_dp sr ra h1, res_dp sr rb h2, h3, h4, fin⟩
section
variable {X : Cx} {W : WX} {pos : Pos} {a b : Expr} {f1 f2 : DE} {k : Nat}
theorem op_eqA (hr : Room k X.A) : OpR X (compareOp .Eq) (rEqA X.K) := op_eq.or (op_eqD hr.units)
theorem op_neA (hr : Room k X.A) : OpR X (compareOp .NotEq) (rNeA X.K) := op_ne.or (op_neD hr.units)
theorem qe_eq (hr : Room k X.A) (ha : QE X W a f1) (hb : QE X W b f2) : QE X W (.Compare a [.Eq] [b] pos) (eBin eqE f1 f2) := qe_cmp (op_eqA hr) ops_eq ha hb
theorem qe_ne (hr : Room k X.A) (ha : QE X W a f1) (hb : QE X W b f2) : QE X W (.Compare a [.NotEq] [b] pos) (eBin neE f1 f2) := qe_cmp (op_neA hr) ops_ne ha hb
theorem qt_eq (hr : Room k X.A) (ha : QE X W a f1) (hb : QE X W b f2) : QT X W (.Compare a [.Eq] [b] pos) (tVal (eBin eqE f1 f2)) := qt_cmp (op_eqA hr) ops_eq ha hb
theorem qt_ne (hr : Room k X.A) (ha : QE X W a f1) (hb : QE X W b f2) : QT X W (.Compare a [.NotEq] [b] pos) (tVal (eBin neE f1 f2)) := qt_cmp (op_neA hr) ops_ne ha hb
end

/-! ### in, is -/
def flatD : Dv → Bool
  | .non => true
  | .bl _ => true
  | .int _ => true
  | .str _ => true
  | _ => false
def eqF : Dv → Dv → Bool
  | .non, .non => true
  | .bl a, .bl b => a == b
  | .bl a, .int b => (if a then 1 else 0) == b
  | .int a, .bl b => a == (if b then 1 else 0)
  | .int a, .int b => a == b
  | .str a, .str b => a == b
  | _, _ => false
def inF (x : Dv) (l : List Dv) : Bool := l.any fun y => eqF y x
def asQ (S : Sto) (d : Dv) : Option (List Dv) := match asT d with
  | some l => some l
  | none => asL S d
theorem asQ_ok {K : PySem.W.Frag} {L : Addr → Prop} {io : List Addr} {H : Hp} {S : Sto} {v : V} {d : Dv} {l : List Dv} (s : SR K L io H S) (r : VR K L io H v d) (h : asQ S d = some l) : ∃ a xs, v = .ref a ∧ (SqL K H a xs ∨ SqT K H a xs) ∧ VRs K L io H xs l := by
  unfold asQ at h
  cases q : asT d with
  | some m =>
    rw [q] at h; cases h
    obtain ⟨a, xs, h1, h2, h3⟩ := asT_ok r q
    exact ⟨a, xs, h1, .inr h2, h3⟩
  | none =>
    rw [q] at h
    obtain ⟨a, xs, h1, h2, h3⟩ := asL_ok s r h
    exact ⟨a, xs, h1, .inl h2, h3⟩
def inD (neg : Bool) (S : Sto) (x y : Dv) : Option (Dv × Sto) := match y with
  | .str t => match x with
    | .str s => some (.bl (if neg then !(!(Builtin.Str.occurrences t s 0 t.length 1).isEmpty) else !(Builtin.Str.occurrences t s 0 t.length 1).isEmpty), S)
    | _ => none
  | _ => (asQ S y).bind fun l => if flatD x && l.all flatD then some (.bl (if neg then !inF x l else inF x l), S) else none
section
variable {K : PySem.W.Frag} {L : Addr → Prop} {io : List Addr} {H : Hp}
theorem flat_ok {v : V} {d : Dv} (r : VR K L io H v d) (h : flatD d = true) : flatV v = true := by
  cases r <;> first | rfl | cases h
theorem flats_ok : ∀ {vs : List V} {l : List Dv}, VRs K L io H vs l → l.all flatD = true → vs.all flatV = true
  | _, _, .nil, _ => rfl
  | _, _, .cons r t, h => by
    rw [List.all_cons, Bool.and_eq_true] at h
    rw [List.all_cons, flat_ok r h.1, flats_ok t h.2]
    rfl
theorem eqF_ok {v w : V} {a b : Dv} (r1 : VR K L io H v a) (r2 : VR K L io H w b) (h1 : flatD a = true) (h2 : flatD b = true) : eqV v w = eqF a b := by
  cases r1 <;> first | (cases h1; done) | (cases r2 <;> first | rfl | cases h2)
theorem inF_ok {v : V} {x : Dv} (r : VR K L io H v x) (hx : flatD x = true) : ∀ {vs : List V} {l : List Dv}, VRs K L io H vs l → l.all flatD = true → inV v vs = inF x l
  | _, _, .nil, _ => rfl
  | _, _, .cons q t, h => by
    rw [List.all_cons, Bool.and_eq_true] at h
    have ih := inF_ok r hx t h.2
    unfold inV inF at ih ⊢
    rw [List.any_cons, List.any_cons, ih, eqF_ok q r h.1 hx]
end
def rInA (K : PySem.W.Frag) : R2 := fun x y H Q => rIn K false x y H Q ∨ ∃ i j, x = .str i ∧ y = .str j ∧ Q (.bl (!(Builtin.Str.occurrences j i 0 j.length 1).isEmpty)) H
def rNiA (K : PySem.W.Frag) : R2 := fun x y H Q => rIn K true x y H Q ∨ ∃ i j, x = .str i ∧ y = .str j ∧ Q (.bl (!(!(Builtin.Str.occurrences j i 0 j.length 1).isEmpty))) H
theorem ops_inN {K : PySem.W.Frag} (neg : Bool) : OpS K (fun x y H Q => rIn K neg x y H Q ∨ ∃ i j, x = .str i ∧ y = .str j ∧ Q (.bl (if neg then !(!(Builtin.Str.occurrences j i 0 j.length 1).isEmpty) else !(Builtin.Str.occurrences j i 0 j.length 1).isEmpty)) H) (inD neg) := by
  intro L io H S x y a b d S' Q sr ra rb e q
  have seq : ((asQ S b).bind fun l => if flatD a && l.all flatD then some (Dv.bl (if neg then !inF a l else inF a l), S) else none) = some (d, S') → rIn K neg x y H Q := by
    intro e
    cases h : asQ S b with
    | none => rw [h] at e; cases e
    | some l =>
      rw [h] at e
      simp only [Option.bind_some] at e
      split at e
      · rename_i hf
        rw [Bool.and_eq_true] at hf
        cases e
        obtain ⟨p, xs, rfl, hs, t⟩ := asQ_ok sr rb h
        refine ⟨p, xs, rfl, hs, flat_ok ra hf.1, flats_ok t hf.2, ?_⟩
        rw [inF_ok ra hf.1 t hf.2]
        exact q _ H L io (Stp.refl ..) sr (.bl _)
      · cases e
  cases b with
  | str t =>
    cases a with
    | str s =>
      cases e; cases ra; cases rb
      exact .inr ⟨s, t, rfl, rfl, q _ H L io (Stp.refl ..) sr (.bl _)⟩
    | _ => cases e
  | _ => exact .inl (seq e)
section
variable {X : Cx} {W : WX} {pos : Pos} {a b : Expr} {f1 f2 : DE}
theorem qe_in (ha : QE X W a f1) (hb : QE X W b f2) (hm : behindInMarks .In b = false := by rfl) : QE X W (.Compare a [.In] [b] pos) (eBin (inD false) f1 f2) := qe_cmp (op_in_seq.or op_in_str) (ops_inN false) ha hb hm
theorem qe_ni (ha : QE X W a f1) (hb : QE X W b f2) (hm : behindInMarks .NotIn b = false := by rfl) : QE X W (.Compare a [.NotIn] [b] pos) (eBin (inD true) f1 f2) := qe_cmp (op_notIn_seq.or op_notin_str) (ops_inN true) ha hb hm
theorem qt_in (ha : QE X W a f1) (hb : QE X W b f2) (hm : behindInMarks .In b = false := by rfl) : QT X W (.Compare a [.In] [b] pos) (tVal (eBin (inD false) f1 f2)) := qt_cmp (op_in_seq.or op_in_str) (ops_inN false) ha hb hm
theorem qt_ni (ha : QE X W a f1) (hb : QE X W b f2) (hm : behindInMarks .NotIn b = false := by rfl) : QT X W (.Compare a [.NotIn] [b] pos) (tVal (eBin (inD true) f1 f2)) := qt_cmp (op_notIn_seq.or op_notin_str) (ops_inN true) ha hb hm
end
def isD (neg : Bool) : Dv → Dv → Option Dv
  | a, .non => some (.bl (match a with
    | .non => !neg
    | _ => neg))
  | .bl x, .bl y => some (.bl (if neg then !decide (x = y) else decide (x = y)))
  | _, _ => none
theorem ops_is {K : PySem.W.Frag} : OpS K (fun x y H Q => (y = .non ∧ Q (.bl (decide (x = .non))) H) ∨ rIsB x y H Q) (pu2 (isD false)) := by
  intro L io H S x y a b d S' Q sr ra rb e q
  obtain ⟨e, rfl⟩ := pu2_ok e
  cases b with
  | non =>
    cases e; cases rb
    refine .inl ⟨rfl, ?_⟩
    have := q _ H L io (Stp.refl ..) sr (.bl _)
    cases ra <;> exact this
  | bl z =>
    cases a with
    | bl y =>
      cases e; cases ra; cases rb
      exact .inr ⟨y, z, rfl, rfl, q _ H L io (Stp.refl ..) sr (.bl _)⟩
    | _ => cases e
  | _ => cases a <;> cases e
theorem ops_isnot {K : PySem.W.Frag} : OpS K (fun x y H Q => (y = .non ∧ Q (.bl (!decide (x = .non))) H) ∨ rNotB x y H Q) (pu2 (isD true)) := by
  intro L io H S x y a b d S' Q sr ra rb e q
  obtain ⟨e, rfl⟩ := pu2_ok e
  cases b with
  | non =>
    cases e; cases rb
    refine .inl ⟨rfl, ?_⟩
    have := q _ H L io (Stp.refl ..) sr (.bl _)
    cases ra <;> exact this
  | bl z =>
    cases a with
    | bl y =>
      cases e; cases ra; cases rb
      exact .inr ⟨y, z, rfl, rfl, q _ H L io (Stp.refl ..) sr (.bl _)⟩
    | _ => cases e
  | _ => cases a <;> cases e
section
variable {X : Cx} {W : WX} {pos : Pos} {a b : Expr} {f1 f2 : DE}
theorem qe_is (ha : QE X W a f1) (hb : QE X W b f2) : QE X W (.Compare a [.Is] [b] pos) (eBin (pu2 (isD false)) f1 f2) := qe_cmp (op_isN.or op_isBl) ops_is ha hb
theorem qe_isnot (ha : QE X W a f1) (hb : QE X W b f2) : QE X W (.Compare a [.IsNot] [b] pos) (eBin (pu2 (isD true)) f1 f2) := qe_cmp (op_notN.or op_notBl) ops_isnot ha hb
theorem qt_is (ha : QE X W a f1) (hb : QE X W b f2) : QT X W (.Compare a [.Is] [b] pos) (tVal (eBin (pu2 (isD false)) f1 f2)) := qt_cmp (op_isN.or op_isBl) ops_is ha hb
theorem qt_isnot (ha : QE X W a f1) (hb : QE X W b f2) : QT X W (.Compare a [.IsNot] [b] pos) (tVal (eBin (pu2 (isD true)) f1 f2)) := qt_cmp (op_notN.or op_notBl) ops_isnot ha hb
end
end DL

namespace DL
open PySem L2

/-! ### truth -/
def truD (S : Sto) : Dv → Option Bool
  | .non => some false
  | .bl b => some b
  | .int i => some (i != 0)
  | .str x => if x.length ≤ sizeLine then some ((x.length : Int) != 0) else none
  | .tup l => some (!l.isEmpty)
  | .lst l => some (!l.isEmpty)
  | .rol l => some (!l.isEmpty)
  | .dic l => some (!l.isEmpty)
  | .hdl k => match S[k]? with
    | some (.lst l) => some (!l.isEmpty)
    | some (.dct l) => some (!l.isEmpty)
    | _ => none
  | _ => none
section
variable {K : PySem.W.Frag} {L : Addr → Prop} {io : List Addr} {H : Hp} {S : Sto}
theorem VRs.empty {vs : List V} {l : List Dv} (r : VRs K L io H vs l) : vs.isEmpty = l.isEmpty := by cases r <;> rfl
theorem PairR.len {α : Type} {R : V → Dv → Prop} : ∀ {l : List (α × V)} {m : List (α × Dv)}, PairR R l m → l.length = m.length
  | _, _, .nil => rfl
  | _, _, .cons _ t => by rw [List.length_cons, List.length_cons, PairR.len t]
theorem truD_ok (s : SR K L io H S) {v : V} {d : Dv} {b : Bool} (r : VR K L io H v d) (e : truD S d = some b) : TruV K v H b := by
  have seq : ∀ {l : List Dv}, asL S d = some l → b = !l.isEmpty → TruV K v H b := fun h eb => by
    obtain ⟨a, xs, rfl, h1, h2⟩ := asL_ok s r h
    exact .inl ⟨xs, h1, by rw [h2.empty]; exact eb⟩
  cases d with
  | non => cases r; cases e; rfl
  | bl => cases r; cases e; rfl
  | int => cases r; cases e; rfl
  | str x =>
    cases r
    simp only [truD] at e
    split at e
    · rename_i h; cases e; exact ⟨h, rfl⟩
    · cases e
  | tup l =>
    obtain ⟨a, xs, rfl, h1, h2⟩ := r.tupS
    cases e
    exact .inr (.inl ⟨xs, h1, by rw [h2.empty]⟩)
  | lst l => cases e; exact seq rfl rfl
  | rol l => cases e; exact seq rfl rfl
  | dic l =>
    cases r with
    | dic n h t =>
      cases e
      refine .inr (.inr ⟨_, h, ?_⟩)
      cases t <;> rfl
  | hdl k =>
    cases q : S[k]? with
    | none => simp [truD, q] at e
    | some o =>
      cases o with
      | lst l =>
        simp [truD, q] at e
        exact seq (l := l) (by simp [asL, q]) (by rw [e]; simp)
      | dct l =>
        simp [truD, q] at e
        cases r with
        | hdl hk =>
          obtain ⟨kvs, h1, h2⟩ := s.obj k _ _ hk q
          refine .inr (.inr ⟨kvs, h1, ?_⟩)
          have e2 : kvs.isEmpty = l.isEmpty := by cases h2 <;> rfl
          rw [e2, e]
          simp
      | ins => simp [truD, q] at e
  | _ => simp [truD] at e
end
def truR (a : Dv) (S : Sto) : Res Bool := ofO ((truD S a).map fun b => (b, S))
def tTru (f : DE) : DT := fun e S => bnd (f e S) truR
theorem map_ok {α β : Type} {o : Option α} {f : α → β} {b : β} (h : o.map f = some b) : ∃ a, o = some a ∧ f a = b := by
  cases o with
  | none => cases h
  | some a => exact ⟨a, rfl, Option.some.inj h⟩
section
variable {X : Cx} {W : WX} {pos : Pos} {a b c : Expr} {f f1 f2 : DE} {t1 t2 : DT} {rest : List Expr}
theorem qt_tru (ha : QE X W a f) (he : ∀ whole, isTrue a X.env whole = (do let v ← whole; standAt a.pos; holding [v] (truthy v)) := by intro _; rfl) : QT X W a (tTru f) :=
  pt_imp (pt_truth ha he) fun g H Q q => by
    refine Rdg.bind (R := VR X.K) (k := fun _ => truR) q fun L0 io0 H0 L io H1 e S d v fr rv q => ?_
    obtain ⟨d, S', h1, h2⟩ := q.opt
    obtain ⟨b, h3, h4⟩ := map_ok h1
    cases h4
    exact ⟨_, truD_ok fr.st rv h3, h2 _ H1 L io (Stp.refl ..) fr.st rfl⟩
/-- and, or, not as tests -/
def tAnd' (t1 t2 : DT) : DT := fun e S => bnd (t1 e S) fun b S1 => if b then t2 e S1 else .ok false S1
def tOr' (t1 t2 : DT) : DT := fun e S => bnd (t1 e S) fun b S1 => if b then .ok true S1 else t2 e S1
def tNot' (t1 : DT) : DT := fun e S => bnd (t1 e S) fun b S1 => .ok (!b) S1
theorem rd_and {K : PySem.W.Frag} {g : St} {H : Hp} {Q : Bool → Hp → Prop} (q : rdt K W (tAnd' t1 t2) g H Q) : tAnd (rdt K W t1) (rdt K W t2) g H Q := by
  refine Rdg.bind (R := fun _ _ _ (v : Bool) d => v = d) (k := fun e b S1 => if b then t2 e S1 else .ok false S1) q fun L0 io0 H0 L io H1 e S d v fr rv q => ?_
  subst rv
  cases v with
  | true => exact (iteT (Fin.rdg fr q))
  | false => exact (iteF (q.ok1 fr.st rfl))
theorem rd_or {K : PySem.W.Frag} {g : St} {H : Hp} {Q : Bool → Hp → Prop} (q : rdt K W (tOr' t1 t2) g H Q) : tOr (rdt K W t1) (rdt K W t2) g H Q := by
  refine Rdg.bind (R := fun _ _ _ (v : Bool) d => v = d) (k := fun e b S1 => if b then .ok true S1 else t2 e S1) q fun L0 io0 H0 L io H1 e S d v fr rv q => ?_
  subst rv
  cases v with
  | true => exact (iteT (q.ok1 fr.st rfl))
  | false => exact (iteF (Fin.rdg fr q))
abbrev QW (X : Cx) (W : WX) (e : Expr) (f : DT) : Prop := PW X e (rdt X.K W f)
theorem qw_and1 (ha : QT X W a t1) : QW X W (.BoolOp .And [a] pos) t1 := pw_and1 ha
theorem qw_or1 (ha : QT X W a t1) : QW X W (.BoolOp .Or [a] pos) t1 := pw_or1 ha
theorem qw_and (ha : QT X W a t1) (hb : QW X W (.BoolOp .And (b :: rest) pos) t2) : QW X W (.BoolOp .And (a :: b :: rest) pos) (tAnd' t1 t2) := pw_imp (pw_and ha hb) fun _ _ _ q => rd_and q
theorem qw_or (ha : QT X W a t1) (hb : QW X W (.BoolOp .Or (b :: rest) pos) t2) : QW X W (.BoolOp .Or (a :: b :: rest) pos) (tOr' t1 t2) := pw_imp (pw_or ha hb) fun _ _ _ q => rd_or q
theorem qt_w (h : QW X W a t1) : QT X W a t1 := PW.pt h
theorem qt_not (ha : QT X W a t1) : QT X W (.UnaryOp .Not a pos) (tNot' t1) := pt_imp (pt_not ha) fun g H Q q => by
  refine Rdg.bind (R := fun _ _ _ (v : Bool) d => v = d) (k := fun e b S1 => .ok (!b) S1) q fun L0 io0 H0 L io H1 e S d v fr rv q => ?_
  subst rv
  exact q.ok1 fr.st rfl
/-- a if t else b -/
def eIf (t : DT) (f1 f2 : DE) : DE := fun e S => bnd (t e S) fun b S1 => if b then f1 e S1 else f2 e S1
theorem qe_if (hc : QT X W c t1) (ha : QE X W a f1) (hb : QE X W b f2) : QE X W (.IfExp c a b pos) (eIf t1 f1 f2) := pe_imp (pe_ifExp hc ha hb) fun g H Q q => by
  refine Rdg.bind (R := fun _ _ _ (v : Bool) d => v = d) (k := fun e b S1 => if b then f1 e S1 else f2 e S1) q fun L0 io0 H0 L io H1 e S d v fr rv q => ?_
  subst rv
  cases v with
  | true => exact (iteT (Fin.rdg fr q))
  | false => exact (iteF (Fin.rdg fr q))
/-- and, or, not as values -/
def eAnd (f1 f2 : DE) : DE := fun e S => bnd (f1 e S) fun a S1 => bnd (truR a S1) fun k S2 => if k then f2 e S2 else .ok a S2
def eOr (f1 f2 : DE) : DE := fun e S => bnd (f1 e S) fun a S1 => bnd (truR a S1) fun k S2 => if k then .ok a S2 else f2 e S2
def eNot (f1 : DE) : DE := fun e S => bnd (f1 e S) fun a S1 => bnd (truR a S1) fun k S2 => .ok (.bl (!k)) S2
theorem Fin.tru {α' β' : Type} {K : PySem.W.Frag} {R' : (Addr → Prop) → List Addr → Hp → β' → α' → Prop} {g : St} {L : Addr → Prop} {io : List Addr} {H : Hp} {Q : β' → Hp → Prop} {k : Bool → Sto → Res α'} {a : Dv} {v : V} {S : Sto} (h : Fin K W R' g L io H Q (bnd (truR a S) k)) (sr : SR K L io H S) (r : VR K L io H v a) :
    ∃ b, TruV K v H b ∧ Fin K W R' g L io H Q (k b S) := by
  unfold truR at h
  cases q : truD S a with
  | none => rw [q] at h; exact h.elim
  | some b => rw [q] at h; exact ⟨b, truD_ok sr r q, h⟩
theorem qe_one {op} (h : QE X W a f) : QE X W (.BoolOp op [a] pos) f := pe_one h
theorem qe_and (ha : QE X W a f1) (hb : QE X W (.BoolOp .And (b :: rest) pos) f2) : QE X W (.BoolOp .And (a :: b :: rest) pos) (eAnd f1 f2) := pe_imp (pe_andT ha hb) fun g H Q q => by
  refine Rdg.bind (R := VR X.K) (k := fun e a S1 => bnd (truR a S1) fun k S2 => if k then f2 e S2 else .ok a S2) q fun L0 io0 H0 L io H1 e S d v fr rv q => ?_
  obtain ⟨k, h1, q⟩ := q.tru fr.st rv
  refine ⟨k, h1, ?_⟩
  cases k with
  | true => exact (iteT (Fin.rdg fr q))
  | false => exact (iteF (q.ok1 fr.st rv))
theorem qe_or (ha : QE X W a f1) (hb : QE X W (.BoolOp .Or (b :: rest) pos) f2) : QE X W (.BoolOp .Or (a :: b :: rest) pos) (eOr f1 f2) := pe_imp (pe_orT ha hb) fun g H Q q => by
  refine Rdg.bind (R := VR X.K) (k := fun e a S1 => bnd (truR a S1) fun k S2 => if k then .ok a S2 else f2 e S2) q fun L0 io0 H0 L io H1 e S d v fr rv q => ?_
  obtain ⟨k, h1, q⟩ := q.tru fr.st rv
  refine ⟨k, h1, ?_⟩
  cases k with
  | true => exact (iteT (q.ok1 fr.st rv))
  | false => exact (iteF (Fin.rdg fr q))
theorem qe_not (ha : QE X W a f1) : QE X W (.UnaryOp .Not a pos) (eNot f1) := pe_imp (pe_notT ha) fun g H Q q => by
  refine Rdg.bind (R := VR X.K) (k := fun e a S1 => bnd (truR a S1) fun k S2 => .ok (Dv.bl (!k)) S2) q fun L0 io0 H0 L io H1 e S d v fr rv q => ?_
  obtain ⟨k, h1, q⟩ := q.tru fr.st rv
  exact ⟨k, h1, q.ok1 fr.st (.bl _)⟩

/-! ### arguments, displays -/
variable {es : List Expr} {fa : DA}
def aNil : DA := fun _ S => .ok [] S
def aCons (f : DE) (fa : DA) : DA := fun e S => bnd (f e S) fun d S1 => bnd (fa e S1) fun l S2 => .ok (d :: l) S2
theorem qa_nil : QA X W [] aNil := pa_imp pa_nil fun g H Q q => by
  obtain ⟨L0, io0, H0, L, io, e, S, fr, q⟩ := q
  exact q.ok1 fr.st .nil
theorem qa_cons (ha : QE X W a f) (hr : QA X W es fa) (hs : starEach (a :: es) X.env = (false, eval a X.env) :: starEach es X.env := by rfl) : QA X W (a :: es) (aCons f fa) := pa_imp (pa_cons ha hr hs) fun g H Q q => by
  refine Rdg.bind (R := VR X.K) (k := fun e d S1 => bnd (fa e S1) fun l S2 => .ok (d :: l) S2) q fun L0 io0 H0 L io H1 e S d v fr rv q => ?_
  refine Fin.bind (R := VRs X.K) (k := fun l S2 => .ok (d :: l) S2) fr q fun L2 io2 H2 S2 l w s2 fr2 rw2 q => ?_
  exact q.ok1 fr2.st (.cons (rv.step s2 fr.st.sub) rw2)
def tupR (l : List Dv) (S : Sto) : Res Dv := if l.length ≤ sizeLine then .ok (.tup l) S else .no
def lstR (l : List Dv) (S : Sto) : Res Dv := if l.length ≤ sizeLine then .ok (.lst l) S else .no
def eTup (fa : DA) : DE := fun e S => bnd (fa e S) tupR
def eLst (fa : DA) : DE := fun e S => bnd (fa e S) lstR
theorem qe_tup {x1} (h : QA X W es fa) : QE X W (.Tuple es x1 pos) (eTup fa) := pe_imp (pe_tup h) fun g H Q q => by
  refine Rdg.bind (R := VRs X.K) (k := fun e => tupR) q fun L0 io0 H0 L io H1 e S d v fr rv q => ?_
  unfold tupR at q
  split at q
  · rename_i hl
    exact ⟨by rw [rv.len]; exact hl, fun p hp => q _ _ L io (Stp.alloc hp) (fr.st.alloc hp) (VR.newT fr.st hp rv)⟩
  · exact q.elim
theorem qe_lst (h : QA X W es fa) : QE X W (.List es pos) (eLst fa) := pe_imp (pe_lst h) fun g H Q q => by
  refine Rdg.bind (R := VRs X.K) (k := fun e => lstR) q fun L0 io0 H0 L io H1 e S d v fr rv q => ?_
  unfold lstR at q
  split at q
  · rename_i hl
    exact ⟨by rw [rv.len]; exact hl, fun p hp => q _ _ L io (Stp.alloc hp) (fr.st.alloc hp) (VR.newL fr.st hp rv)⟩
  · exact q.elim
end

/-! ### calls of built-ins -/
def CaS (K : PySem.W.Frag) (r : List V → Hp → VK → Prop) (h : Sto → List Dv → Option (Dv × Sto)) : Prop :=
  ∀ (L : Addr → Prop) (io : List Addr) (H : Hp) (S : Sto) (xs : List V) (l : List Dv) (d : Dv) (S' : Sto) (Q : VK), SR K L io H S → VRs K L io H xs l → h S l = some (d, S') →
    (∀ (v : V) (H' : Hp) (L' : Addr → Prop) (io' : List Addr), Stp L io H L' io' H' → SR K L' io' H' S' → VR K L' io' H' v d → Q v H') → r xs H Q
def eCB (h : Sto → List Dv → Option (Dv × Sto)) (fa : DA) : DE := fun e S => bnd (fa e S) fun l S1 => ofO (h S1 l)
theorem rd_cb {K : PySem.W.Frag} {W : WX} {r : List V → Hp → VK → Prop} {h : Sto → List Dv → Option (Dv × Sto)} {fa : DA} (hc : CaS K r h) {g : St} {H : Hp} {Q : VK} (q : rd K W (eCB h fa) g H Q) : tCB r (rda K W fa) g H Q := by
  refine Rdg.bind (R := VRs K) (k := fun _ l S1 => ofO (h S1 l)) q fun L0 io0 H0 L io H1 e S l v fr rv q => ?_
  obtain ⟨d, S', h1, h2⟩ := q.opt
  exact hc L io H1 S v l d S' Q fr.st rv h1 h2
section
variable {X : Cx} {W : WX} {pos p : Pos} {e : Expr} {es : List Expr} {fa : DA} {r : List V → Hp → VK → Prop} {h : Sto → List Dv → Option (Dv × Sto)} {x : Str} {id T : String}
theorem qe_callB (hc : CallR X (.builtin id) r) (hs : CaS X.K r h) (hm : X.mg x = none) (hv : bootBuiltins x = some (.builtin id)) (ha : QA X W (e :: es) fa) (hg : Gl X x := by rfl) (hn : x ≠ "__name__" := by decide) (hdb : (x == ("__debug__" : Str)) = false := by decide)
    (he : starEach (e :: es) X.env = (false, eval e X.env) :: starEach es X.env := by rfl) (hpl : (backTo pos (starEach es X.env)).any (·.1) = false := by rfl) : QE X W (.Call (.Name x p) (e :: es) [] pos) (eCB h fa) :=
  pe_imp (pe_callB hc hg hm hv ha hn hdb he hpl) fun _ _ _ q => rd_cb hs q
theorem qe_callTy (hc : CallR X (.type T) r) (hs : CaS X.K r h) (hm : X.mg x = none) (hv : bootBuiltins x = some (.type T)) (ha : QA X W (e :: es) fa) (hg : Gl X x := by rfl) (hn : x ≠ "__name__" := by decide) (hdb : (x == ("__debug__" : Str)) = false := by decide)
    (he : starEach (e :: es) X.env = (false, eval e X.env) :: starEach es X.env := by rfl) (hpl : (backTo pos (starEach es X.env)).any (·.1) = false := by rfl) : QE X W (.Call (.Name x p) (e :: es) [] pos) (eCB h fa) :=
  pe_imp (pe_callTy hc hg hm hv ha hn hdb he hpl) fun _ _ _ q => rd_cb hs q
end
def lenD (S : Sto) : List Dv → Option (Dv × Sto)
  | [.str x] => if x.length ≤ sizeLine then some (.int x.length, S) else none
  | [d] => (asQ S d).map fun l => (.int l.length, S)
  | _ => none
theorem cas_len {K : PySem.W.Frag} : CaS K (fun xs H Q => ∃ x n, xs = [x] ∧ LenV K x H n ∧ Q (.int n) H) lenD := by
  intro L io H S xs l d S' Q sr rv e q
  cases rv with
  | nil => cases e
  | cons r t =>
    cases t with
    | cons r2 t2 => rename_i dd _ _ _ _; cases dd <;> cases e
    | nil =>
      rename_i v dd
      have seq : (asQ S dd).map (fun l => ((.int l.length : Dv), S)) = some (d, S') → ∃ x n, [v] = [x] ∧ LenV K x H n ∧ Q (.int n) H := by
        intro e
        obtain ⟨l, h1, h2⟩ := map_ok e
        cases h2
        obtain ⟨a, xs, rfl, hs, t⟩ := asQ_ok sr r h1
        have fin := q (.int l.length) H L io (Stp.refl ..) sr (.int _)
        refine ⟨_, l.length, rfl, ?_, fin⟩
        rcases hs with hs | hs
        · exact .inl ⟨xs, hs, t.len.symm⟩
        · exact .inr ⟨xs, hs, t.len.symm⟩
      cases dd with
      | str x =>
        simp only [lenD] at e
        split at e
        · rename_i h
          cases e; cases r
          exact ⟨_, x.length, rfl, ⟨h, rfl⟩, q _ H L io (Stp.refl ..) sr (.int _)⟩
        · cases e
      | _ => exact seq e
/-- abs, int -/
def absD (S : Sto) : List Dv → Option (Dv × Sto)
  | [.int i] => some (.int (if i < 0 then -i else i), S)
  | _ => none
theorem cas_abs {K : PySem.W.Frag} : CaS K (fun xs H Q => ∃ i, xs = [.int i] ∧ Q (.int (if i < 0 then -i else i)) H) absD := by
  intro L io H S xs l d S' Q sr rv e q
  cases rv with
  | nil => cases e
  | cons r t =>
    cases t with
    | cons r2 t2 => rename_i dd _ _ _ _; cases dd <;> cases e
    | nil =>
      cases r with
      | int i => cases e; exact ⟨i, rfl, q _ H L io (Stp.refl ..) sr (.int _)⟩
      | _ => cases e
def intD (S : Sto) : List Dv → Option (Dv × Sto)
  | [.int i] => some (.int i, S)
  | [.bl b] => some (.int (if b then 1 else 0), S)
  | _ => none
theorem cas_int {K : PySem.W.Frag} : CaS K (fun xs H Q => (∃ i, xs = [.int i] ∧ Q (.int i) H) ∨ ∃ k, xs = [.bl k] ∧ Q (.int (if k then 1 else 0)) H) intD := by
  intro L io H S xs l d S' Q sr rv e q
  cases rv with
  | nil => cases e
  | cons r t =>
    cases t with
    | cons r2 t2 => rename_i dd _ _ _ _; cases dd <;> cases e
    | nil =>
      cases r with
      | int i => cases e; exact .inl ⟨i, rfl, q _ H L io (Stp.refl ..) sr (.int _)⟩
      | bl b => cases e; exact .inr ⟨b, rfl, q _ H L io (Stp.refl ..) sr (.int _)⟩
      | _ => cases e
/-- list(x), tuple(x) -/
def listD (S : Sto) : List Dv → Option (Dv × Sto)
  | [d] => (asQ S d).map fun l => (.lst l, S)
  | _ => none
theorem cas_list {K : PySem.W.Frag} : CaS K (fun xs H Q => ∃ p ys, xs = [.ref p] ∧ (SqL K H p ys ∨ SqT K H p ys) ∧ ∀ l, H l = none → Q (.ref l) (upd H l (.lst ys))) listD := by
  intro L io H S xs l d S' Q sr rv e q
  cases rv with
  | nil => cases e
  | cons r t =>
    cases t with
    | cons r2 t2 => cases e
    | nil =>
      obtain ⟨l, h1, h2⟩ := map_ok e
      cases h2
      obtain ⟨a, xs, rfl, hs, t⟩ := asQ_ok sr r h1
      exact ⟨a, xs, rfl, hs, fun p hp => q _ _ L io (Stp.alloc hp) (sr.alloc hp) (VR.newL sr hp t)⟩
def tupleD (S : Sto) : List Dv → Option (Dv × Sto)
  | [d] => (asQ S d).map fun l => (.tup l, S)
  | _ => none
theorem cas_tuple {K : PySem.W.Frag} : CaS K (fun xs H Q => ∃ p ys, xs = [.ref p] ∧ ((SqL K H p ys ∧ ∀ l, H l = none → Q (.ref l) (upd H l (.tup ys))) ∨ (SqT K H p ys ∧ Q (.ref p) H))) tupleD := by
  intro L io H S xs l d S' Q sr rv e q
  cases rv with
  | nil => cases e
  | cons r t =>
    cases t with
    | cons r2 t2 => cases e
    | nil =>
      rename_i v dd
      obtain ⟨l, h1, h2⟩ := map_ok e
      cases h2
      unfold asQ at h1
      cases h : asT dd with
      | some m =>
        rw [h] at h1; cases h1
        obtain ⟨a, xs, rfl, hs, t⟩ := asT_ok r h
        cases dd with
        | tup m' => cases h; exact ⟨a, xs, rfl, .inr ⟨hs, q _ H L io (Stp.refl ..) sr r⟩⟩
        | _ => cases h
      | none =>
        rw [h] at h1
        obtain ⟨a, xs, rfl, hs, t⟩ := asL_ok sr r h1
        exact ⟨a, xs, rfl, .inl ⟨hs, fun p hp => q _ _ L io (Stp.alloc hp) (sr.alloc hp) (VR.newT sr hp t)⟩⟩
end DL

namespace DL
open PySem L2

/-! ### isinstance against built-in classes -/
def tyD (S : Sto) : Dv → Option String
  | .non => some "NoneType"
  | .bl _ => some "bool"
  | .int _ => some "int"
  | .str _ => some "str"
  | .tup _ => some "tuple"
  | .lst _ => some "list"
  | .rol _ => some "list"
  | .dic _ => some "dict"
  | .hdl k => match S[k]? with
    | some (.lst _) => some "list"
    | some (.dct _) => some "dict"
    | _ => none
  | _ => none
def tysOf : List Dv → Option (List String)
  | [] => some []
  | .ty c :: r => (tysOf r).map fun l => c :: l
  | _ => none
def kitS (t : String) : List String → Option Bool
  | [] => some false
  | c :: r => match kitB t c with
    | some true => some true
    | some false => kitS t r
    | none => none
def kitD (t : String) (cs : List Dv) : Option Bool := (tysOf cs).bind fun l => kitS t l
def isiD (S : Sto) : List Dv → Option (Dv × Sto)
  | [d, .ty c] => (tyD S d).bind fun t => (kitB t c).map fun b => (.bl b, S)
  | [d, .tup cs] => (tyD S d).bind fun t => (kitD t cs).map fun b => (.bl b, S)
  | _ => none
section
variable {K : PySem.W.Frag} {L : Addr → Prop} {io : List Addr} {H : Hp} {S : Sto}
theorem sqT_K {a : Addr} {xs : List V} (h : ∀ H', SqT K H' a xs) : ∃ o, K.lookup a = some o ∧ o.cls = .type "tuple" := by
  rcases h (fun _ => none) with (h | ⟨o, h⟩) | ⟨o, its, n, h1, h2, _⟩
  · cases h
  · cases h
  · exact ⟨o, h1, h2⟩
theorem sqL_K {a : Addr} {xs : List V} (h : ∀ H', SqL K H' a xs) : ∃ o, K.lookup a = some o ∧ o.cls = .type "list" := by
  rcases h (fun _ => none) with (h | ⟨o, h⟩) | ⟨o, its, n, h1, h2, _⟩
  · cases h
  · cases h
  · exact ⟨o, h1, h2⟩
theorem tyD_ok (s : SR K L io H S) {v : V} {d : Dv} {t : String} (r : VR K L io H v d) (e : tyD S d = some t) : TyX K H v (.type t) := by
  cases r with
  | non => cases e; exact .base .non
  | bl b => cases e; exact .base (.bl b)
  | int b => cases e; exact .base (.int b)
  | str b => cases e; exact .base (.str b)
  | tup n h _ => cases e; exact .base (.tup h)
  | tupK h _ => cases e; obtain ⟨o, h1, h2⟩ := sqT_K h; exact .kTuple h1 h2
  | lst n h _ => cases e; exact .base (.lst h)
  | rol n h _ =>
    cases e
    rcases h with h | ⟨o, h⟩
    · exact .base (.lst h)
    · exact .base (.frz h)
  | rolK h _ => cases e; obtain ⟨o, h1, h2⟩ := sqL_K h; exact .kList h1 h2
  | dic n h _ => cases e; exact .base (.dK h)
  | hdl hk =>
    rename_i a k
    cases q : S[k]? with
    | none => simp [tyD, q] at e
    | some o =>
      cases o with
      | lst l => simp [tyD, q] at e; subst e; obtain ⟨xs, h, _⟩ := s.obj k _ _ hk q; exact .base (.lst h)
      | dct l => simp [tyD, q] at e; subst e; obtain ⟨xs, h, _⟩ := s.obj k _ _ hk q; exact .base (.dK h)
      | ins c fs => simp [tyD, q] at e
  | _ => cases e
theorem tysOf_ok : ∀ {cs : List Dv} {vs : List V} {l : List String}, VRs K L io H vs cs → tysOf cs = some l → Paired ClsV vs (l.map Value.type)
  | _, _, _, .nil, e => by cases e; exact .nil
  | _, _, l, .cons r rs, e => by
    cases r with
    | ty c =>
      simp only [tysOf] at e
      obtain ⟨l', h1, rfl⟩ := map_ok e
      exact .cons (.ty c) (tysOf_ok rs h1)
    | _ => cases e
theorem kitS_ok {t : String} : ∀ {l : List String} {b : Bool}, kitS t l = some b → PySem.W.kitAny K (.type t) (l.map Value.type) = some b
  | [], _, e => e
  | c :: l, b, e => by
    simp only [kitS] at e
    cases q : kitB t c with
    | none => rw [q] at e; cases e
    | some z =>
      rw [q] at e
      have hz := kit_ty (K := K) q
      simp only [List.map_cons, PySem.W.kitAny, hz]
      cases z with
      | true => exact e
      | false => exact kitS_ok e
end
def rIsiA (K : PySem.W.Frag) : List V → Hp → VK → Prop := fun xs H Q => rIsi K xs H Q ∨ rIsiT K xs H Q ∨ rIsiK K xs H Q
theorem CallR.or {X : Cx} {f : Value} {r r' : List V → Hp → VK → Prop} (h : CallR X f r) (h' : CallR X f r') : CallR X f (fun x H Q => r x H Q ∨ r' x H Q) := by
  intro pins s g H xs us Q I rv q
  rcases q with q | q
  · exact h pins s g H xs us Q I rv q
  · exact h' pins s g H xs us Q I rv q
theorem cas_isi {K : PySem.W.Frag} : CaS K (rIsiA K) isiD := by
  intro L io H S xs l d S' Q sr rv e q
  cases rv with
  | nil => cases e
  | cons r t =>
    cases t with
    | nil => cases e
    | cons r2 t2 =>
      cases t2 with
      | cons r3 t3 => rename_i d2 _ _ _ _; cases d2 <;> cases e
      | nil =>
        rename_i v dd w cc
        cases r2 with
        | ty c =>
          simp only [isiD] at e
          cases h : tyD S dd with
          | none => rw [h] at e; cases e
          | some ty =>
            rw [h] at e
            obtain ⟨b, h1, h2⟩ := map_ok e
            cases h2
            exact .inl ⟨v, .ty c, .type ty, .type c, b, rfl, .ty c, tyD_ok sr r h, kit_ty h1, q _ H L io (Stp.refl ..) sr (.bl _)⟩
        | tup n ht ts =>
          simp only [isiD] at e
          cases h : tyD S dd with
          | none => rw [h] at e; cases e
          | some ty =>
            rw [h] at e
            obtain ⟨b, h1, h2⟩ := map_ok e
            cases h2
            unfold kitD at h1
            rename_i ds
            cases h3 : tysOf ds with
            | none => rw [h3] at h1; cases h1
            | some l =>
              rw [h3] at h1
              exact .inr (.inl ⟨v, _, _, .type ty, _, b, rfl, ht, tysOf_ok ts h3, tyD_ok sr r h, kitS_ok h1, q _ H L io (Stp.refl ..) sr (.bl _)⟩)
        | tupK ht ts =>
          simp only [isiD] at e
          cases h : tyD S dd with
          | none => rw [h] at e; cases e
          | some ty =>
            rw [h] at e
            obtain ⟨b, h1, h2⟩ := map_ok e
            cases h2
            unfold kitD at h1
            rename_i a xs ds
            cases h3 : tysOf ds with
            | none => rw [h3] at h1; cases h1
            | some l =>
              rw [h3] at h1
              rcases ht (fun _ => none) with (ht | ⟨o, ht⟩) | ⟨⟨oc, od, dt, sl⟩, its, n, e1, e2, e3, _, rv⟩
              · cases ht
              · cases ht
              · simp only at e2 e3
                subst e2 e3
                have ei := ClsV.all (tysOf_ok ts h3) rv
                exact .inr (.inr ⟨v, a, od, its.toList, n, sl, .type ty, b, rfl, by simpa using e1, tyD_ok sr r h, by rw [ei]; exact kitS_ok h1, q _ H L io (Stp.refl ..) sr (.bl _)⟩)
        | _ => cases e

/-! ### items and slices -/
section
variable {K : PySem.W.Frag} {L : Addr → Prop} {io : List Addr} {H : Hp} {S : Sto}
theorem VRs.atI {vs : List V} {l : List Dv} {i : Int} {d : Dv} (r : VRs K L io H vs l) (h : L2.atI l i = some d) : ∃ v, L2.atI vs i = some v ∧ VR K L io H v d := by
  unfold L2.atI at h ⊢
  rw [r.len]
  cases q : ixN l.length i with
  | none => rw [q] at h; cases h
  | some j =>
    rw [q] at h
    obtain ⟨v, h1, h2⟩ := r.get (i := j) h
    exact ⟨v, h1, h2⟩
def cutG {α : Type} (xs : List α) (lo hi : Option Int) : List α := (xs.drop (HT.sIx xs.length 0 lo)).take (HT.sIx xs.length xs.length hi - HT.sIx xs.length 0 lo)
theorem VRs.cut {vs : List V} {l : List Dv} {lo hi : Option Int} (r : VRs K L io H vs l) : VRs K L io H (cutV vs lo hi) (cutG l lo hi) := by
  unfold cutV cutG
  rw [r.len]
  exact (r.drop _).take _
end
def ixD (S : Sto) (d i : Dv) : Option (Dv × Sto) := match i with
  | .int i => (match d with
    | .str z => if z.length ≤ sizeLine then (atI z.cps.toList i).map fun c => (.str ⟨#[c]⟩, S) else none
    | _ => (asQ S d).bind fun l => (atI l i).map fun x => (x, S))
  | _ => none
theorem ops_ix {K : PySem.W.Frag} : OpS K (rIx K) ixD := by
  intro L io H S x y a b d S' Q sr ra rb e q
  cases rb with
  | int i =>
    have seq : ((asQ S a).bind fun l => (atI l i).map fun x => (x, S)) = some (d, S') → rIx K x (.int i) H Q := by
      intro e
      cases h : asT a with
      | some l =>
        have h' : asQ S a = some l := by unfold asQ; rw [h]
        rw [h'] at e
        obtain ⟨z, h1, h2⟩ := map_ok e
        cases h2
        obtain ⟨p, xs, rfl, hs, t⟩ := asT_ok ra h
        obtain ⟨v, h3, h4⟩ := t.atI h1
        exact .inr (.inl ⟨p, xs, i, v, rfl, rfl, hs, h3, q _ H L io (Stp.refl ..) sr h4⟩)
      | none =>
        have h' : asQ S a = asL S a := by unfold asQ; rw [h]
        rw [h'] at e
        cases h5 : asL S a with
        | none => rw [h5] at e; cases e
        | some l =>
          rw [h5] at e
          obtain ⟨z, h1, h2⟩ := map_ok e
          cases h2
          obtain ⟨p, xs, rfl, hs, t⟩ := asL_ok sr ra h5
          obtain ⟨v, h3, h4⟩ := t.atI h1
          exact .inl ⟨p, xs, i, v, rfl, rfl, hs, h3, q _ H L io (Stp.refl ..) sr h4⟩
    cases a with
    | str z =>
      simp only [ixD] at e
      split at e
      · rename_i hz
        obtain ⟨c, h1, h2⟩ := map_ok e
        cases h2; cases ra
        exact .inr (.inr ⟨z, i, c, rfl, rfl, hz, h1, q _ H L io (Stp.refl ..) sr (.str _)⟩)
      · cases e
    | _ => exact seq e
  | _ => cases e
theorem qe_ix {X : Cx} {W : WX} {pos : Pos} {a b : Expr} {f1 f2 : DE} (ha : QE X W a f1) (hb : QE X W b f2) (hs : PlainIx b := by exact fun _ _ => rfl) : QE X W (.Subscript a b pos) (eBin ixD f1 f2) := pe_imp (pe_ix ix_seq ha hb hs) fun _ _ _ q => rd_bin ops_ix q
/-- a[lo:hi] -/
abbrev DO := Env → Sto → Res (Option Int)
def rdo (K : PySem.W.Frag) (W : WX) (f : DO) : TO := Rdg K W (fun _ _ _ (v : Option Int) d => v = d) f
abbrev QO (X : Cx) (W : WX) (e : Option Expr) (f : DO) : Prop := PO X e (rdo X.K W f)
theorem po_imp {X : Cx} {e : Option Expr} {t t' : TO} (h : PO X e t) (i : ∀ g H Q, t' g H Q → t g H Q) : PO X e t' := ⟨fun pins s g H Q I q => h.run pins s g H Q I (i g H Q q)⟩
def oNone : DO := fun _ S => .ok none S
def oInt : Dv → Sto → Res (Option Int)
  | .int i, S => .ok (some i) S
  | _, _ => .no
def oSome (f : DE) : DO := fun e S => bnd (f e S) oInt
def cutD (S : Sto) (d : Dv) (lo hi : Option Int) : Option (Dv × Sto) := match d with
  | .str z => if z.length ≤ sizeLine then some (.str (cutS z lo hi), S) else none
  | .tup l => some (.tup (cutG l lo hi), S)
  | _ => (asL S d).map fun l => (.lst (cutG l lo hi), S)
def eCut (f : DE) (lo hi : DO) : DE := fun e S => bnd (f e S) fun d S1 => bnd (lo e S1) fun l S2 => bnd (hi e S2) fun h S3 => ofO (cutD S3 d l h)
section
variable {X : Cx} {W : WX} {pos p2 : Pos} {a : Expr} {lo hi : Option Expr} {f : DE} {fl fh : DO}
theorem qo_none : QO X W none oNone := po_imp po_none fun g H Q q => by
  obtain ⟨L0, io0, H0, L, io, e, S, fr, q⟩ := q
  exact q.ok1 fr.st rfl
theorem qo_some (h : QE X W a f) : QO X W (some a) (oSome f) := po_imp (po_some h) fun g H Q q => by
  refine Rdg.bind (R := VR X.K) (k := fun _ => oInt) q fun L0 io0 H0 L io H1 e S a v fr ra q => ?_
  cases ra with
  | int b => exact ⟨_, rfl, q.ok1 fr.st rfl⟩
  | _ => exact q.elim
theorem cutG_whole {α : Type} {l : List α} {lo hi : Option Int} (h : HT.sIx l.length 0 lo = 0 ∧ HT.sIx l.length l.length hi = l.length) : cutG l lo hi = l := by
  unfold cutG
  rw [h.1, h.2]
  simp
theorem qe_cut (he : QE X W a f) (hl : QO X W lo fl) (hh : QO X W hi fh) : QE X W (.Subscript a (.Slice lo hi none p2) pos) (eCut f fl fh) := pe_imp (pe_slice (sl_list.or (sl_tupA.or sl_str)) he hl hh) fun g H Q q => by
  refine Rdg.bind (R := VR X.K) (k := fun e d S1 => bnd (fl e S1) fun l S2 => bnd (fh e S2) fun h S3 => ofO (cutD S3 d l h)) q fun L0 io0 H0 L io H1 e S d v fr rv q => ?_
  refine Fin.bind (R := fun _ _ _ (v : Option Int) d => v = d) (k := fun l S2 => bnd (fh e S2) fun h S3 => ofO (cutD S3 d l h)) fr q fun L2 io2 H2 S2 l w s2 fr2 rw2 q => ?_
  subst rw2
  refine Fin.bind (R := fun _ _ _ (v : Option Int) d => v = d) (k := fun h S3 => ofO (cutD S3 d w h)) fr2 q fun L3 io3 H3 S3 h w2 s3 fr3 rw3 q => ?_
  subst rw3
  have r := (rv.step s2 fr.st.sub).step s3 fr2.st.sub
  obtain ⟨d', S', h1, h2⟩ := q.opt
  have lst : (asL S3 d).map (fun l => (Dv.lst (cutG l w w2), S3)) = some (d', S') → rSlL X.K v w w2 H3 Q := by
    intro e
    obtain ⟨l, h3, h4⟩ := map_ok e
    cases h4
    obtain ⟨p, xs, rfl, hs, t⟩ := asL_ok fr3.st r h3
    exact ⟨p, xs, rfl, hs, fun p hp => h2 _ _ L3 io3 (Stp.alloc hp) (fr3.st.alloc hp) (VR.newL fr3.st hp t.cut)⟩
  cases d with
  | str z =>
    simp only [cutD] at h1
    split at h1
    · rename_i hz
      cases h1; cases r
      exact .inr (.inr ⟨z, rfl, hz, h2 _ H3 L3 io3 (Stp.refl ..) fr3.st (.str _)⟩)
    · cases h1
  | tup l =>
    cases h1
    obtain ⟨p, xs, rfl, hs, t⟩ := r.tupS
    refine .inr (.inl ⟨p, xs, rfl, hs, fun hw => ?_, fun hw p hp => ?_⟩)
    · rw [t.len] at hw
      rw [cutG_whole hw] at h2
      exact h2 _ H3 L3 io3 (Stp.refl ..) fr3.st r
    · exact h2 _ _ L3 io3 (Stp.alloc hp) (fr3.st.alloc hp) (VR.newT fr3.st hp t.cut)
  | _ => exact .inl (lst h1)
end

/-! ### defs and their calls -/
def Lx (L : Addr → Prop) (io : List Addr) : Addr → Prop := fun a => L a ∨ a ∈ io
abbrev DF := Sto → List Dv → Res Dv
/-- a def's promise: called with such data in such a store it gives g's answer -/
def spD (K : PySem.W.Frag) (g : DF) : Sp := fun vs H Q E => ∃ (L : Addr → Prop) (io : List Addr) (S : Sto) (l : List Dv), SR K L io H S ∧ VRs K L io H vs l ∧ match g S l with
  | .ok d S' => ∀ (v : V) (H' : Hp) (io' : List Addr), Stp L io H (Lx L io') io' H' → SR K (Lx L io') io' H' S' → VR K (Lx L io') io' H' v d → Q v H'
  | .ex c fs S' => ∀ (x : Option Addr) (H' : Hp) (io' : List Addr), Stp L io H (Lx L io') io' H' → SR K (Lx L io') io' H' S' → ExR K (Lx L io') io' H' x fs → E (.ref (He.ga K c)) x H'
  | .no => False
/-- the def that the module's name x stands for answers as g -/
def FD (P : Program) (w : World) (K : PySem.W.Frag) (mg : Str → Option Value) (base : Heap) (CX : CXT) (k : Nat) (x : Str) (g : DF) : Prop :=
  ∃ (f : Addr) (fd : FuncData) (ps : List Str), FnOk P w K mg base CX k f fd ps (spD K g) ∧ mg x = some (.ref f) ∧ PySem.W.keepIn K (.ref f) = true ∧ Binds K fd ps []
def eCall (g : DF) (fa : DA) : DE := fun e S => bnd (fa e S) fun l S1 => g S1 l
def WE (W : WX) (g : St) : XK := fun c d H => W c d g H
def Psx (CX : CXT) (X : Cx) (W : WX) : Prop := ∀ (g : St) (pins : List (Addr × Obj)) (H : Hp) (s : Shared) (e : Value) (s' : Shared), Inv X pins g H s → CX X.stack H s (WE W g) e s' → X.xe e s'
theorem psx0 {X : Cx} {W : WX} : Psx CX0 X W := fun _ _ _ _ _ _ _ h => h.elim
section
variable {X : Cx} {W : WX} {CX : CXT} {k : Nat} {x : Str} {g : DF} {p pos : Pos} {e : Expr} {es : List Expr} {fa : DA}
theorem qe_call (F : FD X.prog X.w X.K X.mg X.base CX k x g) (hr : Room k X.A) (hx : Psx CX X W) (ha : QA X W (e :: es) fa) (hg : Gl X x := by rfl) (hdb : (x == ("__debug__" : Str)) = false := by decide) (he : starEach (e :: es) X.env = (false, eval e X.env) :: starEach es X.env := by rfl) (hpl : (backTo pos (starEach es X.env)).any (·.1) = false := by rfl) :
    QE X W (.Call (.Name x p) (e :: es) [] pos) (eCall g fa) := by
  obtain ⟨f, fd, ps, F, hm, hk, hb⟩ := F
  refine pe_imp (pe_callSD (E := WE W) F hr hg hm hk hb .nil (fun s => hx s) ha hdb he hpl) fun g' H Q q => ?_
  refine Rdg.bind (R := VRs X.K) (k := fun _ l S1 => g S1 l) q fun L0 io0 H0 L io H1 e S l v fr rv q => ?_
  refine ⟨L, io, S, l, fr.st, by rw [List.append_nil]; exact rv, ?_⟩
  cases h : g S l with
  | ok d S' => rw [h] at q; exact fun v H' io' s sr r => q v H' _ io' s sr r
  | ex c fs S' => rw [h] at q; exact fun v H' io' s sr r => q v H' _ io' s sr r
  | no => rw [h] at q; exact q
end
end DL

namespace DL
open PySem L2

/-! ### steps of statements: volatile things may change -/
structure Stw (L : Addr → Prop) (io : List Addr) (H : Hp) (L' : Addr → Prop) (io' : List Addr) (H' : Hp) : Prop where
  pre : ∃ more, io' = io ++ more
  new : ∀ a, L' a → L a ∨ H a = none
  keep : ∀ a o, H a = some o → ¬ L a → H' a = some o
section
variable {K : PySem.W.Frag} {L L1 L2 L' : Addr → Prop} {io io1 io2 io' : List Addr} {H H1 H2 H' : Hp} {S : Sto}
theorem Stw.refl (L : Addr → Prop) (io : List Addr) (H : Hp) : Stw L io H L io H := ⟨⟨[], by simp⟩, fun _ h => .inl h, fun _ _ h _ => h⟩
theorem Stp.stw (s : Stp L io H L' io' H') (sub : ∀ x ∈ io, L x) : Stw L io H L' io' H' := ⟨s.pre, s.new, fun a o h n => s.keep a o h fun z => n (sub a z)⟩
theorem Stw.trans (a : Stw L io H L1 io1 H1) (b : Stw L1 io1 H1 L2 io2 H2) : Stw L io H L2 io2 H2 where
  pre := by
    obtain ⟨m, rfl⟩ := a.pre
    obtain ⟨m1, rfl⟩ := b.pre
    exact ⟨m ++ m1, by simp⟩
  new := fun x h => by
    rcases b.new x h with h1 | h1
    · exact a.new x h1
    · cases e : H x with
      | none => exact .inr rfl
      | some o =>
        by_cases hl : L x
        · exact .inl hl
        · rw [a.keep x o e hl] at h1; cases h1
  keep := fun x o h n => b.keep x o (a.keep x o h n) fun z => by
    rcases a.new x z with q | q
    · exact n q
    · rw [q] at h; cases h
theorem Stw.on (s : Stw L io H L' io' H') : (∀ (k : Nat) (a : Addr), io[k]? = some a → io'[k]? = some a) ∧ (∀ a o, H a = some o → ¬ L a → H' a = some o ∧ ¬ L' a) := by
  refine ⟨fun k a h => ?_, fun a o h nl => ⟨s.keep a o h nl, fun z => ?_⟩⟩
  · obtain ⟨m, rfl⟩ := s.pre
    exact io_keep h
  · rcases s.new a z with q | q
    · exact nl q
    · rw [q] at h; cases h
theorem VR.stw {v : V} {d : Dv} (h : VR K L io H v d) (s : Stw L io H L' io' H') : VR K L' io' H' v d := VR.on s.on.1 s.on.2 h
theorem VRs.stw {v : List V} {d : List Dv} (h : VRs K L io H v d) (s : Stw L io H L' io' H') : VRs K L' io' H' v d := VRs.on s.on.1 s.on.2 h
/-- a volatile thing that is no handle's is changed -/
theorem SR.mut {p : Addr} {o : HO} (s : SR K L io H S) (hp : L p) (hn : p ∉ io) : SR K L io (upd H p o) S where
  len := s.len
  nd := s.nd
  sub := s.sub
  dom := fun a ha => by
    by_cases e : a = p
    · rw [e, upd_same]; exact fun z => nomatch z
    · rw [upd_ne e]; exact s.dom a ha
  obj := fun k a ob h1 h2 => (s.obj k a ob h1 h2).mono (fun u e => by rw [upd_ne (fun z => hn (by rw [← z]; exact List.mem_of_getElem? h1))]; exact e) fun v d r => r.mut hp
theorem Stw.mut {p : Addr} {o : HO} (hp : L p) : Stw L io H L io (upd H p o) := ⟨⟨[], by simp⟩, fun _ h => .inl h, fun a u e n => by rw [upd_ne (fun z => n (by rw [z]; exact hp))]; exact e⟩
/-- a new thing, volatile from now on -/
def Ly (L : Addr → Prop) (p : Addr) : Addr → Prop := fun a => L a ∨ a = p
def Lz (L : Addr → Prop) (p : Addr) : Addr → Prop := fun a => L a ∧ a ≠ p
theorem Stp.newV {p : Addr} {o : HO} (hp : H p = none) : Stp L io H (Ly L p) io (upd H p o) :=
  ⟨⟨[], by simp⟩, fun _ h => .inl h, fun a h => h.elim .inl fun e => .inr (by rw [e]; exact hp), fun a u e _ => by rw [upd_ne (ne_of_none e hp)]; exact e, fun _ h => .inl h⟩
theorem SR.newV {p : Addr} {o : HO} (s : SR K L io H S) (hp : H p = none) : SR K (Ly L p) io (upd H p o) S where
  len := s.len
  nd := s.nd
  sub := fun a h => .inl (s.sub a h)
  dom := fun a ha => by
    by_cases e : a = p
    · rw [e, upd_same]; exact fun z => nomatch z
    · rw [upd_ne e]; exact s.dom a (ha.elim id fun z => absurd z e)
  obj := fun k a ob h1 h2 => (s.obj k a ob h1 h2).mono (fun u e => by rw [upd_ne (ne_of_none e hp)]; exact e) fun v d r => r.step (Stp.newV hp) s.sub
/-- fewer volatile things -/
theorem SR.less (s : SR K L io H S) (hl : ∀ a, L' a → L a) (sub : ∀ a ∈ io, L' a) : SR K L' io H S :=
  ⟨s.len, s.nd, sub, fun a h => s.dom a (hl a h), fun k a o h1 h2 => (s.obj k a o h1 h2).mono (fun _ e => e) fun v d r => r.less hl⟩
end

/-! ### new lists -/
/-- a new list l stands at p (H: the heap ahead of the piece) -/
def NewL (K : PySem.W.Frag) (H : Hp) (L' : Addr → Prop) (io' : List Addr) (H' : Hp) (v : V) (l : List Dv) : Prop := ∃ p xs, v = .ref p ∧ H p = none ∧ L' p ∧ p ∉ io' ∧ H' p = some (.lst xs) ∧ VRs K L' io' H' xs l
abbrev DL := Env → Sto → Res (List Dv)
def FinF (K : PySem.W.Frag) (W : WX) (g : St) (L : Addr → Prop) (io : List Addr) (H : Hp) (Q : V → Hp → Prop) : Res (List Dv) → Prop
  | .ok d S' => ∀ (v : V) (H' : Hp) (L' : Addr → Prop) (io' : List Addr), Stp L io H L' io' H' → SR K L' io' H' S' → NewL K H L' io' H' v d → Q v H'
  | .ex c fs S' => ∀ (x : Option Addr) (H' : Hp) (L' : Addr → Prop) (io' : List Addr), Stp L io H L' io' H' → SR K L' io' H' S' → ExR K L' io' H' x fs → W (.ref (He.ga K c)) x g H'
  | .no => False
def rdF (K : PySem.W.Frag) (W : WX) (f : DL) : TE := fun g H Q => ∃ (L0 : Addr → Prop) (io0 : List Addr) (H0 : Hp) (L : Addr → Prop) (io : List Addr) (e : Env) (S : Sto), FR K L0 io0 H0 L io H g e S ∧ FinF K W g L io H Q (f e S)
abbrev QF (X : Cx) (W : WX) (e : Expr) (f : DL) : Prop := PE X e (rdF X.K W f)
def eFrz (f : DL) : DE := fun e S => bnd (f e S) fun l S' => .ok (.lst l) S'
theorem rd_frz {K : PySem.W.Frag} {W : WX} {f : DL} {g : St} {H : Hp} {Q : VK} (q : rd K W (eFrz f) g H Q) : rdF K W f g H Q := by
  obtain ⟨L0, io0, H0, L, io, e, S, fr, q⟩ := q
  refine ⟨L0, io0, H0, L, io, e, S, fr, ?_⟩
  have q : Fin K W (VR K) g L io H Q (bnd (f e S) fun l S' => .ok (.lst l) S') := q
  cases hf : f e S with
  | no => rw [hf] at q; exact q
  | ex c fs S' => rw [hf] at q; exact q
  | ok l S' =>
    rw [hf] at q
    intro v H' L' io' s sr ⟨p, xs, hv, hp, lp, np, h1, h2⟩
    subst hv
    have hl : ∀ a, Lz L' p a → L' a := fun a z => z.1
    refine q _ H' (Lz L' p) io' ⟨s.pre, s.hn, fun a z => s.new a z.1, s.keep, fun a z => ⟨s.up a z, fun e => fr.st.dom a z (by rw [e]; exact hp)⟩⟩ (sr.less hl fun a ha => ⟨sr.sub a ha, fun e => np (by rw [← e]; exact ha)⟩) (.lst (fun z => z.2 rfl) h1 (h2.less hl))
theorem qe_frz {X : Cx} {W : WX} {a : Expr} {f : DL} (h : QF X W a f) : QE X W a (eFrz f) := pe_imp h fun g H Q q => rd_frz q
section
variable {X : Cx} {W : WX} {pos : Pos} {es : List Expr} {fa : DA}
def fLst (fa : DA) : DL := fun e S => bnd (fa e S) fun l S1 => if l.length ≤ sizeLine then .ok l S1 else .no
theorem FinF.bind {α β : Type} {K : PySem.W.Frag} {R : (Addr → Prop) → List Addr → Hp → β → α → Prop} {f : Env → Sto → Res α} {k : α → Sto → Res (List Dv)} {g : St} {L0 L : Addr → Prop} {io0 io : List Addr} {H0 H : Hp} {e : Env} {S : Sto} {Q : V → Hp → Prop} {P : β → Hp → Prop}
    (fr : FR K L0 io0 H0 L io H g e S) (h : FinF K W g L io H Q (bnd (f e S) k))
    (n : ∀ (L1 : Addr → Prop) (io1 : List Addr) (H1 : Hp) (S1 : Sto) (a : α) (v : β), Stp L io H L1 io1 H1 → FR K L0 io0 H0 L1 io1 H1 g e S1 → R L1 io1 H1 v a → FinF K W g L1 io1 H1 Q (k a S1) → P v H1) : Rdg K W R f g H P := by
  refine ⟨L0, io0, H0, L, io, e, S, fr, ?_⟩
  cases hf : f e S with
  | ok a S1 =>
    rw [hf] at h
    intro v H1 L1 io1 s1 sr1 r1
    have h : FinF K W g L io H Q (k a S1) := h
    refine n L1 io1 H1 S1 a v s1 (fr.step s1 sr1) r1 ?_
    cases hk : k a S1 with
    | ok l S2 =>
      rw [hk] at h
      intro v H' L' io' s2 sr2 ⟨p, xs, e1, e2, e3⟩
      refine h v H' L' io' (s1.trans s2 fr.st.sub) sr2 ⟨p, xs, e1, ?_, e3⟩
      rcases s1.back e2 with z | z
      · exact absurd e2 (sr1.dom p (s1.up p (fr.st.sub p z)))
      · exact z
    | ex c fs S2 =>
      rw [hk] at h
      exact fun v H' L' io' s2 sr r2 => h v H' L' io' (s1.trans s2 fr.st.sub) sr r2
    | no => rw [hk] at h; exact h
  | ex c fs S1 => rw [hf] at h; exact h
  | no => rw [hf] at h; exact h
theorem FinF.new {K : PySem.W.Frag} {g : St} {L : Addr → Prop} {io : List Addr} {H : Hp} {S : Sto} {Q : V → Hp → Prop} {l : List Dv} {xs : List V} (h : FinF K W g L io H Q (.ok l S)) (sr : SR K L io H S) (r : VRs K L io H xs l) : ∀ p, H p = none → Q (.ref p) (upd H p (.lst xs)) := fun p hp =>
  h _ _ (Ly L p) io (Stp.newV hp) (sr.newV hp) ⟨p, xs, rfl, hp, .inr rfl, fun z => sr.dom p (sr.sub p z) hp, upd_same, r.step (Stp.newV hp) sr.sub⟩
theorem qf_lst (h : QA X W es fa) : QF X W (.List es pos) (fLst fa) := pe_imp (pe_lst h) fun g H Q q => by
  obtain ⟨L0, io0, H0, L, io, e, S, fr, q⟩ := q
  refine FinF.bind (R := VRs X.K) (k := fun l S1 => if l.length ≤ sizeLine then .ok l S1 else .no) fr q fun L1 io1 H1 S1 l vs s1 fr1 r1 q => ?_
  split at q
  · rename_i hl
    exact ⟨by rw [r1.len]; exact hl, q.new fr1.st r1⟩
  · exact q.elim
end
end DL

namespace DL
open PySem L2

/-! ### slots set -/
section
variable {K : PySem.W.Frag} {L0 L : Addr → Prop} {io0 io : List Addr} {H0 H : Hp} {g : St} {e : Env} {S : Sto} {i : Nat}
theorem set_get {α : Type} {l : List α} {i j : Nat} {a b : α} (h : (l.set i a)[j]? = some b) : (j = i ∧ b = a ∧ i < l.length) ∨ (j ≠ i ∧ l[j]? = some b) := by
  rw [List.getElem?_set] at h
  by_cases e : i = j
  · rw [if_pos e] at h
    split at h
    · cases h; exact .inl ⟨e.symm, rfl, by omega⟩
    · cases h
  · rw [if_neg e] at h
    exact .inr ⟨fun z => e z.symm, h⟩
theorem set_ne {α : Type} {l : List α} {i j : Nat} {a : α} (h : j ≠ i) : (l.set i a)[j]? = l[j]? := by
  rw [List.getElem?_set, if_neg (fun z => h z.symm)]
theorem set_at {α : Type} {l : List α} {i : Nat} {a : α} (h : i < l.length) : (l.set i a)[i]? = some a := by
  rw [List.getElem?_set, if_pos rfl, if_pos h]
/-- a slot gets another content, of which the frame's facts hold -/
theorem FR.setS (f : FR K L0 io0 H0 L io H g e S) (i : Nat) {x : Option V} {s : Sl}
    (hva : ∀ d, s = .va d → ∃ v, x = some v ∧ VR K L io H v d)
    (how : ∀ l, s = .ow l → ∃ p xs, x = some (.ref p) ∧ L p ∧ p ∉ io ∧ H0 p = none ∧ H p = some (.lst xs) ∧ VRs K L io H xs l)
    (hod : ∀ l, s = .od l → ∃ p kvs, x = some (.ref p) ∧ L p ∧ p ∉ io ∧ H0 p = none ∧ H p = some (.dK kvs) ∧ PairR (VR K L io H) kvs l)
    (hinj : ∀ p, (∀ d, s ≠ .va d) → s ≠ .no → x = some (.ref p) → ∀ j, j ≠ i → (∀ d, e[j]? ≠ some (.va d)) → e[j]? ≠ some .no → g[j]? ≠ some (some (.ref p))) :
    FR K L0 io0 H0 L io H (g.set i x) (e.set i s) S where
  st := f.st
  len := by rw [List.length_set, List.length_set]; exact f.len
  va := fun j d h => by
    rcases set_get h with ⟨rfl, h1, h2⟩ | ⟨h1, h2⟩
    · obtain ⟨v, rfl, r⟩ := hva d h1.symm
      exact ⟨v, set_at (by rw [f.len]; exact h2), r⟩
    · obtain ⟨v, r1, r2⟩ := f.va j d h2
      exact ⟨v, by rw [set_ne h1]; exact r1, r2⟩
  ow := fun j l h => by
    rcases set_get h with ⟨rfl, h1, h2⟩ | ⟨h1, h2⟩
    · obtain ⟨p, xs, rfl, r⟩ := how l h1.symm
      exact ⟨p, xs, set_at (by rw [f.len]; exact h2), r⟩
    · obtain ⟨p, xs, r1, r2⟩ := f.ow j l h2
      exact ⟨p, xs, by rw [set_ne h1]; exact r1, r2⟩
  od := fun j l h => by
    rcases set_get h with ⟨rfl, h1, h2⟩ | ⟨h1, h2⟩
    · obtain ⟨p, xs, rfl, r⟩ := hod l h1.symm
      exact ⟨p, xs, set_at (by rw [f.len]; exact h2), r⟩
    · obtain ⟨p, xs, r1, r2⟩ := f.od j l h2
      exact ⟨p, xs, by rw [set_ne h1]; exact r1, r2⟩
  inj := fun j k p hjk v1 v2 n1 n2 h1 h2 => by
    have lg : ∀ {j : Nat} {z : Option V}, (g.set i x)[j]? = some z → j < e.length := fun {j z} h => by
      have := (List.getElem?_eq_some_iff.mp h).1
      rw [List.length_set, f.len] at this
      exact this
    by_cases ej : j = i
    · subst ej
      have ek : k ≠ j := fun z => hjk z.symm
      have hl := lg h1
      rw [set_at hl] at v1 n1
      rw [set_ne ek] at v2 n2 h2
      rw [set_at (by rw [f.len]; exact hl)] at h1
      exact hinj p (fun d z => v1 d (by rw [z])) (fun z => n1 (by rw [z])) (Option.some.inj h1) k ek v2 n2 h2
    · by_cases ek : k = i
      · subst ek
        have hl := lg h2
        rw [set_at hl] at v2 n2
        rw [set_ne ej] at v1 n1 h1
        rw [set_at (by rw [f.len]; exact hl)] at h2
        exact hinj p (fun d z => v2 d (by rw [z])) (fun z => n2 (by rw [z])) (Option.some.inj h2) j ej v1 n1 h1
      · rw [set_ne ej] at v1 n1 h1
        rw [set_ne ek] at v2 n2 h2
        exact f.inj j k p hjk v1 v2 n1 n2 h1 h2
  en := f.en
  sub0 := f.sub0
  dom0 := f.dom0
theorem FR.setV (f : FR K L0 io0 H0 L io H g e S) (i : Nat) {v : V} {d : Dv} (r : VR K L io H v d) : FR K L0 io0 H0 L io H (g.set i (some v)) (e.set i (.va d)) S :=
  f.setS i (fun d' h => by cases h; exact ⟨v, rfl, r⟩) (fun l h => by cases h) (fun l h => by cases h) (fun p h => absurd rfl (h d))
theorem FR.setN (f : FR K L0 io0 H0 L io H g e S) (i : Nat) (x : Option V) : FR K L0 io0 H0 L io H (g.set i x) (e.set i .no) S :=
  f.setS i (fun d' h => by cases h) (fun l h => by cases h) (fun l h => by cases h) (fun p _ h => absurd rfl h)
/-- a volatile thing that no slot of its own holds is changed -/
theorem FR.mutD (f : FR K L0 io0 H0 L io H g e S) {p : Addr} {o : HO} (lp : L p) (np : p ∉ io) (h0 : H0 p = none)
    (hne : ∀ (i : Nat) (q : Addr), (∀ d, e[i]? ≠ some (.va d)) → e[i]? ≠ some .no → e[i]? ≠ none → g[i]? = some (some (.ref q)) → q ≠ p) : FR K L0 io0 H0 L io (upd H p o) g e S where
  st := f.st.mut lp np
  len := f.len
  va := fun i d h => by
    obtain ⟨v, h1, h2⟩ := f.va i d h
    exact ⟨v, h1, h2.mut lp⟩
  ow := fun i l h => by
    obtain ⟨q, xs, h1, h2, h3, h4, h5, h6⟩ := f.ow i l h
    have : q ≠ p := hne i q (by rw [h]; intro d z; cases z) (by rw [h]; intro z; cases z) (by rw [h]; intro z; cases z) h1
    exact ⟨q, xs, h1, h2, h3, h4, by rw [upd_ne this]; exact h5, h6.mut lp⟩
  od := fun i l h => by
    obtain ⟨q, xs, h1, h2, h3, h4, h5, h6⟩ := f.od i l h
    have : q ≠ p := hne i q (by rw [h]; intro d z; cases z) (by rw [h]; intro z; cases z) (by rw [h]; intro z; cases z) h1
    exact ⟨q, xs, h1, h2, h3, h4, by rw [upd_ne this]; exact h5, h6.mono fun v d r => r.mut lp⟩
  inj := f.inj
  en := ⟨f.en.pre, f.en.hn, f.en.new, fun a u h n => by rw [upd_ne (ne_of_none h h0)]; exact f.en.keep a u h n, f.en.up⟩
  sub0 := f.sub0
  dom0 := f.dom0
/-- what a slot of its own holds stands in the heap -/
theorem FR.ownAt (f : FR K L0 io0 H0 L io H g e S) {i : Nat} {q : Addr} (h1 : ∀ d, e[i]? ≠ some (.va d)) (h2 : e[i]? ≠ some .no) (h3 : e[i]? ≠ none) (hg : g[i]? = some (some (.ref q))) : ∃ o, H q = some o ∧ L q := by
  cases h : e[i]? with
  | none => exact absurd h h3
  | some s =>
    cases s with
    | no => exact absurd h h2
    | va d => exact absurd h (h1 d)
    | ow l =>
      obtain ⟨p, xs, e1, e2, _, _, e3, _⟩ := f.ow i l h
      rw [hg] at e1
      cases e1
      exact ⟨_, e3, e2⟩
    | od l =>
      obtain ⟨p, xs, e1, e2, _, _, e3, _⟩ := f.od i l h
      rw [hg] at e1
      cases e1
      exact ⟨_, e3, e2⟩
theorem FR.fresh0 (f : FR K L0 io0 H0 L io H g e S) {p : Addr} (h : H p = none) : H0 p = none := by
  rcases f.en.back h with z | z
  · exact absurd h (f.st.dom p (f.en.up p (f.sub0 p z)))
  · exact z
def wipeE (e : Env) : List Nat → Env
  | [] => e
  | v :: vs => (wipeE e vs).set v .no
theorem FR.wipe (f : FR K L0 io0 H0 L io H g e S) : ∀ vs : List Nat, FR K L0 io0 H0 L io H (L2.wipe g vs) (wipeE e vs) S
  | [] => f
  | v :: vs => (FR.wipe f vs).setN v none
end

/-! ### targets -/
theorem wipe_get (g : St) : ∀ (vs : List Nat) (k : Nat), (L2.wipe g vs)[k]? = if k ∈ vs then (if k < g.length then some none else none) else g[k]?
  | [], k => by simp [L2.wipe]
  | v :: vs, k => by
    unfold L2.wipe
    rw [List.getElem?_set, L2.wipe_length, wipe_get g vs k]
    by_cases e : v = k
    · subst e; simp
    · rw [if_neg e]
      have : (k ∈ v :: vs) ↔ k ∈ vs := by simp [Ne.symm (a := v) (b := k) e]
      simp only [this]
theorem wipe_ext {g g' : St} {vs : List Nat} (hl : g'.length = g.length) (h : ∀ k, k ∉ vs → g'[k]? = g[k]?) : L2.wipe g' vs = L2.wipe g vs := by
  apply List.ext_getElem?
  intro k
  rw [wipe_get, wipe_get, hl]
  by_cases e : k ∈ vs
  · rw [if_pos e, if_pos e]
  · rw [if_neg e, if_neg e, h k e]
abbrev DG := Dv → Env → Option Env
def TGok (K : PySem.W.Frag) (t : TG) (gd : DG) (vs : List Nat) : Prop := ∀ (L0 : Addr → Prop) (io0 : List Addr) (H0 : Hp) (L : Addr → Prop) (io : List Addr) (H : Hp) (g : St) (e : Env) (S : Sto) (v : V) (d : Dv) (e' : Env) (Q : St → Hp → Prop),
  FR K L0 io0 H0 L io H g e S → VR K L io H v d → gd d e = some e' → (∀ g', FR K L0 io0 H0 L io H g' e' S → g'.length = g.length → (∀ k, k ∉ vs → g'[k]? = g[k]?) → Q g' H) → t v g H Q
def tgR (K : PySem.W.Frag) (gd : DG) (vs : List Nat) : TG := fun v g H Q => ∃ (L0 : Addr → Prop) (io0 : List Addr) (H0 : Hp) (L : Addr → Prop) (io : List Addr) (e : Env) (S : Sto) (d : Dv) (e' : Env), FR K L0 io0 H0 L io H g e S ∧ VR K L io H v d ∧ gd d e = some e' ∧
  ∀ g', FR K L0 io0 H0 L io H g' e' S → g'.length = g.length → (∀ k, k ∉ vs → g'[k]? = g[k]?) → Q g' H
theorem tgR_ok {K : PySem.W.Frag} {gd : DG} {vs : List Nat} : TGok K (tgR K gd vs) gd vs := fun L0 io0 H0 L io H g e S v d e' Q fr r h q => ⟨L0, io0, H0, L, io, e, S, d, e', fr, r, h, q⟩
/-- a target, and the slots that it may change -/
def QG (X : Cx) (tg : Expr) (gd : DG) (vs : List Nat) : Prop := ∃ t, PG X tg t ∧ TGok X.K t gd vs
theorem QG.canon {X : Cx} {tg : Expr} {gd : DG} {vs : List Nat} (h : QG X tg gd vs) : PG X tg (tgR X.K gd vs) := by
  obtain ⟨t, p, o⟩ := h
  refine ⟨fun pins s g H v u Q I r q => p.run pins s g H v u Q I r ?_⟩
  obtain ⟨L0, io0, H0, L, io, e, S, d, e', fr, rv, hd, q⟩ := q
  exact o L0 io0 H0 L io H g e S v d e' Q fr rv hd q
def gN (i : Nat) : DG := fun d e => some (e.set i (.va d))
abbrev DGs := List Dv → Env → Option Env
def TGsok (K : PySem.W.Frag) (t : TGs) (gd : DGs) (vs : List Nat) : Prop := ∀ (L0 : Addr → Prop) (io0 : List Addr) (H0 : Hp) (L : Addr → Prop) (io : List Addr) (H : Hp) (g : St) (e : Env) (S : Sto) (v : List V) (d : List Dv) (e' : Env) (Q : St → Hp → Prop),
  FR K L0 io0 H0 L io H g e S → VRs K L io H v d → gd d e = some e' → (∀ g', FR K L0 io0 H0 L io H g' e' S → g'.length = g.length → (∀ k, k ∉ vs → g'[k]? = g[k]?) → Q g' H) → t v g H Q
def QGs (X : Cx) (ts : List Expr) (gd : DGs) (n : Nat) (vs : List Nat) : Prop := (∃ t, PGs X ts t ∧ TGsok X.K t gd vs) ∧ ∀ l e e', gd l e = some e' → l.length = n
def gsNil : DGs := fun l e => match l with
  | [] => some e
  | _ => none
def gsCons (g : DG) (gs : DGs) : DGs := fun l e => match l with
  | d :: r => (g d e).bind fun e' => gs r e'
  | [] => none
def gT (gs : DGs) : DG := fun d e => (asT d).bind fun l => gs l e
section
variable {X : Cx} {pos : Pos} {x : Str} {i : Nat} {tg : Expr} {ts : List Expr} {gd : DG} {gds : DGs} {vs ws : List Nat} {n : Nat}
theorem qg_name (hN : X.N.Nodup) (i : Nat) (hi : X.N[i]? = some x := by rfl) (hx : Loc X.env.scope x := by first | exact Or.inl rfl | exact Or.inr rfl) (hf : X.fn x = true ∨ X.env.scope.names.lookup x = some .local := by first | exact .inl rfl | exact .inr rfl) : QG X (.Name x pos) (gN i) [i] := by
  refine ⟨gName i, pg_name hN hi hx hf, fun L0 io0 H0 L io H g e S v d e' Q fr r h q => ?_⟩
  cases h
  exact q _ (fr.setV i r) (List.length_set ..) fun k hk => set_ne (by simpa using hk)
theorem qgs_nil : QGs X [] gsNil 0 [] := by
  refine ⟨⟨gNil, pgs_nil, fun L0 io0 H0 L io H g e S v d e' Q fr r h q => ?_⟩, fun l e e' h => ?_⟩
  · cases r with
    | nil => cases h; exact ⟨rfl, q _ fr rfl fun _ _ => rfl⟩
    | cons => cases h
  · cases l with
    | nil => rfl
    | cons => cases h
theorem qgs_cons (h1 : QG X tg gd vs) (h2 : QGs X ts gds n ws) (hp : ∀ {t u}, PG X tg t → PGs X ts u → PGs X (tg :: ts) (gCons t u) := by intro _ _ a b; exact pgs_cons a b) : QGs X (tg :: ts) (gsCons gd gds) (n + 1) (vs ++ ws) := by
  obtain ⟨t, p1, o1⟩ := h1
  obtain ⟨⟨u, p2, o2⟩, hn⟩ := h2
  refine ⟨⟨gCons t u, hp p1 p2, fun L0 io0 H0 L io H g e S v d e' Q fr r h q => ?_⟩, fun l e e' h => ?_⟩
  · cases r with
    | nil => cases h
    | cons ra rt =>
      rename_i v vs' d ds
      simp only [gsCons] at h
      cases h3 : gd d e with
      | none => rw [h3] at h; cases h
      | some e1 =>
        rw [h3] at h
        refine ⟨v, vs', rfl, o1 L0 io0 H0 L io H g e S v d e1 _ fr ra h3 fun g1 fr1 l1 k1 => ?_⟩
        refine o2 L0 io0 H0 L io H g1 e1 S vs' ds e' _ fr1 rt h fun g2 fr2 l2 k2 => ?_
        exact q g2 fr2 (l2.trans l1) fun k hk => (k2 k fun z => hk (List.mem_append_right _ z)).trans (k1 k fun z => hk (List.mem_append_left _ z))
  · cases l with
    | nil => cases h
    | cons d ds =>
      simp only [gsCons] at h
      cases h3 : gd d e with
      | none => rw [h3] at h; cases h
      | some e1 => rw [h3] at h; rw [List.length_cons, hn ds e1 e' h]
theorem qg_tup {k : Nat} (hc : X.calm = true) (h : QGs X ts gds n vs) (hn : (assignEach ts X.env).length = n := by rfl) (hst : (assignEach ts X.env).findIdx? (·.1) = none := by rfl) : QG X (.Tuple ts k pos) (gT gds) vs := by
  obtain ⟨⟨t, p, o⟩, hl⟩ := h
  refine ⟨gTup X.K n t, pg_tup hc p hn hst, fun L0 io0 H0 L io H g e S v d e' Q fr r h q => ?_⟩
  unfold gT at h
  cases h1 : asT d with
  | none => rw [h1] at h; cases h
  | some l =>
    rw [h1] at h
    obtain ⟨a, xs, rfl, hs, t'⟩ := asT_ok r h1
    exact ⟨a, xs, rfl, hs, by rw [t'.len]; exact hl l e e' h, o L0 io0 H0 L io H g e S xs l e' Q fr t' h q⟩
end

/-! ### what is walked -/
structure WalkR (K : PySem.W.Frag) (L : Addr → Prop) (io : List Addr) (H : Hp) (J : It) (l : List Dv) : Prop where
  go : ∀ (L1 : Addr → Prop) (io1 : List Addr) (H1 : Hp) (S : Sto) (i : Nat) (d : Dv), Stw L io H L1 io1 H1 → SR K L1 io1 H1 S → l[i]? = some d → J.go i H1 ∧ ∀ x H2, J.yld i H1 x H2 → SR K L1 io1 H2 S ∧ Stp L1 io1 H1 L1 io1 H2 ∧ VR K L1 io1 H2 x d
  stop : ∀ (L1 : Addr → Prop) (io1 : List Addr) (H1 : Hp), Stw L io H L1 io1 H1 → J.stop l.length H1
def FinI (K : PySem.W.Frag) (W : WX) (g : St) (L : Addr → Prop) (io : List Addr) (H : Hp) (R : It → Hp → Prop) : Res (List Dv) → Prop
  | .ok l S' => ∀ (J : It) (H' : Hp) (L' : Addr → Prop) (io' : List Addr), Stp L io H L' io' H' → SR K L' io' H' S' → WalkR K L' io' H' J l → R J H'
  | .ex c fs S' => ∀ (x : Option Addr) (H' : Hp) (L' : Addr → Prop) (io' : List Addr), Stp L io H L' io' H' → SR K L' io' H' S' → ExR K L' io' H' x fs → W (.ref (He.ga K c)) x g H'
  | .no => False
def rdi (K : PySem.W.Frag) (W : WX) (f : DL) : TI := fun g H R => ∃ (L0 : Addr → Prop) (io0 : List Addr) (H0 : Hp) (L : Addr → Prop) (io : List Addr) (e : Env) (S : Sto), FR K L0 io0 H0 L io H g e S ∧ FinI K W g L io H R (f e S)
abbrev QI (X : Cx) (W : WX) (tg e : Expr) (f : DL) : Prop := PI X tg e (rdi X.K W f)
theorem FinI.bind {α β : Type} {K : PySem.W.Frag} {W : WX} {R : (Addr → Prop) → List Addr → Hp → β → α → Prop} {f : Env → Sto → Res α} {k : α → Sto → Res (List Dv)} {g : St} {L0 L : Addr → Prop} {io0 io : List Addr} {H0 H : Hp} {e : Env} {S : Sto} {Q : It → Hp → Prop} {P : β → Hp → Prop}
    (fr : FR K L0 io0 H0 L io H g e S) (h : FinI K W g L io H Q (bnd (f e S) k))
    (n : ∀ (L1 : Addr → Prop) (io1 : List Addr) (H1 : Hp) (S1 : Sto) (a : α) (v : β), Stp L io H L1 io1 H1 → FR K L0 io0 H0 L1 io1 H1 g e S1 → R L1 io1 H1 v a → FinI K W g L1 io1 H1 Q (k a S1) → P v H1) : Rdg K W R f g H P := by
  refine ⟨L0, io0, H0, L, io, e, S, fr, ?_⟩
  cases hf : f e S with
  | ok a S1 =>
    rw [hf] at h
    intro v H1 L1 io1 s1 sr1 r1
    have h : FinI K W g L io H Q (k a S1) := h
    refine n L1 io1 H1 S1 a v s1 (fr.step s1 sr1) r1 ?_
    cases hk : k a S1 with
    | ok l S2 =>
      rw [hk] at h
      exact fun v H' L' io' s2 sr r2 => h v H' L' io' (s1.trans s2 fr.st.sub) sr r2
    | ex c fs S2 =>
      rw [hk] at h
      exact fun v H' L' io' s2 sr r2 => h v H' L' io' (s1.trans s2 fr.st.sub) sr r2
    | no => rw [hk] at h; exact h
  | ex c fs S1 => rw [hf] at h; exact h
  | no => rw [hf] at h; exact h
section
variable {K : PySem.W.Frag} {L : Addr → Prop} {io : List Addr} {H : Hp}
theorem SqT.stw {a : Addr} {xs : List V} {ds : List Dv} {L1 : Addr → Prop} {io1 : List Addr} {H1 : Hp} {v : V} (r : VR K L io H v (.tup ds)) (s : Stw L io H L1 io1 H1) : ∃ a xs, v = .ref a ∧ SqT K H1 a xs ∧ VRs K L1 io1 H1 xs ds := (r.stw s).tupS
theorem walk_tup {a : Addr} {ds : List Dv} (r : VR K L io H (.ref a) (.tup ds)) : WalkR K L io H (Itt K a) ds where
  go := fun L1 io1 H1 S i d s sr h => by
    obtain ⟨a', xs, e, hs, t⟩ := (r.stw s).tupS
    cases e
    obtain ⟨v, h1, h2⟩ := t.get h
    refine ⟨⟨xs, v, hs, h1⟩, fun x H2 ⟨e, y⟩ => ?_⟩
    subst e
    have := y xs hs
    rw [h1] at this
    cases this
    exact ⟨sr, Stp.refl .., h2⟩
  stop := fun L1 io1 H1 s => by
    obtain ⟨a', xs, e, hs, t⟩ := (r.stw s).tupS
    cases e
    exact ⟨xs, hs, by rw [t.len]; exact Nat.le_refl _⟩
/-- a list that no handle holds -/
def asF : Dv → Option (List Dv)
  | .lst l => some l
  | .rol l => some l
  | _ => none
theorem asF_ok {v : V} {d : Dv} {l : List Dv} (r : VR K L io H v d) (h : asF d = some l) : ∃ a xs, v = .ref a ∧ SqL K H a xs ∧ VRs K L io H xs l := by
  cases r with
  | lst nl e t => cases h; exact ⟨_, _, rfl, SqL.of e, t⟩
  | rol nl e t => cases h; exact ⟨_, _, rfl, .inl e, t⟩
  | rolK e t => cases h; exact ⟨_, _, rfl, e H, t⟩
  | _ => cases h
theorem walk_lst {a : Addr} {d : Dv} {ds : List Dv} (r : VR K L io H (.ref a) d) (h : asF d = some ds) : WalkR K L io H (Itl K a) ds where
  go := fun L1 io1 H1 S i d s sr hd => by
    obtain ⟨a', xs, e, hs, t⟩ := asF_ok (r.stw s) h
    cases e
    obtain ⟨v, h1, h2⟩ := t.get hd
    refine ⟨⟨xs, v, hs, h1⟩, fun x H2 ⟨e, y⟩ => ?_⟩
    subst e
    have := y xs hs
    rw [h1] at this
    cases this
    exact ⟨sr, Stp.refl .., h2⟩
  stop := fun L1 io1 H1 s => by
    obtain ⟨a', xs, e, hs, t⟩ := asF_ok (r.stw s) h
    cases e
    exact ⟨xs, hs, by rw [t.len]; exact Nat.le_refl _⟩
def rngD (lo : Int) (n : Nat) : List Dv := (List.range n).map fun (i : Nat) => Dv.int (lo + (i : Int))
theorem walk_rng {lo : Int} {n : Nat} : WalkR K L io H (Itr lo n) (rngD lo n) where
  go := fun L1 io1 H1 S i d s sr hd => by
    unfold rngD at hd
    rw [List.getElem?_map] at hd
    cases e : (List.range n)[i]? with
    | none => rw [e] at hd; cases hd
    | some j =>
      rw [e] at hd
      have hi := (List.getElem?_eq_some_iff.mp e)
      obtain ⟨h1, h2⟩ := hi
      rw [List.getElem_range] at h2
      subst h2
      cases hd
      rw [List.length_range] at h1
      refine ⟨h1, fun x H2 ⟨e, y⟩ => ?_⟩
      subst e y
      exact ⟨sr, Stp.refl .., .int _⟩
  stop := fun L1 io1 H1 s => by
    show n ≤ (rngD lo n).length
    unfold rngD
    rw [List.length_map, List.length_range]
    exact Nat.le_refl _
end
section
variable {X : Cx} {W : WX} {pos p : Pos} {tg a b : Expr} {f f2 : DE}
/-- what pyIter gives of a value -/
def IterR (X : Cx) (tg : Expr) (r : V → Hp → (It → Hp → Prop) → Prop) : Prop := ∀ (pins : List (Addr × Obj)) (s : Shared) (g : St) (H : Hp) (x : V) (v : Value) (R : It → Hp → Prop), Inv X pins g H s → RelV x v → r x H R → wpAny (model X.prog X.w) X.A (pyIter v) (PIE X pins g tg R) X.xe s
theorem IterR.or' {r r' : V → Hp → (It → Hp → Prop) → Prop} (h : IterR X tg r) (h' : IterR X tg r') : IterR X tg (fun x H R => r x H R ∨ r' x H R) := fun pins s g H x v R I rx q => q.elim (h pins s g H x v R I rx) (h' pins s g H x v R I rx)
theorem pi_of {l : Expr} {tl : TE} {r : V → Hp → (It → Hp → Prop) → Prop} (hl : PE X l tl) (hr : IterR X tg r) : PI X tg l (fun g H R => tl g H fun x H1 => r x H1 R) :=
  ⟨fun pins s g H R I h => thn (hl.run pins s g H _ I h) fun v s1 ⟨x, H1, I1, r1, q1⟩ => hr pins s1 g H1 x v R I1 r1 q1⟩
theorem iter_lst : IterR X tg (fun x H R => ∃ a, x = .ref a ∧ (∃ xs, SqL X.K H a xs) ∧ R (Itl X.K a) H) := by
  rintro pins s g H x v R I rx ⟨a, rfl, ⟨xs, hq⟩, q⟩
  obtain rfl : v = .ref a := rx
  obtain ⟨its, rv, p, hz⟩ := I.list hq
  exact wpAny_pyIter_list p.isList ⟨_, _, _, _, H, rfl, I.kept (t' := s.toks) fun b o e => Heap.get?_push_of_some _ e, turn_list a _, ⟨_, Heap.get?_push_size _ rfl, rfl, rfl⟩, fun b hb => by
    rw [show b = s.heap.objs.size from by simpa using hb]
    exact I.fpOk (Nat.le_refl _) (I.hok.fresh (Nat.le_refl _)), q⟩
theorem iter_tup : IterR X tg (fun x H R => ∃ a, x = .ref a ∧ (∃ xs, SqT X.K H a xs) ∧ R (Itt X.K a) H) := by
  rintro pins s g H x v R I rx ⟨a, rfl, ⟨xs, hq⟩, q⟩
  obtain rfl : v = .ref a := rx
  obtain ⟨its, rv, p, hz⟩ := I.tuple hq
  exact wpAny_pyIter_tuple (show s.heap.IsTuple a its.toArray from p) ⟨_, _, _, _, H, rfl, I.kept (t' := s.toks) fun b o e => Heap.get?_push_of_some _ e, turn_tuple a _, ⟨_, Heap.get?_push_size _ rfl, rfl, rfl⟩, fun b hb => by
    rw [show b = s.heap.objs.size from by simpa using hb]
    exact I.fpOk (Nat.le_refl _) (I.hok.fresh (Nat.le_refl _)), q⟩
theorem iter_str : IterR X tg (fun x H R => ∃ z, x = .str z ∧ R (Its z) H) := by
  rintro pins s g H x v R I rx ⟨z, rfl, q⟩
  obtain ⟨t, rfl⟩ := rx
  cases ha : z.cps.all (· < 128)
  · exact wpAny_pyIter_wide ha (pi_one (tk := s.toks) I _ (turn_str _ z t "str_iterator" (.inr rfl)) ⟨_, Heap.get?_push_size _ rfl, rfl, rfl⟩ q)
  · exact wpAny_pyIter_ascii ha (pi_one (tk := s.toks) I _ (turn_str _ z t "str_ascii_iterator" (.inl rfl)) ⟨_, Heap.get?_push_size _ rfl, rfl, rfl⟩ q)
def strL (z : Str) : List Dv := z.cps.toList.map fun c => Dv.str ⟨#[c]⟩
theorem walk_str {K : PySem.W.Frag} {L : Addr → Prop} {io : List Addr} {H : Hp} {z : Str} : WalkR K L io H (Its z) (strL z) where
  go := fun L1 io1 H1 S i d s sr hd => by
    unfold strL at hd
    rw [List.getElem?_map] at hd
    cases e : z.cps.toList[i]? with
    | none => rw [e] at hd; cases hd
    | some c =>
      rw [e] at hd
      cases hd
      have hi := (List.getElem?_eq_some_iff.mp e).1
      refine ⟨(by simpa using hi : i < z.cps.size), fun x H2 ⟨e2, c', y1, y2⟩ => ?_⟩
      subst e2 y2
      have : c' = c := by
        rw [Array.getElem?_toList] at e
        rw [e] at y1
        exact (Option.some.inj y1).symm
      subst this
      exact ⟨sr, Stp.refl .., .str _⟩
  stop := fun L1 io1 H1 s => by
    show z.cps.size ≤ (strL z).length
    unfold strL
    simp
def seqR (d : Dv) (S : Sto) : Res (List Dv) := match d with
  | .tup l => .ok l S
  | .lst l => .ok l S
  | .rol l => .ok l S
  | .str z => .ok (strL z) S
  | _ => .no
def iSq (f : DE) : DL := fun e S => bnd (f e S) seqR
theorem qi_seq (h : QE X W a f) : QI X W tg a (iSq f) := by
  have hp := pi_of h (IterR.or' (iter_lst (X := X) (tg := tg)) (IterR.or' iter_tup iter_str))
  refine ⟨fun pins s g H R I q => hp.run pins s g H R I ?_⟩
  obtain ⟨L0, io0, H0, L, io, e, S, fr, q⟩ := q
  refine FinI.bind (R := VR X.K) (k := seqR) fr q fun L1 io1 H1 S1 d v s1 fr1 r1 q => ?_
  cases d with
  | tup l =>
    obtain ⟨a, xs, rfl, hs, t⟩ := r1.tupS
    exact .inr (.inl ⟨a, rfl, ⟨xs, hs⟩, q _ H1 L1 io1 (Stp.refl ..) fr1.st (walk_tup r1)⟩)
  | lst l =>
    obtain ⟨a, xs, rfl, hs, t⟩ := asF_ok r1 rfl
    exact .inl ⟨a, rfl, ⟨xs, hs⟩, q _ H1 L1 io1 (Stp.refl ..) fr1.st (walk_lst r1 rfl)⟩
  | rol l =>
    obtain ⟨a, xs, rfl, hs, t⟩ := asF_ok r1 rfl
    exact .inl ⟨a, rfl, ⟨xs, hs⟩, q _ H1 L1 io1 (Stp.refl ..) fr1.st (walk_lst r1 rfl)⟩
  | str z =>
    cases r1
    exact .inr (.inr ⟨z, rfl, q _ H1 L1 io1 (Stp.refl ..) fr1.st walk_str⟩)
  | _ => exact q.elim
def rngR1 : List Dv → Sto → Res (List Dv)
  | [.int j], S => if -(2 ^ 62) ≤ j ∧ j < 2 ^ 62 then .ok (rngD 0 j.toNat) S else .no
  | _, _ => .no
def rngR2 : List Dv → Sto → Res (List Dv)
  | [.int i, .int j], S => if -(2 ^ 62) ≤ i ∧ i < 2 ^ 62 ∧ -(2 ^ 62) ≤ j ∧ j < 2 ^ 62 then .ok (rngD i (j - i).toNat) S else .no
  | _, _ => .no
def iRng1' (fa : DA) : DL := fun e S => bnd (fa e S) rngR1
def iRng2' (fa : DA) : DL := fun e S => bnd (fa e S) rngR2
theorem qi_range1 (hm : X.mg "range" = none) {fa : DA} (ha : QA X W [a] fa) (hg : Gl X "range" := by rfl) (hs : starEach [a] X.env = [(false, eval a X.env)] := by rfl) : QI X W tg (.Call (.Name "range" p) [a] [] pos) (iRng1' fa) := by
  have hp := pi_range1 (tg := tg) (p := p) (pos := pos) hg hm ha hs
  refine ⟨fun pins s g H R I q => hp.run pins s g H R I ?_⟩
  obtain ⟨L0, io0, H0, L, io, e, S, fr, q⟩ := q
  refine FinI.bind (R := VRs X.K) (k := rngR1) fr q fun L1 io1 H1 S1 l v s1 fr1 r1 q => ?_
  cases r1 with
  | nil => exact q.elim
  | cons r t =>
    cases r with
    | int j =>
      cases t with
      | nil =>
        simp only [rngR1] at q
        split at q
        · rename_i h
          exact ⟨j, rfl, h.1, h.2, q _ H1 L1 io1 (Stp.refl ..) fr1.st walk_rng⟩
        · exact q.elim
      | cons r2 t2 => exact q.elim
    | _ => exact q.elim
theorem qi_range2 (hm : X.mg "range" = none) {fa : DA} (ha : QA X W [a, b] fa) (hg : Gl X "range" := by rfl) (hp : ∀ {t}, PA X [a, b] t → PI X tg (.Call (.Name "range" p) [a, b] [] pos) (L2.iRng2 t) := by intro _ h; exact pi_range2 rfl (by assumption) h) : QI X W tg (.Call (.Name "range" p) [a, b] [] pos) (iRng2' fa) := by
  have hp := hp ha
  refine ⟨fun pins s g H R I q => hp.run pins s g H R I ?_⟩
  obtain ⟨L0, io0, H0, L, io, e, S, fr, q⟩ := q
  refine FinI.bind (R := VRs X.K) (k := rngR2) fr q fun L1 io1 H1 S1 l v s1 fr1 r1 q => ?_
  cases r1 with
  | nil => exact q.elim
  | cons r t =>
    cases r with
    | int j =>
      cases t with
      | nil => exact q.elim
      | cons r2 t2 =>
        cases r2 with
        | int i =>
          cases t2 with
          | nil =>
            simp only [rngR2] at q
            split at q
            · rename_i h
              exact ⟨j, i, rfl, h, q _ H1 L1 io1 (Stp.refl ..) fr1.st walk_rng⟩
            · exact q.elim
          | cons => exact q.elim
        | _ => exact q.elim
    | _ => exact q.elim
end
end DL

namespace DL
open PySem L2

/-! ### comprehensions -/
def W0 : WX := fun _ _ _ _ => False
def lcR (tg : DG) (tt : DT) (te : DE) (e : Env) : List Dv → Sto → Res (List Dv)
  | [], S => .ok [] S
  | d :: ds, S => match tg d e with
    | none => .no
    | some e' => match tt e' S with
      | .ok b S1 => if b then (match te e' S1 with
          | .ok y S2 => (match lcR tg tt te e ds S2 with
            | .ok l S3 => .ok (y :: l) S3
            | _ => .no)
          | _ => .no) else lcR tg tt te e ds S1
      | _ => .no
def fLc (fi : DL) (tg : DG) (tt : DT) (te : DE) (vs : List Nat) : DL := fun e S => bnd (fi e S) fun ds S1 => match lcR tg tt te (wipeE e vs) ds S1 with
  | .ok l S2 => if l.length ≤ sizeLine then .ok l S2 else .no
  | _ => .no
def tTrue : DT := fun _ S => .ok true S
abbrev QTs (X : Cx) (W : WX) (es : List Expr) (f : DT) : Prop := PTs X es (rdt X.K W f)
theorem pts_imp {X : Cx} {e : List Expr} {t t' : TT} (h : PTs X e t) (i : ∀ g H Q, t' g H Q → t g H Q) : PTs X e t' := ⟨fun pins s g H Q I q => h.run pins s g H Q I (i g H Q q)⟩
theorem qts_nil {X : Cx} {W : WX} : QTs X W [] tTrue := pts_imp pts_nil fun g H Q q => by
  obtain ⟨L0, io0, H0, L, io, e, S, fr, q⟩ := q
  exact q.ok1 fr.st rfl
theorem qts_one {X : Cx} {W : WX} {c : Expr} {t : DT} (h : QT X W c t) : QTs X W [c] t := pts_one h
theorem FinI.bindF {K : PySem.W.Frag} {W : WX} {f : DL} {k : List Dv → Sto → Res (List Dv)} {g : St} {L0 L : Addr → Prop} {io0 io : List Addr} {H0 H : Hp} {e : Env} {S : Sto} {Q : V → Hp → Prop} {P : It → Hp → Prop}
    (fr : FR K L0 io0 H0 L io H g e S) (h : FinF K W g L io H Q (bnd (f e S) k))
    (n : ∀ (L1 : Addr → Prop) (io1 : List Addr) (H1 : Hp) (S1 : Sto) (a : List Dv) (J : It), Stp L io H L1 io1 H1 → FR K L0 io0 H0 L1 io1 H1 g e S1 → WalkR K L1 io1 H1 J a → FinF K W g L1 io1 H1 Q (k a S1) → P J H1) : rdi K W f g H P := by
  refine ⟨L0, io0, H0, L, io, e, S, fr, ?_⟩
  cases hf : f e S with
  | ok a S1 =>
    rw [hf] at h
    intro v H1 L1 io1 s1 sr1 r1
    have h : FinF K W g L io H Q (k a S1) := h
    refine n L1 io1 H1 S1 a v s1 (fr.step s1 sr1) r1 ?_
    cases hk : k a S1 with
    | ok l S2 =>
      rw [hk] at h
      intro v H' L' io' s2 sr2 ⟨p, xs, e1, e2, e3⟩
      refine h v H' L' io' (s1.trans s2 fr.st.sub) sr2 ⟨p, xs, e1, ?_, e3⟩
      rcases s1.back e2 with z | z
      · exact absurd e2 (sr1.dom p (s1.up p (fr.st.sub p z)))
      · exact z
    | ex c fs S2 =>
      rw [hk] at h
      exact fun v H' L' io' s2 sr r2 => h v H' L' io' (s1.trans s2 fr.st.sub) sr r2
    | no => rw [hk] at h; exact h
  | ex c fs S1 => rw [hf] at h; exact h
  | no => rw [hf] at h; exact h
section
variable {X : Cx} {W : WX} {elt tg iter : Expr} {ifs : List Expr} {scope : Scope} {own : List (Str × Nat)} {pos : Pos} {fi : DL} {gd : DG} {tt : DT} {te : DE} {vs : List Nat}
theorem rd_lc {K : PySem.W.Frag} {t : TG} (ho : TGok K t gd vs) {g : St} {H : Hp} {Q : VK} (q : rdF K W (fLc fi gd tt te vs) g H Q) : tLc (rdi K W fi) t (rdt K W0 tt) (rd K W0 te) vs g H Q := by
  obtain ⟨L0, io0, H0, L, io, e, S, fr, q⟩ := q
  refine FinI.bindF (k := fun ds S1 => match lcR gd tt te (wipeE e vs) ds S1 with
    | .ok l S2 => if l.length ≤ sizeLine then .ok l S2 else .no
    | _ => .no) fr q fun L1 io1 H1 S1 ds J s1 fr1 wk q => ?_
  cases hl : lcR gd tt te (wipeE e vs) ds S1 with
  | ex c fs S2 => rw [hl] at q; exact q.elim
  | no => rw [hl] at q; exact q.elim
  | ok l S2 =>
    rw [hl] at q
    simp only at q
    split at q
    · rename_i hz
      intro D hD
      have st0 := fr1.st
      -- the invariant
      refine ⟨fun i m H' => m = ds.length - i ∧ i ≤ ds.length ∧ ∃ (L' : Addr → Prop) (io' : List Addr) (S' : Sto) (acc : List V) (da dr : List Dv), FR K L0 io0 H0 L' io' H' (L2.wipe g vs) (wipeE e vs) S' ∧ Stp L1 io1 H1 L' io' H' ∧ Stw L1 io1 H1 L' io' H' ∧ L' D ∧ D ∉ io' ∧ H' D = some (.lst acc) ∧ VRs K L' io' H' acc da ∧ lcR gd tt te (wipeE e vs) (ds.drop i) S' = .ok dr S2 ∧ da ++ dr = l, ⟨ds.length, by simp, Nat.zero_le _, ?_⟩, ?_⟩
      · have s2 : Stp L1 io1 H1 (Ly L1 D) io1 (upd H1 D (.lst [])) := Stp.newV hD
        exact ⟨Ly L1 D, io1, S1, [], [], l, (fr1.step s2 (st0.newV hD)).wipe vs, s2, s2.stw st0.sub, .inr rfl, fun z => st0.dom D (st0.sub D z) hD, upd_same, .nil, by rw [List.drop_zero]; exact hl, rfl⟩
      · rintro i m H' ⟨rfl, hi, L', io', S', acc, da, dr, fr', sp, sw, lD, nD, hDa, ra, hr, hda⟩
        by_cases hlt : i < ds.length
        · obtain ⟨d, hd⟩ : ∃ d, ds[i]? = some d := ⟨_, List.getElem?_eq_getElem hlt⟩
          have hdrop : ds.drop i = d :: ds.drop (i + 1) := by
            rw [List.drop_eq_getElem_cons hlt]
            rw [List.getElem?_eq_getElem hlt] at hd
            cases hd
            rfl
          rw [hdrop] at hr
          obtain ⟨hgo, hy⟩ := wk.go L' io' H' S' i d sw fr'.st hd
          refine .inr ⟨hgo, fun H'' => ∃ m', m' < ds.length - i ∧ (m' = ds.length - (i + 1) ∧ i + 1 ≤ ds.length ∧ ∃ (L' : Addr → Prop) (io' : List Addr) (S' : Sto) (acc : List V) (da dr : List Dv), FR K L0 io0 H0 L' io' H'' (L2.wipe g vs) (wipeE e vs) S' ∧ Stp L1 io1 H1 L' io' H'' ∧ Stw L1 io1 H1 L' io' H'' ∧ L' D ∧ D ∉ io' ∧ H'' D = some (.lst acc) ∧ VRs K L' io' H'' acc da ∧ lcR gd tt te (wipeE e vs) (ds.drop (i + 1)) S' = .ok dr S2 ∧ da ++ dr = l), fun H'' h => h, fun x H2 y => ?_⟩
          obtain ⟨sr2, sp2, r2⟩ := hy x H2 y
          have fr2 := fr'.step sp2 sr2
          -- the target
          simp only [lcR] at hr
          cases hg : gd d (wipeE e vs) with
          | none => rw [hg] at hr; cases hr
          | some e' =>
            rw [hg] at hr
            simp only at hr
            refine ho L0 io0 H0 L' io' H2 (L2.wipe g vs) (wipeE e vs) S' x d e' _ fr2 r2 hg fun g' fr3 lg kg => ⟨?_, ?_⟩
            · exact (wipe_ext lg kg).trans (wipe_ext (L2.wipe_length g vs) fun k hk => by rw [wipe_get, if_neg hk])
            -- the test
            · cases ht : tt e' S' with
              | ex c fs S3 => rw [ht] at hr; cases hr
              | no => rw [ht] at hr; cases hr
              | ok b S3 =>
                rw [ht] at hr
                simp only at hr
                refine ⟨L0, io0, H0, L', io', e', S', fr3, ?_⟩
                rw [ht]
                intro b' H3 L3 io3 s3 sr3 eb
                subst eb
                have fr3' := fr2.step s3 sr3
                have sp3 := (sp.trans sp2 st0.sub).trans s3 st0.sub
                have sw3 := (sw.trans (sp2.stw fr'.st.sub)).trans (s3.stw fr2.st.sub)
                have l3 : L3 D := s3.up D (sp2.up D lD)
                have k2 : H2 D = some (.lst acc) := sp2.keep D _ hDa nD
                have n3 : D ∉ io3 := fun z => by
                  rcases s3.hn D z with q | q
                  · exact nD q
                  · rw [q] at k2; cases k2
                have k3 : H3 D = some (.lst acc) := s3.keep D _ k2 nD
                have ra3 := (ra.step sp2 fr'.st.sub).step s3 fr2.st.sub
                cases b' with
                | false =>
                  rw [if_neg Bool.false_ne_true] at hr
                  refine iteF ⟨_, by omega, rfl, hlt, L3, io3, S3, acc, da, dr, fr3', sp3, sw3, l3, n3, k3, ra3, hr, hda⟩
                | true =>
                  rw [if_pos rfl] at hr
                  refine iteT ?_
                  -- the element
                  cases he : te e' S3 with
                  | ex c fs S4 => rw [he] at hr; cases hr
                  | no => rw [he] at hr; cases hr
                  | ok y' S4 =>
                    rw [he] at hr
                    simp only at hr
                    refine ⟨L0, io0, H0, L3, io3, e', S3, fr3.step s3 sr3, ?_⟩
                    rw [he]
                    intro y H4 L4 io4 s4 sr4 ry
                    have k4 : H4 D = some (.lst acc) := s4.keep D _ k3 n3
                    have l4 : L4 D := s4.up D l3
                    have n4 : D ∉ io4 := fun z => by
                      rcases s4.hn D z with q | q
                      · exact n3 q
                      · rw [q] at k3; cases k3
                    have fr4 := fr3'.step s4 sr4
                    have sp4 := sp3.trans s4 st0.sub
                    have sw4 := sw3.trans (s4.stw fr3'.st.sub)
                    have ra4 := ra3.step s4 fr3'.st.sub
                    cases hrest : lcR gd tt te (wipeE e vs) (ds.drop (i + 1)) S4 with
                    | ex c fs S5 => rw [hrest] at hr; cases hr
                    | no => rw [hrest] at hr; cases hr
                    | ok l' S5 =>
                      rw [hrest] at hr
                      cases hr
                      have hlen : acc.length < sizeLine := by
                        rw [ra.len]
                        rw [← hda, List.length_append, List.length_cons] at hz
                        omega
                      have hD1 : H1 D = none := hD
                      have frm : FR K L0 io0 H0 L4 io4 (upd H4 D (.lst (acc ++ [y]))) (L2.wipe g vs) (wipeE e vs) S4 := by
                        refine fr4.mutD l4 n4 (fr1.fresh0 hD) fun j q' v1 v2 v3 hg' => ?_
                        obtain ⟨o, ho', _⟩ := (fr1.wipe vs).ownAt v1 v2 v3 hg'
                        exact ne_of_none ho' hD
                      refine ⟨acc, k4, hlen, _, by omega, rfl, hlt, L4, io4, S4, acc ++ [y], da ++ [y'], l', frm, ?_, sw4.trans (Stw.mut l4), l4, n4, upd_same, (ra4.app (.cons ry .nil)).mut l4, hrest, by rw [List.append_assoc]; exact hda⟩
                      exact ⟨sp4.pre, sp4.hn, sp4.new, fun a o h n => by rw [upd_ne (ne_of_none h hD1)]; exact sp4.keep a o h n, sp4.up⟩
        · have ei : i = ds.length := by omega
          subst ei
          rw [List.drop_length] at hr
          cases hr
          rw [List.append_nil] at hda
          subst hda
          refine .inl ⟨wk.stop L' io' H' sw, ?_⟩
          exact q _ H' L' io' sp fr'.st ⟨D, acc, rfl, hD, lD, nD, hDa, ra⟩
    · exact q.elim
theorem qf_lc (hc : X.calm = true) (hN : X.N.Nodup) (hi : QI X W tg iter fi) (ok : BlkOk X.N X.env.scope scope own)
    (hg : ∀ (s : Shared) (H : Hp) (C : Addr) (cl : List (Str × Addr)) (fp : List Addr), QG (X.blk s H scope (compEnvC scope cl C X.env) fp) tg gd (own.map (·.2)))
    (ht : ∀ (s : Shared) (H : Hp) (C : Addr) (cl : List (Str × Addr)) (fp : List Addr), QTs (X.blk s H scope (compEnvC scope cl C X.env) fp) W0 ifs tt)
    (he : ∀ (s : Shared) (H : Hp) (C : Addr) (cl : List (Str × Addr)) (fp : List Addr), QE (X.blk s H scope (compEnvC scope cl C X.env) fp) W0 elt te) (hs : ∀ x, foldedSetIterable iter X.env x = pure x := by intro _; rfl) :
    QF X W (.ListComp elt [⟨tg, iter, ifs, 0⟩] scope pos) (fLc fi gd tt te (own.map (·.2))) :=
  pe_imp (pe_lc (g := tgR X.K gd (own.map (·.2))) (tt := rdt X.K W0 tt) (te := rd X.K W0 te) hc hN hi ok (fun s H C cl fp => (hg s H C cl fp).canon) ht he hs) fun g H Q q => rd_lc tgR_ok q
end
end DL

namespace DL
open PySem L2

/-! ### statements -/
inductive Out where
  | nx (e : Env) (S : Sto) | rt (d : Dv) (S : Sto) | bk (e : Env) (S : Sto) | ct (e : Env) (S : Sto) | ex (c : Str) (fs : List (Str × Dv)) (e : Env) (S : Sto) | no
abbrev DS := Env → Sto → Out
def outR (K : PySem.W.Frag) (W : WX) (L0 : Addr → Prop) (io0 : List Addr) (H0 : Hp) (D : Ends) (L : Addr → Prop) (io : List Addr) (H : Hp) : Out → Prop
  | .nx e S => ∀ (g : St) (H' : Hp) (L' : Addr → Prop) (io' : List Addr), Stw L io H L' io' H' → FR K L0 io0 H0 L' io' H' g e S → D.nx g H'
  | .bk e S => ∀ (g : St) (H' : Hp) (L' : Addr → Prop) (io' : List Addr), Stw L io H L' io' H' → FR K L0 io0 H0 L' io' H' g e S → D.bk g H'
  | .ct e S => ∀ (g : St) (H' : Hp) (L' : Addr → Prop) (io' : List Addr), Stw L io H L' io' H' → FR K L0 io0 H0 L' io' H' g e S → D.ct g H'
  | .rt d S => ∀ (v : V) (H' : Hp) (L' : Addr → Prop) (io' : List Addr), SR K L' io' H' S → Stp L0 io0 H0 L' io' H' → VR K L' io' H' v d → D.rt v H'
  | .ex c fs e S => ∀ (x : Option Addr) (g : St) (H' : Hp) (L' : Addr → Prop) (io' : List Addr), Stw L io H L' io' H' → FR K L0 io0 H0 L' io' H' g e S → ExR K L' io' H' x fs → W (.ref (He.ga K c)) x g H'
  | .no => False
def rds (K : PySem.W.Frag) (W : WX) (f : DS) : TS := fun D g H => ∃ (L0 : Addr → Prop) (io0 : List Addr) (H0 : Hp) (L : Addr → Prop) (io : List Addr) (e : Env) (S : Sto), FR K L0 io0 H0 L io H g e S ∧ outR K W L0 io0 H0 D L io H (f e S)
abbrev QS (X : Cx) (W : WX) (st : Stmt) (f : DS) : Prop := PS X st (rds X.K W f)
abbrev QSs (X : Cx) (W : WX) (sts : List Stmt) (f : DS) : Prop := PSs X sts (rds X.K W f)
theorem outR.later {K : PySem.W.Frag} {W : WX} {L0 L L1 : Addr → Prop} {io0 io io1 : List Addr} {H0 H H1 : Hp} {D : Ends} {o : Out} (h : outR K W L0 io0 H0 D L io H o) (s : Stw L io H L1 io1 H1) : outR K W L0 io0 H0 D L1 io1 H1 o := by
  cases o with
  | nx e S => exact fun g H' L' io' s2 fr => h g H' L' io' (s.trans s2) fr
  | bk e S => exact fun g H' L' io' s2 fr => h g H' L' io' (s.trans s2) fr
  | ct e S => exact fun g H' L' io' s2 fr => h g H' L' io' (s.trans s2) fr
  | rt d S => exact h
  | ex c fs e S => exact fun x g H' L' io' s2 fr => h x g H' L' io' (s.trans s2) fr
  | no => exact h
def sBind {α : Type} (f : Env → Sto → Res α) (k : Env → α → Sto → Out) : DS := fun e S => match f e S with
  | .ok a S' => k e a S'
  | .ex c fs S' => .ex c fs e S'
  | .no => .no
theorem rds_bind {α β : Type} {K : PySem.W.Frag} {W : WX} {R : (Addr → Prop) → List Addr → Hp → β → α → Prop} {f : Env → Sto → Res α} {k : Env → α → Sto → Out} {D : Ends} {g : St} {H : Hp} {P : β → Hp → Prop} (h : rds K W (sBind f k) D g H)
    (n : ∀ (L0 : Addr → Prop) (io0 : List Addr) (H0 : Hp) (L : Addr → Prop) (io : List Addr) (H1 : Hp) (e : Env) (S : Sto) (a : α) (v : β), FR K L0 io0 H0 L io H1 g e S → R L io H1 v a → outR K W L0 io0 H0 D L io H1 (k e a S) → P v H1) : Rdg K W R f g H P := by
  obtain ⟨L0, io0, H0, L, io, e, S, fr, h⟩ := h
  unfold sBind at h
  refine ⟨L0, io0, H0, L, io, e, S, fr, ?_⟩
  cases hf : f e S with
  | ok a S1 =>
    rw [hf] at h
    intro v H1 L1 io1 s1 sr1 r1
    exact n L0 io0 H0 L1 io1 H1 e S1 a v (fr.step s1 sr1) r1 (outR.later h (s1.stw fr.st.sub))
  | ex c fs S1 =>
    rw [hf] at h
    exact fun x H' L' io' s sr r => h x g H' L' io' (s.stw fr.st.sub) (fr.step s sr) r
  | no => rw [hf] at h; exact h
/-- .. a new list -/
theorem rds_bindF {K : PySem.W.Frag} {W : WX} {f : DL} {k : Env → List Dv → Sto → Out} {D : Ends} {g : St} {H : Hp} {P : V → Hp → Prop} (h : rds K W (sBind f k) D g H)
    (n : ∀ (L0 : Addr → Prop) (io0 : List Addr) (H0 : Hp) (L : Addr → Prop) (io : List Addr) (L1 : Addr → Prop) (io1 : List Addr) (H1 : Hp) (e : Env) (S S1 : Sto) (a : List Dv) (v : V), FR K L0 io0 H0 L io H g e S → Stp L io H L1 io1 H1 → SR K L1 io1 H1 S1 → NewL K H L1 io1 H1 v a → outR K W L0 io0 H0 D L1 io1 H1 (k e a S1) → P v H1) : rdF K W f g H P := by
  obtain ⟨L0, io0, H0, L, io, e, S, fr, h⟩ := h
  unfold sBind at h
  refine ⟨L0, io0, H0, L, io, e, S, fr, ?_⟩
  cases hf : f e S with
  | ok a S1 =>
    rw [hf] at h
    intro v H1 L1 io1 s1 sr1 r1
    exact n L0 io0 H0 L io L1 io1 H1 e S S1 a v fr s1 sr1 r1 (outR.later h (s1.stw fr.st.sub))
  | ex c fs S1 =>
    rw [hf] at h
    exact fun x H' L' io' s sr r => h x g H' L' io' (s.stw fr.st.sub) (fr.step s sr) r
  | no => rw [hf] at h; exact h
section
variable {X : Cx} {W : WX} {pos : Pos} {a b c : Expr} {f : DE} {t : DT} {f1 f2 : DS} {st : Stmt} {rest sa sb : List Stmt} {i : Nat} {x : Str}
def sNil : DS := fun e S => .nx e S
def sSeq (f1 f2 : DS) : DS := fun e S => match f1 e S with
  | .nx e' S' => f2 e' S'
  | o => o
theorem qss_nil : QSs X W [] sNil := pss_imp pss_nil fun D g H h => by
  obtain ⟨L0, io0, H0, L, io, e, S, fr, h⟩ := h
  exact h g H L io (Stw.refl ..) fr
theorem qss_cons (h1 : QS X W st f1) (h2 : QSs X W rest f2) : QSs X W (st :: rest) (sSeq f1 f2) := pss_imp (pss_cons h1 h2) fun D g H h => by
  obtain ⟨L0, io0, H0, L, io, e, S, fr, h⟩ := h
  unfold sSeq at h
  refine ⟨L0, io0, H0, L, io, e, S, fr, ?_⟩
  cases hf : f1 e S with
  | nx e' S' =>
    rw [hf] at h
    exact fun g' H' L' io' s fr' => ⟨L0, io0, H0, L', io', e', S', fr', outR.later h s⟩
  | _ => rw [hf] at h; exact h
theorem qss_one (h1 : QS X W st f1) : QSs X W [st] f1 := pss_one h1
def sRet (f : DE) : DS := sBind f fun _ d S => .rt d S
theorem qs_ret (h : QE X W a f) : QS X W (.Return (some a) pos) (sRet f) := ps_imp (ps_ret h) fun D g H h => by
  refine rds_bind (R := VR X.K) (k := fun _ d S => .rt d S) h fun L0 io0 H0 L io H1 e S d v fr r q => ?_
  exact q v H1 L io fr.st fr.en r
def sRetN : DS := fun _ S => .rt .non S
theorem qs_retN : QS X W (.Return none pos) sRetN := ps_imp ps_retN fun D g H h => by
  obtain ⟨L0, io0, H0, L, io, e, S, fr, h⟩ := h
  exact h .non H L io fr.st fr.en .non
def sExpr (f : DE) : DS := sBind f fun e _ S => .nx e S
theorem qs_expr (h : QE X W a f) (hs : swapsWith a none pos.line X.env = pure false := by rfl) : QS X W (.Expr a pos) (sExpr f) := ps_imp (ps_expr h hs) fun D g H h => by
  refine rds_bind (R := VR X.K) (k := fun e _ S => .nx e S) h fun L0 io0 H0 L io H1 e S d v fr r q => ?_
  exact q g H1 L io (Stw.refl ..) fr
theorem qs_pass : QS X W (.Pass pos) sNil := ps_imp ps_pass fun D g H h => by
  obtain ⟨L0, io0, H0, L, io, e, S, fr, h⟩ := h
  exact h g H L io (Stw.refl ..) fr
def sBrk : DS := fun e S => .bk e S
def sCnt : DS := fun e S => .ct e S
theorem qs_brk : QS X W (.Break pos) sBrk := ps_imp ps_break fun D g H h => by
  obtain ⟨L0, io0, H0, L, io, e, S, fr, h⟩ := h
  exact h g H L io (Stw.refl ..) fr
theorem qs_cnt : QS X W (.Continue pos) sCnt := ps_imp ps_continue fun D g H h => by
  obtain ⟨L0, io0, H0, L, io, e, S, fr, h⟩ := h
  exact h g H L io (Stw.refl ..) fr
/-- a statement that is never reached -/
def sNever : DS := fun _ _ => .no
theorem qs_never : QS X W st sNever := ps_imp ps_never fun D g H h => by
  obtain ⟨L0, io0, H0, L, io, e, S, fr, h⟩ := h
  exact h
theorem qss_never : QSs X W sa sNever := pss_imp pss_never fun D g H h => by
  obtain ⟨L0, io0, H0, L, io, e, S, fr, h⟩ := h
  exact h
def sIf (t : DT) (f1 f2 : DS) : DS := sBind t fun e b S => if b then f1 e S else f2 e S
theorem qs_if (hc : QT X W c t) (ha : QSs X W sa f1) (hb : QSs X W sb f2) : QS X W (.If c sa sb pos) (sIf t f1 f2) := ps_imp (ps_if hc ha hb) fun D g H h => by
  refine rds_bind (R := fun _ _ _ (v : Bool) d => v = d) (k := fun e b S => if b then f1 e S else f2 e S) h fun L0 io0 H0 L io H1 e S d v fr r q => ?_
  subst r
  cases v with
  | true => exact iteT ⟨L0, io0, H0, L, io, e, S, fr, q⟩
  | false => exact iteF ⟨L0, io0, H0, L, io, e, S, fr, q⟩
/-- x = e -/
def sAsg (i : Nat) (f : DE) : DS := sBind f fun e d S => .nx (e.set i (.va d)) S
theorem qs_asg (hN : X.N.Nodup) (i : Nat) {pos' : Pos} (h : QE X W a f) (hi : X.N[i]? = some x := by rfl) (hx : Loc X.env.scope x := by first | exact Or.inl rfl | exact Or.inr rfl) (hs : swapsWith a (some (.Name x pos')) pos.line X.env = pure false := by rfl) (hf : X.fn x = true ∨ X.env.scope.names.lookup x = some .local := by first | exact .inl rfl | exact .inr rfl) :
    QS X W (.Assign [.Name x pos'] a pos) (sAsg i f) := ps_imp (ps_set hN hi hx h hs hf) fun D g H h => by
  refine rds_bind (R := VR X.K) (k := fun e d S => .nx (e.set i (.va d)) S) h fun L0 io0 H0 L io H1 e S d v fr r q => ?_
  exact q _ H1 L io (Stw.refl ..) (fr.setV i r)
/-- targets of any form -/
def sAsgG (gd : DG) (f : DE) : DS := sBind f fun e d S => match gd d e with
  | some e' => .nx e' S
  | none => .no
theorem qs_asgG {tg : Expr} {gd : DG} {vs : List Nat} (h : QE X W a f) (hg : QG X tg gd vs) (hs : swapsWithSole [tg] a pos.line X.env = pure false := by rfl) (hw : swappedStores [tg] a X.env = pure none := by rfl)
    (hp : ∀ {te g}, PE X a te → PG X tg g → PS X (.Assign [tg] a pos) (tAsg te g) := by intro _ _ h1 h2; exact ps_asg h1 h2) : QS X W (.Assign [tg] a pos) (sAsgG gd f) := ps_imp (hp h hg.canon) fun D g H h => by
  refine rds_bind (R := VR X.K) (k := fun e d S => match gd d e with
    | some e' => .nx e' S
    | none => .no) h fun L0 io0 H0 L io H1 e S d v fr r q => ?_
  cases hd : gd d e with
  | none => rw [hd] at q; exact q.elim
  | some e' =>
    rw [hd] at q
    exact ⟨L0, io0, H0, L, io, e, S, d, e', fr, r, hd, fun g' fr' _ _ => q g' H1 L io (Stw.refl ..) fr'⟩
/-- x, y = e1, e2 -/
def sPar (i j : Nat) (fa : DA) : DS := sBind fa fun e l S => match l with
  | [d1, d2] => .nx ((e.set i (.va d1)).set j (.va d2)) S
  | _ => .no
theorem qs_par {y : Str} {px py pt : Pos} {kt k2 pt2} {fa : DA} (hc : X.calm = true) (hN : X.N.Nodup) (i j : Nat) (ha : QA X W [a, b] fa) (hi : X.N[i]? = some x := by rfl) (hj : X.N[j]? = some y := by rfl) (hij : i ≠ j := by decide)
    (hx : X.env.scope.names.lookup x = some .local := by rfl) (hy : X.env.scope.names.lookup y = some .local := by rfl)
    (hw : swappedStores [.Tuple [.Name x px, .Name y py] kt pt] (.Tuple [a, b] k2 pt2) X.env = pure (some [x, y]) := by rfl)
    (hs : swapsWithSole [.Tuple [.Name x px, .Name y py] kt pt] (.Tuple [a, b] k2 pt2) pos.line X.env = pure false := by rfl) :
    QS X W (.Assign [.Tuple [.Name x px, .Name y py] kt pt] (.Tuple [a, b] k2 pt2) pos) (sPar i j fa) := ps_imp (ps_par hc hN hi hj hij hx hy ha hw hs) fun D g H h => by
  refine rds_bind (R := VRs X.K) (k := fun e l S => match l with
    | [d1, d2] => .nx ((e.set i (.va d1)).set j (.va d2)) S
    | _ => .no) h fun L0 io0 H0 L io H1 e S d v fr r q => ?_
  cases r with
  | nil => exact q.elim
  | cons r1 t1 =>
    cases t1 with
    | nil => exact q.elim
    | cons r2 t2 =>
      cases t2 with
      | cons => exact q.elim
      | nil => exact ⟨_, _, rfl, q _ H1 L io (Stw.refl ..) ((fr.setV i r1).setV j r2)⟩
def sPar3 (i j k : Nat) (fa : DA) : DS := sBind fa fun e l S => match l with
  | [d1, d2, d3] => .nx (((e.set i (.va d1)).set j (.va d2)).set k (.va d3)) S
  | _ => .no
theorem qs_par3 {y z : Str} {px py pz pt : Pos} {kt k2 pt2} {fa : DA} (hc : X.calm = true) (hN : X.N.Nodup) (i j k : Nat) (ha : QA X W [a, b, c] fa) (hi : X.N[i]? = some x := by rfl) (hj : X.N[j]? = some y := by rfl) (hk : X.N[k]? = some z := by rfl) (hij : i ≠ j := by decide) (hik : i ≠ k := by decide) (hjk : j ≠ k := by decide)
    (hx : X.env.scope.names.lookup x = some .local := by rfl) (hy : X.env.scope.names.lookup y = some .local := by rfl) (hz : X.env.scope.names.lookup z = some .local := by rfl)
    (hw : swappedStores [.Tuple [.Name x px, .Name y py, .Name z pz] kt pt] (.Tuple [a, b, c] k2 pt2) X.env = pure (some [x, y, z]) := by rfl)
    (hs : swapsWithSole [.Tuple [.Name x px, .Name y py, .Name z pz] kt pt] (.Tuple [a, b, c] k2 pt2) pos.line X.env = pure false := by rfl) :
    QS X W (.Assign [.Tuple [.Name x px, .Name y py, .Name z pz] kt pt] (.Tuple [a, b, c] k2 pt2) pos) (sPar3 i j k fa) := ps_imp (ps_par3 hc hN hi hj hk hij hik hjk hx hy hz ha hw hs) fun D g H h => by
  refine rds_bind (R := VRs X.K) (k := fun e l S => match l with
    | [d1, d2, d3] => .nx (((e.set i (.va d1)).set j (.va d2)).set k (.va d3)) S
    | _ => .no) h fun L0 io0 H0 L io H1 e S d v fr r q => ?_
  cases r with
  | nil => exact q.elim
  | cons r1 t1 =>
    cases t1 with
    | nil => exact q.elim
    | cons r2 t2 =>
      cases t2 with
      | nil => exact q.elim
      | cons r3 t3 =>
        cases t3 with
        | cons => exact q.elim
        | nil => exact ⟨_, _, _, rfl, q _ H1 L io (Stw.refl ..) (((fr.setV i r1).setV j r2).setV k r3)⟩
/-- x = a new list: the slot's own -/
def sOwn (i : Nat) (f : DL) : DS := sBind f fun e l S => .nx (e.set i (.ow l)) S
/-- .. a handle -/
def sNew (i : Nat) (f : DL) : DS := sBind f fun e l S => .nx (e.set i (.va (.hdl S.length))) (S ++ [.lst l])
end
/-- a new list becomes a slot's own -/
theorem FR.setO {K : PySem.W.Frag} {L0 L L1 : Addr → Prop} {io0 io io1 : List Addr} {H0 H H1 : Hp} {g : St} {e : Env} {S S1 : Sto} (fr : FR K L0 io0 H0 L io H g e S) (s : Stp L io H L1 io1 H1) (sr : SR K L1 io1 H1 S1) {v : V} {l : List Dv} (n : NewL K H L1 io1 H1 v l) (i : Nat) :
    FR K L0 io0 H0 L1 io1 H1 (g.set i (some v)) (e.set i (.ow l)) S1 := by
  obtain ⟨p, xs, rfl, hp, lp, np, h1, h2⟩ := n
  refine (fr.step s sr).setS i (fun d h => by cases h) (fun l' h => ?_) (fun l' h => by cases h) fun q _ _ hq j hj v1 v2 hg => ?_
  · cases h; exact ⟨p, xs, rfl, lp, np, fr.fresh0 hp, h1, h2⟩
  · cases hq
    by_cases hn : e[j]? = none
    · have := List.getElem?_eq_none_iff.mp hn
      rw [← fr.len] at this
      rw [List.getElem?_eq_none_iff.mpr this] at hg
      cases hg
    · obtain ⟨o, ho, _⟩ := fr.ownAt v1 v2 hn hg
      rw [hp] at ho; cases ho
/-- a new list becomes a handle's -/
theorem SR.addH {K : PySem.W.Frag} {L : Addr → Prop} {io : List Addr} {H : Hp} {S : Sto} {p : Addr} {xs : List V} {l : List Dv} (sr : SR K L io H S) (lp : L p) (np : p ∉ io) (h1 : H p = some (.lst xs)) (h2 : VRs K L io H xs l) : SR K L (io ++ [p]) H (S ++ [.lst l]) := by
  have on : ∀ v d, VR K L io H v d → VR K L (io ++ [p]) H v d := fun v d r => VR.on (fun _ _ h => io_keep h) (fun a o e n => ⟨e, n⟩) r
  refine ⟨by rw [List.length_append, List.length_append, sr.len]; rfl, ?_, fun a h => ?_, sr.dom, fun k a o h3 h4 => ?_⟩
  · rw [List.nodup_append]
    exact ⟨sr.nd, by simp, fun a ha b hb => by simp at hb; subst hb; exact fun z => np (by rw [← z]; exact ha)⟩
  · rcases List.mem_append.mp h with z | z
    · exact sr.sub a z
    · simp at z; subst z; exact lp
  · by_cases hk : k < io.length
    · rw [List.getElem?_append_left hk] at h3
      rw [List.getElem?_append_left (by rw [← sr.len]; exact hk)] at h4
      exact (sr.obj k a o h3 h4).mono (fun _ e => e) on
    · have hk2 : io.length ≤ k := by omega
      rw [List.getElem?_append_right hk2] at h3
      rw [List.getElem?_append_right (by rw [← sr.len]; exact hk2), ← sr.len] at h4
      cases hd : k - io.length with
      | zero =>
        rw [hd] at h3 h4
        cases h3; cases h4
        exact ⟨xs, h1, h2.mono on⟩
      | succ n => rw [hd] at h3; simp at h3
section
variable {X : Cx} {W : WX} {pos : Pos} {a : Expr} {f : DL} {x : Str}
theorem qs_own (hN : X.N.Nodup) (i : Nat) {pos' : Pos} (h : QF X W a f) (hi : X.N[i]? = some x := by rfl) (hx : Loc X.env.scope x := by first | exact Or.inl rfl | exact Or.inr rfl) (hs : swapsWith a (some (.Name x pos')) pos.line X.env = pure false := by rfl) (hf : X.fn x = true ∨ X.env.scope.names.lookup x = some .local := by first | exact .inl rfl | exact .inr rfl) :
    QS X W (.Assign [.Name x pos'] a pos) (sOwn i f) := ps_imp (ps_set hN hi hx h hs hf) fun D g H h => by
  refine rds_bindF (k := fun e l S => .nx (e.set i (.ow l)) S) h fun L0 io0 H0 L io L1 io1 H1 e S S1 l v fr s sr n q => ?_
  exact q _ H1 L1 io1 (Stw.refl ..) (fr.setO s sr n i)
theorem FR.setH {K : PySem.W.Frag} {L0 L L1 : Addr → Prop} {io0 io io1 : List Addr} {H0 H H1 : Hp} {g : St} {e : Env} {S S1 : Sto} (fr : FR K L0 io0 H0 L io H g e S) (s : Stp L io H L1 io1 H1) (sr : SR K L1 io1 H1 S1) {v : V} {l : List Dv} (n : NewL K H L1 io1 H1 v l) :
    ∃ io2, Stp L io H L1 io2 H1 ∧ Stw L1 io1 H1 L1 io2 H1 ∧ SR K L1 io2 H1 (S1 ++ [.lst l]) ∧ VR K L1 io2 H1 v (.hdl S1.length) := by
  obtain ⟨p, xs, rfl, hp, lp, np, h1, h2⟩ := n
  have sr2 := sr.addH lp np h1 h2
  refine ⟨io1 ++ [p], ⟨?_, fun x hx => ?_, s.new, s.keep, s.up⟩, ⟨⟨[p], rfl⟩, fun _ h => .inl h, fun _ _ h _ => h⟩, sr2, .hdl (by rw [← sr.len]; simp)⟩
  · obtain ⟨m, rfl⟩ := s.pre
    exact ⟨m ++ [p], by simp⟩
  · rcases List.mem_append.mp hx with z | z
    · exact s.hn x z
    · simp at z; subst z; exact .inr hp
theorem qs_new (hN : X.N.Nodup) (i : Nat) {pos' : Pos} (h : QF X W a f) (hi : X.N[i]? = some x := by rfl) (hx : Loc X.env.scope x := by first | exact Or.inl rfl | exact Or.inr rfl) (hs : swapsWith a (some (.Name x pos')) pos.line X.env = pure false := by rfl) (hf : X.fn x = true ∨ X.env.scope.names.lookup x = some .local := by first | exact .inl rfl | exact .inr rfl) :
    QS X W (.Assign [.Name x pos'] a pos) (sNew i f) := ps_imp (ps_set hN hi hx h hs hf) fun D g H h => by
  refine rds_bindF (k := fun e l S => .nx (e.set i (.va (.hdl S.length))) (S ++ [Ob.lst l])) h fun L0 io0 H0 L io L1 io1 H1 e S S1 l v fr s sr n q => ?_
  obtain ⟨io2, s2, w2, sr2, r2⟩ := fr.setH s sr n
  exact q _ H1 L1 io2 w2 ((fr.step s2 sr2).setV i r2)
/-- a new list as a handle, as a value -/
def eNew (f : DL) : DE := fun e S => bnd (f e S) fun l S' => .ok (.hdl S'.length) (S' ++ [.lst l])
theorem qe_new (h : QF X W a f) : QE X W a (eNew f) := pe_imp h fun g H Q q => by
  obtain ⟨L0, io0, H0, L, io, e, S, fr, q⟩ := q
  refine ⟨L0, io0, H0, L, io, e, S, fr, ?_⟩
  have q : Fin X.K W (VR X.K) g L io H Q (bnd (f e S) fun l S' => .ok (.hdl S'.length) (S' ++ [.lst l])) := q
  cases hf : f e S with
  | no => rw [hf] at q; exact q
  | ex c fs S' => rw [hf] at q; exact q
  | ok l S' =>
    rw [hf] at q
    intro v H' L' io' s sr n
    obtain ⟨io2, s2, w2, sr2, r2⟩ := fr.setH s sr n
    exact q v H' L' io2 s2 sr2 r2
end
/-- the slot's own list is own no more -/
def sFrz (i : Nat) : DS := fun e S => match e[i]? with
  | some (.ow l) => .nx (e.set i (.va (.lst l))) S
  | _ => .no
theorem FR.frz {K : PySem.W.Frag} {L0 L : Addr → Prop} {io0 io : List Addr} {H0 H : Hp} {g : St} {e : Env} {S : Sto} (fr : FR K L0 io0 H0 L io H g e S) {i : Nat} {l : List Dv} (h : e[i]? = some (.ow l)) :
    ∃ p, FR K L0 io0 H0 (Lz L p) io H g (e.set i (.va (.lst l))) S ∧ Stw L io H (Lz L p) io H := by
  obtain ⟨p, xs, h1, h2, h3, h4, h5, h6⟩ := fr.ow i l h
  have hl : ∀ a, Lz L p a → L a := fun a z => z.1
  have on : ∀ v d, VR K L io H v d → VR K (Lz L p) io H v d := fun v d r => r.less hl
  have hi : i < e.length := (List.getElem?_eq_some_iff.mp h).1
  have ne : ∀ j q, j ≠ i → (∀ d, e[j]? ≠ some (.va d)) → e[j]? ≠ some .no → g[j]? = some (some (.ref q)) → q ≠ p := fun j q hj v1 v2 hg z => by
    subst z
    exact fr.inj i j q (fun z => hj z.symm) (by rw [h]; intro d z; cases z) v1 (by rw [h]; intro z; cases z) v2 h1 hg
  refine ⟨p, ⟨fr.st.less hl fun a ha => ⟨fr.st.sub a ha, fun z => h3 (by rw [← z]; exact ha)⟩, by rw [List.length_set]; exact fr.len, fun j d hj => ?_, fun j m hj => ?_, fun j m hj => ?_, fun j k q hjk v1 v2 n1 n2 g1 g2 => ?_, ⟨fr.en.pre, fr.en.hn, fun a z => fr.en.new a z.1, fr.en.keep, fun a z => ⟨fr.en.up a z, fun e => ?_⟩⟩, fr.sub0, fr.dom0⟩, ⟨⟨[], by simp⟩, fun a z => .inl z.1, fun _ _ e _ => e⟩⟩
  · rcases set_get hj with ⟨rfl, e1, e2⟩ | ⟨e1, e2⟩
    · cases e1
      exact ⟨.ref p, h1, .lst (fun z => z.2 rfl) h5 (h6.less hl)⟩
    · obtain ⟨v, r1, r2⟩ := fr.va j d e2
      exact ⟨v, r1, on _ _ r2⟩
  · rcases set_get hj with ⟨rfl, e1, e2⟩ | ⟨e1, e2⟩
    · cases e1
    · obtain ⟨q, ys, r1, r2, r3, r4, r5, r6⟩ := fr.ow j m e2
      exact ⟨q, ys, r1, ⟨r2, ne j q e1 (by rw [e2]; intro d z; cases z) (by rw [e2]; intro z; cases z) r1⟩, r3, r4, r5, r6.less hl⟩
  · rcases set_get hj with ⟨rfl, e1, e2⟩ | ⟨e1, e2⟩
    · cases e1
    · obtain ⟨q, ys, r1, r2, r3, r4, r5, r6⟩ := fr.od j m e2
      exact ⟨q, ys, r1, ⟨r2, ne j q e1 (by rw [e2]; intro d z; cases z) (by rw [e2]; intro z; cases z) r1⟩, r3, r4, r5, r6.mono on⟩
  · have hj : j ≠ i := fun z => by subst z; exact v1 _ (set_at hi)
    have hk : k ≠ i := fun z => by subst z; exact v2 _ (set_at hi)
    rw [set_ne hj] at v1 n1
    rw [set_ne hk] at v2 n2
    exact fr.inj j k q hjk v1 v2 n1 n2 g1 g2
  · rw [← e] at h4
    exact fr.dom0 a z h4
theorem qss_frz {X : Cx} {W : WX} {sts : List Stmt} {f : DS} (i : Nat) (h : QSs X W sts f) : QSs X W sts (sSeq (sFrz i) f) := pss_imp h fun D g H h => by
  obtain ⟨L0, io0, H0, L, io, e, S, fr, h⟩ := h
  unfold sSeq sFrz at h
  cases q : e[i]? with
  | none => rw [q] at h; exact h.elim
  | some s =>
    cases s with
    | ow l =>
      rw [q] at h
      obtain ⟨p, fr2, w⟩ := fr.frz q
      exact ⟨L0, io0, H0, Lz L p, io, _, S, fr2, outR.later h w⟩
    | _ => rw [q] at h; exact h.elim
end DL

namespace DL
open PySem L2

/-! ### for -/
def forR (gd : DG) (body : DS) : List Dv → Env → Sto → Out
  | [], e, S => .nx e S
  | d :: ds, e, S => match gd d e with
    | none => .no
    | some e' => match body e' S with
      | .nx e1 S1 => forR gd body ds e1 S1
      | .ct e1 S1 => forR gd body ds e1 S1
      | .bk e1 S1 => .nx e1 S1
      | o => o
def sFor (fi : DL) (gd : DG) (body : DS) : DS := sBind fi fun e ds S => forR gd body ds e S
theorem rds_bindI {K : PySem.W.Frag} {W : WX} {f : DL} {k : Env → List Dv → Sto → Out} {D : Ends} {g : St} {H : Hp} {P : It → Hp → Prop} (h : rds K W (sBind f k) D g H)
    (n : ∀ (L0 : Addr → Prop) (io0 : List Addr) (H0 : Hp) (L : Addr → Prop) (io : List Addr) (H1 : Hp) (e : Env) (S : Sto) (a : List Dv) (J : It), FR K L0 io0 H0 L io H1 g e S → WalkR K L io H1 J a → outR K W L0 io0 H0 D L io H1 (k e a S) → P J H1) : rdi K W f g H P := by
  obtain ⟨L0, io0, H0, L, io, e, S, fr, h⟩ := h
  unfold sBind at h
  refine ⟨L0, io0, H0, L, io, e, S, fr, ?_⟩
  cases hf : f e S with
  | ok a S1 =>
    rw [hf] at h
    intro v H1 L1 io1 s1 sr1 r1
    exact n L0 io0 H0 L1 io1 H1 e S1 a v (fr.step s1 sr1) r1 (outR.later h (s1.stw fr.st.sub))
  | ex c fs S1 =>
    rw [hf] at h
    exact fun x H' L' io' s sr r => h x g H' L' io' (s.stw fr.st.sub) (fr.step s sr) r
  | no => rw [hf] at h; exact h
theorem rd_for {K : PySem.W.Frag} {W : WX} {fi : DL} {gd : DG} {body : DS} {vs : List Nat} {D : Ends} {g : St} {H : Hp} (h : rds K W (sFor fi gd body) D g H) : tFor (rdi K W fi) (tgR K gd vs) (rds K W body) D g H := by
  refine rds_bindI (k := fun e ds S => forR gd body ds e S) h fun L0 io0 H0 L1 io1 H1 e S ds J fr wk q => ?_
  refine ⟨fun i m g' H' => m = ds.length - i ∧ i ≤ ds.length ∧ ∃ (L' : Addr → Prop) (io' : List Addr) (e' : Env) (S' : Sto), FR K L0 io0 H0 L' io' H' g' e' S' ∧ Stw L1 io1 H1 L' io' H' ∧ outR K W L0 io0 H0 D L' io' H' (forR gd body (ds.drop i) e' S'),
    ⟨ds.length, by simp, Nat.zero_le _, L1, io1, e, S, fr, Stw.refl .., by rw [List.drop_zero]; exact q⟩, ?_⟩
  rintro i m g' H' ⟨rfl, hi, L', io', e', S', fr', sw, q⟩
  by_cases hlt : i < ds.length
  · obtain ⟨d, hd⟩ : ∃ d, ds[i]? = some d := ⟨_, List.getElem?_eq_getElem hlt⟩
    have hdrop : ds.drop i = d :: ds.drop (i + 1) := by
      rw [List.drop_eq_getElem_cons hlt]
      rw [List.getElem?_eq_getElem hlt] at hd
      cases hd
      rfl
    rw [hdrop] at q
    simp only [forR] at q
    obtain ⟨hgo, hy⟩ := wk.go L' io' H' S' i d sw fr'.st hd
    refine .inr ⟨hgo, fun g'' H'' => ∃ m', m' < ds.length - i ∧ (m' = ds.length - (i + 1) ∧ i + 1 ≤ ds.length ∧ ∃ (L' : Addr → Prop) (io' : List Addr) (e' : Env) (S' : Sto), FR K L0 io0 H0 L' io' H'' g'' e' S' ∧ Stw L1 io1 H1 L' io' H'' ∧ outR K W L0 io0 H0 D L' io' H'' (forR gd body (ds.drop (i + 1)) e' S')), fun _ _ h => h, fun x H2 y => ?_⟩
    obtain ⟨sr2, sp2, r2⟩ := hy x H2 y
    have fr2 := fr'.step sp2 sr2
    have sw2 := sw.trans (sp2.stw fr'.st.sub)
    cases hg : gd d e' with
    | none => rw [hg] at q; exact q.elim
    | some e2 =>
      rw [hg] at q
      simp only at q
      refine ⟨L0, io0, H0, L', io', e', S', d, e2, fr2, r2, hg, fun g3 fr3 _ _ => ⟨L0, io0, H0, L', io', e2, S', fr3, ?_⟩⟩
      cases hb : body e2 S' with
      | nx e1 S1 =>
        rw [hb] at q
        exact fun g4 H4 L4 io4 s4 fr4 => ⟨_, by omega, rfl, hlt, L4, io4, e1, S1, fr4, sw2.trans s4, outR.later q ((sp2.stw fr'.st.sub).trans s4)⟩
      | ct e1 S1 =>
        rw [hb] at q
        exact fun g4 H4 L4 io4 s4 fr4 => ⟨_, by omega, rfl, hlt, L4, io4, e1, S1, fr4, sw2.trans s4, outR.later q ((sp2.stw fr'.st.sub).trans s4)⟩
      | bk e1 S1 =>
        rw [hb] at q
        exact fun g4 H4 L4 io4 s4 fr4 => q g4 H4 L4 io4 ((sp2.stw fr'.st.sub).trans s4) fr4
      | rt d1 S1 => rw [hb] at q; exact q
      | ex c fs e1 S1 =>
        rw [hb] at q
        exact fun x g4 H4 L4 io4 s4 fr4 r4 => q x g4 H4 L4 io4 ((sp2.stw fr'.st.sub).trans s4) fr4 r4
      | no => rw [hb] at q; exact q
  · have ei : i = ds.length := by omega
    subst ei
    rw [List.drop_length] at q
    exact .inl ⟨wk.stop L' io' H' sw, q g' H' L' io' (Stw.refl ..) fr'⟩
section
variable {X : Cx} {W : WX} {pos : Pos} {tg iter : Expr} {body : List Stmt} {fi : DL} {gd : DG} {fb : DS} {vs : List Nat}
theorem qs_for (hp : PassesOwn (model X.prog X.w) X.A X.env X.xe) (hc : X.calm = true) (hi : QI X W tg iter fi) (hg : QG X tg gd vs) (hb : QSs X W body fb) (hs : ∀ x, foldedSetIterable iter X.env x = pure x := by intro _; rfl) : QS X W (.For tg iter body [] pos) (sFor fi gd fb) :=
  ps_imp (ps_for hp hc hi hg.canon hb hs) fun D g H h => rd_for h

/-! ### lists changed -/
/-- a slot's own list is changed -/
theorem FR.own {K : PySem.W.Frag} {L0 L : Addr → Prop} {io0 io : List Addr} {H0 H : Hp} {g : St} {e : Env} {S : Sto} (fr : FR K L0 io0 H0 L io H g e S) {i : Nat} {l l' : List Dv} {p : Addr} {ys : List V} (h : e[i]? = some (.ow l)) (hg : g[i]? = some (some (.ref p))) (lp : L p) (np : p ∉ io) (h0 : H0 p = none) (r : VRs K L io H ys l') :
    FR K L0 io0 H0 L io (upd H p (.lst ys)) g (e.set i (.ow l')) S := by
  have hi : i < e.length := (List.getElem?_eq_some_iff.mp h).1
  have eg : g.set i (some (.ref p)) = g := by
    apply List.ext_getElem?
    intro k
    rw [List.getElem?_set]
    by_cases hk : i = k
    · subst hk
      rw [if_pos rfl, if_pos (by rw [fr.len]; exact hi), hg]
    · rw [if_neg hk]
  have f1 := (fr.setN i (some (.ref p))).mutD (o := .lst ys) lp np h0 fun j q v1 v2 v3 hj => by
    have hji : j ≠ i := fun z => by subst z; exact v2 (set_at hi)
    rw [set_ne hji] at v1 v2 v3 hj
    intro z
    subst z
    exact fr.inj i j q (fun z => hji z.symm) (by rw [h]; intro d z; cases z) v1 (by rw [h]; intro z; cases z) v2 hg hj
  have f2 := f1.setS i (x := some (.ref p)) (s := .ow l') (fun d z => by cases z) (fun l2 z => by cases z; exact ⟨p, ys, rfl, lp, np, h0, upd_same, r.mut lp⟩) (fun l2 z => by cases z) fun q _ _ hq j hj v1 v2 hgj => by
    cases hq
    rw [set_ne hj] at v1 v2 hgj
    exact fr.inj i j p (fun z => hj z.symm) (by rw [h]; intro d z; cases z) v1 (by rw [h]; intro z; cases z) v2 hg hgj
  rw [List.set_set, List.set_set, eg] at f2
  exact f2
end
/-- a list's method by data: the list, the arguments; the list behind it, the answer -/
def OwnS (K : PySem.W.Frag) (r : V → List V → Hp → VK → Prop) (h : List Dv → List Dv → Option (List Dv × Dv)) : Prop :=
  ∀ (L : Addr → Prop) (io : List Addr) (H : Hp) (S : Sto) (p : Addr) (xs : List V) (l : List Dv) (vs : List V) (as l' : List Dv) (d : Dv) (Q : VK), SR K L io H S → H p = some (.lst xs) → L p → VRs K L io H xs l → VRs K L io H vs as → h l as = some (l', d) →
    (∀ ys v, VRs K L io H ys l' → VR K L io H v d → Q v (upd H p (.lst ys))) → r (.ref p) vs H Q
def sOwnM (h : List Dv → List Dv → Option (List Dv × Dv)) (i : Nat) (fa : DA) : DS := fun e S => match e[i]? with
  | some (.ow l) => sBind fa (fun e as S => match h l as with
    | some (l', _) => .nx (e.set i (.ow l')) S
    | none => .no) e S
  | _ => .no
theorem rd_ownM {K : PySem.W.Frag} {W : WX} {r : V → List V → Hp → VK → Prop} {h : List Dv → List Dv → Option (List Dv × Dv)} (hs : OwnS K r h) {fa : DA} {i : Nat} {D : Ends} {g : St} {H : Hp} (q : rds K W (sOwnM h i fa) D g H) : tDrop (tBM K "list" r (tVar i) (rda K W fa)) D g H := by
  obtain ⟨L0, io0, H0, L, io, e, S, fr, q⟩ := q
  unfold sOwnM at q
  cases hi : e[i]? with
  | none => rw [hi] at q; exact q.elim
  | some sl =>
    cases sl with
    | ow l =>
      rw [hi] at q
      obtain ⟨p, xs, h1, h2, h3, h4, h5, h6⟩ := fr.ow i l hi
      refine ⟨.ref p, h1, .inl ⟨rfl, xs, SqL.of h5⟩, ?_⟩
      refine ⟨L0, io0, H0, L, io, e, S, fr, ?_⟩
      simp only [sBind] at q
      cases hf : fa e S with
      | no => rw [hf] at q; exact q
      | ex c fs S1 => rw [hf] at q; exact fun x H' L' io' s sr r => q x g H' L' io' (s.stw fr.st.sub) (fr.step s sr) r
      | ok as S1 =>
        rw [hf] at q
        intro vs H1 L1 io1 s1 sr1 r1
        simp only at q
        cases hh : h l as with
        | none => rw [hh] at q; exact q.elim
        | some z =>
          obtain ⟨l', d⟩ := z
          rw [hh] at q
          have fr1 := fr.step s1 sr1
          have np : p ∉ io1 := fun z => by
            rcases s1.hn p z with q | q
            · exact h3 q
            · rw [q] at h5; cases h5
          refine hs L1 io1 H1 S1 p xs l vs as l' d _ sr1 (s1.keep p _ h5 h3) (s1.up p h2) (h6.step s1 fr.st.sub) r1 hh fun ys v ry rv => ?_
          exact q g _ L1 io1 ((s1.stw fr.st.sub).trans (Stw.mut (s1.up p h2))) (fr1.own hi h1 (s1.up p h2) np h4 ry)
    | _ => rw [hi] at q; exact q.elim
theorem SR.setH {K : PySem.W.Frag} {L : Addr → Prop} {io : List Addr} {H : Hp} {S : Sto} {k : Nat} {a : Addr} {ob : Ob} {o : HO} (sr : SR K L io H S) (hk : io[k]? = some a) (r : ObR K L io (upd H a o) a ob) : SR K L io (upd H a o) (S.set k ob) := by
  have la : L a := sr.sub a (List.mem_of_getElem? hk)
  refine ⟨by rw [List.length_set]; exact sr.len, sr.nd, sr.sub, fun b hb => ?_, fun j b u h1 h2 => ?_⟩
  · by_cases e : b = a
    · rw [e, upd_same]; exact fun z => nomatch z
    · rw [upd_ne e]; exact sr.dom b hb
  · rcases set_get h2 with ⟨rfl, rfl, _⟩ | ⟨e1, e2⟩
    · rw [hk] at h1; cases h1; exact r
    · refine (sr.obj j b u h1 e2).mono (fun z ez => ?_) fun v d rv => rv.mut la
      rw [upd_ne (fun z => e1 ?_)]
      · exact ez
      · rw [← z] at hk
        obtain ⟨q1, q2⟩ := List.getElem?_eq_some_iff.mp h1
        obtain ⟨q3, q4⟩ := List.getElem?_eq_some_iff.mp hk
        exact (List.getElem_inj sr.nd).mp (q2.trans q4.symm)
theorem Stp.mutH {L : Addr → Prop} {io : List Addr} {H : Hp} {a : Addr} {o : HO} (h : a ∈ io) : Stp L io H L io (upd H a o) :=
  ⟨⟨[], by simp⟩, fun _ h => .inl h, fun _ h => .inl h, fun b u e n => by rw [upd_ne (fun z => n (by rw [z]; exact h))]; exact e, fun _ h => h⟩
def hdlM (h : List Dv → List Dv → Option (List Dv × Dv)) (S : Sto) (o : Dv) (as : List Dv) : Res Dv := match o with
  | .hdl k => match S[k]? with
    | some (.lst l) => match h l as with
      | some (l', d) => .ok d (S.set k (.lst l'))
      | none => .no
    | _ => .no
  | _ => .no
def lstHd (S : Sto) : Dv → Bool
  | .hdl k => match S[k]? with
    | some (.lst _) => true
    | _ => false
  | _ => false
def eHdlM (h : List Dv → List Dv → Option (List Dv × Dv)) (fo : DE) (fa : DA) : DE := fun e S => bnd (fo e S) fun o S1 => if lstHd S1 o then bnd (fa e S1) fun as S2 => hdlM h S2 o as else .no
theorem rd_hdlM {K : PySem.W.Frag} {W : WX} {r : V → List V → Hp → VK → Prop} {h : List Dv → List Dv → Option (List Dv × Dv)} (hs : OwnS K r h) {fo : DE} {fa : DA} {g : St} {H : Hp} {Q : VK} (q : rd K W (eHdlM h fo fa) g H Q) : tBM K "list" r (rd K W fo) (rda K W fa) g H Q := by
  refine Rdg.bind (R := VR K) (k := fun e o S1 => if lstHd S1 o then bnd (fa e S1) fun as S2 => hdlM h S2 o as else .no) q fun L0 io0 H0 L io H1 e S o v fr ro q => ?_
  cases hl : lstHd S o with
  | false => rw [hl] at q; exact q.elim
  | true =>
    rw [hl] at q
    cases o with
    | hdl k =>
      cases ro with
      | hdl hk =>
        rename_i a
        simp only [lstHd] at hl
        cases hS : S[k]? with
        | none => rw [hS] at hl; cases hl
        | some ob =>
          rw [hS] at hl
          cases ob with
          | lst l =>
            obtain ⟨xs, e1, _⟩ := fr.st.obj k a _ hk hS
            refine ⟨.inl ⟨rfl, xs, SqL.of e1⟩, ?_⟩
            refine Fin.bind (R := VRs K) (k := fun as S2 => hdlM h S2 (.hdl k) as) fr q fun L2 io2 H2 S2 as vs s2 fr2 r2 q => ?_
            simp only [hdlM] at q
            have hk2 : io2[k]? = some a := by
              obtain ⟨m, rfl⟩ := s2.pre
              exact io_keep hk
            cases hS2 : S2[k]? with
            | none => rw [hS2] at q; exact q.elim
            | some ob2 =>
              rw [hS2] at q
              cases ob2 with
              | lst l2 =>
                simp only at q
                cases hh : h l2 as with
                | none => rw [hh] at q; exact q.elim
                | some z =>
                  obtain ⟨l', d⟩ := z
                  rw [hh] at q
                  obtain ⟨ys, e2, r3⟩ := fr2.st.obj k a _ hk2 hS2
                  have ma : a ∈ io2 := List.mem_of_getElem? hk2
                  have la : L2 a := fr2.st.sub a ma
                  refine hs L2 io2 H2 S2 a ys l2 vs as l' d Q fr2.st e2 la r3 r2 hh fun zs w rz rw' => ?_
                  exact q w _ L2 io2 (Stp.mutH ma) (fr2.st.setH hk2 ⟨zs, upd_same, rz.mut la⟩) (rw'.mut la)
              | _ => exact q.elim
          | _ => cases hl
    | _ => simp [lstHd] at hl
/-- append, extend, insert, reverse -/
def appD (l as : List Dv) : Option (List Dv × Dv) := match as with
  | [d] => if l.length < sizeLine then some (l ++ [d], .non) else none
  | _ => none
theorem owns_app {K : PySem.W.Frag} : OwnS K rAppend appD := by
  intro L io H S p xs l vs as l' d Q sr hp lp rx ra hh q
  cases ra with
  | nil => cases hh
  | cons r t =>
    cases t with
    | cons => cases hh
    | nil =>
      simp only [appD] at hh
      split at hh
      · rename_i hl
        cases hh
        exact ⟨p, xs, _, rfl, rfl, hp, by rw [rx.len]; exact hl, q _ _ (rx.app (.cons r .nil)) .non⟩
      · cases hh
section
variable {X : Cx} {W : WX} {pos apos cpos p1 : Pos} {a o e : Expr} {es : List Expr} {f fo fv : DE} {fa : DA} {x name : Str} {id : String} {r : V → List V → Hp → VK → Prop} {h : List Dv → List Dv → Option (List Dv × Dv)}
/-- found.m(..), found the slot's own -/
theorem qs_ownM (i : Nat) (slot : Slot "list" name id) (hty : typeOf (.builtin id) = pure (.type "method_descriptor")) (hm : MtR X id r) (hs : OwnS X.K r h) (ha : QA X W (e :: es) fa)
    (hN : X.N[i]? = some x := by rfl) (hv : Vis X.env.scope x := by first | exact Or.inl rfl | exact Or.inr (Or.inl rfl) | exact Or.inr (Or.inr rfl))
    (hd : (x == ("__debug__" : Str)) = false := by decide) (hcd : (x == ("__classdict__" : Str)) = false := by decide)
    (hbase : attributeBase (.Name x p1) name X.env (eval (.Name x p1) X.env) = eval (.Name x p1) X.env := by rfl)
    (hfew : ((backTo cpos (starEach (e :: es) X.env)).all (fun x => !x.1) && (backToKw cpos (keywordEach [] X.env)).all (fun x => x.1.isSome)
      && decide ((e :: es).length + ([] : List Keyword).length + (if ([] : List Keyword).isEmpty then 0 else 1) < 30)) = true := by rfl)
    (hline : (apos.endLine == cpos.line) = true := by rfl) (hst : starEach (e :: es) X.env = (false, eval e X.env) :: starEach es X.env := by rfl) (hplain : (backTo cpos (starEach es X.env)).any (·.1) = false := by rfl)
    (hsw : swapsWith (.Call (.Attribute (.Name x p1) name apos) (e :: es) [] cpos) none pos.line X.env = pure false := by rfl) :
    QS X W (.Expr (.Call (.Attribute (.Name x p1) name apos) (e :: es) [] cpos) pos) (sOwnM h i fa) := ps_imp (ps_expr (pe_bm PySem.F.plainAttrs_list slot hty hm (pe_var hN hv hd hcd) ha hbase hfew hline hst hplain) hsw) fun D g H q => rd_ownM hs q
theorem qe_hdlM (slot : Slot "list" name id) (hty : typeOf (.builtin id) = pure (.type "method_descriptor")) (hm : MtR X id r) (hs : OwnS X.K r h) (ho : QE X W o fo) (ha : QA X W (e :: es) fa)
    (hbase : attributeBase o name X.env (eval o X.env) = eval o X.env := by rfl)
    (hfew : ((backTo cpos (starEach (e :: es) X.env)).all (fun x => !x.1) && (backToKw cpos (keywordEach [] X.env)).all (fun x => x.1.isSome)
      && decide ((e :: es).length + ([] : List Keyword).length + (if ([] : List Keyword).isEmpty then 0 else 1) < 30)) = true := by rfl)
    (hline : (apos.endLine == cpos.line) = true := by rfl) (hst : starEach (e :: es) X.env = (false, eval e X.env) :: starEach es X.env := by rfl) (hplain : (backTo cpos (starEach es X.env)).any (·.1) = false := by rfl) :
    QE X W (.Call (.Attribute o name apos) (e :: es) [] cpos) (eHdlM h fo fa) := pe_imp (pe_bm PySem.F.plainAttrs_list slot hty hm ho ha hbase hfew hline hst hplain) fun g H Q q => rd_hdlM hs q
end
end DL

namespace DL
open PySem L2

theorem outR.bind {α β : Type} {K : PySem.W.Frag} {W : WX} {R : (Addr → Prop) → List Addr → Hp → β → α → Prop} {f : Env → Sto → Res α} {k : Env → α → Sto → Out} {D : Ends} {g : St} {L0 L : Addr → Prop} {io0 io : List Addr} {H0 H : Hp} {e : Env} {S : Sto} {P : β → Hp → Prop}
    (fr : FR K L0 io0 H0 L io H g e S) (h : outR K W L0 io0 H0 D L io H (sBind f k e S))
    (n : ∀ (L1 : Addr → Prop) (io1 : List Addr) (H1 : Hp) (S1 : Sto) (a : α) (v : β), Stp L io H L1 io1 H1 → FR K L0 io0 H0 L1 io1 H1 g e S1 → R L1 io1 H1 v a → outR K W L0 io0 H0 D L1 io1 H1 (k e a S1) → P v H1) : Rdg K W R f g H P := by
  unfold sBind at h
  refine ⟨L0, io0, H0, L, io, e, S, fr, ?_⟩
  cases hf : f e S with
  | ok a S1 =>
    rw [hf] at h
    intro v H1 L1 io1 s1 sr1 r1
    exact n L1 io1 H1 S1 a v s1 (fr.step s1 sr1) r1 (outR.later h (s1.stw fr.st.sub))
  | ex c fs S1 =>
    rw [hf] at h
    exact fun x H' L' io' s sr r => h x g H' L' io' (s.stw fr.st.sub) (fr.step s sr) r
  | no => rw [hf] at h; exact h

/-! ### o[i] = e of a handle's list -/
def setD (S : Sto) (o i v : Dv) : Option Sto := match o, i with
  | .hdl k, .int n => match S[k]? with
    | some (.lst l) => match ixN l.length n with
      | some j => some (S.set k (.lst (l.set j v)))
      | none => none
    | _ => none
  | _, _ => none
theorem setD_ok {K : PySem.W.Frag} {L : Addr → Prop} {io : List Addr} {H : Hp} {S S' : Sto} {o i v : Dv} {vo vi vv : V} (sr : SR K L io H S) (ro : VR K L io H vo o) (ri : VR K L io H vi i) (rv : VR K L io H vv v) (h : setD S o i v = some S') {Q : Hp → Prop}
    (q : ∀ H', Stp L io H L io H' → SR K L io H' S' → Q H') : rSetL vo vi vv H Q := by
  cases o with
  | hdl k =>
    cases i with
    | int n =>
      simp only [setD] at h
      cases hS : S[k]? with
      | none => rw [hS] at h; cases h
      | some ob =>
        rw [hS] at h
        cases ob with
        | lst l =>
          simp only at h
          cases hj : ixN l.length n with
          | none => rw [hj] at h; cases h
          | some j =>
            rw [hj] at h
            cases h
            cases ri
            cases ro with
            | hdl hk =>
              rename_i a
              obtain ⟨xs, e1, r1⟩ := sr.obj k a _ hk hS
              have ma : a ∈ io := List.mem_of_getElem? hk
              refine ⟨a, xs, n, j, rfl, rfl, e1, by rw [r1.len]; exact hj, ?_⟩
              exact q _ (Stp.mutH ma) (sr.setH hk ⟨_, upd_same, (VRs.set rv j r1).mut (sr.sub a ma)⟩)
        | _ => cases h
    | _ => cases h
  | _ => cases h
def sSetI (fo fi fv : DE) : DS := sBind fv fun e v S1 => sBind fo (fun e o S2 => sBind fi (fun e i S3 => match setD S3 o i v with
  | some S4 => .nx e S4
  | none => .no) e S2) e S1
section
variable {X : Cx} {W : WX} {pos tpos : Pos} {a o i : Expr} {fo fi fv : DE}
theorem qs_setI (ho : QE X W o fo) (hi : QE X W i fi) (hv : QE X W a fv)
    (hp : ∀ {to ti tv}, PE X o to → PE X i ti → PE X a tv → PS X (.Assign [.Subscript o i tpos] a pos) (tAsg tv (gSub to ti rSetL)) := by intro _ _ _ h1 h2 h3; exact ps_asg h3 (pg_sub h1 h2 set_list)) : QS X W (.Assign [.Subscript o i tpos] a pos) (sSetI fo fi fv) := ps_imp (hp ho hi hv) fun D g H h => by
  refine rds_bind (R := VR X.K) (k := fun e v S1 => sBind fo (fun e o S2 => sBind fi (fun e i S3 => match setD S3 o i v with
    | some S4 => .nx e S4
    | none => .no) e S2) e S1) h fun L0 io0 H0 L io H1 e S d v fr rv q => ?_
  refine outR.bind (R := VR X.K) (k := fun e o S2 => sBind fi (fun e i S3 => match setD S3 o i d with
    | some S4 => .nx e S4
    | none => .no) e S2) fr q fun L2 io2 H2 S2 od vo s2 fr2 ro q => ?_
  refine outR.bind (R := VR X.K) (k := fun e i S3 => match setD S3 od i d with
    | some S4 => .nx e S4
    | none => .no) fr2 q fun L3 io3 H3 S3 id vi s3 fr3 ri q => ?_
  cases hS : setD S3 od id d with
  | none => rw [hS] at q; exact q.elim
  | some S4 =>
    rw [hS] at q
    exact setD_ok fr3.st (ro.step s3 fr2.st.sub) ri ((rv.step s2 fr.st.sub).step s3 fr2.st.sub) hS fun H' s sr => q g H' L3 io3 (s.stw fr3.st.sub) (fr3.step s sr)

/-! ### o[i] += e -/
theorem get_list : PGet X (rIxL X.K) := by
  intro pins s g H x y v u Q I rx ry h
  obtain ⟨p, xs, i, z, rfl, rfl, hq, he, q⟩ := h
  cases rx
  obtain ⟨t, rfl⟩ := ry
  obtain ⟨its, r, pl, hz⟩ := I.list hq
  obtain ⟨j, h1, h2, h3, h4, h5⟩ := atI_get he
  obtain ⟨w, ew, rw'⟩ := r.get h2
  have hl := r.length
  have hn := line63
  have fin : EP X pins g Q w s := ⟨z, H, I, rw', q⟩
  by_cases h0 : 0 ≤ i
  · have hj : i.toNat = j := by
      rw [seqIndex_of h0 h5] at h1
      exact Option.some.inj h1
    exact wpAny_getItem_list pl.isList h0 (by omega) (by rw [hj]; simpa using ew) fin
  · have hj : (i + (its.toArray.size : Int)).toNat = j := by
      rw [seqIndex_neg (by omega) h4] at h1
      rw [List.size_toArray, ← hl]
      exact Option.some.inj h1
    exact wpAny_getItem_list_neg pl.isList (by omega) (by rw [List.size_toArray] <;> omega) (by omega) (by rw [hj]; simpa using ew) fin
def ixL (S : Sto) (d i : Dv) : Option Dv := match i with
  | .int i => (asL S d).bind fun l => atI l i
  | _ => none
def addI : Dv → Dv → Option Dv := iop fun i j => some (.int (i + j))
def subI : Dv → Dv → Option Dv := iop fun i j => some (.int (i - j))
def sAugI (op : Dv → Dv → Option Dv) (fo fi fv : DE) : DS := sBind fo fun e o S1 => sBind fi (fun e i S2 => match ixL S2 o i with
  | some x => sBind fv (fun e y S3 => match op x y with
    | some z => (match setD S3 o i z with
      | some S4 => .nx e S4
      | none => .no)
    | none => .no) e S2
  | none => .no) e S1
def IpS (K : PySem.W.Frag) (t : TIp) (op : Dv → Dv → Option Dv) : Prop := ∀ L io H x y a b d (Q : VK), VR K L io H x a → VR K L io H y b → op a b = some d → (∀ v, VR K L io H v d → Q v H) → t x y H Q
theorem ips_add {K : PySem.W.Frag} : IpS K (ipI fun i j => i + j) addI := by
  intro L io H x y a b d Q ra rb e q
  cases ra with
  | int i =>
    cases rb with
    | int j => cases e; exact ⟨i, j, rfl, rfl, q _ (.int _)⟩
    | _ => cases e
  | _ => cases e
theorem ips_sub {K : PySem.W.Frag} : IpS K (ipI fun i j => i - j) subI := by
  intro L io H x y a b d Q ra rb e q
  cases ra with
  | int i =>
    cases rb with
    | int j => cases e; exact ⟨i, j, rfl, rfl, q _ (.int _)⟩
    | _ => cases e
  | _ => cases e
theorem qs_augI {op : Operator} {tip : TIp} {od : Dv → Dv → Option Dv} (hop : PIp X op tip) (hod : IpS X.K tip od) (ho : QE X W o fo) (hi : QE X W i fi) (hv : QE X W a fv)
    (ha : ∀ ov iv new, augStore i ov iv new = (do holding [new, ov, iv] (setItem ov iv new); release [new, ov, iv] []; pure .next) := by intros; rfl) : QS X W (.AugAssign (.Subscript o i tpos) op a pos) (sAugI od fo fi fv) := ps_imp (ps_augS ho hi get_list hv hop set_list ha) fun D g H h => by
  refine rds_bind (R := VR X.K) (k := fun e o S1 => sBind fi (fun e i S2 => match ixL S2 o i with
    | some x => sBind fv (fun e y S3 => match od x y with
      | some z => (match setD S3 o i z with
        | some S4 => .nx e S4
        | none => .no)
      | none => .no) e S2
    | none => .no) e S1) h fun L0 io0 H0 L io H1 e S d v fr rv q => ?_
  refine outR.bind (R := VR X.K) (k := fun e i S2 => match ixL S2 d i with
    | some x => sBind fv (fun e y S3 => match od x y with
      | some z => (match setD S3 d i z with
        | some S4 => .nx e S4
        | none => .no)
      | none => .no) e S2
    | none => .no) fr q fun L2 io2 H2 S2 di vi s2 fr2 ri q => ?_
  have rv2 := rv.step s2 fr.st.sub
  cases hx : ixL S2 d di with
  | none => rw [hx] at q; exact q.elim
  | some x =>
    rw [hx] at q
    simp only at q
    cases di with
    | int n =>
      simp only [ixL] at hx
      cases hl : asL S2 d with
      | none => rw [hl] at hx; cases hx
      | some l =>
        rw [hl] at hx
        obtain ⟨p, xs, rfl, hs, t⟩ := asL_ok fr2.st rv2 hl
        obtain ⟨w, h3, h4⟩ := t.atI hx
        cases ri
        refine ⟨p, xs, n, w, rfl, rfl, hs, h3, ?_⟩
        refine outR.bind (R := VR X.K) (k := fun e y S3 => match od x y with
          | some z => (match setD S3 d (.int n) z with
            | some S4 => .nx e S4
            | none => .no)
          | none => .no) fr2 q fun L3 io3 H3 S3 dy vy s3 fr3 ry q => ?_
        cases hz : od x dy with
        | none => rw [hz] at q; exact q.elim
        | some z =>
          rw [hz] at q
          simp only at q
          refine hod L3 io3 H3 w vy x dy z _ (h4.step s3 fr2.st.sub) ry hz fun vz rz => ?_
          cases hS : setD S3 d (.int n) z with
          | none => rw [hS] at q; exact q.elim
          | some S4 =>
            rw [hS] at q
            exact setD_ok fr3.st (rv2.step s3 fr2.st.sub) (.int n) rz hS fun H' s sr => q g H' L3 io3 (s.stw fr3.st.sub) (fr3.step s sr)
    | _ => cases hx
/-- x += e -/
def sAug (op : Dv → Dv → Option Dv) (n : Nat) (fv : DE) : DS := fun e S => match e[n]? with
  | some (.va x) => sBind fv (fun e y S1 => match op x y with
    | some z => .nx (e.set n (.va z)) S1
    | none => .no) e S
  | _ => .no
theorem qs_aug {op : Operator} {tip : TIp} {od : Dv → Dv → Option Dv} {x : Str} {p' : Pos} (hN : X.N.Nodup) (n : Nat) (hop : PIp X op tip) (hod : IpS X.K tip od) (hv : QE X W a fv) (hi : X.N[n]? = some x := by rfl) (hx : Loc X.env.scope x := by first | exact Or.inl rfl | exact Or.inr rfl) (hf : X.fn x = true ∨ X.env.scope.names.lookup x = some .local := by first | exact .inl rfl | exact .inr rfl)
    (hp : ∀ {te}, PE X a te → PS X (.AugAssign (.Name x p') op a pos) (tAug n te tip) := by intro _ h; exact ps_aug (by assumption) (by assumption) (by assumption) h (by assumption) (by assumption)) : QS X W (.AugAssign (.Name x p') op a pos) (sAug od n fv) := ps_imp (hp hv) fun D g H h => by
  obtain ⟨L0, io0, H0, L, io, e, S, fr, h⟩ := h
  unfold sAug at h
  cases hn : e[n]? with
  | none => rw [hn] at h; exact h.elim
  | some sl =>
    cases sl with
    | va d =>
      rw [hn] at h
      simp only at h
      obtain ⟨v, h1, r1⟩ := fr.va n d hn
      refine ⟨v, h1, ?_⟩
      refine outR.bind (R := VR X.K) (k := fun e y S1 => match od d y with
        | some z => .nx (e.set n (.va z)) S1
        | none => .no) fr h fun L3 io3 H3 S3 dy vy s3 fr3 ry q => ?_
      cases hz : od d dy with
      | none => rw [hz] at q; exact q.elim
      | some z =>
        rw [hz] at q
        exact hod L3 io3 H3 v vy d dy z _ (r1.step s3 fr.st.sub) ry hz fun vz rz => q _ H3 L3 io3 (Stw.refl ..) (fr3.setV n rz)
    | _ => rw [hn] at h; exact h.elim
end

/-! ### defs -/
def startE (n : Nat) (l : List Dv) : Env := l.map Sl.va ++ List.replicate (n - l.length) .no
def runF (np n : Nat) (fb : DS) : DF := fun S l => if l.length = np then (match fb (startE n l) S with
  | .rt d S' => .ok d S'
  | .nx _ S' => .ok .non S'
  | .ex c fs _ S' => .ex c fs S'
  | _ => .no) else .no
theorem VRs.map_get {K : PySem.W.Frag} {L : Addr → Prop} {io : List Addr} {H : Hp} {vs : List V} {l : List Dv} (r : VRs K L io H vs l) {i : Nat} {d : Dv} {n m : Nat} (h : (l.map Sl.va ++ List.replicate n Sl.no)[i]? = some (.va d)) : ∃ v, (vs.map some ++ List.replicate m (none : Option V))[i]? = some (some v) ∧ VR K L io H v d := by
  by_cases hi : i < l.length
  · rw [List.getElem?_append_left (by rw [List.length_map]; exact hi), List.getElem?_map] at h
    cases q : l[i]? with
    | none => rw [q] at h; cases h
    | some z =>
      rw [q] at h
      cases h
      obtain ⟨v, h1, h2⟩ := r.get q
      refine ⟨v, ?_, h2⟩
      rw [List.getElem?_append_left (by rw [List.length_map, r.len]; exact hi), List.getElem?_map, h1]
      rfl
  · rw [List.getElem?_append_right (by rw [List.length_map]; omega), List.getElem?_replicate] at h
    split at h <;> cases h
theorem start_no {l : List Dv} {n i : Nat} {s : Sl} (h : (l.map Sl.va ++ List.replicate n Sl.no)[i]? = some s) : (∃ d, s = .va d) ∨ s = .no := by
  by_cases hi : i < l.length
  · rw [List.getElem?_append_left (by rw [List.length_map]; exact hi), List.getElem?_map] at h
    cases q : l[i]? with
    | none => rw [q] at h; cases h
    | some z => rw [q] at h; cases h; exact .inl ⟨z, rfl⟩
  · rw [List.getElem?_append_right (by rw [List.length_map]; omega), List.getElem?_replicate] at h
    split at h
    · cases h; exact .inr rfl
    · cases h
theorem fr_start {K : PySem.W.Frag} {L : Addr → Prop} {io : List Addr} {H : Hp} {S : Sto} {vs : List V} {l : List Dv} {N : List Str} (sr : SR K L io H S) (r : VRs K L io H vs l) : FR K L io H L io H (L2.start N vs) (startE N.length l) S where
  st := sr
  len := by
    unfold L2.start startE
    rw [List.length_append, List.length_append, List.length_map, List.length_map, List.length_replicate, List.length_replicate, r.len]
  va := fun i d h => r.map_get h
  ow := fun i m h => by rcases start_no h with ⟨d, z⟩ | z <;> cases z
  od := fun i m h => by rcases start_no h with ⟨d, z⟩ | z <;> cases z
  inj := fun i j p _ v1 _ n1 _ g1 _ => by
    cases h : (startE N.length l)[i]? with
    | none =>
      have h1 := List.getElem?_eq_none_iff.mp h
      have h2 := (List.getElem?_eq_some_iff.mp g1).1
      unfold L2.start at h2
      unfold startE at h1
      rw [List.length_append, List.length_map, List.length_replicate] at h1 h2
      rw [r.len] at h2
      omega
    | some s =>
      rcases start_no h with ⟨d, z⟩ | z
      · rw [z] at h; exact absurd h (v1 d)
      · rw [z] at h; exact absurd h n1
  en := Stp.refl ..
  sub0 := sr.sub
  dom0 := sr.dom
section
variable {P : Program} {w : World} {K : PySem.W.Frag} {mg : Str → Option Value} {base : Heap} {CX : CXT} {name qual : Str} {params : Arguments} {body : List Stmt} {scope : Scope} {dvs : List V} {kws : List (Str × V)} {f : Addr} {fd : FuncData} {N ps : List Str} {k : Nat} {fb : DS}
/-- what leaves the frame -/
theorem leave {L0 L : Addr → Prop} {io0 io : List Addr} {H0 H : Hp} {S : Sto} (sr : SR K L io H S) (s : Stp L0 io0 H0 L io H) (sub0 : ∀ a ∈ io0, L0 a) : Stp L0 io0 H0 (Lx L0 io) io H ∧ SR K (Lx L0 io) io H S ∧ (∀ a, Lx L0 io a → L a) := by
  have hl : ∀ a, Lx L0 io a → L a := fun a z => z.elim (s.up a) (sr.sub a)
  refine ⟨⟨s.pre, s.hn, fun a z => z.elim .inl fun z => (s.hn a z).elim (fun q => .inl (sub0 a q)) .inr, s.keep, fun a z => .inl z⟩, sr.less hl fun a z => .inr z, hl⟩
theorem fn_mk (F : FunD K name qual params body scope dvs kws f fd) (Sc : FnScope N ps scope)
    (hb : ∀ (cdv : Value) (A : Around) (outer : List PySem.Env) (s : Shared) (H : Hp) (E : XK), Room k (A.deeper (PyProof.Rows.envOfC qual scope s.heap.objs.size f cdv)) → QSs (cxOf CX P w K mg base N qual scope f cdv A outer s H E) (fun c d _ H => E c d H) body fb) :
    FnOk P w K mg base CX (k + 1) f fd ps (spD K (runF ps.length N.length fb)) := by
  refine F.ok Sc (fun vs H Q E h => ?_) fun cdv A outer s H vs Q E hr h => ⟨_, hb cdv A outer s H E hr, ?_⟩
  · obtain ⟨L, io, S, l, sr, r, h⟩ := h
    unfold runF at h
    by_cases hl : l.length = ps.length
    · rw [r.len, hl]
    · rw [if_neg hl] at h; exact h.elim
  · obtain ⟨L, io, S, l, sr, r, h⟩ := h
    unfold runF at h
    by_cases hl : l.length = ps.length
    · rw [if_pos hl] at h
      refine ⟨L, io, H, L, io, startE N.length l, S, fr_start sr r, ?_⟩
      show outR K _ L io H _ L io H (fb (startE N.length l) S)
      cases hf : fb (startE N.length l) S with
      | nx e S' =>
        rw [hf] at h
        intro g H' L' io' sw fr
        obtain ⟨s1, s2, s3⟩ := leave fr.st fr.en fr.sub0
        exact h .non H' io' s1 s2 .non
      | rt d S' =>
        rw [hf] at h
        intro v H' L' io' sr' s r'
        obtain ⟨s1, s2, s3⟩ := leave sr' s sr.sub
        exact h v H' io' s1 s2 (r'.less s3)
      | ex c fs e S' =>
        rw [hf] at h
        intro x g H' L' io' sw fr rx
        obtain ⟨s1, s2, s3⟩ := leave fr.st fr.en fr.sub0
        obtain ⟨a, vs', e1, e2, e3, e4⟩ := rx
        exact h x H' io' s1 s2 ⟨a, vs', e1, fun z => e2 (s3 a z), e3, e4.mono fun v d r => r.less s3⟩
      | _ => rw [hf] at h; exact h.elim
    · rw [if_neg hl] at h; exact h.elim
end
end DL

namespace DL
open PySem L2

/-! ### constants of the top -/
mutual
def litB (K : PySem.W.Frag) : Dv → Value → Bool
  | .non, .none => true
  | .bl b, .bool c => b == c
  | .int i, .int j _ => decide (i = j)
  | .str x, .str y _ => decide (x = y)
  | .tup l, .ref a => (match K.lookup a with
    | some ⟨.type c, _, .seq its _, _⟩ => decide (c = "tuple") && (decide (its.size ≤ sizeLine) && litsB K l its.toList)
    | _ => false)
  | .rol l, .ref a => (match K.lookup a with
    | some ⟨.type c, none, .seq its _, _⟩ => decide (c = "list") && (decide (its.size ≤ sizeLine) && litsB K l its.toList)
    | _ => false)
  | _, _ => false
def litsB (K : PySem.W.Frag) : List Dv → List Value → Bool
  | [], [] => true
  | d :: l, u :: us => litB K d u && litsB K l us
  | _, _ => false
end
mutual
theorem litB_ok {K : PySem.W.Frag} : ∀ (d : Dv) (u : Value), litB K d u = true → ∃ v, RelV v u ∧ ∀ L io H, VR K L io H v d
  | .non, .none, _ => ⟨.non, rfl, fun _ _ _ => .non⟩
  | .bl b, .bool c, h => by
    have e : b = c := eq_of_beq (show (b == c) = true from by simpa [litB] using h)
    subst e
    exact ⟨.bl b, rfl, fun _ _ _ => .bl b⟩
  | .int i, .int j t, h => by
    have e : i = j := by simpa [litB] using h
    subst e
    exact ⟨.int i, ⟨t, rfl⟩, fun _ _ _ => .int i⟩
  | .str i, .str j t, h => by
    have e : i = j := by simpa [litB] using h
    subst e
    exact ⟨.str i, ⟨t, rfl⟩, fun _ _ _ => .str i⟩
  | .tup l, .ref a, h => by
    unfold litB at h
    cases q : K.lookup a with
    | none => rw [q] at h; cases h
    | some o =>
      obtain ⟨oc, od, dt, osl⟩ := o
      rw [q] at h
      cases oc with
      | type c =>
        cases dt with
        | seq its n =>
          obtain ⟨h1, h2⟩ := He.ba (show (decide (c = "tuple") && (decide (its.size ≤ sizeLine) && litsB K l its.toList)) = true from h)
          obtain ⟨h3, h4⟩ := He.ba h2
          obtain ⟨vs, r1, r2⟩ := litsB_ok l _ h4
          exact ⟨.ref a, rfl, fun L io H => .tupK (fun H' => .inr ⟨_, its, n, q, congrArg Value.type (of_decide_eq_true h1), rfl, of_decide_eq_true h3, r1⟩) (r2 L io H)⟩
        | _ => cases h
      | _ => cases dt <;> cases h
  | .rol l, .ref a, h => by
    unfold litB at h
    cases q : K.lookup a with
    | none => rw [q] at h; cases h
    | some o =>
      obtain ⟨oc, od, dt, osl⟩ := o
      rw [q] at h
      cases oc with
      | type c =>
        cases od with
        | none =>
          cases dt with
          | seq its n =>
            obtain ⟨h1, h2⟩ := He.ba (show (decide (c = "list") && (decide (its.size ≤ sizeLine) && litsB K l its.toList)) = true from h)
            obtain ⟨h3, h4⟩ := He.ba h2
            obtain ⟨vs, r1, r2⟩ := litsB_ok l _ h4
            exact ⟨.ref a, rfl, fun L io H => .rolK (fun H' => .inr ⟨_, its, n, q, congrArg Value.type (of_decide_eq_true h1), rfl, rfl, of_decide_eq_true h3, r1⟩) (r2 L io H)⟩
          | _ => cases h
        | some z => cases dt <;> cases h
      | _ => cases od <;> cases dt <;> cases h
theorem litsB_ok {K : PySem.W.Frag} : ∀ (l : List Dv) (us : List Value), litsB K l us = true → ∃ vs, Vals vs us ∧ ∀ L io H, VRs K L io H vs l
  | [], [], _ => ⟨[], .nil, fun _ _ _ => .nil⟩
  | d :: l, u :: us, h => by
    obtain ⟨h1, h2⟩ := He.ba (show (litB K d u && litsB K l us) = true from by simpa [litsB] using h)
    obtain ⟨v, r1, r2⟩ := litB_ok d u h1
    obtain ⟨vs, r3, r4⟩ := litsB_ok l us h2
    exact ⟨v :: vs, .cons r1 r3, fun L io H => .cons (r2 L io H) (r4 L io H)⟩
end
/-- the module's name x is the constant d -/
def GlobC (K : PySem.W.Frag) (mg : Str → Option Value) (x : Str) (d : Dv) : Prop := ∃ u v, mg x = some u ∧ RelV v u ∧ ∀ L io H, VR K L io H v d
theorem qe_con {X : Cx} {W : WX} {pos : Pos} {x : Str} {d : Dv} (G : GlobC X.K X.mg x d) (hg : Gl X x := by rfl) (hd : (x == ("__debug__" : Str)) = false := by decide) : QE X W (.Name x pos) (eC d) := by
  obtain ⟨u, v, h1, h2, h3⟩ := G
  exact qe_glob h1 h2 h3 hg hd

/-! ### the head's facts -/
inductive Ft where
  | glo (x : Str) | free (x : Str) | con (x : Str) (d : Dv) | any (p : PySem.W.Frag → Bool)
def Ft.ok (K : PySem.W.Frag) : Ft → Bool
  | .glo x => (He.Fa.glo x).ok K
  | .free x => (He.Fa.free x).ok K
  | .con x d => (match PySem.W.nsIn K mainGlobals x with
    | some (some u) => litB K d u
    | _ => false)
  | .any p => p K
theorem con_ok {K : PySem.W.Frag} {h : Heap} {mg : Str → Option Value} (X : K.In h) (G : h.Ns mainGlobals mg) {x : Str} {d : Dv} (c : (Ft.con x d).ok K = true) : GlobC K mg x d := by
  have c2 : (match PySem.W.nsIn K mainGlobals x with
    | some (some u) => litB K d u
    | _ => false) = true := c
  cases e : PySem.W.nsIn K mainGlobals x with
  | none => rw [e] at c2; cases c2
  | some o =>
    rw [e] at c2
    cases o with
    | none => cases c2
    | some u =>
      obtain ⟨v, r1, r2⟩ := litB_ok d u c2
      exact ⟨u, v, PySem.W.mg_of X G e, r1, r2⟩
def obsM (fa : List Ft) (fn : List He.DefD) (K : PySem.W.Frag) : He.AlD := ((fa.all fun f => f.ok K) && fn.all fun d => d.ok K, fn.map fun d => He.fnW K d.at_)
def SaysM (fa : List Ft) (fn : List He.DefD) (K : PySem.W.Frag) : Prop := obsM fa fn K = He.valD fn
def obsMG (n : Nat) (fa : List Ft) (fn : List He.DefD) (g : Addr → Option Obj) : He.AlD := obsM fa fn (He.frG g (He.asD g n))
def hookM (n : Nat) (fa : List Ft) (fn : List He.DefD) : PySem.W.Hook where
  α := He.AlD
  obs := fun s => obsMG n fa fn s.heap.get?
  val := fun _ => He.valD fn
  says := fun _ h => ∃ K : PySem.W.Frag, K.In h ∧ SaysM fa fn K
  of := fun _ _ e => ⟨_, He.frG_in, e⟩
  keeps := fun _ _ _ ⟨K, hK, c⟩ k => ⟨K, PySem.W.Frag.In.keeps hK k, c⟩
theorem obsMG_eq {n : Nat} {fa : List Ft} {fn : List He.DefD} {g : Addr → Option Obj} {s : Shared} (h : ∀ a, g a = s.heap.get? a) : obsMG n fa fn g = (hookM n fa fn).obs s := by
  have e : g = s.heap.get? := funext h
  rw [e] <;> rfl
section
variable {fa : List Ft} {fn : List He.DefD} {K : PySem.W.Frag}
theorem SaysM.fact (c : SaysM fa fn K) (i : Nat) {f : Ft} (h : fa[i]? = some f := by rfl) : f.ok K = true := by
  have c1 := (He.ba (show ((fa.all fun f => f.ok K) && fn.all fun d => d.ok K) = true from congrArg (fun z : He.AlD => z.1) c)).1
  exact List.all_eq_true.mp c1 f (List.mem_of_getElem? h)
theorem SaysM.def_ (c : SaysM fa fn K) (i : Nat) {d : He.DefD} (h : fn[i]? = some d := by rfl) : ∃ fd, FunD K d.name d.qual d.params d.body d.scope (d.dvs K) (d.kws K) (He.fAd K d.at_) fd := by
  have c2 := (He.ba (show ((fa.all fun f => f.ok K) && fn.all fun d => d.ok K) = true from congrArg (fun z : He.AlD => z.1) c)).2
  have e : fn.map (fun d => He.fnW K d.at_) = fn.map He.DefD.val := congrArg (fun z : He.AlD => z.2) c
  have e2 : (fn.map fun d => He.fnW K d.at_)[i]? = (fn.map He.DefD.val)[i]? := by rw [e]
  rw [List.getElem?_map, List.getElem?_map, h] at e2
  exact He.DefD.funD (Option.some.inj e2) (List.all_eq_true.mp c2 d (List.mem_of_getElem? h))
end
/-- a def that raises nothing -/
def runF0 (np n : Nat) (fb : DS) : DF := fun S l => if l.length = np then (match fb (startE n l) S with
  | .rt d S' => .ok d S'
  | .nx _ S' => .ok .non S'
  | _ => .no) else .no
theorem fn_mk0 {P : Program} {w : World} {K : PySem.W.Frag} {mg : Str → Option Value} {base : Heap} {name qual : Str} {params : Arguments} {body : List Stmt} {scope : Scope} {dvs : List V} {kws : List (Str × V)} {f : Addr} {fd : FuncData} {N ps : List Str} {k : Nat} {fb : DS}
    (F : FunD K name qual params body scope dvs kws f fd) (Sc : FnScope N ps scope)
    (hb : ∀ (cdv : Value) (A : Around) (outer : List PySem.Env) (s : Shared) (H : Hp) (E : XK), Room k (A.deeper (PyProof.Rows.envOfC qual scope s.heap.objs.size f cdv)) → QSs (cxOf CX0 P w K mg base N qual scope f cdv A outer s H E).nox W0 body fb) :
    FnOk P w K mg base CX0 (k + 1) f fd ps (spD K (runF0 ps.length N.length fb)) := by
  refine F.ok Sc (fun vs H Q E h => ?_) fun cdv A outer s H vs Q E hr h => ⟨_, (hb cdv A outer s H E hr).nox, ?_⟩
  · obtain ⟨L, io, S, l, sr, r, h⟩ := h
    unfold runF0 at h
    by_cases hl : l.length = ps.length
    · rw [r.len, hl]
    · rw [if_neg hl] at h; exact h.elim
  · obtain ⟨L, io, S, l, sr, r, h⟩ := h
    unfold runF0 at h
    by_cases hl : l.length = ps.length
    · rw [if_pos hl] at h
      refine ⟨L, io, H, L, io, startE N.length l, S, fr_start sr r, ?_⟩
      show outR K _ L io H _ L io H (fb (startE N.length l) S)
      cases hf : fb (startE N.length l) S with
      | nx e S' =>
        rw [hf] at h
        intro g H' L' io' sw fr
        obtain ⟨s1, s2, s3⟩ := leave fr.st fr.en fr.sub0
        exact h .non H' io' s1 s2 .non
      | rt d S' =>
        rw [hf] at h
        intro v H' L' io' sr' s r'
        obtain ⟨s1, s2, s3⟩ := leave sr' s sr.sub
        exact h v H' io' s1 s2 (r'.less s3)
      | _ => rw [hf] at h; exact h.elim
    · rw [if_neg hl] at h; exact h.elim
/-- a def of the module, from its body's walk -/
theorem fd_mk {P : Program} {w : World} {K : PySem.W.Frag} {mg : Str → Option Value} {base : Heap} {CX : CXT} {x : Str} {st : Stmt} {fd : FuncData} {N ps : List Str} {k np n : Nat} {fb : DS} (F : FunD K x x (defArgs st) (defBody st) (defScope st) [] [] (He.ga K x) fd) (hm : mg x = some (.ref (He.ga K x)))
    (Sc : FnScope N ps (defScope st))
    (hbi : ∀ (kV doc pm : Value) (an : Option Addr) (cdv ct : Value) (us : List Value), us.length = ps.length → bindArgs (PySem.W.fnOf x x (defArgs st) (defBody st) (defScope st) .none kV doc pm an cdv ct) ⟨us, []⟩ = pure (ps.zip us))
    (hnp : ps.length = np) (hn : N.length = n)
    (hb : ∀ (cdv : Value) (A : Around) (outer : List PySem.Env) (s : Shared) (H : Hp) (E : XK), Room k (A.deeper (PyProof.Rows.envOfC x (defScope st) s.heap.objs.size (He.ga K x) cdv)) → QSs (cxOf CX P w K mg base N x (defScope st) (He.ga K x) cdv A outer s H E) (fun c d _ H => E c d H) (defBody st) fb) :
    FD P w K mg base CX (k + 1) x (runF np n fb) := by
  subst hnp hn
  exact ⟨_, fd, ps, fn_mk F Sc hb, hm, F.kp, F.bindsN hbi⟩
theorem fd_mk0 {P : Program} {w : World} {K : PySem.W.Frag} {mg : Str → Option Value} {base : Heap} {x : Str} {st : Stmt} {N ps : List Str} {k np n : Nat} {fb : DS} (F : ∃ fd, FunD K x x (defArgs st) (defBody st) (defScope st) [] [] (He.ga K x) fd) (hm : mg x = some (.ref (He.ga K x)))
    (Sc : FnScope N ps (defScope st))
    (hbi : ∀ (kV doc pm : Value) (an : Option Addr) (cdv ct : Value) (us : List Value), us.length = ps.length → bindArgs (PySem.W.fnOf x x (defArgs st) (defBody st) (defScope st) .none kV doc pm an cdv ct) ⟨us, []⟩ = pure (ps.zip us))
    (hnp : ps.length = np) (hn : N.length = n)
    (hb : ∀ (cdv : Value) (A : Around) (outer : List PySem.Env) (s : Shared) (H : Hp) (E : XK), Room k (A.deeper (PyProof.Rows.envOfC x (defScope st) s.heap.objs.size (He.ga K x) cdv)) → QSs (cxOf CX0 P w K mg base N x (defScope st) (He.ga K x) cdv A outer s H E).nox W0 (defBody st) fb) :
    FD P w K mg base CX0 (k + 1) x (runF0 np n fb) := by
  subst hnp hn
  obtain ⟨fd, F⟩ := F
  exact ⟨_, fd, ps, fn_mk0 F Sc hb, hm, F.kp, F.bindsN hbi⟩
/-- the law's end -/
theorem law_end {K : PySem.W.Frag} {g : DF} (h : ∀ ns : List Int, ns.length ≤ 63 → ∃ S, g [] [.rol (ns.map .int)] = .ok (.bl true) S) (H : Hp) (a : Addr) (ns : List Int) (hl : ns.length ≤ 63) (hS : SqL K H a (ns.map V.int)) : spD K g [.ref a] H (fun v _ => v = .bl true) fun _ _ _ => False := by
  obtain ⟨S, e⟩ := h ns hl
  have hv : ∀ ns : List Int, VRs K (fun _ => False) [] H (ns.map V.int) (ns.map Dv.int) := fun ns => by
    induction ns with
    | nil => exact .nil
    | cons n r ih => exact .cons (.int n) ih
  refine ⟨fun _ => False, [], [], [.rol (ns.map .int)], ⟨rfl, .nil, fun _ h => (nomatch h), fun _ h => h.elim, fun k a o h => by simp at h⟩, .cons ?_ .nil, ?_⟩
  · rcases hS with hS | hS
    · exact .rol (fun z => z) hS (hv ns)
    · exact .rolK (fun H' => .inr hS) (hv ns)
  · rw [e]
    intro v H' io' _ _ r
    cases r
    rfl
end DL

namespace DL
open PySem L2
theorem call_isiA {X : Cx} : CallR X (.builtin "isinstance") (rIsiA X.K) := CallR.or call_isi (CallR.or call_isiT call_isiK)
section
variable {X : Cx} {W : WX} {elt tg iter : Expr} {ifs : List Expr} {scope : Scope} {own : List (Str × Nat)} {pos spos py : Pos} {fi : DL} {gd : DG} {tt : DT} {te : DE} {y : Str}
/-- name = [..] -/
theorem qs_asgLc (hN' : X.N.Nodup) (i : Nat) (own : List (Str × Nat)) (hc : X.calm = true) (hN : X.N.Nodup) (hi : QI X W tg iter fi) (ok : BlkOk X.N X.env.scope scope own)
    (hg : ∀ (s : Shared) (H : Hp) (C : Addr) (cl : List (Str × Addr)) (fp : List Addr), QG (X.blk s H scope (compEnvC scope cl C X.env) fp) tg gd (own.map (·.2)))
    (ht : ∀ (s : Shared) (H : Hp) (C : Addr) (cl : List (Str × Addr)) (fp : List Addr), QTs (X.blk s H scope (compEnvC scope cl C X.env) fp) W0 ifs tt)
    (he : ∀ (s : Shared) (H : Hp) (C : Addr) (cl : List (Str × Addr)) (fp : List Addr), QE (X.blk s H scope (compEnvC scope cl C X.env) fp) W0 elt te)
    (hy : X.N[i]? = some y := by rfl) (hyl : X.env.scope.names.lookup y = some .local := by rfl)
    (hsw : swapsWith (.ListComp elt [⟨tg, iter, ifs, 0⟩] scope pos) (some (.Name y py)) spos.line X.env = pure true := by exact sw_true rfl rfl rfl (by decide +kernel)) (hs : ∀ x, foldedSetIterable iter X.env x = pure x := by intro _; rfl) :
    QS X W (.Assign [.Name y py] (.ListComp elt [⟨tg, iter, ifs, 0⟩] scope pos) spos) (sAsg i (eFrz (fLc fi gd tt te (own.map (·.2))))) :=
  ps_imp (ps_setLc (g := tgR X.K gd (own.map (·.2))) (tt := rdt X.K W0 tt) (te := rd X.K W0 te) hc hN hy hyl hsw hi ok (fun s H C cl fp => (hg s H C cl fp).canon) ht he hs) fun D g H h => by
    refine rd_lc tgR_ok (rd_frz ?_)
    exact rds_bind (R := VR X.K) (k := fun e d S => .nx (e.set i (.va d)) S) h fun L0 io0 H0 L io H1 e S d v fr r q => q _ H1 L io (Stw.refl ..) (fr.setV i r)
theorem qs_ownLc (hN' : X.N.Nodup) (i : Nat) (own : List (Str × Nat)) (hc : X.calm = true) (hN : X.N.Nodup) (hi : QI X W tg iter fi) (ok : BlkOk X.N X.env.scope scope own)
    (hg : ∀ (s : Shared) (H : Hp) (C : Addr) (cl : List (Str × Addr)) (fp : List Addr), QG (X.blk s H scope (compEnvC scope cl C X.env) fp) tg gd (own.map (·.2)))
    (ht : ∀ (s : Shared) (H : Hp) (C : Addr) (cl : List (Str × Addr)) (fp : List Addr), QTs (X.blk s H scope (compEnvC scope cl C X.env) fp) W0 ifs tt)
    (he : ∀ (s : Shared) (H : Hp) (C : Addr) (cl : List (Str × Addr)) (fp : List Addr), QE (X.blk s H scope (compEnvC scope cl C X.env) fp) W0 elt te)
    (hy : X.N[i]? = some y := by rfl) (hyl : X.env.scope.names.lookup y = some .local := by rfl)
    (hsw : swapsWith (.ListComp elt [⟨tg, iter, ifs, 0⟩] scope pos) (some (.Name y py)) spos.line X.env = pure true := by exact sw_true rfl rfl rfl (by decide +kernel)) (hs : ∀ x, foldedSetIterable iter X.env x = pure x := by intro _; rfl) :
    QS X W (.Assign [.Name y py] (.ListComp elt [⟨tg, iter, ifs, 0⟩] scope pos) spos) (sOwn i (fLc fi gd tt te (own.map (·.2)))) :=
  ps_imp (ps_setLc (g := tgR X.K gd (own.map (·.2))) (tt := rdt X.K W0 tt) (te := rd X.K W0 te) hc hN hy hyl hsw hi ok (fun s H C cl fp => (hg s H C cl fp).canon) ht he hs) fun D g H h => by
    refine rd_lc tgR_ok ?_
    exact rds_bindF (k := fun e l S => .nx (e.set i (.ow l)) S) h fun L0 io0 H0 L io L1 io1 H1 e S S1 l v fr s sr n q => q _ H1 L1 io1 (Stw.refl ..) (fr.setO s sr n i)
/-- -e -/
def negD : Dv → Sto → Res Dv
  | .int i, S => .ok (.int (-i)) S
  | _, _ => .no
def eNeg (f : DE) : DE := fun e S => bnd (f e S) negD
theorem qe_neg {a : Expr} {f : DE} (h : QE X W a f) : QE X W (.UnaryOp .USub a pos) (eNeg f) := pe_imp (pe_un un_neg h) fun g H Q q => by
  refine Rdg.bind (R := VR X.K) (k := fun _ => negD) q fun L0 io0 H0 L io H1 e S d v fr rv q => ?_
  cases rv with
  | int i => exact ⟨i, rfl, q.ok1 fr.st (.int _)⟩
  | _ => exact q.elim
end
end DL

namespace DL
open PySem L2

/-! ### keys and pairs -/
def keyD : Dv → Option Key
  | .int i => some (.inl i)
  | .str x => some (.inr x)
  | _ => none
def dV : Key → Dv
  | .inl i => .int i
  | .inr x => .str x
section
variable {K : PySem.W.Frag} {L L' : Addr → Prop} {io io' : List Addr} {H H' : Hp} {S : Sto}
theorem keyD_ok {v : V} {d : Dv} {k : Key} (r : VR K L io H v d) (h : keyD d = some k) : v = kV k := by
  cases r with
  | int i => cases h; rfl
  | str i => cases h; rfl
  | _ => cases h
theorem VR.key (k : Key) : VR K L io H (kV k) (dV k) := by
  cases k with
  | inl i => exact .int i
  | inr x => exact .str x
def valD (l : List (Key × Dv)) (k : Key) : Option Dv := (l.find? fun kv => decide (kv.1 = k)).map (·.2)
def putD (l : List (Key × Dv)) (k : Key) (d : Dv) : List (Key × Dv) := if (l.any fun kv => decide (kv.1 = k)) = true then l.map (fun kv => if kv.1 = k then (kv.1, d) else kv) else l ++ [(k, d)]
def dropD (l : List (Key × Dv)) (k : Key) : List (Key × Dv) := l.filter fun kv => decide (kv.1 ≠ k)
def mergeD (l more : List (Key × Dv)) : List (Key × Dv) := more.foldl (fun acc kv => putD acc kv.1 kv.2) l
theorem VRp.pair : ∀ {kvs : List (Key × V)} {l : List (Key × Dv)}, VRp K L io H kvs l → PairR (VR K L io H) kvs l
  | _, _, .nil => .nil
  | _, _, .cons h t => .cons ⟨rfl, h⟩ (VRp.pair t)
theorem PairR.vrp : ∀ {kvs : List (Key × V)} {l : List (Key × Dv)}, PairR (VR K L io H) kvs l → VRp K L io H kvs l
  | _, _, .nil => .nil
  | (k, v) :: _, (k', d) :: _, .cons ⟨h1, h2⟩ t => by
    cases (show k = k' from h1)
    exact .cons h2 (PairR.vrp t)
theorem PairR.val {R : V → Dv → Prop} : ∀ {kvs : List (Key × V)} {l : List (Key × Dv)} (k : Key), PairR R kvs l → (∀ d, valD l k = some d → ∃ v, valV kvs k = some v ∧ R v d) ∧ (valD l k = none → valV kvs k = none)
  | [], _, k, .nil => ⟨fun d h => (by simp [valD] at h), fun _ => rfl⟩
  | (k1, v) :: kvs, (k2, d) :: l, k, .cons ⟨h1, h2⟩ t => by
    cases (show k1 = k2 from h1)
    have ih := PairR.val k t
    unfold valD valV at ih ⊢
    by_cases e : k1 = k
    · subst e
      refine ⟨fun d' h => ?_, fun h => ?_⟩
      · simp at h; subst h; exact ⟨v, by simp, h2⟩
      · simp at h
    · rw [List.find?_cons, List.find?_cons]
      simp only [e, decide_false]
      exact ih
theorem PairR.any {R : V → Dv → Prop} (k : Key) : ∀ {kvs : List (Key × V)} {l : List (Key × Dv)}, PairR R kvs l → (kvs.any fun kv => decide (kv.1 = k)) = l.any fun kv => decide (kv.1 = k)
  | _, _, .nil => rfl
  | (k1, v) :: kvs, (k2, d) :: l, .cons ⟨h1, h2⟩ t => by
    cases (show k1 = k2 from h1)
    rw [List.any_cons, List.any_cons, PairR.any k t]
theorem PairR.app {R : V → Dv → Prop} : ∀ {kvs kvs' : List (Key × V)} {l l' : List (Key × Dv)}, PairR R kvs l → PairR R kvs' l' → PairR R (kvs ++ kvs') (l ++ l')
  | _, _, _, _, .nil, h => h
  | _, _, _, _, .cons h t, h2 => .cons h (PairR.app t h2)
theorem PairR.mapP {R : V → Dv → Prop} {k : Key} {v : V} {d : Dv} (h : R v d) : ∀ {kvs : List (Key × V)} {l : List (Key × Dv)}, PairR R kvs l → PairR R (kvs.map fun kv => if kv.1 = k then (kv.1, v) else kv) (l.map fun kv => if kv.1 = k then (kv.1, d) else kv)
  | _, _, .nil => .nil
  | (k1, v1) :: kvs, (k2, d1) :: l, .cons ⟨h1, h2⟩ t => by
    cases (show k1 = k2 from h1)
    rw [List.map_cons, List.map_cons]
    refine .cons ?_ (PairR.mapP h t)
    by_cases e : k1 = k
    · rw [if_pos e, if_pos e]; exact ⟨rfl, h⟩
    · rw [if_neg e, if_neg e]; exact ⟨rfl, h2⟩
theorem PairR.put {R : V → Dv → Prop} {k : Key} {v : V} {d : Dv} {kvs : List (Key × V)} {l : List (Key × Dv)} (r : PairR R kvs l) (h : R v d) : PairR R (putK kvs k v) (putD l k d) := by
  unfold putK putD
  rw [r.any k]
  split
  · exact r.mapP h
  · exact r.app (.cons ⟨rfl, h⟩ .nil)
theorem PairR.drop {R : V → Dv → Prop} (k : Key) : ∀ {kvs : List (Key × V)} {l : List (Key × Dv)}, PairR R kvs l → PairR R (dropK kvs k) (dropD l k)
  | _, _, .nil => .nil
  | (k1, v1) :: kvs, (k2, d1) :: l, .cons ⟨h1, h2⟩ t => by
    cases (show k1 = k2 from h1)
    have ih := PairR.drop k t
    unfold dropK dropD at ih ⊢
    rw [List.filter_cons, List.filter_cons]
    by_cases e : k1 = k
    · simp only [e, ne_eq, not_true, decide_false, Bool.false_eq_true, if_false]; exact ih
    · simp only [ne_eq, e, not_false_iff, decide_true, if_true]; exact .cons ⟨rfl, h2⟩ ih
theorem PairR.merge {R : V → Dv → Prop} : ∀ {more : List (Key × V)} {lm : List (Key × Dv)} {kvs : List (Key × V)} {l : List (Key × Dv)}, PairR R more lm → PairR R kvs l → PairR R (mergeK kvs more) (mergeD l lm)
  | _, _, _, _, .nil, h => h
  | (k1, v1) :: more, (k2, d1) :: lm, kvs, l, .cons ⟨h1, h2⟩ t, h => by
    cases (show k1 = k2 from h1)
    have h3 : PairR R (putK kvs k1 v1) (putD l k1 d1) := PairR.put h h2
    exact PairR.merge (kvs := putK kvs k1 v1) (l := putD l k1 d1) t h3
end

/-! ### new dicts -/
def NewD (K : PySem.W.Frag) (H : Hp) (L' : Addr → Prop) (io' : List Addr) (H' : Hp) (v : V) (l : List (Key × Dv)) : Prop := ∃ p kvs, v = .ref p ∧ H p = none ∧ L' p ∧ p ∉ io' ∧ H' p = some (.dK kvs) ∧ PairR (VR K L' io' H') kvs l
abbrev DD := Env → Sto → Res (List (Key × Dv))
def FinD (K : PySem.W.Frag) (W : WX) (g : St) (L : Addr → Prop) (io : List Addr) (H : Hp) (Q : V → Hp → Prop) : Res (List (Key × Dv)) → Prop
  | .ok d S' => ∀ (v : V) (H' : Hp) (L' : Addr → Prop) (io' : List Addr), Stp L io H L' io' H' → SR K L' io' H' S' → NewD K H L' io' H' v d → Q v H'
  | .ex c fs S' => ∀ (x : Option Addr) (H' : Hp) (L' : Addr → Prop) (io' : List Addr), Stp L io H L' io' H' → SR K L' io' H' S' → ExR K L' io' H' x fs → W (.ref (He.ga K c)) x g H'
  | .no => False
def rdD (K : PySem.W.Frag) (W : WX) (f : DD) : TE := fun g H Q => ∃ (L0 : Addr → Prop) (io0 : List Addr) (H0 : Hp) (L : Addr → Prop) (io : List Addr) (e : Env) (S : Sto), FR K L0 io0 H0 L io H g e S ∧ FinD K W g L io H Q (f e S)
abbrev QD (X : Cx) (W : WX) (e : Expr) (f : DD) : Prop := PE X e (rdD X.K W f)
def eFrzD (f : DD) : DE := fun e S => bnd (f e S) fun l S' => .ok (.dic l) S'
theorem rd_frzD {K : PySem.W.Frag} {W : WX} {f : DD} {g : St} {H : Hp} {Q : VK} (q : rd K W (eFrzD f) g H Q) : rdD K W f g H Q := by
  obtain ⟨L0, io0, H0, L, io, e, S, fr, q⟩ := q
  refine ⟨L0, io0, H0, L, io, e, S, fr, ?_⟩
  have q : Fin K W (VR K) g L io H Q (bnd (f e S) fun l S' => .ok (.dic l) S') := q
  cases hf : f e S with
  | no => rw [hf] at q; exact q
  | ex c fs S' => rw [hf] at q; exact q
  | ok l S' =>
    rw [hf] at q
    intro v H' L' io' s sr ⟨p, xs, hv, hp, lp, np, h1, h2⟩
    subst hv
    have hl : ∀ a, Lz L' p a → L' a := fun a z => z.1
    refine q _ H' (Lz L' p) io' ⟨s.pre, s.hn, fun a z => s.new a z.1, s.keep, fun a z => ⟨s.up a z, fun e => fr.st.dom a z (by rw [e]; exact hp)⟩⟩ (sr.less hl fun a ha => ⟨sr.sub a ha, fun e => np (by rw [← e]; exact ha)⟩) (.dic (fun z => z.2 rfl) h1 (h2.mono fun v d r => r.less hl).vrp)
theorem qe_frzD {X : Cx} {W : WX} {a : Expr} {f : DD} (h : QD X W a f) : QE X W a (eFrzD f) := pe_imp h fun g H Q q => rd_frzD q
/-- {} -/
def dNil : DD := fun _ S => .ok [] S
theorem qd_nil {X : Cx} {W : WX} {pos : Pos} : QD X W (.Dict [] [] pos) dNil := pe_imp pe_dnewK fun g H Q q => by
  obtain ⟨L0, io0, H0, L, io, e, S, fr, q⟩ := q
  intro p hp
  exact q _ _ (Ly L p) io (Stp.newV hp) (fr.st.newV hp) ⟨p, [], rfl, hp, .inr rfl, fun z => fr.st.dom p (fr.st.sub p z) hp, upd_same, .nil⟩
/-- {k: v, ..} -/
abbrev DP := Env → Sto → Res (List (Dv × Dv))
def pNil : DP := fun _ S => .ok [] S
def pCons (fk fv : DE) (fp : DP) : DP := fun e S => bnd (fk e S) fun k S1 => bnd (fv e S1) fun v S2 => bnd (fp e S2) fun l S3 => .ok ((k, v) :: l) S3
def PvR (K : PySem.W.Frag) (L : Addr → Prop) (io : List Addr) (H : Hp) : List (V × V) → List (Dv × Dv) → Prop := Paired fun p q => VR K L io H p.1 q.1 ∧ VR K L io H p.2 q.2
def QP (X : Cx) (W : WX) (pos : Pos) (ks : List (Option Expr)) (vs : List Expr) (f : DP) : Prop := ∃ trs, PPs X pos ks vs trs ∧ ∀ g H Q, Rdg X.K W (PvR X.K) f g H Q → tPairs trs g H Q
section
variable {X : Cx} {W : WX} {pos : Pos} {k v o i : Expr} {ks : List (Option Expr)} {vs : List Expr} {fk fv f f2 : DE} {fp : DP}
theorem qp_nil : QP X W pos [] [] pNil := ⟨[], pps_nil, fun g H Q q => by
  obtain ⟨L0, io0, H0, L, io, e, S, fr, q⟩ := q
  exact q.ok1 fr.st .nil⟩
theorem qp_cons (hk : QE X W k fk) (hv : QE X W v fv) (hr : QP X W pos ks vs fp) : QP X W pos (some k :: ks) (v :: vs) (pCons fk fv fp) := by
  obtain ⟨trs, p, o⟩ := hr
  refine ⟨(rd X.K W fk, rd X.K W fv) :: trs, pps_cons hk hv p, fun g H Q q => ?_⟩
  refine Rdg.bind (R := VR X.K) (k := fun e k S1 => bnd (fv e S1) fun v S2 => bnd (fp e S2) fun l S3 => .ok ((k, v) :: l) S3) q fun L0 io0 H0 L io H1 e S dk x fr rk q => ?_
  refine Fin.bind (R := VR X.K) (k := fun v S2 => bnd (fp e S2) fun l S3 => .ok ((dk, v) :: l) S3) fr q fun L2 io2 H2 S2 dv y s2 fr2 rv q => ?_
  refine o _ _ _ (Fin.bind (R := PvR X.K) (k := fun l S3 => .ok ((dk, dv) :: l) S3) fr2 q fun L3 io3 H3 S3 l w s3 fr3 rl q => ?_)
  exact q.ok1 fr3.st (.cons ⟨(rk.step s2 fr.st.sub).step s3 fr2.st.sub, rv.step s3 fr2.st.sub⟩ rl)
def keysD : List (Dv × Dv) → Option (List (Key × Dv))
  | [] => some []
  | (k, v) :: r => (keyD k).bind fun k' => (keysD r).map fun l => (k', v) :: l
theorem keysD_ok {K : PySem.W.Frag} {L : Addr → Prop} {io : List Addr} {H : Hp} : ∀ {ps : List (V × V)} {l : List (Dv × Dv)} {m : List (Key × Dv)}, PvR K L io H ps l → keysD l = some m → ∃ kvs : List (Key × V), ps = kvs.map (fun kv => (kV kv.1, kv.2)) ∧ PairR (VR K L io H) kvs m
  | _, _, _, .nil, h => by cases h; exact ⟨[], rfl, .nil⟩
  | (x, y) :: ps, (a, b) :: l, m, .cons ⟨h1, h2⟩ t, h => by
    simp only [keysD] at h
    cases hk : keyD a with
    | none => rw [hk] at h; cases h
    | some k =>
      rw [hk] at h
      obtain ⟨m', h3, rfl⟩ := map_ok h
      obtain ⟨kvs, e, r⟩ := keysD_ok t h3
      refine ⟨(k, y) :: kvs, ?_, .cons ⟨rfl, h2⟩ r⟩
      rw [List.map_cons, ← e, ← keyD_ok h1 hk]
def kDisp (l : List (Dv × Dv)) (S : Sto) : Res (List (Key × Dv)) := match keysD l with
  | some m => if m.length ≤ 15 then .ok (mergeD [] m) S else .no
  | none => .no
def dDisp (fp : DP) : DD := fun e S => bnd (fp e S) kDisp
theorem FinD.later {K : PySem.W.Frag} {g : St} {L L1 : Addr → Prop} {io io1 : List Addr} {H H1 : Hp} {S1 : Sto} {Q : V → Hp → Prop} {r : Res (List (Key × Dv))} (h : FinD K W g L io H Q r) (s : Stp L io H L1 io1 H1) (sub : ∀ x ∈ io, L x) (sr1 : SR K L1 io1 H1 S1) : FinD K W g L1 io1 H1 Q r := by
  cases r with
  | ok l S2 =>
    intro v H' L' io' s2 sr2 ⟨p, xs, e1, e2, e3⟩
    refine h v H' L' io' (s.trans s2 sub) sr2 ⟨p, xs, e1, ?_, e3⟩
    rcases s.back e2 with z | z
    · exact absurd e2 (sr1.dom p (s.up p (sub p z)))
    · exact z
  | ex c fs S2 => exact fun v H' L' io' s2 sr r2 => h v H' L' io' (s.trans s2 sub) sr r2
  | no => exact h
theorem qd_disp (h : QP X W pos ks vs fp) (hall : ks.all (·.isSome) = true := by rfl) (hl : ks.length = vs.length := by rfl) (h0 : ks ≠ [] := by exact fun z => nomatch z) (h15 : ks.length ≤ 15 := by decide) : QD X W (.Dict ks vs pos) (dDisp fp) := by
  obtain ⟨trs, p, o⟩ := h
  refine pe_imp (pe_disp p hall hl h0 h15) fun g H Q q => ?_
  obtain ⟨L0, io0, H0, L, io, e, S, fr, q⟩ := q
  intro p hp
  have s0 : Stp L io H (Ly L p) io (upd H p (.dK [])) := Stp.newV hp
  have sr0 := fr.st.newV (o := .dK []) hp
  have np : p ∉ io := fun z => fr.st.dom p (fr.st.sub p z) hp
  have q : FinD X.K W g L io H Q (bnd (fp e S) kDisp) := q
  refine o _ _ _ ⟨L0, io0, H0, Ly L p, io, e, S, fr.step s0 sr0, ?_⟩
  cases hf : fp e S with
  | no => rw [hf] at q; exact q
  | ex c fs S1 =>
    rw [hf] at q
    exact fun x H' L' io' s sr r => q x H' L' io' (s0.trans s fr.st.sub) sr r
  | ok l S1 =>
    rw [hf] at q
    intro ps H2 L2 io2 s2 sr2 r2
    have k2 : H2 p = some (.dK []) := s2.keep p _ upd_same np
    refine ⟨k2, ?_⟩
    have q : FinD X.K W g L io H Q (kDisp l S1) := q
    unfold kDisp at q
    cases hk : keysD l with
    | none => rw [hk] at q; exact q.elim
    | some m =>
      rw [hk] at q
      simp only at q
      split at q
      · rename_i hz
        obtain ⟨kvs, e1, e2⟩ := keysD_ok r2 hk
        have lp : L2 p := s2.up p (.inr rfl)
        have np2 : p ∉ io2 := fun z => by
          rcases s2.hn p z with w | w
          · exact np w
          · rw [upd_same] at w; cases w
        refine ⟨kvs, e1, by rw [PairR.len e2]; exact hz, ?_⟩
        have st : Stp L io H L2 io2 H2 := s0.trans s2 fr.st.sub
        exact q _ _ L2 io2 ⟨st.pre, st.hn, st.new, fun a u h n => by rw [upd_ne (ne_of_none h hp)]; exact st.keep a u h n, st.up⟩ (sr2.mut lp np2) ⟨p, _, rfl, hp, lp, np2, upd_same, (PairR.merge e2 .nil).mono fun v d r => r.mut lp⟩
      · exact q.elim
/-- d[k], of a frozen dict or a handle's -/
def asD (S : Sto) : Dv → Option (List (Key × Dv))
  | .dic l => some l
  | .hdl k => match S[k]? with
    | some (.dct l) => some l
    | _ => none
  | _ => none
theorem asD_ok {K : PySem.W.Frag} {L : Addr → Prop} {io : List Addr} {H : Hp} {S : Sto} {v : V} {d : Dv} {l : List (Key × Dv)} (s : SR K L io H S) (r : VR K L io H v d) (h : asD S d = some l) : ∃ a kvs, v = .ref a ∧ H a = some (.dK kvs) ∧ PairR (VR K L io H) kvs l := by
  cases r with
  | dic nl e t => cases h; exact ⟨_, _, rfl, e, t.pair⟩
  | hdl hk =>
    rename_i a k
    cases q : S[k]? with
    | none => simp [asD, q] at h
    | some o =>
      cases o with
      | dct l' =>
        simp [asD, q] at h
        subst h
        obtain ⟨xs, e, t⟩ := s.obj k a _ hk q
        exact ⟨a, xs, rfl, e, t⟩
      | _ => simp [asD, q] at h
  | _ => cases h
def dgetD (S : Sto) (d k : Dv) : Option (Dv × Sto) := (asD S d).bind fun l => (keyD k).bind fun k' => (valD l k').map fun x => (x, S)
theorem qe_dget {kk : Nat} (hr : Room kk X.A) (ho : QE X W o f) (hi : QE X W i f2) (hs : NoSl i := by exact fun _ _ => rfl) : QE X W (.Subscript o i pos) (eBin dgetD f f2) := pe_imp (pe_dget (hu_of hr) ho hi hs) fun g H Q q => by
  refine rd_bin (r := fun x y H Q => ∃ a v, x = .ref a ∧ DGet H a y (some v) ∧ Q v H) ?_ q
  intro L io H S x y a b d S' Q sr ra rb e q
  unfold dgetD at e
  cases h1 : asD S a with
  | none => rw [h1] at e; cases e
  | some l =>
    rw [h1] at e
    simp only [Option.bind_some] at e
    cases h2 : keyD b with
    | none => rw [h2] at e; cases e
    | some k =>
      rw [h2] at e
      obtain ⟨z, h3, h4⟩ := map_ok e
      cases h4
      obtain ⟨p, kvs, rfl, e1, e2⟩ := asD_ok sr ra h1
      obtain ⟨v, e3, e4⟩ := (e2.val k).1 _ h3
      refine ⟨p, v, rfl, ?_, q _ H L io (Stp.refl ..) sr e4⟩
      rw [keyD_ok rb h2, ← e3]
      exact DGet.k e1
end

/-! ### texts' methods -/
def MtS (K : PySem.W.Frag) (r : V → List V → Hp → VK → Prop) (h : Sto → Str → List Dv → Option (Dv × Sto)) : Prop :=
  ∀ (L : Addr → Prop) (io : List Addr) (H : Hp) (S : Sto) (z : Str) (vs : List V) (as : List Dv) (d : Dv) (S' : Sto) (Q : VK), SR K L io H S → VRs K L io H vs as → h S z as = some (d, S') →
    (∀ (v : V) (H' : Hp) (L' : Addr → Prop) (io' : List Addr), Stp L io H L' io' H' → SR K L' io' H' S' → VR K L' io' H' v d → Q v H') → r (.str z) vs H Q
def kStrM (h : Sto → Str → List Dv → Option (Dv × Sto)) (fa : DA) (e : Env) (d : Dv) (S : Sto) : Res Dv := match d with
  | .str z => bnd (fa e S) fun as S2 => ofO (h S2 z as)
  | _ => .no
def eStrM (h : Sto → Str → List Dv → Option (Dv × Sto)) (f : DE) (fa : DA) : DE := fun e S => bnd (f e S) (kStrM h fa e)
section
variable {X : Cx} {W : WX} {apos cpos : Pos} {o a : Expr} {es : List Expr} {f : DE} {fa : DA} {name : Str} {id : String} {r : V → List V → Hp → VK → Prop} {h : Sto → Str → List Dv → Option (Dv × Sto)}
theorem rd_strM {K : PySem.W.Frag} (hs : MtS K r h) {g : St} {H : Hp} {Q : VK} (q : rd K W (eStrM h f fa) g H Q) : tBM K "str" r (rd K W f) (rda K W fa) g H Q := by
  refine Rdg.bind (R := VR K) (k := kStrM h fa) q fun L0 io0 H0 L io H1 e S d v fr rv q => ?_
  cases rv with
  | str z =>
    refine ⟨rfl, ?_⟩
    refine Fin.bind (R := VRs K) (k := fun as S2 => ofO (h S2 z as)) fr q fun L2 io2 H2 S2 as vs s2 fr2 r2 q => ?_
    obtain ⟨d, S', h1, h2⟩ := q.opt
    exact hs L2 io2 H2 S2 z vs as d S' Q fr2.st r2 h1 h2
  | _ => exact q.elim
theorem qe_strM (slot : Slot "str" name id) (hty : typeOf (.builtin id) = pure (.type "method_descriptor")) (hm : MtR X id r) (hs : MtS X.K r h) (ho : QE X W o f) (ha : QA X W (a :: es) fa)
    (hbase : attributeBase o name X.env (eval o X.env) = eval o X.env := by rfl)
    (hfew : ((backTo cpos (starEach (a :: es) X.env)).all (fun x => !x.1) && (backToKw cpos (keywordEach [] X.env)).all (fun x => x.1.isSome)
      && decide ((a :: es).length + ([] : List Keyword).length + (if ([] : List Keyword).isEmpty then 0 else 1) < 30)) = true := by rfl)
    (hline : (apos.endLine == cpos.line) = true := by rfl) (hst : starEach (a :: es) X.env = (false, eval a X.env) :: starEach es X.env := by rfl) (hplain : (backTo cpos (starEach es X.env)).any (·.1) = false := by rfl) :
    QE X W (.Call (.Attribute o name apos) (a :: es) [] cpos) (eStrM h f fa) := pe_imp (pe_bm PySem.F.plainAttrs_str slot hty hm ho ha hbase hfew hline hst hplain) fun g H Q q => rd_strM hs q
end
def strsOf : List Dv → Option (List Str)
  | [] => some []
  | .str x :: r => (strsOf r).map fun l => x :: l
  | _ => none
theorem strsOf_ok {K : PySem.W.Frag} {L : Addr → Prop} {io : List Addr} {H : Hp} : ∀ {vs : List V} {l : List Dv} {ys : List Str}, VRs K L io H vs l → strsOf l = some ys → vs = ys.map V.str
  | _, _, _, .nil, h => by cases h; rfl
  | _, _, ys, .cons r t, h => by
    cases r with
    | str x =>
      simp only [strsOf] at h
      obtain ⟨m, h1, rfl⟩ := map_ok h
      rw [strsOf_ok t h1]
      rfl
    | _ => cases h
def joinD (S : Sto) (z : Str) (as : List Dv) : Option (Dv × Sto) := match as with
  | [d] => (asQ S d).bind fun l => (strsOf l).bind fun ys => if (ys.map (·.length)).sum + ys.length * z.length ≤ 16777216 then some (.str (Txt.join z ys), S) else none
  | _ => none
theorem mts_join {K : PySem.W.Frag} : MtS K (fun x xs H Q => ∃ a p, ∃ ys : List Str, x = .str a ∧ xs = [.ref p] ∧ (SqL K H p (ys.map V.str) ∨ SqT K H p (ys.map V.str)) ∧
    (ys.map (·.length)).sum + ys.length * a.length ≤ 16777216 ∧ Q (.str (Txt.join a ys)) H) joinD := by
  intro L io H S z vs as d S' Q sr rv e q
  cases rv with
  | nil => cases e
  | cons r t =>
    cases t with
    | cons => cases e
    | nil =>
      rename_i v dd
      simp only [joinD] at e
      cases h1 : asQ S dd with
      | none => rw [h1] at e; cases e
      | some l =>
        rw [h1] at e
        simp only [Option.bind_some] at e
        cases h2 : strsOf l with
        | none => rw [h2] at e; cases e
        | some ys =>
          rw [h2] at e
          simp only [Option.bind_some] at e
          split at e
          · rename_i hz
            cases e
            obtain ⟨p, xs, rfl, hs, t⟩ := asQ_ok sr r h1
            have ex := strsOf_ok t h2
            subst ex
            exact ⟨z, p, ys, rfl, rfl, hs, hz, q _ H L io (Stp.refl ..) sr (.str _)⟩
          · cases e
def splitD (S : Sto) (z : Str) (as : List Dv) : Option (Dv × Sto) := match as with
  | [.str y] => if (y.length == 0) = false ∧ z.length + 2 ≤ sizeLine then some (.lst ((Txt.split z y).map .str), S) else none
  | _ => none
theorem vrs_strs {K : PySem.W.Frag} {L : Addr → Prop} {io : List Addr} {H : Hp} : ∀ l : List Str, VRs K L io H (l.map V.str) (l.map Dv.str)
  | [] => .nil
  | x :: l => .cons (.str x) (vrs_strs l)
theorem mts_split {K : PySem.W.Frag} : MtS K (fun x xs H Q => ∃ a b, x = .str a ∧ xs = [.str b] ∧ (b.length == 0) = false ∧ a.length + 2 ≤ sizeLine ∧ rNewStrs (Txt.split a b) H Q) splitD := by
  intro L io H S z vs as d S' Q sr rv e q
  cases rv with
  | nil => cases e
  | cons r t =>
    cases t with
    | cons => simp [splitD] at e
    | nil =>
      cases r with
      | str y =>
        simp only [splitD] at e
        split at e
        · rename_i hz
          cases e
          exact ⟨z, y, rfl, rfl, hz.1, hz.2, fun p hp => q _ _ L io (Stp.alloc hp) (sr.alloc hp) (VR.newL sr hp (vrs_strs _))⟩
        · cases e
      | _ => cases e

/-! ### more of lists -/
def extD (l as : List Dv) : Option (List Dv × Dv) := match as with
  | [.lst m] => if l.length + m.length ≤ sizeLine then some (l ++ m, .non) else none
  | _ => none
theorem owns_ext {K : PySem.W.Frag} : OwnS K rExtend extD := by
  intro L io H S p xs l vs as l' d Q sr hp lp rx ra hh q
  cases ra with
  | nil => cases hh
  | cons r t =>
    cases t with
    | cons => simp [extD] at hh
    | nil =>
      cases r with
      | lst nl e rm =>
        simp only [extD] at hh
        split at hh
        · rename_i hl
          cases hh
          exact ⟨p, _, xs, _, rfl, rfl, hp, e, by rw [rx.len, rm.len]; exact hl, q _ _ (rx.app rm) .non⟩
        · cases hh
      | _ => cases hh
def insD (l as : List Dv) : Option (List Dv × Dv) := match as with
  | [.int i, d] => if l.length < sizeLine ∧ 0 ≤ i ∧ i < 2 ^ 63 then some (l.take i.toNat ++ [d] ++ l.drop i.toNat, .non) else none
  | _ => none
theorem owns_ins {K : PySem.W.Frag} : OwnS K (fun x vs H Q => ∃ (l : Addr) (xs : List V) (i : Int) (y : V), x = .ref l ∧ vs = [.int i, y] ∧ H l = some (.lst xs) ∧ xs.length < sizeLine ∧ 0 ≤ i ∧ i < 2 ^ 63 ∧
    Q .non (upd H l (.lst (xs.take i.toNat ++ [y] ++ xs.drop i.toNat)))) insD := by
  intro L io H S p xs l vs as l' d Q sr hp lp rx ra hh q
  cases ra with
  | nil => cases hh
  | cons r t =>
    cases t with
    | nil => simp [insD] at hh
    | cons r2 t2 =>
      cases t2 with
      | cons => simp [insD] at hh
      | nil =>
        cases r with
        | int i =>
          simp only [insD] at hh
          split at hh
          · rename_i hl
            cases hh
            exact ⟨p, xs, i, _, rfl, rfl, hp, by rw [rx.len]; exact hl.1, hl.2.1, hl.2.2, q _ _ (((rx.take _).app (.cons r2 .nil)).app (rx.drop _)) .non⟩
          · cases hh
        | _ => cases hh
/-- len(found), found the slot's own -/
def eLenO (i : Nat) : DE := fun e S => match e[i]? with
  | some (.ow l) => .ok (.int l.length) S
  | _ => .no
theorem qe_lenO {X : Cx} {W : WX} {p p2 pos : Pos} {x : Str} (i : Nat) (hm : X.mg "len" = none) (hN : X.N[i]? = some x := by rfl) (hv : Vis X.env.scope x := by first | exact Or.inl rfl | exact Or.inr (Or.inl rfl) | exact Or.inr (Or.inr rfl)) (hg : Gl X "len" := by rfl)
    (hd : (x == ("__debug__" : Str)) = false := by decide) (hcd : (x == ("__classdict__" : Str)) = false := by decide)
    (he : starEach [.Name x p2] X.env = [(false, eval (.Name x p2) X.env)] := by rfl) : QE X W (.Call (.Name "len" p) [.Name x p2] [] pos) (eLenO i) :=
  pe_imp (pe_callB call_len hg hm PySem.boot_len (pa_cons (pe_var hN hv hd hcd) pa_nil he)) fun g H Q q => by
    obtain ⟨L0, io0, H0, L, io, e, S, fr, q⟩ := q
    unfold eLenO at q
    cases h : e[i]? with
    | none => rw [h] at q; exact q.elim
    | some s =>
      cases s with
      | ow l =>
        rw [h] at q
        obtain ⟨a, xs, h1, h2, h3, h4, h5, h6⟩ := fr.ow i l h
        exact ⟨.ref a, h1, _, xs.length, rfl, .inl ⟨xs, SqL.of h5, rfl⟩, q _ H L io (Stp.refl ..) fr.st (by rw [h6.len]; exact .int _)⟩
      | _ => rw [h] at q; exact q.elim
/-- the slot's own list becomes a handle's -/
def sHdl (i : Nat) : DS := fun e S => match e[i]? with
  | some (.ow l) => .nx (e.set i (.va (.hdl S.length))) (S ++ [.lst l])
  | _ => .no
theorem qss_hdl {X : Cx} {W : WX} {sts : List Stmt} {f : DS} (i : Nat) (h : QSs X W sts f) : QSs X W sts (sSeq (sHdl i) f) := pss_imp h fun D g H h => by
  obtain ⟨L0, io0, H0, L, io, e, S, fr, h⟩ := h
  unfold sSeq sHdl at h
  cases q : e[i]? with
  | none => rw [q] at h; exact h.elim
  | some s =>
    cases s with
    | ow l =>
      rw [q] at h
      obtain ⟨p, xs, h1, h2, h3, h4, h5, h6⟩ := fr.ow i l q
      have sr2 := fr.st.addH h2 h3 h5 h6
      have hi : i < e.length := (List.getElem?_eq_some_iff.mp q).1
      have on : ∀ v d, VR X.K L io H v d → VR X.K L (io ++ [p]) H v d := fun v d r => VR.on (fun _ _ h => io_keep h) (fun a o e n => ⟨e, n⟩) r
      have ne : ∀ j a, j ≠ i → (∀ d, e[j]? ≠ some (.va d)) → e[j]? ≠ some .no → g[j]? = some (some (.ref a)) → a ≠ p := fun j a hj v1 v2 hg z => by
        subst z
        exact fr.inj i j a (fun z => hj z.symm) (by rw [q]; intro d z; cases z) v1 (by rw [q]; intro z; cases z) v2 h1 hg
      refine ⟨L0, io0, H0, L, io ++ [p], _, _, ?_, outR.later h ⟨⟨[p], rfl⟩, fun _ h => .inl h, fun _ _ h _ => h⟩⟩
      refine ⟨sr2, by rw [List.length_set]; exact fr.len, fun j d hj => ?_, fun j m hj => ?_, fun j m hj => ?_, fun j k a hjk v1 v2 n1 n2 g1 g2 => ?_, ⟨?_, fun x hx => ?_, fr.en.new, fr.en.keep, fr.en.up⟩, fr.sub0, fr.dom0⟩
      · rcases set_get hj with ⟨rfl, e1, e2⟩ | ⟨e1, e2⟩
        · cases e1
          exact ⟨.ref p, h1, .hdl (by rw [← fr.st.len]; simp)⟩
        · obtain ⟨v, r1, r2⟩ := fr.va j d e2
          exact ⟨v, r1, on _ _ r2⟩
      · rcases set_get hj with ⟨rfl, e1, e2⟩ | ⟨e1, e2⟩
        · cases e1
        · obtain ⟨a, ys, r1, r2, r3, r4, r5, r6⟩ := fr.ow j m e2
          refine ⟨a, ys, r1, r2, fun z => ?_, r4, r5, r6.mono on⟩
          rcases List.mem_append.mp z with z | z
          · exact r3 z
          · simp at z
            exact ne j a e1 (by rw [e2]; intro d z; cases z) (by rw [e2]; intro z; cases z) r1 z
      · rcases set_get hj with ⟨rfl, e1, e2⟩ | ⟨e1, e2⟩
        · cases e1
        · obtain ⟨a, ys, r1, r2, r3, r4, r5, r6⟩ := fr.od j m e2
          refine ⟨a, ys, r1, r2, fun z => ?_, r4, r5, r6.mono on⟩
          rcases List.mem_append.mp z with z | z
          · exact r3 z
          · simp at z
            exact ne j a e1 (by rw [e2]; intro d z; cases z) (by rw [e2]; intro z; cases z) r1 z
      · have hj : j ≠ i := fun z => by subst z; exact v1 _ (set_at hi)
        have hk : k ≠ i := fun z => by subst z; exact v2 _ (set_at hi)
        rw [set_ne hj] at v1 n1
        rw [set_ne hk] at v2 n2
        exact fr.inj j k a hjk v1 v2 n1 n2 g1 g2
      · obtain ⟨m, rfl⟩ := fr.en.pre
        exact ⟨m ++ [p], by simp⟩
      · rcases List.mem_append.mp hx with z | z
        · exact fr.en.hn x z
        · simp at z; subst z; exact .inr h4
    | _ => rw [q] at h; exact h.elim
end DL

namespace DL
open PySem L2
section
variable {α β : Type} (S S' : Sto) (e : Env) (d d1 d2 d3 : Dv) (l l' : List Dv) (f f1 f2 f3 fo fi fv : DE) (t t1 t2 : DT) (fa : DA) (fl : DL) (s s1 s2 : DS) (h2 : Sto → Dv → Dv → Option (Dv × Sto)) (hc : Sto → List Dv → Option (Dv × Sto)) (g : DF) (i j k : Nat) (b : Bool) (c : Str) (fs : List (Str × Dv)) (x : Option (Dv × Sto))
def kVar (S : Sto) : Option Sl → Res Dv
  | some (.va d) => .ok d S
  | _ => .no
@[simp] theorem ev_var : eVar i e S = kVar S (e[i]?) := rfl
@[simp] theorem kVar_va : kVar S (some (.va d)) = .ok d S := rfl
@[simp] theorem ev_c : eC d e S = .ok d S := rfl
@[simp] theorem ofO_none : (ofO none : Res α) = .no := rfl
@[simp] theorem bnd_no (k : α → Sto → Res β) : bnd .no k = .no := rfl
def kB1 (h : Sto → Dv → Dv → Option (Dv × Sto)) (f2 : DE) (e : Env) (a : Dv) (S : Sto) : Res Dv := bnd (f2 e S) fun b S2 => ofO (h S2 a b)
def kB2 (h : Sto → Dv → Dv → Option (Dv × Sto)) (a b : Dv) (S : Sto) : Res Dv := ofO (h S a b)
@[simp] theorem ev_bin : eBin h2 f1 f2 e S = bnd (f1 e S) (kB1 h2 f2 e) := rfl
@[simp] theorem ev_b1 : kB1 h2 f2 e d S = bnd (f2 e S) (kB2 h2 d) := rfl
@[simp] theorem ev_b2 : kB2 h2 d1 d2 S = ofO (h2 S d1 d2) := rfl
@[simp] theorem ev_tval : tVal f e S = bnd (f e S) blD := rfl
@[simp] theorem blD_bl : blD (.bl b) S = .ok b S := rfl
@[simp] theorem ev_ttru : tTru f e S = bnd (f e S) truR := rfl
def kTru (S : Sto) : Option Bool → Res Bool
  | some b => .ok b S
  | none => .no
@[simp] theorem ev_truR : truR d S = kTru S (truD S d) := by unfold truR; cases truD S d <;> rfl
@[simp] theorem kTru_some : kTru S (some b) = .ok b S := rfl
@[simp] theorem tru_bl : truD S (.bl b) = some b := rfl
@[simp] theorem tru_non : truD S .non = some false := rfl
@[simp] theorem tru_int (n : Int) : truD S (.int n) = some (n != 0) := rfl
@[simp] theorem tru_tup : truD S (.tup l) = some (!l.isEmpty) := rfl
@[simp] theorem tru_lst : truD S (.lst l) = some (!l.isEmpty) := rfl
@[simp] theorem tru_rol : truD S (.rol l) = some (!l.isEmpty) := rfl
def kAnd (t2 : DT) (e : Env) (b : Bool) (S : Sto) : Res Bool := if b then t2 e S else .ok false S
def kOr (t2 : DT) (e : Env) (b : Bool) (S : Sto) : Res Bool := if b then .ok true S else t2 e S
def kNot (b : Bool) (S : Sto) : Res Bool := .ok (!b) S
@[simp] theorem ev_tand : tAnd' t1 t2 e S = bnd (t1 e S) (kAnd t2 e) := rfl
@[simp] theorem ev_tor : tOr' t1 t2 e S = bnd (t1 e S) (kOr t2 e) := rfl
@[simp] theorem ev_tnot : tNot' t1 e S = bnd (t1 e S) kNot := rfl
@[simp] theorem kAnd_t : kAnd t2 e true S = t2 e S := rfl
@[simp] theorem kAnd_f : kAnd t2 e false S = .ok false S := rfl
@[simp] theorem kOr_t : kOr t2 e true S = .ok true S := rfl
@[simp] theorem kOr_f : kOr t2 e false S = t2 e S := rfl
@[simp] theorem kNot_v : kNot b S = .ok (!b) S := rfl
def kIf (f1 f2 : DE) (e : Env) (b : Bool) (S : Sto) : Res Dv := if b then f1 e S else f2 e S
@[simp] theorem ev_if : eIf t f1 f2 e S = bnd (t e S) (kIf f1 f2 e) := rfl
@[simp] theorem kIf_t : kIf f1 f2 e true S = f1 e S := rfl
@[simp] theorem kIf_f : kIf f1 f2 e false S = f2 e S := rfl
def kEAnd (f2 : DE) (e : Env) (a : Dv) (S : Sto) : Res Dv := bnd (truR a S) fun k S2 => if k then f2 e S2 else .ok a S2
def kEOr (f2 : DE) (e : Env) (a : Dv) (S : Sto) : Res Dv := bnd (truR a S) fun k S2 => if k then .ok a S2 else f2 e S2
def kENot (a : Dv) (S : Sto) : Res Dv := bnd (truR a S) fun k S2 => .ok (.bl (!k)) S2
def kEAnd2 (f2 : DE) (e : Env) (a : Dv) (k : Bool) (S : Sto) : Res Dv := if k then f2 e S else .ok a S
def kEOr2 (f2 : DE) (e : Env) (a : Dv) (k : Bool) (S : Sto) : Res Dv := if k then .ok a S else f2 e S
def kENot2 (k : Bool) (S : Sto) : Res Dv := .ok (.bl (!k)) S
@[simp] theorem ev_eand : eAnd f1 f2 e S = bnd (f1 e S) (kEAnd f2 e) := rfl
@[simp] theorem ev_eor : eOr f1 f2 e S = bnd (f1 e S) (kEOr f2 e) := rfl
@[simp] theorem ev_enot : eNot f1 e S = bnd (f1 e S) kENot := rfl
@[simp] theorem ev_keand : kEAnd f2 e d S = bnd (kTru S (truD S d)) (kEAnd2 f2 e d) := by unfold kEAnd; rw [ev_truR]; rfl
@[simp] theorem ev_keor : kEOr f2 e d S = bnd (kTru S (truD S d)) (kEOr2 f2 e d) := by unfold kEOr; rw [ev_truR]; rfl
@[simp] theorem ev_kenot : kENot d S = bnd (kTru S (truD S d)) kENot2 := by unfold kENot; rw [ev_truR]; rfl
@[simp] theorem kEAnd2_t : kEAnd2 f2 e d true S = f2 e S := rfl
@[simp] theorem kEAnd2_f : kEAnd2 f2 e d false S = .ok d S := rfl
@[simp] theorem kEOr2_t : kEOr2 f2 e d true S = .ok d S := rfl
@[simp] theorem kEOr2_f : kEOr2 f2 e d false S = f2 e S := rfl
@[simp] theorem kENot2_v : kENot2 b S = .ok (.bl (!b)) S := rfl
@[simp] theorem ev_anil : aNil e S = .ok [] S := rfl
def kA1 (fa : DA) (e : Env) (d : Dv) (S : Sto) : Res (List Dv) := bnd (fa e S) fun l S2 => .ok (d :: l) S2
def kA2 (d : Dv) (l : List Dv) (S : Sto) : Res (List Dv) := .ok (d :: l) S
@[simp] theorem ev_acons : aCons f fa e S = bnd (f e S) (kA1 fa e) := rfl
@[simp] theorem ev_a1 : kA1 fa e d S = bnd (fa e S) (kA2 d) := rfl
@[simp] theorem ev_a2 : kA2 d l S = .ok (d :: l) S := rfl
@[simp] theorem ev_tup : eTup fa e S = bnd (fa e S) tupR := rfl
@[simp] theorem ev_lst : eLst fa e S = bnd (fa e S) lstR := rfl
theorem line_le (n : Nat) (h : n ≤ 100000) : n ≤ sizeLine := Nat.le_trans h (by decide)
theorem line_lt (n : Nat) (h : n < 100000) : n < sizeLine := Nat.lt_of_lt_of_le h (by decide)
theorem tupR_ok (h : l.length ≤ sizeLine) : tupR l S = .ok (.tup l) S := if_pos h
theorem lstR_ok (h : l.length ≤ sizeLine) : lstR l S = .ok (.lst l) S := if_pos h
@[simp] theorem tupR0 : tupR [] S = .ok (.tup []) S := tupR_ok _ _ (line_le _ (by decide))
@[simp] theorem tupR1 (a1 : Dv) : tupR [a1] S = .ok (.tup [a1]) S := tupR_ok _ _ (line_le _ (by simp))
@[simp] theorem tupR2 (a1 a2 : Dv) : tupR [a1, a2] S = .ok (.tup [a1, a2]) S := tupR_ok _ _ (line_le _ (by simp))
@[simp] theorem tupR3 (a1 a2 a3 : Dv) : tupR [a1, a2, a3] S = .ok (.tup [a1, a2, a3]) S := tupR_ok _ _ (line_le _ (by simp))
@[simp] theorem tupR4 (a1 a2 a3 a4 : Dv) : tupR [a1, a2, a3, a4] S = .ok (.tup [a1, a2, a3, a4]) S := tupR_ok _ _ (line_le _ (by simp))
@[simp] theorem tupR5 (a1 a2 a3 a4 a5 : Dv) : tupR [a1, a2, a3, a4, a5] S = .ok (.tup [a1, a2, a3, a4, a5]) S := tupR_ok _ _ (line_le _ (by simp))
@[simp] theorem tupR6 (a1 a2 a3 a4 a5 a6 : Dv) : tupR [a1, a2, a3, a4, a5, a6] S = .ok (.tup [a1, a2, a3, a4, a5, a6]) S := tupR_ok _ _ (line_le _ (by simp))
def kCB (h : Sto → List Dv → Option (Dv × Sto)) (l : List Dv) (S : Sto) : Res Dv := ofO (h S l)
@[simp] theorem ev_cb : eCB hc fa e S = bnd (fa e S) (kCB hc) := rfl
@[simp] theorem ev_kcb : kCB hc l S = ofO (hc S l) := rfl
def kCall (g : DF) (l : List Dv) (S : Sto) : Res Dv := g S l
@[simp] theorem ev_call : eCall g fa e S = bnd (fa e S) (kCall g) := rfl
@[simp] theorem ev_kcall : kCall g l S = g S l := rfl
def kFrz (l : List Dv) (S : Sto) : Res Dv := .ok (.lst l) S
@[simp] theorem ev_frz : eFrz fl e S = bnd (fl e S) kFrz := rfl
@[simp] theorem ev_kfrz : kFrz l S = .ok (.lst l) S := rfl
def kLst (l : List Dv) (S : Sto) : Res (List Dv) := if l.length ≤ sizeLine then .ok l S else .no
@[simp] theorem ev_flst : fLst fa e S = bnd (fa e S) kLst := rfl
theorem kLst_ok (h : l.length ≤ sizeLine) : kLst l S = .ok l S := if_pos h
@[simp] theorem kLst0 : kLst [] S = .ok [] S := kLst_ok _ _ (line_le _ (by decide))
@[simp] theorem kLst1 (a1 : Dv) : kLst [a1] S = .ok [a1] S := kLst_ok _ _ (line_le _ (by simp))
@[simp] theorem kLst2 (a1 a2 : Dv) : kLst [a1, a2] S = .ok [a1, a2] S := kLst_ok _ _ (line_le _ (by simp))
@[simp] theorem kLst3 (a1 a2 a3 : Dv) : kLst [a1, a2, a3] S = .ok [a1, a2, a3] S := kLst_ok _ _ (line_le _ (by simp))
@[simp] theorem kLst4 (a1 a2 a3 a4 : Dv) : kLst [a1, a2, a3, a4] S = .ok [a1, a2, a3, a4] S := kLst_ok _ _ (line_le _ (by simp))
def kNew (l : List Dv) (S : Sto) : Res Dv := .ok (.hdl S.length) (S ++ [.lst l])
@[simp] theorem ev_new : eNew fl e S = bnd (fl e S) kNew := rfl
@[simp] theorem ev_knew : kNew l S = .ok (.hdl S.length) (S ++ [.lst l]) := rfl
@[simp] theorem ev_isq : iSq f e S = bnd (f e S) seqR := rfl
@[simp] theorem seqR_tup : seqR (.tup l) S = .ok l S := rfl
@[simp] theorem seqR_lst : seqR (.lst l) S = .ok l S := rfl
@[simp] theorem seqR_rol : seqR (.rol l) S = .ok l S := rfl
@[simp] theorem ev_rng1 : iRng1' fa e S = bnd (fa e S) rngR1 := rfl
@[simp] theorem ev_rng2 : iRng2' fa e S = bnd (fa e S) rngR2 := rfl
theorem rngR1_ok (n : Int) (h : 0 ≤ n ∧ n < 1000000000) : rngR1 [.int n] S = .ok (rngD 0 n.toNat) S := if_pos ⟨by omega, by omega⟩
theorem rngR2_ok (m n : Int) (h : 0 ≤ m ∧ m < 1000000000 ∧ -1000000000 < n ∧ n < 1000000000) : rngR2 [.int m, .int n] S = .ok (rngD m (n - m).toNat) S := if_pos ⟨by omega, by omega, by omega, by omega⟩
/-- comprehensions -/
def kLc (gd : DG) (tt : DT) (te : DE) (vs : List Nat) (e : Env) (ds : List Dv) (S : Sto) : Res (List Dv) := match lcR gd tt te (wipeE e vs) ds S with
  | .ok l S2 => if l.length ≤ sizeLine then .ok l S2 else .no
  | _ => .no
theorem ev_lc (gd : DG) (tt : DT) (te : DE) (vs : List Nat) : fLc fl gd tt te vs e S = bnd (fl e S) (kLc gd tt te vs e) := rfl
def kLcEnd : Res (List Dv) → Res (List Dv)
  | .ok l S2 => if l.length ≤ sizeLine then .ok l S2 else .no
  | _ => .no
@[simp] theorem ev_fLc (gd : DG) (tt : DT) (te : DE) (vs : List Nat) : fLc fl gd tt te vs e S = bnd (fl e S) (kLc gd tt te vs e) := rfl
@[simp] theorem ev_kLc (gd : DG) (tt : DT) (te : DE) (vs : List Nat) : kLc gd tt te vs e l S = kLcEnd (lcR gd tt te (wipeE e vs) l S) := by unfold kLc kLcEnd; rfl
theorem kLcEnd_ok (h : l.length ≤ sizeLine) : kLcEnd (.ok l S) = .ok l S := if_pos h
@[simp] theorem wipeE_nil : wipeE e [] = e := rfl
@[simp] theorem wipeE_cons (v : Nat) (vs : List Nat) : wipeE e (v :: vs) = (wipeE e vs).set v .no := rfl
@[simp] theorem ev_gN : gN i d e = some (e.set i (.va d)) := rfl
def kGs (gs : DGs) (r : List Dv) : Option Env → Option Env
  | some e => gs r e
  | none => none
@[simp] theorem ev_gT (gs : DGs) : gT gs (.tup l) e = gs l e := rfl
@[simp] theorem ev_gsNil : gsNil [] e = some e := rfl
@[simp] theorem ev_gsCons (gd : DG) (gs : DGs) : gsCons gd gs (d :: l) e = kGs gs l (gd d e) := by show (gd d e).bind (fun e' => gs l e') = _; cases gd d e <;> rfl
@[simp] theorem kGs_some (gs : DGs) : kGs gs l (some e) = gs l e := rfl
/-- statements -/
@[simp] theorem ev_snil : sNil e S = .nx e S := rfl
def kSeq (s2 : DS) : Out → Out
  | .nx e S => s2 e S
  | o => o
@[simp] theorem ev_seq : sSeq s1 s2 e S = kSeq s2 (s1 e S) := by unfold sSeq kSeq; cases s1 e S <;> rfl
@[simp] theorem kSeq_nx : kSeq s2 (.nx e S) = s2 e S := rfl
@[simp] theorem kSeq_rt : kSeq s2 (.rt d S) = .rt d S := rfl
@[simp] theorem kSeq_bk : kSeq s2 (.bk e S) = .bk e S := rfl
@[simp] theorem kSeq_ct : kSeq s2 (.ct e S) = .ct e S := rfl
@[simp] theorem kSeq_ex : kSeq s2 (.ex c fs e S) = .ex c fs e S := rfl
@[simp] theorem ev_retN : sRetN e S = .rt .non S := rfl
@[simp] theorem ev_brk : sBrk e S = .bk e S := rfl
@[simp] theorem ev_cnt : sCnt e S = .ct e S := rfl
def kS {α : Type} (k : Env → α → Sto → Out) (e : Env) : Res α → Out
  | .ok a S => k e a S
  | .ex c fs S => .ex c fs e S
  | .no => .no
theorem ev_sbind (f : Env → Sto → Res α) (k : Env → α → Sto → Out) : sBind f k e S = kS k e (f e S) := by unfold sBind kS; cases f e S <;> rfl
@[simp] theorem kS_ok (k : Env → α → Sto → Out) (a : α) : kS k e (.ok a S) = k e a S := rfl
@[simp] theorem kS_ex (k : Env → α → Sto → Out) : kS k e (.ex c fs S) = .ex c fs e S := rfl
def qRet (e : Env) (d : Dv) (S : Sto) : Out := .rt d S
@[simp] theorem ev_ret : sRet f e S = kS qRet e (f e S) := ev_sbind ..
@[simp] theorem ev_qret : qRet e d S = .rt d S := rfl
def qExpr (e : Env) (d : Dv) (S : Sto) : Out := .nx e S
@[simp] theorem ev_expr : sExpr f e S = kS qExpr e (f e S) := ev_sbind ..
@[simp] theorem ev_qexpr : qExpr e d S = .nx e S := rfl
def qIf (s1 s2 : DS) (e : Env) (b : Bool) (S : Sto) : Out := if b then s1 e S else s2 e S
@[simp] theorem ev_sif : sIf t s1 s2 e S = kS (qIf s1 s2) e (t e S) := ev_sbind ..
@[simp] theorem qIf_t : qIf s1 s2 e true S = s1 e S := rfl
@[simp] theorem qIf_f : qIf s1 s2 e false S = s2 e S := rfl
def qAsg (i : Nat) (e : Env) (d : Dv) (S : Sto) : Out := .nx (e.set i (.va d)) S
@[simp] theorem ev_asg : sAsg i f e S = kS (qAsg i) e (f e S) := ev_sbind ..
@[simp] theorem ev_qasg : qAsg i e d S = .nx (e.set i (.va d)) S := rfl
def kAsgG (S : Sto) : Option Env → Out
  | some e' => .nx e' S
  | none => .no
def qAsgG (gd : DG) (e : Env) (d : Dv) (S : Sto) : Out := kAsgG S (gd d e)
@[simp] theorem ev_asgG (gd : DG) : sAsgG gd f e S = kS (qAsgG gd) e (f e S) := by
  unfold sAsgG; rw [ev_sbind]; congr 1
@[simp] theorem ev_qasgG (gd : DG) : qAsgG gd e d S = kAsgG S (gd d e) := rfl
@[simp] theorem kAsgG_some : kAsgG S (some e) = .nx e S := rfl
def qPar (i j : Nat) (e : Env) (l : List Dv) (S : Sto) : Out := match l with
  | [d1, d2] => .nx ((e.set i (.va d1)).set j (.va d2)) S
  | _ => .no
@[simp] theorem ev_par : sPar i j fa e S = kS (qPar i j) e (fa e S) := ev_sbind ..
@[simp] theorem ev_qpar : qPar i j e [d1, d2] S = .nx ((e.set i (.va d1)).set j (.va d2)) S := rfl
def qPar3 (i j k : Nat) (e : Env) (l : List Dv) (S : Sto) : Out := match l with
  | [d1, d2, d3] => .nx (((e.set i (.va d1)).set j (.va d2)).set k (.va d3)) S
  | _ => .no
@[simp] theorem ev_par3 : sPar3 i j k fa e S = kS (qPar3 i j k) e (fa e S) := ev_sbind ..
@[simp] theorem ev_qpar3 : qPar3 i j k e [d1, d2, d3] S = .nx (((e.set i (.va d1)).set j (.va d2)).set k (.va d3)) S := rfl
def qOwn (i : Nat) (e : Env) (l : List Dv) (S : Sto) : Out := .nx (e.set i (.ow l)) S
@[simp] theorem ev_own : sOwn i fl e S = kS (qOwn i) e (fl e S) := ev_sbind ..
@[simp] theorem ev_qown : qOwn i e l S = .nx (e.set i (.ow l)) S := rfl
def qNew (i : Nat) (e : Env) (l : List Dv) (S : Sto) : Out := .nx (e.set i (.va (.hdl S.length))) (S ++ [.lst l])
@[simp] theorem ev_snew : sNew i fl e S = kS (qNew i) e (fl e S) := ev_sbind ..
@[simp] theorem ev_qnew : qNew i e l S = .nx (e.set i (.va (.hdl S.length))) (S ++ [.lst l]) := rfl
def kFz (i : Nat) (e : Env) (S : Sto) : Option Sl → Out
  | some (.ow l) => .nx (e.set i (.va (.lst l))) S
  | _ => .no
@[simp] theorem ev_sfrz : sFrz i e S = kFz i e S (e[i]?) := by unfold sFrz kFz; cases e[i]? with
  | none => rfl
  | some s => cases s <;> rfl
@[simp] theorem kFz_ow : kFz i e S (some (.ow l)) = .nx (e.set i (.va (.lst l))) S := rfl
def qFor (gd : DG) (s : DS) (e : Env) (l : List Dv) (S : Sto) : Out := forR gd s l e S
@[simp] theorem ev_for (gd : DG) : sFor fl gd s e S = kS (qFor gd s) e (fl e S) := ev_sbind ..
@[simp] theorem ev_qfor (gd : DG) : qFor gd s e l S = forR gd s l e S := rfl
def qOwnM (h : List Dv → List Dv → Option (List Dv × Dv)) (i : Nat) (l : List Dv) (e : Env) (as : List Dv) (S : Sto) : Out := match h l as with
  | some (l', _) => .nx (e.set i (.ow l')) S
  | none => .no
def kOwnM (h : List Dv → List Dv → Option (List Dv × Dv)) (i : Nat) (fa : DA) (e : Env) (S : Sto) : Option Sl → Out
  | some (.ow l) => kS (qOwnM h i l) e (fa e S)
  | _ => .no
@[simp] theorem ev_ownM (h : List Dv → List Dv → Option (List Dv × Dv)) : sOwnM h i fa e S = kOwnM h i fa e S (e[i]?) := by
  unfold sOwnM kOwnM
  cases e[i]? with
  | none => rfl
  | some s => cases s <;> first | rfl | exact ev_sbind ..
@[simp] theorem kOwnM_ow (h : List Dv → List Dv → Option (List Dv × Dv)) : kOwnM h i fa e S (some (.ow l)) = kS (qOwnM h i l) e (fa e S) := rfl
@[simp] theorem qOwnM_app (h : l.length < sizeLine) : qOwnM appD i l e [d] S = .nx (e.set i (.ow (l ++ [d]))) S := by unfold qOwnM appD; simp only [if_pos h]
/-- handles' lists -/
def kSet (e : Env) : Option Sto → Out
  | some S => .nx e S
  | none => .no
def qSet1 (fo fi : DE) (e : Env) (v : Dv) (S : Sto) : Out := sBind fo (fun e o S2 => sBind fi (fun e i S3 => match setD S3 o i v with
  | some S4 => .nx e S4
  | none => .no) e S2) e S
def qSet2 (fi : DE) (v : Dv) (e : Env) (o : Dv) (S : Sto) : Out := sBind fi (fun e i S3 => match setD S3 o i v with
  | some S4 => .nx e S4
  | none => .no) e S
def qSet3 (v o : Dv) (e : Env) (i : Dv) (S : Sto) : Out := kSet e (setD S o i v)
@[simp] theorem ev_setI : sSetI fo fi fv e S = kS (qSet1 fo fi) e (fv e S) := ev_sbind ..
@[simp] theorem ev_qset1 : qSet1 fo fi e d S = kS (qSet2 fi d) e (fo e S) := ev_sbind ..
@[simp] theorem ev_qset2 : qSet2 fi d e d1 S = kS (qSet3 d d1) e (fi e S) := by
  unfold qSet2; rw [ev_sbind]; congr 1
@[simp] theorem ev_qset3 : qSet3 d d1 e d2 S = kSet e (setD S d1 d2 d) := rfl
@[simp] theorem kSet_some : kSet e (some S) = .nx e S := rfl
def kSetH (S : Sto) (k : Nat) (n : Int) (v : Dv) : Option Ob → Option Sto
  | some (.lst l) => match ixN l.length n with
    | some j => some (S.set k (.lst (l.set j v)))
    | none => none
  | _ => none
@[simp] theorem ev_setD (n : Int) : setD S (.hdl k) (.int n) d = kSetH S k n d (S[k]?) := by
  simp only [setD]; unfold kSetH; generalize S[k]? = z; cases z with
  | none => rfl
  | some o => cases o <;> rfl
def kSetJ (S : Sto) (k : Nat) (l : List Dv) (v : Dv) : Option Nat → Option Sto
  | some j => some (S.set k (.lst (l.set j v)))
  | none => none
@[simp] theorem kSetH_lst (n : Int) : kSetH S k n d (some (.lst l)) = kSetJ S k l d (ixN l.length n) := by simp only [kSetH]; generalize ixN l.length n = z; cases z <;> rfl
@[simp] theorem kSetJ_some : kSetJ S k l d (some j) = some (S.set k (.lst (l.set j d))) := rfl
def qAug1 (op : Dv → Dv → Option Dv) (fi fv : DE) (e : Env) (o : Dv) (S : Sto) : Out := sBind fi (fun e i S2 => match ixL S2 o i with
  | some x => sBind fv (fun e y S3 => match op x y with
    | some z => (match setD S3 o i z with
      | some S4 => .nx e S4
      | none => .no)
    | none => .no) e S2
  | none => .no) e S
def kAug2 (op : Dv → Dv → Option Dv) (fv : DE) (o i : Dv) (e : Env) (S : Sto) : Option Dv → Out
  | some x => sBind fv (fun e y S3 => match op x y with
    | some z => (match setD S3 o i z with
      | some S4 => .nx e S4
      | none => .no)
    | none => .no) e S
  | none => .no
def qAug2 (op : Dv → Dv → Option Dv) (fv : DE) (o : Dv) (e : Env) (i : Dv) (S : Sto) : Out := kAug2 op fv o i e S (ixL S o i)
def kAug4 (o i : Dv) (e : Env) (S : Sto) : Option Dv → Out
  | some z => kSet e (setD S o i z)
  | none => .no
def qAug3 (op : Dv → Dv → Option Dv) (o i x : Dv) (e : Env) (y : Dv) (S : Sto) : Out := kAug4 o i e S (op x y)
@[simp] theorem ev_augI (op : Dv → Dv → Option Dv) : sAugI op fo fi fv e S = kS (qAug1 op fi fv) e (fo e S) := ev_sbind ..
@[simp] theorem ev_qaug1 (op : Dv → Dv → Option Dv) : qAug1 op fi fv e d S = kS (qAug2 op fv d) e (fi e S) := by
  unfold qAug1; rw [ev_sbind]; congr 1
@[simp] theorem ev_qaug2 (op : Dv → Dv → Option Dv) : qAug2 op fv d e d1 S = kAug2 op fv d d1 e S (ixL S d d1) := rfl
@[simp] theorem ev_kaug2 (op : Dv → Dv → Option Dv) : kAug2 op fv d d1 e S (some d2) = kS (qAug3 op d d1 d2) e (fv e S) := by
  unfold kAug2
  simp only
  rw [ev_sbind]; congr 1
@[simp] theorem ev_qaug3 (op : Dv → Dv → Option Dv) : qAug3 op d d1 d2 e d3 S = kAug4 d d1 e S (op d2 d3) := rfl
@[simp] theorem kAug4_some : kAug4 d d1 e S (some d2) = kSet e (setD S d d1 d2) := rfl
def kIxL (i : Int) : Option Ob → Option Dv
  | some (.lst l) => atI l i
  | _ => none
@[simp] theorem ixL_hdl (n : Int) : ixL S (.hdl k) (.int n) = kIxL n (S[k]?) := by
  simp only [ixL, asL]; unfold kIxL; generalize S[k]? = z; cases z with
  | none => rfl
  | some o => cases o <;> rfl
@[simp] theorem kIxL_lst (n : Int) : kIxL n (some (.lst l)) = atI l n := rfl
def qAug (op : Dv → Dv → Option Dv) (n : Nat) (x : Dv) (e : Env) (y : Dv) (S : Sto) : Out := match op x y with
  | some z => .nx (e.set n (.va z)) S
  | none => .no
def kAug (op : Dv → Dv → Option Dv) (n : Nat) (fv : DE) (e : Env) (S : Sto) : Option Sl → Out
  | some (.va x) => kS (qAug op n x) e (fv e S)
  | _ => .no
@[simp] theorem ev_aug (op : Dv → Dv → Option Dv) (n : Nat) : sAug op n fv e S = kAug op n fv e S (e[n]?) := by
  unfold sAug kAug
  cases e[n]? with
  | none => rfl
  | some s => cases s <;> first | rfl | exact ev_sbind ..
@[simp] theorem kAug_va (op : Dv → Dv → Option Dv) (n : Nat) : kAug op n fv e S (some (.va d)) = kS (qAug op n d) e (fv e S) := rfl
@[simp] theorem qAug_add (n : Nat) (p q : Int) : qAug addI n (.int p) e (.int q) S = .nx (e.set n (.va (.int (p + q)))) S := rfl
@[simp] theorem qAug_sub (n : Nat) (p q : Int) : qAug subI n (.int p) e (.int q) S = .nx (e.set n (.va (.int (p - q)))) S := rfl
@[simp] theorem addI_int (p q : Int) : addI (.int p) (.int q) = some (.int (p + q)) := rfl
@[simp] theorem subI_int (p q : Int) : subI (.int p) (.int q) = some (.int (p - q)) := rfl
/-- operators by data -/
@[simp] theorem op_sub_i (p q : Int) : pu2 subD S (.int p) (.int q) = some (.int (p - q), S) := rfl
theorem op_mul_i (p q : Int) (h : (-(2 ^ 64) < p ∧ p < 2 ^ 64) ∨ (-(2 ^ 64) < q ∧ q < 2 ^ 64)) : pu2 mulD S (.int p) (.int q) = some (.int (p * q), S) := by
  show (if _ then some (Dv.int (p * q)) else none).map _ = _
  rw [if_pos h]; rfl
theorem op_mod_i (p q : Int) (h : 0 < q) : pu2 modD S (.int p) (.int q) = some (.int (p % q), S) := by
  show (if _ then some (Dv.int (p % q)) else none).map _ = _
  rw [if_pos h]; rfl
theorem op_fdiv_i (p q : Int) (h : 0 < q ∧ q < 1073741824) : pu2 fdivD S (.int p) (.int q) = some (.int (p / q), S) := by
  show (if _ then some (Dv.int (p / q)) else none).map _ = _
  rw [if_pos h]; rfl
@[simp] theorem op_lt_i (p q : Int) : pu2 ltD S (.int p) (.int q) = some (.bl (decide (p < q)), S) := rfl
@[simp] theorem op_le_i (p q : Int) : pu2 leD S (.int p) (.int q) = some (.bl (decide (p ≤ q)), S) := rfl
@[simp] theorem op_gt_i (p q : Int) : pu2 gtD S (.int p) (.int q) = some (.bl (decide (q < p)), S) := rfl
@[simp] theorem op_ge_i (p q : Int) : pu2 geD S (.int p) (.int q) = some (.bl (decide (q ≤ p)), S) := rfl
@[simp] theorem op_add_i (p q : Int) : addD S (.int p) (.int q) = some (.int (p + q), S) := rfl
theorem op_add_s (p q : Str) (h : p.length + q.length ≤ sizeLine) : addD S (.str p) (.str q) = some (.str (p ++ q), S) := if_pos h
theorem op_add_t (h : l.length + l'.length ≤ sizeLine) : addD S (.tup l) (.tup l') = some (.tup (l ++ l'), S) := if_pos h
theorem op_add_l (h : l.length + l'.length ≤ sizeLine) : addD S (.lst l) (.lst l') = some (.lst (l ++ l'), S) := if_pos h
def kEq (S : Sto) : Option Bool → Option (Dv × Sto)
  | some b => some (.bl b, S)
  | none => none
def kNe (S : Sto) : Option Bool → Option (Dv × Sto)
  | some b => some (.bl (!b), S)
  | none => none
@[simp] theorem ev_eqE : eqE S d1 d2 = kEq S (eqD S d1 d2) := by unfold eqE kEq; cases eqD S d1 d2 <;> rfl
@[simp] theorem ev_neE : neE S d1 d2 = kNe S (eqD S d1 d2) := by unfold neE kNe; cases eqD S d1 d2 <;> rfl
@[simp] theorem kEq_some : kEq S (some b) = some (.bl b, S) := rfl
@[simp] theorem kNe_some : kNe S (some b) = some (.bl (!b), S) := rfl
@[simp] theorem eq_ss (p q : Str) : eqD S (.str p) (.str q) = some (decide (p = q)) := rfl
@[simp] theorem eq_ii (p q : Int) : eqD S (.int p) (.int q) = some (decide (p = q)) := rfl
@[simp] theorem eq_bb (p q : Bool) : eqD S (.bl p) (.bl q) = some (decide (p = q)) := rfl
@[simp] theorem eq_nn : eqD S .non .non = some true := rfl
@[simp] theorem eq_ni (p : Int) : eqD S .non (.int p) = some false := rfl
@[simp] theorem eq_in (p : Int) : eqD S (.int p) .non = some false := rfl
@[simp] theorem eq_ns (p : Str) : eqD S .non (.str p) = some false := rfl
@[simp] theorem eq_sn (p : Str) : eqD S (.str p) .non = some false := rfl
@[simp] theorem eq_si (p : Str) (q : Int) : eqD S (.str p) (.int q) = some false := rfl
@[simp] theorem eq_is (p : Str) (q : Int) : eqD S (.int q) (.str p) = some false := rfl
@[simp] theorem is_non : pu2 (isD false) S d .non = some (.bl (match d with | .non => true | _ => false), S) := by cases d <;> rfl
@[simp] theorem isnot_non : pu2 (isD true) S d .non = some (.bl (match d with | .non => false | _ => true), S) := by cases d <;> rfl
@[simp] theorem is_bb (p q : Bool) : pu2 (isD false) S (.bl p) (.bl q) = some (.bl (decide (p = q)), S) := rfl
@[simp] theorem len_tup : lenD S [.tup l] = some (.int l.length, S) := rfl
@[simp] theorem len_lst : lenD S [.lst l] = some (.int l.length, S) := rfl
@[simp] theorem len_rol : lenD S [.rol l] = some (.int l.length, S) := rfl
theorem len_str (z : Str) (h : z.length ≤ sizeLine) : lenD S [.str z] = some (.int z.length, S) := if_pos h
@[simp] theorem abs_int (p : Int) : absD S [.int p] = some (.int (if p < 0 then -p else p), S) := rfl
@[simp] theorem int_int (p : Int) : intD S [.int p] = some (.int p, S) := rfl
@[simp] theorem int_bl : intD S [.bl b] = some (.int (if b then 1 else 0), S) := rfl
@[simp] theorem list_tup : listD S [.tup l] = some (.lst l, S) := rfl
@[simp] theorem list_lst : listD S [.lst l] = some (.lst l, S) := rfl
@[simp] theorem tuple_tup : tupleD S [.tup l] = some (.tup l, S) := rfl
@[simp] theorem tuple_lst : tupleD S [.lst l] = some (.tup l, S) := rfl
def kIx (S : Sto) : Option Dv → Option (Dv × Sto)
  | some d => some (d, S)
  | none => none
@[simp] theorem kIx_some : kIx S (some d) = some (d, S) := rfl
@[simp] theorem ix_tup (n : Int) : ixD S (.tup l) (.int n) = kIx S (atI l n) := by show (atI l n).map _ = _; cases atI l n <;> rfl
@[simp] theorem ix_lst (n : Int) : ixD S (.lst l) (.int n) = kIx S (atI l n) := by show (atI l n).map _ = _; cases atI l n <;> rfl
@[simp] theorem ix_rol (n : Int) : ixD S (.rol l) (.int n) = kIx S (atI l n) := by show (atI l n).map _ = _; cases atI l n <;> rfl
@[simp] theorem ix_hdl (n : Int) : ixD S (.hdl k) (.int n) = kIx S (kIxL n (S[k]?)) := by
  simp only [ixD, asQ, asT, asL]; unfold kIxL; generalize S[k]? = z
  cases z with
  | none => rfl
  | some o => cases o with
    | lst l => simp only [Option.bind_some]; generalize atI l n = q; cases q <;> rfl
    | _ => rfl
@[simp] theorem atI_cons0 {γ : Type} (a : γ) (r : List γ) : atI (a :: r) 0 = some a := by unfold atI ixN; simp
theorem atI_nat' {γ : Type} (r : List γ) (m : Nat) : atI r (m : Int) = r[m]? := by
  unfold atI ixN
  rw [if_pos (by omega)]
  by_cases h : (m : Int) < r.length
  · rw [if_pos h]; simp
  · rw [if_neg h]; simp; omega
@[simp] theorem atI_lit1 {γ : Type} (r : List γ) : atI r 1 = r[1]? := atI_nat' r 1
@[simp] theorem atI_lit2 {γ : Type} (r : List γ) : atI r 2 = r[2]? := atI_nat' r 2
@[simp] theorem atI_lit3 {γ : Type} (r : List γ) : atI r 3 = r[3]? := atI_nat' r 3
@[simp] theorem atI_lit4 {γ : Type} (r : List γ) : atI r 4 = r[4]? := atI_nat' r 4
@[simp] theorem ixN_lit0 (m : Nat) : ixN (m + 1) 0 = some 0 := by unfold ixN; simp
theorem ixN_ok {m : Nat} {n : Int} (h0 : 0 ≤ n) (h1 : n < m) : ixN m n = some n.toNat := by unfold ixN; rw [if_pos h0, if_pos h1]
@[simp] theorem rngD_len (lo : Int) (n : Nat) : (rngD lo n).length = n := by unfold rngD; simp
def kNeg (d : Dv) (S : Sto) : Res Dv := negD d S
@[simp] theorem ev_neg : eNeg f e S = bnd (f e S) negD := rfl
@[simp] theorem negD_int (p : Int) : negD (.int p) S = .ok (.int (-p)) S := rfl
/-- a def is run -/
def kRun : Out → Res Dv
  | .rt d S' => .ok d S'
  | .nx _ S' => .ok .non S'
  | _ => .no
theorem ev_run0 (np n : Nat) (h : l.length = np) : runF0 np n s S l = kRun (s (startE n l) S) := by
  unfold runF0 kRun
  rw [if_pos h]
  try (cases s (startE n l) S <;> rfl)
@[simp] theorem kRun_rt : kRun (.rt d S) = .ok d S := rfl
@[simp] theorem kRun_nx : kRun (.nx e S) = .ok .non S := rfl
theorem startE1 (n : Nat) : startE (n + 1) [d] = .va d :: List.replicate n .no := rfl
/-- cuts, parts -/
@[simp] theorem ev_onone : oNone e S = .ok none S := rfl
@[simp] theorem ev_osome : oSome f e S = bnd (f e S) oInt := rfl
@[simp] theorem oInt_int (p : Int) : oInt (.int p) S = .ok (some p) S := rfl
def kCut1 (lo hi : DO) (e : Env) (d : Dv) (S : Sto) : Res Dv := bnd (lo e S) fun l S2 => bnd (hi e S2) fun h S3 => ofO (cutD S3 d l h)
def kCut2 (hi : DO) (e : Env) (d : Dv) (l : Option Int) (S : Sto) : Res Dv := bnd (hi e S) fun h S3 => ofO (cutD S3 d l h)
def kCut3 (d : Dv) (l h : Option Int) (S : Sto) : Res Dv := ofO (cutD S d l h)
@[simp] theorem ev_cut (lo hi : DO) : eCut f lo hi e S = bnd (f e S) (kCut1 lo hi e) := rfl
@[simp] theorem ev_cut1 (lo hi : DO) : kCut1 lo hi e d S = bnd (lo e S) (kCut2 hi e d) := rfl
@[simp] theorem ev_cut2 (hi : DO) (z : Option Int) : kCut2 hi e d z S = bnd (hi e S) (kCut3 d z) := rfl
@[simp] theorem ev_cut3 (y z : Option Int) : kCut3 d y z S = ofO (cutD S d y z) := rfl
@[simp] theorem cut_tup (y z : Option Int) : cutD S (.tup l) y z = some (.tup (cutG l y z), S) := rfl
@[simp] theorem cut_lst (y z : Option Int) : cutD S (.lst l) y z = some (.lst (cutG l y z), S) := rfl
@[simp] theorem cut_rol (y z : Option Int) : cutD S (.rol l) y z = some (.lst (cutG l y z), S) := rfl
/-- texts walked, dicts, texts' methods -/
@[simp] theorem seqR_str (z : Str) : seqR (.str z) S = .ok (strL z) S := rfl
def kFzD (m : List (Key × Dv)) (S : Sto) : Res Dv := .ok (.dic m) S
@[simp] theorem ev_frzD (fd : DD) : eFrzD fd e S = bnd (fd e S) kFzD := rfl
@[simp] theorem ev_kfzD (m : List (Key × Dv)) : kFzD m S = .ok (.dic m) S := rfl
@[simp] theorem ev_dnil : dNil e S = .ok [] S := rfl
@[simp] theorem ev_pnil : pNil e S = .ok [] S := rfl
def kP1 (fv : DE) (fp : DP) (e : Env) (k : Dv) (S : Sto) : Res (List (Dv × Dv)) := bnd (fv e S) fun v S2 => bnd (fp e S2) fun l S3 => .ok ((k, v) :: l) S3
def kP2 (fp : DP) (e : Env) (k v : Dv) (S : Sto) : Res (List (Dv × Dv)) := bnd (fp e S) fun l S3 => .ok ((k, v) :: l) S3
def kP3 (k v : Dv) (m : List (Dv × Dv)) (S : Sto) : Res (List (Dv × Dv)) := .ok ((k, v) :: m) S
@[simp] theorem ev_pcons (fp : DP) : pCons f1 f2 fp e S = bnd (f1 e S) (kP1 f2 fp e) := rfl
@[simp] theorem ev_p1 (fp : DP) : kP1 f2 fp e d S = bnd (f2 e S) (kP2 fp e d) := rfl
@[simp] theorem ev_p2 (fp : DP) : kP2 fp e d1 d2 S = bnd (fp e S) (kP3 d1 d2) := rfl
@[simp] theorem ev_p3 (m : List (Dv × Dv)) : kP3 d1 d2 m S = .ok ((d1, d2) :: m) S := rfl
@[simp] theorem ev_disp (fp : DP) : dDisp fp e S = bnd (fp e S) kDisp := rfl
def kStr2 (h : Sto → Str → List Dv → Option (Dv × Sto)) (z : Str) (l : List Dv) (S : Sto) : Res Dv := ofO (h S z l)
@[simp] theorem ev_strM (h : Sto → Str → List Dv → Option (Dv × Sto)) : eStrM h f fa e S = bnd (f e S) (kStrM h fa e) := rfl
@[simp] theorem ev_kstrM (h : Sto → Str → List Dv → Option (Dv × Sto)) (z : Str) : kStrM h fa e (.str z) S = bnd (fa e S) (kStr2 h z) := rfl
@[simp] theorem ev_kstr2 (h : Sto → Str → List Dv → Option (Dv × Sto)) (z : Str) : kStr2 h z l S = ofO (h S z l) := rfl
def kLenO (S : Sto) : Option Sl → Res Dv
  | some (.ow l) => .ok (.int l.length) S
  | _ => .no
@[simp] theorem ev_lenO : eLenO i e S = kLenO S (e[i]?) := by unfold eLenO kLenO; cases e[i]? with
  | none => rfl
  | some s => cases s <;> rfl
@[simp] theorem kLenO_ow : kLenO S (some (.ow l)) = .ok (.int l.length) S := rfl
def kHd (i : Nat) (e : Env) (S : Sto) : Option Sl → Out
  | some (.ow l) => .nx (e.set i (.va (.hdl S.length))) (S ++ [.lst l])
  | _ => .no
@[simp] theorem ev_shdl : sHdl i e S = kHd i e S (e[i]?) := by unfold sHdl kHd; cases e[i]? with
  | none => rfl
  | some s => cases s <;> rfl
@[simp] theorem kHd_ow : kHd i e S (some (.ow l)) = .nx (e.set i (.va (.hdl S.length))) (S ++ [.lst l]) := rfl
theorem qOwnM_ins (n : Int) (h : l.length < sizeLine ∧ 0 ≤ n ∧ n < 2 ^ 63) : qOwnM insD i l e [.int n, d] S = .nx (e.set i (.ow (l.take n.toNat ++ [d] ++ l.drop n.toNat))) S := by unfold qOwnM insD; simp only [if_pos h]
theorem qOwnM_ext (h : l.length + l'.length ≤ sizeLine) : qOwnM extD i l e [.lst l'] S = .nx (e.set i (.ow (l ++ l'))) S := by unfold qOwnM extD; simp only [if_pos h]
def kHM1 (h : List Dv → List Dv → Option (List Dv × Dv)) (fa : DA) (e : Env) (o : Dv) (S : Sto) : Res Dv := if lstHd S o then bnd (fa e S) fun as S2 => hdlM h S2 o as else .no
def kHM2 (h : List Dv → List Dv → Option (List Dv × Dv)) (o : Dv) (as : List Dv) (S : Sto) : Res Dv := hdlM h S o as
def kHM3 (h : List Dv → List Dv → Option (List Dv × Dv)) (fa : DA) (e : Env) (o : Dv) (S : Sto) (b : Bool) : Res Dv := if b then bnd (fa e S) (kHM2 h o) else .no
@[simp] theorem ev_hdlM (h : List Dv → List Dv → Option (List Dv × Dv)) : eHdlM h f fa e S = bnd (f e S) (kHM1 h fa e) := rfl
@[simp] theorem ev_khm1 (h : List Dv → List Dv → Option (List Dv × Dv)) : kHM1 h fa e d S = kHM3 h fa e d S (lstHd S d) := rfl
@[simp] theorem ev_khm3 (h : List Dv → List Dv → Option (List Dv × Dv)) : kHM3 h fa e d S true = bnd (fa e S) (kHM2 h d) := rfl
@[simp] theorem ev_khm2 (h : List Dv → List Dv → Option (List Dv × Dv)) : kHM2 h d l S = hdlM h S d l := rfl
def kLh : Option Ob → Bool
  | some (.lst _) => true
  | _ => false
@[simp] theorem lstHd_hdl : lstHd S (.hdl k) = kLh (S[k]?) := by simp only [lstHd]; unfold kLh; generalize S[k]? = z; cases z with
  | none => rfl
  | some o => cases o <;> rfl
@[simp] theorem kLh_lst : kLh (some (.lst l)) = true := rfl
theorem hdlM_app (h1 : S[k]? = some (.lst l)) (h2 : l.length < sizeLine) : hdlM appD S (.hdl k) [d] = .ok .non (S.set k (.lst (l ++ [d]))) := by simp only [hdlM, h1, appD, if_pos h2]
end
end DL

namespace DL
open PySem L2
def c_POWERS : Dv := (.tup [(.str "quiet"), (.str "shown"), (.str "fails"), (.str "turns"), (.str "free")])
def fb_is_at_most : DS := (sSeq (sIf (tOr' (tVal (eBin eqE (eVar 0) (eVar 1))) (tOr' (tVal (eBin eqE (eVar 0) (eC (.str "quiet")))) (tVal (eBin eqE (eVar 1) (eC (.str "free")))))) (sRet (eC (.bl true))) sNil) (sRet (eAnd (eBin eqE (eVar 0) (eC (.str "shown"))) (eBin neE (eVar 1) (eC (.str "quiet"))))))
def g_is_at_most : DF := runF0 2 2 fb_is_at_most
def fb_meet_of : DS := (sSeq (sIf (tTru (eCall g_is_at_most (aCons (eVar 0) (aCons (eVar 1) aNil)))) (sRet (eVar 0)) sNil) (sSeq (sIf (tTru (eCall g_is_at_most (aCons (eVar 1) (aCons (eVar 0) aNil)))) (sRet (eVar 1)) sNil) (sRet (eC (.str "shown")))))
def g_meet_of : DF := runF0 2 2 fb_meet_of
def fb_join_of : DS := (sSeq (sIf (tTru (eCall g_is_at_most (aCons (eVar 0) (aCons (eVar 1) aNil)))) (sRet (eVar 1)) sNil) (sSeq (sIf (tTru (eCall g_is_at_most (aCons (eVar 1) (aCons (eVar 0) aNil)))) (sRet (eVar 0)) sNil) (sRet (eC (.str "free")))))
def g_join_of : DF := runF0 2 2 fb_join_of
def fb_covers_l0 : DS := (sIf (tVal (eBin eqE (eFrz (fLc (iSq (eVar 1)) (gN 4) (tAnd' (tVal (eBin neE (eVar 4) (eVar 3))) (tTru (eCall g_is_at_most (aCons (eVar 3) (aCons (eVar 4) aNil))))) (eVar 4) [4])) (eFrz (fLst aNil)))) (sOwnM appD 2 (aCons (eVar 3) aNil)) sNil)
def fb_covers : DS := (sSeq (sAsg 1 (eFrz (fLc (iSq (eC c_POWERS)) (gN 3) (tAnd' (tVal (eBin neE (eVar 3) (eVar 0))) (tTru (eCall g_is_at_most (aCons (eVar 3) (aCons (eVar 0) aNil))))) (eVar 3) [3]))) (sSeq (sOwn 2 (fLst aNil)) (sSeq (sFor (iSq (eVar 1)) (gN 3) fb_covers_l0) (sSeq (sHdl 2) (sRet (eVar 2))))))
def g_covers : DF := runF0 1 5 fb_covers
def fb_bag : DS := (sRet (eNew (fLst (aCons (eC (.int 0)) (aCons (eC (.int 1234567891)) (aCons (eC (.int 0)) (aCons (eFrz (fLc (iSq (eCut (eVar 0) oNone (oSome (eC (.int 63))))) (gN 1) tTrue (eCB absD (aCons (eVar 1) aNil)) [1])) aNil)))))))
def g_bag : DF := runF0 1 2 fb_bag
def fb_take : DS := (sSeq (sIf (tVal (eBin eqE (eBin ixD (eVar 0) (eC (.int 0))) (eC (.int 0)))) (sSeq (sAsg 2 (eC (.int 0))) (sSeq (sIf (tVal (eBin (pu2 ltD) (eBin ixD (eVar 0) (eC (.int 2))) (eCB lenD (aCons (eBin ixD (eVar 0) (eC (.int 3))) aNil)))) (sAsg 2 (eBin ixD (eBin ixD (eVar 0) (eC (.int 3))) (eBin ixD (eVar 0) (eC (.int 2))))) sNil) (sSeq (sAugI addI (eVar 0) (eC (.int 2)) (eC (.int 1))) (sSeq (sIf (tVal (eBin (pu2 geD) (eVar 2) (eC (.int 1000000000000000000)))) (sSetI (eVar 0) (eC (.int 0)) (eVar 2)) sNil) (sSeq (sAsg 3 (eBin addD (eBin addD (eBin (pu2 mulD) (eBin ixD (eVar 0) (eC (.int 1))) (eC (.int 48271))) (eBin (pu2 modD) (eCB intD (aCons (eVar 2) aNil)) (eC (.int 2147483647)))) (eBin (pu2 mulD) (eC (.int 7919)) (eBin ixD (eVar 0) (eC (.int 2)))))) (sSetI (eVar 0) (eC (.int 1)) (eBin (pu2 modD) (eCB intD (aCons (eVar 3) aNil)) (eC (.int 2147483647))))))))) sNil) (sSeq (sIf (tVal (eBin (pu2 gtD) (eBin ixD (eVar 0) (eC (.int 0))) (eC (.int 0)))) (sSeq (sAsg 4 (eBin (pu2 modD) (eCB intD (aCons (eBin ixD (eVar 0) (eC (.int 0))) aNil)) (eVar 1))) (sSeq (sSetI (eVar 0) (eC (.int 0)) (eBin (pu2 fdivD) (eCB intD (aCons (eBin ixD (eVar 0) (eC (.int 0))) aNil)) (eVar 1))) (sRet (eVar 4)))) sNil) (sSeq (sAsg 5 (eBin (pu2 modD) (eCB intD (aCons (eBin (pu2 mulD) (eBin addD (eBin ixD (eVar 0) (eC (.int 1))) (eC (.int 1))) (eC (.int 39373))) aNil)) (eC (.int 1000000007)))) (sSeq (sAsg 6 (eBin (pu2 modD) (eCB intD (aCons (eBin (pu2 mulD) (eBin (pu2 modD) (eCB intD (aCons (eBin (pu2 mulD) (eVar 5) (eVar 5)) aNil)) (eC (.int 998244353))) (eC (.int 30011))) aNil)) (eC (.int 998244353)))) (sRet (eBin (pu2 modD) (eCB intD (aCons (eBin (pu2 fdivD) (eVar 6) (eC (.int 7))) aNil)) (eVar 1)))))))
def g_take : DF := runF0 2 7 fb_take
def fb_mixed_l0 : DS := (sOwnM insD 2 (aCons (eCall g_take (aCons (eVar 0) (aCons (eBin addD (eLenO 2) (eC (.int 1))) aNil))) (aCons (eVar 3) aNil)))
def fb_mixed : DS := (sSeq (sOwn 2 (fLst aNil)) (sSeq (sFor (iSq (eVar 1)) (gN 3) fb_mixed_l0) (sSeq (sFrz 2) (sRet (eVar 2)))))
def g_mixed : DF := runF0 2 4 fb_mixed
def fb_truth : DS := (sRet (eAnd (eOr (eBin (pu2 (isD false)) (eVar 0) (eC (.bl true))) (eBin (pu2 (isD false)) (eVar 0) (eC (.bl false)))) (eBin eqE (eVar 0) (eVar 1))))
def g_truth : DF := runF0 2 2 fb_truth
def fb_set : DS := (sRet (eBin dgetD (eFrzD (dDisp (pCons (eC (.str "quiet")) (eC (.str "")) (pCons (eC (.str "shown")) (eC (.str "s")) (pCons (eC (.str "fails")) (eC (.str "sf")) (pCons (eC (.str "turns")) (eC (.str "st")) (pCons (eC (.str "free")) (eC (.str "sft")) pNil))))))) (eVar 0)))
def g_set : DF := runF0 1 1 fb_set
def fb_within : DS := (sRet (eBin eqE (eFrz (fLc (iSq (eCall g_set (aCons (eVar 0) aNil))) (gN 2) (tVal (eBin (inD true) (eVar 2) (eCall g_set (aCons (eVar 1) aNil)))) (eVar 2) [2])) (eFrz (fLst aNil))))
def g_within : DF := runF0 2 3 fb_within
def fb_power : DS := (sSeq (sAsg 1 (eStrM joinD (eC (.str "")) (aCons (eFrz (fLc (iSq (eC (.str "sft"))) (gN 2) (tVal (eBin (inD false) (eVar 2) (eVar 0))) (eVar 2) [2])) aNil))) (sRet (eBin dgetD (eFrzD (dDisp (pCons (eC (.str "")) (eC (.str "quiet")) (pCons (eC (.str "s")) (eC (.str "shown")) (pCons (eC (.str "sf")) (eC (.str "fails")) (pCons (eC (.str "st")) (eC (.str "turns")) (pCons (eC (.str "sft")) (eC (.str "free")) pNil))))))) (eVar 1))))
def g_power : DF := runF0 1 3 fb_power
def fb_pair : DS := (sSeq (sAsgG (gT (gsCons (gN 2) (gsCons (gN 3) gsNil))) (eTup (aCons (eCall g_set (aCons (eVar 0) aNil)) (aCons (eCall g_set (aCons (eVar 1) aNil)) aNil)))) (sSeq (sAsg 4 (eFrz (fLc (iSq (eVar 2)) (gN 5) (tVal (eBin (inD false) (eVar 5) (eVar 3))) (eVar 5) [5]))) (sSeq (sIf (tNot' (tTru (eCall g_truth (aCons (eCall g_is_at_most (aCons (eVar 0) (aCons (eVar 1) aNil))) (aCons (eCall g_within (aCons (eVar 0) (aCons (eVar 1) aNil))) aNil))))) (sRet (eC (.bl false))) sNil) (sRet (eAnd (eBin eqE (eCall g_meet_of (aCons (eVar 0) (aCons (eVar 1) aNil))) (eCall g_power (aCons (eVar 4) aNil))) (eBin eqE (eCall g_join_of (aCons (eVar 0) (aCons (eVar 1) aNil))) (eCall g_power (aCons (eBin addD (eVar 2) (eVar 3)) aNil))))))))
def g_pair : DF := runF0 2 6 fb_pair
def fb_covered_l0 : DS := (sSeq (sAsg 4 (eFrz (fLc (iSq (eVar 1)) (gN 5) (tAnd' (tVal (eBin neE (eVar 5) (eVar 3))) (tTru (eCall g_within (aCons (eVar 3) (aCons (eVar 5) aNil))))) (eVar 5) [5]))) (sIf (tVal (eBin eqE (eVar 4) (eFrz (fLst aNil)))) (sOwnM appD 2 (aCons (eVar 3) aNil)) sNil))
def fb_covered : DS := (sSeq (sAsg 1 (eFrz (fLc (iSq (eC c_POWERS)) (gN 3) (tAnd' (tVal (eBin neE (eVar 3) (eVar 0))) (tTru (eCall g_within (aCons (eVar 3) (aCons (eVar 0) aNil))))) (eVar 3) [3]))) (sSeq (sOwn 2 (fLst aNil)) (sSeq (sFor (iSq (eVar 1)) (gN 3) fb_covered_l0) (sSeq (sFrz 2) (sRet (eVar 2))))))
def g_covered : DF := runF0 1 6 fb_covered
def fb_law_l0 : DS := (sSeq (sAsg 5 (eCall g_covers (aCons (eVar 3) aNil))) (sSeq (sIf (tOr' (tNot' (tTru (eCB isiD (aCons (eVar 5) (aCons (eC (.ty "list")) aNil))))) (tVal (eBin neE (eVar 5) (eCall g_covered (aCons (eVar 3) aNil))))) (sRet (eC (.bl false))) sNil) (sSeq (sExpr (eHdlM appD (eVar 5) (aCons (eVar 4) aNil))) (sIf (tOr' (tVal (eBin neE (eCall g_covers (aCons (eVar 3) aNil)) (eCall g_covered (aCons (eVar 3) aNil)))) (tNot' (tTru (eCall g_pair (aCons (eVar 3) (aCons (eVar 4) aNil)))))) (sRet (eC (.bl false))) sNil))))
def fb_law : DS := (sSeq (sAsg 1 (eCall g_bag (aCons (eVar 0) aNil))) (sSeq (sIf (tVal (eBin neE (eC c_POWERS) (eTup (aCons (eC (.str "quiet")) (aCons (eC (.str "shown")) (aCons (eC (.str "fails")) (aCons (eC (.str "turns")) (aCons (eC (.str "free")) aNil)))))))) (sRet (eC (.bl false))) sNil) (sSeq (sAsg 2 (eFrz (fLc (iRng1' (aCons (eC (.int 25)) aNil)) (gN 6) tTrue (eTup (aCons (eBin ixD (eC c_POWERS) (eBin (pu2 fdivD) (eVar 6) (eC (.int 5)))) (aCons (eBin ixD (eC c_POWERS) (eBin (pu2 modD) (eCB intD (aCons (eVar 6) aNil)) (eC (.int 5)))) aNil))) [6]))) (sSeq (sFor (iSq (eCall g_mixed (aCons (eVar 1) (aCons (eVar 2) aNil)))) (gT (gsCons (gN 3) (gsCons (gN 4) gsNil))) fb_law_l0) (sRet (eC (.bl true)))))))
def g_law : DF := runF0 1 7 fb_law
end DL

namespace DL
open PySem L2
def bagOb (c0 c1 c2 : Int) (cells : List Int) : Ob := .lst [.int c0, .int c1, .int c2, .lst (cells.map Dv.int)]
def BagOk (o : Ob) : Prop := ∃ (c0 c1 c2 : Int) (cells : List Int), o = bagOb c0 c1 c2 cells ∧ 0 ≤ c0 ∧ 0 ≤ c1 ∧ c1 < 2147483647 ∧ 0 ≤ c2 ∧ ∀ c ∈ cells, 0 ≤ c
def BagAt (S : Sto) (b : Nat) : Prop := ∃ o, S[b]? = some o ∧ BagOk o
theorem take_ok {S : Sto} {b : Nat} {n : Int} (hB : BagAt S b) (hn : 0 < n) (hn2 : n < 1073741824) : ∃ r o, g_take S [.hdl b, .int n] = .ok (.int r) (S.set b o) ∧ 0 ≤ r ∧ r < n ∧ BagOk o := by
  obtain ⟨o, h, c0, c1, c2, cells, rfl, k0, k1, k2, k3, k4⟩ := hB
  have hset : ∀ x : Ob, (S.set b x)[b]? = some x := fun x => by rw [List.getElem?_set, if_pos rfl, if_pos (List.getElem?_eq_some_iff.mp h).1]
  have nl : (0 : Int) ≤ c2 + 1 := by omega
  have hm : ∀ x : Int, 0 ≤ x % n ∧ x % n < n := fun x => ⟨Int.emod_nonneg _ (by omega), Int.emod_lt_of_pos _ hn⟩
  have hp : ∀ x : Int, 0 ≤ x % 2147483647 ∧ x % 2147483647 < 2147483647 := fun x => ⟨Int.emod_nonneg _ (by decide), Int.emod_lt_of_pos _ (by decide)⟩
  have hd : ∀ x : Int, 0 ≤ x → 0 ≤ x / n := fun x hx => Int.ediv_nonneg hx (by omega)
  unfold bagOb at h
  by_cases h0 : c0 = 0
  · subst h0
    have mul1 : -(2 ^ 64) < c1 ∧ c1 < 2 ^ 64 := by omega
    have cell : ∃ c : Int, 0 ≤ c ∧ ((c2 < (cells.length : Int) ∧ atI (cells.map Dv.int) c2 = some (.int c)) ∨ (¬ c2 < (cells.length : Int) ∧ c = 0)) := by
      by_cases hl : c2 < (cells.length : Int)
      · have hl2 : c2.toNat < cells.length := by omega
        exact ⟨cells[c2.toNat], k4 _ (List.getElem_mem hl2), .inl ⟨hl, by unfold atI; rw [List.length_map, ixN_ok k3 hl]; simp [hl2]⟩⟩
      · exact ⟨0, Int.le_refl _, .inr ⟨hl, rfl⟩⟩
    obtain ⟨c, hc, hcell⟩ := cell
    by_cases hbig : 1000000000000000000 ≤ c
    · have c0p : (0 : Int) < c := by omega
      refine ⟨c % n, bagOb (c / n) ((c1 * 48271 + c % 2147483647 + 7919 * (c2 + 1)) % 2147483647) (c2 + 1) cells, ?_, (hm c).1, (hm c).2, _, _, _, _, rfl, hd c hc, (hp _).1, (hp _).2, nl, k4⟩
      unfold bagOb
      rcases hcell with ⟨hl, e⟩ | ⟨hl, e⟩
      · simp [g_take, ev_run0, startE, fb_take, op_mul_i, op_mod_i, op_fdiv_i, hn, hn2, ixN_ok, h, hl, hset, hbig, k3, c0p, mul1, e]
      · subst e
        omega
    · have key : ∃ c1' : Int, 0 ≤ c1' ∧ c1' < 2147483647 ∧ g_take S [.hdl b, .int n] = .ok (.int (((((c1' + 1) * 39373 % 1000000007) * ((c1' + 1) * 39373 % 1000000007) % 998244353 * 30011) % 998244353) / 7 % n)) (S.set b (bagOb 0 c1' (c2 + 1) cells)) := by
        refine ⟨(c1 * 48271 + c % 2147483647 + 7919 * (c2 + 1)) % 2147483647, (hp _).1, (hp _).2, ?_⟩
        obtain ⟨q1, q2⟩ := hp (c1 * 48271 + c % 2147483647 + 7919 * (c2 + 1))
        have nbig : ¬ (1000000000000000000 ≤ c) := hbig
        rcases hcell with ⟨hl, e⟩ | ⟨hl, e⟩
        · unfold bagOb
          generalize hw : (c1 * 48271 + c % 2147483647 + 7919 * (c2 + 1)) % 2147483647 = w1 at *
          have m1 : -(2 ^ 64) < w1 + 1 ∧ w1 + 1 < 2 ^ 64 := by omega
          have m2 : -(2 ^ 64) < (w1 + 1) * 39373 % 1000000007 ∧ (w1 + 1) * 39373 % 1000000007 < 2 ^ 64 := by omega
          have m3 := fun S' : Sto => op_mul_i S' _ ((w1 + 1) * 39373 % 1000000007) (.inl m2)
          simp [g_take, ev_run0, startE, fb_take, op_mul_i, op_mod_i, op_fdiv_i, hn, hn2, ixN_ok, h, hl, hset, nbig, k3, mul1, e, hw, m1, m3]
        · subst e
          unfold bagOb
          generalize hw : (c1 * 48271 + (0 : Int) % 2147483647 + 7919 * (c2 + 1)) % 2147483647 = w1 at *
          have m1 : -(2 ^ 64) < w1 + 1 ∧ w1 + 1 < 2 ^ 64 := by omega
          have m2 : -(2 ^ 64) < (w1 + 1) * 39373 % 1000000007 ∧ (w1 + 1) * 39373 % 1000000007 < 2 ^ 64 := by omega
          have m3 := fun S' : Sto => op_mul_i S' _ ((w1 + 1) * 39373 % 1000000007) (.inl m2)
          have hw2 : (c1 * 48271 + 7919 * (c2 + 1)) % 2147483647 = w1 := by rw [← hw]; simp
          simp [g_take, ev_run0, startE, fb_take, op_mul_i, op_mod_i, op_fdiv_i, hn, hn2, ixN_ok, h, hl, hset, k3, mul1, hw2, m1, m3]
      obtain ⟨c1', w1, w2, e⟩ := key
      exact ⟨_, _, e, (hm _).1, (hm _).2, _, _, _, _, rfl, Int.le_refl _, w1, w2, nl, k4⟩
  · have h1 : 0 < c0 := by omega
    refine ⟨c0 % n, bagOb (c0 / n) c1 c2 cells, ?_, (hm c0).1, (hm c0).2, _, _, _, _, rfl, hd c0 k0, k1, k2, k3, k4⟩
    unfold bagOb
    simp [g_take, ev_run0, startE, fb_take, op_mul_i, op_mod_i, op_fdiv_i, hn, hn2, ixN_ok, h, h0, h1]
theorem cutG_map {α β : Type} (f : α → β) (l : List α) (lo hi : Option Int) : cutG (l.map f) lo hi = (cutG l lo hi).map f := by
  unfold cutG
  rw [List.length_map, List.map_take, List.map_drop]
theorem cutG_len {α : Type} (l : List α) (lo hi : Option Int) : (cutG l lo hi).length ≤ l.length := by
  unfold cutG
  rw [List.length_take, List.length_drop]
  omega
theorem lc_abs (x : Sl) (S : Sto) : ∀ ms : List Int, lcR (gN 1) tTrue (eCB absD (aCons (eVar 1) aNil)) [x, .no] (ms.map Dv.int) S = .ok ((ms.map fun m => if m < 0 then -m else m).map Dv.int) S
  | [] => rfl
  | m :: r => by
    simp [lcR, tTrue, lc_abs x S r]
theorem bag_ok (S : Sto) (ns : List Int) (h : ns.length ≤ 63) : ∃ o, g_bag S [.rol (ns.map .int)] = .ok (.hdl S.length) (S ++ [o]) ∧ BagOk o := by
  have hl : (List.map Dv.int ((cutG ns none (some 63)).map fun m => if m < 0 then -m else m)).length ≤ sizeLine := by
    rw [List.length_map, List.length_map]
    exact line_le _ (by have := cutG_len ns none (some 63); omega)
  refine ⟨bagOb 0 1234567891 0 ((cutG ns none (some 63)).map fun m => if m < 0 then -m else m), ?_, 0, 1234567891, 0, _, rfl, by decide, by decide, by decide, by decide, fun c hc => ?_⟩
  · unfold bagOb
    rw [List.map_map] at hl
    simp [g_bag, ev_run0, startE, fb_bag, cutG_map, lc_abs, kLcEnd_ok _ _ hl]
  · obtain ⟨m, _, rfl⟩ := List.mem_map.mp hc
    split <;> omega
theorem bag_at {o : Ob} (h : BagOk o) : BagAt [o] 0 := ⟨o, rfl, h⟩
end DL

namespace DL
open PySem L2
theorem mixed_loop {b : Nat} {x1 : Sl} : ∀ (ds acc : List Dv) (y : Sl) (S : Sto), BagAt S b → acc.length + ds.length < 100000 →
    ∃ acc' y' o, forR (gN 3) fb_mixed_l0 ds [.va (.hdl b), x1, .ow acc, y] S = .nx [.va (.hdl b), x1, .ow acc', y'] (S.set b o) ∧ BagOk o ∧ ∀ d ∈ acc', d ∈ acc ∨ d ∈ ds
  | [], acc, y, S, hB, hl => by
    obtain ⟨o, ho, hk⟩ := hB
    refine ⟨acc, y, o, ?_, hk, fun d h => .inl h⟩
    have : S.set b o = S := by
      apply List.ext_getElem?; intro i
      by_cases e : b = i
      · subst e; rw [ho, List.getElem?_set, if_pos rfl, if_pos (List.getElem?_eq_some_iff.mp ho).1]
      · rw [List.getElem?_set, if_neg e]
    rw [this]; rfl
  | d :: ds, acc, y, S, hB, hl => by
    simp only [List.length_cons] at hl
    obtain ⟨r, o1, e1, r0, r1, k1⟩ := take_ok (n := (acc.length : Int) + 1) hB (by omega) (by omega)
    have hb : b < S.length := by obtain ⟨o, ho, _⟩ := hB; exact (List.getElem?_eq_some_iff.mp ho).1
    have hins := fun (e : Env) (S : Sto) => qOwnM_ins S e d acc 2 r ⟨line_lt _ (by omega), r0, by omega⟩
    obtain ⟨acc', y', o2, e2, k2, k3⟩ := mixed_loop (x1 := x1) ds (acc.take r.toNat ++ [d] ++ acc.drop r.toNat) (.va d) (S.set b o1) ⟨o1, by rw [List.getElem?_set, if_pos rfl, if_pos hb], k1⟩ (by simp; omega)
    refine ⟨acc', y', o2, ?_, k2, fun z hz => ?_⟩
    · rw [List.set_set] at e2
      rw [← e2]
      simp [forR, fb_mixed_l0, e1, hins]
    · rcases k3 z hz with h | h
      · simp only [List.mem_append, List.mem_singleton] at h
        rcases h with (h | h) | h
        · exact .inl (List.mem_of_mem_take h)
        · exact .inr (by simp [h])
        · exact .inl (List.mem_of_mem_drop h)
      · exact .inr (by simp [h])
theorem mixed_ok {S : Sto} {b : Nat} {l : List Dv} (hB : BagAt S b) (hl : l.length < 100000) : ∃ l' o, g_mixed S [.hdl b, .lst l] = .ok (.lst l') (S.set b o) ∧ BagOk o ∧ ∀ d ∈ l', d ∈ l := by
  obtain ⟨acc, y, o, e, k, h⟩ := mixed_loop (x1 := .va (.lst l)) l [] .no S hB (by simpa using hl)
  refine ⟨acc, o, ?_, k, fun d hd => by simpa using h d hd⟩
  simp [g_mixed, ev_run0, startE, fb_mixed, e]
def pows : List Str := ["quiet", "shown", "fails", "turns", "free"]
theorem eq_hdl {S : Sto} {k : Nat} {l m : List Dv} (h : S[k]? = some (.lst l)) : eqD S (.hdl k) (.lst m) = eqD S (.rol l) (.lst m) := by
  show ((toP (res S (.hdl k))).bind fun p => (toP (res S (.lst m))).bind fun q => if SeqAt.shaped p && SeqAt.shaped q then some (PyData.eqv p q) else none) = ((toP (res S (.rol l))).bind fun p => (toP (res S (.lst m))).bind fun q => if SeqAt.shaped p && SeqAt.shaped q then some (PyData.eqv p q) else none)
  have e : res S (.hdl k) = .rol l := by simp only [res, h]
  rw [e]; rfl
theorem covers_ok : ∀ p ∈ pows, ∃ l : List Dv, l.length < 10 ∧ (∀ S, g_covers S [.str p] = .ok (.hdl S.length) (S ++ [.lst l])) ∧ (∀ S, g_covered S [.str p] = .ok (.lst l) S) ∧ ∀ S, eqD S (.rol l) (.lst l) = some true := by
  intro p hp
  simp only [pows, List.mem_cons, List.not_mem_nil, or_false] at hp
  rcases hp with rfl | rfl | rfl | rfl | rfl
  · exact ⟨[], by decide, fun S => by kernel_rfl, fun S => by kernel_rfl, fun S => by kernel_rfl⟩
  · exact ⟨[.str "quiet"], by decide, fun S => by kernel_rfl, fun S => by kernel_rfl, fun S => by kernel_rfl⟩
  · exact ⟨[.str "shown"], by decide, fun S => by kernel_rfl, fun S => by kernel_rfl, fun S => by kernel_rfl⟩
  · exact ⟨[.str "shown"], by decide, fun S => by kernel_rfl, fun S => by kernel_rfl, fun S => by kernel_rfl⟩
  · exact ⟨[.str "fails", .str "turns"], by decide, fun S => by kernel_rfl, fun S => by kernel_rfl, fun S => by kernel_rfl⟩
theorem pair_ok : ∀ p ∈ pows, ∀ q ∈ pows, ∀ S, g_pair S [.str p, .str q] = .ok (.bl true) S := by
  intro p hp q hq S
  simp only [pows, List.mem_cons, List.not_mem_nil, or_false] at hp hq
  rcases hp with rfl | rfl | rfl | rfl | rfl <;> rcases hq with rfl | rfl | rfl | rfl | rfl <;> kernel_rfl
theorem isi_hdl {S : Sto} {k : Nat} {l : List Dv} (h : S[k]? = some (.lst l)) : isiD S [.hdl k, .ty "list"] = some (.bl true, S) := by
  have kit_list : kitB "list" "list" = some true := by decide +kernel
  simp only [isiD, tyD, h, Option.bind_some, kit_list, Option.map_some]
theorem body_ok (x0 x1 x2 y5 y6 : Sl) {p q : Str} (hp : p ∈ pows) (hq : q ∈ pows) (S : Sto) : ∃ z5 S', fb_law_l0 [x0, x1, x2, .va (.str p), .va (.str q), y5, y6] S = .nx [x0, x1, x2, .va (.str p), .va (.str q), z5, y6] S' := by
  obtain ⟨l, hl, c1, c2, c3⟩ := covers_ok p hp
  have a1 : (S ++ [Ob.lst l])[S.length]? = some (.lst l) := by simp
  have a2 : (S ++ [Ob.lst (l ++ [.str q])] ++ [Ob.lst l])[(S ++ [Ob.lst (l ++ [.str q])]).length]? = some (.lst l) := by simp
  have e1 := (eq_hdl (m := l) a1).trans (c3 _)
  have e2 := (eq_hdl (m := l) a2).trans (c3 _)
  have h2 : hdlM appD (S ++ [Ob.lst l]) (.hdl S.length) [.str q] = .ok .non (S ++ [Ob.lst (l ++ [.str q])]) := by
    rw [hdlM_app _ _ _ _ a1 (line_lt _ (by omega))]
    simp
  refine ⟨.va (.hdl S.length), S ++ [Ob.lst (l ++ [.str q])] ++ [Ob.lst l], ?_⟩
  have i1 := isi_hdl a1
  simp only [List.append_assoc, List.cons_append, List.nil_append] at e2
  simp only [List.length_append, List.length_cons, List.length_nil] at e2
  simp [fb_law_l0, c1, c2, i1, e1, h2, a1, e2, pair_ok p hp q hq]
theorem loop_ok (x0 x1 x2 y6 : Sl) : ∀ (ds : List Dv) (y3 y4 y5 : Sl) (S : Sto), (∀ d ∈ ds, ∃ p q, p ∈ pows ∧ q ∈ pows ∧ d = .tup [.str p, .str q]) →
    ∃ z3 z4 z5 S', forR (gT (gsCons (gN 3) (gsCons (gN 4) gsNil))) fb_law_l0 ds [x0, x1, x2, y3, y4, y5, y6] S = .nx [x0, x1, x2, z3, z4, z5, y6] S'
  | [], y3, y4, y5, S, _ => ⟨y3, y4, y5, S, rfl⟩
  | d :: ds, y3, y4, y5, S, h => by
    obtain ⟨p, q, hp, hq, rfl⟩ := h d (by simp)
    obtain ⟨z5, S1, e1⟩ := body_ok x0 x1 x2 y5 y6 hp hq S
    obtain ⟨w3, w4, w5, S2, e2⟩ := loop_ok x0 x1 x2 y6 ds (.va (.str p)) (.va (.str q)) z5 S1 fun d hd => h d (by simp [hd])
    refine ⟨w3, w4, w5, S2, ?_⟩
    rw [← e2]
    simp [forR, e1]
theorem pows_eq (S : Sto) : eqD S c_POWERS (.tup [.str "quiet", .str "shown", .str "fails", .str "turns", .str "free"]) = some true := by
  kernel_rfl
def pairsD : List Dv := pows.flatMap fun p => pows.map fun q => .tup [.str p, .str q]
theorem pairs_ok (x0 x1 : Sl) (S : Sto) : fLc (iRng1' (aCons (eC (.int 25)) aNil)) (gN 6) tTrue (eTup (aCons (eBin ixD (eC c_POWERS) (eBin (pu2 fdivD) (eVar 6) (eC (.int 5)))) (aCons (eBin ixD (eC c_POWERS) (eBin (pu2 modD) (eCB intD (aCons (eVar 6) aNil)) (eC (.int 5)))) aNil))) [6] [x0, x1, .no, .no, .no, .no, .no] S = .ok pairsD S := by
  kernel_rfl
theorem law_true (ns : List Int) (h : ns.length ≤ 63) : ∃ S, g_law [] [.rol (ns.map .int)] = .ok (.bl true) S := by
  obtain ⟨o, e, ho⟩ := bag_ok [] ns h
  simp only [List.length_nil, List.nil_append] at e
  obtain ⟨l, o2, e2, k2, h2⟩ := mixed_ok (l := pairsD) (bag_at ho) (by decide)
  have hp : ∀ d ∈ l, ∃ p q, p ∈ pows ∧ q ∈ pows ∧ d = .tup [.str p, .str q] := fun d hd => by
    obtain ⟨p, hp, h3⟩ := List.mem_flatMap.mp (h2 d hd)
    obtain ⟨q, hq, h4⟩ := List.mem_map.mp h3
    exact ⟨p, q, hp, hq, h4.symm⟩
  obtain ⟨z3, z4, z5, S', el⟩ := loop_ok (.va (.rol (ns.map .int))) (.va (.hdl 0)) (.va (.lst pairsD)) .no l .no .no .no [o2] hp
  refine ⟨S', ?_⟩
  have hpp := pairs_ok (.va (.rol (ns.map .int))) (.va (.hdl 0)) [o]
  simp [g_law, ev_run0, startE, fb_law, e, pows_eq, -ev_fLc, hpp, e2, el]
end DL

namespace Row
open PySem L2 DL
def top (i : Nat) : Stmt := PySem.Challenge.pw_foundtwice_k61_powers_as_sets.main.body.getD i (.Pass ⟨0, 0, 0, 0⟩)
abbrev st_is_at_most : Stmt := top 2
theorem sc_is_at_most : FnScope ["power", "other"] ["power", "other"] (defScope st_is_at_most) := ⟨rfl, rfl, rfl, by decide +kernel, rfl, by decide +kernel, by decide +kernel⟩
abbrev st_meet_of : Stmt := top 3
theorem sc_meet_of : FnScope ["power", "other"] ["power", "other"] (defScope st_meet_of) := ⟨rfl, rfl, rfl, by decide +kernel, rfl, by decide +kernel, by decide +kernel⟩
abbrev st_join_of : Stmt := top 4
theorem sc_join_of : FnScope ["power", "other"] ["power", "other"] (defScope st_join_of) := ⟨rfl, rfl, rfl, by decide +kernel, rfl, by decide +kernel, by decide +kernel⟩
abbrev st_covers : Stmt := top 6
theorem sc_covers : FnScope ["power", "below", "found", "one", "other"] ["power"] (defScope st_covers) := ⟨rfl, rfl, rfl, by decide +kernel, rfl, by decide +kernel, by decide +kernel⟩
abbrev st_bag : Stmt := top 8
theorem sc_bag : FnScope ["_law_script", "_law_cell"] ["_law_script"] (defScope st_bag) := ⟨rfl, rfl, rfl, by decide +kernel, rfl, by decide +kernel, by decide +kernel⟩
abbrev st_take : Stmt := top 9
theorem sc_take : FnScope ["_law_bag_here", "_law_upto", "_law_cell", "_law_mixed_here", "_law_drawn", "_law_early", "_law_second"] ["_law_bag_here", "_law_upto"] (defScope st_take) := ⟨rfl, rfl, rfl, by decide +kernel, rfl, by decide +kernel, by decide +kernel⟩
abbrev st_mixed : Stmt := top 11
theorem sc_mixed : FnScope ["_law_bag_here", "_law_things", "_law_found", "_law_thing"] ["_law_bag_here", "_law_things"] (defScope st_mixed) := ⟨rfl, rfl, rfl, by decide +kernel, rfl, by decide +kernel, by decide +kernel⟩
abbrev st_truth : Stmt := top 12
theorem sc_truth : FnScope ["_law_told", "_law_due"] ["_law_told", "_law_due"] (defScope st_truth) := ⟨rfl, rfl, rfl, by decide +kernel, rfl, by decide +kernel, by decide +kernel⟩
abbrev st_set : Stmt := top 13
theorem sc_set : FnScope ["_law_power_here"] ["_law_power_here"] (defScope st_set) := ⟨rfl, rfl, rfl, by decide +kernel, rfl, by decide +kernel, by decide +kernel⟩
abbrev st_within : Stmt := top 14
theorem sc_within : FnScope ["_law_power_here", "_law_other", "_law_letter"] ["_law_power_here", "_law_other"] (defScope st_within) := ⟨rfl, rfl, rfl, by decide +kernel, rfl, by decide +kernel, by decide +kernel⟩
abbrev st_power : Stmt := top 15
theorem sc_power : FnScope ["_law_letters", "_law_some", "_law_letter"] ["_law_letters"] (defScope st_power) := ⟨rfl, rfl, rfl, by decide +kernel, rfl, by decide +kernel, by decide +kernel⟩
abbrev st_pair : Stmt := top 16
theorem sc_pair : FnScope ["_law_power_here", "_law_other", "_law_one_here", "_law_two", "_law_common", "_law_letter"] ["_law_power_here", "_law_other"] (defScope st_pair) := ⟨rfl, rfl, rfl, by decide +kernel, rfl, by decide +kernel, by decide +kernel⟩
abbrev st_covered : Stmt := top 17
theorem sc_covered : FnScope ["_law_power_here", "_law_below", "_law_found", "_law_one_here", "_law_between", "_law_two"] ["_law_power_here"] (defScope st_covered) := ⟨rfl, rfl, rfl, by decide +kernel, rfl, by decide +kernel, by decide +kernel⟩
abbrev st_law : Stmt := top 18
theorem sc_law : FnScope ["_law_script", "_law_bag_here", "_law_pairs", "_law_power_here", "_law_other", "_law_told", "_law_k"] ["_law_script"] (defScope st_law) := ⟨rfl, rfl, rfl, by decide +kernel, rfl, by decide +kernel, by decide +kernel⟩
structure Tx (K : PySem.W.Frag) (mg : Str → Option Value) : Prop where
  f_abs : mg "abs" = none
  f_int : mg "int" = none
  f_isinstance : mg "isinstance" = none
  f_len : mg "len" = none
  f_list : mg "list" = none
  f_range : mg "range" = none
  c_POWERS : GlobC K mg "POWERS" c_POWERS
  g_is_at_most : mg "is_at_most" = some (.ref (He.ga K "is_at_most"))
  g_meet_of : mg "meet_of" = some (.ref (He.ga K "meet_of"))
  g_join_of : mg "join_of" = some (.ref (He.ga K "join_of"))
  g_covers : mg "covers" = some (.ref (He.ga K "covers"))
  g_bag : mg "_law_bag" = some (.ref (He.ga K "_law_bag"))
  g_take : mg "_law_take" = some (.ref (He.ga K "_law_take"))
  g_mixed : mg "_law_mixed" = some (.ref (He.ga K "_law_mixed"))
  g_truth : mg "_law_truth" = some (.ref (He.ga K "_law_truth"))
  g_set : mg "_law_set" = some (.ref (He.ga K "_law_set"))
  g_within : mg "_law_within" = some (.ref (He.ga K "_law_within"))
  g_power : mg "_law_power" = some (.ref (He.ga K "_law_power"))
  g_pair : mg "_law_pair" = some (.ref (He.ga K "_law_pair"))
  g_covered : mg "_law_covered" = some (.ref (He.ga K "_law_covered"))
  g_law : mg "law" = some (.ref (He.ga K "law"))
  d_is_at_most : ∃ fd, FunD K "is_at_most" "is_at_most" (defArgs st_is_at_most) (defBody st_is_at_most) (defScope st_is_at_most) [] [] (He.ga K "is_at_most") fd
  d_meet_of : ∃ fd, FunD K "meet_of" "meet_of" (defArgs st_meet_of) (defBody st_meet_of) (defScope st_meet_of) [] [] (He.ga K "meet_of") fd
  d_join_of : ∃ fd, FunD K "join_of" "join_of" (defArgs st_join_of) (defBody st_join_of) (defScope st_join_of) [] [] (He.ga K "join_of") fd
  d_covers : ∃ fd, FunD K "covers" "covers" (defArgs st_covers) (defBody st_covers) (defScope st_covers) [] [] (He.ga K "covers") fd
  d_bag : ∃ fd, FunD K "_law_bag" "_law_bag" (defArgs st_bag) (defBody st_bag) (defScope st_bag) [] [] (He.ga K "_law_bag") fd
  d_take : ∃ fd, FunD K "_law_take" "_law_take" (defArgs st_take) (defBody st_take) (defScope st_take) [] [] (He.ga K "_law_take") fd
  d_mixed : ∃ fd, FunD K "_law_mixed" "_law_mixed" (defArgs st_mixed) (defBody st_mixed) (defScope st_mixed) [] [] (He.ga K "_law_mixed") fd
  d_truth : ∃ fd, FunD K "_law_truth" "_law_truth" (defArgs st_truth) (defBody st_truth) (defScope st_truth) [] [] (He.ga K "_law_truth") fd
  d_set : ∃ fd, FunD K "_law_set" "_law_set" (defArgs st_set) (defBody st_set) (defScope st_set) [] [] (He.ga K "_law_set") fd
  d_within : ∃ fd, FunD K "_law_within" "_law_within" (defArgs st_within) (defBody st_within) (defScope st_within) [] [] (He.ga K "_law_within") fd
  d_power : ∃ fd, FunD K "_law_power" "_law_power" (defArgs st_power) (defBody st_power) (defScope st_power) [] [] (He.ga K "_law_power") fd
  d_pair : ∃ fd, FunD K "_law_pair" "_law_pair" (defArgs st_pair) (defBody st_pair) (defScope st_pair) [] [] (He.ga K "_law_pair") fd
  d_covered : ∃ fd, FunD K "_law_covered" "_law_covered" (defArgs st_covered) (defBody st_covered) (defScope st_covered) [] [] (He.ga K "_law_covered") fd
  d_law : ∃ fd, FunD K "law" "law" (defArgs st_law) (defBody st_law) (defScope st_law) [] [] (He.ga K "law") fd
section
variable {P : Program} {w : World} {K : PySem.W.Frag} {mg : Str → Option Value} {base : Heap}
theorem fd_is_at_most (T : Tx K mg) : FD P w K mg base CX0 1 "is_at_most" g_is_at_most :=
  fd_mk0 (k := 0) T.d_is_at_most T.g_is_at_most sc_is_at_most (fun _ _ _ _ _ _ us hl => match us, hl with | [_, _], _ => rfl) rfl rfl fun cdv A outer s H E hr =>
    (qss_cons (qs_if (qt_w (qw_or (qt_eq hr (qe_var 0) (qe_var 1)) (qw_or (qt_eq hr (qe_var 0) qe_str) (qw_or1 (qt_eq hr (qe_var 1) qe_str))))) (qss_one (qs_ret qe_bl)) qss_nil) (qss_one (qs_ret (qe_and (qe_eq hr (qe_var 0) qe_str) (qe_one (qe_ne hr (qe_var 1) qe_str))))))
theorem fd_meet_of (T : Tx K mg) : FD P w K mg base CX0 2 "meet_of" g_meet_of :=
  fd_mk0 (k := 1) T.d_meet_of T.g_meet_of sc_meet_of (fun _ _ _ _ _ _ us hl => match us, hl with | [_, _], _ => rfl) rfl rfl fun cdv A outer s H E hr =>
    (qss_cons (qs_if (qt_tru (qe_call (fd_is_at_most T) (hr.mono (by decide)) psx0 (qa_cons (qe_var 0) (qa_cons (qe_var 1) qa_nil)))) (qss_one (qs_ret (qe_var 0))) qss_nil) (qss_cons (qs_if (qt_tru (qe_call (fd_is_at_most T) (hr.mono (by decide)) psx0 (qa_cons (qe_var 1) (qa_cons (qe_var 0) qa_nil)))) (qss_one (qs_ret (qe_var 1))) qss_nil) (qss_one (qs_ret qe_str))))
theorem fd_join_of (T : Tx K mg) : FD P w K mg base CX0 2 "join_of" g_join_of :=
  fd_mk0 (k := 1) T.d_join_of T.g_join_of sc_join_of (fun _ _ _ _ _ _ us hl => match us, hl with | [_, _], _ => rfl) rfl rfl fun cdv A outer s H E hr =>
    (qss_cons (qs_if (qt_tru (qe_call (fd_is_at_most T) (hr.mono (by decide)) psx0 (qa_cons (qe_var 0) (qa_cons (qe_var 1) qa_nil)))) (qss_one (qs_ret (qe_var 1))) qss_nil) (qss_cons (qs_if (qt_tru (qe_call (fd_is_at_most T) (hr.mono (by decide)) psx0 (qa_cons (qe_var 1) (qa_cons (qe_var 0) qa_nil)))) (qss_one (qs_ret (qe_var 0))) qss_nil) (qss_one (qs_ret qe_str))))
theorem fd_covers (T : Tx K mg) : FD P w K mg base CX0 2 "covers" g_covers :=
  fd_mk0 (k := 1) T.d_covers T.g_covers sc_covers (fun _ _ _ _ _ _ us hl => match us, hl with | [_], _ => rfl) rfl rfl fun cdv A outer s H E hr =>
    (qss_cons (qs_asgLc sc_covers.nd 1 ([("one", 3)]) rfl sc_covers.nd (qi_seq (qe_con T.c_POWERS)) (blkOk_by (own := [("one", 3)]) (N := ["power", "below", "found", "one", "other"]) (sc := defScope st_covers) (by decide +kernel)) (fun _ _ _ _ _ => (qg_name sc_covers.nd 3)) (fun _ _ _ _ _ => (qts_one (qt_w (qw_and (qt_ne hr (qe_var 3) (qe_var 0)) (qw_and1 (qt_tru (qe_call (fd_is_at_most T) (hr.mono (by decide)) psx0 (qa_cons (qe_var 3) (qa_cons (qe_var 0) qa_nil))))))))) (fun _ _ _ _ _ => (qe_var 3))) (qss_cons (qs_own sc_covers.nd 2 (qf_lst qa_nil)) (qss_cons (qs_for PassesOwn.never rfl (qi_seq (qe_var 1)) (qg_name sc_covers.nd 3) (qss_one (qs_if (qt_eq hr (qe_frz (qf_lc (own := [("other", 4)]) rfl sc_covers.nd (qi_seq (qe_var 1)) (blkOk_by (own := [("other", 4)]) (N := ["power", "below", "found", "one", "other"]) (sc := defScope st_covers) (by decide +kernel)) (fun _ _ _ _ _ => (qg_name sc_covers.nd 4)) (fun _ _ _ _ _ => (qts_one (qt_w (qw_and (qt_ne hr (qe_var 4) (qe_var 3)) (qw_and1 (qt_tru (qe_call (fd_is_at_most T) (hr.mono (by decide)) psx0 (qa_cons (qe_var 3) (qa_cons (qe_var 4) qa_nil))))))))) (fun _ _ _ _ _ => (qe_var 4)))) (qe_frz (qf_lst qa_nil))) (qss_one (qs_ownM 2 PySem.F.slot_list_append PySem.F.type_list_append mt_append owns_app (qa_cons (qe_var 3) qa_nil))) qss_nil))) (qss_hdl 2 (qss_one (qs_ret (qe_var 2)))))))
theorem fd_bag (T : Tx K mg) : FD P w K mg base CX0 1 "_law_bag" g_bag :=
  fd_mk0 (k := 0) T.d_bag T.g_bag sc_bag (fun _ _ _ _ _ _ us hl => match us, hl with | [_], _ => rfl) rfl rfl fun cdv A outer s H E hr =>
    (qss_one (qs_ret (qe_new (qf_lst (qa_cons qe_int (qa_cons qe_int (qa_cons qe_int (qa_cons (qe_frz (qf_lc (own := [("_law_cell", 1)]) rfl sc_bag.nd (qi_seq (qe_cut (qe_var 0) qo_none (qo_some qe_int))) (blkOk_by (own := [("_law_cell", 1)]) (N := ["_law_script", "_law_cell"]) (sc := defScope st_bag) (by decide +kernel)) (fun _ _ _ _ _ => (qg_name sc_bag.nd 1)) (fun _ _ _ _ _ => qts_nil) (fun _ _ _ _ _ => (qe_callB call_abs cas_abs T.f_abs (by decide +kernel) (qa_cons (qe_var 1) qa_nil))))) qa_nil))))))))
theorem fd_take (T : Tx K mg) : FD P w K mg base CX0 1 "_law_take" g_take :=
  fd_mk0 (k := 0) T.d_take T.g_take sc_take (fun _ _ _ _ _ _ us hl => match us, hl with | [_, _], _ => rfl) rfl rfl fun cdv A outer s H E hr =>
    (qss_cons (qs_if (qt_eq hr (qe_ix (qe_var 0) qe_int) qe_int) (qss_cons (qs_asg sc_take.nd 2 qe_int) (qss_cons (qs_if (qt_lt (qe_ix (qe_var 0) qe_int) (qe_callB call_len cas_len T.f_len (by decide +kernel) (qa_cons (qe_ix (qe_var 0) qe_int) qa_nil))) (qss_one (qs_asg sc_take.nd 2 (qe_ix (qe_ix (qe_var 0) qe_int) (qe_ix (qe_var 0) qe_int)))) qss_nil) (qss_cons (qs_augI ip_add ips_add (qe_var 0) qe_int qe_int) (qss_cons (qs_if (qt_ge (qe_var 2) qe_int) (qss_one (qs_setI (qe_var 0) qe_int (qe_var 2))) qss_nil) (qss_cons (qs_asg sc_take.nd 3 (qe_add (qe_add (qe_mul (qe_ix (qe_var 0) qe_int) qe_int) (qe_mod (qe_callTy call_int1 cas_int T.f_int (by decide +kernel) (qa_cons (qe_var 2) qa_nil)) qe_int)) (qe_mul qe_int (qe_ix (qe_var 0) qe_int)))) (qss_one (qs_setI (qe_var 0) qe_int (qe_mod (qe_callTy call_int1 cas_int T.f_int (by decide +kernel) (qa_cons (qe_var 3) qa_nil)) qe_int)))))))) qss_nil) (qss_cons (qs_if (qt_gt (qe_ix (qe_var 0) qe_int) qe_int) (qss_cons (qs_asg sc_take.nd 4 (qe_mod (qe_callTy call_int1 cas_int T.f_int (by decide +kernel) (qa_cons (qe_ix (qe_var 0) qe_int) qa_nil)) (qe_var 1))) (qss_cons (qs_setI (qe_var 0) qe_int (qe_fdiv (qe_callTy call_int1 cas_int T.f_int (by decide +kernel) (qa_cons (qe_ix (qe_var 0) qe_int) qa_nil)) (qe_var 1))) (qss_one (qs_ret (qe_var 4))))) qss_nil) (qss_cons (qs_asg sc_take.nd 5 (qe_mod (qe_callTy call_int1 cas_int T.f_int (by decide +kernel) (qa_cons (qe_mul (qe_add (qe_ix (qe_var 0) qe_int) qe_int) qe_int) qa_nil)) qe_int)) (qss_cons (qs_asg sc_take.nd 6 (qe_mod (qe_callTy call_int1 cas_int T.f_int (by decide +kernel) (qa_cons (qe_mul (qe_mod (qe_callTy call_int1 cas_int T.f_int (by decide +kernel) (qa_cons (qe_mul (qe_var 5) (qe_var 5)) qa_nil)) qe_int) qe_int) qa_nil)) qe_int)) (qss_one (qs_ret (qe_mod (qe_callTy call_int1 cas_int T.f_int (by decide +kernel) (qa_cons (qe_fdiv (qe_var 6) qe_int) qa_nil)) (qe_var 1))))))))
theorem fd_mixed (T : Tx K mg) : FD P w K mg base CX0 2 "_law_mixed" g_mixed :=
  fd_mk0 (k := 1) T.d_mixed T.g_mixed sc_mixed (fun _ _ _ _ _ _ us hl => match us, hl with | [_, _], _ => rfl) rfl rfl fun cdv A outer s H E hr =>
    (qss_cons (qs_own sc_mixed.nd 2 (qf_lst qa_nil)) (qss_cons (qs_for PassesOwn.never rfl (qi_seq (qe_var 1)) (qg_name sc_mixed.nd 3) (qss_one (qs_ownM 2 PySem.F.slot_list_insert PySem.F.type_list_insert mt_insert owns_ins (qa_cons (qe_call (fd_take T) (hr.mono (by decide)) psx0 (qa_cons (qe_var 0) (qa_cons (qe_add (qe_lenO 2 T.f_len) qe_int) qa_nil))) (qa_cons (qe_var 3) qa_nil))))) (qss_frz 2 (qss_one (qs_ret (qe_var 2))))))
theorem fd_truth (T : Tx K mg) : FD P w K mg base CX0 1 "_law_truth" g_truth :=
  fd_mk0 (k := 0) T.d_truth T.g_truth sc_truth (fun _ _ _ _ _ _ us hl => match us, hl with | [_, _], _ => rfl) rfl rfl fun cdv A outer s H E hr =>
    (qss_one (qs_ret (qe_and (qe_or (qe_is (qe_var 0) qe_bl) (qe_one (qe_is (qe_var 0) qe_bl))) (qe_one (qe_eq hr (qe_var 0) (qe_var 1))))))
theorem fd_set (T : Tx K mg) : FD P w K mg base CX0 1 "_law_set" g_set :=
  fd_mk0 (k := 0) T.d_set T.g_set sc_set (fun _ _ _ _ _ _ us hl => match us, hl with | [_], _ => rfl) rfl rfl fun cdv A outer s H E hr =>
    (qss_one (qs_ret (qe_dget hr (qe_frzD (qd_disp (qp_cons qe_str qe_str (qp_cons qe_str qe_str (qp_cons qe_str qe_str (qp_cons qe_str qe_str (qp_cons qe_str qe_str qp_nil))))))) (qe_var 0))))
theorem fd_within (T : Tx K mg) : FD P w K mg base CX0 2 "_law_within" g_within :=
  fd_mk0 (k := 1) T.d_within T.g_within sc_within (fun _ _ _ _ _ _ us hl => match us, hl with | [_, _], _ => rfl) rfl rfl fun cdv A outer s H E hr =>
    (qss_one (qs_ret (qe_eq hr (qe_frz (qf_lc (own := [("_law_letter", 2)]) rfl sc_within.nd (qi_seq (qe_call (fd_set T) (hr.mono (by decide)) psx0 (qa_cons (qe_var 0) qa_nil))) (blkOk_by (own := [("_law_letter", 2)]) (N := ["_law_power_here", "_law_other", "_law_letter"]) (sc := defScope st_within) (by decide +kernel)) (fun _ _ _ _ _ => (qg_name sc_within.nd 2)) (fun _ _ _ _ _ => (qts_one (qt_ni (qe_var 2) (qe_call (fd_set T) (hr.mono (by decide)) psx0 (qa_cons (qe_var 1) qa_nil))))) (fun _ _ _ _ _ => (qe_var 2)))) (qe_frz (qf_lst qa_nil)))))
theorem fd_power (T : Tx K mg) : FD P w K mg base CX0 1 "_law_power" g_power :=
  fd_mk0 (k := 0) T.d_power T.g_power sc_power (fun _ _ _ _ _ _ us hl => match us, hl with | [_], _ => rfl) rfl rfl fun cdv A outer s H E hr =>
    (qss_cons (qs_asg sc_power.nd 1 (qe_strM PySem.F.slot_str_join PySem.F.type_str_join mt_join mts_join qe_str (qa_cons (qe_frz (qf_lc (own := [("_law_letter", 2)]) rfl sc_power.nd (qi_seq qe_str) (blkOk_by (own := [("_law_letter", 2)]) (N := ["_law_letters", "_law_some", "_law_letter"]) (sc := defScope st_power) (by decide +kernel)) (fun _ _ _ _ _ => (qg_name sc_power.nd 2)) (fun _ _ _ _ _ => (qts_one (qt_in (qe_var 2) (qe_var 0)))) (fun _ _ _ _ _ => (qe_var 2)))) qa_nil))) (qss_one (qs_ret (qe_dget hr (qe_frzD (qd_disp (qp_cons qe_str qe_str (qp_cons qe_str qe_str (qp_cons qe_str qe_str (qp_cons qe_str qe_str (qp_cons qe_str qe_str qp_nil))))))) (qe_var 1)))))
theorem fd_pair (T : Tx K mg) : FD P w K mg base CX0 3 "_law_pair" g_pair :=
  fd_mk0 (k := 2) T.d_pair T.g_pair sc_pair (fun _ _ _ _ _ _ us hl => match us, hl with | [_, _], _ => rfl) rfl rfl fun cdv A outer s H E hr =>
    (qss_cons (qs_asgG (qe_tup (qa_cons (qe_call (fd_set T) (hr.mono (by decide)) psx0 (qa_cons (qe_var 0) qa_nil)) (qa_cons (qe_call (fd_set T) (hr.mono (by decide)) psx0 (qa_cons (qe_var 1) qa_nil)) qa_nil))) (qg_tup rfl (qgs_cons (qg_name sc_pair.nd 2) (qgs_cons (qg_name sc_pair.nd 3) qgs_nil)))) (qss_cons (qs_asgLc sc_pair.nd 4 ([("_law_letter", 5)]) rfl sc_pair.nd (qi_seq (qe_var 2)) (blkOk_by (own := [("_law_letter", 5)]) (N := ["_law_power_here", "_law_other", "_law_one_here", "_law_two", "_law_common", "_law_letter"]) (sc := defScope st_pair) (by decide +kernel)) (fun _ _ _ _ _ => (qg_name sc_pair.nd 5)) (fun _ _ _ _ _ => (qts_one (qt_in (qe_var 5) (qe_var 3)))) (fun _ _ _ _ _ => (qe_var 5))) (qss_cons (qs_if (qt_not (qt_tru (qe_call (fd_truth T) (hr.mono (by decide)) psx0 (qa_cons (qe_call (fd_is_at_most T) (hr.mono (by decide)) psx0 (qa_cons (qe_var 0) (qa_cons (qe_var 1) qa_nil))) (qa_cons (qe_call (fd_within T) (hr.mono (by decide)) psx0 (qa_cons (qe_var 0) (qa_cons (qe_var 1) qa_nil))) qa_nil))))) (qss_one (qs_ret qe_bl)) qss_nil) (qss_one (qs_ret (qe_and (qe_eq hr (qe_call (fd_meet_of T) (hr.mono (by decide)) psx0 (qa_cons (qe_var 0) (qa_cons (qe_var 1) qa_nil))) (qe_call (fd_power T) (hr.mono (by decide)) psx0 (qa_cons (qe_var 4) qa_nil))) (qe_one (qe_eq hr (qe_call (fd_join_of T) (hr.mono (by decide)) psx0 (qa_cons (qe_var 0) (qa_cons (qe_var 1) qa_nil))) (qe_call (fd_power T) (hr.mono (by decide)) psx0 (qa_cons (qe_add (qe_var 2) (qe_var 3)) qa_nil))))))))))
theorem fd_covered (T : Tx K mg) : FD P w K mg base CX0 3 "_law_covered" g_covered :=
  fd_mk0 (k := 2) T.d_covered T.g_covered sc_covered (fun _ _ _ _ _ _ us hl => match us, hl with | [_], _ => rfl) rfl rfl fun cdv A outer s H E hr =>
    (qss_cons (qs_asgLc sc_covered.nd 1 ([("_law_one_here", 3)]) rfl sc_covered.nd (qi_seq (qe_con T.c_POWERS)) (blkOk_by (own := [("_law_one_here", 3)]) (N := ["_law_power_here", "_law_below", "_law_found", "_law_one_here", "_law_between", "_law_two"]) (sc := defScope st_covered) (by decide +kernel)) (fun _ _ _ _ _ => (qg_name sc_covered.nd 3)) (fun _ _ _ _ _ => (qts_one (qt_w (qw_and (qt_ne hr (qe_var 3) (qe_var 0)) (qw_and1 (qt_tru (qe_call (fd_within T) (hr.mono (by decide)) psx0 (qa_cons (qe_var 3) (qa_cons (qe_var 0) qa_nil))))))))) (fun _ _ _ _ _ => (qe_var 3))) (qss_cons (qs_own sc_covered.nd 2 (qf_lst qa_nil)) (qss_cons (qs_for PassesOwn.never rfl (qi_seq (qe_var 1)) (qg_name sc_covered.nd 3) (qss_cons (qs_asgLc sc_covered.nd 4 ([("_law_two", 5)]) rfl sc_covered.nd (qi_seq (qe_var 1)) (blkOk_by (own := [("_law_two", 5)]) (N := ["_law_power_here", "_law_below", "_law_found", "_law_one_here", "_law_between", "_law_two"]) (sc := defScope st_covered) (by decide +kernel)) (fun _ _ _ _ _ => (qg_name sc_covered.nd 5)) (fun _ _ _ _ _ => (qts_one (qt_w (qw_and (qt_ne hr (qe_var 5) (qe_var 3)) (qw_and1 (qt_tru (qe_call (fd_within T) (hr.mono (by decide)) psx0 (qa_cons (qe_var 3) (qa_cons (qe_var 5) qa_nil))))))))) (fun _ _ _ _ _ => (qe_var 5))) (qss_one (qs_if (qt_eq hr (qe_var 4) (qe_frz (qf_lst qa_nil))) (qss_one (qs_ownM 2 PySem.F.slot_list_append PySem.F.type_list_append mt_append owns_app (qa_cons (qe_var 3) qa_nil))) qss_nil)))) (qss_frz 2 (qss_one (qs_ret (qe_var 2)))))))
theorem ok_law {fd : FuncData} (T : Tx K mg) (F : FunD K "law" "law" (defArgs st_law) (defBody st_law) (defScope st_law) [] [] (He.ga K "law") fd) : FnOk P w K mg base CX0 4 (He.ga K "law") fd ["_law_script"] (spD K g_law) :=
  fn_mk0 (k := 3) F sc_law fun cdv A outer s H E hr =>
    (qss_cons (qs_asg sc_law.nd 1 (qe_call (fd_bag T) (hr.mono (by decide)) psx0 (qa_cons (qe_var 0) qa_nil))) (qss_cons (qs_if (qt_ne hr (qe_con T.c_POWERS) (qe_tup (qa_cons qe_str (qa_cons qe_str (qa_cons qe_str (qa_cons qe_str (qa_cons qe_str qa_nil))))))) (qss_one (qs_ret qe_bl)) qss_nil) (qss_cons (qs_asgLc sc_law.nd 2 ([("_law_k", 6)]) rfl sc_law.nd (qi_range1 T.f_range (qa_cons qe_int qa_nil)) (blkOk_by (own := [("_law_k", 6)]) (N := ["_law_script", "_law_bag_here", "_law_pairs", "_law_power_here", "_law_other", "_law_told", "_law_k"]) (sc := defScope st_law) (by decide +kernel)) (fun _ _ _ _ _ => (qg_name sc_law.nd 6)) (fun _ _ _ _ _ => qts_nil) (fun _ _ _ _ _ => (qe_tup (qa_cons (qe_ix (qe_con T.c_POWERS) (qe_fdiv (qe_var 6) qe_int)) (qa_cons (qe_ix (qe_con T.c_POWERS) (qe_mod (qe_callTy call_int1 cas_int T.f_int (by decide +kernel) (qa_cons (qe_var 6) qa_nil)) qe_int)) qa_nil))))) (qss_cons (qs_for PassesOwn.never rfl (qi_seq (qe_call (fd_mixed T) (hr.mono (by decide)) psx0 (qa_cons (qe_var 1) (qa_cons (qe_var 2) qa_nil)))) (qg_tup rfl (qgs_cons (qg_name sc_law.nd 3) (qgs_cons (qg_name sc_law.nd 4) qgs_nil))) (qss_cons (qs_asg sc_law.nd 5 (qe_call (fd_covers T) (hr.mono (by decide)) psx0 (qa_cons (qe_var 3) qa_nil))) (qss_cons (qs_if (qt_w (qw_or (qt_not (qt_tru (qe_callB call_isiA cas_isi T.f_isinstance (by decide +kernel) (qa_cons (qe_var 5) (qa_cons (qe_ty T.f_list (by decide +kernel)) qa_nil))))) (qw_or1 (qt_ne hr (qe_var 5) (qe_call (fd_covered T) (hr.mono (by decide)) psx0 (qa_cons (qe_var 3) qa_nil)))))) (qss_one (qs_ret qe_bl)) qss_nil) (qss_cons (qs_expr (qe_hdlM PySem.F.slot_list_append PySem.F.type_list_append mt_append owns_app (qe_var 5) (qa_cons (qe_var 4) qa_nil))) (qss_one (qs_if (qt_w (qw_or (qt_ne hr (qe_call (fd_covers T) (hr.mono (by decide)) psx0 (qa_cons (qe_var 3) qa_nil)) (qe_call (fd_covered T) (hr.mono (by decide)) psx0 (qa_cons (qe_var 3) qa_nil))) (qw_or1 (qt_not (qt_tru (qe_call (fd_pair T) (hr.mono (by decide)) psx0 (qa_cons (qe_var 3) (qa_cons (qe_var 4) qa_nil)))))))) (qss_one (qs_ret qe_bl)) qss_nil)))))) (qss_one (qs_ret qe_bl))))))
end
def dd_is_at_most : He.DefD := ⟨("is_at_most", none), "is_at_most", "is_at_most", defArgs st_is_at_most, defBody st_is_at_most, defScope st_is_at_most, [], []⟩
def dd_meet_of : He.DefD := ⟨("meet_of", none), "meet_of", "meet_of", defArgs st_meet_of, defBody st_meet_of, defScope st_meet_of, [], []⟩
def dd_join_of : He.DefD := ⟨("join_of", none), "join_of", "join_of", defArgs st_join_of, defBody st_join_of, defScope st_join_of, [], []⟩
def dd_covers : He.DefD := ⟨("covers", none), "covers", "covers", defArgs st_covers, defBody st_covers, defScope st_covers, [], []⟩
def dd_bag : He.DefD := ⟨("_law_bag", none), "_law_bag", "_law_bag", defArgs st_bag, defBody st_bag, defScope st_bag, [], []⟩
def dd_take : He.DefD := ⟨("_law_take", none), "_law_take", "_law_take", defArgs st_take, defBody st_take, defScope st_take, [], []⟩
def dd_mixed : He.DefD := ⟨("_law_mixed", none), "_law_mixed", "_law_mixed", defArgs st_mixed, defBody st_mixed, defScope st_mixed, [], []⟩
def dd_truth : He.DefD := ⟨("_law_truth", none), "_law_truth", "_law_truth", defArgs st_truth, defBody st_truth, defScope st_truth, [], []⟩
def dd_set : He.DefD := ⟨("_law_set", none), "_law_set", "_law_set", defArgs st_set, defBody st_set, defScope st_set, [], []⟩
def dd_within : He.DefD := ⟨("_law_within", none), "_law_within", "_law_within", defArgs st_within, defBody st_within, defScope st_within, [], []⟩
def dd_power : He.DefD := ⟨("_law_power", none), "_law_power", "_law_power", defArgs st_power, defBody st_power, defScope st_power, [], []⟩
def dd_pair : He.DefD := ⟨("_law_pair", none), "_law_pair", "_law_pair", defArgs st_pair, defBody st_pair, defScope st_pair, [], []⟩
def dd_covered : He.DefD := ⟨("_law_covered", none), "_law_covered", "_law_covered", defArgs st_covered, defBody st_covered, defScope st_covered, [], []⟩
def dd_law : He.DefD := ⟨("law", none), "law", "law", defArgs st_law, defBody st_law, defScope st_law, [], []⟩
def fn : List He.DefD := [dd_is_at_most, dd_meet_of, dd_join_of, dd_covers, dd_bag, dd_take, dd_mixed, dd_truth, dd_set, dd_within, dd_power, dd_pair, dd_covered, dd_law]
def fa : List Ft := [.free "abs", .free "int", .free "isinstance", .free "len", .free "list", .free "range", .con "POWERS" c_POWERS, .glo "is_at_most", .glo "meet_of", .glo "join_of", .glo "covers", .glo "_law_bag", .glo "_law_take", .glo "_law_mixed", .glo "_law_truth", .glo "_law_set", .glo "_law_within", .glo "_law_power", .glo "_law_pair", .glo "_law_covered", .glo "law"]
theorem tx_mk {K : PySem.W.Frag} {h : Heap} {mg : Str → Option Value} (KX : K.In h) (G : h.Ns mainGlobals mg) (c : SaysM fa fn K) : Tx K mg :=
  ⟨He.free_ok KX G (c.fact 0 (f := .free "abs") rfl), He.free_ok KX G (c.fact 1 (f := .free "int") rfl), He.free_ok KX G (c.fact 2 (f := .free "isinstance") rfl), He.free_ok KX G (c.fact 3 (f := .free "len") rfl), He.free_ok KX G (c.fact 4 (f := .free "list") rfl), He.free_ok KX G (c.fact 5 (f := .free "range") rfl), con_ok KX G (c.fact 6 (f := .con "POWERS" c_POWERS) rfl), He.glo_ok KX G (c.fact 7 (f := .glo "is_at_most") rfl), He.glo_ok KX G (c.fact 8 (f := .glo "meet_of") rfl), He.glo_ok KX G (c.fact 9 (f := .glo "join_of") rfl), He.glo_ok KX G (c.fact 10 (f := .glo "covers") rfl), He.glo_ok KX G (c.fact 11 (f := .glo "_law_bag") rfl), He.glo_ok KX G (c.fact 12 (f := .glo "_law_take") rfl), He.glo_ok KX G (c.fact 13 (f := .glo "_law_mixed") rfl), He.glo_ok KX G (c.fact 14 (f := .glo "_law_truth") rfl), He.glo_ok KX G (c.fact 15 (f := .glo "_law_set") rfl), He.glo_ok KX G (c.fact 16 (f := .glo "_law_within") rfl), He.glo_ok KX G (c.fact 17 (f := .glo "_law_power") rfl), He.glo_ok KX G (c.fact 18 (f := .glo "_law_pair") rfl), He.glo_ok KX G (c.fact 19 (f := .glo "_law_covered") rfl), He.glo_ok KX G (c.fact 20 (f := .glo "law") rfl), c.def_ 0 (d := dd_is_at_most) rfl, c.def_ 1 (d := dd_meet_of) rfl, c.def_ 2 (d := dd_join_of) rfl, c.def_ 3 (d := dd_covers) rfl, c.def_ 4 (d := dd_bag) rfl, c.def_ 5 (d := dd_take) rfl, c.def_ 6 (d := dd_mixed) rfl, c.def_ 7 (d := dd_truth) rfl, c.def_ 8 (d := dd_set) rfl, c.def_ 9 (d := dd_within) rfl, c.def_ 10 (d := dd_power) rfl, c.def_ 11 (d := dd_pair) rfl, c.def_ 12 (d := dd_covered) rfl, c.def_ 13 (d := dd_law) rfl⟩
def loose0 : List PySem.Str := ["POWERS", "is_at_most", "meet_of", "join_of", "covers", "_law_bag", "_law_take", "_law_one", "_law_mixed", "_law_truth", "_law_set", "_law_within", "_law_power", "_law_pair", "_law_covered"]
def loose : List PySem.Str := loose0
abbrev R : PySem.W.OpenRow := PySem.W.OpenLaw.row PySem.Challenge.rw_foundtwice_k61_powers_as_sets
abbrev hk : PySem.W.Hook := hookM 4 fa fn
def ob (s : PySem.W.SharedT) : He.AlD := obsMG 4 fa fn (HandSHeadRun.getT s)
theorem ob_eq (s : PySem.W.SharedT) : ob s = hk.obs s.abs := obsMG_eq (HandSHeadRun.getT_eq s)
theorem run (w : World) : HandSHeadRun.RunEq R (PySem.W.view R.prog [18]) hk ob 800 loose w := by
  intro os
  kernel_rfl
end Row
open PySem PySem.W PySem.Calls PyProof.Rows
theorem PySem.Challenge.cw_foundtwice_k61_powers_as_sets_holds : PySem.Challenge.rw_foundtwice_k61_powers_as_sets.Holds := by
  w_on; o_law
  refine HandSHeadRun.head_any (r := OpenLaw.row PySem.Challenge.rw_foundtwice_k61_powers_as_sets) (q := view (OpenLaw.row PySem.Challenge.rw_foundtwice_k61_powers_as_sets).prog [18]) (H := Row.hk) (ob := Row.ob) (M := 800) (loose := Row.loose) (d := HandSHeadRun.topDef (OpenLaw.row PySem.Challenge.rw_foundtwice_k61_powers_as_sets).prog 18) (kwd := []) Row.ob_eq
    (by kernel_rfl) (fun s => by kernel_rfl) Row.run (by kernel_rfl) (by kernel_rfl) (by kernel_rfl) (by rfl) (by first | assumption | decide +kernel) (by decide +kernel) ⟨rfl, rfl, rfl, rfl, rfl, by decide +kernel⟩ ?hw ?hc
  case hw => w_witness2
  case hc =>
    refine L2.walk_ofE (l := PySem.Challenge.rw_foundtwice_k61_powers_as_sets) (n := 63) (k := 4) (x := "_law_script") (CX := L2.CX0) rfl (by decide) (by kernel_rfl) ⟨rfl, by decide, by decide⟩ ?F (fun _ _ _ _ z => z)
    intro w mg fa h Y G hmg0
    obtain ⟨K, KX, c⟩ := Y
    have hmg : mg ("law" : PySem.Str) = some (.ref fa) := by
      have e : (HandSHeadRun.topDef (OpenLaw.row PySem.Challenge.rw_foundtwice_k61_powers_as_sets).prog 18).name = ("law" : PySem.Str) := by kernel_rfl
      rw [← e]
      exact hmg0
    have T := Row.tx_mk KX G c
    obtain ⟨fd, F⟩ := T.d_law
    have e := hmg.symm.trans T.g_law
    cases e
    have b := L2.FunD.bindsA (ps := ["_law_script"]) F fun _ _ _ _ _ _ us hl => match us, hl with | [_], _ => rfl
    exact ⟨K, fd, DL.spD K DL.g_law, KX, fun s v => b s [v] rfl, fun H a ns hl _ hS => DL.law_end DL.law_true H a ns hl hS, fun base _ _ => Row.ok_law T F⟩
